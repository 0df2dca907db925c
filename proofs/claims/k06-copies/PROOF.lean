import PyProof.Rows.All
import Wide.All
import OpenK.AllK
import Wide.FinOn
import HandS.ForMost
import HandS.ForExc
import HandS.CallSlots
import HandS.IsInst
import HandS.TupAny
import HandS.Style
import HandS.Wide
import HandS.WideBits
import HandS.Flow
import KE.GoesEnum
import HandS.Zip
import HandS.ExcIs
import HandS.ExcField
import HandS.ExcInit
import KE.KStateDown
import Lean
import HandS.More
import HandS.Defaults
import HandS.Head0
import HandS.Head1
import HandS.Head2
import HandS.HeadEnd
import HandS.HeadHook1
import HandS.HeadHook2
import HandS.Conv
import HandS.NoneIn
import HandS.HeadWalk
import HandS.SortInts
import HandS.RaiseMore
import PySem.Challenge.RW_keysoverlap_k06_copies_judged
set_option Elab.async false
set_option linter.all false
set_option maxRecDepth 100000
section
set_option maxHeartbeats 2000000
namespace Py
open PySem PySem.Spec PyProof.Rows L2

/-! ## Values as trees -/
/-- the built-in types that programs name -/
inductive Ty where
  | int | bool | str | tup | lst | dct | non | verr
  deriving DecidableEq
def Ty.nm : Ty → String
  | .int => "int" | .bool => "bool" | .str => "str" | .tup => "tuple" | .lst => "list" | .dct => "dict" | .non => "NoneType" | .verr => "ValueError"
inductive D where
  | non | bl (b : Bool) | int (i : Int) | str (x : Str) | ty (n : Ty) | cl (x : Str)
  | tup (ds : List D) | lst (ds : List D) | frl (ds : List D) | exc (c f : Str) (d : D)
  deriving Inhabited

structure Gc where
  K : PySem.W.Frag
  mg : Str → Option Value

/-- a tuple (a list) that nobody writes any more -/
def TupAt (K : PySem.W.Frag) (F : Addr → Prop) (H : Hp) (a : Addr) (vs : List V) : Prop :=
  (F a ∧ H a = some (.tup vs)) ∨ ∀ H', SqT K H' a vs
def LstAt (K : PySem.W.Frag) (F : Addr → Prop) (H : Hp) (a : Addr) (vs : List V) : Prop :=
  (F a ∧ Rd H a (.lst vs)) ∨ ∀ H', SqL K H' a vs

/-- an exception object, tracked -/
def ExK (a : Addr) (cls : Value) (d : Option Addr) : HO := .ext fun h => ∃ oe vs, h.get? a = some oe ∧ Zc cls d oe ∧ oe.data = .fields vs

mutual
def Den (G : Gc) (F : Addr → Prop) (H : Hp) : D → V → Prop
  | .non, v => v = .non
  | .bl b, v => v = .bl b
  | .int i, v => v = .int i
  | .str x, v => v = .str x
  | .ty n, v => v = .ty n.nm
  | .cl x, v => ∃ C, v = .ref C ∧ G.mg x = some (.ref C)
  | .tup ds, v => ∃ a vs, v = .ref a ∧ TupAt G.K F H a vs ∧ DenL G F H ds vs
  | .lst ds, v => ∃ a vs, v = .ref a ∧ F a ∧ H a = some (.lst vs) ∧ DenL G F H ds vs
  | .frl ds, v => ∃ a vs, v = .ref a ∧ LstAt G.K F H a vs ∧ DenL G F H ds vs
  | .exc c f d, v => ∃ a C dd w, v = .ref a ∧ G.mg c = some (.ref C) ∧ F a ∧ H a = some (ExK a (.ref C) (some dd)) ∧ F dd ∧ H dd = some (.xd [(f, w)]) ∧ Den G F H d w
def DenL (G : Gc) (F : Addr → Prop) (H : Hp) : List D → List V → Prop
  | [], vs => vs = []
  | d :: ds, vs => ∃ v ws, vs = v :: ws ∧ Den G F H d v ∧ DenL G F H ds ws
end

def Le (F : Addr → Prop) (H : Hp) (F' : Addr → Prop) (H' : Hp) : Prop := ∀ a, F a → F' a ∧ H' a = H a
theorem Le.refl {F H} : Le F H F H := fun a h => ⟨h, rfl⟩
theorem Le.trans {F H F1 H1 F2 H2} (a : Le F H F1 H1) (b : Le F1 H1 F2 H2) : Le F H F2 H2 := fun x h =>
  ⟨(b x (a x h).1).1, (b x (a x h).1).2.trans (a x h).2⟩

theorem TupAt.mono {K F H F' H' a vs} (l : Le F H F' H') (h : TupAt K F H a vs) : TupAt K F' H' a vs := by
  rcases h with ⟨h1, h2⟩ | h
  · exact .inl ⟨(l a h1).1, (l a h1).2.trans h2⟩
  · exact .inr h
theorem LstAt.mono {K F H F' H' a vs} (l : Le F H F' H') (h : LstAt K F H a vs) : LstAt K F' H' a vs := by
  rcases h with ⟨h1, h2⟩ | h
  · refine .inl ⟨(l a h1).1, ?_⟩
    rcases h2 with h2 | ⟨o, h2⟩
    · exact .inl ((l a h1).2.trans h2)
    · exact .inr ⟨o, (l a h1).2.trans h2⟩
  · exact .inr h
theorem TupAt.sq {K F H a vs} (h : TupAt K F H a vs) : SqT K H a vs := by
  rcases h with ⟨_, h⟩ | h
  · exact .of h
  · exact h H
theorem LstAt.sq {K F H a vs} (h : LstAt K F H a vs) : SqL K H a vs := by
  rcases h with ⟨_, h⟩ | h
  · exact .inl h
  · exact h H

mutual
theorem Den.mono {G F H F' H'} (l : Le F H F' H') : ∀ {d : D} {v : V}, Den G F H d v → Den G F' H' d v
  | .non, v, h => by simpa only [Den] using h
  | .bl _, v, h => by simpa only [Den] using h
  | .int _, v, h => by simpa only [Den] using h
  | .str _, v, h => by simpa only [Den] using h
  | .ty _, v, h => by simpa only [Den] using h
  | .cl _, v, h => by simpa only [Den] using h
  | .tup ds, v, h => by
    simp only [Den] at h ⊢
    obtain ⟨a, vs, e, t, r⟩ := h
    exact ⟨a, vs, e, t.mono l, DenL.mono l r⟩
  | .lst ds, v, h => by
    simp only [Den] at h ⊢
    obtain ⟨a, vs, e, f, t, r⟩ := h
    exact ⟨a, vs, e, (l a f).1, (l a f).2.trans t, DenL.mono l r⟩
  | .frl ds, v, h => by
    simp only [Den] at h ⊢
    obtain ⟨a, vs, e, t, r⟩ := h
    exact ⟨a, vs, e, t.mono l, DenL.mono l r⟩
  | .exc c f d, v, h => by
    simp only [Den] at h ⊢
    obtain ⟨a, C, dd, w, e, m, fa, ha, fd, hd, r⟩ := h
    exact ⟨a, C, dd, w, e, m, (l a fa).1, (l a fa).2.trans ha, (l dd fd).1, (l dd fd).2.trans hd, Den.mono l r⟩
theorem DenL.mono {G F H F' H'} (l : Le F H F' H') : ∀ {ds : List D} {vs : List V}, DenL G F H ds vs → DenL G F' H' ds vs
  | [], vs, h => by simpa only [DenL] using h
  | d :: ds, vs, h => by
    simp only [DenL] at h ⊢
    obtain ⟨v, ws, e, r, t⟩ := h
    exact ⟨v, ws, e, Den.mono l r, DenL.mono l t⟩
end

theorem DenL.length {G F H} : ∀ {ds : List D} {vs : List V}, DenL G F H ds vs → vs.length = ds.length
  | [], vs, h => by simp only [DenL] at h; subst h; rfl
  | d :: ds, vs, h => by
    simp only [DenL] at h
    obtain ⟨v, ws, e, r, t⟩ := h
    subst e
    simp [DenL.length t]
theorem DenL.get {G F H} : ∀ {ds : List D} {vs : List V} {i : Nat} {d : D}, DenL G F H ds vs → ds[i]? = some d → ∃ v, vs[i]? = some v ∧ Den G F H d v
  | [], vs, i, d, h, e => by simp at e
  | d0 :: ds, vs, i, d, h, e => by
    simp only [DenL] at h
    obtain ⟨v, ws, q, r, t⟩ := h
    subst q
    cases i with
    | zero => simp at e; subst e; exact ⟨v, by simp, r⟩
    | succ i =>
      obtain ⟨u, h1, h2⟩ := DenL.get (i := i) t (by simpa using e)
      exact ⟨u, by simpa using h1, h2⟩
theorem DenL.append {G F H} : ∀ {ds es : List D} {vs ws : List V}, DenL G F H ds vs → DenL G F H es ws → DenL G F H (ds ++ es) (vs ++ ws)
  | [], es, vs, ws, h, k => by simp only [DenL] at h; subst h; exact k
  | d :: ds, es, vs, ws, h, k => by
    simp only [DenL] at h
    obtain ⟨v, us, q, r, t⟩ := h
    subst q
    simp only [List.cons_append, DenL]
    exact ⟨v, us ++ ws, rfl, r, DenL.append t k⟩
theorem DenL.one {G F H d v} (h : Den G F H d v) : DenL G F H [d] [v] := by
  simp only [DenL]; exact ⟨v, [], rfl, h, rfl⟩
theorem DenL.dropLast {G F H} : ∀ {ds : List D} {vs : List V}, DenL G F H ds vs → DenL G F H ds.dropLast vs.dropLast
  | [], vs, h => by simp only [DenL] at h; subst h; simp [DenL]
  | [d], vs, h => by
    simp only [DenL] at h
    obtain ⟨v, us, q, r, t⟩ := h
    subst t; subst q
    simp [DenL]
  | d :: e :: ds, vs, h => by
    have h' := h
    simp only [DenL] at h
    obtain ⟨v, us, q, r, v2, us2, q2, r2, t⟩ := h
    subst q2; subst q
    have ih := DenL.dropLast (ds := e :: ds) (vs := v2 :: us2) (by simp only [DenL]; exact ⟨v2, us2, rfl, r2, t⟩)
    show DenL G F H (d :: (e :: ds).dropLast) (v :: (v2 :: us2).dropLast)
    simp only [DenL]
    exact ⟨v, _, rfl, r, ih⟩
theorem DenL.set {G F H} : ∀ {ds : List D} {vs : List V} {d : D} {v : V} (i : Nat), DenL G F H ds vs → Den G F H d v → DenL G F H (ds.set i d) (vs.set i v)
  | [], vs, d, v, i, h, k => by simp only [DenL] at h; subst h; simp [DenL]
  | d0 :: ds, vs, d, v, 0, h, k => by
    simp only [DenL] at h
    obtain ⟨v0, us, q, r, t⟩ := h
    subst q
    simp only [List.set_cons_zero, DenL]
    exact ⟨v, us, rfl, k, t⟩
  | d0 :: ds, vs, d, v, i + 1, h, k => by
    simp only [DenL] at h
    obtain ⟨v0, us, q, r, t⟩ := h
    subst q
    simp only [List.set_cons_succ, DenL]
    exact ⟨v0, us.set i v, rfl, r, DenL.set i t k⟩
theorem DenL.drop {G F H} : ∀ {ds : List D} {vs : List V} (n : Nat), DenL G F H ds vs → DenL G F H (ds.drop n) (vs.drop n)
  | ds, vs, 0, h => by simpa using h
  | [], vs, n + 1, h => by simp only [DenL] at h; subst h; simp [DenL]
  | d :: ds, vs, n + 1, h => by
    simp only [DenL] at h
    obtain ⟨v0, us, q, r, t⟩ := h
    subst q
    simpa using DenL.drop n t
theorem DenL.take {G F H} : ∀ {ds : List D} {vs : List V} (n : Nat), DenL G F H ds vs → DenL G F H (ds.take n) (vs.take n)
  | ds, vs, 0, h => by simp [DenL]
  | [], vs, n + 1, h => by simp only [DenL] at h; subst h; simp [DenL]
  | d :: ds, vs, n + 1, h => by
    simp only [DenL] at h
    obtain ⟨v0, us, q, r, t⟩ := h
    subst q
    simp only [List.take_succ_cons, DenL]
    exact ⟨v0, us.take n, rfl, r, DenL.take n t⟩
theorem DenL.reverse {G F H} : ∀ {ds : List D} {vs : List V}, DenL G F H ds vs → DenL G F H ds.reverse vs.reverse
  | [], vs, h => by simp only [DenL] at h; subst h; simp [DenL]
  | d :: ds, vs, h => by
    simp only [DenL] at h
    obtain ⟨v0, us, q, r, t⟩ := h
    subst q
    simp only [List.reverse_cons]
    exact DenL.append (DenL.reverse t) (DenL.one r)

/-! ## Environments -/
inductive Slot where
  | un | v (d : D) | o (ds : List D) | p (ds : List D)
abbrev Env := List Slot
inductive Res (α : Type) where
  | ok (a : α) (r : Env) | err (e : D) (r : Env) | bad
def Slot.opn : Slot → Option (List D)
  | .o ds => some ds
  | .p ds => some ds
  | _ => none

/-- a frame: what is frozen at its entry, the heap there, what must stay as it is, the lists it was handed to change (slot, address) -/
structure Fr where
  F0 : Addr → Prop
  H0 : Hp
  Z : Addr → HO → Prop
  P : Nat → Addr → Prop

def SlotOk (G : Gc) (fr : Fr) (F : Addr → Prop) (H : Hp) (i : Nat) (x : Option (Option V)) : Slot → Prop
  | .un => True
  | .v d => ∃ v, x = some (some v) ∧ Den G F H d v
  | .o ds => ∃ a vs, x = some (some (V.ref a)) ∧ H a = some (.lst vs) ∧ ¬ F a ∧ (∀ o, ¬ fr.Z a o) ∧ DenL G F H ds vs
  | .p ds => ∃ a vs, x = some (some (V.ref a)) ∧ H a = some (.lst vs) ∧ ¬ F a ∧ (∀ o, ¬ fr.Z a o) ∧ DenL G F H ds vs ∧ fr.P i a

structure Ok (G : Gc) (fr : Fr) (F : Addr → Prop) (H : Hp) (σ : L2.St) (r : Env) : Prop where
  fin : ∀ a, F a → H a ≠ none
  grow : ∀ a, fr.F0 a → F a ∧ H a = fr.H0 a
  prot : ∀ a o, fr.Z a o → H a = some o ∧ ¬ F a
  len : σ.length = r.length
  sl : ∀ i s, r[i]? = some s → SlotOk G fr F H i σ[i]? s
  dis : ∀ (i j : Nat) (s t : Slot) (ds es : List D) (a : Addr), i ≠ j → r[i]? = some s → r[j]? = some t → s.opn = some ds → t.opn = some es → σ[i]? = some (some (V.ref a)) → σ[j]? = some (some (V.ref a)) → False
  par : ∀ (i : Nat) (a : Addr), fr.P i a → σ[i]? = some (some (V.ref a)) ∧ ∃ ds : List D, r[i]? = some (Slot.p ds)

section
variable {G : Gc} {fr : Fr} {F F' : Addr → Prop} {H H' : Hp} {σ : L2.St} {r : Env}

/-- more frozen, more on the heap, all that was there as it was -/
structure Nx (F : Addr → Prop) (H : Hp) (F' : Addr → Prop) (H' : Hp) : Prop where
  fin : ∀ a, F' a → H' a ≠ none
  le : ∀ a, F a → F' a
  born : ∀ a, F' a → F a ∨ H a = none
  same : ∀ a o, H a = some o → H' a = some o
theorem Nx.toLe (n : Nx F H F' H') (k : ∀ a, F a → H a ≠ none) : Le F H F' H' := fun a h => by
  refine ⟨n.le a h, ?_⟩
  cases e : H a with
  | none => exact absurd e (k a h)
  | some o => exact n.same a o e
theorem Ok.next (k : Ok G fr F H σ r) (n : Nx F H F' H') : Ok G fr F' H' σ r := by
  have l := n.toLe k.fin
  have nf : ∀ a o, H a = some o → ¬ F a → ¬ F' a := fun a o e hn z => by
    rcases n.born a z with z | z
    · exact hn z
    · rw [z] at e; cases e
  refine ⟨n.fin, fun a h => ?_, fun a o z => ?_, k.len, fun i s e => ?_, k.dis, k.par⟩
  · obtain ⟨h1, h2⟩ := k.grow a h
    exact ⟨n.le a h1, (l a h1).2.trans h2⟩
  · obtain ⟨h1, h2⟩ := k.prot a o z
    exact ⟨n.same a o h1, nf a o h1 h2⟩
  · have q := k.sl i s e
    cases s with
    | un => trivial
    | v d => obtain ⟨v, e1, e2⟩ := q; exact ⟨v, e1, e2.mono l⟩
    | o ds =>
      obtain ⟨a, vs, e1, e2, e3, e4, e5⟩ := q
      exact ⟨a, vs, e1, n.same a _ e2, nf a _ e2 e3, e4, e5.mono l⟩
    | p ds =>
      obtain ⟨a, vs, e1, e2, e3, e4, e5, e6⟩ := q
      exact ⟨a, vs, e1, n.same a _ e2, nf a _ e2 e3, e4, e5.mono l, e6⟩
/-- a new object, frozen at once -/
def Fadd (F : Addr → Prop) (p : Addr) : Addr → Prop := fun a => F a ∨ a = p
theorem Nx.frz (k : ∀ a, F a → H a ≠ none) {p : Addr} {o : HO} (hp : H p = none) : Nx F H (Fadd F p) (upd H p o) where
  fin := fun a h => by
    rcases h with h | h
    · have := k a h
      rw [upd_ne (fun z => by rw [z, hp] at this; exact this rfl)]
      exact this
    · subst h; rw [upd_same]; simp
  le := fun a h => .inl h
  born := fun a h => by
    rcases h with h | h
    · exact .inl h
    · subst h; exact .inr hp
  same := fun a o h => by rw [upd_ne (ne_of_none h hp)]; exact h
/-- a new object, not frozen -/
theorem Nx.open (k : ∀ a, F a → H a ≠ none) {p : Addr} {o : HO} (hp : H p = none) : Nx F H F (upd H p o) where
  fin := fun a h => by
    have := k a h
    rw [upd_ne (fun z => by rw [z, hp] at this; exact this rfl)]
    exact this
  le := fun a h => h
  born := fun a h => .inl h
  same := fun a o h => by rw [upd_ne (ne_of_none h hp)]; exact h
theorem Nx.refl (k : ∀ a, F a → H a ≠ none) : Nx F H F H := ⟨k, fun _ h => h, fun _ h => .inl h, fun _ _ h => h⟩
end

/-! ## What a piece of code is worth: denotations, and what a reading owes them -/
abbrev DenX (G : Gc) (F : Addr → Prop) (H : Hp) (x : D) (c : Value) (dd : Option Addr) : Prop :=
  ∃ n f d C a w, x = .exc n f d ∧ c = .ref C ∧ G.mg n = some (.ref C) ∧ dd = some a ∧ F a ∧ H a = some (.xd [(f, w)]) ∧ Den G F H d w
theorem DenX.mono {G F H F' H' x c dd} (l : Le F H F' H') (h : DenX G F H x c dd) : DenX G F' H' x c dd := by
  obtain ⟨n, f, d, C, a, w, e1, e2, e3, e4, e5, e6, e7⟩ := h
  exact ⟨n, f, d, C, a, w, e1, e2, e3, e4, (l a e5).1, (l a e5).2.trans e6, e7.mono l⟩

def Post {α β : Type} (G : Gc) (W : WX) (R : (Addr → Prop) → Hp → α → β → Prop) (fr : Fr) (F : Addr → Prop) (H : Hp) (σ : L2.St) (m : Res α) (Q : β → Hp → Prop) : Prop :=
  match m with
  | .ok x r' => ∀ v H' F', Ok G fr F' H' σ r' → Le F H F' H' → R F' H' x v → Q v H'
  | .err x r' => ∀ c dd H' F', Ok G fr F' H' σ r' → Le F H F' H' → DenX G F' H' x c dd → W c dd σ H'
  | .bad => False
/-- the reading that a denotation stands for -/
def tR {α β : Type} (G : Gc) (W : WX) (R : (Addr → Prop) → Hp → α → β → Prop) (d : Env → Res α) : L2.St → Hp → (β → Hp → Prop) → Prop := fun σ H Q =>
  ∃ fr F r, Ok G fr F H σ r ∧ Post G W R fr F H σ (d r) Q
abbrev RB : (Addr → Prop) → Hp → Bool → Bool → Prop := fun _ _ b c => c = b
def Res.bind {α β : Type} (m : Res α) (k : α → Env → Res β) : Res β := match m with
  | .ok a r => k a r
  | .err e r => .err e r
  | .bad => .bad
@[simp] theorem Res.bind_ok {α β : Type} (a : α) (r : Env) (k : α → Env → Res β) : (Res.ok a r).bind k = k a r := (rfl)
@[simp] theorem Res.bind_err {α β : Type} (e : D) (r : Env) (k : α → Env → Res β) : (Res.err e r : Res α).bind k = .err e r := (rfl)
@[simp] theorem Res.bind_bad {α β : Type} (k : α → Env → Res β) : (Res.bad : Res α).bind k = .bad := (rfl)

section
variable {G : Gc} {W : WX} {fr : Fr} {F F1 : Addr → Prop} {H H1 : Hp} {σ : L2.St} {r : Env} {α β γ δ : Type} {R : (Addr → Prop) → Hp → α → β → Prop} {R' : (Addr → Prop) → Hp → γ → δ → Prop}
theorem Post.le {m : Res α} {Q : β → Hp → Prop} (l : Le F H F1 H1) (h : Post G W R fr F H σ m Q) : Post G W R fr F1 H1 σ m Q := by
  cases m with
  | ok x r' => exact fun v H' F' k l' q => h v H' F' k (l.trans l') q
  | err x r' => exact fun c dd H' F' k l' q => h c dd H' F' k (l.trans l') q
  | bad => exact h
/-- one thing after another -/
theorem Post.seq {m : Res α} {k : α → Env → Res γ} {Q : δ → Hp → Prop} {Q1 : β → Hp → Prop} (h : Post G W R' fr F H σ (m.bind k) Q)
    (f : ∀ x r1 v H1 F1, Ok G fr F1 H1 σ r1 → Le F H F1 H1 → R F1 H1 x v → Post G W R' fr F1 H1 σ (k x r1) Q → Q1 v H1) : Post G W R fr F H σ m Q1 := by
  cases m with
  | ok x r' => exact fun v H' F' ok l q => f x r' v H' F' ok l q (Post.le l h)
  | err x r' => exact h
  | bad => exact h
end

/-- an expression, a test, an argument list, by what it is worth -/
def PX (X : Cx) (W : WX) (e : Expr) (d : Env → Res D) : Prop := PE X e (tR ⟨X.K, X.mg⟩ W (Den ⟨X.K, X.mg⟩) d)
def PB (X : Cx) (W : WX) (e : Expr) (d : Env → Res Bool) : Prop := PT X e (tR ⟨X.K, X.mg⟩ W RB d)
def PL (X : Cx) (W : WX) (es : List Expr) (d : Env → Res (List D)) : Prop := PA X es (tR ⟨X.K, X.mg⟩ W (DenL ⟨X.K, X.mg⟩) d)
/-- a list that is new: nobody else holds it -/
def DenN (G : Gc) (fr : Fr) (F : Addr → Prop) (H : Hp) (r : Env) (σ : L2.St) (ds : List D) (v : V) : Prop :=
  ∃ a vs, v = .ref a ∧ H a = some (.lst vs) ∧ ¬ F a ∧ (∀ o, ¬ fr.Z a o) ∧ DenL G F H ds vs ∧ ∀ (i : Nat) (s : Slot) (es : List D), r[i]? = some s → s.opn = some es → σ[i]? ≠ some (some (V.ref a))
/-- a value, or a list that is new -/
inductive Val where
  | v (d : D) | n (ds : List D)
def DenV (G : Gc) (fr : Fr) (F : Addr → Prop) (H : Hp) (r : Env) (σ : L2.St) : Val → V → Prop
  | .v d, v => Den G F H d v
  | .n ds, v => DenN G fr F H r σ ds v
def PostV (G : Gc) (W : WX) (fr : Fr) (F : Addr → Prop) (H : Hp) (σ : L2.St) (m : Res Val) (Q : VK) : Prop :=
  match m with
  | .ok x r' => ∀ v H' F', Ok G fr F' H' σ r' → Le F H F' H' → DenV G fr F' H' r' σ x v → Q v H'
  | .err x r' => ∀ c dd H' F', Ok G fr F' H' σ r' → Le F H F' H' → DenX G F' H' x c dd → W c dd σ H'
  | .bad => False
def tV (G : Gc) (W : WX) (d : Env → Res Val) : L2.St → Hp → VK → Prop := fun σ H Q => ∃ fr F r, Ok G fr F H σ r ∧ PostV G W fr F H σ (d r) Q
def PV (X : Cx) (W : WX) (e : Expr) (d : Env → Res Val) : Prop := PE X e (tV ⟨X.K, X.mg⟩ W d)
section
variable {G : Gc} {W : WX} {fr : Fr} {F F1 : Addr → Prop} {H H1 : Hp} {σ : L2.St} {r : Env} {α β : Type} {R : (Addr → Prop) → Hp → α → β → Prop}
theorem PostV.le {m : Res Val} {Q : VK} (l : Le F H F1 H1) (h : PostV G W fr F H σ m Q) : PostV G W fr F1 H1 σ m Q := by
  cases m with
  | ok x r' => exact fun v H' F' k l' q => h v H' F' k (l.trans l') q
  | err x r' => exact fun c dd H' F' k l' q => h c dd H' F' k (l.trans l') q
  | bad => exact h
/-- one thing, then one whose value may be new -/
theorem Post.seqV {m : Res α} {k : α → Env → Res Val} {Q : VK} {Q1 : β → Hp → Prop} (h : PostV G W fr F H σ (m.bind k) Q)
    (f : ∀ x r1 v H1 F1, Ok G fr F1 H1 σ r1 → Le F H F1 H1 → R F1 H1 x v → PostV G W fr F1 H1 σ (k x r1) Q → Q1 v H1) : Post G W R fr F H σ m Q1 := by
  cases m with
  | ok x r' => exact fun v H' F' ok l q => f x r' v H' F' ok l q (PostV.le l h)
  | err x r' => exact h
  | bad => exact h
theorem PostV.seq {γ δ : Type} {R' : (Addr → Prop) → Hp → γ → δ → Prop} {m : Res Val} {k : Val → Env → Res γ} {Q : δ → Hp → Prop} {Q1 : VK} (h : Post G W R' fr F H σ (m.bind k) Q)
    (f : ∀ x r1 v H1 F1, Ok G fr F1 H1 σ r1 → Le F H F1 H1 → DenV G fr F1 H1 r1 σ x v → Post G W R' fr F1 H1 σ (k x r1) Q → Q1 v H1) : PostV G W fr F H σ m Q1 := by
  cases m with
  | ok x r' => exact fun v H' F' ok l q => f x r' v H' F' ok l q (Post.le l h)
  | err x r' => exact h
  | bad => exact h
end

theorem pe_weak {X : Cx} {e : Expr} {t t' : TE} (h : PE X e t) (w : ∀ σ H Q, t' σ H Q → t σ H Q) : PE X e t' := ⟨fun pins s σ H Q I k => h.run pins s σ H Q I (w σ H Q k)⟩
theorem pt_weak {X : Cx} {e : Expr} {t t' : TT} (h : PT X e t) (w : ∀ σ H Q, t' σ H Q → t σ H Q) : PT X e t' := ⟨fun pins s σ H Q I k => h.run pins s σ H Q I (w σ H Q k)⟩
theorem pa_weak {X : Cx} {es : List Expr} {t t' : TA} (h : PA X es t) (w : ∀ σ H Q, t' σ H Q → t σ H Q) : PA X es t' := ⟨fun pos pins s σ H Q I k => h.run pos pins s σ H Q I (w σ H Q k)⟩
theorem ps_weak {X : Cx} {st : Stmt} {t t' : TS} (h : PS X st t) (w : ∀ D σ H, t' D σ H → t D σ H) : PS X st t' := ⟨fun pins s σ H D I k => h.run pins s σ H D I (w D σ H k)⟩
theorem pss_weak {X : Cx} {st : List Stmt} {t t' : TS} (h : PSs X st t) (w : ∀ D σ H, t' D σ H → t D σ H) : PSs X st t' := ⟨fun pins s σ H D I k => h.run pins s σ H D I (w D σ H k)⟩
theorem pi_weak {X : Cx} {tg e : Expr} {t t' : TI} (h : PI X tg e t) (w : ∀ σ H Q, t' σ H Q → t σ H Q) : PI X tg e t' := ⟨fun pins s σ H Q I k => h.run pins s σ H Q I (w σ H Q k)⟩

/-! ## Expressions -/
section
variable {X : Cx} {W : WX} {pos : Pos}
abbrev gc (X : Cx) : Gc := ⟨X.K, X.mg⟩

def dC (d : D) : Env → Res D := fun r => .ok d r
theorem x_const {e : Expr} {v : V} {d : D} (h : PE X e (tC v)) (hd : ∀ F H, Den (gc X) F H d v) : PX X W e (dC d) :=
  pe_weak h fun σ H Q ⟨fr, F, r, ok, p⟩ => p v H F ok Le.refl (hd F H)
theorem x_int {i : Int} {j pos} : PX X W (.Constant (.int i) j pos) (dC (.int i)) := x_const pe_int fun _ _ => by simp only [Den]
theorem x_bl {b : Bool} {j pos} : PX X W (.Constant (.bool b) j pos) (dC (.bl b)) := x_const pe_bl fun _ _ => by simp only [Den]
theorem x_non {j pos} : PX X W (.Constant .none j pos) (dC .non) := x_const pe_non fun _ _ => by simp only [Den]
theorem x_str {x : Str} {j pos} : PX X W (.Constant (.str x) j pos) (dC (.str x)) := x_const pe_str fun _ _ => by simp only [Den]
theorem x_cl {x : Str} {C : Addr} (hg : Gl X x) (hm : X.mg x = some (.ref C)) (hd : (x == ("__debug__" : Str)) = false := by decide) : PX X W (.Name x pos) (dC (.cl x)) :=
  x_const (pe_glob (v := .ref C) hg hm rfl hd) fun _ _ => by simp only [Den]; exact ⟨C, rfl, hm⟩
theorem x_ty {x : Str} (n : Ty) (hg : Gl X x) (hm : X.mg x = none) (hv : bootBuiltins x = some (.type n.nm)) (hn : x ≠ "__name__" := by decide) (hd : (x == ("__debug__" : Str)) = false := by decide) : PX X W (.Name x pos) (dC (.ty n)) :=
  x_const (pe_bltn (v := .ty n.nm) hg hm hv rfl hn hd) fun _ _ => by simp only [Den]

/-- a name: what an open list's slot holds is frozen by being looked at -/
def dVar (i : Nat) : Env → Res D := fun r => match r[i]? with
  | some (.v d) => .ok d r
  | some (.o ds) => .ok (.lst ds) (r.set i (.v (.lst ds)))
  | _ => .bad
theorem Ok.freeze {G fr F H σ r} (ok : Ok G fr F H σ r) {i : Nat} {ds : List D} {a : Addr} {vs : List V} (e : r[i]? = some (.o ds)) (h1 : σ[i]? = some (some (V.ref a))) (h2 : H a = some (.lst vs)) (h3 : ¬ F a) (h4 : ∀ o, ¬ fr.Z a o) (h5 : DenL G F H ds vs) :
    Ok G fr (Fadd F a) H σ (r.set i (.v (.lst ds))) := by
  have l : Le F H (Fadd F a) H := fun b h => ⟨.inl h, rfl⟩
  have hi : i < r.length := (List.getElem?_eq_some_iff.mp e).1
  have nf : ∀ (j : Nat) (s : Slot) (es : List D) (b : Addr), j ≠ i → r[j]? = some s → s.opn = some es → σ[j]? = some (some (V.ref b)) → ¬ F b → ¬ Fadd F a b := fun j s es b hj e1 e2 e3 hn z => by
    rcases z with z | z
    · exact hn z
    · subst z; exact ok.dis i j _ _ ds es b (Ne.symm hj) e e1 rfl e2 h1 e3
  refine ⟨fun b h => ?_, fun b h => ⟨.inl (ok.grow b h).1, (ok.grow b h).2⟩, fun b o z => ⟨(ok.prot b o z).1, fun q => ?_⟩, by rw [List.length_set]; exact ok.len, fun j s q => ?_, fun j k s t es fs b hjk q1 q2 o1 o2 q3 q4 => ?_, fun j b hp => ?_⟩
  · rcases h with h | h
    · exact ok.fin b h
    · subst h; rw [h2]; simp
  · rcases q with q | q
    · exact (ok.prot b o z).2 q
    · subst q; exact h4 o z
  · by_cases hj : j = i
    · subst hj
      rw [List.getElem?_set_self hi] at q; cases q
      refine ⟨.ref a, h1, ?_⟩
      simp only [Den]
      exact ⟨a, vs, rfl, .inr rfl, h2, h5.mono l⟩
    · rw [List.getElem?_set_ne (Ne.symm hj)] at q
      have z := ok.sl j s q
      cases s with
      | un => trivial
      | v d => obtain ⟨v, e1, e2⟩ := z; exact ⟨v, e1, e2.mono l⟩
      | o es =>
        obtain ⟨b, ws, e1, e2, e3, e4, e5⟩ := z
        exact ⟨b, ws, e1, e2, nf j _ es b hj q rfl e1 e3, e4, e5.mono l⟩
      | p es =>
        obtain ⟨b, ws, e1, e2, e3, e4, e5, e6⟩ := z
        exact ⟨b, ws, e1, e2, nf j _ es b hj q rfl e1 e3, e4, e5.mono l, e6⟩
  · have old : ∀ (j : Nat) (s : Slot) (es : List D), (r.set i (.v (.lst ds)))[j]? = some s → s.opn = some es → r[j]? = some s := fun j s es q o => by
      by_cases hj : j = i
      · subst hj; rw [List.getElem?_set_self hi] at q; cases q; cases o
      · rw [List.getElem?_set_ne (Ne.symm hj)] at q; exact q
    exact ok.dis j k s t es fs b hjk (old j s es q1 o1) (old k t fs q2 o2) o1 o2 q3 q4
  · obtain ⟨q1, es, q2⟩ := ok.par j b hp
    refine ⟨q1, es, ?_⟩
    rw [List.getElem?_set_ne (fun z => by subst z; rw [e] at q2; cases q2)]
    exact q2
theorem x_var (i : Nat) {x : Str} (h : PE X (.Name x pos) (tVar i)) : PX X W (.Name x pos) (dVar i) :=
  pe_weak h fun σ H Q ⟨fr, F, r, ok, p⟩ => by
    unfold dVar at p
    split at p
    · rename_i d e
      obtain ⟨v, h1, h2⟩ := ok.sl i _ e
      exact ⟨v, h1, p v H F ok Le.refl h2⟩
    · rename_i ds e
      obtain ⟨a, vs, h1, h2, h3, h4, h5⟩ := ok.sl i _ e
      refine ⟨.ref a, h1, p (.ref a) H (Fadd F a) (ok.freeze e h1 h2 h3 h4 h5) (fun b h => ⟨.inl h, rfl⟩) ?_⟩
      simp only [Den]
      exact ⟨a, vs, rfl, .inr rfl, h2, h5.mono fun b h => ⟨.inl h, rfl⟩⟩
    · exact p.elim
end
end Py
end

section
set_option maxHeartbeats 2000000
namespace Py
open PySem PySem.Spec PyProof.Rows L2

/-! ## Operators by values -/
section
variable {X : Cx} {W : WX} {pos : Pos}
/-- the answer z may be handed on -/
abbrev Giv (G : Gc) (F : Addr → Prop) (H : Hp) (z : D) (Q : VK) : Prop := ∀ w H' F', Nx F H F' H' → Den G F' H' z w → Q w H'
theorem Giv.same {G F H z Q} (k : ∀ a, F a → H a ≠ none) {w : V} (g : Giv G F H z Q) (d : Den G F H z w) : Q w H := g w H F (Nx.refl k) d
structure BOp (X : Cx) (o : Value → Value → Sem Value) (f : D → D → Option D) : Prop where
  ex : ∃ rr : R2, OpR X o rr ∧ ∀ F H x y z v u Q, (∀ a, F a → H a ≠ none) → Den (gc X) F H x v → Den (gc X) F H y u → f x y = some z → Giv (gc X) F H z Q → rr v u H Q
structure COp (X : Cx) (o : Value) (f : List D → Option D) : Prop where
  ex : ∃ rr, CallR X o rr ∧ ∀ F H xs z vs Q, (∀ a, F a → H a ≠ none) → DenL (gc X) F H xs vs → f xs = some z → Giv (gc X) F H z Q → rr vs H Q
structure IOp (X : Cx) (f : D → D → Option D) : Prop where
  ex : ∃ rr : R2, IxR X rr ∧ ∀ F H x y z v u Q, (∀ a, F a → H a ≠ none) → Den (gc X) F H x v → Den (gc X) F H y u → f x y = some z → Giv (gc X) F H z Q → rr v u H Q

def Res.of (o : Option D) (r : Env) : Res D := match o with
  | some z => .ok z r
  | none => .bad
@[simp] theorem Res.of_some (z : D) (r : Env) : Res.of (some z) r = .ok z r := (rfl)
@[simp] theorem Res.of_none (r : Env) : Res.of none r = .bad := (rfl)
theorem post_of {G W fr F H σ r o} {Q : VK} (ok : Ok G fr F H σ r) (p : Post G W (Den G) fr F H σ (Res.of o r) Q) : ∃ z, o = some z ∧ Giv G F H z Q := by
  cases o with
  | none => exact p.elim
  | some z => exact ⟨z, rfl, fun w H' F' n d => p w H' F' (ok.next n) (n.toLe ok.fin) d⟩

def dBin (f : D → D → Option D) (da db : Env → Res D) : Env → Res D := fun r => (da r).bind fun x r => (db r).bind fun y r => Res.of (f x y) r
theorem bin_rd {f : D → D → Option D} {da db : Env → Res D} {rr : R2} (h : ∀ F H x y z v u Q, (∀ a, F a → H a ≠ none) → Den (gc X) F H x v → Den (gc X) F H y u → f x y = some z → Giv (gc X) F H z Q → rr v u H Q)
    {σ : L2.St} {H : Hp} {Q : VK} (p : tR (gc X) W (Den (gc X)) (dBin f da db) σ H Q) : tOp rr (tR (gc X) W (Den (gc X)) da) (tR (gc X) W (Den (gc X)) db) σ H Q := by
  obtain ⟨fr, F, r, ok, p⟩ := p
  refine ⟨fr, F, r, ok, Post.seq p fun x r1 v H1 F1 ok1 l1 q1 p1 => ⟨fr, F1, r1, ok1, Post.seq p1 fun y r2 u H2 F2 ok2 l2 q2 p2 => ?_⟩⟩
  obtain ⟨z, e, g⟩ := post_of ok2 p2
  exact h F2 H2 x y z v u Q ok2.fin (q1.mono l2) q2 e g
theorem x_bin {op : Operator} {a b : Expr} {f : D → D → Option D} {da db : Env → Res D} (ho : BOp X (binaryOp op) f) (ha : PX X W a da) (hb : PX X W b db) : PX X W (.BinOp a op b pos) (dBin f da db) := by
  obtain ⟨rr, h1, h2⟩ := ho.ex
  exact pe_weak (pe_op h1 ha hb) fun σ H Q p => bin_rd h2 p
theorem x_cmp {op : CmpOp} {a b : Expr} {f : D → D → Option D} {da db : Env → Res D} (ho : BOp X (compareOp op) f) (ha : PX X W a da) (hb : PX X W b db) (hm : behindInMarks op b = false) : PX X W (.Compare a [op] [b] pos) (dBin f da db) := by
  obtain ⟨rr, h1, h2⟩ := ho.ex
  exact pe_weak (pe_cmpR h1 ha hb hm) fun σ H Q p => bin_rd h2 p
/-- a value that is a bool, as a test -/
def dTst (d : Env → Res D) : Env → Res Bool := fun r => (d r).bind fun x r => match x with
  | .bl b => .ok b r
  | _ => .bad
theorem tst_rd {G : Gc} {d : Env → Res D} {σ : L2.St} {H : Hp} {Q : Bool → Hp → Prop} (p : tR G W RB (dTst d) σ H Q) : tR G W (Den G) d σ H (fun x H' => ∃ k, x = .bl k ∧ Q k H') := by
  obtain ⟨fr, F, r, ok, p⟩ := p
  refine ⟨fr, F, r, ok, Post.seq p fun x r1 v H1 F1 ok1 l1 q1 p1 => ?_⟩
  cases x with
  | bl b =>
    simp only [Den] at q1
    exact ⟨b, q1, p1 b H1 F1 ok1 Le.refl rfl⟩
  | _ => exact (show False from p1).elim
theorem b_cmp {op : CmpOp} {a b : Expr} {f : D → D → Option D} {da db : Env → Res D} (ho : BOp X (compareOp op) f) (ha : PX X W a da) (hb : PX X W b db) (hm : behindInMarks op b = false) : PB X W (.Compare a [op] [b] pos) (dTst (dBin f da db)) := by
  obtain ⟨rr, h1, h2⟩ := ho.ex
  refine pt_weak (pt_cmpR h1 ha hb hm) fun σ H Q p => ?_
  exact bin_rd h2 (tst_rd p)
/-- any other expression as a test: a bool -/
theorem b_val {e : Expr} {d : Env → Res D} (h : PX X W e d) (he : ∀ whole, isTrue e X.env whole = (do let v ← whole; standAt e.pos; holding [v] (truthy v)) := by intro _; rfl) : PB X W e (dTst d) :=
  pt_weak (pt_val h he) fun σ H Q p => tst_rd p
/-- .. by its truth -/
def fTru : D → Option Bool
  | .non => some false
  | .bl b => some b
  | .int i => some (i != 0)
  | .str y => if y.length ≤ 16777216 then some ((y.length : Int) != 0) else none
  | .tup ds => some (!ds.isEmpty)
  | .lst ds => some (!ds.isEmpty)
  | .frl ds => some (!ds.isEmpty)
  | _ => none
theorem line_eq : sizeLine = 16777216 := sizeLine_eq
theorem emp_of {G F H} {ds : List D} {vs : List V} (h : DenL G F H ds vs) : (!ds.isEmpty) = !vs.isEmpty := by
  have := h.length
  cases ds <;> cases vs <;> simp_all
theorem tru_of {F H x k v} (d : Den (gc X) F H x v) (e : fTru x = some k) : TruV X.K v H k := by
  cases x with
  | non => simp only [Den] at d; subst d; cases e; rfl
  | bl b => simp only [Den] at d; subst d; cases e; rfl
  | int i => simp only [Den] at d; subst d; cases e; rfl
  | str y =>
    simp only [Den] at d; subst d
    simp only [fTru] at e
    split at e
    · rename_i h; cases e; exact ⟨by rw [line_eq]; exact h, rfl⟩
    · cases e
  | tup ds => simp only [Den] at d; obtain ⟨a, vs, rfl, t, l⟩ := d; cases e; exact .inr (.inl ⟨vs, t.sq, emp_of l⟩)
  | lst ds => simp only [Den] at d; obtain ⟨a, vs, rfl, f, t, l⟩ := d; cases e; exact .inl ⟨vs, .of t, emp_of l⟩
  | frl ds => simp only [Den] at d; obtain ⟨a, vs, rfl, t, l⟩ := d; cases e; exact .inl ⟨vs, t.sq, emp_of l⟩
  | _ => cases e
def dTru (d : Env → Res D) : Env → Res Bool := fun r => (d r).bind fun x r => match fTru x with
  | some b => .ok b r
  | none => .bad
theorem b_tru {e : Expr} {d : Env → Res D} (h : PX X W e d) (he : ∀ whole, isTrue e X.env whole = (do let v ← whole; standAt e.pos; holding [v] (truthy v)) := by intro _; rfl) : PB X W e (dTru d) :=
  pt_weak (pt_truth h he) fun σ H Q p => by
    obtain ⟨fr, F, r, ok, p⟩ := p
    refine ⟨fr, F, r, ok, Post.seq p fun x r1 v H1 F1 ok1 l1 q1 p1 => ?_⟩
    cases e : fTru x with
    | none => rw [e] at p1; exact (show False from p1).elim
    | some b =>
      rw [e] at p1
      exact ⟨b, tru_of q1 e, p1 b H1 F1 ok1 Le.refl rfl⟩
/-! and, or, not -/
def dNot (d : Env → Res Bool) : Env → Res Bool := fun r => (d r).bind fun b r => .ok (!b) r
theorem b_not {a : Expr} {d : Env → Res Bool} (h : PB X W a d) : PB X W (.UnaryOp .Not a pos) (dNot d) :=
  pt_weak (pt_not h) fun σ H Q ⟨fr, F, r, ok, p⟩ => ⟨fr, F, r, ok, Post.seq p fun x r1 v H1 F1 ok1 l1 q1 p1 => by
    have q1 : v = x := q1
    subst q1
    exact p1 _ H1 F1 ok1 Le.refl rfl⟩
def PBw (X : Cx) (W : WX) (e : Expr) (d : Env → Res Bool) : Prop := PW X e (tR ⟨X.K, X.mg⟩ W RB d)
theorem pw_weak {X : Cx} {e : Expr} {t t' : TT} (h : PW X e t) (w : ∀ σ H Q, t' σ H Q → t σ H Q) : PW X e t' := ⟨fun wh pins s σ H Q I k => h.run wh pins s σ H Q I (w σ H Q k)⟩
theorem PBw.b {e : Expr} {d : Env → Res Bool} (h : PBw X W e d) : PB X W e d := PW.pt h
def dAnd (d1 d2 : Env → Res Bool) : Env → Res Bool := fun r => (d1 r).bind fun b r => if b = true then d2 r else .ok false r
def dOr (d1 d2 : Env → Res Bool) : Env → Res Bool := fun r => (d1 r).bind fun b r => if b = true then .ok true r else d2 r
theorem w_and1 {a : Expr} {d : Env → Res Bool} (h : PB X W a d) : PBw X W (.BoolOp .And [a] pos) d := pw_and1 h
theorem w_or1 {a : Expr} {d : Env → Res Bool} (h : PB X W a d) : PBw X W (.BoolOp .Or [a] pos) d := pw_or1 h
theorem w_and {a b : Expr} {rest : List Expr} {d1 d2 : Env → Res Bool} (h1 : PB X W a d1) (h2 : PBw X W (.BoolOp .And (b :: rest) pos) d2) : PBw X W (.BoolOp .And (a :: b :: rest) pos) (dAnd d1 d2) :=
  pw_weak (pw_and h1 h2) fun σ H Q ⟨fr, F, r, ok, p⟩ => ⟨fr, F, r, ok, Post.seq p fun x r1 v H1 F1 ok1 l1 q1 p1 => by
    have q1 : v = x := q1
    subst q1
    cases v with
    | true => exact ⟨fr, F1, r1, ok1, p1⟩
    | false => exact p1 _ H1 F1 ok1 Le.refl rfl⟩
theorem w_or {a b : Expr} {rest : List Expr} {d1 d2 : Env → Res Bool} (h1 : PB X W a d1) (h2 : PBw X W (.BoolOp .Or (b :: rest) pos) d2) : PBw X W (.BoolOp .Or (a :: b :: rest) pos) (dOr d1 d2) :=
  pw_weak (pw_or h1 h2) fun σ H Q ⟨fr, F, r, ok, p⟩ => ⟨fr, F, r, ok, Post.seq p fun x r1 v H1 F1 ok1 l1 q1 p1 => by
    have q1 : v = x := q1
    subst q1
    cases v with
    | true => exact p1 _ H1 F1 ok1 Le.refl rfl
    | false => exact ⟨fr, F1, r1, ok1, p1⟩⟩
/-! .. as values -/
def dAndV (d1 d2 : Env → Res D) : Env → Res D := fun r => (d1 r).bind fun x r => match fTru x with
  | some true => d2 r
  | some false => .ok x r
  | none => .bad
def dOrV (d1 d2 : Env → Res D) : Env → Res D := fun r => (d1 r).bind fun x r => match fTru x with
  | some true => .ok x r
  | some false => d2 r
  | none => .bad
def dNotV (d : Env → Res D) : Env → Res D := fun r => (d r).bind fun x r => match fTru x with
  | some b => .ok (.bl (!b)) r
  | none => .bad
theorem x_one {op} {a : Expr} {d : Env → Res D} (h : PX X W a d) : PX X W (.BoolOp op [a] pos) d := pe_one h
theorem x_and {a b : Expr} {rest : List Expr} {d1 d2 : Env → Res D} (h1 : PX X W a d1) (h2 : PX X W (.BoolOp .And (b :: rest) pos) d2) : PX X W (.BoolOp .And (a :: b :: rest) pos) (dAndV d1 d2) :=
  pe_weak (pe_andT h1 h2) fun σ H Q ⟨fr, F, r, ok, p⟩ => ⟨fr, F, r, ok, Post.seq p fun x r1 v H1 F1 ok1 l1 q1 p1 => by
    cases e : fTru x with
    | none => rw [e] at p1; exact (show False from p1).elim
    | some k =>
      rw [e] at p1
      refine ⟨k, tru_of q1 e, ?_⟩
      cases k with
      | true => exact ⟨fr, F1, r1, ok1, p1⟩
      | false => exact p1 v H1 F1 ok1 Le.refl q1⟩
theorem x_or {a b : Expr} {rest : List Expr} {d1 d2 : Env → Res D} (h1 : PX X W a d1) (h2 : PX X W (.BoolOp .Or (b :: rest) pos) d2) : PX X W (.BoolOp .Or (a :: b :: rest) pos) (dOrV d1 d2) :=
  pe_weak (pe_orT h1 h2) fun σ H Q ⟨fr, F, r, ok, p⟩ => ⟨fr, F, r, ok, Post.seq p fun x r1 v H1 F1 ok1 l1 q1 p1 => by
    cases e : fTru x with
    | none => rw [e] at p1; exact (show False from p1).elim
    | some k =>
      rw [e] at p1
      refine ⟨k, tru_of q1 e, ?_⟩
      cases k with
      | true => exact p1 v H1 F1 ok1 Le.refl q1
      | false => exact ⟨fr, F1, r1, ok1, p1⟩⟩
theorem x_not {a : Expr} {d : Env → Res D} (h : PX X W a d) : PX X W (.UnaryOp .Not a pos) (dNotV d) :=
  pe_weak (pe_notT h) fun σ H Q ⟨fr, F, r, ok, p⟩ => ⟨fr, F, r, ok, Post.seq p fun x r1 v H1 F1 ok1 l1 q1 p1 => by
    cases e : fTru x with
    | none => rw [e] at p1; exact (show False from p1).elim
    | some k =>
      rw [e] at p1
      exact ⟨k, tru_of q1 e, p1 (.bl (!k)) H1 F1 ok1 Le.refl (by simp only [Den])⟩⟩
/-- a if t else b -/
def dIfE (t : Env → Res Bool) (a b : Env → Res D) : Env → Res D := fun r => (t r).bind fun c r => if c = true then a r else b r
theorem x_if {c a b : Expr} {t : Env → Res Bool} {d1 d2 : Env → Res D} (h : PB X W c t) (h1 : PX X W a d1) (h2 : PX X W b d2) : PX X W (.IfExp c a b pos) (dIfE t d1 d2) :=
  pe_weak (pe_ifExp h h1 h2) fun σ H Q ⟨fr, F, r, ok, p⟩ => ⟨fr, F, r, ok, Post.seq p fun x r1 v H1 F1 ok1 l1 q1 p1 => by
    have q1 : v = x := q1
    subst q1
    cases v with
    | true => exact ⟨fr, F1, r1, ok1, p1⟩
    | false => exact ⟨fr, F1, r1, ok1, p1⟩⟩

/-! ## Arguments, displays -/
def dNil : Env → Res (List D) := fun r => .ok [] r
def dCons (d : Env → Res D) (ds : Env → Res (List D)) : Env → Res (List D) := fun r => (d r).bind fun x r => (ds r).bind fun xs r => .ok (x :: xs) r
theorem l_nil : PL X W [] dNil := pa_weak pa_nil fun σ H Q ⟨fr, F, r, ok, p⟩ => p [] H F ok Le.refl (by simp only [DenL])
theorem l_cons {e : Expr} {es : List Expr} {d : Env → Res D} {ds : Env → Res (List D)} (h1 : PX X W e d) (h2 : PL X W es ds) (hs : starEach (e :: es) X.env = (false, eval e X.env) :: starEach es X.env := by rfl) : PL X W (e :: es) (dCons d ds) :=
  pa_weak (pa_cons h1 h2 hs) fun σ H Q ⟨fr, F, r, ok, p⟩ => ⟨fr, F, r, ok, Post.seq p fun x r1 v H1 F1 ok1 l1 q1 p1 => ⟨fr, F1, r1, ok1, Post.seq p1 fun y r2 u H2 F2 ok2 l2 q2 p2 =>
    p2 (v :: u) H2 F2 ok2 Le.refl (by simp only [DenL]; exact ⟨v, u, rfl, q1.mono l2, q2⟩)⟩⟩
def dTup (ds : Env → Res (List D)) : Env → Res D := fun r => (ds r).bind fun xs r => if xs.length ≤ 16777216 then .ok (.tup xs) r else .bad
theorem den_newt {G F H} {ds : List D} {vs : List V} {p : Addr} (hp : H p = none) (k : ∀ a, F a → H a ≠ none) (h : DenL G F H ds vs) : Den G (Fadd F p) (upd H p (.tup vs)) (.tup ds) (.ref p) := by
  simp only [Den]
  exact ⟨p, vs, rfl, .inl ⟨.inr rfl, upd_same⟩, h.mono ((Nx.frz k hp).toLe k)⟩
theorem den_newl {G F H} {ds : List D} {vs : List V} {p : Addr} (hp : H p = none) (k : ∀ a, F a → H a ≠ none) (h : DenL G F H ds vs) : Den G (Fadd F p) (upd H p (.lst vs)) (.lst ds) (.ref p) := by
  simp only [Den]
  exact ⟨p, vs, rfl, .inr rfl, upd_same, h.mono ((Nx.frz k hp).toLe k)⟩
theorem x_tup {es : List Expr} {k : Nat} {ds : Env → Res (List D)} (h : PL X W es ds) : PX X W (.Tuple es k pos) (dTup ds) :=
  pe_weak (pe_tup h) fun σ H Q ⟨fr, F, r, ok, p⟩ => ⟨fr, F, r, ok, Post.seq p fun xs r1 vs H1 F1 ok1 l1 q1 p1 => by
    split at p1
    · rename_i hl
      refine ⟨by rw [q1.length, line_eq]; exact hl, fun a ha => p1 _ _ (Fadd F1 a) (ok1.next (Nx.frz ok1.fin ha)) ((Nx.frz ok1.fin ha).toLe ok1.fin) (den_newt ha ok1.fin q1)⟩
    · exact (show False from p1).elim⟩
/-- a new list, not yet held by anybody -/
def dLst (ds : Env → Res (List D)) : Env → Res Val := fun r => (ds r).bind fun xs r => if xs.length ≤ 16777216 then .ok (.n xs) r else .bad
theorem Ok.opn_at {G fr F H σ r} (ok : Ok G fr F H σ r) {i : Nat} {s : Slot} {es : List D} {a : Addr} (e : r[i]? = some s) (o : s.opn = some es) (h : σ[i]? = some (some (V.ref a))) : ∃ vs, H a = some (.lst vs) ∧ ¬ F a ∧ (∀ o, ¬ fr.Z a o) ∧ DenL G F H es vs := by
  have q := ok.sl i s e
  cases s with
  | un => cases o
  | v d => cases o
  | o ds =>
    cases o
    obtain ⟨b, vs, e1, e2, e3, e4, e5⟩ := q
    rw [h] at e1; cases e1
    exact ⟨vs, e2, e3, e4, e5⟩
  | p ds =>
    cases o
    obtain ⟨b, vs, e1, e2, e3, e4, e5, e6⟩ := q
    rw [h] at e1; cases e1
    exact ⟨vs, e2, e3, e4, e5⟩
theorem den_nn {G fr F H σ r} (ok : Ok G fr F H σ r) {ds : List D} {vs : List V} {p : Addr} (hp : H p = none) (h : DenL G F H ds vs) : DenN G fr F (upd H p (.lst vs)) r σ ds (.ref p) := by
  refine ⟨p, vs, rfl, upd_same, fun z => absurd hp (ok.fin p z), fun o z => ?_, h.mono ((Nx.open ok.fin hp).toLe ok.fin), fun i s es e1 e2 e3 => ?_⟩
  · have := (ok.prot p o z).1; rw [hp] at this; cases this
  · obtain ⟨vs, z, _⟩ := ok.opn_at e1 e2 e3
    rw [hp] at z; cases z
theorem v_lst {es : List Expr} {ds : Env → Res (List D)} (h : PL X W es ds) : PV X W (.List es pos) (dLst ds) :=
  pe_weak (pe_lst h) fun σ H Q ⟨fr, F, r, ok, p⟩ => ⟨fr, F, r, ok, Post.seqV p fun xs r1 vs H1 F1 ok1 l1 q1 p1 => by
    split at p1
    · rename_i hl
      exact ⟨by rw [q1.length, line_eq]; exact hl, fun a ha => p1 _ _ F1 (ok1.next (Nx.open ok1.fin ha)) ((Nx.open ok1.fin ha).toLe ok1.fin) (den_nn ok1 ha q1)⟩
    · exact (show False from p1).elim⟩
/-- .. held -/
def dHold (d : Env → Res Val) : Env → Res D := fun r => (d r).bind fun x r => match x with
  | .v d => .ok d r
  | .n ds => .ok (.lst ds) r
theorem Ok.frzN {G fr F H σ r ds v} (ok : Ok G fr F H σ r) (h : DenN G fr F H r σ ds v) : ∃ F', Ok G fr F' H σ r ∧ Le F H F' H ∧ Den G F' H (.lst ds) v := by
  obtain ⟨a, vs, rfl, h1, h2, h3, h4, h5⟩ := h
  have l : Le F H (Fadd F a) H := fun b h => ⟨.inl h, rfl⟩
  have nf : ∀ (i : Nat) (s : Slot) (es : List D) (b : Addr), r[i]? = some s → s.opn = some es → σ[i]? = some (some (V.ref b)) → ¬ Fadd F a b := fun i s es b e1 e2 e3 z => by
    obtain ⟨_, _, z1, _⟩ := ok.opn_at e1 e2 e3
    rcases z with z | z
    · exact z1 z
    · subst z; exact h5 i s es e1 e2 e3
  refine ⟨Fadd F a, ⟨fun b hb => ?_, fun b hb => ⟨.inl (ok.grow b hb).1, (ok.grow b hb).2⟩, fun b o z => ⟨(ok.prot b o z).1, fun q => ?_⟩, ok.len, fun i s e => ?_, ok.dis, ok.par⟩, l, ?_⟩
  · rcases hb with hb | hb
    · exact ok.fin b hb
    · subst hb; rw [h1]; simp
  · rcases q with q | q
    · exact (ok.prot b o z).2 q
    · subst q; exact h3 o z
  · have z := ok.sl i s e
    cases s with
    | un => trivial
    | v d => obtain ⟨v, e1, e2⟩ := z; exact ⟨v, e1, e2.mono l⟩
    | o es =>
      obtain ⟨b, ws, e1, e2, e3, e4, e5⟩ := z
      exact ⟨b, ws, e1, e2, nf i _ es b e rfl e1, e4, e5.mono l⟩
    | p es =>
      obtain ⟨b, ws, e1, e2, e3, e4, e5, e6⟩ := z
      exact ⟨b, ws, e1, e2, nf i _ es b e rfl e1, e4, e5.mono l, e6⟩
  · simp only [Den]
    exact ⟨a, vs, rfl, .inr rfl, h1, h4.mono l⟩
theorem x_hold {e : Expr} {d : Env → Res Val} (h : PV X W e d) : PX X W e (dHold d) := pe_weak h fun σ H Q ⟨fr, F, r, ok, p⟩ => ⟨fr, F, r, ok, PostV.seq p fun x r1 v H1 F1 ok1 l1 q1 p1 => by
  cases x with
  | v d => exact p1 v H1 F1 ok1 Le.refl q1
  | n ds =>
    obtain ⟨F2, ok2, l2, q2⟩ := ok1.frzN q1
    exact p1 v H1 F2 ok2 l2 q2⟩
/-- a value that is nobody's new list -/
def dVal (d : Env → Res D) : Env → Res Val := fun r => (d r).bind fun x r => .ok (.v x) r
theorem v_val {e : Expr} {d : Env → Res D} (h : PX X W e d) : PV X W e (dVal d) := pe_weak h fun σ H Q ⟨fr, F, r, ok, p⟩ => ⟨fr, F, r, ok, Post.seqV p fun x r1 v H1 F1 ok1 l1 q1 p1 => p1 v H1 F1 ok1 Le.refl q1⟩
theorem v_const {e : Expr} {d : D} (h : PX X W e (dC d)) : PV X W e (dVal (dC d)) := v_val h

/-! ## Built-in calls, subscripts -/
def dCal (f : List D → Option D) (ds : Env → Res (List D)) : Env → Res D := fun r => (ds r).bind fun xs r => Res.of (f xs) r
theorem cal_rd {f : List D → Option D} {ds : Env → Res (List D)} {rr : List V → Hp → VK → Prop} (h : ∀ F H xs z vs Q, (∀ a, F a → H a ≠ none) → DenL (gc X) F H xs vs → f xs = some z → Giv (gc X) F H z Q → rr vs H Q)
    {σ : L2.St} {H : Hp} {Q : VK} (p : tR (gc X) W (Den (gc X)) (dCal f ds) σ H Q) : tCB rr (tR (gc X) W (DenL (gc X)) ds) σ H Q := by
  obtain ⟨fr, F, r, ok, p⟩ := p
  refine ⟨fr, F, r, ok, Post.seq p fun xs r1 vs H1 F1 ok1 l1 q1 p1 => ?_⟩
  obtain ⟨z, e, g⟩ := post_of ok1 p1
  exact h F1 H1 xs z vs Q ok1.fin q1 e g
theorem x_callB {id : String} {x : Str} {p : Pos} {e : Expr} {es : List Expr} {f : List D → Option D} {ds : Env → Res (List D)} (ho : COp X (.builtin id) f) (hg : Gl X x) (hm : X.mg x = none) (hv : bootBuiltins x = some (.builtin id)) (ha : PL X W (e :: es) ds) (hn : x ≠ "__name__" := by decide) (hdb : (x == ("__debug__" : Str)) = false := by decide)
    (he : starEach (e :: es) X.env = (false, eval e X.env) :: starEach es X.env := by rfl) (hpl : (backTo pos (starEach es X.env)).any (·.1) = false := by rfl) : PX X W (.Call (.Name x p) (e :: es) [] pos) (dCal f ds) := by
  obtain ⟨rr, h1, h2⟩ := ho.ex
  exact pe_weak (pe_callB h1 hg hm hv ha hn hdb he hpl) fun σ H Q p => cal_rd h2 p
theorem x_callT {T : String} {x : Str} {p : Pos} {e : Expr} {es : List Expr} {f : List D → Option D} {ds : Env → Res (List D)} (ho : COp X (.type T) f) (hg : Gl X x) (hm : X.mg x = none) (hv : bootBuiltins x = some (.type T)) (ha : PL X W (e :: es) ds) (hn : x ≠ "__name__" := by decide) (hdb : (x == ("__debug__" : Str)) = false := by decide)
    (he : starEach (e :: es) X.env = (false, eval e X.env) :: starEach es X.env := by rfl) (hpl : (backTo pos (starEach es X.env)).any (·.1) = false := by rfl) : PX X W (.Call (.Name x p) (e :: es) [] pos) (dCal f ds) := by
  obtain ⟨rr, h1, h2⟩ := ho.ex
  exact pe_weak (pe_callTy h1 hg hm hv ha hn hdb he hpl) fun σ H Q p => cal_rd h2 p
theorem x_ix {a b : Expr} {f : D → D → Option D} {da db : Env → Res D} (ho : IOp X f) (ha : PX X W a da) (hb : PX X W b db) (hs : PlainIx b := by exact fun _ _ => rfl) : PX X W (.Subscript a b pos) (dBin f da db) := by
  obtain ⟨rr, h1, h2⟩ := ho.ex
  exact pe_weak (pe_ix h1 ha hb hs) fun σ H Q p => bin_rd h2 p
end
end Py
end

section
set_option maxHeartbeats 2000000
namespace Py
open PySem PySem.Spec PyProof.Rows L2

/-! ## Slots stored -/
section
variable {G : Gc} {fr : Fr} {F : Addr → Prop} {H : Hp} {σ : L2.St} {r : Env}
theorem Ok.slotlen (ok : Ok G fr F H σ r) {i : Nat} {x : Option V} (h : σ[i]? = some x) : i < r.length := by
  rw [← ok.len]; exact (List.getElem?_eq_some_iff.mp h).1
/-- a slot's content is forgotten -/
theorem Ok.unset (ok : Ok G fr F H σ r) {i : Nat} (np : ∀ ds, r[i]? ≠ some (.p ds)) : Ok G fr F H σ (r.set i .un) := by
  have old : ∀ (j : Nat) (s : Slot) (es : List D), (r.set i .un)[j]? = some s → s.opn = some es → r[j]? = some s := fun j s es q o => by
    by_cases hj : i = j
    · subst hj
      by_cases hi : i < r.length
      · rw [List.getElem?_set_self hi] at q; cases q; cases o
      · rw [List.getElem?_eq_none (by simpa using hi)] at q; cases q
    · rw [List.getElem?_set_ne hj] at q; exact q
  refine ⟨ok.fin, ok.grow, ok.prot, by rw [List.length_set]; exact ok.len, fun j s q => ?_, fun j k s t es fs b hjk q1 q2 o1 o2 q3 q4 => ok.dis j k s t es fs b hjk (old j s es q1 o1) (old k t fs q2 o2) o1 o2 q3 q4, fun j b hp => ?_⟩
  · by_cases hj : i = j
    · subst hj
      by_cases hi : i < r.length
      · rw [List.getElem?_set_self hi] at q; cases q; trivial
      · rw [List.getElem?_eq_none (by simpa using hi)] at q; cases q
    · rw [List.getElem?_set_ne hj] at q
      exact ok.sl j s q
  · obtain ⟨q1, es, q2⟩ := ok.par j b hp
    refine ⟨q1, es, ?_⟩
    rw [List.getElem?_set_ne (fun z => by subst z; exact np es q2)]
    exact q2
/-- a slot is stored -/
theorem Ok.store (ok : Ok G fr F H σ r) {i : Nat} (np : ∀ ds, r[i]? ≠ some (.p ds)) {v : V} {s : Slot} (hs : SlotOk G fr F H i (some (some v)) s)
    (hd : ∀ es, s.opn = some es → ∀ (j : Nat) (t : Slot) (fs : List D), j ≠ i → r[j]? = some t → t.opn = some fs → ∀ a, v = .ref a → σ[j]? ≠ some (some (V.ref a))) : Ok G fr F H (σ.set i (some v)) (r.set i s) := by
  by_cases hi : i < r.length
  · have hi' : i < σ.length := by rw [ok.len]; exact hi
    refine ⟨ok.fin, ok.grow, ok.prot, by rw [List.length_set, List.length_set]; exact ok.len, fun j t q => ?_, fun j k t u es fs b hjk q1 q2 o1 o2 q3 q4 => ?_, fun j b hp => ?_⟩
    · by_cases hj : i = j
      · subst hj
        rw [List.getElem?_set_self hi] at q; cases q
        rw [List.getElem?_set_self hi']
        exact hs
      · rw [List.getElem?_set_ne hj] at q
        rw [List.getElem?_set_ne hj]
        exact ok.sl j t q
    · by_cases hj : i = j
      · subst hj
        rw [List.getElem?_set_self hi] at q1; cases q1
        rw [List.getElem?_set_self hi'] at q3
        rw [List.getElem?_set_ne hjk] at q2 q4
        exact hd es o1 k u fs (Ne.symm hjk) q2 o2 b (Option.some.inj (Option.some.inj q3)) q4
      · rw [List.getElem?_set_ne hj] at q1 q3
        by_cases hk : i = k
        · subst hk
          rw [List.getElem?_set_self hi] at q2; cases q2
          rw [List.getElem?_set_self hi'] at q4
          exact hd fs o2 j t es (fun z => hj z.symm) q1 o1 b (Option.some.inj (Option.some.inj q4)) q3
        · rw [List.getElem?_set_ne hk] at q2 q4
          exact ok.dis j k t u es fs b hjk q1 q2 o1 o2 q3 q4
    · obtain ⟨q1, es, q2⟩ := ok.par j b hp
      have hj : i ≠ j := fun z => by subst z; exact np es q2
      rw [List.getElem?_set_ne hj, List.getElem?_set_ne hj]
      exact ⟨q1, es, q2⟩
  · have e1 : r.set i s = r := List.set_eq_of_length_le (by omega)
    have e2 : σ.set i (some v) = σ := List.set_eq_of_length_le (by rw [ok.len]; omega)
    rw [e1, e2]
    exact ok
theorem Ok.storeV (ok : Ok G fr F H σ r) {i : Nat} (np : ∀ ds, r[i]? ≠ some (.p ds)) {v : V} {d : D} (h : Den G F H d v) : Ok G fr F H (σ.set i (some v)) (r.set i (.v d)) :=
  ok.store np ⟨v, rfl, h⟩ fun es z => nomatch z
theorem Ok.storeN (ok : Ok G fr F H σ r) {i : Nat} (np : ∀ ds, r[i]? ≠ some (.p ds)) {v : V} {ds : List D} (h : DenN G fr F H r σ ds v) : Ok G fr F H (σ.set i (some v)) (r.set i (.o ds)) := by
  obtain ⟨a, vs, rfl, h1, h2, h3, h4, h5⟩ := h
  refine ok.store np ⟨a, vs, rfl, h1, h2, h3, h4⟩ fun es _ j t fs hj e1 e2 b e3 => ?_
  cases e3
  exact h5 j t fs e1 e2
/-- the content of an open list has changed -/
theorem Ok.chg (ok : Ok G fr F H σ r) {i : Nat} {s s' : Slot} {ds es : List D} {a : Addr} {vs : List V} (e : r[i]? = some s) (o : s.opn = some ds) (h : σ[i]? = some (some (V.ref a)))
    (hs : s' = match s with | .o _ => .o es | _ => .p es) (d : DenL G F H es vs) : Ok G fr F (upd H a (.lst vs)) σ (r.set i s') ∧ Le F H F (upd H a (.lst vs)) := by
  obtain ⟨ws, z1, z2, z3, z4⟩ := ok.opn_at e o h
  have hi : i < r.length := (List.getElem?_eq_some_iff.mp e).1
  have l : Le F H F (upd H a (.lst vs)) := fun b hb => ⟨hb, upd_ne fun z => by subst z; exact z2 hb⟩
  have ho' : s'.opn = some es := by
    cases s with
    | o _ => subst hs; rfl
    | p _ => subst hs; rfl
    | un => cases o
    | v _ => cases o
  have old : ∀ (j : Nat) (t : Slot) (fs : List D), (r.set i s')[j]? = some t → t.opn = some fs → ∃ t' fs', r[j]? = some t' ∧ t'.opn = some fs' := fun j t fs q oo => by
    by_cases hj : i = j
    · subst hj; exact ⟨s, ds, e, o⟩
    · rw [List.getElem?_set_ne hj] at q; exact ⟨t, fs, q, oo⟩
  refine ⟨⟨fun b hb => ?_, fun b hb => ⟨(ok.grow b hb).1, by rw [(l b (ok.grow b hb).1).2]; exact (ok.grow b hb).2⟩, fun b o z => ⟨?_, (ok.prot b o z).2⟩, by rw [List.length_set]; exact ok.len, fun j t q => ?_, fun j k t u fs gs b hjk q1 q2 o1 o2 q3 q4 => ?_, fun j b hp => ?_⟩, l⟩
  · rw [(l b hb).2]; exact ok.fin b hb
  · rw [upd_ne (fun q => by subst q; exact z3 o z)]; exact (ok.prot b o z).1
  · by_cases hj : i = j
    · subst hj
      rw [List.getElem?_set_self hi] at q; cases q
      have q := ok.sl i s e
      cases s with
      | o _ =>
        subst hs
        exact ⟨a, vs, h, upd_same, z2, z3, d.mono l⟩
      | p _ =>
        obtain ⟨b, _, q1, _, _, _, _, q6⟩ := q
        rw [h] at q1; cases q1
        subst hs
        exact ⟨a, vs, h, upd_same, z2, z3, d.mono l, q6⟩
      | un => cases o
      | v _ => cases o
    · rw [List.getElem?_set_ne hj] at q
      have z := ok.sl j t q
      have nb : ∀ fs b, t.opn = some fs → σ[j]? = some (some (V.ref b)) → b ≠ a := fun fs b o1 q1 z => by
        subst z; exact ok.dis i j s t ds fs b hj e q o o1 h q1
      cases t with
      | un => trivial
      | v d => obtain ⟨v, e1, e2⟩ := z; exact ⟨v, e1, e2.mono l⟩
      | o fs =>
        obtain ⟨b, us, e1, e2, e3, e4, e5⟩ := z
        exact ⟨b, us, e1, by rw [upd_ne (nb fs b rfl e1)]; exact e2, e3, e4, e5.mono l⟩
      | p fs =>
        obtain ⟨b, us, e1, e2, e3, e4, e5, e6⟩ := z
        exact ⟨b, us, e1, by rw [upd_ne (nb fs b rfl e1)]; exact e2, e3, e4, e5.mono l, e6⟩
  · obtain ⟨t', fs', y1, y2⟩ := old j t fs q1 o1
    obtain ⟨u', gs', y3, y4⟩ := old k u gs q2 o2
    exact ok.dis j k t' u' fs' gs' b hjk y1 y3 y2 y4 q3 q4
  · obtain ⟨q1, fs, q2⟩ := ok.par j b hp
    refine ⟨q1, ?_⟩
    by_cases hj : i = j
    · subst hj
      rw [e] at q2; cases q2
      subst hs
      exact ⟨es, List.getElem?_set_self hi⟩
    · rw [List.getElem?_set_ne hj]
      exact ⟨fs, q2⟩
end
def setOpn (r : Env) (j : Nat) (ds : List D) : Env := match r[j]? with
  | some (.o _) => r.set j (.o ds)
  | some (.p _) => r.set j (.p ds)
  | _ => r
def getOpn (r : Env) (j : Nat) : Option (List D) := match r[j]? with
  | some (.o ds) => some ds
  | some (.p ds) => some ds
  | _ => none
def notP (r : Env) (j : Nat) : Bool := match r[j]? with
  | some (.p _) => false
  | _ => true
theorem notP_ok {r : Env} {j : Nat} (h : notP r j = true) : ∀ ds, r[j]? ≠ some (.p ds) := fun ds e => by
  unfold notP at h; rw [e] at h; cases h
theorem getOpn_ok {r : Env} {j : Nat} {ds : List D} (h : getOpn r j = some ds) : ∃ s, r[j]? = some s ∧ s.opn = some ds ∧ ∀ es, setOpn r j es = r.set j (match s with | .o _ => .o es | _ => .p es) := by
  unfold getOpn at h
  split at h
  · rename_i e e'; cases h; exact ⟨_, e', rfl, fun es => by unfold setOpn; rw [e']⟩
  · rename_i e e'; cases h; exact ⟨_, e', rfl, fun es => by unfold setOpn; rw [e']⟩
  · cases h
theorem Ok.opened {G fr F H σ r} (ok : Ok G fr F H σ r) {j : Nat} {ds : List D} (h : getOpn r j = some ds) : ∃ a vs, σ[j]? = some (some (V.ref a)) ∧ H a = some (.lst vs) ∧ ¬ F a ∧ DenL G F H ds vs ∧
    ∀ es ws, DenL G F H es ws → Ok G fr F (upd H a (.lst ws)) σ (setOpn r j es) ∧ Le F H F (upd H a (.lst ws)) := by
  obtain ⟨s, e1, e2, e3⟩ := getOpn_ok h
  have q := ok.sl j s e1
  have : ∃ a, σ[j]? = some (some (V.ref a)) := by
    cases s with
    | o _ => obtain ⟨a, vs, q, _⟩ := q; exact ⟨a, q⟩
    | p _ => obtain ⟨a, vs, q, _⟩ := q; exact ⟨a, q⟩
    | un => cases e2
    | v _ => cases e2
  obtain ⟨a, ha⟩ := this
  obtain ⟨vs, z1, z2, z3, z4⟩ := ok.opn_at e1 e2 ha
  refine ⟨a, vs, ha, z1, z2, z4, fun es ws d => ?_⟩
  rw [e3 es]
  cases s with
  | o _ => exact ok.chg e1 e2 ha rfl d
  | p _ => exact ok.chg e1 e2 ha rfl d
  | un => cases e2
  | v _ => cases e2

/-! ## Statements -/
inductive SRes where
  | nx (r : Env) | rt (x : D) (r : Env) | rn (ds : List D) (r : Env) | bk (r : Env) | ct (r : Env) | err (e : D) (r : Env) | bad
section
variable (G : Gc) (W : WX) (fr : Fr) (F : Addr → Prop) (H : Hp)
def PostS (m : SRes) (E : Ends) : Prop := match m with
  | .nx r' => ∀ σ' H' F', Ok G fr F' H' σ' r' → Le F H F' H' → E.nx σ' H'
  | .bk r' => ∀ σ' H' F', Ok G fr F' H' σ' r' → Le F H F' H' → E.bk σ' H'
  | .ct r' => ∀ σ' H' F', Ok G fr F' H' σ' r' → Le F H F' H' → E.ct σ' H'
  | .rt x r' => ∀ v σ' H' F', Ok G fr F' H' σ' r' → Le F H F' H' → Den G F' H' x v → E.rt v H'
  | .rn ds r' => ∀ v σ' H' F', Ok G fr F' H' σ' r' → Le F H F' H' → DenN G fr F' H' r' σ' ds v → E.rt v H'
  | .err x r' => ∀ c dd σ' H' F', Ok G fr F' H' σ' r' → Le F H F' H' → DenX G F' H' x c dd → W c dd σ' H'
  | .bad => False
end
def tS (G : Gc) (W : WX) (d : Env → SRes) : TS := fun E σ H => ∃ fr F r, Ok G fr F H σ r ∧ PostS G W fr F H (d r) E
def PT1 (X : Cx) (W : WX) (st : Stmt) (d : Env → SRes) : Prop := PS X st (tS (gc X) W d)
def PTs (X : Cx) (W : WX) (st : List Stmt) (d : Env → SRes) : Prop := PSs X st (tS (gc X) W d)
def SRes.seq (m : SRes) (k : Env → SRes) : SRes := match m with
  | .nx r => k r
  | m => m
def Res.toS {α : Type} (m : Res α) (k : α → Env → SRes) : SRes := match m with
  | .ok a r => k a r
  | .err e r => .err e r
  | .bad => .bad
@[simp] theorem Res.toS_ok {α : Type} (a : α) (r : Env) (k : α → Env → SRes) : (Res.ok a r).toS k = k a r := (rfl)
@[simp] theorem Res.toS_err {α : Type} (e : D) (r : Env) (k : α → Env → SRes) : (Res.err e r : Res α).toS k = .err e r := (rfl)
@[simp] theorem Res.toS_bad {α : Type} (k : α → Env → SRes) : (Res.bad : Res α).toS k = .bad := (rfl)
@[simp] theorem SRes.seq_nx (r : Env) (k : Env → SRes) : (SRes.nx r).seq k = k r := (rfl)
@[simp] theorem SRes.seq_rt (x : D) (r : Env) (k : Env → SRes) : (SRes.rt x r).seq k = .rt x r := (rfl)
@[simp] theorem SRes.seq_rn (x : List D) (r : Env) (k : Env → SRes) : (SRes.rn x r).seq k = .rn x r := (rfl)
@[simp] theorem SRes.seq_bk (r : Env) (k : Env → SRes) : (SRes.bk r).seq k = .bk r := (rfl)
@[simp] theorem SRes.seq_ct (r : Env) (k : Env → SRes) : (SRes.ct r).seq k = .ct r := (rfl)
@[simp] theorem SRes.seq_err (e : D) (r : Env) (k : Env → SRes) : (SRes.err e r).seq k = .err e r := (rfl)
@[simp] theorem SRes.seq_bad (k : Env → SRes) : (SRes.bad).seq k = .bad := (rfl)
section
variable {G : Gc} {W : WX} {fr : Fr} {F F1 : Addr → Prop} {H H1 : Hp} {σ : L2.St} {r : Env}
theorem PostS.le {m : SRes} {E : Ends} (l : Le F H F1 H1) (h : PostS G W fr F H m E) : PostS G W fr F1 H1 m E := by
  cases m with
  | nx r' => exact fun σ' H' F' k l' => h σ' H' F' k (l.trans l')
  | bk r' => exact fun σ' H' F' k l' => h σ' H' F' k (l.trans l')
  | ct r' => exact fun σ' H' F' k l' => h σ' H' F' k (l.trans l')
  | rt x r' => exact fun v σ' H' F' k l' q => h v σ' H' F' k (l.trans l') q
  | rn x r' => exact fun v σ' H' F' k l' q => h v σ' H' F' k (l.trans l') q
  | err x r' => exact fun c dd σ' H' F' k l' q => h c dd σ' H' F' k (l.trans l') q
  | bad => exact h
theorem Post.toS {α β : Type} {R : (Addr → Prop) → Hp → α → β → Prop} {m : Res α} {k : α → Env → SRes} {E : Ends} {Q1 : β → Hp → Prop} (h : PostS G W fr F H (m.toS k) E)
    (f : ∀ x r1 v H1 F1, Ok G fr F1 H1 σ r1 → Le F H F1 H1 → R F1 H1 x v → PostS G W fr F1 H1 (k x r1) E → Q1 v H1) : Post G W R fr F H σ m Q1 := by
  cases m with
  | ok x r' => exact fun v H' F' ok l q => f x r' v H' F' ok l q (PostS.le l h)
  | err x r' => exact fun c dd H' F' ok l q => h c dd σ H' F' ok l q
  | bad => exact h
theorem PostV.toS {m : Res Val} {k : Val → Env → SRes} {E : Ends} {Q1 : VK} (h : PostS G W fr F H (m.toS k) E)
    (f : ∀ x r1 v H1 F1, Ok G fr F1 H1 σ r1 → Le F H F1 H1 → DenV G fr F1 H1 r1 σ x v → PostS G W fr F1 H1 (k x r1) E → Q1 v H1) : PostV G W fr F H σ m Q1 := by
  cases m with
  | ok x r' => exact fun v H' F' ok l q => f x r' v H' F' ok l q (PostS.le l h)
  | err x r' => exact fun c dd H' F' ok l q => h c dd σ H' F' ok l q
  | bad => exact h
end
section
variable {X : Cx} {W : WX} {pos : Pos}
def dNext : Env → SRes := fun r => .nx r
def dSeq (a b : Env → SRes) : Env → SRes := fun r => (a r).seq b
theorem ss_nil : PTs X W [] dNext := pss_weak pss_nil fun E σ H ⟨fr, F, r, ok, p⟩ => p σ H F ok Le.refl
theorem ss_cons {st : Stmt} {rest : List Stmt} {a b : Env → SRes} (h1 : PT1 X W st a) (h2 : PTs X W rest b) : PTs X W (st :: rest) (dSeq a b) :=
  pss_weak (pss_cons h1 h2) fun E σ H ⟨fr, F, r, ok, p⟩ => by
    refine ⟨fr, F, r, ok, ?_⟩
    unfold dSeq at p
    cases e : a r with
    | nx r1 =>
      rw [e] at p
      exact fun σ' H' F' ok' l => ⟨fr, F', r1, ok', PostS.le l p⟩
    | _ => rw [e] at p; exact p
theorem ss_one {st : Stmt} {a : Env → SRes} (h1 : PT1 X W st a) : PTs X W [st] a := pss_one h1
theorem s_pass : PT1 X W (.Pass pos) dNext := ps_weak ps_pass fun E σ H ⟨fr, F, r, ok, p⟩ => p σ H F ok Le.refl
def dBreak : Env → SRes := fun r => .bk r
theorem s_break : PT1 X W (.Break pos) dBreak := ps_weak ps_break fun E σ H ⟨fr, F, r, ok, p⟩ => p σ H F ok Le.refl
def dCont : Env → SRes := fun r => .ct r
theorem s_cont : PT1 X W (.Continue pos) dCont := ps_weak ps_continue fun E σ H ⟨fr, F, r, ok, p⟩ => p σ H F ok Le.refl
def dRet (d : Env → Res Val) : Env → SRes := fun r => (d r).toS fun x r => match x with
  | .v d => .rt d r
  | .n ds => .rn ds r
theorem s_ret {e : Expr} {d : Env → Res Val} (h : PV X W e d) : PT1 X W (.Return (some e) pos) (dRet d) :=
  ps_weak (ps_ret h) fun E σ H ⟨fr, F, r, ok, p⟩ => ⟨fr, F, r, ok, PostV.toS p fun x r1 v H1 F1 ok1 l1 q1 p1 => by
    cases x with
    | v d => exact p1 v σ H1 F1 ok1 Le.refl q1
    | n ds => exact p1 v σ H1 F1 ok1 Le.refl q1⟩
def dRetN : Env → SRes := fun r => .rt .non r
theorem s_retN : PT1 X W (.Return none pos) dRetN := ps_weak ps_retN fun E σ H ⟨fr, F, r, ok, p⟩ => p .non σ H F ok Le.refl (by simp only [Den])
def dDrop (d : Env → Res Val) : Env → SRes := fun r => (d r).toS fun _ r => .nx r
theorem s_expr {e : Expr} {d : Env → Res Val} (h : PV X W e d) (hs : swapsWith e none pos.line X.env = pure false := by rfl) : PT1 X W (.Expr e pos) (dDrop d) :=
  ps_weak (ps_expr h hs) fun E σ H ⟨fr, F, r, ok, p⟩ => ⟨fr, F, r, ok, PostV.toS p fun x r1 v H1 F1 ok1 l1 q1 p1 => p1 σ H1 F1 ok1 Le.refl⟩
def dIf (t : Env → Res Bool) (a b : Env → SRes) : Env → SRes := fun r => (t r).toS fun c r => if c = true then a r else b r
theorem s_if {c : Expr} {a b : List Stmt} {t : Env → Res Bool} {d1 d2 : Env → SRes} (h : PB X W c t) (h1 : PTs X W a d1) (h2 : PTs X W b d2) : PT1 X W (.If c a b pos) (dIf t d1 d2) :=
  ps_weak (ps_if h h1 h2) fun E σ H ⟨fr, F, r, ok, p⟩ => ⟨fr, F, r, ok, Post.toS p fun x r1 v H1 F1 ok1 l1 q1 p1 => by
    have q1 : v = x := q1
    subst q1
    cases v with
    | true => exact ⟨fr, F1, r1, ok1, p1⟩
    | false => exact ⟨fr, F1, r1, ok1, p1⟩⟩
/-- name = value -/
def dSet (i : Nat) (d : Env → Res Val) : Env → SRes := fun r => (d r).toS fun x r => if notP r i = true then .nx (r.set i (match x with | .v d => .v d | .n ds => .o ds)) else .bad
theorem s_set {i : Nat} {x : Str} {e : Expr} {d : Env → Res Val} {pos' : Pos} (hN : X.N.Nodup) (hi : X.N[i]? = some x) (hx : Loc X.env.scope x) (he : PV X W e d) (hs : swapsWith e (some (.Name x pos')) pos.line X.env = pure false := by rfl) (hf : X.fn x = true ∨ X.env.scope.names.lookup x = some .local := by first | exact .inl rfl | exact .inr rfl | assumption) :
    PT1 X W (.Assign [.Name x pos'] e pos) (dSet i d) :=
  ps_weak (ps_set hN hi hx he hs hf) fun E σ H ⟨fr, F, r, ok, p⟩ => ⟨fr, F, r, ok, PostV.toS p fun x r1 v H1 F1 ok1 l1 q1 p1 => by
    split at p1
    · rename_i h
      cases x with
      | v d => exact p1 _ H1 F1 (ok1.storeV (notP_ok h) q1) Le.refl
      | n ds => exact p1 _ H1 F1 (ok1.storeN (notP_ok h) q1) Le.refl
    · exact (show False from p1).elim⟩
/-- targets: a name, a tuple of targets -/
def tG (G : Gc) (d : D → Env → Option Env) : TG := fun v σ H Q => ∃ fr F r x, Ok G fr F H σ r ∧ Den G F H x v ∧ ∃ r', d x r = some r' ∧ ∀ σ', Ok G fr F H σ' r' → Q σ' H
def tGs (G : Gc) (d : List D → Env → Option Env) : TGs := fun vs σ H Q => ∃ fr F r xs, Ok G fr F H σ r ∧ DenL G F H xs vs ∧ ∃ r', d xs r = some r' ∧ ∀ σ', Ok G fr F H σ' r' → Q σ' H
def PGt (X : Cx) (tg : Expr) (d : D → Env → Option Env) : Prop := PG X tg (tG (gc X) d)
def PGts (X : Cx) (tg : List Expr) (d : List D → Env → Option Env) : Prop := PGs X tg (tGs (gc X) d)
theorem pg_weak {tg : Expr} {t t' : TG} (h : PG X tg t) (w : ∀ v σ H Q, t' v σ H Q → t v σ H Q) : PG X tg t' := ⟨fun pins s σ H v u Q I rv k => h.run pins s σ H v u Q I rv (w v σ H Q k)⟩
theorem pgs_weak {tg : List Expr} {t t' : TGs} (h : PGs X tg t) (w : ∀ v σ H Q, t' v σ H Q → t v σ H Q) : PGs X tg t' := ⟨fun pins s σ H v u Q I rv k => h.run pins s σ H v u Q I rv (w v σ H Q k)⟩
def gNm (i : Nat) : D → Env → Option Env := fun x r => if notP r i = true then some (r.set i (.v x)) else none
theorem g_name {i : Nat} {x : Str} (hN : X.N.Nodup) (hi : X.N[i]? = some x) (hx : Loc X.env.scope x) (hf : X.fn x = true ∨ X.env.scope.names.lookup x = some .local := by first | exact .inl rfl | exact .inr rfl | assumption) : PGt X (.Name x pos) (gNm i) :=
  pg_weak (pg_name hN hi hx hf) fun v σ H Q ⟨fr, F, r, x, ok, dn, r', e, q⟩ => by
    unfold gNm at e
    split at e
    · rename_i h
      cases e
      exact q _ (ok.storeV (notP_ok h) dn)
    · cases e
def gN0 : List D → Env → Option Env := fun xs r => match xs with
  | [] => some r
  | _ => none
def gC (a : D → Env → Option Env) (b : List D → Env → Option Env) : List D → Env → Option Env := fun xs r => match xs with
  | [] => none
  | x :: xs => (a x r).bind fun r => b xs r
theorem gs_nil : PGts X [] gN0 := pgs_weak pgs_nil fun vs σ H Q ⟨fr, F, r, xs, ok, dn, r', e, q⟩ => by
  cases xs with
  | nil => cases e; simp only [DenL] at dn; exact ⟨dn, q σ ok⟩
  | cons _ _ => cases e
theorem gs_cons {e : Expr} {es : List Expr} {a : D → Env → Option Env} {b : List D → Env → Option Env} (h1 : PGt X e a) (h2 : PGts X es b) (hs : (assignEach (e :: es) X.env).map (·.2) = assign e X.env :: (assignEach es X.env).map (·.2) := by rfl) : PGts X (e :: es) (gC a b) :=
  pgs_weak (pgs_cons h1 h2 hs) fun vs σ H Q ⟨fr, F, r, xs, ok, dn, r', e, q⟩ => by
    cases xs with
    | nil => cases e
    | cons x xs =>
      simp only [DenL] at dn
      obtain ⟨v, ws, rfl, d1, d2⟩ := dn
      unfold gC at e
      simp only at e
      cases e1 : a x r with
      | none => rw [e1] at e; cases e
      | some r1 =>
        rw [e1] at e
        exact ⟨v, ws, rfl, fr, F, r, x, ok, d1, r1, e1, fun σ' ok' => ⟨fr, F, r1, xs, ok', d2, r', e, q⟩⟩
def gTp (n : Nat) (b : List D → Env → Option Env) : D → Env → Option Env := fun x r => match x with
  | .tup ds => if ds.length = n then b ds r else none
  | _ => none
theorem g_tup {es : List Expr} {k : Nat} {b : List D → Env → Option Env} {n : Nat} (hc : X.calm = true) (h : PGts X es b) (hn : (assignEach es X.env).length = n := by rfl) (hst : (assignEach es X.env).findIdx? (·.1) = none := by rfl) : PGt X (.Tuple es k pos) (gTp n b) :=
  pg_weak (pg_tup hc h hn hst) fun v σ H Q ⟨fr, F, r, x, ok, dn, r', e, q⟩ => by
    cases x with
    | tup ds =>
      simp only [Den] at dn
      obtain ⟨a, vs, rfl, t, dl⟩ := dn
      unfold gTp at e
      simp only at e
      split at e
      · rename_i hl
        exact ⟨a, vs, rfl, t.sq, by rw [dl.length]; exact hl, fr, F, r, ds, ok, dl, r', e, q⟩
      · cases e
    | _ => cases e
/-- target = value -/
def dAsg (d : Env → Res D) (g : D → Env → Option Env) : Env → SRes := fun r => (d r).toS fun x r => match g x r with
  | some r => .nx r
  | none => .bad
theorem s_asg {tg e : Expr} {d : Env → Res D} {g : D → Env → Option Env} (he : PX X W e d) (hg : PGt X tg g) (hs : swapsWithSole [tg] e pos.line X.env = pure false := by rfl) (hw : swappedStores [tg] e X.env = pure none := by rfl)
    (h1 : (assignEach [tg] X.env).map (·.2) = [assign tg X.env] := by rfl) : PT1 X W (.Assign [tg] e pos) (dAsg d g) :=
  ps_weak (ps_asg he hg hs hw h1) fun E σ H ⟨fr, F, r, ok, p⟩ => ⟨fr, F, r, ok, Post.toS p fun x r1 v H1 F1 ok1 l1 q1 p1 => by
    cases e : g x r1 with
    | none => rw [e] at p1; exact (show False from p1).elim
    | some r2 =>
      rw [e] at p1
      exact ⟨fr, F1, r1, x, ok1, q1, r2, e, fun σ' ok' => p1 σ' H1 F1 ok' Le.refl⟩⟩
end
end Py
end

section
set_option maxHeartbeats 2000000
/-! enumerate(a tuple) in a for -/
namespace PySem
theorem pyen_meets {v : Value} {ob : Obj} {Hv : Heap → Prop} (B : Begins v ob Hv) :
    Meets (Builtin.«enumerate.__new__» ⟨[.type "enumerate", v], []⟩) (fun _ R s => Hv s.heap ∧ R (.ok (.ret (.ref (s.heap.push ob).objs.size)))
      { s with heap := (s.heap.push ob).push { cls := .type "enumerate", data := .fields #[.none, .bool false, .ref s.heap.objs.size, rawInt 0, .none, .none] } }) :=
  .of_wp fun prog w A R s hyp => by
    obtain ⟨hp, gg, dr, tks, osx⟩ := s; obtain ⟨hv, hr⟩ := hyp
    have hsb := sub_enumerate
    have stp : ∀ {A1 : Around} {E1 Q1 : Value → Shared → Prop}, Q1 (.ref hp.objs.size) ⟨hp.push ob, gg, dr, tks, osx⟩ → wpAny (model prog w) A1 (pyIter v) Q1 E1 ⟨hp, gg, dr, tks, osx⟩ :=
      fun z => B.iter prog w _ _ ⟨hp, gg, dr, tks, osx⟩ _ hv z
    wp_walk using stp
    refine wpAny_stack_any fun stk => wpAny_pure ?_
    split
    · rename_i cc _ _ _ _ _
      cases (cc == Value.type "enumerate") <;> (wp_walk using stp; exact ⟨_, rfl, hr⟩)
    · wp_walk using stp; exact ⟨_, rfl, hr⟩
section
variable {prog : Program} {w : World} {A : Around} {E : Value → Shared → Prop} {s : Shared}
theorem pyen_call {v : Value} {ob : Obj} {Hv : Heap → Prop} {Q : Value → Shared → Prop} (B : Begins v ob Hv) (h1 : Hv s.heap)
    (go : ∀ hn, IsEnum hn (s.heap.objs.size + 1) s.heap.objs.size 0 .none → hn.get? s.heap.objs.size = some ob → (∀ b o, s.heap.get? b = some o → hn.get? b = some o) → Q (.ref (s.heap.objs.size + 1)) { s with heap := hn }) :
    wpAny (model prog w) A (call (.type "enumerate") [v]) Q E s := by
  refine callType_new F.called_enumerate (by decide) (F.typeCall_enumerate_1 _) (F.newCall_enumerate_1 _) (fun obj => F.args_object_init_2 obj _) F.entry_enumerate_new (pyen_meets B) ⟨h1, ?_⟩
  have z1 : (s.heap.push ob).objs.size = s.heap.objs.size + 1 := Heap.size_push ..
  show _ ∧ _
  rw [z1]
  have isE : IsEnum ((s.heap.push ob).push { cls := .type "enumerate", data := .fields #[.none, .bool false, .ref s.heap.objs.size, rawInt 0, .none, .none] }) (s.heap.objs.size + 1) s.heap.objs.size 0 .none := by
    have t := Heap.get?_push_size (s.heap.push ob) (o := { cls := .type "enumerate", data := .fields #[.none, .bool false, .ref s.heap.objs.size, rawInt 0, .none, .none] }) rfl
    rw [z1] at t; exact t
  exact ⟨⟨_, isE, rfl⟩, go _ isE (Heap.get?_push_of_some _ (Heap.get?_push_size _ B.free)) fun b o x => Heap.get?_push_of_some _ (Heap.get?_push_of_some _ x)⟩
end
end PySem
namespace L2
open PySem PySem.Spec PyProof.Rows
/-- the tuple at a, each item in a new pair with its number -/
def IteT (K : PySem.W.Frag) (a : Addr) : It where
  go := fun i H => ∃ (xs : List V) (x : V), SqT K H a xs ∧ xs[i]? = some x
  yld := fun i H v H' => ∃ T x, v = .ref T ∧ H T = none ∧ H' = upd H T (.tup [.int (i : Nat), x]) ∧ ∀ xs, SqT K H a xs → xs[i]? = some x
  stop := fun i H => ∃ xs : List V, SqT K H a xs ∧ xs.length ≤ i
theorem turn_enumT {P : Program} {w : World} {K : PySem.W.Frag} {elts : List Expr} {kk : Nat} {tpos : Pos} (a e it : Addr) :
    Turn P w K (.Tuple elts kk tpos) (IteT K a) [e, it] e (fun i h => (∃ old, IsEnum h e it ((i : Nat) : Int) old) ∧ h.IsTupleIter it a i ∧ e ≠ it) where
  mem := by simp
  obj := fun i h st b hb => by
    obtain ⟨⟨old, he⟩, ⟨o, ho, hc, hd⟩, _⟩ := st
    rcases (show b = e ∨ b = it by simpa using hb) with z | z
    · exact ⟨_, z ▸ he, fun v q => by cases q⟩
    · exact ⟨o, z ▸ ho, fun v q => by rw [hd] at q; cases q⟩
  keep := fun i h h' st k => by
    obtain ⟨⟨old, he⟩, hi, hne⟩ := st
    exact ⟨⟨old, k e (by simp) _ he⟩, hi.at fun o q => k it (by simp) o q, hne⟩
  item := by
    intro X hP hw hK hc i pins s σ H E I hf st hg
    subst hP hw hK
    obtain ⟨⟨old, he⟩, hit, hne⟩ := st
    obtain ⟨xs, x, hq, hx⟩ := hg
    obtain ⟨its, rv, p, hz⟩ := I.tuple hq
    obtain ⟨u, hu, ru⟩ := rv.get hx
    have p' : s.heap.IsTuple a its.toArray := p
    have lt1 : e < s.heap.objs.size := Heap.lt_size he
    have lt2 : it < s.heap.objs.size := by obtain ⟨_, q, _⟩ := hit; exact Heap.lt_size q
    have nea : a ≠ it := fun z => by
      obtain ⟨o1, q1, q2, _⟩ := id p'
      obtain ⟨o2, q3, q4, _⟩ := id hit
      rw [z, q3] at q1; cases q1
      rw [q4] at q2; exact absurd q2 (by decide)
    have nee : e ∉ [it, a] := fun z => by
      obtain ⟨o1, q1, q2, _⟩ := id p'
      rcases (show e = it ∨ e = a by simpa using z) with z | z
      · exact hne z
      · subst z
        have he2 : s.heap.get? e = some _ := he
        rw [q1] at he2; cases he2; exact absurd (show Value.type "enumerate" = Value.type "tuple" from q2) (by decide)
    have hd : X.A.in1.handled = none := I.ok.hd hc
    refine wpAny_pyNext_enum_itemD (Draws.tuple (prog := X.prog) (w := X.w) hd it a nea its.toArray) he ⟨hit, p'⟩ (by have := (List.getElem?_eq_some_iff.mp hu).1; simpa using this) hne nee fun y h' tk hy ho st' hT hsz hk => ?_
    have ey : y = u := by
      have : its.toArray[i]? = some u := by simpa using hu
      rw [this] at hy; exact (Option.some.inj hy).symm
    subst ey
    refine ⟨_, rfl, wpAny_letOwnedTupleGo_enum (s := { s with heap := h', toks := tk + 1 }) ho fun h'' he' sb => ?_⟩
    have hT2 : h''.get? s.heap.objs.size = some { cls := .type "tuple", data := .seq #[.int i tk, y] } := (sb.2 _ (Nat.ne_of_gt lt1)).trans hT
    have new : ObjOk X.prog X.w (upd H s.heap.objs.size (.tup [.int (i : Nat), x])) h'' s.heap.objs.size (.tup [.int (i : Nat), x]) :=
      ⟨by show 2 ≤ sizeLine; decide, [.int i tk, y], .cons ⟨_, rfl⟩ (.cons ru .nil), ⟨_, hT2, rfl, _, rfl⟩⟩
    have I1 := I.turnedNew (ch := [e, it]) (t' := tk + 1) (h' := h'') (fun b ob hb q => (sb.2 b (fun z => hb (by simp [z]))).trans (hk b ob (fun z => hb (by simp [z])) (fun z => hb (by simp [z])) q)) hf (Nat.le_refl _) new
    refine ⟨.ref s.heap.objs.size, _, I1, rfl, ⟨_, x, rfl, I.hok.fresh (Nat.le_refl _), rfl, fun ys hy => by rw [I.tuple_inj hy hq]; exact hx⟩, ⟨⟨y, ?_⟩, st'.1.at fun o q => (sb.2 it (Ne.symm hne)).trans q, hne⟩, fun b hb => ?_⟩
    · rw [show ((i + 1 : Nat) : Int) = (i : Int) + 1 by omega]; exact he'
    · have hb' : b < s.heap.objs.size := by
        rcases (show b = e ∨ b = it by simpa using hb) with z | z
        · exact z ▸ lt1
        · exact z ▸ lt2
      rw [upd_ne (Nat.ne_of_lt hb')]; exact (hf b hb).1
  done := by
    intro X hP hw hK hc i pins s σ H E I hf st hg
    subst hP hw hK
    obtain ⟨⟨old, he⟩, hit, hne⟩ := st
    obtain ⟨xs, hq, hx⟩ := hg
    obtain ⟨its, rv, p, hz⟩ := I.tuple hq
    have p' : s.heap.IsTuple a its.toArray := p
    obtain ⟨f0, f1, f2, f3, f4, f5⟩ := hf it (by simp)
    have hd : X.A.in1.handled = none := I.ok.hd hc
    have nea : a ≠ it := fun z => by
      obtain ⟨o1, q1, q2, _⟩ := id p'
      obtain ⟨o2, q3, q4, _⟩ := id hit
      rw [z, q3] at q1; cases q1
      rw [q4] at q2; exact absurd q2 (by decide)
    have hl := rv.length
    unfold pyNext
    have hT : s.TypeIs (.ref e) "enumerate" := ⟨_, he, rfl⟩
    refine wpAny_bind (wpAny_attempt (wpAny_callSpecial?_slot (name := Str.ofString "__next__") hT F.slot_enumerate_next (wpAny_call_entry F.slot_enumerate_next hT F.entry_enumerate_next ?_ (F.args_enumerate_next_1 _))))
    show wpAny _ _ (field (.ref e) 2 >>= _) _ _ _
    refine wpAny_bind (wpAny_field he rfl (x := .ref it) rfl ?_)
    refine wpAny_bind (wpAny_nextOf_tuple_end (A := X.A.in1) hd hit p' (by simp; omega) fun h' z hz' hx' => ?_)
    obtain ⟨o, ho, hcl⟩ := hx'
    refine wpAny_bind (wpAny_isInstance (T := "StopIteration") (b := true) ⟨o, ho, hcl⟩ isSubtype_stop ?_)
    exact wpAny_pure ⟨rfl, I.turned (t' := s.toks) (fun b o hb q => hz' b o hb q) f0 f1 f3 f4 f5⟩
  self := fun A i s Q E st h => let ⟨⟨_, he⟩, _⟩ := st; wpAny_pyIter_enum he h
def iEnumT (K : PySem.W.Frag) (ta : TA) : TI := fun σ H R => ta σ H fun vs H1 => ∃ a xs, vs = [.ref a] ∧ SqT K H1 a xs ∧ R (IteT K a) H1
theorem pi_enumT {X : Cx} {e : Expr} {ta : TA} {p pos tpos : Pos} {elts : List Expr} {kk : Nat} (hg : Gl X "enumerate") (hm : X.mg "enumerate" = none) (ha : PA X [e] ta) (hs : starEach [e] X.env = [(false, eval e X.env)]) :
    PI X (.Tuple elts kk tpos) (.Call (.Name "enumerate" p) [e] [] pos) (iEnumT X.K ta) := by
  refine ⟨fun pins s σ H R I h => Call_ (ld_blt I hg hm boot_enumerate (PyProof.Rows.callWith_type1 (thn (ha.run pos pins s σ H _ I h) fun us s1 ⟨vs, H1, I1, r1, q1⟩ => ?_) hs rfl))⟩
  obtain ⟨a, xs, ex, hq, q⟩ := q1
  subst ex
  cases r1 with
  | cons r rr =>
    cases rr
    cases r
    obtain ⟨its, rv, p', hz⟩ := I1.tuple hq
    refine pyen_call (begins_tuple a its.toArray) (show s1.heap.IsTuple a its.toArray from p') fun h' he hit hk => wpAny_pyIter_enum he ?_
    have I2 : Inv X pins σ H1 { s1 with heap := h' } := I1.kept (t' := s1.toks) hk
    refine ⟨s1.heap.objs.size + 1, [s1.heap.objs.size + 1, s1.heap.objs.size], _, _, H1, rfl, I2, turn_enumT a (s1.heap.objs.size + 1) s1.heap.objs.size, ⟨⟨.none, he⟩, ⟨_, hit, rfl, rfl⟩, Nat.succ_ne_self _⟩, fun b hb => ?_, q⟩
    have hle : s1.heap.objs.size ≤ b := by
      rcases (show b = s1.heap.objs.size + 1 ∨ b = s1.heap.objs.size by simpa using hb) with z | z
      · rw [z]; exact Nat.le_succ _
      · rw [z]; exact Nat.le_refl _
    exact I1.fpOk hle (I1.hok.fresh hle)
end L2
end

section
set_option maxHeartbeats 2000000
namespace Py
open PySem PySem.Spec PyProof.Rows L2

/-! ## What a for walks -/
def Draw (G : Gc) (F : Addr → Prop) (H : Hp) (xs : List D) (J : It) : Prop := ∀ F1 H1, Le F H F1 H1 → (∀ a, F1 a → H1 a ≠ none) →
  (∀ (i : Nat) x, xs[i]? = some x → J.go i H1 ∧ ∀ v H2, J.yld i H1 v H2 → ∃ F2, Nx F1 H1 F2 H2 ∧ Den G F2 H2 x v) ∧ ∀ i, xs.length ≤ i → J.stop i H1
def PIt (X : Cx) (W : WX) (tg e : Expr) (d : Env → Res (List D)) : Prop := PI X tg e (tR (gc X) W (Draw (gc X)) d)
theorem pi_or {X : Cx} {tg e : Expr} {t u : TI} (h1 : PI X tg e t) (h2 : PI X tg e u) : PI X tg e (fun σ H R => t σ H R ∨ u σ H R) :=
  ⟨fun pins s σ H R I h => h.elim (h1.run pins s σ H R I) (h2.run pins s σ H R I)⟩
section
variable {X : Cx} {W : WX} {pos : Pos} {tg : Expr}
def itemsOf : D → Option (List D)
  | .tup ds => some ds
  | .lst ds => some ds
  | .frl ds => some ds
  | _ => none
def Res.ofL (o : Option (List D)) (r : Env) : Res (List D) := match o with
  | some z => .ok z r
  | none => .bad
@[simp] theorem Res.ofL_some (z : List D) (r : Env) : Res.ofL (some z) r = .ok z r := (rfl)
@[simp] theorem Res.ofL_none (r : Env) : Res.ofL none r = .bad := (rfl)
def dItems (d : Env → Res D) : Env → Res (List D) := fun r => (d r).bind fun x r => Res.ofL (itemsOf x) r
theorem draw_list {G : Gc} {F : Addr → Prop} {H : Hp} {ds : List D} {vs : List V} {a : Addr} (h : LstAt G.K F H a vs) (dl : DenL G F H ds vs) : Draw G F H ds (Itl G.K a) := fun F1 H1 l k => by
  have hs : SqL G.K H1 a vs := (h.mono l).sq
  refine ⟨fun i x e => ?_, fun i hi => ⟨vs, hs, by rw [dl.length]; exact hi⟩⟩
  obtain ⟨v, h1, h2⟩ := (dl.mono l).get e
  refine ⟨⟨vs, v, hs, h1⟩, fun u H2 ⟨e2, q⟩ => ?_⟩
  subst e2
  have := q vs hs
  rw [h1] at this; cases this
  exact ⟨F1, Nx.refl k, h2⟩
theorem draw_tup {G : Gc} {F : Addr → Prop} {H : Hp} {ds : List D} {vs : List V} {a : Addr} (h : TupAt G.K F H a vs) (dl : DenL G F H ds vs) : Draw G F H ds (Itt G.K a) := fun F1 H1 l k => by
  have hs : SqT G.K H1 a vs := (h.mono l).sq
  refine ⟨fun i x e => ?_, fun i hi => ⟨vs, hs, by rw [dl.length]; exact hi⟩⟩
  obtain ⟨v, h1, h2⟩ := (dl.mono l).get e
  refine ⟨⟨vs, v, hs, h1⟩, fun u H2 ⟨e2, q⟩ => ?_⟩
  subst e2
  have := q vs hs
  rw [h1] at this; cases this
  exact ⟨F1, Nx.refl k, h2⟩
theorem LstAt.of {K F H a vs} (f : F a) (h : H a = some (.lst vs)) : LstAt K F H a vs := .inl ⟨f, .inl h⟩
theorem i_seq {e : Expr} {d : Env → Res D} (h : PX X W e d) : PIt X W tg e (dItems d) :=
  pi_weak (pi_or (pi_list (tg := tg) h) (pi_tup (tg := tg) h)) fun σ H R ⟨fr, F, r, ok, p⟩ => by
    unfold dItems at p
    cases e : d r with
    | ok x r1 =>
      rw [e] at p
      cases x with
      | tup ds =>
        refine .inr ⟨fr, F, r, ok, ?_⟩
        rw [e]
        intro v H' F' ok' l' q'
        simp only [Den] at q'
        obtain ⟨a, vs, rfl, t, dl⟩ := q'
        exact ⟨a, rfl, ⟨vs, t.sq⟩, p _ H' F' ok' l' (draw_tup t dl)⟩
      | lst ds =>
        refine .inl ⟨fr, F, r, ok, ?_⟩
        rw [e]
        intro v H' F' ok' l' q'
        simp only [Den] at q'
        obtain ⟨a, vs, rfl, f, t, dl⟩ := q'
        exact ⟨a, rfl, ⟨vs, .of t⟩, p _ H' F' ok' l' (draw_list (.of f t) dl)⟩
      | frl ds =>
        refine .inl ⟨fr, F, r, ok, ?_⟩
        rw [e]
        intro v H' F' ok' l' q'
        simp only [Den] at q'
        obtain ⟨a, vs, rfl, t, dl⟩ := q'
        exact ⟨a, rfl, ⟨vs, t.sq⟩, p _ H' F' ok' l' (draw_list t dl)⟩
      | _ => exact (show False from p).elim
    | err x r1 =>
      rw [e] at p
      refine .inr ⟨fr, F, r, ok, ?_⟩
      rw [e]; exact p
    | bad => rw [e] at p; exact (show False from p).elim
def dIt (f : List D → Option (List D)) (ds : Env → Res (List D)) : Env → Res (List D) := fun r => (ds r).bind fun xs r => Res.ofL (f xs) r
/-- (by choice: nobody is to compute it) -/
noncomputable def inR (i : Int) : Bool := @decide (-(4611686018427387904) ≤ i ∧ i < 4611686018427387904) (Classical.propDecidable _)
def intsD (lo : Int) (n : Nat) : List D := (List.range n).map fun (k : Nat) => D.int (lo + (k : Int))
noncomputable def fRange1 : List D → Option (List D)
  | [.int j] => if inR j = true then some (intsD 0 j.toNat) else none
  | _ => none
noncomputable def fRange2 : List D → Option (List D)
  | [.int i, .int j] => if (inR i && inR j) = true then some (intsD i (j - i).toNat) else none
  | _ => none
theorem inR_ok {i : Int} (h : inR i = true) : -(2 ^ 62) ≤ i ∧ i < 2 ^ 62 := by
  unfold inR at h
  have h := @of_decide_eq_true _ (Classical.propDecidable _) h
  omega
theorem draw_range {G : Gc} {F : Addr → Prop} {H : Hp} {lo : Int} {n : Nat} : Draw G F H (intsD lo n) (Itr lo n) := fun F1 H1 l k => by
  refine ⟨fun i x e => ?_, fun i hi => by simp [intsD] at hi; exact hi⟩
  unfold intsD at e
  rw [List.getElem?_map] at e
  by_cases hi : i < n
  · rw [List.getElem?_range hi] at e
    cases e
    refine ⟨hi, fun u H2 ⟨e2, q⟩ => ?_⟩
    subst e2
    exact ⟨F1, Nx.refl k, by simp only [Den]; exact q⟩
  · rw [List.getElem?_eq_none (by simpa using hi)] at e; cases e
theorem res_ofL {G W fr F H σ r o} {β : Type} {R : (Addr → Prop) → Hp → List D → β → Prop} {Q : β → Hp → Prop} (p : Post G W R fr F H σ (Res.ofL o r) Q) : ∃ z, o = some z ∧ ∀ v H' F', Ok G fr F' H' σ r → Le F H F' H' → R F' H' z v → Q v H' := by
  cases o with
  | none => exact p.elim
  | some z => exact ⟨z, rfl, p⟩
theorem i_range1 {a : Expr} {ds : Env → Res (List D)} {p : Pos} (hg : Gl X "range") (hm : X.mg "range" = none) (ha : PL X W [a] ds) (hs : starEach [a] X.env = [(false, eval a X.env)] := by rfl) : PIt X W tg (.Call (.Name "range" p) [a] [] pos) (dIt fRange1 ds) :=
  pi_weak (pi_range1 hg hm ha hs) fun σ H R ⟨fr, F, r, ok, p⟩ => ⟨fr, F, r, ok, Post.seq p fun xs r1 vs H1 F1 ok1 l1 q1 p1 => by
    obtain ⟨z, e, g⟩ := res_ofL p1
    unfold fRange1 at e
    split at e
    · rename_i j
      simp only [DenL, Den] at q1
      obtain ⟨v, ws, rfl, rfl, rfl⟩ := q1
      split at e
      · rename_i h
        cases e
        have b := inR_ok h
        exact ⟨j, rfl, b.1, b.2, g _ H1 F1 ok1 Le.refl draw_range⟩
      · cases e
    · cases e⟩
theorem i_range2 {a b : Expr} {ds : Env → Res (List D)} {p : Pos} (hg : Gl X "range") (hm : X.mg "range" = none) (ha : PL X W [a, b] ds) (hs : starEach [a, b] X.env = [(false, eval a X.env), (false, eval b X.env)] := by rfl) (hs2 : starEach [b] X.env = [(false, eval b X.env)] := by rfl) :
    PIt X W tg (.Call (.Name "range" p) [a, b] [] pos) (dIt fRange2 ds) :=
  pi_weak (pi_range2 hg hm ha hs hs2) fun σ H R ⟨fr, F, r, ok, p⟩ => ⟨fr, F, r, ok, Post.seq p fun xs r1 vs H1 F1 ok1 l1 q1 p1 => by
    obtain ⟨z, e, g⟩ := res_ofL p1
    unfold fRange2 at e
    split at e
    · rename_i i j
      simp only [DenL, Den] at q1
      obtain ⟨v, ws, rfl, rfl, u, us, rfl, rfl, rfl⟩ := q1
      split at e
      · rename_i h
        rw [Bool.and_eq_true] at h
        cases e
        have b := inR_ok h.1
        have c := inR_ok h.2
        exact ⟨i, j, rfl, ⟨b.1, b.2, c.1, c.2⟩, g _ H1 F1 ok1 Le.refl draw_range⟩
      · cases e
    · cases e⟩
def enumD (ds : List D) : List D := ds.zipIdx.map fun p => .tup [.int (p.2 : Nat), p.1]
theorem enumD_get {ds : List D} {i : Nat} {x : D} (e : (enumD ds)[i]? = some x) : ∃ y, ds[i]? = some y ∧ x = .tup [.int (i : Nat), y] := by
  unfold enumD at e
  rw [List.getElem?_map, List.getElem?_zipIdx] at e
  cases h : ds[i]? with
  | none => rw [h] at e; cases e
  | some y => rw [h] at e; cases e; exact ⟨y, rfl, by simp⟩
theorem enumD_len (ds : List D) : (enumD ds).length = ds.length := by unfold enumD; simp
def fEnum : List D → Option (List D)
  | [x] => (itemsOf x).map enumD
  | _ => none
theorem nx_pair {G : Gc} {F : Addr → Prop} {H : Hp} {T : Addr} {i : Nat} {x : D} {v : V} (k : ∀ a, F a → H a ≠ none) (hT : H T = none) (d : Den G F H x v) :
    ∃ F2, Nx F H F2 (upd H T (.tup [.int (i : Nat), v])) ∧ Den G F2 (upd H T (.tup [.int (i : Nat), v])) (.tup [.int (i : Nat), x]) (.ref T) :=
  ⟨_, Nx.frz k hT, den_newt hT k (by simp only [DenL, Den]; exact ⟨_, _, rfl, rfl, _, _, rfl, d, rfl⟩)⟩
theorem i_enum {e : Expr} {ds : Env → Res (List D)} {p tpos : Pos} {elts : List Expr} {kk : Nat} (hg : Gl X "enumerate") (hm : X.mg "enumerate" = none) (ha : PL X W [e] ds) (hs : starEach [e] X.env = [(false, eval e X.env)] := by rfl) :
    PIt X W (.Tuple elts kk tpos) (.Call (.Name "enumerate" p) [e] [] pos) (dIt fEnum ds) :=
  pi_weak (pi_or (pi_enum hg hm ha hs) (pi_enumT hg hm ha hs)) fun σ H R ⟨fr, F, r, ok, p⟩ => by
    have lst : ∀ F1 H1 a vs ys, LstAt X.K F1 H1 a vs → DenL (gc X) F1 H1 ys vs → Draw (gc X) F1 H1 (enumD ys) (Ite X.K a) := fun F1 H1 a vs ys h dl F2 H2 l k => by
      have hs : SqL X.K H2 a vs := (h.mono l).sq
      refine ⟨fun i x e => ?_, fun i hi => ⟨vs, hs, by rw [dl.length, ← enumD_len]; exact hi⟩⟩
      obtain ⟨y, e1, rfl⟩ := enumD_get e
      obtain ⟨v, h1, h2⟩ := (dl.mono l).get e1
      refine ⟨⟨vs, v, hs, h1⟩, fun u H3 ⟨T, z, eu, hT, eH, q⟩ => ?_⟩
      have := q vs hs
      rw [h1] at this; cases this
      subst eu eH
      exact nx_pair k hT h2
    have tup : ∀ F1 H1 a vs ys, TupAt X.K F1 H1 a vs → DenL (gc X) F1 H1 ys vs → Draw (gc X) F1 H1 (enumD ys) (IteT X.K a) := fun F1 H1 a vs ys h dl F2 H2 l k => by
      have hs : SqT X.K H2 a vs := (h.mono l).sq
      refine ⟨fun i x e => ?_, fun i hi => ⟨vs, hs, by rw [dl.length, ← enumD_len]; exact hi⟩⟩
      obtain ⟨y, e1, rfl⟩ := enumD_get e
      obtain ⟨v, h1, h2⟩ := (dl.mono l).get e1
      refine ⟨⟨vs, v, hs, h1⟩, fun u H3 ⟨T, z, eu, hT, eH, q⟩ => ?_⟩
      have := q vs hs
      rw [h1] at this; cases this
      subst eu eH
      exact nx_pair k hT h2
    unfold dIt at p
    cases e : ds r with
    | ok xs r1 =>
      rw [e] at p
      match xs, p, e with
      | [.tup ys], p, e =>
        refine .inr ⟨fr, F, r, ok, ?_⟩
        rw [e]
        intro v H' F' ok' l' q'
        simp only [DenL, Den] at q'
        obtain ⟨u, us, rfl, ⟨a, vs, rfl, t, dl⟩, rfl⟩ := q'
        exact ⟨a, vs, rfl, t.sq, p _ H' F' ok' l' (tup F' H' a vs ys t dl)⟩
      | [.lst ys], p, e =>
        refine .inl ⟨fr, F, r, ok, ?_⟩
        rw [e]
        intro v H' F' ok' l' q'
        simp only [DenL, Den] at q'
        obtain ⟨u, us, rfl, ⟨a, vs, rfl, f, t, dl⟩, rfl⟩ := q'
        exact ⟨a, vs, rfl, .of t, p _ H' F' ok' l' (lst F' H' a vs ys (.of f t) dl)⟩
      | [.frl ys], p, e =>
        refine .inl ⟨fr, F, r, ok, ?_⟩
        rw [e]
        intro v H' F' ok' l' q'
        simp only [DenL, Den] at q'
        obtain ⟨u, us, rfl, ⟨a, vs, rfl, t, dl⟩, rfl⟩ := q'
        exact ⟨a, vs, rfl, t.sq, p _ H' F' ok' l' (lst F' H' a vs ys t dl)⟩
      | [], p, e => exact (show False from p).elim
      | [.non], p, e => exact (show False from p).elim
      | [.bl _], p, e => exact (show False from p).elim
      | [.int _], p, e => exact (show False from p).elim
      | [.str _], p, e => exact (show False from p).elim
      | [.ty _], p, e => exact (show False from p).elim
      | [.cl _], p, e => exact (show False from p).elim
      | [.exc _ _ _], p, e => exact (show False from p).elim
      | _ :: _ :: _, p, e => exact (show False from p).elim
    | err x r1 =>
      rw [e] at p
      refine .inr ⟨fr, F, r, ok, ?_⟩
      rw [e]; exact p
    | bad => rw [e] at p; exact (show False from p).elim

/-! ## for, while -/
def dForL (g : D → Env → Option Env) (b : Env → SRes) : List D → Env → SRes
  | [], r => .nx r
  | x :: xs, r => match g x r with
    | none => .bad
    | some r1 => match b r1 with
      | .nx r2 => dForL g b xs r2
      | .ct r2 => dForL g b xs r2
      | .bk r2 => .nx r2
      | m => m
def dFor (d : Env → Res (List D)) (g : D → Env → Option Env) (b : Env → SRes) : Env → SRes := fun r => (d r).toS fun xs r => dForL g b xs r
theorem s_for {iter : Expr} {body : List Stmt} {d : Env → Res (List D)} {g : D → Env → Option Env} {b : Env → SRes} (hp : PassesOwn (model X.prog X.w) X.A X.env X.xe) (hc : X.calm = true) (hi : PIt X W tg iter d) (hg : PGt X tg g) (hb : PTs X W body b)
    (hs : ∀ x, foldedSetIterable iter X.env x = pure x := by intro _; rfl) : PT1 X W (.For tg iter body [] pos) (dFor d g b) :=
  ps_weak (ps_for hp hc hi hg hb hs) fun E σ H ⟨fr, F, r, ok, p⟩ => ⟨fr, F, r, ok, Post.toS p fun xs r1 J H1 F1 ok1 l1 q1 p1 => by
    refine ⟨fun i m σ H2 => ∃ F2 r2, Ok (gc X) fr F2 H2 σ r2 ∧ Le F1 H1 F2 H2 ∧ i + m = xs.length ∧ PostS (gc X) W fr F2 H2 (dForL g b (xs.drop i) r2) E, ⟨xs.length, F1, r1, ok1, Le.refl, by omega, by simpa using p1⟩, fun i m σ2 H2 ⟨F2, r2, ok2, l2, em, p2⟩ => ?_⟩
    obtain ⟨go, stop⟩ := q1 F2 H2 l2 ok2.fin
    by_cases hi : i < xs.length
    · have ex : xs[i]? = some xs[i] := List.getElem?_eq_getElem hi
      obtain ⟨g1, g2⟩ := go i _ ex
      rw [List.drop_eq_getElem_cons hi] at p2
      refine .inr ⟨g1, fun σ3 H3 => ∃ F3 r3, Ok (gc X) fr F3 H3 σ3 r3 ∧ Le F1 H1 F3 H3 ∧ PostS (gc X) W fr F3 H3 (dForL g b (xs.drop (i + 1)) r3) E, fun σ3 H3 ⟨F3, r3, a1, a2, a3⟩ => ⟨m - 1, by omega, F3, r3, a1, a2, by omega, a3⟩, fun v H3 hy => ?_⟩
      obtain ⟨F3, n3, d3⟩ := g2 v H3 hy
      have l3 : Le F1 H1 F3 H3 := l2.trans (n3.toLe ok2.fin)
      have p3 := PostS.le (n3.toLe ok2.fin) p2
      unfold dForL at p3
      cases eg : g xs[i] r2 with
      | none => rw [eg] at p3; exact p3.elim
      | some r3 =>
        rw [eg] at p3
        refine ⟨fr, F3, r2, xs[i], ok2.next n3, d3, r3, eg, fun σ4 ok4 => ⟨fr, F3, r3, ok4, ?_⟩⟩
        simp only at p3
        cases eb : b r3 with
        | nx r4 =>
          rw [eb] at p3
          exact fun σ5 H5 F5 ok5 l5 => ⟨F5, r4, ok5, l3.trans l5, PostS.le l5 p3⟩
        | ct r4 =>
          rw [eb] at p3
          exact fun σ5 H5 F5 ok5 l5 => ⟨F5, r4, ok5, l3.trans l5, PostS.le l5 p3⟩
        | bk r4 => rw [eb] at p3; exact p3
        | rt x r4 => rw [eb] at p3; exact p3
        | rn x r4 => rw [eb] at p3; exact p3
        | err x r4 => rw [eb] at p3; exact p3
        | bad => rw [eb] at p3; exact p3
    · refine .inl ⟨stop i (by omega), ?_⟩
      rw [List.drop_eq_nil_of_le (by omega)] at p2
      exact p2 σ2 H2 F2 ok2 Le.refl⟩
def dWhile (t : Env → Res Bool) (b : Env → SRes) : Nat → Env → SRes
  | 0, _ => .bad
  | n + 1, r => (t r).toS fun c r => if c = true then (match b r with
      | .nx r => dWhile t b n r
      | .ct r => dWhile t b n r
      | .bk r => .nx r
      | m => m) else .nx r
theorem s_while (n : Nat) {c : Expr} {body : List Stmt} {t : Env → Res Bool} {b : Env → SRes} (hp : PassesOwn (model X.prog X.w) X.A X.env X.xe) (hc : PB X W c t) (hb : PTs X W body b) : PT1 X W (.While c body [] pos) (dWhile t b n) :=
  ps_weak (ps_while hp hc hb) fun E σ H ⟨fr, F, r, ok, p⟩ => by
    refine ⟨fun m σ H => ∃ fr F r, Ok (gc X) fr F H σ r ∧ PostS (gc X) W fr F H (dWhile t b m r) E, ⟨n, fr, F, r, ok, p⟩, fun m σ1 H1 ⟨fr, F1, r1, ok1, p1⟩ => ?_⟩
    cases m with
    | zero => exact p1.elim
    | succ m =>
      refine ⟨fr, F1, r1, ok1, Post.toS p1 fun c r2 v H2 F2 ok2 l2 q2 p2 => ?_⟩
      have q2 : v = c := q2
      subst q2
      cases v with
      | false => exact p2 σ1 H2 F2 ok2 Le.refl
      | true =>
        refine ⟨fun σ H => ∃ fr F r, Ok (gc X) fr F H σ r ∧ PostS (gc X) W fr F H (dWhile t b m r) E, fun σ' H' h => ⟨m, Nat.lt_succ_self m, h⟩, fr, F2, r2, ok2, ?_⟩
        simp only [if_true] at p2
        cases eb : b r2 with
        | nx r4 => rw [eb] at p2; exact fun σ5 H5 F5 ok5 l5 => ⟨fr, F5, r4, ok5, PostS.le l5 p2⟩
        | ct r4 => rw [eb] at p2; exact fun σ5 H5 F5 ok5 l5 => ⟨fr, F5, r4, ok5, PostS.le l5 p2⟩
        | bk r4 => rw [eb] at p2; exact p2
        | rt x r4 => rw [eb] at p2; exact p2
        | rn x r4 => rw [eb] at p2; exact p2
        | err x r4 => rw [eb] at p2; exact p2
        | bad => rw [eb] at p2; exact p2

/-! ## Open lists changed -/
def Res.ofV (o : Option (Val × Env)) : Res Val := match o with
  | some (x, r) => .ok x r
  | none => .bad
@[simp] theorem Res.ofV_some (x : Val) (r : Env) : Res.ofV (some (x, r)) = .ok x r := (rfl)
@[simp] theorem Res.ofV_none : Res.ofV none = .bad := (rfl)
/-- x.m(args), x an open list: what it gives and what the list is behind it -/
def dMut (j : Nat) (f : List D → List D → Option (D × List D)) (ds : Env → Res (List D)) : Env → Res Val := fun r => match getOpn r j with
  | none => .bad
  | some _ => (ds r).bind fun xs r => match getOpn r j with
    | none => .bad
    | some ys => match f ys xs with
      | some (z, zs) => .ok (.v z) (setOpn r j zs)
      | none => .bad
structure MOp (X : Cx) (id : String) (f : List D → List D → Option (D × List D)) : Prop where
  ex : ∃ rr, MtR X id rr ∧ ∀ F H ys xs z zs a ws vs Q, (∀ a, F a → H a ≠ none) → H a = some (.lst ws) → ¬ F a → DenL (gc X) F H ys ws → DenL (gc X) F H xs vs → f ys xs = some (z, zs) →
    (∀ us v, DenL (gc X) F H zs us → Den (gc X) F H z v → Q v (upd H a (.lst us))) → rr (.ref a) vs H Q
theorem mut_rd {id : String} {j : Nat} {f : List D → List D → Option (D × List D)} {ds : Env → Res (List D)} {rr : V → List V → Hp → VK → Prop}
    (h : ∀ F H ys xs z zs a ws vs Q, (∀ a, F a → H a ≠ none) → H a = some (.lst ws) → ¬ F a → DenL (gc X) F H ys ws → DenL (gc X) F H xs vs → f ys xs = some (z, zs) → (∀ us v, DenL (gc X) F H zs us → Den (gc X) F H z v → Q v (upd H a (.lst us))) → rr (.ref a) vs H Q)
    {σ : L2.St} {H : Hp} {Q : VK} (p : tV (gc X) W (dMut j f ds) σ H Q) : tBM X.K "list" rr (tVar j) (tR (gc X) W (DenL (gc X)) ds) σ H Q := by
  obtain ⟨fr, F, r, ok, p⟩ := p
  unfold dMut at p
  cases e : getOpn r j with
  | none => rw [e] at p; exact p.elim
  | some ys0 =>
    rw [e] at p
    obtain ⟨a, vs0, h1, h2, _⟩ := ok.opened e
    refine ⟨.ref a, h1, .inl ⟨rfl, vs0, .of h2⟩, fr, F, r, ok, Post.seqV p fun xs r1 vs H1 F1 ok1 l1 q1 p1 => ?_⟩
    cases e1 : getOpn r1 j with
    | none => rw [e1] at p1; exact (show False from p1).elim
    | some ys =>
      rw [e1] at p1
      obtain ⟨b, ws, g1, g2, g3, g4, g5⟩ := ok1.opened e1
      rw [h1] at g1; cases g1
      cases e2 : f ys xs with
      | none => simp only [e2] at p1; exact (show False from p1).elim
      | some zz =>
        obtain ⟨z, zs⟩ := zz
        simp only [e2] at p1
        refine h F1 H1 ys xs z zs a ws vs Q ok1.fin g2 g3 g4 q1 e2 fun us v d1 d2 => ?_
        obtain ⟨ok2, l2⟩ := g5 zs us d1
        exact p1 v _ F1 ok2 l2 (d2.mono l2)
theorem v_mut {id name : String} {j : Nat} {x : Str} {p apos : Pos} {e : Expr} {es : List Expr} {f : List D → List D → Option (D × List D)} {ds : Env → Res (List D)} (pa : PlainAttrs "list") (slot : PySem.Slot "list" name id) (hty : typeOf (.builtin id) = pure (.type "method_descriptor")) (hm : MOp X id f)
    (ho : PE X (.Name x p) (tVar j)) (ha : PL X W (e :: es) ds) (hbase : attributeBase (.Name x p) name X.env (eval (.Name x p) X.env) = eval (.Name x p) X.env := by rfl)
    (hfew : ((backTo pos (starEach (e :: es) X.env)).all (fun x => !x.1) && (backToKw pos (keywordEach [] X.env)).all (fun x => x.1.isSome) && decide ((e :: es).length + ([] : List Keyword).length + (if ([] : List Keyword).isEmpty then 0 else 1) < 30)) = true := by rfl)
    (hline : (apos.endLine == pos.line) = true := by rfl) (hs : starEach (e :: es) X.env = (false, eval e X.env) :: starEach es X.env := by rfl) (hplain : (backTo pos (starEach es X.env)).any (·.1) = false := by rfl) :
    PV X W (.Call (.Attribute (.Name x p) name apos) (e :: es) [] pos) (dMut j f ds) := by
  obtain ⟨rr, h1, h2⟩ := hm.ex
  exact pe_weak (pe_bm pa slot hty h1 ho ha hbase hfew hline hs hplain) fun σ H Q p => mut_rd (id := id) h2 p
theorem v_mut0 {id name : String} {j : Nat} {x : Str} {p apos : Pos} {f : List D → List D → Option (D × List D)} (pa : PlainAttrs "list") (slot : PySem.Slot "list" name id) (hty : typeOf (.builtin id) = pure (.type "method_descriptor")) (hm : MOp X id f)
    (ho : PE X (.Name x p) (tVar j)) (hbase : attributeBase (.Name x p) name X.env (eval (.Name x p) X.env) = eval (.Name x p) X.env := by rfl) (hline : (apos.endLine == pos.line) = true := by rfl) :
    PV X W (.Call (.Attribute (.Name x p) name apos) [] [] pos) (dMut j f dNil) := by
  obtain ⟨rr, h1, h2⟩ := hm.ex
  refine pe_weak (pe_bm0 pa slot hty h1 ho hbase hline) fun σ H Q p => ?_
  have q := mut_rd (id := id) h2 p
  obtain ⟨v, e1, ty, q⟩ := q
  refine ⟨v, e1, ty, ?_⟩
  obtain ⟨fr, F, r, ok, q⟩ := q
  exact q [] H F ok Le.refl (by simp only [DenL])
def mAppend : List D → List D → Option (D × List D) := fun ys xs => match xs with
  | [x] => if ys.length < 16777216 then some (.non, ys ++ [x]) else none
  | _ => none
theorem m_append : MOp X "list.append" mAppend := ⟨rAppend, mt_append, fun F H ys xs z zs a ws vs Q k ha na dy dx e q => by
  unfold mAppend at e
  split at e
  · rename_i x
    simp only [DenL] at dx
    obtain ⟨v, us, rfl, d, rfl⟩ := dx
    split at e
    · rename_i h
      cases e
      exact ⟨a, ws, v, rfl, rfl, ha, by rw [dy.length, line_eq]; exact h, q _ _ (dy.append (.one d)) (by simp only [Den])⟩
    · cases e
  · cases e⟩
def mPop : List D → List D → Option (D × List D) := fun ys xs => match xs, ys.getLast? with
  | [], some y => some (y, ys.dropLast)
  | _, _ => none
theorem m_pop : MOp X "list.pop" mPop := ⟨rPop, mt_pop, fun F H ys xs z zs a ws vs Q k ha na dy dx e q => by
  unfold mPop at e
  split at e
  · rename_i y h
    cases e
    simp only [DenL] at dx
    subst dx
    rw [List.getLast?_eq_getElem?] at h
    obtain ⟨v, h1, h2⟩ := dy.get h
    exact ⟨a, ws, v, rfl, rfl, ha, by rw [dy.length]; exact h1, q _ _ dy.dropLast h2⟩
  · cases e⟩
def mReverse : List D → List D → Option (D × List D) := fun ys xs => match xs with
  | [] => some (.non, ys.reverse)
  | _ => none
theorem m_reverse : MOp X "list.reverse" mReverse := ⟨rReverse, mt_reverse, fun F H ys xs z zs a ws vs Q k ha na dy dx e q => by
  unfold mReverse at e
  split at e
  · cases e
    simp only [DenL] at dx
    subst dx
    exact ⟨a, ws, rfl, rfl, ha, q _ _ dy.reverse (by simp only [Den])⟩
  · cases e⟩
end
end Py
end

section
set_option maxHeartbeats 2000000
namespace Py
open PySem PySem.Spec PyProof.Rows L2

/-! ## Defs: what a call gives, what it owes -/
inductive FRes where
  | ok (x : D) (o : List Slot) | okn (ds : List D) (o : List Slot) | err (e : D) (o : List Slot) | bad
abbrev Fn := List Slot → FRes
def outs : List Slot → Env → List Slot
  | [], _ => []
  | _ :: _, [] => []
  | .p _ :: as, s :: r => s :: outs as r
  | _ :: as, _ :: r => .un :: outs as r
theorem outs_p : ∀ {as : List Slot} {r : Env} {i : Nat} {ds : List D} {s : Slot}, as[i]? = some (.p ds) → r[i]? = some s → (outs as r)[i]? = some s
  | [], _, _, _, _, e, _ => by simp at e
  | _ :: _, [], _, _, _, _, e => by simp at e
  | a :: as, t :: r, 0, ds, s, e1, e2 => by
    simp only [List.getElem?_cons_zero, Option.some.injEq] at e1 e2
    subst e1; subst e2
    rfl
  | a :: as, t :: r, i + 1, ds, s, e1, e2 => by
    simp only [List.getElem?_cons_succ] at e1 e2
    have ih := outs_p e1 e2
    cases a <;> simpa [outs] using ih
def ArgOk (G : Gc) (F : Addr → Prop) (H : Hp) : Slot → V → Prop
  | .v d, v => Den G F H d v
  | .p ds, v => ∃ a ws, v = .ref a ∧ H a = some (.lst ws) ∧ ¬ F a ∧ DenL G F H ds ws
  | _, _ => False
structure ArgsOk (G : Gc) (F : Addr → Prop) (H : Hp) (args : List Slot) (vs : List V) : Prop where
  len : vs.length = args.length
  at_ : ∀ (i : Nat) (s : Slot), args[i]? = some s → ∃ v, vs[i]? = some v ∧ ArgOk G F H s v
  dis : ∀ (i j : Nat) (ds es : List D) (a : Addr), i ≠ j → args[i]? = some (.p ds) → args[j]? = some (.p es) → vs[i]? = some (.ref a) → vs[j]? = some (.ref a) → False
structure CallEnd (G : Gc) (F : Addr → Prop) (H : Hp) (F' : Addr → Prop) (H' : Hp) (args : List Slot) (vs : List V) (o : List Slot) : Prop where
  fin : ∀ a, F' a → H' a ≠ none
  le : Le F H F' H'
  born : ∀ a, F' a → F a ∨ H a = none
  same : ∀ a ob, H a = some ob → (∀ (i : Nat) ds, args[i]? = some (.p ds) → vs[i]? ≠ some (.ref a)) → H' a = some ob
  out : ∀ (i : Nat) ds a, args[i]? = some (.p ds) → vs[i]? = some (.ref a) → ∃ es ws, o[i]? = some (.p es) ∧ H' a = some (.lst ws) ∧ DenL G F' H' es ws
def spF (G : Gc) (n : Nat) (fn : Fn) : Sp := fun vs H Q E => ∃ F args, args.length = n ∧ (∀ a, F a → H a ≠ none) ∧ ArgsOk G F H args vs ∧ match fn args with
  | .ok x o => ∀ v H' F', CallEnd G F H F' H' args vs o → Den G F' H' x v → Q v H'
  | .okn ds o => ∀ a ws H' F', CallEnd G F H F' H' args vs o → H' a = some (.lst ws) → ¬ F' a → H a = none → DenL G F' H' ds ws → Q (.ref a) H'
  | .err x o => ∀ c dd H' F', CallEnd G F H F' H' args vs o → DenX G F' H' x c dd → E c dd H'
  | .bad => False
def runD (n : Nat) (body : Env → SRes) : Fn := fun args => match body (args ++ List.replicate (n - args.length) .un) with
  | .nx r => .ok .non (outs args r)
  | .rt x r => .ok x (outs args r)
  | .rn ds r => .okn ds (outs args r)
  | .err e r => .err e (outs args r)
  | _ => .bad
section
variable {G : Gc} {F F' : Addr → Prop} {H H' : Hp} {args : List Slot} {vs : List V} {n : Nat}
/-- the frame of a def's call -/
def frOf (F : Addr → Prop) (H : Hp) (args : List Slot) (vs : List V) : Fr where
  F0 := F
  H0 := H
  Z := fun a o => H a = some o ∧ ¬ F a ∧ ∀ (i : Nat) ds, args[i]? = some (.p ds) → vs[i]? ≠ some (.ref a)
  P := fun i a => (∃ ds, args[i]? = some (.p ds)) ∧ vs[i]? = some (.ref a)
theorem getElem?_rep {α : Type} {l : List α} {k : Nat} {x y : α} {i : Nat} (h : (l ++ List.replicate k x)[i]? = some y) : l[i]? = some y ∨ (l.length ≤ i ∧ y = x) := by
  by_cases hi : i < l.length
  · rw [List.getElem?_append_left hi] at h; exact .inl h
  · rw [List.getElem?_append_right (by omega)] at h
    by_cases hk : i - l.length < k
    · rw [List.getElem?_replicate, if_pos hk] at h; exact .inr ⟨by omega, (Option.some.inj h).symm⟩
    · rw [List.getElem?_eq_none (by simpa using hk)] at h; cases h
theorem Ok.enter {N : List Str} (k : ∀ a, F a → H a ≠ none) (A : ArgsOk G F H args vs) (hn : args.length ≤ N.length) : Ok G (frOf F H args vs) F H (L2.start N vs) (args ++ List.replicate (N.length - args.length) .un) := by
  have hs : ∀ i v, vs[i]? = some v → (L2.start N vs)[i]? = some (some v) := fun i v e => by
    have hi : i < vs.length := (List.getElem?_eq_some_iff.mp e).1
    unfold L2.start
    rw [List.getElem?_append_left (by simpa using hi), List.getElem?_map, e]; rfl
  have hs2 : ∀ i v, (L2.start N vs)[i]? = some (some v) → vs[i]? = some v := fun i v e => by
    unfold L2.start at e
    rcases getElem?_rep e with h | ⟨_, h⟩
    · rw [List.getElem?_map] at h
      cases q : vs[i]? with
      | none => rw [q] at h; cases h
      | some u => rw [q] at h; cases h; rfl
    · cases h
  have opn : ∀ (i : Nat) (s : Slot) (ds : List D), (args ++ List.replicate (N.length - args.length) .un)[i]? = some s → s.opn = some ds → ∃ es, args[i]? = some (.p es) := fun i s ds e o => by
    rcases getElem?_rep e with h | ⟨_, h⟩
    · obtain ⟨v, h1, h2⟩ := A.at_ i s h
      cases s with
      | p es => exact ⟨es, h⟩
      | o es => exact h2.elim
      | un => cases o
      | v d => cases o
    · subst h; cases o
  refine ⟨k, fun a h => ⟨h, rfl⟩, fun a o z => ⟨z.1, z.2.1⟩, ?_, fun i s e => ?_, fun i j s t ds es a hij e1 e2 o1 o2 q1 q2 => ?_, fun i a ⟨⟨ds, e⟩, q⟩ => ⟨hs i _ q, ds, ?_⟩⟩
  · unfold L2.start; simp; rw [A.len]
  · rcases getElem?_rep e with h | ⟨_, h⟩
    · obtain ⟨v, h1, h2⟩ := A.at_ i s h
      cases s with
      | un => trivial
      | v d => exact ⟨v, hs i v h1, h2⟩
      | o ds => exact h2.elim
      | p ds =>
        obtain ⟨a, ws, rfl, g1, g2, g3⟩ := h2
        exact ⟨a, ws, hs i _ h1, g1, g2, fun o z => z.2.2 i ds h h1, g3, ⟨ds, h⟩, h1⟩
    · subst h; trivial
  · obtain ⟨ds', x1⟩ := opn i s ds e1 o1
    obtain ⟨es', x2⟩ := opn j t es e2 o2
    exact A.dis i j ds' es' a hij x1 x2 (hs2 i _ q1) (hs2 j _ q2)
  · rw [List.getElem?_append_left (List.getElem?_eq_some_iff.mp e).1]; exact e
theorem Ok.leave {σ : L2.St} {r : Env} (ok : Ok G (frOf F H args vs) F' H' σ r) (l : Le F H F' H') : CallEnd G F H F' H' args vs (outs args r) where
  fin := ok.fin
  le := l
  born := fun a h => by
    by_cases hF : F a
    · exact .inl hF
    · cases e : H a with
      | none => exact .inr rfl
      | some o =>
        by_cases hp : ∃ (i : Nat) (ds : List D), args[i]? = some (.p ds) ∧ vs[i]? = some (.ref a)
        · obtain ⟨i, ds, h1, h2⟩ := hp
          obtain ⟨q1, es, q2⟩ := ok.par i a ⟨⟨ds, h1⟩, h2⟩
          obtain ⟨b, ws, z1, z2, z3, _⟩ := ok.sl i _ q2
          rw [q1] at z1; cases z1
          exact absurd h z3
        · exact absurd h (ok.prot a o ⟨e, hF, fun i ds h1 h2 => hp ⟨i, ds, h1, h2⟩⟩).2
  same := fun a ob e hp => by
    by_cases hF : F a
    · exact (l a hF).2.trans e
    · exact (ok.prot a ob ⟨e, hF, hp⟩).1
  out := fun i ds a e1 e2 => by
    obtain ⟨q1, es, q2⟩ := ok.par i a ⟨⟨ds, e1⟩, e2⟩
    obtain ⟨b, ws, z1, z2, z3, z4, z5, _⟩ := ok.sl i _ q2
    rw [q1] at z1; cases z1
    exact ⟨es, ws, outs_p e1 q2, z2, z5⟩
end
section
variable {P : Program} {w : World} {K : PySem.W.Frag} {mg : Str → Option Value} {base : Heap}
/-- a def's own wish about what leaves it -/
abbrev wD (E : XK) : WX := fun cls d _ H => E cls d H
theorem fn_ok {x qual : Str} {st : Stmt} {f : Addr} {fd : FuncData} {N ps : List Str} {k : Nat} {body : Env → SRes} (Fu : L2.Fun K x qual st f fd) (S : FnScope N ps (defScope st)) (hN : ps.length ≤ N.length)
    (hb : ∀ (cdv : Value) (A : Around) (outer : List PySem.Env) (s : Shared) (H : Hp) (E : XK), Room k (A.deeper (envOfC qual (defScope st) s.heap.objs.size f cdv)) → PTs (cxOf (L2.CX P w) P w K mg base N qual (defScope st) f cdv A outer s H E) (wD E) (defBody st) body) :
    FnOk P w K mg base (L2.CX P w) (k + 1) f fd ps (spF ⟨K, mg⟩ ps.length (runD N.length body)) := by
  refine Fu.okX S (fun vs H Q E h => ?_) (fun cdv A outer s H vs Q E hr h => ?_)
  · obtain ⟨F, args, h1, _, h2, _⟩ := h
    rw [h2.len, h1]
  · refine ⟨_, hb cdv A outer s H E hr, ?_⟩
    obtain ⟨F, args, h1, k0, h2, h3⟩ := h
    refine ⟨frOf F H args vs, F, args ++ List.replicate (N.length - args.length) Slot.un, Ok.enter (N := N) k0 h2 (by omega), ?_⟩
    unfold runD at h3
    cases e : body (args ++ List.replicate (N.length - args.length) .un) with
    | nx r => rw [e] at h3; exact fun σ' H' F' ok l => h3 .non H' F' (ok.leave l) (by simp only [Den])
    | rt x r => rw [e] at h3; exact fun v σ' H' F' ok l d => h3 v H' F' (ok.leave l) d
    | rn ds r =>
      rw [e] at h3
      intro v σ' H' F' ok l ⟨a, ws, ev, d1, d2, d3, d4, d5⟩
      subst ev
      refine h3 a ws H' F' (ok.leave l) d1 d2 ?_ d4
      cases q : H a with
      | none => rfl
      | some o =>
        by_cases hp : ∃ (i : Nat) (ds : List D), args[i]? = some (.p ds) ∧ vs[i]? = some (.ref a)
        · obtain ⟨i, ds', g1, g2⟩ := hp
          obtain ⟨q1, es, q2⟩ := ok.par i a ⟨⟨ds', g1⟩, g2⟩
          exact absurd q1 (d5 i _ es q2 rfl)
        · by_cases hF : F a
          · exact absurd (l a hF).1 d2
          · exact absurd ⟨q, hF, fun i ds' g1 g2 => hp ⟨i, ds', g1, g2⟩⟩ (d3 o)
    | err x r => rw [e] at h3; exact fun c dd σ' H' F' ok l d => h3 c dd H' F' (ok.leave l) d
    | bk r => rw [e] at h3; exact h3.elim
    | ct r => rw [e] at h3; exact h3.elim
    | bad => rw [e] at h3; exact h3.elim
end

/-! ## Calls of own defs -/
inductive Arg where
  | v (d : D) | s (j : Nat)
def RA (G : Gc) (σ : L2.St) (F : Addr → Prop) (H : Hp) : Arg → V → Prop
  | .v d, v => Den G F H d v
  | .s j, v => σ[j]? = some (some v)
def RAL (G : Gc) (σ : L2.St) (F : Addr → Prop) (H : Hp) : List Arg → List V → Prop
  | [], vs => vs = []
  | a :: as, vs => ∃ v ws, vs = v :: ws ∧ RA G σ F H a v ∧ RAL G σ F H as ws
theorem RA.mono {G σ F H F' H'} (l : Le F H F' H') : ∀ {a : Arg} {v : V}, RA G σ F H a v → RA G σ F' H' a v
  | .v _, _, h => Den.mono l h
  | .s _, _, h => h
def tA (G : Gc) (W : WX) (d : Env → Res (List Arg)) : TA := fun σ H Q => ∃ fr F r, Ok G fr F H σ r ∧ Post G W (RAL G σ) fr F H σ (d r) Q
def PLA (X : Cx) (W : WX) (es : List Expr) (d : Env → Res (List Arg)) : Prop := PA X es (tA (gc X) W d)
def argSlots (r : Env) : List Arg → Option (List Slot)
  | [] => some []
  | .v d :: as => (argSlots r as).map (.v d :: ·)
  | .s j :: as => (getOpn r j).bind fun ds => (argSlots r as).map (.p ds :: ·)
def Arg.ix : Arg → Option Nat
  | .s j => some j
  | _ => none
def putBack : List Arg → List Slot → Env → Env
  | .s j :: as, .p ds :: o, r => putBack as o (setOpn r j ds)
  | .s _ :: as, _ :: o, r => putBack as o r
  | .v _ :: as, _ :: o, r => putBack as o r
  | _, _, r => r
section
variable {X : Cx} {W : WX} {pos : Pos}
def aNil : Env → Res (List Arg) := fun r => .ok [] r
def aVal (d : Env → Res D) (ds : Env → Res (List Arg)) : Env → Res (List Arg) := fun r => (d r).bind fun x r => (ds r).bind fun xs r => .ok (.v x :: xs) r
def aOpn (j : Nat) (ds : Env → Res (List Arg)) : Env → Res (List Arg) := fun r => match getOpn r j with
  | none => .bad
  | some _ => (ds r).bind fun xs r => .ok (.s j :: xs) r
theorem a_nil : PLA X W [] aNil := pa_weak pa_nil fun σ H Q ⟨fr, F, r, ok, p⟩ => p [] H F ok Le.refl (by simp only [RAL])
theorem a_val {e : Expr} {es : List Expr} {d : Env → Res D} {ds : Env → Res (List Arg)} (h1 : PX X W e d) (h2 : PLA X W es ds) (hs : starEach (e :: es) X.env = (false, eval e X.env) :: starEach es X.env := by rfl) : PLA X W (e :: es) (aVal d ds) :=
  pa_weak (pa_cons h1 h2 hs) fun σ H Q ⟨fr, F, r, ok, p⟩ => ⟨fr, F, r, ok, Post.seq p fun x r1 v H1 F1 ok1 l1 q1 p1 => ⟨fr, F1, r1, ok1, Post.seq p1 fun y r2 u H2 F2 ok2 l2 q2 p2 =>
    p2 (v :: u) H2 F2 ok2 Le.refl (by simp only [RAL]; exact ⟨v, u, rfl, q1.mono l2, q2⟩)⟩⟩
theorem a_opn {j : Nat} {x : Str} {p : Pos} {es : List Expr} {ds : Env → Res (List Arg)} (h1 : PE X (.Name x p) (tVar j)) (h2 : PLA X W es ds) (hs : starEach (.Name x p :: es) X.env = (false, eval (.Name x p) X.env) :: starEach es X.env := by rfl) : PLA X W (.Name x p :: es) (aOpn j ds) :=
  pa_weak (pa_cons h1 h2 hs) fun σ H Q ⟨fr, F, r, ok, p⟩ => by
    unfold aOpn at p
    cases e : getOpn r j with
    | none => rw [e] at p; exact p.elim
    | some ys =>
      rw [e] at p
      obtain ⟨a, vs, g1, _⟩ := ok.opened e
      exact ⟨.ref a, g1, fr, F, r, ok, Post.seq p fun y r2 u H2 F2 ok2 l2 q2 p2 => p2 (.ref a :: u) H2 F2 ok2 Le.refl (by simp only [RAL]; exact ⟨_, u, rfl, g1, q2⟩)⟩
def dCall (fn : Fn) (ds : Env → Res (List Arg)) : Env → Res Val := fun r => (ds r).bind fun as r => if (as.filterMap Arg.ix).Nodup then (match argSlots r as with
  | none => .bad
  | some ss => match fn ss with
    | .ok x o => .ok (.v x) (putBack as o r)
    | .okn x o => .ok (.n x) (putBack as o r)
    | .err e o => .err e (putBack as o r)
    | .bad => .bad) else .bad
theorem argSlots_len {r : Env} : ∀ {as : List Arg} {ss : List Slot}, argSlots r as = some ss → ss.length = as.length
  | [], ss, h => by cases h; rfl
  | .v d :: as, ss, h => by
    unfold argSlots at h
    cases e : argSlots r as with
    | none => rw [e] at h; cases h
    | some tt => rw [e] at h; cases h; simp [argSlots_len e]
  | .s j :: as, ss, h => by
    unfold argSlots at h
    cases e0 : getOpn r j with
    | none => rw [e0] at h; cases h
    | some ds =>
      rw [e0] at h
      cases e : argSlots r as with
      | none => rw [e] at h; cases h
      | some tt => rw [e] at h; cases h; simp [argSlots_len e]
theorem argSlots_at {r : Env} : ∀ {as : List Arg} {ss : List Slot} {i : Nat} {a : Arg}, argSlots r as = some ss → as[i]? = some a → match a with
    | .v d => ss[i]? = some (.v d)
    | .s j => ∃ ds, getOpn r j = some ds ∧ ss[i]? = some (.p ds)
  | [], _, _, _, _, e => by simp at e
  | .v d :: as, ss, i, a, h, e => by
    unfold argSlots at h
    cases e1 : argSlots r as with
    | none => rw [e1] at h; cases h
    | some tt =>
      rw [e1] at h; cases h
      cases i with
      | zero => simp at e; subst e; simp
      | succ i => simpa using argSlots_at e1 (by simpa using e)
  | .s j :: as, ss, i, a, h, e => by
    unfold argSlots at h
    cases e0 : getOpn r j with
    | none => rw [e0] at h; cases h
    | some ds =>
      rw [e0] at h
      cases e1 : argSlots r as with
      | none => rw [e1] at h; cases h
      | some tt =>
        rw [e1] at h; cases h
        cases i with
        | zero => simp at e; subst e; exact ⟨ds, e0, by simp⟩
        | succ i => simpa using argSlots_at e1 (by simpa using e)
theorem RAL.get {G σ F H} : ∀ {as : List Arg} {vs : List V} {i : Nat} {a : Arg}, RAL G σ F H as vs → as[i]? = some a → ∃ v, vs[i]? = some v ∧ RA G σ F H a v
  | [], _, _, _, _, e => by simp at e
  | b :: as, vs, i, a, h, e => by
    simp only [RAL] at h
    obtain ⟨v, ws, rfl, h1, h2⟩ := h
    cases i with
    | zero => simp at e; subst e; exact ⟨v, by simp, h1⟩
    | succ i => simpa using RAL.get h2 (by simpa using e)
theorem RAL.len {G σ F H} : ∀ {as : List Arg} {vs : List V}, RAL G σ F H as vs → vs.length = as.length
  | [], _, h => by simp only [RAL] at h; subst h; rfl
  | b :: as, vs, h => by
    simp only [RAL] at h
    obtain ⟨v, ws, rfl, h1, h2⟩ := h
    simp [RAL.len h2]
theorem ix_inj : ∀ {as : List Arg} {i j k : Nat}, (as.filterMap Arg.ix).Nodup → as[i]? = some (.s k) → as[j]? = some (.s k) → i = j
  | [], _, _, _, _, e, _ => by simp at e
  | a :: as, i, j, k, h, e1, e2 => by
    have mem : ∀ {n : Nat}, as[n]? = some (.s k) → k ∈ as.filterMap Arg.ix := fun e => List.mem_filterMap.mpr ⟨_, List.mem_of_getElem? e, rfl⟩
    have tl : (as.filterMap Arg.ix).Nodup := by
      cases a with
      | v d => simpa [List.filterMap_cons, Arg.ix] using h
      | s m => have := h; simp only [List.filterMap_cons, Arg.ix, List.nodup_cons] at this; exact this.2
    cases i with
    | zero =>
      simp at e1; subst e1
      have hk : k ∉ as.filterMap Arg.ix := by have := h; simp only [List.filterMap_cons, Arg.ix, List.nodup_cons] at this; exact this.1
      cases j with
      | zero => rfl
      | succ j => exact absurd (mem (by simpa using e2)) hk
    | succ i =>
      cases j with
      | zero =>
        simp at e2; subst e2
        have hk : k ∉ as.filterMap Arg.ix := by have := h; simp only [List.filterMap_cons, Arg.ix, List.nodup_cons] at this; exact this.1
        exact absurd (mem (by simpa using e1)) hk
      | succ j => exact congrArg (· + 1) (ix_inj tl (by simpa using e1) (by simpa using e2))
theorem getOpn_set {r : Env} {j k : Nat} {ds : List D} (h : j ≠ k) : getOpn (setOpn r j ds) k = getOpn r k := by
  unfold setOpn
  split
  · unfold getOpn; rw [List.getElem?_set_ne h]
  · unfold getOpn; rw [List.getElem?_set_ne h]
  · rfl
end
end Py
end

section
set_option maxHeartbeats 2000000
namespace Py
open PySem PySem.Spec PyProof.Rows L2

/-- the slot with another content -/
def Slot.put (s : Slot) (es : List D) : Slot := match s with
  | .o _ => .o es
  | .p _ => .p es
  | s => s
theorem setOpn_at {r : Env} {j : Nat} {s : Slot} {ds es : List D} (e : r[j]? = some s) (o : s.opn = some ds) : (setOpn r j es)[j]? = some (s.put es) := by
  have hj : j < r.length := (List.getElem?_eq_some_iff.mp e).1
  unfold setOpn
  rw [e]
  cases s with
  | o _ => simp only; rw [List.getElem?_set_self hj]; rfl
  | p _ => simp only; rw [List.getElem?_set_self hj]; rfl
  | un => cases o
  | v _ => cases o
theorem setOpn_ne {r : Env} {j k : Nat} {es : List D} (h : j ≠ k) : (setOpn r j es)[k]? = r[k]? := by
  unfold setOpn
  split
  · rw [List.getElem?_set_ne h]
  · rw [List.getElem?_set_ne h]
  · rfl
theorem setOpn_len {r : Env} {j : Nat} {es : List D} : (setOpn r j es).length = r.length := by
  unfold setOpn; split <;> simp
theorem putBack_len : ∀ {as : List Arg} {o : List Slot} {r : Env}, (putBack as o r).length = r.length
  | [], _, _ => by simp [putBack]
  | .v _ :: as, [], r => by simp [putBack]
  | .s _ :: as, [], r => by simp [putBack]
  | .v _ :: as, _ :: o, r => by simp only [putBack]; exact putBack_len
  | .s j :: as, .p ds :: o, r => by simp only [putBack]; rw [putBack_len, setOpn_len]
  | .s j :: as, .v ds :: o, r => by simp only [putBack]; exact putBack_len
  | .s j :: as, .o ds :: o, r => by simp only [putBack]; exact putBack_len
  | .s j :: as, .un :: o, r => by simp only [putBack]; exact putBack_len
theorem putBack_out : ∀ {as : List Arg} {o : List Slot} {r : Env} {k : Nat}, k ∉ as.filterMap Arg.ix → (putBack as o r)[k]? = r[k]?
  | [], _, _, _, _ => by simp [putBack]
  | .v _ :: as, [], r, _, _ => by simp [putBack]
  | .s _ :: as, [], r, _, _ => by simp [putBack]
  | .v _ :: as, _ :: o, r, k, h => by simp only [putBack]; exact putBack_out (by simpa [List.filterMap_cons, Arg.ix] using h)
  | .s j :: as, s :: o, r, k, h => by
    simp only [List.filterMap_cons, Arg.ix, List.mem_cons, not_or] at h
    cases s with
    | p ds => simp only [putBack]; rw [putBack_out h.2, setOpn_ne (Ne.symm h.1)]
    | v _ => simp only [putBack]; exact putBack_out h.2
    | o _ => simp only [putBack]; exact putBack_out h.2
    | un => simp only [putBack]; exact putBack_out h.2
theorem putBack_at : ∀ {as : List Arg} {o : List Slot} {r : Env} {i k : Nat} {s : Slot} {ds es : List D}, (as.filterMap Arg.ix).Nodup → as[i]? = some (.s k) → o[i]? = some (.p es) → r[k]? = some s → s.opn = some ds → (putBack as o r)[k]? = some (s.put es)
  | [], _, _, _, _, _, _, _, _, e, _, _, _ => by simp at e
  | _ :: _, [], _, _, _, _, _, _, _, _, e, _, _ => by simp at e
  | .v _ :: as, t :: o, r, i, k, s, ds, es, h, e1, e2, e3, e4 => by
    simp only [putBack]
    cases i with
    | zero => simp at e1
    | succ i => exact putBack_at (by simpa [List.filterMap_cons, Arg.ix] using h) (by simpa using e1) (by simpa using e2) e3 e4
  | .s j :: as, t :: o, r, i, k, s, ds, es, h, e1, e2, e3, e4 => by
    simp only [List.filterMap_cons, Arg.ix, List.nodup_cons] at h
    cases i with
    | zero =>
      simp at e1 e2
      subst e1; subst e2
      simp only [putBack]
      rw [putBack_out h.1]
      exact setOpn_at e3 e4
    | succ i =>
      have e1' : as[i]? = some (.s k) := by simpa using e1
      have hk : j ≠ k := fun z => h.1 (z ▸ List.mem_filterMap.mpr ⟨_, List.mem_of_getElem? e1', rfl⟩)
      have ih := fun r (e3 : r[k]? = some s) => putBack_at (r := r) h.2 e1' (by simpa using e2) e3 e4
      cases t with
      | p fs => simp only [putBack]; exact ih _ (by rw [setOpn_ne hk]; exact e3)
      | v _ => simp only [putBack]; exact ih _ e3
      | o _ => simp only [putBack]; exact ih _ e3
      | un => simp only [putBack]; exact ih _ e3
section
variable {G : Gc} {fr : Fr} {F F' : Addr → Prop} {H H' : Hp} {σ : L2.St} {r : Env} {as : List Arg} {ss o : List Slot} {vs : List V}
theorem Ok.args (ok : Ok G fr F H σ r) (hn : (as.filterMap Arg.ix).Nodup) (e : argSlots r as = some ss) (q : RAL G σ F H as vs) : ArgsOk G F H ss vs where
  len := by rw [q.len, argSlots_len e]
  at_ := fun i s hs => by
    have hi : i < as.length := by rw [← argSlots_len e]; exact (List.getElem?_eq_some_iff.mp hs).1
    have ha : as[i]? = some as[i] := List.getElem?_eq_getElem hi
    obtain ⟨v, h1, h2⟩ := q.get ha
    have h3 := argSlots_at e ha
    refine ⟨v, h1, ?_⟩
    cases hq : as[i] with
    | v d => rw [hq] at h2 h3; simp only at h3; rw [hs] at h3; cases h3; exact h2
    | s j =>
      rw [hq] at h2 h3
      obtain ⟨ds, g1, g2⟩ := h3
      rw [hs] at g2; cases g2
      obtain ⟨a, ws, z1, z2, z3, z4, _⟩ := ok.opened g1
      have h2' : σ[j]? = some (some v) := h2
      rw [z1] at h2'; cases h2'
      exact ⟨a, ws, rfl, z2, z3, z4⟩
  dis := fun i j ds es a hij e1 e2 q1 q2 => by
    have key : ∀ {i : Nat} {ds : List D}, ss[i]? = some (.p ds) → vs[i]? = some (.ref a) → ∃ k, as[i]? = some (.s k) ∧ σ[k]? = some (some (V.ref a)) ∧ ∃ s, r[k]? = some s ∧ s.opn = some ds := fun {i ds} hs hv => by
      have hi : i < as.length := by rw [← argSlots_len e]; exact (List.getElem?_eq_some_iff.mp hs).1
      have ha : as[i]? = some as[i] := List.getElem?_eq_getElem hi
      obtain ⟨v, h1, h2⟩ := q.get ha
      rw [hv] at h1; cases h1
      have h3 := argSlots_at e ha
      cases hq : as[i] with
      | v d => rw [hq] at h3; simp only at h3; rw [hs] at h3; cases h3
      | s k =>
        rw [hq] at h2 h3 ha
        obtain ⟨ds', g1, g2⟩ := h3
        rw [hs] at g2; cases g2
        obtain ⟨s, x1, x2, _⟩ := getOpn_ok g1
        exact ⟨k, ha, h2, s, x1, x2⟩
    obtain ⟨k, a1, a2, s, a3, a4⟩ := key e1 q1
    obtain ⟨l, b1, b2, t, b3, b4⟩ := key e2 q2
    by_cases hkl : k = l
    · subst hkl; exact hij (ix_inj hn a1 b1)
    · exact ok.dis k l s t _ _ a hkl a3 b3 a4 b4 a2 b2
/-- behind the call -/
theorem Ok.called (ok : Ok G fr F H σ r) (hn : (as.filterMap Arg.ix).Nodup) (e : argSlots r as = some ss) (q : RAL G σ F H as vs) (c : CallEnd G F H F' H' ss vs o) : Ok G fr F' H' σ (putBack as o r) := by
  have l := c.le
  -- an open slot that was handed in
  have inn : ∀ {i k : Nat}, as[i]? = some (.s k) → ∃ a ds s, σ[k]? = some (some (V.ref a)) ∧ vs[i]? = some (.ref a) ∧ ss[i]? = some (.p ds) ∧ r[k]? = some s ∧ s.opn = some ds := fun {i k} ha => by
    obtain ⟨v, h1, h2⟩ := q.get ha
    obtain ⟨ds, g1, g2⟩ := argSlots_at e ha
    obtain ⟨a, ws, z1, _⟩ := ok.opened g1
    obtain ⟨s, x1, x2, _⟩ := getOpn_ok g1
    have h2' : σ[k]? = some (some v) := h2
    rw [z1] at h2'; cases h2'
    exact ⟨a, ds, s, z1, h1, g2, x1, x2⟩
  have par : ∀ {i : Nat} {ds : List D} {a : Addr}, ss[i]? = some (.p ds) → vs[i]? = some (.ref a) → ∃ k s, as[i]? = some (.s k) ∧ σ[k]? = some (some (V.ref a)) ∧ r[k]? = some s ∧ s.opn = some ds := fun {i ds a} hs hv => by
    have hi : i < as.length := by rw [← argSlots_len e]; exact (List.getElem?_eq_some_iff.mp hs).1
    have ha : as[i]? = some as[i] := List.getElem?_eq_getElem hi
    cases hq : as[i] with
    | v d =>
      rw [hq] at ha
      have h3 := argSlots_at e ha
      simp only at h3
      rw [hs] at h3; cases h3
    | s k =>
      rw [hq] at ha
      obtain ⟨b, ds', s, z1, z2, z3, z4, z5⟩ := inn ha
      rw [hv] at z2; cases z2
      rw [hs] at z3; cases z3
      exact ⟨k, s, ha, z1, z4, z5⟩
  -- what was not handed in
  have nf : ∀ a ob, H a = some ob → ¬ F a → ¬ F' a := fun a ob h1 h2 h3 => by
    rcases c.born a h3 with z | z
    · exact h2 z
    · rw [z] at h1; cases h1
  have same : ∀ {k : Nat} {s : Slot} {ds : List D} {a : Addr} {ob : HO}, r[k]? = some s → s.opn = some ds → σ[k]? = some (some (V.ref a)) → k ∉ as.filterMap Arg.ix → H a = some ob → H' a = some ob := fun {k s ds a ob} h1 h2 h3 h4 h5 =>
    c.same a ob h5 fun i es h6 h7 => by
      obtain ⟨k', s', g1, g2, g3, g4⟩ := par h6 h7
      by_cases hk : k = k'
      · subst hk; exact h4 (List.mem_filterMap.mpr ⟨_, List.mem_of_getElem? g1, rfl⟩)
      · exact ok.dis k k' s s' _ _ a hk h1 g3 h2 g4 h3 g2
  -- the new slots
  have new : ∀ (k : Nat) (s' : Slot), (putBack as o r)[k]? = some s' → (k ∉ as.filterMap Arg.ix ∧ r[k]? = some s') ∨ ∃ s ds es a ws, r[k]? = some s ∧ s.opn = some ds ∧ s' = s.put es ∧ σ[k]? = some (some (V.ref a)) ∧ H' a = some (.lst ws) ∧ DenL G F' H' es ws := fun k s' h => by
    by_cases hk : k ∈ as.filterMap Arg.ix
    · obtain ⟨b, hb, hb2⟩ := List.mem_filterMap.mp hk
      cases b with
      | v d => cases hb2
      | s j =>
        cases hb2
        obtain ⟨i, hi⟩ := List.getElem?_of_mem hb
        obtain ⟨a, ds, s, z1, z2, z3, z4, z5⟩ := inn hi
        obtain ⟨es, ws, y1, y2, y3⟩ := c.out i ds a z3 z2
        have := putBack_at hn hi y1 z4 z5
        rw [this] at h; cases h
        exact .inr ⟨s, ds, es, a, ws, z4, z5, rfl, z1, y2, y3⟩
    · rw [putBack_out hk] at h; exact .inl ⟨hk, h⟩
  have opn : ∀ {k : Nat} {s' : Slot} {es : List D}, (putBack as o r)[k]? = some s' → s'.opn = some es → ∃ s ds, r[k]? = some s ∧ s.opn = some ds := fun {k s' es} h1 h2 => by
    rcases new k s' h1 with ⟨_, h⟩ | ⟨s, ds, _, _, _, h3, h4, _⟩
    · exact ⟨s', es, h, h2⟩
    · exact ⟨s, ds, h3, h4⟩
  refine ⟨c.fin, fun a h => ?_, fun a ob z => ?_, by rw [putBack_len]; exact ok.len, fun k s' h => ?_, fun i j s t ds es a hij e1 e2 o1 o2 q1 q2 => ?_, fun i a hp => ?_⟩
  · obtain ⟨h1, h2⟩ := ok.grow a h
    exact ⟨(l a h1).1, (l a h1).2.trans h2⟩
  · obtain ⟨h1, h2⟩ := ok.prot a ob z
    refine ⟨c.same a ob h1 fun i ds g1 g2 => ?_, nf a ob h1 h2⟩
    obtain ⟨k, s, y1, y2, y3, y4⟩ := par g1 g2
    obtain ⟨ws, x1, x2, x3, _⟩ := ok.opn_at y3 y4 y2
    exact x3 ob z
  · rcases new k s' h with ⟨hk, h⟩ | ⟨s, ds, es, a, ws, h1, h2, h3, h4, h5, h6⟩
    · have z := ok.sl k s' h
      cases s' with
      | un => trivial
      | v d => obtain ⟨v, e1, e2⟩ := z; exact ⟨v, e1, e2.mono l⟩
      | o es =>
        obtain ⟨b, us, e1, e2, e3, e4, e5⟩ := z
        exact ⟨b, us, e1, same h rfl e1 hk e2, nf b _ e2 e3, e4, e5.mono l⟩
      | p es =>
        obtain ⟨b, us, e1, e2, e3, e4, e5, e6⟩ := z
        exact ⟨b, us, e1, same h rfl e1 hk e2, nf b _ e2 e3, e4, e5.mono l, e6⟩
    · obtain ⟨us, x1, x2, x3, _⟩ := ok.opn_at h1 h2 h4
      subst h3
      have z := ok.sl k s h1
      cases s with
      | un => cases h2
      | v _ => cases h2
      | o _ => exact ⟨a, ws, h4, h5, nf a _ x1 x2, x3, h6⟩
      | p _ =>
        obtain ⟨b, us', e1, _, _, _, _, e6⟩ := z
        rw [h4] at e1; cases e1
        exact ⟨a, ws, h4, h5, nf a _ x1 x2, x3, h6, e6⟩
  · obtain ⟨s0, ds0, g1, g2⟩ := opn e1 o1
    obtain ⟨t0, es0, g3, g4⟩ := opn e2 o2
    exact ok.dis i j s0 t0 ds0 es0 a hij g1 g3 g2 g4 q1 q2
  · obtain ⟨h1, ds, h2⟩ := ok.par i a hp
    refine ⟨h1, ?_⟩
    have hi : i < (putBack as o r).length := by rw [putBack_len]; exact (List.getElem?_eq_some_iff.mp h2).1
    rcases new i _ (List.getElem?_eq_getElem hi) with ⟨_, h⟩ | ⟨s, ds', es, b, ws, g1, g2, g3, _⟩
    · rw [h2] at h
      exact ⟨ds, by rw [List.getElem?_eq_getElem hi, ← Option.some.inj h]⟩
    · rw [h2] at g1; cases g1
      exact ⟨es, by rw [List.getElem?_eq_getElem hi, g3]; rfl⟩
end
section
variable {X : Cx} {W : WX} {pos : Pos}
theorem call_rd {n : Nat} {fn : Fn} {ds : Env → Res (List Arg)} {as : List Arg} {r1 : Env} {fr : Fr} {F : Addr → Prop} {H : Hp} {σ : L2.St} {vs : List V} {Q : VK} (ok : Ok (gc X) fr F H σ r1) (q : RAL (gc X) σ F H as vs) (hl : as.length = n)
    (p : PostV (gc X) W fr F H σ (if (as.filterMap Arg.ix).Nodup then (match argSlots r1 as with
      | none => .bad
      | some ss => match fn ss with
        | .ok x o => .ok (.v x) (putBack as o r1)
        | .okn x o => .ok (.n x) (putBack as o r1)
        | .err e o => .err e (putBack as o r1)
        | .bad => .bad) else .bad) Q) : spF (gc X) n fn vs H Q (WE W σ) := by
  split at p
  · rename_i hn
    cases es : argSlots r1 as with
    | none => rw [es] at p; exact p.elim
    | some ss =>
      rw [es] at p
      simp only at p
      refine ⟨F, ss, by rw [argSlots_len es]; exact hl, ok.fin, ok.args hn es q, ?_⟩
      cases ef : fn ss with
      | ok x o => rw [ef] at p; exact fun v H' F' c d => p v H' F' (ok.called hn es q c) c.le d
      | okn x o =>
        rw [ef] at p
        intro a ws H' F' c h1 h2 h3 h4
        refine p (.ref a) H' F' (ok.called hn es q c) c.le ⟨a, ws, rfl, h1, h2, fun ob z => ?_, h4, fun i s gs e1 e2 e3 => ?_⟩
        · have := (ok.prot a ob z).1; rw [h3] at this; cases this
        · have ok' := ok.called hn es q c
          -- an open slot behind the call was one ahead of it
          have hi : i < r1.length := by rw [← putBack_len (as := as) (o := o)]; exact (List.getElem?_eq_some_iff.mp e1).1
          have e4 : ∃ t hs, r1[i]? = some t ∧ t.opn = some hs := by
            by_cases hk : i ∈ as.filterMap Arg.ix
            · obtain ⟨b, hb, hb2⟩ := List.mem_filterMap.mp hk
              cases b with
              | v d => cases hb2
              | s j =>
                cases hb2
                obtain ⟨m, hm⟩ := List.getElem?_of_mem hb
                obtain ⟨ds', g1, g2⟩ := argSlots_at es hm
                obtain ⟨t, x1, x2, _⟩ := getOpn_ok g1
                exact ⟨t, _, x1, x2⟩
            · rw [putBack_out hk] at e1; exact ⟨s, gs, e1, e2⟩
          obtain ⟨t, hs, e5, e6⟩ := e4
          obtain ⟨us, x1, _⟩ := ok.opn_at e5 e6 e3
          rw [h3] at x1; cases x1
      | err x o => rw [ef] at p; exact fun c dd H' F' ce d => p c dd H' F' (ok.called hn es q ce) ce.le d
      | bad => rw [ef] at p; exact p.elim
  · exact p.elim
theorem v_call {k n : Nat} {f : Addr} {fd : FuncData} {ps : List Str} {fn : Fn} {x : Str} {p : Pos} {e : Expr} {es : List Expr} {ds : Env → Res (List Arg)} (Fo : FnOk X.prog X.w X.K X.mg X.base (L2.CX X.prog X.w) k f fd ps (spF ⟨X.K, X.mg⟩ n fn)) (hr : Room k X.A) (hg : Gl X x) (hm : X.mg x = some (.ref f)) (hk : PySem.W.keepIn X.K (.ref f) = true) (hb : Binds X.K fd ps []) (tk : Takes X W)
    (ha : PLA X W (e :: es) ds) (hl : (e :: es).length = n) (hdb : (x == ("__debug__" : Str)) = false := by decide) (he : starEach (e :: es) X.env = (false, eval e X.env) :: starEach es X.env := by rfl) (hpl : (backTo pos (starEach es X.env)).any (·.1) = false := by rfl)
    (hds : ∀ r as r', ds r = .ok as r' → as.length = n) : PV X W (.Call (.Name x p) (e :: es) [] pos) (dCall fn ds) :=
  pe_weak (pe_callSD (dvs := []) (E := WE W) Fo hr hg hm hk hb .nil (fun σ => passAt tk σ) ha hdb he hpl) fun σ H Q ⟨fr, F, r, ok, p⟩ => by
    refine ⟨fr, F, r, ok, ?_⟩
    unfold dCall at p
    cases e1 : ds r with
    | ok as r1 =>
      rw [e1] at p
      intro vs H1 F1 ok1 l1 q1
      rw [List.append_nil]
      exact call_rd (ds := ds) ok1 q1 (hds r as r1 e1) (PostV.le l1 p)
    | err x r1 => rw [e1] at p; exact p
    | bad => rw [e1] at p; exact p.elim
/-- argument lists have a fixed length -/
def ALen (ds : Env → Res (List Arg)) (n : Nat) : Prop := ∀ r as r', ds r = .ok as r' → as.length = n
theorem alen_nil : ALen aNil 0 := fun r as r' h => by cases h; rfl
theorem alen_val {d : Env → Res D} {ds : Env → Res (List Arg)} {n : Nat} (h : ALen ds n) : ALen (aVal d ds) (n + 1) := fun r as r' e => by
  unfold aVal at e
  cases e1 : d r with
  | ok x r1 =>
    rw [e1] at e
    simp only [Res.bind_ok] at e
    cases e2 : ds r1 with
    | ok xs r2 => rw [e2] at e; cases e; simp [h _ _ _ e2]
    | err _ _ => rw [e2] at e; cases e
    | bad => rw [e2] at e; cases e
  | err _ _ => rw [e1] at e; cases e
  | bad => rw [e1] at e; cases e
theorem alen_opn {j : Nat} {ds : Env → Res (List Arg)} {n : Nat} (h : ALen ds n) : ALen (aOpn j ds) (n + 1) := fun r as r' e => by
  unfold aOpn at e
  cases e1 : getOpn r j with
  | none => rw [e1] at e; cases e
  | some y =>
    rw [e1] at e
    simp only at e
    cases e2 : ds r with
    | ok xs r2 => rw [e2] at e; cases e; simp [h _ _ _ e2]
    | err _ _ => rw [e2] at e; cases e
    | bad => rw [e2] at e; cases e
end
end Py
end

section
set_option maxHeartbeats 4000000
namespace Py
open PySem PySem.Spec PyProof.Rows L2

/-! ## A caught exception is tracked from the clause on -/
section
variable {X : Cx} {pins : List (Addr × Obj)} {σ : L2.St} {H : Hp} {s : Shared}
theorem exk_ok {P : Program} {w : World} {h : Heap} {a : Addr} {cls : Value} {d : Option Addr} {oe : Obj} {vs : Array Value} (ha : h.get? a = some oe) (hz : Zc cls d oe) (hd : oe.data = .fields vs) : ObjOk P w H h a (ExK a cls d) :=
  ⟨⟨oe, vs, ha, hz, hd⟩, ⟨oe, ha⟩, fun _ _ ⟨o, v, q, z⟩ k => ⟨o, v, k o q, z⟩⟩
theorem adopt {a : Addr} {cls : Value} {d : Option Addr} {oe : Obj} {vs : Array Value} (I : Inv X pins σ H s) (ha : s.heap.get? a = some oe) (hz : Zc cls d oe) (hd : oe.data = .fields vs) (na : H a = none) (nL : a ≠ X.env.locals)
    (fr : X.s_0.heap.get? a = none) (np : ∀ p ∈ X.pn ++ pins, p.1 ≠ a) : Inv X pins σ (upd H a (ExK a cls d)) s := by
  have up : ∀ {b : Addr} {o : HO}, H b = some o → upd H a (ExK a cls d) b = some o := fun {b o} e => by rw [upd_ne (ne_of_none e na)]; exact e
  refine ⟨I.ok, I.os, I.bare, ⟨I.base.keep, I.base.slot, fun b o e n hx => ?_, I.base.there, fun b xs e => up (I.base.tups b xs e), fun b o u e => up (I.base.frzs b o u e), fun b ps e => ?_⟩, I.loc, I.cell, ?_, fun x c e => ?_, fun p hp => ?_, fun b o e => ?_, I.len⟩
  · have hb : b ≠ a := fun z => by rw [z, fr] at e; cases e
    rw [upd_ne hb]; exact I.base.free b o e n hx
  · obtain ⟨m, q⟩ := I.base.tbls b ps e
    exact ⟨m, up q⟩
  · rw [upd_ne (Ne.symm nL)]; exact I.free
  · have hc : c ≠ a := fun z => by
      obtain ⟨v, o, h1, h2⟩ := I.cell x c e
      rw [z, ha] at h1; cases h1
      rw [hd] at h2; cases h2
    rw [upd_ne hc]; exact I.freeC x c e
  · obtain ⟨h1, h2, h3, h4, h5⟩ := I.pin p hp
    exact ⟨h1, by rw [upd_ne (np p hp)]; exact h2, h3, h4, h5⟩
  · by_cases hb : b = a
    · subst hb
      rw [upd_same] at e; cases e
      exact exk_ok ha hz hd
    · rw [upd_ne hb] at e
      exact (I.hok b o e).stay (fun _ _ _ q => q) (fun c q => up q) fun c xs q => up q
theorem toSuite (I : Inv X pins σ H s) (a : Addr) : Inv (X.suite a (X.pn ++ pins)) [] σ H s :=
  ⟨I.ok.suite _ _, I.os, I.bare, I.base, I.loc, I.cell, I.free, I.freeC, fun p hp => I.pin p (by simpa using hp), I.hok, I.len⟩
theorem ofSuite {a : Addr} {pl : List (Addr × Obj)} (I : Inv (X.suite a (X.pn ++ pins)) pl σ H s) (ok : X.Ok) : Inv X pins σ H s :=
  ⟨ok, I.os, I.bare, I.base, I.loc, I.cell, I.free, I.freeC, fun p hp => I.pin p (List.mem_append_left _ hp), I.hok, I.len⟩
end
/-- what the clauses wish, the caught exception tracked -/
def wHds (K : PySem.W.Frag) (Wout : WX) (D : Ends) : List (Value × Option Nat × TS) → WX
  | [] => Wout
  | (c, none, ts) :: l => fun cls d σ H => ∃ b, PySem.W.exmOne K cls c = some b ∧ (b = true → ∀ a, H a = none → ts D σ (upd H a (ExK a cls d))) ∧ (b = false → wHds K Wout D l cls d σ H)
  | (c, some i, ts) :: l => fun cls d σ H => ∃ b, PySem.W.exmOne K cls c = some b ∧ (b = true → ∀ a, H a = none → ts { nx := fun σ' H' => D.nx (σ'.set i none) H', rt := D.rt, bk := fun σ' H' => D.bk (σ'.set i none) H', ct := fun σ' H' => D.ct (σ'.set i none) H' } (σ.set i (some (.ref a))) (upd H a (ExK a cls d))) ∧
      (b = false → wHds K Wout D l cls d σ H)
inductive HdsT (X : Cx) : List ExceptHandler → List (Value × Option Nat × TS) → Prop
  | nil : HdsT X [] []
  | plain {x : Str} {c : Value} {ts : TS} {b₀ : Stmt} {su : List Stmt} {np pp : Pos} {hds : List ExceptHandler} {l : List (Value × Option Nat × TS)} (hc : Names X x c) (hsu : ∀ a pn, PSs (X.suite a pn) (b₀ :: su) ts) (r : HdsT X hds l) :
      HdsT X (.ExceptHandler (some (.Name x np)) none (b₀ :: su) pp :: hds) ((c, none, ts) :: l)
  | named {x n : Str} {i : Nat} {c : Value} {ts : TS} {b₀ : Stmt} {su : List Stmt} {np pp : Pos} {hds : List ExceptHandler} {l : List (Value × Option Nat × TS)} (hi : X.N[i]? = some n) (hln : X.env.kindOf n = some .local) (hc : Names X x c) (hsu : ∀ a pn, PSs (X.suite a pn) (b₀ :: su) ts) (r : HdsT X hds l) :
      HdsT X (.ExceptHandler (some (.Name x np)) (some n) (b₀ :: su) pp :: hds) ((c, some i, ts) :: l)
section
variable {X : Cx} {body : List Stmt} {h₀ : ExceptHandler} {hds : List ExceptHandler} {l : List (Value × Option Nat × TS)} {pos : Pos} {tb : WX → TS} {Wout : WX}
theorem ps_try (hs : X.stack = X.env :: X.outer) (hf : X.env.frame = some X.env.locals) (hN : X.N.Nodup) (hex : X.ex = []) (tk : Takes X Wout)
    (hb : ∀ (W : WX) (pn : List (Addr × Obj)) (xe : Value → Shared → Prop), Takes (X.tr pn xe) W → PassesOwn (model X.prog X.w) X.A X.env xe → PSs (X.tr pn xe) body (tb W))
    (hh : HdsT X (h₀ :: hds) l) : PS X (.Try body (h₀ :: hds) [] [] pos) (fun D σ H => tb (wHds X.K Wout D l) D σ H) := by
  refine ⟨fun pins s σ H D I hyp => ?_⟩
  have ok := I.ok
  have hfr : X.A.frames = some (X.env :: X.outer) := by rw [ok.frames, hs]
  refine wpAny_Try_except ?_
  refine wpAny_mono ((hb (wHds X.K Wout D l) (X.pn ++ pins) (fun e s1 => wpAny (model X.prog X.w) X.A (noteFrame e X.env) (fun _ s2 => wpAny (model X.prog X.w) X.A (setFlight e none) (fun _ s3 => wpAny (model X.prog X.w) X.A
    (handleBy e X.env (h₀ :: hds)) (SP X pins D) X.xe s3) X.xe s2) X.xe s1) (fun u st xx => ?_) PassesOwn.looking).run [] s σ H D (I.toTry _) hyp) (fun f s1 hsp => ?_) (fun e s1 he => he)
  · obtain ⟨a, B, sI, pins', σ', H', cls, d, rfl, J', nb, up, sky, na, os, ag, w⟩ := xx
    have J : Inv X pins σ' H' sI := J'.ofTry ok
    have sky' : Sky B (X.env :: X.outer) a (Zc cls d) X.env.locals st.heap := by rw [← hs]; exact sky
    show wpAny (model X.prog X.w) X.A (noteFrame (.ref a) X.env) _ _ _
    refine Sky.land Zc.steady hfr hf sky' fun h3 fl3 up3 => ?_
    have J3 : Inv X pins σ' H' { st with heap := h3 } := J.landed nb fl3.1 (up.trans up3) os ag
    obtain ⟨oe3, vs3, he3, hz3, hd3⟩ := fl3.there
    have nfr : a ∉ frs (X.env :: X.outer) := fun hm => by
      obtain ⟨_, o1, e1, hnf⟩ := fl3.2.2.1.mem hm
      rw [he3] at e1; cases e1
      exact hnf _ hd3
    have nfrs : a ∉ frs X.stack := by rw [hs]; exact nfr
    have nL : a ≠ X.env.locals := fun z => nfr (List.mem_filterMap.mpr ⟨X.env, List.mem_cons_self, by rw [hf, z]⟩)
    have nB : B.get? a = none := fl3.2.1
    have fresh : X.s_0.heap.get? a = none := by
      cases q : X.s_0.heap.get? a with
      | none => rfl
      | some o =>
        obtain ⟨o2, q2⟩ := J.base.there a o q (by rw [hex]; simp)
        rw [nb a o2 q2 nfrs] at nB; cases nB
    have npin : ∀ p ∈ X.pn ++ pins, p.1 ≠ a := fun p hp z => by
      obtain ⟨g1, _, g3, g4, _⟩ := J.pin p hp
      have nf : p.1 ∉ frs X.stack := fun hm => by
        rcases List.mem_cons.mp (J.stkSub p.1 hm) with y | y
        · exact g3 y
        · exact g4 y
      have y := nb p.1 p.2 g1 nf
      rw [z, nB] at y; cases y
    -- the class test in the state at h3
    have T3 : ∀ {cl : Value} {b : Bool}, PySem.W.exmOne X.K cls cl = some b → PySem.W.Looks (model X.prog X.w) h3 (excMatches (.ref a) cl) b := fun {cl b} e =>
      PySem.W.exm_one (M := model X.prog X.w) J3.kIn (fun A Q E s k q => wpAny_typeOf_ref (k _ _ he3) (by rw [hz3.1]; exact q)) e
    have nm : ∀ {x : Str} {cl : Value} {np : Pos} {Q : Value → Shared → Prop} {E : Value → Shared → Prop}, Names X x cl → Q cl { st with heap := h3 } → wpAny (model X.prog X.w) (X.A.mark (some (.ref a))) (eval (.Name x np) X.env) Q E { st with heap := h3 } := fun {x cl np Q E} hc q => by
      obtain ⟨hg, hdbg, hm | ⟨hm, hv, hnn⟩⟩ := hc
      · exact ld_glob (X := X.suite a (X.pn ++ pins)) (toSuite J3 a) hg hm q hdbg
      · exact ld_blt (X := X.suite a (X.pn ++ pins)) (toSuite J3 a) hg hm hv q hnn hdbg
    have go : ∀ {hd' : List ExceptHandler} {l' : List (Value × Option Nat × TS)}, HdsT X hd' l' → wHds X.K Wout D l' cls d σ' H' → wpAny (model X.prog X.w) X.A (handleBy (.ref a) X.env hd') (SP X pins D) X.xe { st with heap := h3 } := by
      intro hd' l' hk
      induction hk with
      | nil =>
        intro w
        refine wpAny_handleBy_nil ?_
        obtain ⟨k1, k2, k3, oe, vs, TT, oT, ts', he, hz, hd, h1, hr⟩ := id fl3
        unfold PySem.passOn
        refine wpAny_bind (wpAny_field he hd h1 ?_)
        rw [if_neg (show ¬ ((Value.ref TT == Value.none) = true) from by simp)]
        have fin : wpAny (model X.prog X.w) X.A (setFlight (.ref a) X.env.frame) (fun _ s4 => wpAny (model X.prog X.w) X.A (throw (.ref a) : Sem Flow) (SP X pins D) X.xe s4) X.xe { st with heap := h3 } := by
          rw [hf]
          exact HandSPX.setFlight_upZ fl3 fun h4 hh4 up4 => wpAny_throw (tk _ _ ⟨a, B, sI, pins, σ', H', cls, d, rfl, J, nb, (up.trans up3).trans up4, .inr (.inr (by rw [hs]; exact hh4)), na, os, ag, w⟩)
        first
          | exact wpAny_bind (wpAny_pure (wpAny_bind fin))
          | exact wpAny_bind fin
      | @plain x c ts b₀ su np pp hds2 l2 hc hsu r ih =>
        intro w
        obtain ⟨b, hb1, hyes, hno⟩ := w
        refine wpAny_handleBy_cons (codeAny_handlers_test (nm hc ((T3 hb1).here ?_))) (by intro q; cases q)
        cases b with
        | true =>
          refine codeAny_handlers_suite (HandSPX.lands_againZ fl3 fun h4 fl4 up4 => ?_)
          have J4 : Inv X pins σ' H' { st with heap := h4 } := J.landed nb fl4.1 ((up.trans up3).trans up4) os ag
          obtain ⟨oe4, vs4, he4, hz4, hd4⟩ := fl4.there
          have K4 := adopt J4 he4 hz4 hd4 na nL fresh npin
          refine wpAny_mono ((hsu a (X.pn ++ pins)).run [] _ _ _ D (toSuite K4 a) (hyes rfl a na)) (fun f s6 hsp => ?_) (fun _ _ z => False.elim z)
          cases f with
          | next => obtain ⟨σ6, H6, S6, q6⟩ := hsp; exact ⟨_, _, ofSuite S6 ok, q6⟩
          | brk => obtain ⟨σ6, H6, S6, q6⟩ := hsp; exact ⟨_, _, ofSuite S6 ok, q6⟩
          | cont => obtain ⟨σ6, H6, S6, q6⟩ := hsp; exact ⟨_, _, ofSuite S6 ok, q6⟩
          | ret u => obtain ⟨v6, σ6, H6, S6, r6, q6⟩ := hsp; exact ⟨_, _, _, ofSuite S6 ok, r6, q6⟩
        | false =>
          show wpAny _ X.A (handleBy (.ref a) X.env hds2) _ _ _
          exact ih (hno rfl)
      | @named x n i c ts b₀ su np pp hds2 l2 hi hln hc hsu r ih =>
        intro w
        obtain ⟨b, hb1, hyes, hno⟩ := w
        refine wpAny_handleBy_cons (codeAny_handlers_test (nm hc ((T3 hb1).here ?_))) (by intro q; cases q)
        cases b with
        | true =>
          refine codeAny_handlers_suite_as (HandSPX.lands_againZ fl3 fun h4 fl4 up4 => ?_)
          have J4 : Inv X pins σ' H' { st with heap := h4 } := J.landed nb fl4.1 ((up.trans up3).trans up4) os ag
          obtain ⟨oe4, vs4, he4, hz4, hd4⟩ := fl4.there
          have K4 := adopt J4 he4 hz4 hd4 na nL fresh npin
          refine store_ok (X := X.suite a (X.pn ++ pins)) (v := .ref a) (toSuite K4 a) hN hi (.inl hln) rfl (fun s5 S5 => ?_) (.inr hln)
          refine wpAny_mono ((hsu a (X.pn ++ pins)).run [] s5 _ _ _ S5 (hyes rfl a na)) (fun f s6 hsp => ?_) (fun _ _ z => False.elim z)
          have fin : ∀ {σ6 : L2.St} {H6 : Hp} {Q : Shared → Prop}, Inv (X.suite a (X.pn ++ pins)) [] σ6 H6 s6 → (∀ s7, Inv X pins (σ6.set i none) H6 s7 → Q s7) →
              wpAny (model X.prog X.w) X.A (do bindName X.env n .none; unbindBehindTheSuite X.env n pp) (fun _ s7 => Q s7) X.xe s6 := fun {σ6 H6 Q} S6 hq => gone_ok (ofSuite S6 ok) hN hi hln hq
          cases f with
          | next => obtain ⟨σ6, H6, S6, q6⟩ := hsp; exact fin S6 fun s7 J7 => ⟨_, _, J7, q6⟩
          | brk => obtain ⟨σ6, H6, S6, q6⟩ := hsp; exact fin S6 fun s7 J7 => ⟨_, _, J7, q6⟩
          | cont => obtain ⟨σ6, H6, S6, q6⟩ := hsp; exact fin S6 fun s7 J7 => ⟨_, _, J7, q6⟩
          | ret u => obtain ⟨v6, σ6, H6, S6, r6, q6⟩ := hsp; exact fin S6 fun s7 J7 => ⟨_, _, _, J7, r6, q6⟩
        | false =>
          show wpAny _ X.A (handleBy (.ref a) X.env hds2) _ _ _
          exact ih (hno rfl)
    exact go hh w
  · cases f with
    | next => obtain ⟨σ', H', J', q⟩ := hsp; exact wpAny_execs_nil ⟨σ', H', J'.ofTry ok, q⟩
    | brk => obtain ⟨σ', H', J', q⟩ := hsp; exact ⟨σ', H', J'.ofTry ok, q⟩
    | cont => obtain ⟨σ', H', J', q⟩ := hsp; exact ⟨σ', H', J'.ofTry ok, q⟩
    | ret u => obtain ⟨v, σ', H', J', r, q⟩ := hsp; exact ⟨v, σ', H', J'.ofTry ok, r, q⟩
end
end Py
end

section
set_option maxHeartbeats 4000000
/-! isinstance of an exception of an own class that has its dict -/
namespace PySem.W
open PySem PySem.Spec PySem.Calls PyProof.Rows
section
variable {prog : Program} {w : World} {A : Around} {E : Value → Shared → Prop} {s : Shared} {K : Frag} {x Dc : Addr} {ox : Obj} {od : Option Obj}
theorem px_find {C : Addr} {nm : Str} {av gv : Value} (c1 : (clsIn K C).isSome = true) (c2 : findIn K (.ref C) nm = some (some av)) (c3 : specialIn K av "__get__" = some (some gv)) (c4 : takesIn K av = some true) : findObj K C od nm = some (.bind gv av) := by
  obtain ⟨cd, e⟩ := Option.isSome_iff_exists.mp c1
  unfold findObj
  rw [e, Option.bind_some, c2, Option.bind_some]
  simp [c3, c4]
structure PxC (K : Frag) (Dc : Addr) : Prop where
  ga : findIn K (.ref Dc) "__getattribute__" = some (some (.builtin "BaseException.__getattribute__"))
  gt : findIn K (.ref Dc) "__getattr__" = some none
  sb : subIn K (.ref Dc) (.type "BaseException") = some true
  dc : hasDictIn K Dc = true
  cl : findIn K (.ref Dc) "__class__" = some (some (.builtin "object.__class__"))
  sp : specialIn K (.builtin "object.__class__") "__get__" = some (some (.builtin "getset_descriptor.__get__"))
  tk : takesIn K (.builtin "object.__class__") = some true
  mr : mroIn K Dc (.type "object") = some true
theorem px_class {Q : Option Value → Shared → Prop} (P : PxC K Dc) (X : K.In s.heap) (I : InstAt s.heap x ox Dc od) (hq : Q (some (.ref Dc)) { s with toks := s.toks + 1 }) : wpAny (model prog w) A (getAttr? (.ref x) "__class__") Q E s := by
  have ff : findObj K Dc od "__class__" = some (.bind (.builtin "getset_descriptor.__get__") (.builtin "object.__class__")) := px_find (by obtain ⟨cd, hc, _⟩ := any_some P.dc; rw [hc]; rfl) P.cl P.sp P.tk
  obtain ⟨hp, gg, dd, tt, oss⟩ := s
  have M0 := I.type (M := model prog w)
  have M1 := looks_findIn (M := model prog w) X P.ga
  have M2 := looks_findIn (M := model prog w) X P.gt
  have M3 := looks_find (M := model prog w) X I ff
  have isx : Looks (model prog w) hp (isInstance (.ref x) (.type "BaseException")) true := M0.andThen (looks_subIn X P.sb)
  have z0 : (false && onTheHeap (Value.builtin "BaseException.__getattribute__")) = false := rfl
  have z2 : (Value.builtin "BaseException.__getattribute__" == Value.builtin "object.__getattribute__") = false := by decide +kernel
  have z1 : (onTheHeap (Value.ref Dc) && Value.builtin "BaseException.__getattribute__" == Value.builtin "object.__getattribute__") = false := by rw [z2]; rfl
  unfold getAttr? getAttrBy? getAttrBy
  refine wpAny_bind (wpAny_mkText (wpAny_bind (wpAny_attempt (wpAny_holding (wpAny_bind (M0.at (wpAny_bind (M1.at ?_))))))))
  show wpAny _ _ (if (onTheHeap (Value.ref Dc) && Value.builtin "BaseException.__getattribute__" == Value.builtin "object.__getattribute__") = true then _ else _) _ _ _
  rw [z1, if_neg Bool.false_ne_true]; unfold getAttrByItsOwn hookBefore
  refine wpAny_bind ?_
  rw [if_pos (show onTheHeap (Value.ref Dc) = true from rfl)]
  refine M2.at (wpAny_bind (wpAny_attempt (wpAny_holding ?_)))
  unfold callGetattribute; rw [z0, if_neg Bool.false_ne_true]
  unfold boundAndCalled; rw [PySem.F.excAttr_ValueError.ga.bind (.ref x)]
  refine wpAny_bind (wpAny_pure ?_)
  show wpAny _ _ (call (.builtin "BaseException.__getattribute__") [.ref x, .str "__class__" tt]) _ _ _
  refine wpAny_call (codeAny_call_builtin PySem.F.excAttr_ValueError.ga.plain PySem.F.entry_bexc_ga (@check_slot (model prog w) _ _ ⟨hp, gg, dd, tt + 1, oss⟩ "BaseException.__getattribute__" "BaseException" "__getattribute__" (.ref x) [.str "__class__" tt] [] _ (by decide +kernel) (by decide +kernel) isx (PySem.F.args_bexc_ga (.ref x) (.str "__class__" tt)) ?_))
  unfold Builtin.«object.__getattribute__»
  refine wpAny_bind (wpAny_of_eq (a := ((Value.ref x : Value), [Value.str "__class__" tt])) (by first | rfl | (simp only [slotArgs]; rfl)) (wpAny_bind (wpAny_pure (wpAny_bind (M0.at (wpAny_bind (M3.at ?_)))))))
  show wpAny _ _ (holding [Value.builtin "object.__class__"] (call (.builtin "getset_descriptor.__get__") [.builtin "object.__class__", .ref x, .ref Dc]) >>= ret) _ _ _
  refine wpAny_bind (wpAny_holding (wpAny_call (class_get (s := ⟨hp, gg, dd, tt + 1, oss⟩) (ox := ox) (od := od) X I P.mr (wpAny_pure ?_))))
  show wpAny _ _ (handedOut (.ref Dc)) _ _ _
  rw [handedOut_of (v := .ref Dc) rfl]
  first
    | exact wpAny_pure (wpAny_pure hq)
    | exact wpAny_pure hq
    | exact wpAny_pure (wpAny_bind (wpAny_pure (wpAny_pure hq)))
theorem px_kit (P : PxC K Dc) : KitX K (.ref x) (.ref Dc) (fun h => ∃ ox od, InstAt h x ox Dc od) where
  ty := fun _ _ _ ⟨_, _, I⟩ => I.type
  it := fun _ _ X _ => by
    obtain ⟨cdD, hcD, _⟩ := any_some P.dc
    unfold clsIn at hcD
    split at hcD
    · rename_i c' d' cd' sl' ho
      intro A' Q' E' s' k q
      unfold isType loadHead
      exact wpAny_bind (wpAny_loadPart (k _ _ (X _ _ ho)) (wpAny_pure q))
    · cases hcD
  ne := fun h tp dd its n sl X htp => by
    obtain ⟨cdD, hcD, _⟩ := any_some P.dc
    refine Bool.eq_false_iff.mpr fun q => ?_
    have e : Dc = tp := Value.ref.inj (beq_iff_eq.mp q)
    subst e
    unfold clsIn at hcD
    split at hcD
    · rename_i c' d' cd' sl' ho
      have z := (X _ _ ho).symm.trans htp
      cases z
    · cases hcD
  ca := fun X ⟨_, _, I⟩ k => px_class P X I k
end
end PySem.W
namespace Py
open PySem PySem.Spec PyProof.Rows L2
section
variable {X : Cx} {pins : List (Addr × Obj)} {σ : L2.St} {H : Hp} {s : Shared}
theorem exk_inst {a C dd : Addr} {fs : List (Str × V)} (I : Inv X pins σ H s) (h : H a = some (ExK a (.ref C) (some dd))) (hd : H dd = some (.xd fs)) :
    ∃ (oe od : Obj) (mA : Str → Option Value), PySem.W.InstAt s.heap a oe C (some od) ∧ (∀ name, PySem.W.lookIn name od = some (mA name)) ∧ ∀ f, RelO (fs.lookup f) (mA f) := by
  have q : ObjOk X.prog X.w H s.heap a (.ext fun h => ∃ oe vs, h.get? a = some oe ∧ Zc (.ref C) (some dd) oe ∧ oe.data = .fields vs) := I.hok a _ h
  obtain ⟨⟨oe, vs, e1, e2, e3⟩, _⟩ := q
  have hx : ObjOk X.prog X.w H s.heap dd (.xd fs) := I.hok dd _ hd
  obtain ⟨mA, hns, hr⟩ := hx
  obtain ⟨od, ho, hl⟩ := lookIn_ns hns
  exact ⟨oe, od, mA, ⟨e1, e2.1, by unfold PySem.W.notCls; rw [e3] <;> rfl, by rw [e2.2]; exact ho⟩, hl, hr⟩
/-- e.f, e a caught exception -/
def tXat (K : PySem.W.Frag) (te : TE) (f : Str) : TE := fun σ H Q => te σ H fun x H1 => ∃ a C dd fs v, x = .ref a ∧ PySem.W.PxC K C ∧ PySem.W.findIn K (.ref C) f = some none ∧ H1 a = some (ExK a (.ref C) (some dd)) ∧ H1 dd = some (.xd fs) ∧ fs.lookup f = some v ∧ Q v H1
theorem pe_xat {e : Expr} {te : TE} {f : Str} {pos : Pos} (he : PE X e te) (hb : attributeBase e f X.env (eval e X.env) = eval e X.env := by rfl) : PE X (.Attribute e f pos) (tXat X.K te f) := by
  refine ⟨fun pins s σ H Q I h => attr_of hb (thn (he.run pins s σ H _ I h) fun u s1 hh => ?_)⟩
  obtain ⟨x, H1, I1, rx, a, C, dd, fs, v, ex, P, hno, ha, hd, l, q⟩ := hh
  subst ex
  obtain rfl : u = Value.ref a := rx
  obtain ⟨oe, od, mA, J, hl, hr⟩ := exk_inst I1 ha hd
  obtain ⟨u, hu, ru⟩ := RelO.some_of (v := v) (o := mA f) (by rw [← l]; exact hr f)
  exact HandSPX.exc_get I1.kIn J P.ga P.gt P.sb (PySem.W.findObj_own P.dc hno rfl (by rw [hl, hu])) (handed_of ru) ⟨v, H1, I1.tok _, ru, q⟩
/-- isinstance(e, c), isinstance(e, (c1, ..)) -/
def rIsX (K : PySem.W.Frag) : List V → Hp → VK → Prop := fun xs H Q => ∃ a C dd fs c u b, xs = [.ref a, c] ∧ PySem.W.PxC K C ∧ H a = some (ExK a (.ref C) (some dd)) ∧ H dd = some (.xd fs) ∧ ClsV c u ∧ PySem.W.kitOne K (.ref C) u = some b ∧ Q (.bl b) H
def rIsXT (K : PySem.W.Frag) : List V → Hp → VK → Prop := fun xs H Q => ∃ a C dd fs tp cs us b, xs = [.ref a, .ref tp] ∧ PySem.W.PxC K C ∧ H a = some (ExK a (.ref C) (some dd)) ∧ H dd = some (.xd fs) ∧ H tp = some (.tup cs) ∧ Paired ClsV cs us ∧ PySem.W.kitAny K (.ref C) us = some b ∧ Q (.bl b) H
theorem call_isX : CallR X (.builtin "isinstance") (rIsX X.K) := by
  intro pins s σ H xs us Q I r h
  obtain ⟨a, C, dd, fs, c, u, b, rfl, P, ha, hd, k, e, q⟩ := h
  obtain ⟨u1, u2, rfl, r1, r2⟩ := vals2 r
  have e2 := k.eq r2
  subst e2
  cases (show u1 = Value.ref a from r1)
  obtain ⟨oe, od, _, J, _⟩ := exk_inst I ha hd
  exact PySem.W.kia_one (PySem.W.px_kit P) I.kIn ⟨oe, _, J⟩ e (fun z => nomatch z) fun tk => ⟨.bl b, H, I.tok tk, rfl, q⟩
theorem call_isXT : CallR X (.builtin "isinstance") (rIsXT X.K) := by
  intro pins s σ H xs us Q I r h
  obtain ⟨a, C, dd, fs, tp, cs, ws, b, rfl, P, ha, hd, hT, k, e, q⟩ := h
  obtain ⟨u1, u2, rfl, r1, r2⟩ := vals2 r
  cases (show u2 = Value.ref tp from r2)
  cases (show u1 = Value.ref a from r1)
  obtain ⟨_, its, rv, o, h1, h2, n, h3⟩ := (show ObjOk X.prog X.w H s.heap tp (.tup cs) from I.hok tp _ hT)
  have e3 := ClsV.all k rv
  subst e3
  obtain ⟨oc, od', dt, sl⟩ := o
  simp only at h2 h3
  subst h2 h3
  obtain ⟨oe, od, _, J, _⟩ := exk_inst I ha hd
  exact PySem.W.kia_tup (PySem.W.px_kit P) I.kIn ⟨oe, _, J⟩ h1 e (fun z => nomatch z) fun tk => ⟨.bl b, H, I.tok tk, rfl, q⟩
end
end Py
end

section
set_option maxHeartbeats 4000000
namespace Py
open PySem PySem.Spec PyProof.Rows L2

/-! ## Own exception classes: a table of names and what stands above each -/
abbrev Tbl := List (Str × List Str)
structure ExcT (K : PySem.W.Frag) (mg : Str → Option Value) (T : Tbl) : Prop where
  all : ∀ n anc, T.lookup n = some anc → ∃ C, mg n = some (.ref C) ∧ PySem.W.PxC K C ∧
    (∀ m anc', T.lookup m = some anc' → ∀ D, mg m = some (.ref D) → PySem.W.kitOne K (.ref C) (.ref D) = some (anc.contains m) ∧ PySem.W.exmOne K (.ref C) (.ref D) = some (anc.contains m)) ∧
    (∀ t : Ty, PySem.W.kitOne K (.ref C) (.type t.nm) = some (t == .verr)) ∧ (∀ t : Ty, t ≠ .verr → PySem.W.kitOne K (.type t.nm) (.ref C) = some false)
def tyOf : D → Option Ty
  | .non => some .non
  | .bl _ => some .bool
  | .int _ => some .int
  | .str _ => some .str
  | .tup _ => some .tup
  | .lst _ => some .lst
  | .frl _ => some .lst
  | _ => none
def isOne (T : Tbl) : D → D → Option Bool
  | .exc n _ _, .cl m => (T.lookup n).bind fun anc => (T.lookup m).map fun _ => anc.contains m
  | .exc n _ _, .ty t => (T.lookup n).map fun _ => t == .verr
  | x, .ty t => (tyOf x).map fun s => s == t || (s == .bool && t == .int)
  | x, .cl m => (tyOf x).bind fun _ => (T.lookup m).map fun _ => false
  | _, _ => none
def isAny (T : Tbl) (x : D) : List D → Option Bool
  | [] => some false
  | c :: cs => match isOne T x c with
    | some true => some true
    | some false => isAny T x cs
    | none => none
theorem tyOf_ne {x : D} {s : Ty} (h : tyOf x = some s) : s ≠ .verr ∧ s ≠ .dct := by
  cases x <;> simp [tyOf] at h <;> subst h <;> exact ⟨by decide, by decide⟩
theorem kit_pair (s t : Ty) (h1 : s ≠ .verr) (h2 : s ≠ .dct) : kitB s.nm t.nm = some (s == t || (s == .bool && t == .int)) := by
  cases s <;> first | exact absurd rfl h1 | exact absurd rfl h2 | (cases t <;> decide +kernel)
section
variable {X : Cx} {F : Addr → Prop} {H : Hp}
theorem tyx_of {K : PySem.W.Frag} {mg} {x : D} {v : V} {s : Ty} (d : Den ⟨K, mg⟩ F H x v) (h : tyOf x = some s) : TyX K H v (.type s.nm) := by
  cases x with
  | non => simp only [Den] at d; subst d; cases h; exact .base .non
  | bl b => simp only [Den] at d; subst d; cases h; exact .base (.bl b)
  | int i => simp only [Den] at d; subst d; cases h; exact .base (.int i)
  | str z => simp only [Den] at d; subst d; cases h; exact .base (.str z)
  | tup ds =>
    simp only [Den] at d; obtain ⟨a, vs, rfl, t, _⟩ := d; cases h
    rcases t with ⟨_, t⟩ | t
    · exact .base (.tup t)
    · rcases t (fun _ => none) with (z | ⟨_, z⟩) | ⟨o, its, n, k, c, _⟩
      · cases z
      · cases z
      · exact .kTuple k c
  | lst ds => simp only [Den] at d; obtain ⟨a, vs, rfl, f, t, _⟩ := d; cases h; exact .base (.lst t)
  | frl ds =>
    simp only [Den] at d; obtain ⟨a, vs, rfl, t, _⟩ := d; cases h
    rcases t with ⟨_, t | ⟨o, t⟩⟩ | t
    · exact .base (.lst t)
    · exact .base (.frz t)
    · rcases t (fun _ => none) with (z | ⟨_, z⟩) | ⟨o, its, n, k, c, _⟩
      · cases z
      · cases z
      · exact .kList k c
  | ty _ => cases h
  | cl _ => cases h
  | exc _ _ _ => cases h
/-- what the class c is as a value -/
theorem cls_of {K : PySem.W.Frag} {mg} {c : D} {v : V} (d : Den ⟨K, mg⟩ F H c v) : (∃ t : Ty, c = .ty t ∧ ClsV v (.type t.nm)) ∨ (∃ m C, c = .cl m ∧ mg m = some (.ref C) ∧ ClsV v (.ref C)) ∨ ((∀ t, c ≠ .ty t) ∧ ∀ m, c ≠ .cl m) := by
  cases c with
  | ty t => simp only [Den] at d; subst d; exact .inl ⟨t, rfl, .ty _⟩
  | cl m => simp only [Den] at d; obtain ⟨C, rfl, h⟩ := d; exact .inr (.inl ⟨m, C, rfl, h, .own C⟩)
  | _ => exact .inr (.inr ⟨fun t z => (nomatch z), fun m z => (nomatch z)⟩)
theorem isOne_cls {T : Tbl} {x c : D} {b : Bool} (h : isOne T x c = some b) : (∃ t, c = .ty t) ∨ ∃ m, c = .cl m := by
  cases c with
  | ty t => exact .inl ⟨t, rfl⟩
  | cl m => exact .inr ⟨m, rfl⟩
  | _ => cases x <;> cases h
/-- the type that isinstance looks at, and what it answers -/
structure KT (K : PySem.W.Frag) (mg : Str → Option Value) (T : Tbl) (x : D) (t : Value) : Prop where
  one : ∀ c v u b, isOne T x c = some b → Den ⟨K, mg⟩ F H c v → ClsV v u → PySem.W.kitOne K t u = some b
theorem kt_plain {K mg} {T : Tbl} (hT : ExcT K mg T) {x : D} {s : Ty} (h : tyOf x = some s) : KT (F := F) (H := H) K mg T x (.type s.nm) := ⟨fun c v u b e d k => by
  obtain ⟨n1, n2⟩ := tyOf_ne h
  rcases cls_of d with ⟨t, rfl, k'⟩ | ⟨m, C, rfl, hm, k'⟩ | ⟨z1, z2⟩
  · have eu : u = .type t.nm := by cases k' with | ty n => cases k; rfl
    subst eu
    have e' : isOne T x (.ty t) = some (s == t || (s == .bool && t == .int)) := by
      cases x <;> simp_all [isOne, tyOf]
    rw [e'] at e; cases e
    exact kit_ty (kit_pair s t n1 n2)
  · have eu : u = .ref C := by cases k' with | own n => cases k; rfl
    subst eu
    have e' : isOne T x (.cl m) = (T.lookup m).map fun _ => false := by
      cases x <;> first | (cases h; rfl) | cases h
    rw [e'] at e
    have hl : ∃ anc, T.lookup m = some anc ∧ b = false := by
      cases hq : T.lookup m with
      | none => rw [hq] at e; cases e
      | some anc => rw [hq] at e; cases e; exact ⟨anc, rfl, rfl⟩
    obtain ⟨anc, h1, rfl⟩ := hl
    obtain ⟨C', g1, _, _, _, g5⟩ := hT.all m anc h1
    rw [hm] at g1; cases g1
    exact g5 s n1
  · rcases isOne_cls e with ⟨t, e⟩ | ⟨m, e⟩
    · exact absurd e (z1 t)
    · exact absurd e (z2 m)⟩
theorem kt_exc {K mg} {T : Tbl} (hT : ExcT K mg T) {n f : Str} {d0 : D} {anc : List Str} {C : Addr} (hn : T.lookup n = some anc) (hC : mg n = some (.ref C)) : KT (F := F) (H := H) K mg T (.exc n f d0) (.ref C) := ⟨fun c v u b e d k => by
  obtain ⟨C', g1, g2, g3, g4, g5⟩ := hT.all n anc hn
  rw [hC] at g1; cases g1
  rcases cls_of d with ⟨t, rfl, k'⟩ | ⟨m, D', rfl, hm, k'⟩ | ⟨z1, z2⟩
  · have eu : u = .type t.nm := by cases k' with | ty n => cases k; rfl
    subst eu
    simp only [isOne, hn, Option.map_some] at e
    cases e
    exact g4 t
  · have eu : u = .ref D' := by cases k' with | own n => cases k; rfl
    subst eu
    simp only [isOne, hn, Option.bind_some] at e
    cases hq : T.lookup m with
    | none => rw [hq] at e; cases e
    | some anc' => rw [hq] at e; cases e; exact (g3 m anc' hq D' hm).1
  · rcases isOne_cls e with ⟨t, e⟩ | ⟨m, e⟩
    · exact absurd e (z1 t)
    · exact absurd e (z2 m)⟩
/-- all of a tuple are classes -/
def allCls : List D → Bool
  | [] => true
  | .ty _ :: cs => allCls cs
  | .cl _ :: cs => allCls cs
  | _ => false
theorem cls_all {K mg} : ∀ {cs : List D} {vs : List V}, allCls cs = true → DenL ⟨K, mg⟩ F H cs vs → ∃ us, Paired ClsV vs us
  | [], vs, _, d => by simp only [DenL] at d; subst d; exact ⟨[], .nil⟩
  | c :: cs, vs, h, d => by
    simp only [DenL] at d
    obtain ⟨v, ws, rfl, d1, d2⟩ := d
    have h2 : allCls cs = true := by cases c <;> simp_all [allCls]
    obtain ⟨us, r⟩ := cls_all h2 d2
    rcases cls_of d1 with ⟨t, rfl, k'⟩ | ⟨m, C, rfl, hm, k'⟩ | ⟨z1, z2⟩
    · exact ⟨_ :: us, .cons k' r⟩
    · exact ⟨_ :: us, .cons k' r⟩
    · cases c <;> simp_all [allCls]
theorem any_all {K mg} {T : Tbl} {x : D} {t : Value} (k : KT (F := F) (H := H) K mg T x t) : ∀ {cs : List D} {vs : List V} {us : List Value} {b : Bool}, isAny T x cs = some b → DenL ⟨K, mg⟩ F H cs vs → Paired ClsV vs us → PySem.W.kitAny K t us = some b
  | [], vs, us, b, e, d, r => by
    simp only [DenL] at d; subst d; cases r; cases e; rfl
  | c :: cs, vs, us, b, e, d, r => by
    simp only [DenL] at d
    obtain ⟨v, ws, rfl, d1, d2⟩ := d
    cases r with
    | @cons _ u _ us' r1 r2 =>
      unfold isAny at e
      cases e1 : isOne T x c with
      | none => rw [e1] at e; cases e
      | some b1 =>
        rw [e1] at e
        have q := k.one c v u b1 e1 d1 r1
        cases b1 with
        | true => cases e; exact kitAny_cons q (fun z => by cases z) (fun _ => rfl)
        | false => exact kitAny_cons q (fun _ => any_all k e d2 r2) (fun z => by cases z)
def fIs (T : Tbl) : List D → Option D
  | [x, .tup (c :: cs)] => if allCls (c :: cs) = true then (isAny T x (c :: cs)).map D.bl else none
  | [x, c] => (isOne T x c).map D.bl
  | _ => none
theorem call_isXK {K0 : PySem.W.Frag} (e0 : X.K = K0) : CallR X (.builtin "isinstance") (fun xs H Q => ∃ a C dd fs tp dct us n sl b, xs = [.ref a, .ref tp] ∧ PySem.W.PxC X.K C ∧ H a = some (ExK a (.ref C) (some dd)) ∧ H dd = some (.xd fs) ∧ X.K.lookup tp = some ⟨.type "tuple", dct, .seq (List.toArray us) n, sl⟩ ∧ PySem.W.kitAny X.K (.ref C) us = some b ∧ Q (.bl b) H) := by
  intro pins s σ H xs us Q I r h
  obtain ⟨a, C, dd, fs, tp, dct, ws, n, sl, b, rfl, P, ha, hd, hT, e, q⟩ := h
  obtain ⟨u1, u2, rfl, r1, r2⟩ := vals2 r
  cases (show u2 = Value.ref tp from r2)
  cases (show u1 = Value.ref a from r1)
  obtain ⟨oe, od, _, J, _⟩ := exk_inst I ha hd
  exact PySem.W.kia_tup (PySem.W.px_kit P) I.kIn ⟨oe, _, J⟩ (I.kIn _ _ hT) e (fun z => nomatch z) fun tk => ⟨.bl b, H, I.tok tk, rfl, q⟩
/-- the tuple of classes: tracked, or of the text -/
theorem tup_two {K : PySem.W.Frag} {a : Addr} {vs : List V} (h : TupAt K F H a vs) : H a = some (.tup vs) ∨ ∃ dct us n sl, K.lookup a = some ⟨.type "tuple", dct, .seq (List.toArray us) n, sl⟩ ∧ Vals vs us := by
  rcases h with ⟨_, h⟩ | h
  · exact .inl h
  · rcases h (fun _ => none) with (z | ⟨_, z⟩) | ⟨o, its, n, k, c, d, _, r⟩
    · cases z
    · cases z
    · obtain ⟨oc, od, dt, sl⟩ := o
      simp only at c d
      subst c d
      exact .inr ⟨od, its.toList, n, sl, by simpa using k, r⟩
theorem clsv_vals : ∀ {vs : List V} {us ws : List Value}, Paired ClsV vs us → Vals vs ws → ws = us := fun k r => ClsV.all k r
theorem c_isi {T : Tbl} (hT : ExcT X.K X.mg T) : COp X (.builtin "isinstance") (fIs T) :=
  ⟨_, (call_isi.or (call_isiT.or call_isiK)).or (call_isX.or (call_isXT.or (call_isXK rfl))), fun F H xs z vs Q k d e g => by
    have main : ∀ x v, Den (gc X) F H x v → ∀ (R : (∃ s, tyOf x = some s) ∨ ∃ n f d0 anc, x = .exc n f d0 ∧ T.lookup n = some anc),
        (∃ t, KT (F := F) (H := H) X.K X.mg T x t ∧ ((∃ s, t = .type s ∧ TyX X.K H v t) ∨ ∃ a C dd fs, v = .ref a ∧ t = .ref C ∧ PySem.W.PxC X.K C ∧ H a = some (ExK a (.ref C) (some dd)) ∧ H dd = some (.xd fs))) := fun x v d1 R => by
      rcases R with ⟨s, hs⟩ | ⟨n, f, d0, anc, rfl, hn⟩
      · exact ⟨_, kt_plain hT hs, .inl ⟨_, rfl, tyx_of d1 hs⟩⟩
      · simp only [Den] at d1
        obtain ⟨a, C, dd, w, rfl, hm, _, ha, _, hd, _⟩ := d1
        obtain ⟨C', g1, g2, _⟩ := hT.all n anc hn
        have hm' : X.mg n = some (.ref C) := hm
        rw [hm'] at g1; cases g1
        exact ⟨_, kt_exc hT hn hm', .inr ⟨a, C, dd, _, rfl, rfl, g2, ha, hd⟩⟩
    have kinds : ∀ x c b, isOne T x c = some b → (∃ s, tyOf x = some s) ∨ ∃ n f d0 anc, x = .exc n f d0 ∧ T.lookup n = some anc := fun x c b e => by
      cases x with
      | exc n f d0 =>
        cases hq : T.lookup n with
        | none =>
          rcases isOne_cls e with ⟨t, rfl⟩ | ⟨m, rfl⟩
          · simp only [isOne, hq] at e; cases e
          · simp only [isOne, hq] at e; cases e
        | some anc => exact .inr ⟨n, f, d0, anc, rfl, hq⟩
      | ty t => cases c <;> simp_all [isOne, tyOf]
      | cl t => cases c <;> simp_all [isOne, tyOf]
      | _ => exact .inl ⟨_, rfl⟩
    have ans : ∀ b, Den (gc X) F H (.bl b) (.bl b) := fun b => by simp only [Den]
    unfold fIs at e
    split at e
    · rename_i x c cs'
      simp only [DenL] at d
      obtain ⟨v, _, rfl, d1, _, _, rfl, dt, rfl⟩ := d
      simp only [Den] at dt
      obtain ⟨tp, ws, rfl, t, dl⟩ := dt
      split at e
      · rename_i hc
        cases ea : isAny T x (c :: cs') with
        | none => rw [ea] at e; cases e
        | some b =>
          rw [ea] at e; cases e
          obtain ⟨us, pu⟩ := cls_all hc dl
          have e0 : ∃ b0, isOne T x c = some b0 := by
            unfold isAny at ea
            cases hq : isOne T x c with
            | none => rw [hq] at ea; cases ea
            | some b0 => exact ⟨b0, rfl⟩
          obtain ⟨b0, e0⟩ := e0
          obtain ⟨tt, kt, ⟨s, rfl, ty⟩ | ⟨a, C, dd, fs, rfl, rfl, P, ha, hd⟩⟩ := main x v d1 (kinds x c b0 e0)
          · have ka := any_all kt ea dl pu
            rcases tup_two t with z | ⟨dct, us', n, sl, z, rv⟩
            · exact .inl (.inr (.inl ⟨v, tp, ws, _, us, b, rfl, z, pu, ty, ka, g.same k (ans _)⟩))
            · have := clsv_vals pu rv; subst this
              exact .inl (.inr (.inr ⟨v, tp, dct, us', n, sl, _, b, rfl, z, ty, ka, g.same k (ans _)⟩))
          · have ka := any_all kt ea dl pu
            rcases tup_two t with z | ⟨dct, us', n, sl, z, rv⟩
            · exact .inr (.inr (.inl ⟨a, C, dd, fs, tp, ws, us, b, rfl, P, ha, hd, z, pu, ka, g.same k (ans _)⟩))
            · have := clsv_vals pu rv; subst this
              exact .inr (.inr (.inr ⟨a, C, dd, fs, tp, dct, us', n, sl, b, rfl, P, ha, hd, z, ka, g.same k (ans _)⟩))
      · cases e
    · rename_i x c hne
      simp only [DenL] at d
      obtain ⟨v, _, rfl, d1, u, _, rfl, d2, rfl⟩ := d
      cases e1 : isOne T x c with
      | none => rw [e1] at e; cases e
      | some b =>
        rw [e1] at e; cases e
        obtain ⟨tt, kt, ⟨s, rfl, ty⟩ | ⟨a, C, dd, fs, rfl, rfl, P, ha, hd⟩⟩ := main x v d1 (kinds x c b e1)
        · rcases cls_of d2 with ⟨t, rfl, k'⟩ | ⟨m, C, rfl, hm, k'⟩ | ⟨z1, z2⟩
          · exact .inl (.inl ⟨v, u, _, _, b, rfl, k', ty, kt.one _ u _ b e1 d2 k', g.same k (ans _)⟩)
          · exact .inl (.inl ⟨v, u, _, _, b, rfl, k', ty, kt.one _ u _ b e1 d2 k', g.same k (ans _)⟩)
          · rcases isOne_cls e1 with ⟨t, e⟩ | ⟨m, e⟩
            · exact absurd e (z1 t)
            · exact absurd e (z2 m)
        · rcases cls_of d2 with ⟨t, rfl, k'⟩ | ⟨m, C', rfl, hm, k'⟩ | ⟨z1, z2⟩
          · exact .inr (.inl ⟨a, C, dd, fs, u, _, b, rfl, P, ha, hd, k', kt.one _ u _ b e1 d2 k', g.same k (ans _)⟩)
          · exact .inr (.inl ⟨a, C, dd, fs, u, _, b, rfl, P, ha, hd, k', kt.one _ u _ b e1 d2 k', g.same k (ans _)⟩)
          · rcases isOne_cls e1 with ⟨t, e⟩ | ⟨m, e⟩
            · exact absurd e (z1 t)
            · exact absurd e (z2 m)
    · cases e⟩
end

section
variable {X : Cx} {W : WX} {pos : Pos}
/-- e.f of a caught exception -/
def dAt (T : Tbl) (f : Str) (d : Env → Res D) : Env → Res D := fun r => (d r).bind fun x r => match x with
  | .exc n g y => if g = f ∧ (T.lookup n).isSome = true then .ok y r else .bad
  | _ => .bad
theorem x_at {T : Tbl} (hT : ExcT X.K X.mg T) {e : Expr} {f : Str} {d : Env → Res D} (hno : ∀ n anc C, T.lookup n = some anc → X.mg n = some (.ref C) → PySem.W.findIn X.K (.ref C) f = some none)
    (h : PX X W e d) (hb : attributeBase e f X.env (eval e X.env) = eval e X.env := by rfl) : PX X W (.Attribute e f pos) (dAt T f d) :=
  pe_weak (pe_xat h hb) fun σ H Q ⟨fr, F, r, ok, p⟩ => ⟨fr, F, r, ok, Post.seq p fun x r1 v H1 F1 ok1 l1 q1 p1 => by
    cases x with
    | exc n g y =>
      simp only at p1
      split at p1
      · rename_i hg
        obtain ⟨rfl, hl⟩ := hg
        simp only [Den] at q1
        obtain ⟨a, C, dd, w, rfl, hm, fa, ha, fd, hd, dy⟩ := q1
        obtain ⟨anc, hn⟩ := Option.isSome_iff_exists.mp hl
        obtain ⟨C', g1, g2, _⟩ := hT.all n anc hn
        have hm' : X.mg n = some (.ref C) := hm
        rw [hm'] at g1; cases g1
        exact ⟨a, C, dd, _, w, rfl, g2, hno n anc C hn hm', ha, hd, by simp [List.lookup], p1 w H1 F1 ok1 Le.refl dy⟩
      · exact (show False from p1).elim
    | _ => exact (show False from p1).elim⟩
/-- an exception class's own __init__(self, at): self.at = at -/
def spI (C : Addr) (f : Str) : Sp := fun vs H Q _ => ∃ a v, vs = [.ref a, v] ∧ H a = some (exo a C none) ∧ ∀ dx, H dx = none → dx ≠ a → Q .non (upd (upd H dx (exd dx [(f, v)])) a (exo a C (some dx)))
theorem init_rd {K : PySem.W.Frag} {C : Addr} {f : Str} (T : OexC K C) (hno : PySem.W.findIn K (.ref C) f = some none) {vs : List V} {H : Hp} {Q : VK} {E : XK} {N : List Str} (h : spI C f vs H Q E) (hN : N.length = 2) :
    tOst K f (tVar 0) (tVar 1) { nx := fun _ H' => Q .non H', rt := Q } (L2.start N vs) H := by
  obtain ⟨a, v, rfl, ha, q⟩ := h
  have e : L2.start N [.ref a, v] = [some (V.ref a), some v] := by unfold L2.start; rw [hN]; rfl
  rw [e]
  exact ⟨v, rfl, .ref a, rfl, a, C, rfl, T, hno, .inl ⟨ha, q⟩⟩
/-- raise C(e) -/
def dRaise (n f : Str) (d : Env → Res D) : Env → SRes := fun r => (d r).toS fun x r => .err (.exc n f x) r
theorem s_raise {n f : Str} {C fI : Addr} {k : Nat} {fd : FuncData} {ps : List Str} {p pos2 : Pos} {e : Expr} {d : Env → Res D} (hc : X.calm = true) (tk : Takes X W) (T : OexC X.K C) (iC : PySem.W.findIn X.K (.ref C) "__init__" = some (some (.ref fI))) (tI : PySem.W.typeIn X.K (.ref fI) = some (.type "function"))
    (F1 : FnOk X.prog X.w X.K X.mg X.base (L2.CX X.prog X.w) k fI fd ps (spI C f)) (hr : Room (k + 1) X.A) (hb : Binds X.K fd ps []) (hg : Gl X n) (hm : X.mg n = some (.ref C)) (h : PX X W e d)
    (hdb : (n == ("__debug__" : Str)) = false := by decide) (he0 : starEach (e :: []) X.env = (false, eval e X.env) :: starEach [] X.env := by rfl) (hpl : (backTo pos (starEach [] X.env)).any (·.1) = false := by rfl) :
    PT1 X W (.Raise (some (.Call (.Name n p) [e] [] pos)) none pos2) (dRaise n f d) :=
  ps_weak (ps_raise hc tk (pmk_oex (dvs := []) (ds := []) T iC tI F1 hr hb .nil (fun _ _ _ _ _ _ _ c => by obtain ⟨_, _, _, _, _, _, _, _, _, _, _, _, z⟩ := c; exact z.elim) hg hm (pa_cons h pa_nil he0) hdb he0 hpl)) fun E σ H ⟨fr, F, r, ok, p⟩ =>
    ⟨fr, F, r, ok, Post.toS p fun x r1 v H1 F1 ok1 l1 q1 p1 => by
      refine ⟨by simp, fun a ha => ⟨a, v, rfl, upd_same, fun dx hdx hne => ⟨rfl, dx, [(f, v)], upd_same, ?_, ?_, ?_⟩⟩⟩
      · rw [upd_ne hne, upd_same]
      · rw [upd_ne hne] at hdx; exact hdx
      · have h1 : H1 dx = none := by rw [upd_ne hne] at hdx; exact hdx
        have eH : upd (L2.del (upd (upd (upd H1 a (exo a C none)) dx (exd dx [(f, v)])) a (exo a C (some dx))) a) dx (.xd [(f, v)]) = upd H1 dx (.xd [(f, v)]) := by
          funext b
          by_cases hb : b = dx
          · subst hb; rw [upd_same, upd_same]
          · rw [upd_ne hb, upd_ne hb]
            by_cases hba : b = a
            · subst hba; rw [L2.del_same, ha]
            · rw [L2.del_ne hba, upd_ne hba, upd_ne hb, upd_ne hba]
        rw [eH]
        have nx := Nx.frz (o := .xd [(f, v)]) ok1.fin h1
        exact p1 _ _ σ _ _ (ok1.next nx) (nx.toLe ok1.fin) ⟨n, f, x, C, dx, v, rfl, rfl, hm, rfl, .inr rfl, upd_same, q1.mono (nx.toLe ok1.fin)⟩⟩
/-! ## try -/
def exMatch (T : Tbl) (e : D) (m : Str) : Option Bool := match e with
  | .exc n _ _ => (T.lookup n).bind fun anc => (T.lookup m).map fun _ => anc.contains m
  | _ => none
/-- behind a suite: nothing may have been raised; the clause's name is gone -/
def sEnd (oi : Option Nat) (m : SRes) : SRes := match oi with
  | none => (match m with
    | .err _ _ => .bad
    | m => m)
  | some i => (match m with
    | .nx r => if notP r i = true then .nx (r.set i .un) else .bad
    | .bk r => if notP r i = true then .bk (r.set i .un) else .bad
    | .ct r => if notP r i = true then .ct (r.set i .un) else .bad
    | .rt x r => .rt x r
    | .rn x r => .rn x r
    | .err _ _ => .bad
    | .bad => .bad)
def dHds (T : Tbl) : List (Str × Option Nat × (Env → SRes)) → D → Env → SRes
  | [], e, r => .err e r
  | (m, oi, su) :: l, e, r => match exMatch T e m with
    | some true => (match oi with
      | none => sEnd none (su r)
      | some i => if notP r i = true then sEnd (some i) (su (r.set i (.v e))) else .bad)
    | some false => dHds T l e r
    | none => .bad
def dTry (T : Tbl) (b : Env → SRes) (l : List (Str × Option Nat × (Env → SRes))) : Env → SRes := fun r => match b r with
  | .err e r => dHds T l e r
  | m => m
abbrev W0 : WX := fun _ _ _ _ => False
inductive HdsD (X : Cx) : List ExceptHandler → List (Str × Option Nat × (Env → SRes)) → Prop
  | nil : HdsD X [] []
  | plain {x : Str} {D0 : Addr} {su : Env → SRes} {b₀ : Stmt} {sb : List Stmt} {np pp : Pos} {hds : List ExceptHandler} {l : List (Str × Option Nat × (Env → SRes))} (hg : Gl X x) (hdb : (x == ("__debug__" : Str)) = false) (hm : X.mg x = some (.ref D0)) (hsu : ∀ a pn, PTs (X.suite a pn) W0 (b₀ :: sb) su) (r : HdsD X hds l) :
      HdsD X (.ExceptHandler (some (.Name x np)) none (b₀ :: sb) pp :: hds) ((x, none, su) :: l)
  | named {x n : Str} {i : Nat} {D0 : Addr} {su : Env → SRes} {b₀ : Stmt} {sb : List Stmt} {np pp : Pos} {hds : List ExceptHandler} {l : List (Str × Option Nat × (Env → SRes))} (hi : X.N[i]? = some n) (hln : X.env.kindOf n = some .local) (hg : Gl X x) (hdb : (x == ("__debug__" : Str)) = false) (hm : X.mg x = some (.ref D0)) (hsu : ∀ a pn, PTs (X.suite a pn) W0 (b₀ :: sb) su) (r : HdsD X hds l) :
      HdsD X (.ExceptHandler (some (.Name x np)) (some n) (b₀ :: sb) pp :: hds) ((x, some i, su) :: l)
theorem hds_of {T : Tbl} (hT : ExcT X.K X.mg T) : ∀ {hds : List ExceptHandler} {l : List (Str × Option Nat × (Env → SRes))}, HdsD X hds l → ∃ l', HdsT X hds l' ∧ ∀ (E : Ends) (fr : Fr) (F : Addr → Prop) (H : Hp) (r : Env) (x : D) (c : Value) (dd : Option Addr) (σ : L2.St),
    Ok (gc X) fr F H σ r → DenX (gc X) F H x c dd → PostS (gc X) W fr F H (dHds T l x r) E → wHds X.K W E l' c dd σ H := by
  intro hds l hh
  -- the caught exception as a value
  have val : ∀ (fr : Fr) (F : Addr → Prop) (H : Hp) (r : Env) (x : D) (c : Value) (dd : Option Addr) (σ : L2.St), Ok (gc X) fr F H σ r → DenX (gc X) F H x c dd → ∀ a, H a = none → Nx F H (Fadd F a) (upd H a (ExK a c dd)) ∧ Den (gc X) (Fadd F a) (upd H a (ExK a c dd)) x (.ref a) := fun fr F H r x c dd σ ok d a ha => by
    have nx := Nx.frz (o := ExK a c dd) ok.fin ha
    obtain ⟨n, f, y, C, ad, w, rfl, rfl, hm, rfl, fa, hd, dy⟩ := d
    have l := nx.toLe ok.fin
    refine ⟨nx, ?_⟩
    simp only [Den]
    exact ⟨a, C, ad, w, rfl, hm, .inr rfl, upd_same, (l ad fa).1, (l ad fa).2.trans hd, dy.mono l⟩
  have cls : ∀ (F : Addr → Prop) (H : Hp) (x : D) (c : Value) (dd : Option Addr) (m : Str) (D0 : Addr) (b : Bool), DenX (gc X) F H x c dd → X.mg m = some (.ref D0) → exMatch T x m = some b → PySem.W.exmOne X.K c (.ref D0) = some b := fun F H x c dd m D0 b d hm e => by
    obtain ⟨n, f, y, C, ad, w, rfl, rfl, hn, _⟩ := d
    unfold exMatch at e
    cases h1 : T.lookup n with
    | none => simp only [h1] at e; cases e
    | some anc =>
      simp only [h1, Option.bind_some] at e
      cases h2 : T.lookup m with
      | none => rw [h2] at e; cases e
      | some anc' =>
        rw [h2] at e; cases e
        obtain ⟨C', g1, _, g3, _⟩ := hT.all n anc h1
        have hn' : X.mg n = some (.ref C) := hn
        rw [hn'] at g1; cases g1
        exact (g3 m anc' h2 D0 hm).2
  induction hh with
  | nil => exact ⟨[], .nil, fun E fr F H r x c dd σ ok d p => p c dd σ H F ok Le.refl d⟩
  | @plain x D0 su b₀ sb np pp hds l hg hdb hm hsu r ih =>
    obtain ⟨l', h1, h2⟩ := ih
    refine ⟨(.ref D0, none, tS (gc X) W0 su) :: l', .plain ⟨hg, hdb, .inl hm⟩ hsu h1, fun E fr F H r y c dd σ ok d p => ?_⟩
    unfold dHds at p
    cases e : exMatch T y x with
    | none => rw [e] at p; exact p.elim
    | some b =>
      rw [e] at p
      refine ⟨b, cls F H y c dd x D0 b d hm e, fun hb a ha => ?_, fun hb => ?_⟩
      · subst hb
        obtain ⟨nx, _⟩ := val fr F H r y c dd σ ok d a ha
        refine ⟨fr, _, r, ok.next nx, PostS.le (nx.toLe ok.fin) ?_⟩
        simp only [sEnd] at p
        cases es : su r with
        | err x r => rw [es] at p; exact p.elim
        | nx r => rw [es] at p; exact p
        | bk r => rw [es] at p; exact p
        | ct r => rw [es] at p; exact p
        | rt x r => rw [es] at p; exact p
        | rn x r => rw [es] at p; exact p
        | bad => rw [es] at p; exact p
      · subst hb; exact h2 E fr F H r y c dd σ ok d p
  | @named x n i D0 su b₀ sb np pp hds l hi hln hg hdb hm hsu r ih =>
    obtain ⟨l', h1, h2⟩ := ih
    refine ⟨(.ref D0, some i, tS (gc X) W0 su) :: l', .named hi hln ⟨hg, hdb, .inl hm⟩ hsu h1, fun E fr F H r y c dd σ ok d p => ?_⟩
    unfold dHds at p
    cases e : exMatch T y x with
    | none => rw [e] at p; exact p.elim
    | some b =>
      rw [e] at p
      refine ⟨b, cls F H y c dd x D0 b d hm e, fun hb a ha => ?_, fun hb => ?_⟩
      · subst hb
        simp only at p
        split at p
        · rename_i hn
          obtain ⟨nx, dv⟩ := val fr F H r y c dd σ ok d a ha
          refine ⟨fr, _, r.set i (.v y), (ok.next nx).storeV (notP_ok hn) dv, ?_⟩
          have p := PostS.le (nx.toLe ok.fin) p
          have un : ∀ {r3 : Env} {σ3 : L2.St} {F3 : Addr → Prop} {H3 : Hp}, notP r3 i = true → Ok (gc X) fr F3 H3 σ3 r3 → Ok (gc X) fr F3 H3 (σ3.set i none) (r3.set i .un) := fun {r3 σ3 F3 H3} hp ok3 => by
            have o := ok3.unset (notP_ok hp)
            refine ⟨o.fin, o.grow, o.prot, by rw [List.length_set]; exact o.len, fun j s q => ?_, fun j k s t ds es b hjk q1 q2 o1 o2 q3 q4 => ?_, fun j b hp' => ?_⟩
            · by_cases hj : i = j
              · subst hj
                by_cases hlt : i < r3.length
                · rw [List.getElem?_set_self hlt] at q; cases q; trivial
                · rw [List.getElem?_eq_none (by simpa using hlt)] at q; cases q
              · rw [List.getElem?_set_ne hj]; exact o.sl j s q
            · have ne : ∀ {m : Nat} {s : Slot} {ds : List D}, (r3.set i .un)[m]? = some s → s.opn = some ds → i ≠ m := fun {m s ds} q o z => by
                subst z
                by_cases hlt : i < r3.length
                · rw [List.getElem?_set_self hlt] at q; cases q; cases o
                · rw [List.getElem?_eq_none (by simpa using hlt)] at q; cases q
              rw [List.getElem?_set_ne (ne q1 o1)] at q3
              rw [List.getElem?_set_ne (ne q2 o2)] at q4
              exact o.dis j k s t ds es b hjk q1 q2 o1 o2 q3 q4
            · obtain ⟨z1, ds, z2⟩ := o.par j b hp'
              have hj : i ≠ j := fun z => by
                subst z
                by_cases hlt : i < r3.length
                · rw [List.getElem?_set_self hlt] at z2; cases z2
                · rw [List.getElem?_eq_none (by simpa using hlt)] at z2; cases z2
              rw [List.getElem?_set_ne hj]
              exact ⟨z1, ds, z2⟩
          cases es : su (r.set i (.v y)) with
          | nx r3 =>
            rw [es] at p; simp only [sEnd] at p
            split at p
            · rename_i hp3; exact fun σ3 H3 F3 ok3 l3 => p _ H3 F3 (un hp3 ok3) l3
            · exact p.elim
          | bk r3 =>
            rw [es] at p; simp only [sEnd] at p
            split at p
            · rename_i hp3; exact fun σ3 H3 F3 ok3 l3 => p _ H3 F3 (un hp3 ok3) l3
            · exact p.elim
          | ct r3 =>
            rw [es] at p; simp only [sEnd] at p
            split at p
            · rename_i hp3; exact fun σ3 H3 F3 ok3 l3 => p _ H3 F3 (un hp3 ok3) l3
            · exact p.elim
          | rt x r3 => rw [es] at p; exact p
          | rn x r3 => rw [es] at p; exact p
          | err x r3 => rw [es] at p; exact p.elim
          | bad => rw [es] at p; exact p.elim
        · exact p.elim
      · subst hb; exact h2 E fr F H r y c dd σ ok d p
theorem s_try {T : Tbl} (hT : ExcT X.K X.mg T) {body : List Stmt} {h₀ : ExceptHandler} {hds : List ExceptHandler} {b : Env → SRes} {l : List (Str × Option Nat × (Env → SRes))} (hs : X.stack = X.env :: X.outer) (hf : X.env.frame = some X.env.locals) (hN : X.N.Nodup) (hex : X.ex = []) (tk : Takes X W)
    (hb : ∀ (W' : WX) (pn : List (Addr × Obj)) (xe : Value → Shared → Prop), Takes (X.tr pn xe) W' → PassesOwn (model X.prog X.w) X.A X.env xe → PTs (X.tr pn xe) W' body b) (hh : HdsD X (h₀ :: hds) l) : PT1 X W (.Try body (h₀ :: hds) [] [] pos) (dTry T b l) := by
  obtain ⟨l', h1, h2⟩ := hds_of (W := W) hT hh
  refine ps_weak (ps_try (tb := fun W' => tS (gc X) W' b) hs hf hN hex tk hb h1) fun E σ H ⟨fr, F, r, ok, p⟩ => ⟨fr, F, r, ok, ?_⟩
  unfold dTry at p
  cases e : b r with
  | err x r1 =>
    rw [e] at p
    exact fun c dd σ' H' F' ok' l d => h2 E fr F' H' r1 x c dd σ' ok' d (PostS.le l p)
  | nx r1 => rw [e] at p; exact p
  | bk r1 => rw [e] at p; exact p
  | ct r1 => rw [e] at p; exact p
  | rt x r1 => rw [e] at p; exact p
  | rn x r1 => rw [e] at p; exact p
  | bad => rw [e] at p; exact p
end
end Py
end

section
set_option maxHeartbeats 400000
namespace Py
open PySem PySem.Spec PyProof.Rows L2

theorem bop_or {X : Cx} {o : Value → Value → Sem Value} {f g h : D → D → Option D} (a : BOp X o f) (b : BOp X o g) (e : ∀ x y z, h x y = some z → f x y = some z ∨ g x y = some z) : BOp X o h := by
  obtain ⟨r1, h1, h2⟩ := a.ex
  obtain ⟨r2, h3, h4⟩ := b.ex
  exact ⟨_, h1.or h3, fun F H x y z v u Q k dx dy q gv => (e x y z q).elim (fun q => .inl (h2 F H x y z v u Q k dx dy q gv)) fun q => .inr (h4 F H x y z v u Q k dx dy q gv)⟩
theorem cop_or {X : Cx} {o : Value} {f g h : List D → Option D} (a : COp X o f) (b : COp X o g) (e : ∀ x z, h x = some z → f x = some z ∨ g x = some z) : COp X o h := by
  obtain ⟨r1, h1, h2⟩ := a.ex
  obtain ⟨r2, h3, h4⟩ := b.ex
  exact ⟨_, h1.or h3, fun F H x z v Q k dx q gv => (e x z q).elim (fun q => .inl (h2 F H x z v Q k dx q gv)) fun q => .inr (h4 F H x z v Q k dx q gv)⟩
theorem iop_or {X : Cx} {f g h : D → D → Option D} (a : IOp X f) (b : IOp X g) (e : ∀ x y z, h x y = some z → f x y = some z ∨ g x y = some z) : IOp X h := by
  obtain ⟨r1, h1, h2⟩ := a.ex
  obtain ⟨r2, h3, h4⟩ := b.ex
  exact ⟨_, h1.or h3, fun F H x y z v u Q k dx dy q gv => (e x y z q).elim (fun q => .inl (h2 F H x y z v u Q k dx dy q gv)) fun q => .inr (h4 F H x y z v u Q k dx dy q gv)⟩
section
variable {X : Cx}
def f2 (c : Int → Int → Bool) (g : Int → Int → D) : D → D → Option D
  | .int i, .int j => if c i j = true then some (g i j) else none
  | _, _ => none
theorem f2_inv {c : Int → Int → Bool} {g : Int → Int → D} {x y z : D} (h : f2 c g x y = some z) : ∃ i j, x = .int i ∧ y = .int j ∧ c i j = true ∧ z = g i j := by
  unfold f2 at h
  split at h
  · rename_i i j
    split at h
    · rename_i hc; cases h; exact ⟨i, j, rfl, rfl, hc, rfl⟩
    · cases h
  · cases h
theorem bop_int {o : Value → Value → Sem Value} {C : Int → Int → Prop} {g' : Int → Int → V} {c : Int → Int → Bool} {g : Int → Int → D} (h : OpR X o (rI C g')) (hc : ∀ i j, c i j = true → C i j) (hg : ∀ F H i j, Den (gc X) F H (g i j) (g' i j)) : BOp X o (f2 c g) :=
  ⟨_, h, fun F H x y z v u Q k dx dy e gv => by
    obtain ⟨i, j, rfl, rfl, hcc, rfl⟩ := f2_inv e
    simp only [Den] at dx dy
    subst dx dy
    exact ⟨i, j, rfl, rfl, hc i j hcc, gv.same k (hg F H i j)⟩⟩
theorem bop_int0 {o : Value → Value → Sem Value} {g' : Int → Int → V} {g : Int → Int → D} (h : OpR X o (rI0 g')) (hg : ∀ F H i j, Den (gc X) F H (g i j) (g' i j)) : BOp X o (f2 (fun _ _ => true) g) :=
  ⟨_, h, fun F H x y z v u Q k dx dy e gv => by
    obtain ⟨i, j, rfl, rfl, _, rfl⟩ := f2_inv e
    simp only [Den] at dx dy
    subst dx dy
    exact ⟨i, j, rfl, rfl, gv.same k (hg F H i j)⟩⟩
def fAdd : D → D → Option D
  | .int i, .int j => some (.int (i + j))
  | .str x, .str y => if x.length + y.length ≤ 16777216 then some (.str (x ++ y)) else none
  | .tup xs, .tup ys => if xs.length + ys.length ≤ 16777216 then some (.tup (xs ++ ys)) else none
  | .lst xs, .lst ys => if xs.length + ys.length ≤ 16777216 then some (.lst (xs ++ ys)) else none
  | _, _ => none
theorem o_add : BOp X (binaryOp .Add) fAdd :=
  ⟨_, (op_add.or op_add_str).or (op_catA.or op_cat), fun F H x y z v u Q k dx dy e gv => by
    unfold fAdd at e
    split at e
    · rename_i i j
      simp only [Den] at dx dy; subst dx dy; cases e
      exact .inl (.inl ⟨i, j, rfl, rfl, gv.same k (by simp only [Den])⟩)
    · rename_i i j
      simp only [Den] at dx dy; subst dx dy
      split at e
      · rename_i h; cases e; exact .inl (.inr ⟨i, j, rfl, rfl, by rw [line_eq]; exact h, gv.same k (by simp only [Den])⟩)
      · cases e
    · rename_i xs ys
      simp only [Den] at dx dy
      obtain ⟨a, vs, rfl, ta, da⟩ := dx
      obtain ⟨b, ws, rfl, tb, db⟩ := dy
      split at e
      · rename_i h
        cases e
        refine .inr (.inl ⟨a, b, vs, ws, rfl, rfl, ta.sq, tb.sq, by rw [da.length, db.length, line_eq]; exact h, fun z => ?_, fun z1 z2 => ?_, fun _ _ p hp => ?_⟩)
        · subst z
          have : xs = [] := by have := da.length; simp at this; exact List.length_eq_zero_iff.mp this.symm
          subst this
          exact gv.same k (by simp only [Den, List.nil_append]; exact ⟨b, ws, rfl, tb, db⟩)
        · subst z2
          have : ys = [] := by have := db.length; simp at this; exact List.length_eq_zero_iff.mp this.symm
          subst this
          exact gv.same k (by simp only [Den, List.append_nil]; exact ⟨a, vs, rfl, ta, da⟩)
        · exact gv _ _ _ (Nx.frz k hp) (den_newt hp k (da.append db))
      · cases e
    · rename_i xs ys
      simp only [Den] at dx dy
      obtain ⟨a, vs, rfl, fa, ta, da⟩ := dx
      obtain ⟨b, ws, rfl, fb, tb, db⟩ := dy
      split at e
      · rename_i h
        cases e
        exact .inr (.inr ⟨a, b, vs, ws, rfl, rfl, ta, tb, by rw [da.length, db.length, line_eq]; exact h, fun p hp => gv _ _ _ (Nx.frz k hp) (den_newl hp k (da.append db))⟩)
      · cases e
    · cases e⟩
abbrev fSub := f2 (fun _ _ => true) fun i j => .int (i - j)
theorem o_sub : BOp X (binaryOp .Sub) fSub := bop_int0 op_sub fun _ _ _ _ => by simp only [Den]
def mulOk (i j : Int) : Bool := decide (i.natAbs < 18446744073709551616) || decide (j.natAbs < 18446744073709551616) || decide (i.natAbs.log2 + j.natAbs.log2 < 1000000)
abbrev fMul := f2 mulOk fun i j => .int (i * j)
theorem o_mul : BOp X (binaryOp .Mult) fMul := by
  refine ⟨_, op_mul.or op_mulW, fun F H x y z v u Q k dx dy e gv => ?_⟩
  obtain ⟨i, j, rfl, rfl, h, rfl⟩ := f2_inv e
  simp only [Den] at dx dy
  subst dx dy
  have q := gv.same k (w := .int (i * j)) (by simp only [Den])
  simp only [mulOk, Bool.or_eq_true, decide_eq_true_eq] at h
  rcases h with (h | h) | h
  · exact .inl ⟨i, j, rfl, rfl, .inl (by omega), q⟩
  · exact .inl ⟨i, j, rfl, rfl, .inr (by omega), q⟩
  · exact .inr ⟨i, j, rfl, rfl, h, q⟩
abbrev fMod := f2 (fun _ j => decide (0 < j)) fun i j => .int (i % j)
theorem o_mod : BOp X (binaryOp .Mod) fMod := bop_int op_mod (fun _ _ h => of_decide_eq_true h) fun _ _ _ _ => by simp only [Den]
abbrev fDiv := f2 (fun _ j => decide (0 < j) && decide (j.natAbs.log2 < 9000)) fun i j => .int (i / j)
theorem o_div : BOp X (binaryOp .FloorDiv) fDiv := bop_int op_fdivW (fun _ _ h => by simp only [Bool.and_eq_true, decide_eq_true_eq] at h; exact h) fun _ _ _ _ => by simp only [Den]
def powOk (i j : Int) : Bool := decide (0 ≤ j) && decide (j ≤ 1000000) && decide (i.natAbs < 18446744073709551616)
theorem powOk_ok {i j : Int} (h : powOk i j = true) : CPow i j := by
  simp only [powOk, Bool.and_eq_true, decide_eq_true_eq] at h
  exact ⟨h.1.1, h.1.2, by have := h.2; omega⟩
abbrev fPow := f2 powOk fun i j => .int (i ^ j.toNat)
theorem o_pow : BOp X (binaryOp .Pow) fPow := bop_int op_pow (fun _ _ h => powOk_ok h) fun _ _ _ _ => by simp only [Den]
abbrev fShl := f2 powOk fun i j => .int (i * 2 ^ j.toNat)
theorem o_shl : BOp X (binaryOp .LShift) fShl := bop_int op_shl (fun _ _ h => powOk_ok h) fun _ _ _ _ => by simp only [Den]
abbrev fShr := f2 (fun _ j => decide (0 ≤ j)) fun i j => .int (i / 2 ^ j.toNat)
theorem o_shr : BOp X (binaryOp .RShift) fShr := bop_int op_shr (fun _ _ h => of_decide_eq_true h) fun _ _ _ _ => by simp only [Den]
abbrev fAnd := f2 (fun _ _ => true) fun i j => .int (Builtin.bitAnd i j)
theorem o_and : BOp X (binaryOp .BitAnd) fAnd := bop_int0 op_and fun _ _ _ _ => by simp only [Den]
abbrev fOr := f2 (fun _ _ => true) fun i j => .int (Builtin.bitOr i j)
theorem o_or : BOp X (binaryOp .BitOr) fOr := bop_int0 op_or fun _ _ _ _ => by simp only [Den]
abbrev fLt := f2 (fun _ _ => true) fun i j => .bl (decide (i < j))
theorem o_lt : BOp X (compareOp .Lt) fLt := bop_int0 op_lt fun _ _ _ _ => by simp only [Den]
abbrev fLe := f2 (fun _ _ => true) fun i j => .bl (decide (i ≤ j))
theorem o_le : BOp X (compareOp .LtE) fLe := bop_int0 op_le fun _ _ _ _ => by simp only [Den]
abbrev fGt := f2 (fun _ _ => true) fun i j => .bl (decide (j < i))
theorem o_gt : BOp X (compareOp .Gt) fGt := bop_int0 op_gt fun _ _ _ _ => by simp only [Den]
abbrev fGe := f2 (fun _ _ => true) fun i j => .bl (decide (j ≤ i))
theorem o_ge : BOp X (compareOp .GtE) fGe := bop_int0 op_ge fun _ _ _ _ => by simp only [Den]
/-! ### == -/
mutual
def D.py : D → PyData
  | .non => .none
  | .bl b => .bool b
  | .int i => .int i
  | .str x => .str x
  | .tup ds => .tuple (D.pyL ds)
  | .lst ds => .list (D.pyL ds)
  | _ => .dict []
def D.pyL : List D → List PyData
  | [] => []
  | d :: ds => D.py d :: D.pyL ds
end
mutual
theorem den_dp {K mg F H} : ∀ (d : D) (v : V), PyData.canLay0 d.py = true → Den ⟨K, mg⟩ F H d v → Dp K H v d.py
  | .non, v, _, h => by simp only [Den] at h; subst h; simp only [D.py]; exact .non
  | .bl b, v, _, h => by simp only [Den] at h; subst h; simp only [D.py]; exact .bl b
  | .int i, v, _, h => by simp only [Den] at h; subst h; simp only [D.py]; exact .int i
  | .str x, v, _, h => by simp only [Den] at h; subst h; simp only [D.py]; exact .str x
  | .tup ds, v, c, h => by
    simp only [Den] at h
    obtain ⟨a, vs, rfl, t, dl⟩ := h
    simp only [D.py] at c ⊢
    exact .tup t.sq (den_dpL ds vs (by simpa [PyData.canLay0] using c) dl)
  | .lst ds, v, c, h => by
    simp only [Den] at h
    obtain ⟨a, vs, rfl, f, t, dl⟩ := h
    simp only [D.py] at c ⊢
    exact .lst (.of t) (den_dpL ds vs (by simpa [PyData.canLay0] using c) dl)
  | .ty _, v, c, _ => by simp [D.py, PyData.canLay0] at c
  | .cl _, v, c, _ => by simp [D.py, PyData.canLay0] at c
  | .frl _, v, c, _ => by simp [D.py, PyData.canLay0] at c
  | .exc _ _ _, v, c, _ => by simp [D.py, PyData.canLay0] at c
theorem den_dpL {K mg F H} : ∀ (ds : List D) (vs : List V), PyData.canLayAll0 (D.pyL ds) = true → DenL ⟨K, mg⟩ F H ds vs → DpAll K H vs (D.pyL ds)
  | [], vs, _, h => by simp only [DenL] at h; subst h; simp only [D.pyL]; exact .nil
  | d :: ds, vs, c, h => by
    simp only [DenL] at h
    obtain ⟨v, ws, rfl, h1, h2⟩ := h
    simp only [D.pyL, PyData.canLayAll0, Bool.and_eq_true] at c ⊢
    exact .cons (den_dp d v c.1 h1) (den_dpL ds ws c.2 h2)
end
def fEq (x y : D) : Option D := if (SeqAt.shaped x.py && SeqAt.shaped y.py) = true then some (.bl (PyData.eqv x.py y.py)) else none
def fNe (x y : D) : Option D := if (SeqAt.shaped x.py && SeqAt.shaped y.py) = true then some (.bl (!PyData.eqv x.py y.py)) else none
theorem o_eq (hu : X.A.units + 64 < cLine) : BOp X (compareOp .Eq) fEq :=
  ⟨_, op_eqD hu, fun F H x y z v u Q k dx dy e gv => by
    unfold fEq at e
    split at e
    · rename_i h
      rw [Bool.and_eq_true] at h
      cases e
      exact ⟨x.py, y.py, den_dp x v (SeqAt.canLay_of_shaped h.1) dx, den_dp y u (SeqAt.canLay_of_shaped h.2) dy, h.1, h.2, gv.same k (by simp only [Den])⟩
    · cases e⟩
theorem o_ne (hu : X.A.units + 64 < cLine) : BOp X (compareOp .NotEq) fNe :=
  ⟨_, op_neD hu, fun F H x y z v u Q k dx dy e gv => by
    unfold fNe at e
    split at e
    · rename_i h
      rw [Bool.and_eq_true] at h
      cases e
      exact ⟨x.py, y.py, den_dp x v (SeqAt.canLay_of_shaped h.1) dx, den_dp y u (SeqAt.canLay_of_shaped h.2) dy, h.1, h.2, gv.same k (by simp only [Den])⟩
    · cases e⟩
/-! ### is -/
def isNon : D → Bool
  | .non => true
  | _ => false
theorem isNon_ok {G F H} {x : D} {v : V} (d : Den G F H x v) : decide (v = .non) = isNon x := by
  cases x <;> simp only [Den] at d <;> first
    | (subst d; rfl)
    | (obtain ⟨_, _, rfl, _⟩ := d; rfl)
    | (obtain ⟨_, rfl, _⟩ := d; rfl)
    | (obtain ⟨_, _, _, _, rfl, _⟩ := d; rfl)
def isBlD : D → Bool → Bool
  | .bl a, b => decide (a = b)
  | _, _ => false
theorem isBlD_ok {G F H} {x : D} {v : V} {b : Bool} (d : Den G F H x v) : decide (v = .bl b) = isBlD x b := by
  cases x <;> simp only [Den] at d <;> first
    | (subst d; simp [isBlD])
    | (obtain ⟨_, _, rfl, _⟩ := d; simp [isBlD])
    | (obtain ⟨_, rfl, _⟩ := d; simp [isBlD])
    | (obtain ⟨_, _, _, _, rfl, _⟩ := d; simp [isBlD])
theorem op_isT : OpR X (compareOp .Is) (fun x y H Q => ∃ b, y = .bl b ∧ Q (.bl (decide (x = .bl b))) H) := by
  intro pins s σ H x y v u Q I rx ry h
  obtain ⟨b, rfl, q⟩ := h
  cases (show u = Value.bool b from ry)
  have go : ∀ v : Value, (∀ n, v ≠ .builtin n) → wpAny (model X.prog X.w) X.A (compareOp .Is v (.bool b)) (fun r s' => r = .bool (v == .bool b) ∧ s' = s) X.xe s := fun v hn => by
    cases v <;> first
      | exact wpAny_pure ⟨rfl, rfl⟩
      | exact absurd rfl (hn _)
  have key : (∀ n, v ≠ .builtin n) ∧ (v == .bool b) = decide (x = .bl b) := by
    cases x
    case bl c => cases (show v = Value.bool c from rx); exact ⟨fun n z => (by cases z), by cases b <;> cases c <;> rfl⟩
    all_goals first
      | (obtain ⟨t, rfl⟩ := rx; exact ⟨fun n z => (by cases z), by simp⟩)
      | (cases rx; exact ⟨fun n z => (by cases z), by simp⟩)
  exact thn (go v key.1) fun r s' ⟨e1, e2⟩ => by
    subst e1 e2
    exact fin_bl I q key.2.symm
theorem op_notT : OpR X (compareOp .IsNot) (fun x y H Q => ∃ b, y = .bl b ∧ Q (.bl (!decide (x = .bl b))) H) := by
  intro pins s σ H x y v u Q I rx ry h
  obtain ⟨b, rfl, q⟩ := h
  cases (show u = Value.bool b from ry)
  have go : ∀ v : Value, (∀ n, v ≠ .builtin n) → wpAny (model X.prog X.w) X.A (compareOp .IsNot v (.bool b)) (fun r s' => r = .bool (!(v == .bool b)) ∧ s' = s) X.xe s := fun v hn => by
    cases v <;> first
      | exact wpAny_pure ⟨rfl, rfl⟩
      | exact absurd rfl (hn _)
  have key : (∀ n, v ≠ .builtin n) ∧ (!(v == .bool b)) = !decide (x = .bl b) := by
    cases x
    case bl c => cases (show v = Value.bool c from rx); exact ⟨fun n z => (by cases z), by cases b <;> cases c <;> rfl⟩
    all_goals first
      | (obtain ⟨t, rfl⟩ := rx; exact ⟨fun n z => (by cases z), by simp⟩)
      | (cases rx; exact ⟨fun n z => (by cases z), by simp⟩)
  exact thn (go v key.1) fun r s' ⟨e1, e2⟩ => by
    subst e1 e2
    exact fin_bl I q key.2.symm
def fIsN : D → D → Option D
  | x, .non => some (.bl (isNon x))
  | x, .bl b => some (.bl (isBlD x b))
  | _, _ => none
def fIsNot : D → D → Option D
  | x, .non => some (.bl (!isNon x))
  | x, .bl b => some (.bl (!isBlD x b))
  | _, _ => none
theorem o_is : BOp X (compareOp .Is) fIsN :=
  ⟨_, op_isN.or op_isT, fun F H x y z v u Q k dx dy e gv => by
    unfold fIsN at e
    split at e
    · simp only [Den] at dy; subst dy; cases e
      exact .inl ⟨rfl, by rw [isNon_ok dx]; exact gv.same k (by simp only [Den])⟩
    · simp only [Den] at dy; subst dy; cases e
      exact .inr ⟨_, rfl, by rw [isBlD_ok dx]; exact gv.same k (by simp only [Den])⟩
    · cases e⟩
theorem o_isnot : BOp X (compareOp .IsNot) fIsNot :=
  ⟨_, op_notN.or op_notT, fun F H x y z v u Q k dx dy e gv => by
    unfold fIsNot at e
    split at e
    · simp only [Den] at dy; subst dy; cases e
      exact .inl ⟨rfl, by rw [isNon_ok dx]; exact gv.same k (by simp only [Den])⟩
    · simp only [Den] at dy; subst dy; cases e
      exact .inr ⟨_, rfl, by rw [isBlD_ok dx]; exact gv.same k (by simp only [Den])⟩
    · cases e⟩
/-! ### in -/
def D.flat : D → Option V
  | .non => some .non
  | .bl b => some (.bl b)
  | .int i => some (.int i)
  | .str x => some (.str x)
  | _ => none
theorem flat_ok {G F H} {x : D} {v w : V} (d : Den G F H x v) (h : x.flat = some w) : v = w ∧ flatV w = true := by
  cases x <;> simp only [D.flat] at h <;> cases h <;> simp only [Den] at d <;> subst d <;> exact ⟨rfl, rfl⟩
def flatL : List D → Option (List V)
  | [] => some []
  | d :: ds => d.flat.bind fun v => (flatL ds).map (v :: ·)
theorem flatL_ok {G F H} : ∀ {ds : List D} {vs ws : List V}, DenL G F H ds vs → flatL ds = some ws → vs = ws ∧ ws.all flatV = true
  | [], vs, ws, d, h => by simp only [DenL] at d; subst d; cases h; exact ⟨rfl, rfl⟩
  | x :: ds, vs, ws, d, h => by
    simp only [DenL] at d
    obtain ⟨v, us, rfl, d1, d2⟩ := d
    unfold flatL at h
    cases e1 : x.flat with
    | none => rw [e1] at h; cases h
    | some w =>
      rw [e1] at h
      cases e2 : flatL ds with
      | none => rw [e2] at h; cases h
      | some ws' =>
        rw [e2] at h; cases h
        obtain ⟨rfl, h1⟩ := flat_ok d1 e1
        obtain ⟨rfl, h2⟩ := flatL_ok d2 e2
        exact ⟨rfl, by simp [h1, h2]⟩
def fInW (neg : Bool) (x y : D) : Option D := (itemsOf y).bind fun ys => x.flat.bind fun v => (flatL ys).map fun ws => .bl (if neg then !inV v ws else inV v ws)
theorem in_rd (neg : Bool) {F H x y z v u Q} (k : ∀ a, F a → H a ≠ none) (dx : Den (gc X) F H x v) (dy : Den (gc X) F H y u) (e : fInW neg x y = some z) (gv : Giv (gc X) F H z Q) : rIn X.K neg v u H Q := by
  unfold fInW at e
  cases e0 : itemsOf y with
  | none => rw [e0] at e; cases e
  | some ys =>
    rw [e0] at e
    cases e1 : x.flat with
    | none => simp only [e1, Option.bind_some] at e; cases e
    | some v' =>
      cases e2 : flatL ys with
      | none => simp only [e1, e2, Option.bind_some] at e; cases e
      | some ws =>
        simp only [e1, e2, Option.bind_some, Option.map_some] at e
        cases e
        obtain ⟨rfl, h1⟩ := flat_ok dx e1
        cases y with
        | tup ds =>
          cases e0
          simp only [Den] at dy
          obtain ⟨a, us, rfl, t, dl⟩ := dy
          obtain ⟨rfl, h2⟩ := flatL_ok dl e2
          exact ⟨a, us, rfl, .inr t.sq, h1, h2, gv.same k (by simp only [Den])⟩
        | lst ds =>
          cases e0
          simp only [Den] at dy
          obtain ⟨a, us, rfl, f, t, dl⟩ := dy
          obtain ⟨rfl, h2⟩ := flatL_ok dl e2
          exact ⟨a, us, rfl, .inl (.of t), h1, h2, gv.same k (by simp only [Den])⟩
        | frl ds =>
          cases e0
          simp only [Den] at dy
          obtain ⟨a, us, rfl, t, dl⟩ := dy
          obtain ⟨rfl, h2⟩ := flatL_ok dl e2
          exact ⟨a, us, rfl, .inl t.sq, h1, h2, gv.same k (by simp only [Den])⟩
        | _ => cases e0
theorem o_in : BOp X (compareOp .In) (fInW false) := ⟨_, op_in_seq, fun F H x y z v u Q k dx dy e gv => in_rd false k dx dy e gv⟩
theorem o_notin : BOp X (compareOp .NotIn) (fInW true) := ⟨_, op_notIn_seq, fun F H x y z v u Q k dx dy e gv => in_rd true k dx dy e gv⟩
/-! ### one place -/
def fNeg : D → Option D
  | .int i => some (.int (-i))
  | _ => none
def dUn (f : D → Option D) (d : Env → Res D) : Env → Res D := fun r => (d r).bind fun x r => Res.of (f x) r
theorem x_neg {W : WX} {pos : Pos} {a : Expr} {d : Env → Res D} (h : PX X W a d) : PX X W (.UnaryOp .USub a pos) (dUn fNeg d) :=
  pe_weak (pe_un un_neg h) fun σ H Q ⟨fr, F, r, ok, p⟩ => ⟨fr, F, r, ok, Post.seq p fun x r1 v H1 F1 ok1 l1 q1 p1 => by
    obtain ⟨z, e, gv⟩ := post_of ok1 p1
    cases x <;> simp only [fNeg] at e <;> first | cases e | skip
    simp only [Den] at q1; subst q1
    exact ⟨_, rfl, gv.same ok1.fin (by simp only [Den])⟩⟩
/-! ### built-in calls -/
def fLen : List D → Option D
  | [.tup ds] => some (.int ds.length)
  | [.lst ds] => some (.int ds.length)
  | [.frl ds] => some (.int ds.length)
  | [.str x] => if x.length ≤ 16777216 then some (.int x.length) else none
  | _ => none
theorem c_len : COp X (.builtin "len") fLen :=
  ⟨_, call_len_seq.or call_len_str, fun F H xs z vs Q k d e gv => by
    unfold fLen at e
    split at e
    · simp only [DenL, Den] at d
      obtain ⟨_, _, rfl, ⟨a, us, rfl, t, dl⟩, rfl⟩ := d
      cases e
      exact .inl ⟨a, us, rfl, .inr t.sq, gv.same k (by simp only [Den]; rw [dl.length])⟩
    · simp only [DenL, Den] at d
      obtain ⟨_, _, rfl, ⟨a, us, rfl, f, t, dl⟩, rfl⟩ := d
      cases e
      exact .inl ⟨a, us, rfl, .inl (.of t), gv.same k (by simp only [Den]; rw [dl.length])⟩
    · simp only [DenL, Den] at d
      obtain ⟨_, _, rfl, ⟨a, us, rfl, t, dl⟩, rfl⟩ := d
      cases e
      exact .inl ⟨a, us, rfl, .inl t.sq, gv.same k (by simp only [Den]; rw [dl.length])⟩
    · simp only [DenL, Den] at d
      obtain ⟨_, _, rfl, rfl, rfl⟩ := d
      split at e
      · rename_i h; cases e
        exact .inr ⟨_, rfl, by rw [line_eq]; exact h, gv.same k (by simp only [Den])⟩
      · cases e
    · cases e⟩
def fMin : List D → Option D
  | [.int i, .int j] => some (.int (if j < i then j else i))
  | _ => none
def fMax : List D → Option D
  | [.int i, .int j] => some (.int (if j > i then j else i))
  | _ => none
theorem c_min (hc : X.calm = true) : COp X (.builtin "min") fMin :=
  ⟨_, call_min2 hc, fun F H xs z vs Q k d e gv => by
    unfold fMin at e
    split at e
    · simp only [DenL, Den] at d
      obtain ⟨_, _, rfl, rfl, _, _, rfl, rfl, rfl⟩ := d
      cases e
      exact ⟨_, _, rfl, gv.same k (by simp only [Den])⟩
    · cases e⟩
theorem c_max (hc : X.calm = true) : COp X (.builtin "max") fMax :=
  ⟨_, call_max2 hc, fun F H xs z vs Q k d e gv => by
    unfold fMax at e
    split at e
    · simp only [DenL, Den] at d
      obtain ⟨_, _, rfl, rfl, _, _, rfl, rfl, rfl⟩ := d
      cases e
      exact ⟨_, _, rfl, gv.same k (by simp only [Den])⟩
    · cases e⟩
def fInt : List D → Option D
  | [.int i] => some (.int i)
  | [.bl b] => some (.int (if b then 1 else 0))
  | _ => none
theorem c_int : COp X (.type "int") fInt :=
  ⟨_, call_int1, fun F H xs z vs Q k d e gv => by
    unfold fInt at e
    split at e
    · simp only [DenL, Den] at d
      obtain ⟨_, _, rfl, rfl, rfl⟩ := d
      cases e
      exact .inl ⟨_, rfl, gv.same k (by simp only [Den])⟩
    · simp only [DenL, Den] at d
      obtain ⟨_, _, rfl, rfl, rfl⟩ := d
      cases e
      exact .inr ⟨_, rfl, gv.same k (by simp only [Den])⟩
    · cases e⟩
def fTuple : List D → Option D
  | [x] => (itemsOf x).map D.tup
  | _ => none
theorem c_tuple : COp X (.type "tuple") fTuple :=
  ⟨_, call_tuple_of, fun F H xs z vs Q k d e gv => by
    unfold fTuple at e
    split at e
    · rename_i x
      simp only [DenL] at d
      obtain ⟨v, _, rfl, d, rfl⟩ := d
      cases x with
      | tup ds => cases e; have d' := d; simp only [Den] at d; obtain ⟨a, us, rfl, t, dl⟩ := d; exact ⟨a, us, rfl, .inr ⟨t.sq, gv.same k d'⟩⟩
      | lst ds => cases e; simp only [Den] at d; obtain ⟨a, us, rfl, f, t, dl⟩ := d; exact ⟨a, us, rfl, .inl ⟨.of t, fun p hp => gv _ _ _ (Nx.frz k hp) (den_newt hp k dl)⟩⟩
      | frl ds => cases e; simp only [Den] at d; obtain ⟨a, us, rfl, t, dl⟩ := d; exact ⟨a, us, rfl, .inl ⟨t.sq, fun p hp => gv _ _ _ (Nx.frz k hp) (den_newt hp k dl)⟩⟩
      | _ => cases e
    · cases e⟩
def fList : List D → Option D
  | [x] => (itemsOf x).map D.lst
  | _ => none
theorem c_list : COp X (.type "list") fList :=
  ⟨_, call_list_of, fun F H xs z vs Q k d e gv => by
    unfold fList at e
    split at e
    · rename_i x
      simp only [DenL] at d
      obtain ⟨v, _, rfl, d, rfl⟩ := d
      cases x with
      | tup ds => cases e; simp only [Den] at d; obtain ⟨a, us, rfl, t, dl⟩ := d; exact ⟨a, us, rfl, .inr t.sq, fun p hp => gv _ _ _ (Nx.frz k hp) (den_newl hp k dl)⟩
      | lst ds => cases e; simp only [Den] at d; obtain ⟨a, us, rfl, f, t, dl⟩ := d; exact ⟨a, us, rfl, .inl (.of t), fun p hp => gv _ _ _ (Nx.frz k hp) (den_newl hp k dl)⟩
      | frl ds => cases e; simp only [Den] at d; obtain ⟨a, us, rfl, t, dl⟩ := d; exact ⟨a, us, rfl, .inl t.sq, fun p hp => gv _ _ _ (Nx.frz k hp) (den_newl hp k dl)⟩
      | _ => cases e
    · cases e⟩
def intsOf : List D → Option (List Int)
  | [] => some []
  | .int i :: ds => (intsOf ds).map (i :: ·)
  | _ => none
theorem intsOf_ok {G F H} : ∀ {ds : List D} {vs : List V} {ns : List Int}, DenL G F H ds vs → intsOf ds = some ns → vs = ns.map V.int
  | [], vs, ns, d, h => by simp only [DenL] at d; subst d; simp only [intsOf] at h; cases h; rfl
  | x :: ds, vs, ns, d, h => by
    simp only [DenL] at d
    obtain ⟨v, us, rfl, d1, d2⟩ := d
    cases x with
    | int i =>
      simp only [Den] at d1
      subst d1
      simp only [intsOf] at h
      cases e2 : intsOf ds with
      | none => rw [e2] at h; cases h
      | some ms => rw [e2] at h; cases h; rw [intsOf_ok d2 e2]; rfl
    | _ => simp only [intsOf] at h; cases h
def fSum : List D → Option D
  | [.lst ds] => (intsOf ds).map fun ns => .int ns.sum
  | _ => none
theorem c_sum (hc : X.calm = true) : COp X (.builtin "sum") fSum :=
  ⟨_, cr_sum hc, fun F H xs z vs Q k d e gv => by
    unfold fSum at e
    split at e
    · rename_i ds
      simp only [DenL, Den] at d
      obtain ⟨_, _, rfl, ⟨a, us, rfl, f, t, dl⟩, rfl⟩ := d
      cases h : intsOf ds with
      | none => rw [h] at e; cases e
      | some ns =>
        rw [h] at e; cases e
        exact ⟨a, ns, rfl, .of (by rw [← intsOf_ok dl h]; exact t), gv.same k (by simp only [Den])⟩
    · cases e⟩
/-! ### subscripts -/
def fIx : D → D → Option D
  | .tup ds, .int i => atI ds i
  | .lst ds, .int i => atI ds i
  | .frl ds, .int i => atI ds i
  | _, _ => none
theorem atI_den {G F H} {ds : List D} {vs : List V} {i : Int} {z : D} (dl : DenL G F H ds vs) (e : atI ds i = some z) : ∃ v, atI vs i = some v ∧ Den G F H z v := by
  unfold atI at e ⊢
  rw [dl.length]
  cases h : ixN ds.length i with
  | none => rw [h] at e; cases e
  | some j => rw [h] at e; exact dl.get e
theorem o_ix : IOp X fIx :=
  ⟨_, ix_list.or ix_tup, fun F H x y z v u Q k dx dy e gv => by
    unfold fIx at e
    split at e
    · rename_i ds i
      simp only [Den] at dx dy
      obtain ⟨a, us, rfl, t, dl⟩ := dx
      subst dy
      obtain ⟨w, h1, h2⟩ := atI_den dl e
      exact .inr ⟨a, us, i, w, rfl, rfl, t.sq, h1, gv.same k h2⟩
    · rename_i ds i
      simp only [Den] at dx dy
      obtain ⟨a, us, rfl, f, t, dl⟩ := dx
      subst dy
      obtain ⟨w, h1, h2⟩ := atI_den dl e
      exact .inl ⟨a, us, i, w, rfl, rfl, .of t, h1, gv.same k h2⟩
    · rename_i ds i
      simp only [Den] at dx dy
      obtain ⟨a, us, rfl, t, dl⟩ := dx
      subst dy
      obtain ⟨w, h1, h2⟩ := atI_den dl e
      exact .inl ⟨a, us, i, w, rfl, rfl, t.sq, h1, gv.same k h2⟩
    · cases e⟩
end
/-! ## Open lists looked at (they stay open) -/
section
variable {X : Cx} {W : WX} {pos : Pos}
/-- what a slot holds, as a value to look at -/
def peek (r : Env) (j : Nat) : Option D := match r[j]? with
  | some (.v d) => some d
  | some (.o ds) => some (.frl ds)
  | some (.p ds) => some (.frl ds)
  | _ => none
/-- len(x) -/
def dLenO (j : Nat) : Env → Res D := fun r => match getOpn r j with
  | some ds => .ok (.int ds.length) r
  | none => .bad
theorem x_lenO {j : Nat} {x : Str} {p p' : Pos} (hg : Gl X "len") (hm : X.mg "len" = none) (ho : PE X (.Name x p) (tVar j)) : PX X W (.Call (.Name "len" p') [.Name x p] [] pos) (dLenO j) :=
  pe_weak (pe_callB call_len_seq hg hm PySem.boot_len (pa_cons ho pa_nil)) fun σ H Q ⟨fr, F, r, ok, p⟩ => by
    unfold dLenO at p
    cases e : getOpn r j with
    | none => rw [e] at p; exact p.elim
    | some ds =>
      rw [e] at p
      obtain ⟨a, vs, h1, h2, h3, h4, _⟩ := ok.opened e
      exact ⟨.ref a, h1, a, vs, rfl, .inl (.of h2), p _ H F ok Le.refl (by simp only [Den]; rw [h4.length])⟩
/-- truth -/
def dTruO (j : Nat) : Env → Res Bool := fun r => match getOpn r j with
  | some ds => .ok (!ds.isEmpty) r
  | none => .bad
theorem b_truO {j : Nat} {x : Str} {p : Pos} (ho : PE X (.Name x p) (tVar j)) (he : ∀ whole, isTrue (.Name x p) X.env whole = (do let v ← whole; standAt (Expr.Name x p).pos; holding [v] (truthy v)) := by intro _; rfl) : PB X W (.Name x p) (dTruO j) :=
  pt_weak (pt_truth ho he) fun σ H Q ⟨fr, F, r, ok, p⟩ => by
    unfold dTruO at p
    cases e : getOpn r j with
    | none => rw [e] at p; exact p.elim
    | some ds =>
      rw [e] at p
      obtain ⟨a, vs, h1, h2, h3, h4, _⟩ := ok.opened e
      exact ⟨.ref a, h1, !vs.isEmpty, .inl ⟨vs, .of h2, rfl⟩, p _ H F ok Le.refl (emp_of h4).symm⟩
/-- x[i]; where x's list is open no more: as of any value -/
def dIxO (j : Nat) (d : Env → Res D) : Env → Res D := fun r => match getOpn r j with
  | none => dBin fIx (dVar j) d r
  | some _ => (d r).bind fun x r => match getOpn r j, x with
    | some ds, .int i => Res.of (atI ds i) r
    | _, _ => .bad
theorem x_ixO {j : Nat} {x : Str} {p : Pos} {b : Expr} {d : Env → Res D} (ho : PE X (.Name x p) (tVar j)) (hb : PX X W b d) (hs : PlainIx b := by exact fun _ _ => rfl) : PX X W (.Subscript (.Name x p) b pos) (dIxO j d) := by
  obtain ⟨rr, h1, h2⟩ := (o_ix (X := X)).ex
  refine ⟨fun pins s σ H Q I h => ?_⟩
  obtain ⟨fr, F, r, ok, p⟩ := h
  unfold dIxO at p
  cases e : getOpn r j with
  | none =>
    rw [e] at p
    exact (pe_weak (pe_ix h1 (x_var (W := W) j ho) hb hs) fun σ H Q p => bin_rd h2 p).run pins s σ H Q I ⟨fr, F, r, ok, p⟩
  | some ds0 =>
    rw [e] at p
    refine (pe_ix ix_list ho hb hs).run pins s σ H Q I ?_
    obtain ⟨a, vs, h1, _⟩ := ok.opened e
    refine ⟨.ref a, h1, fr, F, r, ok, Post.seq p fun y r1 v H1 F1 ok1 l1 q1 p1 => ?_⟩
    cases e1 : getOpn r1 j with
    | none => simp only [e1] at p1; exact (show False from p1).elim
    | some ds =>
      simp only [e1] at p1
      cases y with
      | int i =>
        simp only [Den] at q1; subst q1
        obtain ⟨z, e2, gv⟩ := post_of ok1 p1
        obtain ⟨b, ws, g1, g2, g3, g4, _⟩ := ok1.opened e1
        rw [h1] at g1; cases g1
        obtain ⟨w, y1, y2⟩ := atI_den g4 e2
        exact ⟨a, ws, i, w, rfl, rfl, .of g2, y1, gv.same ok1.fin y2⟩
      | _ => exact (show False from p1).elim
/-- x[i] = e -/
def dSetIx (j : Nat) (di d : Env → Res D) : Env → SRes := fun r => (d r).toS fun x r => match getOpn r j with
  | none => .bad
  | some _ => (di r).toS fun k r => match getOpn r j, k with
    | some ds, .int k => (match ixN ds.length k with
      | some n => .nx (setOpn r j (ds.set n x))
      | none => .bad)
    | _, _ => .bad
theorem s_setix {j : Nat} {x : Str} {p p2 : Pos} {i e : Expr} {di d : Env → Res D} (ho : PE X (.Name x p) (tVar j)) (hi : PX X W i di) (he : PX X W e d) (hg : PG X (.Subscript (.Name x p) i p2) (gSub (tVar j) (tR (gc X) W (Den (gc X)) di) rSetL))
    (hs : swapsWithSole [.Subscript (.Name x p) i p2] e pos.line X.env = pure false := by rfl) (hw : swappedStores [.Subscript (.Name x p) i p2] e X.env = pure none := by rfl) (h1 : (assignEach [.Subscript (.Name x p) i p2] X.env).map (·.2) = [assign (.Subscript (.Name x p) i p2) X.env] := by rfl) :
    PT1 X W (.Assign [.Subscript (.Name x p) i p2] e pos) (dSetIx j di d) :=
  ps_weak (ps_asg he hg hs hw h1) fun E σ H ⟨fr, F, r, ok, p⟩ => ⟨fr, F, r, ok, Post.toS p fun y r1 v H1 F1 ok1 l1 q1 p1 => by
    cases e : getOpn r1 j with
    | none => simp only [e] at p1; exact (show False from p1).elim
    | some ds0 =>
      simp only [e] at p1
      obtain ⟨a, vs, h1, _⟩ := ok1.opened e
      refine ⟨.ref a, h1, fr, F1, r1, ok1, Post.toS p1 fun k r2 u H2 F2 ok2 l2 q2 p2 => ?_⟩
      cases e1 : getOpn r2 j with
      | none => simp only [e1] at p2; exact (show False from p2).elim
      | some ds =>
        simp only [e1] at p2
        cases k with
        | int k =>
          simp only at p2
          cases e2 : ixN ds.length k with
          | none => rw [e2] at p2; exact (show False from p2).elim
          | some n =>
            rw [e2] at p2
            simp only [Den] at q2; subst q2
            obtain ⟨b, ws, g1, g2, g3, g4, g5⟩ := ok2.opened e1
            rw [h1] at g1; cases g1
            obtain ⟨ok3, l3⟩ := g5 _ _ (DenL.set n g4 (q1.mono l2))
            exact ⟨a, ws, k, n, rfl, rfl, g2, by rw [g4.length]; exact e2, p2 σ _ F2 ok3 l3⟩
        | _ => exact (show False from p2).elim⟩
end
end Py
end

section
set_option maxHeartbeats 400000
namespace Py
open PySem PySem.Spec PyProof.Rows L2

/-! ## List comprehensions -/
section
variable {G : Gc} {fr : Fr} {F F' : Addr → Prop} {H H' : Hp} {σ σ' : L2.St} {r r' : Env}
theorem Ok.wipe1 (ok : Ok G fr F H σ r) {i : Nat} (hp : notP r i = true) : Ok G fr F H (σ.set i none) (r.set i .un) := by
  have o := ok.unset (notP_ok hp)
  have ne : ∀ {m : Nat} {s : Slot} {ds : List D}, (r.set i .un)[m]? = some s → s.opn = some ds → i ≠ m := fun {m s ds} q o z => by
    subst z
    by_cases hlt : i < r.length
    · rw [List.getElem?_set_self hlt] at q; cases q; cases o
    · rw [List.getElem?_eq_none (by simpa using hlt)] at q; cases q
  refine ⟨o.fin, o.grow, o.prot, by rw [List.length_set]; exact o.len, fun j s q => ?_, fun j k s t ds es b hjk q1 q2 o1 o2 q3 q4 => ?_, fun j b hp' => ?_⟩
  · by_cases hj : i = j
    · subst hj
      by_cases hlt : i < r.length
      · rw [List.getElem?_set_self hlt] at q; cases q; trivial
      · rw [List.getElem?_eq_none (by simpa using hlt)] at q; cases q
    · rw [List.getElem?_set_ne hj]; exact o.sl j s q
  · rw [List.getElem?_set_ne (ne q1 o1)] at q3
    rw [List.getElem?_set_ne (ne q2 o2)] at q4
    exact o.dis j k s t ds es b hjk q1 q2 o1 o2 q3 q4
  · obtain ⟨z1, ds, z2⟩ := o.par j b hp'
    rw [List.getElem?_set_ne (ne z2 rfl)]
    exact ⟨z1, ds, z2⟩
def wipeR (r : Env) : List Nat → Env
  | [] => r
  | v :: vs => (wipeR r vs).set v .un
def notPs (r : Env) : List Nat → Bool
  | [] => true
  | v :: vs => notP r v && notPs r vs
theorem notP_wipeR {r : Env} {i : Nat} : ∀ {vs : List Nat}, notP r i = true → notP (wipeR r vs) i = true
  | [], h => h
  | v :: vs, h => by
    have ih := notP_wipeR (vs := vs) h
    unfold wipeR
    unfold notP at ih ⊢
    by_cases hv : v = i
    · subst hv
      by_cases hl : v < (wipeR r vs).length
      · rw [List.getElem?_set_self hl]
      · rw [List.getElem?_eq_none (by simpa using hl)]
    · rw [List.getElem?_set_ne hv]; exact ih
theorem Ok.wipes (ok : Ok G fr F H σ r) : ∀ {vs : List Nat}, notPs r vs = true → Ok G fr F H (wipe σ vs) (wipeR r vs)
  | [], _ => ok
  | v :: vs, h => by
    unfold notPs at h
    rw [Bool.and_eq_true] at h
    exact (Ok.wipes ok h.2).wipe1 (notP_wipeR h.1)
/-- own slots hold nothing that is open -/
def plainAt (r : Env) : List Nat → Bool
  | [] => true
  | v :: vs => (match r[v]? with
    | some (.v _) => true
    | some .un => true
    | _ => false) && plainAt r vs
theorem plainAt_notPs : ∀ {vs : List Nat}, plainAt r vs = true → notPs r vs = true
  | [], _ => rfl
  | v :: vs, h => by
    unfold plainAt at h
    rw [Bool.and_eq_true] at h
    unfold notPs notP
    rw [Bool.and_eq_true]
    refine ⟨?_, plainAt_notPs h.2⟩
    have h1 := h.1
    split at h1
    · rename_i e; rw [e]
    · rename_i e; rw [e]
    · cases h1
def putSlots (r0 : Env) : List Nat → Env → Env
  | [], r => r
  | v :: vs, r => match r0[v]? with
    | some s => putSlots r0 vs (r.set v s)
    | none => putSlots r0 vs r
/-- back from the block: σ as it was, the own slots as they were -/
theorem wipe_at {σ : L2.St} : ∀ {vs : List Nat} {i : Nat}, i ∈ vs → i < σ.length → (wipe σ vs)[i]? = some none
  | v :: vs, i, h, hl => by
    unfold wipe
    by_cases hv : v = i
    · subst hv; exact List.getElem?_set_self (by rw [wipe_length]; exact hl)
    · rw [List.getElem?_set_ne hv]
      rcases List.mem_cons.mp h with h | h
      · exact absurd h.symm hv
      · exact wipe_at h hl
theorem wipe_wipe {σ : L2.St} {vs : List Nat} : wipe (wipe σ vs) vs = wipe σ vs := by
  refine List.ext_getElem? fun i => ?_
  by_cases hi : i ∈ vs
  · by_cases hl : i < σ.length
    · rw [wipe_at hi (by rw [wipe_length]; exact hl), wipe_at hi hl]
    · rw [List.getElem?_eq_none (by rw [wipe_length, wipe_length]; omega), List.getElem?_eq_none (by rw [wipe_length]; omega)]
  · rw [wipe_out hi]
theorem putSlots_len {r0 : Env} : ∀ {vs : List Nat} {r : Env}, (putSlots r0 vs r).length = r.length
  | [], r => rfl
  | v :: vs, r => by unfold putSlots; split <;> rw [putSlots_len] ; simp
theorem putSlots_out {r0 : Env} : ∀ {vs : List Nat} {r : Env} {i : Nat}, i ∉ vs → (putSlots r0 vs r)[i]? = r[i]?
  | [], r, i, _ => rfl
  | v :: vs, r, i, h => by
    simp only [List.mem_cons, not_or] at h
    unfold putSlots
    split
    · rw [putSlots_out h.2, List.getElem?_set_ne (Ne.symm h.1)]
    · rw [putSlots_out h.2]
theorem putSlots_in {r0 : Env} : ∀ {vs : List Nat} {r : Env} {i : Nat}, i ∈ vs → r.length = r0.length → (putSlots r0 vs r)[i]? = r0[i]?
  | v :: vs, r, i, h, hl => by
    unfold putSlots
    by_cases hi : i ∈ vs
    · split
      · rw [putSlots_in hi (by simpa using hl)]
      · rw [putSlots_in hi hl]
    · have hv : v = i := by
        rcases List.mem_cons.mp h with h | h
        · exact h.symm
        · exact absurd h hi
      subst hv
      split
      · rename_i s e
        rw [putSlots_out hi, List.getElem?_set_self (by rw [hl]; exact (List.getElem?_eq_some_iff.mp e).1), e]
      · rename_i e
        rw [putSlots_out hi, List.getElem?_eq_none (by rw [hl]; exact List.getElem?_eq_none_iff.mp e), e]
theorem Ok.unwipe {F0 : Addr → Prop} {H0 : Hp} {r0 : Env} {vs : List Nat} (ok0 : Ok G fr F0 H0 σ r0) (hp : plainAt r0 vs = true) (ok : Ok G fr F H (wipe σ vs) r) (l : Le F0 H0 F H) : Ok G fr F H σ (putSlots r0 vs r) := by
  have hl : r.length = r0.length := by rw [← ok.len, wipe_length, ok0.len]
  have plain : ∀ {vs : List Nat} {i : Nat} {s : Slot}, plainAt r0 vs = true → i ∈ vs → r0[i]? = some s → s.opn = none := by
    intro vs
    induction vs with
    | nil => intro i s _ h; cases h
    | cons v vs ih =>
      intro i s h1 h2 h3
      unfold plainAt at h1
      rw [Bool.and_eq_true] at h1
      rcases List.mem_cons.mp h2 with rfl | h2
      · have h1 := h1.1
        rw [h3] at h1
        cases s <;> first | rfl | cases h1
      · exact ih h1.2 h2 h3
  have old : ∀ {i : Nat} {s : Slot} {ds : List D}, (putSlots r0 vs r)[i]? = some s → s.opn = some ds → i ∉ vs ∧ r[i]? = some s := fun {i s ds} e o => by
    by_cases hi : i ∈ vs
    · rw [putSlots_in hi hl] at e
      rw [plain hp hi e] at o; cases o
    · rw [putSlots_out hi] at e; exact ⟨hi, e⟩
  refine ⟨ok.fin, ok.grow, ok.prot, by rw [putSlots_len, ← ok.len, wipe_length], fun i s e => ?_, fun i j s t ds es a hij e1 e2 o1 o2 q1 q2 => ?_, fun i a h => ?_⟩
  · by_cases hi : i ∈ vs
    · rw [putSlots_in hi hl] at e
      have z := ok0.sl i s e
      have y := plain hp hi e
      cases s with
      | un => trivial
      | v d => obtain ⟨v, z1, z2⟩ := z; exact ⟨v, z1, z2.mono l⟩
      | o _ => cases y
      | p _ => cases y
    · rw [putSlots_out hi] at e
      have z := ok.sl i s e
      rw [wipe_out hi] at z
      exact z
  · obtain ⟨h1, e1⟩ := old e1 o1
    obtain ⟨h2, e2⟩ := old e2 o2
    exact ok.dis i j s t ds es a hij e1 e2 o1 o2 (by rw [wipe_out h1]; exact q1) (by rw [wipe_out h2]; exact q2)
  · obtain ⟨h1, ds, h2⟩ := ok.par i a h
    have hi : i ∉ vs := fun hi => by
      rw [wipe_at hi (by rw [ok0.len, ← hl]; exact (List.getElem?_eq_some_iff.mp h2).1)] at h1; cases h1
    rw [wipe_out hi] at h1
    exact ⟨h1, ds, by rw [putSlots_out hi]; exact h2⟩
/-- a private object is to stay as it is -/
def Fr.keep (fr : Fr) (a : Addr) (o : HO) : Fr := { fr with Z := fun b u => fr.Z b u ∨ (b = a ∧ u = o) }
structure Priv (fr : Fr) (F : Addr → Prop) (H : Hp) (σ : L2.St) (r : Env) (a : Addr) (o : HO) : Prop where
  at_ : H a = some o
  nf : ¬ F a
  nz : ∀ u, ¬ fr.Z a u
  ns : ∀ (i : Nat) (s : Slot) (es : List D), r[i]? = some s → s.opn = some es → σ[i]? ≠ some (some (V.ref a))
theorem Ok.keeping (ok : Ok G fr F H σ r) {a : Addr} {o : HO} (p : Priv fr F H σ r a o) : Ok G (fr.keep a o) F H σ r := by
  refine ⟨ok.fin, ok.grow, fun b u z => ?_, ok.len, fun i s e => ?_, ok.dis, ok.par⟩
  · rcases z with z | ⟨rfl, rfl⟩
    · exact ok.prot b u z
    · exact ⟨p.at_, p.nf⟩
  · have z := ok.sl i s e
    cases s with
    | un => trivial
    | v d => exact z
    | o ds =>
      obtain ⟨b, vs, e1, e2, e3, e4, e5⟩ := z
      exact ⟨b, vs, e1, e2, e3, fun u q => by
        rcases q with q | ⟨rfl, _⟩
        · exact e4 u q
        · exact p.ns i _ ds e rfl e1, e5⟩
    | p ds =>
      obtain ⟨b, vs, e1, e2, e3, e4, e5, e6⟩ := z
      exact ⟨b, vs, e1, e2, e3, fun u q => by
        rcases q with q | ⟨rfl, _⟩
        · exact e4 u q
        · exact p.ns i _ ds e rfl e1, e5, e6⟩
theorem Ok.kept (ok : Ok G (fr.keep a o) F H σ r) (nz : ∀ u, ¬ fr.Z a u) : Ok G fr F H σ r ∧ Priv fr F H σ r a o := by
  refine ⟨⟨ok.fin, ok.grow, fun b u z => ok.prot b u (.inl z), ok.len, fun i s e => ?_, ok.dis, ok.par⟩, ?_⟩
  · have z := ok.sl i s e
    cases s with
    | un => trivial
    | v d => exact z
    | o ds =>
      obtain ⟨b, vs, e1, e2, e3, e4, e5⟩ := z
      exact ⟨b, vs, e1, e2, e3, fun u q => e4 u (.inl q), e5⟩
    | p ds =>
      obtain ⟨b, vs, e1, e2, e3, e4, e5, e6⟩ := z
      exact ⟨b, vs, e1, e2, e3, fun u q => e4 u (.inl q), e5, e6⟩
  · obtain ⟨h1, h2⟩ := ok.prot a o (.inr ⟨rfl, rfl⟩)
    refine ⟨h1, h2, nz, fun i s es e1 e2 e3 => ?_⟩
    obtain ⟨vs, _, _, z, _⟩ := ok.opn_at e1 e2 e3
    exact z o (.inr ⟨rfl, rfl⟩)
/-- a private object is written -/
theorem Ok.privWrite (ok : Ok G fr F H σ r) {a : Addr} {o o' : HO} (p : Priv fr F H σ r a o) : Ok G fr F (upd H a o') σ r ∧ Priv fr F (upd H a o') σ r a o' ∧ Le F H F (upd H a o') := by
  have l : Le F H F (upd H a o') := fun b hb => ⟨hb, upd_ne fun z => by subst z; exact p.nf hb⟩
  refine ⟨⟨fun b hb => by rw [(l b hb).2]; exact ok.fin b hb, fun b hb => ⟨(ok.grow b hb).1, by rw [(l b (ok.grow b hb).1).2]; exact (ok.grow b hb).2⟩, fun b u z => ?_, ok.len, fun i s e => ?_, ok.dis, ok.par⟩, ⟨upd_same, p.nf, p.nz, p.ns⟩, l⟩
  · obtain ⟨h1, h2⟩ := ok.prot b u z
    exact ⟨by rw [upd_ne (fun q => by subst q; exact p.nz u z)]; exact h1, h2⟩
  · have z := ok.sl i s e
    cases s with
    | un => trivial
    | v d => obtain ⟨v, e1, e2⟩ := z; exact ⟨v, e1, e2.mono l⟩
    | o ds =>
      obtain ⟨b, vs, e1, e2, e3, e4, e5⟩ := z
      exact ⟨b, vs, e1, by rw [upd_ne (fun q => by subst q; exact p.ns i _ ds e rfl e1)]; exact e2, e3, e4, e5.mono l⟩
    | p ds =>
      obtain ⟨b, vs, e1, e2, e3, e4, e5, e6⟩ := z
      exact ⟨b, vs, e1, by rw [upd_ne (fun q => by subst q; exact p.ns i _ ds e rfl e1)]; exact e2, e3, e4, e5.mono l, e6⟩
end
/-- a comprehension's target: it writes its own slots alone -/
structure CT (G : Gc) (g : TG) (gd : D → Env → Option Env) (vs : List Nat) : Prop where
  go : ∀ v σ H (Q : L2.St → Hp → Prop) fr F r x r', Ok G fr F H σ r → Den G F H x v → gd x r = some r' → (∀ σ', wipe σ' vs = wipe σ vs → Ok G fr F H σ' r' → Q σ' H) → g v σ H Q
theorem ct_name {G : Gc} {i : Nat} : CT G (gName i) (gNm i) [i] := ⟨fun v σ H Q fr F r x r' ok d e q => by
  unfold gNm at e
  split at e
  · rename_i h
    cases e
    exact q _ (by simp [wipe]) (ok.storeV (notP_ok h) d)
  · cases e⟩
theorem ct_two {G : Gc} {i j : Nat} : CT G (gTup G.K 2 (gCons (gName i) (gCons (gName j) gNil))) (gTp 2 (gC (gNm i) (gC (gNm j) gN0))) [i, j] := ⟨fun v σ H Q fr F r x r' ok d e q => by
  unfold gTp at e
  split at e
  · rename_i ds
    split at e
    · rename_i hl
      simp only [Den] at d
      obtain ⟨a, vs, rfl, t, dl⟩ := d
      match ds, hl, e, dl with
      | [x, y], _, e, dl =>
        simp only [DenL] at dl
        obtain ⟨v, _, rfl, d1, w, _, rfl, d2, rfl⟩ := dl
        simp only [gC, gNm, gN0] at e
        split at e
        · rename_i h1
          simp only [Option.bind_some] at e
          split at e
          · rename_i h2
            simp only [Option.bind_some] at e
            cases e
            refine ⟨a, _, rfl, t.sq, rfl, v, [w], rfl, w, [], rfl, rfl, ?_⟩
            refine q _ ?_ ((ok.storeV (notP_ok h1) d1).storeV (notP_ok h2) d2)
            simp only [wipe]
            by_cases hij : i = j
            · subst hij; simp
            · rw [List.set_set, List.set_comm (none : Option V) none (Ne.symm hij), List.set_set, List.set_comm (none : Option V) none hij]
          · cases e
        · cases e
    · cases e
  · cases e⟩
def dYes : Env → Res Bool := fun r => .ok true r
def PI1 (X : Cx) (W : WX) (ifs : List Expr) (t : Env → Res Bool) : Prop := L2.PTs X ifs (tR (gc X) W RB t)
theorem q_nil {X : Cx} {W : WX} : PI1 X W [] dYes := ⟨fun pins s σ H Q I ⟨fr, F, r, ok, p⟩ => (pts_nil (X := X)).run pins s σ H Q I (p true H F ok Le.refl rfl)⟩
theorem q_one {X : Cx} {W : WX} {c : Expr} {t : Env → Res Bool} (h : PB X W c t) : PI1 X W [c] t := pts_one h
def dLcL (g : D → Env → Option Env) (t : Env → Res Bool) (e : Env → Res D) (vs : List Nat) : List D → Env → List D → Res (List D)
  | [], r, acc => .ok acc r
  | x :: xs, r, acc => match g x r with
    | none => .bad
    | some r1 => match t r1 with
      | .ok b r2 => if b = true then (match e r2 with
          | .ok y r3 => if (decide (acc.length < 16777216) && notPs r3 vs) = true then dLcL g t e vs xs (wipeR r3 vs) (acc ++ [y]) else .bad
          | _ => .bad) else (if notPs r2 vs = true then dLcL g t e vs xs (wipeR r2 vs) acc else .bad)
      | _ => .bad
def lcFin (r1 : Env) (vs : List Nat) (m : Res (List D)) : Res Val := match m with
  | .ok ys r2 => .ok (.n ys) (putSlots r1 vs r2)
  | _ => .bad
def dLc (di : Env → Res (List D)) (g : D → Env → Option Env) (t : Env → Res Bool) (e : Env → Res D) (vs : List Nat) : Env → Res Val := fun r => (di r).bind fun xs r1 => if plainAt r1 vs = true then lcFin r1 vs (dLcL g t e vs xs (wipeR r1 vs) []) else .bad
theorem lc_rd {X : Cx} {W : WX} {g : TG} {gd : D → Env → Option Env} {di : Env → Res (List D)} {t : Env → Res Bool} {e : Env → Res D} {vs : List Nat} (ct : CT (gc X) g gd vs) {σ : L2.St} {H : Hp} {Q : VK} (p : tV (gc X) W (dLc di gd t e vs) σ H Q) :
    tLc (tR (gc X) W (Draw (gc X)) di) g (tR (gc X) W0 RB t) (tR (gc X) W0 (Den (gc X)) e) vs σ H Q := by
  obtain ⟨fr, F, r, ok, p⟩ := p
  refine ⟨fr, F, r, ok, Post.seqV p fun xs r1 J H1 F1 ok1 l1 q1 p1 => ?_⟩
  split at p1
  · rename_i hpl
    intro a ha
    have nx := Nx.open (o := .lst []) ok1.fin ha
    have okw := (ok1.next nx).wipes (plainAt_notPs hpl)
    have pv : Priv fr F1 (upd H1 a (.lst [])) (wipe σ vs) (wipeR r1 vs) a (.lst []) := by
      refine ⟨upd_same, fun z => absurd ha (ok1.fin a z), fun u z => ?_, fun i s es e1 e2 e3 => ?_⟩
      · have := (ok1.prot a u z).1; rw [ha] at this; cases this
      · have e3' := (wipe_some e3).1
        obtain ⟨ws, z, _⟩ := okw.opn_at e1 e2 e3
        -- an open slot of the block was one of the frame
        have : ∃ s' es', r1[i]? = some s' ∧ s'.opn = some es' := by
          have hi : i ∉ vs := (wipe_some e3).2
          have key : ∀ {vs : List Nat} {i : Nat}, i ∉ vs → (wipeR r1 vs)[i]? = r1[i]? := by
            intro vs
            induction vs with
            | nil => intro i _; rfl
            | cons v vs ih =>
              intro i h
              simp only [List.mem_cons, not_or] at h
              unfold wipeR
              rw [List.getElem?_set_ne (Ne.symm h.1)]
              exact ih h.2
          rw [key hi] at e1
          exact ⟨s, es, e1, e2⟩
        obtain ⟨s', es', g1, g2⟩ := this
        obtain ⟨us, y, _⟩ := ok1.opn_at g1 g2 e3'
        rw [ha] at y; cases y
    have l0 : Le F1 H1 F1 (upd H1 a (.lst [])) := nx.toLe ok1.fin
    refine ⟨fun i m H2 => ∃ F2 r2 acc accv, i + m = xs.length ∧ Ok (gc X) fr F2 H2 (wipe σ vs) r2 ∧ Priv fr F2 H2 (wipe σ vs) r2 a (.lst accv) ∧ DenL (gc X) F2 H2 acc accv ∧ Le F1 H1 F2 H2 ∧ PostV (gc X) W fr F2 H2 σ (lcFin r1 vs (dLcL gd t e vs (xs.drop i) r2 acc)) Q,
      ⟨xs.length, F1, _, [], [], by omega, okw, pv, by simp only [DenL], l0, PostV.le l0 (by simpa using p1)⟩, fun i m H2 ⟨F2, r2, acc, accv, em, ok2, pv2, da, l2, p2⟩ => ?_⟩
    obtain ⟨go, stop⟩ := q1 F2 H2 l2 ok2.fin
    by_cases hi : i < xs.length
    · obtain ⟨g1, g2⟩ := go i _ (List.getElem?_eq_getElem hi)
      rw [List.drop_eq_getElem_cons hi] at p2
      refine .inr ⟨g1, fun H3 => ∃ F3 r3 acc' accv', Ok (gc X) fr F3 H3 (wipe σ vs) r3 ∧ Priv fr F3 H3 (wipe σ vs) r3 a (.lst accv') ∧ DenL (gc X) F3 H3 acc' accv' ∧ Le F1 H1 F3 H3 ∧ PostV (gc X) W fr F3 H3 σ (lcFin r1 vs (dLcL gd t e vs (xs.drop (i + 1)) r3 acc')) Q,
        fun H3 ⟨F3, r3, acc', accv', z1, z2, z3, z4, z5⟩ => ⟨m - 1, by omega, F3, r3, acc', accv', by omega, z1, z2, z3, z4, z5⟩, fun v H3 hy => ?_⟩
      obtain ⟨F3, n3, d3⟩ := g2 v H3 hy
      have le3 := n3.toLe ok2.fin
      have ok3 := (ok2.keeping pv2).next n3
      unfold dLcL at p2
      cases eg : gd xs[i] r2 with
      | none => rw [eg] at p2; exact p2.elim
      | some r3 =>
        rw [eg] at p2
        refine ct.go v _ H3 _ (fr.keep a (.lst accv)) F3 r2 xs[i] r3 ok3 d3 eg fun σ4 ew ok4 => ?_
        rw [wipe_wipe] at ew
        refine ⟨ew, fr.keep a (.lst accv), F3, r3, ok4, ?_⟩
        simp only at p2
        cases et : t r3 with
        | ok b r4 =>
          rw [et] at p2
          intro b' H5 F5 ok5 l5 eb
          have eb : b' = b := eb
          subst eb
          simp only at p2
          have P5 := PostV.le (le3.trans l5) p2
          cases b' with
          | true =>
            simp only [if_true] at P5
            refine ⟨fr.keep a (.lst accv), F5, r4, ok5, ?_⟩
            cases ee : e r4 with
            | ok y r5 =>
              rw [ee] at P5
              intro u H6 F6 ok6 l6 dy
              simp only at P5
              split at P5
              · rename_i hc
                rw [Bool.and_eq_true, decide_eq_true_eq] at hc
                obtain ⟨ok6', pv6⟩ := ok6.kept pv2.nz
                have ow := ok6'.wipes hc.2
                rw [ew] at ow
                have pw : Priv fr F6 H6 (wipe σ vs) (wipeR r5 vs) a (.lst accv) := by
                  have ok6w := ok6.wipes hc.2
                  rw [ew] at ok6w
                  exact (ok6w.kept pv2.nz).2
                have lall : Le F2 H2 F6 H6 := le3.trans (l5.trans l6)
                obtain ⟨okn, pvn, ln⟩ := ow.privWrite (o' := .lst (accv ++ [u])) pw
                refine ⟨accv, pv6.at_, by rw [da.length, line_eq]; exact hc.1, F6, _, acc ++ [y], accv ++ [u], okn, pvn, ?_, l2.trans (lall.trans ln), PostV.le (l6.trans ln) P5⟩
                exact ((da.mono lall).append (.one dy)).mono ln
              · exact P5.elim
            | err x r5 => rw [ee] at P5; exact P5.elim
            | bad => rw [ee] at P5; exact P5.elim
          | false =>
            simp only [Bool.false_eq_true, if_false] at P5
            split at P5
            · rename_i hn
              have ok5w := ok5.wipes hn
              rw [ew] at ok5w
              obtain ⟨okn, pvn⟩ := ok5w.kept pv2.nz
              exact ⟨F5, _, acc, accv, okn, pvn, da.mono (le3.trans l5), l2.trans (le3.trans l5), P5⟩
            · exact P5.elim
        | err x r4 => rw [et] at p2; exact p2.elim
        | bad => rw [et] at p2; exact p2.elim
    · refine .inl ⟨stop i (by omega), ?_⟩
      rw [List.drop_eq_nil_of_le (by omega)] at p2
      refine p2 (.ref a) H2 F2 (ok1.unwipe hpl ok2 l2) Le.refl ⟨a, accv, rfl, pv2.at_, pv2.nf, pv2.nz, da, fun i s es e1 e2 e3 => ?_⟩
      have okf := ok1.unwipe hpl ok2 l2
      obtain ⟨us, y1, y2, y3, y4⟩ := okf.opn_at e1 e2 e3
      -- a was not there when the frame's slots were filled
      have hl : r2.length = r1.length := by rw [← ok2.len, wipe_length, ok1.len]
      by_cases hiv : i ∈ vs
      · rw [putSlots_in hiv hl] at e1
        obtain ⟨ws, y, _⟩ := ok1.opn_at e1 e2 e3
        rw [ha] at y; cases y
      · rw [putSlots_out hiv] at e1
        exact pv2.ns i s es e1 e2 (by rw [wipe_out hiv]; exact e3)
  · exact (show False from p1).elim
section
variable {X : Cx} {W : WX} {pos : Pos}
theorem v_lc {elt tg iter : Expr} {ifs : List Expr} {scope : Scope} {own : List (Str × Nat)} {di : Env → Res (List D)} {g : TG} {gd : D → Env → Option Env} {t : Env → Res Bool} {e : Env → Res D} (hc : X.calm = true) (hN : X.N.Nodup) (hi : PIt X W tg iter di) (ok : BlkOk X.N X.env.scope scope own)
    (ct : CT (gc X) g gd (own.map (·.2))) (hg : ∀ (s : Shared) (H : Hp) (C : Addr) (cl : List (Str × Addr)) (fp : List Addr), PG (X.blk s H scope (compEnvC scope cl C X.env) fp) tg g)
    (ht : ∀ (s : Shared) (H : Hp) (C : Addr) (cl : List (Str × Addr)) (fp : List Addr), PI1 (X.blk s H scope (compEnvC scope cl C X.env) fp) W0 ifs t) (he : ∀ (s : Shared) (H : Hp) (C : Addr) (cl : List (Str × Addr)) (fp : List Addr), PX (X.blk s H scope (compEnvC scope cl C X.env) fp) W0 elt e)
    (hs : ∀ x, foldedSetIterable iter X.env x = pure x := by intro _; rfl) : PV X W (.ListComp elt [⟨tg, iter, ifs, 0⟩] scope pos) (dLc di gd t e (own.map (·.2))) :=
  pe_weak (pe_lc (tt := tR (gc X) W0 RB t) (te := tR (gc X) W0 (Den (gc X)) e) hc hN hi ok hg (fun s H C cl fp => ht s H C cl fp) (fun s H C cl fp => he s H C cl fp) hs) fun σ H Q p => lc_rd ct p
/-- name = [..] on one line -/
theorem s_setLc {i : Nat} {y : Str} {py spos : Pos} {elt tg iter : Expr} {ifs : List Expr} {scope : Scope} {own : List (Str × Nat)} {di : Env → Res (List D)} {g : TG} {gd : D → Env → Option Env} {t : Env → Res Bool} {e : Env → Res D} (hc : X.calm = true) (hN : X.N.Nodup) (hy : X.N[i]? = some y) (hyl : X.env.scope.names.lookup y = some .local)
    (hsw : swapsWith (.ListComp elt [⟨tg, iter, ifs, 0⟩] scope pos) (some (.Name y py)) spos.line X.env = pure true) (hi : PIt X W tg iter di) (ok : BlkOk X.N X.env.scope scope own)
    (ct : CT (gc X) g gd (own.map (·.2))) (hg : ∀ (s : Shared) (H : Hp) (C : Addr) (cl : List (Str × Addr)) (fp : List Addr), PG (X.blk s H scope (compEnvC scope cl C X.env) fp) tg g)
    (ht : ∀ (s : Shared) (H : Hp) (C : Addr) (cl : List (Str × Addr)) (fp : List Addr), PI1 (X.blk s H scope (compEnvC scope cl C X.env) fp) W0 ifs t) (he : ∀ (s : Shared) (H : Hp) (C : Addr) (cl : List (Str × Addr)) (fp : List Addr), PX (X.blk s H scope (compEnvC scope cl C X.env) fp) W0 elt e)
    (hs : ∀ x, foldedSetIterable iter X.env x = pure x := by intro _; rfl) : PT1 X W (.Assign [.Name y py] (.ListComp elt [⟨tg, iter, ifs, 0⟩] scope pos) spos) (dSet i (dLc di gd t e (own.map (·.2)))) :=
  ps_weak (ps_setLc (tt := tR (gc X) W0 RB t) (te := tR (gc X) W0 (Den (gc X)) e) hc hN hy hyl hsw hi ok hg (fun s H C cl fp => ht s H C cl fp) (fun s H C cl fp => he s H C cl fp) hs) fun E σ H ⟨fr, F, r, ok, p⟩ => by
    refine lc_rd (W := W) ct ⟨fr, F, r, ok, PostV.toS p fun x r1 v H1 F1 ok1 l1 q1 p1 => ?_⟩
    split at p1
    · rename_i h
      cases x with
      | v d => exact p1 _ H1 F1 (ok1.storeV (notP_ok h) q1) Le.refl
      | n ds => exact p1 _ H1 F1 (ok1.storeN (notP_ok h) q1) Le.refl
    · exact (show False from p1).elim
end
end Py
end

section
set_option maxHeartbeats 400000
namespace Py
open PySem PySem.Spec PyProof.Rows L2

/-! ## What the top has left: classes of exceptions, defs -/
def dO {α : Type} [DecidableEq α] (a b : α) : Bool := decide (a = b)
def pxB (K : PySem.W.Frag) (C : Addr) : Bool :=
  decide (PySem.W.findIn K (.ref C) "__getattribute__" = some (some (.builtin "BaseException.__getattribute__"))) && (decide (PySem.W.findIn K (.ref C) "__getattr__" = some none) && (decide (PySem.W.subIn K (.ref C) (.type "BaseException") = some true) && (PySem.W.hasDictIn K C &&
  (decide (PySem.W.findIn K (.ref C) "__class__" = some (some (.builtin "object.__class__"))) && (decide (PySem.W.specialIn K (.builtin "object.__class__") "__get__" = some (some (.builtin "getset_descriptor.__get__"))) && (decide (PySem.W.takesIn K (.builtin "object.__class__") = some true) && decide (PySem.W.mroIn K C (.type "object") = some true)))))))
theorem pxB_ok {K : PySem.W.Frag} {C : Addr} (h : pxB K C = true) : PySem.W.PxC K C := by
  unfold pxB at h
  simp only [Bool.and_eq_true, decide_eq_true_eq] at h
  obtain ⟨h1, h2, h3, h4, h5, h6, h7, h8⟩ := h
  exact ⟨h1, h2, h3, h4, h5, h6, h7, h8⟩
def oexB (K : PySem.W.Frag) (C : Addr) : Bool := (match K.lookup C with
  | some ⟨.type "type", _, .cls cd, sl⟩ => (match cd.mro, sl.toList with
    | .ref C' :: bm, [_, _, _, _, some (.builtin n), _] => decide (C' = C) && (decide (n = "ValueError.__new__") && (!cd.hasDel && (cd.hasDict && PySem.HandSPX.refsVE bm)))
    | _, _ => false)
  | _ => false) && (decide (PySem.W.findIn K (.ref C) "__setattr__" = some (some (.builtin "object.__setattr__"))) && (decide (PySem.W.subIn K (.ref C) (.type "BaseException") = some true) && (decide (PySem.W.typeIn K (.ref C) = some (.type "type")) && PySem.W.keepIn K (.ref C))))
theorem oexB_ok {K : PySem.W.Frag} {C : Addr} (h : oexB K C = true) : OexC K C := by
  unfold oexB at h
  rw [Bool.and_eq_true] at h
  obtain ⟨h0, h⟩ := h
  simp only [Bool.and_eq_true, decide_eq_true_eq] at h
  obtain ⟨h1, h2, h3, h4⟩ := h
  refine ⟨?_, h1, h2, h3, h4⟩
  split at h0
  · rename_i dd cd sl e
    split at h0
    · rename_i C' bm k0 k1 k2 k3 n k5 e1 e2
      simp only [Bool.and_eq_true, decide_eq_true_eq, Bool.not_eq_true'] at h0
      obtain ⟨rfl, rfl, a, b, c⟩ := h0
      obtain ⟨nm, bs, mro, ns, q, hd, sn, sub, ab, col, del⟩ := cd
      simp only at e1 a b
      subst e1 a b
      have es : sl = #[k0, k1, k2, k3, some (.builtin "ValueError.__new__"), k5] := by rw [← e2]
      subst es
      exact ⟨_, _, _, _, _, _, _, _, _, _, _, _, _, _, _, e, c⟩
    · cases h0
  · cases h0
def allTy : List Ty := [.int, .bool, .str, .tup, .lst, .dct, .non, .verr]
theorem mem_allTy (t : Ty) : t ∈ allTy := by cases t <;> decide
def excB (K : PySem.W.Frag) (T : Tbl) (fields : List Str) : Bool := T.all fun p =>
  decide (PySem.W.nsIn K mainGlobals p.1 = some (some (.ref (He.ga K p.1)))) && (pxB K (He.ga K p.1) &&
  ((T.all fun q => decide (PySem.W.kitOne K (.ref (He.ga K p.1)) (.ref (He.ga K q.1)) = some (p.2.contains q.1)) && decide (PySem.W.exmOne K (.ref (He.ga K p.1)) (.ref (He.ga K q.1)) = some (p.2.contains q.1))) &&
  ((allTy.all fun t => decide (PySem.W.kitOne K (.ref (He.ga K p.1)) (.type t.nm) = some (t == .verr)) && (t == .verr || decide (PySem.W.kitOne K (.type t.nm) (.ref (He.ga K p.1)) = some false))) &&
  (fields.all fun f => decide (PySem.W.findIn K (.ref (He.ga K p.1)) f = some none)))))
theorem lookup_mem {T : Tbl} {n : Str} {anc : List Str} (h : T.lookup n = some anc) : (n, anc) ∈ T := by
  induction T with
  | nil => cases h
  | cons p T ih =>
    obtain ⟨m, a⟩ := p
    simp only [List.lookup] at h
    by_cases e : n == m
    · rw [e] at h; cases h; rw [beq_iff_eq.mp e]; exact List.mem_cons_self
    · have e' : (n == m) = false := by simpa using e
      rw [e'] at h; exact List.mem_cons_of_mem _ (ih h)
theorem excB_ok {K : PySem.W.Frag} {h : Heap} {mg : Str → Option Value} {T : Tbl} {fields : List Str} (X : K.In h) (G : h.Ns mainGlobals mg) (e : excB K T fields = true) :
    ExcT K mg T ∧ (∀ n anc, T.lookup n = some anc → mg n = some (.ref (He.ga K n))) ∧ ∀ f ∈ fields, ∀ n anc C, T.lookup n = some anc → mg n = some (.ref C) → PySem.W.findIn K (.ref C) f = some none := by
  unfold excB at e
  rw [List.all_eq_true] at e
  have ff : ∀ n anc, T.lookup n = some anc → _ := fun n anc hl => e (n, anc) (lookup_mem hl)
  have gl : ∀ n anc, T.lookup n = some anc → mg n = some (.ref (He.ga K n)) := fun n anc hl => by
    have q := ff n anc hl
    simp only [Bool.and_eq_true, decide_eq_true_eq] at q
    exact PySem.W.mg_of X G q.1
  refine ⟨⟨fun n anc hl => ?_⟩, gl, fun f hf n anc C hl hC => ?_⟩
  · have q := ff n anc hl
    simp only [Bool.and_eq_true] at q
    obtain ⟨q1, q2, q3, q4, q5⟩ := q
    refine ⟨He.ga K n, gl n anc hl, pxB_ok q2, fun m anc' hm D hD => ?_, fun t => ?_, fun t ht => ?_⟩
    · rw [gl m anc' hm] at hD; cases hD
      have z := List.all_eq_true.mp q3 (m, anc') (lookup_mem hm)
      simp only [Bool.and_eq_true, decide_eq_true_eq] at z
      exact z
    · have z := List.all_eq_true.mp q4 t (mem_allTy t)
      simp only [Bool.and_eq_true, decide_eq_true_eq] at z
      exact z.1
    · have z := List.all_eq_true.mp q4 t (mem_allTy t)
      simp only [Bool.and_eq_true, decide_eq_true_eq, Bool.or_eq_true] at z
      rcases z.2 with z | z
      · exact absurd (by simpa using z) ht
      · exact z
  · rw [gl n anc hl] at hC; cases hC
    have q := ff n anc hl
    simp only [Bool.and_eq_true] at q
    obtain ⟨q1, q2, q3, q4, q5⟩ := q
    exact of_decide_eq_true (List.all_eq_true.mp q5 f hf)
/-- the classes that are raised: their makers -/
def mkB (K : PySem.W.Frag) (n : Str) : Bool := oexB K (He.ga K n) && (decide (PySem.W.findIn K (.ref (He.ga K n)) "__init__" = some (some (.ref (He.ma K (He.ga K n) "__init__")))) && decide (PySem.W.typeIn K (.ref (He.ma K (He.ga K n) "__init__")) = some (.type "function")))
/-- all that is to be read off the top -/
structure Top where
  fa : List He.Fa
  fn : List He.DefD
  T : Tbl
  fields : List Str
  raised : List Str
abbrev Top.Al : Type := Bool × He.AlD
def Top.obs (t : Top) (K : PySem.W.Frag) : Top.Al := (excB K t.T t.fields && t.raised.all fun n => mkB K n, He.obsD t.fa t.fn K)
def Top.val (t : Top) : Top.Al := (true, He.valD t.fn)
def Top.Says (t : Top) (K : PySem.W.Frag) : Prop := t.obs K = t.val
def Top.obsG (t : Top) (n : Nat) (g : Addr → Option Obj) : Top.Al := t.obs (He.frG g (He.asD g n))
def Top.hook (t : Top) (n : Nat) : PySem.W.Hook where
  α := Top.Al
  obs := fun s => t.obsG n s.heap.get?
  val := fun _ => t.val
  says := fun _ h => ∃ K : PySem.W.Frag, K.In h ∧ t.Says K
  of := fun _ _ e => ⟨_, He.frG_in, e⟩
  keeps := fun _ _ _ ⟨K, hK, c⟩ k => ⟨K, PySem.W.Frag.In.keeps hK k, c⟩
theorem Top.obsG_eq {t : Top} {n : Nat} {g : Addr → Option Obj} {s : Shared} (h : ∀ a, g a = s.heap.get? a) : t.obsG n g = (t.hook n).obs s := by
  have e : g = s.heap.get? := funext h
  rw [e] <;> rfl
section
variable {t : Top} {K : PySem.W.Frag}
theorem Top.Says.d (c : t.Says K) : He.SaysD t.fa t.fn K := congrArg (fun z : Top.Al => z.2) c
theorem Top.Says.exc (c : t.Says K) : excB K t.T t.fields = true := by
  have := congrArg (fun z : Top.Al => z.1) c
  exact (Bool.and_eq_true_iff.mp this).1
theorem Top.Says.mk (c : t.Says K) {n : Str} (h : n ∈ t.raised) : mkB K n = true := by
  have := congrArg (fun z : Top.Al => z.1) c
  exact List.all_eq_true.mp (Bool.and_eq_true_iff.mp this).2 n h
end
/-- what stands behind the top, for the walks -/
structure Env1 (t : Top) (K : PySem.W.Frag) (mg : Str → Option Value) : Prop where
  says : t.Says K
  ex : ∃ h : Heap, K.In h ∧ h.Ns mainGlobals mg
section
variable {t : Top} {K : PySem.W.Frag} {mg : Str → Option Value} (e : Env1 t K mg)
include e
theorem Env1.free {x : Str} (i : Nat) (h : t.fa[i]? = some (.free x) := by rfl) : mg x = none := by
  obtain ⟨hp, X, G⟩ := e.ex
  exact He.free_ok X G (e.says.d.fact i h)
theorem Env1.tbl : ExcT K mg t.T := by
  obtain ⟨hp, X, G⟩ := e.ex
  exact (excB_ok X G e.says.exc).1
theorem Env1.cls {n : Str} {anc : List Str} (h : t.T.lookup n = some anc := by rfl) : mg n = some (.ref (He.ga K n)) := by
  obtain ⟨hp, X, G⟩ := e.ex
  exact (excB_ok X G e.says.exc).2.1 n anc h
theorem Env1.fld {f : Str} (h : f ∈ t.fields) : ∀ n anc C, t.T.lookup n = some anc → mg n = some (.ref C) → PySem.W.findIn K (.ref C) f = some none := by
  obtain ⟨hp, X, G⟩ := e.ex
  exact (excB_ok X G e.says.exc).2.2 f h
end
/-- a def of the text: what it is worth -/
structure DefOk (P : Program) (w : World) (K : PySem.W.Frag) (mg : Str → Option Value) (base : Heap) (k : Nat) (x : Str) (n : Nat) (fn : Fn) : Prop where
  ex : ∃ f fd ps, FnOk P w K mg base (L2.CX P w) k f fd ps (spF ⟨K, mg⟩ n fn) ∧ mg x = some (.ref f) ∧ PySem.W.keepIn K (.ref f) = true ∧ Binds K fd ps []
section
variable {P : Program} {w : World} {base : Heap} {t : Top} {K : PySem.W.Frag} {mg : Str → Option Value}
theorem fn_okD {x qual : Str} {st : Stmt} {f : Addr} {fd : FuncData} {N ps : List Str} {k : Nat} {body : Env → SRes} (Fu : FunD K x qual (defArgs st) (defBody st) (defScope st) [] [] f fd) (S : FnScope N ps (defScope st)) (hN : ps.length ≤ N.length)
    (hb : ∀ (cdv : Value) (A : Around) (outer : List PySem.Env) (s : Shared) (H : Hp) (E : XK), Room k (A.deeper (envOfC qual (defScope st) s.heap.objs.size f cdv)) → PTs (cxOf (L2.CX P w) P w K mg base N qual (defScope st) f cdv A outer s H E) (wD E) (defBody st) body) :
    FnOk P w K mg base (L2.CX P w) (k + 1) f fd ps (spF ⟨K, mg⟩ ps.length (runD N.length body)) := by
  obtain ⟨oc, od, dV, kV, doc, pm, an, cdv, ct, osl, rfl, lk, hcd, hD, hK⟩ := Fu.ex
  refine fn_of lk hcd S (fun vs H Q E h => ?_) fun A outer s H vs Q E hr h => ?_
  · obtain ⟨F, args, h1, _, h2, _⟩ := h
    rw [h2.len, h1]
  · refine ⟨_, hb _ A outer s H E hr, ?_⟩
    obtain ⟨F, args, h1, k0, h2, h3⟩ := h
    refine ⟨frOf F H args vs, F, args ++ List.replicate (N.length - args.length) Slot.un, Ok.enter (N := N) k0 h2 (by omega), ?_⟩
    unfold runD at h3
    cases e : body (args ++ List.replicate (N.length - args.length) .un) with
    | nx r => rw [e] at h3; exact fun σ' H' F' ok l => h3 .non H' F' (ok.leave l) (by simp only [Den])
    | rt x r => rw [e] at h3; exact fun v σ' H' F' ok l d => h3 v H' F' (ok.leave l) d
    | rn ds r =>
      rw [e] at h3
      intro v σ' H' F' ok l ⟨a, ws, ev, d1, d2, d3, d4, d5⟩
      subst ev
      refine h3 a ws H' F' (ok.leave l) d1 d2 ?_ d4
      cases q : H a with
      | none => rfl
      | some o =>
        by_cases hp : ∃ (i : Nat) (ds : List D), args[i]? = some (.p ds) ∧ vs[i]? = some (.ref a)
        · obtain ⟨i, ds', g1, g2⟩ := hp
          obtain ⟨q1, es, q2⟩ := ok.par i a ⟨⟨ds', g1⟩, g2⟩
          exact absurd q1 (d5 i _ es q2 rfl)
        · by_cases hF : F a
          · exact absurd (l a hF).1 d2
          · exact absurd ⟨q, hF, fun i ds' g1 g2 => hp ⟨i, ds', g1, g2⟩⟩ (d3 o)
    | err x r => rw [e] at h3; exact fun c dd σ' H' F' ok l d => h3 c dd H' F' (ok.leave l) d
    | bk r => rw [e] at h3; exact h3.elim
    | ct r => rw [e] at h3; exact h3.elim
    | bad => rw [e] at h3; exact h3.elim
/-- a def from what the top says of it -/
theorem def_of {x : Str} {st : Stmt} {N ps : List Str} {k : Nat} {body : Env → SRes} (e : Env1 t K mg) (i j : Nat) (hd : t.fn[i]? = some ⟨(x, none), x, x, defArgs st, defBody st, defScope st, [], []⟩) (hg : t.fa[j]? = some (.glo x)) (S : FnScope N ps (defScope st)) (hN : ps.length ≤ N.length)
    (bi : ∀ (kV doc pm : Value) (an : Option Addr) (cdv ct : Value) (us : List Value), us.length = ps.length → bindArgs (PySem.W.fnOf x x (defArgs st) (defBody st) (defScope st) .none kV doc pm an cdv ct) ⟨us, []⟩ = pure (ps.zip us))
    (hb : ∀ (f : Addr) (cdv : Value) (A : Around) (outer : List PySem.Env) (s : Shared) (H : Hp) (E : XK), Room k (A.deeper (envOfC x (defScope st) s.heap.objs.size f cdv)) → PTs (cxOf (L2.CX P w) P w K mg base N x (defScope st) f cdv A outer s H E) (wD E) (defBody st) body) :
    DefOk P w K mg base (k + 1) x ps.length (runD N.length body) := by
  obtain ⟨fd, Fu⟩ := e.says.d.def_ i hd
  obtain ⟨hp, X, G⟩ := e.ex
  exact ⟨_, fd, ps, fn_okD Fu S hN (hb _), He.glo_ok X G (e.says.d.fact j hg), Fu.kp, FunD.bindsN Fu bi⟩
theorem v_callD {X : Cx} {W : WX} {pos : Pos} {k n : Nat} {fn : Fn} {x : Str} {p : Pos} {e : Expr} {es : List Expr} {ds : Env → Res (List Arg)} (Do : DefOk X.prog X.w X.K X.mg X.base k x n fn) (hr : Room k X.A) (hg : Gl X x) (tk : Takes X W) (ha : PLA X W (e :: es) ds) (hds : ALen ds n)
    (hl : (e :: es).length = n := by rfl) (hdb : (x == ("__debug__" : Str)) = false := by decide) (he : starEach (e :: es) X.env = (false, eval e X.env) :: starEach es X.env := by rfl) (hpl : (backTo pos (starEach es X.env)).any (·.1) = false := by rfl) : PV X W (.Call (.Name x p) (e :: es) [] pos) (dCall fn ds) := by
  obtain ⟨f, fd, ps, h1, h2, h3, h4⟩ := Do.ex
  exact v_call h1 hr hg h2 h3 h4 tk ha hl hdb he hpl hds
/-- the maker of an exception class -/
theorem init_ok {n f : Str} {st : Stmt} {C fI : Addr} {fd : FuncData} {p0 p1 : Str} (Fu : FunD K "__init__" (n ++ ".__init__") (defArgs st) (defBody st) (defScope st) [] [] fI fd) (S : FnScope [p0, p1] [p0, p1] (defScope st)) (T : OexC K C) (hno : PySem.W.findIn K (.ref C) f = some none)
    (hb : ∀ X : Cx, X.K = K → X.N = [p0, p1] → X.env.scope = defScope st → PSs X (defBody st) (tOst X.K f (tVar 0) (tVar 1))) : FnOk P w K mg base (L2.CX P w) 1 fI fd [p0, p1] (spI C f) := by
  obtain ⟨oc, od, dV, kV, doc, pm, an, cdv, ct, osl, rfl, lk, hcd, hD, hK⟩ := Fu.ex
  refine fn_of lk hcd S (fun vs H Q E h => ?_) fun A outer s H vs Q E hr h => ⟨_, hb _ rfl rfl rfl, init_rd T hno h rfl⟩
  obtain ⟨a, v, rfl, _⟩ := h
  rfl
end
end Py
end

section
set_option maxHeartbeats 400000
namespace Py
open PySem PySem.Spec PyProof.Rows L2
section
variable {X : Cx} {W : WX} {pos : Pos}
/-! ## A list handed on by its name -/
def dMove (i : Nat) : Env → Res Val := fun r => match r[i]? with
  | some (.v d) => .ok (.v d) r
  | some (.o ds) => .ok (.n ds) (r.set i .un)
  | _ => .bad
theorem v_move (i : Nat) {x : Str} (h : PE X (.Name x pos) (tVar i)) : PV X W (.Name x pos) (dMove i) :=
  pe_weak h fun σ H Q ⟨fr, F, r, ok, p⟩ => by
    unfold dMove at p
    split at p
    · rename_i d e
      obtain ⟨v, h1, h2⟩ := ok.sl i _ e
      exact ⟨v, h1, p v H F ok Le.refl h2⟩
    · rename_i ds e
      obtain ⟨a, vs, h1, h2, h3, h4, h5⟩ := ok.sl i _ e
      refine ⟨.ref a, h1, p (.ref a) H F (ok.unset fun es z => by rw [e] at z; cases z) Le.refl ⟨a, vs, rfl, h2, h3, h4, h5, fun j s es e1 e2 e3 => ?_⟩⟩
      by_cases hj : i = j
      · subst hj
        rw [List.getElem?_set_self (List.getElem?_eq_some_iff.mp e).1] at e1; cases e1; cases e2
      · rw [List.getElem?_set_ne hj] at e1
        exact ok.dis i j _ _ ds es a hj e e1 rfl e2 h1 e3
    · exact p.elim
/-! ## tuple(range(..)), list(range(..)) -/
theorem rgV_den {G : Gc} {F : Addr → Prop} {H : Hp} (a b : Int) : DenL G F H (intsD a (b - a).toNat) (rgV a b) := by
  unfold intsD rgV
  generalize (b - a).toNat = n
  have : ∀ l : List Nat, DenL G F H (l.map fun (k : Nat) => D.int (a + (k : Int))) (l.map fun i => V.int (a + (i : Nat))) := by
    intro l
    induction l with
    | nil => simp [DenL]
    | cons x l ih => simp only [List.map_cons, DenL]; exact ⟨_, _, rfl, by simp only [Den], ih⟩
  exact this _
noncomputable def rgB (a b : Int) : Bool := inR a && (inR b && decide ((b - a).toNat ≤ 16777216))
theorem rgB_ok {a b : Int} (h : rgB a b = true) : RgOk a b := by
  unfold rgB at h
  simp only [Bool.and_eq_true, decide_eq_true_eq] at h
  have h1 := inR_ok h.1
  have h2 := inR_ok h.2.1
  exact ⟨h1.1, h1.2, h2.1, h2.2, by have := h.2.2; omega⟩
noncomputable def fTupRg (a b : Int) : Option D := if rgB a b = true then some (.tup (intsD a (b - a).toNat)) else none
noncomputable def dTupRg1 (d : Env → Res D) : Env → Res D := fun r => (d r).bind fun x r => match x with
  | .int j => Res.of (fTupRg 0 j) r
  | _ => .bad
noncomputable def dTupRg2 (da db : Env → Res D) : Env → Res D := fun r => (da r).bind fun x r => (db r).bind fun y r => match x, y with
  | .int i, .int j => Res.of (fTupRg i j) r
  | _, _ => .bad
theorem tuprg_end {fr F H σ r} {Q : VK} (ok : Ok (gc X) fr F H σ r) {a b : Int} (p : Post (gc X) W (Den (gc X)) fr F H σ (Res.of (fTupRg a b) r) Q) : RgOk a b ∧ ∀ q, H q = none → Q (.ref q) (upd H q (.tup (rgV a b))) := by
  obtain ⟨z, e, g⟩ := post_of ok p
  unfold fTupRg at e
  split at e
  · rename_i h
    cases e
    exact ⟨rgB_ok h, fun q hq => g _ _ _ (Nx.frz ok.fin hq) (den_newt hq ok.fin (rgV_den a b))⟩
  · cases e
theorem x_tupRg1 {a : Expr} {d : Env → Res D} {p p2 pos2 : Pos} (hc : X.calm = true) (hg : Gl X "tuple") (hm : X.mg "tuple" = none) (hg2 : Gl X "range") (hm2 : X.mg "range" = none) (ha : PX X W a d) (na : starEach [a] X.env = (false, eval a X.env) :: starEach [] X.env := by rfl)
    (nt : starEach [.Call (.Name "range" p2) [a] [] pos2] X.env = (false, eval (.Call (.Name "range" p2) [a] [] pos2) X.env) :: starEach [] X.env := by rfl) : PX X W (.Call (.Name "tuple" p) [.Call (.Name "range" p2) [a] [] pos2] [] pos) (dTupRg1 d) :=
  pe_weak (pe_tupRg hc hg hm (prg_1 hg2 hm2 ha na) nt) fun σ H Q ⟨fr, F, r, ok, p⟩ => ⟨fr, F, r, ok, Post.seq p fun x r1 v H1 F1 ok1 l1 q1 p1 => by
    cases x with
    | int j =>
      simp only [Den] at q1
      subst q1
      exact ⟨j, rfl, tuprg_end ok1 p1⟩
    | _ => exact (show False from p1).elim⟩
theorem x_tupRg2 {a b : Expr} {da db : Env → Res D} {p p2 pos2 : Pos} (hc : X.calm = true) (hg : Gl X "tuple") (hm : X.mg "tuple" = none) (hg2 : Gl X "range") (hm2 : X.mg "range" = none) (ha : PX X W a da) (hb : PX X W b db) (na : starEach [a, b] X.env = (false, eval a X.env) :: starEach [b] X.env := by rfl)
    (nb : starEach [b] X.env = (false, eval b X.env) :: starEach [] X.env := by rfl) (hp : (backTo pos2 (starEach [b] X.env)).any (·.1) = false := by rfl)
    (nt : starEach [.Call (.Name "range" p2) [a, b] [] pos2] X.env = (false, eval (.Call (.Name "range" p2) [a, b] [] pos2) X.env) :: starEach [] X.env := by rfl) : PX X W (.Call (.Name "tuple" p) [.Call (.Name "range" p2) [a, b] [] pos2] [] pos) (dTupRg2 da db) :=
  pe_weak (pe_tupRg hc hg hm (prg_2 hg2 hm2 ha hb na nb hp) nt) fun σ H Q ⟨fr, F, r, ok, p⟩ => ⟨fr, F, r, ok, Post.seq p fun x r1 v H1 F1 ok1 l1 q1 p1 => ⟨fr, F1, r1, ok1, Post.seq p1 fun y r2 u H2 F2 ok2 l2 q2 p2 => by
    cases x with
    | int i =>
      cases y with
      | int j =>
        simp only [Den] at q1 q2
        subst q1 q2
        exact ⟨i, j, rfl, rfl, tuprg_end ok2 p2⟩
      | _ => exact (show False from p2).elim
    | _ => exact (show False from p2).elim⟩⟩
/-! ## Slices -/
abbrev RO : (Addr → Prop) → Hp → Option Int → Option Int → Prop := fun _ _ b c => c = b
def PP (X : Cx) (W : WX) (e : Option Expr) (d : Env → Res (Option Int)) : Prop := PO X e (tR (gc X) W RO d)
theorem po_weak {e : Option Expr} {t t' : TO} (h : PO X e t) (w : ∀ σ H Q, t' σ H Q → t σ H Q) : PO X e t' := ⟨fun pins s σ H Q I k => h.run pins s σ H Q I (w σ H Q k)⟩
def dNoP : Env → Res (Option Int) := fun r => .ok none r
def dPart (d : Env → Res D) : Env → Res (Option Int) := fun r => (d r).bind fun x r => match x with
  | .int i => .ok (some i) r
  | _ => .bad
theorem p_none : PP X W none dNoP := po_weak po_none fun σ H Q ⟨fr, F, r, ok, p⟩ => p none H F ok Le.refl rfl
theorem p_some {e : Expr} {d : Env → Res D} (h : PX X W e d) : PP X W (some e) (dPart d) := po_weak (po_some h) fun σ H Q ⟨fr, F, r, ok, p⟩ => ⟨fr, F, r, ok, Post.seq p fun x r1 v H1 F1 ok1 l1 q1 p1 => by
  cases x with
  | int i => simp only [Den] at q1; exact ⟨i, q1, p1 (some i) H1 F1 ok1 Le.refl rfl⟩
  | _ => exact (show False from p1).elim⟩
def cutD (xs : List D) (lo hi : Option Int) : List D := (xs.drop (HT.sIx xs.length 0 lo)).take (HT.sIx xs.length xs.length hi - HT.sIx xs.length 0 lo)
theorem cut_den {G F H} {ds : List D} {vs : List V} (h : DenL G F H ds vs) (lo hi : Option Int) : DenL G F H (cutD ds lo hi) (cutV vs lo hi) := by
  unfold cutD cutV
  rw [h.length]
  exact (h.drop _).take _
def fCut (x : D) (lo hi : Option Int) : Option D := match x with
  | .tup ds => some (.tup (cutD ds lo hi))
  | .lst ds => some (.lst (cutD ds lo hi))
  | .frl ds => some (.lst (cutD ds lo hi))
  | .str y => if y.length ≤ 16777216 then some (.str (cutS y lo hi)) else none
  | _ => none
def dCut (d : Env → Res D) (dl dh : Env → Res (Option Int)) : Env → Res D := fun r => (d r).bind fun x r => (dl r).bind fun lo r => (dh r).bind fun hi r => Res.of (fCut x lo hi) r
theorem x_cut {e : Expr} {lo hi : Option Expr} {p2 : Pos} {d : Env → Res D} {dl dh : Env → Res (Option Int)} (he : PX X W e d) (hl : PP X W lo dl) (hh : PP X W hi dh) : PX X W (.Subscript e (.Slice lo hi none p2) pos) (dCut d dl dh) :=
  pe_weak (pe_slice ((sl_list.or sl_tupA).or sl_str) he hl hh) fun σ H Q ⟨fr, F, r, ok, p⟩ => ⟨fr, F, r, ok, Post.seq p fun x r1 v H1 F1 ok1 l1 q1 p1 => ⟨fr, F1, r1, ok1, Post.seq p1 fun lo r2 lo' H2 F2 ok2 l2 q2 p2 => ⟨fr, F2, r2, ok2, Post.seq p2 fun hi r3 hi' H3 F3 ok3 l3 q3 p3 => by
    have q2 : lo' = lo := q2
    have q3 : hi' = hi := q3
    subst q2 q3
    obtain ⟨z, e, g⟩ := post_of ok3 p3
    have d := q1.mono (l2.trans l3)
    cases x with
    | tup ds =>
      cases e
      simp only [Den] at d
      obtain ⟨a, vs, rfl, t, dl⟩ := d
      refine .inl (.inr ⟨a, vs, rfl, t.sq, fun hw => ?_, fun _ p hp => g _ _ _ (Nx.frz ok3.fin hp) (den_newt hp ok3.fin (cut_den dl _ _))⟩)
      refine g.same ok3.fin ?_
      have : cutD ds lo' hi' = ds := by
        unfold cutD
        rw [dl.length] at hw
        rw [hw.1, hw.2]; simp
      rw [this]
      simp only [Den]
      exact ⟨a, vs, rfl, t, dl⟩
    | lst ds =>
      cases e
      simp only [Den] at d
      obtain ⟨a, vs, rfl, f, t, dl⟩ := d
      exact .inl (.inl ⟨a, vs, rfl, .of t, fun p hp => g _ _ _ (Nx.frz ok3.fin hp) (den_newl hp ok3.fin (cut_den dl _ _))⟩)
    | frl ds =>
      cases e
      simp only [Den] at d
      obtain ⟨a, vs, rfl, t, dl⟩ := d
      exact .inl (.inl ⟨a, vs, rfl, t.sq, fun p hp => g _ _ _ (Nx.frz ok3.fin hp) (den_newl hp ok3.fin (cut_den dl _ _))⟩)
    | str y =>
      simp only [fCut] at e
      split at e
      · rename_i h
        cases e
        simp only [Den] at d
        exact .inr ⟨y, d, by rw [line_eq]; exact h, g.same ok3.fin (by simp only [Den])⟩
      · cases e
    | _ => cases e⟩⟩⟩
def fRev : D → Option D
  | .lst ds => some (.lst ds.reverse)
  | .frl ds => some (.lst ds.reverse)
  | _ => none
theorem x_revL {e : Expr} {d : Env → Res D} {k : Nat} {p1 p2 p3 : Pos} (he : PX X W e d) : PX X W (.Subscript e (.Slice none none (some (.UnaryOp .USub (.Constant (.int 1) k p1) p2)) p3) pos) (dUn fRev d) :=
  pe_weak (pe_revL he) fun σ H Q ⟨fr, F, r, ok, p⟩ => ⟨fr, F, r, ok, Post.seq p fun x r1 v H1 F1 ok1 l1 q1 p1 => by
    obtain ⟨z, e, g⟩ := post_of ok1 p1
    cases x with
    | lst ds =>
      cases e
      simp only [Den] at q1
      obtain ⟨a, vs, rfl, f, t, dl⟩ := q1
      exact ⟨a, vs, rfl, .of t, fun p hp => g _ _ _ (Nx.frz ok1.fin hp) (den_newl hp ok1.fin dl.reverse)⟩
    | frl ds =>
      cases e
      simp only [Den] at q1
      obtain ⟨a, vs, rfl, t, dl⟩ := q1
      exact ⟨a, vs, rfl, t.sq, fun p hp => g _ _ _ (Nx.frz ok1.fin hp) (den_newl hp ok1.fin dl.reverse)⟩
    | _ => cases e⟩
/-! ## Targets: a tuple or a list is unpacked -/
theorem pg_or {tg : Expr} {t u : TG} (h1 : PG X tg t) (h2 : PG X tg u) : PG X tg (fun v σ H Q => t v σ H Q ∨ u v σ H Q) := ⟨fun pins s σ H v x Q I r h => h.elim (h1.run pins s σ H v x Q I r) (h2.run pins s σ H v x Q I r)⟩
def gSq (n : Nat) (b : List D → Env → Option Env) : D → Env → Option Env := fun x r => match itemsOf x with
  | some ds => if ds.length = n then b ds r else none
  | none => none
theorem g_seq {es : List Expr} {k : Nat} {b : List D → Env → Option Env} {n : Nat} (hc : X.calm = true) (h : PGts X es b) (hn : (assignEach es X.env).length = n := by rfl) (hst : (assignEach es X.env).findIdx? (·.1) = none := by rfl) : PGt X (.Tuple es k pos) (gSq n b) :=
  pg_weak (pg_or (pg_tup hc h hn hst) (pg_unl hc h hn hst)) fun v σ H Q ⟨fr, F, r, x, ok, dn, r', e, q⟩ => by
    unfold gSq at e
    cases x with
    | tup ds =>
      simp only [itemsOf] at e
      simp only [Den] at dn
      obtain ⟨a, vs, rfl, t, dl⟩ := dn
      split at e
      · rename_i hl
        exact .inl ⟨a, vs, rfl, t.sq, by rw [dl.length]; exact hl, fr, F, r, ds, ok, dl, r', e, q⟩
      · cases e
    | lst ds =>
      simp only [itemsOf] at e
      simp only [Den] at dn
      obtain ⟨a, vs, rfl, f, t, dl⟩ := dn
      split at e
      · rename_i hl
        exact .inr ⟨a, vs, rfl, .of t, by rw [dl.length]; exact hl, fr, F, r, ds, ok, dl, r', e, q⟩
      · cases e
    | frl ds =>
      simp only [itemsOf] at e
      simp only [Den] at dn
      obtain ⟨a, vs, rfl, t, dl⟩ := dn
      split at e
      · rename_i hl
        exact .inr ⟨a, vs, rfl, t.sq, by rw [dl.length]; exact hl, fr, F, r, ds, ok, dl, r', e, q⟩
      · cases e
    | _ => cases e
end
end Py
end

section
set_option maxHeartbeats 400000
namespace Py
open PySem PySem.Spec PyProof.Rows L2
/-! ## Own exceptions raised, from what the top says -/
structure InitOk (P : Program) (w : World) (K : PySem.W.Frag) (mg : Str → Option Value) (base : Heap) (n f : Str) : Prop where
  ex : ∃ C fI fd ps, mg n = some (.ref C) ∧ OexC K C ∧ PySem.W.findIn K (.ref C) "__init__" = some (some (.ref fI)) ∧ PySem.W.typeIn K (.ref fI) = some (.type "function") ∧ FnOk P w K mg base (L2.CX P w) 1 fI fd ps (spI C f) ∧ Binds K fd ps []
section
variable {P : Program} {w : World} {base : Heap} {t : Top} {K : PySem.W.Frag} {mg : Str → Option Value}
theorem mkB_ok {n : Str} (h : mkB K n = true) : OexC K (He.ga K n) ∧ PySem.W.findIn K (.ref (He.ga K n)) "__init__" = some (some (.ref (He.ma K (He.ga K n) "__init__"))) ∧ PySem.W.typeIn K (.ref (He.ma K (He.ga K n) "__init__")) = some (.type "function") := by
  unfold mkB at h
  simp only [Bool.and_eq_true, decide_eq_true_eq] at h
  exact ⟨oexB_ok h.1, h.2.1, h.2.2⟩
theorem init_of {n f : Str} {anc : List Str} {st : Stmt} {p0 p1 : Str} (e : Env1 t K mg) (i : Nat) (hd : t.fn[i]? = some ⟨(n, some "__init__"), "__init__", n ++ ".__init__", defArgs st, defBody st, defScope st, [], []⟩) (hr : n ∈ t.raised) (hl : t.T.lookup n = some anc) (hf : f ∈ t.fields) (S : FnScope [p0, p1] [p0, p1] (defScope st))
    (bi : ∀ (kV doc pm : Value) (an : Option Addr) (cdv ct : Value) (us : List Value), us.length = [p0, p1].length → bindArgs (PySem.W.fnOf "__init__" (n ++ ".__init__") (defArgs st) (defBody st) (defScope st) .none kV doc pm an cdv ct) ⟨us, []⟩ = pure ([p0, p1].zip us))
    (hb : ∀ X : Cx, X.K = K → X.N = [p0, p1] → X.env.scope = defScope st → PSs X (defBody st) (tOst X.K f (tVar 0) (tVar 1))) : InitOk P w K mg base n f := by
  obtain ⟨fd, Fu⟩ := e.says.d.def_ i hd
  obtain ⟨h1, h2, h3⟩ := mkB_ok (e.says.mk hr)
  have hm := e.cls hl
  exact ⟨_, _, fd, _, hm, h1, h2, h3, init_ok Fu S h1 (e.fld hf n anc _ hl hm) hb, FunD.bindsN Fu bi⟩
end
section
variable {t : Top} {K : PySem.W.Frag} {mg : Str → Option Value} (e : Env1 t K mg)
include e
theorem Env1.gi {x : Str} {z : Int} (i : Nat) (h : t.fa[i]? = some (.int x z) := by rfl) : ∃ t, mg x = some (.int z t) := by
  obtain ⟨hp, X, G⟩ := e.ex
  exact He.int_ok X G (e.says.d.fact i h)
theorem Env1.gs {x z : Str} (i : Nat) (h : t.fa[i]? = some (.str x z) := by rfl) : ∃ t, mg x = some (.str z t) := by
  obtain ⟨hp, X, G⟩ := e.ex
  exact He.str_ok X G (e.says.d.fact i h)
end
section
variable {X : Cx} {W : WX} {pos : Pos}
/-- a constant of the text's top -/
theorem x_gi {x : Str} {z : Int} (hg : Gl X x) (hm : ∃ t, X.mg x = some (.int z t)) (hd : (x == ("__debug__" : Str)) = false := by decide) : PX X W (.Name x pos) (dC (.int z)) := by
  obtain ⟨t, hm⟩ := hm
  exact x_const (pe_glob (v := .int z) hg hm ⟨t, rfl⟩ hd) fun _ _ => by simp only [Den]
theorem x_gs {x z : Str} (hg : Gl X x) (hm : ∃ t, X.mg x = some (.str z t)) (hd : (x == ("__debug__" : Str)) = false := by decide) : PX X W (.Name x pos) (dC (.str z)) := by
  obtain ⟨t, hm⟩ := hm
  exact x_const (pe_glob (v := .str z) hg hm ⟨t, rfl⟩ hd) fun _ _ => by simp only [Den]
theorem s_raiseD {n f : Str} {p pos2 : Pos} {e : Expr} {d : Env → Res D} (Io : InitOk X.prog X.w X.K X.mg X.base n f) (hc : X.calm = true) (tk : Takes X W) (hr : Room 2 X.A) (hg : Gl X n) (h : PX X W e d)
    (hdb : (n == ("__debug__" : Str)) = false := by decide) (he0 : starEach (e :: []) X.env = (false, eval e X.env) :: starEach [] X.env := by rfl) (hpl : (backTo pos (starEach [] X.env)).any (·.1) = false := by rfl) :
    PT1 X W (.Raise (some (.Call (.Name n p) [e] [] pos)) none pos2) (dRaise n f d) := by
  obtain ⟨C, fI, fd, ps, h1, h2, h3, h4, h5, h6⟩ := Io.ex
  exact s_raise hc tk h2 h3 h4 h5 hr h6 hg h1 h hdb he0 hpl
end
/-! ## The built-in names -/
theorem bt_int : bootBuiltins "int" = some (.type "int") := by decide +kernel
theorem bt_bool : bootBuiltins "bool" = some (.type "bool") := by decide +kernel
theorem bt_str : bootBuiltins "str" = some (.type "str") := by decide +kernel
theorem bt_tuple : bootBuiltins "tuple" = some (.type "tuple") := by decide +kernel
theorem bt_list : bootBuiltins "list" = some (.type "list") := by decide +kernel
theorem bt_dict : bootBuiltins "dict" = some (.type "dict") := by decide +kernel
theorem bt_ValueError : bootBuiltins "ValueError" = some (.type "ValueError") := by decide +kernel
theorem bt_set : bootBuiltins "set" = some (.type "set") := by decide +kernel
theorem bt_frozenset : bootBuiltins "frozenset" = some (.type "frozenset") := by decide +kernel
theorem bt_len : bootBuiltins "len" = some (.builtin "len") := by decide +kernel
theorem bt_min : bootBuiltins "min" = some (.builtin "min") := by decide +kernel
theorem bt_max : bootBuiltins "max" = some (.builtin "max") := by decide +kernel
theorem bt_sum : bootBuiltins "sum" = some (.builtin "sum") := by decide +kernel
theorem bt_isinstance : bootBuiltins "isinstance" = some (.builtin "isinstance") := by decide +kernel
theorem bt_sorted : bootBuiltins "sorted" = some (.builtin "sorted") := by decide +kernel
theorem bt_any : bootBuiltins "any" = some (.builtin "any") := by decide +kernel
theorem bt_all : bootBuiltins "all" = some (.builtin "all") := by decide +kernel
theorem bt_abs : bootBuiltins "abs" = some (.builtin "abs") := by decide +kernel
end Py
end

section
set_option maxHeartbeats 400000
namespace Py
open PySem PySem.Spec PyProof.Rows L2
/-! ## The law's own call -/
theorem ints_den {G : Gc} {F : Addr → Prop} {H : Hp} : ∀ ns : List Int, DenL G F H (ns.map D.int) (ns.map V.int)
  | [] => by simp [DenL]
  | n :: ns => by simp only [List.map_cons, DenL]; exact ⟨_, _, rfl, by simp only [Den], ints_den ns⟩
theorem law_sp {K : PySem.W.Frag} {mg : Str → Option Value} {H : Hp} {a : Addr} {ns : List Int} {fn : Fn} (hS : SqL K H a (ns.map V.int)) (hm : ∃ o, fn [.v (.frl (ns.map D.int))] = .ok (.bl true) o) : spF ⟨K, mg⟩ 1 fn [.ref a] H (fun v _ => v = .bl true) (fun _ _ _ => False) := by
  obtain ⟨o, hm⟩ := hm
  have key : ∀ F : Addr → Prop, (∀ a, F a → H a ≠ none) → LstAt K F H a (ns.map V.int) → spF ⟨K, mg⟩ 1 fn [.ref a] H (fun v _ => v = .bl true) (fun _ _ _ => False) := fun F k l => by
    refine ⟨F, [.v (.frl (ns.map D.int))], rfl, k, ⟨rfl, fun i s e => ?_, fun i j ds es b hij e1 e2 _ _ => ?_⟩, ?_⟩
    · cases i with
      | zero =>
        cases e
        refine ⟨.ref a, rfl, ?_⟩
        show Den _ _ _ _ _
        simp only [Den]
        exact ⟨a, _, rfl, l, ints_den ns⟩
      | succ i => simp at e
    · cases i with
      | zero => cases e1
      | succ i => simp at e1
    · rw [hm]
      exact fun v H' F' c d => by simpa only [Den] using d
  rcases hS with h | h
  · refine key (fun b => b = a) (fun b hb => ?_) (.inl ⟨rfl, h⟩)
    subst hb
    rcases h with h | ⟨o, h⟩
    · rw [h]; simp
    · rw [h]; simp
  · exact key (fun _ => False) (fun b hb => hb.elim) (.inr fun H' => .inr h)
end Py
end

section
set_option maxHeartbeats 400000
namespace Py
open PySem PySem.Spec PyProof.Rows L2
section
variable {X : Cx} {W : WX} {pos : Pos}
/-! ## sorted (of ints), all, any -/
def sortI (ns : List Int) : List Int := ns.mergeSort fun a b => decide (a ≤ b)
theorem sortI_uniq {ns ms : List Int} (p : ms.Perm ns) (s : ms.Pairwise (· ≤ ·)) : ms = sortI ns := by
  have s2 : (sortI ns).Pairwise (· ≤ ·) := by
    have := List.pairwise_mergeSort (le := fun a b : Int => decide (a ≤ b)) (fun a b c h1 h2 => by simp at *; omega) (fun a b => by simp; omega) ns
    exact this.imp fun h => by simpa using h
  exact List.Perm.eq_of_pairwise (fun a b _ _ h1 h2 => Int.le_antisymm h1 h2) s s2 (p.trans (List.mergeSort_perm ns _).symm)
def fSorted : List D → Option D
  | [.lst ds] => (intsOf ds).map fun ns => .lst ((sortI ns).map D.int)
  | [.frl ds] => (intsOf ds).map fun ns => .lst ((sortI ns).map D.int)
  | _ => none
theorem intsD_den {G : Gc} {F : Addr → Prop} {H : Hp} (ns : List Int) : DenL G F H (ns.map D.int) (ns.map V.int) := ints_den ns
theorem c_sorted : COp X (.builtin "sorted") fSorted :=
  ⟨_, cr_sortedI, fun F H xs z vs Q k d e gv => by
    unfold fSorted at e
    split at e
    · rename_i ds
      simp only [DenL, Den] at d
      obtain ⟨_, _, rfl, ⟨a, us, rfl, f, t, dl⟩, rfl⟩ := d
      cases h : intsOf ds with
      | none => rw [h] at e; cases e
      | some ns =>
        rw [h] at e; cases e
        refine ⟨a, ns, rfl, .of (by rw [← intsOf_ok dl h]; exact t), fun ms p pm ps hp => ?_⟩
        have es := sortI_uniq pm ps
        subst es
        exact gv _ _ _ (Nx.frz k hp) (den_newl hp k (ints_den _))
    · rename_i ds
      simp only [DenL, Den] at d
      obtain ⟨_, _, rfl, ⟨a, us, rfl, t, dl⟩, rfl⟩ := d
      cases h : intsOf ds with
      | none => rw [h] at e; cases e
      | some ns =>
        rw [h] at e; cases e
        refine ⟨a, ns, rfl, by rw [← intsOf_ok dl h]; exact t.sq, fun ms p pm ps hp => ?_⟩
        have es := sortI_uniq pm ps
        subst es
        exact gv _ _ _ (Nx.frz k hp) (den_newl hp k (ints_den _))
    · cases e⟩
def blsOf : List D → Option (List Bool)
  | [] => some []
  | .bl i :: ds => (blsOf ds).map (i :: ·)
  | _ => none
theorem blsOf_ok {G F H} : ∀ {ds : List D} {vs : List V} {ns : List Bool}, DenL G F H ds vs → blsOf ds = some ns → vs = ns.map V.bl
  | [], vs, ns, d, h => by simp only [DenL] at d; subst d; simp only [blsOf] at h; cases h; rfl
  | x :: ds, vs, ns, d, h => by
    simp only [DenL] at d
    obtain ⟨v, us, rfl, d1, d2⟩ := d
    cases x with
    | bl i =>
      simp only [Den] at d1
      subst d1
      simp only [blsOf] at h
      cases e2 : blsOf ds with
      | none => rw [e2] at h; cases h
      | some ms => rw [e2] at h; cases h; rw [blsOf_ok d2 e2]; rfl
    | _ => simp only [blsOf] at h; cases h
def fAll : List D → Option D
  | [.lst ds] => (blsOf ds).map fun bs => .bl (bs.all id)
  | _ => none
def fAny : List D → Option D
  | [.lst ds] => (blsOf ds).map fun bs => .bl (bs.any id)
  | _ => none
theorem c_all (hc : X.calm = true) : COp X (.builtin "all") fAll :=
  ⟨_, cr_all hc, fun F H xs z vs Q k d e gv => by
    unfold fAll at e
    split at e
    · rename_i ds
      simp only [DenL, Den] at d
      obtain ⟨_, _, rfl, ⟨a, us, rfl, f, t, dl⟩, rfl⟩ := d
      cases h : blsOf ds with
      | none => rw [h] at e; cases e
      | some ns =>
        rw [h] at e; cases e
        exact ⟨a, ns, rfl, .of (by rw [← blsOf_ok dl h]; exact t), gv.same k (by simp only [Den])⟩
    · cases e⟩
theorem c_any (hc : X.calm = true) : COp X (.builtin "any") fAny :=
  ⟨_, cr_any hc, fun F H xs z vs Q k d e gv => by
    unfold fAny at e
    split at e
    · rename_i ds
      simp only [DenL, Den] at d
      obtain ⟨_, _, rfl, ⟨a, us, rfl, f, t, dl⟩, rfl⟩ := d
      cases h : blsOf ds with
      | none => rw [h] at e; cases e
      | some ns =>
        rw [h] at e; cases e
        exact ⟨a, ns, rfl, .of (by rw [← blsOf_ok dl h]; exact t), gv.same k (by simp only [Den])⟩
    · cases e⟩
/-! ## New lists that stay open: xs + ys, list(xs), sorted(xs) -/
def dCatN (da db : Env → Res D) : Env → Res Val := fun r => (da r).bind fun x r => (db r).bind fun y r => match x, y with
  | .lst xs, .lst ys => if xs.length + ys.length ≤ 16777216 then .ok (.n (xs ++ ys)) r else .bad
  | _, _ => .bad
theorem v_cat {a b : Expr} {da db : Env → Res D} (ha : PX X W a da) (hb : PX X W b db) : PV X W (.BinOp a .Add b pos) (dCatN da db) :=
  pe_weak (pe_op op_cat ha hb) fun σ H Q ⟨fr, F, r, ok, p⟩ => ⟨fr, F, r, ok, Post.seqV p fun x r1 v H1 F1 ok1 l1 q1 p1 => ⟨fr, F1, r1, ok1, Post.seqV p1 fun y r2 u H2 F2 ok2 l2 q2 p2 => by
    cases x with
    | lst xs =>
      cases y with
      | lst ys =>
        simp only at p2
        split at p2
        · rename_i hl
          have q1 := q1.mono l2
          simp only [Den] at q1 q2
          obtain ⟨a, vs, rfl, fa, ta, dla⟩ := q1
          obtain ⟨b, ws, rfl, fb, tb, dlb⟩ := q2
          refine ⟨a, b, vs, ws, rfl, rfl, ta, tb, by rw [dla.length, dlb.length, line_eq]; exact hl, fun p hp => p2 _ _ F2 (ok2.next (Nx.open ok2.fin hp)) ((Nx.open ok2.fin hp).toLe ok2.fin) (den_nn ok2 hp (dla.append dlb))⟩
        · exact (show False from p2).elim
      | _ => exact (show False from p2).elim
    | _ => (cases y <;> exact (show False from p2).elim)⟩⟩
end
end Py
end

section
set_option maxHeartbeats 400000
namespace L2
open PySem PySem.W PyProof.Rows
section
variable {prog : Program} {w : World} {A : Around} {E : Value → Shared → Prop} {s : Shared} {l : Addr} {xs : Array (Int × Tok)}
theorem iter_intTup {Q : Value → Shared → Prop} (hl : s.heap.IsTuple l (intItems xs))
    (h : ∀ s₂ : Shared, s₂ = { s with heap := s.heap.push { cls := .type "tuple_iterator", data := .fields #[.ref l, .int 0 0] } } →
      (s₂.heap.IsTupleIter s.heap.objs.size l 0 ∧ s₂.heap.IsTuple l (intItems xs)) → (∀ b ∈ [s.heap.objs.size, l], b < s₂.heap.objs.size) → l ≠ s.heap.objs.size → Q (.ref s.heap.objs.size) s₂) :
    wpAny (model prog w) A (pyIter (.ref l)) Q E s := by
  have hlt : l < s.heap.objs.size := by obtain ⟨_, e, _⟩ := hl; exact Heap.lt_size e
  refine wpAny_pyIter_tuple hl (h _ rfl ⟨⟨_, Heap.get?_push_size _ rfl, rfl, rfl⟩, hl.push _⟩ (fun b hb => ?_) (Nat.ne_of_lt hlt))
  show b < (s.heap.push _).objs.size
  rw [Heap.size_push]
  rcases List.mem_cons.mp hb with rfl | hb
  · exact Nat.lt_succ_self _
  · rcases List.mem_cons.mp hb with rfl | hb
    · exact Nat.lt_succ_of_lt hlt
    · cases hb
theorem old_keptT {h' : Heap} (hk : ∀ b o, b ∉ [s.heap.objs.size] → (s.heap.push { cls := .type "tuple_iterator", data := .fields #[.ref l, .int 0 0] }).get? b = some o → h'.get? b = some o) :
    ∀ b o, s.heap.get? b = some o → h'.get? b = some o := fun b o e => by
  refine hk b o (fun hm => ?_) (Heap.get?_push_of_some _ e)
  rcases List.mem_cons.mp hm with e1 | hm
  · exact absurd (e1 ▸ Heap.lt_size e) (Nat.lt_irrefl _)
  · cases hm
theorem max_intTup {Q : Value → Shared → Prop} (hh : A.handled = none) (hl : s.heap.IsTuple l (intItems xs)) (hne : 0 < xs.size)
    (h : ∀ v h' tk, (intItems xs)[argBest (fun i j => decide (numAt xs i > numAt xs j)) (xs.size - 1)]? = some v → (∀ b o, s.heap.get? b = some o → h'.get? b = some o) → Q v { s with heap := h', toks := tk }) :
    wpAny (model prog w) A (call (.builtin "max") [.ref l]) Q E s := by
  refine call_max_walk (iter_intTup hl fun s₂ e st hfp hlI => ?_)
  subst e
  refine ⟨_, _, _, _, _, _, _, rfl, Walks.tuple (A := A.in1) hh _ l hlI (intItems xs), st, hfp, by simpa [intItems] using hne, CmpOf.ints_gt (numAt xs) (fun _ _ => intItems_at), fun v h' tk hP hk => ?_⟩
  exact h v h' tk (by simpa [intItems] using hP) (old_keptT hk)
theorem min_intTup {Q : Value → Shared → Prop} (hh : A.handled = none) (hl : s.heap.IsTuple l (intItems xs)) (hne : 0 < xs.size)
    (h : ∀ v h' tk, (intItems xs)[argBest (fun i j => decide (numAt xs i < numAt xs j)) (xs.size - 1)]? = some v → (∀ b o, s.heap.get? b = some o → h'.get? b = some o) → Q v { s with heap := h', toks := tk }) :
    wpAny (model prog w) A (call (.builtin "min") [.ref l]) Q E s := by
  refine call_min_walk (iter_intTup hl fun s₂ e st hfp hlI => ?_)
  subst e
  refine ⟨_, _, _, _, _, _, _, rfl, Walks.tuple (A := A.in1) hh _ l hlI (intItems xs), st, hfp, by simpa [intItems] using hne, CmpOf.ints_lt (numAt xs) (fun _ _ => intItems_at), fun v h' tk hP hk => ?_⟩
  exact h v h' tk (by simpa [intItems] using hP) (old_keptT hk)
theorem sum_intTup {Q : Value → Shared → Prop} (hh : A.handled = none) (hl : s.heap.IsTuple l (intItems xs))
    (h : ∀ h' tk t', (∀ b o, s.heap.get? b = some o → h'.get? b = some o) → Q (.int (preSum (numAt xs) xs.size) t') { s with heap := h', toks := tk }) :
    wpAny (model prog w) A (call (.builtin "sum") [.ref l]) Q E s := by
  refine call_sum_walkG (iter_intTup hl fun s₂ e st hfp hlI => ?_)
  subst e
  refine ⟨_, _, _, _, _, _, numAt xs, rfl, Walks.tuple (A := A.in1) hh _ l hlI (intItems xs), st, hfp, (fun _ _ => intItems_at), fun h' tk t' hk => ?_⟩
  have := h h' tk t' (old_keptT hk)
  simpa [intItems] using this
variable {its : List Value} {ns : List Int}
theorem maxT_raw {Q : Value → Shared → Prop} (hh : A.handled = none) (hl : s.heap.IsTuple l its.toArray) (hi : IntsAre its ns) (hne : 0 < ns.length)
    (h : ∀ h' tk M t', (∀ b o, s.heap.get? b = some o → h'.get? b = some o) → M ∈ ns → (∀ a, a ∈ ns → a ≤ M) → Q (.int M t') { s with heap := h', toks := tk }) : wpAny (model prog w) A (call (.builtin "max") [.ref l]) Q E s := by
  obtain ⟨xs, e⟩ := hi.allInts.items
  have hn : numsOf (intItems xs).toList = ns := by rw [← e]; exact hi.numsOf
  rw [nums_intItems] at hn
  subst hn
  rw [e] at hl
  have hsz : 0 < xs.size := by simpa using hne
  refine max_intTup hh hl hsz fun v h' tk hv hk => ?_
  obtain ⟨t, rfl⟩ := intItems_at hv
  obtain ⟨h1, h2⟩ := argBest_gt (numAt xs) (xs.size - 1)
  refine h h' tk _ t hk ?_ fun a ha => ?_
  · rw [numAt_eq]; exact PySem.getD_mem (by rw [List.length_map, Array.length_toList]; omega)
  · obtain ⟨j, hj, rfl⟩ := mem_getD ha
    rw [List.length_map, Array.length_toList] at hj
    rw [← numAt_eq]; exact h2 j (by omega)
theorem minT_raw {Q : Value → Shared → Prop} (hh : A.handled = none) (hl : s.heap.IsTuple l its.toArray) (hi : IntsAre its ns) (hne : 0 < ns.length)
    (h : ∀ h' tk M t', (∀ b o, s.heap.get? b = some o → h'.get? b = some o) → M ∈ ns → (∀ a, a ∈ ns → M ≤ a) → Q (.int M t') { s with heap := h', toks := tk }) : wpAny (model prog w) A (call (.builtin "min") [.ref l]) Q E s := by
  obtain ⟨xs, e⟩ := hi.allInts.items
  have hn : numsOf (intItems xs).toList = ns := by rw [← e]; exact hi.numsOf
  rw [nums_intItems] at hn
  subst hn
  rw [e] at hl
  have hsz : 0 < xs.size := by simpa using hne
  refine min_intTup hh hl hsz fun v h' tk hv hk => ?_
  obtain ⟨t, rfl⟩ := intItems_at hv
  obtain ⟨h1, h2⟩ := argBest_lt (numAt xs) (xs.size - 1)
  refine h h' tk _ t hk ?_ fun a ha => ?_
  · rw [numAt_eq]; exact PySem.getD_mem (by rw [List.length_map, Array.length_toList]; omega)
  · obtain ⟨j, hj, rfl⟩ := mem_getD ha
    rw [List.length_map, Array.length_toList] at hj
    rw [← numAt_eq]; exact h2 j (by omega)
theorem sumT_raw {Q : Value → Shared → Prop} (hh : A.handled = none) (hl : s.heap.IsTuple l its.toArray) (hi : IntsAre its ns)
    (h : ∀ h' tk t', (∀ b o, s.heap.get? b = some o → h'.get? b = some o) → Q (.int ns.sum t') { s with heap := h', toks := tk }) : wpAny (model prog w) A (call (.builtin "sum") [.ref l]) Q E s := by
  obtain ⟨xs, e⟩ := hi.allInts.items
  have hn : numsOf (intItems xs).toList = ns := by rw [← e]; exact hi.numsOf
  rw [nums_intItems] at hn
  rw [e] at hl
  refine sum_intTup hh hl fun h' tk t' hk => ?_
  have := h h' tk t' hk
  rw [preSum_eq, List.take_of_length_le (by simp), hn]; exact this
end
section
variable {X : Cx}
def rMaxT (K : PySem.W.Frag) : List V → Hp → VK → Prop := fun vs H Q => ∃ (a : Addr) (ns : List Int), vs = [V.ref a] ∧ SqT K H a (ns.map V.int) ∧ 0 < ns.length ∧ ∀ m, m ∈ ns → (∀ y, y ∈ ns → y ≤ m) → Q (.int m) H
def rMinT (K : PySem.W.Frag) : List V → Hp → VK → Prop := fun vs H Q => ∃ (a : Addr) (ns : List Int), vs = [V.ref a] ∧ SqT K H a (ns.map V.int) ∧ 0 < ns.length ∧ ∀ m, m ∈ ns → (∀ y, y ∈ ns → m ≤ y) → Q (.int m) H
def rSumT (K : PySem.W.Frag) : List V → Hp → VK → Prop := fun vs H Q => ∃ (a : Addr) (ns : List Int), vs = [V.ref a] ∧ SqT K H a (ns.map V.int) ∧ Q (.int ns.sum) H
theorem cr_maxT (hc : X.calm = true) : CallR X (.builtin "max") (rMaxT X.K) := by
  intro pins s σ H vs us Q I r h
  obtain ⟨a, ns, rfl, hs, hne, q⟩ := h
  obtain ⟨its, rv, hl, _⟩ := I.tuple hs
  rw [Vals.ref1 r]
  exact maxT_raw (I.ok.hd hc) hl rv.ints hne fun h' tk m t' hk h1 h2 => ⟨.int _, H, I.kept hk, ⟨_, rfl⟩, q m h1 h2⟩
theorem cr_minT (hc : X.calm = true) : CallR X (.builtin "min") (rMinT X.K) := by
  intro pins s σ H vs us Q I r h
  obtain ⟨a, ns, rfl, hs, hne, q⟩ := h
  obtain ⟨its, rv, hl, _⟩ := I.tuple hs
  rw [Vals.ref1 r]
  exact minT_raw (I.ok.hd hc) hl rv.ints hne fun h' tk m t' hk h1 h2 => ⟨.int _, H, I.kept hk, ⟨_, rfl⟩, q m h1 h2⟩
theorem cr_sumT (hc : X.calm = true) : CallR X (.builtin "sum") (rSumT X.K) := by
  intro pins s σ H vs us Q I r h
  obtain ⟨a, ns, rfl, hs, q⟩ := h
  obtain ⟨its, rv, hl, _⟩ := I.tuple hs
  rw [Vals.ref1 r]
  exact sumT_raw (I.ok.hd hc) hl rv.ints fun h' tk t' hk => ⟨.int _, H, I.kept hk, ⟨_, rfl⟩, q⟩
end
end L2
end

section
set_option maxHeartbeats 400000
namespace Py
open PySem PySem.Spec PyProof.Rows L2
section
variable {X : Cx} {W : WX} {pos : Pos}
/-! ## max, min, sum of a row -/
def maxI : List Int → Int
  | [] => 0
  | x :: xs => xs.foldl (fun m y => if m < y then y else m) x
def minI : List Int → Int
  | [] => 0
  | x :: xs => xs.foldl (fun m y => if y < m then y else m) x
theorem maxF_le : ∀ (xs : List Int) (x : Int), x ≤ xs.foldl (fun m y => if m < y then y else m) x ∧ (∀ y ∈ xs, y ≤ xs.foldl (fun m y => if m < y then y else m) x) ∧ (xs.foldl (fun m y => if m < y then y else m) x = x ∨ xs.foldl (fun m y => if m < y then y else m) x ∈ xs)
  | [], x => by simp
  | z :: xs, x => by
    obtain ⟨h1, h2, h3⟩ := maxF_le xs (if x < z then z else x)
    rw [List.foldl_cons]
    refine ⟨Int.le_trans (by split <;> omega) h1, fun y hy => ?_, ?_⟩
    · rcases List.mem_cons.mp hy with rfl | hy
      · exact Int.le_trans (by split <;> omega) h1
      · exact h2 y hy
    · rcases h3 with h3 | h3
      · by_cases hz : x < z
        · rw [if_pos hz] at h3 ⊢; exact .inr (by rw [h3]; exact List.mem_cons_self)
        · rw [if_neg hz] at h3 ⊢; exact .inl h3
      · exact .inr (List.mem_cons_of_mem _ h3)
theorem minF_le : ∀ (xs : List Int) (x : Int), xs.foldl (fun m y => if y < m then y else m) x ≤ x ∧ (∀ y ∈ xs, xs.foldl (fun m y => if y < m then y else m) x ≤ y) ∧ (xs.foldl (fun m y => if y < m then y else m) x = x ∨ xs.foldl (fun m y => if y < m then y else m) x ∈ xs)
  | [], x => by simp
  | z :: xs, x => by
    obtain ⟨h1, h2, h3⟩ := minF_le xs (if z < x then z else x)
    rw [List.foldl_cons]
    refine ⟨Int.le_trans h1 (by split <;> omega), fun y hy => ?_, ?_⟩
    · rcases List.mem_cons.mp hy with rfl | hy
      · exact Int.le_trans h1 (by split <;> omega)
      · exact h2 y hy
    · rcases h3 with h3 | h3
      · by_cases hz : z < x
        · rw [if_pos hz] at h3 ⊢; exact .inr (by rw [h3]; exact List.mem_cons_self)
        · rw [if_neg hz] at h3 ⊢; exact .inl h3
      · exact .inr (List.mem_cons_of_mem _ h3)
theorem maxI_ge {ns : List Int} {y : Int} (h : y ∈ ns) : y ≤ maxI ns := by
  cases ns with
  | nil => cases h
  | cons x xs =>
    obtain ⟨h1, h2, _⟩ := maxF_le xs x
    rcases List.mem_cons.mp h with rfl | h
    · exact h1
    · exact h2 y h
theorem maxI_mem {ns : List Int} (h : ns ≠ []) : maxI ns ∈ ns := by
  cases ns with
  | nil => exact absurd rfl h
  | cons x xs =>
    obtain ⟨_, _, h3⟩ := maxF_le xs x
    rcases h3 with h3 | h3
    · exact List.mem_cons.mpr (.inl h3)
    · exact List.mem_cons_of_mem _ h3
theorem minI_le {ns : List Int} {y : Int} (h : y ∈ ns) : minI ns ≤ y := by
  cases ns with
  | nil => cases h
  | cons x xs =>
    obtain ⟨h1, h2, _⟩ := minF_le xs x
    rcases List.mem_cons.mp h with rfl | h
    · exact h1
    · exact h2 y h
theorem minI_mem {ns : List Int} (h : ns ≠ []) : minI ns ∈ ns := by
  cases ns with
  | nil => exact absurd rfl h
  | cons x xs =>
    obtain ⟨_, _, h3⟩ := minF_le xs x
    rcases h3 with h3 | h3
    · exact List.mem_cons.mpr (.inl h3)
    · exact List.mem_cons_of_mem _ h3
theorem max_uniq {ns : List Int} {m : Int} (h : m ∈ ns) (k : ∀ y, y ∈ ns → y ≤ m) : m = maxI ns :=
  Int.le_antisymm (maxI_ge h) (k _ (maxI_mem (List.ne_nil_of_mem h)))
theorem min_uniq {ns : List Int} {m : Int} (h : m ∈ ns) (k : ∀ y, y ∈ ns → m ≤ y) : m = minI ns :=
  Int.le_antisymm (k _ (minI_mem (List.ne_nil_of_mem h))) (minI_le h)
/-- ints of a row, as what f makes of them -/
def fRow (f : List Int → Option Int) : List D → Option D
  | [.lst ds] => (intsOf ds).bind fun ns => (f ns).map D.int
  | [.frl ds] => (intsOf ds).bind fun ns => (f ns).map D.int
  | [.tup ds] => (intsOf ds).bind fun ns => (f ns).map D.int
  | _ => none
theorem row_rd {rL rT : List V → Hp → VK → Prop} {f : List Int → Option Int}
    (hL : ∀ H Q a ns z, SqL X.K H a (ns.map V.int) → f ns = some z → Q (.int z) H → rL [V.ref a] H Q) (hT : ∀ H Q a ns z, SqT X.K H a (ns.map V.int) → f ns = some z → Q (.int z) H → rT [V.ref a] H Q) :
    ∀ F H xs z vs Q, (∀ a, F a → H a ≠ none) → DenL (gc X) F H xs vs → fRow f xs = some z → Giv (gc X) F H z Q → (fun vs H Q => rL vs H Q ∨ rT vs H Q) vs H Q := fun F H xs z vs Q k d e gv => by
  unfold fRow at e
  have key : ∀ ds : List D, ((intsOf ds).bind fun ns => (f ns).map D.int) = some z → ∃ ns z', intsOf ds = some ns ∧ f ns = some z' ∧ z = .int z' := fun ds e => by
    cases h : intsOf ds with
    | none => rw [h] at e; cases e
    | some ns =>
      rw [h] at e
      simp only [Option.bind_some] at e
      cases h2 : f ns with
      | none => rw [h2] at e; cases e
      | some z' => rw [h2] at e; cases e; exact ⟨ns, z', rfl, h2, rfl⟩
  split at e
  · rename_i ds
    obtain ⟨ns, z', h1, h2, rfl⟩ := key ds e
    simp only [DenL, Den] at d
    obtain ⟨_, _, rfl, ⟨a, us, rfl, ff, t, dl⟩, rfl⟩ := d
    exact .inl (hL H Q a ns z' (.of (by rw [← intsOf_ok dl h1]; exact t)) h2 (gv.same k (by simp only [Den])))
  · rename_i ds
    obtain ⟨ns, z', h1, h2, rfl⟩ := key ds e
    simp only [DenL, Den] at d
    obtain ⟨_, _, rfl, ⟨a, us, rfl, t, dl⟩, rfl⟩ := d
    exact .inl (hL H Q a ns z' (by rw [← intsOf_ok dl h1]; exact t.sq) h2 (gv.same k (by simp only [Den])))
  · rename_i ds
    obtain ⟨ns, z', h1, h2, rfl⟩ := key ds e
    simp only [DenL, Den] at d
    obtain ⟨_, _, rfl, ⟨a, us, rfl, t, dl⟩, rfl⟩ := d
    exact .inr (hT H Q a ns z' (by rw [← intsOf_ok dl h1]; exact t.sq) h2 (gv.same k (by simp only [Den])))
  · cases e
def oMax (ns : List Int) : Option Int := if ns = [] then none else some (maxI ns)
def oMin (ns : List Int) : Option Int := if ns = [] then none else some (minI ns)
def oSum (ns : List Int) : Option Int := some ns.sum
def fMax1 : List D → Option D := fRow oMax
def fMin1 : List D → Option D := fRow oMin
def fSumA : List D → Option D := fRow oSum
theorem c_max1 (hc : X.calm = true) : COp X (.builtin "max") fMax1 := ⟨_, (cr_max hc).or (cr_maxT hc), row_rd (fun H Q a ns z h e q => by
    unfold oMax at e
    split at e
    · cases e
    · rename_i hn; cases e
      exact ⟨a, ns, rfl, h, List.length_pos_iff.mpr hn, fun m h1 h2 => by rw [max_uniq h1 h2]; exact q⟩) (fun H Q a ns z h e q => by
    unfold oMax at e
    split at e
    · cases e
    · rename_i hn; cases e
      exact ⟨a, ns, rfl, h, List.length_pos_iff.mpr hn, fun m h1 h2 => by rw [max_uniq h1 h2]; exact q⟩)⟩
theorem c_min1 (hc : X.calm = true) : COp X (.builtin "min") fMin1 := ⟨_, (cr_min hc).or (cr_minT hc), row_rd (fun H Q a ns z h e q => by
    unfold oMin at e
    split at e
    · cases e
    · rename_i hn; cases e
      exact ⟨a, ns, rfl, h, List.length_pos_iff.mpr hn, fun m h1 h2 => by rw [min_uniq h1 h2]; exact q⟩) (fun H Q a ns z h e q => by
    unfold oMin at e
    split at e
    · cases e
    · rename_i hn; cases e
      exact ⟨a, ns, rfl, h, List.length_pos_iff.mpr hn, fun m h1 h2 => by rw [min_uniq h1 h2]; exact q⟩)⟩
theorem c_sumA (hc : X.calm = true) : COp X (.builtin "sum") fSumA := ⟨_, (cr_sum hc).or (cr_sumT hc), row_rd (fun H Q a ns z h e q => by cases e; exact ⟨a, ns, rfl, h, q⟩) (fun H Q a ns z h e q => by cases e; exact ⟨a, ns, rfl, h, q⟩)⟩
/-! ## x < y < z -/
def dChain (f g : D → D → Option D) (da db dc : Env → Res D) : Env → Res D := fun r => (da r).bind fun x r => (db r).bind fun y r => (Res.of (f x y) r).bind fun z r => match z with
  | .bl true => (dc r).bind fun w r => Res.of (g y w) r
  | .bl false => .ok (.bl false) r
  | _ => .bad
theorem chain_rd {f g : D → D → Option D} {da db dc : Env → Res D} {rr rr' : R2}
    (h : ∀ F H x y z v u Q, (∀ a, F a → H a ≠ none) → Den (gc X) F H x v → Den (gc X) F H y u → f x y = some z → Giv (gc X) F H z Q → rr v u H Q)
    (h' : ∀ F H x y z v u Q, (∀ a, F a → H a ≠ none) → Den (gc X) F H x v → Den (gc X) F H y u → g x y = some z → Giv (gc X) F H z Q → rr' v u H Q)
    {σ : L2.St} {H : Hp} {Q : VK} (p : tR (gc X) W (Den (gc X)) (dChain f g da db dc) σ H Q) : tChain rr rr' (tR (gc X) W (Den (gc X)) da) (tR (gc X) W (Den (gc X)) db) (tR (gc X) W (Den (gc X)) dc) σ H Q := by
  obtain ⟨fr, F, r, ok, p⟩ := p
  refine ⟨fr, F, r, ok, Post.seq p fun x r1 v H1 F1 ok1 l1 q1 p1 => ⟨fr, F1, r1, ok1, Post.seq p1 fun y r2 u H2 F2 ok2 l2 q2 p2 => ?_⟩⟩
  cases e : f x y with
  | none => simp only [e, Res.of, Res.bind] at p2; exact p2.elim
  | some z =>
    simp only [e, Res.of, Res.bind] at p2
    refine h F2 H2 x y z v u _ ok2.fin (q1.mono l2) q2 e fun w H3 F3 n3 d3 => ?_
    have ok3 := ok2.next n3
    have l3 := n3.toLe ok2.fin
    cases z with
    | bl b =>
      simp only [Den] at d3
      refine ⟨b, d3, ?_⟩
      cases b with
      | false =>
        simp only [Bool.false_eq_true, if_false]
        exact p2 _ H3 F3 ok3 l3 (by simp only [Den])
      | true =>
        simp only [if_true]
        refine ⟨fr, F3, r2, ok3, Post.seq (Post.le l3 p2) fun y' r4 u' H4 F4 ok4 l4 q4 p4 => ?_⟩
        obtain ⟨z, e', gv⟩ := post_of ok4 p4
        exact h' F4 H4 y y' z u u' Q ok4.fin ((q2.mono l3).mono l4) q4 e' gv
    | _ => exact (show False from p2).elim
theorem x_chain {op op' : CmpOp} {a b c : Expr} {f g : D → D → Option D} {da db dc : Env → Res D} (ho : BOp X (compareOp op) f) (ho' : BOp X (compareOp op') g) (ha : PX X W a da) (hb : PX X W b db) (hc : PX X W c dc) (hm : lastMarks [op, op'] [b, c] = false := by rfl) : PX X W (.Compare a [op, op'] [b, c] pos) (dChain f g da db dc) := by
  obtain ⟨rr, h1, h2⟩ := ho.ex
  obtain ⟨rr', h3, h4⟩ := ho'.ex
  exact pe_weak (pe_chain h1 h3 ha hb hc hm) fun σ H Q p => chain_rd h2 h4 p
theorem b_chain {op op' : CmpOp} {a b c : Expr} {f g : D → D → Option D} {da db dc : Env → Res D} (ho : BOp X (compareOp op) f) (ho' : BOp X (compareOp op') g) (ha : PX X W a da) (hb : PX X W b db) (hc : PX X W c dc) (hm : lastMarks [op, op'] [b, c] = false := by rfl) : PB X W (.Compare a [op, op'] [b, c] pos) (dTst (dChain f g da db dc)) := by
  obtain ⟨rr, h1, h2⟩ := ho.ex
  obtain ⟨rr', h3, h4⟩ := ho'.ex
  exact pt_weak (pt_chain h1 h3 ha hb hc hm) fun σ H Q p => chain_rd h2 h4 (tst_rd p)
end
end Py
end

section
set_option maxHeartbeats 400000
namespace Py
open PySem PySem.Spec PyProof.Rows L2
section
variable {X : Cx} {W : WX} {pos : Pos}
/-! ## zip of two lists, of two tuples -/
def zipD (xs ys : List D) : List D := (xs.zip ys).map fun p => .tup [p.1, p.2]
def fZip : List D → Option (List D)
  | [.lst xs, .lst ys] => some (zipD xs ys)
  | [.lst xs, .frl ys] => some (zipD xs ys)
  | [.frl xs, .lst ys] => some (zipD xs ys)
  | [.frl xs, .frl ys] => some (zipD xs ys)
  | [.tup xs, .tup ys] => some (zipD xs ys)
  | _ => none
theorem zipD_get {xs ys : List D} {i : Nat} {x : D} (h : (zipD xs ys)[i]? = some x) : ∃ a b, xs[i]? = some a ∧ ys[i]? = some b ∧ x = .tup [a, b] := by
  unfold zipD at h
  rw [List.getElem?_map] at h
  cases e : (xs.zip ys)[i]? with
  | none => rw [e] at h; cases h
  | some p =>
    rw [e] at h
    simp at h
    obtain ⟨h1, h2⟩ := List.getElem?_zip_eq_some.mp e
    exact ⟨p.1, p.2, h1, h2, h.symm⟩
theorem zipD_len (xs ys : List D) : (zipD xs ys).length = min xs.length ys.length := by simp [zipD]
theorem nx_pair2 {G : Gc} {F : Addr → Prop} {H : Hp} {T : Addr} {x y : D} {v u : V} (k : ∀ a, F a → H a ≠ none) (hT : H T = none) (d : Den G F H x v) (d2 : Den G F H y u) :
    ∃ F2, Nx F H F2 (upd H T (.tup [v, u])) ∧ Den G F2 (upd H T (.tup [v, u])) (.tup [x, y]) (.ref T) :=
  ⟨_, Nx.frz k hT, den_newt hT k (by simp only [DenL]; exact ⟨_, _, rfl, d, _, _, rfl, d2, rfl⟩)⟩
theorem draw_zipL {G : Gc} {F1 : Addr → Prop} {H1 : Hp} {a b : Addr} {vs us : List V} {xs ys : List D} (h : LstAt G.K F1 H1 a vs) (h2 : LstAt G.K F1 H1 b us) (dl : DenL G F1 H1 xs vs) (dl2 : DenL G F1 H1 ys us) : Draw G F1 H1 (zipD xs ys) (Itz G.K a b) := fun F2 H2 l k => by
  have hs : SqL G.K H2 a vs := (h.mono l).sq
  have hs2 : SqL G.K H2 b us := (h2.mono l).sq
  refine ⟨fun i x e => ?_, fun i hi => ⟨vs, us, hs, hs2, by rw [zipD_len] at hi; rw [dl.length, dl2.length]; omega⟩⟩
  obtain ⟨y, z, e1, e2, rfl⟩ := zipD_get e
  obtain ⟨v, g1, g2⟩ := (dl.mono l).get e1
  obtain ⟨u, g3, g4⟩ := (dl2.mono l).get e2
  refine ⟨⟨vs, us, v, u, hs, hs2, g1, g3⟩, fun w H3 ⟨T, v', u', eu, hT, eH, q, q2⟩ => ?_⟩
  have t1 := q vs hs
  have t2 := q2 us hs2
  rw [g1] at t1; cases t1
  rw [g3] at t2; cases t2
  subst eu eH
  exact nx_pair2 k hT g2 g4
theorem draw_zipT {G : Gc} {F1 : Addr → Prop} {H1 : Hp} {a b : Addr} {vs us : List V} {xs ys : List D} (h : TupAt G.K F1 H1 a vs) (h2 : TupAt G.K F1 H1 b us) (dl : DenL G F1 H1 xs vs) (dl2 : DenL G F1 H1 ys us) : Draw G F1 H1 (zipD xs ys) (RZ.ItzT G.K a b) := fun F2 H2 l k => by
  have hs : SqT G.K H2 a vs := (h.mono l).sq
  have hs2 : SqT G.K H2 b us := (h2.mono l).sq
  refine ⟨fun i x e => ?_, fun i hi => ⟨vs, us, hs, hs2, by rw [zipD_len] at hi; rw [dl.length, dl2.length]; omega⟩⟩
  obtain ⟨y, z, e1, e2, rfl⟩ := zipD_get e
  obtain ⟨v, g1, g2⟩ := (dl.mono l).get e1
  obtain ⟨u, g3, g4⟩ := (dl2.mono l).get e2
  refine ⟨⟨vs, us, v, u, hs, hs2, g1, g3⟩, fun w H3 ⟨T, v', u', eu, hT, eH, q, q2⟩ => ?_⟩
  have t1 := q vs hs
  have t2 := q2 us hs2
  rw [g1] at t1; cases t1
  rw [g3] at t2; cases t2
  subst eu eH
  exact nx_pair2 k hT g2 g4
theorem i_zip {e e2 : Expr} {ds : Env → Res (List D)} {p tpos : Pos} {elts : List Expr} {kk : Nat} (hg : Gl X "zip") (hm : X.mg "zip" = none) (ha : PL X W [e, e2] ds)
    (hs : starEach [e, e2] X.env = (false, eval e X.env) :: starEach [e2] X.env := by rfl) (hpl : (backTo pos (starEach [e2] X.env)).any (·.1) = false := by rfl) :
    PIt X W (.Tuple elts kk tpos) (.Call (.Name "zip" p) [e, e2] [] pos) (dIt fZip ds) :=
  pi_weak (RZ.pi_zipA hg hm ha hs hpl) fun σ H R ⟨fr, F, r, ok, p⟩ => ⟨fr, F, r, ok, by
    unfold dIt at p
    cases e : ds r with
    | err x r1 => rw [e] at p; exact p
    | bad => rw [e] at p; exact (show False from p).elim
    | ok xs r1 =>
      rw [e] at p
      intro v H' F' ok' l' q'
      cases ez : fZip xs with
      | none => simp only [Res.bind, ez, Res.ofL] at p; exact p.elim
      | some zs =>
        simp only [Res.bind, ez, Res.ofL] at p
        unfold fZip at ez
        split at ez <;> first
          | (cases ez
             simp only [DenL, Den] at q'
             obtain ⟨_, _, rfl, ⟨a, vs, rfl, f1, t1, d1⟩, _, _, rfl, ⟨b, us, rfl, f2, t2, d2⟩, rfl⟩ := q'
             exact ⟨a, b, vs, us, rfl, .inl ⟨.of t1, .of t2, p _ H' F' ok' l' (draw_zipL (.of f1 t1) (.of f2 t2) d1 d2)⟩⟩)
          | (cases ez
             simp only [DenL, Den] at q'
             obtain ⟨_, _, rfl, ⟨a, vs, rfl, f1, t1, d1⟩, _, _, rfl, ⟨b, us, rfl, t2, d2⟩, rfl⟩ := q'
             exact ⟨a, b, vs, us, rfl, .inl ⟨.of t1, t2.sq, p _ H' F' ok' l' (draw_zipL (.of f1 t1) t2 d1 d2)⟩⟩)
          | (cases ez
             simp only [DenL, Den] at q'
             obtain ⟨_, _, rfl, ⟨a, vs, rfl, t1, d1⟩, _, _, rfl, ⟨b, us, rfl, f2, t2, d2⟩, rfl⟩ := q'
             exact ⟨a, b, vs, us, rfl, .inl ⟨t1.sq, .of t2, p _ H' F' ok' l' (draw_zipL t1 (.of f2 t2) d1 d2)⟩⟩)
          | (cases ez
             simp only [DenL, Den] at q'
             obtain ⟨_, _, rfl, ⟨a, vs, rfl, t1, d1⟩, _, _, rfl, ⟨b, us, rfl, t2, d2⟩, rfl⟩ := q'
             exact ⟨a, b, vs, us, rfl, .inl ⟨t1.sq, t2.sq, p _ H' F' ok' l' (draw_zipL t1 t2 d1 d2)⟩⟩)
          | (cases ez
             simp only [DenL, Den] at q'
             obtain ⟨_, _, rfl, ⟨a, vs, rfl, t1, d1⟩, _, _, rfl, ⟨b, us, rfl, t2, d2⟩, rfl⟩ := q'
             exact ⟨a, b, vs, us, rfl, .inr ⟨t1.sq, t2.sq, p _ H' F' ok' l' (draw_zipT t1 t2 d1 d2)⟩⟩)
          | cases ez⟩
/-! ## x.extend(row) -/
def mExtend : List D → List D → Option (D × List D) := fun ys xs => match xs with
  | [.lst zs] => if ys.length + zs.length ≤ 16777216 then some (.non, ys ++ zs) else none
  | _ => none
theorem m_extend : MOp X "list.extend" mExtend := ⟨rExtend, mt_extend, fun F H ys xs z zs a ws vs Q k ha na dy dx e q => by
  unfold mExtend at e
  split at e
  · rename_i es
    simp only [DenL, Den] at dx
    obtain ⟨v, us, rfl, ⟨b, bs, rfl, fb, hb, db⟩, rfl⟩ := dx
    split at e
    · rename_i h
      cases e
      exact ⟨a, b, ws, bs, rfl, rfl, ha, hb, by rw [dy.length, db.length, line_eq]; exact h, q _ _ (dy.append db) (by simp only [Den])⟩
    · cases e
  · cases e⟩
/-! ## x += e, of ints -/
def dAug (i : Nat) (f : Int → Int → Int) (d : Env → Res D) : Env → SRes := fun r => match r[i]? with
  | some (.v (.int a)) => (d r).toS fun y r => match y with
    | .int b => if notP r i = true then .nx (r.set i (.v (.int (f a b)))) else .bad
    | _ => .bad
  | _ => .bad
theorem s_aug {i : Nat} {x : Str} {e : Expr} {d : Env → Res D} {op : Operator} {f : Int → Int → Int} {pos' : Pos} (hN : X.N.Nodup) (hi : X.N[i]? = some x) (hx : Loc X.env.scope x) (he : PX X W e d) (ho : PIp X op (ipI f)) (hf : X.fn x = true ∨ X.env.scope.names.lookup x = some .local := by first | exact .inl rfl | exact .inr rfl | assumption) :
    PT1 X W (.AugAssign (.Name x pos') op e pos) (dAug i f d) :=
  ps_weak (ps_aug hN hi hx he ho hf) fun E σ H ⟨fr, F, r, ok, p⟩ => by
    unfold dAug at p
    split at p
    · rename_i a er
      obtain ⟨v, sv, dv⟩ := ok.sl i _ er
      simp only [Den] at dv
      subst dv
      refine ⟨.int a, sv, fr, F, r, ok, Post.toS p fun y r1 u H1 F1 ok1 l1 q1 p1 => ?_⟩
      cases y with
      | int b =>
        simp only [Den] at q1
        subst q1
        refine ⟨a, b, rfl, rfl, ?_⟩
        simp only at p1
        split at p1
        · rename_i h
          exact p1 _ H1 F1 (ok1.storeV (notP_ok h) (by simp only [Den])) Le.refl
        · exact (show False from p1).elim
      | _ => exact (show False from p1).elim
    · exact (show False from p).elim
/-! ## str(i) -/
def fStr : List D → Option D
  | [.int i] => if i.natAbs.log2 < 1920 then some (.str (toString i)) else none
  | [.str x] => some (.str x)
  | _ => none
theorem c_str : COp X (.type "str") fStr :=
  ⟨_, call_str_int.or SkE.call_str_str, fun F H xs z vs Q k d e gv => by
    unfold fStr at e
    split at e
    · simp only [DenL, Den] at d
      obtain ⟨_, _, rfl, rfl, rfl⟩ := d
      split at e
      · rename_i h; cases e
        exact .inl ⟨_, rfl, h, gv.same k (by simp only [Den])⟩
      · cases e
    · simp only [DenL, Den] at d
      obtain ⟨_, _, rfl, rfl, rfl⟩ := d
      cases e
      exact .inr ⟨_, rfl, gv.same k (by simp only [Den])⟩
    · cases e⟩
end
end Py
end

section
set_option maxHeartbeats 400000
namespace Py
open PySem L2
/-! ## What the combinators do, as rules -/
section
variable {r : Env}
@[simp] theorem e_dC {d : D} : dC d r = .ok d r := (rfl)
@[simp] theorem e_dVar {i : Nat} : dVar i r = (match r[i]? with | some (.v d) => .ok d r | some (.o ds) => .ok (.lst ds) (r.set i (.v (.lst ds))) | _ => .bad) := (rfl)
@[simp] theorem e_dBin {f : D → D → Option D} {a b : Env → Res D} : dBin f a b r = (a r).bind fun x r => (b r).bind fun y r => Res.of (f x y) r := (rfl)
@[simp] theorem e_dTst {d : Env → Res D} : dTst d r = (d r).bind fun x r => match x with | .bl b => .ok b r | _ => .bad := (rfl)
@[simp] theorem e_dTru {d : Env → Res D} : dTru d r = (d r).bind fun x r => match fTru x with | some b => .ok b r | none => .bad := (rfl)
@[simp] theorem e_dNot {d : Env → Res Bool} : dNot d r = (d r).bind fun b r => .ok (!b) r := (rfl)
@[simp] theorem e_dAnd {a b : Env → Res Bool} : dAnd a b r = (a r).bind fun c r => if c = true then b r else .ok false r := (rfl)
@[simp] theorem e_dOr {a b : Env → Res Bool} : dOr a b r = (a r).bind fun c r => if c = true then .ok true r else b r := (rfl)
@[simp] theorem e_dAndV {a b : Env → Res D} : dAndV a b r = (a r).bind fun x r => match fTru x with | some true => b r | some false => .ok x r | none => .bad := (rfl)
@[simp] theorem e_dOrV {a b : Env → Res D} : dOrV a b r = (a r).bind fun x r => match fTru x with | some true => .ok x r | some false => b r | none => .bad := (rfl)
@[simp] theorem e_dNotV {d : Env → Res D} : dNotV d r = (d r).bind fun x r => match fTru x with | some b => .ok (.bl (!b)) r | none => .bad := (rfl)
@[simp] theorem e_dIfE {t : Env → Res Bool} {a b : Env → Res D} : dIfE t a b r = (t r).bind fun c r => if c = true then a r else b r := (rfl)
@[simp] theorem e_dNil : dNil r = .ok [] r := (rfl)
@[simp] theorem e_dCons {d : Env → Res D} {ds : Env → Res (List D)} : dCons d ds r = (d r).bind fun x r => (ds r).bind fun xs r => .ok (x :: xs) r := (rfl)
@[simp] theorem e_dTup {ds : Env → Res (List D)} : dTup ds r = (ds r).bind fun xs r => if xs.length ≤ 16777216 then .ok (.tup xs) r else .bad := (rfl)
@[simp] theorem e_dLst {ds : Env → Res (List D)} : dLst ds r = (ds r).bind fun xs r => if xs.length ≤ 16777216 then .ok (.n xs) r else .bad := (rfl)
@[simp] theorem e_dHold {d : Env → Res Val} : dHold d r = (d r).bind fun x r => match x with | .v d => .ok d r | .n ds => .ok (.lst ds) r := (rfl)
@[simp] theorem e_dVal {d : Env → Res D} : dVal d r = (d r).bind fun x r => .ok (.v x) r := (rfl)
@[simp] theorem e_dCal {f : List D → Option D} {ds : Env → Res (List D)} : dCal f ds r = (ds r).bind fun xs r => Res.of (f xs) r := (rfl)
@[simp] theorem e_dUn {f : D → Option D} {d : Env → Res D} : dUn f d r = (d r).bind fun x r => Res.of (f x) r := (rfl)
@[simp] theorem e_dNext : dNext r = .nx r := (rfl)
@[simp] theorem e_dSeq {a b : Env → SRes} : dSeq a b r = (a r).seq b := (rfl)
@[simp] theorem e_dBreak : dBreak r = .bk r := (rfl)
@[simp] theorem e_dCont : dCont r = .ct r := (rfl)
@[simp] theorem e_dRet {d : Env → Res Val} : dRet d r = (d r).toS fun x r => match x with | .v d => .rt d r | .n ds => .rn ds r := (rfl)
@[simp] theorem e_dRetN : dRetN r = .rt .non r := (rfl)
@[simp] theorem e_dDrop {d : Env → Res Val} : dDrop d r = (d r).toS fun _ r => .nx r := (rfl)
@[simp] theorem e_dIf {t : Env → Res Bool} {a b : Env → SRes} : dIf t a b r = (t r).toS fun c r => if c = true then a r else b r := (rfl)
@[simp] theorem e_dSet {i : Nat} {d : Env → Res Val} : dSet i d r = (d r).toS fun x r => if notP r i = true then .nx (r.set i (match x with | .v d => .v d | .n ds => .o ds)) else .bad := (rfl)
@[simp] theorem e_dAsg {d : Env → Res D} {g : D → Env → Option Env} : dAsg d g r = (d r).toS fun x r => match g x r with | some r => .nx r | none => .bad := (rfl)
@[simp] theorem e_gNm {i : Nat} {x : D} : gNm i x r = if notP r i = true then some (r.set i (.v x)) else none := (rfl)
@[simp] theorem e_gN0 : gN0 [] r = some r := (rfl)
@[simp] theorem e_gC {a : D → Env → Option Env} {b : List D → Env → Option Env} {x : D} {xs : List D} : gC a b (x :: xs) r = (a x r).bind fun r => b xs r := (rfl)
@[simp] theorem e_gTp {n : Nat} {b : List D → Env → Option Env} {ds : List D} : gTp n b (.tup ds) r = if ds.length = n then b ds r else none := (rfl)
@[simp] theorem e_gSq {n : Nat} {b : List D → Env → Option Env} {x : D} : gSq n b x r = (match itemsOf x with | some ds => if ds.length = n then b ds r else none | none => none) := (rfl)
@[simp] theorem e_dItems {d : Env → Res D} : dItems d r = (d r).bind fun x r => Res.ofL (itemsOf x) r := (rfl)
@[simp] theorem e_dIt {f : List D → Option (List D)} {ds : Env → Res (List D)} : dIt f ds r = (ds r).bind fun xs r => Res.ofL (f xs) r := (rfl)
@[simp] theorem e_dFor {d : Env → Res (List D)} {g : D → Env → Option Env} {b : Env → SRes} : dFor d g b r = (d r).toS fun xs r => dForL g b xs r := (rfl)
@[simp] theorem e_dForL0 {g : D → Env → Option Env} {b : Env → SRes} : dForL g b [] r = .nx r := (rfl)
theorem e_dForL1 {g : D → Env → Option Env} {b : Env → SRes} {x : D} {xs : List D} : dForL g b (x :: xs) r = (match g x r with
    | none => .bad
    | some r1 => match b r1 with
      | .nx r2 => dForL g b xs r2
      | .ct r2 => dForL g b xs r2
      | .bk r2 => .nx r2
      | m => m) := (rfl)
@[simp] theorem e_dMut {j : Nat} {f : List D → List D → Option (D × List D)} {ds : Env → Res (List D)} : dMut j f ds r = (match getOpn r j with
  | none => .bad
  | some _ => (ds r).bind fun xs r => match getOpn r j with
    | none => .bad
    | some ys => match f ys xs with
      | some (z, zs) => .ok (.v z) (setOpn r j zs)
      | none => .bad) := (rfl)
@[simp] theorem e_aNil : aNil r = .ok [] r := (rfl)
@[simp] theorem e_aVal {d : Env → Res D} {ds : Env → Res (List Arg)} : aVal d ds r = (d r).bind fun x r => (ds r).bind fun xs r => .ok (.v x :: xs) r := (rfl)
@[simp] theorem e_aOpn {j : Nat} {ds : Env → Res (List Arg)} : aOpn j ds r = (match getOpn r j with | none => .bad | some _ => (ds r).bind fun xs r => .ok (.s j :: xs) r) := (rfl)
@[simp] theorem e_dCall {fn : Fn} {ds : Env → Res (List Arg)} : dCall fn ds r = (ds r).bind fun as r => if (as.filterMap Arg.ix).Nodup then (match argSlots r as with
  | none => .bad
  | some ss => match fn ss with
    | .ok x o => .ok (.v x) (putBack as o r)
    | .okn x o => .ok (.n x) (putBack as o r)
    | .err e o => .err e (putBack as o r)
    | .bad => .bad) else .bad := (rfl)
@[simp] theorem e_dLenO {j : Nat} : dLenO j r = (match getOpn r j with | some ds => .ok (.int ds.length) r | none => .bad) := (rfl)
@[simp] theorem e_dTruO {j : Nat} : dTruO j r = (match getOpn r j with | some ds => .ok (!ds.isEmpty) r | none => .bad) := (rfl)
@[simp] theorem e_dIxO {j : Nat} {d : Env → Res D} : dIxO j d r = (match getOpn r j with
  | none => dBin fIx (dVar j) d r
  | some _ => (d r).bind fun x r => match getOpn r j, x with
    | some ds, .int i => Res.of (atI ds i) r
    | _, _ => .bad) := (rfl)
@[simp] theorem e_dMove {i : Nat} : dMove i r = (match r[i]? with | some (.v d) => .ok (.v d) r | some (.o ds) => .ok (.n ds) (r.set i .un) | _ => .bad) := (rfl)
@[simp] theorem e_dRaise {n f : Str} {d : Env → Res D} : dRaise n f d r = (d r).toS fun x r => .err (.exc n f x) r := (rfl)
@[simp] theorem e_dTry {T : Tbl} {b : Env → SRes} {l : List (Str × Option Nat × (Env → SRes))} : dTry T b l r = (match b r with | .err e r => dHds T l e r | m => m) := (rfl)
@[simp] theorem e_dPart {d : Env → Res D} : dPart d r = (d r).bind fun x r => match x with | .int i => .ok (some i) r | _ => .bad := (rfl)
@[simp] theorem e_dNoP : dNoP r = .ok none r := (rfl)
@[simp] theorem e_dCut {d : Env → Res D} {dl dh : Env → Res (Option Int)} : dCut d dl dh r = (d r).bind fun x r => (dl r).bind fun lo r => (dh r).bind fun hi r => Res.of (fCut x lo hi) r := (rfl)
@[simp] theorem e_dTupRg2 {da db : Env → Res D} : dTupRg2 da db r = (da r).bind fun x r => (db r).bind fun y r => match x, y with
  | .int i, .int j => Res.of (fTupRg i j) r
  | _, _ => .bad := (rfl)
@[simp] theorem e_dTupRg1 {d : Env → Res D} : dTupRg1 d r = (d r).bind fun x r => match x with
  | .int j => Res.of (fTupRg 0 j) r
  | _ => .bad := (rfl)
@[simp] theorem e_dAt {T : Tbl} {f : Str} {d : Env → Res D} : dAt T f d r = (d r).bind fun x r => match x with
  | .exc n g y => if g = f ∧ (T.lookup n).isSome = true then .ok y r else .bad
  | _ => .bad := (rfl)
@[simp] theorem e_dYes : dYes r = .ok true r := (rfl)
end
@[simp] theorem tru_bl {b : Bool} : fTru (.bl b) = some b := (rfl)
@[simp] theorem tru_non : fTru .non = some false := (rfl)
@[simp] theorem tru_int {i : Int} : fTru (.int i) = some (i != 0) := (rfl)
@[simp] theorem tru_tup {ds : List D} : fTru (.tup ds) = some (!ds.isEmpty) := (rfl)
@[simp] theorem tru_lst {ds : List D} : fTru (.lst ds) = some (!ds.isEmpty) := (rfl)
@[simp] theorem ix_v {d : D} : Arg.ix (.v d) = none := (rfl)
@[simp] theorem ix_s {j : Nat} : Arg.ix (.s j) = some j := (rfl)
@[simp] theorem fm_v {d : D} {as : List Arg} : List.filterMap Arg.ix (.v d :: as) = List.filterMap Arg.ix as := (rfl)
@[simp] theorem fm_s {j : Nat} {as : List Arg} : List.filterMap Arg.ix (.s j :: as) = j :: List.filterMap Arg.ix as := (rfl)
@[simp] theorem as_nil {r : Env} : argSlots r [] = some [] := (rfl)
@[simp] theorem as_v {r : Env} {d : D} {as : List Arg} : argSlots r (.v d :: as) = (argSlots r as).map (.v d :: ·) := (rfl)
@[simp] theorem as_s {r : Env} {j : Nat} {as : List Arg} : argSlots r (.s j :: as) = (getOpn r j).bind fun ds => (argSlots r as).map (.p ds :: ·) := (rfl)
@[simp] theorem pb_nil {o : List Slot} {r : Env} : putBack [] o r = r := (rfl)
@[simp] theorem pb_v {d : D} {s : Slot} {as : List Arg} {o : List Slot} {r : Env} : putBack (.v d :: as) (s :: o) r = putBack as o r := (rfl)
@[simp] theorem pb_sp {j : Nat} {ds : List D} {as : List Arg} {o : List Slot} {r : Env} : putBack (.s j :: as) (.p ds :: o) r = putBack as o (setOpn r j ds) := (rfl)
@[simp] theorem pb_su {j : Nat} {as : List Arg} {o : List Slot} {r : Env} : putBack (.s j :: as) (.un :: o) r = putBack as o r := (rfl)
@[simp] theorem out_nil {r : Env} : outs [] r = [] := (rfl)
@[simp] theorem out_p {ds : List D} {as : List Slot} {s : Slot} {r : Env} : outs (.p ds :: as) (s :: r) = s :: outs as r := (rfl)
@[simp] theorem out_v {d : D} {as : List Slot} {s : Slot} {r : Env} : outs (.v d :: as) (s :: r) = .un :: outs as r := (rfl)
@[simp] theorem e_f2 {c : Int → Int → Bool} {g : Int → Int → D} {i j : Int} : f2 c g (.int i) (.int j) = if c i j = true then some (g i j) else none := (rfl)
@[simp] theorem e_go {r : Env} {j : Nat} : getOpn r j = match r[j]? with | some (.o ds) => some ds | some (.p ds) => some ds | _ => none := (rfl)
@[simp] theorem e_so {r : Env} {j : Nat} {ds : List D} : setOpn r j ds = match r[j]? with | some (.o _) => r.set j (.o ds) | some (.p _) => r.set j (.p ds) | _ => r := (rfl)
def Slot.np : Slot → Bool
  | .p _ => false
  | _ => true
@[simp] theorem np_un : Slot.un.np = true := (rfl)
@[simp] theorem np_v {d : D} : (Slot.v d).np = true := (rfl)
@[simp] theorem np_o {d : List D} : (Slot.o d).np = true := (rfl)
@[simp] theorem np_p {d : List D} : (Slot.p d).np = false := (rfl)
@[simp] theorem e_np {r : Env} {j : Nat} : notP r j = match r[j]? with | some s => s.np | none => true := by
  unfold notP
  cases r[j]? with
  | none => rfl
  | some s => cases s <;> rfl
theorem e_run {n : Nat} {b : Env → SRes} {args : List Slot} : runD n b args = match b (args ++ List.replicate (n - args.length) .un) with
  | .nx r => .ok .non (outs args r)
  | .rt x r => .ok x (outs args r)
  | .rn ds r => .okn ds (outs args r)
  | .err e r => .err e (outs args r)
  | _ => .bad := (rfl)
@[simp] theorem isN_non {x : D} : fIsN x .non = some (.bl (isNon x)) := by cases x <;> rfl
@[simp] theorem isNot_non {x : D} : fIsNot x .non = some (.bl (!isNon x)) := by cases x <;> rfl
@[simp] theorem isN_bl {x : D} {b : Bool} : fIsN x (.bl b) = some (.bl (isBlD x b)) := by cases x <;> rfl
@[simp] theorem isNot_bl {x : D} {b : Bool} : fIsNot x (.bl b) = some (.bl (!isBlD x b)) := by cases x <;> rfl
@[simp] theorem isBlD_bl {a b : Bool} : isBlD (.bl a) b = decide (a = b) := (rfl)
@[simp] theorem isBlD_int {a : Int} {b : Bool} : isBlD (.int a) b = false := (rfl)
@[simp] theorem isNon_non : isNon .non = true := (rfl)
@[simp] theorem isNon_int {i : Int} : isNon (.int i) = false := (rfl)
@[simp] theorem isNon_bl {i : Bool} : isNon (.bl i) = false := (rfl)
@[simp] theorem isNon_tup {i : List D} : isNon (.tup i) = false := (rfl)
@[simp] theorem isNon_lst {i : List D} : isNon (.lst i) = false := (rfl)
@[simp] theorem isNon_str {i : Str} : isNon (.str i) = false := (rfl)
@[simp] theorem its_tup {i : List D} : itemsOf (.tup i) = some i := (rfl)
@[simp] theorem its_lst {i : List D} : itemsOf (.lst i) = some i := (rfl)
@[simp] theorem its_frl {i : List D} : itemsOf (.frl i) = some i := (rfl)
@[simp] theorem tup1 {x : D} : fTuple [x] = (itemsOf x).map D.tup := (rfl)
@[simp] theorem list1 {x : D} : fList [x] = (itemsOf x).map D.lst := (rfl)
@[simp] theorem len_tup {i : List D} : fLen [.tup i] = some (.int i.length) := (rfl)
@[simp] theorem len_lst {i : List D} : fLen [.lst i] = some (.int i.length) := (rfl)
@[simp] theorem len_frl {i : List D} : fLen [.frl i] = some (.int i.length) := (rfl)
@[simp] theorem int1 {i : Int} : fInt [.int i] = some (.int i) := (rfl)
@[simp] theorem min2 {i j : Int} : fMin [.int i, .int j] = some (.int (if j < i then j else i)) := (rfl)
@[simp] theorem max2 {i j : Int} : fMax [.int i, .int j] = some (.int (if j > i then j else i)) := (rfl)
@[simp] theorem neg1 {i : Int} : fNeg (.int i) = some (.int (-i)) := (rfl)
@[simp] theorem app1 {ys : List D} {x : D} : mAppend ys [x] = if ys.length < 16777216 then some (.non, ys ++ [x]) else none := (rfl)
@[simp] theorem rev0 {ys : List D} : mReverse ys [] = some (.non, ys.reverse) := (rfl)
@[simp] theorem add_int {i j : Int} : fAdd (.int i) (.int j) = some (.int (i + j)) := (rfl)
@[simp] theorem ix_tup' {ds : List D} {i : Int} : fIx (.tup ds) (.int i) = atI ds i := (rfl)
@[simp] theorem ix_lst' {ds : List D} {i : Int} : fIx (.lst ds) (.int i) = atI ds i := (rfl)
@[simp] theorem ix_frl' {ds : List D} {i : Int} : fIx (.frl ds) (.int i) = atI ds i := (rfl)
theorem log2_le (n k : Nat) (h : n < 2 ^ k) : n.log2 ≤ k := by
  by_cases h0 : n = 0
  · subst h0; simp
  · exact Nat.le_of_lt ((Nat.log2_lt h0).mpr h)
@[simp high] theorem e_div {i j : Int} (h : 0 < j) (h2 : j < 1000000000000000000000000000000000000000000000000000000000000) : fDiv (.int i) (.int j) = some (.int (i / j)) := by
  have h3 : j.natAbs.log2 < 9000 := Nat.lt_of_le_of_lt (log2_le _ 200 (by omega)) (by decide)
  simp only [e_f2, h, h3, decide_true, Bool.and_self, if_true]
theorem shp_int {i : Int} : SeqAt.shaped (.int i) = true := (rfl)
@[simp] theorem eq_int {i j : Int} : fEq (.int i) (.int j) = some (.bl (decide (i = j))) := by
  show (if (SeqAt.shaped (.int i) && SeqAt.shaped (.int j)) = true then some (D.bl (PyData.eqv (.int i) (.int j))) else none) = _
  simp only [shp_int, PyData.eqv]
  simp only [Bool.and_self, if_true]
  congr
@[simp] theorem ne_int {i j : Int} : fNe (.int i) (.int j) = some (.bl (!decide (i = j))) := by
  show (if (SeqAt.shaped (.int i) && SeqAt.shaped (.int j)) = true then some (D.bl (!PyData.eqv (.int i) (.int j))) else none) = _
  simp only [shp_int, PyData.eqv]
  simp only [Bool.and_self, if_true]
  congr
theorem shp_str {x : Str} (h : PyData.strOk x = true) : SeqAt.shaped (.str x) = true := by
  show (PyData.canLay0 (.str x) && decide (PyData.depth (.str x) ≤ 64)) = true
  simp [PyData.canLay0, PyData.depth, h]
theorem eq_str {x y : Str} (hx : PyData.strOk x = true) (hy : PyData.strOk y = true) : fEq (.str x) (.str y) = some (.bl (x == y)) := by
  show (if (SeqAt.shaped (.str x) && SeqAt.shaped (.str y)) = true then some (D.bl (PyData.eqv (.str x) (.str y))) else none) = _
  simp only [shp_str hx, shp_str hy, PyData.eqv]
  simp only [Bool.and_self, if_true]
theorem ne_str {x y : Str} (hx : PyData.strOk x = true) (hy : PyData.strOk y = true) : fNe (.str x) (.str y) = some (.bl (!(x == y))) := by
  show (if (SeqAt.shaped (.str x) && SeqAt.shaped (.str y)) = true then some (D.bl (!PyData.eqv (.str x) (.str y))) else none) = _
  simp only [shp_str hx, shp_str hy, PyData.eqv]
  simp only [Bool.and_self, if_true]
/-! plain data -/
mutual
def D.dat : Nat → D → Bool
  | _, .non => true
  | _, .bl _ => true
  | _, .int _ => true
  | _, .str x => PyData.strOk x
  | 0, .tup _ => false
  | n + 1, .tup ds => D.datL n ds
  | 0, .lst _ => false
  | n + 1, .lst ds => D.datL n ds
  | _, _ => false
def D.datL : Nat → List D → Bool
  | _, [] => true
  | n, d :: ds => D.dat n d && D.datL n ds
end
mutual
theorem dat_py : ∀ (n : Nat) (d : D), D.dat n d = true → PyData.canLay0 d.py = true ∧ PyData.depth d.py ≤ n ∧ PyData.eqv d.py d.py = true
  | n, .non, _ => by simp [D.py, PyData.canLay0, PyData.depth, PyData.eqv]
  | n, .bl _, _ => by simp [D.py, PyData.canLay0, PyData.depth, PyData.eqv]
  | n, .int _, _ => by simp [D.py, PyData.canLay0, PyData.depth, PyData.eqv]
  | n, .str _, h => by simp only [D.dat] at h; simp [D.py, PyData.canLay0, PyData.depth, PyData.eqv, h]
  | 0, .tup _, h => by simp [D.dat] at h
  | n + 1, .tup ds, h => by
    simp only [D.dat] at h
    obtain ⟨h1, h2, h3⟩ := datL_py n ds h
    simp only [D.py, PyData.canLay0, PyData.depth, PyData.eqv]
    exact ⟨h1, by omega, h3⟩
  | 0, .lst _, h => by simp [D.dat] at h
  | n + 1, .lst ds, h => by
    simp only [D.dat] at h
    obtain ⟨h1, h2, h3⟩ := datL_py n ds h
    simp only [D.py, PyData.canLay0, PyData.depth, PyData.eqv]
    exact ⟨h1, by omega, h3⟩
  | n, .ty _, h => by simp [D.dat] at h
  | n, .cl _, h => by simp [D.dat] at h
  | n, .frl _, h => by simp [D.dat] at h
  | n, .exc _ _ _, h => by simp [D.dat] at h
theorem datL_py : ∀ (n : Nat) (ds : List D), D.datL n ds = true → PyData.canLayAll0 (D.pyL ds) = true ∧ PyData.depthAll (D.pyL ds) ≤ n ∧ PyData.eqvAll (D.pyL ds) (D.pyL ds) = true
  | n, [], _ => by simp [D.pyL, PyData.canLayAll0, PyData.depthAll, PyData.eqvAll]
  | n, d :: ds, h => by
    simp only [D.datL, Bool.and_eq_true] at h
    obtain ⟨h1, h2, h3⟩ := dat_py n d h.1
    obtain ⟨k1, k2, k3⟩ := datL_py n ds h.2
    simp only [D.pyL, PyData.canLayAll0, PyData.depthAll, PyData.eqvAll, Bool.and_eq_true]
    exact ⟨⟨h1, k1⟩, by omega, h3, k3⟩
end
theorem dat_sh {d : D} (h : D.dat 60 d = true) : SeqAt.shaped d.py = true := by
  obtain ⟨h1, h2, _⟩ := dat_py 60 d h
  unfold SeqAt.shaped
  rw [h1, Bool.true_and]
  exact decide_eq_true (by omega)
theorem eq_dat {x y : D} (hx : D.dat 60 x = true) (hy : D.dat 60 y = true) : fEq x y = some (.bl (PyData.eqv x.py y.py)) := by
  unfold fEq
  rw [dat_sh hx, dat_sh hy]; rfl
theorem ne_dat {x y : D} (hx : D.dat 60 x = true) (hy : D.dat 60 y = true) : fNe x y = some (.bl (!PyData.eqv x.py y.py)) := by
  unfold fNe
  rw [dat_sh hx, dat_sh hy]; rfl
theorem eq_self {x : D} (hx : D.dat 60 x = true) : fEq x x = some (.bl true) := by rw [eq_dat hx hx, (dat_py 60 x hx).2.2]
theorem ne_self {x : D} (hx : D.dat 60 x = true) : fNe x x = some (.bl false) := by rw [ne_dat hx hx, (dat_py 60 x hx).2.2]; rfl

@[simp] theorem atI_nat {α : Type} (xs : List α) (i : Nat) : atI xs (i : Int) = xs[i]? := by
  unfold atI ixN
  rw [if_pos (by omega)]
  by_cases h : (i : Int) < xs.length
  · rw [if_pos h]; simp
  · rw [if_neg h, List.getElem?_eq_none (by omega)]; rfl
theorem atI_at {α : Type} (xs : List α) {i : Int} (h : 0 ≤ i) : atI xs i = xs[i.toNat]? := by
  obtain ⟨n, rfl⟩ : ∃ n : Nat, i = n := ⟨i.toNat, by omega⟩
  rw [atI_nat]; simp
@[simp] theorem atI_0 {α : Type} (xs : List α) : atI xs 0 = xs[0]? := atI_nat xs 0
@[simp] theorem atI_1 {α : Type} (xs : List α) : atI xs 1 = xs[1]? := atI_nat xs 1
@[simp] theorem atI_2 {α : Type} (xs : List α) : atI xs 2 = xs[2]? := atI_nat xs 2
@[simp] theorem atI_3 {α : Type} (xs : List α) : atI xs 3 = xs[3]? := atI_nat xs 3
@[simp] theorem atI_4 {α : Type} (xs : List α) : atI xs 4 = xs[4]? := atI_nat xs 4
@[simp] theorem atI_5 {α : Type} (xs : List α) : atI xs 5 = xs[5]? := atI_nat xs 5
@[simp] theorem atI_6 {α : Type} (xs : List α) : atI xs 6 = xs[6]? := atI_nat xs 6
@[simp] theorem atI_7 {α : Type} (xs : List α) : atI xs 7 = xs[7]? := atI_nat xs 7
theorem mulS {i j : Int} (h : 0 ≤ i) (h2 : i < 1000000000) : mulOk i j = true := by
  unfold mulOk
  rw [decide_eq_true (show i.natAbs < 18446744073709551616 by omega)]; rfl
theorem mulS' {i j : Int} (h : -1000000000 < j) (h2 : j < 1000000000) : mulOk i j = true := by
  unfold mulOk
  rw [decide_eq_true (show j.natAbs < 18446744073709551616 by omega)]; simp
theorem inR_nat {n : Nat} (h : n ≤ 1000000000) : inR (n : Int) = true := by unfold inR; exact @decide_eq_true _ (Classical.propDecidable _) ⟨by omega, by omega⟩
theorem inR_int {n : Int} (h : -1000000000 ≤ n) (h2 : n ≤ 1000000000) : inR n = true := by unfold inR; exact @decide_eq_true _ (Classical.propDecidable _) ⟨by omega, by omega⟩
theorem rg1 {n : Nat} (h : n ≤ 1000000000) : fRange1 [.int (n : Int)] = some (intsD 0 n) := by
  simp only [fRange1]
  rw [inR_nat h, if_pos (by decide), Int.toNat_natCast]
theorem rg1i {j : Int} (h : -1000000000 ≤ j) (h2 : j ≤ 1000000000) : fRange1 [.int j] = some (intsD 0 j.toNat) := by
  simp only [fRange1]
  rw [inR_int h h2, if_pos (by decide)]
theorem rg2i {i j : Int} (hi : -1000000000 ≤ i) (hi2 : i ≤ 1000000000) (h : -1000000000 ≤ j) (h2 : j ≤ 1000000000) : fRange2 [.int i, .int j] = some (intsD i (j - i).toNat) := by
  simp only [fRange2]
  rw [inR_int h h2, inR_int hi hi2, if_pos (by decide)]
theorem tupRg {i j : Int} (hi : -1000000000 ≤ i) (hi2 : i ≤ 1000000000) (h : -1000000000 ≤ j) (h2 : j ≤ 1000000000) (h3 : (j - i).toNat ≤ 16777216) : fTupRg i j = some (.tup (intsD i (j - i).toNat)) := by
  unfold fTupRg rgB
  rw [inR_int h h2, inR_int hi hi2, decide_eq_true h3, if_pos (by decide)]
@[simp] theorem e_hdN {T : Tbl} {m : Str} {i : Nat} {su : Env → SRes} {l : List (Str × Option Nat × (Env → SRes))} {e : D} {r : Env} : dHds T ((m, some i, su) :: l) e r = (match exMatch T e m with
    | some true => if notP r i = true then sEnd (some i) (su (r.set i (.v e))) else .bad
    | some false => dHds T l e r
    | none => .bad) := (rfl)
@[simp] theorem e_hd0 {T : Tbl} {m : Str} {su : Env → SRes} {l : List (Str × Option Nat × (Env → SRes))} {e : D} {r : Env} : dHds T ((m, none, su) :: l) e r = (match exMatch T e m with
    | some true => sEnd none (su r)
    | some false => dHds T l e r
    | none => .bad) := (rfl)
@[simp] theorem end_nx {i : Nat} {r : Env} : sEnd (some i) (.nx r) = if notP r i = true then .nx (r.set i .un) else .bad := (rfl)
@[simp] theorem end_rt {i : Nat} {x : D} {r : Env} : sEnd (some i) (.rt x r) = .rt x r := (rfl)
@[simp] theorem end_nx0 {r : Env} : sEnd none (.nx r) = .nx r := (rfl)
@[simp] theorem end_rt0 {x : D} {r : Env} : sEnd none (.rt x r) = .rt x r := (rfl)
/-! ## Loops -/
/-- a loop that goes through: a state a turn -/
theorem forL_st {α σ : Type} (E : σ → Env) (enc : α → D) (st : σ → α → σ) (inv : σ → Prop) {g : D → Env → Option Env} {b : Env → SRes} : ∀ (xs : List α) (s : σ), inv s →
    (∀ s a, a ∈ xs → inv s → (∃ r1, g (enc a) (E s) = some r1 ∧ (b r1 = .nx (E (st s a)) ∨ b r1 = .ct (E (st s a)))) ∧ inv (st s a)) →
    dForL g b (xs.map enc) (E s) = .nx (E (xs.foldl st s)) ∧ inv (xs.foldl st s)
  | [], s, h, _ => ⟨rfl, h⟩
  | x :: xs, s, h, k => by
    obtain ⟨⟨r1, h1, h2⟩, h3⟩ := k s x List.mem_cons_self h
    have ih := forL_st E enc st inv xs (st s x) h3 fun s a ha => k s a (List.mem_cons_of_mem _ ha)
    refine ⟨?_, ih.2⟩
    rw [List.map_cons, e_dForL1]
    rcases h2 with h2 | h2 <;> simp only [h1, h2] <;> exact ih.1
theorem forL_ind {α : Type} (enc : α → D) (I : List α → Env → Prop) {g : D → Env → Option Env} {b : Env → SRes} (step : ∀ a as r, I (a :: as) r → ∃ r1 r2, g (enc a) r = some r1 ∧ (b r1 = .nx r2 ∨ b r1 = .ct r2) ∧ I as r2) :
    ∀ (xs : List α) (r : Env), I xs r → ∃ r', dForL g b (xs.map enc) r = .nx r' ∧ I [] r'
  | [], r, h => ⟨r, rfl, h⟩
  | x :: xs, r, h => by
    obtain ⟨r1, r2, h1, h2, h3⟩ := step x xs r h
    obtain ⟨r', h4, h5⟩ := forL_ind enc I step xs r2 h3
    refine ⟨r', ?_, h5⟩
    rw [List.map_cons, e_dForL1]
    rcases h2 with h2 | h2 <;> simp only [h1, h2] <;> exact h4
theorem forE_ind {α : Type} (enc : α → D) (I : List α → Nat → Env → Prop) {g : D → Env → Option Env} {b : Env → SRes} (step : ∀ a as n r, I (a :: as) n r → ∃ r1 r2, g (.tup [.int (n : Nat), enc a]) r = some r1 ∧ (b r1 = .nx r2 ∨ b r1 = .ct r2) ∧ I as (n + 1) r2) :
    ∀ (xs : List α) (n : Nat) (r : Env), I xs n r → ∃ r', dForL g b (((xs.map enc).zipIdx n).map fun p => .tup [.int (p.2 : Nat), p.1]) r = .nx r' ∧ I [] (n + xs.length) r'
  | [], n, r, h => ⟨r, rfl, h⟩
  | x :: xs, n, r, h => by
    obtain ⟨r1, r2, h1, h2, h3⟩ := step x xs n r h
    obtain ⟨r', h4, h5⟩ := forE_ind enc I step xs (n + 1) r2 h3
    refine ⟨r', ?_, by rw [List.length_cons, show n + (xs.length + 1) = n + 1 + xs.length by omega]; exact h5⟩
    rw [List.map_cons, List.zipIdx_cons, List.map_cons, e_dForL1]
    rcases h2 with h2 | h2 <;> simp only [h1, h2] <;> exact h4
theorem forEn {α : Type} (enc : α → D) (I : List α → Nat → Env → Prop) {g : D → Env → Option Env} {b : Env → SRes} (xs : List α) (r : Env) (h : I xs 0 r) (step : ∀ a as n r, I (a :: as) n r → ∃ r1 r2, g (.tup [.int (n : Nat), enc a]) r = some r1 ∧ (b r1 = .nx r2 ∨ b r1 = .ct r2) ∧ I as (n + 1) r2) :
    ∃ r', dForL g b (enumD (xs.map enc)) r = .nx r' ∧ I [] xs.length r' := by
  obtain ⟨r', h1, h2⟩ := forE_ind enc I step xs 0 r h
  exact ⟨r', h1, by simpa using h2⟩
theorem forR_ind (lo : Int) (n : Nat) (I : Nat → Env → Prop) {g : D → Env → Option Env} {b : Env → SRes} (step : ∀ k r, k < n → I k r → ∃ r1 r2, g (.int (lo + (k : Int))) r = some r1 ∧ (b r1 = .nx r2 ∨ b r1 = .ct r2) ∧ I (k + 1) r2) (r : Env) (h : I 0 r) :
    ∃ r', dForL g b (intsD lo n) r = .nx r' ∧ I n r' := by
  have key : ∀ (m k : Nat) (r : Env), k + m = n → I k r → ∃ r', dForL g b ((List.range' k m).map fun (k : Nat) => D.int (lo + (k : Int))) r = .nx r' ∧ I n r' := by
    intro m
    induction m with
    | zero => intro k r e h; exact ⟨r, rfl, by rw [← e]; exact h⟩
    | succ m ih =>
      intro k r e h
      obtain ⟨r1, r2, h1, h2, h3⟩ := step k r (by omega) h
      obtain ⟨r', h4, h5⟩ := ih (k + 1) r2 (by omega) h3
      refine ⟨r', ?_, h5⟩
      rw [List.range'_succ, List.map_cons, e_dForL1]
      rcases h2 with h2 | h2 <;> simp only [h1, h2] <;> exact h4
  unfold intsD
  rw [List.range_eq_range']
  exact key n 0 r (by omega) h
/-- .. that may hand back in its midst -/
theorem forR_or (lo : Int) (n : Nat) (I : Nat → Env → Prop) (R : D → Env → Prop) {g : D → Env → Option Env} {b : Env → SRes} (step : ∀ k r, k < n → I k r → ∃ r1, g (.int (lo + (k : Int))) r = some r1 ∧ ((∃ r2, (b r1 = .nx r2 ∨ b r1 = .ct r2) ∧ I (k + 1) r2) ∨ ∃ x r2, b r1 = .rt x r2 ∧ R x r2)) (r : Env) (h : I 0 r) :
    (∃ r', dForL g b (intsD lo n) r = .nx r' ∧ I n r') ∨ ∃ x r', dForL g b (intsD lo n) r = .rt x r' ∧ R x r' := by
  have key : ∀ (m k : Nat) (r : Env), k + m = n → I k r → (∃ r', dForL g b ((List.range' k m).map fun (k : Nat) => D.int (lo + (k : Int))) r = .nx r' ∧ I n r') ∨ ∃ x r', dForL g b ((List.range' k m).map fun (k : Nat) => D.int (lo + (k : Int))) r = .rt x r' ∧ R x r' := by
    intro m
    induction m with
    | zero => intro k r e h; exact .inl ⟨r, rfl, by rw [← e]; exact h⟩
    | succ m ih =>
      intro k r e h
      obtain ⟨r1, h1, h2⟩ := step k r (by omega) h
      rw [List.range'_succ, List.map_cons]
      simp only [e_dForL1, h1]
      rcases h2 with ⟨r2, h2, h3⟩ | ⟨x, r2, h2, h3⟩
      · rcases h2 with h2 | h2 <;> simp only [h2] <;> exact ih (k + 1) r2 (by omega) h3
      · exact .inr ⟨x, r2, by simp only [h2], h3⟩
  unfold intsD
  rw [List.range_eq_range']
  exact key n 0 r (by omega) h
theorem forL_or {α : Type} (enc : α → D) (I : List α → Env → Prop) (R : D → Env → Prop) {g : D → Env → Option Env} {b : Env → SRes} (stp : ∀ a as r, I (a :: as) r → ∃ r1, g (enc a) r = some r1 ∧ ((∃ r2, (b r1 = .nx r2 ∨ b r1 = .ct r2) ∧ I as r2) ∨ ∃ x r2, b r1 = .rt x r2 ∧ R x r2)) :
    ∀ (xs : List α) (r : Env), I xs r → (∃ r', dForL g b (xs.map enc) r = .nx r' ∧ I [] r') ∨ ∃ x r', dForL g b (xs.map enc) r = .rt x r' ∧ R x r'
  | [], r, h => .inl ⟨r, rfl, h⟩
  | x :: xs, r, h => by
    obtain ⟨r1, h1, h2⟩ := stp x xs r h
    rw [List.map_cons]
    simp only [e_dForL1, h1]
    rcases h2 with ⟨r2, h2, h3⟩ | ⟨y, r2, h2, h3⟩
    · rcases h2 with h2 | h2 <;> simp only [h2] <;> exact forL_or enc I R stp xs r2 h3
    · exact .inr ⟨y, r2, by simp only [h2], h3⟩
theorem intsD_succ (a : Int) (n : Nat) : intsD a (n + 1) = intsD a n ++ [.int (a + (n : Int))] := by unfold intsD; rw [List.range_succ, List.map_append]; rfl
@[simp] theorem intsD_0 (a : Int) : intsD a 0 = [] := (rfl)
@[simp] theorem intsD_len (a : Int) (n : Nat) : (intsD a n).length = n := by unfold intsD; simp
theorem lc_ind {α : Type} (enc : α → D) (I : List α → List D → Env → Prop) {g : D → Env → Option Env} {e : Env → Res D} {vs : List Nat} (step : ∀ a as acc r, I (a :: as) acc r → ∃ r1 y r3, g (enc a) r = some r1 ∧ e r1 = .ok y r3 ∧ acc.length < 16777216 ∧ notPs r3 vs = true ∧ I as (acc ++ [y]) (wipeR r3 vs)) :
    ∀ (xs : List α) (acc : List D) (r : Env), I xs acc r → ∃ acc' r', dLcL g dYes e vs (xs.map enc) r acc = .ok acc' r' ∧ I [] acc' r'
  | [], acc, r, h => ⟨acc, r, rfl, h⟩
  | x :: xs, acc, r, h => by
    obtain ⟨r1, y, r3, h1, h2, h3, h4, h5⟩ := step x xs acc r h
    obtain ⟨acc', r', h6, h7⟩ := lc_ind enc I step xs (acc ++ [y]) (wipeR r3 vs) h5
    refine ⟨acc', r', ?_, h7⟩
    rw [List.map_cons]
    unfold dLcL
    simp only [h1, e_dYes, h2, h3, h4, if_true, decide_true, Bool.and_self]
    exact h6
/-- a comprehension that leaves the frame as it is -/
theorem lc_pure {α : Type} (enc : α → D) (f : α → D) {g : D → Env → Option Env} {e : Env → Res D} {vs : List Nat} {r0 : Env} (xs : List α) (hl : xs.length ≤ 16777216) (step : ∀ a ∈ xs, ∃ r1, g (enc a) r0 = some r1 ∧ e r1 = .ok (f a) r1 ∧ notPs r1 vs = true ∧ wipeR r1 vs = r0) :
    dLcL g dYes e vs (xs.map enc) r0 [] = .ok (xs.map f) r0 := by
  have key : ∀ (ys : List α) (acc : List D), (∀ a ∈ ys, a ∈ xs) → acc.length + ys.length ≤ 16777216 → dLcL g dYes e vs (ys.map enc) r0 acc = .ok (acc ++ ys.map f) r0 := by
    intro ys
    induction ys with
    | nil => intro acc _ _; simp [dLcL]
    | cons y ys ih =>
      intro acc hm hl
      obtain ⟨r1, h1, h2, h3, h4⟩ := step y (hm y List.mem_cons_self)
      rw [List.map_cons]
      unfold dLcL
      have : acc.length < 16777216 := by simp at hl; omega
      simp only [h1, e_dYes, h2, h3, this, if_true, decide_true, Bool.and_self, h4]
      rw [ih (acc ++ [f y]) (fun a ha => hm a (List.mem_cons_of_mem _ ha)) (by simp at hl ⊢; omega)]
      simp
  simpa using key xs [] (fun a h => h) (by simpa using hl)
/-- .. with a test -/
theorem lc_pureIf {α : Type} (enc : α → D) (f : α → D) (ph : α → Bool) {g : D → Env → Option Env} {t : Env → Res Bool} {e : Env → Res D} {vs : List Nat} {r0 : Env} (xs : List α) (hl : xs.length ≤ 16777216) (stp : ∀ a ∈ xs, ∃ r1, g (enc a) r0 = some r1 ∧ t r1 = .ok (ph a) r1 ∧ (ph a = true → e r1 = .ok (f a) r1) ∧ notPs r1 vs = true ∧ wipeR r1 vs = r0) :
    dLcL g t e vs (xs.map enc) r0 [] = .ok ((xs.filter ph).map f) r0 := by
  have key : ∀ (ys : List α) (acc : List D), (∀ a ∈ ys, a ∈ xs) → acc.length + ys.length ≤ 16777216 → dLcL g t e vs (ys.map enc) r0 acc = .ok (acc ++ (ys.filter ph).map f) r0 := by
    intro ys
    induction ys with
    | nil => intro acc _ _; simp [dLcL]
    | cons y ys ih =>
      intro acc hm hl
      obtain ⟨r1, h1, ht, h2, h3, h4⟩ := stp y (hm y List.mem_cons_self)
      rw [List.map_cons]
      unfold dLcL
      have : acc.length < 16777216 := by simp at hl; omega
      cases hp : ph y with
      | true =>
        rw [hp] at ht
        simp only [h1, ht, h2 hp, h3, this, if_true, decide_true, Bool.and_self, h4]
        rw [ih (acc ++ [f y]) (fun a ha => hm a (List.mem_cons_of_mem _ ha)) (by simp at hl ⊢; omega)]
        simp [hp]
      | false =>
        rw [hp] at ht
        simp only [h1, ht, h3, Bool.false_eq_true, if_false, if_true, h4]
        rw [ih acc (fun a ha => hm a (List.mem_cons_of_mem _ ha)) (by simp at hl ⊢; omega)]
        simp [hp]
  simpa using key xs [] (fun a h => h) (by simpa using hl)
@[simp] theorem enum1 {x : D} : fEnum [x] = (itemsOf x).map enumD := (rfl)
@[simp] theorem e_dLc {di : Env → Res (List D)} {g : D → Env → Option Env} {t : Env → Res Bool} {e : Env → Res D} {vs : List Nat} {r : Env} : dLc di g t e vs r = (di r).bind fun xs r1 => if plainAt r1 vs = true then lcFin r1 vs (dLcL g t e vs xs (wipeR r1 vs) []) else .bad := (rfl)
@[simp] theorem plainAt0 {r : Env} : plainAt r [] = true := (rfl)
@[simp] theorem plainAt1 {r : Env} {v : Nat} {vs : List Nat} : plainAt r (v :: vs) = ((match r[v]? with
    | some (.v _) => true
    | some .un => true
    | _ => false) && plainAt r vs) := (rfl)
@[simp] theorem wipeR0 {r : Env} : wipeR r [] = r := (rfl)
@[simp] theorem wipeR1 {r : Env} {v : Nat} {vs : List Nat} : wipeR r (v :: vs) = (wipeR r vs).set v .un := (rfl)
@[simp] theorem notPs0 {r : Env} : notPs r [] = true := (rfl)
@[simp] theorem notPs1 {r : Env} {v : Nat} {vs : List Nat} : notPs r (v :: vs) = (notP r v && notPs r vs) := (rfl)
@[simp] theorem lcFin_ok {r1 r2 : Env} {vs : List Nat} {ys : List D} : lcFin r1 vs (.ok ys r2) = .ok (.n ys) (putSlots r1 vs r2) := (rfl)
@[simp] theorem putS0 {r r1 : Env} : putSlots r [] r1 = r1 := (rfl)
@[simp] theorem putS1 {r r1 : Env} {v : Nat} {vs : List Nat} : putSlots r (v :: vs) r1 = (match r[v]? with
    | some s => putSlots r vs (r1.set v s)
    | none => putSlots r vs r1) := (rfl)
theorem e_dWhile {t : Env → Res Bool} {b : Env → SRes} {n : Nat} {r : Env} : dWhile t b (n + 1) r = (t r).toS fun c r => if c = true then (match b r with
      | .nx r => dWhile t b n r
      | .ct r => dWhile t b n r
      | .bk r => .nx r
      | m => m) else .nx r := (rfl)
theorem dSeq_nx {a b : Env → SRes} {r r' : Env} (h : a r = .nx r') : dSeq a b r = b r' := by rw [e_dSeq, h]; rfl

end Py
end

section
set_option maxHeartbeats 400000
noncomputable section
namespace PyM
open Py PySem L2
/-! ## What every law's script is read by -/
def l__law_draws_1 : Py.Env → SRes := dSeq (dDrop (dMut 1 mAppend (dCons (dBin fMod (dCal fInt (dCons (dVar 3) (dNil))) (dC (.int 30))) (dNil)))) (dSeq (dSet 3 (dVal (dBin fDiv (dVar 3) (dC (.int 30))))) (dIf (dTst (dBin fEq (dVar 3) (dC (.int 0)))) (dBreak) (dNext)))
def l__law_draws_0 : Py.Env → SRes := dSeq (dSet 3 (dVal (dCal fInt (dCons (dBin fIx (dVar 0) (dVar 2)) (dNil))))) (dSeq (dIf (dTst (dBin fLt (dVar 3) (dC (.int 0)))) (dSet 3 (dVal (dBin fSub (dC (.int 11)) (dBin fMul (dC (.int 2)) (dVar 3))))) (dNext)) (dSeq (dSet 3 (dVal (dBin fMod (dCal fInt (dCons (dVar 3) (dNil))) (dBin fPow (dC (.int 30)) (dC (.int 24)))))) (dFor (dIt fRange1 (dCons (dC (.int 24)) (dNil))) (gNm 4) (l__law_draws_1))))
def f__law_draws : Py.Env → SRes := dSeq (dSet 1 (dLst (dNil))) (dSeq (dFor (dIt fRange1 (dCons (dCal fMin (dCons (dCal fLen (dCons (dVar 0) (dNil))) (dCons (dC (.int 63)) (dNil)))) (dNil))) (gNm 2) (l__law_draws_0)) (dSeq (dDrop (dMut 1 mReverse dNil)) (dRet (dMove 1))))
def c__law_draws : Py.Fn := runD 5 f__law_draws
def f__law_take : Py.Env → SRes := dSeq (dIf (dTst (dBin fEq (dLenO 0) (dC (.int 0)))) (dRet (dVal (dC (.int 0)))) (dNext)) (dRet (dVal (dBin fMod (dCal fInt (dCons (dHold (dMut 0 mPop dNil)) (dNil))) (dVar 1))))
def c__law_take : Py.Fn := runD 2 f__law_take
def small (d : Int) : Prop := 0 ≤ d ∧ d < 30
theorem inner : ∀ (xs : List D) (ds : List Int) (c : Int) (a0 a2 t : Slot), t.np = true → ds.length + xs.length < 16777216 → (∀ d ∈ ds, small d) →
    ∃ (ds' : List Int) (c' : Int) (t' : Slot), t'.np = true ∧ ds'.length ≤ ds.length + xs.length ∧ (∀ d ∈ ds', small d) ∧
      dForL (gNm 4) l__law_draws_1 xs [a0, .o (ds.map D.int), a2, .v (.int c), t] = .nx [a0, .o (ds'.map D.int), a2, .v (.int c'), t']
  | [], ds, c, a0, a2, t, ht, hl, hd => ⟨ds, c, t, ht, by simp, hd, rfl⟩
  | x :: xs, ds, c, a0, a2, t, ht, hl, hd => by
    have hl0 : ds.length < 16777216 := by simp at hl; omega
    have e : l__law_draws_1 [a0, .o (ds.map D.int), a2, .v (.int c), .v x] = if c / 30 = 0 then .bk [a0, .o ((ds ++ [c % 30]).map D.int), a2, .v (.int (c / 30)), .v x] else .nx [a0, .o ((ds ++ [c % 30]).map D.int), a2, .v (.int (c / 30)), .v x] := by
      simp [l__law_draws_1, hl0]
    rw [e_dForL1]
    simp only [e_gNm, e_np, List.getElem?_cons_succ, List.getElem?_cons_zero, ht, if_true, List.set_cons_succ, List.set_cons_zero]
    rw [e]
    have hd' : ∀ d ∈ ds ++ [c % 30], small d := fun d h => by
      rcases List.mem_append.mp h with h | h
      · exact hd d h
      · rw [List.mem_singleton.mp h]
        exact ⟨Int.emod_nonneg _ (by decide), Int.emod_lt_of_pos _ (by decide)⟩
    by_cases h0 : c / 30 = 0
    · rw [if_pos h0]
      exact ⟨ds ++ [c % 30], c / 30, .v x, rfl, by simp, hd', rfl⟩
    · rw [if_neg h0]
      obtain ⟨ds', c', t', h1, h2, h3, h4⟩ := inner xs (ds ++ [c % 30]) (c / 30) a0 a2 (.v x) rfl (by simp at hl ⊢; omega) hd'
      exact ⟨ds', c', t', h1, by simp at h2 ⊢; omega, h3, h4⟩
theorem outer (zs : List Int) : ∀ (xs : List Nat) (ds : List Int) (c t : Slot) (s2 : Slot), s2.np = true → c.np = true → t.np = true → (∀ x ∈ xs, x < zs.length) → ds.length + 24 * xs.length < 16777216 → (∀ d ∈ ds, small d) →
    ∃ (ds' : List Int) (c' t' s2' : Slot), ds'.length ≤ ds.length + 24 * xs.length ∧ (∀ d ∈ ds', small d) ∧
      dForL (gNm 2) l__law_draws_0 (xs.map fun k : Nat => D.int (0 + (k : Int))) [.v (.frl (zs.map D.int)), .o (ds.map D.int), s2, c, t] = .nx [.v (.frl (zs.map D.int)), .o (ds'.map D.int), s2', c', t']
  | [], ds, c, t, s2, h2, hc, ht, hx, hl, hd => ⟨ds, c, t, s2, by simp, hd, rfl⟩
  | x :: xs, ds, c, t, s2, h2, hc, ht, hx, hl, hd => by
    have hxl : x < zs.length := hx x List.mem_cons_self
    obtain ⟨ds1, c1, t1, k1, k2, k3, k4⟩ := inner (intsD 0 24) ds ((if zs[x] < 0 then 11 - 2 * zs[x] else zs[x]) % 30 ^ 24) (.v (.frl (zs.map D.int))) (.v (.int (0 + (x : Int)))) t ht (by simp [intsD] at hl ⊢; omega) hd
    have e : l__law_draws_0 [.v (.frl (zs.map D.int)), .o (ds.map D.int), .v (.int (0 + (x : Int))), c, t] = .nx [.v (.frl (zs.map D.int)), .o (ds1.map D.int), .v (.int (0 + (x : Int))), .v (.int c1), t1] := by
      rw [← k4]
      by_cases h0 : zs[x] < 0
      · simp [l__law_draws_0, hxl, hc, h0, mulOk, powOk, rg1i]
      · simp [l__law_draws_0, hxl, hc, h0, mulOk, powOk, rg1i]
    rw [List.map_cons, e_dForL1]
    simp only [e_gNm, e_np, List.getElem?_cons_succ, List.getElem?_cons_zero, h2, if_true, List.set_cons_succ, List.set_cons_zero]
    rw [e]
    obtain ⟨ds', c', t', s2', j1, j2, j3⟩ := outer zs xs ds1 (.v (.int c1)) t1 (.v (.int (0 + (x : Int)))) rfl rfl k1 (fun y hy => hx y (List.mem_cons_of_mem _ hy)) (by simp [intsD] at hl k2 ⊢; omega) k3
    exact ⟨ds', c', t', s2', by simp [intsD] at k2 ⊢; omega, j2, j3⟩
theorem draws_ok (zs : List Int) (h : zs.length ≤ 63) : ∃ ds : List Int, (∀ d ∈ ds, small d) ∧ ds.length ≤ 1512 ∧ c__law_draws [.v (.frl (zs.map D.int))] = .okn (ds.map D.int) [.un] := by
  have key : ∃ n : Nat, n ≤ zs.length ∧ n ≤ 63 ∧ (if (63 : Int) < zs.length then (63 : Int) else (zs.length : Int)) = (n : Int) := by
    by_cases h0 : (63 : Int) < zs.length
    · exact ⟨63, by omega, by omega, by rw [if_pos h0]; rfl⟩
    · exact ⟨zs.length, by omega, by omega, by rw [if_neg h0]⟩
  obtain ⟨n, n1, n2, n3⟩ := key
  obtain ⟨ds, c', t', s2', h1, h2, h3⟩ := outer zs (List.range n) [] .un .un .un rfl rfl rfl (fun x hx => by have := List.mem_range.mp hx; omega) (by simp; omega) (fun d hd => by cases hd)
  have r1 : inR (n : Int) = true := inR_nat (by omega)
  refine ⟨ds.reverse, fun d hd => h2 d (List.mem_reverse.mp hd), by simp at h1 ⊢; omega, ?_⟩
  have h3' : dForL (gNm 2) l__law_draws_0 (intsD 0 n) [.v (.frl (zs.map D.int)), .o [], .un, .un, .un] = .nx [.v (.frl (zs.map D.int)), .o (ds.map D.int), s2', c', t'] := by unfold intsD; exact h3
  simp [c__law_draws, f__law_draws, e_run, n3, rg1 (show n ≤ 1000000000 by omega), h3', List.map_reverse]
theorem take_ok (ds : List Int) (m : Int) (hm : 0 < m) (hd : ∀ d ∈ ds, small d) : ∃ (k : Int) (ds' : List Int), 0 ≤ k ∧ k < m ∧ (∀ d ∈ ds', small d) ∧ c__law_take [.p (ds.map D.int), .v (.int m)] = .ok (.int k) [.p (ds'.map D.int), .un] := by
  cases h : ds.getLast? with
  | none =>
    have : ds = [] := by simpa using h
    subst this
    exact ⟨0, [], by omega, hm, fun d hd => (nomatch hd), by simp [c__law_take, f__law_take, e_run]⟩
  | some x =>
    have hx : ds ≠ [] := fun z => by subst z; cases h
    have hl : ¬ ((ds.length : Int) = 0) := by
      have := List.length_pos_iff.mpr hx; omega
    have hp : mPop (ds.map D.int) [] = some (.int x, ds.dropLast.map D.int) := by
      unfold mPop
      rw [List.getLast?_map, h]
      simp
    refine ⟨x % m, ds.dropLast, Int.emod_nonneg _ (by omega), Int.emod_lt_of_pos _ hm, fun d hd' => hd d (List.dropLast_subset _ hd'), ?_⟩
    simp [c__law_take, f__law_take, e_run, hp, hx, hm]
end PyM
end
end

section
set_option maxHeartbeats 400000
namespace Py.Fu
open PySem L2
/-! # Defs as functions: no frame in sight -/
inductive Pt where
  | an | un | pl | v (d : D) | w (d : D) | o (ds : List D) | p (ds : List D)
def Pt.R : Pt → Slot → Prop
  | .an, _ => True
  | .un, s => s.np = true
  | .pl, s => s = .un ∨ ∃ d, s = .v d
  | .v d, s => s = .v d ∨ ∃ ds, d = .lst ds ∧ s = .o ds
  | .w d, s => s = .v d
  | .o ds, s => s = .o ds
  | .p ds, s => s = .p ds
abbrev Pat := List Pt
def PR : Pat → Env → Prop
  | [], [] => True
  | q :: p, s :: r => q.R s ∧ PR p r
  | [], _ :: _ => False
  | _ :: _, [] => False
theorem PR.get : ∀ {p : Pat} {r : Env} {i : Nat} {q : Pt}, PR p r → p[i]? = some q → ∃ s, r[i]? = some s ∧ q.R s
  | [], [], i, q, _, e => by simp at e
  | a :: p, s :: r, 0, q, h, e => by simp at e; subst e; exact ⟨s, rfl, h.1⟩
  | a :: p, s :: r, i + 1, q, h, e => by
    obtain ⟨t, h1, h2⟩ := PR.get (i := i) h.2 (by simpa using e)
    exact ⟨t, by simpa using h1, h2⟩
theorem PR.set : ∀ {p : Pat} {r : Env} {i : Nat} {q : Pt} {s : Slot}, PR p r → q.R s → PR (p.set i q) (r.set i s)
  | [], [], i, q, s, _, _ => by simp [PR]
  | a :: p, t :: r, 0, q, s, h, e => ⟨e, h.2⟩
  | a :: p, t :: r, i + 1, q, s, h, e => ⟨h.1, PR.set (i := i) h.2 e⟩
theorem PR.len : ∀ {p : Pat} {r : Env}, PR p r → r.length = p.length
  | [], [], _ => rfl
  | a :: p, s :: r, h => by simp [PR.len h.2]
theorem PR.same {p : Pat} {r : Env} {i : Nat} {q : Pt} (h : PR p r) (e : p[i]? = some q) : p.set i q = p := by
  apply List.ext_getElem?
  intro j
  by_cases hj : i = j
  · subst hj
    have : i < p.length := by
      rcases Nat.lt_or_ge i p.length with z | z
      · exact z
      · rw [List.getElem?_eq_none z] at e; cases e
    rw [List.getElem?_set_self this, e]
  · rw [List.getElem?_set_ne hj]
theorem PR.setS {p : Pat} {r : Env} {i : Nat} {q : Pt} {s : Slot} (h : PR p r) (e : p[i]? = some q) (k : q.R s) : PR p (r.set i s) := by
  have := PR.set (i := i) h k
  rwa [PR.same h e] at this
def LE (p q : Pat) : Prop := ∀ r, PR p r → PR q r
def PtLE (a b : Pt) : Prop := ∀ s, a.R s → b.R s
theorem LE.n : LE [] [] := fun _ h => h
theorem LE.c {a b : Pt} {p q : Pat} (h : PtLE a b) (k : LE p q) : LE (a :: p) (b :: q) := fun r z => match r, z with
  | _ :: _, z => ⟨h _ z.1, k _ z.2⟩
theorem LE.r {p : Pat} : LE p p := fun _ h => h
theorem PtLE.r {a : Pt} : PtLE a a := fun _ h => h
theorem PtLE.a {a : Pt} : PtLE a .an := fun _ _ => trivial
theorem PtLE.vu {d : D} : PtLE (.v d) .un := fun s h => by
  rcases h with rfl | ⟨ds, _, rfl⟩ <;> rfl
theorem PtLE.wu {d : D} : PtLE (.w d) .un := fun s h => by cases h; rfl
theorem PtLE.ou {d : List D} : PtLE (.o d) .un := fun s h => by cases h; rfl
theorem PtLE.plu : PtLE .pl .un := fun s h => by rcases h with rfl | ⟨d, rfl⟩ <;> rfl
theorem PtLE.ov {d : List D} : PtLE (.o d) (.v (.lst d)) := fun s h => .inr ⟨d, rfl, h⟩
theorem PtLE.wv {d : D} : PtLE (.w d) (.v d) := fun s h => .inl h
theorem PtLE.wp {d : D} : PtLE (.w d) .pl := fun s h => .inr ⟨d, h⟩
def anys : Nat → Pat
  | 0 => []
  | n + 1 => .an :: anys n
theorem LE.any : ∀ {p : Pat}, LE p (anys p.length)
  | [] => LE.n
  | _ :: _ => LE.c PtLE.a LE.any
theorem LE.anyN {p : Pat} {n : Nat} (h : p.length = n) : LE p (anys n) := by subst h; exact LE.any
/-! ## What a def gives -/
inductive R (α : Type) where
  | ok (a : α) | err (e : D) | bad
def R.bind {α β : Type} (m : R α) (k : α → R β) : R β := match m with
  | .ok a => k a
  | .err e => .err e
  | .bad => .bad
abbrev S (τ α : Type) := τ → R (α × τ)
section
variable {τ α β γ : Type}
def S.ok (a : α) : S τ α := fun t => .ok (a, t)
def S.err (e : D) : S τ α := fun _ => .err e
def S.bad : S τ α := fun _ => .bad
def S.bind (m : S τ α) (k : α → S τ β) : S τ β := fun t => (m t).bind fun y => k y.1 y.2
def S.of (o : Option α) : S τ α := match o with
  | some a => S.ok a
  | none => S.bad
def S.lift (m : R α) : S τ α := match m with
  | .ok a => S.ok a
  | .err e => S.err e
  | .bad => S.bad
def S.bin (f : D → D → Option D) (m n : S τ D) : S τ D := m.bind fun x => n.bind fun y => S.of (f x y)
def S.un (f : D → Option D) (m : S τ D) : S τ D := m.bind fun x => S.of (f x)
def S.cal (f : List D → Option D) (m : S τ (List D)) : S τ D := m.bind fun x => S.of (f x)
def S.tst (m : S τ D) : S τ Bool := m.bind fun x => match x with
  | .bl b => S.ok b
  | _ => S.bad
def S.tru (m : S τ D) : S τ Bool := m.bind fun x => S.of (fTru x)
def S.not (m : S τ Bool) : S τ Bool := m.bind fun b => S.ok (!b)
def S.and (m n : S τ Bool) : S τ Bool := m.bind fun c => if c = true then n else S.ok false
def S.or (m n : S τ Bool) : S τ Bool := m.bind fun c => if c = true then S.ok true else n
def S.andV (m n : S τ D) : S τ D := m.bind fun x => match fTru x with
  | some true => n
  | some false => S.ok x
  | none => S.bad
def S.orV (m n : S τ D) : S τ D := m.bind fun x => match fTru x with
  | some true => S.ok x
  | some false => n
  | none => S.bad
def S.notV (m : S τ D) : S τ D := m.bind fun x => match fTru x with
  | some b => S.ok (.bl (!b))
  | none => S.bad
def S.ife (t : S τ Bool) (m n : S τ α) : S τ α := t.bind fun c => if c = true then m else n
def S.nil : S τ (List D) := S.ok []
def S.cons (m : S τ D) (n : S τ (List D)) : S τ (List D) := m.bind fun x => n.bind fun xs => S.ok (x :: xs)
def S.tup (m : S τ (List D)) : S τ D := m.bind fun xs => if xs.length ≤ 16777216 then S.ok (.tup xs) else S.bad
def S.lst (m : S τ (List D)) : S τ (List D) := m.bind fun xs => if xs.length ≤ 16777216 then S.ok xs else S.bad
def S.toL (m : S τ (List D)) : S τ D := m.bind fun xs => S.ok (.lst xs)
def S.items (m : S τ D) : S τ (List D) := m.bind fun x => S.of (itemsOf x)
def S.it (f : List D → Option (List D)) (m : S τ (List D)) : S τ (List D) := m.bind fun x => S.of (f x)
def S.call (F : List D → R α) (m : S τ (List D)) : S τ α := m.bind fun xs => S.lift (F xs)
def S.mut (f : List D → List D → Option (D × List D)) (m : S (List D) (List D)) : S (List D) D := m.bind fun xs => fun t => match f t xs with
  | some (z, zs) => .ok (z, zs)
  | none => .bad
def S.part (m : S τ D) : S τ (Option Int) := m.bind fun x => match x with
  | .int i => S.ok (some i)
  | _ => S.bad
def S.nop : S τ (Option Int) := S.ok none
def S.cut (m : S τ D) (a b : S τ (Option Int)) : S τ D := m.bind fun x => a.bind fun lo => b.bind fun hi => S.of (fCut x lo hi)
noncomputable def S.tupRg2 (m n : S τ D) : S τ D := m.bind fun x => n.bind fun y => match x, y with
  | .int i, .int j => S.of (fTupRg i j)
  | _, _ => S.bad
noncomputable def S.tupRg1 (m : S τ D) : S τ D := m.bind fun x => match x with
  | .int j => S.of (fTupRg 0 j)
  | _ => S.bad
def S.at (T : Tbl) (f : Str) (m : S τ D) : S τ D := m.bind fun x => match x with
  | .exc n g y => if g = f ∧ (T.lookup n).isSome = true then S.ok y else S.bad
  | _ => S.bad
def S.catN (m n : S τ D) : S τ (List D) := m.bind fun x => n.bind fun y => match x, y with
  | .lst xs, .lst ys => if xs.length + ys.length ≤ 16777216 then S.ok (xs ++ ys) else S.bad
  | _, _ => S.bad
/-- what a comprehension's turn raises is not told -/
def R.nb {α : Type} : R α → R α
  | .ok a => .ok a
  | .err _ => .bad
  | .bad => .bad
def S.nb (m : S τ α) : S τ α := fun t => (m t).nb
def S.callM (F : List D → List D → R (α × List D)) (m : S (List D) (List D)) : S (List D) α := m.bind fun xs => fun t => (F t xs).nb
def lcS (gh : D → Option β) (t : β → S τ Bool) (e : β → S τ D) : List D → S τ (List D)
  | [] => S.ok []
  | x :: xs => (S.of (gh x)).bind fun z => (S.nb (t z)).bind fun b => if b = true then (S.nb (e z)).bind fun y => (lcS gh t e xs).bind fun ys => S.ok (y :: ys) else lcS gh t e xs
def S.lc (m : S τ (List D)) (gh : D → Option β) (t : β → S τ Bool) (e : β → S τ D) : S τ (List D) := m.bind fun xs => (lcS gh t e xs).bind fun ys => if ys.length ≤ 16777216 then S.ok ys else S.bad
end
/-! ## Expressions -/
section
variable {τ α α' β γ : Type} {ε : Pat} {P : τ → Pat}
def RS (ε : Pat) (P : τ → Pat) (ρ : α → β → Prop) (x : Res α) (m : R (β × τ)) : Prop := match m with
  | .ok y => ∃ a r', x = .ok a r' ∧ ρ a y.1 ∧ PR (P y.2) r'
  | .err e => ∃ r', x = .err e r' ∧ PR ε r'
  | .bad => True
theorem RS.bind {ρ : α → β → Prop} {ρ' : α' → γ → Prop} {x : Res α} {m : R (β × τ)} {k : α → Env → Res α'} {l : β → S τ γ} (h : RS ε P ρ x m) (hk : ∀ a b t r, ρ a b → PR (P t) r → RS ε P ρ' (k a r) (l b t)) : RS ε P ρ' (x.bind k) (m.bind fun y => l y.1 y.2) := by
  cases m with
  | ok y => obtain ⟨a, r', rfl, h1, h2⟩ := h; exact hk a y.1 y.2 r' h1 h2
  | err e => obtain ⟨r', rfl, h⟩ := h; exact ⟨r', rfl, h⟩
  | bad => trivial
structure EG (ε : Pat) (P : τ → Pat) (ρ : α → β → Prop) (d : Env → Res α) (m : S τ β) : Prop where
  run : ∀ t r, PR (P t) r → RS ε P ρ (d r) (m t)
abbrev EX (ε : Pat) (P : τ → Pat) (d : Env → Res α) (m : S τ α) : Prop := EG ε P Eq d m
def VR : Val → D → Prop
  | .v d, x => d = x
  | .n ds, x => x = .lst ds
def VN (v : Val) (ds : List D) : Prop := v = .n ds
abbrev EV (ε : Pat) (P : τ → Pat) (d : Env → Res Val) (m : S τ D) : Prop := EG ε P VR d m
abbrev EN (ε : Pat) (P : τ → Pat) (d : Env → Res Val) (m : S τ (List D)) : Prop := EG ε P VN d m
def AR (as : List Arg) (xs : List D) : Prop := as = xs.map Arg.v
abbrev EA (ε : Pat) (P : τ → Pat) (d : Env → Res (List Arg)) (m : S τ (List D)) : Prop := EG ε P AR d m
theorem EG.bind {ρ : α → β → Prop} {ρ' : α' → γ → Prop} {d : Env → Res α} {m : S τ β} {k : α → Env → Res α'} {l : β → S τ γ} (h : EG ε P ρ d m) (hk : ∀ a b, ρ a b → EG ε P ρ' (k a) (l b)) : EG ε P ρ' (fun r => (d r).bind k) (m.bind l) := .mk fun t r z => RS.bind (h.run t r z) fun a b t r e z => (hk a b e).run t r z
theorem EX.bind {ρ' : α' → γ → Prop} {d : Env → Res α} {m : S τ α} {k : α → Env → Res α'} {l : α → S τ γ} (h : EX ε P d m) (hk : ∀ a, EG ε P ρ' (k a) (l a)) : EG ε P ρ' (fun r => (d r).bind k) (m.bind l) := EG.bind h fun a b e => e ▸ hk a
theorem RS.ok {ρ : α → β → Prop} {a : α} {b : β} {t : τ} {r : Env} (h : ρ a b) (k : PR (P t) r) : RS ε P ρ (.ok a r) (S.ok b t) := ⟨a, r, rfl, h, k⟩
theorem EG.ok {ρ : α → β → Prop} {a : α} {b : β} (h : ρ a b) : EG ε P ρ (fun r => .ok a r) (S.ok b) := .mk fun t r k => RS.ok h k
theorem EX.ok {a : α} : EX ε P (fun r => .ok a r) (S.ok a) := EG.ok rfl
theorem EG.bad {ρ : α → β → Prop} {d : Env → Res α} : EG ε P ρ d S.bad := .mk fun t r k => trivial
theorem EX.of {o : Option D} : EX ε P (fun r => Res.of o r) (S.of o) := by
  cases o with
  | none => exact EG.bad
  | some d => exact EX.ok
theorem EX.ofL {o : Option (List D)} : EX ε P (fun r => Res.ofL o r) (S.of o) := by
  cases o with
  | none => exact EG.bad
  | some d => exact EX.ok
theorem x_c {d : D} : EX ε P (dC d) (S.ok d) := EX.ok
theorem x_v (i : Nat) {x : D} (e : ∀ t, (P t)[i]? = some (.v x)) : EX ε P (dVar i) (S.ok x) := .mk fun t r h => by
  obtain ⟨s, h1, h2⟩ := h.get (e t)
  rcases h2 with rfl | ⟨ds, rfl, rfl⟩
  · exact ⟨x, r, by simp [h1], rfl, h⟩
  · exact ⟨.lst ds, r.set i (.v (.lst ds)), by simp [h1], rfl, h.setS (e t) (.inl rfl)⟩
theorem x_w (i : Nat) {x : D} (e : ∀ t, (P t)[i]? = some (.w x)) : EX ε P (dVar i) (S.ok x) := .mk fun t r h => by
  obtain ⟨s, h1, h2⟩ := h.get (e t)
  cases h2
  exact ⟨x, r, by simp [h1], rfl, h⟩
theorem x_bin {f : D → D → Option D} {a b : Env → Res D} {m n : S τ D} (ha : EX ε P a m) (hb : EX ε P b n) : EX ε P (dBin f a b) (S.bin f m n) := EX.bind ha fun _ => EX.bind hb fun _ => EX.of
theorem x_un {f : D → Option D} {a : Env → Res D} {m : S τ D} (ha : EX ε P a m) : EX ε P (dUn f a) (S.un f m) := EX.bind ha fun _ => EX.of
theorem x_cal {f : List D → Option D} {a : Env → Res (List D)} {m : S τ (List D)} (ha : EX ε P a m) : EX ε P (dCal f a) (S.cal f m) := EX.bind ha fun _ => EX.of
theorem x_tst {a : Env → Res D} {m : S τ D} (ha : EX ε P a m) : EX ε P (dTst a) (S.tst m) := EX.bind ha fun x => by
  cases x <;> first | exact EX.ok | exact EG.bad
theorem x_tru {a : Env → Res D} {m : S τ D} (ha : EX ε P a m) : EX ε P (dTru a) (S.tru m) := EX.bind ha fun x => by
  cases fTru x with
  | none => exact EG.bad
  | some b => exact EX.ok
theorem x_not {a : Env → Res Bool} {m : S τ Bool} (ha : EX ε P a m) : EX ε P (dNot a) (S.not m) := EX.bind ha fun _ => EX.ok
theorem x_and {a b : Env → Res Bool} {m n : S τ Bool} (ha : EX ε P a m) (hb : EX ε P b n) : EX ε P (dAnd a b) (S.and m n) := EX.bind ha fun c => by
  cases c with
  | true => exact hb
  | false => exact EX.ok
theorem x_or {a b : Env → Res Bool} {m n : S τ Bool} (ha : EX ε P a m) (hb : EX ε P b n) : EX ε P (dOr a b) (S.or m n) := EX.bind ha fun c => by
  cases c with
  | false => exact hb
  | true => exact EX.ok
theorem x_andV {a b : Env → Res D} {m n : S τ D} (ha : EX ε P a m) (hb : EX ε P b n) : EX ε P (dAndV a b) (S.andV m n) := EX.bind ha fun x => by
  match fTru x with
  | none => exact EG.bad
  | some true => exact hb
  | some false => exact EX.ok
theorem x_orV {a b : Env → Res D} {m n : S τ D} (ha : EX ε P a m) (hb : EX ε P b n) : EX ε P (dOrV a b) (S.orV m n) := EX.bind ha fun x => by
  match fTru x with
  | none => exact EG.bad
  | some false => exact hb
  | some true => exact EX.ok
theorem x_notV {a : Env → Res D} {m : S τ D} (ha : EX ε P a m) : EX ε P (dNotV a) (S.notV m) := EX.bind ha fun x => by
  match fTru x with
  | none => exact EG.bad
  | some b => exact EX.ok
theorem x_ife {t : Env → Res Bool} {a b : Env → Res D} {m : S τ Bool} {n l : S τ D} (ht : EX ε P t m) (ha : EX ε P a n) (hb : EX ε P b l) : EX ε P (dIfE t a b) (S.ife m n l) := EX.bind ht fun c => by
  cases c with
  | true => exact ha
  | false => exact hb
theorem x_nil : EX ε P dNil S.nil := EX.ok
theorem x_cons {a : Env → Res D} {b : Env → Res (List D)} {m : S τ D} {n : S τ (List D)} (ha : EX ε P a m) (hb : EX ε P b n) : EX ε P (dCons a b) (S.cons m n) := EX.bind ha fun _ => EX.bind hb fun _ => EX.ok
theorem EG.ite {c : Prop} [Decidable c] {ρ : α → β → Prop} {a b : Env → Res α} {m n : S τ β} (h1 : EG ε P ρ a m) (h2 : EG ε P ρ b n) : EG ε P ρ (fun r => if c then a r else b r) (if c then m else n) := by
  by_cases h : c
  · simp only [h, if_true]; exact h1
  · simp only [h, if_false]; exact h2
theorem x_tup {b : Env → Res (List D)} {n : S τ (List D)} (hb : EX ε P b n) : EX ε P (dTup b) (S.tup n) := EX.bind hb fun y => EG.ite EX.ok EG.bad
theorem n_lst {b : Env → Res (List D)} {n : S τ (List D)} (hb : EX ε P b n) : EN ε P (dLst b) (S.lst n) := EX.bind hb fun y => EG.ite (EG.ok rfl) EG.bad
theorem v_n {d : Env → Res Val} {m : S τ (List D)} (h : EN ε P d m) : EV ε P d m.toL := .mk fun t r k => by
  have := h.run t r k
  unfold S.toL S.bind
  cases e : m t with
  | ok y => rw [e] at this; obtain ⟨a, r', h1, h2, h3⟩ := this; cases h2; exact ⟨_, r', h1, rfl, h3⟩
  | err y => rw [e] at this; exact this
  | bad => trivial
theorem v_x {d : Env → Res D} {m : S τ D} (h : EX ε P d m) : EV ε P (dVal d) m := .mk fun t r k => by
  have := h.run t r k
  unfold dVal
  cases e : m t with
  | ok y => rw [e] at this; obtain ⟨a, r', h1, h2, h3⟩ := this; subst h2; exact ⟨.v _, r', by rw [h1]; rfl, rfl, h3⟩
  | err y => rw [e] at this; obtain ⟨r', h1, h2⟩ := this; exact ⟨r', by rw [h1]; rfl, h2⟩
  | bad => trivial
theorem x_hold {d : Env → Res Val} {m : S τ D} (h : EV ε P d m) : EX ε P (dHold d) m := .mk fun t r k => by
  have := h.run t r k
  unfold dHold
  cases e : m t with
  | ok y =>
    rw [e] at this; obtain ⟨a, r', h1, h2, h3⟩ := this
    cases a with
    | v d => cases h2; exact ⟨_, r', by rw [h1]; rfl, rfl, h3⟩
    | n ds => exact ⟨_, r', by rw [h1]; rfl, h2.symm, h3⟩
  | err y => rw [e] at this; obtain ⟨r', h1, h2⟩ := this; exact ⟨r', by rw [h1]; rfl, h2⟩
  | bad => trivial
theorem x_items {a : Env → Res D} {m : S τ D} (ha : EX ε P a m) : EX ε P (dItems a) (S.items m) := EX.bind ha fun _ => EX.ofL
theorem x_it {f : List D → Option (List D)} {a : Env → Res (List D)} {m : S τ (List D)} (ha : EX ε P a m) : EX ε P (dIt f a) (S.it f m) := EX.bind ha fun _ => EX.ofL
theorem x_part {a : Env → Res D} {m : S τ D} (ha : EX ε P a m) : EX ε P (dPart a) (S.part m) := EX.bind ha fun x => by
  cases x <;> first | exact EX.ok | exact EG.bad
theorem x_nop : EX ε P dNoP S.nop := EX.ok
theorem x_cut {d : Env → Res D} {dl dh : Env → Res (Option Int)} {m : S τ D} {a b : S τ (Option Int)} (hd : EX ε P d m) (ha : EX ε P dl a) (hb : EX ε P dh b) : EX ε P (dCut d dl dh) (S.cut m a b) := EX.bind hd fun _ => EX.bind ha fun _ => EX.bind hb fun _ => EX.of
theorem x_tupRg2 {a b : Env → Res D} {m n : S τ D} (ha : EX ε P a m) (hb : EX ε P b n) : EX ε P (dTupRg2 a b) (S.tupRg2 m n) := EX.bind ha fun x => EX.bind hb fun y => by
  cases x <;> cases y <;> first | exact EX.of | exact EG.bad
theorem x_tupRg1 {a : Env → Res D} {m : S τ D} (ha : EX ε P a m) : EX ε P (dTupRg1 a) (S.tupRg1 m) := EX.bind ha fun x => by
  cases x <;> first | exact EX.of | exact EG.bad
theorem x_at {T : Tbl} {f : Str} {a : Env → Res D} {m : S τ D} (ha : EX ε P a m) : EX ε P (dAt T f a) (S.at T f m) := EX.bind ha fun x => by
  cases x with
  | exc n g y => exact EG.ite EX.ok EG.bad
  | _ => exact EG.bad
theorem n_cat {a b : Env → Res D} {m n : S τ D} (ha : EX ε P a m) (hb : EX ε P b n) : EN ε P (dCatN a b) (S.catN m n) := EX.bind ha fun x => EX.bind hb fun y => by
  cases x <;> cases y <;> first | exact EG.bad | skip
  exact EG.ite (EG.ok rfl) EG.bad
/-! open lists looked at -/
theorem go_o {p : Pat} {r : Env} {j : Nat} {ds : List D} (h : PR p r) (e : p[j]? = some (.o ds)) : r[j]? = some (.o ds) := by
  obtain ⟨s, h1, h2⟩ := h.get e; cases h2; exact h1
theorem go_p {p : Pat} {r : Env} {j : Nat} {ds : List D} (h : PR p r) (e : p[j]? = some (.p ds)) : r[j]? = some (.p ds) := by
  obtain ⟨s, h1, h2⟩ := h.get e; cases h2; exact h1
theorem go_op {p : Pat} {r : Env} {j : Nat} {ds : List D} (h : PR p r) (e : p[j]? = some (.o ds) ∨ p[j]? = some (.p ds)) : getOpn r j = some ds := by
  rcases e with e | e
  · simp [go_o h e]
  · simp [go_p h e]
def S.lenO (ds : List D) : S τ D := S.ok (.int ds.length)
def S.truO (ds : List D) : S τ Bool := S.ok (!ds.isEmpty)
def S.ixO (ds : List D) (m : S τ D) : S τ D := m.bind fun x => match x with
  | .int i => S.of (atI ds i)
  | _ => S.bad
theorem x_lenO {j : Nat} {ds : List D} (e : ∀ t, (P t)[j]? = some (.o ds) ∨ (P t)[j]? = some (.p ds)) : EX ε P (dLenO j) (S.lenO ds) := .mk fun t r h => by
  unfold dLenO
  rw [go_op h (e t)]
  exact RS.ok rfl h
theorem x_truO {j : Nat} {ds : List D} (e : ∀ t, (P t)[j]? = some (.o ds) ∨ (P t)[j]? = some (.p ds)) : EX ε P (dTruO j) (S.truO ds) := .mk fun t r h => by
  unfold dTruO
  rw [go_op h (e t)]
  exact RS.ok rfl h
theorem x_ixO {j : Nat} {ds : List D} {a : Env → Res D} {m : S τ D} (e : ∀ t, (P t)[j]? = some (.o ds) ∨ (P t)[j]? = some (.p ds)) (ha : EX ε P a m) : EX ε P (dIxO j a) (S.ixO ds m) := .mk fun t r h => by
  unfold dIxO
  rw [go_op h (e t)]
  exact RS.bind (k := fun x r => match getOpn r j, x with
    | some ds, .int i => Res.of (atI ds i) r
    | _, _ => .bad) (l := fun x => match x with
    | .int i => S.of (atI ds i)
    | _ => S.bad) (ha.run t r h) fun x _ t r e1 h => by
    subst e1
    simp only [go_op h (e t)]
    cases x <;> first | exact EX.of.run t r h | trivial
/-- the slot stays as it is -/
def KJ (j : Nat) (d : Env → Res D) : Prop := ∀ r a r', d r = .ok a r' → r'[j]? = r[j]?
theorem k_c {j : Nat} {x : D} : KJ j (dC x) := fun r a r' e => by cases e; rfl
theorem k_v {j i : Nat} (h : i ≠ j) : KJ j (dVar i) := fun r a r' e => by
  rw [e_dVar] at e
  split at e <;> first | (cases e; rfl) | (cases e; exact List.getElem?_set_ne h) | cases e
theorem k_bin {j : Nat} {f : D → D → Option D} {a b : Env → Res D} (ha : KJ j a) (hb : KJ j b) : KJ j (dBin f a b) := fun r x r' e => by
  rw [e_dBin] at e
  cases e1 : a r with
  | ok y r1 =>
    rw [e1] at e
    simp only [Res.bind] at e
    cases e2 : b r1 with
    | ok z r2 =>
      rw [e2] at e
      simp only at e
      cases e3 : f y z with
      | none => rw [e3] at e; cases e
      | some u => rw [e3] at e; cases e; rw [hb _ _ _ e2, ha _ _ _ e1]
    | err _ _ => rw [e2] at e; cases e
    | bad => rw [e2] at e; cases e
  | err _ _ => rw [e1] at e; cases e
  | bad => rw [e1] at e; cases e
theorem k_lenO {j i : Nat} : KJ j (dLenO i) := fun r a r' e => by
  unfold dLenO at e
  cases e1 : getOpn r i <;> rw [e1] at e <;> cases e
  rfl
theorem x_ixV {j : Nat} {x : D} {a : Env → Res D} {m : S τ D} (e : ∀ t, (P t)[j]? = some (.v x)) (k : KJ j a) (ha : EX ε P a m) : EX ε P (dIxO j a) (S.bin fIx (S.ok x) m) := .mk fun t r h => by
  obtain ⟨s, h1, h2⟩ := h.get (e t)
  rcases h2 with rfl | ⟨ds, rfl, rfl⟩
  · have : getOpn r j = none := by simp [h1]
    unfold dIxO
    rw [this]
    exact (x_bin (x_v j e) ha).run t r h
  · have g : getOpn r j = some ds := by simp [h1]
    have hm := ha.run t r h
    unfold dIxO
    rw [g]
    show RS ε P Eq ((a r).bind _) ((m t).bind fun y => S.of (fIx (.lst ds) y.1) y.2)
    cases e1 : m t with
    | bad => trivial
    | err y => rw [e1] at hm; obtain ⟨r', h1, h2⟩ := hm; rw [h1]; exact ⟨r', rfl, h2⟩
    | ok y =>
      rw [e1] at hm
      obtain ⟨b, r', h3, h4, h5⟩ := hm
      subst h4
      have k1 := k _ _ _ h3
      have g2 : getOpn r' j = some ds := by
        have : r'[j]? = some (.o ds) := k1.trans h1
        simp [this]
      rw [h3]
      simp only [Res.bind, R.bind, g2]
      cases y.1 <;> first | exact EX.of.run y.2 r' h5 | trivial
end
end Py.Fu
end

section
set_option maxHeartbeats 400000
namespace Py.Fu
open PySem L2
/-! ## Calls -/
def CallOk' (m : FRes) (h : R D) (o : List Slot) : Prop := match h with
  | .ok d => m = .ok d o ∨ ∃ ds, d = .lst ds ∧ m = .okn ds o
  | .err e => m = .err e o
  | .bad => True
def CallOkN' (m : FRes) (h : R (List D)) (o : List Slot) : Prop := match h with
  | .ok ds => m = .okn ds o
  | .err e => m = .err e o
  | .bad => True
structure CallOk (m : FRes) (h : R D) (o : List Slot) : Prop where
  run : CallOk' m h o
structure CallOkN (m : FRes) (h : R (List D)) (o : List Slot) : Prop where
  run : CallOkN' m h o
def uns (xs : List D) : List Slot := xs.map fun _ => .un
/-- c is as F says -/
def Z (c : Fn) (F : List D → R D) : Prop := ∀ xs, CallOk (c (xs.map Slot.v)) (F xs) (uns xs)
def ZN (c : Fn) (F : List D → R (List D)) : Prop := ∀ xs, CallOkN (c (xs.map Slot.v)) (F xs) (uns xs)
/-- .. that changes its first argument, a list -/
def MOk' (m : FRes) (h : R (D × List D)) (o : List Slot) : Prop := match h with
  | .ok y => (m = .ok y.1 (.p y.2 :: o) ∨ ∃ es, y.1 = .lst es ∧ m = .okn es (.p y.2 :: o))
  | _ => True
def MOkN' (m : FRes) (h : R (List D × List D)) (o : List Slot) : Prop := match h with
  | .ok y => m = .okn y.1 (.p y.2 :: o)
  | _ => True
structure MOk (m : FRes) (h : R (D × List D)) (o : List Slot) : Prop where
  run : MOk' m h o
structure MOkN (m : FRes) (h : R (List D × List D)) (o : List Slot) : Prop where
  run : MOkN' m h o
def ZM (c : Fn) (F : List D → List D → R (D × List D)) : Prop := ∀ ds xs, MOk (c (.p ds :: xs.map Slot.v)) (F ds xs) (uns xs)
def ZMN (c : Fn) (F : List D → List D → R (List D × List D)) : Prop := ∀ ds xs, MOkN (c (.p ds :: xs.map Slot.v)) (F ds xs) (uns xs)
section
variable {τ α α' β γ : Type} {ε : Pat} {P : τ → Pat}
theorem a_nil : EA ε P aNil S.nil := EG.ok rfl
theorem a_val {d : Env → Res D} {ds : Env → Res (List Arg)} {m : S τ D} {n : S τ (List D)} (h : EX ε P d m) (k : EA ε P ds n) : EA ε P (aVal d ds) (S.cons m n) := EX.bind h fun x => EG.bind k fun as xs e => EG.ok (by subst e; rfl)
theorem ix_none : ∀ xs : List D, (xs.map Arg.v).filterMap Arg.ix = []
  | [] => rfl
  | x :: xs => by simp [ix_none xs]
theorem args_v (r : Env) : ∀ xs : List D, argSlots r (xs.map Arg.v) = some (xs.map Slot.v)
  | [] => rfl
  | x :: xs => by simp [args_v r xs]
theorem put_v : ∀ (xs : List D) (r : Env), putBack (xs.map Arg.v) (uns xs) r = r
  | [], r => rfl
  | x :: xs, r => by simp only [uns, List.map_cons, pb_v]; exact put_v xs r
theorem v_call {c : Fn} {F : List D → R D} {ds : Env → Res (List Arg)} {m : S τ (List D)} (z : Z c F) (h : EA ε P ds m) (l : ∀ t, LE (P t) ε) : EV ε P (dCall c ds) (S.call F m) := EG.bind h fun as xs e => .mk fun t r hr => by
  subst e
  have zz := (z xs).run
  simp only [ix_none, List.nodup_nil, if_true, args_v]
  unfold S.lift
  cases e : F xs with
  | ok d =>
    rw [e] at zz
    rcases zz with zz | ⟨es, rfl, zz⟩
    · rw [zz]; simp only [put_v]; exact ⟨_, r, rfl, rfl, hr⟩
    · rw [zz]; simp only [put_v]; exact ⟨_, r, rfl, rfl, hr⟩
  | err x =>
    rw [e] at zz
    have zz : c _ = _ := zz
    rw [zz]; simp only [put_v]
    exact ⟨r, rfl, l t r hr⟩
  | bad => trivial
theorem n_call {c : Fn} {F : List D → R (List D)} {ds : Env → Res (List Arg)} {m : S τ (List D)} (z : ZN c F) (h : EA ε P ds m) (l : ∀ t, LE (P t) ε) : EN ε P (dCall c ds) (S.call F m) := EG.bind h fun as xs e => .mk fun t r hr => by
  subst e
  have zz := (z xs).run
  simp only [ix_none, List.nodup_nil, if_true, args_v]
  unfold S.lift
  cases e : F xs with
  | ok d =>
    rw [e] at zz
    have zz : c _ = _ := zz
    rw [zz]; simp only [put_v]; exact ⟨_, r, rfl, rfl, hr⟩
  | err x =>
    rw [e] at zz
    have zz : c _ = _ := zz
    rw [zz]; simp only [put_v]
    exact ⟨r, rfl, l t r hr⟩
  | bad => trivial
end
/-- slot j is a list that is written: open, or the caller's -/
structure Lens (P : List D → Pat) (j : Nat) : Prop where
  get : ∀ t, (P t)[j]? = some (.o t) ∨ (P t)[j]? = some (.p t)
  put : ∀ t t' r, PR (P t) r → PR (P t') (setOpn r j t')
theorem lens_o {p : Pat} {j : Nat} (h : j < p.length) : Lens (fun t => p.set j (.o t)) j := ⟨fun t => .inl (List.getElem?_set_self h), fun t t' r hr => by
  have := go_o hr (List.getElem?_set_self h)
  simp only [e_so, this]
  have := PR.set (i := j) (q := .o t') (s := .o t') hr rfl
  rwa [List.set_set] at this⟩
theorem lens_p {p : Pat} {j : Nat} (h : j < p.length) : Lens (fun t => p.set j (.p t)) j := ⟨fun t => .inr (List.getElem?_set_self h), fun t t' r hr => by
  have := go_p hr (List.getElem?_set_self h)
  simp only [e_so, this]
  have := PR.set (i := j) (q := .p t') (s := .p t') hr rfl
  rwa [List.set_set] at this⟩
section
variable {ε : Pat} {P : List D → Pat}
theorem lens_go {j : Nat} (L : Lens P j) {t : List D} {r : Env} (h : PR (P t) r) : getOpn r j = some t := go_op h (L.get t)
theorem callM_aux {j : Nat} (L : Lens P j) {c : Fn} {ds : Env → Res (List Arg)} {m : S (List D) (List D)} (h : EA ε P ds m) {ρ : Val → α → Prop} {F : List D → List D → R (α × List D)}
    (z : ∀ t xs, match F t xs with | .ok y => (∃ v, (c (.p t :: xs.map Slot.v) = (match v with | .v d => .ok d (.p y.2 :: uns xs) | .n es => .okn es (.p y.2 :: uns xs))) ∧ ρ v y.1) | _ => True) : EG ε P ρ (dCall c (aOpn j ds)) (S.callM F m) := .mk fun t r hr => by
  have hm := h.run t r hr
  unfold dCall aOpn
  rw [lens_go L hr]
  show RS ε P ρ _ ((m t).bind fun y => (F y.2 y.1).nb)
  cases e : m t with
  | bad => trivial
  | err x => rw [e] at hm; obtain ⟨r', h1, h2⟩ := hm; simp only [h1, Res.bind]; exact ⟨r', rfl, h2⟩
  | ok y =>
    rw [e] at hm; obtain ⟨as, r', h1, h2, h3⟩ := hm
    have h2 : as = _ := h2
    subst h2
    simp only [h1, Res.bind, R.bind]
    simp only [fm_s, ix_none, List.nodup_cons, List.not_mem_nil, not_false_eq_true, List.nodup_nil, and_self, if_true, as_s, lens_go L h3, args_v, Option.bind_some, Option.map_some]
    have zz := z y.2 y.1
    cases e2 : F y.2 y.1 with
    | bad => trivial
    | err x => trivial
    | ok w =>
      rw [e2] at zz
      obtain ⟨v, h4, h5⟩ := zz
      rw [h4]
      cases v with
      | v d => simp only [pb_sp, put_v]; exact ⟨_, _, rfl, h5, L.put _ _ _ h3⟩
      | n d => simp only [pb_sp, put_v]; exact ⟨_, _, rfl, h5, L.put _ _ _ h3⟩
theorem v_callM {j : Nat} (L : Lens P j) {c : Fn} {F : List D → List D → R (D × List D)} {ds : Env → Res (List Arg)} {m : S (List D) (List D)} (z : ZM c F) (h : EA ε P ds m) : EV ε P (dCall c (aOpn j ds)) (S.callM F m) := callM_aux L h fun t xs => by
  have := (z t xs).run
  cases e : F t xs with
  | ok y =>
    rw [e] at this
    rcases this with h | ⟨es, h1, h⟩
    · exact ⟨.v y.1, h, rfl⟩
    · exact ⟨.n es, h, h1⟩
  | _ => trivial
theorem n_callM {j : Nat} (L : Lens P j) {c : Fn} {F : List D → List D → R (List D × List D)} {ds : Env → Res (List Arg)} {m : S (List D) (List D)} (z : ZMN c F) (h : EA ε P ds m) : EN ε P (dCall c (aOpn j ds)) (S.callM F m) := callM_aux L h fun t xs => by
  have := (z t xs).run
  cases e : F t xs with
  | ok y => rw [e] at this; exact ⟨.n y.1, this, rfl⟩
  | _ => trivial
theorem v_mut {j : Nat} (L : Lens P j) {f : List D → List D → Option (D × List D)} {ds : Env → Res (List D)} {m : S (List D) (List D)} (h : EX ε P ds m) : EV ε P (dMut j f ds) (S.mut f m) := .mk fun t r hr => by
  have hm := h.run t r hr
  unfold dMut
  rw [lens_go L hr]
  show RS ε P VR _ ((m t).bind fun y => (match f y.2 y.1 with | some (z, zs) => .ok (z, zs) | none => .bad))
  cases e : m t with
  | bad => trivial
  | err x => rw [e] at hm; obtain ⟨r', h1, h2⟩ := hm; simp only [h1, Res.bind]; exact ⟨r', rfl, h2⟩
  | ok y =>
    rw [e] at hm; obtain ⟨as, r', h1, h2, h3⟩ := hm
    subst h2
    simp only [h1, Res.bind, R.bind, lens_go L h3]
    cases f y.2 y.1 with
    | none => trivial
    | some z => exact ⟨_, _, rfl, rfl, L.put _ _ _ h3⟩
end
/-! ## Targets -/
def tC {α β : Type} (ga : D → Option α) (gb : List D → Option β) : List D → Option (α × β)
  | x :: xs => (ga x).bind fun a => (gb xs).map fun b => (a, b)
  | [] => none
def t0 : List D → Option Unit
  | [] => some ()
  | _ :: _ => none
def tSq {β : Type} (n : Nat) (b : List D → Option β) : D → Option β := fun x => (itemsOf x).bind fun ds => if ds.length = n then b ds else none
def tTp {β : Type} (n : Nat) (b : List D → Option β) : D → Option β := fun x => match x with
  | .tup ds => if ds.length = n then b ds else none
  | _ => none
def TG {β : Type} (p : Pat) (g : D → Env → Option Env) (h : D → Option β) (Q : β → Pat) : Prop := ∀ x r, PR p r → match h x with
  | some s => ∃ r', g x r = some r' ∧ PR (Q s) r'
  | none => True
def TGs {β : Type} (p : Pat) (g : List D → Env → Option Env) (h : List D → Option β) (Q : β → Pat) : Prop := ∀ x r, PR p r → match h x with
  | some s => ∃ r', g x r = some r' ∧ PR (Q s) r'
  | none => True
/-- no list of the caller's -/
def npAt (p : Pat) (i : Nat) : Bool := match p[i]? with
  | some .an => false
  | some (.p _) => false
  | none => false
  | _ => true
theorem notP_of {p : Pat} {r : Env} {i : Nat} (h : PR p r) (k : npAt p i = true) : notP r i = true := by
  unfold npAt at k
  rw [e_np]
  cases e : p[i]? with
  | none => rw [e] at k; cases k
  | some q =>
    rw [e] at k
    obtain ⟨s, h1, h2⟩ := h.get e
    rw [h1]
    cases q with
    | an => cases k
    | p _ => cases k
    | un => exact h2
    | pl => rcases h2 with rfl | ⟨d, rfl⟩ <;> rfl
    | v d => rcases h2 with rfl | ⟨d, _, rfl⟩ <;> rfl
    | w d => cases h2; rfl
    | o d => cases h2; rfl
theorem tg_nm {p : Pat} {i : Nat} (k : npAt p i = true) : TG p (gNm i) some (fun x => p.set i (.w x)) := fun x r h => ⟨r.set i (.v x), by rw [e_gNm, notP_of h k]; rfl, h.set rfl⟩
theorem tg_0 {p : Pat} : TGs p gN0 t0 (fun _ => p) := fun xs r h => by
  cases xs with
  | nil => exact ⟨r, rfl, h⟩
  | cons _ _ => trivial
theorem tg_c {α β : Type} {p : Pat} {a : D → Env → Option Env} {b : List D → Env → Option Env} {ga : D → Option α} {gb : List D → Option β} {Q : α → Pat} {Q2 : α × β → Pat} (h1 : TG p a ga Q) (h2 : ∀ s, TGs (Q s) b gb (fun u => Q2 (s, u))) : TGs p (gC a b) (tC ga gb) Q2 := fun xs r h => by
  cases xs with
  | nil => trivial
  | cons x xs =>
    rw [show tC ga gb (x :: xs) = (ga x).bind fun a => (gb xs).map fun b => (a, b) from rfl]
    have z := h1 x r h
    cases e : ga x with
    | none => trivial
    | some s =>
      rw [e] at z
      obtain ⟨r1, z1, z2⟩ := z
      have y := h2 s xs r1 z2
      rw [Option.bind_some]
      cases e2 : gb xs with
      | none => trivial
      | some u =>
        rw [e2] at y
        obtain ⟨r2, y1, y2⟩ := y
        exact ⟨r2, by rw [e_gC, z1]; exact y1, y2⟩
theorem tg_sq {β : Type} {p : Pat} {n : Nat} {b : List D → Env → Option Env} {gb : List D → Option β} {Q : β → Pat} (h : TGs p b gb Q) : TG p (gSq n b) (tSq n gb) Q := fun x r hr => by
  unfold tSq
  rw [show gSq n b x r = _ from e_gSq]
  cases itemsOf x with
  | none => trivial
  | some ds =>
    simp only [Option.bind_some]
    by_cases hl : ds.length = n
    · simp only [hl, if_true]; exact h ds r hr
    · simp only [hl, if_false]
theorem tg_tp {β : Type} {p : Pat} {n : Nat} {b : List D → Env → Option Env} {gb : List D → Option β} {Q : β → Pat} (h : TGs p b gb Q) : TG p (gTp n b) (tTp n gb) Q := fun x r hr => by
  unfold tTp
  cases x with
  | tup ds =>
    simp only [e_gTp]
    by_cases hl : ds.length = n
    · simp only [hl, if_true]; exact h ds r hr
    · simp only [hl, if_false]
  | _ => trivial
/-! ## Comprehensions -/
def pick (p : Pat) (vs : List Nat) : List (Option Pt) := vs.map (p[·]?)
def plW (p : Pat) : List Nat → Pat
  | [] => p
  | v :: vs => (plW p vs).set v .pl
def plain1 : Option Pt → Bool
  | some .pl => true
  | some (.w _) => true
  | _ => false
def plainP (p : Pat) (vs : List Nat) : Bool := (pick p vs).all plain1
theorem plain_ok {p : Pat} {r : Env} (h : PR p r) : ∀ {vs : List Nat}, plainP p vs = true → plainAt r vs = true
  | [], _ => rfl
  | v :: vs, k => by
    simp only [plainP, pick, List.map_cons, List.all_cons, Bool.and_eq_true] at k
    rw [plainAt1, Bool.and_eq_true]
    refine ⟨?_, plain_ok h (by simpa [plainP, pick] using k.2)⟩
    cases e : p[v]? with
    | none => rw [e] at k; cases k.1
    | some q =>
      rw [e] at k
      obtain ⟨s, h1, h2⟩ := h.get e
      rw [h1]
      cases q with
      | pl => rcases h2 with rfl | ⟨d, rfl⟩ <;> rfl
      | w d => cases h2; rfl
      | _ => cases k.1
theorem wipe_ok {p : Pat} {r : Env} (h : PR p r) : ∀ {vs : List Nat}, PR (plW p vs) (wipeR r vs)
  | [] => h
  | v :: vs => by
    rw [wipeR1]
    exact (wipe_ok h (vs := vs)).set (.inl rfl)
theorem plW_get {p : Pat} : ∀ {vs : List Nat} {i : Nat}, i ∉ vs → (plW p vs)[i]? = p[i]?
  | [], i, _ => rfl
  | v :: vs, i, h => by
    unfold plW
    rw [List.getElem?_set_ne (fun z => h (by subst z; exact List.mem_cons_self)), plW_get fun z => h (List.mem_cons_of_mem _ z)]
theorem plW_in {p : Pat} : ∀ {vs : List Nat} {i : Nat}, i ∈ vs → i < p.length → (plW p vs)[i]? = some .pl
  | v :: vs, i, h, hl => by
    unfold plW
    have len : ∀ ws : List Nat, (plW p ws).length = p.length := fun ws => by
      induction ws with
      | nil => rfl
      | cons w ws ih => unfold plW; rw [List.length_set, ih]
    by_cases hv : v = i
    · subst hv; rw [List.getElem?_set_self (by rw [len]; exact hl)]
    · rw [List.getElem?_set_ne hv]
      rcases List.mem_cons.mp h with rfl | h
      · exact absurd rfl hv
      · exact plW_in h hl
theorem notPs_ok {p : Pat} {r : Env} (h : PR p r) : ∀ {vs : List Nat}, (∀ v ∈ vs, npAt p v = true) → notPs r vs = true
  | [], _ => rfl
  | v :: vs, k => by
    rw [notPs1, notP_of h (k v List.mem_cons_self), notPs_ok h fun v hv => k v (List.mem_cons_of_mem _ hv)]; rfl
/-- slot by slot -/
theorem PR.ext : ∀ {p : Pat} {r : Env}, r.length = p.length → (∀ (i : Nat) (q : Pt), p[i]? = some q → ∃ s, r[i]? = some s ∧ q.R s) → PR p r
  | [], [], _, _ => trivial
  | [], _ :: _, h, _ => by simp at h
  | _ :: _, [], h, _ => by simp at h
  | q :: p, s :: r, h, k => by
    refine ⟨?_, PR.ext (by simpa using h) fun i q e => ?_⟩
    · obtain ⟨s', h1, h2⟩ := k 0 q rfl
      simp at h1; subst h1; exact h2
    · obtain ⟨s', h1, h2⟩ := k (i + 1) q (by simpa using e)
      exact ⟨s', by simpa using h1, h2⟩
theorem put_len {r1 : Env} : ∀ {vs : List Nat} {r : Env}, (putSlots r1 vs r).length = r.length
  | [], r => rfl
  | v :: vs, r => by
    rw [putS1]
    cases r1[v]? with
    | none => exact put_len
    | some s => rw [put_len, List.length_set]
theorem put_get {r1 : Env} : ∀ {vs : List Nat} {r : Env} {i : Nat}, r.length = r1.length → (putSlots r1 vs r)[i]? = if i ∈ vs then r1[i]? else r[i]?
  | [], r, i, h => by simp
  | v :: vs, r, i, h => by
    rw [putS1]
    cases e0 : r1[v]? with
    | some s =>
      have hv : v < r1.length := by
        rcases Nat.lt_or_ge v r1.length with z | z
        · exact z
        · rw [List.getElem?_eq_none z] at e0; cases e0
      show (putSlots r1 vs (r.set v s))[i]? = _
      rw [put_get (by rw [List.length_set]; exact h)]
      by_cases hi : i ∈ vs
      · simp [hi]
      · simp only [hi, if_false, List.mem_cons, or_false]
        by_cases e : i = v
        · subst e
          rw [if_pos rfl, List.getElem?_set_self (by omega), e0]
        · rw [if_neg e, List.getElem?_set_ne (Ne.symm e)]
    | none =>
      have hv : r1.length ≤ v := by
        rcases Nat.lt_or_ge v r1.length with z | z
        · rw [List.getElem?_eq_getElem z] at e0; cases e0
        · exact z
      show (putSlots r1 vs r)[i]? = _
      rw [put_get h]
      by_cases hi : i ∈ vs
      · simp [hi]
      · simp only [hi, if_false, List.mem_cons, or_false]
        by_cases e : i = v
        · subst e
          rw [if_pos rfl, List.getElem?_eq_none (by omega), List.getElem?_eq_none (by omega)]
        · rw [if_neg e]
theorem put_ok {p p1 : Pat} {r1 r2 : Env} {vs : List Nat} (h1 : PR p1 r1) (h2 : PR (plW p vs) r2) (hp : pick p1 vs = pick p vs) (hl : p1.length = p.length) : PR p (putSlots r1 vs r2) := by
  have len : ∀ ws : List Nat, (plW p ws).length = p.length := fun ws => by
    induction ws with
    | nil => rfl
    | cons w ws ih => unfold plW; rw [List.length_set, ih]
  have l2 : r2.length = p.length := by rw [h2.len, len]
  refine PR.ext (by rw [put_len, l2]) fun i q e => ?_
  rw [put_get (by rw [l2, h1.len, hl])]
  by_cases hi : i ∈ vs
  · rw [if_pos hi]
    have : p1[i]? = p[i]? := by
      have : ∀ ws : List Nat, i ∈ ws → pick p1 ws = pick p ws → p1[i]? = p[i]? := fun ws hw e => by
        induction ws with
        | nil => cases hw
        | cons w ws ih =>
          simp only [pick, List.map_cons, List.cons.injEq] at e
          rcases List.mem_cons.mp hw with rfl | hw
          · exact e.1
          · exact ih hw e.2
      exact this vs hi hp
    exact h1.get (this.trans e)
  · rw [if_neg hi]
    exact h2.get ((plW_get hi).trans e)
section
variable {τ β : Type} {ε : Pat} {P : τ → Pat}
theorem RS.nb {α : Type} {ρ : α → β → Prop} {P : τ → Pat} {x : Res α} {m : S τ β} {t : τ} (h : RS ε P ρ x (m t)) : match S.nb m t with
  | .ok y => ∃ a r', x = .ok a r' ∧ ρ a y.1 ∧ PR (P y.2) r'
  | _ => True := by
  unfold S.nb
  cases e : m t with
  | ok y => rw [e] at h; exact h
  | _ => trivial
theorem lcL_ok {g : D → Env → Option Env} {gh : D → Option β} {t : Env → Res Bool} {th : β → S τ Bool} {e : Env → Res D} {eh : β → S τ D} {vs : List Nat} {PI : τ → Pat} {Q : τ → β → Pat}
    (hg : ∀ u, TG (PI u) g gh (Q u)) (ht : ∀ z, EX ε (fun u => Q u z) t (th z)) (he : ∀ z, EX ε (fun u => Q u z) e (eh z)) (hn : ∀ u z, ∀ v ∈ vs, npAt (Q u z) v = true) (hw : ∀ u z, LE (plW (Q u z) vs) (PI u)) :
    ∀ (xs : List D) (acc : List D) (u : τ) (r : Env), PR (PI u) r → match lcS gh th eh xs u with
      | .ok y => acc.length + y.1.length ≤ 16777216 → ∃ r', dLcL g t e vs xs r acc = .ok (acc ++ y.1) r' ∧ PR (PI y.2) r'
      | .err _ => False
      | .bad => True
  | [], acc, u, r, h => fun _ => ⟨r, by simp [dLcL, S.ok], h⟩
  | x :: xs, acc, u, r, h => by
    have h1 := hg u x r h
    unfold lcS S.bind S.of
    cases e1 : gh x with
    | none => trivial
    | some z =>
      rw [e1] at h1
      obtain ⟨r1, k1, k2⟩ := h1
      simp only [S.ok, R.bind]
      have h2 := RS.nb ((ht z).run u r1 k2)
      cases e2 : S.nb (th z) u with
      | bad => trivial
      | err y => unfold S.nb at e2; cases e3 : th z u <;> rw [e3] at e2 <;> cases e2
      | ok y =>
        rw [e2] at h2
        obtain ⟨b, r2, k3, k4, k5⟩ := h2
        subst k4
        obtain ⟨b, u2⟩ := y
        simp only at k5 ⊢
        cases b with
        | false =>
          simp only [Bool.false_eq_true, if_false]
          have ih := lcL_ok hg ht he hn hw xs acc u2 (wipeR r2 vs) (hw u2 z _ (wipe_ok k5))
          cases e4 : lcS gh th eh xs u2 with
          | bad => trivial
          | err _ => rw [e4] at ih; exact ih
          | ok w =>
            rw [e4] at ih
            intro hl
            obtain ⟨r', j1, j2⟩ := ih hl
            refine ⟨r', ?_, j2⟩
            unfold dLcL
            simp only [k1, k3, Bool.false_eq_true, if_false, notPs_ok k5 (hn u2 z), if_true]
            exact j1
        | true =>
          simp only [if_true]
          have h3 := RS.nb ((he z).run u2 r2 k5)
          cases e3 : S.nb (eh z) u2 with
          | bad => trivial
          | err y => unfold S.nb at e3; cases e4 : eh z u2 <;> rw [e4] at e3 <;> cases e3
          | ok y =>
            rw [e3] at h3
            obtain ⟨d, r3, k6, k7, k8⟩ := h3
            subst k7
            obtain ⟨d, u3⟩ := y
            simp only at k8 ⊢
            have ih := lcL_ok hg ht he hn hw xs (acc ++ [d]) u3 (wipeR r3 vs) (hw u3 z _ (wipe_ok k8))
            cases e4 : lcS gh th eh xs u3 with
            | bad => trivial
            | err _ => rw [e4] at ih; exact ih
            | ok w =>
              rw [e4] at ih
              intro hl
              simp only [List.length_cons] at hl
              obtain ⟨r', j1, j2⟩ := ih (by simp; omega)
              refine ⟨r', ?_, j2⟩
              have : acc.length < 16777216 := by omega
              unfold dLcL
              simp only [k1, k3, if_true, k6, this, decide_true, Bool.true_and, notPs_ok k8 (hn u3 z)]
              rw [j1]; simp
theorem n_lc {di : Env → Res (List D)} {mi : S τ (List D)} {g : D → Env → Option Env} {gh : D → Option β} {t : Env → Res Bool} {th : β → S τ Bool} {e : Env → Res D} {eh : β → S τ D} {vs : List Nat} {Q : τ → β → Pat}
    (hi : EX ε P di mi) (hp : ∀ u, plainP (P u) vs = true) (hk : ∀ u u', pick (P u) vs = pick (P u') vs) (hl : ∀ u u', (P u).length = (P u').length) (hg : ∀ u, TG (plW (P u) vs) g gh (Q u)) (ht : ∀ z, EX ε (fun u => Q u z) t (th z)) (he : ∀ z, EX ε (fun u => Q u z) e (eh z)) (hn : ∀ u z, ∀ v ∈ vs, npAt (Q u z) v = true) (hw : ∀ u z, LE (plW (Q u z) vs) (plW (P u) vs)) :
    EN ε P (dLc di g t e vs) (S.lc mi gh th eh) := EX.bind hi fun xs => .mk fun u r h => by
  simp only [plain_ok h (hp u), if_true]
  have := lcL_ok (PI := fun u => plW (P u) vs) hg ht he hn hw xs [] u (wipeR r vs) (wipe_ok h)
  unfold S.bind
  cases e1 : lcS gh th eh xs u with
  | bad => trivial
  | err _ => rw [e1] at this; exact this.elim
  | ok y =>
    rw [e1] at this
    simp only [R.bind]
    by_cases h16 : y.1.length ≤ 16777216
    · obtain ⟨r', j1, j2⟩ := this (by simpa using h16)
      rw [j1]
      simp only [h16, if_true, List.nil_append]
      exact ⟨_, _, rfl, rfl, put_ok h j2 (hk u y.2) (hl u y.2)⟩
    · simp only [h16, if_false]; trivial
end
end Py.Fu
end

section
set_option maxHeartbeats 400000
namespace Py.Fu
open PySem L2
/-! ## Statements -/
inductive O (ρ κ β : Type) where
  | nx (b : β) | rt (x : ρ) | bk (k : κ) | ct (k : κ) | err (e : D) | bad
section
variable {ρ κ σ τ α β γ : Type}
def O.seq (h : O ρ κ β) (k : β → O ρ κ γ) : O ρ κ γ := match h with
  | .nx b => k b
  | .rt x => .rt x
  | .bk k => .bk k
  | .ct k => .ct k
  | .err e => .err e
  | .bad => .bad
def O.ofS (m : S τ α) (t : τ) : O ρ κ (α × τ) := match m t with
  | .ok y => .nx y
  | .err e => .err e
  | .bad => .bad
def O.ofP (m : S Unit α) : O ρ κ α := match m () with
  | .ok y => .nx y.1
  | .err e => .err e
  | .bad => .bad
def O.ofO (o : Option α) : O ρ κ α := match o with
  | some a => .nx a
  | none => .bad
def retS (f : α × τ → ρ) (m : S τ α) (t : τ) : O ρ κ β := (O.ofS m t).seq fun y => .rt (f y)
def retP (f : α → ρ) (m : S Unit α) : O ρ κ β := (O.ofP m).seq fun y => .rt (f y)
def iteS (m : S τ Bool) (t : τ) (a b : τ → O ρ κ β) : O ρ κ β := (O.ofS m t).seq fun y => if y.1 = true then a y.2 else b y.2
def iteP (m : S Unit Bool) (a b : O ρ κ β) : O ρ κ β := (O.ofP m).seq fun y => if y = true then a else b
def mutP (f : List D → List D → Option (D × List D)) (ds : List D) (m : S Unit (List D)) : O ρ κ (D × List D) := (O.ofP m).seq fun xs => O.ofO (f ds xs)
def mutS (f : List D → List D → Option (D × List D)) (ds : List D) (m : S τ (List D)) (t : τ) : O ρ κ ((D × List D) × τ) := (O.ofS m t).seq fun y => (O.ofO (f ds y.1)).seq fun z => .nx (z, y.2)
def setIx (ds : List D) (mi m : S Unit D) : O ρ κ (List D) := (O.ofP m).seq fun x => (O.ofP mi).seq fun k => match k with
  | .int k => (match ixN ds.length k with
    | some n => .nx (ds.set n x)
    | none => .bad)
  | _ => .bad
def loop (f : σ → D → O ρ σ σ) : List D → σ → O ρ κ σ
  | [], s => .nx s
  | x :: xs, s => match f s x with
    | .nx s => loop f xs s
    | .ct s => loop f xs s
    | .bk s => .nx s
    | .rt x => .rt x
    | .err e => .err e
    | .bad => .bad
def whil (m : σ → S Unit Bool) (f : σ → O ρ σ σ) : Nat → σ → O ρ κ σ
  | 0, _ => .bad
  | n + 1, s => (O.ofP (m s)).seq fun c => if c = true then (match f s with
    | .nx s => whil m f n s
    | .ct s => whil m f n s
    | .bk s => .nx s
    | .rt x => .rt x
    | .err e => .err e
    | .bad => .bad) else .nx s
def tryO (h : O ρ κ β) (k : D → O ρ κ β) : O ρ κ β := match h with
  | .err e => k e
  | .nx b => .nx b
  | .rt x => .rt x
  | .bk k => .bk k
  | .ct k => .ct k
  | .bad => .bad
def noE (h : O ρ κ β) : O ρ κ β := match h with
  | .nx b => .nx b
  | .rt x => .rt x
  | _ => .bad
def hdO (T : Tbl) (m : Str) (e : D) (a b : O ρ κ β) : O ρ κ β := match exMatch T e m with
  | some true => noE a
  | some false => b
  | none => .bad
def raiseO (n f : Str) (m : S Unit D) : O ρ κ β := (O.ofP m).seq fun x => .err (.exc n f x)
/-- what a def is run for -/
structure Cx (ρ κ : Type) where
  ε : Pat
  rel : Val → ρ → Prop
  P : ρ → Pat
  L : κ → Pat
def retV (v : Val) (r : Env) : SRes := match v with
  | .v d => .rt d r
  | .n ds => .rn ds r
def SO (c : Cx ρ κ) (Q : β → Pat) (m : SRes) (h : O ρ κ β) : Prop := match h with
  | .nx s => ∃ r', m = .nx r' ∧ PR (Q s) r'
  | .rt x => ∃ v r', m = retV v r' ∧ c.rel v x ∧ PR (c.P x) r'
  | .bk k => ∃ r', m = .bk r' ∧ PR (c.L k) r'
  | .ct k => ∃ r', m = .ct r' ∧ PR (c.L k) r'
  | .err e => ∃ r', m = .err e r' ∧ PR c.ε r'
  | .bad => True
structure ST (c : Cx ρ κ) (p : Pat) (b : Env → SRes) (h : O ρ κ β) (Q : β → Pat) : Prop where
  run : ∀ r, PR p r → SO c Q (b r) h
variable {c : Cx ρ κ} {p q : Pat} {P : τ → Pat} {Q : β → Pat} {Q2 : γ → Pat}
theorem SO.seq {m : SRes} {h : O ρ κ β} {k : Env → SRes} {l : β → O ρ κ γ} (a : SO c Q m h) (b : ∀ s r, PR (Q s) r → SO c Q2 (k r) (l s)) : SO c Q2 (m.seq k) (h.seq l) := by
  cases h with
  | nx s => obtain ⟨r', rfl, h⟩ := a; exact b s r' h
  | rt x => obtain ⟨v, r', rfl, h⟩ := a; exact ⟨v, r', by cases v <;> rfl, h⟩
  | bk x => obtain ⟨r', rfl, h⟩ := a; exact ⟨r', rfl, h⟩
  | ct x => obtain ⟨r', rfl, h⟩ := a; exact ⟨r', rfl, h⟩
  | err x => obtain ⟨r', rfl, h⟩ := a; exact ⟨r', rfl, h⟩
  | bad => trivial
theorem st_seq {a b : Env → SRes} {h : O ρ κ β} {k : β → O ρ κ γ} (ha : ST c p a h Q) (hb : ∀ s, ST c (Q s) b (k s) Q2) : ST c p (dSeq a b) (h.seq k) Q2 := .mk fun r z => SO.seq (ha.run r z) fun s r z => (hb s).run r z
theorem st_end {b : Env → SRes} {h : O ρ κ β} {f : β → γ} (hb : ST c p b h Q) (l : ∀ s, LE (Q s) (Q2 (f s))) : ST c p b (h.seq fun s => .nx (f s)) Q2 := .mk fun r z => by
  have := hb.run r z
  cases h with
  | nx s => obtain ⟨r', e, h⟩ := this; exact ⟨r', e, l s r' h⟩
  | rt x => exact this
  | bk x => exact this
  | ct x => exact this
  | err x => exact this
  | bad => trivial
theorem st_wk {b : Env → SRes} {h : O ρ κ β} (l : LE p q) (hb : ST c q b h Q) : ST c p b h Q := .mk fun r z => hb.run r (l r z)
theorem st_next {s : β} (l : LE p (Q s)) : ST c p dNext (.nx s) Q := .mk fun r z => ⟨r, rfl, l r z⟩
theorem st_brk {k : κ} (l : LE p (c.L k)) : ST c p dBreak (.bk k) Q := .mk fun r z => ⟨r, rfl, l r z⟩
theorem st_cont {k : κ} (l : LE p (c.L k)) : ST c p dCont (.ct k) Q := .mk fun r z => ⟨r, rfl, l r z⟩
/-- an expression ahead -/
theorem toS_ok {α' : Type} {R' : α → α' → Prop} {d : Env → Res α} {m : S τ α'} {k : α → Env → SRes} {l : α' × τ → O ρ κ γ} {t : τ} (h : EG c.ε P R' d m) (hk : ∀ a y r, R' a y.1 → PR (P y.2) r → SO c Q2 (k a r) (l y)) (r : Env) (z : PR (P t) r) : SO c Q2 ((d r).toS k) ((O.ofS m t).seq l) := by
  have := h.run t r z
  unfold O.ofS
  cases e : m t with
  | ok y => rw [e] at this; obtain ⟨a, r', h1, h2, h3⟩ := this; rw [h1]; exact hk a y r' h2 h3
  | err x => rw [e] at this; obtain ⟨r', h1, h2⟩ := this; rw [h1]; exact ⟨r', rfl, h2⟩
  | bad => trivial
theorem toP_ok {α' : Type} {R' : α → α' → Prop} {d : Env → Res α} {m : S Unit α'} {k : α → Env → SRes} {l : α' → O ρ κ γ} (h : EG c.ε (fun _ => p) R' d m) (hk : ∀ a y r, R' a y → PR p r → SO c Q2 (k a r) (l y)) (r : Env) (z : PR p r) : SO c Q2 ((d r).toS k) ((O.ofP m).seq l) := by
  have := h.run () r z
  unfold O.ofP
  cases e : m () with
  | ok y => rw [e] at this; obtain ⟨a, r', h1, h2, h3⟩ := this; rw [h1]; exact hk a y.1 r' h2 h3
  | err x => rw [e] at this; obtain ⟨r', h1, h2⟩ := this; rw [h1]; exact ⟨r', rfl, h2⟩
  | bad => trivial
theorem ofS_nx {m : S τ α} {t : τ} : (O.ofS m t : O ρ κ (α × τ)) = (O.ofS m t).seq fun y => .nx y := by
  unfold O.ofS
  cases m t <;> rfl
theorem ofP_nx {m : S Unit α} : (O.ofP m : O ρ κ α) = (O.ofP m).seq fun y => .nx y := by
  unfold O.ofP
  cases m () <;> rfl
/-! x = e -/
theorem st_setP {i : Nat} {d : Env → Res Val} {m : S Unit D} (h : EV c.ε (fun _ => p) d m) (k : npAt p i = true) : ST c p (dSet i d) (O.ofP m) (fun x => p.set i (.v x)) := by
  rw [ofP_nx]
  exact .mk <| toP_ok h fun v y r e z => by
    rw [notP_of z k, if_pos rfl]
    refine ⟨_, rfl, z.set ?_⟩
    cases v with
    | v d => exact .inl (by rw [show d = y from e])
    | n ds => exact .inr ⟨ds, e, rfl⟩
theorem st_setW {i : Nat} {d : Env → Res D} {m : S Unit D} (h : EX c.ε (fun _ => p) d m) (k : npAt p i = true) : ST c p (dSet i (dVal d)) (O.ofP m) (fun x => p.set i (.w x)) := by
  rw [ofP_nx]
  exact .mk <| toP_ok (R' := fun v y => v = Val.v y) (d := dVal d) (.mk fun t r z => by
    have := h.run t r z
    unfold dVal
    cases e : m t with
    | ok y => rw [e] at this; obtain ⟨a, r', h1, h2, h3⟩ := this; subst h2; exact ⟨.v _, r', by rw [h1]; rfl, rfl, h3⟩
    | err y => rw [e] at this; obtain ⟨r', h1, h2⟩ := this; exact ⟨r', by rw [h1]; rfl, h2⟩
    | bad => trivial) fun v y r e z => by
    rw [notP_of z k, if_pos rfl]
    subst e
    exact ⟨_, rfl, z.set rfl⟩
theorem st_setN {i : Nat} {d : Env → Res Val} {m : S Unit (List D)} (h : EN c.ε (fun _ => p) d m) (k : npAt p i = true) : ST c p (dSet i d) (O.ofP m) (fun x => p.set i (.o x)) := by
  rw [ofP_nx]
  exact .mk <| toP_ok h fun v y r e z => by
    rw [notP_of z k, if_pos rfl]
    cases e
    exact ⟨_, rfl, z.set rfl⟩
theorem st_setS {i : Nat} {d : Env → Res Val} {m : S τ D} {t : τ} (h : EV c.ε P d m) (k : ∀ t, npAt (P t) i = true) : ST c (P t) (dSet i d) (O.ofS m t) (fun y => (P y.2).set i (.v y.1)) := by
  rw [ofS_nx]
  exact .mk <| toS_ok h fun v y r e z => by
    rw [notP_of z (k _), if_pos rfl]
    refine ⟨_, rfl, z.set ?_⟩
    cases v with
    | v d => exact .inl (by rw [show d = y.1 from e])
    | n ds => exact .inr ⟨ds, e, rfl⟩
theorem st_setSN {i : Nat} {d : Env → Res Val} {m : S τ (List D)} {t : τ} (h : EN c.ε P d m) (k : ∀ t, npAt (P t) i = true) : ST c (P t) (dSet i d) (O.ofS m t) (fun y => (P y.2).set i (.o y.1)) := by
  rw [ofS_nx]
  exact .mk <| toS_ok h fun v y r e z => by
    rw [notP_of z (k _), if_pos rfl]
    cases e
    exact ⟨_, rfl, z.set rfl⟩
/-- x = y, y's list moves -/
theorem st_moveO {i j : Nat} {ds : List D} (e : p[j]? = some (.o ds)) (hij : i ≠ j) (k : npAt p i = true) : ST c p (dSet i (dMove j)) (.nx ds) (fun x => (p.set j .un).set i (.o x)) := .mk fun r z => by
  have := go_o z e
  simp only [e_dSet, e_dMove, this, Res.toS]
  have z2 := z.set (i := j) (q := .un) (s := .un) rfl
  have k2 : npAt (p.set j .un) i = true := by unfold npAt at k ⊢; rw [List.getElem?_set_ne (Ne.symm hij)]; exact k
  rw [notP_of z2 k2, if_pos rfl]
  exact ⟨_, rfl, z2.set rfl⟩
theorem st_moveV {i j : Nat} {x : D} (e : p[j]? = some (.v x)) (hij : i ≠ j) (k : npAt p i = true) : ST c p (dSet i (dMove j)) (.nx x) (fun x => (p.set j .un).set i (.v x)) := .mk fun r z => by
  obtain ⟨s, h1, h2⟩ := z.get e
  rcases h2 with rfl | ⟨ds, rfl, rfl⟩
  · simp only [e_dSet, e_dMove, h1, Res.toS]
    have z2 : PR (p.set j .un) r := by
      have := z.set (i := j) (q := .un) (s := .v x) rfl
      rwa [show r.set j (.v x) = r from by
        apply List.ext_getElem?
        intro n
        by_cases hn : j = n
        · subst hn
          rw [List.getElem?_set_self (by rcases Nat.lt_or_ge j r.length with z | z; exact z; rw [List.getElem?_eq_none z] at h1; cases h1), h1]
        · rw [List.getElem?_set_ne hn]] at this
    have k2 : npAt (p.set j .un) i = true := by unfold npAt at k ⊢; rw [List.getElem?_set_ne (Ne.symm hij)]; exact k
    rw [notP_of z2 k2, if_pos rfl]
    exact ⟨_, rfl, z2.set (.inl rfl)⟩
  · simp only [e_dSet, e_dMove, h1, Res.toS]
    have z2 := z.set (i := j) (q := .un) (s := .un) rfl
    have k2 : npAt (p.set j .un) i = true := by unfold npAt at k ⊢; rw [List.getElem?_set_ne (Ne.symm hij)]; exact k
    rw [notP_of z2 k2, if_pos rfl]
    exact ⟨_, rfl, z2.set (.inr ⟨ds, rfl, rfl⟩)⟩
/-! return -/
theorem retV_eq {v : Val} {r : Env} : (match v with | .v d => SRes.rt d r | .n ds => SRes.rn ds r) = retV v r := by cases v <;> rfl
theorem st_retP {α' : Type} {R' : Val → α' → Prop} {d : Env → Res Val} {m : S Unit α'} {f : α' → ρ} (h : EG c.ε (fun _ => p) R' d m) (k : ∀ v x, R' v x → c.rel v (f x)) (l : ∀ x, LE p (c.P (f x))) : ST c p (dRet d) (retP f m) Q := .mk fun r z =>
  toP_ok h (fun v y r e z => by have k1 := k v y e; cases v <;> exact ⟨_, r, rfl, k1, l y r z⟩) r z
theorem st_retS {α' : Type} {R' : Val → α' → Prop} {d : Env → Res Val} {m : S τ α'} {t : τ} {f : α' × τ → ρ} (h : EG c.ε P R' d m) (k : ∀ v x t, R' v x → c.rel v (f (x, t))) (l : ∀ x t, LE (P t) (c.P (f (x, t)))) : ST c (P t) (dRet d) (retS f m t) Q := .mk fun r z =>
  toS_ok h (fun v y r e z => by have k1 := k v y.1 y.2 e; cases v <;> exact ⟨_, r, rfl, k1, l y.1 y.2 r z⟩) r z
theorem st_retM {j : Nat} {ds : List D} {x : ρ} (e : p[j]? = some (.o ds)) (k : c.rel (.n ds) x) (l : LE (p.set j .un) (c.P x)) : ST c p (dRet (dMove j)) (.rt x) Q := .mk fun r z => by
  have := go_o z e
  simp only [e_dRet, e_dMove, this, Res.toS]
  exact ⟨.n ds, _, rfl, k, l _ (z.set rfl)⟩
theorem st_retMV {j : Nat} {d : D} {x : ρ} (e : p[j]? = some (.v d)) (k : ∀ v, VR v d → c.rel v x) (l : LE (p.set j .un) (c.P x)) : ST c p (dRet (dMove j)) (.rt x) Q := .mk fun r z => by
  obtain ⟨s, h1, h2⟩ := z.get e
  rcases h2 with rfl | ⟨ds, rfl, rfl⟩
  · simp only [e_dRet, e_dMove, h1, Res.toS]
    have z2 : PR (p.set j .un) r := by
      have := z.set (i := j) (q := .un) (s := .v d) rfl
      rwa [show r.set j (.v d) = r from by
        apply List.ext_getElem?
        intro n
        by_cases hn : j = n
        · subst hn
          rw [List.getElem?_set_self (by rcases Nat.lt_or_ge j r.length with z | z; exact z; rw [List.getElem?_eq_none z] at h1; cases h1), h1]
        · rw [List.getElem?_set_ne hn]] at this
    exact ⟨.v d, _, rfl, k _ rfl, l _ z2⟩
  · simp only [e_dRet, e_dMove, h1, Res.toS]
    exact ⟨.n ds, _, rfl, k _ rfl, l _ (z.set rfl)⟩
theorem st_retN {x : ρ} (k : c.rel (.v .non) x) (l : LE p (c.P x)) : ST c p dRetN (.rt x) Q := .mk fun r z => ⟨.v .non, r, rfl, k, l r z⟩
/-! if -/
theorem st_ifP {t : Env → Res Bool} {a b : Env → SRes} {m : S Unit Bool} {ha hb : O ρ κ β} (h : EX c.ε (fun _ => p) t m) (h1 : ST c p a ha Q) (h2 : ST c p b hb Q) : ST c p (dIf t a b) (iteP m ha hb) Q := .mk fun r z =>
  toP_ok h (fun v y r e z => by
    subst e
    cases v with
    | true => exact h1.run r z
    | false => exact h2.run r z) r z
theorem st_ifS {t : Env → Res Bool} {a b : Env → SRes} {m : S τ Bool} {u : τ} {ha hb : τ → O ρ κ β} (h : EX c.ε P t m) (h1 : ∀ u, ST c (P u) a (ha u) Q) (h2 : ∀ u, ST c (P u) b (hb u) Q) : ST c (P u) (dIf t a b) (iteS m u ha hb) Q := .mk fun r z =>
  toS_ok h (fun v y r e z => by
    obtain ⟨y1, y2⟩ := y
    have e : v = y1 := e
    subst e
    cases v with
    | true => exact (h1 y2).run r z
    | false => exact (h2 y2).run r z) r z
/-! an expression for what it does -/
theorem st_dropP {α' : Type} {R' : Val → α' → Prop} {d : Env → Res Val} {m : S Unit α'} (h : EG c.ε (fun _ => p) R' d m) : ST c p (dDrop d) (O.ofP m) (fun _ => p) := by
  rw [ofP_nx]
  exact .mk <| toP_ok h fun v y r e z => ⟨r, rfl, z⟩
theorem st_dropS {α' : Type} {R' : Val → α' → Prop} {d : Env → Res Val} {m : S τ α'} {t : τ} (h : EG c.ε P R' d m) : ST c (P t) (dDrop d) (O.ofS m t) (fun y => P y.2) := by
  rw [ofS_nx]
  exact .mk <| toS_ok h fun v y r e z => ⟨r, rfl, z⟩
theorem put_p {p : Pat} {r : Env} {j : Nat} {ds : List D} (z : PR p r) (e : p[j]? = some (.o ds)) (es : List D) : PR (p.set j (.o es)) (setOpn r j es) := by
  have := go_o z e
  simp only [e_so, this]
  exact z.set rfl
theorem put_pp {p : Pat} {r : Env} {j : Nat} {ds : List D} (z : PR p r) (e : p[j]? = some (.p ds)) (es : List D) : PR (p.set j (.p es)) (setOpn r j es) := by
  have := go_p z e
  simp only [e_so, this]
  exact z.set rfl
theorem mutE {f : List D → List D → Option (D × List D)} {ds : List D} {j : Nat} {args : Env → Res (List D)} {m : S Unit (List D)} {Q : D × List D → Pat} {k : Val → Env → SRes} {l : D × List D → O ρ κ γ} (e : ∀ r, PR p r → getOpn r j = some ds) (hq : ∀ z r, PR p r → PR (Q z) (setOpn r j z.2)) (h : EX c.ε (fun _ => p) args m)
    (hk : ∀ z r, PR (Q z) r → SO c Q2 (k (.v z.1) r) (l z)) (r : Env) (z : PR p r) : SO c Q2 ((dMut j f args r).toS k) ((mutP f ds m).seq l) := by
  have hm := h.run () r z
  unfold dMut mutP O.ofP
  rw [e r z]
  cases e1 : m () with
  | bad => trivial
  | err x => rw [e1] at hm; obtain ⟨r', h1, h2⟩ := hm; simp only [h1, Res.bind]; exact ⟨r', rfl, h2⟩
  | ok y =>
    rw [e1] at hm
    obtain ⟨xs, r', h1, h2, h3⟩ := hm
    subst h2
    simp only [h1, Res.bind, O.seq, e r' h3]
    have := fun w => hq w r' h3
    cases e2 : f ds y.1 with
    | none => trivial
    | some w => exact hk w _ (this w)
theorem st_mut {f : List D → List D → Option (D × List D)} {ds : List D} {j : Nat} {args : Env → Res (List D)} {m : S Unit (List D)} (e : p[j]? = some (.o ds)) (h : EX c.ε (fun _ => p) args m) : ST c p (dDrop (dMut j f args)) (mutP f ds m) (fun z => p.set j (.o z.2)) := .mk fun r z => by
  have := mutE (c := c) (Q2 := fun z : D × List D => p.set j (.o z.2)) (Q := fun z => p.set j (.o z.2)) (k := fun _ r => .nx r) (l := fun z => .nx z) (f := f) (fun r z => go_op z (.inl e)) (fun w r z => put_p z e w.2) h (fun w r z => ⟨r, rfl, z⟩) r z
  unfold dDrop
  cases e2 : (mutP f ds m : O ρ κ _) <;> rw [e2] at this <;> exact this
theorem st_mutQ {f : List D → List D → Option (D × List D)} {ds : List D} {j : Nat} {args : Env → Res (List D)} {m : S Unit (List D)} (e : p[j]? = some (.p ds)) (h : EX c.ε (fun _ => p) args m) : ST c p (dDrop (dMut j f args)) (mutP f ds m) (fun z => p.set j (.p z.2)) := .mk fun r z => by
  have := mutE (c := c) (Q2 := fun z : D × List D => p.set j (.p z.2)) (Q := fun z => p.set j (.p z.2)) (k := fun _ r => .nx r) (l := fun z => .nx z) (f := f) (fun r z => go_op z (.inr e)) (fun w r z => put_pp z e w.2) h (fun w r z => ⟨r, rfl, z⟩) r z
  unfold dDrop
  cases e2 : (mutP f ds m : O ρ κ _) <;> rw [e2] at this <;> exact this
theorem npAt_set {p : Pat} {i j : Nat} {q : Pt} (h : npAt p i = true) (hij : i ≠ j) : npAt (p.set j q) i = true := by unfold npAt at h ⊢; rw [List.getElem?_set_ne (Ne.symm hij)]; exact h
/-- x = y.pop() -/
theorem st_setMut {i : Nat} {f : List D → List D → Option (D × List D)} {ds : List D} {j : Nat} {args : Env → Res (List D)} {m : S Unit (List D)} (e : p[j]? = some (.o ds)) (h : EX c.ε (fun _ => p) args m) (hij : i ≠ j) (k : npAt p i = true) : ST c p (dSet i (dMut j f args)) (mutP f ds m) (fun z => (p.set j (.o z.2)).set i (.w z.1)) := .mk fun r z => by
  have := mutE (c := c) (Q2 := fun z : D × List D => (p.set j (.o z.2)).set i (.w z.1)) (Q := fun z => p.set j (.o z.2)) (k := fun x r => if notP r i = true then .nx (r.set i (match x with | .v d => .v d | .n ds => .o ds)) else .bad) (l := fun z => .nx z) (f := f) (fun r z => go_op z (.inl e)) (fun w r z => put_p z e w.2) h (fun w r z => by
    rw [notP_of z (npAt_set k hij), if_pos rfl]
    exact ⟨_, rfl, z.set rfl⟩) r z
  unfold dSet
  cases e2 : (mutP f ds m : O ρ κ _) <;> rw [e2] at this <;> exact this
theorem st_mutS {P : τ → Pat} {f : List D → List D → Option (D × List D)} {ds : List D} {j : Nat} {args : Env → Res (List D)} {m : S τ (List D)} {t : τ} (e : ∀ t, (P t)[j]? = some (.o ds)) (h : EX c.ε P args m) : ST c (P t) (dDrop (dMut j f args)) (mutS f ds m t) (fun z => (P z.2).set j (.o z.1.2)) := .mk fun r z => by
  have hm := h.run t r z
  unfold dDrop dMut mutS O.ofS
  rw [go_op z (.inl (e t))]
  cases e1 : m t with
  | bad => trivial
  | err x => rw [e1] at hm; obtain ⟨r', h1, h2⟩ := hm; simp only [h1, Res.bind]; exact ⟨r', rfl, h2⟩
  | ok y =>
    rw [e1] at hm
    obtain ⟨xs, r', h1, h2, h3⟩ := hm
    subst h2
    simp only [h1, Res.bind, O.seq, go_op h3 (.inl (e y.2))]
    cases e2 : f ds y.1 with
    | none => trivial
    | some w => exact ⟨_, rfl, put_p h3 (e y.2) w.2⟩
/-! a, b = e -/
theorem st_asg {g : D → Env → Option Env} {gh : D → Option β} {d : Env → Res D} {m : S Unit D} (h : EX c.ε (fun _ => p) d m) (hg : TG p g gh Q) : ST c p (dAsg d g) ((O.ofP m).seq fun x => O.ofO (gh x)) Q := .mk <| toP_ok h fun v y r e z => by
  subst e
  have := hg v r z
  unfold O.ofO
  cases e : gh v with
  | none => trivial
  | some s => rw [e] at this; obtain ⟨r', h1, h2⟩ := this; rw [h1]; exact ⟨r', rfl, h2⟩
theorem st_setix {j : Nat} {ds : List D} {di d : Env → Res D} {mi m : S Unit D} (e : p[j]? = some (.o ds)) (hi : EX c.ε (fun _ => p) di mi) (h : EX c.ε (fun _ => p) d m) : ST c p (dSetIx j di d) (setIx ds mi m) (fun x => p.set j (.o x)) := .mk <| toP_ok h fun v y r e1 z => by
  subst e1
  rw [go_op z (.inl e)]
  exact toP_ok (Q2 := fun x => p.set j (.o x)) hi (fun k y r e1 z => by
    subst e1
    rw [go_op z (.inl e)]
    cases k with
    | int k =>
      simp only
      cases ixN ds.length k with
      | none => trivial
      | some n => exact ⟨_, rfl, put_p z e _⟩
    | _ => trivial) r z
/-! raise, try -/
theorem st_raise {n f : Str} {d : Env → Res D} {m : S Unit D} (h : EX c.ε (fun _ => p) d m) (l : LE p c.ε) : ST c p (dRaise n f d) (raiseO n f m) Q := .mk <| toP_ok h fun v y r e z => by
  subst e; exact ⟨r, rfl, l r z⟩
def HD (T : Tbl) (c : Cx ρ κ) (pe : Pat) (l : List (Str × Option Nat × (Env → SRes))) (hk : D → O ρ κ β) (Q : β → Pat) : Prop := ∀ e r, PR pe r → SO c Q (dHds T l e r) (hk e)
theorem hd_nil {T : Tbl} {pe : Pat} (l : LE pe c.ε) : HD T c pe [] (fun e => .err e) Q := fun e r z => ⟨r, rfl, l r z⟩
theorem noE_ok {m : SRes} {h : O ρ κ β} {n : SRes} {Q' : β → Pat} (a : SO c Q' m h) (h1 : ∀ s r, m = .nx r → PR (Q' s) r → ∃ r', n = .nx r' ∧ PR (Q s) r') (h2 : ∀ v r, m = retV v r → n = retV v r) : SO c Q n (noE h) := by
  cases h with
  | nx s => obtain ⟨r', e, h⟩ := a; exact h1 s r' e h
  | rt x => obtain ⟨v, r', e, h⟩ := a; exact ⟨v, r', h2 v r' e, h⟩
  | _ => trivial
theorem hd_plain {T : Tbl} {pe : Pat} {m : Str} {su : Env → SRes} {l : List (Str × Option Nat × (Env → SRes))} {hs : D → O ρ κ β} {hk : D → O ρ κ β} (h : ∀ e, ST c pe su (hs e) Q) (h2 : HD T c pe l hk Q) : HD T c pe ((m, none, su) :: l) (fun e => hdO T m e (hs e) (hk e)) Q := fun e r z => by
  rw [e_hd0]
  show SO c Q _ (hdO T m e (hs e) (hk e))
  have h3 := (h e).run r z
  have h4 := h2 e r z
  cases e0 : exMatch T e m with
  | none => simp only [hdO, e0]; trivial
  | some b =>
    cases b with
    | false => simp only [hdO, e0]; exact h4
    | true =>
      simp only [hdO, e0]
      exact noE_ok h3 (fun s r' e1 z => ⟨r', by rw [e1]; rfl, z⟩) fun v r' e1 => by rw [e1]; cases v <;> rfl
theorem hd_named {T : Tbl} {pe : Pat} {m : Str} {i : Nat} {su : Env → SRes} {l : List (Str × Option Nat × (Env → SRes))} {Q' : β → Pat} {hs : D → O ρ κ β} {hk : D → O ρ κ β} (k : npAt pe i = true) (h : ∀ e, ST c (pe.set i (.w e)) su (hs e) Q') (k2 : ∀ s, npAt (Q' s) i = true) (le : ∀ s, LE ((Q' s).set i .un) (Q s)) (h2 : HD T c pe l hk Q) : HD T c pe ((m, some i, su) :: l) (fun e => hdO T m e (hs e) (hk e)) Q := fun e r z => by
  rw [e_hdN]
  show SO c Q _ (hdO T m e (hs e) (hk e))
  have h3 := (h e).run _ (z.set (i := i) (s := .v e) rfl)
  have h4 := h2 e r z
  cases e0 : exMatch T e m with
  | none => simp only [hdO, e0]; trivial
  | some b =>
    cases b with
    | false => simp only [hdO, e0]; exact h4
    | true =>
      simp only [hdO, e0, notP_of z k, if_true]
      exact noE_ok h3 (fun s r' e1 z => ⟨r'.set i .un, by rw [e1, end_nx, notP_of z (k2 s), if_pos rfl], le s _ (z.set rfl)⟩) fun v r' e1 => by rw [e1]; cases v <;> rfl
theorem st_try {T : Tbl} {pe : Pat} {b : Env → SRes} {l : List (Str × Option Nat × (Env → SRes))} {h : O ρ κ β} {hk : D → O ρ κ β} (hb : ST { c with ε := pe } p b h Q) (hh : HD T c pe l hk Q) : ST c p (dTry T b l) (tryO h hk) Q := .mk fun r z => by
  have := hb.run r z
  unfold dTry
  cases h with
  | nx s => obtain ⟨r', h1, h2⟩ := this; rw [h1]; exact ⟨r', rfl, h2⟩
  | rt x => obtain ⟨v, r', h1, h2⟩ := this; rw [h1]; exact ⟨v, r', by cases v <;> rfl, h2⟩
  | bk x => obtain ⟨r', h1, h2⟩ := this; rw [h1]; exact ⟨r', rfl, h2⟩
  | ct x => obtain ⟨r', h1, h2⟩ := this; rw [h1]; exact ⟨r', rfl, h2⟩
  | err x => obtain ⟨r', h1, h2⟩ := this; rw [h1]; exact hh x r' h2
  | bad => trivial
/-! loops -/
def Cx.lp (c : Cx ρ κ) (L : σ → Pat) : Cx ρ σ := ⟨c.ε, c.rel, c.P, L⟩
theorem loop_ok {g : D → Env → Option Env} {gh : D → Option β} {b : Env → SRes} {f : σ → β → O ρ σ σ} {L : σ → Pat} {Qg : σ → β → Pat} (hg : ∀ s, TG (L s) g gh (Qg s)) (hb : ∀ s z, ST (c.lp L) (Qg s z) b (f s z) L) :
    ∀ (xs : List D) (s : σ) (r : Env), PR (L s) r → SO c L (dForL g b xs r) (loop (fun s x => (O.ofO (gh x)).seq fun z => f s z) xs s)
  | [], s, r, h => ⟨r, rfl, h⟩
  | x :: xs, s, r, h => by
    have h1 := hg s x r h
    rw [e_dForL1]
    unfold loop O.ofO
    cases e : gh x with
    | none => trivial
    | some z =>
      rw [e] at h1
      obtain ⟨r1, k1, k2⟩ := h1
      rw [k1]
      simp only [O.seq]
      have h2 := (hb s z).run r1 k2
      cases e2 : f s z with
      | nx s2 => rw [e2] at h2; obtain ⟨r2, j1, j2⟩ := h2; rw [j1]; exact loop_ok hg hb xs s2 r2 j2
      | ct s2 => rw [e2] at h2; obtain ⟨r2, j1, j2⟩ := h2; rw [j1]; exact loop_ok hg hb xs s2 r2 j2
      | bk s2 => rw [e2] at h2; obtain ⟨r2, j1, j2⟩ := h2; rw [j1]; exact ⟨r2, rfl, j2⟩
      | rt y => rw [e2] at h2; obtain ⟨v, r2, j1, j2⟩ := h2; rw [j1]; exact ⟨v, r2, by cases v <;> rfl, j2⟩
      | err y => rw [e2] at h2; obtain ⟨r2, j1, j2⟩ := h2; rw [j1]; exact ⟨r2, rfl, j2⟩
      | bad => trivial
theorem st_forP {d : Env → Res (List D)} {m : S Unit (List D)} {g : D → Env → Option Env} {gh : D → Option β} {b : Env → SRes} {s0 : σ} {f : σ → β → O ρ σ σ} {L : σ → Pat} {Qg : σ → β → Pat} (h : EX c.ε (fun _ => p) d m) (l : LE p (L s0)) (hg : ∀ s, TG (L s) g gh (Qg s)) (hb : ∀ s z, ST (c.lp L) (Qg s z) b (f s z) L) :
    ST c p (dFor d g b) ((O.ofP m).seq fun xs => loop (fun s x => (O.ofO (gh x)).seq fun z => f s z) xs s0) L := .mk <| toP_ok h fun v y r e z => by
  subst e
  exact loop_ok hg hb v s0 r (l r z)
theorem st_forS {d : Env → Res (List D)} {m : S τ (List D)} {t : τ} {g : D → Env → Option Env} {gh : D → Option β} {b : Env → SRes} {s0 : τ → σ} {f : σ → β → O ρ σ σ} {L : σ → Pat} {Qg : σ → β → Pat} (h : EX c.ε P d m) (l : ∀ t, LE (P t) (L (s0 t))) (hg : ∀ s, TG (L s) g gh (Qg s)) (hb : ∀ s z, ST (c.lp L) (Qg s z) b (f s z) L) :
    ST c (P t) (dFor d g b) ((O.ofS m t).seq fun y => loop (fun s x => (O.ofO (gh x)).seq fun z => f s z) y.1 (s0 y.2)) L := .mk <| toS_ok h fun v y r e z => by
  obtain ⟨y1, y2⟩ := y
  have e : v = y1 := e
  subst e
  exact loop_ok hg hb v (s0 y2) r (l y2 r z)
theorem st_while {t : Env → Res Bool} {b : Env → SRes} {n : Nat} {s0 : σ} {m : σ → S Unit Bool} {f : σ → O ρ σ σ} {L : σ → Pat} (l : LE p (L s0)) (ht : ∀ s, EX c.ε (fun _ => L s) t (m s)) (hb : ∀ s, ST (c.lp L) (L s) b (f s) L) : ST c p (dWhile t b n) (whil m f n s0) L := by
  have key : ∀ (n : Nat) (s : σ) (r : Env), PR (L s) r → SO c L (dWhile t b n r) (whil m f n s) := by
    intro n
    induction n with
    | zero => intro s r z; trivial
    | succ n ih =>
      intro s r z
      rw [e_dWhile]
      unfold whil
      refine toP_ok (ht s) (fun v y r e z => ?_) r z
      subst e
      cases v with
      | false => exact ⟨r, rfl, z⟩
      | true =>
        simp only [if_true]
        have h2 := (hb s).run r z
        cases e2 : f s with
        | nx s2 => rw [e2] at h2; obtain ⟨r2, j1, j2⟩ := h2; rw [j1]; exact ih s2 r2 j2
        | ct s2 => rw [e2] at h2; obtain ⟨r2, j1, j2⟩ := h2; rw [j1]; exact ih s2 r2 j2
        | bk s2 => rw [e2] at h2; obtain ⟨r2, j1, j2⟩ := h2; rw [j1]; exact ⟨r2, rfl, j2⟩
        | rt y => rw [e2] at h2; obtain ⟨v, r2, j1, j2⟩ := h2; rw [j1]; exact ⟨v, r2, by cases v <;> rfl, j2⟩
        | err y => rw [e2] at h2; obtain ⟨r2, j1, j2⟩ := h2; rw [j1]; exact ⟨r2, rfl, j2⟩
        | bad => trivial
  exact .mk fun r z => key n s0 r (l r z)
end
/-! ## Defs -/
def cD (n : Nat) : Cx D Empty := ⟨anys n, VR, fun _ => anys n, fun _ => []⟩
def cN (n : Nat) : Cx (List D) Empty := ⟨anys n, VN, fun _ => anys n, fun _ => []⟩
def cM (n : Nat) : Cx (D × List D) Empty := ⟨anys n, fun v x => VR v x.1, fun x => .p x.2 :: anys (n - 1), fun _ => []⟩
def cMN (n : Nat) : Cx (List D × List D) Empty := ⟨anys n, fun v x => VN v x.1, fun x => .p x.2 :: anys (n - 1), fun _ => []⟩
def fin {β : Type} (h : O D Empty β) : R D := match h with
  | .nx _ => .ok .non
  | .rt x => .ok x
  | .err e => .err e
  | _ => .bad
def finN {ρ β : Type} (h : O ρ Empty β) : R ρ := match h with
  | .rt x => .ok x
  | .err e => .err e
  | _ => .bad
theorem outs_v : ∀ (xs : List D) (r : Env), xs.length ≤ r.length → outs (xs.map Slot.v) r = uns xs
  | [], _, _ => rfl
  | x :: xs, [], h => by simp at h
  | x :: xs, s :: r, h => by
    simp only [List.map_cons, out_v, uns]
    rw [outs_v xs r (by simpa using h)]; rfl
theorem anys_len : ∀ n, (anys n).length = n
  | 0 => rfl
  | n + 1 => by simp [anys, anys_len n]
theorem PR_v : ∀ (xs : List D), PR (xs.map Pt.v) (xs.map Slot.v)
  | [] => trivial
  | x :: xs => ⟨.inl rfl, PR_v xs⟩
/-- the slots of the locals at a def's start -/
def PlainL : Pat → Prop
  | [] => True
  | .un :: p => PlainL p
  | .pl :: p => PlainL p
  | _ :: _ => False
theorem PR_l : ∀ {p : Pat}, PlainL p → PR p (List.replicate p.length .un)
  | [], _ => trivial
  | .un :: p, h => ⟨rfl, PR_l (p := p) h⟩
  | .pl :: p, h => ⟨.inl rfl, PR_l (p := p) h⟩
theorem PR_app : ∀ {p q : Pat} {r s : Env}, PR p r → PR q s → PR (p ++ q) (r ++ s)
  | [], q, [], s, _, h => h
  | a :: p, q, t :: r, s, h, k => ⟨h.1, PR_app h.2 k⟩
theorem fnD {β : Type} {b : Env → SRes} {h : O D Empty β} {Q : β → Pat} {xs : List D} {l : Pat} {n : Nat} (hn : xs.length + l.length = n) (hl : PlainL l) (H : ST (cD n) (xs.map Pt.v ++ l) b h Q) (lq : ∀ s, (Q s).length = n) : CallOk (runD n b (xs.map Slot.v)) (fin h) (uns xs) := by
  constructor
  have := H.run _ (PR_app (PR_v xs) (PR_l hl))
  rw [e_run, show n - (xs.map Slot.v).length = l.length by simp; omega]
  cases h with
  | nx s => obtain ⟨r', h1, h2⟩ := this; rw [h1]; simp only; rw [outs_v xs r' (by rw [h2.len, lq]; omega)]; exact .inl rfl
  | rt x =>
    obtain ⟨v, r', h1, h2, h3⟩ := this
    have hl := h3.len
    rw [show ((cD n).P x).length = n from anys_len n] at hl
    rw [h1]
    cases v with
    | v d => have h2 : d = x := h2; subst h2; simp only [retV]; rw [outs_v xs r' (by omega)]; exact .inl rfl
    | n ds => have h2 : x = _ := h2; subst h2; simp only [retV]; rw [outs_v xs r' (by omega)]; exact .inr ⟨ds, rfl, rfl⟩
  | err e =>
    obtain ⟨r', h1, h2⟩ := this
    have hl := h2.len
    rw [show (cD n).ε.length = n from anys_len n] at hl
    rw [h1]
    show FRes.err e (outs (xs.map Slot.v) r') = FRes.err e (uns xs)
    rw [outs_v xs r' (by omega)]
  | _ => trivial
theorem fnN {β : Type} {b : Env → SRes} {h : O (List D) Empty β} {Q : β → Pat} {xs : List D} {l : Pat} {n : Nat} (hn : xs.length + l.length = n) (hl : PlainL l) (H : ST (cN n) (xs.map Pt.v ++ l) b h Q) : CallOkN (runD n b (xs.map Slot.v)) (finN h) (uns xs) := by
  constructor
  have := H.run _ (PR_app (PR_v xs) (PR_l hl))
  rw [e_run, show n - (xs.map Slot.v).length = l.length by simp; omega]
  cases h with
  | rt x =>
    obtain ⟨v, r', h1, h2, h3⟩ := this
    have hl := h3.len
    rw [show ((cN n).P x).length = n from anys_len n] at hl
    have h2 : v = _ := h2
    subst h2
    rw [h1]
    show FRes.okn x (outs (xs.map Slot.v) r') = FRes.okn x (uns xs)
    rw [outs_v xs r' (by omega)]
  | err e =>
    obtain ⟨r', h1, h2⟩ := this
    have hl := h2.len
    rw [show (cN n).ε.length = n from anys_len n] at hl
    rw [h1]
    show FRes.err e (outs (xs.map Slot.v) r') = FRes.err e (uns xs)
    rw [outs_v xs r' (by omega)]
  | _ => trivial
theorem fnM {β : Type} {b : Env → SRes} {ds : List D} {h : O (D × List D) Empty β} {Q : β → Pat} {xs : List D} {l : Pat} {n : Nat} (hn : 1 + (xs.length + l.length) = n) (hl : PlainL l) (H : ST (cM n) (.p ds :: (xs.map Pt.v ++ l)) b h Q) : MOk (runD n b (.p ds :: xs.map Slot.v)) (finN h) (uns xs) := by
  constructor
  have := H.run (.p ds :: (xs.map Slot.v ++ List.replicate l.length .un)) ⟨rfl, PR_app (PR_v xs) (PR_l hl)⟩
  rw [e_run, show n - (Slot.p ds :: xs.map Slot.v).length = l.length by simp; omega]
  cases h with
  | rt x =>
    obtain ⟨v, r', h1, h2, h3⟩ := this
    rw [List.cons_append, h1]
    cases r' with
    | nil => exact h3.elim
    | cons s r' =>
      obtain ⟨k1, k2⟩ := h3
      cases k1
      have hl := PR.len k2
      rw [anys_len] at hl
      have ho : outs (Slot.p ds :: xs.map Slot.v) (.p x.2 :: r') = .p x.2 :: uns xs := by
        rw [out_p, outs_v xs r' (by omega)]
      cases v with
      | v d => have h2 : d = x.1 := h2; subst h2; simp only [retV, ho]; exact .inl rfl
      | n es => have h2 : x.1 = _ := h2; simp only [retV, ho]; exact .inr ⟨es, h2, rfl⟩
  | _ => trivial
theorem fnMN {β : Type} {b : Env → SRes} {ds : List D} {h : O (List D × List D) Empty β} {Q : β → Pat} {xs : List D} {l : Pat} {n : Nat} (hn : 1 + (xs.length + l.length) = n) (hl : PlainL l) (H : ST (cMN n) (.p ds :: (xs.map Pt.v ++ l)) b h Q) : MOkN (runD n b (.p ds :: xs.map Slot.v)) (finN h) (uns xs) := by
  constructor
  have := H.run (.p ds :: (xs.map Slot.v ++ List.replicate l.length .un)) ⟨rfl, PR_app (PR_v xs) (PR_l hl)⟩
  rw [e_run, show n - (Slot.p ds :: xs.map Slot.v).length = l.length by simp; omega]
  cases h with
  | rt x =>
    obtain ⟨v, r', h1, h2, h3⟩ := this
    rw [List.cons_append, h1]
    cases r' with
    | nil => exact h3.elim
    | cons s r' =>
      obtain ⟨k1, k2⟩ := h3
      cases k1
      have hl := PR.len k2
      rw [anys_len] at hl
      have ho : outs (Slot.p ds :: xs.map Slot.v) (.p x.2 :: r') = .p x.2 :: uns xs := by
        rw [out_p, outs_v xs r' (by omega)]
      have h2 : v = _ := h2
      subst h2
      simp only [retV, ho, finN]; exact rfl
  | _ => trivial
end Py.Fu
end

section
set_option maxHeartbeats 400000
namespace Py.Fu
open PySem L2
/-! ## Arguments -/
section
variable {α : Type}
abbrev ap0 (F : R α) : List D → R α := fun xs => match xs with
  | [] => F 
  | _ => .bad
@[simp] theorem ap0_eq {F : R α} : ap0 F [] = F := (rfl)
abbrev am0 (F : List D → R α) : List D → List D → R α := fun ds xs => match xs with
  | [] => F ds 
  | _ => .bad
@[simp] theorem am0_eq {F : List D → R α} {ds : List D} : am0 F ds [] = F ds := (rfl)
abbrev ap1 (F : D → R α) : List D → R α := fun xs => match xs with
  | [a0] => F a0
  | _ => .bad
@[simp] theorem ap1_eq {F : D → R α} {a0 : D} : ap1 F [a0] = F a0 := (rfl)
abbrev am1 (F : List D → D → R α) : List D → List D → R α := fun ds xs => match xs with
  | [a0] => F ds a0
  | _ => .bad
@[simp] theorem am1_eq {F : List D → D → R α} {ds : List D} {a0 : D} : am1 F ds [a0] = F ds a0 := (rfl)
abbrev ap2 (F : D → D → R α) : List D → R α := fun xs => match xs with
  | [a0, a1] => F a0 a1
  | _ => .bad
@[simp] theorem ap2_eq {F : D → D → R α} {a0 a1 : D} : ap2 F [a0, a1] = F a0 a1 := (rfl)
abbrev am2 (F : List D → D → D → R α) : List D → List D → R α := fun ds xs => match xs with
  | [a0, a1] => F ds a0 a1
  | _ => .bad
@[simp] theorem am2_eq {F : List D → D → D → R α} {ds : List D} {a0 a1 : D} : am2 F ds [a0, a1] = F ds a0 a1 := (rfl)
abbrev ap3 (F : D → D → D → R α) : List D → R α := fun xs => match xs with
  | [a0, a1, a2] => F a0 a1 a2
  | _ => .bad
@[simp] theorem ap3_eq {F : D → D → D → R α} {a0 a1 a2 : D} : ap3 F [a0, a1, a2] = F a0 a1 a2 := (rfl)
abbrev am3 (F : List D → D → D → D → R α) : List D → List D → R α := fun ds xs => match xs with
  | [a0, a1, a2] => F ds a0 a1 a2
  | _ => .bad
@[simp] theorem am3_eq {F : List D → D → D → D → R α} {ds : List D} {a0 a1 a2 : D} : am3 F ds [a0, a1, a2] = F ds a0 a1 a2 := (rfl)
abbrev ap4 (F : D → D → D → D → R α) : List D → R α := fun xs => match xs with
  | [a0, a1, a2, a3] => F a0 a1 a2 a3
  | _ => .bad
@[simp] theorem ap4_eq {F : D → D → D → D → R α} {a0 a1 a2 a3 : D} : ap4 F [a0, a1, a2, a3] = F a0 a1 a2 a3 := (rfl)
abbrev am4 (F : List D → D → D → D → D → R α) : List D → List D → R α := fun ds xs => match xs with
  | [a0, a1, a2, a3] => F ds a0 a1 a2 a3
  | _ => .bad
@[simp] theorem am4_eq {F : List D → D → D → D → D → R α} {ds : List D} {a0 a1 a2 a3 : D} : am4 F ds [a0, a1, a2, a3] = F ds a0 a1 a2 a3 := (rfl)
abbrev ap5 (F : D → D → D → D → D → R α) : List D → R α := fun xs => match xs with
  | [a0, a1, a2, a3, a4] => F a0 a1 a2 a3 a4
  | _ => .bad
@[simp] theorem ap5_eq {F : D → D → D → D → D → R α} {a0 a1 a2 a3 a4 : D} : ap5 F [a0, a1, a2, a3, a4] = F a0 a1 a2 a3 a4 := (rfl)
abbrev am5 (F : List D → D → D → D → D → D → R α) : List D → List D → R α := fun ds xs => match xs with
  | [a0, a1, a2, a3, a4] => F ds a0 a1 a2 a3 a4
  | _ => .bad
@[simp] theorem am5_eq {F : List D → D → D → D → D → D → R α} {ds : List D} {a0 a1 a2 a3 a4 : D} : am5 F ds [a0, a1, a2, a3, a4] = F ds a0 a1 a2 a3 a4 := (rfl)
abbrev ap6 (F : D → D → D → D → D → D → R α) : List D → R α := fun xs => match xs with
  | [a0, a1, a2, a3, a4, a5] => F a0 a1 a2 a3 a4 a5
  | _ => .bad
@[simp] theorem ap6_eq {F : D → D → D → D → D → D → R α} {a0 a1 a2 a3 a4 a5 : D} : ap6 F [a0, a1, a2, a3, a4, a5] = F a0 a1 a2 a3 a4 a5 := (rfl)
abbrev am6 (F : List D → D → D → D → D → D → D → R α) : List D → List D → R α := fun ds xs => match xs with
  | [a0, a1, a2, a3, a4, a5] => F ds a0 a1 a2 a3 a4 a5
  | _ => .bad
@[simp] theorem am6_eq {F : List D → D → D → D → D → D → D → R α} {ds : List D} {a0 a1 a2 a3 a4 a5 : D} : am6 F ds [a0, a1, a2, a3, a4, a5] = F ds a0 a1 a2 a3 a4 a5 := (rfl)
abbrev ap7 (F : D → D → D → D → D → D → D → R α) : List D → R α := fun xs => match xs with
  | [a0, a1, a2, a3, a4, a5, a6] => F a0 a1 a2 a3 a4 a5 a6
  | _ => .bad
@[simp] theorem ap7_eq {F : D → D → D → D → D → D → D → R α} {a0 a1 a2 a3 a4 a5 a6 : D} : ap7 F [a0, a1, a2, a3, a4, a5, a6] = F a0 a1 a2 a3 a4 a5 a6 := (rfl)
abbrev am7 (F : List D → D → D → D → D → D → D → D → R α) : List D → List D → R α := fun ds xs => match xs with
  | [a0, a1, a2, a3, a4, a5, a6] => F ds a0 a1 a2 a3 a4 a5 a6
  | _ => .bad
@[simp] theorem am7_eq {F : List D → D → D → D → D → D → D → D → R α} {ds : List D} {a0 a1 a2 a3 a4 a5 a6 : D} : am7 F ds [a0, a1, a2, a3, a4, a5, a6] = F ds a0 a1 a2 a3 a4 a5 a6 := (rfl)
abbrev ap8 (F : D → D → D → D → D → D → D → D → R α) : List D → R α := fun xs => match xs with
  | [a0, a1, a2, a3, a4, a5, a6, a7] => F a0 a1 a2 a3 a4 a5 a6 a7
  | _ => .bad
@[simp] theorem ap8_eq {F : D → D → D → D → D → D → D → D → R α} {a0 a1 a2 a3 a4 a5 a6 a7 : D} : ap8 F [a0, a1, a2, a3, a4, a5, a6, a7] = F a0 a1 a2 a3 a4 a5 a6 a7 := (rfl)
abbrev am8 (F : List D → D → D → D → D → D → D → D → D → R α) : List D → List D → R α := fun ds xs => match xs with
  | [a0, a1, a2, a3, a4, a5, a6, a7] => F ds a0 a1 a2 a3 a4 a5 a6 a7
  | _ => .bad
@[simp] theorem am8_eq {F : List D → D → D → D → D → D → D → D → D → R α} {ds : List D} {a0 a1 a2 a3 a4 a5 a6 a7 : D} : am8 F ds [a0, a1, a2, a3, a4, a5, a6, a7] = F ds a0 a1 a2 a3 a4 a5 a6 a7 := (rfl)
abbrev ap9 (F : D → D → D → D → D → D → D → D → D → R α) : List D → R α := fun xs => match xs with
  | [a0, a1, a2, a3, a4, a5, a6, a7, a8] => F a0 a1 a2 a3 a4 a5 a6 a7 a8
  | _ => .bad
@[simp] theorem ap9_eq {F : D → D → D → D → D → D → D → D → D → R α} {a0 a1 a2 a3 a4 a5 a6 a7 a8 : D} : ap9 F [a0, a1, a2, a3, a4, a5, a6, a7, a8] = F a0 a1 a2 a3 a4 a5 a6 a7 a8 := (rfl)
abbrev am9 (F : List D → D → D → D → D → D → D → D → D → D → R α) : List D → List D → R α := fun ds xs => match xs with
  | [a0, a1, a2, a3, a4, a5, a6, a7, a8] => F ds a0 a1 a2 a3 a4 a5 a6 a7 a8
  | _ => .bad
@[simp] theorem am9_eq {F : List D → D → D → D → D → D → D → D → D → D → R α} {ds : List D} {a0 a1 a2 a3 a4 a5 a6 a7 a8 : D} : am9 F ds [a0, a1, a2, a3, a4, a5, a6, a7, a8] = F ds a0 a1 a2 a3 a4 a5 a6 a7 a8 := (rfl)
abbrev ap10 (F : D → D → D → D → D → D → D → D → D → D → R α) : List D → R α := fun xs => match xs with
  | [a0, a1, a2, a3, a4, a5, a6, a7, a8, a9] => F a0 a1 a2 a3 a4 a5 a6 a7 a8 a9
  | _ => .bad
@[simp] theorem ap10_eq {F : D → D → D → D → D → D → D → D → D → D → R α} {a0 a1 a2 a3 a4 a5 a6 a7 a8 a9 : D} : ap10 F [a0, a1, a2, a3, a4, a5, a6, a7, a8, a9] = F a0 a1 a2 a3 a4 a5 a6 a7 a8 a9 := (rfl)
abbrev am10 (F : List D → D → D → D → D → D → D → D → D → D → D → R α) : List D → List D → R α := fun ds xs => match xs with
  | [a0, a1, a2, a3, a4, a5, a6, a7, a8, a9] => F ds a0 a1 a2 a3 a4 a5 a6 a7 a8 a9
  | _ => .bad
@[simp] theorem am10_eq {F : List D → D → D → D → D → D → D → D → D → D → D → R α} {ds : List D} {a0 a1 a2 a3 a4 a5 a6 a7 a8 a9 : D} : am10 F ds [a0, a1, a2, a3, a4, a5, a6, a7, a8, a9] = F ds a0 a1 a2 a3 a4 a5 a6 a7 a8 a9 := (rfl)
abbrev ap11 (F : D → D → D → D → D → D → D → D → D → D → D → R α) : List D → R α := fun xs => match xs with
  | [a0, a1, a2, a3, a4, a5, a6, a7, a8, a9, a10] => F a0 a1 a2 a3 a4 a5 a6 a7 a8 a9 a10
  | _ => .bad
@[simp] theorem ap11_eq {F : D → D → D → D → D → D → D → D → D → D → D → R α} {a0 a1 a2 a3 a4 a5 a6 a7 a8 a9 a10 : D} : ap11 F [a0, a1, a2, a3, a4, a5, a6, a7, a8, a9, a10] = F a0 a1 a2 a3 a4 a5 a6 a7 a8 a9 a10 := (rfl)
abbrev am11 (F : List D → D → D → D → D → D → D → D → D → D → D → D → R α) : List D → List D → R α := fun ds xs => match xs with
  | [a0, a1, a2, a3, a4, a5, a6, a7, a8, a9, a10] => F ds a0 a1 a2 a3 a4 a5 a6 a7 a8 a9 a10
  | _ => .bad
@[simp] theorem am11_eq {F : List D → D → D → D → D → D → D → D → D → D → D → D → R α} {ds : List D} {a0 a1 a2 a3 a4 a5 a6 a7 a8 a9 a10 : D} : am11 F ds [a0, a1, a2, a3, a4, a5, a6, a7, a8, a9, a10] = F ds a0 a1 a2 a3 a4 a5 a6 a7 a8 a9 a10 := (rfl)
abbrev ap12 (F : D → D → D → D → D → D → D → D → D → D → D → D → R α) : List D → R α := fun xs => match xs with
  | [a0, a1, a2, a3, a4, a5, a6, a7, a8, a9, a10, a11] => F a0 a1 a2 a3 a4 a5 a6 a7 a8 a9 a10 a11
  | _ => .bad
@[simp] theorem ap12_eq {F : D → D → D → D → D → D → D → D → D → D → D → D → R α} {a0 a1 a2 a3 a4 a5 a6 a7 a8 a9 a10 a11 : D} : ap12 F [a0, a1, a2, a3, a4, a5, a6, a7, a8, a9, a10, a11] = F a0 a1 a2 a3 a4 a5 a6 a7 a8 a9 a10 a11 := (rfl)
abbrev am12 (F : List D → D → D → D → D → D → D → D → D → D → D → D → D → R α) : List D → List D → R α := fun ds xs => match xs with
  | [a0, a1, a2, a3, a4, a5, a6, a7, a8, a9, a10, a11] => F ds a0 a1 a2 a3 a4 a5 a6 a7 a8 a9 a10 a11
  | _ => .bad
@[simp] theorem am12_eq {F : List D → D → D → D → D → D → D → D → D → D → D → D → D → R α} {ds : List D} {a0 a1 a2 a3 a4 a5 a6 a7 a8 a9 a10 a11 : D} : am12 F ds [a0, a1, a2, a3, a4, a5, a6, a7, a8, a9, a10, a11] = F ds a0 a1 a2 a3 a4 a5 a6 a7 a8 a9 a10 a11 := (rfl)
end
theorem z0 {c : Fn} {F : R D} (h : CallOk (c []) (F) (uns [])) : Z c (ap0 F) := fun xs => match xs with
  | [] => h 
  | _ :: _ => ⟨trivial⟩
theorem zn0 {c : Fn} {F : R (List D)} (h : CallOkN (c []) (F) (uns [])) : ZN c (ap0 F) := fun xs => match xs with
  | [] => h 
  | _ :: _ => ⟨trivial⟩
theorem zm0 {c : Fn} {F : List D → R (D × List D)} (h : ∀ (a : List D) , MOk (c [.p a]) (F a ) (uns [])) : ZM c (am0 F) := fun a xs => match xs with
  | [] => h a 
  | _ :: _ => ⟨trivial⟩
theorem zmn0 {c : Fn} {F : List D → R (List D × List D)} (h : ∀ (a : List D) , MOkN (c [.p a]) (F a ) (uns [])) : ZMN c (am0 F) := fun a xs => match xs with
  | [] => h a 
  | _ :: _ => ⟨trivial⟩
theorem z1 {c : Fn} {F : D → R D} (h : ∀ a0 : D, CallOk (c [.v a0]) (F a0) (uns [a0])) : Z c (ap1 F) := fun xs => match xs with
  | [a0] => h a0
  | [] => ⟨trivial⟩
  | _ :: _ :: _ => ⟨trivial⟩
theorem zn1 {c : Fn} {F : D → R (List D)} (h : ∀ a0 : D, CallOkN (c [.v a0]) (F a0) (uns [a0])) : ZN c (ap1 F) := fun xs => match xs with
  | [a0] => h a0
  | [] => ⟨trivial⟩
  | _ :: _ :: _ => ⟨trivial⟩
theorem zm1 {c : Fn} {F : List D → D → R (D × List D)} (h : ∀ (a : List D) (a0 : D), MOk (c [.p a, .v a0]) (F a a0) (uns [a0])) : ZM c (am1 F) := fun a xs => match xs with
  | [a0] => h a a0
  | [] => ⟨trivial⟩
  | _ :: _ :: _ => ⟨trivial⟩
theorem zmn1 {c : Fn} {F : List D → D → R (List D × List D)} (h : ∀ (a : List D) (a0 : D), MOkN (c [.p a, .v a0]) (F a a0) (uns [a0])) : ZMN c (am1 F) := fun a xs => match xs with
  | [a0] => h a a0
  | [] => ⟨trivial⟩
  | _ :: _ :: _ => ⟨trivial⟩
theorem z2 {c : Fn} {F : D → D → R D} (h : ∀ a0 a1 : D, CallOk (c [.v a0, .v a1]) (F a0 a1) (uns [a0, a1])) : Z c (ap2 F) := fun xs => match xs with
  | [a0, a1] => h a0 a1
  | [] => ⟨trivial⟩
  | [_] => ⟨trivial⟩
  | _ :: _ :: _ :: _ => ⟨trivial⟩
theorem zn2 {c : Fn} {F : D → D → R (List D)} (h : ∀ a0 a1 : D, CallOkN (c [.v a0, .v a1]) (F a0 a1) (uns [a0, a1])) : ZN c (ap2 F) := fun xs => match xs with
  | [a0, a1] => h a0 a1
  | [] => ⟨trivial⟩
  | [_] => ⟨trivial⟩
  | _ :: _ :: _ :: _ => ⟨trivial⟩
theorem zm2 {c : Fn} {F : List D → D → D → R (D × List D)} (h : ∀ (a : List D) (a0 a1 : D), MOk (c [.p a, .v a0, .v a1]) (F a a0 a1) (uns [a0, a1])) : ZM c (am2 F) := fun a xs => match xs with
  | [a0, a1] => h a a0 a1
  | [] => ⟨trivial⟩
  | [_] => ⟨trivial⟩
  | _ :: _ :: _ :: _ => ⟨trivial⟩
theorem zmn2 {c : Fn} {F : List D → D → D → R (List D × List D)} (h : ∀ (a : List D) (a0 a1 : D), MOkN (c [.p a, .v a0, .v a1]) (F a a0 a1) (uns [a0, a1])) : ZMN c (am2 F) := fun a xs => match xs with
  | [a0, a1] => h a a0 a1
  | [] => ⟨trivial⟩
  | [_] => ⟨trivial⟩
  | _ :: _ :: _ :: _ => ⟨trivial⟩
theorem z3 {c : Fn} {F : D → D → D → R D} (h : ∀ a0 a1 a2 : D, CallOk (c [.v a0, .v a1, .v a2]) (F a0 a1 a2) (uns [a0, a1, a2])) : Z c (ap3 F) := fun xs => match xs with
  | [a0, a1, a2] => h a0 a1 a2
  | [] => ⟨trivial⟩
  | [_] => ⟨trivial⟩
  | [_, _] => ⟨trivial⟩
  | _ :: _ :: _ :: _ :: _ => ⟨trivial⟩
theorem zn3 {c : Fn} {F : D → D → D → R (List D)} (h : ∀ a0 a1 a2 : D, CallOkN (c [.v a0, .v a1, .v a2]) (F a0 a1 a2) (uns [a0, a1, a2])) : ZN c (ap3 F) := fun xs => match xs with
  | [a0, a1, a2] => h a0 a1 a2
  | [] => ⟨trivial⟩
  | [_] => ⟨trivial⟩
  | [_, _] => ⟨trivial⟩
  | _ :: _ :: _ :: _ :: _ => ⟨trivial⟩
theorem zm3 {c : Fn} {F : List D → D → D → D → R (D × List D)} (h : ∀ (a : List D) (a0 a1 a2 : D), MOk (c [.p a, .v a0, .v a1, .v a2]) (F a a0 a1 a2) (uns [a0, a1, a2])) : ZM c (am3 F) := fun a xs => match xs with
  | [a0, a1, a2] => h a a0 a1 a2
  | [] => ⟨trivial⟩
  | [_] => ⟨trivial⟩
  | [_, _] => ⟨trivial⟩
  | _ :: _ :: _ :: _ :: _ => ⟨trivial⟩
theorem zmn3 {c : Fn} {F : List D → D → D → D → R (List D × List D)} (h : ∀ (a : List D) (a0 a1 a2 : D), MOkN (c [.p a, .v a0, .v a1, .v a2]) (F a a0 a1 a2) (uns [a0, a1, a2])) : ZMN c (am3 F) := fun a xs => match xs with
  | [a0, a1, a2] => h a a0 a1 a2
  | [] => ⟨trivial⟩
  | [_] => ⟨trivial⟩
  | [_, _] => ⟨trivial⟩
  | _ :: _ :: _ :: _ :: _ => ⟨trivial⟩
theorem z4 {c : Fn} {F : D → D → D → D → R D} (h : ∀ a0 a1 a2 a3 : D, CallOk (c [.v a0, .v a1, .v a2, .v a3]) (F a0 a1 a2 a3) (uns [a0, a1, a2, a3])) : Z c (ap4 F) := fun xs => match xs with
  | [a0, a1, a2, a3] => h a0 a1 a2 a3
  | [] => ⟨trivial⟩
  | [_] => ⟨trivial⟩
  | [_, _] => ⟨trivial⟩
  | [_, _, _] => ⟨trivial⟩
  | _ :: _ :: _ :: _ :: _ :: _ => ⟨trivial⟩
theorem zn4 {c : Fn} {F : D → D → D → D → R (List D)} (h : ∀ a0 a1 a2 a3 : D, CallOkN (c [.v a0, .v a1, .v a2, .v a3]) (F a0 a1 a2 a3) (uns [a0, a1, a2, a3])) : ZN c (ap4 F) := fun xs => match xs with
  | [a0, a1, a2, a3] => h a0 a1 a2 a3
  | [] => ⟨trivial⟩
  | [_] => ⟨trivial⟩
  | [_, _] => ⟨trivial⟩
  | [_, _, _] => ⟨trivial⟩
  | _ :: _ :: _ :: _ :: _ :: _ => ⟨trivial⟩
theorem zm4 {c : Fn} {F : List D → D → D → D → D → R (D × List D)} (h : ∀ (a : List D) (a0 a1 a2 a3 : D), MOk (c [.p a, .v a0, .v a1, .v a2, .v a3]) (F a a0 a1 a2 a3) (uns [a0, a1, a2, a3])) : ZM c (am4 F) := fun a xs => match xs with
  | [a0, a1, a2, a3] => h a a0 a1 a2 a3
  | [] => ⟨trivial⟩
  | [_] => ⟨trivial⟩
  | [_, _] => ⟨trivial⟩
  | [_, _, _] => ⟨trivial⟩
  | _ :: _ :: _ :: _ :: _ :: _ => ⟨trivial⟩
theorem zmn4 {c : Fn} {F : List D → D → D → D → D → R (List D × List D)} (h : ∀ (a : List D) (a0 a1 a2 a3 : D), MOkN (c [.p a, .v a0, .v a1, .v a2, .v a3]) (F a a0 a1 a2 a3) (uns [a0, a1, a2, a3])) : ZMN c (am4 F) := fun a xs => match xs with
  | [a0, a1, a2, a3] => h a a0 a1 a2 a3
  | [] => ⟨trivial⟩
  | [_] => ⟨trivial⟩
  | [_, _] => ⟨trivial⟩
  | [_, _, _] => ⟨trivial⟩
  | _ :: _ :: _ :: _ :: _ :: _ => ⟨trivial⟩
theorem z5 {c : Fn} {F : D → D → D → D → D → R D} (h : ∀ a0 a1 a2 a3 a4 : D, CallOk (c [.v a0, .v a1, .v a2, .v a3, .v a4]) (F a0 a1 a2 a3 a4) (uns [a0, a1, a2, a3, a4])) : Z c (ap5 F) := fun xs => match xs with
  | [a0, a1, a2, a3, a4] => h a0 a1 a2 a3 a4
  | [] => ⟨trivial⟩
  | [_] => ⟨trivial⟩
  | [_, _] => ⟨trivial⟩
  | [_, _, _] => ⟨trivial⟩
  | [_, _, _, _] => ⟨trivial⟩
  | _ :: _ :: _ :: _ :: _ :: _ :: _ => ⟨trivial⟩
theorem zn5 {c : Fn} {F : D → D → D → D → D → R (List D)} (h : ∀ a0 a1 a2 a3 a4 : D, CallOkN (c [.v a0, .v a1, .v a2, .v a3, .v a4]) (F a0 a1 a2 a3 a4) (uns [a0, a1, a2, a3, a4])) : ZN c (ap5 F) := fun xs => match xs with
  | [a0, a1, a2, a3, a4] => h a0 a1 a2 a3 a4
  | [] => ⟨trivial⟩
  | [_] => ⟨trivial⟩
  | [_, _] => ⟨trivial⟩
  | [_, _, _] => ⟨trivial⟩
  | [_, _, _, _] => ⟨trivial⟩
  | _ :: _ :: _ :: _ :: _ :: _ :: _ => ⟨trivial⟩
theorem zm5 {c : Fn} {F : List D → D → D → D → D → D → R (D × List D)} (h : ∀ (a : List D) (a0 a1 a2 a3 a4 : D), MOk (c [.p a, .v a0, .v a1, .v a2, .v a3, .v a4]) (F a a0 a1 a2 a3 a4) (uns [a0, a1, a2, a3, a4])) : ZM c (am5 F) := fun a xs => match xs with
  | [a0, a1, a2, a3, a4] => h a a0 a1 a2 a3 a4
  | [] => ⟨trivial⟩
  | [_] => ⟨trivial⟩
  | [_, _] => ⟨trivial⟩
  | [_, _, _] => ⟨trivial⟩
  | [_, _, _, _] => ⟨trivial⟩
  | _ :: _ :: _ :: _ :: _ :: _ :: _ => ⟨trivial⟩
theorem zmn5 {c : Fn} {F : List D → D → D → D → D → D → R (List D × List D)} (h : ∀ (a : List D) (a0 a1 a2 a3 a4 : D), MOkN (c [.p a, .v a0, .v a1, .v a2, .v a3, .v a4]) (F a a0 a1 a2 a3 a4) (uns [a0, a1, a2, a3, a4])) : ZMN c (am5 F) := fun a xs => match xs with
  | [a0, a1, a2, a3, a4] => h a a0 a1 a2 a3 a4
  | [] => ⟨trivial⟩
  | [_] => ⟨trivial⟩
  | [_, _] => ⟨trivial⟩
  | [_, _, _] => ⟨trivial⟩
  | [_, _, _, _] => ⟨trivial⟩
  | _ :: _ :: _ :: _ :: _ :: _ :: _ => ⟨trivial⟩
theorem z6 {c : Fn} {F : D → D → D → D → D → D → R D} (h : ∀ a0 a1 a2 a3 a4 a5 : D, CallOk (c [.v a0, .v a1, .v a2, .v a3, .v a4, .v a5]) (F a0 a1 a2 a3 a4 a5) (uns [a0, a1, a2, a3, a4, a5])) : Z c (ap6 F) := fun xs => match xs with
  | [a0, a1, a2, a3, a4, a5] => h a0 a1 a2 a3 a4 a5
  | [] => ⟨trivial⟩
  | [_] => ⟨trivial⟩
  | [_, _] => ⟨trivial⟩
  | [_, _, _] => ⟨trivial⟩
  | [_, _, _, _] => ⟨trivial⟩
  | [_, _, _, _, _] => ⟨trivial⟩
  | _ :: _ :: _ :: _ :: _ :: _ :: _ :: _ => ⟨trivial⟩
theorem zn6 {c : Fn} {F : D → D → D → D → D → D → R (List D)} (h : ∀ a0 a1 a2 a3 a4 a5 : D, CallOkN (c [.v a0, .v a1, .v a2, .v a3, .v a4, .v a5]) (F a0 a1 a2 a3 a4 a5) (uns [a0, a1, a2, a3, a4, a5])) : ZN c (ap6 F) := fun xs => match xs with
  | [a0, a1, a2, a3, a4, a5] => h a0 a1 a2 a3 a4 a5
  | [] => ⟨trivial⟩
  | [_] => ⟨trivial⟩
  | [_, _] => ⟨trivial⟩
  | [_, _, _] => ⟨trivial⟩
  | [_, _, _, _] => ⟨trivial⟩
  | [_, _, _, _, _] => ⟨trivial⟩
  | _ :: _ :: _ :: _ :: _ :: _ :: _ :: _ => ⟨trivial⟩
theorem zm6 {c : Fn} {F : List D → D → D → D → D → D → D → R (D × List D)} (h : ∀ (a : List D) (a0 a1 a2 a3 a4 a5 : D), MOk (c [.p a, .v a0, .v a1, .v a2, .v a3, .v a4, .v a5]) (F a a0 a1 a2 a3 a4 a5) (uns [a0, a1, a2, a3, a4, a5])) : ZM c (am6 F) := fun a xs => match xs with
  | [a0, a1, a2, a3, a4, a5] => h a a0 a1 a2 a3 a4 a5
  | [] => ⟨trivial⟩
  | [_] => ⟨trivial⟩
  | [_, _] => ⟨trivial⟩
  | [_, _, _] => ⟨trivial⟩
  | [_, _, _, _] => ⟨trivial⟩
  | [_, _, _, _, _] => ⟨trivial⟩
  | _ :: _ :: _ :: _ :: _ :: _ :: _ :: _ => ⟨trivial⟩
theorem zmn6 {c : Fn} {F : List D → D → D → D → D → D → D → R (List D × List D)} (h : ∀ (a : List D) (a0 a1 a2 a3 a4 a5 : D), MOkN (c [.p a, .v a0, .v a1, .v a2, .v a3, .v a4, .v a5]) (F a a0 a1 a2 a3 a4 a5) (uns [a0, a1, a2, a3, a4, a5])) : ZMN c (am6 F) := fun a xs => match xs with
  | [a0, a1, a2, a3, a4, a5] => h a a0 a1 a2 a3 a4 a5
  | [] => ⟨trivial⟩
  | [_] => ⟨trivial⟩
  | [_, _] => ⟨trivial⟩
  | [_, _, _] => ⟨trivial⟩
  | [_, _, _, _] => ⟨trivial⟩
  | [_, _, _, _, _] => ⟨trivial⟩
  | _ :: _ :: _ :: _ :: _ :: _ :: _ :: _ => ⟨trivial⟩
theorem z7 {c : Fn} {F : D → D → D → D → D → D → D → R D} (h : ∀ a0 a1 a2 a3 a4 a5 a6 : D, CallOk (c [.v a0, .v a1, .v a2, .v a3, .v a4, .v a5, .v a6]) (F a0 a1 a2 a3 a4 a5 a6) (uns [a0, a1, a2, a3, a4, a5, a6])) : Z c (ap7 F) := fun xs => match xs with
  | [a0, a1, a2, a3, a4, a5, a6] => h a0 a1 a2 a3 a4 a5 a6
  | [] => ⟨trivial⟩
  | [_] => ⟨trivial⟩
  | [_, _] => ⟨trivial⟩
  | [_, _, _] => ⟨trivial⟩
  | [_, _, _, _] => ⟨trivial⟩
  | [_, _, _, _, _] => ⟨trivial⟩
  | [_, _, _, _, _, _] => ⟨trivial⟩
  | _ :: _ :: _ :: _ :: _ :: _ :: _ :: _ :: _ => ⟨trivial⟩
theorem zn7 {c : Fn} {F : D → D → D → D → D → D → D → R (List D)} (h : ∀ a0 a1 a2 a3 a4 a5 a6 : D, CallOkN (c [.v a0, .v a1, .v a2, .v a3, .v a4, .v a5, .v a6]) (F a0 a1 a2 a3 a4 a5 a6) (uns [a0, a1, a2, a3, a4, a5, a6])) : ZN c (ap7 F) := fun xs => match xs with
  | [a0, a1, a2, a3, a4, a5, a6] => h a0 a1 a2 a3 a4 a5 a6
  | [] => ⟨trivial⟩
  | [_] => ⟨trivial⟩
  | [_, _] => ⟨trivial⟩
  | [_, _, _] => ⟨trivial⟩
  | [_, _, _, _] => ⟨trivial⟩
  | [_, _, _, _, _] => ⟨trivial⟩
  | [_, _, _, _, _, _] => ⟨trivial⟩
  | _ :: _ :: _ :: _ :: _ :: _ :: _ :: _ :: _ => ⟨trivial⟩
theorem zm7 {c : Fn} {F : List D → D → D → D → D → D → D → D → R (D × List D)} (h : ∀ (a : List D) (a0 a1 a2 a3 a4 a5 a6 : D), MOk (c [.p a, .v a0, .v a1, .v a2, .v a3, .v a4, .v a5, .v a6]) (F a a0 a1 a2 a3 a4 a5 a6) (uns [a0, a1, a2, a3, a4, a5, a6])) : ZM c (am7 F) := fun a xs => match xs with
  | [a0, a1, a2, a3, a4, a5, a6] => h a a0 a1 a2 a3 a4 a5 a6
  | [] => ⟨trivial⟩
  | [_] => ⟨trivial⟩
  | [_, _] => ⟨trivial⟩
  | [_, _, _] => ⟨trivial⟩
  | [_, _, _, _] => ⟨trivial⟩
  | [_, _, _, _, _] => ⟨trivial⟩
  | [_, _, _, _, _, _] => ⟨trivial⟩
  | _ :: _ :: _ :: _ :: _ :: _ :: _ :: _ :: _ => ⟨trivial⟩
theorem zmn7 {c : Fn} {F : List D → D → D → D → D → D → D → D → R (List D × List D)} (h : ∀ (a : List D) (a0 a1 a2 a3 a4 a5 a6 : D), MOkN (c [.p a, .v a0, .v a1, .v a2, .v a3, .v a4, .v a5, .v a6]) (F a a0 a1 a2 a3 a4 a5 a6) (uns [a0, a1, a2, a3, a4, a5, a6])) : ZMN c (am7 F) := fun a xs => match xs with
  | [a0, a1, a2, a3, a4, a5, a6] => h a a0 a1 a2 a3 a4 a5 a6
  | [] => ⟨trivial⟩
  | [_] => ⟨trivial⟩
  | [_, _] => ⟨trivial⟩
  | [_, _, _] => ⟨trivial⟩
  | [_, _, _, _] => ⟨trivial⟩
  | [_, _, _, _, _] => ⟨trivial⟩
  | [_, _, _, _, _, _] => ⟨trivial⟩
  | _ :: _ :: _ :: _ :: _ :: _ :: _ :: _ :: _ => ⟨trivial⟩
theorem z8 {c : Fn} {F : D → D → D → D → D → D → D → D → R D} (h : ∀ a0 a1 a2 a3 a4 a5 a6 a7 : D, CallOk (c [.v a0, .v a1, .v a2, .v a3, .v a4, .v a5, .v a6, .v a7]) (F a0 a1 a2 a3 a4 a5 a6 a7) (uns [a0, a1, a2, a3, a4, a5, a6, a7])) : Z c (ap8 F) := fun xs => match xs with
  | [a0, a1, a2, a3, a4, a5, a6, a7] => h a0 a1 a2 a3 a4 a5 a6 a7
  | [] => ⟨trivial⟩
  | [_] => ⟨trivial⟩
  | [_, _] => ⟨trivial⟩
  | [_, _, _] => ⟨trivial⟩
  | [_, _, _, _] => ⟨trivial⟩
  | [_, _, _, _, _] => ⟨trivial⟩
  | [_, _, _, _, _, _] => ⟨trivial⟩
  | [_, _, _, _, _, _, _] => ⟨trivial⟩
  | _ :: _ :: _ :: _ :: _ :: _ :: _ :: _ :: _ :: _ => ⟨trivial⟩
theorem zn8 {c : Fn} {F : D → D → D → D → D → D → D → D → R (List D)} (h : ∀ a0 a1 a2 a3 a4 a5 a6 a7 : D, CallOkN (c [.v a0, .v a1, .v a2, .v a3, .v a4, .v a5, .v a6, .v a7]) (F a0 a1 a2 a3 a4 a5 a6 a7) (uns [a0, a1, a2, a3, a4, a5, a6, a7])) : ZN c (ap8 F) := fun xs => match xs with
  | [a0, a1, a2, a3, a4, a5, a6, a7] => h a0 a1 a2 a3 a4 a5 a6 a7
  | [] => ⟨trivial⟩
  | [_] => ⟨trivial⟩
  | [_, _] => ⟨trivial⟩
  | [_, _, _] => ⟨trivial⟩
  | [_, _, _, _] => ⟨trivial⟩
  | [_, _, _, _, _] => ⟨trivial⟩
  | [_, _, _, _, _, _] => ⟨trivial⟩
  | [_, _, _, _, _, _, _] => ⟨trivial⟩
  | _ :: _ :: _ :: _ :: _ :: _ :: _ :: _ :: _ :: _ => ⟨trivial⟩
theorem zm8 {c : Fn} {F : List D → D → D → D → D → D → D → D → D → R (D × List D)} (h : ∀ (a : List D) (a0 a1 a2 a3 a4 a5 a6 a7 : D), MOk (c [.p a, .v a0, .v a1, .v a2, .v a3, .v a4, .v a5, .v a6, .v a7]) (F a a0 a1 a2 a3 a4 a5 a6 a7) (uns [a0, a1, a2, a3, a4, a5, a6, a7])) : ZM c (am8 F) := fun a xs => match xs with
  | [a0, a1, a2, a3, a4, a5, a6, a7] => h a a0 a1 a2 a3 a4 a5 a6 a7
  | [] => ⟨trivial⟩
  | [_] => ⟨trivial⟩
  | [_, _] => ⟨trivial⟩
  | [_, _, _] => ⟨trivial⟩
  | [_, _, _, _] => ⟨trivial⟩
  | [_, _, _, _, _] => ⟨trivial⟩
  | [_, _, _, _, _, _] => ⟨trivial⟩
  | [_, _, _, _, _, _, _] => ⟨trivial⟩
  | _ :: _ :: _ :: _ :: _ :: _ :: _ :: _ :: _ :: _ => ⟨trivial⟩
theorem zmn8 {c : Fn} {F : List D → D → D → D → D → D → D → D → D → R (List D × List D)} (h : ∀ (a : List D) (a0 a1 a2 a3 a4 a5 a6 a7 : D), MOkN (c [.p a, .v a0, .v a1, .v a2, .v a3, .v a4, .v a5, .v a6, .v a7]) (F a a0 a1 a2 a3 a4 a5 a6 a7) (uns [a0, a1, a2, a3, a4, a5, a6, a7])) : ZMN c (am8 F) := fun a xs => match xs with
  | [a0, a1, a2, a3, a4, a5, a6, a7] => h a a0 a1 a2 a3 a4 a5 a6 a7
  | [] => ⟨trivial⟩
  | [_] => ⟨trivial⟩
  | [_, _] => ⟨trivial⟩
  | [_, _, _] => ⟨trivial⟩
  | [_, _, _, _] => ⟨trivial⟩
  | [_, _, _, _, _] => ⟨trivial⟩
  | [_, _, _, _, _, _] => ⟨trivial⟩
  | [_, _, _, _, _, _, _] => ⟨trivial⟩
  | _ :: _ :: _ :: _ :: _ :: _ :: _ :: _ :: _ :: _ => ⟨trivial⟩
theorem z9 {c : Fn} {F : D → D → D → D → D → D → D → D → D → R D} (h : ∀ a0 a1 a2 a3 a4 a5 a6 a7 a8 : D, CallOk (c [.v a0, .v a1, .v a2, .v a3, .v a4, .v a5, .v a6, .v a7, .v a8]) (F a0 a1 a2 a3 a4 a5 a6 a7 a8) (uns [a0, a1, a2, a3, a4, a5, a6, a7, a8])) : Z c (ap9 F) := fun xs => match xs with
  | [a0, a1, a2, a3, a4, a5, a6, a7, a8] => h a0 a1 a2 a3 a4 a5 a6 a7 a8
  | [] => ⟨trivial⟩
  | [_] => ⟨trivial⟩
  | [_, _] => ⟨trivial⟩
  | [_, _, _] => ⟨trivial⟩
  | [_, _, _, _] => ⟨trivial⟩
  | [_, _, _, _, _] => ⟨trivial⟩
  | [_, _, _, _, _, _] => ⟨trivial⟩
  | [_, _, _, _, _, _, _] => ⟨trivial⟩
  | [_, _, _, _, _, _, _, _] => ⟨trivial⟩
  | _ :: _ :: _ :: _ :: _ :: _ :: _ :: _ :: _ :: _ :: _ => ⟨trivial⟩
theorem zn9 {c : Fn} {F : D → D → D → D → D → D → D → D → D → R (List D)} (h : ∀ a0 a1 a2 a3 a4 a5 a6 a7 a8 : D, CallOkN (c [.v a0, .v a1, .v a2, .v a3, .v a4, .v a5, .v a6, .v a7, .v a8]) (F a0 a1 a2 a3 a4 a5 a6 a7 a8) (uns [a0, a1, a2, a3, a4, a5, a6, a7, a8])) : ZN c (ap9 F) := fun xs => match xs with
  | [a0, a1, a2, a3, a4, a5, a6, a7, a8] => h a0 a1 a2 a3 a4 a5 a6 a7 a8
  | [] => ⟨trivial⟩
  | [_] => ⟨trivial⟩
  | [_, _] => ⟨trivial⟩
  | [_, _, _] => ⟨trivial⟩
  | [_, _, _, _] => ⟨trivial⟩
  | [_, _, _, _, _] => ⟨trivial⟩
  | [_, _, _, _, _, _] => ⟨trivial⟩
  | [_, _, _, _, _, _, _] => ⟨trivial⟩
  | [_, _, _, _, _, _, _, _] => ⟨trivial⟩
  | _ :: _ :: _ :: _ :: _ :: _ :: _ :: _ :: _ :: _ :: _ => ⟨trivial⟩
theorem zm9 {c : Fn} {F : List D → D → D → D → D → D → D → D → D → D → R (D × List D)} (h : ∀ (a : List D) (a0 a1 a2 a3 a4 a5 a6 a7 a8 : D), MOk (c [.p a, .v a0, .v a1, .v a2, .v a3, .v a4, .v a5, .v a6, .v a7, .v a8]) (F a a0 a1 a2 a3 a4 a5 a6 a7 a8) (uns [a0, a1, a2, a3, a4, a5, a6, a7, a8])) : ZM c (am9 F) := fun a xs => match xs with
  | [a0, a1, a2, a3, a4, a5, a6, a7, a8] => h a a0 a1 a2 a3 a4 a5 a6 a7 a8
  | [] => ⟨trivial⟩
  | [_] => ⟨trivial⟩
  | [_, _] => ⟨trivial⟩
  | [_, _, _] => ⟨trivial⟩
  | [_, _, _, _] => ⟨trivial⟩
  | [_, _, _, _, _] => ⟨trivial⟩
  | [_, _, _, _, _, _] => ⟨trivial⟩
  | [_, _, _, _, _, _, _] => ⟨trivial⟩
  | [_, _, _, _, _, _, _, _] => ⟨trivial⟩
  | _ :: _ :: _ :: _ :: _ :: _ :: _ :: _ :: _ :: _ :: _ => ⟨trivial⟩
theorem zmn9 {c : Fn} {F : List D → D → D → D → D → D → D → D → D → D → R (List D × List D)} (h : ∀ (a : List D) (a0 a1 a2 a3 a4 a5 a6 a7 a8 : D), MOkN (c [.p a, .v a0, .v a1, .v a2, .v a3, .v a4, .v a5, .v a6, .v a7, .v a8]) (F a a0 a1 a2 a3 a4 a5 a6 a7 a8) (uns [a0, a1, a2, a3, a4, a5, a6, a7, a8])) : ZMN c (am9 F) := fun a xs => match xs with
  | [a0, a1, a2, a3, a4, a5, a6, a7, a8] => h a a0 a1 a2 a3 a4 a5 a6 a7 a8
  | [] => ⟨trivial⟩
  | [_] => ⟨trivial⟩
  | [_, _] => ⟨trivial⟩
  | [_, _, _] => ⟨trivial⟩
  | [_, _, _, _] => ⟨trivial⟩
  | [_, _, _, _, _] => ⟨trivial⟩
  | [_, _, _, _, _, _] => ⟨trivial⟩
  | [_, _, _, _, _, _, _] => ⟨trivial⟩
  | [_, _, _, _, _, _, _, _] => ⟨trivial⟩
  | _ :: _ :: _ :: _ :: _ :: _ :: _ :: _ :: _ :: _ :: _ => ⟨trivial⟩
theorem z10 {c : Fn} {F : D → D → D → D → D → D → D → D → D → D → R D} (h : ∀ a0 a1 a2 a3 a4 a5 a6 a7 a8 a9 : D, CallOk (c [.v a0, .v a1, .v a2, .v a3, .v a4, .v a5, .v a6, .v a7, .v a8, .v a9]) (F a0 a1 a2 a3 a4 a5 a6 a7 a8 a9) (uns [a0, a1, a2, a3, a4, a5, a6, a7, a8, a9])) : Z c (ap10 F) := fun xs => match xs with
  | [a0, a1, a2, a3, a4, a5, a6, a7, a8, a9] => h a0 a1 a2 a3 a4 a5 a6 a7 a8 a9
  | [] => ⟨trivial⟩
  | [_] => ⟨trivial⟩
  | [_, _] => ⟨trivial⟩
  | [_, _, _] => ⟨trivial⟩
  | [_, _, _, _] => ⟨trivial⟩
  | [_, _, _, _, _] => ⟨trivial⟩
  | [_, _, _, _, _, _] => ⟨trivial⟩
  | [_, _, _, _, _, _, _] => ⟨trivial⟩
  | [_, _, _, _, _, _, _, _] => ⟨trivial⟩
  | [_, _, _, _, _, _, _, _, _] => ⟨trivial⟩
  | _ :: _ :: _ :: _ :: _ :: _ :: _ :: _ :: _ :: _ :: _ :: _ => ⟨trivial⟩
theorem zn10 {c : Fn} {F : D → D → D → D → D → D → D → D → D → D → R (List D)} (h : ∀ a0 a1 a2 a3 a4 a5 a6 a7 a8 a9 : D, CallOkN (c [.v a0, .v a1, .v a2, .v a3, .v a4, .v a5, .v a6, .v a7, .v a8, .v a9]) (F a0 a1 a2 a3 a4 a5 a6 a7 a8 a9) (uns [a0, a1, a2, a3, a4, a5, a6, a7, a8, a9])) : ZN c (ap10 F) := fun xs => match xs with
  | [a0, a1, a2, a3, a4, a5, a6, a7, a8, a9] => h a0 a1 a2 a3 a4 a5 a6 a7 a8 a9
  | [] => ⟨trivial⟩
  | [_] => ⟨trivial⟩
  | [_, _] => ⟨trivial⟩
  | [_, _, _] => ⟨trivial⟩
  | [_, _, _, _] => ⟨trivial⟩
  | [_, _, _, _, _] => ⟨trivial⟩
  | [_, _, _, _, _, _] => ⟨trivial⟩
  | [_, _, _, _, _, _, _] => ⟨trivial⟩
  | [_, _, _, _, _, _, _, _] => ⟨trivial⟩
  | [_, _, _, _, _, _, _, _, _] => ⟨trivial⟩
  | _ :: _ :: _ :: _ :: _ :: _ :: _ :: _ :: _ :: _ :: _ :: _ => ⟨trivial⟩
theorem zm10 {c : Fn} {F : List D → D → D → D → D → D → D → D → D → D → D → R (D × List D)} (h : ∀ (a : List D) (a0 a1 a2 a3 a4 a5 a6 a7 a8 a9 : D), MOk (c [.p a, .v a0, .v a1, .v a2, .v a3, .v a4, .v a5, .v a6, .v a7, .v a8, .v a9]) (F a a0 a1 a2 a3 a4 a5 a6 a7 a8 a9) (uns [a0, a1, a2, a3, a4, a5, a6, a7, a8, a9])) : ZM c (am10 F) := fun a xs => match xs with
  | [a0, a1, a2, a3, a4, a5, a6, a7, a8, a9] => h a a0 a1 a2 a3 a4 a5 a6 a7 a8 a9
  | [] => ⟨trivial⟩
  | [_] => ⟨trivial⟩
  | [_, _] => ⟨trivial⟩
  | [_, _, _] => ⟨trivial⟩
  | [_, _, _, _] => ⟨trivial⟩
  | [_, _, _, _, _] => ⟨trivial⟩
  | [_, _, _, _, _, _] => ⟨trivial⟩
  | [_, _, _, _, _, _, _] => ⟨trivial⟩
  | [_, _, _, _, _, _, _, _] => ⟨trivial⟩
  | [_, _, _, _, _, _, _, _, _] => ⟨trivial⟩
  | _ :: _ :: _ :: _ :: _ :: _ :: _ :: _ :: _ :: _ :: _ :: _ => ⟨trivial⟩
theorem zmn10 {c : Fn} {F : List D → D → D → D → D → D → D → D → D → D → D → R (List D × List D)} (h : ∀ (a : List D) (a0 a1 a2 a3 a4 a5 a6 a7 a8 a9 : D), MOkN (c [.p a, .v a0, .v a1, .v a2, .v a3, .v a4, .v a5, .v a6, .v a7, .v a8, .v a9]) (F a a0 a1 a2 a3 a4 a5 a6 a7 a8 a9) (uns [a0, a1, a2, a3, a4, a5, a6, a7, a8, a9])) : ZMN c (am10 F) := fun a xs => match xs with
  | [a0, a1, a2, a3, a4, a5, a6, a7, a8, a9] => h a a0 a1 a2 a3 a4 a5 a6 a7 a8 a9
  | [] => ⟨trivial⟩
  | [_] => ⟨trivial⟩
  | [_, _] => ⟨trivial⟩
  | [_, _, _] => ⟨trivial⟩
  | [_, _, _, _] => ⟨trivial⟩
  | [_, _, _, _, _] => ⟨trivial⟩
  | [_, _, _, _, _, _] => ⟨trivial⟩
  | [_, _, _, _, _, _, _] => ⟨trivial⟩
  | [_, _, _, _, _, _, _, _] => ⟨trivial⟩
  | [_, _, _, _, _, _, _, _, _] => ⟨trivial⟩
  | _ :: _ :: _ :: _ :: _ :: _ :: _ :: _ :: _ :: _ :: _ :: _ => ⟨trivial⟩
theorem z11 {c : Fn} {F : D → D → D → D → D → D → D → D → D → D → D → R D} (h : ∀ a0 a1 a2 a3 a4 a5 a6 a7 a8 a9 a10 : D, CallOk (c [.v a0, .v a1, .v a2, .v a3, .v a4, .v a5, .v a6, .v a7, .v a8, .v a9, .v a10]) (F a0 a1 a2 a3 a4 a5 a6 a7 a8 a9 a10) (uns [a0, a1, a2, a3, a4, a5, a6, a7, a8, a9, a10])) : Z c (ap11 F) := fun xs => match xs with
  | [a0, a1, a2, a3, a4, a5, a6, a7, a8, a9, a10] => h a0 a1 a2 a3 a4 a5 a6 a7 a8 a9 a10
  | [] => ⟨trivial⟩
  | [_] => ⟨trivial⟩
  | [_, _] => ⟨trivial⟩
  | [_, _, _] => ⟨trivial⟩
  | [_, _, _, _] => ⟨trivial⟩
  | [_, _, _, _, _] => ⟨trivial⟩
  | [_, _, _, _, _, _] => ⟨trivial⟩
  | [_, _, _, _, _, _, _] => ⟨trivial⟩
  | [_, _, _, _, _, _, _, _] => ⟨trivial⟩
  | [_, _, _, _, _, _, _, _, _] => ⟨trivial⟩
  | [_, _, _, _, _, _, _, _, _, _] => ⟨trivial⟩
  | _ :: _ :: _ :: _ :: _ :: _ :: _ :: _ :: _ :: _ :: _ :: _ :: _ => ⟨trivial⟩
theorem zn11 {c : Fn} {F : D → D → D → D → D → D → D → D → D → D → D → R (List D)} (h : ∀ a0 a1 a2 a3 a4 a5 a6 a7 a8 a9 a10 : D, CallOkN (c [.v a0, .v a1, .v a2, .v a3, .v a4, .v a5, .v a6, .v a7, .v a8, .v a9, .v a10]) (F a0 a1 a2 a3 a4 a5 a6 a7 a8 a9 a10) (uns [a0, a1, a2, a3, a4, a5, a6, a7, a8, a9, a10])) : ZN c (ap11 F) := fun xs => match xs with
  | [a0, a1, a2, a3, a4, a5, a6, a7, a8, a9, a10] => h a0 a1 a2 a3 a4 a5 a6 a7 a8 a9 a10
  | [] => ⟨trivial⟩
  | [_] => ⟨trivial⟩
  | [_, _] => ⟨trivial⟩
  | [_, _, _] => ⟨trivial⟩
  | [_, _, _, _] => ⟨trivial⟩
  | [_, _, _, _, _] => ⟨trivial⟩
  | [_, _, _, _, _, _] => ⟨trivial⟩
  | [_, _, _, _, _, _, _] => ⟨trivial⟩
  | [_, _, _, _, _, _, _, _] => ⟨trivial⟩
  | [_, _, _, _, _, _, _, _, _] => ⟨trivial⟩
  | [_, _, _, _, _, _, _, _, _, _] => ⟨trivial⟩
  | _ :: _ :: _ :: _ :: _ :: _ :: _ :: _ :: _ :: _ :: _ :: _ :: _ => ⟨trivial⟩
theorem zm11 {c : Fn} {F : List D → D → D → D → D → D → D → D → D → D → D → D → R (D × List D)} (h : ∀ (a : List D) (a0 a1 a2 a3 a4 a5 a6 a7 a8 a9 a10 : D), MOk (c [.p a, .v a0, .v a1, .v a2, .v a3, .v a4, .v a5, .v a6, .v a7, .v a8, .v a9, .v a10]) (F a a0 a1 a2 a3 a4 a5 a6 a7 a8 a9 a10) (uns [a0, a1, a2, a3, a4, a5, a6, a7, a8, a9, a10])) : ZM c (am11 F) := fun a xs => match xs with
  | [a0, a1, a2, a3, a4, a5, a6, a7, a8, a9, a10] => h a a0 a1 a2 a3 a4 a5 a6 a7 a8 a9 a10
  | [] => ⟨trivial⟩
  | [_] => ⟨trivial⟩
  | [_, _] => ⟨trivial⟩
  | [_, _, _] => ⟨trivial⟩
  | [_, _, _, _] => ⟨trivial⟩
  | [_, _, _, _, _] => ⟨trivial⟩
  | [_, _, _, _, _, _] => ⟨trivial⟩
  | [_, _, _, _, _, _, _] => ⟨trivial⟩
  | [_, _, _, _, _, _, _, _] => ⟨trivial⟩
  | [_, _, _, _, _, _, _, _, _] => ⟨trivial⟩
  | [_, _, _, _, _, _, _, _, _, _] => ⟨trivial⟩
  | _ :: _ :: _ :: _ :: _ :: _ :: _ :: _ :: _ :: _ :: _ :: _ :: _ => ⟨trivial⟩
theorem zmn11 {c : Fn} {F : List D → D → D → D → D → D → D → D → D → D → D → D → R (List D × List D)} (h : ∀ (a : List D) (a0 a1 a2 a3 a4 a5 a6 a7 a8 a9 a10 : D), MOkN (c [.p a, .v a0, .v a1, .v a2, .v a3, .v a4, .v a5, .v a6, .v a7, .v a8, .v a9, .v a10]) (F a a0 a1 a2 a3 a4 a5 a6 a7 a8 a9 a10) (uns [a0, a1, a2, a3, a4, a5, a6, a7, a8, a9, a10])) : ZMN c (am11 F) := fun a xs => match xs with
  | [a0, a1, a2, a3, a4, a5, a6, a7, a8, a9, a10] => h a a0 a1 a2 a3 a4 a5 a6 a7 a8 a9 a10
  | [] => ⟨trivial⟩
  | [_] => ⟨trivial⟩
  | [_, _] => ⟨trivial⟩
  | [_, _, _] => ⟨trivial⟩
  | [_, _, _, _] => ⟨trivial⟩
  | [_, _, _, _, _] => ⟨trivial⟩
  | [_, _, _, _, _, _] => ⟨trivial⟩
  | [_, _, _, _, _, _, _] => ⟨trivial⟩
  | [_, _, _, _, _, _, _, _] => ⟨trivial⟩
  | [_, _, _, _, _, _, _, _, _] => ⟨trivial⟩
  | [_, _, _, _, _, _, _, _, _, _] => ⟨trivial⟩
  | _ :: _ :: _ :: _ :: _ :: _ :: _ :: _ :: _ :: _ :: _ :: _ :: _ => ⟨trivial⟩
theorem z12 {c : Fn} {F : D → D → D → D → D → D → D → D → D → D → D → D → R D} (h : ∀ a0 a1 a2 a3 a4 a5 a6 a7 a8 a9 a10 a11 : D, CallOk (c [.v a0, .v a1, .v a2, .v a3, .v a4, .v a5, .v a6, .v a7, .v a8, .v a9, .v a10, .v a11]) (F a0 a1 a2 a3 a4 a5 a6 a7 a8 a9 a10 a11) (uns [a0, a1, a2, a3, a4, a5, a6, a7, a8, a9, a10, a11])) : Z c (ap12 F) := fun xs => match xs with
  | [a0, a1, a2, a3, a4, a5, a6, a7, a8, a9, a10, a11] => h a0 a1 a2 a3 a4 a5 a6 a7 a8 a9 a10 a11
  | [] => ⟨trivial⟩
  | [_] => ⟨trivial⟩
  | [_, _] => ⟨trivial⟩
  | [_, _, _] => ⟨trivial⟩
  | [_, _, _, _] => ⟨trivial⟩
  | [_, _, _, _, _] => ⟨trivial⟩
  | [_, _, _, _, _, _] => ⟨trivial⟩
  | [_, _, _, _, _, _, _] => ⟨trivial⟩
  | [_, _, _, _, _, _, _, _] => ⟨trivial⟩
  | [_, _, _, _, _, _, _, _, _] => ⟨trivial⟩
  | [_, _, _, _, _, _, _, _, _, _] => ⟨trivial⟩
  | [_, _, _, _, _, _, _, _, _, _, _] => ⟨trivial⟩
  | _ :: _ :: _ :: _ :: _ :: _ :: _ :: _ :: _ :: _ :: _ :: _ :: _ :: _ => ⟨trivial⟩
theorem zn12 {c : Fn} {F : D → D → D → D → D → D → D → D → D → D → D → D → R (List D)} (h : ∀ a0 a1 a2 a3 a4 a5 a6 a7 a8 a9 a10 a11 : D, CallOkN (c [.v a0, .v a1, .v a2, .v a3, .v a4, .v a5, .v a6, .v a7, .v a8, .v a9, .v a10, .v a11]) (F a0 a1 a2 a3 a4 a5 a6 a7 a8 a9 a10 a11) (uns [a0, a1, a2, a3, a4, a5, a6, a7, a8, a9, a10, a11])) : ZN c (ap12 F) := fun xs => match xs with
  | [a0, a1, a2, a3, a4, a5, a6, a7, a8, a9, a10, a11] => h a0 a1 a2 a3 a4 a5 a6 a7 a8 a9 a10 a11
  | [] => ⟨trivial⟩
  | [_] => ⟨trivial⟩
  | [_, _] => ⟨trivial⟩
  | [_, _, _] => ⟨trivial⟩
  | [_, _, _, _] => ⟨trivial⟩
  | [_, _, _, _, _] => ⟨trivial⟩
  | [_, _, _, _, _, _] => ⟨trivial⟩
  | [_, _, _, _, _, _, _] => ⟨trivial⟩
  | [_, _, _, _, _, _, _, _] => ⟨trivial⟩
  | [_, _, _, _, _, _, _, _, _] => ⟨trivial⟩
  | [_, _, _, _, _, _, _, _, _, _] => ⟨trivial⟩
  | [_, _, _, _, _, _, _, _, _, _, _] => ⟨trivial⟩
  | _ :: _ :: _ :: _ :: _ :: _ :: _ :: _ :: _ :: _ :: _ :: _ :: _ :: _ => ⟨trivial⟩
theorem zm12 {c : Fn} {F : List D → D → D → D → D → D → D → D → D → D → D → D → D → R (D × List D)} (h : ∀ (a : List D) (a0 a1 a2 a3 a4 a5 a6 a7 a8 a9 a10 a11 : D), MOk (c [.p a, .v a0, .v a1, .v a2, .v a3, .v a4, .v a5, .v a6, .v a7, .v a8, .v a9, .v a10, .v a11]) (F a a0 a1 a2 a3 a4 a5 a6 a7 a8 a9 a10 a11) (uns [a0, a1, a2, a3, a4, a5, a6, a7, a8, a9, a10, a11])) : ZM c (am12 F) := fun a xs => match xs with
  | [a0, a1, a2, a3, a4, a5, a6, a7, a8, a9, a10, a11] => h a a0 a1 a2 a3 a4 a5 a6 a7 a8 a9 a10 a11
  | [] => ⟨trivial⟩
  | [_] => ⟨trivial⟩
  | [_, _] => ⟨trivial⟩
  | [_, _, _] => ⟨trivial⟩
  | [_, _, _, _] => ⟨trivial⟩
  | [_, _, _, _, _] => ⟨trivial⟩
  | [_, _, _, _, _, _] => ⟨trivial⟩
  | [_, _, _, _, _, _, _] => ⟨trivial⟩
  | [_, _, _, _, _, _, _, _] => ⟨trivial⟩
  | [_, _, _, _, _, _, _, _, _] => ⟨trivial⟩
  | [_, _, _, _, _, _, _, _, _, _] => ⟨trivial⟩
  | [_, _, _, _, _, _, _, _, _, _, _] => ⟨trivial⟩
  | _ :: _ :: _ :: _ :: _ :: _ :: _ :: _ :: _ :: _ :: _ :: _ :: _ :: _ => ⟨trivial⟩
theorem zmn12 {c : Fn} {F : List D → D → D → D → D → D → D → D → D → D → D → D → D → R (List D × List D)} (h : ∀ (a : List D) (a0 a1 a2 a3 a4 a5 a6 a7 a8 a9 a10 a11 : D), MOkN (c [.p a, .v a0, .v a1, .v a2, .v a3, .v a4, .v a5, .v a6, .v a7, .v a8, .v a9, .v a10, .v a11]) (F a a0 a1 a2 a3 a4 a5 a6 a7 a8 a9 a10 a11) (uns [a0, a1, a2, a3, a4, a5, a6, a7, a8, a9, a10, a11])) : ZMN c (am12 F) := fun a xs => match xs with
  | [a0, a1, a2, a3, a4, a5, a6, a7, a8, a9, a10, a11] => h a a0 a1 a2 a3 a4 a5 a6 a7 a8 a9 a10 a11
  | [] => ⟨trivial⟩
  | [_] => ⟨trivial⟩
  | [_, _] => ⟨trivial⟩
  | [_, _, _] => ⟨trivial⟩
  | [_, _, _, _] => ⟨trivial⟩
  | [_, _, _, _, _] => ⟨trivial⟩
  | [_, _, _, _, _, _] => ⟨trivial⟩
  | [_, _, _, _, _, _, _] => ⟨trivial⟩
  | [_, _, _, _, _, _, _, _] => ⟨trivial⟩
  | [_, _, _, _, _, _, _, _, _] => ⟨trivial⟩
  | [_, _, _, _, _, _, _, _, _, _] => ⟨trivial⟩
  | [_, _, _, _, _, _, _, _, _, _, _] => ⟨trivial⟩
  | _ :: _ :: _ :: _ :: _ :: _ :: _ :: _ :: _ :: _ :: _ :: _ :: _ :: _ => ⟨trivial⟩
theorem x_ixW {τ : Type} {ε : Pat} {P : τ → Pat} {j : Nat} {x : D} {a : Env → Res D} {m : S τ D} (e : ∀ t, (P t)[j]? = some (.w x)) (ha : EX ε P a m) : EX ε P (dIxO j a) (S.bin fIx (S.ok x) m) := .mk fun t r h => by
  obtain ⟨s, h1, h2⟩ := h.get (e t)
  cases h2
  have : getOpn r j = none := by simp [h1]
  unfold dIxO
  rw [this]
  exact (x_bin (x_w j e) ha).run t r h
/-! ## Rules -/
section
variable {ρ κ σ τ α β γ : Type}
@[simp] theorem R_ok {a : α} {k : α → R β} : (R.ok a).bind k = k a := (rfl)
@[simp] theorem R_err {a : D} {k : α → R β} : (R.err a).bind k = .err a := (rfl)
@[simp] theorem R_nb {a : α} : (R.ok a).nb = .ok a := (rfl)
@[simp] theorem s_ok {a : α} {k : α → S τ β} : (S.ok a).bind k = k a := (rfl)
@[simp] theorem s_err {a : D} {k : α → S τ β} : (S.err a).bind k = S.err a := (rfl)
@[simp] theorem s_some {a : α} : (S.of (some a) : S τ α) = S.ok a := (rfl)
@[simp] theorem s_lok {a : α} : (S.lift (.ok a) : S τ α) = S.ok a := (rfl)
@[simp] theorem s_lerr {e : D} : (S.lift (.err e : R α) : S τ α) = S.err e := (rfl)
@[simp] theorem s_app {a : α} {t : τ} : S.ok a t = .ok (a, t) := (rfl)
@[simp] theorem s_eapp {a : D} {t : τ} : (S.err a : S τ α) t = .err a := (rfl)
@[simp] theorem s_bin {f : D → D → Option D} {x y : D} : (S.bin f (S.ok x) (S.ok y) : S τ D) = S.of (f x y) := (rfl)
@[simp] theorem s_un {f : D → Option D} {x : D} : (S.un f (S.ok x) : S τ D) = S.of (f x) := (rfl)
@[simp] theorem s_cal {f : List D → Option D} {x : List D} : (S.cal f (S.ok x) : S τ D) = S.of (f x) := (rfl)
@[simp] theorem s_tst {b : Bool} : (S.tst (S.ok (.bl b)) : S τ Bool) = S.ok b := (rfl)
@[simp] theorem s_tru {x : D} : (S.tru (S.ok x) : S τ Bool) = S.of (fTru x) := (rfl)
@[simp] theorem s_not {b : Bool} : (S.not (S.ok b) : S τ Bool) = S.ok (!b) := (rfl)
@[simp] theorem s_andT {n : S τ Bool} : S.and (S.ok true) n = n := (rfl)
@[simp] theorem s_andF {n : S τ Bool} : S.and (S.ok false) n = S.ok false := (rfl)
@[simp] theorem s_orT {n : S τ Bool} : S.or (S.ok true) n = S.ok true := (rfl)
@[simp] theorem s_orF {n : S τ Bool} : S.or (S.ok false) n = n := (rfl)
@[simp] theorem s_andB {a b : Bool} : (S.and (S.ok a) (S.ok b) : S τ Bool) = S.ok (a && b) := by cases a <;> rfl
@[simp] theorem s_orB {a b : Bool} : (S.or (S.ok a) (S.ok b) : S τ Bool) = S.ok (a || b) := by cases a <;> rfl
@[simp] theorem s_andV {x : D} {n : S τ D} : S.andV (S.ok x) n = match fTru x with | some true => n | some false => S.ok x | none => S.bad := (rfl)
@[simp] theorem s_orV {x : D} {n : S τ D} : S.orV (S.ok x) n = match fTru x with | some true => S.ok x | some false => n | none => S.bad := (rfl)
@[simp] theorem s_notV {x : D} : (S.notV (S.ok x) : S τ D) = match fTru x with | some b => S.ok (.bl (!b)) | none => S.bad := (rfl)
@[simp] theorem s_ifeT {m n : S τ α} : S.ife (S.ok true) m n = m := (rfl)
@[simp] theorem s_ifeF {m n : S τ α} : S.ife (S.ok false) m n = n := (rfl)
theorem s_ife {b : Bool} {m n : S τ α} : S.ife (S.ok b) m n = if b = true then m else n := (rfl)
@[simp] theorem s_nil : (S.nil : S τ (List D)) = S.ok [] := (rfl)
@[simp] theorem s_cons {x : D} {xs : List D} : (S.cons (S.ok x) (S.ok xs) : S τ (List D)) = S.ok (x :: xs) := (rfl)
@[simp] theorem s_tup {xs : List D} : (S.tup (S.ok xs) : S τ D) = if xs.length ≤ 16777216 then S.ok (.tup xs) else S.bad := (rfl)
@[simp] theorem s_lst {xs : List D} : (S.lst (S.ok xs) : S τ (List D)) = if xs.length ≤ 16777216 then S.ok xs else S.bad := (rfl)
@[simp] theorem s_toL {xs : List D} : (S.toL (S.ok xs) : S τ D) = S.ok (.lst xs) := (rfl)
@[simp] theorem s_items {x : D} : (S.items (S.ok x) : S τ (List D)) = S.of (itemsOf x) := (rfl)
@[simp] theorem s_it {f : List D → Option (List D)} {x : List D} : (S.it f (S.ok x) : S τ (List D)) = S.of (f x) := (rfl)
@[simp] theorem s_call {F : List D → R α} {xs : List D} : (S.call F (S.ok xs) : S τ α) = S.lift (F xs) := (rfl)
@[simp] theorem s_callM {F : List D → List D → R (α × List D)} {xs t : List D} : S.callM F (S.ok xs) t = (F t xs).nb := (rfl)
@[simp] theorem s_part {i : Int} : (S.part (S.ok (.int i)) : S τ (Option Int)) = S.ok (some i) := (rfl)
@[simp] theorem s_nop : (S.nop : S τ (Option Int)) = S.ok none := (rfl)
@[simp] theorem s_cut {x : D} {a b : Option Int} : (S.cut (S.ok x) (S.ok a) (S.ok b) : S τ D) = S.of (fCut x a b) := (rfl)
@[simp] theorem s_tupRg2 {i j : Int} : (S.tupRg2 (S.ok (.int i)) (S.ok (.int j)) : S τ D) = S.of (fTupRg i j) := (rfl)
@[simp] theorem s_tupRg1 {j : Int} : (S.tupRg1 (S.ok (.int j)) : S τ D) = S.of (fTupRg 0 j) := (rfl)
@[simp] theorem s_at {T : Tbl} {f n g : Str} {y : D} : (S.at T f (S.ok (.exc n g y)) : S τ D) = if g = f ∧ (T.lookup n).isSome = true then S.ok y else S.bad := (rfl)
@[simp] theorem s_catN {xs ys : List D} : (S.catN (S.ok (.lst xs)) (S.ok (.lst ys)) : S τ (List D)) = if xs.length + ys.length ≤ 16777216 then S.ok (xs ++ ys) else S.bad := (rfl)
@[simp] theorem s_nb {a : α} : S.nb (S.ok a : S τ α) = S.ok a := (rfl)
@[simp] theorem s_lenO {ds : List D} : (S.lenO ds : S τ D) = S.ok (.int ds.length) := (rfl)
@[simp] theorem s_truO {ds : List D} : (S.truO ds : S τ Bool) = S.ok (!ds.isEmpty) := (rfl)
@[simp] theorem s_ixO {ds : List D} {i : Int} : (S.ixO ds (S.ok (.int i)) : S τ D) = S.of (atI ds i) := (rfl)
@[simp] theorem s_lc {xs : List D} {gh : D → Option β} {t : β → S τ Bool} {e : β → S τ D} : S.lc (S.ok xs) gh t e = (lcS gh t e xs).bind fun ys => if ys.length ≤ 16777216 then S.ok ys else S.bad := (rfl)
@[simp] theorem o_nx {b : β} {k : β → O ρ κ γ} : (O.nx b : O ρ κ β).seq k = k b := (rfl)
@[simp] theorem o_rt {b : ρ} {k : β → O ρ κ γ} : (O.rt b : O ρ κ β).seq k = .rt b := (rfl)
@[simp] theorem o_err {b : D} {k : β → O ρ κ γ} : (O.err b : O ρ κ β).seq k = .err b := (rfl)
@[simp] theorem o_bk {b : κ} {k : β → O ρ κ γ} : (O.bk b : O ρ κ β).seq k = .bk b := (rfl)
@[simp] theorem o_ct {b : κ} {k : β → O ρ κ γ} : (O.ct b : O ρ κ β).seq k = .ct b := (rfl)
@[simp] theorem o_ofP {a : α} : (O.ofP (S.ok a) : O ρ κ α) = .nx a := (rfl)
@[simp] theorem o_ofPe {a : D} : (O.ofP (S.err a) : O ρ κ α) = .err a := (rfl)
theorem o_ofS {m : S τ α} {t : τ} {y : α × τ} (h : m t = .ok y) : (O.ofS m t : O ρ κ (α × τ)) = .nx y := by unfold O.ofS; rw [h]
@[simp] theorem o_ofSo {a : α} {t : τ} : (O.ofS (S.ok a) t : O ρ κ (α × τ)) = .nx (a, t) := (rfl)
@[simp] theorem o_ofSe {a : D} {t : τ} : (O.ofS (S.err a : S τ α) t : O ρ κ (α × τ)) = .err a := (rfl)
@[simp] theorem o_ofO {a : α} : (O.ofO (some a) : O ρ κ α) = .nx a := (rfl)
@[simp] theorem o_retP {a : α} {f : α → ρ} : (retP f (S.ok a) : O ρ κ β) = .rt (f a) := (rfl)
@[simp] theorem o_retPe {a : D} {f : α → ρ} : (retP f (S.err a) : O ρ κ β) = .err a := (rfl)
theorem o_retS {f : α × τ → ρ} {m : S τ α} {t : τ} {y : α × τ} (h : m t = .ok y) : (retS f m t : O ρ κ β) = .rt (f y) := by unfold retS; rw [o_ofS h]; rfl
@[simp] theorem o_iteP {a b : O ρ κ β} {c : Bool} : iteP (S.ok c) a b = if c = true then a else b := (rfl)
theorem o_iteS {a b : τ → O ρ κ β} {m : S τ Bool} {t u : τ} {c : Bool} (h : m t = .ok (c, u)) : iteS m t a b = if c = true then a u else b u := by unfold iteS; rw [o_ofS h]; rfl
@[simp] theorem o_mutP {f : List D → List D → Option (D × List D)} {ds xs : List D} : (mutP f ds (S.ok xs) : O ρ κ (D × List D)) = O.ofO (f ds xs) := (rfl)
theorem o_mutS {f : List D → List D → Option (D × List D)} {ds xs : List D} {m : S τ (List D)} {t u : τ} (h : m t = .ok (xs, u)) : (mutS f ds m t : O ρ κ ((D × List D) × τ)) = (O.ofO (f ds xs)).seq fun z => .nx (z, u) := by unfold mutS; rw [o_ofS h]; rfl
@[simp] theorem o_loop0 {f : σ → D → O ρ σ σ} {s : σ} : (loop f [] s : O ρ κ σ) = .nx s := (rfl)
@[simp] theorem o_setIx {ds : List D} {k : Int} {x : D} : (setIx ds (S.ok (.int k)) (S.ok x) : O ρ κ (List D)) = match ixN ds.length k with
    | some n => .nx (ds.set n x)
    | none => .bad := (rfl)
@[simp] theorem o_raise {n f : Str} {x : D} : (raiseO n f (S.ok x) : O ρ κ β) = .err (.exc n f x) := (rfl)
@[simp] theorem o_tryE {e : D} {k : D → O ρ κ β} : tryO (.err e) k = k e := (rfl)
@[simp] theorem o_tryN {b : β} {k : D → O ρ κ β} : tryO (.nx b) k = .nx b := (rfl)
@[simp] theorem o_tryR {x : ρ} {k : D → O ρ κ β} : tryO (.rt x) k = .rt x := (rfl)
@[simp] theorem o_noN {b : β} : noE (.nx b : O ρ κ β) = .nx b := (rfl)
@[simp] theorem o_noR {b : ρ} : noE (.rt b : O ρ κ β) = .rt b := (rfl)
@[simp] theorem f_nx {b : β} : fin (.nx b) = .ok .non := (rfl)
@[simp] theorem f_rt {x : D} : fin (.rt x : O D Empty β) = .ok x := (rfl)
@[simp] theorem f_err {x : D} : fin (.err x : O D Empty β) = .err x := (rfl)
@[simp] theorem fN_rt {x : ρ} : finN (.rt x : O ρ Empty β) = .ok x := (rfl)
@[simp] theorem fN_err {x : D} : finN (.err x : O ρ Empty β) = .err x := (rfl)
@[simp] theorem t_C {β : Type} {ga : D → Option α} {gb : List D → Option β} {x : D} {xs : List D} : tC ga gb (x :: xs) = (ga x).bind fun a => (gb xs).map fun b => (a, b) := (rfl)
@[simp] theorem t_0 : t0 [] = some () := (rfl)
@[simp] theorem t_Sq {n : Nat} {b : List D → Option β} {x : D} : tSq n b x = (itemsOf x).bind fun ds => if ds.length = n then b ds else none := (rfl)
@[simp] theorem t_Tp {n : Nat} {b : List D → Option β} {ds : List D} : tTp n b (.tup ds) = if ds.length = n then b ds else none := (rfl)
/-! what is raised goes through -/
@[simp] theorem s_binE1 {f : D → D → Option D} {e : D} {n : S τ D} : (S.bin f (S.err e) n : S τ D) = S.err e := (rfl)
@[simp] theorem s_binE2 {f : D → D → Option D} {x e : D} : (S.bin f (S.ok x) (S.err e) : S τ D) = S.err e := (rfl)
@[simp] theorem s_unE {f : D → Option D} {e : D} : (S.un f (S.err e) : S τ D) = S.err e := (rfl)
@[simp] theorem s_calE {f : List D → Option D} {e : D} : (S.cal f (S.err e) : S τ D) = S.err e := (rfl)
@[simp] theorem s_tstE {e : D} : (S.tst (S.err e) : S τ Bool) = S.err e := (rfl)
@[simp] theorem s_truE {e : D} : (S.tru (S.err e) : S τ Bool) = S.err e := (rfl)
@[simp] theorem s_notE {e : D} : (S.not (S.err e) : S τ Bool) = S.err e := (rfl)
@[simp] theorem s_andE {e : D} {n : S τ Bool} : S.and (S.err e) n = S.err e := (rfl)
@[simp] theorem s_orE {e : D} {n : S τ Bool} : S.or (S.err e) n = S.err e := (rfl)
@[simp] theorem s_andVE {e : D} {n : S τ D} : S.andV (S.err e) n = S.err e := (rfl)
@[simp] theorem s_orVE {e : D} {n : S τ D} : S.orV (S.err e) n = S.err e := (rfl)
@[simp] theorem s_notVE {e : D} : (S.notV (S.err e) : S τ D) = S.err e := (rfl)
@[simp] theorem s_ifeE {e : D} {m n : S τ α} : S.ife (S.err e) m n = S.err e := (rfl)
@[simp] theorem s_consE1 {e : D} {n : S τ (List D)} : (S.cons (S.err e) n : S τ (List D)) = S.err e := (rfl)
@[simp] theorem s_consE2 {x e : D} : (S.cons (S.ok x) (S.err e) : S τ (List D)) = S.err e := (rfl)
@[simp] theorem s_tupE {e : D} : (S.tup (S.err e) : S τ D) = S.err e := (rfl)
@[simp] theorem s_lstE {e : D} : (S.lst (S.err e) : S τ (List D)) = S.err e := (rfl)
@[simp] theorem s_toLE {e : D} : (S.toL (S.err e) : S τ D) = S.err e := (rfl)
@[simp] theorem s_itemsE {e : D} : (S.items (S.err e) : S τ (List D)) = S.err e := (rfl)
@[simp] theorem s_itE {f : List D → Option (List D)} {e : D} : (S.it f (S.err e) : S τ (List D)) = S.err e := (rfl)
@[simp] theorem s_callE {F : List D → R α} {e : D} : (S.call F (S.err e) : S τ α) = S.err e := (rfl)
@[simp] theorem s_partE {e : D} : (S.part (S.err e) : S τ (Option Int)) = S.err e := (rfl)
@[simp] theorem s_cutE {e : D} {a b : S τ (Option Int)} : (S.cut (S.err e) a b : S τ D) = S.err e := (rfl)
@[simp] theorem s_lcE {e : D} {gh : D → Option β} {t : β → S τ Bool} {k : β → S τ D} : S.lc (S.err e) gh t k = S.err e := (rfl)
@[simp] theorem o_itePE {a b : O ρ κ β} {e : D} : iteP (S.err e) a b = .err e := (rfl)
@[simp] theorem o_mutPE {f : List D → List D → Option (D × List D)} {ds : List D} {e : D} : (mutP f ds (S.err e) : O ρ κ (D × List D)) = .err e := (rfl)
@[simp] theorem o_raiseE {n f : Str} {e : D} : (raiseO n f (S.err e) : O ρ κ β) = .err e := (rfl)
/-! loops -/
theorem loop_st {f : σ → D → O ρ σ σ} (E : α → σ) (enc : β → D) (st : α → β → α) : ∀ (xs : List β) (s : α), (∀ s, ∀ x ∈ xs, f (E s) (enc x) = .nx (E (st s x))) → (loop f (xs.map enc) (E s) : O ρ κ σ) = .nx (E (xs.foldl st s))
  | [], s, _ => rfl
  | x :: xs, s, h => by
    rw [List.map_cons]
    unfold loop
    rw [h s x List.mem_cons_self]
    exact loop_st E enc st xs _ fun s y hy => h s y (List.mem_cons_of_mem _ hy)
theorem loop_ind {f : σ → D → O ρ σ σ} (enc : β → D) (I : List β → σ → Prop) (stp : ∀ a as s, I (a :: as) s → ∃ s', (f s (enc a) = .nx s' ∨ f s (enc a) = .ct s') ∧ I as s') : ∀ (xs : List β) (s : σ), I xs s → ∃ s', (loop f (xs.map enc) s : O ρ κ σ) = .nx s' ∧ I [] s'
  | [], s, h => ⟨s, rfl, h⟩
  | x :: xs, s, h => by
    obtain ⟨s1, h1, h2⟩ := stp x xs s h
    obtain ⟨s2, h3, h4⟩ := loop_ind enc I stp xs s1 h2
    refine ⟨s2, ?_, h4⟩
    rw [List.map_cons]
    unfold loop
    rcases h1 with h1 | h1 <;> rw [h1] <;> exact h3
theorem loop_or {f : σ → D → O ρ σ σ} (enc : β → D) (I : List β → σ → Prop) (R : ρ → Prop) (stp : ∀ a as s, I (a :: as) s → (∃ s', (f s (enc a) = .nx s' ∨ f s (enc a) = .ct s') ∧ I as s') ∨ ∃ x, f s (enc a) = .rt x ∧ R x) : ∀ (xs : List β) (s : σ), I xs s → (∃ s', (loop f (xs.map enc) s : O ρ κ σ) = .nx s' ∧ I [] s') ∨ ∃ x, (loop f (xs.map enc) s : O ρ κ σ) = .rt x ∧ R x
  | [], s, h => .inl ⟨s, rfl, h⟩
  | x :: xs, s, h => by
    rw [List.map_cons]
    unfold loop
    rcases stp x xs s h with ⟨s1, h1, h2⟩ | ⟨y, h1, h2⟩
    · rcases h1 with h1 | h1 <;> rw [h1] <;> exact loop_or enc I R stp xs s1 h2
    · rw [h1]; exact .inr ⟨y, rfl, h2⟩
/-- all turns say nothing -/
theorem loop_same {f : σ → D → O ρ σ σ} {xs : List D} {s : σ} (h : ∀ x ∈ xs, f s x = .nx s) : (loop f xs s : O ρ κ σ) = .nx s := by
  induction xs with
  | nil => rfl
  | cons x xs ih =>
    unfold loop
    rw [h x List.mem_cons_self]
    exact ih fun y hy => h y (List.mem_cons_of_mem _ hy)
theorem loop_R {f : σ → D → O ρ σ σ} (lo : Int) (n : Nat) (I : Nat → σ → Prop) (stp : ∀ k s, k < n → I k s → ∃ s', (f s (.int (lo + (k : Int))) = .nx s' ∨ f s (.int (lo + (k : Int))) = .ct s') ∧ I (k + 1) s') (s : σ) (h : I 0 s) : ∃ s', (loop f (intsD lo n) s : O ρ κ σ) = .nx s' ∧ I n s' := by
  have key : ∀ (m k : Nat) (s : σ), k + m = n → I k s → ∃ s', (loop f ((List.range' k m).map fun (k : Nat) => D.int (lo + (k : Int))) s : O ρ κ σ) = .nx s' ∧ I n s' := by
    intro m
    induction m with
    | zero => intro k s e h; exact ⟨s, rfl, by rw [← e]; exact h⟩
    | succ m ih =>
      intro k s e h
      obtain ⟨s1, h1, h2⟩ := stp k s (by omega) h
      obtain ⟨s2, h3, h4⟩ := ih (k + 1) s1 (by omega) h2
      refine ⟨s2, ?_, h4⟩
      rw [List.range'_succ, List.map_cons]
      unfold loop
      rcases h1 with h1 | h1 <;> rw [h1] <;> exact h3
  unfold intsD
  rw [List.range_eq_range']
  exact key n 0 s (by omega) h
/-! comprehensions -/
theorem lcS_map {γ' : Type} (enc : γ → D) (f : γ → D) (ph : γ → Bool) {gh : D → Option β} {t : β → S τ Bool} {e : β → S τ D} : ∀ (xs : List γ), (∀ x ∈ xs, ∃ z, gh (enc x) = some z ∧ t z = S.ok (ph x) ∧ (ph x = true → e z = S.ok (f x))) → lcS gh t e (xs.map enc) = S.ok ((xs.filter ph).map f)
  | [], _ => rfl
  | x :: xs, h => by
    obtain ⟨z, h1, h2, h3⟩ := h x List.mem_cons_self
    have ih := lcS_map (γ' := γ') enc f ph (gh := gh) (t := t) (e := e) xs fun y hy => h y (List.mem_cons_of_mem _ hy)
    rw [List.map_cons]
    unfold lcS
    rw [h1, s_some, s_ok, h2, s_nb, s_ok]
    cases hp : ph x with
    | true => simp only [if_true]; rw [h3 hp, s_nb, s_ok, ih, s_ok]; simp [hp]
    | false => simp only [Bool.false_eq_true, if_false]; rw [ih]; simp [hp]
theorem lc_map (enc : γ → D) (f : γ → D) {gh : D → Option β} {e : β → S τ D} (xs : List γ) (hl : xs.length ≤ 16777216) (h : ∀ x ∈ xs, ∃ z, gh (enc x) = some z ∧ e z = S.ok (f x)) : S.lc (S.ok (xs.map enc)) gh (fun _ => S.ok true) e = S.ok (xs.map f) := by
  rw [s_lc, lcS_map (γ' := Unit) enc f (fun _ => true) xs fun x hx => by obtain ⟨z, h1, h2⟩ := h x hx; exact ⟨z, h1, rfl, fun _ => h2⟩, s_ok, show xs.filter (fun _ => true) = xs from List.filter_eq_self.mpr fun _ _ => rfl]
  simp [hl]
theorem lc_filter (enc : γ → D) (f : γ → D) (ph : γ → Bool) {gh : D → Option β} {t : β → S τ Bool} {e : β → S τ D} (xs : List γ) (hl : xs.length ≤ 16777216) (h : ∀ x ∈ xs, ∃ z, gh (enc x) = some z ∧ t z = S.ok (ph x) ∧ (ph x = true → e z = S.ok (f x))) : S.lc (S.ok (xs.map enc)) gh t e = S.ok ((xs.filter ph).map f) := by
  rw [s_lc, lcS_map (γ' := Unit) enc f ph xs h, s_ok]
  have : (xs.filter ph).length ≤ xs.length := List.length_filter_le _ _
  simp [show (xs.filter ph).length ≤ 16777216 by omega]
end
end Py.Fu
end

section
set_option maxHeartbeats 400000
namespace Py.Fu
open PySem L2
/-! ## x < y < z -/
section
variable {τ α β γ ρ κ : Type} {ε : Pat} {P : τ → Pat}
def S.chain (f g : D → D → Option D) (m n l : S τ D) : S τ D := m.bind fun x => n.bind fun y => (S.tst (S.of (f x y))).bind fun b => if b = true then l.bind fun w => S.of (g y w) else S.ok (.bl false)
theorem x_chain {f g : D → D → Option D} {a b c : Env → Res D} {m n l : S τ D} (ha : EX ε P a m) (hb : EX ε P b n) (hc : EX ε P c l) : EX ε P (dChain f g a b c) (S.chain f g m n l) := EX.bind ha fun x => EX.bind hb fun y => by
  cases f x y with
  | none => exact EG.bad
  | some z =>
    cases z with
    | bl k =>
      cases k with
      | true => exact EX.bind hc fun w => EX.of
      | false => exact EX.ok
    | _ => exact EG.bad
@[simp] theorem s_chain {f g : D → D → Option D} {x y : D} {l : S τ D} : S.chain f g (S.ok x) (S.ok y) l = (S.tst (S.of (f x y))).bind fun b => if b = true then l.bind fun w => S.of (g y w) else S.ok (.bl false) := (rfl)
/-! ## x += e -/
def augP (f : Int → Int → Int) (x : D) (m : S Unit D) : O ρ κ D := match x with
  | .int a => (O.ofP m).seq fun y => match y with
    | .int b => .nx (.int (f a b))
    | _ => .bad
  | _ => .bad
@[simp] theorem o_aug {f : Int → Int → Int} {a b : Int} : (augP f (.int a) (S.ok (.int b)) : O ρ κ D) = .nx (.int (f a b)) := (rfl)
theorem npAt_w {p : Pat} {i : Nat} {x : D} (e : p[i]? = some (.w x)) : npAt p i = true := by unfold npAt; rw [e]
theorem npAt_v {p : Pat} {i : Nat} {x : D} (e : p[i]? = some (.v x)) : npAt p i = true := by unfold npAt; rw [e]
theorem aug_aux {c : Cx ρ κ} {p : Pat} {i : Nat} {f : Int → Int → Int} {x : D} {d : Env → Res D} {m : S Unit D} (k : npAt p i = true) (h : EX c.ε (fun _ => p) d m) (r : Env) (z : PR p r) (hx : r[i]? = some (.v x)) : SO c (fun y => p.set i (.w y)) (dAug i f d r) (augP f x m) := by
  unfold dAug augP
  rw [hx]
  cases x with
  | int a =>
    simp only
    exact toP_ok (c := c) (Q2 := fun y => p.set i (.w y)) h (fun v y r e z => by
      subst e
      cases v with
      | int b => simp only [notP_of z k, if_true]; exact ⟨_, rfl, z.set rfl⟩
      | _ => trivial) r z
  | _ => trivial
theorem st_augW {c : Cx ρ κ} {p : Pat} {i : Nat} {f : Int → Int → Int} {x : D} {d : Env → Res D} {m : S Unit D} (e : p[i]? = some (.w x)) (h : EX c.ε (fun _ => p) d m) : ST c p (dAug i f d) (augP f x m) (fun y => p.set i (.w y)) := .mk fun r z => by
  obtain ⟨s, h1, h2⟩ := z.get e
  cases h2
  exact aug_aux (npAt_w e) h r z h1
theorem st_augV {c : Cx ρ κ} {p : Pat} {i : Nat} {f : Int → Int → Int} {x : D} {d : Env → Res D} {m : S Unit D} (e : p[i]? = some (.v x)) (h : EX c.ε (fun _ => p) d m) : ST c p (dAug i f d) (augP f x m) (fun y => p.set i (.w y)) := .mk fun r z => by
  obtain ⟨s, h1, h2⟩ := z.get e
  rcases h2 with rfl | ⟨ds, rfl, rfl⟩
  · exact aug_aux (npAt_v e) h r z h1
  · trivial
end
end Py.Fu
end

section
set_option maxHeartbeats 400000
namespace Py.Fu
open PySem L2
/-- an invariant: some of the turns may break off -/
theorem loop_inv {ρ κ σ : Type} {f : σ → D → O ρ σ σ} (I : σ → Prop) {xs : List D} (stp : ∀ x ∈ xs, ∀ s, I s → ∃ s', (f s x = .nx s' ∨ f s x = .ct s' ∨ f s x = .bk s') ∧ I s') : ∀ (s : σ), I s → ∃ s', (loop f xs s : O ρ κ σ) = .nx s' ∧ I s' := by
  induction xs with
  | nil => exact fun s h => ⟨s, rfl, h⟩
  | cons x xs ih =>
    intro s h
    obtain ⟨s1, h1, h2⟩ := stp x List.mem_cons_self s h
    unfold loop
    rcases h1 with h1 | h1 | h1 <;> rw [h1]
    · exact ih (fun y hy => stp y (List.mem_cons_of_mem _ hy)) s1 h2
    · exact ih (fun y hy => stp y (List.mem_cons_of_mem _ hy)) s1 h2
    · exact ⟨s1, rfl, h2⟩
/-! a written list goes through -/
def R.toO {ρ κ α : Type} : R α → O ρ κ α
  | .ok a => .nx a
  | .err e => .err e
  | .bad => .bad
section
variable {ρ κ τ α β : Type} {t : τ}
@[simp] theorem toO_ok {a : α} : (R.toO (.ok a) : O ρ κ α) = .nx a := (rfl)
@[simp] theorem toO_err {e : D} : (R.toO (.err e) : O ρ κ α) = .err e := (rfl)
@[simp] theorem ofS_app {m : S τ α} : (O.ofS m t : O ρ κ (α × τ)) = R.toO (m t) := by unfold O.ofS; cases m t <;> rfl
@[simp] theorem retS_app {f : α × τ → ρ} {m : S τ α} : (retS f m t : O ρ κ β) = (R.toO (m t)).seq fun y => .rt (f y) := by unfold retS; rw [ofS_app]
@[simp] theorem iteS_app {m : S τ Bool} {a b : τ → O ρ κ β} : (iteS m t a b : O ρ κ β) = (R.toO (m t)).seq fun y => if y.1 = true then a y.2 else b y.2 := by unfold iteS; rw [ofS_app]
@[simp] theorem mutS_app {f : List D → List D → Option (D × List D)} {ds : List D} {m : S τ (List D)} : (mutS f ds m t : O ρ κ ((D × List D) × τ)) = (R.toO (m t)).seq fun y => (O.ofO (f ds y.1)).seq fun z => .nx (z, y.2) := by unfold mutS; rw [ofS_app]
@[simp] theorem app_bind {m : S τ α} {k : α → S τ β} : S.bind m k t = (m t).bind fun y => k y.1 y.2 := (rfl)
@[simp] theorem app_bin {f : D → D → Option D} {m n : S τ D} : S.bin f m n t = (m t).bind fun y => (n y.2).bind fun z => S.of (f y.1 z.1) z.2 := (rfl)
@[simp] theorem app_un {f : D → Option D} {m : S τ D} : S.un f m t = (m t).bind fun y => S.of (f y.1) y.2 := (rfl)
@[simp] theorem app_cal {f : List D → Option D} {m : S τ (List D)} : S.cal f m t = (m t).bind fun y => S.of (f y.1) y.2 := (rfl)
@[simp] theorem app_it {f : List D → Option (List D)} {m : S τ (List D)} : S.it f m t = (m t).bind fun y => S.of (f y.1) y.2 := (rfl)
@[simp] theorem app_cons {m : S τ D} {n : S τ (List D)} : S.cons m n t = (m t).bind fun y => (n y.2).bind fun z => .ok (y.1 :: z.1, z.2) := (rfl)
@[simp] theorem app_tup {m : S τ (List D)} : S.tup m t = (m t).bind fun y => (if y.1.length ≤ 16777216 then S.ok (.tup y.1) else S.bad : S τ D) y.2 := (rfl)
@[simp] theorem app_lst {m : S τ (List D)} : S.lst m t = (m t).bind fun y => (if y.1.length ≤ 16777216 then S.ok y.1 else S.bad : S τ (List D)) y.2 := (rfl)
@[simp] theorem app_toL {m : S τ (List D)} : S.toL m t = (m t).bind fun y => .ok (.lst y.1, y.2) := (rfl)
@[simp] theorem app_tst {m : S τ D} : S.tst m t = (m t).bind fun y => S.tst (S.ok y.1) y.2 := (rfl)
@[simp] theorem app_tru {m : S τ D} : S.tru m t = (m t).bind fun y => S.of (fTru y.1) y.2 := (rfl)
@[simp] theorem app_not {m : S τ Bool} : S.not m t = (m t).bind fun y => .ok (!y.1, y.2) := (rfl)
@[simp] theorem app_and {m n : S τ Bool} : S.and m n t = (m t).bind fun y => if y.1 = true then n y.2 else .ok (false, y.2) := by
  unfold S.and S.bind
  congr 1; funext y; obtain ⟨b, u⟩ := y; cases b <;> rfl
@[simp] theorem app_or {m n : S τ Bool} : S.or m n t = (m t).bind fun y => if y.1 = true then .ok (true, y.2) else n y.2 := by
  unfold S.or S.bind
  congr 1; funext y; obtain ⟨b, u⟩ := y; cases b <;> rfl
@[simp] theorem app_ife {m : S τ Bool} {a b : S τ α} : S.ife m a b t = (m t).bind fun y => if y.1 = true then a y.2 else b y.2 := by
  unfold S.ife S.bind
  congr 1; funext y; obtain ⟨b, u⟩ := y; cases b <;> rfl
@[simp] theorem app_items {m : S τ D} : S.items m t = (m t).bind fun y => S.of (itemsOf y.1) y.2 := (rfl)
@[simp] theorem app_call {F : List D → R α} {m : S τ (List D)} : S.call F m t = (m t).bind fun y => S.lift (F y.1) y.2 := (rfl)
@[simp] theorem app_callM {F : List D → List D → R (α × List D)} {m : S (List D) (List D)} {t : List D} : S.callM F m t = (m t).bind fun y => (F y.2 y.1).nb := (rfl)
@[simp] theorem app_lc {m : S τ (List D)} {gh : D → Option β} {th : β → S τ Bool} {e : β → S τ D} : S.lc m gh th e t = (m t).bind fun y => (lcS gh th e y.1 y.2).bind fun z => (if z.1.length ≤ 16777216 then S.ok z.1 else S.bad : S τ (List D)) z.2 := (rfl)
end
theorem atI_in {α : Type} {xs : List α} {k : Int} (h : 0 ≤ k) (h2 : k < xs.length) : ∃ x ∈ xs, atI xs k = some x := by
  rw [atI_at xs h]
  have : k.toNat < xs.length := by omega
  exact ⟨xs[k.toNat], List.getElem_mem _, List.getElem?_eq_getElem this⟩
theorem loop_nx {ρ κ σ : Type} {f : σ → D → O ρ σ σ} {x : D} {xs : List D} {s t : σ} (h : f s x = .nx t) : (loop f (x :: xs) s : O ρ κ σ) = loop f xs t := by
  conv => lhs; unfold loop
  rw [h]
theorem loop_ct {ρ κ σ : Type} {f : σ → D → O ρ σ σ} {x : D} {xs : List D} {s t : σ} (h : f s x = .ct t) : (loop f (x :: xs) s : O ρ κ σ) = loop f xs t := by
  conv => lhs; unfold loop
  rw [h]
theorem loop_err {ρ κ σ : Type} {f : σ → D → O ρ σ σ} {x : D} {xs : List D} {s : σ} {e : D} (h : f s x = .err e) : (loop f (x :: xs) s : O ρ κ σ) = .err e := by
  conv => lhs; unfold loop
  rw [h]
/-- the head of a loop -/
theorem loop_ahead {ρ κ σ : Type} {f : σ → D → O ρ σ σ} (I : Nat → σ → Prop) : ∀ {xs ys : List D} {n : Nat} {s : σ}, I n s → (∀ (k : Nat) (x : D) (s : σ), xs[k]? = some x → I (n + k) s → ∃ t, (f s x = .nx t ∨ f s x = .ct t) ∧ I (n + k + 1) t) → ∃ t, I (n + xs.length) t ∧ (loop f (xs ++ ys) s : O ρ κ σ) = loop f ys t
  | [], ys, n, s, h, _ => ⟨s, h, rfl⟩
  | x :: xs, ys, n, s, h, k => by
    obtain ⟨t, h1, h2⟩ := k 0 x s rfl h
    obtain ⟨u, h3, h4⟩ := loop_ahead (κ := κ) I (xs := xs) (ys := ys) (n := n + 1) h2 fun j y s e hi => by
      obtain ⟨t, h1, h2⟩ := k (j + 1) y s (by simpa using e) (by rw [show n + (j + 1) = n + 1 + j by omega]; exact hi)
      exact ⟨t, h1, by rw [show n + 1 + j + 1 = n + (j + 1) + 1 by omega]; exact h2⟩
    refine ⟨u, by rw [List.length_cons, show n + (xs.length + 1) = n + 1 + xs.length by omega]; exact h3, ?_⟩
    rw [List.cons_append, ← h4]
    rcases h1 with h1 | h1
    · exact loop_nx h1
    · exact loop_ct h1
/-- each turn asks -/
theorem loop_all {ρ κ β : Type} {f : Unit → D → O ρ Unit Unit} (enc : β → D) (p : β → Bool) (v : ρ) (xs : List β) (h : ∀ x ∈ xs, f () (enc x) = cond (p x) (.nx ()) (.rt v)) : (loop f (xs.map enc) () : O ρ κ Unit) = cond (xs.all p) (.nx ()) (.rt v) := by
  induction xs with
  | nil => rfl
  | cons x xs ih =>
    rw [List.map_cons]
    have hx := h x List.mem_cons_self
    cases hp : p x with
    | true => rw [hp] at hx; rw [loop_nx hx, ih fun y hy => h y (List.mem_cons_of_mem _ hy)]; simp [hp]
    | false => rw [hp] at hx; conv => lhs; unfold loop
               rw [hx]; simp [hp]
theorem loop_hit {ρ κ σ : Type} {f : σ → D → O ρ σ σ} {xs zs : List D} {y : D} {s : σ} {v : ρ} (h : ∀ x ∈ xs, f s x = .nx s) (hy : f s y = .rt v) : (loop f (xs ++ y :: zs) s : O ρ κ σ) = .rt v := by
  induction xs with
  | nil => show loop f (y :: zs) s = _; unfold loop; rw [hy]
  | cons x xs ih =>
    show loop f (x :: (xs ++ y :: zs)) s = _
    unfold loop; rw [h x List.mem_cons_self]
    exact ih fun z hz => h z (List.mem_cons_of_mem _ hz)
theorem enumD_app (xs : List D) (y : D) (zs : List D) : ∃ r, enumD (xs ++ y :: zs) = enumD xs ++ .tup [.int (xs.length : Nat), y] :: r := by
  unfold enumD
  rw [List.zipIdx_append, List.map_append, List.zipIdx_cons, List.map_cons]
  exact ⟨_, by rw [Nat.zero_add]⟩
theorem lcS_all {τ β γ : Type} (enc : γ → D) (f : γ → D) {gh : D → Option β} {e : β → S τ D} (xs : List γ) (h : ∀ x ∈ xs, ∃ z, gh (enc x) = some z ∧ e z = S.ok (f x)) : lcS gh (fun _ => S.ok true) e (xs.map enc) = S.ok (xs.map f) := by
  rw [lcS_map (γ' := Unit) enc f (fun _ => true) xs fun x hx => by obtain ⟨z, h1, h2⟩ := h x hx; exact ⟨z, h1, rfl, fun _ => h2⟩, show xs.filter (fun _ => true) = xs from List.filter_eq_self.mpr fun _ _ => rfl]
theorem cut_to {xs : List D} {p : Int} (h : 0 ≤ p) : fCut (.tup xs) none (some p) = some (.tup (xs.take p.toNat)) := by
  show some (D.tup (cutD xs none (some p))) = _
  obtain ⟨n, rfl⟩ : ∃ n : Nat, p = n := ⟨p.toNat, by omega⟩
  simp only [cutD, HT.sIx_none, HT.sIx_nat, List.drop_zero, Nat.sub_zero, Int.toNat_natCast]
  by_cases hn : n ≤ xs.length
  · rw [Nat.min_eq_left hn]
  · rw [Nat.min_eq_right (by omega), List.take_of_length_le (Nat.le_refl _), List.take_of_length_le (by omega)]
theorem cut_from {xs : List D} {p : Int} (h : 0 ≤ p) : fCut (.tup xs) (some p) none = some (.tup (xs.drop p.toNat)) := by
  show some (D.tup (cutD xs (some p) none)) = _
  obtain ⟨n, rfl⟩ : ∃ n : Nat, p = n := ⟨p.toNat, by omega⟩
  simp only [cutD, HT.sIx_none, HT.sIx_nat, Int.toNat_natCast]
  by_cases hn : n ≤ xs.length
  · rw [Nat.min_eq_left hn, List.take_of_length_le (by simp)]
  · rw [Nat.min_eq_right (by omega), List.drop_of_length_le (Nat.le_refl _), List.drop_of_length_le (by omega)]; simp
@[simp] theorem add_tup {xs ys : List D} : fAdd (.tup xs) (.tup ys) = if xs.length + ys.length ≤ 16777216 then some (.tup (xs ++ ys)) else none := (rfl)
theorem zipD_map {α β : Type} (f : α → D) (g : β → D) (xs : List α) (ys : List β) : zipD (xs.map f) (ys.map g) = (xs.zip ys).map fun p => .tup [f p.1, g p.2] := by
  unfold zipD
  rw [List.zip_map, List.map_map]; rfl
@[simp] theorem zip_tup {xs ys : List D} : fZip [.tup xs, .tup ys] = some (zipD xs ys) := (rfl)
@[simp] theorem zip_lst {xs ys : List D} : fZip [.lst xs, .lst ys] = some (zipD xs ys) := (rfl)
@[simp] theorem ext_lst {ys zs : List D} : mExtend ys [.lst zs] = if ys.length + zs.length ≤ 16777216 then some (.non, ys ++ zs) else none := (rfl)
theorem shp_i {i : Int} : SeqAt.shaped (D.int i).py = true := rfl
theorem shp_n : SeqAt.shaped D.non.py = true := rfl
theorem shp_b {b : Bool} : SeqAt.shaped (D.bl b).py = true := rfl
theorem shp_s {x : Str} (h : PyData.strOk x = true) : SeqAt.shaped (D.str x).py = true := shp_str h
theorem eq_is {i : Int} {x : Str} (h : PyData.strOk x = true) : fEq (.int i) (.str x) = some (.bl false) := by unfold fEq; rw [shp_i, shp_s h]; rfl
theorem eq_si {i : Int} {x : Str} (h : PyData.strOk x = true) : fEq (.str x) (.int i) = some (.bl false) := by unfold fEq; rw [shp_i, shp_s h]; rfl
theorem ne_is {i : Int} {x : Str} (h : PyData.strOk x = true) : fNe (.int i) (.str x) = some (.bl true) := by unfold fNe; rw [shp_i, shp_s h]; rfl
theorem ne_si {i : Int} {x : Str} (h : PyData.strOk x = true) : fNe (.str x) (.int i) = some (.bl true) := by unfold fNe; rw [shp_i, shp_s h]; rfl
@[simp] theorem iof_map : ∀ l : List Int, intsOf (l.map D.int) = some l
  | [] => rfl
  | x :: l => by simp [intsOf, iof_map l]
theorem sumA_lst (l : List Int) : fSumA [.lst (l.map D.int)] = some (.int l.sum) := by simp [fSumA, fRow, oSum]
theorem sumA_tup (l : List Int) : fSumA [.tup (l.map D.int)] = some (.int l.sum) := by simp [fSumA, fRow, oSum]
theorem max1_lst (l : List Int) (h : l ≠ []) : fMax1 [.lst (l.map D.int)] = some (.int (maxI l)) := by simp [fMax1, fRow, oMax, h]
theorem max1_tup (l : List Int) (h : l ≠ []) : fMax1 [.tup (l.map D.int)] = some (.int (maxI l)) := by simp [fMax1, fRow, oMax, h]
theorem min1_lst (l : List Int) (h : l ≠ []) : fMin1 [.lst (l.map D.int)] = some (.int (minI l)) := by simp [fMin1, fRow, oMin, h]
theorem min1_tup (l : List Int) (h : l ≠ []) : fMin1 [.tup (l.map D.int)] = some (.int (minI l)) := by simp [fMin1, fRow, oMin, h]
theorem sorted_map (l : List Int) : fSorted [.lst (l.map D.int)] = some (.lst ((sortI l).map D.int)) := by simp [fSorted]
theorem sum_map (l : List Int) : fSum [.lst (l.map D.int)] = some (.int l.sum) := by simp [fSum]
theorem sortI_pw (l : List Int) : (sortI l).Pairwise (· ≤ ·) := by
  have := List.pairwise_mergeSort (le := fun a b : Int => decide (a ≤ b)) (fun a b c h1 h2 => by simp at *; omega) (fun a b => by simp; omega) l
  exact this.imp fun h => by simpa using h
theorem sortI_mem {l : List Int} {x : Int} : x ∈ sortI l ↔ x ∈ l := (List.mergeSort_perm l _).mem_iff
theorem eqS {x : D} (h : D.dat 60 x = true) : fEq x x = some (.bl true) := eq_self h
theorem neS {x : D} (h : D.dat 60 x = true) : fNe x x = some (.bl false) := ne_self h
theorem enumD_map {α : Type} (enc : α → D) (xs : List α) : enumD (xs.map enc) = xs.zipIdx.map fun p => .tup [.int (p.2 : Nat), enc p.1] := by
  unfold enumD
  rw [List.zipIdx_map, List.map_map]
  rfl
theorem mem_enumD {α : Type} {enc : α → D} {xs : List α} {x : D} (h : x ∈ enumD (xs.map enc)) : ∃ (n : Nat) (a : α), xs[n]? = some a ∧ a ∈ xs ∧ x = .tup [.int (n : Nat), enc a] := by
  rw [enumD_map] at h
  obtain ⟨p, hp, rfl⟩ := List.mem_map.mp h
  have := List.mem_zipIdx hp
  simp only [Nat.zero_add, Nat.sub_zero] at this
  obtain ⟨_, h2, h3⟩ := this
  refine ⟨p.2, p.1, ?_, ?_, rfl⟩
  · rw [h3]; exact List.getElem?_eq_getElem h2
  · rw [h3]; exact List.getElem_mem h2
theorem enumD_get {xs : List D} {k : Nat} {x : D} (h : (enumD xs)[k]? = some x) : ∃ y, xs[k]? = some y ∧ x = .tup [.int (k : Nat), y] := by
  unfold enumD at h
  rw [List.getElem?_map, List.getElem?_zipIdx] at h
  cases e : xs[k]? with
  | none => rw [e] at h; simp at h
  | some y => rw [e] at h; simp at h; exact ⟨y, rfl, h.symm⟩
theorem enumD_len (xs : List D) : (enumD xs).length = xs.length := by simp [enumD]
theorem mem_intsD {lo : Int} {n : Nat} {x : D} (h : x ∈ intsD lo n) : ∃ k : Nat, k < n ∧ x = .int (lo + (k : Int)) := by
  unfold intsD at h
  obtain ⟨k, hk, rfl⟩ := List.mem_map.mp h
  exact ⟨k, List.mem_range.mp hk, rfl⟩
theorem loop_en {ρ κ σ β : Type} {f : σ → D → O ρ σ σ} (enc : β → D) (I : List β → Nat → σ → Prop) (xs : List β) (s : σ) (h : I xs 0 s) (stp : ∀ a as n s, I (a :: as) n s → ∃ s', (f s (.tup [.int (n : Nat), enc a]) = .nx s' ∨ f s (.tup [.int (n : Nat), enc a]) = .ct s') ∧ I as (n + 1) s') : ∃ s', (loop f (enumD (xs.map enc)) s : O ρ κ σ) = .nx s' ∧ I [] xs.length s' := by
  have key : ∀ (ys : List β) (n : Nat) (s : σ), I ys n s → ∃ s', (loop f (((ys.map enc).zipIdx n).map fun p => .tup [.int (p.2 : Nat), p.1]) s : O ρ κ σ) = .nx s' ∧ I [] (n + ys.length) s' := by
    intro ys
    induction ys with
    | nil => exact fun n s h => ⟨s, rfl, h⟩
    | cons y ys ih =>
      intro n s h
      obtain ⟨s1, h1, h2⟩ := stp y ys n s h
      obtain ⟨s2, h3, h4⟩ := ih (n + 1) s1 h2
      refine ⟨s2, ?_, by rw [List.length_cons, show n + (ys.length + 1) = n + 1 + ys.length by omega]; exact h4⟩
      rw [List.map_cons, List.zipIdx_cons, List.map_cons]
      unfold loop
      rcases h1 with h1 | h1 <;> rw [h1] <;> exact h3
  obtain ⟨s', h1, h2⟩ := key xs 0 s h
  exact ⟨s', h1, by simpa using h2⟩
/-- a row that grows by one a turn -/
theorem loop_app {ρ κ β : Type} {f : List D → D → O ρ (List D) (List D)} (enc : β → D) (g : β → D) (xs : List β) (s : List D) (hl : s.length + xs.length ≤ 16777216) (h : ∀ s, ∀ x ∈ xs, s.length < 16777216 → f s (enc x) = .nx (s ++ [g x])) : (loop f (xs.map enc) s : O ρ κ (List D)) = .nx (s ++ xs.map g) := by
  induction xs generalizing s with
  | nil => simp
  | cons x xs ih =>
    rw [List.map_cons]
    unfold loop
    rw [h s x List.mem_cons_self (by simp at hl; omega)]
    simp only
    rw [ih (s ++ [g x]) (by simp at hl ⊢; omega) fun s y hy => h s y (List.mem_cons_of_mem _ hy)]
    simp
/-- a sum -/
theorem loop_sum {ρ κ β : Type} {f : D → D → O ρ D D} (enc : β → D) (g : β → Int) (xs : List β) (s : Int) (h : ∀ s, ∀ x ∈ xs, f (.int s) (enc x) = .nx (.int (s + g x))) : (loop f (xs.map enc) (.int s) : O ρ κ D) = .nx (.int (s + (xs.map g).sum)) := by
  induction xs generalizing s with
  | nil => simp
  | cons x xs ih =>
    rw [List.map_cons]
    unfold loop
    rw [h s x List.mem_cons_self]
    simp only
    rw [ih (s + g x) fun s y hy => h s y (List.mem_cons_of_mem _ hy)]
    simp [Int.add_assoc]
theorem law_of {m : FRes} {h : R D} {o : List Slot} (z : CallOk m h o) (e : h = .ok (.bl true)) : ∃ o, m = .ok (.bl true) o := by
  subst e
  rcases z.run with z | ⟨ds, z, _⟩
  · exact ⟨o, z⟩
  · cases z
theorem whil_step {ρ κ σ : Type} {m : σ → S Unit Bool} {f : σ → O ρ σ σ} {n : Nat} {s s' : σ} (h : m s = S.ok true) (k : f s = .nx s') : (whil m f (n + 1) s : O ρ κ σ) = whil m f n s' := by
  conv => lhs; unfold whil
  rw [h]; simp [k]
theorem whil_stop {ρ κ σ : Type} {m : σ → S Unit Bool} {f : σ → O ρ σ σ} {n : Nat} {s : σ} (h : m s = S.ok false) : (whil m f (n + 1) s : O ρ κ σ) = .nx s := by
  conv => lhs; unfold whil
  rw [h]; simp
theorem loop_sum2 {ρ κ β : Type} {f : (D × D) → D → O ρ (D × D) (D × D)} (enc : β → D) (g h : β → Int) (xs : List β) (x y : Int) (H : ∀ x y, ∀ i ∈ xs, f (.int x, .int y) (enc i) = .nx (.int (x + g i), .int (y + h i))) : (loop f (xs.map enc) (.int x, .int y) : O ρ κ (D × D)) = .nx (.int (x + (xs.map g).sum), .int (y + (xs.map h).sum)) := by
  induction xs generalizing x y with
  | nil => simp
  | cons a xs ih =>
    rw [List.map_cons, loop_nx (H x y a List.mem_cons_self), ih _ _ fun x y i hi => H x y i (List.mem_cons_of_mem _ hi)]
    simp [Int.add_assoc]
def sumTo (f : Nat → Nat) : Nat → Nat
  | 0 => 0
  | n + 1 => sumTo f n + f n
theorem sumTo_int (f : Nat → Nat) (g : Nat → Int) : ∀ n, (∀ k, k < n → g k = (f k : Nat)) → ((List.range n).map g).sum = ((sumTo f n : Nat) : Int)
  | 0, _ => rfl
  | n + 1, h => by
    rw [List.range_succ, List.map_append, List.sum_append, sumTo_int f g n fun k hk => h k (by omega)]
    simp [sumTo, h n (by omega)]
theorem sumTo_congr {f g : Nat → Nat} : ∀ {n}, (∀ k, k < n → f k = g k) → sumTo f n = sumTo g n
  | 0, _ => rfl
  | n + 1, h => by simp only [sumTo]; rw [sumTo_congr (n := n) fun k hk => h k (by omega), h n (by omega)]
theorem sumTo_add (f g : Nat → Nat) : ∀ n, sumTo (fun k => f k + g k) n = sumTo f n + sumTo g n
  | 0 => rfl
  | n + 1 => by simp only [sumTo, sumTo_add f g n]; omega
theorem sumTo_shift (f : Nat → Nat) : ∀ n, sumTo f (n + 1) = f 0 + sumTo (fun k => f (k + 1)) n
  | 0 => by simp [sumTo]
  | n + 1 => by rw [sumTo, sumTo_shift f n, sumTo]; omega
theorem sumTo_rev (f : Nat → Nat) : ∀ n, sumTo (fun k => f (n - 1 - k)) n = sumTo f n
  | 0 => rfl
  | n + 1 => by
    rw [sumTo_shift, sumTo]
    have : sumTo (fun k => f (n + 1 - 1 - (k + 1))) n = sumTo f n := by
      rw [← sumTo_rev f n]
      exact sumTo_congr fun k hk => by rw [show n + 1 - 1 - (k + 1) = n - 1 - k by omega]
    rw [this]; simp; omega
def allTo (p : Nat → Bool) : Nat → Bool
  | 0 => true
  | n + 1 => p n && allTo p n
theorem allTo_at {p : Nat → Bool} : ∀ {n k : Nat}, allTo p n = true → k < n → p k = true
  | n + 1, k, h, hk => by
    simp only [allTo, Bool.and_eq_true] at h
    by_cases e : k = n
    · subst e; exact h.1
    · exact allTo_at h.2 (by omega)
/-! what a wrong thing is told as: lists are tuples -/
mutual
def pl : D → D
  | .tup ds => .tup (plL ds)
  | .lst ds => .tup (plL ds)
  | d => d
def plL : List D → List D
  | [] => []
  | d :: ds => pl d :: plL ds
end
mutual
def sz : D → Nat
  | .tup ds => 1 + szL ds
  | .lst ds => 1 + szL ds
  | _ => 1
def szL : List D → Nat
  | [] => 0
  | d :: ds => sz d + szL ds
end
mutual
def tk : D → List D
  | .tup ds => .tup [.int ds.length, .bl true] :: tkR ds
  | .lst ds => .tup [.int ds.length, .bl true] :: tkR ds
  | d => [.tup [d, .bl false]]
def tkR : List D → List D
  | [] => []
  | d :: ds => tkR ds ++ tk d
end
mutual
def okD : D → Bool
  | .tup ds => okDL ds
  | .lst ds => okDL ds
  | .non => true
  | .bl _ => true
  | .int _ => true
  | .str _ => true
  | _ => false
def okDL : List D → Bool
  | [] => true
  | d :: ds => okD d && okDL ds
end
theorem plL_len : ∀ ds, (plL ds).length = ds.length
  | [] => rfl
  | d :: ds => by simp [plL, plL_len ds]
theorem szL_len : ∀ ds, ds.length ≤ szL ds
  | [] => by simp [szL]
  | d :: ds => by
    have := szL_len ds
    have : 1 ≤ sz d := by cases d <;> simp [sz] <;> omega
    simp [szL]; omega
mutual
theorem tk_len : ∀ d, (tk d).length = sz d
  | .tup ds => by simp [tk, sz, tkR_len ds]; omega
  | .lst ds => by simp [tk, sz, tkR_len ds]; omega
  | .non => rfl
  | .bl _ => rfl
  | .int _ => rfl
  | .str _ => rfl
  | .ty _ => rfl
  | .cl _ => rfl
  | .frl _ => rfl
  | .exc _ _ _ => rfl
theorem tkR_len : ∀ ds, (tkR ds).length = szL ds
  | [] => rfl
  | d :: ds => by simp [tkR, szL, tk_len d, tkR_len ds]; omega
end
mutual
theorem dat_mono : ∀ {m n : Nat} {d : D}, m ≤ n → D.dat m d = true → D.dat n d = true
  | _, _, .non, _, _ => by simp [D.dat]
  | _, _, .bl _, _, _ => by simp [D.dat]
  | _, _, .int _, _, _ => by simp [D.dat]
  | _, _, .str _, _, h => by simpa [D.dat] using h
  | 0, _, .tup _, _, h => by simp [D.dat] at h
  | m + 1, 0, .tup _, hl, _ => by omega
  | m + 1, n + 1, .tup ds, hl, h => by simp only [D.dat] at h ⊢; exact datL_mono (by omega) h
  | 0, _, .lst _, _, h => by simp [D.dat] at h
  | m + 1, 0, .lst _, hl, _ => by omega
  | m + 1, n + 1, .lst ds, hl, h => by simp only [D.dat] at h ⊢; exact datL_mono (by omega) h
  | _, _, .ty _, _, h => by simp [D.dat] at h
  | _, _, .cl _, _, h => by simp [D.dat] at h
  | _, _, .frl _, _, h => by simp [D.dat] at h
  | _, _, .exc _ _ _, _, h => by simp [D.dat] at h
theorem datL_mono : ∀ {m n : Nat} {ds : List D}, m ≤ n → D.datL m ds = true → D.datL n ds = true
  | _, _, [], _, _ => by simp [D.datL]
  | m, n, d :: ds, hl, h => by
    simp only [D.datL, Bool.and_eq_true] at h ⊢
    exact ⟨dat_mono hl h.1, datL_mono hl h.2⟩
end
/-! what _law_same goes through -/
mutual
def okS : D → Bool
  | .tup ds => okSL ds
  | .non => true
  | .bl _ => true
  | .int _ => true
  | .str x => PyData.strOk x
  | _ => false
def okSL : List D → Bool
  | [] => true
  | d :: ds => okS d && okSL ds
end
theorem okSL_get : ∀ {ds : List D} {d : D}, okSL ds = true → d ∈ ds → okS d = true
  | x :: ds, d, h, hd => by
    simp only [okSL, Bool.and_eq_true] at h
    rcases List.mem_cons.mp hd with rfl | hd
    · exact h.1
    · exact okSL_get h.2 hd
def prD (d : D) : D := .tup [d, d]
def szs (ws : List D) : Nat := (ws.map sz).sum
theorem szs_L : ∀ ds, szs ds = szL ds
  | [] => rfl
  | d :: ds => by have := szs_L ds; simp [szs, szL] at this ⊢; omega
theorem loop_rt {ρ κ σ : Type} {f : σ → D → O ρ σ σ} {x : D} {xs : List D} {s : σ} {v : ρ} (h : f s x = .rt v) : (loop f (x :: xs) s : O ρ κ σ) = .rt v := by
  conv => lhs; unfold loop
  rw [h]
end Py.Fu
noncomputable section
namespace FuM
open Py PySem L2
def F__law_take (a0 : List Py.D) (a1 : Py.D) : Fu.R (Py.D × List Py.D) := Fu.finN (ρ := (Py.D × List Py.D)) (β := Unit) ((Fu.iteP (Fu.S.tst (Fu.S.bin fEq (Fu.S.lenO a0) (Fu.S.ok (.int 0)))) (Fu.retP (fun x => (x, a0)) (Fu.S.ok (.int 0))) (.nx ())).seq fun z1 => (Fu.retS (fun y => y) (Fu.S.bin fMod (Fu.S.cal fInt (Fu.S.cons (Fu.S.mut mPop Fu.S.nil) Fu.S.nil)) (Fu.S.ok a1)) a0))
def F__law_draws (a0 : Py.D) : Fu.R (List Py.D) := Fu.finN (ρ := (List Py.D)) (β := Unit) ((Fu.O.ofP (Fu.S.lst Fu.S.nil)).seq fun z1 => (((Fu.O.ofP (Fu.S.it fRange1 (Fu.S.cons (Fu.S.cal fMin (Fu.S.cons (Fu.S.cal fLen (Fu.S.cons (Fu.S.ok a0) Fu.S.nil)) (Fu.S.cons (Fu.S.ok (.int 63)) Fu.S.nil))) Fu.S.nil))).seq fun x17 => Fu.loop (fun (s2 : List Py.D) x16 => (Fu.O.ofO (some x16)).seq fun z3 => ((Fu.O.ofP (Fu.S.cal fInt (Fu.S.cons (Fu.S.bin fIx (Fu.S.ok a0) (Fu.S.ok z3)) Fu.S.nil))).seq fun z5 => ((Fu.iteP (Fu.S.tst (Fu.S.bin fLt (Fu.S.ok z5) (Fu.S.ok (.int 0)))) ((Fu.O.ofP (Fu.S.bin fSub (Fu.S.ok (.int 11)) (Fu.S.bin fMul (Fu.S.ok (.int 2)) (Fu.S.ok z5)))).seq fun z7 => .nx z7) (.nx z5)).seq fun z6 => ((Fu.O.ofP (Fu.S.bin fMod (Fu.S.cal fInt (Fu.S.cons (Fu.S.ok z6) Fu.S.nil)) (Fu.S.bin fPow (Fu.S.ok (.int 30)) (Fu.S.ok (.int 24))))).seq fun z8 => (((Fu.O.ofP (Fu.S.it fRange1 (Fu.S.cons (Fu.S.ok (.int 24)) Fu.S.nil))).seq fun x15 => Fu.loop (fun (s9 : List Py.D × Py.D) x14 => (Fu.O.ofO (some x14)).seq fun z10 => ((Fu.mutP mAppend s9.1 (Fu.S.cons (Fu.S.bin fMod (Fu.S.cal fInt (Fu.S.cons (Fu.S.ok s9.2) Fu.S.nil)) (Fu.S.ok (.int 30))) Fu.S.nil)).seq fun z12 => ((Fu.O.ofP (Fu.S.bin fDiv (Fu.S.ok s9.2) (Fu.S.ok (.int 30)))).seq fun z13 => (Fu.iteP (Fu.S.tst (Fu.S.bin fEq (Fu.S.ok z13) (Fu.S.ok (.int 0)))) (.bk (z12.2, z13)) (.nx (z12.2, z13)))))) x15 (s2, z8)).seq fun z11 => .nx z11.1))))) x17 z1).seq fun z4 => ((Fu.mutP mReverse z4 Fu.S.nil).seq fun z18 => (.rt z18.2))))
def B2 : List Py.D × Py.D → Py.D → Fu.O (List Py.D) (List Py.D × Py.D) (List Py.D × Py.D) := (fun (s9 : List Py.D × Py.D) x14 => (Fu.O.ofO (some x14)).seq fun z10 => ((Fu.mutP mAppend s9.1 (Fu.S.cons (Fu.S.bin fMod (Fu.S.cal fInt (Fu.S.cons (Fu.S.ok s9.2) Fu.S.nil)) (Fu.S.ok (.int 30))) Fu.S.nil)).seq fun z12 => ((Fu.O.ofP (Fu.S.bin fDiv (Fu.S.ok s9.2) (Fu.S.ok (.int 30)))).seq fun z13 => (Fu.iteP (Fu.S.tst (Fu.S.bin fEq (Fu.S.ok z13) (Fu.S.ok (.int 0)))) (.bk (z12.2, z13)) (.nx (z12.2, z13))))))
def B1 (a0 : Py.D) : List Py.D → Py.D → Fu.O (List Py.D) (List Py.D) (List Py.D) := (fun (s2 : List Py.D) x16 => (Fu.O.ofO (some x16)).seq fun z3 => ((Fu.O.ofP (Fu.S.cal fInt (Fu.S.cons (Fu.S.bin fIx (Fu.S.ok a0) (Fu.S.ok z3)) Fu.S.nil))).seq fun z5 => ((Fu.iteP (Fu.S.tst (Fu.S.bin fLt (Fu.S.ok z5) (Fu.S.ok (.int 0)))) ((Fu.O.ofP (Fu.S.bin fSub (Fu.S.ok (.int 11)) (Fu.S.bin fMul (Fu.S.ok (.int 2)) (Fu.S.ok z5)))).seq fun z7 => .nx z7) (.nx z5)).seq fun z6 => ((Fu.O.ofP (Fu.S.bin fMod (Fu.S.cal fInt (Fu.S.cons (Fu.S.ok z6) Fu.S.nil)) (Fu.S.bin fPow (Fu.S.ok (.int 30)) (Fu.S.ok (.int 24))))).seq fun z8 => (((Fu.O.ofP (Fu.S.it fRange1 (Fu.S.cons (Fu.S.ok (.int 24)) Fu.S.nil))).seq fun x15 => Fu.loop B2 x15 (s2, z8)).seq fun z11 => .nx z11.1)))))
/-- draws -/
def Sm (ds : List D) : Prop := ∃ l : List Int, ds = l.map D.int ∧ ∀ d ∈ l, 0 ≤ d ∧ d < 30
theorem take {ds : List D} (h : Sm ds) (m : Int) (hm : 0 < m) : ∃ (k : Int) (ds' : List D), 0 ≤ k ∧ k < m ∧ Sm ds' ∧ F__law_take ds (.int m) = .ok (.int k, ds') := by
  obtain ⟨l, rfl, hd⟩ := h
  cases h : l.getLast? with
  | none =>
    have : l = [] := by simpa using h
    subst this
    exact ⟨0, [], by omega, hm, ⟨[], rfl, fun d hd => (nomatch hd)⟩, by simp [F__law_take]⟩
  | some x =>
    have hx : l ≠ [] := fun z => by subst z; cases h
    have hl : ¬ ((l.length : Int) = 0) := by
      have := List.length_pos_iff.mpr hx; omega
    have hp : mPop (l.map D.int) [] = some (.int x, l.dropLast.map D.int) := by
      unfold mPop
      rw [List.getLast?_map, h]
      simp
    refine ⟨x % m, l.dropLast.map D.int, Int.emod_nonneg _ (by omega), Int.emod_lt_of_pos _ hm, ⟨_, rfl, fun d hd' => hd d (List.dropLast_subset _ hd')⟩, ?_⟩
    have e : (Fu.S.bin fMod (Fu.S.cal fInt (Fu.S.cons (Fu.S.mut mPop (Fu.S.ok [])) (Fu.S.ok []))) (Fu.S.ok (.int m))) (l.map D.int) = .ok (.int (x % m), l.dropLast.map D.int) := by
      simp [Fu.S.bin, Fu.S.cal, Fu.S.cons, Fu.S.mut, Fu.S.bind, hp, hm, Fu.S.nil, Fu.S.ok, Fu.S.of]
    simp only [F__law_take, Fu.s_nil, Fu.o_retS e]; simp [hx]
theorem B2_ok (l : List Int) (c : Int) (x : D) (hl : l.length < 16777216) : B2 (l.map D.int, .int c) x = (if c / 30 = 0 then Fu.O.bk ((l ++ [c % 30]).map D.int, .int (c / 30)) else .nx ((l ++ [c % 30]).map D.int, .int (c / 30))) := by
  simp [B2, hl]
theorem inner : ∀ (xs : List D) (l : List Int) (c : Int), l.length + xs.length < 16777216 → (∀ d ∈ l, 0 ≤ d ∧ d < 30) → ∃ (l' : List Int) (c' : D), (Fu.loop B2 xs (l.map D.int, .int c) : Fu.O (List D) (List D) _) = .nx (l'.map D.int, c') ∧ l'.length ≤ l.length + xs.length ∧ ∀ d ∈ l', 0 ≤ d ∧ d < 30
  | [], l, c, _, h => ⟨l, _, rfl, by simp, h⟩
  | x :: xs, l, c, hl, h => by
    have hd' : ∀ d ∈ l ++ [c % 30], 0 ≤ d ∧ d < 30 := fun d hd => by
      rcases List.mem_append.mp hd with hd | hd
      · exact h d hd
      · rw [List.mem_singleton.mp hd]
        exact ⟨Int.emod_nonneg _ (by decide), Int.emod_lt_of_pos _ (by decide)⟩
    unfold Fu.loop
    rw [B2_ok l c x (by simp at hl; omega)]
    by_cases h0 : c / 30 = 0
    · rw [if_pos h0]; exact ⟨_, _, rfl, by simp, hd'⟩
    · rw [if_neg h0]
      obtain ⟨l', c', h1, h2, h3⟩ := inner xs (l ++ [c % 30]) (c / 30) (by simp at hl ⊢; omega) hd'
      exact ⟨l', c', h1, by simp at h2 ⊢; omega, h3⟩
theorem draws (zs : List Int) (h : zs.length ≤ 63) : ∃ ds, Sm ds ∧ F__law_draws (.frl (zs.map D.int)) = .ok ds := by
  have key : ∃ n : Nat, n ≤ zs.length ∧ n ≤ 63 ∧ (if (63 : Int) < zs.length then (63 : Int) else (zs.length : Int)) = (n : Int) := by
    by_cases h0 : (63 : Int) < zs.length
    · exact ⟨63, by omega, by omega, by rw [if_pos h0]; rfl⟩
    · exact ⟨zs.length, by omega, by omega, by rw [if_neg h0]⟩
  obtain ⟨n, n1, n2, n3⟩ := key
  obtain ⟨s', h1, l', rfl, h2, h3⟩ := Fu.loop_R (ρ := List D) (κ := Empty) 0 n (fun k s => ∃ l : List Int, s = l.map D.int ∧ l.length ≤ 24 * k ∧ ∀ d ∈ l, 0 ≤ d ∧ d < 30) (f := B1 (.frl (zs.map D.int))) (by
    rintro k s hk ⟨l, rfl, hl, hd⟩
    have hxl : k < zs.length := by omega
    obtain ⟨l', c', h1, h2, h3⟩ := inner (intsD 0 24) l ((if zs[k] < 0 then 11 - 2 * zs[k] else zs[k]) % 30 ^ 24) (by simp; omega) hd
    refine ⟨l'.map D.int, .inl ?_, l', rfl, by simp at h2; omega, h3⟩
    by_cases h0 : zs[k] < 0
    · simp [h0] at h1; simp [B1, hxl, h0, mulOk, powOk, rg1i, h1]
    · simp [h0] at h1; simp [B1, hxl, h0, mulOk, powOk, rg1i, h1]) [] ⟨[], rfl, by simp, fun d hd => (nomatch hd)⟩
  have h1 : (Fu.loop (B1 (.frl (zs.map D.int))) (intsD 0 n) [] : Fu.O (List D) Empty _) = _ := h1
  refine ⟨l'.reverse.map D.int, ⟨_, rfl, fun d hd => h3 d (List.mem_reverse.mp hd)⟩, ?_⟩
  have e : F__law_draws (.frl (zs.map D.int)) = Fu.finN (ρ := (List Py.D)) (β := Unit) ((Fu.O.ofP (Fu.S.lst Fu.S.nil)).seq fun z1 => (((Fu.O.ofP (Fu.S.it fRange1 (Fu.S.cons (Fu.S.cal fMin (Fu.S.cons (Fu.S.cal fLen (Fu.S.cons (Fu.S.ok (.frl (zs.map D.int))) Fu.S.nil)) (Fu.S.cons (Fu.S.ok (.int 63)) Fu.S.nil))) Fu.S.nil))).seq fun x17 => Fu.loop (B1 (.frl (zs.map D.int))) x17 z1).seq fun z4 => ((Fu.mutP mReverse z4 Fu.S.nil).seq fun z18 => (.rt z18.2)))) := rfl
  rw [e]
  simp [n3, rg1 (show n ≤ 1000000000 by omega), h1, List.map_reverse]
end FuM
end
end

section
set_option maxHeartbeats 400000
namespace StM
open Py PySem L2
/-! # Ways of stores: plain mathematics -/
abbrev sA : Str := "anew"
abbrev sO : Str := "on"
structure S where
  slow : Int
  cap : Option Int
  err : Int
  anew : Bool
def S.ok (s : S) : Prop := 0 ≤ s.slow ∧ (∀ c, s.cap = some c → 0 ≤ c) ∧ 0 ≤ s.err
def capD : Option Int → D
  | none => .non
  | some c => .int c
def kd (b : Bool) : Str := if b = true then sA else sO
def S.ds (s : S) : List D := [.int s.slow, capD s.cap, .int s.err, .str (kd s.anew)]
def S.enc (s : S) : D := .tup s.ds
def S.encL (s : S) : D := .lst s.ds
theorem in_kd (b : Bool) : fInW true (.str (kd b)) (.tup [.str "anew", .str "on"]) = some (.bl false) := by cases b <;> kernel_rfl
theorem eq_kd (b : Bool) : fEq (.str (kd b)) (.str "anew") = some (.bl b) := by cases b <;> kernel_rfl
/-- a store as the program may get it -/
def isS (d : D) (s : S) : Prop := d = s.enc ∨ d = s.encL
/-- a way as the program may get it -/
def eS (b : Bool) (s : S) : D := if b = true then s.encL else s.enc
def W (b : Bool) (way : List S) : D := if b = true then .lst (way.map (eS b)) else .tup (way.map (eS b))
theorem isS_e (b : Bool) (s : S) : isS (eS b s) s := by cases b; exact .inl rfl; exact .inr rfl
theorem its_W {b way} : itemsOf (W b way) = some (way.map (eS b)) := by cases b <;> rfl
theorem len_W {b way} : fLen [W b way] = some (.int (way.length : Nat)) := by cases b <;> simp [W]
def gr (st i : Nat) : List S → List (Nat × Nat)
  | [] => []
  | s :: rest => if (s.anew || rest.isEmpty) = true then (st, i + 1 - st) :: gr (i + 1) (i + 1) rest else gr st (i + 1) rest
def gD (p : Nat × Nat) : D := .tup (intsD (p.1 : Int) p.2)
theorem ix3 (s : S) : fIx s.enc (.int 3) = some (.str (kd s.anew)) := by simp [S.enc, S.ds]
theorem ix1 (s : S) : fIx s.enc (.int 1) = some (capD s.cap) := by simp [S.enc, S.ds]
theorem ix0 (s : S) : fIx s.enc (.int 0) = some (.int s.slow) := by simp [S.enc, S.ds]
theorem ix2 (s : S) : fIx s.enc (.int 2) = some (.int s.err) := by simp [S.enc, S.ds]
def addc : Option Int → Option Int → Option Int
  | some a, some b => some (a + b)
  | _, _ => none
def capF (way : List S) (s n : Nat) : Option Int := ((way.drop s).take n).foldl (fun a x => addc a x.cap) (some 0)
theorem capF_succ (way : List S) (s n : Nat) (x : S) (h : way[s + n]? = some x) : capF way s (n + 1) = addc (capF way s n) x.cap := by
  unfold capF
  have : (way.drop s).take (n + 1) = (way.drop s).take n ++ [x] := by
    rw [List.take_add_one, List.getElem?_drop, h]; rfl
  rw [this, List.foldl_append]; rfl
theorem ixW (way : List S) (i : Nat) (x : S) (h : way[i]? = some x) : fIx (W false way) (.int (i : Int)) = some x.enc := by simp [W, h, eS]
theorem gr_le : ∀ (as : List S) (st i : Nat), st ≤ i → ∀ p ∈ gr st i as, p.1 + p.2 ≤ i + as.length
  | [], st, i, h, p, hp => by simp [gr] at hp
  | a :: as, st, i, h, p, hp => by
    unfold gr at hp
    split at hp
    · rcases List.mem_cons.mp hp with rfl | hp
      · simp; omega
      · have := gr_le as (i + 1) (i + 1) (by omega) p hp
        simp; omega
    · have := gr_le as st (i + 1) (by omega) p hp
      simp; omega
theorem gr_len : ∀ (as : List S) (st i : Nat), (gr st i as).length ≤ as.length
  | [], st, i => by simp [gr]
  | a :: as, st, i => by
    unfold gr
    split
    · have := gr_len as (i + 1) (i + 1); simp; omega
    · have := gr_len as st (i + 1); simp; omega
def minC (life : Int) : Option Int → Int
  | none => life
  | some c => if c < life then c else life
def base (way : List S) : Int := (way.map fun s => s.slow + s.err).sum
def caps (way : List S) : List (Option Int) := (gr 0 0 way).map fun p => capF way p.1 p.2
theorem caps_len (way : List S) : (caps way).length ≤ way.length := by unfold caps; rw [List.length_map]; exact gr_len way 0 0
def delay (way : List S) (life : Int) : Int := base way + ((caps way).map (minC life)).sum
def grc (acc : Option Int) : List S → List (Option Int)
  | [] => []
  | s :: rest => if (s.anew || rest.isEmpty) = true then addc acc s.cap :: grc (some 0) rest else grc (addc acc s.cap) rest
theorem caps_gc (way : List S) : ∀ (as : List S) (st i : Nat), st ≤ i → way.drop i = as → (gr st i as).map (fun p => capF way p.1 p.2) = grc (capF way st (i - st)) as
  | [], _, _, _, _ => rfl
  | a :: as, st, i, h, hd => by
    have hx : way[st + (i - st)]? = some a := by rw [show st + (i - st) = i by omega, ← List.head?_drop, hd]; rfl
    have hd2 : way.drop (i + 1) = as := by rw [← List.drop_drop, hd]; rfl
    have e := capF_succ way st (i - st) a hx
    rw [show i - st + 1 = i + 1 - st by omega] at e
    unfold gr grc
    rw [← e]
    split
    · rw [List.map_cons, caps_gc way as (i + 1) (i + 1) (by omega) hd2]
      simp [capF]
    · exact caps_gc way as st (i + 1) (by omega) hd2
def greedy (life : Int) : Int → Int → List S → Int
  | total, _, [] => total
  | total, left, s :: rest => greedy life (total + s.slow + minC left s.cap + s.err) (if s.anew = true then life else left - minC left s.cap) rest
theorem minC_add {life : Int} (h : 0 ≤ life) (acc c : Option Int) (ha : ∀ x, acc = some x → 0 ≤ x) (hc : ∀ x, c = some x → 0 ≤ x) : minC life (addc acc c) = minC life acc + minC (life - minC life acc) c := by
  cases acc with
  | none => cases c with
    | none => simp [minC, addc]
    | some c => have := hc c rfl; simp [minC, addc]; omega
  | some a => have := ha a rfl; cases c with
    | none => simp only [minC, addc]; omega
    | some c => have := hc c rfl; simp only [minC, addc]; split <;> split <;> split <;> omega
theorem greedy_eq {life : Int} (h : 0 ≤ life) : ∀ (as : List S) (acc : Option Int) (total : Int), (∀ s ∈ as, s.ok) → (∀ x, acc = some x → 0 ≤ x) → (as = [] → acc = some 0) →
    greedy life total (life - minC life acc) as = total + base as + ((grc acc as).map (minC life)).sum - minC life acc
  | [], acc, total, ho, ha, hn => by
    rw [hn rfl]; simp [greedy, base, grc, minC]; omega
  | a :: as, acc, total, ho, ha, hn => by
    have hoa := ho a List.mem_cons_self
    have m := minC_add h acc a.cap ha hoa.2.1
    have ha' : ∀ x, addc acc a.cap = some x → 0 ≤ x := fun x e => by
      cases e1 : acc with
      | none => rw [e1] at e; cases e
      | some y => cases e2 : a.cap with
        | none => rw [e1, e2] at e; cases e
        | some z => rw [e1, e2] at e; cases e; have := ha y e1; have := hoa.2.1 z e2; omega
    have z0 : minC life (some 0) = 0 := by simp only [minC]; split <;> omega
    unfold greedy grc
    cases hb : a.anew with
    | true =>
      have ih := greedy_eq h as (some 0) (total + a.slow + minC (life - minC life acc) a.cap + a.err) (fun s hs => ho s (List.mem_cons_of_mem _ hs)) (fun x e => by cases e; omega) (fun _ => rfl)
      rw [z0, Int.sub_zero] at ih
      simp only [if_true, Bool.true_or]
      rw [ih]
      simp [base]; omega
    | false =>
      cases as with
      | nil => simp [greedy, base, grc]; omega
      | cons b bs =>
        have ih := greedy_eq h (b :: bs) (addc acc a.cap) (total + a.slow + minC (life - minC life acc) a.cap + a.err) (fun s hs => ho s (List.mem_cons_of_mem _ hs)) ha' (fun e => nomatch e)
        rw [m] at ih
        rw [show life - minC life acc - minC (life - minC life acc) a.cap = life - (minC life acc + minC (life - minC life acc) a.cap) by omega]
        simp only [Bool.false_eq_true, if_false, List.isEmpty_cons, Bool.or_self]
        rw [ih]
        simp [base]; omega
theorem greedy_delay {life : Int} (h : 0 ≤ life) (way : List S) (ho : ∀ s ∈ way, s.ok) : greedy life 0 life way = delay way life := by
  have z0 : minC life (some 0) = 0 := by simp only [minC]; split <;> omega
  have e := greedy_eq h way (some 0) 0 ho (fun x e => by cases e; omega) (fun _ => rfl)
  rw [z0, Int.sub_zero] at e
  rw [e]
  have c := caps_gc way way 0 0 (by omega) (by simp)
  unfold delay caps
  rw [c]
  simp [capF]
structure Way (way : List S) : Prop where
  ok : ∀ s ∈ way, s.ok
  ne : way ≠ []
  len : way.length ≤ 1000
theorem minC_nn {life : Int} (h : 0 ≤ life) (c : Option Int) (hc : ∀ x, c = some x → 0 ≤ x) : 0 ≤ minC life c := by
  cases c with
  | none => exact h
  | some c => have := hc c rfl; simp only [minC]; split <;> omega
theorem gc_nn : ∀ (as : List S) (acc : Option Int), (∀ s ∈ as, s.ok) → (∀ x, acc = some x → 0 ≤ x) → ∀ c ∈ grc acc as, ∀ x, c = some x → 0 ≤ x
  | [], acc, ho, ha, c, hc, x, e => by cases hc
  | a :: as, acc, ho, ha, c, hc, x, e => by
    have hoa := ho a List.mem_cons_self
    have ha' : ∀ x, addc acc a.cap = some x → 0 ≤ x := fun x e => by
      cases e1 : acc with
      | none => rw [e1] at e; cases e
      | some y => cases e2 : a.cap with
        | none => rw [e1, e2] at e; cases e
        | some z => rw [e1, e2] at e; cases e; have := ha y e1; have := hoa.2.1 z e2; omega
    unfold grc at hc
    split at hc
    · rcases List.mem_cons.mp hc with rfl | hc
      · exact ha' x e
      · exact gc_nn as (some 0) (fun s hs => ho s (List.mem_cons_of_mem _ hs)) (fun x e => by cases e; omega) c hc x e
    · exact gc_nn as _ (fun s hs => ho s (List.mem_cons_of_mem _ hs)) ha' c hc x e
theorem sum_nn : ∀ (l : List Int), (∀ x ∈ l, 0 ≤ x) → 0 ≤ l.sum
  | [], _ => by simp
  | a :: l, h => by
    have := h a List.mem_cons_self
    have := sum_nn l fun x hx => h x (List.mem_cons_of_mem _ hx)
    simp; omega
theorem delay_nn (way : List S) (h : ∀ s ∈ way, s.ok) (life : Int) (hl : 0 ≤ life) : 0 ≤ delay way life := by
  have c := caps_gc way way 0 0 (by omega) (by simp)
  have c2 : caps way = grc (some 0) way := by unfold caps; rw [c]; simp [capF]
  have h1 : 0 ≤ base way := sum_nn _ fun x hx => by
    obtain ⟨s, hs, rfl⟩ := List.mem_map.mp hx
    have := h s hs
    have := this.1; have := (h s hs).2.2; omega
  have h2 : 0 ≤ ((caps way).map (minC life)).sum := sum_nn _ fun x hx => by
    obtain ⟨y, hy, rfl⟩ := List.mem_map.mp hx
    rw [c2] at hy
    exact minC_nn hl y (gc_nn way (some 0) h (fun x e => by cases e; omega) y hy)
  unfold delay; omega
def most (life : Int) (ways : List (List S)) : Int := ways.foldl (fun b w => if delay w life > b then delay w life else b) 0
def up (life : Int) (c : Option Int) : Bool := match c with
  | none => true
  | some c => decide (life < c)
def stp (way : List S) (life : Int) : Int := (((caps way).filter (up life)).length : Nat)
/-- all of a row, None if one is None -/
def allC : List (Option Int) → Option Int
  | [] => some 0
  | none :: _ => none
  | some a :: cs => (allC cs).map (a + ·)
theorem caps_eq (way : List S) : caps way = grc (some 0) way := by
  have c := caps_gc way way 0 0 (by omega) (by simp)
  unfold caps; rw [c]; simp [capF]
theorem min_minC (left : Int) (c : Int) : (if c < left then c else left) = minC left (some c) := rfl
theorem sum_map_le (l : List (Option Int)) (life : Int) (h : ∀ c ∈ l, ∀ x, c = some x → 0 ≤ x) (hp : 0 ≤ life) : (l.map (minC (life + 1))).sum - (l.map (minC life)).sum = ((l.filter (up life)).length : Nat) := by
  induction l with
  | nil => rfl
  | cons c l ih =>
    have ih := ih fun x hx => h x (List.mem_cons_of_mem _ hx)
    cases c with
    | none => simp only [List.map_cons, List.sum_cons, minC, up, List.filter_cons, if_true, List.length_cons]; omega
    | some c =>
      by_cases hc : life < c
      · simp only [List.map_cons, List.sum_cons, minC, up, List.filter_cons, hc, decide_true, if_true, List.length_cons]
        rw [if_neg (by omega), if_neg (by omega)]; omega
      · simp only [List.map_cons, List.sum_cons, minC, up, List.filter_cons, hc, decide_false]
        rw [if_pos (by omega)]
        by_cases h2 : c < life
        · rw [if_pos h2]; simp; omega
        · rw [if_neg h2]; simp; omega
/-- the delay grows by the step -/
theorem delay_step (way : List S) (h : ∀ s ∈ way, s.ok) (life : Int) (hp : 0 ≤ life) : delay way (life + 1) - delay way life = stp way life := by
  have e := sum_map_le (caps way) life (by rw [caps_eq]; exact gc_nn way (some 0) h fun x e => by cases e; omega) hp
  unfold delay stp
  omega
theorem step_anti (way : List S) {l1 l2 : Int} (h : l1 ≤ l2) : stp way l2 ≤ stp way l1 := by
  unfold stp
  have : ∀ cs : List (Option Int), (cs.filter (up l2)).length ≤ (cs.filter (up l1)).length := fun cs => by
    induction cs with
    | nil => simp
    | cons c cs ih =>
      cases c with
      | none => simp only [List.filter_cons, up, if_true, List.length_cons]; omega
      | some c =>
        by_cases h1 : l1 < c <;> by_cases h2 : l2 < c <;> simp only [List.filter_cons, up, h1, h2, decide_true, decide_false, if_true, Bool.false_eq_true, if_false, List.length_cons] <;> omega
  exact Int.ofNat_le.mpr (this _)
def tot (way : List S) : Int := (way.map fun s => s.cap.getD 0).sum
theorem grc_all : ∀ (way : List S) (a : Int), (way = [] → a = 0) → (∀ s ∈ way, s.cap ≠ none) → (∀ s ∈ way, s.ok) → 0 ≤ a → (∀ life, a + tot way ≤ life → ((grc (some a) way).map (minC life)).sum = a + tot way) ∧ allC (grc (some a) way) = some (a + tot way)
  | [], a, h, _, _, _ => by
    have := h rfl
    subst this
    exact ⟨fun life _ => by simp [grc, tot], by simp [grc, tot, allC]⟩
  | s :: way, a, _, hc, ho, ha => by
    obtain ⟨c, hs⟩ : ∃ c, s.cap = some c := by
      cases h : s.cap with
      | none => exact absurd h (hc s List.mem_cons_self)
      | some c => exact ⟨c, rfl⟩
    have c0 := (ho s List.mem_cons_self).2.1 c hs
    have tn : ∀ w : List S, (∀ s ∈ w, s.ok) → 0 ≤ tot w := fun w hw => sum_nn _ fun x hx => by
      obtain ⟨y, hy, rfl⟩ := List.mem_map.mp hx
      cases e : y.cap with
      | none => simp
      | some z => simpa using (hw y hy).2.1 z e
    have tn := tn way fun s hs => ho s (List.mem_cons_of_mem _ hs)
    have te : tot (s :: way) = c + tot way := by simp [tot, hs]
    unfold grc
    by_cases hb : (s.anew || way.isEmpty) = true
    · obtain ⟨i1, i2⟩ := grc_all way 0 (fun _ => rfl) (fun s hs => hc s (List.mem_cons_of_mem _ hs)) (fun s hs => ho s (List.mem_cons_of_mem _ hs)) (by omega)
      rw [if_pos hb, hs]
      refine ⟨fun life hl => ?_, ?_⟩
      · rw [te] at hl ⊢
        simp only [List.map_cons, List.sum_cons, addc, i1 life (by omega), minC]
        split <;> omega
      · rw [te]; simp only [addc, allC, i2, Option.map_some]; congr 1; omega
    · obtain ⟨i1, i2⟩ := grc_all way (a + c) (fun e => by subst e; simp at hb) (fun s hs => hc s (List.mem_cons_of_mem _ hs)) (fun s hs => ho s (List.mem_cons_of_mem _ hs)) (by omega)
      rw [if_neg hb, hs]
      refine ⟨fun life hl => ?_, ?_⟩
      · rw [te] at hl ⊢
        rw [show addc (some a) (some c) = some (a + c) from rfl, i1 life (by omega)]; omega
      · rw [te, show addc (some a) (some c) = some (a + c) from rfl, i2]; congr 1; omega
theorem addc_none (a : Option Int) : addc a none = none := by cases a <;> rfl
theorem grc_none : ∀ (way : List S) (acc : Option Int), (∃ s ∈ way, s.cap = none) ∨ (acc = none ∧ way ≠ []) → none ∈ grc acc way
  | [], acc, h => by
    rcases h with ⟨s, hs, _⟩ | ⟨_, h⟩
    · cases hs
    · exact absurd rfl h
  | s :: way, acc, h => by
    unfold grc
    by_cases hb : (s.anew || way.isEmpty) = true
    · rw [if_pos hb]
      by_cases h1 : addc acc s.cap = none
      · rw [h1]; exact List.mem_cons_self
      · refine List.mem_cons_of_mem _ (grc_none way _ (.inl ?_))
        rcases h with ⟨x, hx, hc⟩ | ⟨rfl, _⟩
        · rcases List.mem_cons.mp hx with rfl | hx
          · exact absurd (by rw [hc]; exact addc_none _) h1
          · exact ⟨x, hx, hc⟩
        · exact absurd rfl h1
    · rw [if_neg hb]
      have hne : way ≠ [] := fun e => by subst e; simp at hb
      refine grc_none way _ ?_
      rcases h with ⟨x, hx, hc⟩ | ⟨rfl, _⟩
      · rcases List.mem_cons.mp hx with rfl | hx
        · exact .inr ⟨by rw [hc]; exact addc_none _, hne⟩
        · exact .inl ⟨x, hx, hc⟩
      · exact .inr ⟨rfl, hne⟩
theorem allC_none : ∀ {l : List (Option Int)}, none ∈ l → allC l = none
  | none :: l, _ => rfl
  | some a :: l, h => by
    have : none ∈ l := by simpa using h
    simp [allC, allC_none this]
theorem sum_none {life : Int} (hp : 0 ≤ life) : ∀ {l : List (Option Int)}, none ∈ l → (∀ c ∈ l, ∀ x, c = some x → 0 ≤ x) → life ≤ (l.map (minC life)).sum
  | c :: l, h, hn => by
    have h1 : 0 ≤ (l.map (minC life)).sum := sum_nn _ fun x hx => by
      obtain ⟨y, hy, rfl⟩ := List.mem_map.mp hx
      exact minC_nn hp y (hn y (List.mem_cons_of_mem _ hy))
    have h2 := minC_nn hp c (hn c List.mem_cons_self)
    rcases List.mem_cons.mp h with rfl | h
    · simp [minC]; omega
    · have := sum_none hp h fun c hc => hn c (List.mem_cons_of_mem _ hc)
      simp; omega
theorem base_nn (way : List S) (h : ∀ s ∈ way, s.ok) : 0 ≤ base way := sum_nn _ fun x hx => by
  obtain ⟨s, hs, rfl⟩ := List.mem_map.mp hx
  have := h s hs
  have := this.1; have := (h s hs).2.2; omega
theorem caps_nn (way : List S) (h : ∀ s ∈ way, s.ok) : ∀ c ∈ caps way, ∀ x, c = some x → 0 ≤ x := by
  rw [caps_eq]; exact gc_nn way (some 0) h fun x e => by cases e; omega
theorem in_caps : ∀ l : List (Option Int), fInW false .non (.lst (l.map capD)) = some (.bl (decide (none ∈ l))) := by
  intro l
  have e : ∀ l : List (Option Int), flatL (l.map capD) = some (l.map fun c => match c with | none => V.non | some c => V.int c) := fun l => by
    induction l with
    | nil => rfl
    | cons c l ih => cases c <;> simp [flatL, ih, D.flat, capD]
  simp only [fInW, its_lst, Option.bind_some, D.flat, e, Option.map_some, Bool.false_eq_true, if_false, inV]
  congr 2
  induction l with
  | nil => rfl
  | cons c l ih =>
    rw [List.map_cons, List.any_cons, ih]
    cases c with
    | none => simp [eqV]
    | some c => simp [eqV]

theorem kdS (b : Bool) : PyData.strOk (kd b) = true := by cases b <;> kernel_rfl
theorem eS_dat (b : Bool) (s : S) : D.dat 57 (eS b s) = true := by cases b <;> cases h : s.cap <;> simp [eS, S.enc, S.encL, S.ds, D.dat, D.datL, capD, h, kdS]
theorem W_dat (b : Bool) (way : List S) : D.dat 58 (W b way) = true := by
  have : ∀ l : List S, D.datL 57 (l.map (eS b)) = true := fun l => by
    induction l with
    | nil => rfl
    | cons s l ih => simp [D.datL, eS_dat, ih]
  unfold W
  split <;> simp [D.dat, this]
theorem Ws_dat (b : Bool) (ways : List (List S)) : D.datL 58 (ways.map (W b)) = true := by
  induction ways with
  | nil => rfl
  | cons w ws ih => simp [D.datL, W_dat, ih]
theorem W_enc (way : List S) : W false way = .tup (way.map S.enc) := by simp only [W, Bool.false_eq_true, if_false]; rfl

end StM
end

section
set_option maxHeartbeats 400000
namespace K06
open Py PySem L2
noncomputable section
def T : Tbl := [("KeysError", ["KeysError"]), ("BadNumber", ["BadNumber", "KeysError"]), ("BadHours", ["BadHours", "KeysError"]), ("BadStore", ["BadStore", "KeysError"]), ("BadCase", ["BadCase", "KeysError"])]
def plain_form_n0 : Nat := 1000000
def f_is_int : Py.Env → SRes := dRet (dVal (dAndV (dCal (fIs T) (dCons (dVar 0) (dCons (dC (.ty .int)) (dNil)))) (dNotV (dCal (fIs T) (dCons (dVar 0) (dCons (dC (.ty .bool)) (dNil)))))))
def c_is_int : Py.Fn := runD 1 f_is_int
def l_plain_form_1 : Py.Env → SRes := dDrop (dMut 1 mAppend (dCons (dVar 4) (dNil)))
def l_plain_form_0 : Py.Env → SRes := dSeq (dSet 3 (dMut 1 mPop dNil)) (dIf (dTru (dCal (fIs T) (dCons (dVar 3) (dCons (dTup (dCons (dC (.ty .lst)) (dCons (dC (.ty .tup)) (dNil)))) (dNil))))) (dSeq (dDrop (dMut 2 mAppend (dCons (dTup (dCons (dCal fLen (dCons (dVar 3) (dNil))) (dCons (dC (.bl true)) (dNil)))) (dNil)))) (dFor (dItems (dVar 3)) (gNm 4) (l_plain_form_1))) (dDrop (dMut 2 mAppend (dCons (dTup (dCons (dVar 3) (dCons (dC (.bl false)) (dNil)))) (dNil)))))
def l_plain_form_3 : Py.Env → SRes := dDrop (dMut 7 mAppend (dCons (dHold (dMut 5 mPop dNil)) (dNil)))
def l_plain_form_2 : Py.Env → SRes := dIf (dTru (dVar 6)) (dSeq (dSet 7 (dLst (dNil))) (dSeq (dFor (dIt fRange1 (dCons (dVar 3) (dNil))) (gNm 8) (l_plain_form_3)) (dDrop (dMut 5 mAppend (dCons (dCal fTuple (dCons (dUn fRev (dVar 7)) (dNil))) (dNil)))))) (dDrop (dMut 5 mAppend (dCons (dVar 3) (dNil))))
def st_plain_form_0 : Py.Env → SRes := dSet 1 (dLst (dCons (dVar 0) (dNil)))
def st_plain_form_1 : Py.Env → SRes := dSet 2 (dLst (dNil))
def st_plain_form_2 : Py.Env → SRes := dWhile (dTruO 1) (l_plain_form_0) plain_form_n0
def st_plain_form_3 : Py.Env → SRes := dSet 5 (dLst (dNil))
def st_plain_form_4 : Py.Env → SRes := dFor (dItems (dUn fRev (dVar 2))) (gSq 2 (gC (gNm 3) (gC (gNm 6) gN0))) (l_plain_form_2)
def st_plain_form_5 : Py.Env → SRes := dRet (dVal (dIxO 5 (dC (.int 0))))
def f_plain_form : Py.Env → SRes := dSeq (st_plain_form_0) (dSeq (st_plain_form_1) (dSeq (st_plain_form_2) (dSeq (st_plain_form_3) (dSeq (st_plain_form_4) (st_plain_form_5)))))
def c_plain_form : Py.Fn := runD 9 f_plain_form
def f_check_number : Py.Env → SRes := dSeq (dIf (dOr (dNot (dTru (dHold (dCall c_is_int (aVal (dVar 0) (aNil)))))) (dTst (dBin fLt (dVar 0) (dVar 1)))) (dRaise "BadNumber" "at" (dHold (dCall c_plain_form (aVal (dVar 0) (aNil))))) (dNext)) (dRet (dVal (dVar 0)))
def c_check_number : Py.Fn := runD 2 f_check_number
def f_check_hour : Py.Env → SRes := dSeq (dIf (dNot (dTru (dHold (dCall c_is_int (aVal (dVar 0) (aNil)))))) (dRaise "BadHours" "at" (dHold (dCall c_plain_form (aVal (dVar 0) (aNil))))) (dNext)) (dRet (dVal (dVar 0)))
def c_check_hour : Py.Fn := runD 1 f_check_hour
def st_wrong_store_part_0 : Py.Env → SRes := dIf (dOr (dNot (dTru (dCal (fIs T) (dCons (dVar 0) (dCons (dTup (dCons (dC (.ty .tup)) (dCons (dC (.ty .lst)) (dNil)))) (dNil)))))) (dTst (dBin fNe (dCal fLen (dCons (dVar 0) (dNil))) (dC (.int 4))))) (dRet (dVal (dUn fNeg (dC (.int 1))))) (dNext)
def st_wrong_store_part_1 : Py.Env → SRes := dAsg (dVar 0) (gSq 4 (gC (gNm 1) (gC (gNm 2) (gC (gNm 3) (gC (gNm 4) gN0)))))
def st_wrong_store_part_2 : Py.Env → SRes := dIf (dOr (dNot (dTru (dHold (dCall c_is_int (aVal (dVar 1) (aNil)))))) (dTst (dBin fLt (dVar 1) (dC (.int 0))))) (dRet (dVal (dC (.int 0)))) (dNext)
def st_wrong_store_part_3 : Py.Env → SRes := dIf (dAnd (dTst (dBin fIsNot (dVar 2) (dC .non))) (dOr (dNot (dTru (dHold (dCall c_is_int (aVal (dVar 2) (aNil)))))) (dTst (dBin fLt (dVar 2) (dC (.int 0)))))) (dRet (dVal (dC (.int 1)))) (dNext)
def st_wrong_store_part_4 : Py.Env → SRes := dIf (dOr (dNot (dTru (dHold (dCall c_is_int (aVal (dVar 3) (aNil)))))) (dTst (dBin fLt (dVar 3) (dC (.int 0))))) (dRet (dVal (dC (.int 2)))) (dNext)
def st_wrong_store_part_5 : Py.Env → SRes := dIf (dOr (dNot (dTru (dCal (fIs T) (dCons (dVar 4) (dCons (dC (.ty .str)) (dNil)))))) (dTst (dBin (fInW true) (dVar 4) (dTup (dCons (dC (.str "anew")) (dCons (dC (.str "on")) (dNil))))))) (dRet (dVal (dC (.int 3)))) (dNext)
def st_wrong_store_part_6 : Py.Env → SRes := dRet (dVal (dC .non))
def f_wrong_store_part : Py.Env → SRes := dSeq (st_wrong_store_part_0) (dSeq (st_wrong_store_part_1) (dSeq (st_wrong_store_part_2) (dSeq (st_wrong_store_part_3) (dSeq (st_wrong_store_part_4) (dSeq (st_wrong_store_part_5) (st_wrong_store_part_6))))))
def c_wrong_store_part : Py.Fn := runD 5 f_wrong_store_part
def l_wrong_way_place_0 : Py.Env → SRes := dSeq (dSet 3 (dCall c_wrong_store_part (aVal (dVar 2) (aNil)))) (dIf (dTst (dBin fIsNot (dVar 3) (dC .non))) (dRet (dVal (dTup (dCons (dVar 1) (dCons (dVar 3) (dNil)))))) (dNext))
def f_wrong_way_place : Py.Env → SRes := dSeq (dIf (dOr (dNot (dTru (dCal (fIs T) (dCons (dVar 0) (dCons (dTup (dCons (dC (.ty .tup)) (dCons (dC (.ty .lst)) (dNil)))) (dNil)))))) (dTst (dBin fEq (dCal fLen (dCons (dVar 0) (dNil))) (dC (.int 0))))) (dRet (dVal (dTup (dCons (dUn fNeg (dC (.int 1))) (dCons (dUn fNeg (dC (.int 1))) (dNil)))))) (dNext)) (dSeq (dFor (dIt fEnum (dCons (dVar 0) (dNil))) (gSq 2 (gC (gNm 1) (gC (gNm 2) gN0))) (l_wrong_way_place_0)) (dRet (dVal (dC .non))))
def c_wrong_way_place : Py.Fn := runD 4 f_wrong_way_place
def l_plain_way_0 : Py.Env → SRes := dDrop (dMut 1 mAppend (dCons (dCal fTuple (dCons (dVar 2) (dNil))) (dNil)))
def f_plain_way : Py.Env → SRes := dSeq (dSet 1 (dLst (dNil))) (dSeq (dFor (dItems (dVar 0)) (gNm 2) (l_plain_way_0)) (dRet (dVal (dCal fTuple (dCons (dVar 1) (dNil))))))
def c_plain_way : Py.Fn := runD 3 f_plain_way
def f_check_way : Py.Env → SRes := dSeq (dSet 1 (dCall c_wrong_way_place (aVal (dVar 0) (aNil)))) (dSeq (dIf (dTst (dBin fIsNot (dVar 1) (dC .non))) (dRaise "BadStore" "at" (dVar 1)) (dNext)) (dRet (dCall c_plain_way (aVal (dVar 0) (aNil)))))
def c_check_way : Py.Fn := runD 2 f_check_way
def l_plain_groups_0 : Py.Env → SRes := dIf (dOr (dTst (dBin fEq (dBin fIx (dVar 4) (dC (.int 3))) (dC (.str "anew")))) (dTst (dBin fEq (dVar 3) (dBin fSub (dCal fLen (dCons (dVar 0) (dNil))) (dC (.int 1)))))) (dSeq (dDrop (dMut 1 mAppend (dCons (dTupRg2 (dVar 2) (dBin fAdd (dVar 3) (dC (.int 1)))) (dNil)))) (dSet 2 (dVal (dBin fAdd (dVar 3) (dC (.int 1)))))) (dNext)
def f_plain_groups : Py.Env → SRes := dSeq (dSet 1 (dLst (dNil))) (dSeq (dSet 2 (dVal (dC (.int 0)))) (dSeq (dFor (dIt fEnum (dCons (dVar 0) (dNil))) (gSq 2 (gC (gNm 3) (gC (gNm 4) gN0))) (l_plain_groups_0)) (dRet (dVal (dCal fTuple (dCons (dVar 1) (dNil)))))))
def c_plain_groups : Py.Fn := runD 5 f_plain_groups
def l_plain_caps_1 : Py.Env → SRes := dSeq (dSet 5 (dVal (dBin fIx (dBin fIx (dVar 0) (dVar 4)) (dC (.int 1))))) (dIf (dTst (dBin fIsNot (dVar 3) (dC .non))) (dSet 3 (dVal (dIfE (dTst (dBin fIsN (dVar 5) (dC .non))) (dC .non) (dBin fAdd (dVar 3) (dVar 5))))) (dNext))
def l_plain_caps_0 : Py.Env → SRes := dSeq (dSet 3 (dVal (dC (.int 0)))) (dSeq (dFor (dItems (dVar 2)) (gNm 4) (l_plain_caps_1)) (dDrop (dMut 1 mAppend (dCons (dVar 3) (dNil)))))
def f_plain_caps : Py.Env → SRes := dSeq (dSet 1 (dLst (dNil))) (dSeq (dFor (dItems (dHold (dCall c_plain_groups (aVal (dVar 0) (aNil))))) (gNm 2) (l_plain_caps_0)) (dRet (dVal (dCal fTuple (dCons (dVar 1) (dNil))))))
def c_plain_caps : Py.Fn := runD 6 f_plain_caps
def l_plain_base_0 : Py.Env → SRes := dSet 1 (dVal (dBin fAdd (dBin fAdd (dVar 1) (dBin fIx (dVar 2) (dC (.int 0)))) (dBin fIx (dVar 2) (dC (.int 2)))))
def f_plain_base : Py.Env → SRes := dSeq (dSet 1 (dVal (dC (.int 0)))) (dSeq (dFor (dItems (dVar 0)) (gNm 2) (l_plain_base_0)) (dRet (dMove 1)))
def c_plain_base : Py.Fn := runD 3 f_plain_base
def l_life_shares_0 : Py.Env → SRes := dDrop (dMut 2 mAppend (dCons (dIfE (dTst (dBin fIsN (dVar 3) (dC .non))) (dVar 1) (dCal fMin (dCons (dVar 1) (dCons (dVar 3) (dNil))))) (dNil)))
def f_life_shares : Py.Env → SRes := dSeq (dSet 2 (dLst (dNil))) (dSeq (dFor (dItems (dHold (dCall c_plain_caps (aVal (dVar 0) (aNil))))) (gNm 3) (l_life_shares_0)) (dRet (dVal (dCal fTuple (dCons (dVar 2) (dNil))))))
def c_life_shares : Py.Fn := runD 4 f_life_shares
def l_plain_delay_0 : Py.Env → SRes := dSet 2 (dVal (dBin fAdd (dVar 2) (dVar 3)))
def f_plain_delay : Py.Env → SRes := dSeq (dSet 2 (dCall c_plain_base (aVal (dVar 0) (aNil)))) (dSeq (dFor (dItems (dHold (dCall c_life_shares (aVal (dVar 0) (aVal (dVar 1) (aNil)))))) (gNm 3) (l_plain_delay_0)) (dRet (dMove 2)))
def c_plain_delay : Py.Fn := runD 4 f_plain_delay
def l_has_copy_form_1 : Py.Env → SRes := dIf (dNot (dTru (dHold (dCall c_is_int (aVal (dVar 4) (aNil)))))) (dRet (dVal (dC (.bl false)))) (dNext)
def l_has_copy_form_0 : Py.Env → SRes := dSeq (dIf (dOr (dNot (dTru (dCal (fIs T) (dCons (dVar 3) (dCons (dC (.ty .tup)) (dNil)))))) (dTst (dBin fNe (dCal fLen (dCons (dVar 3) (dNil))) (dC (.int 3))))) (dRet (dVal (dC (.bl false)))) (dNext)) (dFor (dItems (dVar 3)) (gNm 4) (l_has_copy_form_1))
def f_has_copy_form : Py.Env → SRes := dSeq (dIf (dOr (dNot (dTru (dCal (fIs T) (dCons (dVar 0) (dCons (dC (.ty .tup)) (dNil)))))) (dTst (dBin fNe (dCal fLen (dCons (dVar 0) (dNil))) (dC (.int 2))))) (dRet (dVal (dC (.bl false)))) (dNext)) (dSeq (dAsg (dVar 0) (gSq 2 (gC (gNm 1) (gC (gNm 2) gN0)))) (dSeq (dIf (dOr (dNot (dTru (dHold (dCall c_is_int (aVal (dVar 1) (aNil)))))) (dNot (dTru (dCal (fIs T) (dCons (dVar 2) (dCons (dC (.ty .tup)) (dNil))))))) (dRet (dVal (dC (.bl false)))) (dNext)) (dSeq (dFor (dItems (dVar 2)) (gNm 3) (l_has_copy_form_0)) (dRet (dVal (dC (.bl true)))))))
def c_has_copy_form : Py.Fn := runD 5 f_has_copy_form
def f_is_lawful_moment : Py.Env → SRes := dSeq (dAsg (dVar 0) (gSq 4 (gC (gNm 3) (gC (gNm 4) (gC (gNm 5) (gC (gNm 6) gN0)))))) (dSeq (dAsg (dVar 2) (gSq 3 (gC (gNm 7) (gC (gNm 8) (gC (gNm 9) gN0))))) (dSeq (dIf (dOr (dTst (dBin fLt (dVar 7) (dC (.int 0)))) (dOr (dTst (dBin fGt (dVar 7) (dVar 3))) (dTst (dBin fLt (dVar 8) (dC (.int 0)))))) (dRet (dVal (dC (.bl false)))) (dNext)) (dSeq (dIf (dOr (dTst (dBin fLt (dVar 9) (dC (.int 0)))) (dOr (dTst (dBin fLt (dVar 9) (dBin fSub (dVar 8) (dVar 5)))) (dTst (dBin fGt (dVar 9) (dVar 8))))) (dRet (dVal (dC (.bl false)))) (dNext)) (dRet (dVal (dAndV (dBin fLe (dVar 9) (dVar 1)) (dOrV (dBin fIsN (dVar 4) (dC .non)) (dBin fLe (dVar 9) (dVar 4)))))))))
def c_is_lawful_moment : Py.Fn := runD 10 f_is_lawful_moment
def l_lives_told_0 : Py.Env → SRes := dSeq (dDrop (dMut 4 mAppend (dCons (dVar 3) (dNil)))) (dSet 3 (dVal (dIfE (dTst (dBin fEq (dBin fIx (dVar 5) (dC (.int 3))) (dC (.str "anew")))) (dVar 1) (dBin fSub (dVar 3) (dBin fIx (dVar 6) (dC (.int 2)))))))
def f_lives_told : Py.Env → SRes := dSeq (dSet 3 (dVal (dVar 1))) (dSeq (dSet 4 (dLst (dNil))) (dSeq (dFor (dIt fZip (dCons (dVar 0) (dCons (dVar 2) (dNil)))) (gSq 2 (gC (gNm 5) (gC (gNm 6) gN0))) (l_lives_told_0)) (dRet (dVal (dCal fTuple (dCons (dVar 4) (dNil)))))))
def c_lives_told : Py.Fn := runD 7 f_lives_told
def l_is_plain_copy_0 : Py.Env → SRes := dIf (dNot (dTru (dHold (dCall c_is_lawful_moment (aVal (dVar 5) (aVal (dBin fIx (dVar 3) (dVar 4)) (aVal (dBin fIx (dBin fIx (dVar 2) (dC (.int 1))) (dVar 4)) (aNil)))))))) (dRet (dVal (dC (.bl false)))) (dNext)
def f_is_plain_copy : Py.Env → SRes := dSeq (dIf (dOr (dNot (dTru (dHold (dCall c_has_copy_form (aVal (dVar 2) (aNil)))))) (dTst (dBin fNe (dCal fLen (dCons (dBin fIx (dVar 2) (dC (.int 1))) (dNil))) (dCal fLen (dCons (dVar 0) (dNil)))))) (dRet (dVal (dC (.bl false)))) (dNext)) (dSeq (dSet 3 (dCall c_lives_told (aVal (dVar 0) (aVal (dVar 1) (aVal (dBin fIx (dVar 2) (dC (.int 1))) (aNil)))))) (dSeq (dFor (dIt fEnum (dCons (dVar 0) (dNil))) (gSq 2 (gC (gNm 4) (gC (gNm 5) gN0))) (l_is_plain_copy_0)) (dRet (dVal (dC (.bl true))))))
def c_is_plain_copy : Py.Fn := runD 6 f_is_plain_copy
def f_is_copy : Py.Env → SRes := dSeq (dSet 3 (dCall c_check_way (aVal (dVar 0) (aNil)))) (dSeq (dDrop (dCall c_check_number (aVal (dVar 1) (aVal (dC (.int 0)) (aNil))))) (dRet (dCall c_is_plain_copy (aVal (dVar 3) (aVal (dVar 1) (aVal (dHold (dCall c_plain_form (aVal (dVar 2) (aNil)))) (aNil)))))))
def c_is_copy : Py.Fn := runD 4 f_is_copy
def f_lives_along : Py.Env → SRes := dSeq (dSet 3 (dCall c_check_way (aVal (dVar 0) (aNil)))) (dSeq (dDrop (dCall c_check_number (aVal (dVar 1) (aVal (dC (.int 0)) (aNil))))) (dSeq (dSet 4 (dCall c_plain_form (aVal (dVar 2) (aNil)))) (dSeq (dIf (dNot (dTru (dHold (dCall c_is_plain_copy (aVal (dVar 3) (aVal (dVar 1) (aVal (dVar 4) (aNil)))))))) (dRaise "BadCase" "at" (dTup (dNil))) (dNext)) (dRet (dCall c_lives_told (aVal (dVar 3) (aVal (dVar 1) (aVal (dBin fIx (dVar 4) (dC (.int 1))) (aNil)))))))))
def c_lives_along : Py.Fn := runD 5 f_lives_along
def l_copy_hours_0 : Py.Env → SRes := dSet 2 (dVal (dBin fAdd (dBin fAdd (dVar 2) (dBin fIx (dVar 3) (dC (.int 0)))) (dBin fIx (dVar 3) (dC (.int 1)))))
def f_copy_hours : Py.Env → SRes := dSeq (dSet 1 (dCall c_plain_form (aVal (dVar 0) (aNil)))) (dSeq (dIf (dNot (dTru (dHold (dCall c_has_copy_form (aVal (dVar 1) (aNil)))))) (dRaise "BadCase" "at" (dTup (dNil))) (dNext)) (dSeq (dSet 2 (dVal (dC (.int 0)))) (dSeq (dFor (dItems (dBin fIx (dVar 1) (dC (.int 1)))) (gNm 3) (l_copy_hours_0)) (dRet (dMove 2)))))
def c_copy_hours : Py.Fn := runD 4 f_copy_hours
def l_copy_of_0 : Py.Env → SRes := dSeq (dSet 12 (dVal (dCal fMin (dCons (dVar 5) (dCons (dVar 8) (dNil)))))) (dSeq (dSet 13 (dVal (dIfE (dTst (dBin fIsN (dVar 9) (dC .non))) (dVar 6) (dCal fMin (dCons (dVar 6) (dCons (dVar 9) (dNil))))))) (dSeq (dSet 14 (dVal (dCal fMin (dCons (dBin fSub (dVar 5) (dVar 12)) (dCons (dBin fAdd (dVar 13) (dVar 10)) (dNil)))))) (dSeq (dSet 15 (dVal (dCal fMin (dCons (dVar 14) (dCons (dVar 13) (dNil)))))) (dSeq (dSet 5 (dVal (dBin fSub (dBin fSub (dVar 5) (dVar 12)) (dVar 14)))) (dSeq (dSet 6 (dVal (dIfE (dTst (dBin fEq (dVar 11) (dC (.str "anew")))) (dVar 1) (dBin fSub (dVar 6) (dVar 15))))) (dDrop (dMut 7 mAppend (dCons (dTup (dCons (dVar 12) (dCons (dVar 14) (dCons (dVar 15) (dNil))))) (dNil)))))))))
def st_copy_of_0 : Py.Env → SRes := dSet 4 (dCall c_check_way (aVal (dVar 0) (aNil)))
def st_copy_of_1 : Py.Env → SRes := dDrop (dCall c_check_number (aVal (dVar 1) (aVal (dC (.int 0)) (aNil))))
def st_copy_of_2 : Py.Env → SRes := dDrop (dCall c_check_hour (aVal (dVar 2) (aNil)))
def st_copy_of_3 : Py.Env → SRes := dDrop (dCall c_check_number (aVal (dVar 3) (aVal (dC (.int 0)) (aNil))))
def st_copy_of_4 : Py.Env → SRes := dIf (dTst (dBin fGt (dVar 3) (dHold (dCall c_plain_delay (aVal (dVar 4) (aVal (dVar 1) (aNil))))))) (dRet (dVal (dC .non))) (dNext)
def st_copy_of_5 : Py.Env → SRes := dSet 5 (dVal (dVar 3))
def st_copy_of_6 : Py.Env → SRes := dSet 6 (dVal (dVar 1))
def st_copy_of_7 : Py.Env → SRes := dSet 7 (dLst (dNil))
def st_copy_of_8 : Py.Env → SRes := dFor (dItems (dVar 4)) (gSq 4 (gC (gNm 8) (gC (gNm 9) (gC (gNm 10) (gC (gNm 11) gN0))))) (l_copy_of_0)
def st_copy_of_9 : Py.Env → SRes := dRet (dVal (dTup (dCons (dVar 2) (dCons (dCal fTuple (dCons (dVar 7) (dNil))) (dNil)))))
def f_copy_of : Py.Env → SRes := dSeq (st_copy_of_0) (dSeq (st_copy_of_1) (dSeq (st_copy_of_2) (dSeq (st_copy_of_3) (dSeq (st_copy_of_4) (dSeq (st_copy_of_5) (dSeq (st_copy_of_6) (dSeq (st_copy_of_7) (dSeq (st_copy_of_8) (st_copy_of_9)))))))))
def c_copy_of : Py.Fn := runD 16 f_copy_of
def l_plain_too_late_0 : Py.Env → SRes := dSeq (dIf (dNot (dTru (dHold (dCall c_is_int (aVal (dVar 7) (aNil)))))) (dRet (dVal (dC (.bl false)))) (dNext)) (dSet 6 (dVal (dBin fAdd (dVar 6) (dVar 7))))
def st_plain_too_late_0 : Py.Env → SRes := dIf (dOr (dNot (dTru (dCal (fIs T) (dCons (dVar 3) (dCons (dC (.ty .tup)) (dNil)))))) (dTst (dBin fNe (dCal fLen (dCons (dVar 3) (dNil))) (dC (.int 2))))) (dRet (dVal (dC (.bl false)))) (dNext)
def st_plain_too_late_1 : Py.Env → SRes := dAsg (dVar 3) (gSq 2 (gC (gNm 4) (gC (gNm 5) gN0)))
def st_plain_too_late_2 : Py.Env → SRes := dIf (dOr (dNot (dTru (dHold (dCall c_is_int (aVal (dVar 4) (aNil)))))) (dNot (dTru (dCal (fIs T) (dCons (dVar 5) (dCons (dC (.ty .tup)) (dNil))))))) (dRet (dVal (dC (.bl false)))) (dNext)
def st_plain_too_late_3 : Py.Env → SRes := dSet 6 (dVal (dVar 4))
def st_plain_too_late_4 : Py.Env → SRes := dFor (dItems (dVar 5)) (gNm 7) (l_plain_too_late_0)
def st_plain_too_late_5 : Py.Env → SRes := dRet (dVal (dAndV (dBin fEq (dVar 4) (dHold (dCall c_plain_base (aVal (dVar 0) (aNil))))) (dAndV (dBin fEq (dVar 5) (dHold (dCall c_life_shares (aVal (dVar 0) (aVal (dVar 1) (aNil)))))) (dBin fLt (dVar 6) (dVar 2)))))
def f_plain_too_late : Py.Env → SRes := dSeq (st_plain_too_late_0) (dSeq (st_plain_too_late_1) (dSeq (st_plain_too_late_2) (dSeq (st_plain_too_late_3) (dSeq (st_plain_too_late_4) (st_plain_too_late_5)))))
def c_plain_too_late : Py.Fn := runD 8 f_plain_too_late
def f_shows_too_late : Py.Env → SRes := dSeq (dSet 4 (dCall c_check_way (aVal (dVar 0) (aNil)))) (dSeq (dDrop (dCall c_check_number (aVal (dVar 1) (aVal (dC (.int 0)) (aNil))))) (dSeq (dDrop (dCall c_check_number (aVal (dVar 2) (aVal (dC (.int 0)) (aNil))))) (dRet (dCall c_plain_too_late (aVal (dVar 4) (aVal (dVar 1) (aVal (dVar 2) (aVal (dHold (dCall c_plain_form (aVal (dVar 3) (aNil)))) (aNil)))))))))
def c_shows_too_late : Py.Fn := runD 5 f_shows_too_late
def f_too_late_paper : Py.Env → SRes := dSeq (dSet 3 (dCall c_check_way (aVal (dVar 0) (aNil)))) (dSeq (dDrop (dCall c_check_number (aVal (dVar 1) (aVal (dC (.int 0)) (aNil))))) (dSeq (dDrop (dCall c_check_number (aVal (dVar 2) (aVal (dC (.int 0)) (aNil))))) (dSeq (dIf (dTst (dBin fLe (dVar 2) (dHold (dCall c_plain_delay (aVal (dVar 3) (aVal (dVar 1) (aNil))))))) (dRet (dVal (dC .non))) (dNext)) (dRet (dVal (dTup (dCons (dHold (dCall c_plain_base (aVal (dVar 3) (aNil)))) (dCons (dHold (dCall c_life_shares (aVal (dVar 3) (aVal (dVar 1) (aNil))))) (dNil)))))))))
def c_too_late_paper : Py.Fn := runD 4 f_too_late_paper
def l__law_draws_1 : Py.Env → SRes := dSeq (dDrop (dMut 1 mAppend (dCons (dBin fMod (dCal fInt (dCons (dVar 3) (dNil))) (dC (.int 30))) (dNil)))) (dSeq (dSet 3 (dVal (dBin fDiv (dVar 3) (dC (.int 30))))) (dIf (dTst (dBin fEq (dVar 3) (dC (.int 0)))) (dBreak) (dNext)))
def l__law_draws_0 : Py.Env → SRes := dSeq (dSet 3 (dVal (dCal fInt (dCons (dBin fIx (dVar 0) (dVar 2)) (dNil))))) (dSeq (dIf (dTst (dBin fLt (dVar 3) (dC (.int 0)))) (dSet 3 (dVal (dBin fSub (dC (.int 11)) (dBin fMul (dC (.int 2)) (dVar 3))))) (dNext)) (dSeq (dSet 3 (dVal (dBin fMod (dCal fInt (dCons (dVar 3) (dNil))) (dBin fPow (dC (.int 30)) (dC (.int 24)))))) (dFor (dIt fRange1 (dCons (dC (.int 24)) (dNil))) (gNm 4) (l__law_draws_1))))
def f__law_draws : Py.Env → SRes := dSeq (dSet 1 (dLst (dNil))) (dSeq (dFor (dIt fRange1 (dCons (dCal fMin (dCons (dCal fLen (dCons (dVar 0) (dNil))) (dCons (dC (.int 63)) (dNil)))) (dNil))) (gNm 2) (l__law_draws_0)) (dSeq (dDrop (dMut 1 mReverse dNil)) (dRet (dMove 1))))
def c__law_draws : Py.Fn := runD 5 f__law_draws
def f__law_take : Py.Env → SRes := dSeq (dIf (dTst (dBin fEq (dLenO 0) (dC (.int 0)))) (dRet (dVal (dC (.int 0)))) (dNext)) (dRet (dVal (dBin fMod (dCal fInt (dCons (dHold (dMut 0 mPop dNil)) (dNil))) (dVar 1))))
def c__law_take : Py.Fn := runD 2 f__law_take
def f__law_is_int : Py.Env → SRes := dRet (dVal (dAndV (dCal (fIs T) (dCons (dVar 0) (dCons (dC (.ty .int)) (dNil)))) (dNotV (dCal (fIs T) (dCons (dVar 0) (dCons (dC (.ty .bool)) (dNil)))))))
def c__law_is_int : Py.Fn := runD 1 f__law_is_int
def l__law_course_0 : Py.Env → SRes := dSeq (dSet 3 (dVal (dBin fIx (dHold (dLst (dCons (dC (.int 1)) (dCons (dC (.int 0)) (dCons (dC (.int 2)) (dNil)))))) (dHold (dCall c__law_take (aOpn 0 (aVal (dC (.int 3)) (aNil)))))))) (dSeq (dSet 4 (dVal (dBin fIx (dHold (dLst (dCons (dC (.int 2)) (dCons (dC .non) (dCons (dC (.int 0)) (dCons (dC (.int 5)) (dNil))))))) (dHold (dCall c__law_take (aOpn 0 (aVal (dC (.int 4)) (aNil)))))))) (dSeq (dSet 5 (dVal (dBin fIx (dHold (dLst (dCons (dC (.int 1)) (dCons (dC (.int 0)) (dCons (dC (.int 2)) (dNil)))))) (dHold (dCall c__law_take (aOpn 0 (aVal (dC (.int 3)) (aNil)))))))) (dDrop (dMut 1 mAppend (dCons (dTup (dCons (dVar 3) (dCons (dVar 4) (dCons (dVar 5) (dCons (dBin fIx (dHold (dLst (dCons (dC (.str "on")) (dCons (dC (.str "anew")) (dNil))))) (dHold (dCall c__law_take (aOpn 0 (aVal (dC (.int 2)) (aNil)))))) (dNil)))))) (dNil))))))
def f__law_course : Py.Env → SRes := dSeq (dSet 1 (dLst (dNil))) (dSeq (dFor (dIt fRange1 (dCons (dBin fIx (dHold (dLst (dCons (dC (.int 2)) (dCons (dC (.int 1)) (dCons (dC (.int 3)) (dNil)))))) (dHold (dCall c__law_take (aOpn 0 (aVal (dC (.int 3)) (aNil)))))) (dNil))) (gNm 2) (l__law_course_0)) (dRet (dVal (dCal fTuple (dCons (dVar 1) (dNil))))))
def c__law_course : Py.Fn := runD 6 f__law_course
def f__law_room : Py.Env → SRes := dSeq (dIf (dTst (dBin fIsN (dBin fIx (dVar 0) (dC (.int 1))) (dC .non))) (dRet (dVal (dVar 1))) (dNext)) (dRet (dVal (dCal fMin (dCons (dVar 1) (dCons (dBin fIx (dVar 0) (dC (.int 1))) (dNil))))))
def c__law_room : Py.Fn := runD 2 f__law_room
def l__law_moments_0 : Py.Env → SRes := dSeq (dSet 6 (dCall c__law_take (aOpn 0 (aVal (dBin fAdd (dBin fIx (dVar 5) (dC (.int 0))) (dC (.int 1))) (aNil))))) (dSeq (dSet 7 (dCall c__law_take (aOpn 0 (aVal (dBin fAdd (dHold (dCall c__law_room (aVal (dVar 5) (aVal (dVar 4) (aNil))))) (dC (.int 1))) (aNil))))) (dSeq (dDrop (dMut 3 mAppend (dCons (dTup (dCons (dVar 6) (dCons (dBin fAdd (dVar 7) (dHold (dCall c__law_take (aOpn 0 (aVal (dBin fAdd (dBin fIx (dVar 5) (dC (.int 2))) (dC (.int 1))) (aNil)))))) (dCons (dVar 7) (dNil))))) (dNil)))) (dSeq (dSet 4 (dVal (dBin fSub (dVar 4) (dVar 7)))) (dIf (dTst (dBin fEq (dBin fIx (dVar 5) (dC (.int 3))) (dC (.str "anew")))) (dSet 4 (dVal (dVar 2))) (dNext)))))
def f__law_moments : Py.Env → SRes := dSeq (dSet 3 (dLst (dNil))) (dSeq (dSet 4 (dVal (dVar 2))) (dSeq (dFor (dItems (dVar 1)) (gNm 5) (l__law_moments_0)) (dRet (dVal (dCal fTuple (dCons (dVar 3) (dNil)))))))
def c__law_moments : Py.Fn := runD 8 f__law_moments
def l__law_lives_0 : Py.Env → SRes := dSeq (dDrop (dMut 3 mAppend (dCons (dVar 4) (dNil)))) (dSeq (dSet 4 (dVal (dBin fSub (dVar 4) (dBin fIx (dBin fIx (dVar 2) (dVar 5)) (dC (.int 2)))))) (dIf (dTst (dBin fEq (dBin fIx (dBin fIx (dVar 0) (dVar 5)) (dC (.int 3))) (dC (.str "anew")))) (dSet 4 (dVal (dVar 1))) (dNext)))
def f__law_lives : Py.Env → SRes := dSeq (dSet 3 (dLst (dNil))) (dSeq (dSet 4 (dVal (dVar 1))) (dSeq (dFor (dIt fRange1 (dCons (dCal fLen (dCons (dVar 0) (dNil))) (dNil))) (gNm 5) (l__law_lives_0)) (dRet (dVal (dCal fTuple (dCons (dVar 3) (dNil)))))))
def c__law_lives : Py.Fn := runD 6 f__law_lives
def l__law_lawful_0 : Py.Env → SRes := dSeq (dAsg (dBin fIx (dVar 2) (dVar 4)) (gSq 3 (gC (gNm 5) (gC (gNm 6) (gC (gNm 7) gN0))))) (dSeq (dIf (dOr (dTst (dBin fLt (dVar 5) (dC (.int 0)))) (dOr (dTst (dBin fGt (dVar 5) (dBin fIx (dBin fIx (dVar 0) (dVar 4)) (dC (.int 0))))) (dOr (dTst (dBin fLt (dVar 6) (dC (.int 0)))) (dOr (dTst (dBin fLt (dVar 7) (dC (.int 0)))) (dOr (dTst (dBin fGt (dVar 7) (dVar 6))) (dTst (dBin fLt (dVar 7) (dBin fSub (dVar 6) (dBin fIx (dBin fIx (dVar 0) (dVar 4)) (dC (.int 2))))))))))) (dRet (dVal (dC (.bl false)))) (dNext)) (dIf (dOr (dTst (dBin fGt (dVar 7) (dBin fIx (dVar 3) (dVar 4)))) (dAnd (dTst (dBin fIsNot (dBin fIx (dBin fIx (dVar 0) (dVar 4)) (dC (.int 1))) (dC .non))) (dTst (dBin fGt (dVar 7) (dBin fIx (dBin fIx (dVar 0) (dVar 4)) (dC (.int 1))))))) (dRet (dVal (dC (.bl false)))) (dNext)))
def f__law_lawful : Py.Env → SRes := dSeq (dIf (dTst (dBin fNe (dCal fLen (dCons (dVar 2) (dNil))) (dCal fLen (dCons (dVar 0) (dNil))))) (dRet (dVal (dC (.bl false)))) (dNext)) (dSeq (dSet 3 (dCall c__law_lives (aVal (dVar 0) (aVal (dVar 1) (aVal (dVar 2) (aNil)))))) (dSeq (dFor (dIt fRange1 (dCons (dCal fLen (dCons (dVar 0) (dNil))) (dNil))) (gNm 4) (l__law_lawful_0)) (dRet (dVal (dC (.bl true))))))
def c__law_lawful : Py.Fn := runD 8 f__law_lawful
def l__law_sums_0 : Py.Env → SRes := dSeq (dSet 6 (dCall c__law_room (aVal (dVar 5) (aVal (dVar 3) (aNil))))) (dSeq (dSet 4 (dVal (dBin fAdd (dVar 4) (dVar 6)))) (dSeq (dSet 3 (dVal (dBin fSub (dVar 3) (dVar 6)))) (dIf (dTst (dBin fEq (dBin fIx (dVar 5) (dC (.int 3))) (dC (.str "anew")))) (dSeq (dDrop (dMut 2 mAppend (dCons (dVar 4) (dNil)))) (dSeq (dSet 4 (dVal (dC (.int 0)))) (dSet 3 (dVal (dVar 1))))) (dNext))))
def st__law_sums_0 : Py.Env → SRes := dSet 2 (dLst (dNil))
def st__law_sums_1 : Py.Env → SRes := dSet 3 (dVal (dVar 1))
def st__law_sums_2 : Py.Env → SRes := dSet 4 (dVal (dC (.int 0)))
def st__law_sums_3 : Py.Env → SRes := dFor (dItems (dVar 0)) (gNm 5) (l__law_sums_0)
def st__law_sums_4 : Py.Env → SRes := dIf (dTst (dBin fEq (dBin fIx (dBin fIx (dVar 0) (dUn fNeg (dC (.int 1)))) (dC (.int 3))) (dC (.str "on")))) (dDrop (dMut 2 mAppend (dCons (dVar 4) (dNil)))) (dNext)
def st__law_sums_5 : Py.Env → SRes := dRet (dVal (dCal fTuple (dCons (dVar 2) (dNil))))
def f__law_sums : Py.Env → SRes := dSeq (st__law_sums_0) (dSeq (st__law_sums_1) (dSeq (st__law_sums_2) (dSeq (st__law_sums_3) (dSeq (st__law_sums_4) (st__law_sums_5)))))
def c__law_sums : Py.Fn := runD 7 f__law_sums
def q__law_spoilt_0 : Py.Env → Res D := dBin fAdd (dBin fAdd (dCut (dVar 2) (dNoP) (dPart (dVar 3))) (dTup (dCons (dVar 14) (dNil)))) (dCut (dVar 2) (dPart (dBin fAdd (dVar 3) (dC (.int 1)))) (dNoP))
def st__law_spoilt_0 : Py.Env → SRes := dAsg (dBin fIx (dVar 2) (dVar 3)) (gSq 3 (gC (gNm 4) (gC (gNm 5) (gC (gNm 6) gN0))))
def st__law_spoilt_1 : Py.Env → SRes := dAsg (dBin fIx (dVar 0) (dVar 3)) (gSq 4 (gC (gNm 7) (gC (gNm 8) (gC (gNm 9) (gC (gNm 10) gN0)))))
def st__law_spoilt_2 : Py.Env → SRes := dSet 11 (dVal (dBin fIx (dHold (dCall c__law_lives (aVal (dVar 0) (aVal (dVar 1) (aVal (dVar 2) (aNil)))))) (dVar 3)))
def st__law_spoilt_3 : Py.Env → SRes := dSet 12 (dLst (dCons (dTup (dCons (dBin fAdd (dVar 7) (dC (.int 1))) (dCons (dVar 5) (dCons (dVar 6) (dNil))))) (dCons (dTup (dCons (dUn fNeg (dC (.int 1))) (dCons (dVar 5) (dCons (dVar 6) (dNil))))) (dCons (dTup (dCons (dVar 4) (dCons (dBin fSub (dVar 6) (dC (.int 1))) (dCons (dVar 6) (dNil))))) (dCons (dTup (dCons (dVar 4) (dCons (dBin fAdd (dBin fAdd (dVar 6) (dVar 9)) (dC (.int 1))) (dCons (dVar 6) (dNil))))) (dCons (dTup (dCons (dVar 4) (dCons (dBin fAdd (dVar 11) (dC (.int 1))) (dCons (dBin fAdd (dVar 11) (dC (.int 1))) (dNil))))) (dCons (dTup (dCons (dVar 4) (dCons (dBin fAdd (dBin fAdd (dVar 11) (dC (.int 1))) (dVar 9)) (dCons (dBin fAdd (dVar 11) (dC (.int 1))) (dNil))))) (dCons (dTup (dCons (dVar 4) (dCons (dC (.int 0)) (dCons (dUn fNeg (dC (.int 1))) (dNil))))) (dCons (dTup (dCons (dVar 4) (dCons (dUn fNeg (dC (.int 1))) (dCons (dC (.int 0)) (dNil))))) (dCons (dTup (dCons (dVar 4) (dCons (dUn fNeg (dC (.int 1))) (dCons (dUn fNeg (dC (.int 1))) (dNil))))) (dNil)))))))))))
def st__law_spoilt_4 : Py.Env → SRes := dIf (dTst (dBin fIsNot (dVar 8) (dC .non))) (dSeq (dDrop (dMut 12 mAppend (dCons (dTup (dCons (dVar 4) (dCons (dBin fAdd (dVar 8) (dC (.int 1))) (dCons (dBin fAdd (dVar 8) (dC (.int 1))) (dNil))))) (dNil)))) (dDrop (dMut 12 mAppend (dCons (dTup (dCons (dVar 4) (dCons (dBin fAdd (dBin fAdd (dVar 8) (dC (.int 1))) (dVar 9)) (dCons (dBin fAdd (dVar 8) (dC (.int 1))) (dNil))))) (dNil))))) (dNext)
def st__law_spoilt_5 : Py.Env → SRes := dDrop (dMut 12 mAppend (dCons (dTup (dCons (dVar 4) (dCons (dVar 6) (dCons (dVar 6) (dNil))))) (dNil)))
def st__law_spoilt_6 : Py.Env → SRes := dSet 13 (dLc (dItems (dVar 12)) (gNm 14) (dYes) (q__law_spoilt_0) [14])
def st__law_spoilt_7 : Py.Env → SRes := dDrop (dMut 13 mAppend (dCons (dCut (dVar 2) (dNoP) (dPart (dUn fNeg (dC (.int 1))))) (dNil)))
def st__law_spoilt_8 : Py.Env → SRes := dDrop (dMut 13 mAppend (dCons (dBin fAdd (dVar 2) (dTup (dCons (dTup (dCons (dC (.int 0)) (dCons (dC (.int 0)) (dCons (dC (.int 0)) (dNil))))) (dNil)))) (dNil)))
def st__law_spoilt_9 : Py.Env → SRes := dRet (dMove 13)
def f__law_spoilt : Py.Env → SRes := dSeq (st__law_spoilt_0) (dSeq (st__law_spoilt_1) (dSeq (st__law_spoilt_2) (dSeq (st__law_spoilt_3) (dSeq (st__law_spoilt_4) (dSeq (st__law_spoilt_5) (dSeq (st__law_spoilt_6) (dSeq (st__law_spoilt_7) (dSeq (st__law_spoilt_8) (st__law_spoilt_9)))))))))
def c__law_spoilt : Py.Fn := runD 15 f__law_spoilt
def q__law_is_moments_0 : Py.Env → Res D := dVar 3
def l__law_is_moments_0 : Py.Env → SRes := dSeq (dIf (dOr (dNot (dTru (dCal (fIs T) (dCons (dVar 2) (dCons (dC (.ty .tup)) (dNil)))))) (dTst (dBin fNe (dCal fLen (dCons (dVar 2) (dNil))) (dC (.int 3))))) (dRet (dVal (dC (.bl false)))) (dNext)) (dIf (dTst (dBin fGt (dCal fLen (dCons (dHold (dLc (dItems (dVar 2)) (gNm 3) (dNot (dTru (dHold (dCall c__law_is_int (aVal (dVar 3) (aNil)))))) (q__law_is_moments_0) [3])) (dNil))) (dC (.int 0)))) (dRet (dVal (dC (.bl false)))) (dNext))
def f__law_is_moments : Py.Env → SRes := dSeq (dIf (dOr (dNot (dTru (dCal (fIs T) (dCons (dVar 0) (dCons (dC (.ty .tup)) (dNil)))))) (dTst (dBin fNe (dCal fLen (dCons (dVar 0) (dNil))) (dVar 1)))) (dRet (dVal (dC (.bl false)))) (dNext)) (dSeq (dFor (dItems (dVar 0)) (gNm 2) (l__law_is_moments_0)) (dRet (dVal (dC (.bl true)))))
def c__law_is_moments : Py.Fn := runD 4 f__law_is_moments
def q__law_is_row_0 : Py.Env → Res D := dVar 2
def f__law_is_row : Py.Env → SRes := dSeq (dIf (dOr (dNot (dTru (dCal (fIs T) (dCons (dVar 0) (dCons (dC (.ty .tup)) (dNil)))))) (dTst (dBin fNe (dCal fLen (dCons (dVar 0) (dNil))) (dCal fLen (dCons (dVar 1) (dNil)))))) (dRet (dVal (dC (.bl false)))) (dNext)) (dRet (dVal (dBin fEq (dCal fLen (dCons (dHold (dLc (dIt fRange1 (dCons (dCal fLen (dCons (dVar 1) (dNil))) (dNil))) (gNm 2) (dOr (dNot (dTru (dHold (dCall c__law_is_int (aVal (dBin fIx (dVar 0) (dVar 2)) (aNil)))))) (dTst (dBin fNe (dBin fIx (dVar 0) (dVar 2)) (dBin fIx (dVar 1) (dVar 2))))) (q__law_is_row_0) [2])) (dNil))) (dC (.int 0)))))
def c__law_is_row : Py.Fn := runD 3 f__law_is_row
def q__law_hours_0 : Py.Env → Res D := dBin fAdd (dBin fIx (dVar 1) (dC (.int 0))) (dBin fIx (dVar 1) (dC (.int 1)))
def f__law_hours : Py.Env → SRes := dRet (dVal (dCal fSumA (dCons (dHold (dLc (dItems (dVar 0)) (gNm 1) (dYes) (q__law_hours_0) [1])) (dNil))))
def c__law_hours : Py.Fn := runD 2 f__law_hours
def f__law_is_case : Py.Env → SRes := dSeq (dIf (dOr (dNot (dTru (dCal (fIs T) (dCons (dVar 0) (dCons (dC (.cl "BadCase")) (dNil)))))) (dNot (dTru (dCal (fIs T) (dCons (dVar 0) (dCons (dC (.cl "KeysError")) (dNil))))))) (dRet (dVal (dC (.bl false)))) (dNext)) (dSeq (dIf (dOr (dTru (dCal (fIs T) (dCons (dVar 0) (dCons (dC (.cl "BadNumber")) (dNil))))) (dTru (dCal (fIs T) (dCons (dVar 0) (dCons (dC (.cl "BadStore")) (dNil)))))) (dRet (dVal (dC (.bl false)))) (dNext)) (dRet (dVal (dAndV (dCal (fIs T) (dCons (dAt T "at" (dVar 0)) (dCons (dC (.ty .tup)) (dNil)))) (dBin fEq (dAt T "at" (dVar 0)) (dTup (dNil)))))))
def c__law_is_case : Py.Fn := runD 1 f__law_is_case
def st__law_made_0 : Py.Env → SRes := dSet 4 (dCall c_copy_of (aVal (dVar 0) (aVal (dVar 1) (aVal (dVar 2) (aVal (dVar 3) (aNil))))))
def st__law_made_1 : Py.Env → SRes := dIf (dOr (dNot (dTru (dCal (fIs T) (dCons (dVar 4) (dCons (dC (.ty .tup)) (dNil)))))) (dTst (dBin fNe (dCal fLen (dCons (dVar 4) (dNil))) (dC (.int 2))))) (dRet (dVal (dC (.bl false)))) (dNext)
def st__law_made_2 : Py.Env → SRes := dIf (dOr (dNot (dTru (dHold (dCall c__law_is_int (aVal (dBin fIx (dVar 4) (dC (.int 0))) (aNil)))))) (dOr (dTst (dBin fNe (dBin fIx (dVar 4) (dC (.int 0))) (dVar 2))) (dNot (dTru (dHold (dCall c__law_is_moments (aVal (dBin fIx (dVar 4) (dC (.int 1))) (aVal (dCal fLen (dCons (dVar 0) (dNil))) (aNil))))))))) (dRet (dVal (dC (.bl false)))) (dNext)
def st__law_made_3 : Py.Env → SRes := dSet 5 (dVal (dBin fIx (dVar 4) (dC (.int 1))))
def st__law_made_4 : Py.Env → SRes := dIf (dOr (dNot (dTru (dHold (dCall c__law_lawful (aVal (dVar 0) (aVal (dVar 1) (aVal (dVar 5) (aNil)))))))) (dTst (dBin fNe (dHold (dCall c__law_hours (aVal (dVar 5) (aNil)))) (dVar 3)))) (dRet (dVal (dC (.bl false)))) (dNext)
def st__law_made_5 : Py.Env → SRes := dIf (dOr (dTst (dBin fIsNot (dHold (dCall c_is_copy (aVal (dVar 0) (aVal (dVar 1) (aVal (dVar 4) (aNil)))))) (dC (.bl true)))) (dTst (dBin fNe (dHold (dCall c_copy_hours (aVal (dVar 4) (aNil)))) (dVar 3)))) (dRet (dVal (dC (.bl false)))) (dNext)
def st__law_made_6 : Py.Env → SRes := dRet (dCall c__law_is_row (aVal (dHold (dCall c_lives_along (aVal (dVar 0) (aVal (dVar 1) (aVal (dVar 4) (aNil)))))) (aVal (dHold (dCall c__law_lives (aVal (dVar 0) (aVal (dVar 1) (aVal (dVar 5) (aNil)))))) (aNil))))
def f__law_made : Py.Env → SRes := dSeq (st__law_made_0) (dSeq (st__law_made_1) (dSeq (st__law_made_2) (dSeq (st__law_made_3) (dSeq (st__law_made_4) (dSeq (st__law_made_5) (st__law_made_6))))))
def c__law_made : Py.Fn := runD 6 f__law_made
def f__law_is_bool : Py.Env → SRes := dSeq (dIf (dTru (dVar 1)) (dRet (dVal (dBin fIsN (dVar 0) (dC (.bl true))))) (dNext)) (dRet (dVal (dBin fIsN (dVar 0) (dC (.bl false)))))
def c__law_is_bool : Py.Fn := runD 2 f__law_is_bool
def l__law_spoils_told_0 : Py.Env → SRes := dSeq (dSet 5 (dCall c__law_lawful (aVal (dVar 0) (aVal (dVar 1) (aVal (dVar 4) (aNil)))))) (dSeq (dIf (dNot (dTru (dHold (dCall c__law_is_bool (aVal (dHold (dCall c_is_copy (aVal (dVar 0) (aVal (dVar 1) (aVal (dTup (dCons (dVar 2) (dCons (dVar 4) (dNil)))) (aNil)))))) (aVal (dVar 5) (aNil))))))) (dRet (dVal (dC (.bl false)))) (dNext)) (dSeq (dSet 6 (dCall c_copy_hours (aVal (dTup (dCons (dVar 2) (dCons (dVar 4) (dNil)))) (aNil)))) (dSeq (dIf (dOr (dNot (dTru (dHold (dCall c__law_is_int (aVal (dVar 6) (aNil)))))) (dTst (dBin fNe (dVar 6) (dHold (dCall c__law_hours (aVal (dVar 4) (aNil))))))) (dRet (dVal (dC (.bl false)))) (dNext)) (dSeq (dSet 7 (dVal (dC .non))) (dSeq (dSet 8 (dVal (dC .non))) (dSeq (dTry T (dSet 8 (dCall c_lives_along (aVal (dVar 0) (aVal (dVar 1) (aVal (dTup (dCons (dVar 2) (dCons (dVar 4) (dNil)))) (aNil)))))) (("KeysError", some 9, dSet 7 (dVal (dVar 9))) :: [])) (dSeq (dIf (dAnd (dTru (dVar 5)) (dNot (dTru (dHold (dCall c__law_is_row (aVal (dVar 8) (aVal (dHold (dCall c__law_lives (aVal (dVar 0) (aVal (dVar 1) (aVal (dVar 4) (aNil)))))) (aNil)))))))) (dRet (dVal (dC (.bl false)))) (dNext)) (dIf (dAnd (dNot (dTru (dVar 5))) (dOr (dTst (dBin fIsNot (dVar 8) (dC .non))) (dNot (dTru (dHold (dCall c__law_is_case (aVal (dVar 7) (aNil)))))))) (dRet (dVal (dC (.bl false)))) (dNext)))))))))
def f__law_spoils_told : Py.Env → SRes := dSeq (dFor (dItems (dVar 3)) (gNm 4) (l__law_spoils_told_0)) (dRet (dVal (dC (.bl true))))
def c__law_spoils_told : Py.Fn := runD 10 f__law_spoils_told
def q__law_forms_told_0 : Py.Env → Res D := dCal fList (dCons (dVar 7) (dNil))
def l__law_forms_told_0 : Py.Env → SRes := dIf (dTst (dBin fIsNot (dHold (dCall c_is_copy (aVal (dVar 0) (aVal (dVar 1) (aVal (dVar 4) (aNil)))))) (dC (.bl false)))) (dRet (dVal (dC (.bl false)))) (dNext)
def f__law_forms_told : Py.Env → SRes := dSeq (dIf (dTst (dBin fIsNot (dHold (dCall c_is_copy (aVal (dVar 0) (aVal (dVar 1) (aVal (dHold (dLst (dCons (dVar 2) (dCons (dHold (dLc (dItems (dVar 3)) (gNm 7) (dYes) (q__law_forms_told_0) [7])) (dNil))))) (aNil)))))) (dC (.bl true)))) (dRet (dVal (dC (.bl false)))) (dNext)) (dSeq (dFor (dItems (dHold (dLst (dCons (dTup (dCons (dC .non) (dCons (dVar 3) (dNil)))) (dCons (dTup (dCons (dC (.str "0")) (dCons (dVar 3) (dNil)))) (dCons (dTup (dCons (dVar 2) (dNil))) (dCons (dTup (dCons (dVar 2) (dCons (dVar 3) (dCons (dC (.int 0)) (dNil))))) (dCons (dTup (dCons (dVar 2) (dCons (dC (.int 0)) (dNil)))) (dCons (dVar 3) (dCons (dC (.int 7)) (dCons (dTup (dCons (dVar 2) (dCons (dBin fAdd (dCut (dVar 3) (dNoP) (dPart (dUn fNeg (dC (.int 1))))) (dTup (dCons (dTup (dCons (dC (.int 0)) (dCons (dC (.int 0)) (dNil)))) (dNil)))) (dNil)))) (dCons (dTup (dCons (dVar 2) (dCons (dBin fAdd (dCut (dVar 3) (dNoP) (dPart (dUn fNeg (dC (.int 1))))) (dTup (dCons (dTup (dCons (dC (.int 0)) (dCons (dC (.int 0)) (dCons (dC (.str "0")) (dNil))))) (dNil)))) (dNil)))) (dNil))))))))))))) (gNm 4) (l__law_forms_told_0)) (dSeq (dSet 5 (dVal (dC .non))) (dSeq (dTry T (dDrop (dCall c_copy_hours (aVal (dTup (dCons (dVar 2) (dCons (dBin fAdd (dCut (dVar 3) (dNoP) (dPart (dUn fNeg (dC (.int 1))))) (dTup (dCons (dTup (dCons (dC (.int 0)) (dCons (dC (.int 0)) (dNil)))) (dNil)))) (dNil)))) (aNil)))) (("KeysError", some 6, dSet 5 (dVal (dVar 6))) :: [])) (dRet (dCall c__law_is_case (aVal (dVar 5) (aNil)))))))
def c__law_forms_told : Py.Fn := runD 8 f__law_forms_told
def q__law_late_told_0 : Py.Env → Res D := dBin fAdd (dBin fIx (dVar 10) (dC (.int 0))) (dBin fIx (dVar 10) (dC (.int 2)))
def l__law_late_told_0 : Py.Env → SRes := dIf (dTst (dBin fIsNot (dHold (dCall c_shows_too_late (aVal (dVar 0) (aVal (dVar 1) (aVal (dVar 6) (aVal (dVar 8) (aNil))))))) (dC (.bl false)))) (dRet (dVal (dC (.bl false)))) (dNext)
def st__law_late_told_0 : Py.Env → SRes := dSet 4 (dVal (dCal fSumA (dCons (dHold (dLc (dItems (dVar 0)) (gNm 10) (dYes) (q__law_late_told_0) [10])) (dNil))))
def st__law_late_told_1 : Py.Env → SRes := dSet 5 (dCall c__law_sums (aVal (dVar 0) (aVal (dVar 1) (aNil))))
def st__law_late_told_2 : Py.Env → SRes := dIf (dOr (dTst (dBin fIsNot (dHold (dCall c_too_late_paper (aVal (dVar 0) (aVal (dVar 1) (aVal (dVar 2) (aNil)))))) (dC .non))) (dTst (dBin fIsNot (dHold (dCall c_too_late_paper (aVal (dVar 0) (aVal (dVar 1) (aVal (dC (.int 0)) (aNil)))))) (dC .non)))) (dRet (dVal (dC (.bl false)))) (dNext)
def st__law_late_told_3 : Py.Env → SRes := dIf (dTst (dBin fIsNot (dHold (dCall c_shows_too_late (aVal (dVar 0) (aVal (dVar 1) (aVal (dVar 2) (aVal (dTup (dCons (dVar 4) (dCons (dVar 5) (dNil)))) (aNil))))))) (dC (.bl false)))) (dRet (dVal (dC (.bl false)))) (dNext)
def st__law_late_told_4 : Py.Env → SRes := dSet 6 (dVal (dBin fAdd (dBin fAdd (dVar 2) (dC (.int 1))) (dVar 3)))
def st__law_late_told_5 : Py.Env → SRes := dIf (dOr (dTst (dBin fIsNot (dHold (dCall c_shows_too_late (aVal (dVar 0) (aVal (dVar 1) (aVal (dVar 6) (aVal (dTup (dCons (dVar 4) (dCons (dVar 5) (dNil)))) (aNil))))))) (dC (.bl true)))) (dTst (dBin fIsNot (dHold (dCall c_shows_too_late (aVal (dVar 0) (aVal (dVar 1) (aVal (dVar 6) (aVal (dHold (dLst (dCons (dVar 4) (dCons (dCal fList (dCons (dVar 5) (dNil))) (dNil))))) (aNil))))))) (dC (.bl true))))) (dRet (dVal (dC (.bl false)))) (dNext)
def st__law_late_told_6 : Py.Env → SRes := dSet 7 (dLst (dCons (dTup (dCons (dBin fAdd (dVar 4) (dC (.int 1))) (dCons (dVar 5) (dNil)))) (dCons (dTup (dCons (dBin fSub (dVar 4) (dC (.int 1))) (dCons (dVar 5) (dNil)))) (dCons (dTup (dCons (dVar 4) (dCons (dBin fAdd (dCut (dVar 5) (dNoP) (dPart (dUn fNeg (dC (.int 1))))) (dTup (dCons (dBin fSub (dBin fIx (dVar 5) (dUn fNeg (dC (.int 1)))) (dC (.int 1))) (dNil)))) (dNil)))) (dCons (dTup (dCons (dBin fSub (dVar 4) (dC (.int 1))) (dCons (dBin fAdd (dCut (dVar 5) (dNoP) (dPart (dUn fNeg (dC (.int 1))))) (dTup (dCons (dBin fAdd (dBin fIx (dVar 5) (dUn fNeg (dC (.int 1)))) (dC (.int 1))) (dNil)))) (dNil)))) (dCons (dTup (dCons (dVar 4) (dCons (dCut (dVar 5) (dNoP) (dPart (dUn fNeg (dC (.int 1))))) (dNil)))) (dCons (dTup (dCons (dVar 4) (dCons (dBin fAdd (dVar 5) (dTup (dCons (dC (.int 0)) (dNil)))) (dNil)))) (dCons (dTup (dCons (dVar 4) (dNil))) (dCons (dTup (dCons (dVar 4) (dCons (dC (.int 0)) (dNil)))) (dCons (dVar 4) (dCons (dTup (dCons (dCal fStr (dCons (dVar 4) (dNil))) (dCons (dVar 5) (dNil)))) (dNil))))))))))))
def st__law_late_told_7 : Py.Env → SRes := dFor (dItems (dVar 7)) (gNm 8) (l__law_late_told_0)
def st__law_late_told_8 : Py.Env → SRes := dSet 9 (dCall c_too_late_paper (aVal (dVar 0) (aVal (dVar 1) (aVal (dVar 6) (aNil)))))
def st__law_late_told_9 : Py.Env → SRes := dIf (dOr (dNot (dTru (dCal (fIs T) (dCons (dVar 9) (dCons (dC (.ty .tup)) (dNil)))))) (dOr (dTst (dBin fNe (dCal fLen (dCons (dVar 9) (dNil))) (dC (.int 2)))) (dNot (dTru (dHold (dCall c__law_is_int (aVal (dBin fIx (dVar 9) (dC (.int 0))) (aNil)))))))) (dRet (dVal (dC (.bl false)))) (dNext)
def st__law_late_told_10 : Py.Env → SRes := dRet (dVal (dAndV (dBin fEq (dBin fIx (dVar 9) (dC (.int 0))) (dVar 4)) (dHold (dCall c__law_is_row (aVal (dBin fIx (dVar 9) (dC (.int 1))) (aVal (dVar 5) (aNil)))))))
def f__law_late_told : Py.Env → SRes := dSeq (st__law_late_told_0) (dSeq (st__law_late_told_1) (dSeq (st__law_late_told_2) (dSeq (st__law_late_told_3) (dSeq (st__law_late_told_4) (dSeq (st__law_late_told_5) (dSeq (st__law_late_told_6) (dSeq (st__law_late_told_7) (dSeq (st__law_late_told_8) (dSeq (st__law_late_told_9) (st__law_late_told_10))))))))))
def c__law_late_told : Py.Fn := runD 11 f__law_late_told
def q_law_0 : Py.Env → Res D := dBin fAdd (dBin fIx (dVar 11) (dC (.int 0))) (dBin fIx (dVar 11) (dC (.int 2)))
def l_law_0 : Py.Env → SRes := dIf (dNot (dTru (dHold (dCall c__law_made (aVal (dVar 2) (aVal (dVar 3) (aVal (dVar 4) (aVal (dVar 10) (aNil))))))))) (dRet (dVal (dC (.bl false)))) (dNext)
def st_law_0 : Py.Env → SRes := dSet 1 (dCall c__law_draws (aVal (dVar 0) (aNil)))
def st_law_1 : Py.Env → SRes := dSet 2 (dCall c__law_course (aOpn 1 (aNil)))
def st_law_2 : Py.Env → SRes := dSet 3 (dVal (dBin fIx (dHold (dLst (dCons (dC (.int 3)) (dCons (dC (.int 0)) (dCons (dC (.int 1)) (dCons (dC (.int 7)) (dCons (dC (.int 5)) (dCons (dC (.int 2)) (dNil))))))))) (dHold (dCall c__law_take (aOpn 1 (aVal (dC (.int 6)) (aNil)))))))
def st_law_3 : Py.Env → SRes := dSet 4 (dVal (dBin fSub (dHold (dCall c__law_take (aOpn 1 (aVal (dC (.int 20)) (aNil))))) (dC (.int 5))))
def st_law_4 : Py.Env → SRes := dSet 5 (dCall c__law_take (aOpn 1 (aVal (dCal fLen (dCons (dVar 2) (dNil))) (aNil))))
def st_law_5 : Py.Env → SRes := dSet 6 (dCall c__law_moments (aOpn 1 (aVal (dVar 2) (aVal (dVar 3) (aNil)))))
def st_law_6 : Py.Env → SRes := dSet 7 (dCall c__law_take (aOpn 1 (aVal (dC (.int 30)) (aNil))))
def st_law_7 : Py.Env → SRes := dSet 8 (dCall c__law_take (aOpn 1 (aVal (dC (.int 4)) (aNil))))
def st_law_8 : Py.Env → SRes := dSet 9 (dVal (dBin fAdd (dCal fSumA (dCons (dHold (dLc (dItems (dVar 2)) (gNm 11) (dYes) (q_law_0) [11])) (dNil))) (dCal fSumA (dCons (dHold (dCall c__law_sums (aVal (dVar 2) (aVal (dVar 3) (aNil))))) (dNil)))))
def st_law_9 : Py.Env → SRes := dIf (dTst (dBin fIsNot (dHold (dCall c_is_copy (aVal (dVar 2) (aVal (dVar 3) (aVal (dTup (dCons (dVar 4) (dCons (dVar 6) (dNil)))) (aNil)))))) (dC (.bl true)))) (dRet (dVal (dC (.bl false)))) (dNext)
def st_law_10 : Py.Env → SRes := dIf (dNot (dTru (dHold (dCall c__law_is_row (aVal (dHold (dCall c_lives_along (aVal (dVar 2) (aVal (dVar 3) (aVal (dTup (dCons (dVar 4) (dCons (dVar 6) (dNil)))) (aNil)))))) (aVal (dHold (dCall c__law_lives (aVal (dVar 2) (aVal (dVar 3) (aVal (dVar 6) (aNil)))))) (aNil))))))) (dRet (dVal (dC (.bl false)))) (dNext)
def st_law_11 : Py.Env → SRes := dIf (dNot (dTru (dHold (dCall c__law_spoils_told (aVal (dVar 2) (aVal (dVar 3) (aVal (dVar 4) (aVal (dHold (dCall c__law_spoilt (aVal (dVar 2) (aVal (dVar 3) (aVal (dVar 6) (aVal (dVar 5) (aNil))))))) (aNil))))))))) (dRet (dVal (dC (.bl false)))) (dNext)
def st_law_12 : Py.Env → SRes := dIf (dNot (dTru (dHold (dCall c__law_forms_told (aVal (dVar 2) (aVal (dVar 3) (aVal (dVar 4) (aVal (dVar 6) (aNil))))))))) (dRet (dVal (dC (.bl false)))) (dNext)
def st_law_13 : Py.Env → SRes := dFor (dItems (dTup (dCons (dC (.int 0)) (dCons (dBin fMod (dCal fInt (dCons (dVar 7) (dNil))) (dBin fAdd (dVar 9) (dC (.int 1)))) (dCons (dVar 9) (dNil)))))) (gNm 10) (l_law_0)
def st_law_14 : Py.Env → SRes := dIf (dOr (dTst (dBin fIsNot (dHold (dCall c_copy_of (aVal (dVar 2) (aVal (dVar 3) (aVal (dVar 4) (aVal (dBin fAdd (dVar 9) (dC (.int 1))) (aNil))))))) (dC .non))) (dTst (dBin fIsNot (dHold (dCall c_copy_of (aVal (dVar 2) (aVal (dVar 3) (aVal (dVar 4) (aVal (dBin fAdd (dBin fAdd (dVar 9) (dC (.int 1))) (dVar 8)) (aNil))))))) (dC .non)))) (dRet (dVal (dC (.bl false)))) (dNext)
def st_law_15 : Py.Env → SRes := dRet (dCall c__law_late_told (aVal (dVar 2) (aVal (dVar 3) (aVal (dVar 9) (aVal (dVar 8) (aNil))))))
def f_law : Py.Env → SRes := dSeq (st_law_0) (dSeq (st_law_1) (dSeq (st_law_2) (dSeq (st_law_3) (dSeq (st_law_4) (dSeq (st_law_5) (dSeq (st_law_6) (dSeq (st_law_7) (dSeq (st_law_8) (dSeq (st_law_9) (dSeq (st_law_10) (dSeq (st_law_11) (dSeq (st_law_12) (dSeq (st_law_13) (dSeq (st_law_14) (st_law_15)))))))))))))))
def c_law : Py.Fn := runD 12 f_law
end
end K06
end

section
set_option maxHeartbeats 400000
namespace K06
open Py PySem PySem.Spec PyProof.Rows L2
def top (i : Nat) : Stmt := PySem.Challenge.pw_keysoverlap_k06_copies_judged.main.body.getD i (.Pass ⟨0, 0, 0, 0⟩)
def inS (i j : Nat) : Stmt := match top i with
  | .ClassDef _ _ _ b _ _ _ _ _ _ _ => b.getD j (.Pass ⟨0, 0, 0, 0⟩)
  | s => s
abbrev s_is_int : Stmt := top 7
abbrev s_plain_form : Stmt := top 8
abbrev s_check_number : Stmt := top 9
abbrev s_check_hour : Stmt := top 10
abbrev s_wrong_store_part : Stmt := top 12
abbrev s_wrong_way_place : Stmt := top 13
abbrev s_plain_way : Stmt := top 14
abbrev s_check_way : Stmt := top 15
abbrev s_plain_groups : Stmt := top 16
abbrev s_plain_caps : Stmt := top 17
abbrev s_plain_base : Stmt := top 18
abbrev s_life_shares : Stmt := top 19
abbrev s_plain_delay : Stmt := top 20
abbrev s_has_copy_form : Stmt := top 22
abbrev s_is_lawful_moment : Stmt := top 23
abbrev s_lives_told : Stmt := top 24
abbrev s_is_plain_copy : Stmt := top 25
abbrev s_is_copy : Stmt := top 26
abbrev s_lives_along : Stmt := top 27
abbrev s_copy_hours : Stmt := top 28
abbrev s_copy_of : Stmt := top 29
abbrev s_plain_too_late : Stmt := top 30
abbrev s_shows_too_late : Stmt := top 31
abbrev s_too_late_paper : Stmt := top 32
abbrev s__law_draws : Stmt := top 34
abbrev s__law_take : Stmt := top 35
abbrev s__law_is_int : Stmt := top 36
abbrev s__law_course : Stmt := top 37
abbrev s__law_room : Stmt := top 38
abbrev s__law_moments : Stmt := top 39
abbrev s__law_lives : Stmt := top 40
abbrev s__law_lawful : Stmt := top 41
abbrev s__law_sums : Stmt := top 42
abbrev s__law_spoilt : Stmt := top 43
abbrev s__law_is_moments : Stmt := top 44
abbrev s__law_is_row : Stmt := top 45
abbrev s__law_hours : Stmt := top 46
abbrev s__law_is_case : Stmt := top 47
abbrev s__law_made : Stmt := top 48
abbrev s__law_is_bool : Stmt := top 49
abbrev s__law_spoils_told : Stmt := top 50
abbrev s__law_forms_told : Stmt := top 51
abbrev s__law_late_told : Stmt := top 52
abbrev s_law : Stmt := top 53
abbrev s_BadNumber : Stmt := inS 2 0
abbrev s_BadHours : Stmt := inS 3 0
abbrev s_BadStore : Stmt := inS 4 0
abbrev s_BadCase : Stmt := inS 5 0
def fa : List He.Fa := [.glo "is_int", .glo "plain_form", .glo "check_number", .glo "check_hour", .glo "wrong_store_part", .glo "wrong_way_place", .glo "plain_way", .glo "check_way", .glo "plain_groups", .glo "plain_caps", .glo "plain_base", .glo "life_shares", .glo "plain_delay", .glo "has_copy_form", .glo "is_lawful_moment", .glo "lives_told", .glo "is_plain_copy", .glo "is_copy", .glo "lives_along", .glo "copy_hours", .glo "copy_of", .glo "plain_too_late", .glo "shows_too_late", .glo "too_late_paper", .glo "_law_draws", .glo "_law_take", .glo "_law_is_int", .glo "_law_course", .glo "_law_room", .glo "_law_moments", .glo "_law_lives", .glo "_law_lawful", .glo "_law_sums", .glo "_law_spoilt", .glo "_law_is_moments", .glo "_law_is_row", .glo "_law_hours", .glo "_law_is_case", .glo "_law_made", .glo "_law_is_bool", .glo "_law_spoils_told", .glo "_law_forms_told", .glo "_law_late_told", .glo "law", .free "isinstance", .free "int", .free "bool", .free "list", .free "tuple", .free "range", .free "len", .free "str", .free "enumerate", .free "min", .free "zip", .free "sum"]
def fn : List He.DefD := [⟨("is_int", none), "is_int", "is_int", defArgs s_is_int, defBody s_is_int, defScope s_is_int, [], []⟩, ⟨("plain_form", none), "plain_form", "plain_form", defArgs s_plain_form, defBody s_plain_form, defScope s_plain_form, [], []⟩, ⟨("check_number", none), "check_number", "check_number", defArgs s_check_number, defBody s_check_number, defScope s_check_number, [], []⟩, ⟨("check_hour", none), "check_hour", "check_hour", defArgs s_check_hour, defBody s_check_hour, defScope s_check_hour, [], []⟩, ⟨("wrong_store_part", none), "wrong_store_part", "wrong_store_part", defArgs s_wrong_store_part, defBody s_wrong_store_part, defScope s_wrong_store_part, [], []⟩, ⟨("wrong_way_place", none), "wrong_way_place", "wrong_way_place", defArgs s_wrong_way_place, defBody s_wrong_way_place, defScope s_wrong_way_place, [], []⟩, ⟨("plain_way", none), "plain_way", "plain_way", defArgs s_plain_way, defBody s_plain_way, defScope s_plain_way, [], []⟩, ⟨("check_way", none), "check_way", "check_way", defArgs s_check_way, defBody s_check_way, defScope s_check_way, [], []⟩, ⟨("plain_groups", none), "plain_groups", "plain_groups", defArgs s_plain_groups, defBody s_plain_groups, defScope s_plain_groups, [], []⟩, ⟨("plain_caps", none), "plain_caps", "plain_caps", defArgs s_plain_caps, defBody s_plain_caps, defScope s_plain_caps, [], []⟩, ⟨("plain_base", none), "plain_base", "plain_base", defArgs s_plain_base, defBody s_plain_base, defScope s_plain_base, [], []⟩, ⟨("life_shares", none), "life_shares", "life_shares", defArgs s_life_shares, defBody s_life_shares, defScope s_life_shares, [], []⟩, ⟨("plain_delay", none), "plain_delay", "plain_delay", defArgs s_plain_delay, defBody s_plain_delay, defScope s_plain_delay, [], []⟩, ⟨("has_copy_form", none), "has_copy_form", "has_copy_form", defArgs s_has_copy_form, defBody s_has_copy_form, defScope s_has_copy_form, [], []⟩, ⟨("is_lawful_moment", none), "is_lawful_moment", "is_lawful_moment", defArgs s_is_lawful_moment, defBody s_is_lawful_moment, defScope s_is_lawful_moment, [], []⟩, ⟨("lives_told", none), "lives_told", "lives_told", defArgs s_lives_told, defBody s_lives_told, defScope s_lives_told, [], []⟩, ⟨("is_plain_copy", none), "is_plain_copy", "is_plain_copy", defArgs s_is_plain_copy, defBody s_is_plain_copy, defScope s_is_plain_copy, [], []⟩, ⟨("is_copy", none), "is_copy", "is_copy", defArgs s_is_copy, defBody s_is_copy, defScope s_is_copy, [], []⟩, ⟨("lives_along", none), "lives_along", "lives_along", defArgs s_lives_along, defBody s_lives_along, defScope s_lives_along, [], []⟩, ⟨("copy_hours", none), "copy_hours", "copy_hours", defArgs s_copy_hours, defBody s_copy_hours, defScope s_copy_hours, [], []⟩, ⟨("copy_of", none), "copy_of", "copy_of", defArgs s_copy_of, defBody s_copy_of, defScope s_copy_of, [], []⟩, ⟨("plain_too_late", none), "plain_too_late", "plain_too_late", defArgs s_plain_too_late, defBody s_plain_too_late, defScope s_plain_too_late, [], []⟩, ⟨("shows_too_late", none), "shows_too_late", "shows_too_late", defArgs s_shows_too_late, defBody s_shows_too_late, defScope s_shows_too_late, [], []⟩, ⟨("too_late_paper", none), "too_late_paper", "too_late_paper", defArgs s_too_late_paper, defBody s_too_late_paper, defScope s_too_late_paper, [], []⟩, ⟨("_law_draws", none), "_law_draws", "_law_draws", defArgs s__law_draws, defBody s__law_draws, defScope s__law_draws, [], []⟩, ⟨("_law_take", none), "_law_take", "_law_take", defArgs s__law_take, defBody s__law_take, defScope s__law_take, [], []⟩, ⟨("_law_is_int", none), "_law_is_int", "_law_is_int", defArgs s__law_is_int, defBody s__law_is_int, defScope s__law_is_int, [], []⟩, ⟨("_law_course", none), "_law_course", "_law_course", defArgs s__law_course, defBody s__law_course, defScope s__law_course, [], []⟩, ⟨("_law_room", none), "_law_room", "_law_room", defArgs s__law_room, defBody s__law_room, defScope s__law_room, [], []⟩, ⟨("_law_moments", none), "_law_moments", "_law_moments", defArgs s__law_moments, defBody s__law_moments, defScope s__law_moments, [], []⟩, ⟨("_law_lives", none), "_law_lives", "_law_lives", defArgs s__law_lives, defBody s__law_lives, defScope s__law_lives, [], []⟩, ⟨("_law_lawful", none), "_law_lawful", "_law_lawful", defArgs s__law_lawful, defBody s__law_lawful, defScope s__law_lawful, [], []⟩, ⟨("_law_sums", none), "_law_sums", "_law_sums", defArgs s__law_sums, defBody s__law_sums, defScope s__law_sums, [], []⟩, ⟨("_law_spoilt", none), "_law_spoilt", "_law_spoilt", defArgs s__law_spoilt, defBody s__law_spoilt, defScope s__law_spoilt, [], []⟩, ⟨("_law_is_moments", none), "_law_is_moments", "_law_is_moments", defArgs s__law_is_moments, defBody s__law_is_moments, defScope s__law_is_moments, [], []⟩, ⟨("_law_is_row", none), "_law_is_row", "_law_is_row", defArgs s__law_is_row, defBody s__law_is_row, defScope s__law_is_row, [], []⟩, ⟨("_law_hours", none), "_law_hours", "_law_hours", defArgs s__law_hours, defBody s__law_hours, defScope s__law_hours, [], []⟩, ⟨("_law_is_case", none), "_law_is_case", "_law_is_case", defArgs s__law_is_case, defBody s__law_is_case, defScope s__law_is_case, [], []⟩, ⟨("_law_made", none), "_law_made", "_law_made", defArgs s__law_made, defBody s__law_made, defScope s__law_made, [], []⟩, ⟨("_law_is_bool", none), "_law_is_bool", "_law_is_bool", defArgs s__law_is_bool, defBody s__law_is_bool, defScope s__law_is_bool, [], []⟩, ⟨("_law_spoils_told", none), "_law_spoils_told", "_law_spoils_told", defArgs s__law_spoils_told, defBody s__law_spoils_told, defScope s__law_spoils_told, [], []⟩, ⟨("_law_forms_told", none), "_law_forms_told", "_law_forms_told", defArgs s__law_forms_told, defBody s__law_forms_told, defScope s__law_forms_told, [], []⟩, ⟨("_law_late_told", none), "_law_late_told", "_law_late_told", defArgs s__law_late_told, defBody s__law_late_told, defScope s__law_late_told, [], []⟩, ⟨("law", none), "law", "law", defArgs s_law, defBody s_law, defScope s_law, [], []⟩, ⟨("BadNumber", some "__init__"), "__init__", "BadNumber.__init__", defArgs s_BadNumber, defBody s_BadNumber, defScope s_BadNumber, [], []⟩, ⟨("BadHours", some "__init__"), "__init__", "BadHours.__init__", defArgs s_BadHours, defBody s_BadHours, defScope s_BadHours, [], []⟩, ⟨("BadStore", some "__init__"), "__init__", "BadStore.__init__", defArgs s_BadStore, defBody s_BadStore, defScope s_BadStore, [], []⟩, ⟨("BadCase", some "__init__"), "__init__", "BadCase.__init__", defArgs s_BadCase, defBody s_BadCase, defScope s_BadCase, [], []⟩]
def tp : Py.Top := ⟨fa, fn, T, ["at"], ["BadNumber", "BadHours", "BadStore", "BadCase"]⟩
theorem sc_is_int : FnScope ["x"] ["x"] (defScope s_is_int) := ⟨rfl, rfl, rfl, by decide +kernel, rfl, by decide +kernel, by decide +kernel⟩
theorem sc_plain_form : FnScope ["x", "work", "tokens", "item", "part", "held", "is_row", "parts", "_"] ["x"] (defScope s_plain_form) := ⟨rfl, rfl, rfl, by decide +kernel, rfl, by decide +kernel, by decide +kernel⟩
theorem sc_check_number : FnScope ["x", "least"] ["x", "least"] (defScope s_check_number) := ⟨rfl, rfl, rfl, by decide +kernel, rfl, by decide +kernel, by decide +kernel⟩
theorem sc_check_hour : FnScope ["x"] ["x"] (defScope s_check_hour) := ⟨rfl, rfl, rfl, by decide +kernel, rfl, by decide +kernel, by decide +kernel⟩
theorem sc_wrong_store_part : FnScope ["store", "slow", "cap", "err", "kind"] ["store"] (defScope s_wrong_store_part) := ⟨rfl, rfl, rfl, by decide +kernel, rfl, by decide +kernel, by decide +kernel⟩
theorem sc_wrong_way_place : FnScope ["way", "number", "store", "wrong"] ["way"] (defScope s_wrong_way_place) := ⟨rfl, rfl, rfl, by decide +kernel, rfl, by decide +kernel, by decide +kernel⟩
theorem sc_plain_way : FnScope ["way", "stores", "store"] ["way"] (defScope s_plain_way) := ⟨rfl, rfl, rfl, by decide +kernel, rfl, by decide +kernel, by decide +kernel⟩
theorem sc_check_way : FnScope ["way", "wrong"] ["way"] (defScope s_check_way) := ⟨rfl, rfl, rfl, by decide +kernel, rfl, by decide +kernel, by decide +kernel⟩
theorem sc_plain_groups : FnScope ["way", "groups", "start", "number", "store"] ["way"] (defScope s_plain_groups) := ⟨rfl, rfl, rfl, by decide +kernel, rfl, by decide +kernel, by decide +kernel⟩
theorem sc_plain_caps : FnScope ["way", "sums", "group", "total", "number", "cap"] ["way"] (defScope s_plain_caps) := ⟨rfl, rfl, rfl, by decide +kernel, rfl, by decide +kernel, by decide +kernel⟩
theorem sc_plain_base : FnScope ["way", "total", "store"] ["way"] (defScope s_plain_base) := ⟨rfl, rfl, rfl, by decide +kernel, rfl, by decide +kernel, by decide +kernel⟩
theorem sc_life_shares : FnScope ["way", "life", "shares", "cap"] ["way", "life"] (defScope s_life_shares) := ⟨rfl, rfl, rfl, by decide +kernel, rfl, by decide +kernel, by decide +kernel⟩
theorem sc_plain_delay : FnScope ["way", "life", "total", "share"] ["way", "life"] (defScope s_plain_delay) := ⟨rfl, rfl, rfl, by decide +kernel, rfl, by decide +kernel, by decide +kernel⟩
theorem sc_has_copy_form : FnScope ["copy", "served", "moments", "moment", "part"] ["copy"] (defScope s_has_copy_form) := ⟨rfl, rfl, rfl, by decide +kernel, rfl, by decide +kernel, by decide +kernel⟩
theorem sc_is_lawful_moment : FnScope ["store", "left", "moment", "slow", "cap", "err", "kind", "late", "stay", "told"] ["store", "left", "moment"] (defScope s_is_lawful_moment) := ⟨rfl, rfl, rfl, by decide +kernel, rfl, by decide +kernel, by decide +kernel⟩
theorem sc_lives_told : FnScope ["way", "life", "moments", "left", "lives", "store", "moment"] ["way", "life", "moments"] (defScope s_lives_told) := ⟨rfl, rfl, rfl, by decide +kernel, rfl, by decide +kernel, by decide +kernel⟩
theorem sc_is_plain_copy : FnScope ["way", "life", "copy", "lives", "number", "store"] ["way", "life", "copy"] (defScope s_is_plain_copy) := ⟨rfl, rfl, rfl, by decide +kernel, rfl, by decide +kernel, by decide +kernel⟩
theorem sc_is_copy : FnScope ["way", "life", "copy", "plain"] ["way", "life", "copy"] (defScope s_is_copy) := ⟨rfl, rfl, rfl, by decide +kernel, rfl, by decide +kernel, by decide +kernel⟩
theorem sc_lives_along : FnScope ["way", "life", "copy", "plain", "course"] ["way", "life", "copy"] (defScope s_lives_along) := ⟨rfl, rfl, rfl, by decide +kernel, rfl, by decide +kernel, by decide +kernel⟩
theorem sc_copy_hours : FnScope ["copy", "course", "total", "moment"] ["copy"] (defScope s_copy_hours) := ⟨rfl, rfl, rfl, by decide +kernel, rfl, by decide +kernel, by decide +kernel⟩
theorem sc_copy_of : FnScope ["way", "life", "served", "hours", "plain", "rest", "left", "moments", "slow", "cap", "err", "kind", "late", "bound", "stay", "told"] ["way", "life", "served", "hours"] (defScope s_copy_of) := ⟨rfl, rfl, rfl, by decide +kernel, rfl, by decide +kernel, by decide +kernel⟩
theorem sc_plain_too_late : FnScope ["way", "life", "hours", "paper", "base", "sums", "total", "share"] ["way", "life", "hours", "paper"] (defScope s_plain_too_late) := ⟨rfl, rfl, rfl, by decide +kernel, rfl, by decide +kernel, by decide +kernel⟩
theorem sc_shows_too_late : FnScope ["way", "life", "hours", "paper", "plain"] ["way", "life", "hours", "paper"] (defScope s_shows_too_late) := ⟨rfl, rfl, rfl, by decide +kernel, rfl, by decide +kernel, by decide +kernel⟩
theorem sc_too_late_paper : FnScope ["way", "life", "hours", "plain"] ["way", "life", "hours"] (defScope s_too_late_paper) := ⟨rfl, rfl, rfl, by decide +kernel, rfl, by decide +kernel, by decide +kernel⟩
theorem sc__law_draws : FnScope ["script", "draws", "at", "cell", "turn"] ["script"] (defScope s__law_draws) := ⟨rfl, rfl, rfl, by decide +kernel, rfl, by decide +kernel, by decide +kernel⟩
theorem sc__law_take : FnScope ["draws", "many"] ["draws", "many"] (defScope s__law_take) := ⟨rfl, rfl, rfl, by decide +kernel, rfl, by decide +kernel, by decide +kernel⟩
theorem sc__law_is_int : FnScope ["thing"] ["thing"] (defScope s__law_is_int) := ⟨rfl, rfl, rfl, by decide +kernel, rfl, by decide +kernel, by decide +kernel⟩
theorem sc__law_course : FnScope ["draws", "stores", "at", "slow", "cap", "err"] ["draws"] (defScope s__law_course) := ⟨rfl, rfl, rfl, by decide +kernel, rfl, by decide +kernel, by decide +kernel⟩
theorem sc__law_room : FnScope ["store", "left"] ["store", "left"] (defScope s__law_room) := ⟨rfl, rfl, rfl, by decide +kernel, rfl, by decide +kernel, by decide +kernel⟩
theorem sc__law_moments : FnScope ["draws", "way", "life", "moments", "left", "store", "late", "told"] ["draws", "way", "life"] (defScope s__law_moments) := ⟨rfl, rfl, rfl, by decide +kernel, rfl, by decide +kernel, by decide +kernel⟩
theorem sc__law_lives : FnScope ["way", "life", "moments", "lives", "left", "at"] ["way", "life", "moments"] (defScope s__law_lives) := ⟨rfl, rfl, rfl, by decide +kernel, rfl, by decide +kernel, by decide +kernel⟩
theorem sc__law_lawful : FnScope ["way", "life", "moments", "lives", "at", "late", "stay", "told"] ["way", "life", "moments"] (defScope s__law_lawful) := ⟨rfl, rfl, rfl, by decide +kernel, rfl, by decide +kernel, by decide +kernel⟩
theorem sc__law_sums : FnScope ["way", "life", "sums", "left", "many", "store", "stay"] ["way", "life"] (defScope s__law_sums) := ⟨rfl, rfl, rfl, by decide +kernel, rfl, by decide +kernel, by decide +kernel⟩
theorem sc__law_spoilt : FnScope ["way", "life", "moments", "at", "late", "stay", "told", "slow", "cap", "err", "kind", "left", "rows", "spoilt", "row"] ["way", "life", "moments", "at"] (defScope s__law_spoilt) := ⟨rfl, rfl, rfl, by decide +kernel, rfl, by decide +kernel, by decide +kernel⟩
theorem sc__law_is_moments : FnScope ["told", "many", "moment", "part"] ["told", "many"] (defScope s__law_is_moments) := ⟨rfl, rfl, rfl, by decide +kernel, rfl, by decide +kernel, by decide +kernel⟩
theorem sc__law_is_row : FnScope ["told", "due", "at"] ["told", "due"] (defScope s__law_is_row) := ⟨rfl, rfl, rfl, by decide +kernel, rfl, by decide +kernel, by decide +kernel⟩
theorem sc__law_hours : FnScope ["moments", "moment"] ["moments"] (defScope s__law_hours) := ⟨rfl, rfl, rfl, by decide +kernel, rfl, by decide +kernel, by decide +kernel⟩
theorem sc__law_is_case : FnScope ["told"] ["told"] (defScope s__law_is_case) := ⟨rfl, rfl, rfl, by decide +kernel, rfl, by decide +kernel, by decide +kernel⟩
theorem sc__law_made : FnScope ["way", "life", "served", "hours", "copy", "moments"] ["way", "life", "served", "hours"] (defScope s__law_made) := ⟨rfl, rfl, rfl, by decide +kernel, rfl, by decide +kernel, by decide +kernel⟩
theorem sc__law_is_bool : FnScope ["told", "due"] ["told", "due"] (defScope s__law_is_bool) := ⟨rfl, rfl, rfl, by decide +kernel, rfl, by decide +kernel, by decide +kernel⟩
theorem sc__law_spoils_told : FnScope ["way", "life", "served", "spoilt", "moments", "due", "hours", "told", "lives", "error"] ["way", "life", "served", "spoilt"] (defScope s__law_spoils_told) := ⟨rfl, rfl, rfl, by decide +kernel, rfl, by decide +kernel, by decide +kernel⟩
theorem sc__law_forms_told : FnScope ["way", "life", "served", "moments", "wrong", "told", "error", "moment"] ["way", "life", "served", "moments"] (defScope s__law_forms_told) := ⟨rfl, rfl, rfl, by decide +kernel, rfl, by decide +kernel, by decide +kernel⟩
theorem sc__law_late_told : FnScope ["way", "life", "delay", "more", "base", "sums", "hours", "wrongs", "wrong", "paper", "store"] ["way", "life", "delay", "more"] (defScope s__law_late_told) := ⟨rfl, rfl, rfl, by decide +kernel, rfl, by decide +kernel, by decide +kernel⟩
theorem sc_law : FnScope ["script", "draws", "way", "life", "served", "at", "moments", "some", "more", "delay", "hours", "store"] ["script"] (defScope s_law) := ⟨rfl, rfl, rfl, by decide +kernel, rfl, by decide +kernel, by decide +kernel⟩
theorem sc_BadNumber : FnScope ["self", "at"] ["self", "at"] (defScope s_BadNumber) := ⟨rfl, rfl, rfl, by decide +kernel, rfl, by decide +kernel, by decide +kernel⟩
theorem sc_BadHours : FnScope ["self", "at"] ["self", "at"] (defScope s_BadHours) := ⟨rfl, rfl, rfl, by decide +kernel, rfl, by decide +kernel, by decide +kernel⟩
theorem sc_BadStore : FnScope ["self", "at"] ["self", "at"] (defScope s_BadStore) := ⟨rfl, rfl, rfl, by decide +kernel, rfl, by decide +kernel, by decide +kernel⟩
theorem sc_BadCase : FnScope ["self", "at"] ["self", "at"] (defScope s_BadCase) := ⟨rfl, rfl, rfl, by decide +kernel, rfl, by decide +kernel, by decide +kernel⟩
section
variable {P : Program} {w : World} {K : PySem.W.Frag} {mg : Str → Option Value} {base : Heap}
theorem i_BadNumber (e : Env1 tp K mg) : InitOk P w K mg base "BadNumber" "at" :=
  init_of (st := s_BadNumber) (p0 := "self") (p1 := "at") e 44 rfl (by decide) rfl (by decide) sc_BadNumber (fun _ _ _ _ _ _ us hl => match us, hl with | [_, _], _ => rfl) fun X hK hN hS => by
    have e0 : X.N[0]? = some (("self" : Str)) := by rw [hN]; rfl
    have e1 : X.N[1]? = some (("at" : Str)) := by rw [hN]; rfl
    exact pss_one (ps_ost (pv 0 e0 (by rw [hS]; exact .inl rfl)) (pv 1 e1 (by rw [hS]; exact .inl rfl)))
theorem i_BadHours (e : Env1 tp K mg) : InitOk P w K mg base "BadHours" "at" :=
  init_of (st := s_BadHours) (p0 := "self") (p1 := "at") e 45 rfl (by decide) rfl (by decide) sc_BadHours (fun _ _ _ _ _ _ us hl => match us, hl with | [_, _], _ => rfl) fun X hK hN hS => by
    have e0 : X.N[0]? = some (("self" : Str)) := by rw [hN]; rfl
    have e1 : X.N[1]? = some (("at" : Str)) := by rw [hN]; rfl
    exact pss_one (ps_ost (pv 0 e0 (by rw [hS]; exact .inl rfl)) (pv 1 e1 (by rw [hS]; exact .inl rfl)))
theorem i_BadStore (e : Env1 tp K mg) : InitOk P w K mg base "BadStore" "at" :=
  init_of (st := s_BadStore) (p0 := "self") (p1 := "at") e 46 rfl (by decide) rfl (by decide) sc_BadStore (fun _ _ _ _ _ _ us hl => match us, hl with | [_, _], _ => rfl) fun X hK hN hS => by
    have e0 : X.N[0]? = some (("self" : Str)) := by rw [hN]; rfl
    have e1 : X.N[1]? = some (("at" : Str)) := by rw [hN]; rfl
    exact pss_one (ps_ost (pv 0 e0 (by rw [hS]; exact .inl rfl)) (pv 1 e1 (by rw [hS]; exact .inl rfl)))
theorem i_BadCase (e : Env1 tp K mg) : InitOk P w K mg base "BadCase" "at" :=
  init_of (st := s_BadCase) (p0 := "self") (p1 := "at") e 47 rfl (by decide) rfl (by decide) sc_BadCase (fun _ _ _ _ _ _ us hl => match us, hl with | [_, _], _ => rfl) fun X hK hN hS => by
    have e0 : X.N[0]? = some (("self" : Str)) := by rw [hN]; rfl
    have e1 : X.N[1]? = some (("at" : Str)) := by rw [hN]; rfl
    exact pss_one (ps_ost (pv 0 e0 (by rw [hS]; exact .inl rfl)) (pv 1 e1 (by rw [hS]; exact .inl rfl)))
theorem w_is_int (e : Env1 tp K mg) : DefOk P w K mg base 1 "is_int" 1 c_is_int :=
  def_of (st := s_is_int) (N := ["x"]) (ps := ["x"]) e 0 0 rfl rfl sc_is_int (by decide) (fun _ _ _ _ _ _ us hl => match us, hl with | [_], _ => rfl) fun f cdv A outer s H E hr => by
    have tk := takes_of (X := cxOf (L2.CX P w) P w K mg base ["x"] "is_int" (defScope s_is_int) f cdv A outer s H E) rfl rfl rfl rfl
    have po := passes_of (X := cxOf (L2.CX P w) P w K mg base ["x"] "is_int" (defScope s_is_int) f cdv A outer s H E) rfl
    have hu := hr.units
    exact ss_one (s_ret (v_val (x_and (x_callB (c_isi e.tbl) rfl (e.free 44) bt_isinstance (l_cons (x_var 0 (pv 0)) (l_cons (x_ty .int rfl (e.free 45) bt_int) (l_nil)))) (x_one (x_not (x_callB (c_isi e.tbl) rfl (e.free 44) bt_isinstance (l_cons (x_var 0 (pv 0)) (l_cons (x_ty .bool rfl (e.free 46) bt_bool) (l_nil)))))))))
theorem w_plain_form (e : Env1 tp K mg) : DefOk P w K mg base 1 "plain_form" 1 c_plain_form :=
  def_of (st := s_plain_form) (N := ["x", "work", "tokens", "item", "part", "held", "is_row", "parts", "_"]) (ps := ["x"]) e 1 1 rfl rfl sc_plain_form (by decide) (fun _ _ _ _ _ _ us hl => match us, hl with | [_], _ => rfl) fun f cdv A outer s H E hr => by
    have tk := takes_of (X := cxOf (L2.CX P w) P w K mg base ["x", "work", "tokens", "item", "part", "held", "is_row", "parts", "_"] "plain_form" (defScope s_plain_form) f cdv A outer s H E) rfl rfl rfl rfl
    have po := passes_of (X := cxOf (L2.CX P w) P w K mg base ["x", "work", "tokens", "item", "part", "held", "is_row", "parts", "_"] "plain_form" (defScope s_plain_form) f cdv A outer s H E) rfl
    have hu := hr.units
    exact ss_cons (s_set sc_plain_form.nd rfl (by first | exact .inl rfl | exact .inr rfl) (v_lst (l_cons (x_var 0 (pv 0)) (l_nil)))) (ss_cons (s_set sc_plain_form.nd rfl (by first | exact .inl rfl | exact .inr rfl) (v_lst (l_nil))) (ss_cons (s_while plain_form_n0 po (b_truO (pv 1)) (ss_cons (s_set sc_plain_form.nd rfl (by first | exact .inl rfl | exact .inr rfl) (v_mut0 PySem.F.plainAttrs_list PySem.F.slot_list_pop PySem.F.type_list_pop m_pop (pv 1))) (ss_one (s_if (b_tru (x_callB (c_isi e.tbl) rfl (e.free 44) bt_isinstance (l_cons (x_var 3 (pv 3)) (l_cons (x_tup (l_cons (x_ty .lst rfl (e.free 47) bt_list) (l_cons (x_ty .tup rfl (e.free 48) bt_tuple) (l_nil)))) (l_nil))))) (ss_cons (s_expr (v_mut PySem.F.plainAttrs_list PySem.F.slot_list_append PySem.F.type_list_append m_append (pv 2) (l_cons (x_tup (l_cons (x_callB c_len rfl (e.free 50) bt_len (l_cons (x_var 3 (pv 3)) (l_nil))) (l_cons (x_bl) (l_nil)))) (l_nil)))) (ss_one (s_for po rfl (i_seq (x_var 3 (pv 3))) (g_name sc_plain_form.nd rfl (by first | exact .inl rfl | exact .inr rfl)) (ss_one (s_expr (v_mut PySem.F.plainAttrs_list PySem.F.slot_list_append PySem.F.type_list_append m_append (pv 1) (l_cons (x_var 4 (pv 4)) (l_nil)))))))) (ss_one (s_expr (v_mut PySem.F.plainAttrs_list PySem.F.slot_list_append PySem.F.type_list_append m_append (pv 2) (l_cons (x_tup (l_cons (x_var 3 (pv 3)) (l_cons (x_bl) (l_nil)))) (l_nil))))))))) (ss_cons (s_set sc_plain_form.nd rfl (by first | exact .inl rfl | exact .inr rfl) (v_lst (l_nil))) (ss_cons (s_for po rfl (i_seq (x_revL (x_var 2 (pv 2)))) (g_seq rfl (gs_cons (g_name sc_plain_form.nd rfl (by first | exact .inl rfl | exact .inr rfl)) (gs_cons (g_name sc_plain_form.nd rfl (by first | exact .inl rfl | exact .inr rfl)) gs_nil))) (ss_one (s_if (b_tru (x_var 6 (pv 6))) (ss_cons (s_set sc_plain_form.nd rfl (by first | exact .inl rfl | exact .inr rfl) (v_lst (l_nil))) (ss_cons (s_for po rfl (i_range1 rfl (e.free 49) (l_cons (x_var 3 (pv 3)) (l_nil))) (g_name sc_plain_form.nd rfl (by first | exact .inl rfl | exact .inr rfl)) (ss_one (s_expr (v_mut PySem.F.plainAttrs_list PySem.F.slot_list_append PySem.F.type_list_append m_append (pv 7) (l_cons (x_hold (v_mut0 PySem.F.plainAttrs_list PySem.F.slot_list_pop PySem.F.type_list_pop m_pop (pv 5))) (l_nil)))))) (ss_one (s_expr (v_mut PySem.F.plainAttrs_list PySem.F.slot_list_append PySem.F.type_list_append m_append (pv 5) (l_cons (x_callT c_tuple rfl (e.free 48) bt_tuple (l_cons (x_revL (x_var 7 (pv 7))) (l_nil))) (l_nil))))))) (ss_one (s_expr (v_mut PySem.F.plainAttrs_list PySem.F.slot_list_append PySem.F.type_list_append m_append (pv 5) (l_cons (x_var 3 (pv 3)) (l_nil)))))))) (ss_one (s_ret (v_val (x_ixO (pv 5) (x_int)))))))))
theorem w_check_number (e : Env1 tp K mg) (h_is_int : DefOk P w K mg base 1 "is_int" 1 c_is_int) (h_plain_form : DefOk P w K mg base 1 "plain_form" 1 c_plain_form) (i_BadNumber : InitOk P w K mg base "BadNumber" "at") : DefOk P w K mg base 3 "check_number" 2 c_check_number :=
  def_of (st := s_check_number) (N := ["x", "least"]) (ps := ["x", "least"]) e 2 2 rfl rfl sc_check_number (by decide) (fun _ _ _ _ _ _ us hl => match us, hl with | [_, _], _ => rfl) fun f cdv A outer s H E hr => by
    have tk := takes_of (X := cxOf (L2.CX P w) P w K mg base ["x", "least"] "check_number" (defScope s_check_number) f cdv A outer s H E) rfl rfl rfl rfl
    have po := passes_of (X := cxOf (L2.CX P w) P w K mg base ["x", "least"] "check_number" (defScope s_check_number) f cdv A outer s H E) rfl
    have hu := hr.units
    exact ss_cons (s_if (PBw.b (w_or (b_not (b_tru (x_hold (v_callD (h_is_int : DefOk P w K mg base _ _ _ _) (hr.mono (show 1 ≤ 2 by decide)) rfl tk (a_val (x_var 0 (pv 0)) (a_nil)) (alen_val alen_nil))))) (w_or1 (b_cmp o_lt (x_var 0 (pv 0)) (x_var 1 (pv 1)) rfl)))) (ss_one (s_raiseD (i_BadNumber : InitOk P w K mg base _ _) rfl tk (hr.mono (show 2 ≤ 2 by decide)) rfl (x_hold (v_callD (h_plain_form : DefOk P w K mg base _ _ _ _) (hr.mono (show 1 ≤ 2 by decide)) rfl tk (a_val (x_var 0 (pv 0)) (a_nil)) (alen_val alen_nil))))) (ss_nil)) (ss_one (s_ret (v_val (x_var 0 (pv 0)))))
theorem w_check_hour (e : Env1 tp K mg) (h_is_int : DefOk P w K mg base 1 "is_int" 1 c_is_int) (h_plain_form : DefOk P w K mg base 1 "plain_form" 1 c_plain_form) (i_BadHours : InitOk P w K mg base "BadHours" "at") : DefOk P w K mg base 3 "check_hour" 1 c_check_hour :=
  def_of (st := s_check_hour) (N := ["x"]) (ps := ["x"]) e 3 3 rfl rfl sc_check_hour (by decide) (fun _ _ _ _ _ _ us hl => match us, hl with | [_], _ => rfl) fun f cdv A outer s H E hr => by
    have tk := takes_of (X := cxOf (L2.CX P w) P w K mg base ["x"] "check_hour" (defScope s_check_hour) f cdv A outer s H E) rfl rfl rfl rfl
    have po := passes_of (X := cxOf (L2.CX P w) P w K mg base ["x"] "check_hour" (defScope s_check_hour) f cdv A outer s H E) rfl
    have hu := hr.units
    exact ss_cons (s_if (b_not (b_tru (x_hold (v_callD (h_is_int : DefOk P w K mg base _ _ _ _) (hr.mono (show 1 ≤ 2 by decide)) rfl tk (a_val (x_var 0 (pv 0)) (a_nil)) (alen_val alen_nil))))) (ss_one (s_raiseD (i_BadHours : InitOk P w K mg base _ _) rfl tk (hr.mono (show 2 ≤ 2 by decide)) rfl (x_hold (v_callD (h_plain_form : DefOk P w K mg base _ _ _ _) (hr.mono (show 1 ≤ 2 by decide)) rfl tk (a_val (x_var 0 (pv 0)) (a_nil)) (alen_val alen_nil))))) (ss_nil)) (ss_one (s_ret (v_val (x_var 0 (pv 0)))))
theorem w_wrong_store_part (e : Env1 tp K mg) (h_is_int : DefOk P w K mg base 1 "is_int" 1 c_is_int) : DefOk P w K mg base 2 "wrong_store_part" 1 c_wrong_store_part :=
  def_of (st := s_wrong_store_part) (N := ["store", "slow", "cap", "err", "kind"]) (ps := ["store"]) e 4 4 rfl rfl sc_wrong_store_part (by decide) (fun _ _ _ _ _ _ us hl => match us, hl with | [_], _ => rfl) fun f cdv A outer s H E hr => by
    have tk := takes_of (X := cxOf (L2.CX P w) P w K mg base ["store", "slow", "cap", "err", "kind"] "wrong_store_part" (defScope s_wrong_store_part) f cdv A outer s H E) rfl rfl rfl rfl
    have po := passes_of (X := cxOf (L2.CX P w) P w K mg base ["store", "slow", "cap", "err", "kind"] "wrong_store_part" (defScope s_wrong_store_part) f cdv A outer s H E) rfl
    have hu := hr.units
    exact ss_cons (s_if (PBw.b (w_or (b_not (b_tru (x_callB (c_isi e.tbl) rfl (e.free 44) bt_isinstance (l_cons (x_var 0 (pv 0)) (l_cons (x_tup (l_cons (x_ty .tup rfl (e.free 48) bt_tuple) (l_cons (x_ty .lst rfl (e.free 47) bt_list) (l_nil)))) (l_nil)))))) (w_or1 (b_cmp (o_ne hu) (x_callB c_len rfl (e.free 50) bt_len (l_cons (x_var 0 (pv 0)) (l_nil))) (x_int) rfl)))) (ss_one (s_ret (v_val (x_neg (x_int))))) (ss_nil)) (ss_cons (s_asg (x_var 0 (pv 0)) (g_seq rfl (gs_cons (g_name sc_wrong_store_part.nd rfl (by first | exact .inl rfl | exact .inr rfl)) (gs_cons (g_name sc_wrong_store_part.nd rfl (by first | exact .inl rfl | exact .inr rfl)) (gs_cons (g_name sc_wrong_store_part.nd rfl (by first | exact .inl rfl | exact .inr rfl)) (gs_cons (g_name sc_wrong_store_part.nd rfl (by first | exact .inl rfl | exact .inr rfl)) gs_nil)))))) (ss_cons (s_if (PBw.b (w_or (b_not (b_tru (x_hold (v_callD (h_is_int : DefOk P w K mg base _ _ _ _) (hr.mono (show 1 ≤ 1 by decide)) rfl tk (a_val (x_var 1 (pv 1)) (a_nil)) (alen_val alen_nil))))) (w_or1 (b_cmp o_lt (x_var 1 (pv 1)) (x_int) rfl)))) (ss_one (s_ret (v_val (x_int)))) (ss_nil)) (ss_cons (s_if (PBw.b (w_and (b_cmp o_isnot (x_var 2 (pv 2)) (x_non) rfl) (w_and1 (PBw.b (w_or (b_not (b_tru (x_hold (v_callD (h_is_int : DefOk P w K mg base _ _ _ _) (hr.mono (show 1 ≤ 1 by decide)) rfl tk (a_val (x_var 2 (pv 2)) (a_nil)) (alen_val alen_nil))))) (w_or1 (b_cmp o_lt (x_var 2 (pv 2)) (x_int) rfl))))))) (ss_one (s_ret (v_val (x_int)))) (ss_nil)) (ss_cons (s_if (PBw.b (w_or (b_not (b_tru (x_hold (v_callD (h_is_int : DefOk P w K mg base _ _ _ _) (hr.mono (show 1 ≤ 1 by decide)) rfl tk (a_val (x_var 3 (pv 3)) (a_nil)) (alen_val alen_nil))))) (w_or1 (b_cmp o_lt (x_var 3 (pv 3)) (x_int) rfl)))) (ss_one (s_ret (v_val (x_int)))) (ss_nil)) (ss_cons (s_if (PBw.b (w_or (b_not (b_tru (x_callB (c_isi e.tbl) rfl (e.free 44) bt_isinstance (l_cons (x_var 4 (pv 4)) (l_cons (x_ty .str rfl (e.free 51) bt_str) (l_nil)))))) (w_or1 (b_cmp o_notin (x_var 4 (pv 4)) (x_tup (l_cons (x_str) (l_cons (x_str) (l_nil)))) rfl)))) (ss_one (s_ret (v_val (x_int)))) (ss_nil)) (ss_one (s_ret (v_val (x_non)))))))))
theorem w_wrong_way_place (e : Env1 tp K mg) (h_wrong_store_part : DefOk P w K mg base 2 "wrong_store_part" 1 c_wrong_store_part) : DefOk P w K mg base 3 "wrong_way_place" 1 c_wrong_way_place :=
  def_of (st := s_wrong_way_place) (N := ["way", "number", "store", "wrong"]) (ps := ["way"]) e 5 5 rfl rfl sc_wrong_way_place (by decide) (fun _ _ _ _ _ _ us hl => match us, hl with | [_], _ => rfl) fun f cdv A outer s H E hr => by
    have tk := takes_of (X := cxOf (L2.CX P w) P w K mg base ["way", "number", "store", "wrong"] "wrong_way_place" (defScope s_wrong_way_place) f cdv A outer s H E) rfl rfl rfl rfl
    have po := passes_of (X := cxOf (L2.CX P w) P w K mg base ["way", "number", "store", "wrong"] "wrong_way_place" (defScope s_wrong_way_place) f cdv A outer s H E) rfl
    have hu := hr.units
    exact ss_cons (s_if (PBw.b (w_or (b_not (b_tru (x_callB (c_isi e.tbl) rfl (e.free 44) bt_isinstance (l_cons (x_var 0 (pv 0)) (l_cons (x_tup (l_cons (x_ty .tup rfl (e.free 48) bt_tuple) (l_cons (x_ty .lst rfl (e.free 47) bt_list) (l_nil)))) (l_nil)))))) (w_or1 (b_cmp (o_eq hu) (x_callB c_len rfl (e.free 50) bt_len (l_cons (x_var 0 (pv 0)) (l_nil))) (x_int) rfl)))) (ss_one (s_ret (v_val (x_tup (l_cons (x_neg (x_int)) (l_cons (x_neg (x_int)) (l_nil))))))) (ss_nil)) (ss_cons (s_for po rfl (i_enum rfl (e.free 52) (l_cons (x_var 0 (pv 0)) (l_nil))) (g_seq rfl (gs_cons (g_name sc_wrong_way_place.nd rfl (by first | exact .inl rfl | exact .inr rfl)) (gs_cons (g_name sc_wrong_way_place.nd rfl (by first | exact .inl rfl | exact .inr rfl)) gs_nil))) (ss_cons (s_set sc_wrong_way_place.nd rfl (by first | exact .inl rfl | exact .inr rfl) (v_callD (h_wrong_store_part : DefOk P w K mg base _ _ _ _) (hr.mono (show 2 ≤ 2 by decide)) rfl tk (a_val (x_var 2 (pv 2)) (a_nil)) (alen_val alen_nil))) (ss_one (s_if (b_cmp o_isnot (x_var 3 (pv 3)) (x_non) rfl) (ss_one (s_ret (v_val (x_tup (l_cons (x_var 1 (pv 1)) (l_cons (x_var 3 (pv 3)) (l_nil))))))) (ss_nil))))) (ss_one (s_ret (v_val (x_non)))))
theorem w_plain_way (e : Env1 tp K mg) : DefOk P w K mg base 1 "plain_way" 1 c_plain_way :=
  def_of (st := s_plain_way) (N := ["way", "stores", "store"]) (ps := ["way"]) e 6 6 rfl rfl sc_plain_way (by decide) (fun _ _ _ _ _ _ us hl => match us, hl with | [_], _ => rfl) fun f cdv A outer s H E hr => by
    have tk := takes_of (X := cxOf (L2.CX P w) P w K mg base ["way", "stores", "store"] "plain_way" (defScope s_plain_way) f cdv A outer s H E) rfl rfl rfl rfl
    have po := passes_of (X := cxOf (L2.CX P w) P w K mg base ["way", "stores", "store"] "plain_way" (defScope s_plain_way) f cdv A outer s H E) rfl
    have hu := hr.units
    exact ss_cons (s_set sc_plain_way.nd rfl (by first | exact .inl rfl | exact .inr rfl) (v_lst (l_nil))) (ss_cons (s_for po rfl (i_seq (x_var 0 (pv 0))) (g_name sc_plain_way.nd rfl (by first | exact .inl rfl | exact .inr rfl)) (ss_one (s_expr (v_mut PySem.F.plainAttrs_list PySem.F.slot_list_append PySem.F.type_list_append m_append (pv 1) (l_cons (x_callT c_tuple rfl (e.free 48) bt_tuple (l_cons (x_var 2 (pv 2)) (l_nil))) (l_nil)))))) (ss_one (s_ret (v_val (x_callT c_tuple rfl (e.free 48) bt_tuple (l_cons (x_var 1 (pv 1)) (l_nil)))))))
theorem w_check_way (e : Env1 tp K mg) (h_wrong_way_place : DefOk P w K mg base 3 "wrong_way_place" 1 c_wrong_way_place) (h_plain_way : DefOk P w K mg base 1 "plain_way" 1 c_plain_way) (i_BadStore : InitOk P w K mg base "BadStore" "at") : DefOk P w K mg base 4 "check_way" 1 c_check_way :=
  def_of (st := s_check_way) (N := ["way", "wrong"]) (ps := ["way"]) e 7 7 rfl rfl sc_check_way (by decide) (fun _ _ _ _ _ _ us hl => match us, hl with | [_], _ => rfl) fun f cdv A outer s H E hr => by
    have tk := takes_of (X := cxOf (L2.CX P w) P w K mg base ["way", "wrong"] "check_way" (defScope s_check_way) f cdv A outer s H E) rfl rfl rfl rfl
    have po := passes_of (X := cxOf (L2.CX P w) P w K mg base ["way", "wrong"] "check_way" (defScope s_check_way) f cdv A outer s H E) rfl
    have hu := hr.units
    exact ss_cons (s_set sc_check_way.nd rfl (by first | exact .inl rfl | exact .inr rfl) (v_callD (h_wrong_way_place : DefOk P w K mg base _ _ _ _) (hr.mono (show 3 ≤ 3 by decide)) rfl tk (a_val (x_var 0 (pv 0)) (a_nil)) (alen_val alen_nil))) (ss_cons (s_if (b_cmp o_isnot (x_var 1 (pv 1)) (x_non) rfl) (ss_one (s_raiseD (i_BadStore : InitOk P w K mg base _ _) rfl tk (hr.mono (show 2 ≤ 3 by decide)) rfl (x_var 1 (pv 1)))) (ss_nil)) (ss_one (s_ret (v_callD (h_plain_way : DefOk P w K mg base _ _ _ _) (hr.mono (show 1 ≤ 3 by decide)) rfl tk (a_val (x_var 0 (pv 0)) (a_nil)) (alen_val alen_nil)))))
theorem w_plain_groups (e : Env1 tp K mg) : DefOk P w K mg base 1 "plain_groups" 1 c_plain_groups :=
  def_of (st := s_plain_groups) (N := ["way", "groups", "start", "number", "store"]) (ps := ["way"]) e 8 8 rfl rfl sc_plain_groups (by decide) (fun _ _ _ _ _ _ us hl => match us, hl with | [_], _ => rfl) fun f cdv A outer s H E hr => by
    have tk := takes_of (X := cxOf (L2.CX P w) P w K mg base ["way", "groups", "start", "number", "store"] "plain_groups" (defScope s_plain_groups) f cdv A outer s H E) rfl rfl rfl rfl
    have po := passes_of (X := cxOf (L2.CX P w) P w K mg base ["way", "groups", "start", "number", "store"] "plain_groups" (defScope s_plain_groups) f cdv A outer s H E) rfl
    have hu := hr.units
    exact ss_cons (s_set sc_plain_groups.nd rfl (by first | exact .inl rfl | exact .inr rfl) (v_lst (l_nil))) (ss_cons (s_set sc_plain_groups.nd rfl (by first | exact .inl rfl | exact .inr rfl) (v_val (x_int))) (ss_cons (s_for po rfl (i_enum rfl (e.free 52) (l_cons (x_var 0 (pv 0)) (l_nil))) (g_seq rfl (gs_cons (g_name sc_plain_groups.nd rfl (by first | exact .inl rfl | exact .inr rfl)) (gs_cons (g_name sc_plain_groups.nd rfl (by first | exact .inl rfl | exact .inr rfl)) gs_nil))) (ss_one (s_if (PBw.b (w_or (b_cmp (o_eq hu) (x_ix o_ix (x_var 4 (pv 4)) (x_int)) (x_str) rfl) (w_or1 (b_cmp (o_eq hu) (x_var 3 (pv 3)) (x_bin o_sub (x_callB c_len rfl (e.free 50) bt_len (l_cons (x_var 0 (pv 0)) (l_nil))) (x_int)) rfl)))) (ss_cons (s_expr (v_mut PySem.F.plainAttrs_list PySem.F.slot_list_append PySem.F.type_list_append m_append (pv 1) (l_cons (x_tupRg2 rfl rfl (e.free 48) rfl (e.free 49) (x_var 2 (pv 2)) (x_bin o_add (x_var 3 (pv 3)) (x_int))) (l_nil)))) (ss_one (s_set sc_plain_groups.nd rfl (by first | exact .inl rfl | exact .inr rfl) (v_val (x_bin o_add (x_var 3 (pv 3)) (x_int)))))) (ss_nil)))) (ss_one (s_ret (v_val (x_callT c_tuple rfl (e.free 48) bt_tuple (l_cons (x_var 1 (pv 1)) (l_nil))))))))
theorem w_plain_caps (e : Env1 tp K mg) (h_plain_groups : DefOk P w K mg base 1 "plain_groups" 1 c_plain_groups) : DefOk P w K mg base 2 "plain_caps" 1 c_plain_caps :=
  def_of (st := s_plain_caps) (N := ["way", "sums", "group", "total", "number", "cap"]) (ps := ["way"]) e 9 9 rfl rfl sc_plain_caps (by decide) (fun _ _ _ _ _ _ us hl => match us, hl with | [_], _ => rfl) fun f cdv A outer s H E hr => by
    have tk := takes_of (X := cxOf (L2.CX P w) P w K mg base ["way", "sums", "group", "total", "number", "cap"] "plain_caps" (defScope s_plain_caps) f cdv A outer s H E) rfl rfl rfl rfl
    have po := passes_of (X := cxOf (L2.CX P w) P w K mg base ["way", "sums", "group", "total", "number", "cap"] "plain_caps" (defScope s_plain_caps) f cdv A outer s H E) rfl
    have hu := hr.units
    exact ss_cons (s_set sc_plain_caps.nd rfl (by first | exact .inl rfl | exact .inr rfl) (v_lst (l_nil))) (ss_cons (s_for po rfl (i_seq (x_hold (v_callD (h_plain_groups : DefOk P w K mg base _ _ _ _) (hr.mono (show 1 ≤ 1 by decide)) rfl tk (a_val (x_var 0 (pv 0)) (a_nil)) (alen_val alen_nil)))) (g_name sc_plain_caps.nd rfl (by first | exact .inl rfl | exact .inr rfl)) (ss_cons (s_set sc_plain_caps.nd rfl (by first | exact .inl rfl | exact .inr rfl) (v_val (x_int))) (ss_cons (s_for po rfl (i_seq (x_var 2 (pv 2))) (g_name sc_plain_caps.nd rfl (by first | exact .inl rfl | exact .inr rfl)) (ss_cons (s_set sc_plain_caps.nd rfl (by first | exact .inl rfl | exact .inr rfl) (v_val (x_ix o_ix (x_ix o_ix (x_var 0 (pv 0)) (x_var 4 (pv 4))) (x_int)))) (ss_one (s_if (b_cmp o_isnot (x_var 3 (pv 3)) (x_non) rfl) (ss_one (s_set sc_plain_caps.nd rfl (by first | exact .inl rfl | exact .inr rfl) (v_val (x_if (b_cmp o_is (x_var 5 (pv 5)) (x_non) rfl) (x_non) (x_bin o_add (x_var 3 (pv 3)) (x_var 5 (pv 5))))))) (ss_nil))))) (ss_one (s_expr (v_mut PySem.F.plainAttrs_list PySem.F.slot_list_append PySem.F.type_list_append m_append (pv 1) (l_cons (x_var 3 (pv 3)) (l_nil)))))))) (ss_one (s_ret (v_val (x_callT c_tuple rfl (e.free 48) bt_tuple (l_cons (x_var 1 (pv 1)) (l_nil)))))))
theorem w_plain_base (e : Env1 tp K mg) : DefOk P w K mg base 1 "plain_base" 1 c_plain_base :=
  def_of (st := s_plain_base) (N := ["way", "total", "store"]) (ps := ["way"]) e 10 10 rfl rfl sc_plain_base (by decide) (fun _ _ _ _ _ _ us hl => match us, hl with | [_], _ => rfl) fun f cdv A outer s H E hr => by
    have tk := takes_of (X := cxOf (L2.CX P w) P w K mg base ["way", "total", "store"] "plain_base" (defScope s_plain_base) f cdv A outer s H E) rfl rfl rfl rfl
    have po := passes_of (X := cxOf (L2.CX P w) P w K mg base ["way", "total", "store"] "plain_base" (defScope s_plain_base) f cdv A outer s H E) rfl
    have hu := hr.units
    exact ss_cons (s_set sc_plain_base.nd rfl (by first | exact .inl rfl | exact .inr rfl) (v_val (x_int))) (ss_cons (s_for po rfl (i_seq (x_var 0 (pv 0))) (g_name sc_plain_base.nd rfl (by first | exact .inl rfl | exact .inr rfl)) (ss_one (s_set sc_plain_base.nd rfl (by first | exact .inl rfl | exact .inr rfl) (v_val (x_bin o_add (x_bin o_add (x_var 1 (pv 1)) (x_ix o_ix (x_var 2 (pv 2)) (x_int))) (x_ix o_ix (x_var 2 (pv 2)) (x_int))))))) (ss_one (s_ret (v_move 1 (pv 1)))))
theorem w_life_shares (e : Env1 tp K mg) (h_plain_caps : DefOk P w K mg base 2 "plain_caps" 1 c_plain_caps) : DefOk P w K mg base 3 "life_shares" 2 c_life_shares :=
  def_of (st := s_life_shares) (N := ["way", "life", "shares", "cap"]) (ps := ["way", "life"]) e 11 11 rfl rfl sc_life_shares (by decide) (fun _ _ _ _ _ _ us hl => match us, hl with | [_, _], _ => rfl) fun f cdv A outer s H E hr => by
    have tk := takes_of (X := cxOf (L2.CX P w) P w K mg base ["way", "life", "shares", "cap"] "life_shares" (defScope s_life_shares) f cdv A outer s H E) rfl rfl rfl rfl
    have po := passes_of (X := cxOf (L2.CX P w) P w K mg base ["way", "life", "shares", "cap"] "life_shares" (defScope s_life_shares) f cdv A outer s H E) rfl
    have hu := hr.units
    exact ss_cons (s_set sc_life_shares.nd rfl (by first | exact .inl rfl | exact .inr rfl) (v_lst (l_nil))) (ss_cons (s_for po rfl (i_seq (x_hold (v_callD (h_plain_caps : DefOk P w K mg base _ _ _ _) (hr.mono (show 2 ≤ 2 by decide)) rfl tk (a_val (x_var 0 (pv 0)) (a_nil)) (alen_val alen_nil)))) (g_name sc_life_shares.nd rfl (by first | exact .inl rfl | exact .inr rfl)) (ss_one (s_expr (v_mut PySem.F.plainAttrs_list PySem.F.slot_list_append PySem.F.type_list_append m_append (pv 2) (l_cons (x_if (b_cmp o_is (x_var 3 (pv 3)) (x_non) rfl) (x_var 1 (pv 1)) (x_callB (c_min rfl) rfl (e.free 53) bt_min (l_cons (x_var 1 (pv 1)) (l_cons (x_var 3 (pv 3)) (l_nil))))) (l_nil)))))) (ss_one (s_ret (v_val (x_callT c_tuple rfl (e.free 48) bt_tuple (l_cons (x_var 2 (pv 2)) (l_nil)))))))
theorem w_plain_delay (e : Env1 tp K mg) (h_plain_base : DefOk P w K mg base 1 "plain_base" 1 c_plain_base) (h_life_shares : DefOk P w K mg base 3 "life_shares" 2 c_life_shares) : DefOk P w K mg base 4 "plain_delay" 2 c_plain_delay :=
  def_of (st := s_plain_delay) (N := ["way", "life", "total", "share"]) (ps := ["way", "life"]) e 12 12 rfl rfl sc_plain_delay (by decide) (fun _ _ _ _ _ _ us hl => match us, hl with | [_, _], _ => rfl) fun f cdv A outer s H E hr => by
    have tk := takes_of (X := cxOf (L2.CX P w) P w K mg base ["way", "life", "total", "share"] "plain_delay" (defScope s_plain_delay) f cdv A outer s H E) rfl rfl rfl rfl
    have po := passes_of (X := cxOf (L2.CX P w) P w K mg base ["way", "life", "total", "share"] "plain_delay" (defScope s_plain_delay) f cdv A outer s H E) rfl
    have hu := hr.units
    exact ss_cons (s_set sc_plain_delay.nd rfl (by first | exact .inl rfl | exact .inr rfl) (v_callD (h_plain_base : DefOk P w K mg base _ _ _ _) (hr.mono (show 1 ≤ 3 by decide)) rfl tk (a_val (x_var 0 (pv 0)) (a_nil)) (alen_val alen_nil))) (ss_cons (s_for po rfl (i_seq (x_hold (v_callD (h_life_shares : DefOk P w K mg base _ _ _ _) (hr.mono (show 3 ≤ 3 by decide)) rfl tk (a_val (x_var 0 (pv 0)) (a_val (x_var 1 (pv 1)) (a_nil))) (alen_val (alen_val alen_nil))))) (g_name sc_plain_delay.nd rfl (by first | exact .inl rfl | exact .inr rfl)) (ss_one (s_set sc_plain_delay.nd rfl (by first | exact .inl rfl | exact .inr rfl) (v_val (x_bin o_add (x_var 2 (pv 2)) (x_var 3 (pv 3))))))) (ss_one (s_ret (v_move 2 (pv 2)))))
theorem w_has_copy_form (e : Env1 tp K mg) (h_is_int : DefOk P w K mg base 1 "is_int" 1 c_is_int) : DefOk P w K mg base 2 "has_copy_form" 1 c_has_copy_form :=
  def_of (st := s_has_copy_form) (N := ["copy", "served", "moments", "moment", "part"]) (ps := ["copy"]) e 13 13 rfl rfl sc_has_copy_form (by decide) (fun _ _ _ _ _ _ us hl => match us, hl with | [_], _ => rfl) fun f cdv A outer s H E hr => by
    have tk := takes_of (X := cxOf (L2.CX P w) P w K mg base ["copy", "served", "moments", "moment", "part"] "has_copy_form" (defScope s_has_copy_form) f cdv A outer s H E) rfl rfl rfl rfl
    have po := passes_of (X := cxOf (L2.CX P w) P w K mg base ["copy", "served", "moments", "moment", "part"] "has_copy_form" (defScope s_has_copy_form) f cdv A outer s H E) rfl
    have hu := hr.units
    exact ss_cons (s_if (PBw.b (w_or (b_not (b_tru (x_callB (c_isi e.tbl) rfl (e.free 44) bt_isinstance (l_cons (x_var 0 (pv 0)) (l_cons (x_ty .tup rfl (e.free 48) bt_tuple) (l_nil)))))) (w_or1 (b_cmp (o_ne hu) (x_callB c_len rfl (e.free 50) bt_len (l_cons (x_var 0 (pv 0)) (l_nil))) (x_int) rfl)))) (ss_one (s_ret (v_val (x_bl)))) (ss_nil)) (ss_cons (s_asg (x_var 0 (pv 0)) (g_seq rfl (gs_cons (g_name sc_has_copy_form.nd rfl (by first | exact .inl rfl | exact .inr rfl)) (gs_cons (g_name sc_has_copy_form.nd rfl (by first | exact .inl rfl | exact .inr rfl)) gs_nil)))) (ss_cons (s_if (PBw.b (w_or (b_not (b_tru (x_hold (v_callD (h_is_int : DefOk P w K mg base _ _ _ _) (hr.mono (show 1 ≤ 1 by decide)) rfl tk (a_val (x_var 1 (pv 1)) (a_nil)) (alen_val alen_nil))))) (w_or1 (b_not (b_tru (x_callB (c_isi e.tbl) rfl (e.free 44) bt_isinstance (l_cons (x_var 2 (pv 2)) (l_cons (x_ty .tup rfl (e.free 48) bt_tuple) (l_nil))))))))) (ss_one (s_ret (v_val (x_bl)))) (ss_nil)) (ss_cons (s_for po rfl (i_seq (x_var 2 (pv 2))) (g_name sc_has_copy_form.nd rfl (by first | exact .inl rfl | exact .inr rfl)) (ss_cons (s_if (PBw.b (w_or (b_not (b_tru (x_callB (c_isi e.tbl) rfl (e.free 44) bt_isinstance (l_cons (x_var 3 (pv 3)) (l_cons (x_ty .tup rfl (e.free 48) bt_tuple) (l_nil)))))) (w_or1 (b_cmp (o_ne hu) (x_callB c_len rfl (e.free 50) bt_len (l_cons (x_var 3 (pv 3)) (l_nil))) (x_int) rfl)))) (ss_one (s_ret (v_val (x_bl)))) (ss_nil)) (ss_one (s_for po rfl (i_seq (x_var 3 (pv 3))) (g_name sc_has_copy_form.nd rfl (by first | exact .inl rfl | exact .inr rfl)) (ss_one (s_if (b_not (b_tru (x_hold (v_callD (h_is_int : DefOk P w K mg base _ _ _ _) (hr.mono (show 1 ≤ 1 by decide)) rfl tk (a_val (x_var 4 (pv 4)) (a_nil)) (alen_val alen_nil))))) (ss_one (s_ret (v_val (x_bl)))) (ss_nil))))))) (ss_one (s_ret (v_val (x_bl)))))))
theorem w_is_lawful_moment (e : Env1 tp K mg) : DefOk P w K mg base 1 "is_lawful_moment" 3 c_is_lawful_moment :=
  def_of (st := s_is_lawful_moment) (N := ["store", "left", "moment", "slow", "cap", "err", "kind", "late", "stay", "told"]) (ps := ["store", "left", "moment"]) e 14 14 rfl rfl sc_is_lawful_moment (by decide) (fun _ _ _ _ _ _ us hl => match us, hl with | [_, _, _], _ => rfl) fun f cdv A outer s H E hr => by
    have tk := takes_of (X := cxOf (L2.CX P w) P w K mg base ["store", "left", "moment", "slow", "cap", "err", "kind", "late", "stay", "told"] "is_lawful_moment" (defScope s_is_lawful_moment) f cdv A outer s H E) rfl rfl rfl rfl
    have po := passes_of (X := cxOf (L2.CX P w) P w K mg base ["store", "left", "moment", "slow", "cap", "err", "kind", "late", "stay", "told"] "is_lawful_moment" (defScope s_is_lawful_moment) f cdv A outer s H E) rfl
    have hu := hr.units
    exact ss_cons (s_asg (x_var 0 (pv 0)) (g_seq rfl (gs_cons (g_name sc_is_lawful_moment.nd rfl (by first | exact .inl rfl | exact .inr rfl)) (gs_cons (g_name sc_is_lawful_moment.nd rfl (by first | exact .inl rfl | exact .inr rfl)) (gs_cons (g_name sc_is_lawful_moment.nd rfl (by first | exact .inl rfl | exact .inr rfl)) (gs_cons (g_name sc_is_lawful_moment.nd rfl (by first | exact .inl rfl | exact .inr rfl)) gs_nil)))))) (ss_cons (s_asg (x_var 2 (pv 2)) (g_seq rfl (gs_cons (g_name sc_is_lawful_moment.nd rfl (by first | exact .inl rfl | exact .inr rfl)) (gs_cons (g_name sc_is_lawful_moment.nd rfl (by first | exact .inl rfl | exact .inr rfl)) (gs_cons (g_name sc_is_lawful_moment.nd rfl (by first | exact .inl rfl | exact .inr rfl)) gs_nil))))) (ss_cons (s_if (PBw.b (w_or (b_cmp o_lt (x_var 7 (pv 7)) (x_int) rfl) (w_or (b_cmp o_gt (x_var 7 (pv 7)) (x_var 3 (pv 3)) rfl) (w_or1 (b_cmp o_lt (x_var 8 (pv 8)) (x_int) rfl))))) (ss_one (s_ret (v_val (x_bl)))) (ss_nil)) (ss_cons (s_if (PBw.b (w_or (b_cmp o_lt (x_var 9 (pv 9)) (x_int) rfl) (w_or (b_cmp o_lt (x_var 9 (pv 9)) (x_bin o_sub (x_var 8 (pv 8)) (x_var 5 (pv 5))) rfl) (w_or1 (b_cmp o_gt (x_var 9 (pv 9)) (x_var 8 (pv 8)) rfl))))) (ss_one (s_ret (v_val (x_bl)))) (ss_nil)) (ss_one (s_ret (v_val (x_and (x_cmp o_le (x_var 9 (pv 9)) (x_var 1 (pv 1)) rfl) (x_one (x_or (x_cmp o_is (x_var 4 (pv 4)) (x_non) rfl) (x_one (x_cmp o_le (x_var 9 (pv 9)) (x_var 4 (pv 4)) rfl)))))))))))
theorem w_lives_told (e : Env1 tp K mg) : DefOk P w K mg base 1 "lives_told" 3 c_lives_told :=
  def_of (st := s_lives_told) (N := ["way", "life", "moments", "left", "lives", "store", "moment"]) (ps := ["way", "life", "moments"]) e 15 15 rfl rfl sc_lives_told (by decide) (fun _ _ _ _ _ _ us hl => match us, hl with | [_, _, _], _ => rfl) fun f cdv A outer s H E hr => by
    have tk := takes_of (X := cxOf (L2.CX P w) P w K mg base ["way", "life", "moments", "left", "lives", "store", "moment"] "lives_told" (defScope s_lives_told) f cdv A outer s H E) rfl rfl rfl rfl
    have po := passes_of (X := cxOf (L2.CX P w) P w K mg base ["way", "life", "moments", "left", "lives", "store", "moment"] "lives_told" (defScope s_lives_told) f cdv A outer s H E) rfl
    have hu := hr.units
    exact ss_cons (s_set sc_lives_told.nd rfl (by first | exact .inl rfl | exact .inr rfl) (v_val (x_var 1 (pv 1)))) (ss_cons (s_set sc_lives_told.nd rfl (by first | exact .inl rfl | exact .inr rfl) (v_lst (l_nil))) (ss_cons (s_for po rfl (i_zip rfl (e.free 54) (l_cons (x_var 0 (pv 0)) (l_cons (x_var 2 (pv 2)) (l_nil)))) (g_seq rfl (gs_cons (g_name sc_lives_told.nd rfl (by first | exact .inl rfl | exact .inr rfl)) (gs_cons (g_name sc_lives_told.nd rfl (by first | exact .inl rfl | exact .inr rfl)) gs_nil))) (ss_cons (s_expr (v_mut PySem.F.plainAttrs_list PySem.F.slot_list_append PySem.F.type_list_append m_append (pv 4) (l_cons (x_var 3 (pv 3)) (l_nil)))) (ss_one (s_set sc_lives_told.nd rfl (by first | exact .inl rfl | exact .inr rfl) (v_val (x_if (b_cmp (o_eq hu) (x_ix o_ix (x_var 5 (pv 5)) (x_int)) (x_str) rfl) (x_var 1 (pv 1)) (x_bin o_sub (x_var 3 (pv 3)) (x_ix o_ix (x_var 6 (pv 6)) (x_int))))))))) (ss_one (s_ret (v_val (x_callT c_tuple rfl (e.free 48) bt_tuple (l_cons (x_var 4 (pv 4)) (l_nil))))))))
theorem w_is_plain_copy (e : Env1 tp K mg) (h_has_copy_form : DefOk P w K mg base 2 "has_copy_form" 1 c_has_copy_form) (h_is_lawful_moment : DefOk P w K mg base 1 "is_lawful_moment" 3 c_is_lawful_moment) (h_lives_told : DefOk P w K mg base 1 "lives_told" 3 c_lives_told) : DefOk P w K mg base 3 "is_plain_copy" 3 c_is_plain_copy :=
  def_of (st := s_is_plain_copy) (N := ["way", "life", "copy", "lives", "number", "store"]) (ps := ["way", "life", "copy"]) e 16 16 rfl rfl sc_is_plain_copy (by decide) (fun _ _ _ _ _ _ us hl => match us, hl with | [_, _, _], _ => rfl) fun f cdv A outer s H E hr => by
    have tk := takes_of (X := cxOf (L2.CX P w) P w K mg base ["way", "life", "copy", "lives", "number", "store"] "is_plain_copy" (defScope s_is_plain_copy) f cdv A outer s H E) rfl rfl rfl rfl
    have po := passes_of (X := cxOf (L2.CX P w) P w K mg base ["way", "life", "copy", "lives", "number", "store"] "is_plain_copy" (defScope s_is_plain_copy) f cdv A outer s H E) rfl
    have hu := hr.units
    exact ss_cons (s_if (PBw.b (w_or (b_not (b_tru (x_hold (v_callD (h_has_copy_form : DefOk P w K mg base _ _ _ _) (hr.mono (show 2 ≤ 2 by decide)) rfl tk (a_val (x_var 2 (pv 2)) (a_nil)) (alen_val alen_nil))))) (w_or1 (b_cmp (o_ne hu) (x_callB c_len rfl (e.free 50) bt_len (l_cons (x_ix o_ix (x_var 2 (pv 2)) (x_int)) (l_nil))) (x_callB c_len rfl (e.free 50) bt_len (l_cons (x_var 0 (pv 0)) (l_nil))) rfl)))) (ss_one (s_ret (v_val (x_bl)))) (ss_nil)) (ss_cons (s_set sc_is_plain_copy.nd rfl (by first | exact .inl rfl | exact .inr rfl) (v_callD (h_lives_told : DefOk P w K mg base _ _ _ _) (hr.mono (show 1 ≤ 2 by decide)) rfl tk (a_val (x_var 0 (pv 0)) (a_val (x_var 1 (pv 1)) (a_val (x_ix o_ix (x_var 2 (pv 2)) (x_int)) (a_nil)))) (alen_val (alen_val (alen_val alen_nil))))) (ss_cons (s_for po rfl (i_enum rfl (e.free 52) (l_cons (x_var 0 (pv 0)) (l_nil))) (g_seq rfl (gs_cons (g_name sc_is_plain_copy.nd rfl (by first | exact .inl rfl | exact .inr rfl)) (gs_cons (g_name sc_is_plain_copy.nd rfl (by first | exact .inl rfl | exact .inr rfl)) gs_nil))) (ss_one (s_if (b_not (b_tru (x_hold (v_callD (h_is_lawful_moment : DefOk P w K mg base _ _ _ _) (hr.mono (show 1 ≤ 2 by decide)) rfl tk (a_val (x_var 5 (pv 5)) (a_val (x_ix o_ix (x_var 3 (pv 3)) (x_var 4 (pv 4))) (a_val (x_ix o_ix (x_ix o_ix (x_var 2 (pv 2)) (x_int)) (x_var 4 (pv 4))) (a_nil)))) (alen_val (alen_val (alen_val alen_nil))))))) (ss_one (s_ret (v_val (x_bl)))) (ss_nil)))) (ss_one (s_ret (v_val (x_bl))))))
theorem w_is_copy (e : Env1 tp K mg) (h_plain_form : DefOk P w K mg base 1 "plain_form" 1 c_plain_form) (h_check_number : DefOk P w K mg base 3 "check_number" 2 c_check_number) (h_check_way : DefOk P w K mg base 4 "check_way" 1 c_check_way) (h_is_plain_copy : DefOk P w K mg base 3 "is_plain_copy" 3 c_is_plain_copy) : DefOk P w K mg base 5 "is_copy" 3 c_is_copy :=
  def_of (st := s_is_copy) (N := ["way", "life", "copy", "plain"]) (ps := ["way", "life", "copy"]) e 17 17 rfl rfl sc_is_copy (by decide) (fun _ _ _ _ _ _ us hl => match us, hl with | [_, _, _], _ => rfl) fun f cdv A outer s H E hr => by
    have tk := takes_of (X := cxOf (L2.CX P w) P w K mg base ["way", "life", "copy", "plain"] "is_copy" (defScope s_is_copy) f cdv A outer s H E) rfl rfl rfl rfl
    have po := passes_of (X := cxOf (L2.CX P w) P w K mg base ["way", "life", "copy", "plain"] "is_copy" (defScope s_is_copy) f cdv A outer s H E) rfl
    have hu := hr.units
    exact ss_cons (s_set sc_is_copy.nd rfl (by first | exact .inl rfl | exact .inr rfl) (v_callD (h_check_way : DefOk P w K mg base _ _ _ _) (hr.mono (show 4 ≤ 4 by decide)) rfl tk (a_val (x_var 0 (pv 0)) (a_nil)) (alen_val alen_nil))) (ss_cons (s_expr (v_callD (h_check_number : DefOk P w K mg base _ _ _ _) (hr.mono (show 3 ≤ 4 by decide)) rfl tk (a_val (x_var 1 (pv 1)) (a_val (x_int) (a_nil))) (alen_val (alen_val alen_nil)))) (ss_one (s_ret (v_callD (h_is_plain_copy : DefOk P w K mg base _ _ _ _) (hr.mono (show 3 ≤ 4 by decide)) rfl tk (a_val (x_var 3 (pv 3)) (a_val (x_var 1 (pv 1)) (a_val (x_hold (v_callD (h_plain_form : DefOk P w K mg base _ _ _ _) (hr.mono (show 1 ≤ 4 by decide)) rfl tk (a_val (x_var 2 (pv 2)) (a_nil)) (alen_val alen_nil))) (a_nil)))) (alen_val (alen_val (alen_val alen_nil)))))))
theorem w_lives_along (e : Env1 tp K mg) (h_plain_form : DefOk P w K mg base 1 "plain_form" 1 c_plain_form) (h_check_number : DefOk P w K mg base 3 "check_number" 2 c_check_number) (h_check_way : DefOk P w K mg base 4 "check_way" 1 c_check_way) (h_lives_told : DefOk P w K mg base 1 "lives_told" 3 c_lives_told) (h_is_plain_copy : DefOk P w K mg base 3 "is_plain_copy" 3 c_is_plain_copy) (i_BadCase : InitOk P w K mg base "BadCase" "at") : DefOk P w K mg base 5 "lives_along" 3 c_lives_along :=
  def_of (st := s_lives_along) (N := ["way", "life", "copy", "plain", "course"]) (ps := ["way", "life", "copy"]) e 18 18 rfl rfl sc_lives_along (by decide) (fun _ _ _ _ _ _ us hl => match us, hl with | [_, _, _], _ => rfl) fun f cdv A outer s H E hr => by
    have tk := takes_of (X := cxOf (L2.CX P w) P w K mg base ["way", "life", "copy", "plain", "course"] "lives_along" (defScope s_lives_along) f cdv A outer s H E) rfl rfl rfl rfl
    have po := passes_of (X := cxOf (L2.CX P w) P w K mg base ["way", "life", "copy", "plain", "course"] "lives_along" (defScope s_lives_along) f cdv A outer s H E) rfl
    have hu := hr.units
    exact ss_cons (s_set sc_lives_along.nd rfl (by first | exact .inl rfl | exact .inr rfl) (v_callD (h_check_way : DefOk P w K mg base _ _ _ _) (hr.mono (show 4 ≤ 4 by decide)) rfl tk (a_val (x_var 0 (pv 0)) (a_nil)) (alen_val alen_nil))) (ss_cons (s_expr (v_callD (h_check_number : DefOk P w K mg base _ _ _ _) (hr.mono (show 3 ≤ 4 by decide)) rfl tk (a_val (x_var 1 (pv 1)) (a_val (x_int) (a_nil))) (alen_val (alen_val alen_nil)))) (ss_cons (s_set sc_lives_along.nd rfl (by first | exact .inl rfl | exact .inr rfl) (v_callD (h_plain_form : DefOk P w K mg base _ _ _ _) (hr.mono (show 1 ≤ 4 by decide)) rfl tk (a_val (x_var 2 (pv 2)) (a_nil)) (alen_val alen_nil))) (ss_cons (s_if (b_not (b_tru (x_hold (v_callD (h_is_plain_copy : DefOk P w K mg base _ _ _ _) (hr.mono (show 3 ≤ 4 by decide)) rfl tk (a_val (x_var 3 (pv 3)) (a_val (x_var 1 (pv 1)) (a_val (x_var 4 (pv 4)) (a_nil)))) (alen_val (alen_val (alen_val alen_nil))))))) (ss_one (s_raiseD (i_BadCase : InitOk P w K mg base _ _) rfl tk (hr.mono (show 2 ≤ 4 by decide)) rfl (x_tup (l_nil)))) (ss_nil)) (ss_one (s_ret (v_callD (h_lives_told : DefOk P w K mg base _ _ _ _) (hr.mono (show 1 ≤ 4 by decide)) rfl tk (a_val (x_var 3 (pv 3)) (a_val (x_var 1 (pv 1)) (a_val (x_ix o_ix (x_var 4 (pv 4)) (x_int)) (a_nil)))) (alen_val (alen_val (alen_val alen_nil)))))))))
theorem w_copy_hours (e : Env1 tp K mg) (h_plain_form : DefOk P w K mg base 1 "plain_form" 1 c_plain_form) (h_has_copy_form : DefOk P w K mg base 2 "has_copy_form" 1 c_has_copy_form) (i_BadCase : InitOk P w K mg base "BadCase" "at") : DefOk P w K mg base 3 "copy_hours" 1 c_copy_hours :=
  def_of (st := s_copy_hours) (N := ["copy", "course", "total", "moment"]) (ps := ["copy"]) e 19 19 rfl rfl sc_copy_hours (by decide) (fun _ _ _ _ _ _ us hl => match us, hl with | [_], _ => rfl) fun f cdv A outer s H E hr => by
    have tk := takes_of (X := cxOf (L2.CX P w) P w K mg base ["copy", "course", "total", "moment"] "copy_hours" (defScope s_copy_hours) f cdv A outer s H E) rfl rfl rfl rfl
    have po := passes_of (X := cxOf (L2.CX P w) P w K mg base ["copy", "course", "total", "moment"] "copy_hours" (defScope s_copy_hours) f cdv A outer s H E) rfl
    have hu := hr.units
    exact ss_cons (s_set sc_copy_hours.nd rfl (by first | exact .inl rfl | exact .inr rfl) (v_callD (h_plain_form : DefOk P w K mg base _ _ _ _) (hr.mono (show 1 ≤ 2 by decide)) rfl tk (a_val (x_var 0 (pv 0)) (a_nil)) (alen_val alen_nil))) (ss_cons (s_if (b_not (b_tru (x_hold (v_callD (h_has_copy_form : DefOk P w K mg base _ _ _ _) (hr.mono (show 2 ≤ 2 by decide)) rfl tk (a_val (x_var 1 (pv 1)) (a_nil)) (alen_val alen_nil))))) (ss_one (s_raiseD (i_BadCase : InitOk P w K mg base _ _) rfl tk (hr.mono (show 2 ≤ 2 by decide)) rfl (x_tup (l_nil)))) (ss_nil)) (ss_cons (s_set sc_copy_hours.nd rfl (by first | exact .inl rfl | exact .inr rfl) (v_val (x_int))) (ss_cons (s_for po rfl (i_seq (x_ix o_ix (x_var 1 (pv 1)) (x_int))) (g_name sc_copy_hours.nd rfl (by first | exact .inl rfl | exact .inr rfl)) (ss_one (s_set sc_copy_hours.nd rfl (by first | exact .inl rfl | exact .inr rfl) (v_val (x_bin o_add (x_bin o_add (x_var 2 (pv 2)) (x_ix o_ix (x_var 3 (pv 3)) (x_int))) (x_ix o_ix (x_var 3 (pv 3)) (x_int))))))) (ss_one (s_ret (v_move 2 (pv 2)))))))
theorem w_copy_of (e : Env1 tp K mg) (h_check_number : DefOk P w K mg base 3 "check_number" 2 c_check_number) (h_check_hour : DefOk P w K mg base 3 "check_hour" 1 c_check_hour) (h_check_way : DefOk P w K mg base 4 "check_way" 1 c_check_way) (h_plain_delay : DefOk P w K mg base 4 "plain_delay" 2 c_plain_delay) : DefOk P w K mg base 5 "copy_of" 4 c_copy_of :=
  def_of (st := s_copy_of) (N := ["way", "life", "served", "hours", "plain", "rest", "left", "moments", "slow", "cap", "err", "kind", "late", "bound", "stay", "told"]) (ps := ["way", "life", "served", "hours"]) e 20 20 rfl rfl sc_copy_of (by decide) (fun _ _ _ _ _ _ us hl => match us, hl with | [_, _, _, _], _ => rfl) fun f cdv A outer s H E hr => by
    have tk := takes_of (X := cxOf (L2.CX P w) P w K mg base ["way", "life", "served", "hours", "plain", "rest", "left", "moments", "slow", "cap", "err", "kind", "late", "bound", "stay", "told"] "copy_of" (defScope s_copy_of) f cdv A outer s H E) rfl rfl rfl rfl
    have po := passes_of (X := cxOf (L2.CX P w) P w K mg base ["way", "life", "served", "hours", "plain", "rest", "left", "moments", "slow", "cap", "err", "kind", "late", "bound", "stay", "told"] "copy_of" (defScope s_copy_of) f cdv A outer s H E) rfl
    have hu := hr.units
    exact ss_cons (s_set sc_copy_of.nd rfl (by first | exact .inl rfl | exact .inr rfl) (v_callD (h_check_way : DefOk P w K mg base _ _ _ _) (hr.mono (show 4 ≤ 4 by decide)) rfl tk (a_val (x_var 0 (pv 0)) (a_nil)) (alen_val alen_nil))) (ss_cons (s_expr (v_callD (h_check_number : DefOk P w K mg base _ _ _ _) (hr.mono (show 3 ≤ 4 by decide)) rfl tk (a_val (x_var 1 (pv 1)) (a_val (x_int) (a_nil))) (alen_val (alen_val alen_nil)))) (ss_cons (s_expr (v_callD (h_check_hour : DefOk P w K mg base _ _ _ _) (hr.mono (show 3 ≤ 4 by decide)) rfl tk (a_val (x_var 2 (pv 2)) (a_nil)) (alen_val alen_nil))) (ss_cons (s_expr (v_callD (h_check_number : DefOk P w K mg base _ _ _ _) (hr.mono (show 3 ≤ 4 by decide)) rfl tk (a_val (x_var 3 (pv 3)) (a_val (x_int) (a_nil))) (alen_val (alen_val alen_nil)))) (ss_cons (s_if (b_cmp o_gt (x_var 3 (pv 3)) (x_hold (v_callD (h_plain_delay : DefOk P w K mg base _ _ _ _) (hr.mono (show 4 ≤ 4 by decide)) rfl tk (a_val (x_var 4 (pv 4)) (a_val (x_var 1 (pv 1)) (a_nil))) (alen_val (alen_val alen_nil)))) rfl) (ss_one (s_ret (v_val (x_non)))) (ss_nil)) (ss_cons (s_set sc_copy_of.nd rfl (by first | exact .inl rfl | exact .inr rfl) (v_val (x_var 3 (pv 3)))) (ss_cons (s_set sc_copy_of.nd rfl (by first | exact .inl rfl | exact .inr rfl) (v_val (x_var 1 (pv 1)))) (ss_cons (s_set sc_copy_of.nd rfl (by first | exact .inl rfl | exact .inr rfl) (v_lst (l_nil))) (ss_cons (s_for po rfl (i_seq (x_var 4 (pv 4))) (g_seq rfl (gs_cons (g_name sc_copy_of.nd rfl (by first | exact .inl rfl | exact .inr rfl)) (gs_cons (g_name sc_copy_of.nd rfl (by first | exact .inl rfl | exact .inr rfl)) (gs_cons (g_name sc_copy_of.nd rfl (by first | exact .inl rfl | exact .inr rfl)) (gs_cons (g_name sc_copy_of.nd rfl (by first | exact .inl rfl | exact .inr rfl)) gs_nil))))) (ss_cons (s_set sc_copy_of.nd rfl (by first | exact .inl rfl | exact .inr rfl) (v_val (x_callB (c_min rfl) rfl (e.free 53) bt_min (l_cons (x_var 5 (pv 5)) (l_cons (x_var 8 (pv 8)) (l_nil)))))) (ss_cons (s_set sc_copy_of.nd rfl (by first | exact .inl rfl | exact .inr rfl) (v_val (x_if (b_cmp o_is (x_var 9 (pv 9)) (x_non) rfl) (x_var 6 (pv 6)) (x_callB (c_min rfl) rfl (e.free 53) bt_min (l_cons (x_var 6 (pv 6)) (l_cons (x_var 9 (pv 9)) (l_nil))))))) (ss_cons (s_set sc_copy_of.nd rfl (by first | exact .inl rfl | exact .inr rfl) (v_val (x_callB (c_min rfl) rfl (e.free 53) bt_min (l_cons (x_bin o_sub (x_var 5 (pv 5)) (x_var 12 (pv 12))) (l_cons (x_bin o_add (x_var 13 (pv 13)) (x_var 10 (pv 10))) (l_nil)))))) (ss_cons (s_set sc_copy_of.nd rfl (by first | exact .inl rfl | exact .inr rfl) (v_val (x_callB (c_min rfl) rfl (e.free 53) bt_min (l_cons (x_var 14 (pv 14)) (l_cons (x_var 13 (pv 13)) (l_nil)))))) (ss_cons (s_set sc_copy_of.nd rfl (by first | exact .inl rfl | exact .inr rfl) (v_val (x_bin o_sub (x_bin o_sub (x_var 5 (pv 5)) (x_var 12 (pv 12))) (x_var 14 (pv 14))))) (ss_cons (s_set sc_copy_of.nd rfl (by first | exact .inl rfl | exact .inr rfl) (v_val (x_if (b_cmp (o_eq hu) (x_var 11 (pv 11)) (x_str) rfl) (x_var 1 (pv 1)) (x_bin o_sub (x_var 6 (pv 6)) (x_var 15 (pv 15)))))) (ss_one (s_expr (v_mut PySem.F.plainAttrs_list PySem.F.slot_list_append PySem.F.type_list_append m_append (pv 7) (l_cons (x_tup (l_cons (x_var 12 (pv 12)) (l_cons (x_var 14 (pv 14)) (l_cons (x_var 15 (pv 15)) (l_nil))))) (l_nil)))))))))))) (ss_one (s_ret (v_val (x_tup (l_cons (x_var 2 (pv 2)) (l_cons (x_callT c_tuple rfl (e.free 48) bt_tuple (l_cons (x_var 7 (pv 7)) (l_nil))) (l_nil)))))))))))))))
theorem w_plain_too_late (e : Env1 tp K mg) (h_is_int : DefOk P w K mg base 1 "is_int" 1 c_is_int) (h_plain_base : DefOk P w K mg base 1 "plain_base" 1 c_plain_base) (h_life_shares : DefOk P w K mg base 3 "life_shares" 2 c_life_shares) : DefOk P w K mg base 4 "plain_too_late" 4 c_plain_too_late :=
  def_of (st := s_plain_too_late) (N := ["way", "life", "hours", "paper", "base", "sums", "total", "share"]) (ps := ["way", "life", "hours", "paper"]) e 21 21 rfl rfl sc_plain_too_late (by decide) (fun _ _ _ _ _ _ us hl => match us, hl with | [_, _, _, _], _ => rfl) fun f cdv A outer s H E hr => by
    have tk := takes_of (X := cxOf (L2.CX P w) P w K mg base ["way", "life", "hours", "paper", "base", "sums", "total", "share"] "plain_too_late" (defScope s_plain_too_late) f cdv A outer s H E) rfl rfl rfl rfl
    have po := passes_of (X := cxOf (L2.CX P w) P w K mg base ["way", "life", "hours", "paper", "base", "sums", "total", "share"] "plain_too_late" (defScope s_plain_too_late) f cdv A outer s H E) rfl
    have hu := hr.units
    exact ss_cons (s_if (PBw.b (w_or (b_not (b_tru (x_callB (c_isi e.tbl) rfl (e.free 44) bt_isinstance (l_cons (x_var 3 (pv 3)) (l_cons (x_ty .tup rfl (e.free 48) bt_tuple) (l_nil)))))) (w_or1 (b_cmp (o_ne hu) (x_callB c_len rfl (e.free 50) bt_len (l_cons (x_var 3 (pv 3)) (l_nil))) (x_int) rfl)))) (ss_one (s_ret (v_val (x_bl)))) (ss_nil)) (ss_cons (s_asg (x_var 3 (pv 3)) (g_seq rfl (gs_cons (g_name sc_plain_too_late.nd rfl (by first | exact .inl rfl | exact .inr rfl)) (gs_cons (g_name sc_plain_too_late.nd rfl (by first | exact .inl rfl | exact .inr rfl)) gs_nil)))) (ss_cons (s_if (PBw.b (w_or (b_not (b_tru (x_hold (v_callD (h_is_int : DefOk P w K mg base _ _ _ _) (hr.mono (show 1 ≤ 3 by decide)) rfl tk (a_val (x_var 4 (pv 4)) (a_nil)) (alen_val alen_nil))))) (w_or1 (b_not (b_tru (x_callB (c_isi e.tbl) rfl (e.free 44) bt_isinstance (l_cons (x_var 5 (pv 5)) (l_cons (x_ty .tup rfl (e.free 48) bt_tuple) (l_nil))))))))) (ss_one (s_ret (v_val (x_bl)))) (ss_nil)) (ss_cons (s_set sc_plain_too_late.nd rfl (by first | exact .inl rfl | exact .inr rfl) (v_val (x_var 4 (pv 4)))) (ss_cons (s_for po rfl (i_seq (x_var 5 (pv 5))) (g_name sc_plain_too_late.nd rfl (by first | exact .inl rfl | exact .inr rfl)) (ss_cons (s_if (b_not (b_tru (x_hold (v_callD (h_is_int : DefOk P w K mg base _ _ _ _) (hr.mono (show 1 ≤ 3 by decide)) rfl tk (a_val (x_var 7 (pv 7)) (a_nil)) (alen_val alen_nil))))) (ss_one (s_ret (v_val (x_bl)))) (ss_nil)) (ss_one (s_set sc_plain_too_late.nd rfl (by first | exact .inl rfl | exact .inr rfl) (v_val (x_bin o_add (x_var 6 (pv 6)) (x_var 7 (pv 7)))))))) (ss_one (s_ret (v_val (x_and (x_cmp (o_eq hu) (x_var 4 (pv 4)) (x_hold (v_callD (h_plain_base : DefOk P w K mg base _ _ _ _) (hr.mono (show 1 ≤ 3 by decide)) rfl tk (a_val (x_var 0 (pv 0)) (a_nil)) (alen_val alen_nil))) rfl) (x_and (x_cmp (o_eq hu) (x_var 5 (pv 5)) (x_hold (v_callD (h_life_shares : DefOk P w K mg base _ _ _ _) (hr.mono (show 3 ≤ 3 by decide)) rfl tk (a_val (x_var 0 (pv 0)) (a_val (x_var 1 (pv 1)) (a_nil))) (alen_val (alen_val alen_nil)))) rfl) (x_one (x_cmp o_lt (x_var 6 (pv 6)) (x_var 2 (pv 2)) rfl)))))))))))
theorem w_shows_too_late (e : Env1 tp K mg) (h_plain_form : DefOk P w K mg base 1 "plain_form" 1 c_plain_form) (h_check_number : DefOk P w K mg base 3 "check_number" 2 c_check_number) (h_check_way : DefOk P w K mg base 4 "check_way" 1 c_check_way) (h_plain_too_late : DefOk P w K mg base 4 "plain_too_late" 4 c_plain_too_late) : DefOk P w K mg base 5 "shows_too_late" 4 c_shows_too_late :=
  def_of (st := s_shows_too_late) (N := ["way", "life", "hours", "paper", "plain"]) (ps := ["way", "life", "hours", "paper"]) e 22 22 rfl rfl sc_shows_too_late (by decide) (fun _ _ _ _ _ _ us hl => match us, hl with | [_, _, _, _], _ => rfl) fun f cdv A outer s H E hr => by
    have tk := takes_of (X := cxOf (L2.CX P w) P w K mg base ["way", "life", "hours", "paper", "plain"] "shows_too_late" (defScope s_shows_too_late) f cdv A outer s H E) rfl rfl rfl rfl
    have po := passes_of (X := cxOf (L2.CX P w) P w K mg base ["way", "life", "hours", "paper", "plain"] "shows_too_late" (defScope s_shows_too_late) f cdv A outer s H E) rfl
    have hu := hr.units
    exact ss_cons (s_set sc_shows_too_late.nd rfl (by first | exact .inl rfl | exact .inr rfl) (v_callD (h_check_way : DefOk P w K mg base _ _ _ _) (hr.mono (show 4 ≤ 4 by decide)) rfl tk (a_val (x_var 0 (pv 0)) (a_nil)) (alen_val alen_nil))) (ss_cons (s_expr (v_callD (h_check_number : DefOk P w K mg base _ _ _ _) (hr.mono (show 3 ≤ 4 by decide)) rfl tk (a_val (x_var 1 (pv 1)) (a_val (x_int) (a_nil))) (alen_val (alen_val alen_nil)))) (ss_cons (s_expr (v_callD (h_check_number : DefOk P w K mg base _ _ _ _) (hr.mono (show 3 ≤ 4 by decide)) rfl tk (a_val (x_var 2 (pv 2)) (a_val (x_int) (a_nil))) (alen_val (alen_val alen_nil)))) (ss_one (s_ret (v_callD (h_plain_too_late : DefOk P w K mg base _ _ _ _) (hr.mono (show 4 ≤ 4 by decide)) rfl tk (a_val (x_var 4 (pv 4)) (a_val (x_var 1 (pv 1)) (a_val (x_var 2 (pv 2)) (a_val (x_hold (v_callD (h_plain_form : DefOk P w K mg base _ _ _ _) (hr.mono (show 1 ≤ 4 by decide)) rfl tk (a_val (x_var 3 (pv 3)) (a_nil)) (alen_val alen_nil))) (a_nil))))) (alen_val (alen_val (alen_val (alen_val alen_nil)))))))))
theorem w_too_late_paper (e : Env1 tp K mg) (h_check_number : DefOk P w K mg base 3 "check_number" 2 c_check_number) (h_check_way : DefOk P w K mg base 4 "check_way" 1 c_check_way) (h_plain_base : DefOk P w K mg base 1 "plain_base" 1 c_plain_base) (h_life_shares : DefOk P w K mg base 3 "life_shares" 2 c_life_shares) (h_plain_delay : DefOk P w K mg base 4 "plain_delay" 2 c_plain_delay) : DefOk P w K mg base 5 "too_late_paper" 3 c_too_late_paper :=
  def_of (st := s_too_late_paper) (N := ["way", "life", "hours", "plain"]) (ps := ["way", "life", "hours"]) e 23 23 rfl rfl sc_too_late_paper (by decide) (fun _ _ _ _ _ _ us hl => match us, hl with | [_, _, _], _ => rfl) fun f cdv A outer s H E hr => by
    have tk := takes_of (X := cxOf (L2.CX P w) P w K mg base ["way", "life", "hours", "plain"] "too_late_paper" (defScope s_too_late_paper) f cdv A outer s H E) rfl rfl rfl rfl
    have po := passes_of (X := cxOf (L2.CX P w) P w K mg base ["way", "life", "hours", "plain"] "too_late_paper" (defScope s_too_late_paper) f cdv A outer s H E) rfl
    have hu := hr.units
    exact ss_cons (s_set sc_too_late_paper.nd rfl (by first | exact .inl rfl | exact .inr rfl) (v_callD (h_check_way : DefOk P w K mg base _ _ _ _) (hr.mono (show 4 ≤ 4 by decide)) rfl tk (a_val (x_var 0 (pv 0)) (a_nil)) (alen_val alen_nil))) (ss_cons (s_expr (v_callD (h_check_number : DefOk P w K mg base _ _ _ _) (hr.mono (show 3 ≤ 4 by decide)) rfl tk (a_val (x_var 1 (pv 1)) (a_val (x_int) (a_nil))) (alen_val (alen_val alen_nil)))) (ss_cons (s_expr (v_callD (h_check_number : DefOk P w K mg base _ _ _ _) (hr.mono (show 3 ≤ 4 by decide)) rfl tk (a_val (x_var 2 (pv 2)) (a_val (x_int) (a_nil))) (alen_val (alen_val alen_nil)))) (ss_cons (s_if (b_cmp o_le (x_var 2 (pv 2)) (x_hold (v_callD (h_plain_delay : DefOk P w K mg base _ _ _ _) (hr.mono (show 4 ≤ 4 by decide)) rfl tk (a_val (x_var 3 (pv 3)) (a_val (x_var 1 (pv 1)) (a_nil))) (alen_val (alen_val alen_nil)))) rfl) (ss_one (s_ret (v_val (x_non)))) (ss_nil)) (ss_one (s_ret (v_val (x_tup (l_cons (x_hold (v_callD (h_plain_base : DefOk P w K mg base _ _ _ _) (hr.mono (show 1 ≤ 4 by decide)) rfl tk (a_val (x_var 3 (pv 3)) (a_nil)) (alen_val alen_nil))) (l_cons (x_hold (v_callD (h_life_shares : DefOk P w K mg base _ _ _ _) (hr.mono (show 3 ≤ 4 by decide)) rfl tk (a_val (x_var 3 (pv 3)) (a_val (x_var 1 (pv 1)) (a_nil))) (alen_val (alen_val alen_nil)))) (l_nil))))))))))
theorem w__law_draws (e : Env1 tp K mg) : DefOk P w K mg base 1 "_law_draws" 1 c__law_draws :=
  def_of (st := s__law_draws) (N := ["script", "draws", "at", "cell", "turn"]) (ps := ["script"]) e 24 24 rfl rfl sc__law_draws (by decide) (fun _ _ _ _ _ _ us hl => match us, hl with | [_], _ => rfl) fun f cdv A outer s H E hr => by
    have tk := takes_of (X := cxOf (L2.CX P w) P w K mg base ["script", "draws", "at", "cell", "turn"] "_law_draws" (defScope s__law_draws) f cdv A outer s H E) rfl rfl rfl rfl
    have po := passes_of (X := cxOf (L2.CX P w) P w K mg base ["script", "draws", "at", "cell", "turn"] "_law_draws" (defScope s__law_draws) f cdv A outer s H E) rfl
    have hu := hr.units
    exact ss_cons (s_set sc__law_draws.nd rfl (by first | exact .inl rfl | exact .inr rfl) (v_lst (l_nil))) (ss_cons (s_for po rfl (i_range1 rfl (e.free 49) (l_cons (x_callB (c_min rfl) rfl (e.free 53) bt_min (l_cons (x_callB c_len rfl (e.free 50) bt_len (l_cons (x_var 0 (pv 0)) (l_nil))) (l_cons (x_int) (l_nil)))) (l_nil))) (g_name sc__law_draws.nd rfl (by first | exact .inl rfl | exact .inr rfl)) (ss_cons (s_set sc__law_draws.nd rfl (by first | exact .inl rfl | exact .inr rfl) (v_val (x_callT c_int rfl (e.free 45) bt_int (l_cons (x_ix o_ix (x_var 0 (pv 0)) (x_var 2 (pv 2))) (l_nil))))) (ss_cons (s_if (b_cmp o_lt (x_var 3 (pv 3)) (x_int) rfl) (ss_one (s_set sc__law_draws.nd rfl (by first | exact .inl rfl | exact .inr rfl) (v_val (x_bin o_sub (x_int) (x_bin o_mul (x_int) (x_var 3 (pv 3))))))) (ss_nil)) (ss_cons (s_set sc__law_draws.nd rfl (by first | exact .inl rfl | exact .inr rfl) (v_val (x_bin o_mod (x_callT c_int rfl (e.free 45) bt_int (l_cons (x_var 3 (pv 3)) (l_nil))) (x_bin o_pow (x_int) (x_int))))) (ss_one (s_for po rfl (i_range1 rfl (e.free 49) (l_cons (x_int) (l_nil))) (g_name sc__law_draws.nd rfl (by first | exact .inl rfl | exact .inr rfl)) (ss_cons (s_expr (v_mut PySem.F.plainAttrs_list PySem.F.slot_list_append PySem.F.type_list_append m_append (pv 1) (l_cons (x_bin o_mod (x_callT c_int rfl (e.free 45) bt_int (l_cons (x_var 3 (pv 3)) (l_nil))) (x_int)) (l_nil)))) (ss_cons (s_set sc__law_draws.nd rfl (by first | exact .inl rfl | exact .inr rfl) (v_val (x_bin o_div (x_var 3 (pv 3)) (x_int)))) (ss_one (s_if (b_cmp (o_eq hu) (x_var 3 (pv 3)) (x_int) rfl) (ss_one (s_break)) (ss_nil))))))))))) (ss_cons (s_expr (v_mut0 PySem.F.plainAttrs_list PySem.F.slot_list_reverse PySem.F.type_list_reverse m_reverse (pv 1))) (ss_one (s_ret (v_move 1 (pv 1))))))
theorem w__law_take (e : Env1 tp K mg) : DefOk P w K mg base 1 "_law_take" 2 c__law_take :=
  def_of (st := s__law_take) (N := ["draws", "many"]) (ps := ["draws", "many"]) e 25 25 rfl rfl sc__law_take (by decide) (fun _ _ _ _ _ _ us hl => match us, hl with | [_, _], _ => rfl) fun f cdv A outer s H E hr => by
    have tk := takes_of (X := cxOf (L2.CX P w) P w K mg base ["draws", "many"] "_law_take" (defScope s__law_take) f cdv A outer s H E) rfl rfl rfl rfl
    have po := passes_of (X := cxOf (L2.CX P w) P w K mg base ["draws", "many"] "_law_take" (defScope s__law_take) f cdv A outer s H E) rfl
    have hu := hr.units
    exact ss_cons (s_if (b_cmp (o_eq hu) (x_lenO rfl (e.free 50) (pv 0)) (x_int) rfl) (ss_one (s_ret (v_val (x_int)))) (ss_nil)) (ss_one (s_ret (v_val (x_bin o_mod (x_callT c_int rfl (e.free 45) bt_int (l_cons (x_hold (v_mut0 PySem.F.plainAttrs_list PySem.F.slot_list_pop PySem.F.type_list_pop m_pop (pv 0))) (l_nil))) (x_var 1 (pv 1))))))
theorem w__law_is_int (e : Env1 tp K mg) : DefOk P w K mg base 1 "_law_is_int" 1 c__law_is_int :=
  def_of (st := s__law_is_int) (N := ["thing"]) (ps := ["thing"]) e 26 26 rfl rfl sc__law_is_int (by decide) (fun _ _ _ _ _ _ us hl => match us, hl with | [_], _ => rfl) fun f cdv A outer s H E hr => by
    have tk := takes_of (X := cxOf (L2.CX P w) P w K mg base ["thing"] "_law_is_int" (defScope s__law_is_int) f cdv A outer s H E) rfl rfl rfl rfl
    have po := passes_of (X := cxOf (L2.CX P w) P w K mg base ["thing"] "_law_is_int" (defScope s__law_is_int) f cdv A outer s H E) rfl
    have hu := hr.units
    exact ss_one (s_ret (v_val (x_and (x_callB (c_isi e.tbl) rfl (e.free 44) bt_isinstance (l_cons (x_var 0 (pv 0)) (l_cons (x_ty .int rfl (e.free 45) bt_int) (l_nil)))) (x_one (x_not (x_callB (c_isi e.tbl) rfl (e.free 44) bt_isinstance (l_cons (x_var 0 (pv 0)) (l_cons (x_ty .bool rfl (e.free 46) bt_bool) (l_nil)))))))))
theorem w__law_course (e : Env1 tp K mg) (h__law_take : DefOk P w K mg base 1 "_law_take" 2 c__law_take) : DefOk P w K mg base 2 "_law_course" 1 c__law_course :=
  def_of (st := s__law_course) (N := ["draws", "stores", "at", "slow", "cap", "err"]) (ps := ["draws"]) e 27 27 rfl rfl sc__law_course (by decide) (fun _ _ _ _ _ _ us hl => match us, hl with | [_], _ => rfl) fun f cdv A outer s H E hr => by
    have tk := takes_of (X := cxOf (L2.CX P w) P w K mg base ["draws", "stores", "at", "slow", "cap", "err"] "_law_course" (defScope s__law_course) f cdv A outer s H E) rfl rfl rfl rfl
    have po := passes_of (X := cxOf (L2.CX P w) P w K mg base ["draws", "stores", "at", "slow", "cap", "err"] "_law_course" (defScope s__law_course) f cdv A outer s H E) rfl
    have hu := hr.units
    exact ss_cons (s_set sc__law_course.nd rfl (by first | exact .inl rfl | exact .inr rfl) (v_lst (l_nil))) (ss_cons (s_for po rfl (i_range1 rfl (e.free 49) (l_cons (x_ix o_ix (x_hold (v_lst (l_cons (x_int) (l_cons (x_int) (l_cons (x_int) (l_nil)))))) (x_hold (v_callD (h__law_take : DefOk P w K mg base _ _ _ _) (hr.mono (show 1 ≤ 1 by decide)) rfl tk (a_opn (pv 0) (a_val (x_int) (a_nil))) (alen_opn (alen_val alen_nil))))) (l_nil))) (g_name sc__law_course.nd rfl (by first | exact .inl rfl | exact .inr rfl)) (ss_cons (s_set sc__law_course.nd rfl (by first | exact .inl rfl | exact .inr rfl) (v_val (x_ix o_ix (x_hold (v_lst (l_cons (x_int) (l_cons (x_int) (l_cons (x_int) (l_nil)))))) (x_hold (v_callD (h__law_take : DefOk P w K mg base _ _ _ _) (hr.mono (show 1 ≤ 1 by decide)) rfl tk (a_opn (pv 0) (a_val (x_int) (a_nil))) (alen_opn (alen_val alen_nil))))))) (ss_cons (s_set sc__law_course.nd rfl (by first | exact .inl rfl | exact .inr rfl) (v_val (x_ix o_ix (x_hold (v_lst (l_cons (x_int) (l_cons (x_non) (l_cons (x_int) (l_cons (x_int) (l_nil))))))) (x_hold (v_callD (h__law_take : DefOk P w K mg base _ _ _ _) (hr.mono (show 1 ≤ 1 by decide)) rfl tk (a_opn (pv 0) (a_val (x_int) (a_nil))) (alen_opn (alen_val alen_nil))))))) (ss_cons (s_set sc__law_course.nd rfl (by first | exact .inl rfl | exact .inr rfl) (v_val (x_ix o_ix (x_hold (v_lst (l_cons (x_int) (l_cons (x_int) (l_cons (x_int) (l_nil)))))) (x_hold (v_callD (h__law_take : DefOk P w K mg base _ _ _ _) (hr.mono (show 1 ≤ 1 by decide)) rfl tk (a_opn (pv 0) (a_val (x_int) (a_nil))) (alen_opn (alen_val alen_nil))))))) (ss_one (s_expr (v_mut PySem.F.plainAttrs_list PySem.F.slot_list_append PySem.F.type_list_append m_append (pv 1) (l_cons (x_tup (l_cons (x_var 3 (pv 3)) (l_cons (x_var 4 (pv 4)) (l_cons (x_var 5 (pv 5)) (l_cons (x_ix o_ix (x_hold (v_lst (l_cons (x_str) (l_cons (x_str) (l_nil))))) (x_hold (v_callD (h__law_take : DefOk P w K mg base _ _ _ _) (hr.mono (show 1 ≤ 1 by decide)) rfl tk (a_opn (pv 0) (a_val (x_int) (a_nil))) (alen_opn (alen_val alen_nil))))) (l_nil)))))) (l_nil))))))))) (ss_one (s_ret (v_val (x_callT c_tuple rfl (e.free 48) bt_tuple (l_cons (x_var 1 (pv 1)) (l_nil)))))))
theorem w__law_room (e : Env1 tp K mg) : DefOk P w K mg base 1 "_law_room" 2 c__law_room :=
  def_of (st := s__law_room) (N := ["store", "left"]) (ps := ["store", "left"]) e 28 28 rfl rfl sc__law_room (by decide) (fun _ _ _ _ _ _ us hl => match us, hl with | [_, _], _ => rfl) fun f cdv A outer s H E hr => by
    have tk := takes_of (X := cxOf (L2.CX P w) P w K mg base ["store", "left"] "_law_room" (defScope s__law_room) f cdv A outer s H E) rfl rfl rfl rfl
    have po := passes_of (X := cxOf (L2.CX P w) P w K mg base ["store", "left"] "_law_room" (defScope s__law_room) f cdv A outer s H E) rfl
    have hu := hr.units
    exact ss_cons (s_if (b_cmp o_is (x_ix o_ix (x_var 0 (pv 0)) (x_int)) (x_non) rfl) (ss_one (s_ret (v_val (x_var 1 (pv 1))))) (ss_nil)) (ss_one (s_ret (v_val (x_callB (c_min rfl) rfl (e.free 53) bt_min (l_cons (x_var 1 (pv 1)) (l_cons (x_ix o_ix (x_var 0 (pv 0)) (x_int)) (l_nil)))))))
theorem w__law_moments (e : Env1 tp K mg) (h__law_take : DefOk P w K mg base 1 "_law_take" 2 c__law_take) (h__law_room : DefOk P w K mg base 1 "_law_room" 2 c__law_room) : DefOk P w K mg base 2 "_law_moments" 3 c__law_moments :=
  def_of (st := s__law_moments) (N := ["draws", "way", "life", "moments", "left", "store", "late", "told"]) (ps := ["draws", "way", "life"]) e 29 29 rfl rfl sc__law_moments (by decide) (fun _ _ _ _ _ _ us hl => match us, hl with | [_, _, _], _ => rfl) fun f cdv A outer s H E hr => by
    have tk := takes_of (X := cxOf (L2.CX P w) P w K mg base ["draws", "way", "life", "moments", "left", "store", "late", "told"] "_law_moments" (defScope s__law_moments) f cdv A outer s H E) rfl rfl rfl rfl
    have po := passes_of (X := cxOf (L2.CX P w) P w K mg base ["draws", "way", "life", "moments", "left", "store", "late", "told"] "_law_moments" (defScope s__law_moments) f cdv A outer s H E) rfl
    have hu := hr.units
    exact ss_cons (s_set sc__law_moments.nd rfl (by first | exact .inl rfl | exact .inr rfl) (v_lst (l_nil))) (ss_cons (s_set sc__law_moments.nd rfl (by first | exact .inl rfl | exact .inr rfl) (v_val (x_var 2 (pv 2)))) (ss_cons (s_for po rfl (i_seq (x_var 1 (pv 1))) (g_name sc__law_moments.nd rfl (by first | exact .inl rfl | exact .inr rfl)) (ss_cons (s_set sc__law_moments.nd rfl (by first | exact .inl rfl | exact .inr rfl) (v_callD (h__law_take : DefOk P w K mg base _ _ _ _) (hr.mono (show 1 ≤ 1 by decide)) rfl tk (a_opn (pv 0) (a_val (x_bin o_add (x_ix o_ix (x_var 5 (pv 5)) (x_int)) (x_int)) (a_nil))) (alen_opn (alen_val alen_nil)))) (ss_cons (s_set sc__law_moments.nd rfl (by first | exact .inl rfl | exact .inr rfl) (v_callD (h__law_take : DefOk P w K mg base _ _ _ _) (hr.mono (show 1 ≤ 1 by decide)) rfl tk (a_opn (pv 0) (a_val (x_bin o_add (x_hold (v_callD (h__law_room : DefOk P w K mg base _ _ _ _) (hr.mono (show 1 ≤ 1 by decide)) rfl tk (a_val (x_var 5 (pv 5)) (a_val (x_var 4 (pv 4)) (a_nil))) (alen_val (alen_val alen_nil)))) (x_int)) (a_nil))) (alen_opn (alen_val alen_nil)))) (ss_cons (s_expr (v_mut PySem.F.plainAttrs_list PySem.F.slot_list_append PySem.F.type_list_append m_append (pv 3) (l_cons (x_tup (l_cons (x_var 6 (pv 6)) (l_cons (x_bin o_add (x_var 7 (pv 7)) (x_hold (v_callD (h__law_take : DefOk P w K mg base _ _ _ _) (hr.mono (show 1 ≤ 1 by decide)) rfl tk (a_opn (pv 0) (a_val (x_bin o_add (x_ix o_ix (x_var 5 (pv 5)) (x_int)) (x_int)) (a_nil))) (alen_opn (alen_val alen_nil))))) (l_cons (x_var 7 (pv 7)) (l_nil))))) (l_nil)))) (ss_cons (s_set sc__law_moments.nd rfl (by first | exact .inl rfl | exact .inr rfl) (v_val (x_bin o_sub (x_var 4 (pv 4)) (x_var 7 (pv 7))))) (ss_one (s_if (b_cmp (o_eq hu) (x_ix o_ix (x_var 5 (pv 5)) (x_int)) (x_str) rfl) (ss_one (s_set sc__law_moments.nd rfl (by first | exact .inl rfl | exact .inr rfl) (v_val (x_var 2 (pv 2))))) (ss_nil)))))))) (ss_one (s_ret (v_val (x_callT c_tuple rfl (e.free 48) bt_tuple (l_cons (x_var 3 (pv 3)) (l_nil))))))))
theorem w__law_lives (e : Env1 tp K mg) : DefOk P w K mg base 1 "_law_lives" 3 c__law_lives :=
  def_of (st := s__law_lives) (N := ["way", "life", "moments", "lives", "left", "at"]) (ps := ["way", "life", "moments"]) e 30 30 rfl rfl sc__law_lives (by decide) (fun _ _ _ _ _ _ us hl => match us, hl with | [_, _, _], _ => rfl) fun f cdv A outer s H E hr => by
    have tk := takes_of (X := cxOf (L2.CX P w) P w K mg base ["way", "life", "moments", "lives", "left", "at"] "_law_lives" (defScope s__law_lives) f cdv A outer s H E) rfl rfl rfl rfl
    have po := passes_of (X := cxOf (L2.CX P w) P w K mg base ["way", "life", "moments", "lives", "left", "at"] "_law_lives" (defScope s__law_lives) f cdv A outer s H E) rfl
    have hu := hr.units
    exact ss_cons (s_set sc__law_lives.nd rfl (by first | exact .inl rfl | exact .inr rfl) (v_lst (l_nil))) (ss_cons (s_set sc__law_lives.nd rfl (by first | exact .inl rfl | exact .inr rfl) (v_val (x_var 1 (pv 1)))) (ss_cons (s_for po rfl (i_range1 rfl (e.free 49) (l_cons (x_callB c_len rfl (e.free 50) bt_len (l_cons (x_var 0 (pv 0)) (l_nil))) (l_nil))) (g_name sc__law_lives.nd rfl (by first | exact .inl rfl | exact .inr rfl)) (ss_cons (s_expr (v_mut PySem.F.plainAttrs_list PySem.F.slot_list_append PySem.F.type_list_append m_append (pv 3) (l_cons (x_var 4 (pv 4)) (l_nil)))) (ss_cons (s_set sc__law_lives.nd rfl (by first | exact .inl rfl | exact .inr rfl) (v_val (x_bin o_sub (x_var 4 (pv 4)) (x_ix o_ix (x_ix o_ix (x_var 2 (pv 2)) (x_var 5 (pv 5))) (x_int))))) (ss_one (s_if (b_cmp (o_eq hu) (x_ix o_ix (x_ix o_ix (x_var 0 (pv 0)) (x_var 5 (pv 5))) (x_int)) (x_str) rfl) (ss_one (s_set sc__law_lives.nd rfl (by first | exact .inl rfl | exact .inr rfl) (v_val (x_var 1 (pv 1))))) (ss_nil)))))) (ss_one (s_ret (v_val (x_callT c_tuple rfl (e.free 48) bt_tuple (l_cons (x_var 3 (pv 3)) (l_nil))))))))
theorem w__law_lawful (e : Env1 tp K mg) (h__law_lives : DefOk P w K mg base 1 "_law_lives" 3 c__law_lives) : DefOk P w K mg base 2 "_law_lawful" 3 c__law_lawful :=
  def_of (st := s__law_lawful) (N := ["way", "life", "moments", "lives", "at", "late", "stay", "told"]) (ps := ["way", "life", "moments"]) e 31 31 rfl rfl sc__law_lawful (by decide) (fun _ _ _ _ _ _ us hl => match us, hl with | [_, _, _], _ => rfl) fun f cdv A outer s H E hr => by
    have tk := takes_of (X := cxOf (L2.CX P w) P w K mg base ["way", "life", "moments", "lives", "at", "late", "stay", "told"] "_law_lawful" (defScope s__law_lawful) f cdv A outer s H E) rfl rfl rfl rfl
    have po := passes_of (X := cxOf (L2.CX P w) P w K mg base ["way", "life", "moments", "lives", "at", "late", "stay", "told"] "_law_lawful" (defScope s__law_lawful) f cdv A outer s H E) rfl
    have hu := hr.units
    exact ss_cons (s_if (b_cmp (o_ne hu) (x_callB c_len rfl (e.free 50) bt_len (l_cons (x_var 2 (pv 2)) (l_nil))) (x_callB c_len rfl (e.free 50) bt_len (l_cons (x_var 0 (pv 0)) (l_nil))) rfl) (ss_one (s_ret (v_val (x_bl)))) (ss_nil)) (ss_cons (s_set sc__law_lawful.nd rfl (by first | exact .inl rfl | exact .inr rfl) (v_callD (h__law_lives : DefOk P w K mg base _ _ _ _) (hr.mono (show 1 ≤ 1 by decide)) rfl tk (a_val (x_var 0 (pv 0)) (a_val (x_var 1 (pv 1)) (a_val (x_var 2 (pv 2)) (a_nil)))) (alen_val (alen_val (alen_val alen_nil))))) (ss_cons (s_for po rfl (i_range1 rfl (e.free 49) (l_cons (x_callB c_len rfl (e.free 50) bt_len (l_cons (x_var 0 (pv 0)) (l_nil))) (l_nil))) (g_name sc__law_lawful.nd rfl (by first | exact .inl rfl | exact .inr rfl)) (ss_cons (s_asg (x_ix o_ix (x_var 2 (pv 2)) (x_var 4 (pv 4))) (g_seq rfl (gs_cons (g_name sc__law_lawful.nd rfl (by first | exact .inl rfl | exact .inr rfl)) (gs_cons (g_name sc__law_lawful.nd rfl (by first | exact .inl rfl | exact .inr rfl)) (gs_cons (g_name sc__law_lawful.nd rfl (by first | exact .inl rfl | exact .inr rfl)) gs_nil))))) (ss_cons (s_if (PBw.b (w_or (b_cmp o_lt (x_var 5 (pv 5)) (x_int) rfl) (w_or (b_cmp o_gt (x_var 5 (pv 5)) (x_ix o_ix (x_ix o_ix (x_var 0 (pv 0)) (x_var 4 (pv 4))) (x_int)) rfl) (w_or (b_cmp o_lt (x_var 6 (pv 6)) (x_int) rfl) (w_or (b_cmp o_lt (x_var 7 (pv 7)) (x_int) rfl) (w_or (b_cmp o_gt (x_var 7 (pv 7)) (x_var 6 (pv 6)) rfl) (w_or1 (b_cmp o_lt (x_var 7 (pv 7)) (x_bin o_sub (x_var 6 (pv 6)) (x_ix o_ix (x_ix o_ix (x_var 0 (pv 0)) (x_var 4 (pv 4))) (x_int))) rfl)))))))) (ss_one (s_ret (v_val (x_bl)))) (ss_nil)) (ss_one (s_if (PBw.b (w_or (b_cmp o_gt (x_var 7 (pv 7)) (x_ix o_ix (x_var 3 (pv 3)) (x_var 4 (pv 4))) rfl) (w_or1 (PBw.b (w_and (b_cmp o_isnot (x_ix o_ix (x_ix o_ix (x_var 0 (pv 0)) (x_var 4 (pv 4))) (x_int)) (x_non) rfl) (w_and1 (b_cmp o_gt (x_var 7 (pv 7)) (x_ix o_ix (x_ix o_ix (x_var 0 (pv 0)) (x_var 4 (pv 4))) (x_int)) rfl))))))) (ss_one (s_ret (v_val (x_bl)))) (ss_nil)))))) (ss_one (s_ret (v_val (x_bl))))))
theorem w__law_sums (e : Env1 tp K mg) (h__law_room : DefOk P w K mg base 1 "_law_room" 2 c__law_room) : DefOk P w K mg base 2 "_law_sums" 2 c__law_sums :=
  def_of (st := s__law_sums) (N := ["way", "life", "sums", "left", "many", "store", "stay"]) (ps := ["way", "life"]) e 32 32 rfl rfl sc__law_sums (by decide) (fun _ _ _ _ _ _ us hl => match us, hl with | [_, _], _ => rfl) fun f cdv A outer s H E hr => by
    have tk := takes_of (X := cxOf (L2.CX P w) P w K mg base ["way", "life", "sums", "left", "many", "store", "stay"] "_law_sums" (defScope s__law_sums) f cdv A outer s H E) rfl rfl rfl rfl
    have po := passes_of (X := cxOf (L2.CX P w) P w K mg base ["way", "life", "sums", "left", "many", "store", "stay"] "_law_sums" (defScope s__law_sums) f cdv A outer s H E) rfl
    have hu := hr.units
    exact ss_cons (s_set sc__law_sums.nd rfl (by first | exact .inl rfl | exact .inr rfl) (v_lst (l_nil))) (ss_cons (s_set sc__law_sums.nd rfl (by first | exact .inl rfl | exact .inr rfl) (v_val (x_var 1 (pv 1)))) (ss_cons (s_set sc__law_sums.nd rfl (by first | exact .inl rfl | exact .inr rfl) (v_val (x_int))) (ss_cons (s_for po rfl (i_seq (x_var 0 (pv 0))) (g_name sc__law_sums.nd rfl (by first | exact .inl rfl | exact .inr rfl)) (ss_cons (s_set sc__law_sums.nd rfl (by first | exact .inl rfl | exact .inr rfl) (v_callD (h__law_room : DefOk P w K mg base _ _ _ _) (hr.mono (show 1 ≤ 1 by decide)) rfl tk (a_val (x_var 5 (pv 5)) (a_val (x_var 3 (pv 3)) (a_nil))) (alen_val (alen_val alen_nil)))) (ss_cons (s_set sc__law_sums.nd rfl (by first | exact .inl rfl | exact .inr rfl) (v_val (x_bin o_add (x_var 4 (pv 4)) (x_var 6 (pv 6))))) (ss_cons (s_set sc__law_sums.nd rfl (by first | exact .inl rfl | exact .inr rfl) (v_val (x_bin o_sub (x_var 3 (pv 3)) (x_var 6 (pv 6))))) (ss_one (s_if (b_cmp (o_eq hu) (x_ix o_ix (x_var 5 (pv 5)) (x_int)) (x_str) rfl) (ss_cons (s_expr (v_mut PySem.F.plainAttrs_list PySem.F.slot_list_append PySem.F.type_list_append m_append (pv 2) (l_cons (x_var 4 (pv 4)) (l_nil)))) (ss_cons (s_set sc__law_sums.nd rfl (by first | exact .inl rfl | exact .inr rfl) (v_val (x_int))) (ss_one (s_set sc__law_sums.nd rfl (by first | exact .inl rfl | exact .inr rfl) (v_val (x_var 1 (pv 1))))))) (ss_nil))))))) (ss_cons (s_if (b_cmp (o_eq hu) (x_ix o_ix (x_ix o_ix (x_var 0 (pv 0)) (x_neg (x_int))) (x_int)) (x_str) rfl) (ss_one (s_expr (v_mut PySem.F.plainAttrs_list PySem.F.slot_list_append PySem.F.type_list_append m_append (pv 2) (l_cons (x_var 4 (pv 4)) (l_nil))))) (ss_nil)) (ss_one (s_ret (v_val (x_callT c_tuple rfl (e.free 48) bt_tuple (l_cons (x_var 2 (pv 2)) (l_nil))))))))))
theorem w__law_spoilt (e : Env1 tp K mg) (h__law_lives : DefOk P w K mg base 1 "_law_lives" 3 c__law_lives) : DefOk P w K mg base 2 "_law_spoilt" 4 c__law_spoilt :=
  def_of (st := s__law_spoilt) (N := ["way", "life", "moments", "at", "late", "stay", "told", "slow", "cap", "err", "kind", "left", "rows", "spoilt", "row"]) (ps := ["way", "life", "moments", "at"]) e 33 33 rfl rfl sc__law_spoilt (by decide) (fun _ _ _ _ _ _ us hl => match us, hl with | [_, _, _, _], _ => rfl) fun f cdv A outer s H E hr => by
    have tk := takes_of (X := cxOf (L2.CX P w) P w K mg base ["way", "life", "moments", "at", "late", "stay", "told", "slow", "cap", "err", "kind", "left", "rows", "spoilt", "row"] "_law_spoilt" (defScope s__law_spoilt) f cdv A outer s H E) rfl rfl rfl rfl
    have po := passes_of (X := cxOf (L2.CX P w) P w K mg base ["way", "life", "moments", "at", "late", "stay", "told", "slow", "cap", "err", "kind", "left", "rows", "spoilt", "row"] "_law_spoilt" (defScope s__law_spoilt) f cdv A outer s H E) rfl
    have hu := hr.units
    exact ss_cons (s_asg (x_ix o_ix (x_var 2 (pv 2)) (x_var 3 (pv 3))) (g_seq rfl (gs_cons (g_name sc__law_spoilt.nd rfl (by first | exact .inl rfl | exact .inr rfl)) (gs_cons (g_name sc__law_spoilt.nd rfl (by first | exact .inl rfl | exact .inr rfl)) (gs_cons (g_name sc__law_spoilt.nd rfl (by first | exact .inl rfl | exact .inr rfl)) gs_nil))))) (ss_cons (s_asg (x_ix o_ix (x_var 0 (pv 0)) (x_var 3 (pv 3))) (g_seq rfl (gs_cons (g_name sc__law_spoilt.nd rfl (by first | exact .inl rfl | exact .inr rfl)) (gs_cons (g_name sc__law_spoilt.nd rfl (by first | exact .inl rfl | exact .inr rfl)) (gs_cons (g_name sc__law_spoilt.nd rfl (by first | exact .inl rfl | exact .inr rfl)) (gs_cons (g_name sc__law_spoilt.nd rfl (by first | exact .inl rfl | exact .inr rfl)) gs_nil)))))) (ss_cons (s_set sc__law_spoilt.nd rfl (by first | exact .inl rfl | exact .inr rfl) (v_val (x_ix o_ix (x_hold (v_callD (h__law_lives : DefOk P w K mg base _ _ _ _) (hr.mono (show 1 ≤ 1 by decide)) rfl tk (a_val (x_var 0 (pv 0)) (a_val (x_var 1 (pv 1)) (a_val (x_var 2 (pv 2)) (a_nil)))) (alen_val (alen_val (alen_val alen_nil))))) (x_var 3 (pv 3))))) (ss_cons (s_set sc__law_spoilt.nd rfl (by first | exact .inl rfl | exact .inr rfl) (v_lst (l_cons (x_tup (l_cons (x_bin o_add (x_var 7 (pv 7)) (x_int)) (l_cons (x_var 5 (pv 5)) (l_cons (x_var 6 (pv 6)) (l_nil))))) (l_cons (x_tup (l_cons (x_neg (x_int)) (l_cons (x_var 5 (pv 5)) (l_cons (x_var 6 (pv 6)) (l_nil))))) (l_cons (x_tup (l_cons (x_var 4 (pv 4)) (l_cons (x_bin o_sub (x_var 6 (pv 6)) (x_int)) (l_cons (x_var 6 (pv 6)) (l_nil))))) (l_cons (x_tup (l_cons (x_var 4 (pv 4)) (l_cons (x_bin o_add (x_bin o_add (x_var 6 (pv 6)) (x_var 9 (pv 9))) (x_int)) (l_cons (x_var 6 (pv 6)) (l_nil))))) (l_cons (x_tup (l_cons (x_var 4 (pv 4)) (l_cons (x_bin o_add (x_var 11 (pv 11)) (x_int)) (l_cons (x_bin o_add (x_var 11 (pv 11)) (x_int)) (l_nil))))) (l_cons (x_tup (l_cons (x_var 4 (pv 4)) (l_cons (x_bin o_add (x_bin o_add (x_var 11 (pv 11)) (x_int)) (x_var 9 (pv 9))) (l_cons (x_bin o_add (x_var 11 (pv 11)) (x_int)) (l_nil))))) (l_cons (x_tup (l_cons (x_var 4 (pv 4)) (l_cons (x_int) (l_cons (x_neg (x_int)) (l_nil))))) (l_cons (x_tup (l_cons (x_var 4 (pv 4)) (l_cons (x_neg (x_int)) (l_cons (x_int) (l_nil))))) (l_cons (x_tup (l_cons (x_var 4 (pv 4)) (l_cons (x_neg (x_int)) (l_cons (x_neg (x_int)) (l_nil))))) (l_nil)))))))))))) (ss_cons (s_if (b_cmp o_isnot (x_var 8 (pv 8)) (x_non) rfl) (ss_cons (s_expr (v_mut PySem.F.plainAttrs_list PySem.F.slot_list_append PySem.F.type_list_append m_append (pv 12) (l_cons (x_tup (l_cons (x_var 4 (pv 4)) (l_cons (x_bin o_add (x_var 8 (pv 8)) (x_int)) (l_cons (x_bin o_add (x_var 8 (pv 8)) (x_int)) (l_nil))))) (l_nil)))) (ss_one (s_expr (v_mut PySem.F.plainAttrs_list PySem.F.slot_list_append PySem.F.type_list_append m_append (pv 12) (l_cons (x_tup (l_cons (x_var 4 (pv 4)) (l_cons (x_bin o_add (x_bin o_add (x_var 8 (pv 8)) (x_int)) (x_var 9 (pv 9))) (l_cons (x_bin o_add (x_var 8 (pv 8)) (x_int)) (l_nil))))) (l_nil)))))) (ss_nil)) (ss_cons (s_expr (v_mut PySem.F.plainAttrs_list PySem.F.slot_list_append PySem.F.type_list_append m_append (pv 12) (l_cons (x_tup (l_cons (x_var 4 (pv 4)) (l_cons (x_var 6 (pv 6)) (l_cons (x_var 6 (pv 6)) (l_nil))))) (l_nil)))) (ss_cons (s_setLc (own := [("row", 14)]) rfl sc__law_spoilt.nd rfl rfl (sw_true rfl rfl rfl rfl) (i_seq (x_var 12 (pv 12))) (blkOk_by (own := [("row", 14)]) (by kernel_rfl)) ct_name (fun _ _ _ _ _ => pg_name sc__law_spoilt.nd rfl (by first | exact .inl rfl | exact .inr rfl) (by first | exact .inl rfl | exact .inr rfl)) (fun _ _ _ _ _ => q_nil) (fun _ _ _ _ _ => x_bin o_add (x_bin o_add (x_cut (x_var 2 (pv 2)) (p_none) (p_some (x_var 3 (pv 3)))) (x_tup (l_cons (x_var 14 (pv 14)) (l_nil)))) (x_cut (x_var 2 (pv 2)) (p_some (x_bin o_add (x_var 3 (pv 3)) (x_int))) (p_none)))) (ss_cons (s_expr (v_mut PySem.F.plainAttrs_list PySem.F.slot_list_append PySem.F.type_list_append m_append (pv 13) (l_cons (x_cut (x_var 2 (pv 2)) (p_none) (p_some (x_neg (x_int)))) (l_nil)))) (ss_cons (s_expr (v_mut PySem.F.plainAttrs_list PySem.F.slot_list_append PySem.F.type_list_append m_append (pv 13) (l_cons (x_bin o_add (x_var 2 (pv 2)) (x_tup (l_cons (x_tup (l_cons (x_int) (l_cons (x_int) (l_cons (x_int) (l_nil))))) (l_nil)))) (l_nil)))) (ss_one (s_ret (v_move 13 (pv 13))))))))))))
theorem w__law_is_moments (e : Env1 tp K mg) (h__law_is_int : DefOk P w K mg base 1 "_law_is_int" 1 c__law_is_int) : DefOk P w K mg base 2 "_law_is_moments" 2 c__law_is_moments :=
  def_of (st := s__law_is_moments) (N := ["told", "many", "moment", "part"]) (ps := ["told", "many"]) e 34 34 rfl rfl sc__law_is_moments (by decide) (fun _ _ _ _ _ _ us hl => match us, hl with | [_, _], _ => rfl) fun f cdv A outer s H E hr => by
    have tk := takes_of (X := cxOf (L2.CX P w) P w K mg base ["told", "many", "moment", "part"] "_law_is_moments" (defScope s__law_is_moments) f cdv A outer s H E) rfl rfl rfl rfl
    have po := passes_of (X := cxOf (L2.CX P w) P w K mg base ["told", "many", "moment", "part"] "_law_is_moments" (defScope s__law_is_moments) f cdv A outer s H E) rfl
    have hu := hr.units
    exact ss_cons (s_if (PBw.b (w_or (b_not (b_tru (x_callB (c_isi e.tbl) rfl (e.free 44) bt_isinstance (l_cons (x_var 0 (pv 0)) (l_cons (x_ty .tup rfl (e.free 48) bt_tuple) (l_nil)))))) (w_or1 (b_cmp (o_ne hu) (x_callB c_len rfl (e.free 50) bt_len (l_cons (x_var 0 (pv 0)) (l_nil))) (x_var 1 (pv 1)) rfl)))) (ss_one (s_ret (v_val (x_bl)))) (ss_nil)) (ss_cons (s_for po rfl (i_seq (x_var 0 (pv 0))) (g_name sc__law_is_moments.nd rfl (by first | exact .inl rfl | exact .inr rfl)) (ss_cons (s_if (PBw.b (w_or (b_not (b_tru (x_callB (c_isi e.tbl) rfl (e.free 44) bt_isinstance (l_cons (x_var 2 (pv 2)) (l_cons (x_ty .tup rfl (e.free 48) bt_tuple) (l_nil)))))) (w_or1 (b_cmp (o_ne hu) (x_callB c_len rfl (e.free 50) bt_len (l_cons (x_var 2 (pv 2)) (l_nil))) (x_int) rfl)))) (ss_one (s_ret (v_val (x_bl)))) (ss_nil)) (ss_one (s_if (b_cmp o_gt (x_callB c_len rfl (e.free 50) bt_len (l_cons (x_hold (v_lc (own := [("part", 3)]) rfl sc__law_is_moments.nd (i_seq (x_var 2 (pv 2))) (blkOk_by (own := [("part", 3)]) (by kernel_rfl)) ct_name (fun _ _ _ _ _ => pg_name sc__law_is_moments.nd rfl (by first | exact .inl rfl | exact .inr rfl) (by first | exact .inl rfl | exact .inr rfl)) (fun _ _ _ _ _ => q_one (b_not (b_tru (x_hold (v_callD (h__law_is_int : DefOk P w K mg base _ _ _ _) (hr.mono (show 1 ≤ 1 by decide)) rfl takes0 (a_val (x_var 3 (pv 3)) (a_nil)) (alen_val alen_nil)))))) (fun _ _ _ _ _ => x_var 3 (pv 3)))) (l_nil))) (x_int) rfl) (ss_one (s_ret (v_val (x_bl)))) (ss_nil))))) (ss_one (s_ret (v_val (x_bl)))))
theorem w__law_is_row (e : Env1 tp K mg) (h__law_is_int : DefOk P w K mg base 1 "_law_is_int" 1 c__law_is_int) : DefOk P w K mg base 2 "_law_is_row" 2 c__law_is_row :=
  def_of (st := s__law_is_row) (N := ["told", "due", "at"]) (ps := ["told", "due"]) e 35 35 rfl rfl sc__law_is_row (by decide) (fun _ _ _ _ _ _ us hl => match us, hl with | [_, _], _ => rfl) fun f cdv A outer s H E hr => by
    have tk := takes_of (X := cxOf (L2.CX P w) P w K mg base ["told", "due", "at"] "_law_is_row" (defScope s__law_is_row) f cdv A outer s H E) rfl rfl rfl rfl
    have po := passes_of (X := cxOf (L2.CX P w) P w K mg base ["told", "due", "at"] "_law_is_row" (defScope s__law_is_row) f cdv A outer s H E) rfl
    have hu := hr.units
    exact ss_cons (s_if (PBw.b (w_or (b_not (b_tru (x_callB (c_isi e.tbl) rfl (e.free 44) bt_isinstance (l_cons (x_var 0 (pv 0)) (l_cons (x_ty .tup rfl (e.free 48) bt_tuple) (l_nil)))))) (w_or1 (b_cmp (o_ne hu) (x_callB c_len rfl (e.free 50) bt_len (l_cons (x_var 0 (pv 0)) (l_nil))) (x_callB c_len rfl (e.free 50) bt_len (l_cons (x_var 1 (pv 1)) (l_nil))) rfl)))) (ss_one (s_ret (v_val (x_bl)))) (ss_nil)) (ss_one (s_ret (v_val (x_cmp (o_eq hu) (x_callB c_len rfl (e.free 50) bt_len (l_cons (x_hold (v_lc (own := [("at", 2)]) rfl sc__law_is_row.nd (i_range1 rfl (e.free 49) (l_cons (x_callB c_len rfl (e.free 50) bt_len (l_cons (x_var 1 (pv 1)) (l_nil))) (l_nil))) (blkOk_by (own := [("at", 2)]) (by kernel_rfl)) ct_name (fun _ _ _ _ _ => pg_name sc__law_is_row.nd rfl (by first | exact .inl rfl | exact .inr rfl) (by first | exact .inl rfl | exact .inr rfl)) (fun _ _ _ _ _ => q_one (PBw.b (w_or (b_not (b_tru (x_hold (v_callD (h__law_is_int : DefOk P w K mg base _ _ _ _) (hr.mono (show 1 ≤ 1 by decide)) rfl takes0 (a_val (x_ix o_ix (x_var 0 (pv 0)) (x_var 2 (pv 2))) (a_nil)) (alen_val alen_nil))))) (w_or1 (b_cmp (o_ne hu) (x_ix o_ix (x_var 0 (pv 0)) (x_var 2 (pv 2))) (x_ix o_ix (x_var 1 (pv 1)) (x_var 2 (pv 2))) rfl))))) (fun _ _ _ _ _ => x_var 2 (pv 2)))) (l_nil))) (x_int) rfl))))
theorem w__law_hours (e : Env1 tp K mg) : DefOk P w K mg base 1 "_law_hours" 1 c__law_hours :=
  def_of (st := s__law_hours) (N := ["moments", "moment"]) (ps := ["moments"]) e 36 36 rfl rfl sc__law_hours (by decide) (fun _ _ _ _ _ _ us hl => match us, hl with | [_], _ => rfl) fun f cdv A outer s H E hr => by
    have tk := takes_of (X := cxOf (L2.CX P w) P w K mg base ["moments", "moment"] "_law_hours" (defScope s__law_hours) f cdv A outer s H E) rfl rfl rfl rfl
    have po := passes_of (X := cxOf (L2.CX P w) P w K mg base ["moments", "moment"] "_law_hours" (defScope s__law_hours) f cdv A outer s H E) rfl
    have hu := hr.units
    exact ss_one (s_ret (v_val (x_callB (c_sumA rfl) rfl (e.free 55) bt_sum (l_cons (x_hold (v_lc (own := [("moment", 1)]) rfl sc__law_hours.nd (i_seq (x_var 0 (pv 0))) (blkOk_by (own := [("moment", 1)]) (by kernel_rfl)) ct_name (fun _ _ _ _ _ => pg_name sc__law_hours.nd rfl (by first | exact .inl rfl | exact .inr rfl) (by first | exact .inl rfl | exact .inr rfl)) (fun _ _ _ _ _ => q_nil) (fun _ _ _ _ _ => x_bin o_add (x_ix o_ix (x_var 1 (pv 1)) (x_int)) (x_ix o_ix (x_var 1 (pv 1)) (x_int))))) (l_nil)))))
theorem w__law_is_case (e : Env1 tp K mg) : DefOk P w K mg base 1 "_law_is_case" 1 c__law_is_case :=
  def_of (st := s__law_is_case) (N := ["told"]) (ps := ["told"]) e 37 37 rfl rfl sc__law_is_case (by decide) (fun _ _ _ _ _ _ us hl => match us, hl with | [_], _ => rfl) fun f cdv A outer s H E hr => by
    have tk := takes_of (X := cxOf (L2.CX P w) P w K mg base ["told"] "_law_is_case" (defScope s__law_is_case) f cdv A outer s H E) rfl rfl rfl rfl
    have po := passes_of (X := cxOf (L2.CX P w) P w K mg base ["told"] "_law_is_case" (defScope s__law_is_case) f cdv A outer s H E) rfl
    have hu := hr.units
    exact ss_cons (s_if (PBw.b (w_or (b_not (b_tru (x_callB (c_isi e.tbl) rfl (e.free 44) bt_isinstance (l_cons (x_var 0 (pv 0)) (l_cons (x_cl rfl (e.cls rfl)) (l_nil)))))) (w_or1 (b_not (b_tru (x_callB (c_isi e.tbl) rfl (e.free 44) bt_isinstance (l_cons (x_var 0 (pv 0)) (l_cons (x_cl rfl (e.cls rfl)) (l_nil))))))))) (ss_one (s_ret (v_val (x_bl)))) (ss_nil)) (ss_cons (s_if (PBw.b (w_or (b_tru (x_callB (c_isi e.tbl) rfl (e.free 44) bt_isinstance (l_cons (x_var 0 (pv 0)) (l_cons (x_cl rfl (e.cls rfl)) (l_nil))))) (w_or1 (b_tru (x_callB (c_isi e.tbl) rfl (e.free 44) bt_isinstance (l_cons (x_var 0 (pv 0)) (l_cons (x_cl rfl (e.cls rfl)) (l_nil)))))))) (ss_one (s_ret (v_val (x_bl)))) (ss_nil)) (ss_one (s_ret (v_val (x_and (x_callB (c_isi e.tbl) rfl (e.free 44) bt_isinstance (l_cons (x_at e.tbl (e.fld (by decide)) (x_var 0 (pv 0))) (l_cons (x_ty .tup rfl (e.free 48) bt_tuple) (l_nil)))) (x_one (x_cmp (o_eq hu) (x_at e.tbl (e.fld (by decide)) (x_var 0 (pv 0))) (x_tup (l_nil)) rfl)))))))
theorem w__law_made (e : Env1 tp K mg) (h_is_copy : DefOk P w K mg base 5 "is_copy" 3 c_is_copy) (h_lives_along : DefOk P w K mg base 5 "lives_along" 3 c_lives_along) (h_copy_hours : DefOk P w K mg base 3 "copy_hours" 1 c_copy_hours) (h_copy_of : DefOk P w K mg base 5 "copy_of" 4 c_copy_of) (h__law_is_int : DefOk P w K mg base 1 "_law_is_int" 1 c__law_is_int) (h__law_lives : DefOk P w K mg base 1 "_law_lives" 3 c__law_lives) (h__law_lawful : DefOk P w K mg base 2 "_law_lawful" 3 c__law_lawful) (h__law_is_moments : DefOk P w K mg base 2 "_law_is_moments" 2 c__law_is_moments) (h__law_is_row : DefOk P w K mg base 2 "_law_is_row" 2 c__law_is_row) (h__law_hours : DefOk P w K mg base 1 "_law_hours" 1 c__law_hours) : DefOk P w K mg base 6 "_law_made" 4 c__law_made :=
  def_of (st := s__law_made) (N := ["way", "life", "served", "hours", "copy", "moments"]) (ps := ["way", "life", "served", "hours"]) e 38 38 rfl rfl sc__law_made (by decide) (fun _ _ _ _ _ _ us hl => match us, hl with | [_, _, _, _], _ => rfl) fun f cdv A outer s H E hr => by
    have tk := takes_of (X := cxOf (L2.CX P w) P w K mg base ["way", "life", "served", "hours", "copy", "moments"] "_law_made" (defScope s__law_made) f cdv A outer s H E) rfl rfl rfl rfl
    have po := passes_of (X := cxOf (L2.CX P w) P w K mg base ["way", "life", "served", "hours", "copy", "moments"] "_law_made" (defScope s__law_made) f cdv A outer s H E) rfl
    have hu := hr.units
    exact ss_cons (s_set sc__law_made.nd rfl (by first | exact .inl rfl | exact .inr rfl) (v_callD (h_copy_of : DefOk P w K mg base _ _ _ _) (hr.mono (show 5 ≤ 5 by decide)) rfl tk (a_val (x_var 0 (pv 0)) (a_val (x_var 1 (pv 1)) (a_val (x_var 2 (pv 2)) (a_val (x_var 3 (pv 3)) (a_nil))))) (alen_val (alen_val (alen_val (alen_val alen_nil)))))) (ss_cons (s_if (PBw.b (w_or (b_not (b_tru (x_callB (c_isi e.tbl) rfl (e.free 44) bt_isinstance (l_cons (x_var 4 (pv 4)) (l_cons (x_ty .tup rfl (e.free 48) bt_tuple) (l_nil)))))) (w_or1 (b_cmp (o_ne hu) (x_callB c_len rfl (e.free 50) bt_len (l_cons (x_var 4 (pv 4)) (l_nil))) (x_int) rfl)))) (ss_one (s_ret (v_val (x_bl)))) (ss_nil)) (ss_cons (s_if (PBw.b (w_or (b_not (b_tru (x_hold (v_callD (h__law_is_int : DefOk P w K mg base _ _ _ _) (hr.mono (show 1 ≤ 5 by decide)) rfl tk (a_val (x_ix o_ix (x_var 4 (pv 4)) (x_int)) (a_nil)) (alen_val alen_nil))))) (w_or (b_cmp (o_ne hu) (x_ix o_ix (x_var 4 (pv 4)) (x_int)) (x_var 2 (pv 2)) rfl) (w_or1 (b_not (b_tru (x_hold (v_callD (h__law_is_moments : DefOk P w K mg base _ _ _ _) (hr.mono (show 2 ≤ 5 by decide)) rfl tk (a_val (x_ix o_ix (x_var 4 (pv 4)) (x_int)) (a_val (x_callB c_len rfl (e.free 50) bt_len (l_cons (x_var 0 (pv 0)) (l_nil))) (a_nil))) (alen_val (alen_val alen_nil)))))))))) (ss_one (s_ret (v_val (x_bl)))) (ss_nil)) (ss_cons (s_set sc__law_made.nd rfl (by first | exact .inl rfl | exact .inr rfl) (v_val (x_ix o_ix (x_var 4 (pv 4)) (x_int)))) (ss_cons (s_if (PBw.b (w_or (b_not (b_tru (x_hold (v_callD (h__law_lawful : DefOk P w K mg base _ _ _ _) (hr.mono (show 2 ≤ 5 by decide)) rfl tk (a_val (x_var 0 (pv 0)) (a_val (x_var 1 (pv 1)) (a_val (x_var 5 (pv 5)) (a_nil)))) (alen_val (alen_val (alen_val alen_nil))))))) (w_or1 (b_cmp (o_ne hu) (x_hold (v_callD (h__law_hours : DefOk P w K mg base _ _ _ _) (hr.mono (show 1 ≤ 5 by decide)) rfl tk (a_val (x_var 5 (pv 5)) (a_nil)) (alen_val alen_nil))) (x_var 3 (pv 3)) rfl)))) (ss_one (s_ret (v_val (x_bl)))) (ss_nil)) (ss_cons (s_if (PBw.b (w_or (b_cmp o_isnot (x_hold (v_callD (h_is_copy : DefOk P w K mg base _ _ _ _) (hr.mono (show 5 ≤ 5 by decide)) rfl tk (a_val (x_var 0 (pv 0)) (a_val (x_var 1 (pv 1)) (a_val (x_var 4 (pv 4)) (a_nil)))) (alen_val (alen_val (alen_val alen_nil))))) (x_bl) rfl) (w_or1 (b_cmp (o_ne hu) (x_hold (v_callD (h_copy_hours : DefOk P w K mg base _ _ _ _) (hr.mono (show 3 ≤ 5 by decide)) rfl tk (a_val (x_var 4 (pv 4)) (a_nil)) (alen_val alen_nil))) (x_var 3 (pv 3)) rfl)))) (ss_one (s_ret (v_val (x_bl)))) (ss_nil)) (ss_one (s_ret (v_callD (h__law_is_row : DefOk P w K mg base _ _ _ _) (hr.mono (show 2 ≤ 5 by decide)) rfl tk (a_val (x_hold (v_callD (h_lives_along : DefOk P w K mg base _ _ _ _) (hr.mono (show 5 ≤ 5 by decide)) rfl tk (a_val (x_var 0 (pv 0)) (a_val (x_var 1 (pv 1)) (a_val (x_var 4 (pv 4)) (a_nil)))) (alen_val (alen_val (alen_val alen_nil))))) (a_val (x_hold (v_callD (h__law_lives : DefOk P w K mg base _ _ _ _) (hr.mono (show 1 ≤ 5 by decide)) rfl tk (a_val (x_var 0 (pv 0)) (a_val (x_var 1 (pv 1)) (a_val (x_var 5 (pv 5)) (a_nil)))) (alen_val (alen_val (alen_val alen_nil))))) (a_nil))) (alen_val (alen_val alen_nil))))))))))
theorem w__law_is_bool (e : Env1 tp K mg) : DefOk P w K mg base 1 "_law_is_bool" 2 c__law_is_bool :=
  def_of (st := s__law_is_bool) (N := ["told", "due"]) (ps := ["told", "due"]) e 39 39 rfl rfl sc__law_is_bool (by decide) (fun _ _ _ _ _ _ us hl => match us, hl with | [_, _], _ => rfl) fun f cdv A outer s H E hr => by
    have tk := takes_of (X := cxOf (L2.CX P w) P w K mg base ["told", "due"] "_law_is_bool" (defScope s__law_is_bool) f cdv A outer s H E) rfl rfl rfl rfl
    have po := passes_of (X := cxOf (L2.CX P w) P w K mg base ["told", "due"] "_law_is_bool" (defScope s__law_is_bool) f cdv A outer s H E) rfl
    have hu := hr.units
    exact ss_cons (s_if (b_tru (x_var 1 (pv 1))) (ss_one (s_ret (v_val (x_cmp o_is (x_var 0 (pv 0)) (x_bl) rfl)))) (ss_nil)) (ss_one (s_ret (v_val (x_cmp o_is (x_var 0 (pv 0)) (x_bl) rfl))))
theorem w__law_spoils_told (e : Env1 tp K mg) (h_is_copy : DefOk P w K mg base 5 "is_copy" 3 c_is_copy) (h_lives_along : DefOk P w K mg base 5 "lives_along" 3 c_lives_along) (h_copy_hours : DefOk P w K mg base 3 "copy_hours" 1 c_copy_hours) (h__law_is_int : DefOk P w K mg base 1 "_law_is_int" 1 c__law_is_int) (h__law_lives : DefOk P w K mg base 1 "_law_lives" 3 c__law_lives) (h__law_lawful : DefOk P w K mg base 2 "_law_lawful" 3 c__law_lawful) (h__law_is_row : DefOk P w K mg base 2 "_law_is_row" 2 c__law_is_row) (h__law_hours : DefOk P w K mg base 1 "_law_hours" 1 c__law_hours) (h__law_is_case : DefOk P w K mg base 1 "_law_is_case" 1 c__law_is_case) (h__law_is_bool : DefOk P w K mg base 1 "_law_is_bool" 2 c__law_is_bool) : DefOk P w K mg base 6 "_law_spoils_told" 4 c__law_spoils_told :=
  def_of (st := s__law_spoils_told) (N := ["way", "life", "served", "spoilt", "moments", "due", "hours", "told", "lives", "error"]) (ps := ["way", "life", "served", "spoilt"]) e 40 40 rfl rfl sc__law_spoils_told (by decide) (fun _ _ _ _ _ _ us hl => match us, hl with | [_, _, _, _], _ => rfl) fun f cdv A outer s H E hr => by
    have tk := takes_of (X := cxOf (L2.CX P w) P w K mg base ["way", "life", "served", "spoilt", "moments", "due", "hours", "told", "lives", "error"] "_law_spoils_told" (defScope s__law_spoils_told) f cdv A outer s H E) rfl rfl rfl rfl
    have po := passes_of (X := cxOf (L2.CX P w) P w K mg base ["way", "life", "served", "spoilt", "moments", "due", "hours", "told", "lives", "error"] "_law_spoils_told" (defScope s__law_spoils_told) f cdv A outer s H E) rfl
    have hu := hr.units
    exact ss_cons (s_for po rfl (i_seq (x_var 3 (pv 3))) (g_name sc__law_spoils_told.nd rfl (by first | exact .inl rfl | exact .inr rfl)) (ss_cons (s_set sc__law_spoils_told.nd rfl (by first | exact .inl rfl | exact .inr rfl) (v_callD (h__law_lawful : DefOk P w K mg base _ _ _ _) (hr.mono (show 2 ≤ 5 by decide)) rfl tk (a_val (x_var 0 (pv 0)) (a_val (x_var 1 (pv 1)) (a_val (x_var 4 (pv 4)) (a_nil)))) (alen_val (alen_val (alen_val alen_nil))))) (ss_cons (s_if (b_not (b_tru (x_hold (v_callD (h__law_is_bool : DefOk P w K mg base _ _ _ _) (hr.mono (show 1 ≤ 5 by decide)) rfl tk (a_val (x_hold (v_callD (h_is_copy : DefOk P w K mg base _ _ _ _) (hr.mono (show 5 ≤ 5 by decide)) rfl tk (a_val (x_var 0 (pv 0)) (a_val (x_var 1 (pv 1)) (a_val (x_tup (l_cons (x_var 2 (pv 2)) (l_cons (x_var 4 (pv 4)) (l_nil)))) (a_nil)))) (alen_val (alen_val (alen_val alen_nil))))) (a_val (x_var 5 (pv 5)) (a_nil))) (alen_val (alen_val alen_nil)))))) (ss_one (s_ret (v_val (x_bl)))) (ss_nil)) (ss_cons (s_set sc__law_spoils_told.nd rfl (by first | exact .inl rfl | exact .inr rfl) (v_callD (h_copy_hours : DefOk P w K mg base _ _ _ _) (hr.mono (show 3 ≤ 5 by decide)) rfl tk (a_val (x_tup (l_cons (x_var 2 (pv 2)) (l_cons (x_var 4 (pv 4)) (l_nil)))) (a_nil)) (alen_val alen_nil))) (ss_cons (s_if (PBw.b (w_or (b_not (b_tru (x_hold (v_callD (h__law_is_int : DefOk P w K mg base _ _ _ _) (hr.mono (show 1 ≤ 5 by decide)) rfl tk (a_val (x_var 6 (pv 6)) (a_nil)) (alen_val alen_nil))))) (w_or1 (b_cmp (o_ne hu) (x_var 6 (pv 6)) (x_hold (v_callD (h__law_hours : DefOk P w K mg base _ _ _ _) (hr.mono (show 1 ≤ 5 by decide)) rfl tk (a_val (x_var 4 (pv 4)) (a_nil)) (alen_val alen_nil))) rfl)))) (ss_one (s_ret (v_val (x_bl)))) (ss_nil)) (ss_cons (s_set sc__law_spoils_told.nd rfl (by first | exact .inl rfl | exact .inr rfl) (v_val (x_non))) (ss_cons (s_set sc__law_spoils_told.nd rfl (by first | exact .inl rfl | exact .inr rfl) (v_val (x_non))) (ss_cons (s_try e.tbl rfl rfl sc__law_spoils_told.nd rfl tk (fun _ _ _ tk po => ss_one (s_set sc__law_spoils_told.nd rfl (by first | exact .inl rfl | exact .inr rfl) (v_callD (h_lives_along : DefOk P w K mg base _ _ _ _) (hr.mono (show 5 ≤ 5 by decide)) rfl tk (a_val (x_var 0 (pv 0)) (a_val (x_var 1 (pv 1)) (a_val (x_tup (l_cons (x_var 2 (pv 2)) (l_cons (x_var 4 (pv 4)) (l_nil)))) (a_nil)))) (alen_val (alen_val (alen_val alen_nil)))))) (.named rfl rfl rfl rfl (e.cls rfl) (fun _ _ => ss_one (s_set sc__law_spoils_told.nd rfl (by first | exact .inl rfl | exact .inr rfl) (v_val (x_var 9 (pv 9))))) (.nil))) (ss_cons (s_if (PBw.b (w_and (b_tru (x_var 5 (pv 5))) (w_and1 (b_not (b_tru (x_hold (v_callD (h__law_is_row : DefOk P w K mg base _ _ _ _) (hr.mono (show 2 ≤ 5 by decide)) rfl tk (a_val (x_var 8 (pv 8)) (a_val (x_hold (v_callD (h__law_lives : DefOk P w K mg base _ _ _ _) (hr.mono (show 1 ≤ 5 by decide)) rfl tk (a_val (x_var 0 (pv 0)) (a_val (x_var 1 (pv 1)) (a_val (x_var 4 (pv 4)) (a_nil)))) (alen_val (alen_val (alen_val alen_nil))))) (a_nil))) (alen_val (alen_val alen_nil))))))))) (ss_one (s_ret (v_val (x_bl)))) (ss_nil)) (ss_one (s_if (PBw.b (w_and (b_not (b_tru (x_var 5 (pv 5)))) (w_and1 (PBw.b (w_or (b_cmp o_isnot (x_var 8 (pv 8)) (x_non) rfl) (w_or1 (b_not (b_tru (x_hold (v_callD (h__law_is_case : DefOk P w K mg base _ _ _ _) (hr.mono (show 1 ≤ 5 by decide)) rfl tk (a_val (x_var 7 (pv 7)) (a_nil)) (alen_val alen_nil))))))))))) (ss_one (s_ret (v_val (x_bl)))) (ss_nil)))))))))))) (ss_one (s_ret (v_val (x_bl))))
theorem w__law_forms_told (e : Env1 tp K mg) (h_is_copy : DefOk P w K mg base 5 "is_copy" 3 c_is_copy) (h_copy_hours : DefOk P w K mg base 3 "copy_hours" 1 c_copy_hours) (h__law_is_case : DefOk P w K mg base 1 "_law_is_case" 1 c__law_is_case) : DefOk P w K mg base 6 "_law_forms_told" 4 c__law_forms_told :=
  def_of (st := s__law_forms_told) (N := ["way", "life", "served", "moments", "wrong", "told", "error", "moment"]) (ps := ["way", "life", "served", "moments"]) e 41 41 rfl rfl sc__law_forms_told (by decide) (fun _ _ _ _ _ _ us hl => match us, hl with | [_, _, _, _], _ => rfl) fun f cdv A outer s H E hr => by
    have tk := takes_of (X := cxOf (L2.CX P w) P w K mg base ["way", "life", "served", "moments", "wrong", "told", "error", "moment"] "_law_forms_told" (defScope s__law_forms_told) f cdv A outer s H E) rfl rfl rfl rfl
    have po := passes_of (X := cxOf (L2.CX P w) P w K mg base ["way", "life", "served", "moments", "wrong", "told", "error", "moment"] "_law_forms_told" (defScope s__law_forms_told) f cdv A outer s H E) rfl
    have hu := hr.units
    exact ss_cons (s_if (b_cmp o_isnot (x_hold (v_callD (h_is_copy : DefOk P w K mg base _ _ _ _) (hr.mono (show 5 ≤ 5 by decide)) rfl tk (a_val (x_var 0 (pv 0)) (a_val (x_var 1 (pv 1)) (a_val (x_hold (v_lst (l_cons (x_var 2 (pv 2)) (l_cons (x_hold (v_lc (own := [("moment", 7)]) rfl sc__law_forms_told.nd (i_seq (x_var 3 (pv 3))) (blkOk_by (own := [("moment", 7)]) (by kernel_rfl)) ct_name (fun _ _ _ _ _ => pg_name sc__law_forms_told.nd rfl (by first | exact .inl rfl | exact .inr rfl) (by first | exact .inl rfl | exact .inr rfl)) (fun _ _ _ _ _ => q_nil) (fun _ _ _ _ _ => x_callT c_list rfl (e.free 47) bt_list (l_cons (x_var 7 (pv 7)) (l_nil))))) (l_nil))))) (a_nil)))) (alen_val (alen_val (alen_val alen_nil))))) (x_bl) rfl) (ss_one (s_ret (v_val (x_bl)))) (ss_nil)) (ss_cons (s_for po rfl (i_seq (x_hold (v_lst (l_cons (x_tup (l_cons (x_non) (l_cons (x_var 3 (pv 3)) (l_nil)))) (l_cons (x_tup (l_cons (x_str) (l_cons (x_var 3 (pv 3)) (l_nil)))) (l_cons (x_tup (l_cons (x_var 2 (pv 2)) (l_nil))) (l_cons (x_tup (l_cons (x_var 2 (pv 2)) (l_cons (x_var 3 (pv 3)) (l_cons (x_int) (l_nil))))) (l_cons (x_tup (l_cons (x_var 2 (pv 2)) (l_cons (x_int) (l_nil)))) (l_cons (x_var 3 (pv 3)) (l_cons (x_int) (l_cons (x_tup (l_cons (x_var 2 (pv 2)) (l_cons (x_bin o_add (x_cut (x_var 3 (pv 3)) (p_none) (p_some (x_neg (x_int)))) (x_tup (l_cons (x_tup (l_cons (x_int) (l_cons (x_int) (l_nil)))) (l_nil)))) (l_nil)))) (l_cons (x_tup (l_cons (x_var 2 (pv 2)) (l_cons (x_bin o_add (x_cut (x_var 3 (pv 3)) (p_none) (p_some (x_neg (x_int)))) (x_tup (l_cons (x_tup (l_cons (x_int) (l_cons (x_int) (l_cons (x_str) (l_nil))))) (l_nil)))) (l_nil)))) (l_nil))))))))))))) (g_name sc__law_forms_told.nd rfl (by first | exact .inl rfl | exact .inr rfl)) (ss_one (s_if (b_cmp o_isnot (x_hold (v_callD (h_is_copy : DefOk P w K mg base _ _ _ _) (hr.mono (show 5 ≤ 5 by decide)) rfl tk (a_val (x_var 0 (pv 0)) (a_val (x_var 1 (pv 1)) (a_val (x_var 4 (pv 4)) (a_nil)))) (alen_val (alen_val (alen_val alen_nil))))) (x_bl) rfl) (ss_one (s_ret (v_val (x_bl)))) (ss_nil)))) (ss_cons (s_set sc__law_forms_told.nd rfl (by first | exact .inl rfl | exact .inr rfl) (v_val (x_non))) (ss_cons (s_try e.tbl rfl rfl sc__law_forms_told.nd rfl tk (fun _ _ _ tk po => ss_one (s_expr (v_callD (h_copy_hours : DefOk P w K mg base _ _ _ _) (hr.mono (show 3 ≤ 5 by decide)) rfl tk (a_val (x_tup (l_cons (x_var 2 (pv 2)) (l_cons (x_bin o_add (x_cut (x_var 3 (pv 3)) (p_none) (p_some (x_neg (x_int)))) (x_tup (l_cons (x_tup (l_cons (x_int) (l_cons (x_int) (l_nil)))) (l_nil)))) (l_nil)))) (a_nil)) (alen_val alen_nil)))) (.named rfl rfl rfl rfl (e.cls rfl) (fun _ _ => ss_one (s_set sc__law_forms_told.nd rfl (by first | exact .inl rfl | exact .inr rfl) (v_val (x_var 6 (pv 6))))) (.nil))) (ss_one (s_ret (v_callD (h__law_is_case : DefOk P w K mg base _ _ _ _) (hr.mono (show 1 ≤ 5 by decide)) rfl tk (a_val (x_var 5 (pv 5)) (a_nil)) (alen_val alen_nil)))))))
theorem w__law_late_told (e : Env1 tp K mg) (h_shows_too_late : DefOk P w K mg base 5 "shows_too_late" 4 c_shows_too_late) (h_too_late_paper : DefOk P w K mg base 5 "too_late_paper" 3 c_too_late_paper) (h__law_is_int : DefOk P w K mg base 1 "_law_is_int" 1 c__law_is_int) (h__law_sums : DefOk P w K mg base 2 "_law_sums" 2 c__law_sums) (h__law_is_row : DefOk P w K mg base 2 "_law_is_row" 2 c__law_is_row) : DefOk P w K mg base 6 "_law_late_told" 4 c__law_late_told :=
  def_of (st := s__law_late_told) (N := ["way", "life", "delay", "more", "base", "sums", "hours", "wrongs", "wrong", "paper", "store"]) (ps := ["way", "life", "delay", "more"]) e 42 42 rfl rfl sc__law_late_told (by decide) (fun _ _ _ _ _ _ us hl => match us, hl with | [_, _, _, _], _ => rfl) fun f cdv A outer s H E hr => by
    have tk := takes_of (X := cxOf (L2.CX P w) P w K mg base ["way", "life", "delay", "more", "base", "sums", "hours", "wrongs", "wrong", "paper", "store"] "_law_late_told" (defScope s__law_late_told) f cdv A outer s H E) rfl rfl rfl rfl
    have po := passes_of (X := cxOf (L2.CX P w) P w K mg base ["way", "life", "delay", "more", "base", "sums", "hours", "wrongs", "wrong", "paper", "store"] "_law_late_told" (defScope s__law_late_told) f cdv A outer s H E) rfl
    have hu := hr.units
    exact ss_cons (s_set sc__law_late_told.nd rfl (by first | exact .inl rfl | exact .inr rfl) (v_val (x_callB (c_sumA rfl) rfl (e.free 55) bt_sum (l_cons (x_hold (v_lc (own := [("store", 10)]) rfl sc__law_late_told.nd (i_seq (x_var 0 (pv 0))) (blkOk_by (own := [("store", 10)]) (by kernel_rfl)) ct_name (fun _ _ _ _ _ => pg_name sc__law_late_told.nd rfl (by first | exact .inl rfl | exact .inr rfl) (by first | exact .inl rfl | exact .inr rfl)) (fun _ _ _ _ _ => q_nil) (fun _ _ _ _ _ => x_bin o_add (x_ix o_ix (x_var 10 (pv 10)) (x_int)) (x_ix o_ix (x_var 10 (pv 10)) (x_int))))) (l_nil))))) (ss_cons (s_set sc__law_late_told.nd rfl (by first | exact .inl rfl | exact .inr rfl) (v_callD (h__law_sums : DefOk P w K mg base _ _ _ _) (hr.mono (show 2 ≤ 5 by decide)) rfl tk (a_val (x_var 0 (pv 0)) (a_val (x_var 1 (pv 1)) (a_nil))) (alen_val (alen_val alen_nil)))) (ss_cons (s_if (PBw.b (w_or (b_cmp o_isnot (x_hold (v_callD (h_too_late_paper : DefOk P w K mg base _ _ _ _) (hr.mono (show 5 ≤ 5 by decide)) rfl tk (a_val (x_var 0 (pv 0)) (a_val (x_var 1 (pv 1)) (a_val (x_var 2 (pv 2)) (a_nil)))) (alen_val (alen_val (alen_val alen_nil))))) (x_non) rfl) (w_or1 (b_cmp o_isnot (x_hold (v_callD (h_too_late_paper : DefOk P w K mg base _ _ _ _) (hr.mono (show 5 ≤ 5 by decide)) rfl tk (a_val (x_var 0 (pv 0)) (a_val (x_var 1 (pv 1)) (a_val (x_int) (a_nil)))) (alen_val (alen_val (alen_val alen_nil))))) (x_non) rfl)))) (ss_one (s_ret (v_val (x_bl)))) (ss_nil)) (ss_cons (s_if (b_cmp o_isnot (x_hold (v_callD (h_shows_too_late : DefOk P w K mg base _ _ _ _) (hr.mono (show 5 ≤ 5 by decide)) rfl tk (a_val (x_var 0 (pv 0)) (a_val (x_var 1 (pv 1)) (a_val (x_var 2 (pv 2)) (a_val (x_tup (l_cons (x_var 4 (pv 4)) (l_cons (x_var 5 (pv 5)) (l_nil)))) (a_nil))))) (alen_val (alen_val (alen_val (alen_val alen_nil)))))) (x_bl) rfl) (ss_one (s_ret (v_val (x_bl)))) (ss_nil)) (ss_cons (s_set sc__law_late_told.nd rfl (by first | exact .inl rfl | exact .inr rfl) (v_val (x_bin o_add (x_bin o_add (x_var 2 (pv 2)) (x_int)) (x_var 3 (pv 3))))) (ss_cons (s_if (PBw.b (w_or (b_cmp o_isnot (x_hold (v_callD (h_shows_too_late : DefOk P w K mg base _ _ _ _) (hr.mono (show 5 ≤ 5 by decide)) rfl tk (a_val (x_var 0 (pv 0)) (a_val (x_var 1 (pv 1)) (a_val (x_var 6 (pv 6)) (a_val (x_tup (l_cons (x_var 4 (pv 4)) (l_cons (x_var 5 (pv 5)) (l_nil)))) (a_nil))))) (alen_val (alen_val (alen_val (alen_val alen_nil)))))) (x_bl) rfl) (w_or1 (b_cmp o_isnot (x_hold (v_callD (h_shows_too_late : DefOk P w K mg base _ _ _ _) (hr.mono (show 5 ≤ 5 by decide)) rfl tk (a_val (x_var 0 (pv 0)) (a_val (x_var 1 (pv 1)) (a_val (x_var 6 (pv 6)) (a_val (x_hold (v_lst (l_cons (x_var 4 (pv 4)) (l_cons (x_callT c_list rfl (e.free 47) bt_list (l_cons (x_var 5 (pv 5)) (l_nil))) (l_nil))))) (a_nil))))) (alen_val (alen_val (alen_val (alen_val alen_nil)))))) (x_bl) rfl)))) (ss_one (s_ret (v_val (x_bl)))) (ss_nil)) (ss_cons (s_set sc__law_late_told.nd rfl (by first | exact .inl rfl | exact .inr rfl) (v_lst (l_cons (x_tup (l_cons (x_bin o_add (x_var 4 (pv 4)) (x_int)) (l_cons (x_var 5 (pv 5)) (l_nil)))) (l_cons (x_tup (l_cons (x_bin o_sub (x_var 4 (pv 4)) (x_int)) (l_cons (x_var 5 (pv 5)) (l_nil)))) (l_cons (x_tup (l_cons (x_var 4 (pv 4)) (l_cons (x_bin o_add (x_cut (x_var 5 (pv 5)) (p_none) (p_some (x_neg (x_int)))) (x_tup (l_cons (x_bin o_sub (x_ix o_ix (x_var 5 (pv 5)) (x_neg (x_int))) (x_int)) (l_nil)))) (l_nil)))) (l_cons (x_tup (l_cons (x_bin o_sub (x_var 4 (pv 4)) (x_int)) (l_cons (x_bin o_add (x_cut (x_var 5 (pv 5)) (p_none) (p_some (x_neg (x_int)))) (x_tup (l_cons (x_bin o_add (x_ix o_ix (x_var 5 (pv 5)) (x_neg (x_int))) (x_int)) (l_nil)))) (l_nil)))) (l_cons (x_tup (l_cons (x_var 4 (pv 4)) (l_cons (x_cut (x_var 5 (pv 5)) (p_none) (p_some (x_neg (x_int)))) (l_nil)))) (l_cons (x_tup (l_cons (x_var 4 (pv 4)) (l_cons (x_bin o_add (x_var 5 (pv 5)) (x_tup (l_cons (x_int) (l_nil)))) (l_nil)))) (l_cons (x_tup (l_cons (x_var 4 (pv 4)) (l_nil))) (l_cons (x_tup (l_cons (x_var 4 (pv 4)) (l_cons (x_int) (l_nil)))) (l_cons (x_var 4 (pv 4)) (l_cons (x_tup (l_cons (x_callT c_str rfl (e.free 51) bt_str (l_cons (x_var 4 (pv 4)) (l_nil))) (l_cons (x_var 5 (pv 5)) (l_nil)))) (l_nil))))))))))))) (ss_cons (s_for po rfl (i_seq (x_var 7 (pv 7))) (g_name sc__law_late_told.nd rfl (by first | exact .inl rfl | exact .inr rfl)) (ss_one (s_if (b_cmp o_isnot (x_hold (v_callD (h_shows_too_late : DefOk P w K mg base _ _ _ _) (hr.mono (show 5 ≤ 5 by decide)) rfl tk (a_val (x_var 0 (pv 0)) (a_val (x_var 1 (pv 1)) (a_val (x_var 6 (pv 6)) (a_val (x_var 8 (pv 8)) (a_nil))))) (alen_val (alen_val (alen_val (alen_val alen_nil)))))) (x_bl) rfl) (ss_one (s_ret (v_val (x_bl)))) (ss_nil)))) (ss_cons (s_set sc__law_late_told.nd rfl (by first | exact .inl rfl | exact .inr rfl) (v_callD (h_too_late_paper : DefOk P w K mg base _ _ _ _) (hr.mono (show 5 ≤ 5 by decide)) rfl tk (a_val (x_var 0 (pv 0)) (a_val (x_var 1 (pv 1)) (a_val (x_var 6 (pv 6)) (a_nil)))) (alen_val (alen_val (alen_val alen_nil))))) (ss_cons (s_if (PBw.b (w_or (b_not (b_tru (x_callB (c_isi e.tbl) rfl (e.free 44) bt_isinstance (l_cons (x_var 9 (pv 9)) (l_cons (x_ty .tup rfl (e.free 48) bt_tuple) (l_nil)))))) (w_or (b_cmp (o_ne hu) (x_callB c_len rfl (e.free 50) bt_len (l_cons (x_var 9 (pv 9)) (l_nil))) (x_int) rfl) (w_or1 (b_not (b_tru (x_hold (v_callD (h__law_is_int : DefOk P w K mg base _ _ _ _) (hr.mono (show 1 ≤ 5 by decide)) rfl tk (a_val (x_ix o_ix (x_var 9 (pv 9)) (x_int)) (a_nil)) (alen_val alen_nil))))))))) (ss_one (s_ret (v_val (x_bl)))) (ss_nil)) (ss_one (s_ret (v_val (x_and (x_cmp (o_eq hu) (x_ix o_ix (x_var 9 (pv 9)) (x_int)) (x_var 4 (pv 4)) rfl) (x_one (x_hold (v_callD (h__law_is_row : DefOk P w K mg base _ _ _ _) (hr.mono (show 2 ≤ 5 by decide)) rfl tk (a_val (x_ix o_ix (x_var 9 (pv 9)) (x_int)) (a_val (x_var 5 (pv 5)) (a_nil))) (alen_val (alen_val alen_nil))))))))))))))))))
theorem w_law (e : Env1 tp K mg) {fa : Addr} {fd : FuncData} (Fu : FunD K "law" "law" (defArgs s_law) (defBody s_law) (defScope s_law) [] [] fa fd) (h_is_copy : DefOk P w K mg base 5 "is_copy" 3 c_is_copy) (h_lives_along : DefOk P w K mg base 5 "lives_along" 3 c_lives_along) (h_copy_of : DefOk P w K mg base 5 "copy_of" 4 c_copy_of) (h__law_draws : DefOk P w K mg base 1 "_law_draws" 1 c__law_draws) (h__law_take : DefOk P w K mg base 1 "_law_take" 2 c__law_take) (h__law_course : DefOk P w K mg base 2 "_law_course" 1 c__law_course) (h__law_moments : DefOk P w K mg base 2 "_law_moments" 3 c__law_moments) (h__law_lives : DefOk P w K mg base 1 "_law_lives" 3 c__law_lives) (h__law_sums : DefOk P w K mg base 2 "_law_sums" 2 c__law_sums) (h__law_spoilt : DefOk P w K mg base 2 "_law_spoilt" 4 c__law_spoilt) (h__law_is_row : DefOk P w K mg base 2 "_law_is_row" 2 c__law_is_row) (h__law_made : DefOk P w K mg base 6 "_law_made" 4 c__law_made) (h__law_spoils_told : DefOk P w K mg base 6 "_law_spoils_told" 4 c__law_spoils_told) (h__law_forms_told : DefOk P w K mg base 6 "_law_forms_told" 4 c__law_forms_told) (h__law_late_told : DefOk P w K mg base 6 "_law_late_told" 4 c__law_late_told) : FnOk P w K mg base (L2.CX P w) 7 fa fd ["script"] (spF ⟨K, mg⟩ 1 c_law) :=
  fn_okD (N := ["script", "draws", "way", "life", "served", "at", "moments", "some", "more", "delay", "hours", "store"]) (ps := ["script"]) Fu sc_law (by decide) fun cdv A outer s H E hr => by
    have tk := takes_of (X := cxOf (L2.CX P w) P w K mg base ["script", "draws", "way", "life", "served", "at", "moments", "some", "more", "delay", "hours", "store"] "law" (defScope s_law) fa cdv A outer s H E) rfl rfl rfl rfl
    have po := passes_of (X := cxOf (L2.CX P w) P w K mg base ["script", "draws", "way", "life", "served", "at", "moments", "some", "more", "delay", "hours", "store"] "law" (defScope s_law) fa cdv A outer s H E) rfl
    have hu := hr.units
    exact ss_cons (s_set sc_law.nd rfl (by first | exact .inl rfl | exact .inr rfl) (v_callD (h__law_draws : DefOk P w K mg base _ _ _ _) (hr.mono (show 1 ≤ 6 by decide)) rfl tk (a_val (x_var 0 (pv 0)) (a_nil)) (alen_val alen_nil))) (ss_cons (s_set sc_law.nd rfl (by first | exact .inl rfl | exact .inr rfl) (v_callD (h__law_course : DefOk P w K mg base _ _ _ _) (hr.mono (show 2 ≤ 6 by decide)) rfl tk (a_opn (pv 1) (a_nil)) (alen_opn alen_nil))) (ss_cons (s_set sc_law.nd rfl (by first | exact .inl rfl | exact .inr rfl) (v_val (x_ix o_ix (x_hold (v_lst (l_cons (x_int) (l_cons (x_int) (l_cons (x_int) (l_cons (x_int) (l_cons (x_int) (l_cons (x_int) (l_nil))))))))) (x_hold (v_callD (h__law_take : DefOk P w K mg base _ _ _ _) (hr.mono (show 1 ≤ 6 by decide)) rfl tk (a_opn (pv 1) (a_val (x_int) (a_nil))) (alen_opn (alen_val alen_nil))))))) (ss_cons (s_set sc_law.nd rfl (by first | exact .inl rfl | exact .inr rfl) (v_val (x_bin o_sub (x_hold (v_callD (h__law_take : DefOk P w K mg base _ _ _ _) (hr.mono (show 1 ≤ 6 by decide)) rfl tk (a_opn (pv 1) (a_val (x_int) (a_nil))) (alen_opn (alen_val alen_nil)))) (x_int)))) (ss_cons (s_set sc_law.nd rfl (by first | exact .inl rfl | exact .inr rfl) (v_callD (h__law_take : DefOk P w K mg base _ _ _ _) (hr.mono (show 1 ≤ 6 by decide)) rfl tk (a_opn (pv 1) (a_val (x_callB c_len rfl (e.free 50) bt_len (l_cons (x_var 2 (pv 2)) (l_nil))) (a_nil))) (alen_opn (alen_val alen_nil)))) (ss_cons (s_set sc_law.nd rfl (by first | exact .inl rfl | exact .inr rfl) (v_callD (h__law_moments : DefOk P w K mg base _ _ _ _) (hr.mono (show 2 ≤ 6 by decide)) rfl tk (a_opn (pv 1) (a_val (x_var 2 (pv 2)) (a_val (x_var 3 (pv 3)) (a_nil)))) (alen_opn (alen_val (alen_val alen_nil))))) (ss_cons (s_set sc_law.nd rfl (by first | exact .inl rfl | exact .inr rfl) (v_callD (h__law_take : DefOk P w K mg base _ _ _ _) (hr.mono (show 1 ≤ 6 by decide)) rfl tk (a_opn (pv 1) (a_val (x_int) (a_nil))) (alen_opn (alen_val alen_nil)))) (ss_cons (s_set sc_law.nd rfl (by first | exact .inl rfl | exact .inr rfl) (v_callD (h__law_take : DefOk P w K mg base _ _ _ _) (hr.mono (show 1 ≤ 6 by decide)) rfl tk (a_opn (pv 1) (a_val (x_int) (a_nil))) (alen_opn (alen_val alen_nil)))) (ss_cons (s_set sc_law.nd rfl (by first | exact .inl rfl | exact .inr rfl) (v_val (x_bin o_add (x_callB (c_sumA rfl) rfl (e.free 55) bt_sum (l_cons (x_hold (v_lc (own := [("store", 11)]) rfl sc_law.nd (i_seq (x_var 2 (pv 2))) (blkOk_by (own := [("store", 11)]) (by kernel_rfl)) ct_name (fun _ _ _ _ _ => pg_name sc_law.nd rfl (by first | exact .inl rfl | exact .inr rfl) (by first | exact .inl rfl | exact .inr rfl)) (fun _ _ _ _ _ => q_nil) (fun _ _ _ _ _ => x_bin o_add (x_ix o_ix (x_var 11 (pv 11)) (x_int)) (x_ix o_ix (x_var 11 (pv 11)) (x_int))))) (l_nil))) (x_callB (c_sumA rfl) rfl (e.free 55) bt_sum (l_cons (x_hold (v_callD (h__law_sums : DefOk P w K mg base _ _ _ _) (hr.mono (show 2 ≤ 6 by decide)) rfl tk (a_val (x_var 2 (pv 2)) (a_val (x_var 3 (pv 3)) (a_nil))) (alen_val (alen_val alen_nil)))) (l_nil)))))) (ss_cons (s_if (b_cmp o_isnot (x_hold (v_callD (h_is_copy : DefOk P w K mg base _ _ _ _) (hr.mono (show 5 ≤ 6 by decide)) rfl tk (a_val (x_var 2 (pv 2)) (a_val (x_var 3 (pv 3)) (a_val (x_tup (l_cons (x_var 4 (pv 4)) (l_cons (x_var 6 (pv 6)) (l_nil)))) (a_nil)))) (alen_val (alen_val (alen_val alen_nil))))) (x_bl) rfl) (ss_one (s_ret (v_val (x_bl)))) (ss_nil)) (ss_cons (s_if (b_not (b_tru (x_hold (v_callD (h__law_is_row : DefOk P w K mg base _ _ _ _) (hr.mono (show 2 ≤ 6 by decide)) rfl tk (a_val (x_hold (v_callD (h_lives_along : DefOk P w K mg base _ _ _ _) (hr.mono (show 5 ≤ 6 by decide)) rfl tk (a_val (x_var 2 (pv 2)) (a_val (x_var 3 (pv 3)) (a_val (x_tup (l_cons (x_var 4 (pv 4)) (l_cons (x_var 6 (pv 6)) (l_nil)))) (a_nil)))) (alen_val (alen_val (alen_val alen_nil))))) (a_val (x_hold (v_callD (h__law_lives : DefOk P w K mg base _ _ _ _) (hr.mono (show 1 ≤ 6 by decide)) rfl tk (a_val (x_var 2 (pv 2)) (a_val (x_var 3 (pv 3)) (a_val (x_var 6 (pv 6)) (a_nil)))) (alen_val (alen_val (alen_val alen_nil))))) (a_nil))) (alen_val (alen_val alen_nil)))))) (ss_one (s_ret (v_val (x_bl)))) (ss_nil)) (ss_cons (s_if (b_not (b_tru (x_hold (v_callD (h__law_spoils_told : DefOk P w K mg base _ _ _ _) (hr.mono (show 6 ≤ 6 by decide)) rfl tk (a_val (x_var 2 (pv 2)) (a_val (x_var 3 (pv 3)) (a_val (x_var 4 (pv 4)) (a_val (x_hold (v_callD (h__law_spoilt : DefOk P w K mg base _ _ _ _) (hr.mono (show 2 ≤ 6 by decide)) rfl tk (a_val (x_var 2 (pv 2)) (a_val (x_var 3 (pv 3)) (a_val (x_var 6 (pv 6)) (a_val (x_var 5 (pv 5)) (a_nil))))) (alen_val (alen_val (alen_val (alen_val alen_nil)))))) (a_nil))))) (alen_val (alen_val (alen_val (alen_val alen_nil)))))))) (ss_one (s_ret (v_val (x_bl)))) (ss_nil)) (ss_cons (s_if (b_not (b_tru (x_hold (v_callD (h__law_forms_told : DefOk P w K mg base _ _ _ _) (hr.mono (show 6 ≤ 6 by decide)) rfl tk (a_val (x_var 2 (pv 2)) (a_val (x_var 3 (pv 3)) (a_val (x_var 4 (pv 4)) (a_val (x_var 6 (pv 6)) (a_nil))))) (alen_val (alen_val (alen_val (alen_val alen_nil)))))))) (ss_one (s_ret (v_val (x_bl)))) (ss_nil)) (ss_cons (s_for po rfl (i_seq (x_tup (l_cons (x_int) (l_cons (x_bin o_mod (x_callT c_int rfl (e.free 45) bt_int (l_cons (x_var 7 (pv 7)) (l_nil))) (x_bin o_add (x_var 9 (pv 9)) (x_int))) (l_cons (x_var 9 (pv 9)) (l_nil)))))) (g_name sc_law.nd rfl (by first | exact .inl rfl | exact .inr rfl)) (ss_one (s_if (b_not (b_tru (x_hold (v_callD (h__law_made : DefOk P w K mg base _ _ _ _) (hr.mono (show 6 ≤ 6 by decide)) rfl tk (a_val (x_var 2 (pv 2)) (a_val (x_var 3 (pv 3)) (a_val (x_var 4 (pv 4)) (a_val (x_var 10 (pv 10)) (a_nil))))) (alen_val (alen_val (alen_val (alen_val alen_nil)))))))) (ss_one (s_ret (v_val (x_bl)))) (ss_nil)))) (ss_cons (s_if (PBw.b (w_or (b_cmp o_isnot (x_hold (v_callD (h_copy_of : DefOk P w K mg base _ _ _ _) (hr.mono (show 5 ≤ 6 by decide)) rfl tk (a_val (x_var 2 (pv 2)) (a_val (x_var 3 (pv 3)) (a_val (x_var 4 (pv 4)) (a_val (x_bin o_add (x_var 9 (pv 9)) (x_int)) (a_nil))))) (alen_val (alen_val (alen_val (alen_val alen_nil)))))) (x_non) rfl) (w_or1 (b_cmp o_isnot (x_hold (v_callD (h_copy_of : DefOk P w K mg base _ _ _ _) (hr.mono (show 5 ≤ 6 by decide)) rfl tk (a_val (x_var 2 (pv 2)) (a_val (x_var 3 (pv 3)) (a_val (x_var 4 (pv 4)) (a_val (x_bin o_add (x_bin o_add (x_var 9 (pv 9)) (x_int)) (x_var 8 (pv 8))) (a_nil))))) (alen_val (alen_val (alen_val (alen_val alen_nil)))))) (x_non) rfl)))) (ss_one (s_ret (v_val (x_bl)))) (ss_nil)) (ss_one (s_ret (v_callD (h__law_late_told : DefOk P w K mg base _ _ _ _) (hr.mono (show 6 ≤ 6 by decide)) rfl tk (a_val (x_var 2 (pv 2)) (a_val (x_var 3 (pv 3)) (a_val (x_var 9 (pv 9)) (a_val (x_var 8 (pv 8)) (a_nil))))) (alen_val (alen_val (alen_val (alen_val alen_nil)))))))))))))))))))))
/-- all defs -/
theorem w_all (e : Env1 tp K mg) {fa : Addr} {fd : FuncData} (Fu : FunD K "law" "law" (defArgs s_law) (defBody s_law) (defScope s_law) [] [] fa fd) : FnOk P w K mg base (L2.CX P w) 7 fa fd ["script"] (spF ⟨K, mg⟩ 1 c_law) :=
  have j_BadNumber : InitOk P w K mg base "BadNumber" "at" := i_BadNumber e
  have j_BadHours : InitOk P w K mg base "BadHours" "at" := i_BadHours e
  have j_BadStore : InitOk P w K mg base "BadStore" "at" := i_BadStore e
  have j_BadCase : InitOk P w K mg base "BadCase" "at" := i_BadCase e
  have k_is_int : DefOk P w K mg base 1 "is_int" 1 c_is_int := w_is_int e
  have k_plain_form : DefOk P w K mg base 1 "plain_form" 1 c_plain_form := w_plain_form e
  have k_check_number : DefOk P w K mg base 3 "check_number" 2 c_check_number := w_check_number e k_is_int k_plain_form j_BadNumber
  have k_check_hour : DefOk P w K mg base 3 "check_hour" 1 c_check_hour := w_check_hour e k_is_int k_plain_form j_BadHours
  have k_wrong_store_part : DefOk P w K mg base 2 "wrong_store_part" 1 c_wrong_store_part := w_wrong_store_part e k_is_int
  have k_wrong_way_place : DefOk P w K mg base 3 "wrong_way_place" 1 c_wrong_way_place := w_wrong_way_place e k_wrong_store_part
  have k_plain_way : DefOk P w K mg base 1 "plain_way" 1 c_plain_way := w_plain_way e
  have k_check_way : DefOk P w K mg base 4 "check_way" 1 c_check_way := w_check_way e k_wrong_way_place k_plain_way j_BadStore
  have k_plain_groups : DefOk P w K mg base 1 "plain_groups" 1 c_plain_groups := w_plain_groups e
  have k_plain_caps : DefOk P w K mg base 2 "plain_caps" 1 c_plain_caps := w_plain_caps e k_plain_groups
  have k_plain_base : DefOk P w K mg base 1 "plain_base" 1 c_plain_base := w_plain_base e
  have k_life_shares : DefOk P w K mg base 3 "life_shares" 2 c_life_shares := w_life_shares e k_plain_caps
  have k_plain_delay : DefOk P w K mg base 4 "plain_delay" 2 c_plain_delay := w_plain_delay e k_plain_base k_life_shares
  have k_has_copy_form : DefOk P w K mg base 2 "has_copy_form" 1 c_has_copy_form := w_has_copy_form e k_is_int
  have k_is_lawful_moment : DefOk P w K mg base 1 "is_lawful_moment" 3 c_is_lawful_moment := w_is_lawful_moment e
  have k_lives_told : DefOk P w K mg base 1 "lives_told" 3 c_lives_told := w_lives_told e
  have k_is_plain_copy : DefOk P w K mg base 3 "is_plain_copy" 3 c_is_plain_copy := w_is_plain_copy e k_has_copy_form k_is_lawful_moment k_lives_told
  have k_is_copy : DefOk P w K mg base 5 "is_copy" 3 c_is_copy := w_is_copy e k_plain_form k_check_number k_check_way k_is_plain_copy
  have k_lives_along : DefOk P w K mg base 5 "lives_along" 3 c_lives_along := w_lives_along e k_plain_form k_check_number k_check_way k_lives_told k_is_plain_copy j_BadCase
  have k_copy_hours : DefOk P w K mg base 3 "copy_hours" 1 c_copy_hours := w_copy_hours e k_plain_form k_has_copy_form j_BadCase
  have k_copy_of : DefOk P w K mg base 5 "copy_of" 4 c_copy_of := w_copy_of e k_check_number k_check_hour k_check_way k_plain_delay
  have k_plain_too_late : DefOk P w K mg base 4 "plain_too_late" 4 c_plain_too_late := w_plain_too_late e k_is_int k_plain_base k_life_shares
  have k_shows_too_late : DefOk P w K mg base 5 "shows_too_late" 4 c_shows_too_late := w_shows_too_late e k_plain_form k_check_number k_check_way k_plain_too_late
  have k_too_late_paper : DefOk P w K mg base 5 "too_late_paper" 3 c_too_late_paper := w_too_late_paper e k_check_number k_check_way k_plain_base k_life_shares k_plain_delay
  have k__law_draws : DefOk P w K mg base 1 "_law_draws" 1 c__law_draws := w__law_draws e
  have k__law_take : DefOk P w K mg base 1 "_law_take" 2 c__law_take := w__law_take e
  have k__law_is_int : DefOk P w K mg base 1 "_law_is_int" 1 c__law_is_int := w__law_is_int e
  have k__law_course : DefOk P w K mg base 2 "_law_course" 1 c__law_course := w__law_course e k__law_take
  have k__law_room : DefOk P w K mg base 1 "_law_room" 2 c__law_room := w__law_room e
  have k__law_moments : DefOk P w K mg base 2 "_law_moments" 3 c__law_moments := w__law_moments e k__law_take k__law_room
  have k__law_lives : DefOk P w K mg base 1 "_law_lives" 3 c__law_lives := w__law_lives e
  have k__law_lawful : DefOk P w K mg base 2 "_law_lawful" 3 c__law_lawful := w__law_lawful e k__law_lives
  have k__law_sums : DefOk P w K mg base 2 "_law_sums" 2 c__law_sums := w__law_sums e k__law_room
  have k__law_spoilt : DefOk P w K mg base 2 "_law_spoilt" 4 c__law_spoilt := w__law_spoilt e k__law_lives
  have k__law_is_moments : DefOk P w K mg base 2 "_law_is_moments" 2 c__law_is_moments := w__law_is_moments e k__law_is_int
  have k__law_is_row : DefOk P w K mg base 2 "_law_is_row" 2 c__law_is_row := w__law_is_row e k__law_is_int
  have k__law_hours : DefOk P w K mg base 1 "_law_hours" 1 c__law_hours := w__law_hours e
  have k__law_is_case : DefOk P w K mg base 1 "_law_is_case" 1 c__law_is_case := w__law_is_case e
  have k__law_made : DefOk P w K mg base 6 "_law_made" 4 c__law_made := w__law_made e k_is_copy k_lives_along k_copy_hours k_copy_of k__law_is_int k__law_lives k__law_lawful k__law_is_moments k__law_is_row k__law_hours
  have k__law_is_bool : DefOk P w K mg base 1 "_law_is_bool" 2 c__law_is_bool := w__law_is_bool e
  have k__law_spoils_told : DefOk P w K mg base 6 "_law_spoils_told" 4 c__law_spoils_told := w__law_spoils_told e k_is_copy k_lives_along k_copy_hours k__law_is_int k__law_lives k__law_lawful k__law_is_row k__law_hours k__law_is_case k__law_is_bool
  have k__law_forms_told : DefOk P w K mg base 6 "_law_forms_told" 4 c__law_forms_told := w__law_forms_told e k_is_copy k_copy_hours k__law_is_case
  have k__law_late_told : DefOk P w K mg base 6 "_law_late_told" 4 c__law_late_told := w__law_late_told e k_shows_too_late k_too_late_paper k__law_is_int k__law_sums k__law_is_row
  w_law e Fu k_is_copy k_lives_along k_copy_of k__law_draws k__law_take k__law_course k__law_moments k__law_lives k__law_sums k__law_spoilt k__law_is_row k__law_made k__law_spoils_told k__law_forms_told k__law_late_told
end
end K06
end

section
set_option maxHeartbeats 400000
namespace K06
open Py PySem L2
noncomputable section
def F_is_int (a0 : Py.D) : Fu.R (Py.D) := Fu.fin (β := Unit) (Fu.retP (fun x => x) (Fu.S.andV (Fu.S.cal (fIs T) (Fu.S.cons (Fu.S.ok a0) (Fu.S.cons (Fu.S.ok (.ty .int)) Fu.S.nil))) (Fu.S.notV (Fu.S.cal (fIs T) (Fu.S.cons (Fu.S.ok a0) (Fu.S.cons (Fu.S.ok (.ty .bool)) Fu.S.nil))))))
theorem y_is_int (a0 : Py.D) : Fu.CallOk (c_is_int [.v a0]) (F_is_int a0) (Fu.uns [a0]) := Fu.fnD (xs := [a0]) (l := []) (n := 1) (Q := fun _ => Fu.anys 1) rfl (by simp [Fu.PlainL]) (Fu.st_retP (Fu.v_x (Fu.x_andV (Fu.x_cal (Fu.x_cons (Fu.x_v 0 (fun _ => rfl)) (Fu.x_cons Fu.x_c Fu.x_nil))) (Fu.x_notV (Fu.x_cal (Fu.x_cons (Fu.x_v 0 (fun _ => rfl)) (Fu.x_cons Fu.x_c Fu.x_nil)))))) (fun _ _ h => h) (fun _ => (Fu.LE.anyN rfl))) (fun _ => rfl)
theorem z_is_int : Fu.Z c_is_int (Fu.ap1 F_is_int) := Fu.z1 y_is_int
def B_plain_form_0  : (List Py.D) → Py.D → Fu.O (Py.D) (List Py.D) (List Py.D) := fun (s8 : List Py.D) x12 => (Fu.O.ofO (some x12)).seq fun z9 => ((Fu.mutP mAppend s8 (Fu.S.cons (Fu.S.ok z9) Fu.S.nil)).seq fun z11 => .nx z11.2)
def B_plain_form_1  : (List Py.D × List Py.D) → Fu.O (Py.D) (List Py.D × List Py.D) (List Py.D × List Py.D) := fun (s3 : List Py.D × List Py.D) => ((Fu.mutP mPop s3.1 Fu.S.nil).seq fun z6 => (Fu.iteP (Fu.S.tru (Fu.S.cal (fIs T) (Fu.S.cons (Fu.S.ok z6.1) (Fu.S.cons (Fu.S.tup (Fu.S.cons (Fu.S.ok (.ty .lst)) (Fu.S.cons (Fu.S.ok (.ty .tup)) Fu.S.nil))) Fu.S.nil)))) ((Fu.mutP mAppend s3.2 (Fu.S.cons (Fu.S.tup (Fu.S.cons (Fu.S.cal fLen (Fu.S.cons (Fu.S.ok z6.1) Fu.S.nil)) (Fu.S.cons (Fu.S.ok (.bl true)) Fu.S.nil))) Fu.S.nil)).seq fun z7 => (((Fu.O.ofP (Fu.S.items (Fu.S.ok z6.1))).seq fun x13 => Fu.loop B_plain_form_0 x13 z6.2).seq fun z10 => .nx (z10, z7.2))) ((Fu.mutP mAppend s3.2 (Fu.S.cons (Fu.S.tup (Fu.S.cons (Fu.S.ok z6.1) (Fu.S.cons (Fu.S.ok (.bl false)) Fu.S.nil))) Fu.S.nil)).seq fun z14 => .nx (z6.2, z14.2))))
def B_plain_form_2  : (List Py.D × List Py.D) → Py.D → Fu.O (Py.D) (List Py.D × List Py.D) (List Py.D × List Py.D) := fun (s32 : List Py.D × List Py.D) x37 => (Fu.O.ofO (some x37)).seq fun z33 => ((Fu.mutS mAppend s32.2 (Fu.S.cons (Fu.S.mut mPop Fu.S.nil) Fu.S.nil) s32.1).seq fun z35 => .nx (z35.2, z35.1.2))
def B_plain_form_3  : (List Py.D) → Py.D → Fu.O (Py.D) (List Py.D) (List Py.D) := fun (s16 : List Py.D) x41 => (Fu.O.ofO ((Fu.tSq 2 (Fu.tC some (Fu.tC some Fu.t0))) x41)).seq fun z17 => (Fu.iteP (Fu.S.tru (Fu.S.ok z17.2.1)) ((Fu.O.ofP (Fu.S.lst Fu.S.nil)).seq fun z31 => (((Fu.O.ofP (Fu.S.it fRange1 (Fu.S.cons (Fu.S.ok z17.1) Fu.S.nil))).seq fun x38 => Fu.loop B_plain_form_2 x38 (s16, z31)).seq fun z34 => ((Fu.mutP mAppend z34.1 (Fu.S.cons (Fu.S.cal fTuple (Fu.S.cons (Fu.S.un fRev (Fu.S.ok (.lst z34.2))) Fu.S.nil)) Fu.S.nil)).seq fun z39 => .nx z39.2))) ((Fu.mutP mAppend s16 (Fu.S.cons (Fu.S.ok z17.1) Fu.S.nil)).seq fun z40 => .nx z40.2))
def F_plain_form (a0 : Py.D) : Fu.R (Py.D) := Fu.fin (β := Unit) ((Fu.O.ofP (Fu.S.lst (Fu.S.cons (Fu.S.ok a0) Fu.S.nil))).seq fun z1 => ((Fu.O.ofP (Fu.S.lst Fu.S.nil)).seq fun z2 => ((Fu.whil (fun (s3 : List Py.D × List Py.D) => (Fu.S.truO s3.1)) B_plain_form_1 plain_form_n0 (z1, z2)).seq fun z5 => ((Fu.O.ofP (Fu.S.lst Fu.S.nil)).seq fun z15 => (((Fu.O.ofP (Fu.S.items (Fu.S.un fRev (Fu.S.ok (.lst z5.2))))).seq fun x42 => Fu.loop B_plain_form_3 x42 z15).seq fun z18 => (Fu.retP (fun x => x) (Fu.S.ixO z18 (Fu.S.ok (.int 0)))))))))
theorem y_plain_form (a0 : Py.D) : Fu.CallOk (c_plain_form [.v a0]) (F_plain_form a0) (Fu.uns [a0]) := Fu.fnD (xs := [a0]) (l := [.un, .un, .un, .un, .un, .un, .un, .un]) (n := 9) (Q := fun _ => Fu.anys 9) rfl (by simp [Fu.PlainL]) (Fu.st_seq (Fu.st_setN (Fu.n_lst (Fu.x_cons (Fu.x_v 0 (fun _ => rfl)) Fu.x_nil)) rfl) fun z1 => (Fu.st_seq (Fu.st_setN (Fu.n_lst Fu.x_nil) rfl) fun z2 => (Fu.st_seq (Fu.st_while (L := fun (s3 : List Py.D × List Py.D) => [.v a0, .o s3.1, .o s3.2, .un, .un, .un, .un, .un, .un]) Fu.LE.r (fun s3 => (Fu.x_truO (fun _ => .inl rfl))) (fun s3 => (Fu.st_seq (Fu.st_setMut rfl Fu.x_nil (by decide) rfl) fun z6 => (Fu.st_ifP (Q := fun (s3 : List Py.D × List Py.D) => [.v a0, .o s3.1, .o s3.2, .un, .un, .un, .un, .un, .un]) (Fu.x_tru (Fu.x_cal (Fu.x_cons (Fu.x_w 3 (fun _ => rfl)) (Fu.x_cons (Fu.x_tup (Fu.x_cons Fu.x_c (Fu.x_cons Fu.x_c Fu.x_nil))) Fu.x_nil)))) (Fu.st_seq (Fu.st_mut rfl (Fu.x_cons (Fu.x_tup (Fu.x_cons (Fu.x_cal (Fu.x_cons (Fu.x_w 3 (fun _ => rfl)) Fu.x_nil)) (Fu.x_cons Fu.x_c Fu.x_nil))) Fu.x_nil)) fun z7 => (Fu.st_end (Fu.st_forP (L := fun (s8 : List Py.D) => [.v a0, .o s8, .o z7.2, .w z6.1, .un, .un, .un, .un, .un]) (Qg := fun (s8 : List Py.D) (z9 : Py.D) => [.v a0, .o s8, .o z7.2, .w z6.1, .w z9, .un, .un, .un, .un]) (Fu.x_items (Fu.x_w 3 (fun _ => rfl))) Fu.LE.r (fun s8 => (Fu.tg_nm rfl)) (fun s8 z9 => (Fu.st_end (Fu.st_mut rfl (Fu.x_cons (Fu.x_w 4 (fun _ => rfl)) Fu.x_nil)) (fun z11 => (Fu.LE.c Fu.PtLE.r (Fu.LE.c Fu.PtLE.r (Fu.LE.c Fu.PtLE.r (Fu.LE.c Fu.PtLE.r (Fu.LE.c Fu.PtLE.wu (Fu.LE.c Fu.PtLE.r (Fu.LE.c Fu.PtLE.r (Fu.LE.c Fu.PtLE.r (Fu.LE.c Fu.PtLE.r Fu.LE.n))))))))))))) (fun z10 => (Fu.LE.c Fu.PtLE.r (Fu.LE.c Fu.PtLE.r (Fu.LE.c Fu.PtLE.r (Fu.LE.c Fu.PtLE.wu (Fu.LE.c Fu.PtLE.r (Fu.LE.c Fu.PtLE.r (Fu.LE.c Fu.PtLE.r (Fu.LE.c Fu.PtLE.r (Fu.LE.c Fu.PtLE.r Fu.LE.n)))))))))))) (Fu.st_end (Fu.st_mut rfl (Fu.x_cons (Fu.x_tup (Fu.x_cons (Fu.x_w 3 (fun _ => rfl)) (Fu.x_cons Fu.x_c Fu.x_nil))) Fu.x_nil)) (fun z14 => (Fu.LE.c Fu.PtLE.r (Fu.LE.c Fu.PtLE.r (Fu.LE.c Fu.PtLE.r (Fu.LE.c Fu.PtLE.wu (Fu.LE.c Fu.PtLE.r (Fu.LE.c Fu.PtLE.r (Fu.LE.c Fu.PtLE.r (Fu.LE.c Fu.PtLE.r (Fu.LE.c Fu.PtLE.r Fu.LE.n))))))))))))))) fun z5 => (Fu.st_seq (Fu.st_setN (Fu.n_lst Fu.x_nil) rfl) fun z15 => (Fu.st_seq (Fu.st_wk (Fu.LE.c Fu.PtLE.r (Fu.LE.c Fu.PtLE.r (Fu.LE.c Fu.PtLE.ov (Fu.LE.c Fu.PtLE.r (Fu.LE.c Fu.PtLE.r (Fu.LE.c Fu.PtLE.r (Fu.LE.c Fu.PtLE.r (Fu.LE.c Fu.PtLE.r (Fu.LE.c Fu.PtLE.r Fu.LE.n))))))))) (Fu.st_forP (L := fun (s16 : List Py.D) => [.v a0, .o z5.1, .v (.lst z5.2), .un, .un, .o s16, .un, .un, .un]) (Qg := fun (s16 : List Py.D) (z17 : (Py.D × (Py.D × Unit))) => [.v a0, .o z5.1, .v (.lst z5.2), .w z17.1, .un, .o s16, .w z17.2.1, .un, .un]) (Fu.x_items (Fu.x_un (Fu.x_v 2 (fun _ => rfl)))) Fu.LE.r (fun s16 => (Fu.tg_sq (Fu.tg_c (Q := fun (q22 : Py.D) => [.v a0, .o z5.1, .v (.lst z5.2), .w q22, .un, .o s16, .un, .un, .un]) (Q2 := fun (q30 : (Py.D × (Py.D × Unit))) => [.v a0, .o z5.1, .v (.lst z5.2), .w q30.1, .un, .o s16, .w q30.2.1, .un, .un]) (Fu.tg_nm rfl) (fun q22 => (Fu.tg_c (Q := fun (q24 : Py.D) => [.v a0, .o z5.1, .v (.lst z5.2), .w q22, .un, .o s16, .w q24, .un, .un]) (Q2 := fun (q26 : (Py.D × Unit)) => [.v a0, .o z5.1, .v (.lst z5.2), .w q22, .un, .o s16, .w q26.1, .un, .un]) (Fu.tg_nm rfl) (fun q24 => Fu.tg_0)))))) (fun s16 z17 => (Fu.st_ifP (Q := fun (s16 : List Py.D) => [.v a0, .o z5.1, .v (.lst z5.2), .un, .un, .o s16, .un, .un, .un]) (Fu.x_tru (Fu.x_w 6 (fun _ => rfl))) (Fu.st_seq (Fu.st_setN (Fu.n_lst Fu.x_nil) rfl) fun z31 => (Fu.st_seq (Fu.st_forP (L := fun (s32 : List Py.D × List Py.D) => [.v a0, .o z5.1, .v (.lst z5.2), .w z17.1, .un, .o s32.1, .w z17.2.1, .o s32.2, .un]) (Qg := fun (s32 : List Py.D × List Py.D) (z33 : Py.D) => [.v a0, .o z5.1, .v (.lst z5.2), .w z17.1, .un, .o s32.1, .w z17.2.1, .o s32.2, .w z33]) (Fu.x_it (Fu.x_cons (Fu.x_w 3 (fun _ => rfl)) Fu.x_nil)) Fu.LE.r (fun s32 => (Fu.tg_nm rfl)) (fun s32 z33 => (Fu.st_end (Fu.st_mutS (P := fun (t36 : List Py.D) => [.v a0, .o z5.1, .v (.lst z5.2), .w z17.1, .un, .o t36, .w z17.2.1, .o s32.2, .w z33]) (fun _ => rfl) (Fu.x_cons (Fu.x_hold (Fu.v_mut (Fu.lens_o (p := [.v a0, .o z5.1, .v (.lst z5.2), .w z17.1, .un, .un, .w z17.2.1, .o s32.2, .w z33]) (j := 5) (of_decide_eq_true rfl) : Fu.Lens (fun (t36 : List Py.D) => [.v a0, .o z5.1, .v (.lst z5.2), .w z17.1, .un, .o t36, .w z17.2.1, .o s32.2, .w z33]) 5) Fu.x_nil)) Fu.x_nil)) (fun z35 => (Fu.LE.c Fu.PtLE.r (Fu.LE.c Fu.PtLE.r (Fu.LE.c Fu.PtLE.r (Fu.LE.c Fu.PtLE.r (Fu.LE.c Fu.PtLE.r (Fu.LE.c Fu.PtLE.r (Fu.LE.c Fu.PtLE.r (Fu.LE.c Fu.PtLE.r (Fu.LE.c Fu.PtLE.wu Fu.LE.n))))))))))))) fun z34 => (Fu.st_end (Fu.st_wk (Fu.LE.c Fu.PtLE.r (Fu.LE.c Fu.PtLE.r (Fu.LE.c Fu.PtLE.r (Fu.LE.c Fu.PtLE.r (Fu.LE.c Fu.PtLE.r (Fu.LE.c Fu.PtLE.r (Fu.LE.c Fu.PtLE.r (Fu.LE.c Fu.PtLE.ov (Fu.LE.c Fu.PtLE.r Fu.LE.n))))))))) (Fu.st_mut rfl (Fu.x_cons (Fu.x_cal (Fu.x_cons (Fu.x_un (Fu.x_v 7 (fun _ => rfl))) Fu.x_nil)) Fu.x_nil))) (fun z39 => (Fu.LE.c Fu.PtLE.r (Fu.LE.c Fu.PtLE.r (Fu.LE.c Fu.PtLE.r (Fu.LE.c Fu.PtLE.wu (Fu.LE.c Fu.PtLE.r (Fu.LE.c Fu.PtLE.r (Fu.LE.c Fu.PtLE.wu (Fu.LE.c Fu.PtLE.vu (Fu.LE.c Fu.PtLE.r Fu.LE.n))))))))))))) (Fu.st_end (Fu.st_mut rfl (Fu.x_cons (Fu.x_w 3 (fun _ => rfl)) Fu.x_nil)) (fun z40 => (Fu.LE.c Fu.PtLE.r (Fu.LE.c Fu.PtLE.r (Fu.LE.c Fu.PtLE.r (Fu.LE.c Fu.PtLE.wu (Fu.LE.c Fu.PtLE.r (Fu.LE.c Fu.PtLE.r (Fu.LE.c Fu.PtLE.wu (Fu.LE.c Fu.PtLE.r (Fu.LE.c Fu.PtLE.r Fu.LE.n))))))))))))))) fun z18 => (Fu.st_retP (Fu.v_x (Fu.x_ixO (fun _ => .inl rfl) Fu.x_c)) (fun _ _ h => h) (fun _ => (Fu.LE.anyN rfl)))))))) (fun _ => rfl)
theorem z_plain_form : Fu.Z c_plain_form (Fu.ap1 F_plain_form) := Fu.z1 y_plain_form
def F_check_number (a0 a1 : Py.D) : Fu.R (Py.D) := Fu.fin (β := Unit) ((Fu.iteP (Fu.S.or (Fu.S.not (Fu.S.tru (Fu.S.call (Fu.ap1 F_is_int) (Fu.S.cons (Fu.S.ok a0) Fu.S.nil)))) (Fu.S.tst (Fu.S.bin fLt (Fu.S.ok a0) (Fu.S.ok a1)))) (Fu.raiseO "BadNumber" "at" (Fu.S.call (Fu.ap1 F_plain_form) (Fu.S.cons (Fu.S.ok a0) Fu.S.nil))) (.nx ())).seq fun z1 => (Fu.retP (fun x => x) (Fu.S.ok a0)))
theorem y_check_number (a0 a1 : Py.D) : Fu.CallOk (c_check_number [.v a0, .v a1]) (F_check_number a0 a1) (Fu.uns [a0, a1]) := Fu.fnD (xs := [a0, a1]) (l := []) (n := 2) (Q := fun _ => Fu.anys 2) rfl (by simp [Fu.PlainL]) (Fu.st_seq (Fu.st_ifP (Q := fun (z1 : Unit) => [.v a0, .v a1]) (Fu.x_or (Fu.x_not (Fu.x_tru (Fu.x_hold (Fu.v_call z_is_int (Fu.a_val (Fu.x_v 0 (fun _ => rfl)) Fu.a_nil) (fun _ => (Fu.LE.anyN rfl)))))) (Fu.x_tst (Fu.x_bin (Fu.x_v 0 (fun _ => rfl)) (Fu.x_v 1 (fun _ => rfl))))) (Fu.st_raise (Fu.x_hold (Fu.v_call z_plain_form (Fu.a_val (Fu.x_v 0 (fun _ => rfl)) Fu.a_nil) (fun _ => (Fu.LE.anyN rfl)))) (Fu.LE.anyN rfl)) (Fu.st_next Fu.LE.r)) fun z1 => (Fu.st_retP (Fu.v_x (Fu.x_v 0 (fun _ => rfl))) (fun _ _ h => h) (fun _ => (Fu.LE.anyN rfl)))) (fun _ => rfl)
theorem z_check_number : Fu.Z c_check_number (Fu.ap2 F_check_number) := Fu.z2 y_check_number
def F_check_hour (a0 : Py.D) : Fu.R (Py.D) := Fu.fin (β := Unit) ((Fu.iteP (Fu.S.not (Fu.S.tru (Fu.S.call (Fu.ap1 F_is_int) (Fu.S.cons (Fu.S.ok a0) Fu.S.nil)))) (Fu.raiseO "BadHours" "at" (Fu.S.call (Fu.ap1 F_plain_form) (Fu.S.cons (Fu.S.ok a0) Fu.S.nil))) (.nx ())).seq fun z1 => (Fu.retP (fun x => x) (Fu.S.ok a0)))
theorem y_check_hour (a0 : Py.D) : Fu.CallOk (c_check_hour [.v a0]) (F_check_hour a0) (Fu.uns [a0]) := Fu.fnD (xs := [a0]) (l := []) (n := 1) (Q := fun _ => Fu.anys 1) rfl (by simp [Fu.PlainL]) (Fu.st_seq (Fu.st_ifP (Q := fun (z1 : Unit) => [.v a0]) (Fu.x_not (Fu.x_tru (Fu.x_hold (Fu.v_call z_is_int (Fu.a_val (Fu.x_v 0 (fun _ => rfl)) Fu.a_nil) (fun _ => (Fu.LE.anyN rfl)))))) (Fu.st_raise (Fu.x_hold (Fu.v_call z_plain_form (Fu.a_val (Fu.x_v 0 (fun _ => rfl)) Fu.a_nil) (fun _ => (Fu.LE.anyN rfl)))) (Fu.LE.anyN rfl)) (Fu.st_next Fu.LE.r)) fun z1 => (Fu.st_retP (Fu.v_x (Fu.x_v 0 (fun _ => rfl))) (fun _ _ h => h) (fun _ => (Fu.LE.anyN rfl)))) (fun _ => rfl)
theorem z_check_hour : Fu.Z c_check_hour (Fu.ap1 F_check_hour) := Fu.z1 y_check_hour
def F_wrong_store_part (a0 : Py.D) : Fu.R (Py.D) := Fu.fin (β := Unit) ((Fu.iteP (Fu.S.or (Fu.S.not (Fu.S.tru (Fu.S.cal (fIs T) (Fu.S.cons (Fu.S.ok a0) (Fu.S.cons (Fu.S.tup (Fu.S.cons (Fu.S.ok (.ty .tup)) (Fu.S.cons (Fu.S.ok (.ty .lst)) Fu.S.nil))) Fu.S.nil))))) (Fu.S.tst (Fu.S.bin fNe (Fu.S.cal fLen (Fu.S.cons (Fu.S.ok a0) Fu.S.nil)) (Fu.S.ok (.int 4))))) (Fu.retP (fun x => x) (Fu.S.un fNeg (Fu.S.ok (.int 1)))) (.nx ())).seq fun z1 => (((Fu.O.ofP (Fu.S.ok a0)).seq fun y123 => Fu.O.ofO ((Fu.tSq 4 (Fu.tC some (Fu.tC some (Fu.tC some (Fu.tC some Fu.t0))))) y123)).seq fun z2 => ((Fu.iteP (Fu.S.or (Fu.S.not (Fu.S.tru (Fu.S.call (Fu.ap1 F_is_int) (Fu.S.cons (Fu.S.ok z2.1) Fu.S.nil)))) (Fu.S.tst (Fu.S.bin fLt (Fu.S.ok z2.1) (Fu.S.ok (.int 0))))) (Fu.retP (fun x => x) (Fu.S.ok (.int 0))) (.nx ())).seq fun z124 => ((Fu.iteP (Fu.S.and (Fu.S.tst (Fu.S.bin fIsNot (Fu.S.ok z2.2.1) (Fu.S.ok .non))) (Fu.S.or (Fu.S.not (Fu.S.tru (Fu.S.call (Fu.ap1 F_is_int) (Fu.S.cons (Fu.S.ok z2.2.1) Fu.S.nil)))) (Fu.S.tst (Fu.S.bin fLt (Fu.S.ok z2.2.1) (Fu.S.ok (.int 0)))))) (Fu.retP (fun x => x) (Fu.S.ok (.int 1))) (.nx ())).seq fun z125 => ((Fu.iteP (Fu.S.or (Fu.S.not (Fu.S.tru (Fu.S.call (Fu.ap1 F_is_int) (Fu.S.cons (Fu.S.ok z2.2.2.1) Fu.S.nil)))) (Fu.S.tst (Fu.S.bin fLt (Fu.S.ok z2.2.2.1) (Fu.S.ok (.int 0))))) (Fu.retP (fun x => x) (Fu.S.ok (.int 2))) (.nx ())).seq fun z126 => ((Fu.iteP (Fu.S.or (Fu.S.not (Fu.S.tru (Fu.S.cal (fIs T) (Fu.S.cons (Fu.S.ok z2.2.2.2.1) (Fu.S.cons (Fu.S.ok (.ty .str)) Fu.S.nil))))) (Fu.S.tst (Fu.S.bin (fInW true) (Fu.S.ok z2.2.2.2.1) (Fu.S.tup (Fu.S.cons (Fu.S.ok (.str "anew")) (Fu.S.cons (Fu.S.ok (.str "on")) Fu.S.nil)))))) (Fu.retP (fun x => x) (Fu.S.ok (.int 3))) (.nx ())).seq fun z127 => (Fu.retP (fun x => x) (Fu.S.ok .non))))))))
theorem y_wrong_store_part (a0 : Py.D) : Fu.CallOk (c_wrong_store_part [.v a0]) (F_wrong_store_part a0) (Fu.uns [a0]) := Fu.fnD (xs := [a0]) (l := [.un, .un, .un, .un]) (n := 5) (Q := fun _ => Fu.anys 5) rfl (by simp [Fu.PlainL]) (Fu.st_seq (Fu.st_ifP (Q := fun (z1 : Unit) => [.v a0, .un, .un, .un, .un]) (Fu.x_or (Fu.x_not (Fu.x_tru (Fu.x_cal (Fu.x_cons (Fu.x_v 0 (fun _ => rfl)) (Fu.x_cons (Fu.x_tup (Fu.x_cons Fu.x_c (Fu.x_cons Fu.x_c Fu.x_nil))) Fu.x_nil))))) (Fu.x_tst (Fu.x_bin (Fu.x_cal (Fu.x_cons (Fu.x_v 0 (fun _ => rfl)) Fu.x_nil)) Fu.x_c))) (Fu.st_retP (Fu.v_x (Fu.x_un Fu.x_c)) (fun _ _ h => h) (fun _ => (Fu.LE.anyN rfl))) (Fu.st_next Fu.LE.r)) fun z1 => (Fu.st_seq (Fu.st_asg (Q := fun (z2 : (Py.D × (Py.D × (Py.D × (Py.D × Unit))))) => [.v a0, .w z2.1, .w z2.2.1, .w z2.2.2.1, .w z2.2.2.2.1]) (Fu.x_v 0 (fun _ => rfl)) (Fu.tg_sq (Fu.tg_c (Q := fun (q42 : Py.D) => [.v a0, .w q42, .un, .un, .un]) (Q2 := fun (q122 : (Py.D × (Py.D × (Py.D × (Py.D × Unit))))) => [.v a0, .w q122.1, .w q122.2.1, .w q122.2.2.1, .w q122.2.2.2.1]) (Fu.tg_nm rfl) (fun q42 => (Fu.tg_c (Q := fun (q56 : Py.D) => [.v a0, .w q42, .w q56, .un, .un]) (Q2 := fun (q82 : (Py.D × (Py.D × (Py.D × Unit)))) => [.v a0, .w q42, .w q82.1, .w q82.2.1, .w q82.2.2.1]) (Fu.tg_nm rfl) (fun q56 => (Fu.tg_c (Q := fun (q61 : Py.D) => [.v a0, .w q42, .w q56, .w q61, .un]) (Q2 := fun (q69 : (Py.D × (Py.D × Unit))) => [.v a0, .w q42, .w q56, .w q69.1, .w q69.2.1]) (Fu.tg_nm rfl) (fun q61 => (Fu.tg_c (Q := fun (q63 : Py.D) => [.v a0, .w q42, .w q56, .w q61, .w q63]) (Q2 := fun (q65 : (Py.D × Unit)) => [.v a0, .w q42, .w q56, .w q61, .w q65.1]) (Fu.tg_nm rfl) (fun q63 => Fu.tg_0)))))))))) fun z2 => (Fu.st_seq (Fu.st_ifP (Q := fun (z124 : Unit) => [.v a0, .w z2.1, .w z2.2.1, .w z2.2.2.1, .w z2.2.2.2.1]) (Fu.x_or (Fu.x_not (Fu.x_tru (Fu.x_hold (Fu.v_call z_is_int (Fu.a_val (Fu.x_w 1 (fun _ => rfl)) Fu.a_nil) (fun _ => (Fu.LE.anyN rfl)))))) (Fu.x_tst (Fu.x_bin (Fu.x_w 1 (fun _ => rfl)) Fu.x_c))) (Fu.st_retP (Fu.v_x Fu.x_c) (fun _ _ h => h) (fun _ => (Fu.LE.anyN rfl))) (Fu.st_next Fu.LE.r)) fun z124 => (Fu.st_seq (Fu.st_ifP (Q := fun (z125 : Unit) => [.v a0, .w z2.1, .w z2.2.1, .w z2.2.2.1, .w z2.2.2.2.1]) (Fu.x_and (Fu.x_tst (Fu.x_bin (Fu.x_w 2 (fun _ => rfl)) Fu.x_c)) (Fu.x_or (Fu.x_not (Fu.x_tru (Fu.x_hold (Fu.v_call z_is_int (Fu.a_val (Fu.x_w 2 (fun _ => rfl)) Fu.a_nil) (fun _ => (Fu.LE.anyN rfl)))))) (Fu.x_tst (Fu.x_bin (Fu.x_w 2 (fun _ => rfl)) Fu.x_c)))) (Fu.st_retP (Fu.v_x Fu.x_c) (fun _ _ h => h) (fun _ => (Fu.LE.anyN rfl))) (Fu.st_next Fu.LE.r)) fun z125 => (Fu.st_seq (Fu.st_ifP (Q := fun (z126 : Unit) => [.v a0, .w z2.1, .w z2.2.1, .w z2.2.2.1, .w z2.2.2.2.1]) (Fu.x_or (Fu.x_not (Fu.x_tru (Fu.x_hold (Fu.v_call z_is_int (Fu.a_val (Fu.x_w 3 (fun _ => rfl)) Fu.a_nil) (fun _ => (Fu.LE.anyN rfl)))))) (Fu.x_tst (Fu.x_bin (Fu.x_w 3 (fun _ => rfl)) Fu.x_c))) (Fu.st_retP (Fu.v_x Fu.x_c) (fun _ _ h => h) (fun _ => (Fu.LE.anyN rfl))) (Fu.st_next Fu.LE.r)) fun z126 => (Fu.st_seq (Fu.st_ifP (Q := fun (z127 : Unit) => [.v a0, .w z2.1, .w z2.2.1, .w z2.2.2.1, .w z2.2.2.2.1]) (Fu.x_or (Fu.x_not (Fu.x_tru (Fu.x_cal (Fu.x_cons (Fu.x_w 4 (fun _ => rfl)) (Fu.x_cons Fu.x_c Fu.x_nil))))) (Fu.x_tst (Fu.x_bin (Fu.x_w 4 (fun _ => rfl)) (Fu.x_tup (Fu.x_cons Fu.x_c (Fu.x_cons Fu.x_c Fu.x_nil)))))) (Fu.st_retP (Fu.v_x Fu.x_c) (fun _ _ h => h) (fun _ => (Fu.LE.anyN rfl))) (Fu.st_next Fu.LE.r)) fun z127 => (Fu.st_retP (Fu.v_x Fu.x_c) (fun _ _ h => h) (fun _ => (Fu.LE.anyN rfl))))))))) (fun _ => rfl)
theorem z_wrong_store_part : Fu.Z c_wrong_store_part (Fu.ap1 F_wrong_store_part) := Fu.z1 y_wrong_store_part
def B_wrong_way_place_0  : (Unit) → Py.D → Fu.O (Py.D) (Unit) (Unit) := fun (s2 : Unit) x18 => (Fu.O.ofO ((Fu.tSq 2 (Fu.tC some (Fu.tC some Fu.t0))) x18)).seq fun z3 => ((Fu.O.ofP (Fu.S.call (Fu.ap1 F_wrong_store_part) (Fu.S.cons (Fu.S.ok z3.2.1) Fu.S.nil))).seq fun z17 => (Fu.iteP (Fu.S.tst (Fu.S.bin fIsNot (Fu.S.ok z17) (Fu.S.ok .non))) (Fu.retP (fun x => x) (Fu.S.tup (Fu.S.cons (Fu.S.ok z3.1) (Fu.S.cons (Fu.S.ok z17) Fu.S.nil)))) (.nx ())))
def F_wrong_way_place (a0 : Py.D) : Fu.R (Py.D) := Fu.fin (β := Unit) ((Fu.iteP (Fu.S.or (Fu.S.not (Fu.S.tru (Fu.S.cal (fIs T) (Fu.S.cons (Fu.S.ok a0) (Fu.S.cons (Fu.S.tup (Fu.S.cons (Fu.S.ok (.ty .tup)) (Fu.S.cons (Fu.S.ok (.ty .lst)) Fu.S.nil))) Fu.S.nil))))) (Fu.S.tst (Fu.S.bin fEq (Fu.S.cal fLen (Fu.S.cons (Fu.S.ok a0) Fu.S.nil)) (Fu.S.ok (.int 0))))) (Fu.retP (fun x => x) (Fu.S.tup (Fu.S.cons (Fu.S.un fNeg (Fu.S.ok (.int 1))) (Fu.S.cons (Fu.S.un fNeg (Fu.S.ok (.int 1))) Fu.S.nil)))) (.nx ())).seq fun z1 => (((Fu.O.ofP (Fu.S.it fEnum (Fu.S.cons (Fu.S.ok a0) Fu.S.nil))).seq fun x19 => Fu.loop B_wrong_way_place_0 x19 ()).seq fun z4 => (Fu.retP (fun x => x) (Fu.S.ok .non))))
theorem y_wrong_way_place (a0 : Py.D) : Fu.CallOk (c_wrong_way_place [.v a0]) (F_wrong_way_place a0) (Fu.uns [a0]) := Fu.fnD (xs := [a0]) (l := [.un, .un, .un]) (n := 4) (Q := fun _ => Fu.anys 4) rfl (by simp [Fu.PlainL]) (Fu.st_seq (Fu.st_ifP (Q := fun (z1 : Unit) => [.v a0, .un, .un, .un]) (Fu.x_or (Fu.x_not (Fu.x_tru (Fu.x_cal (Fu.x_cons (Fu.x_v 0 (fun _ => rfl)) (Fu.x_cons (Fu.x_tup (Fu.x_cons Fu.x_c (Fu.x_cons Fu.x_c Fu.x_nil))) Fu.x_nil))))) (Fu.x_tst (Fu.x_bin (Fu.x_cal (Fu.x_cons (Fu.x_v 0 (fun _ => rfl)) Fu.x_nil)) Fu.x_c))) (Fu.st_retP (Fu.v_x (Fu.x_tup (Fu.x_cons (Fu.x_un Fu.x_c) (Fu.x_cons (Fu.x_un Fu.x_c) Fu.x_nil)))) (fun _ _ h => h) (fun _ => (Fu.LE.anyN rfl))) (Fu.st_next Fu.LE.r)) fun z1 => (Fu.st_seq (Fu.st_forP (L := fun (s2 : Unit) => [.v a0, .un, .un, .un]) (Qg := fun (s2 : Unit) (z3 : (Py.D × (Py.D × Unit))) => [.v a0, .w z3.1, .w z3.2.1, .un]) (Fu.x_it (Fu.x_cons (Fu.x_v 0 (fun _ => rfl)) Fu.x_nil)) Fu.LE.r (fun s2 => (Fu.tg_sq (Fu.tg_c (Q := fun (q8 : Py.D) => [.v a0, .w q8, .un, .un]) (Q2 := fun (q16 : (Py.D × (Py.D × Unit))) => [.v a0, .w q16.1, .w q16.2.1, .un]) (Fu.tg_nm rfl) (fun q8 => (Fu.tg_c (Q := fun (q10 : Py.D) => [.v a0, .w q8, .w q10, .un]) (Q2 := fun (q12 : (Py.D × Unit)) => [.v a0, .w q8, .w q12.1, .un]) (Fu.tg_nm rfl) (fun q10 => Fu.tg_0)))))) (fun s2 z3 => (Fu.st_seq (Fu.st_setP (Fu.v_call z_wrong_store_part (Fu.a_val (Fu.x_w 2 (fun _ => rfl)) Fu.a_nil) (fun _ => (Fu.LE.anyN rfl))) rfl) fun z17 => (Fu.st_ifP (Q := fun (s2 : Unit) => [.v a0, .un, .un, .un]) (Fu.x_tst (Fu.x_bin (Fu.x_v 3 (fun _ => rfl)) Fu.x_c)) (Fu.st_retP (Fu.v_x (Fu.x_tup (Fu.x_cons (Fu.x_w 1 (fun _ => rfl)) (Fu.x_cons (Fu.x_v 3 (fun _ => rfl)) Fu.x_nil)))) (fun _ _ h => h) (fun _ => (Fu.LE.anyN rfl))) (Fu.st_next (Fu.LE.c Fu.PtLE.r (Fu.LE.c Fu.PtLE.wu (Fu.LE.c Fu.PtLE.wu (Fu.LE.c Fu.PtLE.vu Fu.LE.n))))))))) fun z4 => (Fu.st_retP (Fu.v_x Fu.x_c) (fun _ _ h => h) (fun _ => (Fu.LE.anyN rfl))))) (fun _ => rfl)
theorem z_wrong_way_place : Fu.Z c_wrong_way_place (Fu.ap1 F_wrong_way_place) := Fu.z1 y_wrong_way_place
def B_plain_way_0  : (List Py.D) → Py.D → Fu.O (Py.D) (List Py.D) (List Py.D) := fun (s2 : List Py.D) x6 => (Fu.O.ofO (some x6)).seq fun z3 => ((Fu.mutP mAppend s2 (Fu.S.cons (Fu.S.cal fTuple (Fu.S.cons (Fu.S.ok z3) Fu.S.nil)) Fu.S.nil)).seq fun z5 => .nx z5.2)
def F_plain_way (a0 : Py.D) : Fu.R (Py.D) := Fu.fin (β := Unit) ((Fu.O.ofP (Fu.S.lst Fu.S.nil)).seq fun z1 => (((Fu.O.ofP (Fu.S.items (Fu.S.ok a0))).seq fun x7 => Fu.loop B_plain_way_0 x7 z1).seq fun z4 => (Fu.retP (fun x => x) (Fu.S.cal fTuple (Fu.S.cons (Fu.S.ok (.lst z4)) Fu.S.nil)))))
theorem y_plain_way (a0 : Py.D) : Fu.CallOk (c_plain_way [.v a0]) (F_plain_way a0) (Fu.uns [a0]) := Fu.fnD (xs := [a0]) (l := [.un, .un]) (n := 3) (Q := fun _ => Fu.anys 3) rfl (by simp [Fu.PlainL]) (Fu.st_seq (Fu.st_setN (Fu.n_lst Fu.x_nil) rfl) fun z1 => (Fu.st_seq (Fu.st_forP (L := fun (s2 : List Py.D) => [.v a0, .o s2, .un]) (Qg := fun (s2 : List Py.D) (z3 : Py.D) => [.v a0, .o s2, .w z3]) (Fu.x_items (Fu.x_v 0 (fun _ => rfl))) Fu.LE.r (fun s2 => (Fu.tg_nm rfl)) (fun s2 z3 => (Fu.st_end (Fu.st_mut rfl (Fu.x_cons (Fu.x_cal (Fu.x_cons (Fu.x_w 2 (fun _ => rfl)) Fu.x_nil)) Fu.x_nil)) (fun z5 => (Fu.LE.c Fu.PtLE.r (Fu.LE.c Fu.PtLE.r (Fu.LE.c Fu.PtLE.wu Fu.LE.n))))))) fun z4 => (Fu.st_wk (Fu.LE.c Fu.PtLE.r (Fu.LE.c Fu.PtLE.ov (Fu.LE.c Fu.PtLE.r Fu.LE.n))) (Fu.st_retP (Fu.v_x (Fu.x_cal (Fu.x_cons (Fu.x_v 1 (fun _ => rfl)) Fu.x_nil))) (fun _ _ h => h) (fun _ => (Fu.LE.anyN rfl)))))) (fun _ => rfl)
theorem z_plain_way : Fu.Z c_plain_way (Fu.ap1 F_plain_way) := Fu.z1 y_plain_way
def F_check_way (a0 : Py.D) : Fu.R (Py.D) := Fu.fin (β := Unit) ((Fu.O.ofP (Fu.S.call (Fu.ap1 F_wrong_way_place) (Fu.S.cons (Fu.S.ok a0) Fu.S.nil))).seq fun z1 => ((Fu.iteP (Fu.S.tst (Fu.S.bin fIsNot (Fu.S.ok z1) (Fu.S.ok .non))) (Fu.raiseO "BadStore" "at" (Fu.S.ok z1)) (.nx ())).seq fun z2 => (Fu.retP (fun x => x) (Fu.S.call (Fu.ap1 F_plain_way) (Fu.S.cons (Fu.S.ok a0) Fu.S.nil)))))
theorem y_check_way (a0 : Py.D) : Fu.CallOk (c_check_way [.v a0]) (F_check_way a0) (Fu.uns [a0]) := Fu.fnD (xs := [a0]) (l := [.un]) (n := 2) (Q := fun _ => Fu.anys 2) rfl (by simp [Fu.PlainL]) (Fu.st_seq (Fu.st_setP (Fu.v_call z_wrong_way_place (Fu.a_val (Fu.x_v 0 (fun _ => rfl)) Fu.a_nil) (fun _ => (Fu.LE.anyN rfl))) rfl) fun z1 => (Fu.st_seq (Fu.st_ifP (Q := fun (z2 : Unit) => [.v a0, .v z1]) (Fu.x_tst (Fu.x_bin (Fu.x_v 1 (fun _ => rfl)) Fu.x_c)) (Fu.st_raise (Fu.x_v 1 (fun _ => rfl)) (Fu.LE.anyN rfl)) (Fu.st_next Fu.LE.r)) fun z2 => (Fu.st_retP (Fu.v_call z_plain_way (Fu.a_val (Fu.x_v 0 (fun _ => rfl)) Fu.a_nil) (fun _ => (Fu.LE.anyN rfl))) (fun _ _ h => h) (fun _ => (Fu.LE.anyN rfl))))) (fun _ => rfl)
theorem z_check_way : Fu.Z c_check_way (Fu.ap1 F_check_way) := Fu.z1 y_check_way
def B_plain_groups_0 (a0 : Py.D) : (List Py.D × Py.D) → Py.D → Fu.O (Py.D) (List Py.D × Py.D) (List Py.D × Py.D) := fun (s3 : List Py.D × Py.D) x20 => (Fu.O.ofO ((Fu.tSq 2 (Fu.tC some (Fu.tC some Fu.t0))) x20)).seq fun z4 => (Fu.iteP (Fu.S.or (Fu.S.tst (Fu.S.bin fEq (Fu.S.bin fIx (Fu.S.ok z4.2.1) (Fu.S.ok (.int 3))) (Fu.S.ok (.str "anew")))) (Fu.S.tst (Fu.S.bin fEq (Fu.S.ok z4.1) (Fu.S.bin fSub (Fu.S.cal fLen (Fu.S.cons (Fu.S.ok a0) Fu.S.nil)) (Fu.S.ok (.int 1)))))) ((Fu.mutP mAppend s3.1 (Fu.S.cons (Fu.S.tupRg2 (Fu.S.ok s3.2) (Fu.S.bin fAdd (Fu.S.ok z4.1) (Fu.S.ok (.int 1)))) Fu.S.nil)).seq fun z18 => ((Fu.O.ofP (Fu.S.bin fAdd (Fu.S.ok z4.1) (Fu.S.ok (.int 1)))).seq fun z19 => .nx (z18.2, z19))) (.nx (s3.1, s3.2)))
def F_plain_groups (a0 : Py.D) : Fu.R (Py.D) := Fu.fin (β := Unit) ((Fu.O.ofP (Fu.S.lst Fu.S.nil)).seq fun z1 => ((Fu.O.ofP (Fu.S.ok (.int 0))).seq fun z2 => (((Fu.O.ofP (Fu.S.it fEnum (Fu.S.cons (Fu.S.ok a0) Fu.S.nil))).seq fun x21 => Fu.loop (B_plain_groups_0 a0) x21 (z1, z2)).seq fun z5 => (Fu.retP (fun x => x) (Fu.S.cal fTuple (Fu.S.cons (Fu.S.ok (.lst z5.1)) Fu.S.nil))))))
theorem y_plain_groups (a0 : Py.D) : Fu.CallOk (c_plain_groups [.v a0]) (F_plain_groups a0) (Fu.uns [a0]) := Fu.fnD (xs := [a0]) (l := [.un, .un, .un, .un]) (n := 5) (Q := fun _ => Fu.anys 5) rfl (by simp [Fu.PlainL]) (Fu.st_seq (Fu.st_setN (Fu.n_lst Fu.x_nil) rfl) fun z1 => (Fu.st_seq (Fu.st_setP (Fu.v_x Fu.x_c) rfl) fun z2 => (Fu.st_seq (Fu.st_forP (L := fun (s3 : List Py.D × Py.D) => [.v a0, .o s3.1, .v s3.2, .un, .un]) (Qg := fun (s3 : List Py.D × Py.D) (z4 : (Py.D × (Py.D × Unit))) => [.v a0, .o s3.1, .v s3.2, .w z4.1, .w z4.2.1]) (Fu.x_it (Fu.x_cons (Fu.x_v 0 (fun _ => rfl)) Fu.x_nil)) Fu.LE.r (fun s3 => (Fu.tg_sq (Fu.tg_c (Q := fun (q9 : Py.D) => [.v a0, .o s3.1, .v s3.2, .w q9, .un]) (Q2 := fun (q17 : (Py.D × (Py.D × Unit))) => [.v a0, .o s3.1, .v s3.2, .w q17.1, .w q17.2.1]) (Fu.tg_nm rfl) (fun q9 => (Fu.tg_c (Q := fun (q11 : Py.D) => [.v a0, .o s3.1, .v s3.2, .w q9, .w q11]) (Q2 := fun (q13 : (Py.D × Unit)) => [.v a0, .o s3.1, .v s3.2, .w q9, .w q13.1]) (Fu.tg_nm rfl) (fun q11 => Fu.tg_0)))))) (fun s3 z4 => (Fu.st_ifP (Q := fun (s3 : List Py.D × Py.D) => [.v a0, .o s3.1, .v s3.2, .un, .un]) (Fu.x_or (Fu.x_tst (Fu.x_bin (Fu.x_bin (Fu.x_w 4 (fun _ => rfl)) Fu.x_c) Fu.x_c)) (Fu.x_tst (Fu.x_bin (Fu.x_w 3 (fun _ => rfl)) (Fu.x_bin (Fu.x_cal (Fu.x_cons (Fu.x_v 0 (fun _ => rfl)) Fu.x_nil)) Fu.x_c)))) (Fu.st_seq (Fu.st_mut rfl (Fu.x_cons (Fu.x_tupRg2 (Fu.x_v 2 (fun _ => rfl)) (Fu.x_bin (Fu.x_w 3 (fun _ => rfl)) Fu.x_c)) Fu.x_nil)) fun z18 => (Fu.st_end (Fu.st_setP (Fu.v_x (Fu.x_bin (Fu.x_w 3 (fun _ => rfl)) Fu.x_c)) rfl) (fun z19 => (Fu.LE.c Fu.PtLE.r (Fu.LE.c Fu.PtLE.r (Fu.LE.c Fu.PtLE.r (Fu.LE.c Fu.PtLE.wu (Fu.LE.c Fu.PtLE.wu Fu.LE.n)))))))) (Fu.st_next (Fu.LE.c Fu.PtLE.r (Fu.LE.c Fu.PtLE.r (Fu.LE.c Fu.PtLE.r (Fu.LE.c Fu.PtLE.wu (Fu.LE.c Fu.PtLE.wu Fu.LE.n))))))))) fun z5 => (Fu.st_wk (Fu.LE.c Fu.PtLE.r (Fu.LE.c Fu.PtLE.ov (Fu.LE.c Fu.PtLE.r (Fu.LE.c Fu.PtLE.r (Fu.LE.c Fu.PtLE.r Fu.LE.n))))) (Fu.st_retP (Fu.v_x (Fu.x_cal (Fu.x_cons (Fu.x_v 1 (fun _ => rfl)) Fu.x_nil))) (fun _ _ h => h) (fun _ => (Fu.LE.anyN rfl))))))) (fun _ => rfl)
theorem z_plain_groups : Fu.Z c_plain_groups (Fu.ap1 F_plain_groups) := Fu.z1 y_plain_groups
def B_plain_caps_0 (a0 : Py.D) : (Py.D) → Py.D → Fu.O (Py.D) (Py.D) (Py.D) := fun (s6 : Py.D) x11 => (Fu.O.ofO (some x11)).seq fun z7 => ((Fu.O.ofP (Fu.S.bin fIx (Fu.S.bin fIx (Fu.S.ok a0) (Fu.S.ok z7)) (Fu.S.ok (.int 1)))).seq fun z9 => (Fu.iteP (Fu.S.tst (Fu.S.bin fIsNot (Fu.S.ok s6) (Fu.S.ok .non))) ((Fu.O.ofP (Fu.S.ife (Fu.S.tst (Fu.S.bin fIsN (Fu.S.ok z9) (Fu.S.ok .non))) (Fu.S.ok .non) (Fu.S.bin fAdd (Fu.S.ok s6) (Fu.S.ok z9)))).seq fun z10 => .nx z10) (.nx s6)))
def B_plain_caps_1 (a0 : Py.D) : (List Py.D) → Py.D → Fu.O (Py.D) (List Py.D) (List Py.D) := fun (s2 : List Py.D) x14 => (Fu.O.ofO (some x14)).seq fun z3 => ((Fu.O.ofP (Fu.S.ok (.int 0))).seq fun z5 => (((Fu.O.ofP (Fu.S.items (Fu.S.ok z3))).seq fun x12 => Fu.loop (B_plain_caps_0 a0) x12 z5).seq fun z8 => ((Fu.mutP mAppend s2 (Fu.S.cons (Fu.S.ok z8) Fu.S.nil)).seq fun z13 => .nx z13.2)))
def F_plain_caps (a0 : Py.D) : Fu.R (Py.D) := Fu.fin (β := Unit) ((Fu.O.ofP (Fu.S.lst Fu.S.nil)).seq fun z1 => (((Fu.O.ofP (Fu.S.items (Fu.S.call (Fu.ap1 F_plain_groups) (Fu.S.cons (Fu.S.ok a0) Fu.S.nil)))).seq fun x15 => Fu.loop (B_plain_caps_1 a0) x15 z1).seq fun z4 => (Fu.retP (fun x => x) (Fu.S.cal fTuple (Fu.S.cons (Fu.S.ok (.lst z4)) Fu.S.nil)))))
theorem y_plain_caps (a0 : Py.D) : Fu.CallOk (c_plain_caps [.v a0]) (F_plain_caps a0) (Fu.uns [a0]) := Fu.fnD (xs := [a0]) (l := [.un, .un, .un, .un, .un]) (n := 6) (Q := fun _ => Fu.anys 6) rfl (by simp [Fu.PlainL]) (Fu.st_seq (Fu.st_setN (Fu.n_lst Fu.x_nil) rfl) fun z1 => (Fu.st_seq (Fu.st_forP (L := fun (s2 : List Py.D) => [.v a0, .o s2, .un, .un, .un, .un]) (Qg := fun (s2 : List Py.D) (z3 : Py.D) => [.v a0, .o s2, .w z3, .un, .un, .un]) (Fu.x_items (Fu.x_hold (Fu.v_call z_plain_groups (Fu.a_val (Fu.x_v 0 (fun _ => rfl)) Fu.a_nil) (fun _ => (Fu.LE.anyN rfl))))) Fu.LE.r (fun s2 => (Fu.tg_nm rfl)) (fun s2 z3 => (Fu.st_seq (Fu.st_setP (Fu.v_x Fu.x_c) rfl) fun z5 => (Fu.st_seq (Fu.st_forP (L := fun (s6 : Py.D) => [.v a0, .o s2, .w z3, .v s6, .un, .un]) (Qg := fun (s6 : Py.D) (z7 : Py.D) => [.v a0, .o s2, .w z3, .v s6, .w z7, .un]) (Fu.x_items (Fu.x_w 2 (fun _ => rfl))) Fu.LE.r (fun s6 => (Fu.tg_nm rfl)) (fun s6 z7 => (Fu.st_seq (Fu.st_setP (Fu.v_x (Fu.x_bin (Fu.x_bin (Fu.x_v 0 (fun _ => rfl)) (Fu.x_w 4 (fun _ => rfl))) Fu.x_c)) rfl) fun z9 => (Fu.st_ifP (Q := fun (s6 : Py.D) => [.v a0, .o s2, .w z3, .v s6, .un, .un]) (Fu.x_tst (Fu.x_bin (Fu.x_v 3 (fun _ => rfl)) Fu.x_c)) (Fu.st_end (Fu.st_setP (Fu.v_x (Fu.x_ife (Fu.x_tst (Fu.x_bin (Fu.x_v 5 (fun _ => rfl)) Fu.x_c)) Fu.x_c (Fu.x_bin (Fu.x_v 3 (fun _ => rfl)) (Fu.x_v 5 (fun _ => rfl))))) rfl) (fun z10 => (Fu.LE.c Fu.PtLE.r (Fu.LE.c Fu.PtLE.r (Fu.LE.c Fu.PtLE.r (Fu.LE.c Fu.PtLE.r (Fu.LE.c Fu.PtLE.wu (Fu.LE.c Fu.PtLE.vu Fu.LE.n)))))))) (Fu.st_next (Fu.LE.c Fu.PtLE.r (Fu.LE.c Fu.PtLE.r (Fu.LE.c Fu.PtLE.r (Fu.LE.c Fu.PtLE.r (Fu.LE.c Fu.PtLE.wu (Fu.LE.c Fu.PtLE.vu Fu.LE.n))))))))))) fun z8 => (Fu.st_end (Fu.st_mut rfl (Fu.x_cons (Fu.x_v 3 (fun _ => rfl)) Fu.x_nil)) (fun z13 => (Fu.LE.c Fu.PtLE.r (Fu.LE.c Fu.PtLE.r (Fu.LE.c Fu.PtLE.wu (Fu.LE.c Fu.PtLE.vu (Fu.LE.c Fu.PtLE.r (Fu.LE.c Fu.PtLE.r Fu.LE.n)))))))))))) fun z4 => (Fu.st_wk (Fu.LE.c Fu.PtLE.r (Fu.LE.c Fu.PtLE.ov (Fu.LE.c Fu.PtLE.r (Fu.LE.c Fu.PtLE.r (Fu.LE.c Fu.PtLE.r (Fu.LE.c Fu.PtLE.r Fu.LE.n)))))) (Fu.st_retP (Fu.v_x (Fu.x_cal (Fu.x_cons (Fu.x_v 1 (fun _ => rfl)) Fu.x_nil))) (fun _ _ h => h) (fun _ => (Fu.LE.anyN rfl)))))) (fun _ => rfl)
theorem z_plain_caps : Fu.Z c_plain_caps (Fu.ap1 F_plain_caps) := Fu.z1 y_plain_caps
def B_plain_base_0  : (Py.D) → Py.D → Fu.O (Py.D) (Py.D) (Py.D) := fun (s2 : Py.D) x6 => (Fu.O.ofO (some x6)).seq fun z3 => ((Fu.O.ofP (Fu.S.bin fAdd (Fu.S.bin fAdd (Fu.S.ok s2) (Fu.S.bin fIx (Fu.S.ok z3) (Fu.S.ok (.int 0)))) (Fu.S.bin fIx (Fu.S.ok z3) (Fu.S.ok (.int 2))))).seq fun z5 => .nx z5)
def F_plain_base (a0 : Py.D) : Fu.R (Py.D) := Fu.fin (β := Unit) ((Fu.O.ofP (Fu.S.ok (.int 0))).seq fun z1 => (((Fu.O.ofP (Fu.S.items (Fu.S.ok a0))).seq fun x7 => Fu.loop B_plain_base_0 x7 z1).seq fun z4 => (.rt z4)))
theorem y_plain_base (a0 : Py.D) : Fu.CallOk (c_plain_base [.v a0]) (F_plain_base a0) (Fu.uns [a0]) := Fu.fnD (xs := [a0]) (l := [.un, .un]) (n := 3) (Q := fun _ => Fu.anys 3) rfl (by simp [Fu.PlainL]) (Fu.st_seq (Fu.st_setP (Fu.v_x Fu.x_c) rfl) fun z1 => (Fu.st_seq (Fu.st_forP (L := fun (s2 : Py.D) => [.v a0, .v s2, .un]) (Qg := fun (s2 : Py.D) (z3 : Py.D) => [.v a0, .v s2, .w z3]) (Fu.x_items (Fu.x_v 0 (fun _ => rfl))) Fu.LE.r (fun s2 => (Fu.tg_nm rfl)) (fun s2 z3 => (Fu.st_end (Fu.st_setP (Fu.v_x (Fu.x_bin (Fu.x_bin (Fu.x_v 1 (fun _ => rfl)) (Fu.x_bin (Fu.x_w 2 (fun _ => rfl)) Fu.x_c)) (Fu.x_bin (Fu.x_w 2 (fun _ => rfl)) Fu.x_c))) rfl) (fun z5 => (Fu.LE.c Fu.PtLE.r (Fu.LE.c Fu.PtLE.r (Fu.LE.c Fu.PtLE.wu Fu.LE.n))))))) fun z4 => (Fu.st_retMV (j := 1) rfl (fun _ h => h) (Fu.LE.anyN rfl)))) (fun _ => rfl)
theorem z_plain_base : Fu.Z c_plain_base (Fu.ap1 F_plain_base) := Fu.z1 y_plain_base
def B_life_shares_0 (a1 : Py.D) : (List Py.D) → Py.D → Fu.O (Py.D) (List Py.D) (List Py.D) := fun (s2 : List Py.D) x6 => (Fu.O.ofO (some x6)).seq fun z3 => ((Fu.mutP mAppend s2 (Fu.S.cons (Fu.S.ife (Fu.S.tst (Fu.S.bin fIsN (Fu.S.ok z3) (Fu.S.ok .non))) (Fu.S.ok a1) (Fu.S.cal fMin (Fu.S.cons (Fu.S.ok a1) (Fu.S.cons (Fu.S.ok z3) Fu.S.nil)))) Fu.S.nil)).seq fun z5 => .nx z5.2)
def F_life_shares (a0 a1 : Py.D) : Fu.R (Py.D) := Fu.fin (β := Unit) ((Fu.O.ofP (Fu.S.lst Fu.S.nil)).seq fun z1 => (((Fu.O.ofP (Fu.S.items (Fu.S.call (Fu.ap1 F_plain_caps) (Fu.S.cons (Fu.S.ok a0) Fu.S.nil)))).seq fun x7 => Fu.loop (B_life_shares_0 a1) x7 z1).seq fun z4 => (Fu.retP (fun x => x) (Fu.S.cal fTuple (Fu.S.cons (Fu.S.ok (.lst z4)) Fu.S.nil)))))
theorem y_life_shares (a0 a1 : Py.D) : Fu.CallOk (c_life_shares [.v a0, .v a1]) (F_life_shares a0 a1) (Fu.uns [a0, a1]) := Fu.fnD (xs := [a0, a1]) (l := [.un, .un]) (n := 4) (Q := fun _ => Fu.anys 4) rfl (by simp [Fu.PlainL]) (Fu.st_seq (Fu.st_setN (Fu.n_lst Fu.x_nil) rfl) fun z1 => (Fu.st_seq (Fu.st_forP (L := fun (s2 : List Py.D) => [.v a0, .v a1, .o s2, .un]) (Qg := fun (s2 : List Py.D) (z3 : Py.D) => [.v a0, .v a1, .o s2, .w z3]) (Fu.x_items (Fu.x_hold (Fu.v_call z_plain_caps (Fu.a_val (Fu.x_v 0 (fun _ => rfl)) Fu.a_nil) (fun _ => (Fu.LE.anyN rfl))))) Fu.LE.r (fun s2 => (Fu.tg_nm rfl)) (fun s2 z3 => (Fu.st_end (Fu.st_mut rfl (Fu.x_cons (Fu.x_ife (Fu.x_tst (Fu.x_bin (Fu.x_w 3 (fun _ => rfl)) Fu.x_c)) (Fu.x_v 1 (fun _ => rfl)) (Fu.x_cal (Fu.x_cons (Fu.x_v 1 (fun _ => rfl)) (Fu.x_cons (Fu.x_w 3 (fun _ => rfl)) Fu.x_nil)))) Fu.x_nil)) (fun z5 => (Fu.LE.c Fu.PtLE.r (Fu.LE.c Fu.PtLE.r (Fu.LE.c Fu.PtLE.r (Fu.LE.c Fu.PtLE.wu Fu.LE.n)))))))) fun z4 => (Fu.st_wk (Fu.LE.c Fu.PtLE.r (Fu.LE.c Fu.PtLE.r (Fu.LE.c Fu.PtLE.ov (Fu.LE.c Fu.PtLE.r Fu.LE.n)))) (Fu.st_retP (Fu.v_x (Fu.x_cal (Fu.x_cons (Fu.x_v 2 (fun _ => rfl)) Fu.x_nil))) (fun _ _ h => h) (fun _ => (Fu.LE.anyN rfl)))))) (fun _ => rfl)
theorem z_life_shares : Fu.Z c_life_shares (Fu.ap2 F_life_shares) := Fu.z2 y_life_shares
def B_plain_delay_0  : (Py.D) → Py.D → Fu.O (Py.D) (Py.D) (Py.D) := fun (s2 : Py.D) x6 => (Fu.O.ofO (some x6)).seq fun z3 => ((Fu.O.ofP (Fu.S.bin fAdd (Fu.S.ok s2) (Fu.S.ok z3))).seq fun z5 => .nx z5)
def F_plain_delay (a0 a1 : Py.D) : Fu.R (Py.D) := Fu.fin (β := Unit) ((Fu.O.ofP (Fu.S.call (Fu.ap1 F_plain_base) (Fu.S.cons (Fu.S.ok a0) Fu.S.nil))).seq fun z1 => (((Fu.O.ofP (Fu.S.items (Fu.S.call (Fu.ap2 F_life_shares) (Fu.S.cons (Fu.S.ok a0) (Fu.S.cons (Fu.S.ok a1) Fu.S.nil))))).seq fun x7 => Fu.loop B_plain_delay_0 x7 z1).seq fun z4 => (.rt z4)))
theorem y_plain_delay (a0 a1 : Py.D) : Fu.CallOk (c_plain_delay [.v a0, .v a1]) (F_plain_delay a0 a1) (Fu.uns [a0, a1]) := Fu.fnD (xs := [a0, a1]) (l := [.un, .un]) (n := 4) (Q := fun _ => Fu.anys 4) rfl (by simp [Fu.PlainL]) (Fu.st_seq (Fu.st_setP (Fu.v_call z_plain_base (Fu.a_val (Fu.x_v 0 (fun _ => rfl)) Fu.a_nil) (fun _ => (Fu.LE.anyN rfl))) rfl) fun z1 => (Fu.st_seq (Fu.st_forP (L := fun (s2 : Py.D) => [.v a0, .v a1, .v s2, .un]) (Qg := fun (s2 : Py.D) (z3 : Py.D) => [.v a0, .v a1, .v s2, .w z3]) (Fu.x_items (Fu.x_hold (Fu.v_call z_life_shares (Fu.a_val (Fu.x_v 0 (fun _ => rfl)) (Fu.a_val (Fu.x_v 1 (fun _ => rfl)) Fu.a_nil)) (fun _ => (Fu.LE.anyN rfl))))) Fu.LE.r (fun s2 => (Fu.tg_nm rfl)) (fun s2 z3 => (Fu.st_end (Fu.st_setP (Fu.v_x (Fu.x_bin (Fu.x_v 2 (fun _ => rfl)) (Fu.x_w 3 (fun _ => rfl)))) rfl) (fun z5 => (Fu.LE.c Fu.PtLE.r (Fu.LE.c Fu.PtLE.r (Fu.LE.c Fu.PtLE.r (Fu.LE.c Fu.PtLE.wu Fu.LE.n)))))))) fun z4 => (Fu.st_retMV (j := 2) rfl (fun _ h => h) (Fu.LE.anyN rfl)))) (fun _ => rfl)
theorem z_plain_delay : Fu.Z c_plain_delay (Fu.ap2 F_plain_delay) := Fu.z2 y_plain_delay
def B_has_copy_form_0  : (Unit) → Py.D → Fu.O (Py.D) (Unit) (Unit) := fun (s21 : Unit) x24 => (Fu.O.ofO (some x24)).seq fun z22 => (Fu.iteP (Fu.S.not (Fu.S.tru (Fu.S.call (Fu.ap1 F_is_int) (Fu.S.cons (Fu.S.ok z22) Fu.S.nil)))) (Fu.retP (fun x => x) (Fu.S.ok (.bl false))) (.nx ()))
def B_has_copy_form_1  : (Unit) → Py.D → Fu.O (Py.D) (Unit) (Unit) := fun (s17 : Unit) x26 => (Fu.O.ofO (some x26)).seq fun z18 => ((Fu.iteP (Fu.S.or (Fu.S.not (Fu.S.tru (Fu.S.cal (fIs T) (Fu.S.cons (Fu.S.ok z18) (Fu.S.cons (Fu.S.ok (.ty .tup)) Fu.S.nil))))) (Fu.S.tst (Fu.S.bin fNe (Fu.S.cal fLen (Fu.S.cons (Fu.S.ok z18) Fu.S.nil)) (Fu.S.ok (.int 3))))) (Fu.retP (fun x => x) (Fu.S.ok (.bl false))) (.nx ())).seq fun z20 => (((Fu.O.ofP (Fu.S.items (Fu.S.ok z18))).seq fun x25 => Fu.loop B_has_copy_form_0 x25 ()).seq fun z23 => .nx ()))
def F_has_copy_form (a0 : Py.D) : Fu.R (Py.D) := Fu.fin (β := Unit) ((Fu.iteP (Fu.S.or (Fu.S.not (Fu.S.tru (Fu.S.cal (fIs T) (Fu.S.cons (Fu.S.ok a0) (Fu.S.cons (Fu.S.ok (.ty .tup)) Fu.S.nil))))) (Fu.S.tst (Fu.S.bin fNe (Fu.S.cal fLen (Fu.S.cons (Fu.S.ok a0) Fu.S.nil)) (Fu.S.ok (.int 2))))) (Fu.retP (fun x => x) (Fu.S.ok (.bl false))) (.nx ())).seq fun z1 => (((Fu.O.ofP (Fu.S.ok a0)).seq fun y15 => Fu.O.ofO ((Fu.tSq 2 (Fu.tC some (Fu.tC some Fu.t0))) y15)).seq fun z2 => ((Fu.iteP (Fu.S.or (Fu.S.not (Fu.S.tru (Fu.S.call (Fu.ap1 F_is_int) (Fu.S.cons (Fu.S.ok z2.1) Fu.S.nil)))) (Fu.S.not (Fu.S.tru (Fu.S.cal (fIs T) (Fu.S.cons (Fu.S.ok z2.2.1) (Fu.S.cons (Fu.S.ok (.ty .tup)) Fu.S.nil)))))) (Fu.retP (fun x => x) (Fu.S.ok (.bl false))) (.nx ())).seq fun z16 => (((Fu.O.ofP (Fu.S.items (Fu.S.ok z2.2.1))).seq fun x27 => Fu.loop B_has_copy_form_1 x27 ()).seq fun z19 => (Fu.retP (fun x => x) (Fu.S.ok (.bl true)))))))
theorem y_has_copy_form (a0 : Py.D) : Fu.CallOk (c_has_copy_form [.v a0]) (F_has_copy_form a0) (Fu.uns [a0]) := Fu.fnD (xs := [a0]) (l := [.un, .un, .un, .un]) (n := 5) (Q := fun _ => Fu.anys 5) rfl (by simp [Fu.PlainL]) (Fu.st_seq (Fu.st_ifP (Q := fun (z1 : Unit) => [.v a0, .un, .un, .un, .un]) (Fu.x_or (Fu.x_not (Fu.x_tru (Fu.x_cal (Fu.x_cons (Fu.x_v 0 (fun _ => rfl)) (Fu.x_cons Fu.x_c Fu.x_nil))))) (Fu.x_tst (Fu.x_bin (Fu.x_cal (Fu.x_cons (Fu.x_v 0 (fun _ => rfl)) Fu.x_nil)) Fu.x_c))) (Fu.st_retP (Fu.v_x Fu.x_c) (fun _ _ h => h) (fun _ => (Fu.LE.anyN rfl))) (Fu.st_next Fu.LE.r)) fun z1 => (Fu.st_seq (Fu.st_asg (Q := fun (z2 : (Py.D × (Py.D × Unit))) => [.v a0, .w z2.1, .w z2.2.1, .un, .un]) (Fu.x_v 0 (fun _ => rfl)) (Fu.tg_sq (Fu.tg_c (Q := fun (q6 : Py.D) => [.v a0, .w q6, .un, .un, .un]) (Q2 := fun (q14 : (Py.D × (Py.D × Unit))) => [.v a0, .w q14.1, .w q14.2.1, .un, .un]) (Fu.tg_nm rfl) (fun q6 => (Fu.tg_c (Q := fun (q8 : Py.D) => [.v a0, .w q6, .w q8, .un, .un]) (Q2 := fun (q10 : (Py.D × Unit)) => [.v a0, .w q6, .w q10.1, .un, .un]) (Fu.tg_nm rfl) (fun q8 => Fu.tg_0)))))) fun z2 => (Fu.st_seq (Fu.st_ifP (Q := fun (z16 : Unit) => [.v a0, .w z2.1, .w z2.2.1, .un, .un]) (Fu.x_or (Fu.x_not (Fu.x_tru (Fu.x_hold (Fu.v_call z_is_int (Fu.a_val (Fu.x_w 1 (fun _ => rfl)) Fu.a_nil) (fun _ => (Fu.LE.anyN rfl)))))) (Fu.x_not (Fu.x_tru (Fu.x_cal (Fu.x_cons (Fu.x_w 2 (fun _ => rfl)) (Fu.x_cons Fu.x_c Fu.x_nil)))))) (Fu.st_retP (Fu.v_x Fu.x_c) (fun _ _ h => h) (fun _ => (Fu.LE.anyN rfl))) (Fu.st_next Fu.LE.r)) fun z16 => (Fu.st_seq (Fu.st_forP (L := fun (s17 : Unit) => [.v a0, .w z2.1, .w z2.2.1, .un, .un]) (Qg := fun (s17 : Unit) (z18 : Py.D) => [.v a0, .w z2.1, .w z2.2.1, .w z18, .un]) (Fu.x_items (Fu.x_w 2 (fun _ => rfl))) Fu.LE.r (fun s17 => (Fu.tg_nm rfl)) (fun s17 z18 => (Fu.st_seq (Fu.st_ifP (Q := fun (z20 : Unit) => [.v a0, .w z2.1, .w z2.2.1, .w z18, .un]) (Fu.x_or (Fu.x_not (Fu.x_tru (Fu.x_cal (Fu.x_cons (Fu.x_w 3 (fun _ => rfl)) (Fu.x_cons Fu.x_c Fu.x_nil))))) (Fu.x_tst (Fu.x_bin (Fu.x_cal (Fu.x_cons (Fu.x_w 3 (fun _ => rfl)) Fu.x_nil)) Fu.x_c))) (Fu.st_retP (Fu.v_x Fu.x_c) (fun _ _ h => h) (fun _ => (Fu.LE.anyN rfl))) (Fu.st_next Fu.LE.r)) fun z20 => (Fu.st_end (Fu.st_forP (L := fun (s21 : Unit) => [.v a0, .w z2.1, .w z2.2.1, .w z18, .un]) (Qg := fun (s21 : Unit) (z22 : Py.D) => [.v a0, .w z2.1, .w z2.2.1, .w z18, .w z22]) (Fu.x_items (Fu.x_w 3 (fun _ => rfl))) Fu.LE.r (fun s21 => (Fu.tg_nm rfl)) (fun s21 z22 => (Fu.st_ifP (Q := fun (s21 : Unit) => [.v a0, .w z2.1, .w z2.2.1, .w z18, .un]) (Fu.x_not (Fu.x_tru (Fu.x_hold (Fu.v_call z_is_int (Fu.a_val (Fu.x_w 4 (fun _ => rfl)) Fu.a_nil) (fun _ => (Fu.LE.anyN rfl)))))) (Fu.st_retP (Fu.v_x Fu.x_c) (fun _ _ h => h) (fun _ => (Fu.LE.anyN rfl))) (Fu.st_next (Fu.LE.c Fu.PtLE.r (Fu.LE.c Fu.PtLE.r (Fu.LE.c Fu.PtLE.r (Fu.LE.c Fu.PtLE.r (Fu.LE.c Fu.PtLE.wu Fu.LE.n))))))))) (fun z23 => (Fu.LE.c Fu.PtLE.r (Fu.LE.c Fu.PtLE.r (Fu.LE.c Fu.PtLE.r (Fu.LE.c Fu.PtLE.wu (Fu.LE.c Fu.PtLE.r Fu.LE.n)))))))))) fun z19 => (Fu.st_retP (Fu.v_x Fu.x_c) (fun _ _ h => h) (fun _ => (Fu.LE.anyN rfl))))))) (fun _ => rfl)
theorem z_has_copy_form : Fu.Z c_has_copy_form (Fu.ap1 F_has_copy_form) := Fu.z1 y_has_copy_form
def F_is_lawful_moment (a0 a1 a2 : Py.D) : Fu.R (Py.D) := Fu.fin (β := Unit) (((Fu.O.ofP (Fu.S.ok a0)).seq fun y122 => Fu.O.ofO ((Fu.tSq 4 (Fu.tC some (Fu.tC some (Fu.tC some (Fu.tC some Fu.t0))))) y122)).seq fun z1 => (((Fu.O.ofP (Fu.S.ok a2)).seq fun y163 => Fu.O.ofO ((Fu.tSq 3 (Fu.tC some (Fu.tC some (Fu.tC some Fu.t0)))) y163)).seq fun z123 => ((Fu.iteP (Fu.S.or (Fu.S.tst (Fu.S.bin fLt (Fu.S.ok z123.1) (Fu.S.ok (.int 0)))) (Fu.S.or (Fu.S.tst (Fu.S.bin fGt (Fu.S.ok z123.1) (Fu.S.ok z1.1))) (Fu.S.tst (Fu.S.bin fLt (Fu.S.ok z123.2.1) (Fu.S.ok (.int 0)))))) (Fu.retP (fun x => x) (Fu.S.ok (.bl false))) (.nx ())).seq fun z164 => ((Fu.iteP (Fu.S.or (Fu.S.tst (Fu.S.bin fLt (Fu.S.ok z123.2.2.1) (Fu.S.ok (.int 0)))) (Fu.S.or (Fu.S.tst (Fu.S.bin fLt (Fu.S.ok z123.2.2.1) (Fu.S.bin fSub (Fu.S.ok z123.2.1) (Fu.S.ok z1.2.2.1)))) (Fu.S.tst (Fu.S.bin fGt (Fu.S.ok z123.2.2.1) (Fu.S.ok z123.2.1))))) (Fu.retP (fun x => x) (Fu.S.ok (.bl false))) (.nx ())).seq fun z165 => (Fu.retP (fun x => x) (Fu.S.andV (Fu.S.bin fLe (Fu.S.ok z123.2.2.1) (Fu.S.ok a1)) (Fu.S.orV (Fu.S.bin fIsN (Fu.S.ok z1.2.1) (Fu.S.ok .non)) (Fu.S.bin fLe (Fu.S.ok z123.2.2.1) (Fu.S.ok z1.2.1)))))))))
theorem y_is_lawful_moment (a0 a1 a2 : Py.D) : Fu.CallOk (c_is_lawful_moment [.v a0, .v a1, .v a2]) (F_is_lawful_moment a0 a1 a2) (Fu.uns [a0, a1, a2]) := Fu.fnD (xs := [a0, a1, a2]) (l := [.un, .un, .un, .un, .un, .un, .un]) (n := 10) (Q := fun _ => Fu.anys 10) rfl (by simp [Fu.PlainL]) (Fu.st_seq (Fu.st_asg (Q := fun (z1 : (Py.D × (Py.D × (Py.D × (Py.D × Unit))))) => [.v a0, .v a1, .v a2, .w z1.1, .w z1.2.1, .w z1.2.2.1, .w z1.2.2.2.1, .un, .un, .un]) (Fu.x_v 0 (fun _ => rfl)) (Fu.tg_sq (Fu.tg_c (Q := fun (q41 : Py.D) => [.v a0, .v a1, .v a2, .w q41, .un, .un, .un, .un, .un, .un]) (Q2 := fun (q121 : (Py.D × (Py.D × (Py.D × (Py.D × Unit))))) => [.v a0, .v a1, .v a2, .w q121.1, .w q121.2.1, .w q121.2.2.1, .w q121.2.2.2.1, .un, .un, .un]) (Fu.tg_nm rfl) (fun q41 => (Fu.tg_c (Q := fun (q55 : Py.D) => [.v a0, .v a1, .v a2, .w q41, .w q55, .un, .un, .un, .un, .un]) (Q2 := fun (q81 : (Py.D × (Py.D × (Py.D × Unit)))) => [.v a0, .v a1, .v a2, .w q41, .w q81.1, .w q81.2.1, .w q81.2.2.1, .un, .un, .un]) (Fu.tg_nm rfl) (fun q55 => (Fu.tg_c (Q := fun (q60 : Py.D) => [.v a0, .v a1, .v a2, .w q41, .w q55, .w q60, .un, .un, .un, .un]) (Q2 := fun (q68 : (Py.D × (Py.D × Unit))) => [.v a0, .v a1, .v a2, .w q41, .w q55, .w q68.1, .w q68.2.1, .un, .un, .un]) (Fu.tg_nm rfl) (fun q60 => (Fu.tg_c (Q := fun (q62 : Py.D) => [.v a0, .v a1, .v a2, .w q41, .w q55, .w q60, .w q62, .un, .un, .un]) (Q2 := fun (q64 : (Py.D × Unit)) => [.v a0, .v a1, .v a2, .w q41, .w q55, .w q60, .w q64.1, .un, .un, .un]) (Fu.tg_nm rfl) (fun q62 => Fu.tg_0)))))))))) fun z1 => (Fu.st_seq (Fu.st_asg (Q := fun (z123 : (Py.D × (Py.D × (Py.D × Unit)))) => [.v a0, .v a1, .v a2, .w z1.1, .w z1.2.1, .w z1.2.2.1, .w z1.2.2.2.1, .w z123.1, .w z123.2.1, .w z123.2.2.1]) (Fu.x_v 2 (fun _ => rfl)) (Fu.tg_sq (Fu.tg_c (Q := fun (q136 : Py.D) => [.v a0, .v a1, .v a2, .w z1.1, .w z1.2.1, .w z1.2.2.1, .w z1.2.2.2.1, .w q136, .un, .un]) (Q2 := fun (q162 : (Py.D × (Py.D × (Py.D × Unit)))) => [.v a0, .v a1, .v a2, .w z1.1, .w z1.2.1, .w z1.2.2.1, .w z1.2.2.2.1, .w q162.1, .w q162.2.1, .w q162.2.2.1]) (Fu.tg_nm rfl) (fun q136 => (Fu.tg_c (Q := fun (q141 : Py.D) => [.v a0, .v a1, .v a2, .w z1.1, .w z1.2.1, .w z1.2.2.1, .w z1.2.2.2.1, .w q136, .w q141, .un]) (Q2 := fun (q149 : (Py.D × (Py.D × Unit))) => [.v a0, .v a1, .v a2, .w z1.1, .w z1.2.1, .w z1.2.2.1, .w z1.2.2.2.1, .w q136, .w q149.1, .w q149.2.1]) (Fu.tg_nm rfl) (fun q141 => (Fu.tg_c (Q := fun (q143 : Py.D) => [.v a0, .v a1, .v a2, .w z1.1, .w z1.2.1, .w z1.2.2.1, .w z1.2.2.2.1, .w q136, .w q141, .w q143]) (Q2 := fun (q145 : (Py.D × Unit)) => [.v a0, .v a1, .v a2, .w z1.1, .w z1.2.1, .w z1.2.2.1, .w z1.2.2.2.1, .w q136, .w q141, .w q145.1]) (Fu.tg_nm rfl) (fun q143 => Fu.tg_0)))))))) fun z123 => (Fu.st_seq (Fu.st_ifP (Q := fun (z164 : Unit) => [.v a0, .v a1, .v a2, .w z1.1, .w z1.2.1, .w z1.2.2.1, .w z1.2.2.2.1, .w z123.1, .w z123.2.1, .w z123.2.2.1]) (Fu.x_or (Fu.x_tst (Fu.x_bin (Fu.x_w 7 (fun _ => rfl)) Fu.x_c)) (Fu.x_or (Fu.x_tst (Fu.x_bin (Fu.x_w 7 (fun _ => rfl)) (Fu.x_w 3 (fun _ => rfl)))) (Fu.x_tst (Fu.x_bin (Fu.x_w 8 (fun _ => rfl)) Fu.x_c)))) (Fu.st_retP (Fu.v_x Fu.x_c) (fun _ _ h => h) (fun _ => (Fu.LE.anyN rfl))) (Fu.st_next Fu.LE.r)) fun z164 => (Fu.st_seq (Fu.st_ifP (Q := fun (z165 : Unit) => [.v a0, .v a1, .v a2, .w z1.1, .w z1.2.1, .w z1.2.2.1, .w z1.2.2.2.1, .w z123.1, .w z123.2.1, .w z123.2.2.1]) (Fu.x_or (Fu.x_tst (Fu.x_bin (Fu.x_w 9 (fun _ => rfl)) Fu.x_c)) (Fu.x_or (Fu.x_tst (Fu.x_bin (Fu.x_w 9 (fun _ => rfl)) (Fu.x_bin (Fu.x_w 8 (fun _ => rfl)) (Fu.x_w 5 (fun _ => rfl))))) (Fu.x_tst (Fu.x_bin (Fu.x_w 9 (fun _ => rfl)) (Fu.x_w 8 (fun _ => rfl)))))) (Fu.st_retP (Fu.v_x Fu.x_c) (fun _ _ h => h) (fun _ => (Fu.LE.anyN rfl))) (Fu.st_next Fu.LE.r)) fun z165 => (Fu.st_retP (Fu.v_x (Fu.x_andV (Fu.x_bin (Fu.x_w 9 (fun _ => rfl)) (Fu.x_v 1 (fun _ => rfl))) (Fu.x_orV (Fu.x_bin (Fu.x_w 4 (fun _ => rfl)) Fu.x_c) (Fu.x_bin (Fu.x_w 9 (fun _ => rfl)) (Fu.x_w 4 (fun _ => rfl)))))) (fun _ _ h => h) (fun _ => (Fu.LE.anyN rfl))))))) (fun _ => rfl)
theorem z_is_lawful_moment : Fu.Z c_is_lawful_moment (Fu.ap3 F_is_lawful_moment) := Fu.z3 y_is_lawful_moment
def B_lives_told_0 (a1 : Py.D) : (Py.D × List Py.D) → Py.D → Fu.O (Py.D) (Py.D × List Py.D) (Py.D × List Py.D) := fun (s3 : Py.D × List Py.D) x20 => (Fu.O.ofO ((Fu.tSq 2 (Fu.tC some (Fu.tC some Fu.t0))) x20)).seq fun z4 => ((Fu.mutP mAppend s3.2 (Fu.S.cons (Fu.S.ok s3.1) Fu.S.nil)).seq fun z18 => ((Fu.O.ofP (Fu.S.ife (Fu.S.tst (Fu.S.bin fEq (Fu.S.bin fIx (Fu.S.ok z4.1) (Fu.S.ok (.int 3))) (Fu.S.ok (.str "anew")))) (Fu.S.ok a1) (Fu.S.bin fSub (Fu.S.ok s3.1) (Fu.S.bin fIx (Fu.S.ok z4.2.1) (Fu.S.ok (.int 2)))))).seq fun z19 => .nx (z19, z18.2)))
def F_lives_told (a0 a1 a2 : Py.D) : Fu.R (Py.D) := Fu.fin (β := Unit) ((Fu.O.ofP (Fu.S.ok a1)).seq fun z1 => ((Fu.O.ofP (Fu.S.lst Fu.S.nil)).seq fun z2 => (((Fu.O.ofP (Fu.S.it fZip (Fu.S.cons (Fu.S.ok a0) (Fu.S.cons (Fu.S.ok a2) Fu.S.nil)))).seq fun x21 => Fu.loop (B_lives_told_0 a1) x21 (z1, z2)).seq fun z5 => (Fu.retP (fun x => x) (Fu.S.cal fTuple (Fu.S.cons (Fu.S.ok (.lst z5.2)) Fu.S.nil))))))
theorem y_lives_told (a0 a1 a2 : Py.D) : Fu.CallOk (c_lives_told [.v a0, .v a1, .v a2]) (F_lives_told a0 a1 a2) (Fu.uns [a0, a1, a2]) := Fu.fnD (xs := [a0, a1, a2]) (l := [.un, .un, .un, .un]) (n := 7) (Q := fun _ => Fu.anys 7) rfl (by simp [Fu.PlainL]) (Fu.st_seq (Fu.st_setP (Fu.v_x (Fu.x_v 1 (fun _ => rfl))) rfl) fun z1 => (Fu.st_seq (Fu.st_setN (Fu.n_lst Fu.x_nil) rfl) fun z2 => (Fu.st_seq (Fu.st_forP (L := fun (s3 : Py.D × List Py.D) => [.v a0, .v a1, .v a2, .v s3.1, .o s3.2, .un, .un]) (Qg := fun (s3 : Py.D × List Py.D) (z4 : (Py.D × (Py.D × Unit))) => [.v a0, .v a1, .v a2, .v s3.1, .o s3.2, .w z4.1, .w z4.2.1]) (Fu.x_it (Fu.x_cons (Fu.x_v 0 (fun _ => rfl)) (Fu.x_cons (Fu.x_v 2 (fun _ => rfl)) Fu.x_nil))) Fu.LE.r (fun s3 => (Fu.tg_sq (Fu.tg_c (Q := fun (q9 : Py.D) => [.v a0, .v a1, .v a2, .v s3.1, .o s3.2, .w q9, .un]) (Q2 := fun (q17 : (Py.D × (Py.D × Unit))) => [.v a0, .v a1, .v a2, .v s3.1, .o s3.2, .w q17.1, .w q17.2.1]) (Fu.tg_nm rfl) (fun q9 => (Fu.tg_c (Q := fun (q11 : Py.D) => [.v a0, .v a1, .v a2, .v s3.1, .o s3.2, .w q9, .w q11]) (Q2 := fun (q13 : (Py.D × Unit)) => [.v a0, .v a1, .v a2, .v s3.1, .o s3.2, .w q9, .w q13.1]) (Fu.tg_nm rfl) (fun q11 => Fu.tg_0)))))) (fun s3 z4 => (Fu.st_seq (Fu.st_mut rfl (Fu.x_cons (Fu.x_v 3 (fun _ => rfl)) Fu.x_nil)) fun z18 => (Fu.st_end (Fu.st_setP (Fu.v_x (Fu.x_ife (Fu.x_tst (Fu.x_bin (Fu.x_bin (Fu.x_w 5 (fun _ => rfl)) Fu.x_c) Fu.x_c)) (Fu.x_v 1 (fun _ => rfl)) (Fu.x_bin (Fu.x_v 3 (fun _ => rfl)) (Fu.x_bin (Fu.x_w 6 (fun _ => rfl)) Fu.x_c)))) rfl) (fun z19 => (Fu.LE.c Fu.PtLE.r (Fu.LE.c Fu.PtLE.r (Fu.LE.c Fu.PtLE.r (Fu.LE.c Fu.PtLE.r (Fu.LE.c Fu.PtLE.r (Fu.LE.c Fu.PtLE.wu (Fu.LE.c Fu.PtLE.wu Fu.LE.n)))))))))))) fun z5 => (Fu.st_wk (Fu.LE.c Fu.PtLE.r (Fu.LE.c Fu.PtLE.r (Fu.LE.c Fu.PtLE.r (Fu.LE.c Fu.PtLE.r (Fu.LE.c Fu.PtLE.ov (Fu.LE.c Fu.PtLE.r (Fu.LE.c Fu.PtLE.r Fu.LE.n))))))) (Fu.st_retP (Fu.v_x (Fu.x_cal (Fu.x_cons (Fu.x_v 4 (fun _ => rfl)) Fu.x_nil))) (fun _ _ h => h) (fun _ => (Fu.LE.anyN rfl))))))) (fun _ => rfl)
theorem z_lives_told : Fu.Z c_lives_told (Fu.ap3 F_lives_told) := Fu.z3 y_lives_told
def B_is_plain_copy_0 (z2 : Py.D) (a2 : Py.D) : (Unit) → Py.D → Fu.O (Py.D) (Unit) (Unit) := fun (s3 : Unit) x18 => (Fu.O.ofO ((Fu.tSq 2 (Fu.tC some (Fu.tC some Fu.t0))) x18)).seq fun z4 => (Fu.iteP (Fu.S.not (Fu.S.tru (Fu.S.call (Fu.ap3 F_is_lawful_moment) (Fu.S.cons (Fu.S.ok z4.2.1) (Fu.S.cons (Fu.S.bin fIx (Fu.S.ok z2) (Fu.S.ok z4.1)) (Fu.S.cons (Fu.S.bin fIx (Fu.S.bin fIx (Fu.S.ok a2) (Fu.S.ok (.int 1))) (Fu.S.ok z4.1)) Fu.S.nil)))))) (Fu.retP (fun x => x) (Fu.S.ok (.bl false))) (.nx ()))
def F_is_plain_copy (a0 a1 a2 : Py.D) : Fu.R (Py.D) := Fu.fin (β := Unit) ((Fu.iteP (Fu.S.or (Fu.S.not (Fu.S.tru (Fu.S.call (Fu.ap1 F_has_copy_form) (Fu.S.cons (Fu.S.ok a2) Fu.S.nil)))) (Fu.S.tst (Fu.S.bin fNe (Fu.S.cal fLen (Fu.S.cons (Fu.S.bin fIx (Fu.S.ok a2) (Fu.S.ok (.int 1))) Fu.S.nil)) (Fu.S.cal fLen (Fu.S.cons (Fu.S.ok a0) Fu.S.nil))))) (Fu.retP (fun x => x) (Fu.S.ok (.bl false))) (.nx ())).seq fun z1 => ((Fu.O.ofP (Fu.S.call (Fu.ap3 F_lives_told) (Fu.S.cons (Fu.S.ok a0) (Fu.S.cons (Fu.S.ok a1) (Fu.S.cons (Fu.S.bin fIx (Fu.S.ok a2) (Fu.S.ok (.int 1))) Fu.S.nil))))).seq fun z2 => (((Fu.O.ofP (Fu.S.it fEnum (Fu.S.cons (Fu.S.ok a0) Fu.S.nil))).seq fun x19 => Fu.loop (B_is_plain_copy_0 z2 a2) x19 ()).seq fun z5 => (Fu.retP (fun x => x) (Fu.S.ok (.bl true))))))
theorem y_is_plain_copy (a0 a1 a2 : Py.D) : Fu.CallOk (c_is_plain_copy [.v a0, .v a1, .v a2]) (F_is_plain_copy a0 a1 a2) (Fu.uns [a0, a1, a2]) := Fu.fnD (xs := [a0, a1, a2]) (l := [.un, .un, .un]) (n := 6) (Q := fun _ => Fu.anys 6) rfl (by simp [Fu.PlainL]) (Fu.st_seq (Fu.st_ifP (Q := fun (z1 : Unit) => [.v a0, .v a1, .v a2, .un, .un, .un]) (Fu.x_or (Fu.x_not (Fu.x_tru (Fu.x_hold (Fu.v_call z_has_copy_form (Fu.a_val (Fu.x_v 2 (fun _ => rfl)) Fu.a_nil) (fun _ => (Fu.LE.anyN rfl)))))) (Fu.x_tst (Fu.x_bin (Fu.x_cal (Fu.x_cons (Fu.x_bin (Fu.x_v 2 (fun _ => rfl)) Fu.x_c) Fu.x_nil)) (Fu.x_cal (Fu.x_cons (Fu.x_v 0 (fun _ => rfl)) Fu.x_nil))))) (Fu.st_retP (Fu.v_x Fu.x_c) (fun _ _ h => h) (fun _ => (Fu.LE.anyN rfl))) (Fu.st_next Fu.LE.r)) fun z1 => (Fu.st_seq (Fu.st_setP (Fu.v_call z_lives_told (Fu.a_val (Fu.x_v 0 (fun _ => rfl)) (Fu.a_val (Fu.x_v 1 (fun _ => rfl)) (Fu.a_val (Fu.x_bin (Fu.x_v 2 (fun _ => rfl)) Fu.x_c) Fu.a_nil))) (fun _ => (Fu.LE.anyN rfl))) rfl) fun z2 => (Fu.st_seq (Fu.st_forP (L := fun (s3 : Unit) => [.v a0, .v a1, .v a2, .v z2, .un, .un]) (Qg := fun (s3 : Unit) (z4 : (Py.D × (Py.D × Unit))) => [.v a0, .v a1, .v a2, .v z2, .w z4.1, .w z4.2.1]) (Fu.x_it (Fu.x_cons (Fu.x_v 0 (fun _ => rfl)) Fu.x_nil)) Fu.LE.r (fun s3 => (Fu.tg_sq (Fu.tg_c (Q := fun (q9 : Py.D) => [.v a0, .v a1, .v a2, .v z2, .w q9, .un]) (Q2 := fun (q17 : (Py.D × (Py.D × Unit))) => [.v a0, .v a1, .v a2, .v z2, .w q17.1, .w q17.2.1]) (Fu.tg_nm rfl) (fun q9 => (Fu.tg_c (Q := fun (q11 : Py.D) => [.v a0, .v a1, .v a2, .v z2, .w q9, .w q11]) (Q2 := fun (q13 : (Py.D × Unit)) => [.v a0, .v a1, .v a2, .v z2, .w q9, .w q13.1]) (Fu.tg_nm rfl) (fun q11 => Fu.tg_0)))))) (fun s3 z4 => (Fu.st_ifP (Q := fun (s3 : Unit) => [.v a0, .v a1, .v a2, .v z2, .un, .un]) (Fu.x_not (Fu.x_tru (Fu.x_hold (Fu.v_call z_is_lawful_moment (Fu.a_val (Fu.x_w 5 (fun _ => rfl)) (Fu.a_val (Fu.x_bin (Fu.x_v 3 (fun _ => rfl)) (Fu.x_w 4 (fun _ => rfl))) (Fu.a_val (Fu.x_bin (Fu.x_bin (Fu.x_v 2 (fun _ => rfl)) Fu.x_c) (Fu.x_w 4 (fun _ => rfl))) Fu.a_nil))) (fun _ => (Fu.LE.anyN rfl)))))) (Fu.st_retP (Fu.v_x Fu.x_c) (fun _ _ h => h) (fun _ => (Fu.LE.anyN rfl))) (Fu.st_next (Fu.LE.c Fu.PtLE.r (Fu.LE.c Fu.PtLE.r (Fu.LE.c Fu.PtLE.r (Fu.LE.c Fu.PtLE.r (Fu.LE.c Fu.PtLE.wu (Fu.LE.c Fu.PtLE.wu Fu.LE.n)))))))))) fun z5 => (Fu.st_retP (Fu.v_x Fu.x_c) (fun _ _ h => h) (fun _ => (Fu.LE.anyN rfl)))))) (fun _ => rfl)
theorem z_is_plain_copy : Fu.Z c_is_plain_copy (Fu.ap3 F_is_plain_copy) := Fu.z3 y_is_plain_copy
def F_is_copy (a0 a1 a2 : Py.D) : Fu.R (Py.D) := Fu.fin (β := Unit) ((Fu.O.ofP (Fu.S.call (Fu.ap1 F_check_way) (Fu.S.cons (Fu.S.ok a0) Fu.S.nil))).seq fun z1 => ((Fu.O.ofP (Fu.S.call (Fu.ap2 F_check_number) (Fu.S.cons (Fu.S.ok a1) (Fu.S.cons (Fu.S.ok (.int 0)) Fu.S.nil)))).seq fun z2 => (Fu.retP (fun x => x) (Fu.S.call (Fu.ap3 F_is_plain_copy) (Fu.S.cons (Fu.S.ok z1) (Fu.S.cons (Fu.S.ok a1) (Fu.S.cons (Fu.S.call (Fu.ap1 F_plain_form) (Fu.S.cons (Fu.S.ok a2) Fu.S.nil)) Fu.S.nil)))))))
theorem y_is_copy (a0 a1 a2 : Py.D) : Fu.CallOk (c_is_copy [.v a0, .v a1, .v a2]) (F_is_copy a0 a1 a2) (Fu.uns [a0, a1, a2]) := Fu.fnD (xs := [a0, a1, a2]) (l := [.un]) (n := 4) (Q := fun _ => Fu.anys 4) rfl (by simp [Fu.PlainL]) (Fu.st_seq (Fu.st_setP (Fu.v_call z_check_way (Fu.a_val (Fu.x_v 0 (fun _ => rfl)) Fu.a_nil) (fun _ => (Fu.LE.anyN rfl))) rfl) fun z1 => (Fu.st_seq (Fu.st_dropP (Fu.v_call z_check_number (Fu.a_val (Fu.x_v 1 (fun _ => rfl)) (Fu.a_val Fu.x_c Fu.a_nil)) (fun _ => (Fu.LE.anyN rfl)))) fun z2 => (Fu.st_retP (Fu.v_call z_is_plain_copy (Fu.a_val (Fu.x_v 3 (fun _ => rfl)) (Fu.a_val (Fu.x_v 1 (fun _ => rfl)) (Fu.a_val (Fu.x_hold (Fu.v_call z_plain_form (Fu.a_val (Fu.x_v 2 (fun _ => rfl)) Fu.a_nil) (fun _ => (Fu.LE.anyN rfl)))) Fu.a_nil))) (fun _ => (Fu.LE.anyN rfl))) (fun _ _ h => h) (fun _ => (Fu.LE.anyN rfl))))) (fun _ => rfl)
theorem z_is_copy : Fu.Z c_is_copy (Fu.ap3 F_is_copy) := Fu.z3 y_is_copy
def F_lives_along (a0 a1 a2 : Py.D) : Fu.R (Py.D) := Fu.fin (β := Unit) ((Fu.O.ofP (Fu.S.call (Fu.ap1 F_check_way) (Fu.S.cons (Fu.S.ok a0) Fu.S.nil))).seq fun z1 => ((Fu.O.ofP (Fu.S.call (Fu.ap2 F_check_number) (Fu.S.cons (Fu.S.ok a1) (Fu.S.cons (Fu.S.ok (.int 0)) Fu.S.nil)))).seq fun z2 => ((Fu.O.ofP (Fu.S.call (Fu.ap1 F_plain_form) (Fu.S.cons (Fu.S.ok a2) Fu.S.nil))).seq fun z3 => ((Fu.iteP (Fu.S.not (Fu.S.tru (Fu.S.call (Fu.ap3 F_is_plain_copy) (Fu.S.cons (Fu.S.ok z1) (Fu.S.cons (Fu.S.ok a1) (Fu.S.cons (Fu.S.ok z3) Fu.S.nil)))))) (Fu.raiseO "BadCase" "at" (Fu.S.tup Fu.S.nil)) (.nx ())).seq fun z4 => (Fu.retP (fun x => x) (Fu.S.call (Fu.ap3 F_lives_told) (Fu.S.cons (Fu.S.ok z1) (Fu.S.cons (Fu.S.ok a1) (Fu.S.cons (Fu.S.bin fIx (Fu.S.ok z3) (Fu.S.ok (.int 1))) Fu.S.nil)))))))))
theorem y_lives_along (a0 a1 a2 : Py.D) : Fu.CallOk (c_lives_along [.v a0, .v a1, .v a2]) (F_lives_along a0 a1 a2) (Fu.uns [a0, a1, a2]) := Fu.fnD (xs := [a0, a1, a2]) (l := [.un, .un]) (n := 5) (Q := fun _ => Fu.anys 5) rfl (by simp [Fu.PlainL]) (Fu.st_seq (Fu.st_setP (Fu.v_call z_check_way (Fu.a_val (Fu.x_v 0 (fun _ => rfl)) Fu.a_nil) (fun _ => (Fu.LE.anyN rfl))) rfl) fun z1 => (Fu.st_seq (Fu.st_dropP (Fu.v_call z_check_number (Fu.a_val (Fu.x_v 1 (fun _ => rfl)) (Fu.a_val Fu.x_c Fu.a_nil)) (fun _ => (Fu.LE.anyN rfl)))) fun z2 => (Fu.st_seq (Fu.st_setP (Fu.v_call z_plain_form (Fu.a_val (Fu.x_v 2 (fun _ => rfl)) Fu.a_nil) (fun _ => (Fu.LE.anyN rfl))) rfl) fun z3 => (Fu.st_seq (Fu.st_ifP (Q := fun (z4 : Unit) => [.v a0, .v a1, .v a2, .v z1, .v z3]) (Fu.x_not (Fu.x_tru (Fu.x_hold (Fu.v_call z_is_plain_copy (Fu.a_val (Fu.x_v 3 (fun _ => rfl)) (Fu.a_val (Fu.x_v 1 (fun _ => rfl)) (Fu.a_val (Fu.x_v 4 (fun _ => rfl)) Fu.a_nil))) (fun _ => (Fu.LE.anyN rfl)))))) (Fu.st_raise (Fu.x_tup Fu.x_nil) (Fu.LE.anyN rfl)) (Fu.st_next Fu.LE.r)) fun z4 => (Fu.st_retP (Fu.v_call z_lives_told (Fu.a_val (Fu.x_v 3 (fun _ => rfl)) (Fu.a_val (Fu.x_v 1 (fun _ => rfl)) (Fu.a_val (Fu.x_bin (Fu.x_v 4 (fun _ => rfl)) Fu.x_c) Fu.a_nil))) (fun _ => (Fu.LE.anyN rfl))) (fun _ _ h => h) (fun _ => (Fu.LE.anyN rfl))))))) (fun _ => rfl)
theorem z_lives_along : Fu.Z c_lives_along (Fu.ap3 F_lives_along) := Fu.z3 y_lives_along
def B_copy_hours_0  : (Py.D) → Py.D → Fu.O (Py.D) (Py.D) (Py.D) := fun (s4 : Py.D) x8 => (Fu.O.ofO (some x8)).seq fun z5 => ((Fu.O.ofP (Fu.S.bin fAdd (Fu.S.bin fAdd (Fu.S.ok s4) (Fu.S.bin fIx (Fu.S.ok z5) (Fu.S.ok (.int 0)))) (Fu.S.bin fIx (Fu.S.ok z5) (Fu.S.ok (.int 1))))).seq fun z7 => .nx z7)
def F_copy_hours (a0 : Py.D) : Fu.R (Py.D) := Fu.fin (β := Unit) ((Fu.O.ofP (Fu.S.call (Fu.ap1 F_plain_form) (Fu.S.cons (Fu.S.ok a0) Fu.S.nil))).seq fun z1 => ((Fu.iteP (Fu.S.not (Fu.S.tru (Fu.S.call (Fu.ap1 F_has_copy_form) (Fu.S.cons (Fu.S.ok z1) Fu.S.nil)))) (Fu.raiseO "BadCase" "at" (Fu.S.tup Fu.S.nil)) (.nx ())).seq fun z2 => ((Fu.O.ofP (Fu.S.ok (.int 0))).seq fun z3 => (((Fu.O.ofP (Fu.S.items (Fu.S.bin fIx (Fu.S.ok z1) (Fu.S.ok (.int 1))))).seq fun x9 => Fu.loop B_copy_hours_0 x9 z3).seq fun z6 => (.rt z6)))))
theorem y_copy_hours (a0 : Py.D) : Fu.CallOk (c_copy_hours [.v a0]) (F_copy_hours a0) (Fu.uns [a0]) := Fu.fnD (xs := [a0]) (l := [.un, .un, .un]) (n := 4) (Q := fun _ => Fu.anys 4) rfl (by simp [Fu.PlainL]) (Fu.st_seq (Fu.st_setP (Fu.v_call z_plain_form (Fu.a_val (Fu.x_v 0 (fun _ => rfl)) Fu.a_nil) (fun _ => (Fu.LE.anyN rfl))) rfl) fun z1 => (Fu.st_seq (Fu.st_ifP (Q := fun (z2 : Unit) => [.v a0, .v z1, .un, .un]) (Fu.x_not (Fu.x_tru (Fu.x_hold (Fu.v_call z_has_copy_form (Fu.a_val (Fu.x_v 1 (fun _ => rfl)) Fu.a_nil) (fun _ => (Fu.LE.anyN rfl)))))) (Fu.st_raise (Fu.x_tup Fu.x_nil) (Fu.LE.anyN rfl)) (Fu.st_next Fu.LE.r)) fun z2 => (Fu.st_seq (Fu.st_setP (Fu.v_x Fu.x_c) rfl) fun z3 => (Fu.st_seq (Fu.st_forP (L := fun (s4 : Py.D) => [.v a0, .v z1, .v s4, .un]) (Qg := fun (s4 : Py.D) (z5 : Py.D) => [.v a0, .v z1, .v s4, .w z5]) (Fu.x_items (Fu.x_bin (Fu.x_v 1 (fun _ => rfl)) Fu.x_c)) Fu.LE.r (fun s4 => (Fu.tg_nm rfl)) (fun s4 z5 => (Fu.st_end (Fu.st_setP (Fu.v_x (Fu.x_bin (Fu.x_bin (Fu.x_v 2 (fun _ => rfl)) (Fu.x_bin (Fu.x_w 3 (fun _ => rfl)) Fu.x_c)) (Fu.x_bin (Fu.x_w 3 (fun _ => rfl)) Fu.x_c))) rfl) (fun z7 => (Fu.LE.c Fu.PtLE.r (Fu.LE.c Fu.PtLE.r (Fu.LE.c Fu.PtLE.r (Fu.LE.c Fu.PtLE.wu Fu.LE.n)))))))) fun z6 => (Fu.st_retMV (j := 2) rfl (fun _ h => h) (Fu.LE.anyN rfl)))))) (fun _ => rfl)
theorem z_copy_hours : Fu.Z c_copy_hours (Fu.ap1 F_copy_hours) := Fu.z1 y_copy_hours
def B_copy_of_0 (a1 : Py.D) : (Py.D × Py.D × List Py.D) → Py.D → Fu.O (Py.D) (Py.D × Py.D × List Py.D) (Py.D × Py.D × List Py.D) := fun (s9 : Py.D × Py.D × List Py.D) x139 => (Fu.O.ofO ((Fu.tSq 4 (Fu.tC some (Fu.tC some (Fu.tC some (Fu.tC some Fu.t0))))) x139)).seq fun z10 => ((Fu.O.ofP (Fu.S.cal fMin (Fu.S.cons (Fu.S.ok s9.1) (Fu.S.cons (Fu.S.ok z10.1) Fu.S.nil)))).seq fun z132 => ((Fu.O.ofP (Fu.S.ife (Fu.S.tst (Fu.S.bin fIsN (Fu.S.ok z10.2.1) (Fu.S.ok .non))) (Fu.S.ok s9.2.1) (Fu.S.cal fMin (Fu.S.cons (Fu.S.ok s9.2.1) (Fu.S.cons (Fu.S.ok z10.2.1) Fu.S.nil))))).seq fun z133 => ((Fu.O.ofP (Fu.S.cal fMin (Fu.S.cons (Fu.S.bin fSub (Fu.S.ok s9.1) (Fu.S.ok z132)) (Fu.S.cons (Fu.S.bin fAdd (Fu.S.ok z133) (Fu.S.ok z10.2.2.1)) Fu.S.nil)))).seq fun z134 => ((Fu.O.ofP (Fu.S.cal fMin (Fu.S.cons (Fu.S.ok z134) (Fu.S.cons (Fu.S.ok z133) Fu.S.nil)))).seq fun z135 => ((Fu.O.ofP (Fu.S.bin fSub (Fu.S.bin fSub (Fu.S.ok s9.1) (Fu.S.ok z132)) (Fu.S.ok z134))).seq fun z136 => ((Fu.O.ofP (Fu.S.ife (Fu.S.tst (Fu.S.bin fEq (Fu.S.ok z10.2.2.2.1) (Fu.S.ok (.str "anew")))) (Fu.S.ok a1) (Fu.S.bin fSub (Fu.S.ok s9.2.1) (Fu.S.ok z135)))).seq fun z137 => ((Fu.mutP mAppend s9.2.2 (Fu.S.cons (Fu.S.tup (Fu.S.cons (Fu.S.ok z132) (Fu.S.cons (Fu.S.ok z134) (Fu.S.cons (Fu.S.ok z135) Fu.S.nil)))) Fu.S.nil)).seq fun z138 => .nx (z136, z137, z138.2))))))))
def F_copy_of (a0 a1 a2 a3 : Py.D) : Fu.R (Py.D) := Fu.fin (β := Unit) ((Fu.O.ofP (Fu.S.call (Fu.ap1 F_check_way) (Fu.S.cons (Fu.S.ok a0) Fu.S.nil))).seq fun z1 => ((Fu.O.ofP (Fu.S.call (Fu.ap2 F_check_number) (Fu.S.cons (Fu.S.ok a1) (Fu.S.cons (Fu.S.ok (.int 0)) Fu.S.nil)))).seq fun z2 => ((Fu.O.ofP (Fu.S.call (Fu.ap1 F_check_hour) (Fu.S.cons (Fu.S.ok a2) Fu.S.nil))).seq fun z3 => ((Fu.O.ofP (Fu.S.call (Fu.ap2 F_check_number) (Fu.S.cons (Fu.S.ok a3) (Fu.S.cons (Fu.S.ok (.int 0)) Fu.S.nil)))).seq fun z4 => ((Fu.iteP (Fu.S.tst (Fu.S.bin fGt (Fu.S.ok a3) (Fu.S.call (Fu.ap2 F_plain_delay) (Fu.S.cons (Fu.S.ok z1) (Fu.S.cons (Fu.S.ok a1) Fu.S.nil))))) (Fu.retP (fun x => x) (Fu.S.ok .non)) (.nx ())).seq fun z5 => ((Fu.O.ofP (Fu.S.ok a3)).seq fun z6 => ((Fu.O.ofP (Fu.S.ok a1)).seq fun z7 => ((Fu.O.ofP (Fu.S.lst Fu.S.nil)).seq fun z8 => (((Fu.O.ofP (Fu.S.items (Fu.S.ok z1))).seq fun x140 => Fu.loop (B_copy_of_0 a1) x140 (z6, z7, z8)).seq fun z11 => (Fu.retP (fun x => x) (Fu.S.tup (Fu.S.cons (Fu.S.ok a2) (Fu.S.cons (Fu.S.cal fTuple (Fu.S.cons (Fu.S.ok (.lst z11.2.2)) Fu.S.nil)) Fu.S.nil)))))))))))))
theorem y_copy_of (a0 a1 a2 a3 : Py.D) : Fu.CallOk (c_copy_of [.v a0, .v a1, .v a2, .v a3]) (F_copy_of a0 a1 a2 a3) (Fu.uns [a0, a1, a2, a3]) := Fu.fnD (xs := [a0, a1, a2, a3]) (l := [.un, .un, .un, .un, .un, .un, .un, .un, .un, .un, .un, .un]) (n := 16) (Q := fun _ => Fu.anys 16) rfl (by simp [Fu.PlainL]) (Fu.st_seq (Fu.st_setP (Fu.v_call z_check_way (Fu.a_val (Fu.x_v 0 (fun _ => rfl)) Fu.a_nil) (fun _ => (Fu.LE.anyN rfl))) rfl) fun z1 => (Fu.st_seq (Fu.st_dropP (Fu.v_call z_check_number (Fu.a_val (Fu.x_v 1 (fun _ => rfl)) (Fu.a_val Fu.x_c Fu.a_nil)) (fun _ => (Fu.LE.anyN rfl)))) fun z2 => (Fu.st_seq (Fu.st_dropP (Fu.v_call z_check_hour (Fu.a_val (Fu.x_v 2 (fun _ => rfl)) Fu.a_nil) (fun _ => (Fu.LE.anyN rfl)))) fun z3 => (Fu.st_seq (Fu.st_dropP (Fu.v_call z_check_number (Fu.a_val (Fu.x_v 3 (fun _ => rfl)) (Fu.a_val Fu.x_c Fu.a_nil)) (fun _ => (Fu.LE.anyN rfl)))) fun z4 => (Fu.st_seq (Fu.st_ifP (Q := fun (z5 : Unit) => [.v a0, .v a1, .v a2, .v a3, .v z1, .un, .un, .un, .un, .un, .un, .un, .un, .un, .un, .un]) (Fu.x_tst (Fu.x_bin (Fu.x_v 3 (fun _ => rfl)) (Fu.x_hold (Fu.v_call z_plain_delay (Fu.a_val (Fu.x_v 4 (fun _ => rfl)) (Fu.a_val (Fu.x_v 1 (fun _ => rfl)) Fu.a_nil)) (fun _ => (Fu.LE.anyN rfl)))))) (Fu.st_retP (Fu.v_x Fu.x_c) (fun _ _ h => h) (fun _ => (Fu.LE.anyN rfl))) (Fu.st_next Fu.LE.r)) fun z5 => (Fu.st_seq (Fu.st_setP (Fu.v_x (Fu.x_v 3 (fun _ => rfl))) rfl) fun z6 => (Fu.st_seq (Fu.st_setP (Fu.v_x (Fu.x_v 1 (fun _ => rfl))) rfl) fun z7 => (Fu.st_seq (Fu.st_setN (Fu.n_lst Fu.x_nil) rfl) fun z8 => (Fu.st_seq (Fu.st_forP (L := fun (s9 : Py.D × Py.D × List Py.D) => [.v a0, .v a1, .v a2, .v a3, .v z1, .v s9.1, .v s9.2.1, .o s9.2.2, .un, .un, .un, .un, .un, .un, .un, .un]) (Qg := fun (s9 : Py.D × Py.D × List Py.D) (z10 : (Py.D × (Py.D × (Py.D × (Py.D × Unit))))) => [.v a0, .v a1, .v a2, .v a3, .v z1, .v s9.1, .v s9.2.1, .o s9.2.2, .w z10.1, .w z10.2.1, .w z10.2.2.1, .w z10.2.2.2.1, .un, .un, .un, .un]) (Fu.x_items (Fu.x_v 4 (fun _ => rfl))) Fu.LE.r (fun s9 => (Fu.tg_sq (Fu.tg_c (Q := fun (q51 : Py.D) => [.v a0, .v a1, .v a2, .v a3, .v z1, .v s9.1, .v s9.2.1, .o s9.2.2, .w q51, .un, .un, .un, .un, .un, .un, .un]) (Q2 := fun (q131 : (Py.D × (Py.D × (Py.D × (Py.D × Unit))))) => [.v a0, .v a1, .v a2, .v a3, .v z1, .v s9.1, .v s9.2.1, .o s9.2.2, .w q131.1, .w q131.2.1, .w q131.2.2.1, .w q131.2.2.2.1, .un, .un, .un, .un]) (Fu.tg_nm rfl) (fun q51 => (Fu.tg_c (Q := fun (q65 : Py.D) => [.v a0, .v a1, .v a2, .v a3, .v z1, .v s9.1, .v s9.2.1, .o s9.2.2, .w q51, .w q65, .un, .un, .un, .un, .un, .un]) (Q2 := fun (q91 : (Py.D × (Py.D × (Py.D × Unit)))) => [.v a0, .v a1, .v a2, .v a3, .v z1, .v s9.1, .v s9.2.1, .o s9.2.2, .w q51, .w q91.1, .w q91.2.1, .w q91.2.2.1, .un, .un, .un, .un]) (Fu.tg_nm rfl) (fun q65 => (Fu.tg_c (Q := fun (q70 : Py.D) => [.v a0, .v a1, .v a2, .v a3, .v z1, .v s9.1, .v s9.2.1, .o s9.2.2, .w q51, .w q65, .w q70, .un, .un, .un, .un, .un]) (Q2 := fun (q78 : (Py.D × (Py.D × Unit))) => [.v a0, .v a1, .v a2, .v a3, .v z1, .v s9.1, .v s9.2.1, .o s9.2.2, .w q51, .w q65, .w q78.1, .w q78.2.1, .un, .un, .un, .un]) (Fu.tg_nm rfl) (fun q70 => (Fu.tg_c (Q := fun (q72 : Py.D) => [.v a0, .v a1, .v a2, .v a3, .v z1, .v s9.1, .v s9.2.1, .o s9.2.2, .w q51, .w q65, .w q70, .w q72, .un, .un, .un, .un]) (Q2 := fun (q74 : (Py.D × Unit)) => [.v a0, .v a1, .v a2, .v a3, .v z1, .v s9.1, .v s9.2.1, .o s9.2.2, .w q51, .w q65, .w q70, .w q74.1, .un, .un, .un, .un]) (Fu.tg_nm rfl) (fun q72 => Fu.tg_0)))))))))) (fun s9 z10 => (Fu.st_seq (Fu.st_setP (Fu.v_x (Fu.x_cal (Fu.x_cons (Fu.x_v 5 (fun _ => rfl)) (Fu.x_cons (Fu.x_w 8 (fun _ => rfl)) Fu.x_nil)))) rfl) fun z132 => (Fu.st_seq (Fu.st_setP (Fu.v_x (Fu.x_ife (Fu.x_tst (Fu.x_bin (Fu.x_w 9 (fun _ => rfl)) Fu.x_c)) (Fu.x_v 6 (fun _ => rfl)) (Fu.x_cal (Fu.x_cons (Fu.x_v 6 (fun _ => rfl)) (Fu.x_cons (Fu.x_w 9 (fun _ => rfl)) Fu.x_nil))))) rfl) fun z133 => (Fu.st_seq (Fu.st_setP (Fu.v_x (Fu.x_cal (Fu.x_cons (Fu.x_bin (Fu.x_v 5 (fun _ => rfl)) (Fu.x_v 12 (fun _ => rfl))) (Fu.x_cons (Fu.x_bin (Fu.x_v 13 (fun _ => rfl)) (Fu.x_w 10 (fun _ => rfl))) Fu.x_nil)))) rfl) fun z134 => (Fu.st_seq (Fu.st_setP (Fu.v_x (Fu.x_cal (Fu.x_cons (Fu.x_v 14 (fun _ => rfl)) (Fu.x_cons (Fu.x_v 13 (fun _ => rfl)) Fu.x_nil)))) rfl) fun z135 => (Fu.st_seq (Fu.st_setP (Fu.v_x (Fu.x_bin (Fu.x_bin (Fu.x_v 5 (fun _ => rfl)) (Fu.x_v 12 (fun _ => rfl))) (Fu.x_v 14 (fun _ => rfl)))) rfl) fun z136 => (Fu.st_seq (Fu.st_setP (Fu.v_x (Fu.x_ife (Fu.x_tst (Fu.x_bin (Fu.x_w 11 (fun _ => rfl)) Fu.x_c)) (Fu.x_v 1 (fun _ => rfl)) (Fu.x_bin (Fu.x_v 6 (fun _ => rfl)) (Fu.x_v 15 (fun _ => rfl))))) rfl) fun z137 => (Fu.st_end (Fu.st_mut rfl (Fu.x_cons (Fu.x_tup (Fu.x_cons (Fu.x_v 12 (fun _ => rfl)) (Fu.x_cons (Fu.x_v 14 (fun _ => rfl)) (Fu.x_cons (Fu.x_v 15 (fun _ => rfl)) Fu.x_nil)))) Fu.x_nil)) (fun z138 => (Fu.LE.c Fu.PtLE.r (Fu.LE.c Fu.PtLE.r (Fu.LE.c Fu.PtLE.r (Fu.LE.c Fu.PtLE.r (Fu.LE.c Fu.PtLE.r (Fu.LE.c Fu.PtLE.r (Fu.LE.c Fu.PtLE.r (Fu.LE.c Fu.PtLE.r (Fu.LE.c Fu.PtLE.wu (Fu.LE.c Fu.PtLE.wu (Fu.LE.c Fu.PtLE.wu (Fu.LE.c Fu.PtLE.wu (Fu.LE.c Fu.PtLE.vu (Fu.LE.c Fu.PtLE.vu (Fu.LE.c Fu.PtLE.vu (Fu.LE.c Fu.PtLE.vu Fu.LE.n)))))))))))))))))))))))))) fun z11 => (Fu.st_wk (Fu.LE.c Fu.PtLE.r (Fu.LE.c Fu.PtLE.r (Fu.LE.c Fu.PtLE.r (Fu.LE.c Fu.PtLE.r (Fu.LE.c Fu.PtLE.r (Fu.LE.c Fu.PtLE.r (Fu.LE.c Fu.PtLE.r (Fu.LE.c Fu.PtLE.ov (Fu.LE.c Fu.PtLE.r (Fu.LE.c Fu.PtLE.r (Fu.LE.c Fu.PtLE.r (Fu.LE.c Fu.PtLE.r (Fu.LE.c Fu.PtLE.r (Fu.LE.c Fu.PtLE.r (Fu.LE.c Fu.PtLE.r (Fu.LE.c Fu.PtLE.r Fu.LE.n)))))))))))))))) (Fu.st_retP (Fu.v_x (Fu.x_tup (Fu.x_cons (Fu.x_v 2 (fun _ => rfl)) (Fu.x_cons (Fu.x_cal (Fu.x_cons (Fu.x_v 7 (fun _ => rfl)) Fu.x_nil)) Fu.x_nil)))) (fun _ _ h => h) (fun _ => (Fu.LE.anyN rfl))))))))))))) (fun _ => rfl)
theorem z_copy_of : Fu.Z c_copy_of (Fu.ap4 F_copy_of) := Fu.z4 y_copy_of
def B_plain_too_late_0  : (Py.D) → Py.D → Fu.O (Py.D) (Py.D) (Py.D) := fun (s18 : Py.D) x23 => (Fu.O.ofO (some x23)).seq fun z19 => ((Fu.iteP (Fu.S.not (Fu.S.tru (Fu.S.call (Fu.ap1 F_is_int) (Fu.S.cons (Fu.S.ok z19) Fu.S.nil)))) (Fu.retP (fun x => x) (Fu.S.ok (.bl false))) (.nx ())).seq fun z21 => ((Fu.O.ofP (Fu.S.bin fAdd (Fu.S.ok s18) (Fu.S.ok z19))).seq fun z22 => .nx z22))
def F_plain_too_late (a0 a1 a2 a3 : Py.D) : Fu.R (Py.D) := Fu.fin (β := Unit) ((Fu.iteP (Fu.S.or (Fu.S.not (Fu.S.tru (Fu.S.cal (fIs T) (Fu.S.cons (Fu.S.ok a3) (Fu.S.cons (Fu.S.ok (.ty .tup)) Fu.S.nil))))) (Fu.S.tst (Fu.S.bin fNe (Fu.S.cal fLen (Fu.S.cons (Fu.S.ok a3) Fu.S.nil)) (Fu.S.ok (.int 2))))) (Fu.retP (fun x => x) (Fu.S.ok (.bl false))) (.nx ())).seq fun z1 => (((Fu.O.ofP (Fu.S.ok a3)).seq fun y15 => Fu.O.ofO ((Fu.tSq 2 (Fu.tC some (Fu.tC some Fu.t0))) y15)).seq fun z2 => ((Fu.iteP (Fu.S.or (Fu.S.not (Fu.S.tru (Fu.S.call (Fu.ap1 F_is_int) (Fu.S.cons (Fu.S.ok z2.1) Fu.S.nil)))) (Fu.S.not (Fu.S.tru (Fu.S.cal (fIs T) (Fu.S.cons (Fu.S.ok z2.2.1) (Fu.S.cons (Fu.S.ok (.ty .tup)) Fu.S.nil)))))) (Fu.retP (fun x => x) (Fu.S.ok (.bl false))) (.nx ())).seq fun z16 => ((Fu.O.ofP (Fu.S.ok z2.1)).seq fun z17 => (((Fu.O.ofP (Fu.S.items (Fu.S.ok z2.2.1))).seq fun x24 => Fu.loop B_plain_too_late_0 x24 z17).seq fun z20 => (Fu.retP (fun x => x) (Fu.S.andV (Fu.S.bin fEq (Fu.S.ok z2.1) (Fu.S.call (Fu.ap1 F_plain_base) (Fu.S.cons (Fu.S.ok a0) Fu.S.nil))) (Fu.S.andV (Fu.S.bin fEq (Fu.S.ok z2.2.1) (Fu.S.call (Fu.ap2 F_life_shares) (Fu.S.cons (Fu.S.ok a0) (Fu.S.cons (Fu.S.ok a1) Fu.S.nil)))) (Fu.S.bin fLt (Fu.S.ok z20) (Fu.S.ok a2))))))))))
theorem y_plain_too_late (a0 a1 a2 a3 : Py.D) : Fu.CallOk (c_plain_too_late [.v a0, .v a1, .v a2, .v a3]) (F_plain_too_late a0 a1 a2 a3) (Fu.uns [a0, a1, a2, a3]) := Fu.fnD (xs := [a0, a1, a2, a3]) (l := [.un, .un, .un, .un]) (n := 8) (Q := fun _ => Fu.anys 8) rfl (by simp [Fu.PlainL]) (Fu.st_seq (Fu.st_ifP (Q := fun (z1 : Unit) => [.v a0, .v a1, .v a2, .v a3, .un, .un, .un, .un]) (Fu.x_or (Fu.x_not (Fu.x_tru (Fu.x_cal (Fu.x_cons (Fu.x_v 3 (fun _ => rfl)) (Fu.x_cons Fu.x_c Fu.x_nil))))) (Fu.x_tst (Fu.x_bin (Fu.x_cal (Fu.x_cons (Fu.x_v 3 (fun _ => rfl)) Fu.x_nil)) Fu.x_c))) (Fu.st_retP (Fu.v_x Fu.x_c) (fun _ _ h => h) (fun _ => (Fu.LE.anyN rfl))) (Fu.st_next Fu.LE.r)) fun z1 => (Fu.st_seq (Fu.st_asg (Q := fun (z2 : (Py.D × (Py.D × Unit))) => [.v a0, .v a1, .v a2, .v a3, .w z2.1, .w z2.2.1, .un, .un]) (Fu.x_v 3 (fun _ => rfl)) (Fu.tg_sq (Fu.tg_c (Q := fun (q6 : Py.D) => [.v a0, .v a1, .v a2, .v a3, .w q6, .un, .un, .un]) (Q2 := fun (q14 : (Py.D × (Py.D × Unit))) => [.v a0, .v a1, .v a2, .v a3, .w q14.1, .w q14.2.1, .un, .un]) (Fu.tg_nm rfl) (fun q6 => (Fu.tg_c (Q := fun (q8 : Py.D) => [.v a0, .v a1, .v a2, .v a3, .w q6, .w q8, .un, .un]) (Q2 := fun (q10 : (Py.D × Unit)) => [.v a0, .v a1, .v a2, .v a3, .w q6, .w q10.1, .un, .un]) (Fu.tg_nm rfl) (fun q8 => Fu.tg_0)))))) fun z2 => (Fu.st_seq (Fu.st_ifP (Q := fun (z16 : Unit) => [.v a0, .v a1, .v a2, .v a3, .w z2.1, .w z2.2.1, .un, .un]) (Fu.x_or (Fu.x_not (Fu.x_tru (Fu.x_hold (Fu.v_call z_is_int (Fu.a_val (Fu.x_w 4 (fun _ => rfl)) Fu.a_nil) (fun _ => (Fu.LE.anyN rfl)))))) (Fu.x_not (Fu.x_tru (Fu.x_cal (Fu.x_cons (Fu.x_w 5 (fun _ => rfl)) (Fu.x_cons Fu.x_c Fu.x_nil)))))) (Fu.st_retP (Fu.v_x Fu.x_c) (fun _ _ h => h) (fun _ => (Fu.LE.anyN rfl))) (Fu.st_next Fu.LE.r)) fun z16 => (Fu.st_seq (Fu.st_setP (Fu.v_x (Fu.x_w 4 (fun _ => rfl))) rfl) fun z17 => (Fu.st_seq (Fu.st_forP (L := fun (s18 : Py.D) => [.v a0, .v a1, .v a2, .v a3, .w z2.1, .w z2.2.1, .v s18, .un]) (Qg := fun (s18 : Py.D) (z19 : Py.D) => [.v a0, .v a1, .v a2, .v a3, .w z2.1, .w z2.2.1, .v s18, .w z19]) (Fu.x_items (Fu.x_w 5 (fun _ => rfl))) Fu.LE.r (fun s18 => (Fu.tg_nm rfl)) (fun s18 z19 => (Fu.st_seq (Fu.st_ifP (Q := fun (z21 : Unit) => [.v a0, .v a1, .v a2, .v a3, .w z2.1, .w z2.2.1, .v s18, .w z19]) (Fu.x_not (Fu.x_tru (Fu.x_hold (Fu.v_call z_is_int (Fu.a_val (Fu.x_w 7 (fun _ => rfl)) Fu.a_nil) (fun _ => (Fu.LE.anyN rfl)))))) (Fu.st_retP (Fu.v_x Fu.x_c) (fun _ _ h => h) (fun _ => (Fu.LE.anyN rfl))) (Fu.st_next Fu.LE.r)) fun z21 => (Fu.st_end (Fu.st_setP (Fu.v_x (Fu.x_bin (Fu.x_v 6 (fun _ => rfl)) (Fu.x_w 7 (fun _ => rfl)))) rfl) (fun z22 => (Fu.LE.c Fu.PtLE.r (Fu.LE.c Fu.PtLE.r (Fu.LE.c Fu.PtLE.r (Fu.LE.c Fu.PtLE.r (Fu.LE.c Fu.PtLE.r (Fu.LE.c Fu.PtLE.r (Fu.LE.c Fu.PtLE.r (Fu.LE.c Fu.PtLE.wu Fu.LE.n))))))))))))) fun z20 => (Fu.st_retP (Fu.v_x (Fu.x_andV (Fu.x_bin (Fu.x_w 4 (fun _ => rfl)) (Fu.x_hold (Fu.v_call z_plain_base (Fu.a_val (Fu.x_v 0 (fun _ => rfl)) Fu.a_nil) (fun _ => (Fu.LE.anyN rfl))))) (Fu.x_andV (Fu.x_bin (Fu.x_w 5 (fun _ => rfl)) (Fu.x_hold (Fu.v_call z_life_shares (Fu.a_val (Fu.x_v 0 (fun _ => rfl)) (Fu.a_val (Fu.x_v 1 (fun _ => rfl)) Fu.a_nil)) (fun _ => (Fu.LE.anyN rfl))))) (Fu.x_bin (Fu.x_v 6 (fun _ => rfl)) (Fu.x_v 2 (fun _ => rfl)))))) (fun _ _ h => h) (fun _ => (Fu.LE.anyN rfl)))))))) (fun _ => rfl)
theorem z_plain_too_late : Fu.Z c_plain_too_late (Fu.ap4 F_plain_too_late) := Fu.z4 y_plain_too_late
def F_shows_too_late (a0 a1 a2 a3 : Py.D) : Fu.R (Py.D) := Fu.fin (β := Unit) ((Fu.O.ofP (Fu.S.call (Fu.ap1 F_check_way) (Fu.S.cons (Fu.S.ok a0) Fu.S.nil))).seq fun z1 => ((Fu.O.ofP (Fu.S.call (Fu.ap2 F_check_number) (Fu.S.cons (Fu.S.ok a1) (Fu.S.cons (Fu.S.ok (.int 0)) Fu.S.nil)))).seq fun z2 => ((Fu.O.ofP (Fu.S.call (Fu.ap2 F_check_number) (Fu.S.cons (Fu.S.ok a2) (Fu.S.cons (Fu.S.ok (.int 0)) Fu.S.nil)))).seq fun z3 => (Fu.retP (fun x => x) (Fu.S.call (Fu.ap4 F_plain_too_late) (Fu.S.cons (Fu.S.ok z1) (Fu.S.cons (Fu.S.ok a1) (Fu.S.cons (Fu.S.ok a2) (Fu.S.cons (Fu.S.call (Fu.ap1 F_plain_form) (Fu.S.cons (Fu.S.ok a3) Fu.S.nil)) Fu.S.nil)))))))))
theorem y_shows_too_late (a0 a1 a2 a3 : Py.D) : Fu.CallOk (c_shows_too_late [.v a0, .v a1, .v a2, .v a3]) (F_shows_too_late a0 a1 a2 a3) (Fu.uns [a0, a1, a2, a3]) := Fu.fnD (xs := [a0, a1, a2, a3]) (l := [.un]) (n := 5) (Q := fun _ => Fu.anys 5) rfl (by simp [Fu.PlainL]) (Fu.st_seq (Fu.st_setP (Fu.v_call z_check_way (Fu.a_val (Fu.x_v 0 (fun _ => rfl)) Fu.a_nil) (fun _ => (Fu.LE.anyN rfl))) rfl) fun z1 => (Fu.st_seq (Fu.st_dropP (Fu.v_call z_check_number (Fu.a_val (Fu.x_v 1 (fun _ => rfl)) (Fu.a_val Fu.x_c Fu.a_nil)) (fun _ => (Fu.LE.anyN rfl)))) fun z2 => (Fu.st_seq (Fu.st_dropP (Fu.v_call z_check_number (Fu.a_val (Fu.x_v 2 (fun _ => rfl)) (Fu.a_val Fu.x_c Fu.a_nil)) (fun _ => (Fu.LE.anyN rfl)))) fun z3 => (Fu.st_retP (Fu.v_call z_plain_too_late (Fu.a_val (Fu.x_v 4 (fun _ => rfl)) (Fu.a_val (Fu.x_v 1 (fun _ => rfl)) (Fu.a_val (Fu.x_v 2 (fun _ => rfl)) (Fu.a_val (Fu.x_hold (Fu.v_call z_plain_form (Fu.a_val (Fu.x_v 3 (fun _ => rfl)) Fu.a_nil) (fun _ => (Fu.LE.anyN rfl)))) Fu.a_nil)))) (fun _ => (Fu.LE.anyN rfl))) (fun _ _ h => h) (fun _ => (Fu.LE.anyN rfl)))))) (fun _ => rfl)
theorem z_shows_too_late : Fu.Z c_shows_too_late (Fu.ap4 F_shows_too_late) := Fu.z4 y_shows_too_late
def F_too_late_paper (a0 a1 a2 : Py.D) : Fu.R (Py.D) := Fu.fin (β := Unit) ((Fu.O.ofP (Fu.S.call (Fu.ap1 F_check_way) (Fu.S.cons (Fu.S.ok a0) Fu.S.nil))).seq fun z1 => ((Fu.O.ofP (Fu.S.call (Fu.ap2 F_check_number) (Fu.S.cons (Fu.S.ok a1) (Fu.S.cons (Fu.S.ok (.int 0)) Fu.S.nil)))).seq fun z2 => ((Fu.O.ofP (Fu.S.call (Fu.ap2 F_check_number) (Fu.S.cons (Fu.S.ok a2) (Fu.S.cons (Fu.S.ok (.int 0)) Fu.S.nil)))).seq fun z3 => ((Fu.iteP (Fu.S.tst (Fu.S.bin fLe (Fu.S.ok a2) (Fu.S.call (Fu.ap2 F_plain_delay) (Fu.S.cons (Fu.S.ok z1) (Fu.S.cons (Fu.S.ok a1) Fu.S.nil))))) (Fu.retP (fun x => x) (Fu.S.ok .non)) (.nx ())).seq fun z4 => (Fu.retP (fun x => x) (Fu.S.tup (Fu.S.cons (Fu.S.call (Fu.ap1 F_plain_base) (Fu.S.cons (Fu.S.ok z1) Fu.S.nil)) (Fu.S.cons (Fu.S.call (Fu.ap2 F_life_shares) (Fu.S.cons (Fu.S.ok z1) (Fu.S.cons (Fu.S.ok a1) Fu.S.nil))) Fu.S.nil))))))))
theorem y_too_late_paper (a0 a1 a2 : Py.D) : Fu.CallOk (c_too_late_paper [.v a0, .v a1, .v a2]) (F_too_late_paper a0 a1 a2) (Fu.uns [a0, a1, a2]) := Fu.fnD (xs := [a0, a1, a2]) (l := [.un]) (n := 4) (Q := fun _ => Fu.anys 4) rfl (by simp [Fu.PlainL]) (Fu.st_seq (Fu.st_setP (Fu.v_call z_check_way (Fu.a_val (Fu.x_v 0 (fun _ => rfl)) Fu.a_nil) (fun _ => (Fu.LE.anyN rfl))) rfl) fun z1 => (Fu.st_seq (Fu.st_dropP (Fu.v_call z_check_number (Fu.a_val (Fu.x_v 1 (fun _ => rfl)) (Fu.a_val Fu.x_c Fu.a_nil)) (fun _ => (Fu.LE.anyN rfl)))) fun z2 => (Fu.st_seq (Fu.st_dropP (Fu.v_call z_check_number (Fu.a_val (Fu.x_v 2 (fun _ => rfl)) (Fu.a_val Fu.x_c Fu.a_nil)) (fun _ => (Fu.LE.anyN rfl)))) fun z3 => (Fu.st_seq (Fu.st_ifP (Q := fun (z4 : Unit) => [.v a0, .v a1, .v a2, .v z1]) (Fu.x_tst (Fu.x_bin (Fu.x_v 2 (fun _ => rfl)) (Fu.x_hold (Fu.v_call z_plain_delay (Fu.a_val (Fu.x_v 3 (fun _ => rfl)) (Fu.a_val (Fu.x_v 1 (fun _ => rfl)) Fu.a_nil)) (fun _ => (Fu.LE.anyN rfl)))))) (Fu.st_retP (Fu.v_x Fu.x_c) (fun _ _ h => h) (fun _ => (Fu.LE.anyN rfl))) (Fu.st_next Fu.LE.r)) fun z4 => (Fu.st_retP (Fu.v_x (Fu.x_tup (Fu.x_cons (Fu.x_hold (Fu.v_call z_plain_base (Fu.a_val (Fu.x_v 3 (fun _ => rfl)) Fu.a_nil) (fun _ => (Fu.LE.anyN rfl)))) (Fu.x_cons (Fu.x_hold (Fu.v_call z_life_shares (Fu.a_val (Fu.x_v 3 (fun _ => rfl)) (Fu.a_val (Fu.x_v 1 (fun _ => rfl)) Fu.a_nil)) (fun _ => (Fu.LE.anyN rfl)))) Fu.x_nil)))) (fun _ _ h => h) (fun _ => (Fu.LE.anyN rfl))))))) (fun _ => rfl)
theorem z_too_late_paper : Fu.Z c_too_late_paper (Fu.ap3 F_too_late_paper) := Fu.z3 y_too_late_paper
def B__law_draws_0  : (List Py.D × Py.D) → Py.D → Fu.O (List Py.D) (List Py.D × Py.D) (List Py.D × Py.D) := fun (s9 : List Py.D × Py.D) x14 => (Fu.O.ofO (some x14)).seq fun z10 => ((Fu.mutP mAppend s9.1 (Fu.S.cons (Fu.S.bin fMod (Fu.S.cal fInt (Fu.S.cons (Fu.S.ok s9.2) Fu.S.nil)) (Fu.S.ok (.int 30))) Fu.S.nil)).seq fun z12 => ((Fu.O.ofP (Fu.S.bin fDiv (Fu.S.ok s9.2) (Fu.S.ok (.int 30)))).seq fun z13 => (Fu.iteP (Fu.S.tst (Fu.S.bin fEq (Fu.S.ok z13) (Fu.S.ok (.int 0)))) (.bk (z12.2, z13)) (.nx (z12.2, z13)))))
def B__law_draws_1 (a0 : Py.D) : (List Py.D) → Py.D → Fu.O (List Py.D) (List Py.D) (List Py.D) := fun (s2 : List Py.D) x16 => (Fu.O.ofO (some x16)).seq fun z3 => ((Fu.O.ofP (Fu.S.cal fInt (Fu.S.cons (Fu.S.bin fIx (Fu.S.ok a0) (Fu.S.ok z3)) Fu.S.nil))).seq fun z5 => ((Fu.iteP (Fu.S.tst (Fu.S.bin fLt (Fu.S.ok z5) (Fu.S.ok (.int 0)))) ((Fu.O.ofP (Fu.S.bin fSub (Fu.S.ok (.int 11)) (Fu.S.bin fMul (Fu.S.ok (.int 2)) (Fu.S.ok z5)))).seq fun z7 => .nx z7) (.nx z5)).seq fun z6 => ((Fu.O.ofP (Fu.S.bin fMod (Fu.S.cal fInt (Fu.S.cons (Fu.S.ok z6) Fu.S.nil)) (Fu.S.bin fPow (Fu.S.ok (.int 30)) (Fu.S.ok (.int 24))))).seq fun z8 => (((Fu.O.ofP (Fu.S.it fRange1 (Fu.S.cons (Fu.S.ok (.int 24)) Fu.S.nil))).seq fun x15 => Fu.loop B__law_draws_0 x15 (s2, z8)).seq fun z11 => .nx z11.1))))
def F__law_draws (a0 : Py.D) : Fu.R (List Py.D) := Fu.finN (ρ := (List Py.D)) (β := Unit) ((Fu.O.ofP (Fu.S.lst Fu.S.nil)).seq fun z1 => (((Fu.O.ofP (Fu.S.it fRange1 (Fu.S.cons (Fu.S.cal fMin (Fu.S.cons (Fu.S.cal fLen (Fu.S.cons (Fu.S.ok a0) Fu.S.nil)) (Fu.S.cons (Fu.S.ok (.int 63)) Fu.S.nil))) Fu.S.nil))).seq fun x17 => Fu.loop (B__law_draws_1 a0) x17 z1).seq fun z4 => ((Fu.mutP mReverse z4 Fu.S.nil).seq fun z18 => (.rt z18.2))))
theorem y__law_draws (a0 : Py.D) : Fu.CallOkN (c__law_draws [.v a0]) (F__law_draws a0) (Fu.uns [a0]) := Fu.fnN (xs := [a0]) (l := [.un, .un, .un, .un]) (n := 5) (Q := fun _ => Fu.anys 5) rfl (by simp [Fu.PlainL]) (Fu.st_seq (Fu.st_setN (Fu.n_lst Fu.x_nil) rfl) fun z1 => (Fu.st_seq (Fu.st_forP (L := fun (s2 : List Py.D) => [.v a0, .o s2, .un, .un, .un]) (Qg := fun (s2 : List Py.D) (z3 : Py.D) => [.v a0, .o s2, .w z3, .un, .un]) (Fu.x_it (Fu.x_cons (Fu.x_cal (Fu.x_cons (Fu.x_cal (Fu.x_cons (Fu.x_v 0 (fun _ => rfl)) Fu.x_nil)) (Fu.x_cons Fu.x_c Fu.x_nil))) Fu.x_nil)) Fu.LE.r (fun s2 => (Fu.tg_nm rfl)) (fun s2 z3 => (Fu.st_seq (Fu.st_setP (Fu.v_x (Fu.x_cal (Fu.x_cons (Fu.x_bin (Fu.x_v 0 (fun _ => rfl)) (Fu.x_w 2 (fun _ => rfl))) Fu.x_nil))) rfl) fun z5 => (Fu.st_seq (Fu.st_ifP (Q := fun (z6 : Py.D) => [.v a0, .o s2, .w z3, .v z6, .un]) (Fu.x_tst (Fu.x_bin (Fu.x_v 3 (fun _ => rfl)) Fu.x_c)) (Fu.st_end (Fu.st_setP (Fu.v_x (Fu.x_bin Fu.x_c (Fu.x_bin Fu.x_c (Fu.x_v 3 (fun _ => rfl))))) rfl) (fun z7 => Fu.LE.r)) (Fu.st_next Fu.LE.r)) fun z6 => (Fu.st_seq (Fu.st_setP (Fu.v_x (Fu.x_bin (Fu.x_cal (Fu.x_cons (Fu.x_v 3 (fun _ => rfl)) Fu.x_nil)) (Fu.x_bin Fu.x_c Fu.x_c))) rfl) fun z8 => (Fu.st_end (Fu.st_forP (L := fun (s9 : List Py.D × Py.D) => [.v a0, .o s9.1, .w z3, .v s9.2, .un]) (Qg := fun (s9 : List Py.D × Py.D) (z10 : Py.D) => [.v a0, .o s9.1, .w z3, .v s9.2, .w z10]) (Fu.x_it (Fu.x_cons Fu.x_c Fu.x_nil)) Fu.LE.r (fun s9 => (Fu.tg_nm rfl)) (fun s9 z10 => (Fu.st_seq (Fu.st_mut rfl (Fu.x_cons (Fu.x_bin (Fu.x_cal (Fu.x_cons (Fu.x_v 3 (fun _ => rfl)) Fu.x_nil)) Fu.x_c) Fu.x_nil)) fun z12 => (Fu.st_seq (Fu.st_setP (Fu.v_x (Fu.x_bin (Fu.x_v 3 (fun _ => rfl)) Fu.x_c)) rfl) fun z13 => (Fu.st_ifP (Q := fun (s9 : List Py.D × Py.D) => [.v a0, .o s9.1, .w z3, .v s9.2, .un]) (Fu.x_tst (Fu.x_bin (Fu.x_v 3 (fun _ => rfl)) Fu.x_c)) (Fu.st_brk (Fu.LE.c Fu.PtLE.r (Fu.LE.c Fu.PtLE.r (Fu.LE.c Fu.PtLE.r (Fu.LE.c Fu.PtLE.r (Fu.LE.c Fu.PtLE.wu Fu.LE.n)))))) (Fu.st_next (Fu.LE.c Fu.PtLE.r (Fu.LE.c Fu.PtLE.r (Fu.LE.c Fu.PtLE.r (Fu.LE.c Fu.PtLE.r (Fu.LE.c Fu.PtLE.wu Fu.LE.n))))))))))) (fun z11 => (Fu.LE.c Fu.PtLE.r (Fu.LE.c Fu.PtLE.r (Fu.LE.c Fu.PtLE.wu (Fu.LE.c Fu.PtLE.vu (Fu.LE.c Fu.PtLE.r Fu.LE.n)))))))))))) fun z4 => (Fu.st_seq (Fu.st_mut rfl Fu.x_nil) fun z18 => (Fu.st_retM (j := 1) rfl rfl (Fu.LE.anyN rfl)))))
theorem z__law_draws : Fu.ZN c__law_draws (Fu.ap1 F__law_draws) := Fu.zn1 y__law_draws
def F__law_take (a0 : List Py.D) (a1 : Py.D) : Fu.R (Py.D × List Py.D) := Fu.finN (ρ := (Py.D × List Py.D)) (β := Unit) ((Fu.iteP (Fu.S.tst (Fu.S.bin fEq (Fu.S.lenO a0) (Fu.S.ok (.int 0)))) (Fu.retP (fun x => (x, a0)) (Fu.S.ok (.int 0))) (.nx ())).seq fun z1 => (Fu.retS (fun y => y) (Fu.S.bin fMod (Fu.S.cal fInt (Fu.S.cons (Fu.S.mut mPop Fu.S.nil) Fu.S.nil)) (Fu.S.ok a1)) a0))
theorem y__law_take (a0 : List Py.D) (a1 : Py.D) : Fu.MOk (c__law_take [.p a0, .v a1]) (F__law_take a0 a1) (Fu.uns [a1]) := Fu.fnM (xs := [a1]) (l := []) (n := 2) (Q := fun _ => Fu.anys 2) rfl (by simp [Fu.PlainL]) (Fu.st_seq (Fu.st_ifP (Q := fun (z1 : Unit) => [.p a0, .v a1]) (Fu.x_tst (Fu.x_bin (Fu.x_lenO (fun _ => .inr rfl)) Fu.x_c)) (Fu.st_retP (Fu.v_x Fu.x_c) (fun _ _ h => h) (fun _ => (Fu.LE.c Fu.PtLE.r (Fu.LE.anyN rfl)))) (Fu.st_next Fu.LE.r)) fun z1 => (Fu.st_retS (P := fun (t2 : List Py.D) => [.p t2, .v a1]) (Fu.v_x (Fu.x_bin (Fu.x_cal (Fu.x_cons (Fu.x_hold (Fu.v_mut (Fu.lens_p (p := [.un, .v a1]) (j := 0) (of_decide_eq_true rfl) : Fu.Lens (fun (t2 : List Py.D) => [.p t2, .v a1]) 0) Fu.x_nil)) Fu.x_nil)) (Fu.x_v 1 (fun _ => rfl)))) (fun _ _ _ h => h) (fun _ _ => (Fu.LE.c Fu.PtLE.r (Fu.LE.anyN rfl)))))
theorem z__law_take : Fu.ZM c__law_take (Fu.am1 F__law_take) := Fu.zm1 y__law_take
def F__law_is_int (a0 : Py.D) : Fu.R (Py.D) := Fu.fin (β := Unit) (Fu.retP (fun x => x) (Fu.S.andV (Fu.S.cal (fIs T) (Fu.S.cons (Fu.S.ok a0) (Fu.S.cons (Fu.S.ok (.ty .int)) Fu.S.nil))) (Fu.S.notV (Fu.S.cal (fIs T) (Fu.S.cons (Fu.S.ok a0) (Fu.S.cons (Fu.S.ok (.ty .bool)) Fu.S.nil))))))
theorem y__law_is_int (a0 : Py.D) : Fu.CallOk (c__law_is_int [.v a0]) (F__law_is_int a0) (Fu.uns [a0]) := Fu.fnD (xs := [a0]) (l := []) (n := 1) (Q := fun _ => Fu.anys 1) rfl (by simp [Fu.PlainL]) (Fu.st_retP (Fu.v_x (Fu.x_andV (Fu.x_cal (Fu.x_cons (Fu.x_v 0 (fun _ => rfl)) (Fu.x_cons Fu.x_c Fu.x_nil))) (Fu.x_notV (Fu.x_cal (Fu.x_cons (Fu.x_v 0 (fun _ => rfl)) (Fu.x_cons Fu.x_c Fu.x_nil)))))) (fun _ _ h => h) (fun _ => (Fu.LE.anyN rfl))) (fun _ => rfl)
theorem z__law_is_int : Fu.Z c__law_is_int (Fu.ap1 F__law_is_int) := Fu.z1 y__law_is_int
def B__law_course_0  : (List Py.D × List Py.D) → Py.D → Fu.O (Py.D × List Py.D) (List Py.D × List Py.D) (List Py.D × List Py.D) := fun (s2 : List Py.D × List Py.D) x13 => (Fu.O.ofO (some x13)).seq fun z3 => ((Fu.O.ofS (Fu.S.bin fIx (Fu.S.toL (Fu.S.lst (Fu.S.cons (Fu.S.ok (.int 1)) (Fu.S.cons (Fu.S.ok (.int 0)) (Fu.S.cons (Fu.S.ok (.int 2)) Fu.S.nil))))) (Fu.S.callM (Fu.am1 F__law_take) (Fu.S.cons (Fu.S.ok (.int 3)) Fu.S.nil))) s2.1).seq fun z5 => ((Fu.O.ofS (Fu.S.bin fIx (Fu.S.toL (Fu.S.lst (Fu.S.cons (Fu.S.ok (.int 2)) (Fu.S.cons (Fu.S.ok .non) (Fu.S.cons (Fu.S.ok (.int 0)) (Fu.S.cons (Fu.S.ok (.int 5)) Fu.S.nil)))))) (Fu.S.callM (Fu.am1 F__law_take) (Fu.S.cons (Fu.S.ok (.int 4)) Fu.S.nil))) z5.2).seq fun z7 => ((Fu.O.ofS (Fu.S.bin fIx (Fu.S.toL (Fu.S.lst (Fu.S.cons (Fu.S.ok (.int 1)) (Fu.S.cons (Fu.S.ok (.int 0)) (Fu.S.cons (Fu.S.ok (.int 2)) Fu.S.nil))))) (Fu.S.callM (Fu.am1 F__law_take) (Fu.S.cons (Fu.S.ok (.int 3)) Fu.S.nil))) z7.2).seq fun z9 => ((Fu.mutS mAppend s2.2 (Fu.S.cons (Fu.S.tup (Fu.S.cons (Fu.S.ok z5.1) (Fu.S.cons (Fu.S.ok z7.1) (Fu.S.cons (Fu.S.ok z9.1) (Fu.S.cons (Fu.S.bin fIx (Fu.S.toL (Fu.S.lst (Fu.S.cons (Fu.S.ok (.str "on")) (Fu.S.cons (Fu.S.ok (.str "anew")) Fu.S.nil)))) (Fu.S.callM (Fu.am1 F__law_take) (Fu.S.cons (Fu.S.ok (.int 2)) Fu.S.nil))) Fu.S.nil))))) Fu.S.nil) z9.2).seq fun z11 => .nx (z11.2, z11.1.2)))))
def F__law_course (a0 : List Py.D) : Fu.R (Py.D × List Py.D) := Fu.finN (ρ := (Py.D × List Py.D)) (β := Unit) ((Fu.O.ofP (Fu.S.lst Fu.S.nil)).seq fun z1 => (((Fu.O.ofS (Fu.S.it fRange1 (Fu.S.cons (Fu.S.bin fIx (Fu.S.toL (Fu.S.lst (Fu.S.cons (Fu.S.ok (.int 2)) (Fu.S.cons (Fu.S.ok (.int 1)) (Fu.S.cons (Fu.S.ok (.int 3)) Fu.S.nil))))) (Fu.S.callM (Fu.am1 F__law_take) (Fu.S.cons (Fu.S.ok (.int 3)) Fu.S.nil))) Fu.S.nil)) a0).seq fun y15 => Fu.loop B__law_course_0 y15.1 (y15.2, z1)).seq fun z4 => (Fu.retP (fun x => (x, z4.1)) (Fu.S.cal fTuple (Fu.S.cons (Fu.S.ok (.lst z4.2)) Fu.S.nil)))))
theorem y__law_course (a0 : List Py.D) : Fu.MOk (c__law_course [.p a0]) (F__law_course a0) (Fu.uns []) := Fu.fnM (xs := []) (l := [.un, .un, .un, .un, .un]) (n := 6) (Q := fun _ => Fu.anys 6) rfl (by simp [Fu.PlainL]) (Fu.st_seq (Fu.st_setN (Fu.n_lst Fu.x_nil) rfl) fun z1 => (Fu.st_seq (Fu.st_forS (P := fun (t14 : List Py.D) => [.p t14, .o z1, .un, .un, .un, .un]) (s0 := fun t14 => (t14, z1)) (L := fun (s2 : List Py.D × List Py.D) => [.p s2.1, .o s2.2, .un, .un, .un, .un]) (Qg := fun (s2 : List Py.D × List Py.D) (z3 : Py.D) => [.p s2.1, .o s2.2, .w z3, .un, .un, .un]) (Fu.x_it (Fu.x_cons (Fu.x_bin (Fu.x_hold (Fu.v_n (Fu.n_lst (Fu.x_cons Fu.x_c (Fu.x_cons Fu.x_c (Fu.x_cons Fu.x_c Fu.x_nil)))))) (Fu.x_hold (Fu.v_callM (Fu.lens_p (p := [.un, .o z1, .un, .un, .un, .un]) (j := 0) (of_decide_eq_true rfl) : Fu.Lens (fun (t14 : List Py.D) => [.p t14, .o z1, .un, .un, .un, .un]) 0) z__law_take (Fu.a_val Fu.x_c Fu.a_nil)))) Fu.x_nil)) (fun t14 => Fu.LE.r) (fun s2 => (Fu.tg_nm rfl)) (fun s2 z3 => (Fu.st_seq (Fu.st_setS (P := fun (t6 : List Py.D) => [.p t6, .o s2.2, .w z3, .un, .un, .un]) (Fu.v_x (Fu.x_bin (Fu.x_hold (Fu.v_n (Fu.n_lst (Fu.x_cons Fu.x_c (Fu.x_cons Fu.x_c (Fu.x_cons Fu.x_c Fu.x_nil)))))) (Fu.x_hold (Fu.v_callM (Fu.lens_p (p := [.un, .o s2.2, .w z3, .un, .un, .un]) (j := 0) (of_decide_eq_true rfl) : Fu.Lens (fun (t6 : List Py.D) => [.p t6, .o s2.2, .w z3, .un, .un, .un]) 0) z__law_take (Fu.a_val Fu.x_c Fu.a_nil))))) (fun _ => rfl)) fun z5 => (Fu.st_seq (Fu.st_setS (P := fun (t8 : List Py.D) => [.p t8, .o s2.2, .w z3, .v z5.1, .un, .un]) (Fu.v_x (Fu.x_bin (Fu.x_hold (Fu.v_n (Fu.n_lst (Fu.x_cons Fu.x_c (Fu.x_cons Fu.x_c (Fu.x_cons Fu.x_c (Fu.x_cons Fu.x_c Fu.x_nil))))))) (Fu.x_hold (Fu.v_callM (Fu.lens_p (p := [.un, .o s2.2, .w z3, .v z5.1, .un, .un]) (j := 0) (of_decide_eq_true rfl) : Fu.Lens (fun (t8 : List Py.D) => [.p t8, .o s2.2, .w z3, .v z5.1, .un, .un]) 0) z__law_take (Fu.a_val Fu.x_c Fu.a_nil))))) (fun _ => rfl)) fun z7 => (Fu.st_seq (Fu.st_setS (P := fun (t10 : List Py.D) => [.p t10, .o s2.2, .w z3, .v z5.1, .v z7.1, .un]) (Fu.v_x (Fu.x_bin (Fu.x_hold (Fu.v_n (Fu.n_lst (Fu.x_cons Fu.x_c (Fu.x_cons Fu.x_c (Fu.x_cons Fu.x_c Fu.x_nil)))))) (Fu.x_hold (Fu.v_callM (Fu.lens_p (p := [.un, .o s2.2, .w z3, .v z5.1, .v z7.1, .un]) (j := 0) (of_decide_eq_true rfl) : Fu.Lens (fun (t10 : List Py.D) => [.p t10, .o s2.2, .w z3, .v z5.1, .v z7.1, .un]) 0) z__law_take (Fu.a_val Fu.x_c Fu.a_nil))))) (fun _ => rfl)) fun z9 => (Fu.st_end (Fu.st_mutS (P := fun (t12 : List Py.D) => [.p t12, .o s2.2, .w z3, .v z5.1, .v z7.1, .v z9.1]) (fun _ => rfl) (Fu.x_cons (Fu.x_tup (Fu.x_cons (Fu.x_v 3 (fun _ => rfl)) (Fu.x_cons (Fu.x_v 4 (fun _ => rfl)) (Fu.x_cons (Fu.x_v 5 (fun _ => rfl)) (Fu.x_cons (Fu.x_bin (Fu.x_hold (Fu.v_n (Fu.n_lst (Fu.x_cons Fu.x_c (Fu.x_cons Fu.x_c Fu.x_nil))))) (Fu.x_hold (Fu.v_callM (Fu.lens_p (p := [.un, .o s2.2, .w z3, .v z5.1, .v z7.1, .v z9.1]) (j := 0) (of_decide_eq_true rfl) : Fu.Lens (fun (t12 : List Py.D) => [.p t12, .o s2.2, .w z3, .v z5.1, .v z7.1, .v z9.1]) 0) z__law_take (Fu.a_val Fu.x_c Fu.a_nil)))) Fu.x_nil))))) Fu.x_nil)) (fun z11 => (Fu.LE.c Fu.PtLE.r (Fu.LE.c Fu.PtLE.r (Fu.LE.c Fu.PtLE.wu (Fu.LE.c Fu.PtLE.vu (Fu.LE.c Fu.PtLE.vu (Fu.LE.c Fu.PtLE.vu Fu.LE.n))))))))))))) fun z4 => (Fu.st_wk (Fu.LE.c Fu.PtLE.r (Fu.LE.c Fu.PtLE.ov (Fu.LE.c Fu.PtLE.r (Fu.LE.c Fu.PtLE.r (Fu.LE.c Fu.PtLE.r (Fu.LE.c Fu.PtLE.r Fu.LE.n)))))) (Fu.st_retP (Fu.v_x (Fu.x_cal (Fu.x_cons (Fu.x_v 1 (fun _ => rfl)) Fu.x_nil))) (fun _ _ h => h) (fun _ => (Fu.LE.c Fu.PtLE.r (Fu.LE.anyN rfl)))))))
theorem z__law_course : Fu.ZM c__law_course (Fu.am0 F__law_course) := Fu.zm0 y__law_course
def F__law_room (a0 a1 : Py.D) : Fu.R (Py.D) := Fu.fin (β := Unit) ((Fu.iteP (Fu.S.tst (Fu.S.bin fIsN (Fu.S.bin fIx (Fu.S.ok a0) (Fu.S.ok (.int 1))) (Fu.S.ok .non))) (Fu.retP (fun x => x) (Fu.S.ok a1)) (.nx ())).seq fun z1 => (Fu.retP (fun x => x) (Fu.S.cal fMin (Fu.S.cons (Fu.S.ok a1) (Fu.S.cons (Fu.S.bin fIx (Fu.S.ok a0) (Fu.S.ok (.int 1))) Fu.S.nil)))))
theorem y__law_room (a0 a1 : Py.D) : Fu.CallOk (c__law_room [.v a0, .v a1]) (F__law_room a0 a1) (Fu.uns [a0, a1]) := Fu.fnD (xs := [a0, a1]) (l := []) (n := 2) (Q := fun _ => Fu.anys 2) rfl (by simp [Fu.PlainL]) (Fu.st_seq (Fu.st_ifP (Q := fun (z1 : Unit) => [.v a0, .v a1]) (Fu.x_tst (Fu.x_bin (Fu.x_bin (Fu.x_v 0 (fun _ => rfl)) Fu.x_c) Fu.x_c)) (Fu.st_retP (Fu.v_x (Fu.x_v 1 (fun _ => rfl))) (fun _ _ h => h) (fun _ => (Fu.LE.anyN rfl))) (Fu.st_next Fu.LE.r)) fun z1 => (Fu.st_retP (Fu.v_x (Fu.x_cal (Fu.x_cons (Fu.x_v 1 (fun _ => rfl)) (Fu.x_cons (Fu.x_bin (Fu.x_v 0 (fun _ => rfl)) Fu.x_c) Fu.x_nil)))) (fun _ _ h => h) (fun _ => (Fu.LE.anyN rfl)))) (fun _ => rfl)
theorem z__law_room : Fu.Z c__law_room (Fu.ap2 F__law_room) := Fu.z2 y__law_room
def B__law_moments_0 (a2 : Py.D) : (List Py.D × List Py.D × Py.D) → Py.D → Fu.O (Py.D × List Py.D) (List Py.D × List Py.D × Py.D) (List Py.D × List Py.D × Py.D) := fun (s3 : List Py.D × List Py.D × Py.D) x14 => (Fu.O.ofO (some x14)).seq fun z4 => ((Fu.O.ofS (Fu.S.callM (Fu.am1 F__law_take) (Fu.S.cons (Fu.S.bin fAdd (Fu.S.bin fIx (Fu.S.ok z4) (Fu.S.ok (.int 0))) (Fu.S.ok (.int 1))) Fu.S.nil)) s3.1).seq fun z6 => ((Fu.O.ofS (Fu.S.callM (Fu.am1 F__law_take) (Fu.S.cons (Fu.S.bin fAdd (Fu.S.call (Fu.ap2 F__law_room) (Fu.S.cons (Fu.S.ok z4) (Fu.S.cons (Fu.S.ok s3.2.2) Fu.S.nil))) (Fu.S.ok (.int 1))) Fu.S.nil)) z6.2).seq fun z8 => ((Fu.mutS mAppend s3.2.1 (Fu.S.cons (Fu.S.tup (Fu.S.cons (Fu.S.ok z6.1) (Fu.S.cons (Fu.S.bin fAdd (Fu.S.ok z8.1) (Fu.S.callM (Fu.am1 F__law_take) (Fu.S.cons (Fu.S.bin fAdd (Fu.S.bin fIx (Fu.S.ok z4) (Fu.S.ok (.int 2))) (Fu.S.ok (.int 1))) Fu.S.nil))) (Fu.S.cons (Fu.S.ok z8.1) Fu.S.nil)))) Fu.S.nil) z8.2).seq fun z10 => ((Fu.O.ofP (Fu.S.bin fSub (Fu.S.ok s3.2.2) (Fu.S.ok z8.1))).seq fun z12 => (Fu.iteP (Fu.S.tst (Fu.S.bin fEq (Fu.S.bin fIx (Fu.S.ok z4) (Fu.S.ok (.int 3))) (Fu.S.ok (.str "anew")))) ((Fu.O.ofP (Fu.S.ok a2)).seq fun z13 => .nx (z10.2, z10.1.2, z13)) (.nx (z10.2, z10.1.2, z12)))))))
def F__law_moments (a0 : List Py.D) (a1 a2 : Py.D) : Fu.R (Py.D × List Py.D) := Fu.finN (ρ := (Py.D × List Py.D)) (β := Unit) ((Fu.O.ofP (Fu.S.lst Fu.S.nil)).seq fun z1 => ((Fu.O.ofP (Fu.S.ok a2)).seq fun z2 => (((Fu.O.ofP (Fu.S.items (Fu.S.ok a1))).seq fun x15 => Fu.loop (B__law_moments_0 a2) x15 (a0, z1, z2)).seq fun z5 => (Fu.retP (fun x => (x, z5.1)) (Fu.S.cal fTuple (Fu.S.cons (Fu.S.ok (.lst z5.2.1)) Fu.S.nil))))))
theorem y__law_moments (a0 : List Py.D) (a1 a2 : Py.D) : Fu.MOk (c__law_moments [.p a0, .v a1, .v a2]) (F__law_moments a0 a1 a2) (Fu.uns [a1, a2]) := Fu.fnM (xs := [a1, a2]) (l := [.un, .un, .un, .un, .un]) (n := 8) (Q := fun _ => Fu.anys 8) rfl (by simp [Fu.PlainL]) (Fu.st_seq (Fu.st_setN (Fu.n_lst Fu.x_nil) rfl) fun z1 => (Fu.st_seq (Fu.st_setP (Fu.v_x (Fu.x_v 2 (fun _ => rfl))) rfl) fun z2 => (Fu.st_seq (Fu.st_forP (L := fun (s3 : List Py.D × List Py.D × Py.D) => [.p s3.1, .v a1, .v a2, .o s3.2.1, .v s3.2.2, .un, .un, .un]) (Qg := fun (s3 : List Py.D × List Py.D × Py.D) (z4 : Py.D) => [.p s3.1, .v a1, .v a2, .o s3.2.1, .v s3.2.2, .w z4, .un, .un]) (Fu.x_items (Fu.x_v 1 (fun _ => rfl))) Fu.LE.r (fun s3 => (Fu.tg_nm rfl)) (fun s3 z4 => (Fu.st_seq (Fu.st_setS (P := fun (t7 : List Py.D) => [.p t7, .v a1, .v a2, .o s3.2.1, .v s3.2.2, .w z4, .un, .un]) (Fu.v_callM (Fu.lens_p (p := [.un, .v a1, .v a2, .o s3.2.1, .v s3.2.2, .w z4, .un, .un]) (j := 0) (of_decide_eq_true rfl) : Fu.Lens (fun (t7 : List Py.D) => [.p t7, .v a1, .v a2, .o s3.2.1, .v s3.2.2, .w z4, .un, .un]) 0) z__law_take (Fu.a_val (Fu.x_bin (Fu.x_bin (Fu.x_w 5 (fun _ => rfl)) Fu.x_c) Fu.x_c) Fu.a_nil)) (fun _ => rfl)) fun z6 => (Fu.st_seq (Fu.st_setS (P := fun (t9 : List Py.D) => [.p t9, .v a1, .v a2, .o s3.2.1, .v s3.2.2, .w z4, .v z6.1, .un]) (Fu.v_callM (Fu.lens_p (p := [.un, .v a1, .v a2, .o s3.2.1, .v s3.2.2, .w z4, .v z6.1, .un]) (j := 0) (of_decide_eq_true rfl) : Fu.Lens (fun (t9 : List Py.D) => [.p t9, .v a1, .v a2, .o s3.2.1, .v s3.2.2, .w z4, .v z6.1, .un]) 0) z__law_take (Fu.a_val (Fu.x_bin (Fu.x_hold (Fu.v_call z__law_room (Fu.a_val (Fu.x_w 5 (fun _ => rfl)) (Fu.a_val (Fu.x_v 4 (fun _ => rfl)) Fu.a_nil)) (fun _ => (Fu.LE.anyN rfl)))) Fu.x_c) Fu.a_nil)) (fun _ => rfl)) fun z8 => (Fu.st_seq (Fu.st_mutS (P := fun (t11 : List Py.D) => [.p t11, .v a1, .v a2, .o s3.2.1, .v s3.2.2, .w z4, .v z6.1, .v z8.1]) (fun _ => rfl) (Fu.x_cons (Fu.x_tup (Fu.x_cons (Fu.x_v 6 (fun _ => rfl)) (Fu.x_cons (Fu.x_bin (Fu.x_v 7 (fun _ => rfl)) (Fu.x_hold (Fu.v_callM (Fu.lens_p (p := [.un, .v a1, .v a2, .o s3.2.1, .v s3.2.2, .w z4, .v z6.1, .v z8.1]) (j := 0) (of_decide_eq_true rfl) : Fu.Lens (fun (t11 : List Py.D) => [.p t11, .v a1, .v a2, .o s3.2.1, .v s3.2.2, .w z4, .v z6.1, .v z8.1]) 0) z__law_take (Fu.a_val (Fu.x_bin (Fu.x_bin (Fu.x_w 5 (fun _ => rfl)) Fu.x_c) Fu.x_c) Fu.a_nil)))) (Fu.x_cons (Fu.x_v 7 (fun _ => rfl)) Fu.x_nil)))) Fu.x_nil)) fun z10 => (Fu.st_seq (Fu.st_setP (Fu.v_x (Fu.x_bin (Fu.x_v 4 (fun _ => rfl)) (Fu.x_v 7 (fun _ => rfl)))) rfl) fun z12 => (Fu.st_ifP (Q := fun (s3 : List Py.D × List Py.D × Py.D) => [.p s3.1, .v a1, .v a2, .o s3.2.1, .v s3.2.2, .un, .un, .un]) (Fu.x_tst (Fu.x_bin (Fu.x_bin (Fu.x_w 5 (fun _ => rfl)) Fu.x_c) Fu.x_c)) (Fu.st_end (Fu.st_setP (Fu.v_x (Fu.x_v 2 (fun _ => rfl))) rfl) (fun z13 => (Fu.LE.c Fu.PtLE.r (Fu.LE.c Fu.PtLE.r (Fu.LE.c Fu.PtLE.r (Fu.LE.c Fu.PtLE.r (Fu.LE.c Fu.PtLE.r (Fu.LE.c Fu.PtLE.wu (Fu.LE.c Fu.PtLE.vu (Fu.LE.c Fu.PtLE.vu Fu.LE.n)))))))))) (Fu.st_next (Fu.LE.c Fu.PtLE.r (Fu.LE.c Fu.PtLE.r (Fu.LE.c Fu.PtLE.r (Fu.LE.c Fu.PtLE.r (Fu.LE.c Fu.PtLE.r (Fu.LE.c Fu.PtLE.wu (Fu.LE.c Fu.PtLE.vu (Fu.LE.c Fu.PtLE.vu Fu.LE.n)))))))))))))))) fun z5 => (Fu.st_wk (Fu.LE.c Fu.PtLE.r (Fu.LE.c Fu.PtLE.r (Fu.LE.c Fu.PtLE.r (Fu.LE.c Fu.PtLE.ov (Fu.LE.c Fu.PtLE.r (Fu.LE.c Fu.PtLE.r (Fu.LE.c Fu.PtLE.r (Fu.LE.c Fu.PtLE.r Fu.LE.n)))))))) (Fu.st_retP (Fu.v_x (Fu.x_cal (Fu.x_cons (Fu.x_v 3 (fun _ => rfl)) Fu.x_nil))) (fun _ _ h => h) (fun _ => (Fu.LE.c Fu.PtLE.r (Fu.LE.anyN rfl))))))))
theorem z__law_moments : Fu.ZM c__law_moments (Fu.am2 F__law_moments) := Fu.zm2 y__law_moments
def B__law_lives_0 (a2 : Py.D) (a0 : Py.D) (a1 : Py.D) : (List Py.D × Py.D) → Py.D → Fu.O (Py.D) (List Py.D × Py.D) (List Py.D × Py.D) := fun (s3 : List Py.D × Py.D) x9 => (Fu.O.ofO (some x9)).seq fun z4 => ((Fu.mutP mAppend s3.1 (Fu.S.cons (Fu.S.ok s3.2) Fu.S.nil)).seq fun z6 => ((Fu.O.ofP (Fu.S.bin fSub (Fu.S.ok s3.2) (Fu.S.bin fIx (Fu.S.bin fIx (Fu.S.ok a2) (Fu.S.ok z4)) (Fu.S.ok (.int 2))))).seq fun z7 => (Fu.iteP (Fu.S.tst (Fu.S.bin fEq (Fu.S.bin fIx (Fu.S.bin fIx (Fu.S.ok a0) (Fu.S.ok z4)) (Fu.S.ok (.int 3))) (Fu.S.ok (.str "anew")))) ((Fu.O.ofP (Fu.S.ok a1)).seq fun z8 => .nx (z6.2, z8)) (.nx (z6.2, z7)))))
def F__law_lives (a0 a1 a2 : Py.D) : Fu.R (Py.D) := Fu.fin (β := Unit) ((Fu.O.ofP (Fu.S.lst Fu.S.nil)).seq fun z1 => ((Fu.O.ofP (Fu.S.ok a1)).seq fun z2 => (((Fu.O.ofP (Fu.S.it fRange1 (Fu.S.cons (Fu.S.cal fLen (Fu.S.cons (Fu.S.ok a0) Fu.S.nil)) Fu.S.nil))).seq fun x10 => Fu.loop (B__law_lives_0 a2 a0 a1) x10 (z1, z2)).seq fun z5 => (Fu.retP (fun x => x) (Fu.S.cal fTuple (Fu.S.cons (Fu.S.ok (.lst z5.1)) Fu.S.nil))))))
theorem y__law_lives (a0 a1 a2 : Py.D) : Fu.CallOk (c__law_lives [.v a0, .v a1, .v a2]) (F__law_lives a0 a1 a2) (Fu.uns [a0, a1, a2]) := Fu.fnD (xs := [a0, a1, a2]) (l := [.un, .un, .un]) (n := 6) (Q := fun _ => Fu.anys 6) rfl (by simp [Fu.PlainL]) (Fu.st_seq (Fu.st_setN (Fu.n_lst Fu.x_nil) rfl) fun z1 => (Fu.st_seq (Fu.st_setP (Fu.v_x (Fu.x_v 1 (fun _ => rfl))) rfl) fun z2 => (Fu.st_seq (Fu.st_forP (L := fun (s3 : List Py.D × Py.D) => [.v a0, .v a1, .v a2, .o s3.1, .v s3.2, .un]) (Qg := fun (s3 : List Py.D × Py.D) (z4 : Py.D) => [.v a0, .v a1, .v a2, .o s3.1, .v s3.2, .w z4]) (Fu.x_it (Fu.x_cons (Fu.x_cal (Fu.x_cons (Fu.x_v 0 (fun _ => rfl)) Fu.x_nil)) Fu.x_nil)) Fu.LE.r (fun s3 => (Fu.tg_nm rfl)) (fun s3 z4 => (Fu.st_seq (Fu.st_mut rfl (Fu.x_cons (Fu.x_v 4 (fun _ => rfl)) Fu.x_nil)) fun z6 => (Fu.st_seq (Fu.st_setP (Fu.v_x (Fu.x_bin (Fu.x_v 4 (fun _ => rfl)) (Fu.x_bin (Fu.x_bin (Fu.x_v 2 (fun _ => rfl)) (Fu.x_w 5 (fun _ => rfl))) Fu.x_c))) rfl) fun z7 => (Fu.st_ifP (Q := fun (s3 : List Py.D × Py.D) => [.v a0, .v a1, .v a2, .o s3.1, .v s3.2, .un]) (Fu.x_tst (Fu.x_bin (Fu.x_bin (Fu.x_bin (Fu.x_v 0 (fun _ => rfl)) (Fu.x_w 5 (fun _ => rfl))) Fu.x_c) Fu.x_c)) (Fu.st_end (Fu.st_setP (Fu.v_x (Fu.x_v 1 (fun _ => rfl))) rfl) (fun z8 => (Fu.LE.c Fu.PtLE.r (Fu.LE.c Fu.PtLE.r (Fu.LE.c Fu.PtLE.r (Fu.LE.c Fu.PtLE.r (Fu.LE.c Fu.PtLE.r (Fu.LE.c Fu.PtLE.wu Fu.LE.n)))))))) (Fu.st_next (Fu.LE.c Fu.PtLE.r (Fu.LE.c Fu.PtLE.r (Fu.LE.c Fu.PtLE.r (Fu.LE.c Fu.PtLE.r (Fu.LE.c Fu.PtLE.r (Fu.LE.c Fu.PtLE.wu Fu.LE.n)))))))))))) fun z5 => (Fu.st_wk (Fu.LE.c Fu.PtLE.r (Fu.LE.c Fu.PtLE.r (Fu.LE.c Fu.PtLE.r (Fu.LE.c Fu.PtLE.ov (Fu.LE.c Fu.PtLE.r (Fu.LE.c Fu.PtLE.r Fu.LE.n)))))) (Fu.st_retP (Fu.v_x (Fu.x_cal (Fu.x_cons (Fu.x_v 3 (fun _ => rfl)) Fu.x_nil))) (fun _ _ h => h) (fun _ => (Fu.LE.anyN rfl))))))) (fun _ => rfl)
theorem z__law_lives : Fu.Z c__law_lives (Fu.ap3 F__law_lives) := Fu.z3 y__law_lives
def B__law_lawful_0 (a2 : Py.D) (a0 : Py.D) (z2 : Py.D) : (Unit) → Py.D → Fu.O (Py.D) (Unit) (Unit) := fun (s3 : Unit) x48 => (Fu.O.ofO (some x48)).seq fun z4 => (((Fu.O.ofP (Fu.S.bin fIx (Fu.S.ok a2) (Fu.S.ok z4))).seq fun y46 => Fu.O.ofO ((Fu.tSq 3 (Fu.tC some (Fu.tC some (Fu.tC some Fu.t0)))) y46)).seq fun z6 => ((Fu.iteP (Fu.S.or (Fu.S.tst (Fu.S.bin fLt (Fu.S.ok z6.1) (Fu.S.ok (.int 0)))) (Fu.S.or (Fu.S.tst (Fu.S.bin fGt (Fu.S.ok z6.1) (Fu.S.bin fIx (Fu.S.bin fIx (Fu.S.ok a0) (Fu.S.ok z4)) (Fu.S.ok (.int 0))))) (Fu.S.or (Fu.S.tst (Fu.S.bin fLt (Fu.S.ok z6.2.1) (Fu.S.ok (.int 0)))) (Fu.S.or (Fu.S.tst (Fu.S.bin fLt (Fu.S.ok z6.2.2.1) (Fu.S.ok (.int 0)))) (Fu.S.or (Fu.S.tst (Fu.S.bin fGt (Fu.S.ok z6.2.2.1) (Fu.S.ok z6.2.1))) (Fu.S.tst (Fu.S.bin fLt (Fu.S.ok z6.2.2.1) (Fu.S.bin fSub (Fu.S.ok z6.2.1) (Fu.S.bin fIx (Fu.S.bin fIx (Fu.S.ok a0) (Fu.S.ok z4)) (Fu.S.ok (.int 2))))))))))) (Fu.retP (fun x => x) (Fu.S.ok (.bl false))) (.nx ())).seq fun z47 => (Fu.iteP (Fu.S.or (Fu.S.tst (Fu.S.bin fGt (Fu.S.ok z6.2.2.1) (Fu.S.bin fIx (Fu.S.ok z2) (Fu.S.ok z4)))) (Fu.S.and (Fu.S.tst (Fu.S.bin fIsNot (Fu.S.bin fIx (Fu.S.bin fIx (Fu.S.ok a0) (Fu.S.ok z4)) (Fu.S.ok (.int 1))) (Fu.S.ok .non))) (Fu.S.tst (Fu.S.bin fGt (Fu.S.ok z6.2.2.1) (Fu.S.bin fIx (Fu.S.bin fIx (Fu.S.ok a0) (Fu.S.ok z4)) (Fu.S.ok (.int 1))))))) (Fu.retP (fun x => x) (Fu.S.ok (.bl false))) (.nx ()))))
def F__law_lawful (a0 a1 a2 : Py.D) : Fu.R (Py.D) := Fu.fin (β := Unit) ((Fu.iteP (Fu.S.tst (Fu.S.bin fNe (Fu.S.cal fLen (Fu.S.cons (Fu.S.ok a2) Fu.S.nil)) (Fu.S.cal fLen (Fu.S.cons (Fu.S.ok a0) Fu.S.nil)))) (Fu.retP (fun x => x) (Fu.S.ok (.bl false))) (.nx ())).seq fun z1 => ((Fu.O.ofP (Fu.S.call (Fu.ap3 F__law_lives) (Fu.S.cons (Fu.S.ok a0) (Fu.S.cons (Fu.S.ok a1) (Fu.S.cons (Fu.S.ok a2) Fu.S.nil))))).seq fun z2 => (((Fu.O.ofP (Fu.S.it fRange1 (Fu.S.cons (Fu.S.cal fLen (Fu.S.cons (Fu.S.ok a0) Fu.S.nil)) Fu.S.nil))).seq fun x49 => Fu.loop (B__law_lawful_0 a2 a0 z2) x49 ()).seq fun z5 => (Fu.retP (fun x => x) (Fu.S.ok (.bl true))))))
theorem y__law_lawful (a0 a1 a2 : Py.D) : Fu.CallOk (c__law_lawful [.v a0, .v a1, .v a2]) (F__law_lawful a0 a1 a2) (Fu.uns [a0, a1, a2]) := Fu.fnD (xs := [a0, a1, a2]) (l := [.un, .un, .un, .un, .un]) (n := 8) (Q := fun _ => Fu.anys 8) rfl (by simp [Fu.PlainL]) (Fu.st_seq (Fu.st_ifP (Q := fun (z1 : Unit) => [.v a0, .v a1, .v a2, .un, .un, .un, .un, .un]) (Fu.x_tst (Fu.x_bin (Fu.x_cal (Fu.x_cons (Fu.x_v 2 (fun _ => rfl)) Fu.x_nil)) (Fu.x_cal (Fu.x_cons (Fu.x_v 0 (fun _ => rfl)) Fu.x_nil)))) (Fu.st_retP (Fu.v_x Fu.x_c) (fun _ _ h => h) (fun _ => (Fu.LE.anyN rfl))) (Fu.st_next Fu.LE.r)) fun z1 => (Fu.st_seq (Fu.st_setP (Fu.v_call z__law_lives (Fu.a_val (Fu.x_v 0 (fun _ => rfl)) (Fu.a_val (Fu.x_v 1 (fun _ => rfl)) (Fu.a_val (Fu.x_v 2 (fun _ => rfl)) Fu.a_nil))) (fun _ => (Fu.LE.anyN rfl))) rfl) fun z2 => (Fu.st_seq (Fu.st_forP (L := fun (s3 : Unit) => [.v a0, .v a1, .v a2, .v z2, .un, .un, .un, .un]) (Qg := fun (s3 : Unit) (z4 : Py.D) => [.v a0, .v a1, .v a2, .v z2, .w z4, .un, .un, .un]) (Fu.x_it (Fu.x_cons (Fu.x_cal (Fu.x_cons (Fu.x_v 0 (fun _ => rfl)) Fu.x_nil)) Fu.x_nil)) Fu.LE.r (fun s3 => (Fu.tg_nm rfl)) (fun s3 z4 => (Fu.st_seq (Fu.st_asg (Q := fun (z6 : (Py.D × (Py.D × (Py.D × Unit)))) => [.v a0, .v a1, .v a2, .v z2, .w z4, .w z6.1, .w z6.2.1, .w z6.2.2.1]) (Fu.x_bin (Fu.x_v 2 (fun _ => rfl)) (Fu.x_w 4 (fun _ => rfl))) (Fu.tg_sq (Fu.tg_c (Q := fun (q19 : Py.D) => [.v a0, .v a1, .v a2, .v z2, .w z4, .w q19, .un, .un]) (Q2 := fun (q45 : (Py.D × (Py.D × (Py.D × Unit)))) => [.v a0, .v a1, .v a2, .v z2, .w z4, .w q45.1, .w q45.2.1, .w q45.2.2.1]) (Fu.tg_nm rfl) (fun q19 => (Fu.tg_c (Q := fun (q24 : Py.D) => [.v a0, .v a1, .v a2, .v z2, .w z4, .w q19, .w q24, .un]) (Q2 := fun (q32 : (Py.D × (Py.D × Unit))) => [.v a0, .v a1, .v a2, .v z2, .w z4, .w q19, .w q32.1, .w q32.2.1]) (Fu.tg_nm rfl) (fun q24 => (Fu.tg_c (Q := fun (q26 : Py.D) => [.v a0, .v a1, .v a2, .v z2, .w z4, .w q19, .w q24, .w q26]) (Q2 := fun (q28 : (Py.D × Unit)) => [.v a0, .v a1, .v a2, .v z2, .w z4, .w q19, .w q24, .w q28.1]) (Fu.tg_nm rfl) (fun q26 => Fu.tg_0)))))))) fun z6 => (Fu.st_seq (Fu.st_ifP (Q := fun (z47 : Unit) => [.v a0, .v a1, .v a2, .v z2, .w z4, .w z6.1, .w z6.2.1, .w z6.2.2.1]) (Fu.x_or (Fu.x_tst (Fu.x_bin (Fu.x_w 5 (fun _ => rfl)) Fu.x_c)) (Fu.x_or (Fu.x_tst (Fu.x_bin (Fu.x_w 5 (fun _ => rfl)) (Fu.x_bin (Fu.x_bin (Fu.x_v 0 (fun _ => rfl)) (Fu.x_w 4 (fun _ => rfl))) Fu.x_c))) (Fu.x_or (Fu.x_tst (Fu.x_bin (Fu.x_w 6 (fun _ => rfl)) Fu.x_c)) (Fu.x_or (Fu.x_tst (Fu.x_bin (Fu.x_w 7 (fun _ => rfl)) Fu.x_c)) (Fu.x_or (Fu.x_tst (Fu.x_bin (Fu.x_w 7 (fun _ => rfl)) (Fu.x_w 6 (fun _ => rfl)))) (Fu.x_tst (Fu.x_bin (Fu.x_w 7 (fun _ => rfl)) (Fu.x_bin (Fu.x_w 6 (fun _ => rfl)) (Fu.x_bin (Fu.x_bin (Fu.x_v 0 (fun _ => rfl)) (Fu.x_w 4 (fun _ => rfl))) Fu.x_c))))))))) (Fu.st_retP (Fu.v_x Fu.x_c) (fun _ _ h => h) (fun _ => (Fu.LE.anyN rfl))) (Fu.st_next Fu.LE.r)) fun z47 => (Fu.st_ifP (Q := fun (s3 : Unit) => [.v a0, .v a1, .v a2, .v z2, .un, .un, .un, .un]) (Fu.x_or (Fu.x_tst (Fu.x_bin (Fu.x_w 7 (fun _ => rfl)) (Fu.x_bin (Fu.x_v 3 (fun _ => rfl)) (Fu.x_w 4 (fun _ => rfl))))) (Fu.x_and (Fu.x_tst (Fu.x_bin (Fu.x_bin (Fu.x_bin (Fu.x_v 0 (fun _ => rfl)) (Fu.x_w 4 (fun _ => rfl))) Fu.x_c) Fu.x_c)) (Fu.x_tst (Fu.x_bin (Fu.x_w 7 (fun _ => rfl)) (Fu.x_bin (Fu.x_bin (Fu.x_v 0 (fun _ => rfl)) (Fu.x_w 4 (fun _ => rfl))) Fu.x_c))))) (Fu.st_retP (Fu.v_x Fu.x_c) (fun _ _ h => h) (fun _ => (Fu.LE.anyN rfl))) (Fu.st_next (Fu.LE.c Fu.PtLE.r (Fu.LE.c Fu.PtLE.r (Fu.LE.c Fu.PtLE.r (Fu.LE.c Fu.PtLE.r (Fu.LE.c Fu.PtLE.wu (Fu.LE.c Fu.PtLE.wu (Fu.LE.c Fu.PtLE.wu (Fu.LE.c Fu.PtLE.wu Fu.LE.n)))))))))))))) fun z5 => (Fu.st_retP (Fu.v_x Fu.x_c) (fun _ _ h => h) (fun _ => (Fu.LE.anyN rfl)))))) (fun _ => rfl)
theorem z__law_lawful : Fu.Z c__law_lawful (Fu.ap3 F__law_lawful) := Fu.z3 y__law_lawful
def B__law_sums_0 (a1 : Py.D) : (List Py.D × Py.D × Py.D) → Py.D → Fu.O (Py.D) (List Py.D × Py.D × Py.D) (List Py.D × Py.D × Py.D) := fun (s4 : List Py.D × Py.D × Py.D) x13 => (Fu.O.ofO (some x13)).seq fun z5 => ((Fu.O.ofP (Fu.S.call (Fu.ap2 F__law_room) (Fu.S.cons (Fu.S.ok z5) (Fu.S.cons (Fu.S.ok s4.2.1) Fu.S.nil)))).seq fun z7 => ((Fu.O.ofP (Fu.S.bin fAdd (Fu.S.ok s4.2.2) (Fu.S.ok z7))).seq fun z8 => ((Fu.O.ofP (Fu.S.bin fSub (Fu.S.ok s4.2.1) (Fu.S.ok z7))).seq fun z9 => (Fu.iteP (Fu.S.tst (Fu.S.bin fEq (Fu.S.bin fIx (Fu.S.ok z5) (Fu.S.ok (.int 3))) (Fu.S.ok (.str "anew")))) ((Fu.mutP mAppend s4.1 (Fu.S.cons (Fu.S.ok z8) Fu.S.nil)).seq fun z10 => ((Fu.O.ofP (Fu.S.ok (.int 0))).seq fun z11 => ((Fu.O.ofP (Fu.S.ok a1)).seq fun z12 => .nx (z10.2, z12, z11)))) (.nx (s4.1, z9, z8))))))
def F__law_sums (a0 a1 : Py.D) : Fu.R (Py.D) := Fu.fin (β := Unit) ((Fu.O.ofP (Fu.S.lst Fu.S.nil)).seq fun z1 => ((Fu.O.ofP (Fu.S.ok a1)).seq fun z2 => ((Fu.O.ofP (Fu.S.ok (.int 0))).seq fun z3 => (((Fu.O.ofP (Fu.S.items (Fu.S.ok a0))).seq fun x14 => Fu.loop (B__law_sums_0 a1) x14 (z1, z2, z3)).seq fun z6 => ((Fu.iteP (Fu.S.tst (Fu.S.bin fEq (Fu.S.bin fIx (Fu.S.bin fIx (Fu.S.ok a0) (Fu.S.un fNeg (Fu.S.ok (.int 1)))) (Fu.S.ok (.int 3))) (Fu.S.ok (.str "on")))) ((Fu.mutP mAppend z6.1 (Fu.S.cons (Fu.S.ok z6.2.2) Fu.S.nil)).seq fun z16 => .nx z16.2) (.nx z6.1)).seq fun z15 => (Fu.retP (fun x => x) (Fu.S.cal fTuple (Fu.S.cons (Fu.S.ok (.lst z15)) Fu.S.nil))))))))
theorem y__law_sums (a0 a1 : Py.D) : Fu.CallOk (c__law_sums [.v a0, .v a1]) (F__law_sums a0 a1) (Fu.uns [a0, a1]) := Fu.fnD (xs := [a0, a1]) (l := [.un, .un, .un, .un, .un]) (n := 7) (Q := fun _ => Fu.anys 7) rfl (by simp [Fu.PlainL]) (Fu.st_seq (Fu.st_setN (Fu.n_lst Fu.x_nil) rfl) fun z1 => (Fu.st_seq (Fu.st_setP (Fu.v_x (Fu.x_v 1 (fun _ => rfl))) rfl) fun z2 => (Fu.st_seq (Fu.st_setP (Fu.v_x Fu.x_c) rfl) fun z3 => (Fu.st_seq (Fu.st_forP (L := fun (s4 : List Py.D × Py.D × Py.D) => [.v a0, .v a1, .o s4.1, .v s4.2.1, .v s4.2.2, .un, .un]) (Qg := fun (s4 : List Py.D × Py.D × Py.D) (z5 : Py.D) => [.v a0, .v a1, .o s4.1, .v s4.2.1, .v s4.2.2, .w z5, .un]) (Fu.x_items (Fu.x_v 0 (fun _ => rfl))) Fu.LE.r (fun s4 => (Fu.tg_nm rfl)) (fun s4 z5 => (Fu.st_seq (Fu.st_setP (Fu.v_call z__law_room (Fu.a_val (Fu.x_w 5 (fun _ => rfl)) (Fu.a_val (Fu.x_v 3 (fun _ => rfl)) Fu.a_nil)) (fun _ => (Fu.LE.anyN rfl))) rfl) fun z7 => (Fu.st_seq (Fu.st_setP (Fu.v_x (Fu.x_bin (Fu.x_v 4 (fun _ => rfl)) (Fu.x_v 6 (fun _ => rfl)))) rfl) fun z8 => (Fu.st_seq (Fu.st_setP (Fu.v_x (Fu.x_bin (Fu.x_v 3 (fun _ => rfl)) (Fu.x_v 6 (fun _ => rfl)))) rfl) fun z9 => (Fu.st_ifP (Q := fun (s4 : List Py.D × Py.D × Py.D) => [.v a0, .v a1, .o s4.1, .v s4.2.1, .v s4.2.2, .un, .un]) (Fu.x_tst (Fu.x_bin (Fu.x_bin (Fu.x_w 5 (fun _ => rfl)) Fu.x_c) Fu.x_c)) (Fu.st_seq (Fu.st_mut rfl (Fu.x_cons (Fu.x_v 4 (fun _ => rfl)) Fu.x_nil)) fun z10 => (Fu.st_seq (Fu.st_setP (Fu.v_x Fu.x_c) rfl) fun z11 => (Fu.st_end (Fu.st_setP (Fu.v_x (Fu.x_v 1 (fun _ => rfl))) rfl) (fun z12 => (Fu.LE.c Fu.PtLE.r (Fu.LE.c Fu.PtLE.r (Fu.LE.c Fu.PtLE.r (Fu.LE.c Fu.PtLE.r (Fu.LE.c Fu.PtLE.r (Fu.LE.c Fu.PtLE.wu (Fu.LE.c Fu.PtLE.vu Fu.LE.n))))))))))) (Fu.st_next (Fu.LE.c Fu.PtLE.r (Fu.LE.c Fu.PtLE.r (Fu.LE.c Fu.PtLE.r (Fu.LE.c Fu.PtLE.r (Fu.LE.c Fu.PtLE.r (Fu.LE.c Fu.PtLE.wu (Fu.LE.c Fu.PtLE.vu Fu.LE.n)))))))))))))) fun z6 => (Fu.st_seq (Fu.st_ifP (Q := fun (z15 : List Py.D) => [.v a0, .v a1, .o z15, .v z6.2.1, .v z6.2.2, .un, .un]) (Fu.x_tst (Fu.x_bin (Fu.x_bin (Fu.x_bin (Fu.x_v 0 (fun _ => rfl)) (Fu.x_un Fu.x_c)) Fu.x_c) Fu.x_c)) (Fu.st_end (Fu.st_mut rfl (Fu.x_cons (Fu.x_v 4 (fun _ => rfl)) Fu.x_nil)) (fun z16 => Fu.LE.r)) (Fu.st_next Fu.LE.r)) fun z15 => (Fu.st_wk (Fu.LE.c Fu.PtLE.r (Fu.LE.c Fu.PtLE.r (Fu.LE.c Fu.PtLE.ov (Fu.LE.c Fu.PtLE.r (Fu.LE.c Fu.PtLE.r (Fu.LE.c Fu.PtLE.r (Fu.LE.c Fu.PtLE.r Fu.LE.n))))))) (Fu.st_retP (Fu.v_x (Fu.x_cal (Fu.x_cons (Fu.x_v 2 (fun _ => rfl)) Fu.x_nil))) (fun _ _ h => h) (fun _ => (Fu.LE.anyN rfl))))))))) (fun _ => rfl)
theorem z__law_sums : Fu.Z c__law_sums (Fu.ap2 F__law_sums) := Fu.z2 y__law_sums
def F__law_spoilt (a0 a1 a2 a3 : Py.D) : Fu.R (List Py.D) := Fu.finN (ρ := (List Py.D)) (β := Unit) (((Fu.O.ofP (Fu.S.bin fIx (Fu.S.ok a2) (Fu.S.ok a3))).seq fun y41 => Fu.O.ofO ((Fu.tSq 3 (Fu.tC some (Fu.tC some (Fu.tC some Fu.t0)))) y41)).seq fun z1 => (((Fu.O.ofP (Fu.S.bin fIx (Fu.S.ok a0) (Fu.S.ok a3))).seq fun y163 => Fu.O.ofO ((Fu.tSq 4 (Fu.tC some (Fu.tC some (Fu.tC some (Fu.tC some Fu.t0))))) y163)).seq fun z42 => ((Fu.O.ofP (Fu.S.bin fIx (Fu.S.call (Fu.ap3 F__law_lives) (Fu.S.cons (Fu.S.ok a0) (Fu.S.cons (Fu.S.ok a1) (Fu.S.cons (Fu.S.ok a2) Fu.S.nil)))) (Fu.S.ok a3))).seq fun z164 => ((Fu.O.ofP (Fu.S.lst (Fu.S.cons (Fu.S.tup (Fu.S.cons (Fu.S.bin fAdd (Fu.S.ok z42.1) (Fu.S.ok (.int 1))) (Fu.S.cons (Fu.S.ok z1.2.1) (Fu.S.cons (Fu.S.ok z1.2.2.1) Fu.S.nil)))) (Fu.S.cons (Fu.S.tup (Fu.S.cons (Fu.S.un fNeg (Fu.S.ok (.int 1))) (Fu.S.cons (Fu.S.ok z1.2.1) (Fu.S.cons (Fu.S.ok z1.2.2.1) Fu.S.nil)))) (Fu.S.cons (Fu.S.tup (Fu.S.cons (Fu.S.ok z1.1) (Fu.S.cons (Fu.S.bin fSub (Fu.S.ok z1.2.2.1) (Fu.S.ok (.int 1))) (Fu.S.cons (Fu.S.ok z1.2.2.1) Fu.S.nil)))) (Fu.S.cons (Fu.S.tup (Fu.S.cons (Fu.S.ok z1.1) (Fu.S.cons (Fu.S.bin fAdd (Fu.S.bin fAdd (Fu.S.ok z1.2.2.1) (Fu.S.ok z42.2.2.1)) (Fu.S.ok (.int 1))) (Fu.S.cons (Fu.S.ok z1.2.2.1) Fu.S.nil)))) (Fu.S.cons (Fu.S.tup (Fu.S.cons (Fu.S.ok z1.1) (Fu.S.cons (Fu.S.bin fAdd (Fu.S.ok z164) (Fu.S.ok (.int 1))) (Fu.S.cons (Fu.S.bin fAdd (Fu.S.ok z164) (Fu.S.ok (.int 1))) Fu.S.nil)))) (Fu.S.cons (Fu.S.tup (Fu.S.cons (Fu.S.ok z1.1) (Fu.S.cons (Fu.S.bin fAdd (Fu.S.bin fAdd (Fu.S.ok z164) (Fu.S.ok (.int 1))) (Fu.S.ok z42.2.2.1)) (Fu.S.cons (Fu.S.bin fAdd (Fu.S.ok z164) (Fu.S.ok (.int 1))) Fu.S.nil)))) (Fu.S.cons (Fu.S.tup (Fu.S.cons (Fu.S.ok z1.1) (Fu.S.cons (Fu.S.ok (.int 0)) (Fu.S.cons (Fu.S.un fNeg (Fu.S.ok (.int 1))) Fu.S.nil)))) (Fu.S.cons (Fu.S.tup (Fu.S.cons (Fu.S.ok z1.1) (Fu.S.cons (Fu.S.un fNeg (Fu.S.ok (.int 1))) (Fu.S.cons (Fu.S.ok (.int 0)) Fu.S.nil)))) (Fu.S.cons (Fu.S.tup (Fu.S.cons (Fu.S.ok z1.1) (Fu.S.cons (Fu.S.un fNeg (Fu.S.ok (.int 1))) (Fu.S.cons (Fu.S.un fNeg (Fu.S.ok (.int 1))) Fu.S.nil)))) Fu.S.nil))))))))))).seq fun z165 => ((Fu.iteP (Fu.S.tst (Fu.S.bin fIsNot (Fu.S.ok z42.2.1) (Fu.S.ok .non))) ((Fu.mutP mAppend z165 (Fu.S.cons (Fu.S.tup (Fu.S.cons (Fu.S.ok z1.1) (Fu.S.cons (Fu.S.bin fAdd (Fu.S.ok z42.2.1) (Fu.S.ok (.int 1))) (Fu.S.cons (Fu.S.bin fAdd (Fu.S.ok z42.2.1) (Fu.S.ok (.int 1))) Fu.S.nil)))) Fu.S.nil)).seq fun z167 => ((Fu.mutP mAppend z167.2 (Fu.S.cons (Fu.S.tup (Fu.S.cons (Fu.S.ok z1.1) (Fu.S.cons (Fu.S.bin fAdd (Fu.S.bin fAdd (Fu.S.ok z42.2.1) (Fu.S.ok (.int 1))) (Fu.S.ok z42.2.2.1)) (Fu.S.cons (Fu.S.bin fAdd (Fu.S.ok z42.2.1) (Fu.S.ok (.int 1))) Fu.S.nil)))) Fu.S.nil)).seq fun z168 => .nx z168.2)) (.nx z165)).seq fun z166 => ((Fu.mutP mAppend z166 (Fu.S.cons (Fu.S.tup (Fu.S.cons (Fu.S.ok z1.1) (Fu.S.cons (Fu.S.ok z1.2.2.1) (Fu.S.cons (Fu.S.ok z1.2.2.1) Fu.S.nil)))) Fu.S.nil)).seq fun z169 => ((Fu.O.ofP (Fu.S.lc (Fu.S.items (Fu.S.ok (.lst z169.2))) some (fun z171 => (Fu.S.ok true)) (fun z171 => (Fu.S.bin fAdd (Fu.S.bin fAdd (Fu.S.cut (Fu.S.ok a2) Fu.S.nop (Fu.S.part (Fu.S.ok a3))) (Fu.S.tup (Fu.S.cons (Fu.S.ok z171) Fu.S.nil))) (Fu.S.cut (Fu.S.ok a2) (Fu.S.part (Fu.S.bin fAdd (Fu.S.ok a3) (Fu.S.ok (.int 1)))) Fu.S.nop))))).seq fun z170 => ((Fu.mutP mAppend z170 (Fu.S.cons (Fu.S.cut (Fu.S.ok a2) Fu.S.nop (Fu.S.part (Fu.S.un fNeg (Fu.S.ok (.int 1))))) Fu.S.nil)).seq fun z172 => ((Fu.mutP mAppend z172.2 (Fu.S.cons (Fu.S.bin fAdd (Fu.S.ok a2) (Fu.S.tup (Fu.S.cons (Fu.S.tup (Fu.S.cons (Fu.S.ok (.int 0)) (Fu.S.cons (Fu.S.ok (.int 0)) (Fu.S.cons (Fu.S.ok (.int 0)) Fu.S.nil)))) Fu.S.nil))) Fu.S.nil)).seq fun z173 => (.rt z173.2))))))))))
theorem y__law_spoilt (a0 a1 a2 a3 : Py.D) : Fu.CallOkN (c__law_spoilt [.v a0, .v a1, .v a2, .v a3]) (F__law_spoilt a0 a1 a2 a3) (Fu.uns [a0, a1, a2, a3]) := Fu.fnN (xs := [a0, a1, a2, a3]) (l := [.un, .un, .un, .un, .un, .un, .un, .un, .un, .un, .pl]) (n := 15) (Q := fun _ => Fu.anys 15) rfl (by simp [Fu.PlainL]) (Fu.st_seq (Fu.st_asg (Q := fun (z1 : (Py.D × (Py.D × (Py.D × Unit)))) => [.v a0, .v a1, .v a2, .v a3, .w z1.1, .w z1.2.1, .w z1.2.2.1, .un, .un, .un, .un, .un, .un, .un, .pl]) (Fu.x_bin (Fu.x_v 2 (fun _ => rfl)) (Fu.x_v 3 (fun _ => rfl))) (Fu.tg_sq (Fu.tg_c (Q := fun (q14 : Py.D) => [.v a0, .v a1, .v a2, .v a3, .w q14, .un, .un, .un, .un, .un, .un, .un, .un, .un, .pl]) (Q2 := fun (q40 : (Py.D × (Py.D × (Py.D × Unit)))) => [.v a0, .v a1, .v a2, .v a3, .w q40.1, .w q40.2.1, .w q40.2.2.1, .un, .un, .un, .un, .un, .un, .un, .pl]) (Fu.tg_nm rfl) (fun q14 => (Fu.tg_c (Q := fun (q19 : Py.D) => [.v a0, .v a1, .v a2, .v a3, .w q14, .w q19, .un, .un, .un, .un, .un, .un, .un, .un, .pl]) (Q2 := fun (q27 : (Py.D × (Py.D × Unit))) => [.v a0, .v a1, .v a2, .v a3, .w q14, .w q27.1, .w q27.2.1, .un, .un, .un, .un, .un, .un, .un, .pl]) (Fu.tg_nm rfl) (fun q19 => (Fu.tg_c (Q := fun (q21 : Py.D) => [.v a0, .v a1, .v a2, .v a3, .w q14, .w q19, .w q21, .un, .un, .un, .un, .un, .un, .un, .pl]) (Q2 := fun (q23 : (Py.D × Unit)) => [.v a0, .v a1, .v a2, .v a3, .w q14, .w q19, .w q23.1, .un, .un, .un, .un, .un, .un, .un, .pl]) (Fu.tg_nm rfl) (fun q21 => Fu.tg_0)))))))) fun z1 => (Fu.st_seq (Fu.st_asg (Q := fun (z42 : (Py.D × (Py.D × (Py.D × (Py.D × Unit))))) => [.v a0, .v a1, .v a2, .v a3, .w z1.1, .w z1.2.1, .w z1.2.2.1, .w z42.1, .w z42.2.1, .w z42.2.2.1, .w z42.2.2.2.1, .un, .un, .un, .pl]) (Fu.x_bin (Fu.x_v 0 (fun _ => rfl)) (Fu.x_v 3 (fun _ => rfl))) (Fu.tg_sq (Fu.tg_c (Q := fun (q82 : Py.D) => [.v a0, .v a1, .v a2, .v a3, .w z1.1, .w z1.2.1, .w z1.2.2.1, .w q82, .un, .un, .un, .un, .un, .un, .pl]) (Q2 := fun (q162 : (Py.D × (Py.D × (Py.D × (Py.D × Unit))))) => [.v a0, .v a1, .v a2, .v a3, .w z1.1, .w z1.2.1, .w z1.2.2.1, .w q162.1, .w q162.2.1, .w q162.2.2.1, .w q162.2.2.2.1, .un, .un, .un, .pl]) (Fu.tg_nm rfl) (fun q82 => (Fu.tg_c (Q := fun (q96 : Py.D) => [.v a0, .v a1, .v a2, .v a3, .w z1.1, .w z1.2.1, .w z1.2.2.1, .w q82, .w q96, .un, .un, .un, .un, .un, .pl]) (Q2 := fun (q122 : (Py.D × (Py.D × (Py.D × Unit)))) => [.v a0, .v a1, .v a2, .v a3, .w z1.1, .w z1.2.1, .w z1.2.2.1, .w q82, .w q122.1, .w q122.2.1, .w q122.2.2.1, .un, .un, .un, .pl]) (Fu.tg_nm rfl) (fun q96 => (Fu.tg_c (Q := fun (q101 : Py.D) => [.v a0, .v a1, .v a2, .v a3, .w z1.1, .w z1.2.1, .w z1.2.2.1, .w q82, .w q96, .w q101, .un, .un, .un, .un, .pl]) (Q2 := fun (q109 : (Py.D × (Py.D × Unit))) => [.v a0, .v a1, .v a2, .v a3, .w z1.1, .w z1.2.1, .w z1.2.2.1, .w q82, .w q96, .w q109.1, .w q109.2.1, .un, .un, .un, .pl]) (Fu.tg_nm rfl) (fun q101 => (Fu.tg_c (Q := fun (q103 : Py.D) => [.v a0, .v a1, .v a2, .v a3, .w z1.1, .w z1.2.1, .w z1.2.2.1, .w q82, .w q96, .w q101, .w q103, .un, .un, .un, .pl]) (Q2 := fun (q105 : (Py.D × Unit)) => [.v a0, .v a1, .v a2, .v a3, .w z1.1, .w z1.2.1, .w z1.2.2.1, .w q82, .w q96, .w q101, .w q105.1, .un, .un, .un, .pl]) (Fu.tg_nm rfl) (fun q103 => Fu.tg_0)))))))))) fun z42 => (Fu.st_seq (Fu.st_setP (Fu.v_x (Fu.x_bin (Fu.x_hold (Fu.v_call z__law_lives (Fu.a_val (Fu.x_v 0 (fun _ => rfl)) (Fu.a_val (Fu.x_v 1 (fun _ => rfl)) (Fu.a_val (Fu.x_v 2 (fun _ => rfl)) Fu.a_nil))) (fun _ => (Fu.LE.anyN rfl)))) (Fu.x_v 3 (fun _ => rfl)))) rfl) fun z164 => (Fu.st_seq (Fu.st_setN (Fu.n_lst (Fu.x_cons (Fu.x_tup (Fu.x_cons (Fu.x_bin (Fu.x_w 7 (fun _ => rfl)) Fu.x_c) (Fu.x_cons (Fu.x_w 5 (fun _ => rfl)) (Fu.x_cons (Fu.x_w 6 (fun _ => rfl)) Fu.x_nil)))) (Fu.x_cons (Fu.x_tup (Fu.x_cons (Fu.x_un Fu.x_c) (Fu.x_cons (Fu.x_w 5 (fun _ => rfl)) (Fu.x_cons (Fu.x_w 6 (fun _ => rfl)) Fu.x_nil)))) (Fu.x_cons (Fu.x_tup (Fu.x_cons (Fu.x_w 4 (fun _ => rfl)) (Fu.x_cons (Fu.x_bin (Fu.x_w 6 (fun _ => rfl)) Fu.x_c) (Fu.x_cons (Fu.x_w 6 (fun _ => rfl)) Fu.x_nil)))) (Fu.x_cons (Fu.x_tup (Fu.x_cons (Fu.x_w 4 (fun _ => rfl)) (Fu.x_cons (Fu.x_bin (Fu.x_bin (Fu.x_w 6 (fun _ => rfl)) (Fu.x_w 9 (fun _ => rfl))) Fu.x_c) (Fu.x_cons (Fu.x_w 6 (fun _ => rfl)) Fu.x_nil)))) (Fu.x_cons (Fu.x_tup (Fu.x_cons (Fu.x_w 4 (fun _ => rfl)) (Fu.x_cons (Fu.x_bin (Fu.x_v 11 (fun _ => rfl)) Fu.x_c) (Fu.x_cons (Fu.x_bin (Fu.x_v 11 (fun _ => rfl)) Fu.x_c) Fu.x_nil)))) (Fu.x_cons (Fu.x_tup (Fu.x_cons (Fu.x_w 4 (fun _ => rfl)) (Fu.x_cons (Fu.x_bin (Fu.x_bin (Fu.x_v 11 (fun _ => rfl)) Fu.x_c) (Fu.x_w 9 (fun _ => rfl))) (Fu.x_cons (Fu.x_bin (Fu.x_v 11 (fun _ => rfl)) Fu.x_c) Fu.x_nil)))) (Fu.x_cons (Fu.x_tup (Fu.x_cons (Fu.x_w 4 (fun _ => rfl)) (Fu.x_cons Fu.x_c (Fu.x_cons (Fu.x_un Fu.x_c) Fu.x_nil)))) (Fu.x_cons (Fu.x_tup (Fu.x_cons (Fu.x_w 4 (fun _ => rfl)) (Fu.x_cons (Fu.x_un Fu.x_c) (Fu.x_cons Fu.x_c Fu.x_nil)))) (Fu.x_cons (Fu.x_tup (Fu.x_cons (Fu.x_w 4 (fun _ => rfl)) (Fu.x_cons (Fu.x_un Fu.x_c) (Fu.x_cons (Fu.x_un Fu.x_c) Fu.x_nil)))) Fu.x_nil)))))))))) rfl) fun z165 => (Fu.st_seq (Fu.st_ifP (Q := fun (z166 : List Py.D) => [.v a0, .v a1, .v a2, .v a3, .w z1.1, .w z1.2.1, .w z1.2.2.1, .w z42.1, .w z42.2.1, .w z42.2.2.1, .w z42.2.2.2.1, .v z164, .o z166, .un, .pl]) (Fu.x_tst (Fu.x_bin (Fu.x_w 8 (fun _ => rfl)) Fu.x_c)) (Fu.st_seq (Fu.st_mut rfl (Fu.x_cons (Fu.x_tup (Fu.x_cons (Fu.x_w 4 (fun _ => rfl)) (Fu.x_cons (Fu.x_bin (Fu.x_w 8 (fun _ => rfl)) Fu.x_c) (Fu.x_cons (Fu.x_bin (Fu.x_w 8 (fun _ => rfl)) Fu.x_c) Fu.x_nil)))) Fu.x_nil)) fun z167 => (Fu.st_end (Fu.st_mut rfl (Fu.x_cons (Fu.x_tup (Fu.x_cons (Fu.x_w 4 (fun _ => rfl)) (Fu.x_cons (Fu.x_bin (Fu.x_bin (Fu.x_w 8 (fun _ => rfl)) Fu.x_c) (Fu.x_w 9 (fun _ => rfl))) (Fu.x_cons (Fu.x_bin (Fu.x_w 8 (fun _ => rfl)) Fu.x_c) Fu.x_nil)))) Fu.x_nil)) (fun z168 => Fu.LE.r))) (Fu.st_next Fu.LE.r)) fun z166 => (Fu.st_seq (Fu.st_mut rfl (Fu.x_cons (Fu.x_tup (Fu.x_cons (Fu.x_w 4 (fun _ => rfl)) (Fu.x_cons (Fu.x_w 6 (fun _ => rfl)) (Fu.x_cons (Fu.x_w 6 (fun _ => rfl)) Fu.x_nil)))) Fu.x_nil)) fun z169 => (Fu.st_seq (Fu.st_wk (Fu.LE.c Fu.PtLE.r (Fu.LE.c Fu.PtLE.r (Fu.LE.c Fu.PtLE.r (Fu.LE.c Fu.PtLE.r (Fu.LE.c Fu.PtLE.r (Fu.LE.c Fu.PtLE.r (Fu.LE.c Fu.PtLE.r (Fu.LE.c Fu.PtLE.r (Fu.LE.c Fu.PtLE.r (Fu.LE.c Fu.PtLE.r (Fu.LE.c Fu.PtLE.r (Fu.LE.c Fu.PtLE.r (Fu.LE.c Fu.PtLE.ov (Fu.LE.c Fu.PtLE.r (Fu.LE.c Fu.PtLE.r Fu.LE.n))))))))))))))) (Fu.st_setN (Fu.n_lc (Q := fun _ (z171 : Py.D) => [.v a0, .v a1, .v a2, .v a3, .w z1.1, .w z1.2.1, .w z1.2.2.1, .w z42.1, .w z42.2.1, .w z42.2.2.1, .w z42.2.2.2.1, .v z164, .v (.lst z169.2), .un, .w z171]) (Fu.x_items (Fu.x_v 12 (fun _ => rfl))) (fun _ => rfl) (fun _ _ => rfl) (fun _ _ => rfl) (fun _ => (Fu.tg_nm rfl)) (fun z171 => Fu.EX.ok) (fun z171 => (Fu.x_bin (Fu.x_bin (Fu.x_cut (Fu.x_v 2 (fun _ => rfl)) Fu.x_nop (Fu.x_part (Fu.x_v 3 (fun _ => rfl)))) (Fu.x_tup (Fu.x_cons (Fu.x_w 14 (fun _ => rfl)) Fu.x_nil))) (Fu.x_cut (Fu.x_v 2 (fun _ => rfl)) (Fu.x_part (Fu.x_bin (Fu.x_v 3 (fun _ => rfl)) Fu.x_c)) Fu.x_nop))) (fun _ _ v hv => by first | (simp only [List.mem_cons, List.mem_nil_iff, or_false] at hv; subst hv; rfl)) (fun _ _ => Fu.LE.r)) rfl)) fun z170 => (Fu.st_seq (Fu.st_mut rfl (Fu.x_cons (Fu.x_cut (Fu.x_v 2 (fun _ => rfl)) Fu.x_nop (Fu.x_part (Fu.x_un Fu.x_c))) Fu.x_nil)) fun z172 => (Fu.st_seq (Fu.st_mut rfl (Fu.x_cons (Fu.x_bin (Fu.x_v 2 (fun _ => rfl)) (Fu.x_tup (Fu.x_cons (Fu.x_tup (Fu.x_cons Fu.x_c (Fu.x_cons Fu.x_c (Fu.x_cons Fu.x_c Fu.x_nil)))) Fu.x_nil))) Fu.x_nil)) fun z173 => (Fu.st_retM (j := 13) rfl rfl (Fu.LE.anyN rfl)))))))))))
theorem z__law_spoilt : Fu.ZN c__law_spoilt (Fu.ap4 F__law_spoilt) := Fu.zn4 y__law_spoilt
def B__law_is_moments_0  : (Unit) → Py.D → Fu.O (Py.D) (Unit) (Unit) := fun (s2 : Unit) x7 => (Fu.O.ofO (some x7)).seq fun z3 => ((Fu.iteP (Fu.S.or (Fu.S.not (Fu.S.tru (Fu.S.cal (fIs T) (Fu.S.cons (Fu.S.ok z3) (Fu.S.cons (Fu.S.ok (.ty .tup)) Fu.S.nil))))) (Fu.S.tst (Fu.S.bin fNe (Fu.S.cal fLen (Fu.S.cons (Fu.S.ok z3) Fu.S.nil)) (Fu.S.ok (.int 3))))) (Fu.retP (fun x => x) (Fu.S.ok (.bl false))) (.nx ())).seq fun z5 => (Fu.iteP (Fu.S.tst (Fu.S.bin fGt (Fu.S.cal fLen (Fu.S.cons (Fu.S.toL (Fu.S.lc (Fu.S.items (Fu.S.ok z3)) some (fun z6 => (Fu.S.not (Fu.S.tru (Fu.S.call (Fu.ap1 F__law_is_int) (Fu.S.cons (Fu.S.ok z6) Fu.S.nil))))) (fun z6 => (Fu.S.ok z6)))) Fu.S.nil)) (Fu.S.ok (.int 0)))) (Fu.retP (fun x => x) (Fu.S.ok (.bl false))) (.nx ())))
def F__law_is_moments (a0 a1 : Py.D) : Fu.R (Py.D) := Fu.fin (β := Unit) ((Fu.iteP (Fu.S.or (Fu.S.not (Fu.S.tru (Fu.S.cal (fIs T) (Fu.S.cons (Fu.S.ok a0) (Fu.S.cons (Fu.S.ok (.ty .tup)) Fu.S.nil))))) (Fu.S.tst (Fu.S.bin fNe (Fu.S.cal fLen (Fu.S.cons (Fu.S.ok a0) Fu.S.nil)) (Fu.S.ok a1)))) (Fu.retP (fun x => x) (Fu.S.ok (.bl false))) (.nx ())).seq fun z1 => (((Fu.O.ofP (Fu.S.items (Fu.S.ok a0))).seq fun x8 => Fu.loop B__law_is_moments_0 x8 ()).seq fun z4 => (Fu.retP (fun x => x) (Fu.S.ok (.bl true)))))
theorem y__law_is_moments (a0 a1 : Py.D) : Fu.CallOk (c__law_is_moments [.v a0, .v a1]) (F__law_is_moments a0 a1) (Fu.uns [a0, a1]) := Fu.fnD (xs := [a0, a1]) (l := [.un, .pl]) (n := 4) (Q := fun _ => Fu.anys 4) rfl (by simp [Fu.PlainL]) (Fu.st_seq (Fu.st_ifP (Q := fun (z1 : Unit) => [.v a0, .v a1, .un, .pl]) (Fu.x_or (Fu.x_not (Fu.x_tru (Fu.x_cal (Fu.x_cons (Fu.x_v 0 (fun _ => rfl)) (Fu.x_cons Fu.x_c Fu.x_nil))))) (Fu.x_tst (Fu.x_bin (Fu.x_cal (Fu.x_cons (Fu.x_v 0 (fun _ => rfl)) Fu.x_nil)) (Fu.x_v 1 (fun _ => rfl))))) (Fu.st_retP (Fu.v_x Fu.x_c) (fun _ _ h => h) (fun _ => (Fu.LE.anyN rfl))) (Fu.st_next Fu.LE.r)) fun z1 => (Fu.st_seq (Fu.st_forP (L := fun (s2 : Unit) => [.v a0, .v a1, .un, .pl]) (Qg := fun (s2 : Unit) (z3 : Py.D) => [.v a0, .v a1, .w z3, .pl]) (Fu.x_items (Fu.x_v 0 (fun _ => rfl))) Fu.LE.r (fun s2 => (Fu.tg_nm rfl)) (fun s2 z3 => (Fu.st_seq (Fu.st_ifP (Q := fun (z5 : Unit) => [.v a0, .v a1, .w z3, .pl]) (Fu.x_or (Fu.x_not (Fu.x_tru (Fu.x_cal (Fu.x_cons (Fu.x_w 2 (fun _ => rfl)) (Fu.x_cons Fu.x_c Fu.x_nil))))) (Fu.x_tst (Fu.x_bin (Fu.x_cal (Fu.x_cons (Fu.x_w 2 (fun _ => rfl)) Fu.x_nil)) Fu.x_c))) (Fu.st_retP (Fu.v_x Fu.x_c) (fun _ _ h => h) (fun _ => (Fu.LE.anyN rfl))) (Fu.st_next Fu.LE.r)) fun z5 => (Fu.st_ifP (Q := fun (s2 : Unit) => [.v a0, .v a1, .un, .pl]) (Fu.x_tst (Fu.x_bin (Fu.x_cal (Fu.x_cons (Fu.x_hold (Fu.v_n (Fu.n_lc (Q := fun _ (z6 : Py.D) => [.v a0, .v a1, .w z3, .w z6]) (Fu.x_items (Fu.x_w 2 (fun _ => rfl))) (fun _ => rfl) (fun _ _ => rfl) (fun _ _ => rfl) (fun _ => (Fu.tg_nm rfl)) (fun z6 => (Fu.x_not (Fu.x_tru (Fu.x_hold (Fu.v_call z__law_is_int (Fu.a_val (Fu.x_w 3 (fun _ => rfl)) Fu.a_nil) (fun _ => (Fu.LE.anyN rfl))))))) (fun z6 => (Fu.x_w 3 (fun _ => rfl))) (fun _ _ v hv => by first | (simp only [List.mem_cons, List.mem_nil_iff, or_false] at hv; subst hv; rfl)) (fun _ _ => Fu.LE.r)))) Fu.x_nil)) Fu.x_c)) (Fu.st_retP (Fu.v_x Fu.x_c) (fun _ _ h => h) (fun _ => (Fu.LE.anyN rfl))) (Fu.st_next (Fu.LE.c Fu.PtLE.r (Fu.LE.c Fu.PtLE.r (Fu.LE.c Fu.PtLE.wu (Fu.LE.c Fu.PtLE.r Fu.LE.n))))))))) fun z4 => (Fu.st_retP (Fu.v_x Fu.x_c) (fun _ _ h => h) (fun _ => (Fu.LE.anyN rfl))))) (fun _ => rfl)
theorem z__law_is_moments : Fu.Z c__law_is_moments (Fu.ap2 F__law_is_moments) := Fu.z2 y__law_is_moments
def F__law_is_row (a0 a1 : Py.D) : Fu.R (Py.D) := Fu.fin (β := Unit) ((Fu.iteP (Fu.S.or (Fu.S.not (Fu.S.tru (Fu.S.cal (fIs T) (Fu.S.cons (Fu.S.ok a0) (Fu.S.cons (Fu.S.ok (.ty .tup)) Fu.S.nil))))) (Fu.S.tst (Fu.S.bin fNe (Fu.S.cal fLen (Fu.S.cons (Fu.S.ok a0) Fu.S.nil)) (Fu.S.cal fLen (Fu.S.cons (Fu.S.ok a1) Fu.S.nil))))) (Fu.retP (fun x => x) (Fu.S.ok (.bl false))) (.nx ())).seq fun z1 => (Fu.retP (fun x => x) (Fu.S.bin fEq (Fu.S.cal fLen (Fu.S.cons (Fu.S.toL (Fu.S.lc (Fu.S.it fRange1 (Fu.S.cons (Fu.S.cal fLen (Fu.S.cons (Fu.S.ok a1) Fu.S.nil)) Fu.S.nil)) some (fun z2 => (Fu.S.or (Fu.S.not (Fu.S.tru (Fu.S.call (Fu.ap1 F__law_is_int) (Fu.S.cons (Fu.S.bin fIx (Fu.S.ok a0) (Fu.S.ok z2)) Fu.S.nil)))) (Fu.S.tst (Fu.S.bin fNe (Fu.S.bin fIx (Fu.S.ok a0) (Fu.S.ok z2)) (Fu.S.bin fIx (Fu.S.ok a1) (Fu.S.ok z2)))))) (fun z2 => (Fu.S.ok z2)))) Fu.S.nil)) (Fu.S.ok (.int 0)))))
theorem y__law_is_row (a0 a1 : Py.D) : Fu.CallOk (c__law_is_row [.v a0, .v a1]) (F__law_is_row a0 a1) (Fu.uns [a0, a1]) := Fu.fnD (xs := [a0, a1]) (l := [.pl]) (n := 3) (Q := fun _ => Fu.anys 3) rfl (by simp [Fu.PlainL]) (Fu.st_seq (Fu.st_ifP (Q := fun (z1 : Unit) => [.v a0, .v a1, .pl]) (Fu.x_or (Fu.x_not (Fu.x_tru (Fu.x_cal (Fu.x_cons (Fu.x_v 0 (fun _ => rfl)) (Fu.x_cons Fu.x_c Fu.x_nil))))) (Fu.x_tst (Fu.x_bin (Fu.x_cal (Fu.x_cons (Fu.x_v 0 (fun _ => rfl)) Fu.x_nil)) (Fu.x_cal (Fu.x_cons (Fu.x_v 1 (fun _ => rfl)) Fu.x_nil))))) (Fu.st_retP (Fu.v_x Fu.x_c) (fun _ _ h => h) (fun _ => (Fu.LE.anyN rfl))) (Fu.st_next Fu.LE.r)) fun z1 => (Fu.st_retP (Fu.v_x (Fu.x_bin (Fu.x_cal (Fu.x_cons (Fu.x_hold (Fu.v_n (Fu.n_lc (Q := fun _ (z2 : Py.D) => [.v a0, .v a1, .w z2]) (Fu.x_it (Fu.x_cons (Fu.x_cal (Fu.x_cons (Fu.x_v 1 (fun _ => rfl)) Fu.x_nil)) Fu.x_nil)) (fun _ => rfl) (fun _ _ => rfl) (fun _ _ => rfl) (fun _ => (Fu.tg_nm rfl)) (fun z2 => (Fu.x_or (Fu.x_not (Fu.x_tru (Fu.x_hold (Fu.v_call z__law_is_int (Fu.a_val (Fu.x_bin (Fu.x_v 0 (fun _ => rfl)) (Fu.x_w 2 (fun _ => rfl))) Fu.a_nil) (fun _ => (Fu.LE.anyN rfl)))))) (Fu.x_tst (Fu.x_bin (Fu.x_bin (Fu.x_v 0 (fun _ => rfl)) (Fu.x_w 2 (fun _ => rfl))) (Fu.x_bin (Fu.x_v 1 (fun _ => rfl)) (Fu.x_w 2 (fun _ => rfl))))))) (fun z2 => (Fu.x_w 2 (fun _ => rfl))) (fun _ _ v hv => by first | (simp only [List.mem_cons, List.mem_nil_iff, or_false] at hv; subst hv; rfl)) (fun _ _ => Fu.LE.r)))) Fu.x_nil)) Fu.x_c)) (fun _ _ h => h) (fun _ => (Fu.LE.anyN rfl)))) (fun _ => rfl)
theorem z__law_is_row : Fu.Z c__law_is_row (Fu.ap2 F__law_is_row) := Fu.z2 y__law_is_row
def F__law_hours (a0 : Py.D) : Fu.R (Py.D) := Fu.fin (β := Unit) (Fu.retP (fun x => x) (Fu.S.cal fSumA (Fu.S.cons (Fu.S.toL (Fu.S.lc (Fu.S.items (Fu.S.ok a0)) some (fun z1 => (Fu.S.ok true)) (fun z1 => (Fu.S.bin fAdd (Fu.S.bin fIx (Fu.S.ok z1) (Fu.S.ok (.int 0))) (Fu.S.bin fIx (Fu.S.ok z1) (Fu.S.ok (.int 1))))))) Fu.S.nil)))
theorem y__law_hours (a0 : Py.D) : Fu.CallOk (c__law_hours [.v a0]) (F__law_hours a0) (Fu.uns [a0]) := Fu.fnD (xs := [a0]) (l := [.pl]) (n := 2) (Q := fun _ => Fu.anys 2) rfl (by simp [Fu.PlainL]) (Fu.st_retP (Fu.v_x (Fu.x_cal (Fu.x_cons (Fu.x_hold (Fu.v_n (Fu.n_lc (Q := fun _ (z1 : Py.D) => [.v a0, .w z1]) (Fu.x_items (Fu.x_v 0 (fun _ => rfl))) (fun _ => rfl) (fun _ _ => rfl) (fun _ _ => rfl) (fun _ => (Fu.tg_nm rfl)) (fun z1 => Fu.EX.ok) (fun z1 => (Fu.x_bin (Fu.x_bin (Fu.x_w 1 (fun _ => rfl)) Fu.x_c) (Fu.x_bin (Fu.x_w 1 (fun _ => rfl)) Fu.x_c))) (fun _ _ v hv => by first | (simp only [List.mem_cons, List.mem_nil_iff, or_false] at hv; subst hv; rfl)) (fun _ _ => Fu.LE.r)))) Fu.x_nil))) (fun _ _ h => h) (fun _ => (Fu.LE.anyN rfl))) (fun _ => rfl)
theorem z__law_hours : Fu.Z c__law_hours (Fu.ap1 F__law_hours) := Fu.z1 y__law_hours
def F__law_is_case (a0 : Py.D) : Fu.R (Py.D) := Fu.fin (β := Unit) ((Fu.iteP (Fu.S.or (Fu.S.not (Fu.S.tru (Fu.S.cal (fIs T) (Fu.S.cons (Fu.S.ok a0) (Fu.S.cons (Fu.S.ok (.cl "BadCase")) Fu.S.nil))))) (Fu.S.not (Fu.S.tru (Fu.S.cal (fIs T) (Fu.S.cons (Fu.S.ok a0) (Fu.S.cons (Fu.S.ok (.cl "KeysError")) Fu.S.nil)))))) (Fu.retP (fun x => x) (Fu.S.ok (.bl false))) (.nx ())).seq fun z1 => ((Fu.iteP (Fu.S.or (Fu.S.tru (Fu.S.cal (fIs T) (Fu.S.cons (Fu.S.ok a0) (Fu.S.cons (Fu.S.ok (.cl "BadNumber")) Fu.S.nil)))) (Fu.S.tru (Fu.S.cal (fIs T) (Fu.S.cons (Fu.S.ok a0) (Fu.S.cons (Fu.S.ok (.cl "BadStore")) Fu.S.nil))))) (Fu.retP (fun x => x) (Fu.S.ok (.bl false))) (.nx ())).seq fun z2 => (Fu.retP (fun x => x) (Fu.S.andV (Fu.S.cal (fIs T) (Fu.S.cons (Fu.S.at T "at" (Fu.S.ok a0)) (Fu.S.cons (Fu.S.ok (.ty .tup)) Fu.S.nil))) (Fu.S.bin fEq (Fu.S.at T "at" (Fu.S.ok a0)) (Fu.S.tup Fu.S.nil))))))
theorem y__law_is_case (a0 : Py.D) : Fu.CallOk (c__law_is_case [.v a0]) (F__law_is_case a0) (Fu.uns [a0]) := Fu.fnD (xs := [a0]) (l := []) (n := 1) (Q := fun _ => Fu.anys 1) rfl (by simp [Fu.PlainL]) (Fu.st_seq (Fu.st_ifP (Q := fun (z1 : Unit) => [.v a0]) (Fu.x_or (Fu.x_not (Fu.x_tru (Fu.x_cal (Fu.x_cons (Fu.x_v 0 (fun _ => rfl)) (Fu.x_cons Fu.x_c Fu.x_nil))))) (Fu.x_not (Fu.x_tru (Fu.x_cal (Fu.x_cons (Fu.x_v 0 (fun _ => rfl)) (Fu.x_cons Fu.x_c Fu.x_nil)))))) (Fu.st_retP (Fu.v_x Fu.x_c) (fun _ _ h => h) (fun _ => (Fu.LE.anyN rfl))) (Fu.st_next Fu.LE.r)) fun z1 => (Fu.st_seq (Fu.st_ifP (Q := fun (z2 : Unit) => [.v a0]) (Fu.x_or (Fu.x_tru (Fu.x_cal (Fu.x_cons (Fu.x_v 0 (fun _ => rfl)) (Fu.x_cons Fu.x_c Fu.x_nil)))) (Fu.x_tru (Fu.x_cal (Fu.x_cons (Fu.x_v 0 (fun _ => rfl)) (Fu.x_cons Fu.x_c Fu.x_nil))))) (Fu.st_retP (Fu.v_x Fu.x_c) (fun _ _ h => h) (fun _ => (Fu.LE.anyN rfl))) (Fu.st_next Fu.LE.r)) fun z2 => (Fu.st_retP (Fu.v_x (Fu.x_andV (Fu.x_cal (Fu.x_cons (Fu.x_at (Fu.x_v 0 (fun _ => rfl))) (Fu.x_cons Fu.x_c Fu.x_nil))) (Fu.x_bin (Fu.x_at (Fu.x_v 0 (fun _ => rfl))) (Fu.x_tup Fu.x_nil)))) (fun _ _ h => h) (fun _ => (Fu.LE.anyN rfl))))) (fun _ => rfl)
theorem z__law_is_case : Fu.Z c__law_is_case (Fu.ap1 F__law_is_case) := Fu.z1 y__law_is_case
def F__law_made (a0 a1 a2 a3 : Py.D) : Fu.R (Py.D) := Fu.fin (β := Unit) ((Fu.O.ofP (Fu.S.call (Fu.ap4 F_copy_of) (Fu.S.cons (Fu.S.ok a0) (Fu.S.cons (Fu.S.ok a1) (Fu.S.cons (Fu.S.ok a2) (Fu.S.cons (Fu.S.ok a3) Fu.S.nil)))))).seq fun z1 => ((Fu.iteP (Fu.S.or (Fu.S.not (Fu.S.tru (Fu.S.cal (fIs T) (Fu.S.cons (Fu.S.ok z1) (Fu.S.cons (Fu.S.ok (.ty .tup)) Fu.S.nil))))) (Fu.S.tst (Fu.S.bin fNe (Fu.S.cal fLen (Fu.S.cons (Fu.S.ok z1) Fu.S.nil)) (Fu.S.ok (.int 2))))) (Fu.retP (fun x => x) (Fu.S.ok (.bl false))) (.nx ())).seq fun z2 => ((Fu.iteP (Fu.S.or (Fu.S.not (Fu.S.tru (Fu.S.call (Fu.ap1 F__law_is_int) (Fu.S.cons (Fu.S.bin fIx (Fu.S.ok z1) (Fu.S.ok (.int 0))) Fu.S.nil)))) (Fu.S.or (Fu.S.tst (Fu.S.bin fNe (Fu.S.bin fIx (Fu.S.ok z1) (Fu.S.ok (.int 0))) (Fu.S.ok a2))) (Fu.S.not (Fu.S.tru (Fu.S.call (Fu.ap2 F__law_is_moments) (Fu.S.cons (Fu.S.bin fIx (Fu.S.ok z1) (Fu.S.ok (.int 1))) (Fu.S.cons (Fu.S.cal fLen (Fu.S.cons (Fu.S.ok a0) Fu.S.nil)) Fu.S.nil))))))) (Fu.retP (fun x => x) (Fu.S.ok (.bl false))) (.nx ())).seq fun z3 => ((Fu.O.ofP (Fu.S.bin fIx (Fu.S.ok z1) (Fu.S.ok (.int 1)))).seq fun z4 => ((Fu.iteP (Fu.S.or (Fu.S.not (Fu.S.tru (Fu.S.call (Fu.ap3 F__law_lawful) (Fu.S.cons (Fu.S.ok a0) (Fu.S.cons (Fu.S.ok a1) (Fu.S.cons (Fu.S.ok z4) Fu.S.nil)))))) (Fu.S.tst (Fu.S.bin fNe (Fu.S.call (Fu.ap1 F__law_hours) (Fu.S.cons (Fu.S.ok z4) Fu.S.nil)) (Fu.S.ok a3)))) (Fu.retP (fun x => x) (Fu.S.ok (.bl false))) (.nx ())).seq fun z5 => ((Fu.iteP (Fu.S.or (Fu.S.tst (Fu.S.bin fIsNot (Fu.S.call (Fu.ap3 F_is_copy) (Fu.S.cons (Fu.S.ok a0) (Fu.S.cons (Fu.S.ok a1) (Fu.S.cons (Fu.S.ok z1) Fu.S.nil)))) (Fu.S.ok (.bl true)))) (Fu.S.tst (Fu.S.bin fNe (Fu.S.call (Fu.ap1 F_copy_hours) (Fu.S.cons (Fu.S.ok z1) Fu.S.nil)) (Fu.S.ok a3)))) (Fu.retP (fun x => x) (Fu.S.ok (.bl false))) (.nx ())).seq fun z6 => (Fu.retP (fun x => x) (Fu.S.call (Fu.ap2 F__law_is_row) (Fu.S.cons (Fu.S.call (Fu.ap3 F_lives_along) (Fu.S.cons (Fu.S.ok a0) (Fu.S.cons (Fu.S.ok a1) (Fu.S.cons (Fu.S.ok z1) Fu.S.nil)))) (Fu.S.cons (Fu.S.call (Fu.ap3 F__law_lives) (Fu.S.cons (Fu.S.ok a0) (Fu.S.cons (Fu.S.ok a1) (Fu.S.cons (Fu.S.ok z4) Fu.S.nil)))) Fu.S.nil))))))))))
theorem y__law_made (a0 a1 a2 a3 : Py.D) : Fu.CallOk (c__law_made [.v a0, .v a1, .v a2, .v a3]) (F__law_made a0 a1 a2 a3) (Fu.uns [a0, a1, a2, a3]) := Fu.fnD (xs := [a0, a1, a2, a3]) (l := [.un, .un]) (n := 6) (Q := fun _ => Fu.anys 6) rfl (by simp [Fu.PlainL]) (Fu.st_seq (Fu.st_setP (Fu.v_call z_copy_of (Fu.a_val (Fu.x_v 0 (fun _ => rfl)) (Fu.a_val (Fu.x_v 1 (fun _ => rfl)) (Fu.a_val (Fu.x_v 2 (fun _ => rfl)) (Fu.a_val (Fu.x_v 3 (fun _ => rfl)) Fu.a_nil)))) (fun _ => (Fu.LE.anyN rfl))) rfl) fun z1 => (Fu.st_seq (Fu.st_ifP (Q := fun (z2 : Unit) => [.v a0, .v a1, .v a2, .v a3, .v z1, .un]) (Fu.x_or (Fu.x_not (Fu.x_tru (Fu.x_cal (Fu.x_cons (Fu.x_v 4 (fun _ => rfl)) (Fu.x_cons Fu.x_c Fu.x_nil))))) (Fu.x_tst (Fu.x_bin (Fu.x_cal (Fu.x_cons (Fu.x_v 4 (fun _ => rfl)) Fu.x_nil)) Fu.x_c))) (Fu.st_retP (Fu.v_x Fu.x_c) (fun _ _ h => h) (fun _ => (Fu.LE.anyN rfl))) (Fu.st_next Fu.LE.r)) fun z2 => (Fu.st_seq (Fu.st_ifP (Q := fun (z3 : Unit) => [.v a0, .v a1, .v a2, .v a3, .v z1, .un]) (Fu.x_or (Fu.x_not (Fu.x_tru (Fu.x_hold (Fu.v_call z__law_is_int (Fu.a_val (Fu.x_bin (Fu.x_v 4 (fun _ => rfl)) Fu.x_c) Fu.a_nil) (fun _ => (Fu.LE.anyN rfl)))))) (Fu.x_or (Fu.x_tst (Fu.x_bin (Fu.x_bin (Fu.x_v 4 (fun _ => rfl)) Fu.x_c) (Fu.x_v 2 (fun _ => rfl)))) (Fu.x_not (Fu.x_tru (Fu.x_hold (Fu.v_call z__law_is_moments (Fu.a_val (Fu.x_bin (Fu.x_v 4 (fun _ => rfl)) Fu.x_c) (Fu.a_val (Fu.x_cal (Fu.x_cons (Fu.x_v 0 (fun _ => rfl)) Fu.x_nil)) Fu.a_nil)) (fun _ => (Fu.LE.anyN rfl)))))))) (Fu.st_retP (Fu.v_x Fu.x_c) (fun _ _ h => h) (fun _ => (Fu.LE.anyN rfl))) (Fu.st_next Fu.LE.r)) fun z3 => (Fu.st_seq (Fu.st_setP (Fu.v_x (Fu.x_bin (Fu.x_v 4 (fun _ => rfl)) Fu.x_c)) rfl) fun z4 => (Fu.st_seq (Fu.st_ifP (Q := fun (z5 : Unit) => [.v a0, .v a1, .v a2, .v a3, .v z1, .v z4]) (Fu.x_or (Fu.x_not (Fu.x_tru (Fu.x_hold (Fu.v_call z__law_lawful (Fu.a_val (Fu.x_v 0 (fun _ => rfl)) (Fu.a_val (Fu.x_v 1 (fun _ => rfl)) (Fu.a_val (Fu.x_v 5 (fun _ => rfl)) Fu.a_nil))) (fun _ => (Fu.LE.anyN rfl)))))) (Fu.x_tst (Fu.x_bin (Fu.x_hold (Fu.v_call z__law_hours (Fu.a_val (Fu.x_v 5 (fun _ => rfl)) Fu.a_nil) (fun _ => (Fu.LE.anyN rfl)))) (Fu.x_v 3 (fun _ => rfl))))) (Fu.st_retP (Fu.v_x Fu.x_c) (fun _ _ h => h) (fun _ => (Fu.LE.anyN rfl))) (Fu.st_next Fu.LE.r)) fun z5 => (Fu.st_seq (Fu.st_ifP (Q := fun (z6 : Unit) => [.v a0, .v a1, .v a2, .v a3, .v z1, .v z4]) (Fu.x_or (Fu.x_tst (Fu.x_bin (Fu.x_hold (Fu.v_call z_is_copy (Fu.a_val (Fu.x_v 0 (fun _ => rfl)) (Fu.a_val (Fu.x_v 1 (fun _ => rfl)) (Fu.a_val (Fu.x_v 4 (fun _ => rfl)) Fu.a_nil))) (fun _ => (Fu.LE.anyN rfl)))) Fu.x_c)) (Fu.x_tst (Fu.x_bin (Fu.x_hold (Fu.v_call z_copy_hours (Fu.a_val (Fu.x_v 4 (fun _ => rfl)) Fu.a_nil) (fun _ => (Fu.LE.anyN rfl)))) (Fu.x_v 3 (fun _ => rfl))))) (Fu.st_retP (Fu.v_x Fu.x_c) (fun _ _ h => h) (fun _ => (Fu.LE.anyN rfl))) (Fu.st_next Fu.LE.r)) fun z6 => (Fu.st_retP (Fu.v_call z__law_is_row (Fu.a_val (Fu.x_hold (Fu.v_call z_lives_along (Fu.a_val (Fu.x_v 0 (fun _ => rfl)) (Fu.a_val (Fu.x_v 1 (fun _ => rfl)) (Fu.a_val (Fu.x_v 4 (fun _ => rfl)) Fu.a_nil))) (fun _ => (Fu.LE.anyN rfl)))) (Fu.a_val (Fu.x_hold (Fu.v_call z__law_lives (Fu.a_val (Fu.x_v 0 (fun _ => rfl)) (Fu.a_val (Fu.x_v 1 (fun _ => rfl)) (Fu.a_val (Fu.x_v 5 (fun _ => rfl)) Fu.a_nil))) (fun _ => (Fu.LE.anyN rfl)))) Fu.a_nil)) (fun _ => (Fu.LE.anyN rfl))) (fun _ _ h => h) (fun _ => (Fu.LE.anyN rfl))))))))) (fun _ => rfl)
theorem z__law_made : Fu.Z c__law_made (Fu.ap4 F__law_made) := Fu.z4 y__law_made
def F__law_is_bool (a0 a1 : Py.D) : Fu.R (Py.D) := Fu.fin (β := Unit) ((Fu.iteP (Fu.S.tru (Fu.S.ok a1)) (Fu.retP (fun x => x) (Fu.S.bin fIsN (Fu.S.ok a0) (Fu.S.ok (.bl true)))) (.nx ())).seq fun z1 => (Fu.retP (fun x => x) (Fu.S.bin fIsN (Fu.S.ok a0) (Fu.S.ok (.bl false)))))
theorem y__law_is_bool (a0 a1 : Py.D) : Fu.CallOk (c__law_is_bool [.v a0, .v a1]) (F__law_is_bool a0 a1) (Fu.uns [a0, a1]) := Fu.fnD (xs := [a0, a1]) (l := []) (n := 2) (Q := fun _ => Fu.anys 2) rfl (by simp [Fu.PlainL]) (Fu.st_seq (Fu.st_ifP (Q := fun (z1 : Unit) => [.v a0, .v a1]) (Fu.x_tru (Fu.x_v 1 (fun _ => rfl))) (Fu.st_retP (Fu.v_x (Fu.x_bin (Fu.x_v 0 (fun _ => rfl)) Fu.x_c)) (fun _ _ h => h) (fun _ => (Fu.LE.anyN rfl))) (Fu.st_next Fu.LE.r)) fun z1 => (Fu.st_retP (Fu.v_x (Fu.x_bin (Fu.x_v 0 (fun _ => rfl)) Fu.x_c)) (fun _ _ h => h) (fun _ => (Fu.LE.anyN rfl)))) (fun _ => rfl)
theorem z__law_is_bool : Fu.Z c__law_is_bool (Fu.ap2 F__law_is_bool) := Fu.z2 y__law_is_bool
def B__law_spoils_told_0 (a0 : Py.D) (a1 : Py.D) (a2 : Py.D) : (Unit) → Py.D → Fu.O (Py.D) (Unit) (Unit) := fun (s1 : Unit) x15 => (Fu.O.ofO (some x15)).seq fun z2 => ((Fu.O.ofP (Fu.S.call (Fu.ap3 F__law_lawful) (Fu.S.cons (Fu.S.ok a0) (Fu.S.cons (Fu.S.ok a1) (Fu.S.cons (Fu.S.ok z2) Fu.S.nil))))).seq fun z4 => ((Fu.iteP (Fu.S.not (Fu.S.tru (Fu.S.call (Fu.ap2 F__law_is_bool) (Fu.S.cons (Fu.S.call (Fu.ap3 F_is_copy) (Fu.S.cons (Fu.S.ok a0) (Fu.S.cons (Fu.S.ok a1) (Fu.S.cons (Fu.S.tup (Fu.S.cons (Fu.S.ok a2) (Fu.S.cons (Fu.S.ok z2) Fu.S.nil))) Fu.S.nil)))) (Fu.S.cons (Fu.S.ok z4) Fu.S.nil))))) (Fu.retP (fun x => x) (Fu.S.ok (.bl false))) (.nx ())).seq fun z5 => ((Fu.O.ofP (Fu.S.call (Fu.ap1 F_copy_hours) (Fu.S.cons (Fu.S.tup (Fu.S.cons (Fu.S.ok a2) (Fu.S.cons (Fu.S.ok z2) Fu.S.nil))) Fu.S.nil))).seq fun z6 => ((Fu.iteP (Fu.S.or (Fu.S.not (Fu.S.tru (Fu.S.call (Fu.ap1 F__law_is_int) (Fu.S.cons (Fu.S.ok z6) Fu.S.nil)))) (Fu.S.tst (Fu.S.bin fNe (Fu.S.ok z6) (Fu.S.call (Fu.ap1 F__law_hours) (Fu.S.cons (Fu.S.ok z2) Fu.S.nil))))) (Fu.retP (fun x => x) (Fu.S.ok (.bl false))) (.nx ())).seq fun z7 => ((Fu.O.ofP (Fu.S.ok .non)).seq fun z8 => ((Fu.O.ofP (Fu.S.ok .non)).seq fun z9 => ((Fu.tryO ((Fu.O.ofP (Fu.S.call (Fu.ap3 F_lives_along) (Fu.S.cons (Fu.S.ok a0) (Fu.S.cons (Fu.S.ok a1) (Fu.S.cons (Fu.S.tup (Fu.S.cons (Fu.S.ok a2) (Fu.S.cons (Fu.S.ok z2) Fu.S.nil))) Fu.S.nil))))).seq fun z11 => .nx (z8, z11)) (fun e12 => (Fu.hdO T "KeysError" e12 ((Fu.O.ofP (Fu.S.ok e12)).seq fun z13 => .nx (z13, z9)) (.err e12)))).seq fun z10 => ((Fu.iteP (Fu.S.and (Fu.S.tru (Fu.S.ok z4)) (Fu.S.not (Fu.S.tru (Fu.S.call (Fu.ap2 F__law_is_row) (Fu.S.cons (Fu.S.ok z10.2) (Fu.S.cons (Fu.S.call (Fu.ap3 F__law_lives) (Fu.S.cons (Fu.S.ok a0) (Fu.S.cons (Fu.S.ok a1) (Fu.S.cons (Fu.S.ok z2) Fu.S.nil)))) Fu.S.nil)))))) (Fu.retP (fun x => x) (Fu.S.ok (.bl false))) (.nx ())).seq fun z14 => (Fu.iteP (Fu.S.and (Fu.S.not (Fu.S.tru (Fu.S.ok z4))) (Fu.S.or (Fu.S.tst (Fu.S.bin fIsNot (Fu.S.ok z10.2) (Fu.S.ok .non))) (Fu.S.not (Fu.S.tru (Fu.S.call (Fu.ap1 F__law_is_case) (Fu.S.cons (Fu.S.ok z10.1) Fu.S.nil)))))) (Fu.retP (fun x => x) (Fu.S.ok (.bl false))) (.nx ()))))))))))
def F__law_spoils_told (a0 a1 a2 a3 : Py.D) : Fu.R (Py.D) := Fu.fin (β := Unit) (((Fu.O.ofP (Fu.S.items (Fu.S.ok a3))).seq fun x16 => Fu.loop (B__law_spoils_told_0 a0 a1 a2) x16 ()).seq fun z3 => (Fu.retP (fun x => x) (Fu.S.ok (.bl true))))
theorem y__law_spoils_told (a0 a1 a2 a3 : Py.D) : Fu.CallOk (c__law_spoils_told [.v a0, .v a1, .v a2, .v a3]) (F__law_spoils_told a0 a1 a2 a3) (Fu.uns [a0, a1, a2, a3]) := Fu.fnD (xs := [a0, a1, a2, a3]) (l := [.un, .un, .un, .un, .un, .un]) (n := 10) (Q := fun _ => Fu.anys 10) rfl (by simp [Fu.PlainL]) (Fu.st_seq (Fu.st_forP (L := fun (s1 : Unit) => [.v a0, .v a1, .v a2, .v a3, .un, .un, .un, .un, .un, .un]) (Qg := fun (s1 : Unit) (z2 : Py.D) => [.v a0, .v a1, .v a2, .v a3, .w z2, .un, .un, .un, .un, .un]) (Fu.x_items (Fu.x_v 3 (fun _ => rfl))) Fu.LE.r (fun s1 => (Fu.tg_nm rfl)) (fun s1 z2 => (Fu.st_seq (Fu.st_setP (Fu.v_call z__law_lawful (Fu.a_val (Fu.x_v 0 (fun _ => rfl)) (Fu.a_val (Fu.x_v 1 (fun _ => rfl)) (Fu.a_val (Fu.x_w 4 (fun _ => rfl)) Fu.a_nil))) (fun _ => (Fu.LE.anyN rfl))) rfl) fun z4 => (Fu.st_seq (Fu.st_ifP (Q := fun (z5 : Unit) => [.v a0, .v a1, .v a2, .v a3, .w z2, .v z4, .un, .un, .un, .un]) (Fu.x_not (Fu.x_tru (Fu.x_hold (Fu.v_call z__law_is_bool (Fu.a_val (Fu.x_hold (Fu.v_call z_is_copy (Fu.a_val (Fu.x_v 0 (fun _ => rfl)) (Fu.a_val (Fu.x_v 1 (fun _ => rfl)) (Fu.a_val (Fu.x_tup (Fu.x_cons (Fu.x_v 2 (fun _ => rfl)) (Fu.x_cons (Fu.x_w 4 (fun _ => rfl)) Fu.x_nil))) Fu.a_nil))) (fun _ => (Fu.LE.anyN rfl)))) (Fu.a_val (Fu.x_v 5 (fun _ => rfl)) Fu.a_nil)) (fun _ => (Fu.LE.anyN rfl)))))) (Fu.st_retP (Fu.v_x Fu.x_c) (fun _ _ h => h) (fun _ => (Fu.LE.anyN rfl))) (Fu.st_next Fu.LE.r)) fun z5 => (Fu.st_seq (Fu.st_setP (Fu.v_call z_copy_hours (Fu.a_val (Fu.x_tup (Fu.x_cons (Fu.x_v 2 (fun _ => rfl)) (Fu.x_cons (Fu.x_w 4 (fun _ => rfl)) Fu.x_nil))) Fu.a_nil) (fun _ => (Fu.LE.anyN rfl))) rfl) fun z6 => (Fu.st_seq (Fu.st_ifP (Q := fun (z7 : Unit) => [.v a0, .v a1, .v a2, .v a3, .w z2, .v z4, .v z6, .un, .un, .un]) (Fu.x_or (Fu.x_not (Fu.x_tru (Fu.x_hold (Fu.v_call z__law_is_int (Fu.a_val (Fu.x_v 6 (fun _ => rfl)) Fu.a_nil) (fun _ => (Fu.LE.anyN rfl)))))) (Fu.x_tst (Fu.x_bin (Fu.x_v 6 (fun _ => rfl)) (Fu.x_hold (Fu.v_call z__law_hours (Fu.a_val (Fu.x_w 4 (fun _ => rfl)) Fu.a_nil) (fun _ => (Fu.LE.anyN rfl))))))) (Fu.st_retP (Fu.v_x Fu.x_c) (fun _ _ h => h) (fun _ => (Fu.LE.anyN rfl))) (Fu.st_next Fu.LE.r)) fun z7 => (Fu.st_seq (Fu.st_setP (Fu.v_x Fu.x_c) rfl) fun z8 => (Fu.st_seq (Fu.st_setP (Fu.v_x Fu.x_c) rfl) fun z9 => (Fu.st_seq (Fu.st_try (Q := fun (z10 : Py.D × Py.D) => [.v a0, .v a1, .v a2, .v a3, .w z2, .v z4, .v z6, .v z10.1, .v z10.2, .un]) (pe := [.v a0, .v a1, .v a2, .v a3, .w z2, .v z4, .v z6, .v z8, .v z9, .un]) (Fu.st_end (Fu.st_setP (Fu.v_call z_lives_along (Fu.a_val (Fu.x_v 0 (fun _ => rfl)) (Fu.a_val (Fu.x_v 1 (fun _ => rfl)) (Fu.a_val (Fu.x_tup (Fu.x_cons (Fu.x_v 2 (fun _ => rfl)) (Fu.x_cons (Fu.x_w 4 (fun _ => rfl)) Fu.x_nil))) Fu.a_nil))) (fun _ => Fu.LE.r)) rfl) (fun z11 => Fu.LE.r)) (Fu.hd_named (Q' := fun (z10 : Py.D × Py.D) => [.v a0, .v a1, .v a2, .v a3, .w z2, .v z4, .v z6, .v z10.1, .v z10.2, .un]) rfl (fun e12 => (Fu.st_end (Fu.st_setP (Fu.v_x (Fu.x_w 9 (fun _ => rfl))) rfl) (fun z13 => (Fu.LE.c Fu.PtLE.r (Fu.LE.c Fu.PtLE.r (Fu.LE.c Fu.PtLE.r (Fu.LE.c Fu.PtLE.r (Fu.LE.c Fu.PtLE.r (Fu.LE.c Fu.PtLE.r (Fu.LE.c Fu.PtLE.r (Fu.LE.c Fu.PtLE.r (Fu.LE.c Fu.PtLE.r (Fu.LE.c Fu.PtLE.wu Fu.LE.n))))))))))))) (fun _ => rfl) (fun _ => Fu.LE.r) (Fu.hd_nil (Fu.LE.anyN rfl)))) fun z10 => (Fu.st_seq (Fu.st_ifP (Q := fun (z14 : Unit) => [.v a0, .v a1, .v a2, .v a3, .w z2, .v z4, .v z6, .v z10.1, .v z10.2, .un]) (Fu.x_and (Fu.x_tru (Fu.x_v 5 (fun _ => rfl))) (Fu.x_not (Fu.x_tru (Fu.x_hold (Fu.v_call z__law_is_row (Fu.a_val (Fu.x_v 8 (fun _ => rfl)) (Fu.a_val (Fu.x_hold (Fu.v_call z__law_lives (Fu.a_val (Fu.x_v 0 (fun _ => rfl)) (Fu.a_val (Fu.x_v 1 (fun _ => rfl)) (Fu.a_val (Fu.x_w 4 (fun _ => rfl)) Fu.a_nil))) (fun _ => (Fu.LE.anyN rfl)))) Fu.a_nil)) (fun _ => (Fu.LE.anyN rfl))))))) (Fu.st_retP (Fu.v_x Fu.x_c) (fun _ _ h => h) (fun _ => (Fu.LE.anyN rfl))) (Fu.st_next Fu.LE.r)) fun z14 => (Fu.st_ifP (Q := fun (s1 : Unit) => [.v a0, .v a1, .v a2, .v a3, .un, .un, .un, .un, .un, .un]) (Fu.x_and (Fu.x_not (Fu.x_tru (Fu.x_v 5 (fun _ => rfl)))) (Fu.x_or (Fu.x_tst (Fu.x_bin (Fu.x_v 8 (fun _ => rfl)) Fu.x_c)) (Fu.x_not (Fu.x_tru (Fu.x_hold (Fu.v_call z__law_is_case (Fu.a_val (Fu.x_v 7 (fun _ => rfl)) Fu.a_nil) (fun _ => (Fu.LE.anyN rfl)))))))) (Fu.st_retP (Fu.v_x Fu.x_c) (fun _ _ h => h) (fun _ => (Fu.LE.anyN rfl))) (Fu.st_next (Fu.LE.c Fu.PtLE.r (Fu.LE.c Fu.PtLE.r (Fu.LE.c Fu.PtLE.r (Fu.LE.c Fu.PtLE.r (Fu.LE.c Fu.PtLE.wu (Fu.LE.c Fu.PtLE.vu (Fu.LE.c Fu.PtLE.vu (Fu.LE.c Fu.PtLE.vu (Fu.LE.c Fu.PtLE.vu (Fu.LE.c Fu.PtLE.r Fu.LE.n)))))))))))))))))))))) fun z3 => (Fu.st_retP (Fu.v_x Fu.x_c) (fun _ _ h => h) (fun _ => (Fu.LE.anyN rfl)))) (fun _ => rfl)
theorem z__law_spoils_told : Fu.Z c__law_spoils_told (Fu.ap4 F__law_spoils_told) := Fu.z4 y__law_spoils_told
def B__law_forms_told_0 (a0 : Py.D) (a1 : Py.D) : (Unit) → Py.D → Fu.O (Py.D) (Unit) (Unit) := fun (s3 : Unit) x6 => (Fu.O.ofO (some x6)).seq fun z4 => (Fu.iteP (Fu.S.tst (Fu.S.bin fIsNot (Fu.S.call (Fu.ap3 F_is_copy) (Fu.S.cons (Fu.S.ok a0) (Fu.S.cons (Fu.S.ok a1) (Fu.S.cons (Fu.S.ok z4) Fu.S.nil)))) (Fu.S.ok (.bl false)))) (Fu.retP (fun x => x) (Fu.S.ok (.bl false))) (.nx ()))
def F__law_forms_told (a0 a1 a2 a3 : Py.D) : Fu.R (Py.D) := Fu.fin (β := Unit) ((Fu.iteP (Fu.S.tst (Fu.S.bin fIsNot (Fu.S.call (Fu.ap3 F_is_copy) (Fu.S.cons (Fu.S.ok a0) (Fu.S.cons (Fu.S.ok a1) (Fu.S.cons (Fu.S.toL (Fu.S.lst (Fu.S.cons (Fu.S.ok a2) (Fu.S.cons (Fu.S.toL (Fu.S.lc (Fu.S.items (Fu.S.ok a3)) some (fun z2 => (Fu.S.ok true)) (fun z2 => (Fu.S.cal fList (Fu.S.cons (Fu.S.ok z2) Fu.S.nil))))) Fu.S.nil)))) Fu.S.nil)))) (Fu.S.ok (.bl true)))) (Fu.retP (fun x => x) (Fu.S.ok (.bl false))) (.nx ())).seq fun z1 => (((Fu.O.ofP (Fu.S.items (Fu.S.toL (Fu.S.lst (Fu.S.cons (Fu.S.tup (Fu.S.cons (Fu.S.ok .non) (Fu.S.cons (Fu.S.ok a3) Fu.S.nil))) (Fu.S.cons (Fu.S.tup (Fu.S.cons (Fu.S.ok (.str "0")) (Fu.S.cons (Fu.S.ok a3) Fu.S.nil))) (Fu.S.cons (Fu.S.tup (Fu.S.cons (Fu.S.ok a2) Fu.S.nil)) (Fu.S.cons (Fu.S.tup (Fu.S.cons (Fu.S.ok a2) (Fu.S.cons (Fu.S.ok a3) (Fu.S.cons (Fu.S.ok (.int 0)) Fu.S.nil)))) (Fu.S.cons (Fu.S.tup (Fu.S.cons (Fu.S.ok a2) (Fu.S.cons (Fu.S.ok (.int 0)) Fu.S.nil))) (Fu.S.cons (Fu.S.ok a3) (Fu.S.cons (Fu.S.ok (.int 7)) (Fu.S.cons (Fu.S.tup (Fu.S.cons (Fu.S.ok a2) (Fu.S.cons (Fu.S.bin fAdd (Fu.S.cut (Fu.S.ok a3) Fu.S.nop (Fu.S.part (Fu.S.un fNeg (Fu.S.ok (.int 1))))) (Fu.S.tup (Fu.S.cons (Fu.S.tup (Fu.S.cons (Fu.S.ok (.int 0)) (Fu.S.cons (Fu.S.ok (.int 0)) Fu.S.nil))) Fu.S.nil))) Fu.S.nil))) (Fu.S.cons (Fu.S.tup (Fu.S.cons (Fu.S.ok a2) (Fu.S.cons (Fu.S.bin fAdd (Fu.S.cut (Fu.S.ok a3) Fu.S.nop (Fu.S.part (Fu.S.un fNeg (Fu.S.ok (.int 1))))) (Fu.S.tup (Fu.S.cons (Fu.S.tup (Fu.S.cons (Fu.S.ok (.int 0)) (Fu.S.cons (Fu.S.ok (.int 0)) (Fu.S.cons (Fu.S.ok (.str "0")) Fu.S.nil)))) Fu.S.nil))) Fu.S.nil))) Fu.S.nil))))))))))))).seq fun x7 => Fu.loop (B__law_forms_told_0 a0 a1) x7 ()).seq fun z5 => ((Fu.O.ofP (Fu.S.ok .non)).seq fun z8 => ((Fu.tryO ((Fu.O.ofP (Fu.S.call (Fu.ap1 F_copy_hours) (Fu.S.cons (Fu.S.tup (Fu.S.cons (Fu.S.ok a2) (Fu.S.cons (Fu.S.bin fAdd (Fu.S.cut (Fu.S.ok a3) Fu.S.nop (Fu.S.part (Fu.S.un fNeg (Fu.S.ok (.int 1))))) (Fu.S.tup (Fu.S.cons (Fu.S.tup (Fu.S.cons (Fu.S.ok (.int 0)) (Fu.S.cons (Fu.S.ok (.int 0)) Fu.S.nil))) Fu.S.nil))) Fu.S.nil))) Fu.S.nil))).seq fun z10 => .nx z8) (fun e11 => (Fu.hdO T "KeysError" e11 ((Fu.O.ofP (Fu.S.ok e11)).seq fun z12 => .nx z12) (.err e11)))).seq fun z9 => (Fu.retP (fun x => x) (Fu.S.call (Fu.ap1 F__law_is_case) (Fu.S.cons (Fu.S.ok z9) Fu.S.nil)))))))
theorem y__law_forms_told (a0 a1 a2 a3 : Py.D) : Fu.CallOk (c__law_forms_told [.v a0, .v a1, .v a2, .v a3]) (F__law_forms_told a0 a1 a2 a3) (Fu.uns [a0, a1, a2, a3]) := Fu.fnD (xs := [a0, a1, a2, a3]) (l := [.un, .un, .un, .pl]) (n := 8) (Q := fun _ => Fu.anys 8) rfl (by simp [Fu.PlainL]) (Fu.st_seq (Fu.st_ifP (Q := fun (z1 : Unit) => [.v a0, .v a1, .v a2, .v a3, .un, .un, .un, .pl]) (Fu.x_tst (Fu.x_bin (Fu.x_hold (Fu.v_call z_is_copy (Fu.a_val (Fu.x_v 0 (fun _ => rfl)) (Fu.a_val (Fu.x_v 1 (fun _ => rfl)) (Fu.a_val (Fu.x_hold (Fu.v_n (Fu.n_lst (Fu.x_cons (Fu.x_v 2 (fun _ => rfl)) (Fu.x_cons (Fu.x_hold (Fu.v_n (Fu.n_lc (Q := fun _ (z2 : Py.D) => [.v a0, .v a1, .v a2, .v a3, .un, .un, .un, .w z2]) (Fu.x_items (Fu.x_v 3 (fun _ => rfl))) (fun _ => rfl) (fun _ _ => rfl) (fun _ _ => rfl) (fun _ => (Fu.tg_nm rfl)) (fun z2 => Fu.EX.ok) (fun z2 => (Fu.x_cal (Fu.x_cons (Fu.x_w 7 (fun _ => rfl)) Fu.x_nil))) (fun _ _ v hv => by first | (simp only [List.mem_cons, List.mem_nil_iff, or_false] at hv; subst hv; rfl)) (fun _ _ => Fu.LE.r)))) Fu.x_nil))))) Fu.a_nil))) (fun _ => (Fu.LE.anyN rfl)))) Fu.x_c)) (Fu.st_retP (Fu.v_x Fu.x_c) (fun _ _ h => h) (fun _ => (Fu.LE.anyN rfl))) (Fu.st_next Fu.LE.r)) fun z1 => (Fu.st_seq (Fu.st_forP (L := fun (s3 : Unit) => [.v a0, .v a1, .v a2, .v a3, .un, .un, .un, .pl]) (Qg := fun (s3 : Unit) (z4 : Py.D) => [.v a0, .v a1, .v a2, .v a3, .w z4, .un, .un, .pl]) (Fu.x_items (Fu.x_hold (Fu.v_n (Fu.n_lst (Fu.x_cons (Fu.x_tup (Fu.x_cons Fu.x_c (Fu.x_cons (Fu.x_v 3 (fun _ => rfl)) Fu.x_nil))) (Fu.x_cons (Fu.x_tup (Fu.x_cons Fu.x_c (Fu.x_cons (Fu.x_v 3 (fun _ => rfl)) Fu.x_nil))) (Fu.x_cons (Fu.x_tup (Fu.x_cons (Fu.x_v 2 (fun _ => rfl)) Fu.x_nil)) (Fu.x_cons (Fu.x_tup (Fu.x_cons (Fu.x_v 2 (fun _ => rfl)) (Fu.x_cons (Fu.x_v 3 (fun _ => rfl)) (Fu.x_cons Fu.x_c Fu.x_nil)))) (Fu.x_cons (Fu.x_tup (Fu.x_cons (Fu.x_v 2 (fun _ => rfl)) (Fu.x_cons Fu.x_c Fu.x_nil))) (Fu.x_cons (Fu.x_v 3 (fun _ => rfl)) (Fu.x_cons Fu.x_c (Fu.x_cons (Fu.x_tup (Fu.x_cons (Fu.x_v 2 (fun _ => rfl)) (Fu.x_cons (Fu.x_bin (Fu.x_cut (Fu.x_v 3 (fun _ => rfl)) Fu.x_nop (Fu.x_part (Fu.x_un Fu.x_c))) (Fu.x_tup (Fu.x_cons (Fu.x_tup (Fu.x_cons Fu.x_c (Fu.x_cons Fu.x_c Fu.x_nil))) Fu.x_nil))) Fu.x_nil))) (Fu.x_cons (Fu.x_tup (Fu.x_cons (Fu.x_v 2 (fun _ => rfl)) (Fu.x_cons (Fu.x_bin (Fu.x_cut (Fu.x_v 3 (fun _ => rfl)) Fu.x_nop (Fu.x_part (Fu.x_un Fu.x_c))) (Fu.x_tup (Fu.x_cons (Fu.x_tup (Fu.x_cons Fu.x_c (Fu.x_cons Fu.x_c (Fu.x_cons Fu.x_c Fu.x_nil)))) Fu.x_nil))) Fu.x_nil))) Fu.x_nil))))))))))))) Fu.LE.r (fun s3 => (Fu.tg_nm rfl)) (fun s3 z4 => (Fu.st_ifP (Q := fun (s3 : Unit) => [.v a0, .v a1, .v a2, .v a3, .un, .un, .un, .pl]) (Fu.x_tst (Fu.x_bin (Fu.x_hold (Fu.v_call z_is_copy (Fu.a_val (Fu.x_v 0 (fun _ => rfl)) (Fu.a_val (Fu.x_v 1 (fun _ => rfl)) (Fu.a_val (Fu.x_w 4 (fun _ => rfl)) Fu.a_nil))) (fun _ => (Fu.LE.anyN rfl)))) Fu.x_c)) (Fu.st_retP (Fu.v_x Fu.x_c) (fun _ _ h => h) (fun _ => (Fu.LE.anyN rfl))) (Fu.st_next (Fu.LE.c Fu.PtLE.r (Fu.LE.c Fu.PtLE.r (Fu.LE.c Fu.PtLE.r (Fu.LE.c Fu.PtLE.r (Fu.LE.c Fu.PtLE.wu (Fu.LE.c Fu.PtLE.r (Fu.LE.c Fu.PtLE.r (Fu.LE.c Fu.PtLE.r Fu.LE.n)))))))))))) fun z5 => (Fu.st_seq (Fu.st_setP (Fu.v_x Fu.x_c) rfl) fun z8 => (Fu.st_seq (Fu.st_try (Q := fun (z9 : Py.D) => [.v a0, .v a1, .v a2, .v a3, .un, .v z9, .un, .pl]) (pe := [.v a0, .v a1, .v a2, .v a3, .un, .v z8, .un, .pl]) (Fu.st_end (Fu.st_dropP (Fu.v_call z_copy_hours (Fu.a_val (Fu.x_tup (Fu.x_cons (Fu.x_v 2 (fun _ => rfl)) (Fu.x_cons (Fu.x_bin (Fu.x_cut (Fu.x_v 3 (fun _ => rfl)) Fu.x_nop (Fu.x_part (Fu.x_un Fu.x_c))) (Fu.x_tup (Fu.x_cons (Fu.x_tup (Fu.x_cons Fu.x_c (Fu.x_cons Fu.x_c Fu.x_nil))) Fu.x_nil))) Fu.x_nil))) Fu.a_nil) (fun _ => Fu.LE.r))) (fun z10 => Fu.LE.r)) (Fu.hd_named (Q' := fun (z9 : Py.D) => [.v a0, .v a1, .v a2, .v a3, .un, .v z9, .un, .pl]) rfl (fun e11 => (Fu.st_end (Fu.st_setP (Fu.v_x (Fu.x_w 6 (fun _ => rfl))) rfl) (fun z12 => (Fu.LE.c Fu.PtLE.r (Fu.LE.c Fu.PtLE.r (Fu.LE.c Fu.PtLE.r (Fu.LE.c Fu.PtLE.r (Fu.LE.c Fu.PtLE.r (Fu.LE.c Fu.PtLE.r (Fu.LE.c Fu.PtLE.wu (Fu.LE.c Fu.PtLE.r Fu.LE.n))))))))))) (fun _ => rfl) (fun _ => Fu.LE.r) (Fu.hd_nil (Fu.LE.anyN rfl)))) fun z9 => (Fu.st_retP (Fu.v_call z__law_is_case (Fu.a_val (Fu.x_v 5 (fun _ => rfl)) Fu.a_nil) (fun _ => (Fu.LE.anyN rfl))) (fun _ _ h => h) (fun _ => (Fu.LE.anyN rfl))))))) (fun _ => rfl)
theorem z__law_forms_told : Fu.Z c__law_forms_told (Fu.ap4 F__law_forms_told) := Fu.z4 y__law_forms_told
def B__law_late_told_0 (a0 : Py.D) (a1 : Py.D) (z6 : Py.D) : (Unit) → Py.D → Fu.O (Py.D) (Unit) (Unit) := fun (s9 : Unit) x12 => (Fu.O.ofO (some x12)).seq fun z10 => (Fu.iteP (Fu.S.tst (Fu.S.bin fIsNot (Fu.S.call (Fu.ap4 F_shows_too_late) (Fu.S.cons (Fu.S.ok a0) (Fu.S.cons (Fu.S.ok a1) (Fu.S.cons (Fu.S.ok z6) (Fu.S.cons (Fu.S.ok z10) Fu.S.nil))))) (Fu.S.ok (.bl false)))) (Fu.retP (fun x => x) (Fu.S.ok (.bl false))) (.nx ()))
def F__law_late_told (a0 a1 a2 a3 : Py.D) : Fu.R (Py.D) := Fu.fin (β := Unit) ((Fu.O.ofP (Fu.S.cal fSumA (Fu.S.cons (Fu.S.toL (Fu.S.lc (Fu.S.items (Fu.S.ok a0)) some (fun z2 => (Fu.S.ok true)) (fun z2 => (Fu.S.bin fAdd (Fu.S.bin fIx (Fu.S.ok z2) (Fu.S.ok (.int 0))) (Fu.S.bin fIx (Fu.S.ok z2) (Fu.S.ok (.int 2))))))) Fu.S.nil))).seq fun z1 => ((Fu.O.ofP (Fu.S.call (Fu.ap2 F__law_sums) (Fu.S.cons (Fu.S.ok a0) (Fu.S.cons (Fu.S.ok a1) Fu.S.nil)))).seq fun z3 => ((Fu.iteP (Fu.S.or (Fu.S.tst (Fu.S.bin fIsNot (Fu.S.call (Fu.ap3 F_too_late_paper) (Fu.S.cons (Fu.S.ok a0) (Fu.S.cons (Fu.S.ok a1) (Fu.S.cons (Fu.S.ok a2) Fu.S.nil)))) (Fu.S.ok .non))) (Fu.S.tst (Fu.S.bin fIsNot (Fu.S.call (Fu.ap3 F_too_late_paper) (Fu.S.cons (Fu.S.ok a0) (Fu.S.cons (Fu.S.ok a1) (Fu.S.cons (Fu.S.ok (.int 0)) Fu.S.nil)))) (Fu.S.ok .non)))) (Fu.retP (fun x => x) (Fu.S.ok (.bl false))) (.nx ())).seq fun z4 => ((Fu.iteP (Fu.S.tst (Fu.S.bin fIsNot (Fu.S.call (Fu.ap4 F_shows_too_late) (Fu.S.cons (Fu.S.ok a0) (Fu.S.cons (Fu.S.ok a1) (Fu.S.cons (Fu.S.ok a2) (Fu.S.cons (Fu.S.tup (Fu.S.cons (Fu.S.ok z1) (Fu.S.cons (Fu.S.ok z3) Fu.S.nil))) Fu.S.nil))))) (Fu.S.ok (.bl false)))) (Fu.retP (fun x => x) (Fu.S.ok (.bl false))) (.nx ())).seq fun z5 => ((Fu.O.ofP (Fu.S.bin fAdd (Fu.S.bin fAdd (Fu.S.ok a2) (Fu.S.ok (.int 1))) (Fu.S.ok a3))).seq fun z6 => ((Fu.iteP (Fu.S.or (Fu.S.tst (Fu.S.bin fIsNot (Fu.S.call (Fu.ap4 F_shows_too_late) (Fu.S.cons (Fu.S.ok a0) (Fu.S.cons (Fu.S.ok a1) (Fu.S.cons (Fu.S.ok z6) (Fu.S.cons (Fu.S.tup (Fu.S.cons (Fu.S.ok z1) (Fu.S.cons (Fu.S.ok z3) Fu.S.nil))) Fu.S.nil))))) (Fu.S.ok (.bl true)))) (Fu.S.tst (Fu.S.bin fIsNot (Fu.S.call (Fu.ap4 F_shows_too_late) (Fu.S.cons (Fu.S.ok a0) (Fu.S.cons (Fu.S.ok a1) (Fu.S.cons (Fu.S.ok z6) (Fu.S.cons (Fu.S.toL (Fu.S.lst (Fu.S.cons (Fu.S.ok z1) (Fu.S.cons (Fu.S.cal fList (Fu.S.cons (Fu.S.ok z3) Fu.S.nil)) Fu.S.nil)))) Fu.S.nil))))) (Fu.S.ok (.bl true))))) (Fu.retP (fun x => x) (Fu.S.ok (.bl false))) (.nx ())).seq fun z7 => ((Fu.O.ofP (Fu.S.lst (Fu.S.cons (Fu.S.tup (Fu.S.cons (Fu.S.bin fAdd (Fu.S.ok z1) (Fu.S.ok (.int 1))) (Fu.S.cons (Fu.S.ok z3) Fu.S.nil))) (Fu.S.cons (Fu.S.tup (Fu.S.cons (Fu.S.bin fSub (Fu.S.ok z1) (Fu.S.ok (.int 1))) (Fu.S.cons (Fu.S.ok z3) Fu.S.nil))) (Fu.S.cons (Fu.S.tup (Fu.S.cons (Fu.S.ok z1) (Fu.S.cons (Fu.S.bin fAdd (Fu.S.cut (Fu.S.ok z3) Fu.S.nop (Fu.S.part (Fu.S.un fNeg (Fu.S.ok (.int 1))))) (Fu.S.tup (Fu.S.cons (Fu.S.bin fSub (Fu.S.bin fIx (Fu.S.ok z3) (Fu.S.un fNeg (Fu.S.ok (.int 1)))) (Fu.S.ok (.int 1))) Fu.S.nil))) Fu.S.nil))) (Fu.S.cons (Fu.S.tup (Fu.S.cons (Fu.S.bin fSub (Fu.S.ok z1) (Fu.S.ok (.int 1))) (Fu.S.cons (Fu.S.bin fAdd (Fu.S.cut (Fu.S.ok z3) Fu.S.nop (Fu.S.part (Fu.S.un fNeg (Fu.S.ok (.int 1))))) (Fu.S.tup (Fu.S.cons (Fu.S.bin fAdd (Fu.S.bin fIx (Fu.S.ok z3) (Fu.S.un fNeg (Fu.S.ok (.int 1)))) (Fu.S.ok (.int 1))) Fu.S.nil))) Fu.S.nil))) (Fu.S.cons (Fu.S.tup (Fu.S.cons (Fu.S.ok z1) (Fu.S.cons (Fu.S.cut (Fu.S.ok z3) Fu.S.nop (Fu.S.part (Fu.S.un fNeg (Fu.S.ok (.int 1))))) Fu.S.nil))) (Fu.S.cons (Fu.S.tup (Fu.S.cons (Fu.S.ok z1) (Fu.S.cons (Fu.S.bin fAdd (Fu.S.ok z3) (Fu.S.tup (Fu.S.cons (Fu.S.ok (.int 0)) Fu.S.nil))) Fu.S.nil))) (Fu.S.cons (Fu.S.tup (Fu.S.cons (Fu.S.ok z1) Fu.S.nil)) (Fu.S.cons (Fu.S.tup (Fu.S.cons (Fu.S.ok z1) (Fu.S.cons (Fu.S.ok (.int 0)) Fu.S.nil))) (Fu.S.cons (Fu.S.ok z1) (Fu.S.cons (Fu.S.tup (Fu.S.cons (Fu.S.cal fStr (Fu.S.cons (Fu.S.ok z1) Fu.S.nil)) (Fu.S.cons (Fu.S.ok z3) Fu.S.nil))) Fu.S.nil)))))))))))).seq fun z8 => (((Fu.O.ofP (Fu.S.items (Fu.S.ok (.lst z8)))).seq fun x13 => Fu.loop (B__law_late_told_0 a0 a1 z6) x13 ()).seq fun z11 => ((Fu.O.ofP (Fu.S.call (Fu.ap3 F_too_late_paper) (Fu.S.cons (Fu.S.ok a0) (Fu.S.cons (Fu.S.ok a1) (Fu.S.cons (Fu.S.ok z6) Fu.S.nil))))).seq fun z14 => ((Fu.iteP (Fu.S.or (Fu.S.not (Fu.S.tru (Fu.S.cal (fIs T) (Fu.S.cons (Fu.S.ok z14) (Fu.S.cons (Fu.S.ok (.ty .tup)) Fu.S.nil))))) (Fu.S.or (Fu.S.tst (Fu.S.bin fNe (Fu.S.cal fLen (Fu.S.cons (Fu.S.ok z14) Fu.S.nil)) (Fu.S.ok (.int 2)))) (Fu.S.not (Fu.S.tru (Fu.S.call (Fu.ap1 F__law_is_int) (Fu.S.cons (Fu.S.bin fIx (Fu.S.ok z14) (Fu.S.ok (.int 0))) Fu.S.nil)))))) (Fu.retP (fun x => x) (Fu.S.ok (.bl false))) (.nx ())).seq fun z15 => (Fu.retP (fun x => x) (Fu.S.andV (Fu.S.bin fEq (Fu.S.bin fIx (Fu.S.ok z14) (Fu.S.ok (.int 0))) (Fu.S.ok z1)) (Fu.S.call (Fu.ap2 F__law_is_row) (Fu.S.cons (Fu.S.bin fIx (Fu.S.ok z14) (Fu.S.ok (.int 1))) (Fu.S.cons (Fu.S.ok z3) Fu.S.nil)))))))))))))))
theorem y__law_late_told (a0 a1 a2 a3 : Py.D) : Fu.CallOk (c__law_late_told [.v a0, .v a1, .v a2, .v a3]) (F__law_late_told a0 a1 a2 a3) (Fu.uns [a0, a1, a2, a3]) := Fu.fnD (xs := [a0, a1, a2, a3]) (l := [.un, .un, .un, .un, .un, .un, .pl]) (n := 11) (Q := fun _ => Fu.anys 11) rfl (by simp [Fu.PlainL]) (Fu.st_seq (Fu.st_setP (Fu.v_x (Fu.x_cal (Fu.x_cons (Fu.x_hold (Fu.v_n (Fu.n_lc (Q := fun _ (z2 : Py.D) => [.v a0, .v a1, .v a2, .v a3, .un, .un, .un, .un, .un, .un, .w z2]) (Fu.x_items (Fu.x_v 0 (fun _ => rfl))) (fun _ => rfl) (fun _ _ => rfl) (fun _ _ => rfl) (fun _ => (Fu.tg_nm rfl)) (fun z2 => Fu.EX.ok) (fun z2 => (Fu.x_bin (Fu.x_bin (Fu.x_w 10 (fun _ => rfl)) Fu.x_c) (Fu.x_bin (Fu.x_w 10 (fun _ => rfl)) Fu.x_c))) (fun _ _ v hv => by first | (simp only [List.mem_cons, List.mem_nil_iff, or_false] at hv; subst hv; rfl)) (fun _ _ => Fu.LE.r)))) Fu.x_nil))) rfl) fun z1 => (Fu.st_seq (Fu.st_setP (Fu.v_call z__law_sums (Fu.a_val (Fu.x_v 0 (fun _ => rfl)) (Fu.a_val (Fu.x_v 1 (fun _ => rfl)) Fu.a_nil)) (fun _ => (Fu.LE.anyN rfl))) rfl) fun z3 => (Fu.st_seq (Fu.st_ifP (Q := fun (z4 : Unit) => [.v a0, .v a1, .v a2, .v a3, .v z1, .v z3, .un, .un, .un, .un, .pl]) (Fu.x_or (Fu.x_tst (Fu.x_bin (Fu.x_hold (Fu.v_call z_too_late_paper (Fu.a_val (Fu.x_v 0 (fun _ => rfl)) (Fu.a_val (Fu.x_v 1 (fun _ => rfl)) (Fu.a_val (Fu.x_v 2 (fun _ => rfl)) Fu.a_nil))) (fun _ => (Fu.LE.anyN rfl)))) Fu.x_c)) (Fu.x_tst (Fu.x_bin (Fu.x_hold (Fu.v_call z_too_late_paper (Fu.a_val (Fu.x_v 0 (fun _ => rfl)) (Fu.a_val (Fu.x_v 1 (fun _ => rfl)) (Fu.a_val Fu.x_c Fu.a_nil))) (fun _ => (Fu.LE.anyN rfl)))) Fu.x_c))) (Fu.st_retP (Fu.v_x Fu.x_c) (fun _ _ h => h) (fun _ => (Fu.LE.anyN rfl))) (Fu.st_next Fu.LE.r)) fun z4 => (Fu.st_seq (Fu.st_ifP (Q := fun (z5 : Unit) => [.v a0, .v a1, .v a2, .v a3, .v z1, .v z3, .un, .un, .un, .un, .pl]) (Fu.x_tst (Fu.x_bin (Fu.x_hold (Fu.v_call z_shows_too_late (Fu.a_val (Fu.x_v 0 (fun _ => rfl)) (Fu.a_val (Fu.x_v 1 (fun _ => rfl)) (Fu.a_val (Fu.x_v 2 (fun _ => rfl)) (Fu.a_val (Fu.x_tup (Fu.x_cons (Fu.x_v 4 (fun _ => rfl)) (Fu.x_cons (Fu.x_v 5 (fun _ => rfl)) Fu.x_nil))) Fu.a_nil)))) (fun _ => (Fu.LE.anyN rfl)))) Fu.x_c)) (Fu.st_retP (Fu.v_x Fu.x_c) (fun _ _ h => h) (fun _ => (Fu.LE.anyN rfl))) (Fu.st_next Fu.LE.r)) fun z5 => (Fu.st_seq (Fu.st_setP (Fu.v_x (Fu.x_bin (Fu.x_bin (Fu.x_v 2 (fun _ => rfl)) Fu.x_c) (Fu.x_v 3 (fun _ => rfl)))) rfl) fun z6 => (Fu.st_seq (Fu.st_ifP (Q := fun (z7 : Unit) => [.v a0, .v a1, .v a2, .v a3, .v z1, .v z3, .v z6, .un, .un, .un, .pl]) (Fu.x_or (Fu.x_tst (Fu.x_bin (Fu.x_hold (Fu.v_call z_shows_too_late (Fu.a_val (Fu.x_v 0 (fun _ => rfl)) (Fu.a_val (Fu.x_v 1 (fun _ => rfl)) (Fu.a_val (Fu.x_v 6 (fun _ => rfl)) (Fu.a_val (Fu.x_tup (Fu.x_cons (Fu.x_v 4 (fun _ => rfl)) (Fu.x_cons (Fu.x_v 5 (fun _ => rfl)) Fu.x_nil))) Fu.a_nil)))) (fun _ => (Fu.LE.anyN rfl)))) Fu.x_c)) (Fu.x_tst (Fu.x_bin (Fu.x_hold (Fu.v_call z_shows_too_late (Fu.a_val (Fu.x_v 0 (fun _ => rfl)) (Fu.a_val (Fu.x_v 1 (fun _ => rfl)) (Fu.a_val (Fu.x_v 6 (fun _ => rfl)) (Fu.a_val (Fu.x_hold (Fu.v_n (Fu.n_lst (Fu.x_cons (Fu.x_v 4 (fun _ => rfl)) (Fu.x_cons (Fu.x_cal (Fu.x_cons (Fu.x_v 5 (fun _ => rfl)) Fu.x_nil)) Fu.x_nil))))) Fu.a_nil)))) (fun _ => (Fu.LE.anyN rfl)))) Fu.x_c))) (Fu.st_retP (Fu.v_x Fu.x_c) (fun _ _ h => h) (fun _ => (Fu.LE.anyN rfl))) (Fu.st_next Fu.LE.r)) fun z7 => (Fu.st_seq (Fu.st_setN (Fu.n_lst (Fu.x_cons (Fu.x_tup (Fu.x_cons (Fu.x_bin (Fu.x_v 4 (fun _ => rfl)) Fu.x_c) (Fu.x_cons (Fu.x_v 5 (fun _ => rfl)) Fu.x_nil))) (Fu.x_cons (Fu.x_tup (Fu.x_cons (Fu.x_bin (Fu.x_v 4 (fun _ => rfl)) Fu.x_c) (Fu.x_cons (Fu.x_v 5 (fun _ => rfl)) Fu.x_nil))) (Fu.x_cons (Fu.x_tup (Fu.x_cons (Fu.x_v 4 (fun _ => rfl)) (Fu.x_cons (Fu.x_bin (Fu.x_cut (Fu.x_v 5 (fun _ => rfl)) Fu.x_nop (Fu.x_part (Fu.x_un Fu.x_c))) (Fu.x_tup (Fu.x_cons (Fu.x_bin (Fu.x_bin (Fu.x_v 5 (fun _ => rfl)) (Fu.x_un Fu.x_c)) Fu.x_c) Fu.x_nil))) Fu.x_nil))) (Fu.x_cons (Fu.x_tup (Fu.x_cons (Fu.x_bin (Fu.x_v 4 (fun _ => rfl)) Fu.x_c) (Fu.x_cons (Fu.x_bin (Fu.x_cut (Fu.x_v 5 (fun _ => rfl)) Fu.x_nop (Fu.x_part (Fu.x_un Fu.x_c))) (Fu.x_tup (Fu.x_cons (Fu.x_bin (Fu.x_bin (Fu.x_v 5 (fun _ => rfl)) (Fu.x_un Fu.x_c)) Fu.x_c) Fu.x_nil))) Fu.x_nil))) (Fu.x_cons (Fu.x_tup (Fu.x_cons (Fu.x_v 4 (fun _ => rfl)) (Fu.x_cons (Fu.x_cut (Fu.x_v 5 (fun _ => rfl)) Fu.x_nop (Fu.x_part (Fu.x_un Fu.x_c))) Fu.x_nil))) (Fu.x_cons (Fu.x_tup (Fu.x_cons (Fu.x_v 4 (fun _ => rfl)) (Fu.x_cons (Fu.x_bin (Fu.x_v 5 (fun _ => rfl)) (Fu.x_tup (Fu.x_cons Fu.x_c Fu.x_nil))) Fu.x_nil))) (Fu.x_cons (Fu.x_tup (Fu.x_cons (Fu.x_v 4 (fun _ => rfl)) Fu.x_nil)) (Fu.x_cons (Fu.x_tup (Fu.x_cons (Fu.x_v 4 (fun _ => rfl)) (Fu.x_cons Fu.x_c Fu.x_nil))) (Fu.x_cons (Fu.x_v 4 (fun _ => rfl)) (Fu.x_cons (Fu.x_tup (Fu.x_cons (Fu.x_cal (Fu.x_cons (Fu.x_v 4 (fun _ => rfl)) Fu.x_nil)) (Fu.x_cons (Fu.x_v 5 (fun _ => rfl)) Fu.x_nil))) Fu.x_nil))))))))))) rfl) fun z8 => (Fu.st_seq (Fu.st_wk (Fu.LE.c Fu.PtLE.r (Fu.LE.c Fu.PtLE.r (Fu.LE.c Fu.PtLE.r (Fu.LE.c Fu.PtLE.r (Fu.LE.c Fu.PtLE.r (Fu.LE.c Fu.PtLE.r (Fu.LE.c Fu.PtLE.r (Fu.LE.c Fu.PtLE.ov (Fu.LE.c Fu.PtLE.r (Fu.LE.c Fu.PtLE.r (Fu.LE.c Fu.PtLE.r Fu.LE.n))))))))))) (Fu.st_forP (L := fun (s9 : Unit) => [.v a0, .v a1, .v a2, .v a3, .v z1, .v z3, .v z6, .v (.lst z8), .un, .un, .pl]) (Qg := fun (s9 : Unit) (z10 : Py.D) => [.v a0, .v a1, .v a2, .v a3, .v z1, .v z3, .v z6, .v (.lst z8), .w z10, .un, .pl]) (Fu.x_items (Fu.x_v 7 (fun _ => rfl))) Fu.LE.r (fun s9 => (Fu.tg_nm rfl)) (fun s9 z10 => (Fu.st_ifP (Q := fun (s9 : Unit) => [.v a0, .v a1, .v a2, .v a3, .v z1, .v z3, .v z6, .v (.lst z8), .un, .un, .pl]) (Fu.x_tst (Fu.x_bin (Fu.x_hold (Fu.v_call z_shows_too_late (Fu.a_val (Fu.x_v 0 (fun _ => rfl)) (Fu.a_val (Fu.x_v 1 (fun _ => rfl)) (Fu.a_val (Fu.x_v 6 (fun _ => rfl)) (Fu.a_val (Fu.x_w 8 (fun _ => rfl)) Fu.a_nil)))) (fun _ => (Fu.LE.anyN rfl)))) Fu.x_c)) (Fu.st_retP (Fu.v_x Fu.x_c) (fun _ _ h => h) (fun _ => (Fu.LE.anyN rfl))) (Fu.st_next (Fu.LE.c Fu.PtLE.r (Fu.LE.c Fu.PtLE.r (Fu.LE.c Fu.PtLE.r (Fu.LE.c Fu.PtLE.r (Fu.LE.c Fu.PtLE.r (Fu.LE.c Fu.PtLE.r (Fu.LE.c Fu.PtLE.r (Fu.LE.c Fu.PtLE.r (Fu.LE.c Fu.PtLE.wu (Fu.LE.c Fu.PtLE.r (Fu.LE.c Fu.PtLE.r Fu.LE.n)))))))))))))))) fun z11 => (Fu.st_seq (Fu.st_setP (Fu.v_call z_too_late_paper (Fu.a_val (Fu.x_v 0 (fun _ => rfl)) (Fu.a_val (Fu.x_v 1 (fun _ => rfl)) (Fu.a_val (Fu.x_v 6 (fun _ => rfl)) Fu.a_nil))) (fun _ => (Fu.LE.anyN rfl))) rfl) fun z14 => (Fu.st_seq (Fu.st_ifP (Q := fun (z15 : Unit) => [.v a0, .v a1, .v a2, .v a3, .v z1, .v z3, .v z6, .v (.lst z8), .un, .v z14, .pl]) (Fu.x_or (Fu.x_not (Fu.x_tru (Fu.x_cal (Fu.x_cons (Fu.x_v 9 (fun _ => rfl)) (Fu.x_cons Fu.x_c Fu.x_nil))))) (Fu.x_or (Fu.x_tst (Fu.x_bin (Fu.x_cal (Fu.x_cons (Fu.x_v 9 (fun _ => rfl)) Fu.x_nil)) Fu.x_c)) (Fu.x_not (Fu.x_tru (Fu.x_hold (Fu.v_call z__law_is_int (Fu.a_val (Fu.x_bin (Fu.x_v 9 (fun _ => rfl)) Fu.x_c) Fu.a_nil) (fun _ => (Fu.LE.anyN rfl)))))))) (Fu.st_retP (Fu.v_x Fu.x_c) (fun _ _ h => h) (fun _ => (Fu.LE.anyN rfl))) (Fu.st_next Fu.LE.r)) fun z15 => (Fu.st_retP (Fu.v_x (Fu.x_andV (Fu.x_bin (Fu.x_bin (Fu.x_v 9 (fun _ => rfl)) Fu.x_c) (Fu.x_v 4 (fun _ => rfl))) (Fu.x_hold (Fu.v_call z__law_is_row (Fu.a_val (Fu.x_bin (Fu.x_v 9 (fun _ => rfl)) Fu.x_c) (Fu.a_val (Fu.x_v 5 (fun _ => rfl)) Fu.a_nil)) (fun _ => (Fu.LE.anyN rfl)))))) (fun _ _ h => h) (fun _ => (Fu.LE.anyN rfl))))))))))))) (fun _ => rfl)
theorem z__law_late_told : Fu.Z c__law_late_told (Fu.ap4 F__law_late_told) := Fu.z4 y__law_late_told
def B_law_0 (z2 : Py.D × List Py.D) (z4 : Py.D × List Py.D) (z6 : Py.D × List Py.D) : (Unit) → Py.D → Fu.O (Py.D) (Unit) (Unit) := fun (s22 : Unit) x25 => (Fu.O.ofO (some x25)).seq fun z23 => (Fu.iteP (Fu.S.not (Fu.S.tru (Fu.S.call (Fu.ap4 F__law_made) (Fu.S.cons (Fu.S.ok z2.1) (Fu.S.cons (Fu.S.ok z4.1) (Fu.S.cons (Fu.S.ok z6.1) (Fu.S.cons (Fu.S.ok z23) Fu.S.nil))))))) (Fu.retP (fun x => x) (Fu.S.ok (.bl false))) (.nx ()))
def F_law (a0 : Py.D) : Fu.R (Py.D) := Fu.fin (β := Unit) ((Fu.O.ofP (Fu.S.call (Fu.ap1 F__law_draws) (Fu.S.cons (Fu.S.ok a0) Fu.S.nil))).seq fun z1 => ((Fu.O.ofS (Fu.S.callM (Fu.am0 F__law_course) Fu.S.nil) z1).seq fun z2 => ((Fu.O.ofS (Fu.S.bin fIx (Fu.S.toL (Fu.S.lst (Fu.S.cons (Fu.S.ok (.int 3)) (Fu.S.cons (Fu.S.ok (.int 0)) (Fu.S.cons (Fu.S.ok (.int 1)) (Fu.S.cons (Fu.S.ok (.int 7)) (Fu.S.cons (Fu.S.ok (.int 5)) (Fu.S.cons (Fu.S.ok (.int 2)) Fu.S.nil)))))))) (Fu.S.callM (Fu.am1 F__law_take) (Fu.S.cons (Fu.S.ok (.int 6)) Fu.S.nil))) z2.2).seq fun z4 => ((Fu.O.ofS (Fu.S.bin fSub (Fu.S.callM (Fu.am1 F__law_take) (Fu.S.cons (Fu.S.ok (.int 20)) Fu.S.nil)) (Fu.S.ok (.int 5))) z4.2).seq fun z6 => ((Fu.O.ofS (Fu.S.callM (Fu.am1 F__law_take) (Fu.S.cons (Fu.S.cal fLen (Fu.S.cons (Fu.S.ok z2.1) Fu.S.nil)) Fu.S.nil)) z6.2).seq fun z8 => ((Fu.O.ofS (Fu.S.callM (Fu.am2 F__law_moments) (Fu.S.cons (Fu.S.ok z2.1) (Fu.S.cons (Fu.S.ok z4.1) Fu.S.nil))) z8.2).seq fun z10 => ((Fu.O.ofS (Fu.S.callM (Fu.am1 F__law_take) (Fu.S.cons (Fu.S.ok (.int 30)) Fu.S.nil)) z10.2).seq fun z12 => ((Fu.O.ofS (Fu.S.callM (Fu.am1 F__law_take) (Fu.S.cons (Fu.S.ok (.int 4)) Fu.S.nil)) z12.2).seq fun z14 => ((Fu.O.ofP (Fu.S.bin fAdd (Fu.S.cal fSumA (Fu.S.cons (Fu.S.toL (Fu.S.lc (Fu.S.items (Fu.S.ok z2.1)) some (fun z17 => (Fu.S.ok true)) (fun z17 => (Fu.S.bin fAdd (Fu.S.bin fIx (Fu.S.ok z17) (Fu.S.ok (.int 0))) (Fu.S.bin fIx (Fu.S.ok z17) (Fu.S.ok (.int 2))))))) Fu.S.nil)) (Fu.S.cal fSumA (Fu.S.cons (Fu.S.call (Fu.ap2 F__law_sums) (Fu.S.cons (Fu.S.ok z2.1) (Fu.S.cons (Fu.S.ok z4.1) Fu.S.nil))) Fu.S.nil)))).seq fun z16 => ((Fu.iteP (Fu.S.tst (Fu.S.bin fIsNot (Fu.S.call (Fu.ap3 F_is_copy) (Fu.S.cons (Fu.S.ok z2.1) (Fu.S.cons (Fu.S.ok z4.1) (Fu.S.cons (Fu.S.tup (Fu.S.cons (Fu.S.ok z6.1) (Fu.S.cons (Fu.S.ok z10.1) Fu.S.nil))) Fu.S.nil)))) (Fu.S.ok (.bl true)))) (Fu.retP (fun x => x) (Fu.S.ok (.bl false))) (.nx ())).seq fun z18 => ((Fu.iteP (Fu.S.not (Fu.S.tru (Fu.S.call (Fu.ap2 F__law_is_row) (Fu.S.cons (Fu.S.call (Fu.ap3 F_lives_along) (Fu.S.cons (Fu.S.ok z2.1) (Fu.S.cons (Fu.S.ok z4.1) (Fu.S.cons (Fu.S.tup (Fu.S.cons (Fu.S.ok z6.1) (Fu.S.cons (Fu.S.ok z10.1) Fu.S.nil))) Fu.S.nil)))) (Fu.S.cons (Fu.S.call (Fu.ap3 F__law_lives) (Fu.S.cons (Fu.S.ok z2.1) (Fu.S.cons (Fu.S.ok z4.1) (Fu.S.cons (Fu.S.ok z10.1) Fu.S.nil)))) Fu.S.nil))))) (Fu.retP (fun x => x) (Fu.S.ok (.bl false))) (.nx ())).seq fun z19 => ((Fu.iteP (Fu.S.not (Fu.S.tru (Fu.S.call (Fu.ap4 F__law_spoils_told) (Fu.S.cons (Fu.S.ok z2.1) (Fu.S.cons (Fu.S.ok z4.1) (Fu.S.cons (Fu.S.ok z6.1) (Fu.S.cons (Fu.S.toL (Fu.S.call (Fu.ap4 F__law_spoilt) (Fu.S.cons (Fu.S.ok z2.1) (Fu.S.cons (Fu.S.ok z4.1) (Fu.S.cons (Fu.S.ok z10.1) (Fu.S.cons (Fu.S.ok z8.1) Fu.S.nil)))))) Fu.S.nil))))))) (Fu.retP (fun x => x) (Fu.S.ok (.bl false))) (.nx ())).seq fun z20 => ((Fu.iteP (Fu.S.not (Fu.S.tru (Fu.S.call (Fu.ap4 F__law_forms_told) (Fu.S.cons (Fu.S.ok z2.1) (Fu.S.cons (Fu.S.ok z4.1) (Fu.S.cons (Fu.S.ok z6.1) (Fu.S.cons (Fu.S.ok z10.1) Fu.S.nil))))))) (Fu.retP (fun x => x) (Fu.S.ok (.bl false))) (.nx ())).seq fun z21 => (((Fu.O.ofP (Fu.S.items (Fu.S.tup (Fu.S.cons (Fu.S.ok (.int 0)) (Fu.S.cons (Fu.S.bin fMod (Fu.S.cal fInt (Fu.S.cons (Fu.S.ok z12.1) Fu.S.nil)) (Fu.S.bin fAdd (Fu.S.ok z16) (Fu.S.ok (.int 1)))) (Fu.S.cons (Fu.S.ok z16) Fu.S.nil)))))).seq fun x26 => Fu.loop (B_law_0 z2 z4 z6) x26 ()).seq fun z24 => ((Fu.iteP (Fu.S.or (Fu.S.tst (Fu.S.bin fIsNot (Fu.S.call (Fu.ap4 F_copy_of) (Fu.S.cons (Fu.S.ok z2.1) (Fu.S.cons (Fu.S.ok z4.1) (Fu.S.cons (Fu.S.ok z6.1) (Fu.S.cons (Fu.S.bin fAdd (Fu.S.ok z16) (Fu.S.ok (.int 1))) Fu.S.nil))))) (Fu.S.ok .non))) (Fu.S.tst (Fu.S.bin fIsNot (Fu.S.call (Fu.ap4 F_copy_of) (Fu.S.cons (Fu.S.ok z2.1) (Fu.S.cons (Fu.S.ok z4.1) (Fu.S.cons (Fu.S.ok z6.1) (Fu.S.cons (Fu.S.bin fAdd (Fu.S.bin fAdd (Fu.S.ok z16) (Fu.S.ok (.int 1))) (Fu.S.ok z14.1)) Fu.S.nil))))) (Fu.S.ok .non)))) (Fu.retP (fun x => x) (Fu.S.ok (.bl false))) (.nx ())).seq fun z27 => (Fu.retP (fun x => x) (Fu.S.call (Fu.ap4 F__law_late_told) (Fu.S.cons (Fu.S.ok z2.1) (Fu.S.cons (Fu.S.ok z4.1) (Fu.S.cons (Fu.S.ok z16) (Fu.S.cons (Fu.S.ok z14.1) Fu.S.nil)))))))))))))))))))))
theorem y_law (a0 : Py.D) : Fu.CallOk (c_law [.v a0]) (F_law a0) (Fu.uns [a0]) := Fu.fnD (xs := [a0]) (l := [.un, .un, .un, .un, .un, .un, .un, .un, .un, .un, .pl]) (n := 12) (Q := fun _ => Fu.anys 12) rfl (by simp [Fu.PlainL]) (Fu.st_seq (Fu.st_setN (Fu.n_call z__law_draws (Fu.a_val (Fu.x_v 0 (fun _ => rfl)) Fu.a_nil) (fun _ => (Fu.LE.anyN rfl))) rfl) fun z1 => (Fu.st_seq (Fu.st_setS (P := fun (t3 : List Py.D) => [.v a0, .o t3, .un, .un, .un, .un, .un, .un, .un, .un, .un, .pl]) (Fu.v_callM (Fu.lens_o (p := [.v a0, .un, .un, .un, .un, .un, .un, .un, .un, .un, .un, .pl]) (j := 1) (of_decide_eq_true rfl) : Fu.Lens (fun (t3 : List Py.D) => [.v a0, .o t3, .un, .un, .un, .un, .un, .un, .un, .un, .un, .pl]) 1) z__law_course Fu.a_nil) (fun _ => rfl)) fun z2 => (Fu.st_seq (Fu.st_setS (P := fun (t5 : List Py.D) => [.v a0, .o t5, .v z2.1, .un, .un, .un, .un, .un, .un, .un, .un, .pl]) (Fu.v_x (Fu.x_bin (Fu.x_hold (Fu.v_n (Fu.n_lst (Fu.x_cons Fu.x_c (Fu.x_cons Fu.x_c (Fu.x_cons Fu.x_c (Fu.x_cons Fu.x_c (Fu.x_cons Fu.x_c (Fu.x_cons Fu.x_c Fu.x_nil))))))))) (Fu.x_hold (Fu.v_callM (Fu.lens_o (p := [.v a0, .un, .v z2.1, .un, .un, .un, .un, .un, .un, .un, .un, .pl]) (j := 1) (of_decide_eq_true rfl) : Fu.Lens (fun (t5 : List Py.D) => [.v a0, .o t5, .v z2.1, .un, .un, .un, .un, .un, .un, .un, .un, .pl]) 1) z__law_take (Fu.a_val Fu.x_c Fu.a_nil))))) (fun _ => rfl)) fun z4 => (Fu.st_seq (Fu.st_setS (P := fun (t7 : List Py.D) => [.v a0, .o t7, .v z2.1, .v z4.1, .un, .un, .un, .un, .un, .un, .un, .pl]) (Fu.v_x (Fu.x_bin (Fu.x_hold (Fu.v_callM (Fu.lens_o (p := [.v a0, .un, .v z2.1, .v z4.1, .un, .un, .un, .un, .un, .un, .un, .pl]) (j := 1) (of_decide_eq_true rfl) : Fu.Lens (fun (t7 : List Py.D) => [.v a0, .o t7, .v z2.1, .v z4.1, .un, .un, .un, .un, .un, .un, .un, .pl]) 1) z__law_take (Fu.a_val Fu.x_c Fu.a_nil))) Fu.x_c)) (fun _ => rfl)) fun z6 => (Fu.st_seq (Fu.st_setS (P := fun (t9 : List Py.D) => [.v a0, .o t9, .v z2.1, .v z4.1, .v z6.1, .un, .un, .un, .un, .un, .un, .pl]) (Fu.v_callM (Fu.lens_o (p := [.v a0, .un, .v z2.1, .v z4.1, .v z6.1, .un, .un, .un, .un, .un, .un, .pl]) (j := 1) (of_decide_eq_true rfl) : Fu.Lens (fun (t9 : List Py.D) => [.v a0, .o t9, .v z2.1, .v z4.1, .v z6.1, .un, .un, .un, .un, .un, .un, .pl]) 1) z__law_take (Fu.a_val (Fu.x_cal (Fu.x_cons (Fu.x_v 2 (fun _ => rfl)) Fu.x_nil)) Fu.a_nil)) (fun _ => rfl)) fun z8 => (Fu.st_seq (Fu.st_setS (P := fun (t11 : List Py.D) => [.v a0, .o t11, .v z2.1, .v z4.1, .v z6.1, .v z8.1, .un, .un, .un, .un, .un, .pl]) (Fu.v_callM (Fu.lens_o (p := [.v a0, .un, .v z2.1, .v z4.1, .v z6.1, .v z8.1, .un, .un, .un, .un, .un, .pl]) (j := 1) (of_decide_eq_true rfl) : Fu.Lens (fun (t11 : List Py.D) => [.v a0, .o t11, .v z2.1, .v z4.1, .v z6.1, .v z8.1, .un, .un, .un, .un, .un, .pl]) 1) z__law_moments (Fu.a_val (Fu.x_v 2 (fun _ => rfl)) (Fu.a_val (Fu.x_v 3 (fun _ => rfl)) Fu.a_nil))) (fun _ => rfl)) fun z10 => (Fu.st_seq (Fu.st_setS (P := fun (t13 : List Py.D) => [.v a0, .o t13, .v z2.1, .v z4.1, .v z6.1, .v z8.1, .v z10.1, .un, .un, .un, .un, .pl]) (Fu.v_callM (Fu.lens_o (p := [.v a0, .un, .v z2.1, .v z4.1, .v z6.1, .v z8.1, .v z10.1, .un, .un, .un, .un, .pl]) (j := 1) (of_decide_eq_true rfl) : Fu.Lens (fun (t13 : List Py.D) => [.v a0, .o t13, .v z2.1, .v z4.1, .v z6.1, .v z8.1, .v z10.1, .un, .un, .un, .un, .pl]) 1) z__law_take (Fu.a_val Fu.x_c Fu.a_nil)) (fun _ => rfl)) fun z12 => (Fu.st_seq (Fu.st_setS (P := fun (t15 : List Py.D) => [.v a0, .o t15, .v z2.1, .v z4.1, .v z6.1, .v z8.1, .v z10.1, .v z12.1, .un, .un, .un, .pl]) (Fu.v_callM (Fu.lens_o (p := [.v a0, .un, .v z2.1, .v z4.1, .v z6.1, .v z8.1, .v z10.1, .v z12.1, .un, .un, .un, .pl]) (j := 1) (of_decide_eq_true rfl) : Fu.Lens (fun (t15 : List Py.D) => [.v a0, .o t15, .v z2.1, .v z4.1, .v z6.1, .v z8.1, .v z10.1, .v z12.1, .un, .un, .un, .pl]) 1) z__law_take (Fu.a_val Fu.x_c Fu.a_nil)) (fun _ => rfl)) fun z14 => (Fu.st_seq (Fu.st_setP (Fu.v_x (Fu.x_bin (Fu.x_cal (Fu.x_cons (Fu.x_hold (Fu.v_n (Fu.n_lc (Q := fun _ (z17 : Py.D) => [.v a0, .o z14.2, .v z2.1, .v z4.1, .v z6.1, .v z8.1, .v z10.1, .v z12.1, .v z14.1, .un, .un, .w z17]) (Fu.x_items (Fu.x_v 2 (fun _ => rfl))) (fun _ => rfl) (fun _ _ => rfl) (fun _ _ => rfl) (fun _ => (Fu.tg_nm rfl)) (fun z17 => Fu.EX.ok) (fun z17 => (Fu.x_bin (Fu.x_bin (Fu.x_w 11 (fun _ => rfl)) Fu.x_c) (Fu.x_bin (Fu.x_w 11 (fun _ => rfl)) Fu.x_c))) (fun _ _ v hv => by first | (simp only [List.mem_cons, List.mem_nil_iff, or_false] at hv; subst hv; rfl)) (fun _ _ => Fu.LE.r)))) Fu.x_nil)) (Fu.x_cal (Fu.x_cons (Fu.x_hold (Fu.v_call z__law_sums (Fu.a_val (Fu.x_v 2 (fun _ => rfl)) (Fu.a_val (Fu.x_v 3 (fun _ => rfl)) Fu.a_nil)) (fun _ => (Fu.LE.anyN rfl)))) Fu.x_nil)))) rfl) fun z16 => (Fu.st_seq (Fu.st_ifP (Q := fun (z18 : Unit) => [.v a0, .o z14.2, .v z2.1, .v z4.1, .v z6.1, .v z8.1, .v z10.1, .v z12.1, .v z14.1, .v z16, .un, .pl]) (Fu.x_tst (Fu.x_bin (Fu.x_hold (Fu.v_call z_is_copy (Fu.a_val (Fu.x_v 2 (fun _ => rfl)) (Fu.a_val (Fu.x_v 3 (fun _ => rfl)) (Fu.a_val (Fu.x_tup (Fu.x_cons (Fu.x_v 4 (fun _ => rfl)) (Fu.x_cons (Fu.x_v 6 (fun _ => rfl)) Fu.x_nil))) Fu.a_nil))) (fun _ => (Fu.LE.anyN rfl)))) Fu.x_c)) (Fu.st_retP (Fu.v_x Fu.x_c) (fun _ _ h => h) (fun _ => (Fu.LE.anyN rfl))) (Fu.st_next Fu.LE.r)) fun z18 => (Fu.st_seq (Fu.st_ifP (Q := fun (z19 : Unit) => [.v a0, .o z14.2, .v z2.1, .v z4.1, .v z6.1, .v z8.1, .v z10.1, .v z12.1, .v z14.1, .v z16, .un, .pl]) (Fu.x_not (Fu.x_tru (Fu.x_hold (Fu.v_call z__law_is_row (Fu.a_val (Fu.x_hold (Fu.v_call z_lives_along (Fu.a_val (Fu.x_v 2 (fun _ => rfl)) (Fu.a_val (Fu.x_v 3 (fun _ => rfl)) (Fu.a_val (Fu.x_tup (Fu.x_cons (Fu.x_v 4 (fun _ => rfl)) (Fu.x_cons (Fu.x_v 6 (fun _ => rfl)) Fu.x_nil))) Fu.a_nil))) (fun _ => (Fu.LE.anyN rfl)))) (Fu.a_val (Fu.x_hold (Fu.v_call z__law_lives (Fu.a_val (Fu.x_v 2 (fun _ => rfl)) (Fu.a_val (Fu.x_v 3 (fun _ => rfl)) (Fu.a_val (Fu.x_v 6 (fun _ => rfl)) Fu.a_nil))) (fun _ => (Fu.LE.anyN rfl)))) Fu.a_nil)) (fun _ => (Fu.LE.anyN rfl)))))) (Fu.st_retP (Fu.v_x Fu.x_c) (fun _ _ h => h) (fun _ => (Fu.LE.anyN rfl))) (Fu.st_next Fu.LE.r)) fun z19 => (Fu.st_seq (Fu.st_ifP (Q := fun (z20 : Unit) => [.v a0, .o z14.2, .v z2.1, .v z4.1, .v z6.1, .v z8.1, .v z10.1, .v z12.1, .v z14.1, .v z16, .un, .pl]) (Fu.x_not (Fu.x_tru (Fu.x_hold (Fu.v_call z__law_spoils_told (Fu.a_val (Fu.x_v 2 (fun _ => rfl)) (Fu.a_val (Fu.x_v 3 (fun _ => rfl)) (Fu.a_val (Fu.x_v 4 (fun _ => rfl)) (Fu.a_val (Fu.x_hold (Fu.v_n (Fu.n_call z__law_spoilt (Fu.a_val (Fu.x_v 2 (fun _ => rfl)) (Fu.a_val (Fu.x_v 3 (fun _ => rfl)) (Fu.a_val (Fu.x_v 6 (fun _ => rfl)) (Fu.a_val (Fu.x_v 5 (fun _ => rfl)) Fu.a_nil)))) (fun _ => (Fu.LE.anyN rfl))))) Fu.a_nil)))) (fun _ => (Fu.LE.anyN rfl)))))) (Fu.st_retP (Fu.v_x Fu.x_c) (fun _ _ h => h) (fun _ => (Fu.LE.anyN rfl))) (Fu.st_next Fu.LE.r)) fun z20 => (Fu.st_seq (Fu.st_ifP (Q := fun (z21 : Unit) => [.v a0, .o z14.2, .v z2.1, .v z4.1, .v z6.1, .v z8.1, .v z10.1, .v z12.1, .v z14.1, .v z16, .un, .pl]) (Fu.x_not (Fu.x_tru (Fu.x_hold (Fu.v_call z__law_forms_told (Fu.a_val (Fu.x_v 2 (fun _ => rfl)) (Fu.a_val (Fu.x_v 3 (fun _ => rfl)) (Fu.a_val (Fu.x_v 4 (fun _ => rfl)) (Fu.a_val (Fu.x_v 6 (fun _ => rfl)) Fu.a_nil)))) (fun _ => (Fu.LE.anyN rfl)))))) (Fu.st_retP (Fu.v_x Fu.x_c) (fun _ _ h => h) (fun _ => (Fu.LE.anyN rfl))) (Fu.st_next Fu.LE.r)) fun z21 => (Fu.st_seq (Fu.st_forP (L := fun (s22 : Unit) => [.v a0, .o z14.2, .v z2.1, .v z4.1, .v z6.1, .v z8.1, .v z10.1, .v z12.1, .v z14.1, .v z16, .un, .pl]) (Qg := fun (s22 : Unit) (z23 : Py.D) => [.v a0, .o z14.2, .v z2.1, .v z4.1, .v z6.1, .v z8.1, .v z10.1, .v z12.1, .v z14.1, .v z16, .w z23, .pl]) (Fu.x_items (Fu.x_tup (Fu.x_cons Fu.x_c (Fu.x_cons (Fu.x_bin (Fu.x_cal (Fu.x_cons (Fu.x_v 7 (fun _ => rfl)) Fu.x_nil)) (Fu.x_bin (Fu.x_v 9 (fun _ => rfl)) Fu.x_c)) (Fu.x_cons (Fu.x_v 9 (fun _ => rfl)) Fu.x_nil))))) Fu.LE.r (fun s22 => (Fu.tg_nm rfl)) (fun s22 z23 => (Fu.st_ifP (Q := fun (s22 : Unit) => [.v a0, .o z14.2, .v z2.1, .v z4.1, .v z6.1, .v z8.1, .v z10.1, .v z12.1, .v z14.1, .v z16, .un, .pl]) (Fu.x_not (Fu.x_tru (Fu.x_hold (Fu.v_call z__law_made (Fu.a_val (Fu.x_v 2 (fun _ => rfl)) (Fu.a_val (Fu.x_v 3 (fun _ => rfl)) (Fu.a_val (Fu.x_v 4 (fun _ => rfl)) (Fu.a_val (Fu.x_w 10 (fun _ => rfl)) Fu.a_nil)))) (fun _ => (Fu.LE.anyN rfl)))))) (Fu.st_retP (Fu.v_x Fu.x_c) (fun _ _ h => h) (fun _ => (Fu.LE.anyN rfl))) (Fu.st_next (Fu.LE.c Fu.PtLE.r (Fu.LE.c Fu.PtLE.r (Fu.LE.c Fu.PtLE.r (Fu.LE.c Fu.PtLE.r (Fu.LE.c Fu.PtLE.r (Fu.LE.c Fu.PtLE.r (Fu.LE.c Fu.PtLE.r (Fu.LE.c Fu.PtLE.r (Fu.LE.c Fu.PtLE.r (Fu.LE.c Fu.PtLE.r (Fu.LE.c Fu.PtLE.wu (Fu.LE.c Fu.PtLE.r Fu.LE.n)))))))))))))))) fun z24 => (Fu.st_seq (Fu.st_ifP (Q := fun (z27 : Unit) => [.v a0, .o z14.2, .v z2.1, .v z4.1, .v z6.1, .v z8.1, .v z10.1, .v z12.1, .v z14.1, .v z16, .un, .pl]) (Fu.x_or (Fu.x_tst (Fu.x_bin (Fu.x_hold (Fu.v_call z_copy_of (Fu.a_val (Fu.x_v 2 (fun _ => rfl)) (Fu.a_val (Fu.x_v 3 (fun _ => rfl)) (Fu.a_val (Fu.x_v 4 (fun _ => rfl)) (Fu.a_val (Fu.x_bin (Fu.x_v 9 (fun _ => rfl)) Fu.x_c) Fu.a_nil)))) (fun _ => (Fu.LE.anyN rfl)))) Fu.x_c)) (Fu.x_tst (Fu.x_bin (Fu.x_hold (Fu.v_call z_copy_of (Fu.a_val (Fu.x_v 2 (fun _ => rfl)) (Fu.a_val (Fu.x_v 3 (fun _ => rfl)) (Fu.a_val (Fu.x_v 4 (fun _ => rfl)) (Fu.a_val (Fu.x_bin (Fu.x_bin (Fu.x_v 9 (fun _ => rfl)) Fu.x_c) (Fu.x_v 8 (fun _ => rfl))) Fu.a_nil)))) (fun _ => (Fu.LE.anyN rfl)))) Fu.x_c))) (Fu.st_retP (Fu.v_x Fu.x_c) (fun _ _ h => h) (fun _ => (Fu.LE.anyN rfl))) (Fu.st_next Fu.LE.r)) fun z27 => (Fu.st_retP (Fu.v_call z__law_late_told (Fu.a_val (Fu.x_v 2 (fun _ => rfl)) (Fu.a_val (Fu.x_v 3 (fun _ => rfl)) (Fu.a_val (Fu.x_v 9 (fun _ => rfl)) (Fu.a_val (Fu.x_v 8 (fun _ => rfl)) Fu.a_nil)))) (fun _ => (Fu.LE.anyN rfl))) (fun _ _ h => h) (fun _ => (Fu.LE.anyN rfl)))))))))))))))))) (fun _ => rfl)
theorem z_law : Fu.Z c_law (Fu.ap1 F_law) := Fu.z1 y_law
end
end K06
end

section
set_option maxHeartbeats 400000
namespace K06
open Py PySem L2
open StM
theorem int1 (i : Int) : F_is_int (.int i) = .ok (.bl true) := rfl
theorem intB (i : Bool) : F_is_int (.bl i) = .ok (.bl false) := by cases i <;> rfl
theorem isl {ds : List D} : fIs T [.lst ds, .tup [.ty .tup, .ty .lst]] = some (.bl true) := rfl
theorem ist {ds : List D} : fIs T [.tup ds, .tup [.ty .tup, .ty .lst]] = some (.bl true) := rfl
theorem iss {x : Str} : fIs T [.str x, .ty .str] = some (.bl true) := rfl
theorem ist1 {ds : List D} : fIs T [.tup ds, .ty .tup] = some (.bl true) := rfl
theorem is_W {b way} : fIs T [W b way, .tup [.ty .tup, .ty .lst]] = some (.bl true) := by cases b <;> rfl
theorem wsp {d : D} {s : S} (h : isS d s) (o : s.ok) : F_wrong_store_part d = .ok .non := by
  obtain ⟨h1, h2, h3⟩ := o
  obtain ⟨sl, cap, er, an⟩ := s
  simp only at h1 h2 h3
  cases cap with
  | none => rcases h with rfl | rfl <;> simp [S.enc, S.encL, S.ds, capD, F_wrong_store_part, int1, Int.not_lt.mpr h1, Int.not_lt.mpr h3, isl, ist, iss, in_kd]
  | some c =>
    have h2 := h2 c rfl
    rcases h with rfl | rfl <;> simp [S.enc, S.encL, S.ds, capD, F_wrong_store_part, int1, Int.not_lt.mpr h1, Int.not_lt.mpr h2, Int.not_lt.mpr h3, isl, ist, iss, in_kd]
theorem wwp (b : Bool) (way : List S) (h : ∀ s ∈ way, s.ok) (hne : way ≠ []) : F_wrong_way_place (W b way) = .ok .non := by
  have hl : ¬ ((way.length : Int) = 0) := by have := List.length_pos_iff.mpr hne; omega
  simp [F_wrong_way_place, is_W, len_W, hl, hne, its_W]
  rw [Fu.loop_same]
  · simp
  · intro x hx
    obtain ⟨n, a, _, ha, rfl⟩ := Fu.mem_enumD hx
    simp [B_wrong_way_place_0, wsp (isS_e b a) (h a ha)]
theorem pw (b : Bool) (way : List S) (hl : way.length ≤ 1000) : F_plain_way (W b way) = .ok (W false way) := by
  simp [F_plain_way, its_W]
  rw [Fu.loop_app (eS b) (eS false) way [] (by simp; omega) fun s x _ h => by cases b <;> simp [B_plain_way_0, eS, S.enc, S.encL, h]]
  simp [W]
theorem cw (b : Bool) (way : List S) (h : Way way) : F_check_way (W b way) = .ok (W false way) := by
  simp [F_check_way, wwp b way h.ok h.ne, pw b way h.len]
theorem pg (way : List S) (hl : way.length ≤ 1000) : F_plain_groups (W false way) = .ok (.tup ((gr 0 0 way).map gD)) := by
  obtain ⟨s', h1, gs, st, rfl, hh⟩ := Fu.loop_en (f := B_plain_groups_0 (W false way)) (κ := Empty) (eS false) (fun as n s => ∃ (gs : List (Nat × Nat)) (st : Nat), s = (gs.map gD, .int (st : Nat)) ∧ n + as.length = way.length ∧ st ≤ n ∧ gs.length ≤ n ∧ gs ++ gr st n as = gr 0 0 way) way ([], .int 0) ⟨[], 0, rfl, by simp, by omega, by simp, rfl⟩ (by
    rintro a as n s ⟨gs, st, rfl, hn, hs, hg, hh⟩
    have hc : decide ((n : Int) = (way.length : Int) - 1) = as.isEmpty := by
      cases as with
      | nil => simp at hn ⊢; omega
      | cons x as => simp at hn ⊢; omega
    have hrg : fTupRg (st : Int) ((n : Int) + 1) = some (gD (st, n + 1 - st)) := by
      rw [tupRg (by omega) (by omega) (by omega) (by omega) (by omega)]
      rw [show ((n : Int) + 1 - (st : Int)).toNat = n + 1 - st by omega]; rfl
    have hgl : gs.length < 16777216 := by omega
    rw [show gr st n (a :: as) = if (a.anew || as.isEmpty) = true then (st, n + 1 - st) :: gr (n + 1) (n + 1) as else gr st (n + 1) as from by rw [gr]] at hh
    cases ha : a.anew with
    | true =>
      exact ⟨((gs ++ [(st, n + 1 - st)]).map gD, .int ((n + 1 : Nat) : Int)), .inl (by simp [B_plain_groups_0, eS, ix3, ha, eq_kd, hrg, hgl]), gs ++ [(st, n + 1 - st)], n + 1, rfl, by simp at hn; omega, by omega, by simp; omega, by rw [← hh]; simp [ha]⟩
    | false =>
      cases he : as.isEmpty with
      | true => exact ⟨((gs ++ [(st, n + 1 - st)]).map gD, .int ((n + 1 : Nat) : Int)), .inl (by rw [he] at hc; simp at hc; have hrg2 : fTupRg (st : Int) (way.length : Int) = some (gD (st, n + 1 - st)) := (by rw [show (way.length : Int) = (n : Int) + 1 by omega]; exact hrg); simp [B_plain_groups_0, eS, ix3, ha, eq_kd, hrg2, hgl, len_W, hc]), gs ++ [(st, n + 1 - st)], n + 1, rfl, by simp at hn; omega, by omega, by simp; omega, by rw [← hh]; simp [he]⟩
      | false => exact ⟨(gs.map gD, .int (st : Int)), .inl (by rw [he] at hc; simp at hc; simp [B_plain_groups_0, eS, ix3, ha, eq_kd, hrg, hgl, len_W, hc]), gs, st, rfl, by simp at hn; omega, by omega, by omega, by rw [← hh]; simp [he, ha]⟩)
  simp only [gr, List.append_nil] at hh
  simp [F_plain_groups, its_W, h1, hh.2.2.2]
theorem pc (way : List S) (hl : way.length ≤ 1000) : F_plain_caps (W false way) = .ok (.tup ((caps way).map capD)) := by
  have gl := gr_len way 0 0
  have L := Fu.loop_app (f := B_plain_caps_1 (W false way)) (κ := Empty) gD (fun p => capD (capF way p.1 p.2)) (gr 0 0 way) [] (by simp; omega) (by
    intro s p hp hs
    have hp := gr_le way 0 0 (by omega) p hp
    obtain ⟨s', h1, rfl⟩ := Fu.loop_R (f := B_plain_caps_0 (W false way)) (κ := List D) (p.1 : Nat) p.2 (fun k s => s = capD (capF way p.1 k)) (by
      rintro k s hk rfl
      obtain ⟨x, hx⟩ : ∃ x, way[p.1 + k]? = some x := ⟨_, List.getElem?_eq_getElem (by omega)⟩
      have hix : fIx (W false way) (.int ((p.1 : Int) + (k : Int))) = some x.enc := ixW way (p.1 + k) x hx
      refine ⟨_, .inl ?_, rfl⟩
      rw [capF_succ way p.1 k x hx]
      cases h1 : capF way p.1 k with
      | none => simp [B_plain_caps_0, hix, ix1, capD, addc]
      | some a => cases h2 : x.cap <;> simp [B_plain_caps_0, hix, ix1, h1, h2, capD, addc]) (.int 0) rfl
    simp [B_plain_caps_1, gD, h1, hs])
  simp [F_plain_caps, pg way hl, L, caps]
theorem pb (way : List S) : F_plain_base (W false way) = .ok (.int (base way)) := by
  simp [F_plain_base, its_W]
  rw [Fu.loop_sum (eS false) (fun s => s.slow + s.err) way 0 fun s x _ => by simp [B_plain_base_0, eS, ix0, ix2, Int.add_assoc]]
  simp [base]
theorem ls (way : List S) (life : Int) (hl : way.length ≤ 1000) : F_life_shares (W false way) (.int life) = .ok (.tup ((caps way).map fun c => .int (minC life c))) := by
  have cl := caps_len way
  simp [F_life_shares, pc way hl]
  rw [Fu.loop_app capD (fun c => .int (minC life c)) (caps way) [] (by simp; omega) fun s x _ h => by cases x <;> simp [B_life_shares_0, capD, minC, h]]
  simp
theorem pd (way : List S) (life : Int) (hl : way.length ≤ 1000) : F_plain_delay (W false way) (.int life) = .ok (.int (delay way life)) := by
  simp [F_plain_delay, pb, ls way life hl]
  rw [Fu.loop_sum (fun c => D.int (minC life c)) (fun c => minC life c) (caps way) (base way) fun s x _ => by simp [B_plain_delay_0]]
  simp [delay]
/-! numbers -/
theorem isli (i : Int) : fIs T [.int i, .tup [.ty .lst, .ty .tup]] = some (.bl false) := rfl
theorem islb (b : Bool) : fIs T [.bl b, .tup [.ty .lst, .ty .tup]] = some (.bl false) := rfl
theorem cn (n : Int) (h : 0 ≤ n) : F_check_number (.int n) (.int 0) = .ok (.int n) := by
  simp [F_check_number, int1, Int.not_lt.mpr h]
/-! what is refused -/
/-! ## plain_form -/
theorem isR1 (ds : List D) : fIs T [.tup ds, .tup [.ty .lst, .ty .tup]] = some (.bl true) := rfl
theorem isR2 (ds : List D) : fIs T [.lst ds, .tup [.ty .lst, .ty .tup]] = some (.bl true) := rfl
def pfm (s : List D × List D) : Fu.S Unit Bool := Fu.S.truO s.1
theorem pf_pop (work : List D) (d : D) : mPop (work ++ [d]) [] = some (d, work) := by simp [mPop]
theorem pf_push (work ds : List D) (h : work.length + ds.length ≤ 16777216) : (Fu.loop B_plain_form_0 ds work : Fu.O D (List D × List D) _) = .nx (work ++ ds) := by
  have := Fu.loop_app (f := B_plain_form_0) (κ := List D × List D) id id ds work h fun s x _ hs => by simp [B_plain_form_0, hs]
  simpa using this
theorem pf_row (work toks ds : List D) (d : D) (hd : d = .tup ds ∨ d = .lst ds) (h1 : work.length + ds.length ≤ 16777216) (h2 : toks.length < 16777216) : B_plain_form_1 (work ++ [d], toks) = .nx (work ++ ds, toks ++ [.tup [.int ds.length, .bl true]]) := by
  rcases hd with rfl | rfl <;> simp [B_plain_form_1, pf_pop, isR1, isR2, h2, pf_push work ds h1]
theorem pf_atom (work toks : List D) (d : D) (hd : fIs T [d, .tup [.ty .lst, .ty .tup]] = some (.bl false)) (h2 : toks.length < 16777216) : B_plain_form_1 (work ++ [d], toks) = .nx (work, toks ++ [.tup [d, .bl false]]) := by
  simp [B_plain_form_1, pf_pop, hd, h2]
theorem pf_m (work toks : List D) (d : D) : pfm (work ++ [d], toks) = Fu.S.ok true := by cases work <;> rfl
theorem pf_atom1 {κ : Type} (d : D) (e1 : Fu.sz d = 1) (e2 : Fu.tk d = [.tup [d, .bl false]]) (hd : fIs T [d, .tup [.ty .lst, .ty .tup]] = some (.bl false)) (n : Nat) (work toks : List D) (h2 : toks.length + Fu.sz d ≤ 16777216) : (Fu.whil pfm B_plain_form_1 (n + Fu.sz d) (work ++ [d], toks) : Fu.O D κ _) = Fu.whil pfm B_plain_form_1 n (work, toks ++ Fu.tk d) := by
  rw [e1, Fu.whil_step (pf_m _ _ _) (pf_atom work toks d hd (by omega)), e2]
mutual
theorem pf_1 {κ : Type} : ∀ (d : D), Fu.okD d = true → ∀ (n : Nat) (work toks : List D), work.length + Fu.sz d ≤ 16777216 → toks.length + Fu.sz d ≤ 16777216 → (Fu.whil pfm B_plain_form_1 (n + Fu.sz d) (work ++ [d], toks) : Fu.O D κ _) = Fu.whil pfm B_plain_form_1 n (work, toks ++ Fu.tk d)
  | .tup ds, h, n, work, toks, h1, h2 => by
    simp only [Fu.okD] at h
    simp only [Fu.sz] at h1 h2
    have := Fu.szL_len ds
    rw [Fu.sz, show n + (1 + Fu.szL ds) = (n + Fu.szL ds) + 1 by omega, Fu.whil_step (pf_m _ _ _) (pf_row work toks ds _ (.inl rfl) (by omega) (by omega)), pf_L ds h n work _ (by omega) (by simp; omega), Fu.tk]
    simp
  | .lst ds, h, n, work, toks, h1, h2 => by
    simp only [Fu.okD] at h
    simp only [Fu.sz] at h1 h2
    have := Fu.szL_len ds
    rw [Fu.sz, show n + (1 + Fu.szL ds) = (n + Fu.szL ds) + 1 by omega, Fu.whil_step (pf_m _ _ _) (pf_row work toks ds _ (.inr rfl) (by omega) (by omega)), pf_L ds h n work _ (by omega) (by simp; omega), Fu.tk]
    simp
  | .non, _, n, work, toks, _, h2 => pf_atom1 _ rfl rfl rfl n work toks h2
  | .bl b, _, n, work, toks, _, h2 => pf_atom1 _ rfl rfl (by cases b <;> rfl) n work toks h2
  | .int _, _, n, work, toks, _, h2 => pf_atom1 _ rfl rfl rfl n work toks h2
  | .str _, _, n, work, toks, _, h2 => pf_atom1 _ rfl rfl rfl n work toks h2
  | .ty _, h, _, _, _, _, _ => by simp [Fu.okD] at h
  | .cl _, h, _, _, _, _, _ => by simp [Fu.okD] at h
  | .frl _, h, _, _, _, _, _ => by simp [Fu.okD] at h
  | .exc _ _ _, h, _, _, _, _, _ => by simp [Fu.okD] at h
theorem pf_L {κ : Type} : ∀ (ds : List D), Fu.okDL ds = true → ∀ (n : Nat) (work toks : List D), work.length + Fu.szL ds ≤ 16777216 → toks.length + Fu.szL ds ≤ 16777216 → (Fu.whil pfm B_plain_form_1 (n + Fu.szL ds) (work ++ ds, toks) : Fu.O D κ _) = Fu.whil pfm B_plain_form_1 n (work, toks ++ Fu.tkR ds)
  | [], _, n, work, toks, _, _ => by simp [Fu.szL, Fu.tkR]
  | d :: ds, h, n, work, toks, h1, h2 => by
    simp only [Fu.okDL, Bool.and_eq_true] at h
    simp only [Fu.szL] at h1 h2
    have l1 : 1 ≤ Fu.sz d := by cases d <;> simp [Fu.sz] <;> omega
    rw [Fu.szL, show n + (Fu.sz d + Fu.szL ds) = (n + Fu.sz d) + Fu.szL ds by omega, show work ++ d :: ds = (work ++ [d]) ++ ds by simp, pf_L ds h.2 _ _ _ (by simp; omega) (by omega), pf_1 d h.1 n work _ (by omega) (by simp [Fu.tkR_len]; omega), Fu.tkR]
    simp
end
theorem pf_take (A parts : List D) (x y : D) (h : parts.length < 16777216) : B_plain_form_2 (A ++ [x], parts) y = .nx (A, parts ++ [x]) := by
  simp [B_plain_form_2, Fu.S.mut, mPop, Fu.S.bind, h]
theorem pf_parts {κ : Type} (ps held : List D) (h : ps.length ≤ 16777216) : (Fu.loop B_plain_form_2 (intsD 0 ps.length) (held ++ ps, []) : Fu.O D κ _) = .nx (held, ps.reverse) := by
  obtain ⟨s', h1, h2⟩ := Fu.loop_R (ρ := D) (κ := κ) (f := B_plain_form_2) 0 ps.length (fun k s => s = (held ++ ps.take (ps.length - k), (ps.drop (ps.length - k)).reverse)) (by
    rintro k s hk rfl
    obtain ⟨m, hm⟩ : ∃ m, ps.length - k = m + 1 := ⟨ps.length - k - 1, by omega⟩
    have hx : m < ps.length := by omega
    rw [hm, show ps.length - (k + 1) = m by omega]
    refine ⟨_, .inl ?_, rfl⟩
    have e1 : ps.take (m + 1) = ps.take m ++ [ps[m]] := by rw [List.take_succ_eq_append_getElem hx]
    have e2 : ps.drop m = ps[m] :: ps.drop (m + 1) := List.drop_eq_getElem_cons hx
    rw [e1, e2, ← List.append_assoc]
    rw [pf_take _ _ _ _ (by simp; omega), List.reverse_cons]) (held ++ ps, []) (by simp)
  rw [h1, h2]
  simp
theorem pf_2a {κ : Type} (d : D) (e1 : Fu.tk d = [.tup [d, .bl false]]) (e2 : Fu.pl d = d) (held rest : List D) (h1 : held.length + Fu.sz d ≤ 16777216) : (Fu.loop B_plain_form_3 ((Fu.tk d).reverse ++ rest) held : Fu.O D κ _) = Fu.loop B_plain_form_3 rest (held ++ [Fu.pl d]) := by
  have l1 : 1 ≤ Fu.sz d := by cases d <;> simp [Fu.sz] <;> omega
  rw [e1, e2]
  show Fu.loop B_plain_form_3 (.tup [d, .bl false] :: rest) held = _
  rw [Fu.loop]
  have e : B_plain_form_3 held (.tup [d, .bl false]) = .nx (held ++ [d]) := by simp [B_plain_form_3, show held.length < 16777216 by omega]
  rw [e]
mutual
theorem pf_2 {κ : Type} : ∀ (d : D), Fu.okD d = true → ∀ (held rest : List D), held.length + Fu.sz d ≤ 16777216 → (Fu.loop B_plain_form_3 ((Fu.tk d).reverse ++ rest) held : Fu.O D κ _) = Fu.loop B_plain_form_3 rest (held ++ [Fu.pl d])
  | .tup ds, h, held, rest, h1 => by
    simp only [Fu.okD] at h
    simp only [Fu.sz] at h1
    have := Fu.szL_len ds
    rw [Fu.tk, List.reverse_cons, List.append_assoc, pf_2L ds h held _ (by omega)]
    show Fu.loop B_plain_form_3 (.tup [.int ds.length, .bl true] :: rest) _ = _
    rw [Fu.loop]
    have e : B_plain_form_3 (held ++ Fu.plL ds) (.tup [.int ds.length, .bl true]) = .nx (held ++ [.tup (Fu.plL ds)]) := by
      have p := pf_parts (κ := List D) (Fu.plL ds) held (by rw [Fu.plL_len]; omega)
      rw [Fu.plL_len] at p
      simp [B_plain_form_3, rg1 (show ds.length ≤ 1000000000 by omega), p, fRev, show held.length < 16777216 by omega]
    rw [e, Fu.pl]
  | .lst ds, h, held, rest, h1 => by
    simp only [Fu.okD] at h
    simp only [Fu.sz] at h1
    have := Fu.szL_len ds
    rw [Fu.tk, List.reverse_cons, List.append_assoc, pf_2L ds h held _ (by omega)]
    show Fu.loop B_plain_form_3 (.tup [.int ds.length, .bl true] :: rest) _ = _
    rw [Fu.loop]
    have e : B_plain_form_3 (held ++ Fu.plL ds) (.tup [.int ds.length, .bl true]) = .nx (held ++ [.tup (Fu.plL ds)]) := by
      have p := pf_parts (κ := List D) (Fu.plL ds) held (by rw [Fu.plL_len]; omega)
      rw [Fu.plL_len] at p
      simp [B_plain_form_3, rg1 (show ds.length ≤ 1000000000 by omega), p, fRev, show held.length < 16777216 by omega]
    rw [e, Fu.pl]
  | .non, _, held, rest, h1 => pf_2a _ rfl rfl held rest h1
  | .bl b, _, held, rest, h1 => pf_2a _ rfl rfl held rest h1
  | .int _, _, held, rest, h1 => pf_2a _ rfl rfl held rest h1
  | .str _, _, held, rest, h1 => pf_2a _ rfl rfl held rest h1
  | .ty _, h, _, _, _ => by simp [Fu.okD] at h
  | .cl _, h, _, _, _ => by simp [Fu.okD] at h
  | .frl _, h, _, _, _ => by simp [Fu.okD] at h
  | .exc _ _ _, h, _, _, _ => by simp [Fu.okD] at h
theorem pf_2L {κ : Type} : ∀ (ds : List D), Fu.okDL ds = true → ∀ (held rest : List D), held.length + Fu.szL ds ≤ 16777216 → (Fu.loop B_plain_form_3 ((Fu.tkR ds).reverse ++ rest) held : Fu.O D κ _) = Fu.loop B_plain_form_3 rest (held ++ Fu.plL ds)
  | [], _, held, rest, _ => by simp [Fu.tkR, Fu.plL]
  | d :: ds, h, held, rest, h1 => by
    simp only [Fu.okDL, Bool.and_eq_true] at h
    simp only [Fu.szL] at h1
    have l1 : 1 ≤ Fu.sz d := by cases d <;> simp [Fu.sz] <;> omega
    rw [Fu.tkR, List.reverse_append, List.append_assoc, pf_2 d h.1 held _ (by omega), pf_2L ds h.2 _ rest (by simp; omega), Fu.plL]
    simp
end
theorem pf (d : D) (h : Fu.okD d = true) (hs : Fu.sz d ≤ 900000) : F_plain_form d = .ok (Fu.pl d) := by
  have e : plain_form_n0 = (999999 - Fu.sz d) + 1 + Fu.sz d := by show 1000000 = _; omega
  have w := pf_1 (κ := Empty) d h ((999999 - Fu.sz d) + 1) [] [] (by simp; omega) (by simp; omega)
  rw [← e, Fu.whil_stop (by simp [pfm])] at w
  have w2 := pf_2 (κ := Empty) d h [] [] (by simp; omega)
  simp only [List.nil_append, List.append_nil, Fu.o_loop0] at w w2
  have w' : (Fu.whil (fun (s3 : List D × List D) => Fu.S.ok (!s3.1.isEmpty)) B_plain_form_1 plain_form_n0 ([d], []) : Fu.O D Empty _) = .nx ([], Fu.tk d) := w
  simp [F_plain_form, w', fRev, w2]

theorem tk_eq : F__law_take = FuM.F__law_take := rfl
theorem dr_eq : F__law_draws = FuM.F__law_draws := rfl
theorem Lint (i : Int) : F__law_is_int (.int i) = .ok (.bl true) := rfl
/-! ## what is refused -/
def eSt (d : D) : D := .exc "BadStore" "at" d
def eNu (d : D) : D := .exc "BadNumber" "at" d
/-- a wrong store in its place -/
theorem wrongP (b : Bool) (way : List S) (h : ∀ s ∈ way, s.ok) (w : D) (k : Int) (rest : List D) (hw : F_wrong_store_part w = .ok (.int k)) : F_wrong_way_place (if b = true then .lst (way.map S.enc ++ w :: rest) else .tup (way.map S.enc ++ w :: rest)) = .ok (.tup [.int (way.length : Nat), .int k]) := by
  obtain ⟨r, hr⟩ := Fu.enumD_app (way.map S.enc) w rest
  have L : (Fu.loop B_wrong_way_place_0 (enumD (way.map S.enc ++ w :: rest)) () : Fu.O D Empty _) = .rt (.tup [.int (way.length : Nat), .int k]) := by
    rw [hr]
    refine Fu.loop_hit (fun x hx => ?_) ?_
    · obtain ⟨n, a, _, ha, rfl⟩ := Fu.mem_enumD hx
      simp [B_wrong_way_place_0, wsp (.inl rfl) (h a ha)]
    · simp [B_wrong_way_place_0, hw]
  have hl : ¬ ((way.length : Int) + ((rest.length : Int) + 1) = 0) := by omega
  cases b <;> simp [F_wrong_way_place, isl, ist, hl, L]
theorem in_new : fInW true (.str "new") (.tup [.str "anew", .str "on"]) = some (.bl true) := by kernel_rfl
theorem intN : F_is_int .non = .ok (.bl false) := rfl
theorem intS (x : Str) : F_is_int (.str x) = .ok (.bl false) := rfl
theorem isi (i : Int) : fIs T [.int i, .tup [.ty .tup, .ty .lst]] = some (.bl false) := rfl
theorem isns : fIs T [.non, .ty .str] = some (.bl false) := rfl
theorem cnX (d : D) (h1 : F_is_int d = .ok (.bl false) ∨ ∃ i : Int, d = .int i ∧ i < 0) (h2 : Fu.okD d = true) (h3 : Fu.sz d ≤ 900000) : F_check_number d (.int 0) = .err (eNu (Fu.pl d)) := by
  rcases h1 with h1 | ⟨i, rfl, hi⟩
  · simp [F_check_number, h1, pf d h2 h3, eNu]
  · simp [F_check_number, int1, hi, pf _ h2 h3, eNu]
/-- the wrong lives of the law -/
structure Late (l : D) : Prop where
  h1 : F_is_int l = .ok (.bl false) ∨ ∃ i : Int, l = .int i ∧ i < 0
  h2 : Fu.okD l = true
  h3 : Fu.sz l ≤ 900000
theorem cwX (b : Bool) (way : List S) (h : ∀ s ∈ way, s.ok) (w : D) (k : Int) (rest : List D) (hw : F_wrong_store_part w = .ok (.int k)) : F_check_way (if b = true then .lst (way.map S.enc ++ w :: rest) else .tup (way.map S.enc ++ w :: rest)) = .err (eSt (.tup [.int (way.length : Nat), .int k])) := by
  have := wrongP b way h w k rest hw
  simp [F_check_way, this, eSt]
theorem wp0 : F_wrong_way_place (.tup []) = .ok (.tup [.int (-1), .int (-1)]) := by simp [F_wrong_way_place, ist]
end K06
end

section
set_option maxHeartbeats 400000
namespace K06
open Py PySem L2
open StM
/-! # copies -/
structure M where
  late : Int
  stay : Int
  told : Int
def M.enc (m : M) : D := .tup [.int m.late, .int m.stay, .int m.told]
def M.encL (m : M) : D := .lst [.int m.late, .int m.stay, .int m.told]
def ms (l : List M) : D := .tup (l.map M.enc)
def nextL (life left : Int) (s : S) (m : M) : Int := if s.anew = true then life else left - m.told
def lawM (s : S) (left : Int) (m : M) : Bool := decide (0 ≤ m.late ∧ m.late ≤ s.slow ∧ 0 ≤ m.stay ∧ 0 ≤ m.told ∧ m.stay - s.err ≤ m.told ∧ m.told ≤ m.stay ∧ m.told ≤ left) && (match s.cap with | none => true | some c => decide (m.told ≤ c))
def livesZ (life : Int) : Int → List (S × M) → List Int
  | _, [] => []
  | left, (s, m) :: as => left :: livesZ life (nextL life left s m) as
def lives (life : Int) (way : List S) (l : List M) : List Int := livesZ life life (way.zip l)
def lawL (life : Int) : Int → List S → List M → Bool
  | _, [], [] => true
  | left, s :: ss, m :: l => lawM s left m && lawL life (nextL life left s m) ss l
  | _, _, _ => false
theorem lawL_len {life : Int} : ∀ {left : Int} {way : List S} {l : List M}, lawL life left way l = true → l.length = way.length
  | _, [], [], _ => rfl
  | _, s :: ss, m :: l, h => by
    simp only [lawL, Bool.and_eq_true] at h
    simp [lawL_len h.2]
  | _, [], _ :: _, h => by simp [lawL] at h
  | _, _ :: _, [], h => by simp [lawL] at h
theorem livesZ_len (life : Int) : ∀ (left : Int) (as : List (S × M)), (livesZ life left as).length = as.length
  | _, [] => rfl
  | left, (s, m) :: as => by simp [livesZ, livesZ_len life _ as]
theorem ist2 {ds : List D} : fIs T [.tup ds, .ty .tup] = some (.bl true) := rfl
theorem form (v : Int) (l : List M) : F_has_copy_form (.tup [.int v, ms l]) = .ok (.bl true) := by
  have L : (Fu.loop B_has_copy_form_1 (l.map M.enc) () : Fu.O D Empty _) = .nx () := Fu.loop_same fun x hx => by
    obtain ⟨m, _, rfl⟩ := List.mem_map.mp hx
    have L0 : (Fu.loop B_has_copy_form_0 [.int m.late, .int m.stay, .int m.told] () : Fu.O D Unit _) = .nx () := Fu.loop_same fun x hx => by
      have hx : x = .int m.late ∨ x = .int m.stay ∨ x = .int m.told := by simpa using hx
      rcases hx with rfl | rfl | rfl <;> simp [B_has_copy_form_0, int1]
    simp [B_has_copy_form_1, M.enc, ist2, L0]
  simp [F_has_copy_form, ms, ist2, int1, L]
theorem lawm (s : S) (left : Int) (m : M) : F_is_lawful_moment s.enc (.int left) m.enc = .ok (.bl (lawM s left m)) := by
  have e : F_is_lawful_moment s.enc (.int left) m.enc = .ok (.bl (lawM s left m)) := by
    obtain ⟨sl, cap, er, an⟩ := s
    obtain ⟨la, st, to⟩ := m
    by_cases h1 : la < 0
    · simp [F_is_lawful_moment, S.enc, S.ds, M.enc, h1, lawM]; omega
    · by_cases h2 : sl < la
      · simp [F_is_lawful_moment, S.enc, S.ds, M.enc, h1, h2, lawM]; omega
      · by_cases h3 : st < 0
        · simp [F_is_lawful_moment, S.enc, S.ds, M.enc, h1, h2, h3, lawM]; omega
        · by_cases h4 : to < 0
          · simp [F_is_lawful_moment, S.enc, S.ds, M.enc, h1, h2, h3, h4, lawM]; omega
          · by_cases h5 : to < st - er
            · simp [F_is_lawful_moment, S.enc, S.ds, M.enc, h1, h2, h3, h4, h5, lawM]; omega
            · by_cases h6 : st < to
              · simp [F_is_lawful_moment, S.enc, S.ds, M.enc, h1, h2, h3, h4, h5, h6, lawM]; omega
              · have k : (0 ≤ la ∧ la ≤ sl ∧ 0 ≤ st ∧ 0 ≤ to ∧ st - er ≤ to ∧ to ≤ st ∧ to ≤ left) ↔ to ≤ left := by omega
                cases cap with
                | none => by_cases h7 : to ≤ left <;> simp [F_is_lawful_moment, S.enc, S.ds, M.enc, h1, h2, h3, h4, h5, h6, h7, lawM, capD] <;> omega
                | some c => by_cases h7 : to ≤ left <;> simp [F_is_lawful_moment, S.enc, S.ds, M.enc, h1, h2, h3, h4, h5, h6, h7, lawM, capD] <;> omega
  exact e
theorem lto (way : List S) (life : Int) (l : List M) (hl : way.length ≤ 1000) : F_lives_told (W false way) (.int life) (ms l) = .ok (.tup ((lives life way l).map D.int)) := by
  have zl : (way.zip l).length ≤ 1000 := by simp; omega
  obtain ⟨s', h1, left, acc, rfl, hh, hc⟩ := Fu.loop_ind (f := B_lives_told_0 (.int life)) (κ := Empty) (fun p : S × M => .tup [eS false p.1, p.2.enc]) (fun as s => ∃ (left : Int) (acc : List Int), s = (.int left, acc.map D.int) ∧ acc ++ livesZ life left as = lives life way l ∧ acc.length + as.length = (way.zip l).length)
    (by
      rintro ⟨s, m⟩ as st ⟨left, acc, rfl, hh, hc⟩
      simp only [List.length_cons] at hc
      refine ⟨(.int (nextL life left s m), (acc ++ [left]).map D.int), .inl ?_, _, _, rfl, by rw [← hh]; simp [livesZ], by simp only [List.length_append, List.length_cons, List.length_nil]; omega⟩
      cases hb : s.anew <;> simp [B_lives_told_0, eS, ix3, hb, eq_kd, M.enc, nextL, show acc.length < 16777216 by omega]) (way.zip l) (.int life, []) ⟨life, [], rfl, rfl, by simp⟩
  simp only [livesZ, List.append_nil] at hh
  have ez : zipD (way.map (eS false)) (l.map M.enc) = (way.zip l).map fun p => .tup [eS false p.1, p.2.enc] := Fu.zipD_map _ _ _ _
  have W0 : W false way = .tup (way.map (eS false)) := by simp [W]
  simp [F_lives_told, W0, ms, ez, h1, hh]
theorem lawL_idx (life : Int) (L : Nat → Option Int) (Q : Nat → Option M) : ∀ (way : List S) (l : List M) (left : Int) (n : Nat), way.length = l.length → (∀ k, k < way.length → L (n + k) = (livesZ life left (way.zip l))[k]?) → (∀ k, k < way.length → Q (n + k) = l[k]?) →
    (way.zipIdx n).all (fun p => match L p.2, Q p.2 with | some x, some m => lawM p.1 x m | _, _ => false) = lawL life left way l
  | [], [], _, _, _, _, _ => rfl
  | [], _ :: _, _, _, h, _, _ => by simp at h
  | _ :: _, [], _, _, h, _, _ => by simp at h
  | s :: way, m :: l, left, n, h, h1, h2 => by
    rw [List.zipIdx_cons, List.all_cons]
    have a := h1 0 (by simp)
    have b := h2 0 (by simp)
    simp only [Nat.add_zero, List.zip_cons_cons, livesZ, List.getElem?_cons_zero] at a b
    have ih := lawL_idx life L Q way l (nextL life left s m) (n + 1) (by simpa using h) (fun k hk => by
      have := h1 (k + 1) (by simpa using hk)
      rw [show n + (k + 1) = n + 1 + k by omega] at this
      simpa [livesZ] using this) (fun k hk => by
      have := h2 (k + 1) (by simpa using hk)
      rw [show n + (k + 1) = n + 1 + k by omega] at this
      simpa using this)
    simp only [a, b, ih, lawL]
theorem ipc (way : List S) (life v : Int) (l : List M) (hl : way.length ≤ 1000) : F_is_plain_copy (W false way) (.int life) (.tup [.int v, ms l]) = .ok (.bl (lawL life life way l)) := by
  by_cases h : l.length = way.length
  · have hz : (way.zip l).length = way.length := by simp; omega
    have LL := lawL_idx life (fun k => (lives life way l)[k]?) (fun k => l[k]?) way l life 0 h.symm (fun k _ => by simp [lives]) (fun k _ => by simp)
    have L := Fu.loop_all (f := B_is_plain_copy_0 (.tup ((lives life way l).map D.int)) (.tup [.int v, ms l])) (κ := Empty) (fun p : S × Nat => .tup [.int (p.2 : Nat), eS false p.1]) (fun p => match (lives life way l)[p.2]?, l[p.2]? with | some x, some m => lawM p.1 x m | _, _ => false) (.bl false) way.zipIdx (by
      rintro ⟨s, k⟩ hk
      have hk2 : k < way.length := by have := List.mem_zipIdx hk; simp at this; exact this.1
      have e1 : (lives life way l)[k]? = some ((lives life way l)[k]'(by unfold lives; rw [livesZ_len, hz]; exact hk2)) := List.getElem?_eq_getElem _
      have e2 : l[k]? = some (l[k]'(by omega)) := List.getElem?_eq_getElem _
      simp only [e1, e2]
      cases hm : lawM s ((lives life way l)[k]'(by unfold lives; rw [livesZ_len, hz]; exact hk2)) (l[k]'(by omega)) <;> simp [B_is_plain_copy_0, eS, e1, e2, ms, lawm, hm])
    rw [LL, ← Fu.enumD_map] at L
    cases hb : lawL life life way l <;> rw [hb] at L <;> simp only [cond] at L <;> simp [F_is_plain_copy, form, ms, len_W, h, its_W] <;> (have f := form v l; have t := lto way life l hl; unfold ms at f t L; simp [f, t, L])
  · have hb : lawL life life way l = false := by
      cases e : lawL life life way l with
      | false => rfl
      | true => exact absurd (lawL_len e) h
    have h2 : ¬ ((l.length : Int) = way.length) := by omega
    have f := form v l
    unfold ms at f
    simp [F_is_plain_copy, f, ms, len_W, h2, hb]
theorem pl_ms (l : List M) : Fu.plL (l.map M.enc) = l.map M.enc ∧ Fu.plL (l.map M.encL) = l.map M.enc := by
  induction l with
  | nil => exact ⟨rfl, rfl⟩
  | cons m l ih => simp [Fu.plL, Fu.pl, M.enc, M.encL, ih]
theorem ok_ms (l : List M) : Fu.okDL (l.map M.enc) = true ∧ Fu.szL (l.map M.enc) = 4 * l.length ∧ Fu.okDL (l.map M.encL) = true ∧ Fu.szL (l.map M.encL) = 4 * l.length := by
  induction l with
  | nil => exact ⟨rfl, rfl, rfl, rfl⟩
  | cons m l ih => obtain ⟨a, b, c, d⟩ := ih; simp [Fu.okDL, Fu.okD, Fu.szL, Fu.sz, M.enc, M.encL] at a b c d ⊢; simp [a, b, c, d]; omega
theorem pfc (v : Int) (l : List M) (hl : l.length ≤ 1000) : F_plain_form (.tup [.int v, ms l]) = .ok (.tup [.int v, ms l]) := by
  obtain ⟨a, b, _, _⟩ := ok_ms l
  rw [pf _ (by simp [Fu.okD, Fu.okDL, ms, a]) (by simp [Fu.sz, Fu.szL, ms, b]; omega)]
  simp [Fu.pl, Fu.plL, ms, (pl_ms l).1]
theorem ic (way : List S) (h : Way way) (life v : Int) (hp : 0 ≤ life) (l : List M) (hl : l.length ≤ 1000) : F_is_copy (W false way) (.int life) (.tup [.int v, ms l]) = .ok (.bl (lawL life life way l)) := by
  simp [F_is_copy, cw false way h, cn life hp, pfc v l hl, ipc way life v l h.len]
def eCa (d : D) : D := .exc "BadCase" "at" d
theorem la (way : List S) (h : Way way) (life v : Int) (hp : 0 ≤ life) (l : List M) (hl : l.length ≤ 1000) : F_lives_along (W false way) (.int life) (.tup [.int v, ms l]) = if lawL life life way l = true then .ok (.tup ((lives life way l).map D.int)) else .err (eCa (.tup [])) := by
  cases hb : lawL life life way l with
  | true => have t := lto way life l h.len; simp [F_lives_along, cw false way h, cn life hp, pfc v l hl, ipc way life v l h.len, hb, t]
  | false => simp [F_lives_along, cw false way h, cn life hp, pfc v l hl, ipc way life v l h.len, hb, eCa]
def hrs (l : List M) : Int := (l.map fun m => m.late + m.stay).sum
theorem chs (v : Int) (l : List M) (hl : l.length ≤ 1000) : F_copy_hours (.tup [.int v, ms l]) = .ok (.int (hrs l)) := by
  have L := Fu.loop_sum (f := B_copy_hours_0) (κ := Empty) M.enc (fun m => m.late + m.stay) l 0 fun s m _ => by simp [B_copy_hours_0, M.enc, Int.add_assoc]
  have f := form v l
  have p := pfc v l hl
  unfold ms at f p
  simp [F_copy_hours, p, f, ms, L, hrs]
end K06
end

section
set_option maxHeartbeats 400000
namespace K06
open Py PySem L2
open StM
/-! rows of ints -/
theorem datI (n : Nat) : ∀ l : List Int, D.datL n (l.map D.int) = true
  | [] => by cases n <;> rfl
  | i :: l => by
    have := datI n l
    cases n <;> simp_all [D.datL, D.dat]
theorem eqvI : ∀ l k : List Int, PyData.eqvAll (D.pyL (l.map D.int)) (D.pyL (k.map D.int)) = decide (l = k)
  | [], [] => by simp [D.pyL, PyData.eqvAll]
  | [], _ :: _ => by simp [D.pyL, PyData.eqvAll]
  | _ :: _, [] => by simp [D.pyL, PyData.eqvAll]
  | i :: l, j :: k => by
    have := eqvI l k
    simp only [List.map_cons, D.pyL, D.py, PyData.eqvAll, PyData.eqv, this]
    by_cases h1 : i = j <;> by_cases h2 : l = k <;> simp [h1, h2]
theorem eq_ints (l k : List Int) : fEq (.tup (l.map D.int)) (.tup (k.map D.int)) = some (.bl (decide (l = k))) := by
  rw [eq_dat (by simp only [D.dat]; exact datI 59 l) (by simp only [D.dat]; exact datI 59 k)]
  simp only [D.py, PyData.eqv, eqvI]
/-! ## copy_of -/
def stp (life l r : Int) (s : S) : M :=
  let late := minC r (some s.slow)
  let bound := minC l s.cap
  let stay := minC (r - late) (some (bound + s.err))
  ⟨late, stay, minC stay (some bound)⟩
def cpy (life : Int) : Int → Int → List S → List M
  | _, _, [] => []
  | r, l, s :: ss => stp life l r s :: cpy life (r - (stp life l r s).late - (stp life l r s).stay) (nextL life l s (stp life l r s)) ss
theorem greedy_add (life : Int) : ∀ (way : List S) (t l : Int), greedy life t l way = t + greedy life 0 l way
  | [], t, l => by simp [greedy]
  | s :: way, t, l => by
    unfold greedy
    rw [greedy_add life way (t + _ + _ + _), greedy_add life way (0 + _ + _ + _)]; omega
theorem cpy_len (life : Int) : ∀ (r l : Int) (way : List S), (cpy life r l way).length = way.length
  | _, _, [] => rfl
  | r, l, s :: ss => by simp [cpy, cpy_len life _ _ ss]
theorem stp_law {life l r : Int} (hl : 0 ≤ l) (hr : 0 ≤ r) {s : S} (o : s.ok) : lawM s l (stp life l r s) = true ∧ 0 ≤ nextL life l s (stp life l r s) - (if s.anew = true then life else 0) ∧ 0 ≤ (stp life l r s).late + (stp life l r s).stay ∧ 0 ≤ r - (stp life l r s).late - (stp life l r s).stay ∧
    (0 < r - (stp life l r s).late - (stp life l r s).stay → (stp life l r s).late = s.slow ∧ (stp life l r s).stay = minC l s.cap + s.err ∧ (stp life l r s).told = minC l s.cap) := by
  obtain ⟨h1, h2, h3⟩ := o
  obtain ⟨sl, cap, er, an⟩ := s
  simp only at h1 h2 h3
  have z : ∀ b c : Int, minC b (some c) = if c < b then c else b := fun _ _ => rfl
  have k : 0 ≤ minC l cap ∧ minC l cap ≤ l ∧ ∀ c, cap = some c → minC l cap ≤ c := by
    cases cap with
    | none => exact ⟨hl, Int.le_refl _, fun c e => nomatch e⟩
    | some c => have := h2 c rfl; rw [z]; exact ⟨by split <;> omega, by split <;> omega, fun d e => by cases e; split <;> omega⟩
  unfold stp nextL
  generalize hb : minC l cap = b at k
  simp only [hb, z]
  have q : ∀ la st t : Int, t ≤ b → lawM ⟨sl, cap, er, an⟩ l ⟨la, st, t⟩ = decide (0 ≤ la ∧ la ≤ sl ∧ 0 ≤ st ∧ 0 ≤ t ∧ st - er ≤ t ∧ t ≤ st ∧ t ≤ l) := fun la st t ht => by
    cases cap with
    | none => simp [lawM]
    | some c => have := k.2.2 c rfl; simp [lawM, show t ≤ c by omega]
  obtain ⟨k1, k2, _⟩ := k
  rw [q]
  · refine ⟨by simp only [decide_eq_true_eq]; grind, ?_, ?_, ?_, ?_⟩
    · cases an <;> simp <;> grind
    · grind
    · grind
    · grind
  · grind
theorem cpy_law {life : Int} (hp : 0 ≤ life) : ∀ (way : List S), (∀ s ∈ way, s.ok) → ∀ (r l : Int), 0 ≤ l → 0 ≤ r → lawL life l way (cpy life r l way) = true ∧ 0 ≤ hrs (cpy life r l way) ∧ hrs (cpy life r l way) ≤ r ∧ (r ≤ greedy life 0 l way → hrs (cpy life r l way) = r)
  | [], _, r, l, hl, hr => ⟨rfl, by simp [cpy, hrs], by simp [cpy, hrs]; exact hr, fun h => by simp [greedy] at h; simp [cpy, hrs]; omega⟩
  | s :: way, ho, r, l, hl, hr => by
    obtain ⟨a1, a2, a3, a4, a5⟩ := stp_law (life := life) hl hr (ho s List.mem_cons_self)
    have hn : 0 ≤ nextL life l s (stp life l r s) := by cases e : s.anew <;> simp [e] at a2 <;> omega
    obtain ⟨b1, b2, b3, b4⟩ := cpy_law hp way (fun t h => ho t (List.mem_cons_of_mem _ h)) (r - (stp life l r s).late - (stp life l r s).stay) _ hn a4
    have e : hrs (cpy life r l (s :: way)) = (stp life l r s).late + (stp life l r s).stay + hrs (cpy life (r - (stp life l r s).late - (stp life l r s).stay) (nextL life l s (stp life l r s)) way) := by simp [cpy, hrs]
    rw [e]
    refine ⟨by simp [cpy, lawL, a1, b1], by omega, by omega, fun h => ?_⟩
    by_cases h0 : 0 < r - (stp life l r s).late - (stp life l r s).stay
    · obtain ⟨c1, c2, c3⟩ := a5 h0
      have hx : nextL life l s (stp life l r s) = if s.anew = true then life else l - minC l s.cap := by unfold nextL; rw [c3]
      unfold greedy at h
      rw [greedy_add] at h
      rw [← hx] at h
      have := b4 (by omega)
      omega
    · omega
theorem ch (v : Int) : F_check_hour (.int v) = .ok (.int v) := by simp [F_check_hour, int1]
theorem cof (way : List S) (h : Way way) (life v r : Int) (hp : 0 ≤ life) (hr : 0 ≤ r) : F_copy_of (W false way) (.int life) (.int v) (.int r) = .ok (if delay way life < r then .non else .tup [.int v, ms (cpy life r life way)]) := by
  by_cases hd : delay way life < r
  · simp [F_copy_of, cw false way h, cn life hp, ch, cn r hr, pd way life h.len, hd]
  · have hl := h.len
    obtain ⟨s', h1, r', l', acc, rfl, hh, _⟩ := Fu.loop_ind (f := B_copy_of_0 (.int life)) (κ := Empty) (eS false) (fun as s => ∃ (r' l' : Int) (acc : List M), s = (.int r', .int l', acc.map M.enc) ∧ acc ++ cpy life r' l' as = cpy life r life way ∧ acc.length + as.length = way.length)
      (by
        rintro s as st ⟨r', l', acc, rfl, hh, hc⟩
        simp only [List.length_cons] at hc
        refine ⟨(.int (r' - (stp life l' r' s).late - (stp life l' r' s).stay), .int (nextL life l' s (stp life l' r' s)), (acc ++ [stp life l' r' s]).map M.enc), .inl ?_, _, _, _, rfl, by rw [← hh]; simp [cpy], by simp only [List.length_append, List.length_cons, List.length_nil]; omega⟩
        have hal : acc.length < 16777216 := by omega
        obtain ⟨sl, cap, er, an⟩ := s
        cases cap <;> cases an <;> simp [B_copy_of_0, eS, S.enc, S.ds, capD, eq_kd, M.enc, nextL, stp, minC, hal, Py.isNon]) way (.int r, .int life, []) ⟨r, life, [], rfl, rfl, by simp⟩
    simp only [cpy, List.append_nil] at hh
    simp [F_copy_of, cw false way h, cn life hp, ch, cn r hr, pd way life hl, hd, its_W, h1, hh, ms]
/-! ## papers -/
theorem ptl (way : List S) (hl : way.length ≤ 1000) (life h b : Int) (sums : List Int) : F_plain_too_late (W false way) (.int life) (.int h) (.tup [.int b, .tup (sums.map D.int)]) = .ok (.bl (decide (b = base way) && decide (sums = (caps way).map (minC life)) && decide (b + sums.sum < h))) := by
  have L := Fu.loop_sum (f := B_plain_too_late_0) (κ := Empty) D.int (fun i => i) sums b fun s m _ => by simp [B_plain_too_late_0, int1]
  have e := eq_ints sums ((caps way).map (minC life))
  simp only [List.map_map] at e
  have lsn := ls way life hl
  have q : ((caps way).map fun c => D.int (minC life c)) = (caps way).map (D.int ∘ minC life) := rfl
  rw [q] at lsn
  by_cases h1 : b = base way <;> by_cases h2 : sums = (caps way).map (minC life)
  · subst h1; subst h2; simp only [List.map_map] at e L; simp [F_plain_too_late, ist1, int1, L, pb, lsn, e]; exact Iff.rfl
  · subst h1; simp [F_plain_too_late, ist1, int1, L, pb, h2, lsn, e]
  · subst h2; simp only [List.map_map] at e L; simp [F_plain_too_late, ist1, int1, L, pb, h1, lsn, e]
  · simp [F_plain_too_late, ist1, int1, L, pb, h1, h2, lsn, e]
end K06
end

section
set_option maxHeartbeats 400000
namespace K06
open Py PySem L2
open StM
/-! ## the law's own functions -/
theorem row (l : List Int) (hl : l.length ≤ 1000) : F__law_is_row (.tup (l.map D.int)) (.tup (l.map D.int)) = .ok (.bl true) := by
  have q : (Fu.lcS some (fun z2 => Fu.S.or (Fu.S.not (Fu.S.tru (Fu.S.call (Fu.ap1 F__law_is_int) (Fu.S.cons (Fu.S.bin fIx (Fu.S.ok (.tup (l.map D.int))) (Fu.S.ok z2)) Fu.S.nil)))) (Fu.S.tst (Fu.S.bin fNe (Fu.S.bin fIx (Fu.S.ok (.tup (l.map D.int))) (Fu.S.ok z2)) (Fu.S.bin fIx (Fu.S.ok (.tup (l.map D.int))) (Fu.S.ok z2))))) (fun z2 => Fu.S.ok z2) (intsD 0 l.length) : Fu.S Unit (List D)) = Fu.S.ok [] := by
    have := Fu.lcS_map (τ := Unit) (γ' := Unit) (fun k : Nat => D.int (0 + (k : Int))) (fun k : Nat => D.int (0 + (k : Int))) (fun _ => false) (gh := some) (t := fun z2 => Fu.S.or (Fu.S.not (Fu.S.tru (Fu.S.call (Fu.ap1 F__law_is_int) (Fu.S.cons (Fu.S.bin fIx (Fu.S.ok (.tup (l.map D.int))) (Fu.S.ok z2)) Fu.S.nil)))) (Fu.S.tst (Fu.S.bin fNe (Fu.S.bin fIx (Fu.S.ok (.tup (l.map D.int))) (Fu.S.ok z2)) (Fu.S.bin fIx (Fu.S.ok (.tup (l.map D.int))) (Fu.S.ok z2))))) (e := fun z2 => Fu.S.ok z2) (List.range l.length) (fun k hk => by
      have hk : k < l.length := List.mem_range.mp hk
      refine ⟨_, rfl, ?_, fun h => by simp at h⟩
      have e : l[k]? = some l[k] := List.getElem?_eq_getElem hk
      simp [Lint, e])
    rw [intsD, this, show (List.range l.length).filter (fun _ => false) = [] from List.filter_eq_nil_iff.mpr (by simp)]; rfl
  simp at q
  simp [F__law_is_row, ist1, rg1 (show l.length ≤ 1000000000 by omega), q]
theorem lv (way : List S) (hw : way.length ≤ 1000) (life : Int) (l : List M) (hl : l.length = way.length) : F__law_lives (W false way) (.int life) (ms l) = .ok (.tup ((lives life way l).map D.int)) := by
  have zl : (way.zip l).length = way.length := by simp; omega
  obtain ⟨s', h1, left, acc, rfl, hh, hc⟩ := Fu.loop_R (f := B__law_lives_0 (ms l) (W false way) (.int life)) (κ := Empty) 0 way.length (fun k st => ∃ (left : Int) (acc : List Int), st = (acc.map D.int, .int left) ∧ acc ++ livesZ life left ((way.zip l).drop k) = lives life way l ∧ acc.length = k)
    (by
      rintro k st hk ⟨left, acc, rfl, hh, hc⟩
      have hx : way[k]? = some way[k] := List.getElem?_eq_getElem hk
      have hm : l[k]? = some (l[k]'(by omega)) := List.getElem?_eq_getElem _
      have hd : (way.zip l).drop k = (way[k], l[k]'(by omega)) :: (way.zip l).drop (k + 1) := by
        rw [List.drop_eq_getElem_cons (by omega)]; simp
      generalize way[k] = s at *
      generalize l[k]'(by omega) = m at *
      refine ⟨((acc ++ [left]).map D.int, .int (nextL life left s m)), .inl ?_, _, _, rfl, by rw [← hh, hd]; simp [livesZ], by simp [hc]⟩
      cases hb : s.anew <;> simp [B__law_lives_0, ms, hm, ixW way k s hx, ix3, hb, eq_kd, M.enc, nextL, show acc.length < 16777216 by omega]) ([], .int life) ⟨life, [], rfl, rfl, rfl⟩
  rw [List.drop_eq_nil_of_le (by omega)] at hh
  simp only [livesZ, List.append_nil] at hh
  simp [F__law_lives, len_W, rg1 (show way.length ≤ 1000000000 by omega), h1, hh]
theorem lawL_rng (life : Int) (N : Nat → Option S) (L : Nat → Option Int) (Q : Nat → Option M) : ∀ (way : List S) (l : List M) (left : Int) (n : Nat), way.length = l.length → (∀ k, k < way.length → N (n + k) = way[k]?) → (∀ k, k < way.length → L (n + k) = (livesZ life left (way.zip l))[k]?) → (∀ k, k < way.length → Q (n + k) = l[k]?) →
    (List.range' n way.length).all (fun k => match N k, L k, Q k with | some s, some x, some m => lawM s x m | _, _, _ => false) = lawL life left way l
  | [], [], _, _, _, _, _, _ => rfl
  | [], _ :: _, _, _, h, _, _, _ => by simp at h
  | _ :: _, [], _, _, h, _, _, _ => by simp at h
  | s :: way, m :: l, left, n, h, h0, h1, h2 => by
    rw [List.length_cons, List.range'_succ, List.all_cons]
    have c := h0 0 (by simp)
    have a := h1 0 (by simp)
    have b := h2 0 (by simp)
    simp only [Nat.add_zero, List.zip_cons_cons, livesZ, List.getElem?_cons_zero] at a b c
    have ih := lawL_rng life N L Q way l (nextL life left s m) (n + 1) (by simpa using h) (fun k hk => by
      have := h0 (k + 1) (by simpa using hk)
      rw [show n + (k + 1) = n + 1 + k by omega] at this
      simpa using this) (fun k hk => by
      have := h1 (k + 1) (by simpa using hk)
      rw [show n + (k + 1) = n + 1 + k by omega] at this
      simpa [livesZ] using this) (fun k hk => by
      have := h2 (k + 1) (by simpa using hk)
      rw [show n + (k + 1) = n + 1 + k by omega] at this
      simpa using this)
    simp only [a, b, c, ih, lawL]
theorem lawb {A B C : D} {k : Nat} {s : S} {left : Int} {m : M} (e1 : fIx A (.int (k : Int)) = some m.enc) (e2 : fIx B (.int (k : Int)) = some s.enc) (e3 : fIx C (.int (k : Int)) = some (.int left)) : B__law_lawful_0 A B C () (.int (k : Int)) = cond (lawM s left m) (.nx ()) (.rt (.bl false)) := by
  obtain ⟨sl, cap, er, an⟩ := s
  obtain ⟨la, st, to⟩ := m
  simp only [M.enc, S.enc, S.ds] at e1 e2
  have T : ∀ b : Bool, lawM ⟨sl, cap, er, an⟩ left ⟨la, st, to⟩ = b → (B__law_lawful_0 A B C () (.int (k : Int)) = cond b (.nx ()) (.rt (.bl false))) → B__law_lawful_0 A B C () (.int (k : Int)) = cond (lawM ⟨sl, cap, er, an⟩ left ⟨la, st, to⟩) (.nx ()) (.rt (.bl false)) := fun b h g => by rw [h]; exact g
  by_cases h1 : la < 0
  · exact T false (by simp [lawM]; omega) (by simp [B__law_lawful_0, e1, e2, e3, h1])
  · by_cases h2 : sl < la
    · exact T false (by simp [lawM]; omega) (by simp [B__law_lawful_0, e1, e2, e3, h1, h2])
    · by_cases h3 : st < 0
      · exact T false (by simp [lawM]; omega) (by simp [B__law_lawful_0, e1, e2, e3, h1, h2, h3])
      · by_cases h4 : to < 0
        · exact T false (by simp [lawM]; omega) (by simp [B__law_lawful_0, e1, e2, e3, h1, h2, h3, h4])
        · by_cases h5 : st < to
          · exact T false (by simp [lawM]; omega) (by simp [B__law_lawful_0, e1, e2, e3, h1, h2, h3, h4, h5])
          · by_cases h6 : to < st - er
            · exact T false (by simp [lawM]; omega) (by simp [B__law_lawful_0, e1, e2, e3, h1, h2, h3, h4, h5, h6])
            · by_cases h7 : left < to
              · exact T false (by simp [lawM]; omega) (by simp [B__law_lawful_0, e1, e2, e3, h1, h2, h3, h4, h5, h6, h7])
              · cases cap with
                | none => exact T true (by simp [lawM]; omega) (by simp [B__law_lawful_0, e1, e2, e3, h1, h2, h3, h4, h5, h6, h7, capD])
                | some c => by_cases h8 : c < to
                            · exact T false (by simp [lawM]; omega) (by simp [B__law_lawful_0, e1, e2, e3, h1, h2, h3, h4, h5, h6, h7, h8, capD])
                            · exact T true (by simp [lawM]; omega) (by simp [B__law_lawful_0, e1, e2, e3, h1, h2, h3, h4, h5, h6, h7, h8, capD])
theorem ll (way : List S) (hw : way.length ≤ 1000) (life : Int) (l : List M) : F__law_lawful (W false way) (.int life) (ms l) = .ok (.bl (lawL life life way l)) := by
  by_cases h : l.length = way.length
  · have hz : (lives life way l).length = way.length := by unfold lives; rw [livesZ_len]; simp; omega
    have LL := lawL_rng life (fun k => way[k]?) (fun k => (lives life way l)[k]?) (fun k => l[k]?) way l life 0 h.symm (fun k _ => by simp) (fun k _ => by simp [lives]) (fun k _ => by simp)
    rw [← List.range_eq_range'] at LL
    have L := Fu.loop_all (f := B__law_lawful_0 (ms l) (W false way) (.tup ((lives life way l).map D.int))) (κ := Empty) (fun k : Nat => D.int (0 + (k : Int))) (fun k => match way[k]?, (lives life way l)[k]?, l[k]? with | some s, some x, some m => lawM s x m | _, _, _ => false) (.bl false) (List.range way.length) (by
      intro k hk
      have hk : k < way.length := List.mem_range.mp hk
      have e0 : way[k]? = some way[k] := List.getElem?_eq_getElem hk
      have e1 : (lives life way l)[k]? = some ((lives life way l)[k]'(by omega)) := List.getElem?_eq_getElem _
      have e2 : l[k]? = some (l[k]'(by omega)) := List.getElem?_eq_getElem _
      simp only [e0, e1, e2, Int.zero_add]
      exact lawb (by simp [ms, e2]) (ixW way k _ e0) (by simp [e1]))
    rw [LL] at L
    have t := lv way hw life l h
    have hn : fNe (.int (l.length : Nat)) (.int (way.length : Nat)) = some (.bl false) := by simp [h]
    have hm : fLen [ms l] = some (.int (l.length : Nat)) := by simp [ms]
    have L : (Fu.loop (B__law_lawful_0 (ms l) (W false way) (.tup ((lives life way l).map D.int))) (intsD 0 way.length) () : Fu.O D Empty _) = _ := L
    cases hb : lawL life life way l <;> rw [hb] at L <;> simp only [cond] at L <;> simp [F__law_lawful, hm, len_W, hn, t, rg1 (show way.length ≤ 1000000000 by omega), L]
  · have hb : lawL life life way l = false := by
      cases e : lawL life life way l with
      | false => rfl
      | true => exact absurd (lawL_len e) h
    have hm : fLen [ms l] = some (.int (l.length : Nat)) := by simp [ms]
    have h2 : ¬ ((l.length : Int) = way.length) := by omega
    simp [F__law_lawful, hm, len_W, h2, hb]
theorem room (s : S) (l : Int) : F__law_room s.enc (.int l) = .ok (.int (minC l s.cap)) := by
  cases h : s.cap <;> simp [F__law_room, ix1, h, capD, minC]
end K06
end

section
set_option maxHeartbeats 400000
namespace K06
open Py PySem L2
open StM
theorem atI_last {α : Type} (xs : List α) : atI xs (-1) = xs.getLast? := by
  unfold atI ixN
  cases xs with
  | nil => rfl
  | cons x xs =>
    rw [if_neg (by omega), if_pos (by simp; omega), List.getLast?_eq_getElem?]
    show (x :: xs)[_]? = _
    congr 1
    simp; omega
theorem caps_g (way : List S) : caps way = grc (some 0) way := by
  unfold caps
  have := caps_gc way way 0 0 (by omega) (by simp)
  rw [this]; simp [capF]
theorem addc_nn {a c : Option Int} (ha : ∀ x, a = some x → 0 ≤ x) (hc : ∀ x, c = some x → 0 ≤ x) : ∀ x, addc a c = some x → 0 ≤ x := fun x e => by
  cases e1 : a with
  | none => rw [e1] at e; cases e
  | some y => cases e2 : c with
    | none => rw [e1, e2] at e; cases e
    | some z => rw [e1, e2] at e; cases e; have := ha y e1; have := hc z e2; omega
structure SI (way : List S) (life : Int) (as : List S) (acc : List Int) (a : Option Int) : Prop where
  nn : ∀ x, a = some x → 0 ≤ x
  ok : ∀ s ∈ as, s.ok
  more : as ≠ [] → acc ++ (grc a as).map (minC life) = (caps way).map (minC life) ∧ as.getLast? = way.getLast?
  last : as = [] → ∃ s, way.getLast? = some s ∧ (if s.anew = true then acc else acc ++ [minC life a]) = (caps way).map (minC life)
  len : acc.length + as.length ≤ way.length
theorem lsm (way : List S) (h : Way way) (life : Int) (hp : 0 ≤ life) : F__law_sums (W false way) (.int life) = .ok (.tup (((caps way).map (minC life)).map D.int)) := by
  have z0 : minC life (some 0) = 0 := by simp only [minC]; split <;> omega
  have hl := h.len
  obtain ⟨s', h1, acc, a, rfl, hi⟩ := Fu.loop_ind (f := B__law_sums_0 (.int life)) (κ := Empty) (eS false) (fun as st => ∃ (acc : List Int) (a : Option Int), st = (acc.map D.int, .int (life - minC life a), .int (minC life a)) ∧ SI way life as acc a)
    (by
      rintro s as st ⟨acc, a, rfl, hi⟩
      have hs := hi.ok s List.mem_cons_self
      obtain ⟨m1, m2⟩ := hi.more (by simp)
      have hlen := hi.len
      simp only [List.length_cons] at hlen
      have ma := minC_add hp a s.cap hi.nn hs.2.1
      have r := room s (life - minC life a)
      cases hb : s.anew with
      | true =>
        refine ⟨((acc ++ [minC life (addc a s.cap)]).map D.int, .int (life - minC life (some 0)), .int (minC life (some 0))), .inl ?_, _, _, rfl, fun x e => by cases e; omega, fun t ht => hi.ok t (List.mem_cons_of_mem _ ht), fun hne => ?_, fun he => ?_, by simp only [List.length_append, List.length_cons, List.length_nil]; omega⟩
        · rw [z0, ma]
          simp [B__law_sums_0, eS, r, ix3, hb, eq_kd, show acc.length < 16777216 by omega]
        · rw [← m1, ← m2]
          obtain ⟨b, bs, rfl⟩ : ∃ b bs, as = b :: bs := by
            cases as with
            | nil => exact absurd rfl hne
            | cons b bs => exact ⟨b, bs, rfl⟩
          exact ⟨by rw [grc.eq_def a]; simp [hb], by simp⟩
        · subst he
          refine ⟨s, by rw [← m2]; rfl, ?_⟩
          rw [if_pos hb, ← m1]; simp [grc]
      | false =>
        refine ⟨(acc.map D.int, .int (life - minC life (addc a s.cap)), .int (minC life (addc a s.cap))), .inl ?_, _, _, rfl, addc_nn hi.nn hs.2.1, fun t ht => hi.ok t (List.mem_cons_of_mem _ ht), fun hne => ?_, fun he => ?_, by omega⟩
        · rw [ma]
          simp [B__law_sums_0, eS, r, ix3, hb, eq_kd]; omega
        · rw [← m1, ← m2]
          obtain ⟨b, bs, rfl⟩ : ∃ b bs, as = b :: bs := by
            cases as with
            | nil => exact absurd rfl hne
            | cons b bs => exact ⟨b, bs, rfl⟩
          exact ⟨by rw [grc.eq_def a]; simp [hb], by simp⟩
        · subst he
          refine ⟨s, by rw [← m2]; rfl, ?_⟩
          rw [if_neg (by simp [hb]), ← m1]; simp [grc]) way ([], .int (life - minC life (some 0)), .int (minC life (some 0))) ⟨[], some 0, rfl, fun x e => by cases e; omega, h.ok, fun _ => ⟨by rw [caps_g]; rfl, rfl⟩, fun e => absurd e h.ne, by simp⟩
  rw [z0, Int.sub_zero] at h1
  obtain ⟨s, l1, l2⟩ := hi.last rfl
  have l3 := hi.len
  simp only [List.length_nil] at l3
  have lx : fIx (W false way) (.int (-1)) = some s.enc := by
    have : W false way = .tup (way.map S.enc) := by simp [W, eS]
    rw [this, ix_tup', atI_last, List.getLast?_map, l1]; rfl
  have on : ∀ b : Bool, fEq (.str (kd b)) (.str "on") = some (.bl (!b)) := by intro b; cases b <;> kernel_rfl
  cases hb : s.anew <;> simp [hb] at l2 <;> simp [F__law_sums, its_W, h1, lx, ix3, hb, on, show acc.length < 16777216 by omega, ← l2]
end K06
end

section
set_option maxHeartbeats 400000
namespace K06
open Py PySem L2
open StM
theorem cut_last {xs : List D} : fCut (.tup xs) none (some (-1)) = some (.tup xs.dropLast) := by
  show some (D.tup (cutD xs none (some (-1)))) = _
  simp only [cutD, HT.sIx_none, List.drop_zero, Nat.sub_zero, HT.sIx]
  rw [if_pos (by omega), List.dropLast_eq_take, show (-1 + (xs.length : Int)).toNat = xs.length - 1 by omega]
structure Small (way : List S) : Prop where
  wy : Way way
  len : way.length ≤ 3
  low : ∀ s ∈ way, s.slow + s.err ≤ 4
theorem course (ds : List D) (h : FuM.Sm ds) : ∃ (way : List S) (ds' : List D), Small way ∧ FuM.Sm ds' ∧ F__law_course ds = .ok (W false way, ds') := by
  obtain ⟨k1, d1, a1, b1, hd1, e1⟩ := FuM.take h 3 (by omega)
  obtain ⟨v, p1, q1, r1⟩ : ∃ v : Int, 0 < v ∧ v ≤ 3 ∧ atI [D.int 2, .int 1, .int 3] k1 = some (.int v) := by
    obtain ⟨x, hx, e⟩ := Fu.atI_in (xs := [D.int 2, .int 1, .int 3]) a1 b1
    rw [e]; simp at hx
    rcases hx with rfl | rfl | rfl <;> exact ⟨_, by decide, by decide, rfl⟩
  obtain ⟨s', h1, d2, way, rfl, hs, ho, hl⟩ := Fu.loop_R (f := B__law_course_0) (κ := Empty) 0 v.toNat (fun k s => ∃ (ds' : List D) (way : List S), s = (ds', way.map (eS false)) ∧ FuM.Sm ds' ∧ (∀ s ∈ way, s.ok ∧ s.slow + s.err ≤ 4) ∧ way.length = k)
    (by
      rintro n s hk ⟨ds', way, rfl, hs, ho, hl⟩
      obtain ⟨k1, d1, a1, b1, hd1, e1⟩ := FuM.take hs 3 (by omega)
      obtain ⟨k2, d2, a2, b2, hd2, e2⟩ := FuM.take hd1 4 (by omega)
      obtain ⟨k3, d3, a3, b3, hd3, e3⟩ := FuM.take hd2 3 (by omega)
      obtain ⟨k4, d4, a4, b4, hd4, e4⟩ := FuM.take hd3 2 (by omega)
      obtain ⟨v1, p1, q1, r1⟩ : ∃ v : Int, 0 ≤ v ∧ v ≤ 2 ∧ atI [D.int 1, .int 0, .int 2] k1 = some (.int v) := by
        obtain ⟨x, hx, e⟩ := Fu.atI_in (xs := [D.int 1, .int 0, .int 2]) a1 b1
        rw [e]; simp at hx
        rcases hx with rfl | rfl | rfl <;> exact ⟨_, by decide, by decide, rfl⟩
      obtain ⟨v2, p2, r2⟩ : ∃ v : Option Int, (∀ x, v = some x → 0 ≤ x) ∧ atI [D.int 2, .non, .int 0, .int 5] k2 = some (capD v) := by
        obtain ⟨x, hx, e⟩ := Fu.atI_in (xs := [D.int 2, .non, .int 0, .int 5]) a2 b2
        rw [e]; simp at hx
        rcases hx with rfl | rfl | rfl | rfl
        · exact ⟨some 2, by simp, rfl⟩
        · exact ⟨none, by simp, rfl⟩
        · exact ⟨some 0, by simp, rfl⟩
        · exact ⟨some 5, by simp, rfl⟩
      obtain ⟨v3, p3, q3, r3⟩ : ∃ v : Int, 0 ≤ v ∧ v ≤ 2 ∧ atI [D.int 1, .int 0, .int 2] k3 = some (.int v) := by
        obtain ⟨x, hx, e⟩ := Fu.atI_in (xs := [D.int 1, .int 0, .int 2]) a3 b3
        rw [e]; simp at hx
        rcases hx with rfl | rfl | rfl <;> exact ⟨_, by decide, by decide, rfl⟩
      obtain ⟨v4, r4⟩ : ∃ v : Bool, atI [D.str "on", .str "anew"] k4 = some (.str (kd v)) := by
        obtain ⟨x, hx, e⟩ := Fu.atI_in (xs := [D.str "on", .str "anew"]) a4 b4
        rw [e]; simp at hx
        rcases hx with rfl | rfl
        · exact ⟨false, rfl⟩
        · exact ⟨true, rfl⟩
      refine ⟨(d4, (way ++ [(⟨v1, v2, v3, v4⟩ : S)]).map (eS false)), .inl ?_, d4, way ++ [(⟨v1, v2, v3, v4⟩ : S)], rfl, hd4, fun x hx => ?_, by simp [hl]⟩
      · simp [B__law_course_0, tk_eq, e1, e2, e3, e4, r1, r2, r3, r4, eS, S.enc, S.ds, show way.length < 16777216 by omega]
      · rcases List.mem_append.mp hx with hx | hx
        · exact ho x hx
        · rw [List.mem_singleton.mp hx]; exact ⟨⟨p1, p2, p3⟩, by simp only; omega⟩) (d1, []) ⟨d1, [], rfl, hd1, by simp, rfl⟩
  refine ⟨way, d2, ⟨⟨fun s hs => (ho s hs).1, fun z => by subst z; simp at hl; omega, by omega⟩, by omega, fun s hs => (ho s hs).2⟩, hs, ?_⟩
  simp [F__law_course, tk_eq, e1, r1, rg1i (show -1000000000 ≤ v by omega) (show v ≤ 1000000000 by omega), h1, W]
theorem moments (ds : List D) (h : FuM.Sm ds) (way : List S) (hw : Way way) (life : Int) (hp : 0 ≤ life) : ∃ (l : List M) (ds' : List D), lawL life life way l = true ∧ FuM.Sm ds' ∧ F__law_moments ds (W false way) (.int life) = .ok (ms l, ds') := by
  have hl := hw.len
  obtain ⟨s', h1, d2, acc, left, rfl, hs, _, _, hh, _⟩ := Fu.loop_ind (f := B__law_moments_0 (.int life)) (κ := Empty) (eS false) (fun as st => ∃ (ds' : List D) (acc : List M) (left : Int), st = (ds', acc.map M.enc, .int left) ∧ FuM.Sm ds' ∧ 0 ≤ left ∧ (∀ s ∈ as, s.ok) ∧ (∀ l', lawL life left as l' = true → lawL life life way (acc ++ l') = true) ∧ acc.length + as.length = way.length)
    (by
      rintro s as st ⟨ds', acc, left, rfl, hs, h0, ho, hh, hc⟩
      simp only [List.length_cons] at hc
      have o := ho s List.mem_cons_self
      have mn := minC_nn h0 s.cap o.2.1
      have mle : minC left s.cap ≤ left ∧ ∀ c, s.cap = some c → minC left s.cap ≤ c := by
        cases e : s.cap with
        | none => exact ⟨Int.le_refl _, fun c e => nomatch e⟩
        | some c => exact ⟨by simp only [minC]; split <;> omega, fun d e => by cases e; simp only [minC]; split <;> omega⟩
      obtain ⟨k1, d1, a1, b1, hd1, e1⟩ := FuM.take hs (s.slow + 1) (by have := o.1; omega)
      obtain ⟨k2, d2, a2, b2, hd2, e2⟩ := FuM.take hd1 (minC left s.cap + 1) (by omega)
      obtain ⟨k3, d3, a3, b3, hd3, e3⟩ := FuM.take hd2 (s.err + 1) (by have := o.2.2; omega)
      have r := room s left
      have law : lawM s left ⟨k1, k2 + k3, k2⟩ = true := by
        cases e : s.cap with
        | none => simp [lawM, e]; omega
        | some c => have := mle.2 c e; simp [lawM, e]; omega
      refine ⟨(d3, (acc ++ [(⟨k1, k2 + k3, k2⟩ : M)]).map M.enc, .int (nextL life left s ⟨k1, k2 + k3, k2⟩)), .inl ?_, d3, acc ++ [(⟨k1, k2 + k3, k2⟩ : M)], _, rfl, hd3, ?_, fun t ht => ho t (List.mem_cons_of_mem _ ht), fun l' hl' => ?_, by simp only [List.length_append, List.length_cons, List.length_nil]; omega⟩
      · cases hb : s.anew <;> simp [B__law_moments_0, eS, tk_eq, ix0, ix2, ix3, e1, r, e2, e3, hb, eq_kd, M.enc, nextL, show acc.length < 16777216 by omega]
      · unfold nextL; split
        · exact hp
        · show 0 ≤ left - k2; omega
      · rw [List.append_assoc]
        exact hh _ (by simp [lawL, law, hl'])) way (ds, [], .int life) ⟨ds, [], life, rfl, h, hp, hw.ok, fun l' hl' => hl', by simp⟩
  have := hh [] rfl
  rw [List.append_nil] at this
  exact ⟨acc, d2, this, hs, by simp [F__law_moments, its_W, h1, ms]⟩
def wrongM (s : S) (left : Int) (m : M) : List M :=
  [⟨s.slow + 1, m.stay, m.told⟩, ⟨-1, m.stay, m.told⟩, ⟨m.late, m.told - 1, m.told⟩, ⟨m.late, m.told + s.err + 1, m.told⟩, ⟨m.late, left + 1, left + 1⟩, ⟨m.late, left + 1 + s.err, left + 1⟩, ⟨m.late, 0, -1⟩, ⟨m.late, -1, 0⟩, ⟨m.late, -1, -1⟩] ++
  (match s.cap with | none => [] | some c => [⟨m.late, c + 1, c + 1⟩, ⟨m.late, c + 1 + s.err, c + 1⟩]) ++ [⟨m.late, m.told, m.told⟩]
theorem spoilt (way : List S) (h : Way way) (life : Int) (l : List M) (hl : l.length = way.length) (k : Nat) (hk : k < way.length) : ∃ ls : List (List M), (∀ x ∈ ls, x.length ≤ way.length + 1) ∧ F__law_spoilt (W false way) (.int life) (ms l) (.int (k : Int)) = .ok (ls.map ms) := by
  have wl := h.len
  have t := lv way wl life l hl
  have hz : (lives life way l).length = way.length := by unfold lives; rw [livesZ_len]; simp; omega
  obtain ⟨s, hs⟩ : ∃ s, way[k]? = some s := ⟨_, List.getElem?_eq_getElem hk⟩
  obtain ⟨m, hm⟩ : ∃ m, l[k]? = some m := ⟨_, List.getElem?_eq_getElem (by omega)⟩
  obtain ⟨x, hx⟩ : ∃ x, (lives life way l)[k]? = some x := ⟨_, List.getElem?_eq_getElem (by omega)⟩
  have i1 : fIx (ms l) (.int (k : Int)) = some m.enc := by simp [ms, hm]
  have i2 := ixW way k s hs
  have i3 : fIx (.tup ((lives life way l).map D.int)) (.int (k : Int)) = some (.int x) := by simp [hx]
  let f := fun r : M => l.take k ++ r :: l.drop (k + 1)
  have c1 : fCut (ms l) none (some (k : Int)) = some (.tup ((l.take k).map M.enc)) := by unfold ms; rw [Fu.cut_to (by omega)]; simp [List.map_take]
  have c2 : fCut (ms l) (some ((k : Int) + 1)) none = some (.tup ((l.drop (k + 1)).map M.enc)) := by unfold ms; rw [Fu.cut_from (by omega), show ((k : Int) + 1).toNat = k + 1 by omega]; simp [List.map_drop]
  have c3 : fCut (ms l) none (some (-1)) = some (ms l.dropLast) := by unfold ms; rw [cut_last, List.map_dropLast]
  have ad : fAdd (ms l) (.tup [.tup [.int 0, .int 0, .int 0]]) = some (ms (l ++ [⟨0, 0, 0⟩])) := by unfold ms; rw [Fu.add_tup, if_pos (by simp; omega)]; simp [M.enc]
  have tk : (l.take k).length = k := by simp; omega
  have dk : (l.drop (k + 1)).length ≤ 1000 := by simp; omega
  have q : (Fu.lcS some (fun z171 => Fu.S.ok true) (fun z171 => Fu.S.bin fAdd (Fu.S.bin fAdd (Fu.S.cut (Fu.S.ok (ms l)) Fu.S.nop (Fu.S.part (Fu.S.ok (.int (k : Int))))) (Fu.S.tup (Fu.S.cons (Fu.S.ok z171) Fu.S.nil))) (Fu.S.cut (Fu.S.ok (ms l)) (Fu.S.part (Fu.S.bin fAdd (Fu.S.ok (.int (k : Int))) (Fu.S.ok (.int 1)))) Fu.S.nop)) ((wrongM s x m).map M.enc) : Fu.S Unit (List D)) = Fu.S.ok ((wrongM s x m).map fun r => ms (f r)) :=
    Fu.lcS_all M.enc (fun r => ms (f r)) (wrongM s x m) fun r _ => ⟨_, rfl, by
      have a1 : fAdd (.tup ((l.take k).map M.enc)) (.tup [r.enc]) = some (.tup ((l.take k).map M.enc ++ [r.enc])) := by rw [Fu.add_tup, if_pos (by simp; omega)]
      have a2 : fAdd (.tup ((l.take k).map M.enc ++ [r.enc])) (.tup ((l.drop (k + 1)).map M.enc)) = some (ms (f r)) := by rw [Fu.add_tup, if_pos (by simp; omega)]; simp [f, ms]
      simp only [List.map_take, List.map_drop] at c1 c2 a1 a2
      simp [c1, c2, a1, a2]⟩
  simp at q
  refine ⟨(wrongM s x m).map f ++ [l.dropLast, l ++ [⟨0, 0, 0⟩]], fun y hy => ?_, ?_⟩
  · rcases List.mem_append.mp hy with hy | hy
    · obtain ⟨r, _, rfl⟩ := List.mem_map.mp hy
      simp [f]; omega
    · simp at hy
      rcases hy with rfl | rfl
      · simp; omega
      · simp; omega
  · obtain ⟨sl, cap, er, an⟩ := s
    cases cap with
    | none => simp [wrongM, M.enc] at q; simp [F__law_spoilt, i1, i2, t, i3, M.enc, S.enc, S.ds, capD, q, c3, ad, wrongM]
    | some c => simp [wrongM, M.enc] at q; simp [F__law_spoilt, i1, i2, t, i3, M.enc, S.enc, S.ds, capD, q, c3, ad, wrongM]
end K06
end

section
set_option maxHeartbeats 400000
namespace K06
open Py PySem L2
open StM
theorem hours (l : List M) (hl : l.length ≤ 1001) : F__law_hours (ms l) = .ok (.int (hrs l)) := by
  have q : (Fu.lcS some (fun z1 => Fu.S.ok true) (fun z1 => Fu.S.bin fAdd (Fu.S.bin fIx (Fu.S.ok z1) (Fu.S.ok (.int 0))) (Fu.S.bin fIx (Fu.S.ok z1) (Fu.S.ok (.int 1)))) (l.map M.enc) : Fu.S Unit (List D)) = Fu.S.ok (l.map fun m => D.int (m.late + m.stay)) :=
    Fu.lcS_all M.enc (fun m => D.int (m.late + m.stay)) l fun m _ => ⟨_, rfl, by simp [M.enc]⟩
  simp at q
  have e := Fu.sumA_lst (l.map fun m => m.late + m.stay)
  simp only [List.map_map] at e
  have e2 : fSumA [.lst (l.map fun m => D.int (m.late + m.stay))] = some (.int (hrs l)) := e
  simp [F__law_hours, ms, q, show l.length ≤ 16777216 by omega, e2]
theorem mom (l : List M) (n : Nat) (h : l.length = n) : F__law_is_moments (ms l) (.int (n : Nat)) = .ok (.bl true) := by
  have L : (Fu.loop B__law_is_moments_0 (l.map M.enc) () : Fu.O D Empty _) = .nx () := Fu.loop_same fun x hx => by
    obtain ⟨m, _, rfl⟩ := List.mem_map.mp hx
    simp [B__law_is_moments_0, M.enc, ist1, Lint, Fu.lcS]
  simp [F__law_is_moments, ms, ist1, h, L]
theorem w1 : fIs T [eCa (.tup []), .cl "BadCase"] = some (.bl true) := by kernel_rfl
theorem w2 : fIs T [eCa (.tup []), .cl "KeysError"] = some (.bl true) := by kernel_rfl
theorem w3 : fIs T [eCa (.tup []), .cl "BadNumber"] = some (.bl false) := by kernel_rfl
theorem w4 : fIs T [eCa (.tup []), .cl "BadStore"] = some (.bl false) := by kernel_rfl
theorem w5 : exMatch T (eCa (.tup [])) "KeysError" = some true := by kernel_rfl
theorem w6 : (T.lookup ("BadCase" : Str)).isSome = true := by kernel_rfl
theorem w7 : (Fu.S.at T "at" (Fu.S.ok (eCa (.tup []))) : Fu.S Unit D) = Fu.S.ok (.tup []) := by simp [eCa, w6]
theorem w8 : fEq (.tup []) (.tup []) = some (.bl true) := Fu.eqS (by simp [D.dat, D.datL])
theorem case1 : F__law_is_case (eCa (.tup [])) = .ok (.bl true) := by simp [F__law_is_case, w1, w2, w3, w4, w7, ist1, w8]
theorem isb (b : Bool) : F__law_is_bool (.bl b) (.bl b) = .ok (.bl true) := by cases b <;> simp [F__law_is_bool]
theorem spoils (way : List S) (h : Small way) (life v : Int) (hp : 0 ≤ life) (ls : List (List M)) (hls : ∀ x ∈ ls, x.length ≤ way.length + 1) : F__law_spoils_told (W false way) (.int life) (.int v) (.lst (ls.map ms)) = .ok (.bl true) := by
  have wl := h.len
  have L : (Fu.loop (B__law_spoils_told_0 (W false way) (.int life) (.int v)) (ls.map ms) () : Fu.O D Empty _) = .nx () := Fu.loop_same fun x hx => by
    obtain ⟨l, hl, rfl⟩ := List.mem_map.mp hx
    have l4 := hls l hl
    have a1 := ll way (by omega) life l
    have a2 := ic way h.wy life v hp l (by omega)
    have a3 := chs v l (by omega)
    have a4 := hours l (by omega)
    have a5 := la way h.wy life v hp l (by omega)
    cases hb : lawL life life way l with
    | true =>
      rw [hb] at a1 a2 a5
      have a6 := lv way (by omega) life l (lawL_len hb)
      have a7 := row (lives life way l) (by unfold lives; rw [livesZ_len]; simp; omega)
      simp only [if_true] at a5
      simp [B__law_spoils_told_0, a1, a2, isb, a3, a4, Lint, a5, a6, a7]
    | false =>
      rw [hb] at a1 a2 a5
      simp at a5
      simp [B__law_spoils_told_0, a1, a2, isb, a3, a4, Lint, a5, Fu.hdO, w5, case1]
  simp [F__law_spoils_told, L]
theorem icG (way : List S) (h : Way way) (life : Int) (hp : 0 ≤ life) (d : D) (h1 : Fu.okD d = true) (h2 : Fu.sz d ≤ 900000) : F_is_copy (W false way) (.int life) d = F_is_plain_copy (W false way) (.int life) (Fu.pl d) := by
  cases e : F_is_plain_copy (W false way) (.int life) (Fu.pl d) <;> simp [F_is_copy, cw false way h, cn life hp, pf d h1 h2, e]
  rfl
theorem icX (way : List S) (h : Way way) (life : Int) (hp : 0 ≤ life) (d : D) (h1 : Fu.okD d = true) (h2 : Fu.sz d ≤ 900000) (h3 : F_has_copy_form (Fu.pl d) = .ok (.bl false)) : F_is_copy (W false way) (.int life) d = .ok (.bl false) := by
  rw [icG way h life hp d h1 h2]
  simp [F_is_plain_copy, h3]
theorem okL1 : ∀ (xs : List D) (y : D), Fu.okDL (xs ++ [y]) = (Fu.okDL xs && Fu.okD y)
  | [], y => by simp [Fu.okDL]
  | x :: xs, y => by simp [Fu.okDL, okL1 xs y, Bool.and_assoc]
theorem szL1 : ∀ (xs : List D) (y : D), Fu.szL (xs ++ [y]) = Fu.szL xs + Fu.sz y
  | [], y => by simp [Fu.szL]
  | x :: xs, y => by simp [Fu.szL, szL1 xs y]; omega
theorem plL1 : ∀ (xs : List D) (y : D), Fu.plL (xs ++ [y]) = Fu.plL xs ++ [Fu.pl y]
  | [], y => by simp [Fu.plL]
  | x :: xs, y => by simp [Fu.plL, plL1 xs y]
theorem formX (v : Int) (l : List M) (y : D) (hy : B_has_copy_form_1 () y = .rt (.bl false)) : F_has_copy_form (.tup [.int v, .tup (l.map M.enc ++ [y])]) = .ok (.bl false) := by
  have L : (Fu.loop B_has_copy_form_1 (l.map M.enc ++ [y]) () : Fu.O D Empty _) = .rt (.bl false) := by
    refine Fu.loop_hit (fun x hx => ?_) hy
    obtain ⟨m, _, rfl⟩ := List.mem_map.mp hx
    have L0 : (Fu.loop B_has_copy_form_0 [.int m.late, .int m.stay, .int m.told] () : Fu.O D Unit _) = .nx () := Fu.loop_same fun x hx => by
      have hx : x = .int m.late ∨ x = .int m.stay ∨ x = .int m.told := by simpa using hx
      rcases hx with rfl | rfl | rfl <;> simp [B_has_copy_form_0, int1]
    simp [B_has_copy_form_1, M.enc, ist2, L0]
  simp [F_has_copy_form, ist2, int1, L]
theorem bad1 : B_has_copy_form_1 () (.tup [.int 0, .int 0]) = .rt (.bl false) := by simp [B_has_copy_form_1, ist2]
theorem bad2 : B_has_copy_form_1 () (.tup [.int 0, .int 0, .str "0"]) = .rt (.bl false) := by
  have : (Fu.loop B_has_copy_form_0 [.int 0, .int 0, .str "0"] () : Fu.O D Unit _) = .rt (.bl false) :=
    Fu.loop_hit (xs := [.int 0, .int 0]) (zs := []) (fun x hx => by
      have hx : x = .int 0 := by simpa using hx
      rw [hx]; simp [B_has_copy_form_0, int1]) (by simp [B_has_copy_form_0, intS])
  simp [B_has_copy_form_1, ist2, this]
theorem int0 (ds : List D) : F_is_int (.tup ds) = .ok (.bl false) := rfl
theorem two {α : Type} {l : List α} (h : l.length = 2) : ∃ a b, l = [a, b] :=
  match l, h with
  | [a, b], _ => ⟨a, b, rfl⟩
theorem is7 : fIs T [.int 7, .ty .tup] = some (.bl false) := rfl
theorem is0 : fIs T [.int 0, .ty .tup] = some (.bl false) := rfl
theorem formsL (way : List S) (life : Int) (ds : List D) (hd : ∀ d ∈ ds, F_is_copy (W false way) (.int life) d = .ok (.bl false)) : (Fu.loop (B__law_forms_told_0 (W false way) (.int life)) ds () : Fu.O D Empty _) = .nx () := Fu.loop_same fun x hx => by
  simp [B__law_forms_told_0, hd x hx]
theorem forms (way : List S) (h : Small way) (life v : Int) (hp : 0 ≤ life) (l : List M) (hb : lawL life life way l = true) : F__law_forms_told (W false way) (.int life) (.int v) (ms l) = .ok (.bl true) := by
  have wl := h.len
  have ln := lawL_len hb
  obtain ⟨o1, o2, o3, o4⟩ := ok_ms l
  obtain ⟨p1, p2⟩ := pl_ms l
  obtain ⟨q1, q2, q3, q4⟩ := ok_ms l.dropLast
  obtain ⟨r1, r2⟩ := pl_ms l.dropLast
  have dl : l.dropLast.length ≤ 3 := by simp; omega
  have c3 : fCut (ms l) none (some (-1)) = some (ms l.dropLast) := by unfold ms; rw [cut_last, List.map_dropLast]
  have ad : ∀ y, fAdd (ms l.dropLast) (.tup [y]) = some (.tup (l.dropLast.map M.enc ++ [y])) := fun y => by unfold ms; rw [Fu.add_tup, if_pos (by simp; omega)]
  have lc : (Fu.lcS some (fun z2 => Fu.S.ok true) (fun z2 => Fu.S.cal fList (Fu.S.cons (Fu.S.ok z2) Fu.S.nil)) (l.map M.enc) : Fu.S Unit (List D)) = Fu.S.ok (l.map M.encL) :=
    Fu.lcS_all M.enc M.encL l fun m _ => ⟨_, rfl, by simp [M.enc, M.encL]⟩
  simp at lc
  have g0 : F_is_copy (W false way) (.int life) (.lst [.int v, .lst (l.map M.encL)]) = .ok (.bl true) := by
    rw [icG way h.wy life hp _ (by simp [Fu.okD, Fu.okDL, o3]) (by simp [Fu.sz, Fu.szL, o4]; omega)]
    have := ipc way life v l (by omega)
    rw [hb] at this
    simpa [Fu.pl, Fu.plL, p2, ms] using this
  have X := fun d => icX way h.wy life hp d
  have g1 := X (.tup [.non, ms l]) (by simp [Fu.okD, Fu.okDL, ms, o1]) (by simp [Fu.sz, Fu.szL, ms, o2]; omega) (by simp [Fu.pl, Fu.plL, ms, p1, F_has_copy_form, ist2, intN])
  have g2 := X (.tup [.str "0", ms l]) (by simp [Fu.okD, Fu.okDL, ms, o1]) (by simp [Fu.sz, Fu.szL, ms, o2]; omega) (by simp [Fu.pl, Fu.plL, ms, p1, F_has_copy_form, ist2, intS])
  have g3 := X (.tup [.int v]) (by simp [Fu.okD, Fu.okDL]) (by simp [Fu.sz, Fu.szL]) (by simp [Fu.pl, Fu.plL, F_has_copy_form, ist2])
  have g4 := X (.tup [.int v, ms l, .int 0]) (by simp [Fu.okD, Fu.okDL, ms, o1]) (by simp [Fu.sz, Fu.szL, ms, o2]; omega) (by simp [Fu.pl, Fu.plL, F_has_copy_form, ist2])
  have g5 := X (.tup [.int v, .int 0]) (by simp [Fu.okD, Fu.okDL]) (by simp [Fu.sz, Fu.szL]) (by simp [Fu.pl, Fu.plL, F_has_copy_form, ist2, int1, is0])
  have g6 := X (ms l) (by simp [Fu.okD, ms, o1]) (by simp [Fu.sz, ms, o2]; omega) (by
    simp only [Fu.pl, ms, p1]
    by_cases e2 : l.length = 2
    · obtain ⟨a, b, e⟩ := two e2
      rw [e]
      simp [F_has_copy_form, ist2, M.enc, int0]
    · have : ¬ ((l.length : Int) = 2) := by omega
      simp [F_has_copy_form, ist2, this])
  have g7 := X (.int 7) rfl (by simp [Fu.sz]) (by simp [Fu.pl, F_has_copy_form, is7])
  have g8 := X (.tup [.int v, .tup (l.dropLast.map M.enc ++ [.tup [.int 0, .int 0]])]) (by simp only [Fu.okD, Fu.okDL, okL1, q1]; rfl) (by simp only [Fu.sz, Fu.szL, szL1, q2]; omega) (by
    have := formX v l.dropLast _ bad1
    simpa only [Fu.pl, Fu.plL, plL1, r1] using this)
  have g9 := X (.tup [.int v, .tup (l.dropLast.map M.enc ++ [.tup [.int 0, .int 0, .str "0"]])]) (by simp only [Fu.okD, Fu.okDL, okL1, q1]; rfl) (by simp only [Fu.sz, Fu.szL, szL1, q2]; omega) (by
    have := formX v l.dropLast _ bad2
    simpa only [Fu.pl, Fu.plL, plL1, r1] using this)
  have c9 : F_copy_hours (.tup [.int v, .tup (l.dropLast.map M.enc ++ [.tup [.int 0, .int 0]])]) = .err (eCa (.tup [])) := by
    have p := pf (.tup [.int v, .tup (l.dropLast.map M.enc ++ [.tup [.int 0, .int 0]])]) (by simp only [Fu.okD, Fu.okDL, okL1, q1]; rfl) (by simp only [Fu.sz, Fu.szL, szL1, q2]; omega)
    have f := formX v l.dropLast _ bad1
    simp only [Fu.pl, Fu.plL, plL1, r1] at p
    simp only [List.map_dropLast] at p f ⊢
    simp [F_copy_hours, p, f, eCa]
  have i1 : itemsOf (ms l) = some (l.map M.enc) := rfl
  have L := formsL way life [.tup [.non, ms l], .tup [.str "0", ms l], .tup [.int v], .tup [.int v, ms l, .int 0], .tup [.int v, .int 0], ms l, .int 7, .tup [.int v, .tup (l.dropLast.map M.enc ++ [.tup [.int 0, .int 0]])], .tup [.int v, .tup (l.dropLast.map M.enc ++ [.tup [.int 0, .int 0, .str "0"]])]] (fun d hd => by
    simp only [List.mem_cons, List.mem_nil_iff, or_false] at hd
    rcases hd with h | h | h | h | h | h | h | h | h
    · rw [h]; exact g1
    · rw [h]; exact g2
    · rw [h]; exact g3
    · rw [h]; exact g4
    · rw [h]; exact g5
    · rw [h]; exact g6
    · rw [h]; exact g7
    · rw [h]; exact g8
    · rw [h]; exact g9
    )
  simp only [List.map_dropLast] at ad L c9
  simp [F__law_forms_told, i1, lc, show l.length ≤ 16777216 by omega, g0, c3, ad, L, c9, Fu.hdO, w5, case1]
end K06
end

section
set_option maxHeartbeats 400000
namespace K06
open Py PySem L2
open StM
theorem made (way : List S) (h : Small way) (life v r : Int) (hp : 0 ≤ life) (hr : 0 ≤ r) (hd : r ≤ delay way life) : F__law_made (W false way) (.int life) (.int v) (.int r) = .ok (.bl true) := by
  have wl := h.len
  obtain ⟨b1, _, _, b4⟩ := cpy_law hp way h.wy.ok r life hp hr
  have b4 := b4 (by rw [greedy_delay hp way h.wy.ok]; exact hd)
  have ln := cpy_len life r life way
  have c := cof way h.wy life v r hp hr
  rw [if_neg (by omega)] at c
  generalize cpy life r life way = l at *
  have m := mom l way.length ln
  have a1 := ll way (by omega) life l
  have a2 := ic way h.wy life v hp l (by omega)
  have a3 := chs v l (by omega)
  have a4 := hours l (by omega)
  have a5 := la way h.wy life v hp l (by omega)
  have a6 := lv way (by omega) life l ln
  have a7 := row (lives life way l) (by unfold lives; rw [livesZ_len]; simp; omega)
  rw [b1] at a1 a2 a5
  rw [b4] at a3 a4
  simp only [if_true] at a5
  simp [F__law_made, c, ist1, Lint, len_W, m, a1, a4, a2, a3, a5, a6, a7]
theorem stl (way : List S) (h : Way way) (life hh : Int) (hp : 0 ≤ life) (hx : 0 ≤ hh) (d e : D) (h1 : Fu.okD d = true) (h2 : Fu.sz d ≤ 900000) (h3 : Fu.pl d = e) (r : Bool) (h4 : F_plain_too_late (W false way) (.int life) (.int hh) e = .ok (.bl r)) : F_shows_too_late (W false way) (.int life) (.int hh) d = .ok (.bl r) := by
  subst h3
  simp [F_shows_too_late, cw false way h, cn life hp, cn hh hx, pf d h1 h2, h4]
theorem plI : ∀ l : List Int, Fu.plL (l.map D.int) = l.map D.int ∧ Fu.okDL (l.map D.int) = true ∧ Fu.szL (l.map D.int) = l.length
  | [] => ⟨rfl, rfl, rfl⟩
  | i :: l => by
    obtain ⟨a, b, c⟩ := plI l
    simp [Fu.plL, Fu.pl, Fu.okDL, Fu.okD, Fu.szL, Fu.sz, a, b, c]; omega
theorem tlp (way : List S) (h : Way way) (life hh : Int) (hp : 0 ≤ life) (hx : 0 ≤ hh) : F_too_late_paper (W false way) (.int life) (.int hh) = .ok (if hh ≤ delay way life then .non else .tup [.int (base way), .tup (((caps way).map (minC life)).map D.int)]) := by
  have l := ls way life h.len
  have q : ((caps way).map fun c => D.int (minC life c)) = ((caps way).map (minC life)).map D.int := by rw [List.map_map]; rfl
  rw [q] at l
  by_cases hd : hh ≤ delay way life
  · simp [F_too_late_paper, cw false way h, cn life hp, cn hh hx, pd way life h.len, hd]
  · simp [-List.map_map, F_too_late_paper, cw false way h, cn life hp, cn hh hx, pd way life h.len, hd, pb, l]
theorem baseL (way : List S) : (Fu.lcS some (fun z2 => Fu.S.ok true) (fun z2 => Fu.S.bin fAdd (Fu.S.bin fIx (Fu.S.ok z2) (Fu.S.ok (.int 0))) (Fu.S.bin fIx (Fu.S.ok z2) (Fu.S.ok (.int 2)))) (way.map (eS false)) : Fu.S Unit (List D)) = Fu.S.ok (way.map fun s => D.int (s.slow + s.err)) :=
  Fu.lcS_all (eS false) (fun s => D.int (s.slow + s.err)) way fun s _ => ⟨_, rfl, by simp [eS, ix0, ix2]⟩
theorem baseS (way : List S) : fSumA [.lst (way.map fun s => D.int (s.slow + s.err))] = some (.int (base way)) := by
  have e := Fu.sumA_lst (way.map fun s => s.slow + s.err)
  simp only [List.map_map] at e
  exact e
theorem base_small : ∀ (way : List S), (∀ s ∈ way, s.ok ∧ s.slow + s.err ≤ 4) → 0 ≤ base way ∧ base way ≤ 4 * way.length
  | [], _ => by simp [base]
  | s :: way, h => by
    have := base_small way fun t ht => h t (List.mem_cons_of_mem _ ht)
    obtain ⟨⟨a, _, b⟩, c⟩ := h s List.mem_cons_self
    simp only [base, List.map_cons, List.sum_cons, List.length_cons] at *
    omega
theorem lateL (way : List S) (life hh : Int) (ds : List D) (hd : ∀ d ∈ ds, F_shows_too_late (W false way) (.int life) (.int hh) d = .ok (.bl false)) : (Fu.loop (B__law_late_told_0 (W false way) (.int life) (.int hh)) ds () : Fu.O D Empty _) = .nx () := Fu.loop_same fun x hx => by
  simp [B__law_late_told_0, hd x hx]
theorem str_b {b : Int} (h0 : 0 ≤ b) (h1 : b ≤ 12) : fStr [.int b] = some (.str (toString b)) := by
  have : b.natAbs.log2 < 1920 := by
    have : b.natAbs ≤ 12 := by omega
    have : b.natAbs.log2 ≤ 12 := Nat.le_trans (Nat.log2_le_self _) this
    omega
  simp [fStr, this]
end K06
end

section
set_option maxHeartbeats 400000
namespace K06
open Py PySem L2
open StM
theorem grc_nn : ∀ (as : List S) (a : Option Int), (∀ s ∈ as, s.ok) → (∀ x, a = some x → 0 ≤ x) → ∀ c ∈ grc a as, ∀ x, c = some x → 0 ≤ x
  | [], _, _, _, c, hc, _, _ => by simp [grc] at hc
  | s :: as, a, ho, ha, c, hc, x, hx => by
    have o := ho s List.mem_cons_self
    have n := addc_nn ha o.2.1
    unfold grc at hc
    split at hc
    · rcases List.mem_cons.mp hc with rfl | hc
      · exact n x hx
      · exact grc_nn as (some 0) (fun t ht => ho t (List.mem_cons_of_mem _ ht)) (fun x e => by cases e; omega) c hc x hx
    · exact grc_nn as _ (fun t ht => ho t (List.mem_cons_of_mem _ ht)) n c hc x hx
theorem grc_ne : ∀ (as : List S) (a : Option Int), as ≠ [] → grc a as ≠ []
  | [], _, h => absurd rfl h
  | [s], a, _ => by simp [grc]
  | s :: t :: as, a, _ => by
    rw [grc.eq_def]
    cases hb : s.anew with
    | true => simp [hb]
    | false => simp [hb]; exact grc_ne (t :: as) _ (by simp)
theorem snoc {α : Type} : ∀ l : List α, l ≠ [] → ∃ i z, l = i ++ [z] := fun l h => ⟨l.dropLast, l.getLast h, (List.dropLast_concat_getLast h).symm⟩
theorem late (way : List S) (h : Small way) (life more : Int) (hp : 0 ≤ life) (hm : 0 ≤ more) : F__law_late_told (W false way) (.int life) (.int (delay way life)) (.int more) = .ok (.bl true) := by
  have wl := h.len
  have w3 := h.wy.len
  obtain ⟨b0, b1⟩ := base_small way fun s hs => ⟨h.wy.ok s hs, h.low s hs⟩
  obtain ⟨sx, st⟩ : ∃ x : Str, fStr [.int (base way)] = some (.str x) := ⟨_, str_b b0 (by omega)⟩
  have ls := lsm way h.wy life hp
  have cl := caps_len way
  have dl : 0 ≤ delay way life := by rw [← greedy_delay hp way h.wy.ok]; have := cpy_law hp way h.wy.ok 0 life hp (by omega); have g := cpy_law hp way h.wy.ok; exact Int.not_lt.mp fun q => by
                                      rw [greedy_delay hp way h.wy.ok] at q
                                      unfold delay at q
                                      have : 0 ≤ ((caps way).map (minC life)).sum := by
                                        have nn : ∀ (l : List Int), (∀ x ∈ l, 0 ≤ x) → 0 ≤ l.sum := fun l => by
                                          induction l with
                                          | nil => intro _; simp
                                          | cons a l ih => intro hx; have := ih fun x hx' => hx x (List.mem_cons_of_mem _ hx'); have := hx a List.mem_cons_self; simp; omega
                                        refine nn _ fun x hx => ?_
                                        obtain ⟨c, hc, rfl⟩ := List.mem_map.mp hx
                                        refine minC_nn hp c fun y hy => ?_
                                        subst hy
                                        rw [caps_g] at hc
                                        exact grc_nn way (some 0) h.wy.ok (fun x e => by cases e; omega) _ hc y rfl
                                      omega
  have P := fun hh b sums => ptl way h.wy.len life hh b sums
  have t0 := tlp way h.wy life 0 hp (by omega)
  have t1 := tlp way h.wy life (delay way life) hp dl
  have t2 := tlp way h.wy life (delay way life + 1 + more) hp (by omega)
  rw [if_pos dl] at t0
  rw [if_pos (Int.le_refl _)] at t1
  rw [if_neg (by omega)] at t2
  have bs := baseS way
  have bl := baseL way
  simp at bl
  have cne : (caps way).map (minC life) ≠ [] := by
    rw [caps_g]
    intro e
    exact grc_ne way (some 0) h.wy.ne (List.map_eq_nil_iff.mp e)
  have dd : delay way life = base way + ((caps way).map (minC life)).sum := rfl
  have tl : ((caps way).map (minC life)).length ≤ 3 := by simp; omega
  have rw1 := row ((caps way).map (minC life)) (by omega)
  generalize (caps way).map (minC life) = T at *
  obtain ⟨i, z, rfl⟩ := snoc T cne
  obtain ⟨p1, p2, p3⟩ := plI (i ++ [z])
  generalize hD : delay way life = D0 at *
  have il : i.length ≤ 2 := by simp at tl; omega
  have X := fun hh hx d => stl way h.wy life hh hp hx d
  have Y : ∀ (hh b : Int) (sums : List Int), 0 ≤ hh → sums.length ≤ 4 → F_shows_too_late (W false way) (.int life) (.int hh) (.tup [.int b, .tup (sums.map D.int)]) = .ok (.bl (decide (b = base way) && decide (sums = i ++ [z]) && decide (b + sums.sum < hh))) := fun hh b sums hx hs => by
    obtain ⟨a1, a2, a3⟩ := plI sums
    exact X hh hx _ _ (by simp only [Fu.okD, Fu.okDL, a2]; rfl) (by simp only [Fu.sz, Fu.szL, a3]; omega) (by simp only [Fu.pl, Fu.plL, a1]) _ (P hh b sums)
  have Z : ∀ (hh b : Int) (sums : List Int), 0 ≤ hh → sums.length ≤ 4 → F_shows_too_late (W false way) (.int life) (.int hh) (.lst [.int b, .lst (sums.map D.int)]) = .ok (.bl (decide (b = base way) && decide (sums = i ++ [z]) && decide (b + sums.sum < hh))) := fun hh b sums hx hs => by
    obtain ⟨a1, a2, a3⟩ := plI sums
    exact X hh hx _ _ (by simp only [Fu.okD, Fu.okDL, a2]; rfl) (by simp only [Fu.sz, Fu.szL, a3]; omega) (by simp only [Fu.pl, Fu.plL, a1]) _ (P hh b sums)
  have hx : 0 ≤ D0 + 1 + more := by omega
  have y0 := Y D0 (base way) (i ++ [z]) dl (by simp; omega)
  have y1 := Y (D0 + 1 + more) (base way) (i ++ [z]) hx (by simp; omega)
  have y2 := Z (D0 + 1 + more) (base way) (i ++ [z]) hx (by simp; omega)
  have g1 := Y (D0 + 1 + more) (base way + 1) (i ++ [z]) hx (by simp; omega)
  have g2 := Y (D0 + 1 + more) (base way - 1) (i ++ [z]) hx (by simp; omega)
  have g3 := Y (D0 + 1 + more) (base way) (i ++ [z - 1]) hx (by simp; omega)
  have g4 := Y (D0 + 1 + more) (base way - 1) (i ++ [z + 1]) hx (by simp; omega)
  have g5 := Y (D0 + 1 + more) (base way) i hx (by omega)
  have g6 := Y (D0 + 1 + more) (base way) (i ++ [z] ++ [0]) hx (by simp; omega)
  have ne1 : ¬ (base way + 1 = base way) := by omega
  have ne2 : ¬ (base way - 1 = base way) := by omega
  have ne3 : ¬ (i ++ [z - 1] = i ++ [z]) := fun e => by have := List.append_cancel_left e; simp at this; omega
  have ne5 : ¬ (i = i ++ [z]) := fun e => by have := congrArg List.length e; simp at this
  have ne6 : ¬ (i ++ [z] ++ [0] = i ++ [z]) := fun e => by have := congrArg List.length e; simp at this
  rw [decide_eq_true rfl, decide_eq_true rfl, decide_eq_false (show ¬ (base way + (i ++ [z]).sum < D0) by omega)] at y0
  rw [decide_eq_true rfl, decide_eq_true rfl, decide_eq_true (show base way + (i ++ [z]).sum < D0 + 1 + more by omega)] at y1 y2
  rw [decide_eq_false ne1] at g1
  rw [decide_eq_false ne2] at g2 g4
  rw [decide_eq_false ne3] at g3
  rw [decide_eq_false ne5] at g5
  rw [decide_eq_false ne6] at g6
  simp only [Bool.false_and, Bool.and_false, Bool.and_true] at y0 y1 y2 g1 g2 g3 g4 g5 g6
  have g7 := X (D0 + 1 + more) hx (.tup [.int (base way)]) _ rfl (by simp [Fu.sz, Fu.szL]) rfl false (by simp [Fu.pl, Fu.plL, F_plain_too_late, ist1])
  have g8 := X (D0 + 1 + more) hx (.tup [.int (base way), .int 0]) _ rfl (by simp [Fu.sz, Fu.szL]) rfl false (by simp [Fu.pl, Fu.plL, F_plain_too_late, ist1, int1, is0])
  have it : ∀ k : Int, fIs T [.int k, .ty .tup] = some (.bl false) := fun _ => rfl
  have g9 := X (D0 + 1 + more) hx (.int (base way)) _ rfl (by simp [Fu.sz]) rfl false (by simp [Fu.pl, F_plain_too_late, it])
  have ga := X (D0 + 1 + more) hx (.tup [.str sx, .tup ((i ++ [z]).map D.int)]) (.tup [.str sx, .tup ((i ++ [z]).map D.int)]) (by simp only [Fu.okD, Fu.okDL, p2]; rfl) (by simp only [Fu.sz, Fu.szL, p3]; simp; omega) (by simp only [Fu.pl, Fu.plL, p1]) false (by simp [F_plain_too_late, ist1, intS])
  have c1 : fCut (.tup ((i ++ [z]).map D.int)) none (some (-1)) = some (.tup (i.map D.int)) := by rw [cut_last]; simp
  have c2 : fIx (.tup ((i ++ [z]).map D.int)) (.int (-1)) = some (.int z) := by rw [ix_tup', atI_last]; simp
  have c3 : ∀ y : Int, fAdd (.tup (i.map D.int)) (.tup [.int y]) = some (.tup ((i ++ [y]).map D.int)) := fun y => by rw [Fu.add_tup, if_pos (by simp; omega)]; simp
  have c4 : fAdd (.tup ((i ++ [z]).map D.int)) (.tup [.int 0]) = some (.tup ((i ++ [z] ++ [0]).map D.int)) := by rw [Fu.add_tup, if_pos (by simp; omega)]; simp
  have c5 : fList [.tup ((i ++ [z]).map D.int)] = some (.lst ((i ++ [z]).map D.int)) := rfl
  generalize hT : (i ++ [z]).map D.int = TT at *
  generalize hA : (i ++ [z - 1]).map D.int = TA at *
  generalize hB : (i ++ [z + 1]).map D.int = TB at *
  generalize hC : (i ++ [z] ++ [0]).map D.int = TC at *
  generalize hE : i.map D.int = TE at *
  have c3a := c3 (z - 1)
  have c3b := c3 (z + 1)
  rw [hA] at c3a
  rw [hB] at c3b
  have L := lateL way life (D0 + 1 + more) [.tup [.int (base way + 1), .tup TT], .tup [.int (base way - 1), .tup TT], .tup [.int (base way), .tup TA], .tup [.int (base way - 1), .tup TB], .tup [.int (base way), .tup TE], .tup [.int (base way), .tup TC], .tup [.int (base way)], .tup [.int (base way), .int 0], .int (base way), .tup [.str sx, .tup TT]] (fun d hd => by
    simp only [List.mem_cons, List.mem_nil_iff, or_false] at hd
    rcases hd with h | h | h | h | h | h | h | h | h | h
    · rw [h]; exact g1
    · rw [h]; exact g2
    · rw [h]; exact g3
    · rw [h]; exact g4
    · rw [h]; exact g5
    · rw [h]; exact g6
    · rw [h]; exact g7
    · rw [h]; exact g8
    · rw [h]; exact g9
    · rw [h]; exact ga)
  simp [F__law_late_told, its_W, bl, show way.length ≤ 16777216 by omega, bs, ls, t1, t0, y0, y1, y2, c1, c2, c3a, c3b, c4, c5, st, L, t2, ist1, Lint, rw1]
end K06
end

section
set_option maxHeartbeats 400000
namespace K06
open Py PySem L2
open StM
theorem delay_nn (way : List S) (h : Way way) (life : Int) (hp : 0 ≤ life) : 0 ≤ delay way life := by
  have := (cpy_law hp way h.ok)
  have b : ∀ w : List S, (∀ s ∈ w, s.ok) → 0 ≤ base w := fun w => by
    induction w with
    | nil => intro _; simp [base]
    | cons s w ih =>
      intro ho
      have := ih fun t ht => ho t (List.mem_cons_of_mem _ ht)
      obtain ⟨a, _, b⟩ := ho s List.mem_cons_self
      simp only [base, List.map_cons, List.sum_cons] at *
      omega
  have b := b way h.ok
  have nn : ∀ (l : List Int), (∀ x ∈ l, 0 ≤ x) → 0 ≤ l.sum := fun l => by
    induction l with
    | nil => intro _; simp
    | cons a l ih => intro hx; have := ih fun x hx' => hx x (List.mem_cons_of_mem _ hx'); have := hx a List.mem_cons_self; simp; omega
  have : 0 ≤ ((caps way).map (minC life)).sum := nn _ fun x hx => by
    obtain ⟨c, hc, rfl⟩ := List.mem_map.mp hx
    refine minC_nn hp c fun y hy => ?_
    subst hy
    rw [caps_g] at hc
    exact grc_nn way (some 0) h.ok (fun x e => by cases e; omega) _ hc y rfl
  unfold delay; omega
theorem modp (a m : Int) (h : 0 < m) : fMod (.int a) (.int m) = some (.int (a % m)) := by
  simp [fMod, h]
theorem law_F (zs : List Int) (h : zs.length ≤ 63) : F_law (.frl (zs.map D.int)) = .ok (.bl true) := by
  obtain ⟨d0, hd0, hdr⟩ := FuM.draws zs h
  obtain ⟨way, d1, hw, hd1, e1⟩ := course d0 hd0
  obtain ⟨k2, d2, a2, b2, hd2, e2⟩ := FuM.take hd1 6 (by omega)
  obtain ⟨k3, d3, a3, b3, hd3, e3⟩ := FuM.take hd2 20 (by omega)
  have wpos := List.length_pos_iff.mpr hw.wy.ne
  have wl := hw.len
  obtain ⟨k4, d4, a4, b4, hd4, e4⟩ := FuM.take hd3 (way.length : Int) (by omega)
  obtain ⟨life, p2, r2⟩ : ∃ v : Int, 0 ≤ v ∧ atI [D.int 3, .int 0, .int 1, .int 7, .int 5, .int 2] k2 = some (.int v) := by
    obtain ⟨x, hx, e⟩ := Fu.atI_in (xs := [D.int 3, .int 0, .int 1, .int 7, .int 5, .int 2]) a2 b2
    rw [e]; simp at hx
    rcases hx with rfl | rfl | rfl | rfl | rfl | rfl <;> exact ⟨_, by decide, rfl⟩
  obtain ⟨l, d5, hb, hd5, e5⟩ := moments d4 hd4 way hw.wy life p2
  obtain ⟨k6, d6, a6, b6, hd6, e6⟩ := FuM.take hd5 30 (by omega)
  obtain ⟨k7, d7, a7, b7, hd7, e7⟩ := FuM.take hd6 4 (by omega)
  have ln := lawL_len hb
  obtain ⟨k, rfl⟩ : ∃ k : Nat, k4 = (k : Int) := ⟨k4.toNat, by omega⟩
  obtain ⟨ls, hls, e8⟩ := spoilt way hw.wy life l ln k (by omega)
  have bl := baseL way
  simp at bl
  have bs := baseS way
  have sm := lsm way hw.wy life p2
  have ss : fSumA [.tup (((caps way).map (minC life)).map D.int)] = some (.int ((caps way).map (minC life)).sum) := Fu.sumA_tup _
  have t1 := ic way hw.wy life (k3 - 5) p2 l (by omega)
  have t2 := la way hw.wy life (k3 - 5) p2 l (by omega)
  have t3 := lv way (by omega) life l ln
  have t4 := row (lives life way l) (by unfold lives; rw [livesZ_len]; simp; omega)
  rw [hb] at t1 t2
  simp only [if_true] at t2
  have t5 := spoils way hw life (k3 - 5) p2 ls hls
  have t6 := forms way hw life (k3 - 5) p2 l hb
  have t7 := late way hw life k7 p2 a7
  have dd : base way + ((caps way).map (minC life)).sum = delay way life := rfl
  have dn : 0 ≤ delay way life := delay_nn way hw.wy life p2
  have m1 := made way hw life (k3 - 5) 0 p2 (by omega) dn
  have m2 := made way hw life (k3 - 5) (k6 % (delay way life + 1)) p2 (Int.emod_nonneg _ (by omega)) (by have := Int.emod_lt_of_pos k6 (b := delay way life + 1) (by omega); omega)
  have m3 := made way hw life (k3 - 5) (delay way life) p2 dn (Int.le_refl _)
  have c1 := cof way hw.wy life (k3 - 5) (delay way life + 1) p2 (by omega)
  have c2 := cof way hw.wy life (k3 - 5) (delay way life + 1 + k7) p2 (by omega)
  rw [if_pos (by omega)] at c1 c2
  generalize (caps way).map (minC life) = T at *
  have L : (Fu.loop (B_law_0 (W false way, d1) (.int life, d2) (.int (k3 - 5), d3)) [.int 0, .int (k6 % (delay way life + 1)), .int (delay way life)] () : Fu.O D Empty _) = .nx () := Fu.loop_same fun x hx => by
    simp only [List.mem_cons, List.mem_nil_iff, or_false] at hx
    rcases hx with h | h | h <;> rw [h] <;> simp [B_law_0, m1, m2, m3]
  have em : fMod (.int k6) (.int (delay way life + 1)) = some (.int (k6 % (delay way life + 1))) := modp k6 _ (by omega)
  simp [F_law, dr_eq, hdr, tk_eq, e1, e2, r2, e3, e4, e5, e6, e7, e8, len_W, its_W, bl, show way.length ≤ 16777216 by omega, bs, sm, ss, dd, t1, t2, t3, t4, t5, t6, em, L, c1, c2, t7]
theorem law_ok (zs : List Int) (h : zs.length ≤ 63) : ∃ o, c_law [.v (.frl (zs.map D.int))] = .ok (.bl true) o := Fu.law_of (y_law _) (law_F zs h)
end K06
end

section
set_option maxHeartbeats 0
namespace K06
open Py PySem PySem.Spec PyProof.Rows L2
abbrev R : PySem.W.OpenRow := PySem.W.OpenLaw.row PySem.Challenge.rw_keysoverlap_k06_copies_judged
def loose0 : List Str := ["KeysError", "BadNumber", "BadHours", "BadStore", "BadCase", "is_int", "plain_form", "check_number", "check_hour", "wrong_store_part", "wrong_way_place", "plain_way", "check_way", "plain_groups", "plain_caps", "plain_base", "life_shares", "plain_delay", "has_copy_form", "is_lawful_moment", "lives_told", "is_plain_copy", "is_copy", "lives_along", "copy_hours", "copy_of", "plain_too_late", "shows_too_late", "too_late_paper", "_law_draws"]
def loose1 : List Str := ["_law_take", "_law_is_int", "_law_course", "_law_room", "_law_moments", "_law_lives", "_law_lawful", "_law_sums", "_law_spoilt", "_law_is_moments", "_law_is_row", "_law_hours", "_law_is_case", "_law_made", "_law_is_bool", "_law_spoils_told", "_law_forms_told", "_law_late_told"]
def loose : List Str := loose0 ++ loose1
abbrev hk : PySem.W.Hook := tp.hook 5
def ob (s : PySem.W.SharedT) : Py.Top.Al := tp.obsG 5 (HandSHeadRun.getT s)
theorem ob_eq (s : PySem.W.SharedT) : ob s = hk.obs s.abs := Top.obsG_eq (HandSHeadRun.getT_eq s)
theorem run (w : World) : HandSHeadRun.RunEq R (PySem.W.view R.prog [53]) hk ob 6000 loose w := by
  intro os
  kernel_rfl
end K06
open PySem PySem.W PySem.Calls PyProof.Rows
theorem K06.head (hm : ∀ ns : List Int, ns.length ≤ 63 → ∃ o, K06.c_law [.v (.frl (ns.map Py.D.int))] = .ok (.bl true) o) : PySem.Challenge.rw_keysoverlap_k06_copies_judged.Holds := by
  w_on; o_law
  refine HandSHeadRun.head_any (r := OpenLaw.row PySem.Challenge.rw_keysoverlap_k06_copies_judged) (q := view (OpenLaw.row PySem.Challenge.rw_keysoverlap_k06_copies_judged).prog [53]) (H := K06.hk) (ob := K06.ob) (M := 6000) (loose := K06.loose) (d := HandSHeadRun.topDef (OpenLaw.row PySem.Challenge.rw_keysoverlap_k06_copies_judged).prog 53) (kwd := []) K06.ob_eq
    (by kernel_rfl) (fun s => by kernel_rfl) K06.run (by kernel_rfl) (by kernel_rfl) (by kernel_rfl) (by rfl) (by first | assumption | decide +kernel) (by decide +kernel) ⟨rfl, rfl, rfl, rfl, rfl, by decide +kernel⟩ ?hw ?hc
  case hw => w_witness2
  case hc =>
    refine LamX.walk_ofTsE (l := PySem.Challenge.rw_keysoverlap_k06_copies_judged) (n := 63) (k := 7) (x := "script") (CX := fun w => L2.CX (PySem.Challenge.rw_keysoverlap_k06_copies_judged).prog w) rfl (by decide) (by kernel_rfl) ⟨rfl, by decide, by decide⟩ ?F (fun _ _ _ _ _ z => by obtain ⟨_, _, _, _, _, _, _, _, _, _, _, _, z⟩ := z; exact z.elim)
    intro w mg fa h Y G hmg0
    obtain ⟨K, KX, c⟩ := Y
    have hmg : mg ("law" : PySem.Str) = some (.ref fa) := by
      have e : (HandSHeadRun.topDef (OpenLaw.row PySem.Challenge.rw_keysoverlap_k06_copies_judged).prog 53).name = ("law" : PySem.Str) := by kernel_rfl
      rw [← e]
      exact hmg0
    have e : Py.Env1 K06.tp K mg := ⟨c, h, KX, G⟩
    obtain ⟨fd, Fu⟩ := e.says.d.def_ 43 rfl
    refine ⟨K, KX, fd, [], Py.spF ⟨K, mg⟩ 1 K06.c_law, fun _ h => (nomatch h), fun _ h => (nomatch h), fun _ h => (nomatch h), ?_, fun H a ns hl _ _ hS => Py.law_sp hS (hm ns hl), fun base _ _ _ => ?_⟩
    · intro s u
      exact L2.FunD.bindsA (ps := ["script"]) Fu (fun _ _ _ _ _ _ us hl => match us, hl with | [_], _ => rfl) s [u] rfl
    · have ef := hmg.symm.trans (He.glo_ok KX G (e.says.d.fact 43 (f := .glo "law") rfl))
      cases ef
      exact K06.w_all e Fu
end
theorem PySem.Challenge.cw_keysoverlap_k06_copies_judged_holds : PySem.Challenge.rw_keysoverlap_k06_copies_judged.Holds :=
  K06.head K06.law_ok
