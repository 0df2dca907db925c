import PyProof.Rows.All
import Wide.All
import OpenK.AllK
import Wide.FinOn
import HandS.ForMost
import HandS.ForExc
import HandS.CallSlots
import HandS.IsInst
import HandS.TupAny
import HandS.Style
import HandS.Wide
import HandS.WideBits
import HandS.Flow
import KE.GoesEnum
import HandS.Zip
import HandS.ExcIs
import HandS.ExcField
import HandS.ExcInit
import KE.KStateDown
import Lean
import HandS.More
import HandS.Defaults
import HandS.Head0
import HandS.Head1
import HandS.Head2
import HandS.HeadEnd
import HandS.HeadHook1
import HandS.HeadHook2
import HandS.Conv
import HandS.NoneIn
import HandS.HeadWalk
import PySem.Challenge.RW_keysoverlap_k05_delays_by_groups
set_option Elab.async false
set_option linter.all false
set_option maxRecDepth 100000
section
set_option maxHeartbeats 2000000
namespace Py
open PySem PySem.Spec PyProof.Rows L2

/-! ## Values as trees -/
/-- the built-in types that programs name -/
inductive Ty where
  | int | bool | str | tup | lst | dct | non | verr
  deriving DecidableEq
def Ty.nm : Ty → String
  | .int => "int" | .bool => "bool" | .str => "str" | .tup => "tuple" | .lst => "list" | .dct => "dict" | .non => "NoneType" | .verr => "ValueError"
inductive D where
  | non | bl (b : Bool) | int (i : Int) | str (x : Str) | ty (n : Ty) | cl (x : Str)
  | tup (ds : List D) | lst (ds : List D) | frl (ds : List D) | exc (c f : Str) (d : D)
  deriving Inhabited

structure Gc where
  K : PySem.W.Frag
  mg : Str → Option Value

/-- a tuple (a list) that nobody writes any more -/
def TupAt (K : PySem.W.Frag) (F : Addr → Prop) (H : Hp) (a : Addr) (vs : List V) : Prop :=
  (F a ∧ H a = some (.tup vs)) ∨ ∀ H', SqT K H' a vs
def LstAt (K : PySem.W.Frag) (F : Addr → Prop) (H : Hp) (a : Addr) (vs : List V) : Prop :=
  (F a ∧ Rd H a (.lst vs)) ∨ ∀ H', SqL K H' a vs

/-- an exception object, tracked -/
def ExK (a : Addr) (cls : Value) (d : Option Addr) : HO := .ext fun h => ∃ oe vs, h.get? a = some oe ∧ Zc cls d oe ∧ oe.data = .fields vs

mutual
def Den (G : Gc) (F : Addr → Prop) (H : Hp) : D → V → Prop
  | .non, v => v = .non
  | .bl b, v => v = .bl b
  | .int i, v => v = .int i
  | .str x, v => v = .str x
  | .ty n, v => v = .ty n.nm
  | .cl x, v => ∃ C, v = .ref C ∧ G.mg x = some (.ref C)
  | .tup ds, v => ∃ a vs, v = .ref a ∧ TupAt G.K F H a vs ∧ DenL G F H ds vs
  | .lst ds, v => ∃ a vs, v = .ref a ∧ F a ∧ H a = some (.lst vs) ∧ DenL G F H ds vs
  | .frl ds, v => ∃ a vs, v = .ref a ∧ LstAt G.K F H a vs ∧ DenL G F H ds vs
  | .exc c f d, v => ∃ a C dd w, v = .ref a ∧ G.mg c = some (.ref C) ∧ F a ∧ H a = some (ExK a (.ref C) (some dd)) ∧ F dd ∧ H dd = some (.xd [(f, w)]) ∧ Den G F H d w
def DenL (G : Gc) (F : Addr → Prop) (H : Hp) : List D → List V → Prop
  | [], vs => vs = []
  | d :: ds, vs => ∃ v ws, vs = v :: ws ∧ Den G F H d v ∧ DenL G F H ds ws
end

def Le (F : Addr → Prop) (H : Hp) (F' : Addr → Prop) (H' : Hp) : Prop := ∀ a, F a → F' a ∧ H' a = H a
theorem Le.refl {F H} : Le F H F H := fun a h => ⟨h, rfl⟩
theorem Le.trans {F H F1 H1 F2 H2} (a : Le F H F1 H1) (b : Le F1 H1 F2 H2) : Le F H F2 H2 := fun x h =>
  ⟨(b x (a x h).1).1, (b x (a x h).1).2.trans (a x h).2⟩

theorem TupAt.mono {K F H F' H' a vs} (l : Le F H F' H') (h : TupAt K F H a vs) : TupAt K F' H' a vs := by
  rcases h with ⟨h1, h2⟩ | h
  · exact .inl ⟨(l a h1).1, (l a h1).2.trans h2⟩
  · exact .inr h
theorem LstAt.mono {K F H F' H' a vs} (l : Le F H F' H') (h : LstAt K F H a vs) : LstAt K F' H' a vs := by
  rcases h with ⟨h1, h2⟩ | h
  · refine .inl ⟨(l a h1).1, ?_⟩
    rcases h2 with h2 | ⟨o, h2⟩
    · exact .inl ((l a h1).2.trans h2)
    · exact .inr ⟨o, (l a h1).2.trans h2⟩
  · exact .inr h
theorem TupAt.sq {K F H a vs} (h : TupAt K F H a vs) : SqT K H a vs := by
  rcases h with ⟨_, h⟩ | h
  · exact .of h
  · exact h H
theorem LstAt.sq {K F H a vs} (h : LstAt K F H a vs) : SqL K H a vs := by
  rcases h with ⟨_, h⟩ | h
  · exact .inl h
  · exact h H

mutual
theorem Den.mono {G F H F' H'} (l : Le F H F' H') : ∀ {d : D} {v : V}, Den G F H d v → Den G F' H' d v
  | .non, v, h => by simpa only [Den] using h
  | .bl _, v, h => by simpa only [Den] using h
  | .int _, v, h => by simpa only [Den] using h
  | .str _, v, h => by simpa only [Den] using h
  | .ty _, v, h => by simpa only [Den] using h
  | .cl _, v, h => by simpa only [Den] using h
  | .tup ds, v, h => by
    simp only [Den] at h ⊢
    obtain ⟨a, vs, e, t, r⟩ := h
    exact ⟨a, vs, e, t.mono l, DenL.mono l r⟩
  | .lst ds, v, h => by
    simp only [Den] at h ⊢
    obtain ⟨a, vs, e, f, t, r⟩ := h
    exact ⟨a, vs, e, (l a f).1, (l a f).2.trans t, DenL.mono l r⟩
  | .frl ds, v, h => by
    simp only [Den] at h ⊢
    obtain ⟨a, vs, e, t, r⟩ := h
    exact ⟨a, vs, e, t.mono l, DenL.mono l r⟩
  | .exc c f d, v, h => by
    simp only [Den] at h ⊢
    obtain ⟨a, C, dd, w, e, m, fa, ha, fd, hd, r⟩ := h
    exact ⟨a, C, dd, w, e, m, (l a fa).1, (l a fa).2.trans ha, (l dd fd).1, (l dd fd).2.trans hd, Den.mono l r⟩
theorem DenL.mono {G F H F' H'} (l : Le F H F' H') : ∀ {ds : List D} {vs : List V}, DenL G F H ds vs → DenL G F' H' ds vs
  | [], vs, h => by simpa only [DenL] using h
  | d :: ds, vs, h => by
    simp only [DenL] at h ⊢
    obtain ⟨v, ws, e, r, t⟩ := h
    exact ⟨v, ws, e, Den.mono l r, DenL.mono l t⟩
end

theorem DenL.length {G F H} : ∀ {ds : List D} {vs : List V}, DenL G F H ds vs → vs.length = ds.length
  | [], vs, h => by simp only [DenL] at h; subst h; rfl
  | d :: ds, vs, h => by
    simp only [DenL] at h
    obtain ⟨v, ws, e, r, t⟩ := h
    subst e
    simp [DenL.length t]
theorem DenL.get {G F H} : ∀ {ds : List D} {vs : List V} {i : Nat} {d : D}, DenL G F H ds vs → ds[i]? = some d → ∃ v, vs[i]? = some v ∧ Den G F H d v
  | [], vs, i, d, h, e => by simp at e
  | d0 :: ds, vs, i, d, h, e => by
    simp only [DenL] at h
    obtain ⟨v, ws, q, r, t⟩ := h
    subst q
    cases i with
    | zero => simp at e; subst e; exact ⟨v, by simp, r⟩
    | succ i =>
      obtain ⟨u, h1, h2⟩ := DenL.get (i := i) t (by simpa using e)
      exact ⟨u, by simpa using h1, h2⟩
theorem DenL.append {G F H} : ∀ {ds es : List D} {vs ws : List V}, DenL G F H ds vs → DenL G F H es ws → DenL G F H (ds ++ es) (vs ++ ws)
  | [], es, vs, ws, h, k => by simp only [DenL] at h; subst h; exact k
  | d :: ds, es, vs, ws, h, k => by
    simp only [DenL] at h
    obtain ⟨v, us, q, r, t⟩ := h
    subst q
    simp only [List.cons_append, DenL]
    exact ⟨v, us ++ ws, rfl, r, DenL.append t k⟩
theorem DenL.one {G F H d v} (h : Den G F H d v) : DenL G F H [d] [v] := by
  simp only [DenL]; exact ⟨v, [], rfl, h, rfl⟩
theorem DenL.dropLast {G F H} : ∀ {ds : List D} {vs : List V}, DenL G F H ds vs → DenL G F H ds.dropLast vs.dropLast
  | [], vs, h => by simp only [DenL] at h; subst h; simp [DenL]
  | [d], vs, h => by
    simp only [DenL] at h
    obtain ⟨v, us, q, r, t⟩ := h
    subst t; subst q
    simp [DenL]
  | d :: e :: ds, vs, h => by
    have h' := h
    simp only [DenL] at h
    obtain ⟨v, us, q, r, v2, us2, q2, r2, t⟩ := h
    subst q2; subst q
    have ih := DenL.dropLast (ds := e :: ds) (vs := v2 :: us2) (by simp only [DenL]; exact ⟨v2, us2, rfl, r2, t⟩)
    show DenL G F H (d :: (e :: ds).dropLast) (v :: (v2 :: us2).dropLast)
    simp only [DenL]
    exact ⟨v, _, rfl, r, ih⟩
theorem DenL.set {G F H} : ∀ {ds : List D} {vs : List V} {d : D} {v : V} (i : Nat), DenL G F H ds vs → Den G F H d v → DenL G F H (ds.set i d) (vs.set i v)
  | [], vs, d, v, i, h, k => by simp only [DenL] at h; subst h; simp [DenL]
  | d0 :: ds, vs, d, v, 0, h, k => by
    simp only [DenL] at h
    obtain ⟨v0, us, q, r, t⟩ := h
    subst q
    simp only [List.set_cons_zero, DenL]
    exact ⟨v, us, rfl, k, t⟩
  | d0 :: ds, vs, d, v, i + 1, h, k => by
    simp only [DenL] at h
    obtain ⟨v0, us, q, r, t⟩ := h
    subst q
    simp only [List.set_cons_succ, DenL]
    exact ⟨v0, us.set i v, rfl, r, DenL.set i t k⟩
theorem DenL.drop {G F H} : ∀ {ds : List D} {vs : List V} (n : Nat), DenL G F H ds vs → DenL G F H (ds.drop n) (vs.drop n)
  | ds, vs, 0, h => by simpa using h
  | [], vs, n + 1, h => by simp only [DenL] at h; subst h; simp [DenL]
  | d :: ds, vs, n + 1, h => by
    simp only [DenL] at h
    obtain ⟨v0, us, q, r, t⟩ := h
    subst q
    simpa using DenL.drop n t
theorem DenL.take {G F H} : ∀ {ds : List D} {vs : List V} (n : Nat), DenL G F H ds vs → DenL G F H (ds.take n) (vs.take n)
  | ds, vs, 0, h => by simp [DenL]
  | [], vs, n + 1, h => by simp only [DenL] at h; subst h; simp [DenL]
  | d :: ds, vs, n + 1, h => by
    simp only [DenL] at h
    obtain ⟨v0, us, q, r, t⟩ := h
    subst q
    simp only [List.take_succ_cons, DenL]
    exact ⟨v0, us.take n, rfl, r, DenL.take n t⟩
theorem DenL.reverse {G F H} : ∀ {ds : List D} {vs : List V}, DenL G F H ds vs → DenL G F H ds.reverse vs.reverse
  | [], vs, h => by simp only [DenL] at h; subst h; simp [DenL]
  | d :: ds, vs, h => by
    simp only [DenL] at h
    obtain ⟨v0, us, q, r, t⟩ := h
    subst q
    simp only [List.reverse_cons]
    exact DenL.append (DenL.reverse t) (DenL.one r)

/-! ## Environments -/
inductive Slot where
  | un | v (d : D) | o (ds : List D) | p (ds : List D)
abbrev Env := List Slot
inductive Res (α : Type) where
  | ok (a : α) (r : Env) | err (e : D) (r : Env) | bad
def Slot.opn : Slot → Option (List D)
  | .o ds => some ds
  | .p ds => some ds
  | _ => none

/-- a frame: what is frozen at its entry, the heap there, what must stay as it is, the lists it was handed to change (slot, address) -/
structure Fr where
  F0 : Addr → Prop
  H0 : Hp
  Z : Addr → HO → Prop
  P : Nat → Addr → Prop

def SlotOk (G : Gc) (fr : Fr) (F : Addr → Prop) (H : Hp) (i : Nat) (x : Option (Option V)) : Slot → Prop
  | .un => True
  | .v d => ∃ v, x = some (some v) ∧ Den G F H d v
  | .o ds => ∃ a vs, x = some (some (V.ref a)) ∧ H a = some (.lst vs) ∧ ¬ F a ∧ (∀ o, ¬ fr.Z a o) ∧ DenL G F H ds vs
  | .p ds => ∃ a vs, x = some (some (V.ref a)) ∧ H a = some (.lst vs) ∧ ¬ F a ∧ (∀ o, ¬ fr.Z a o) ∧ DenL G F H ds vs ∧ fr.P i a

structure Ok (G : Gc) (fr : Fr) (F : Addr → Prop) (H : Hp) (σ : L2.St) (r : Env) : Prop where
  fin : ∀ a, F a → H a ≠ none
  grow : ∀ a, fr.F0 a → F a ∧ H a = fr.H0 a
  prot : ∀ a o, fr.Z a o → H a = some o ∧ ¬ F a
  len : σ.length = r.length
  sl : ∀ i s, r[i]? = some s → SlotOk G fr F H i σ[i]? s
  dis : ∀ (i j : Nat) (s t : Slot) (ds es : List D) (a : Addr), i ≠ j → r[i]? = some s → r[j]? = some t → s.opn = some ds → t.opn = some es → σ[i]? = some (some (V.ref a)) → σ[j]? = some (some (V.ref a)) → False
  par : ∀ (i : Nat) (a : Addr), fr.P i a → σ[i]? = some (some (V.ref a)) ∧ ∃ ds : List D, r[i]? = some (Slot.p ds)

section
variable {G : Gc} {fr : Fr} {F F' : Addr → Prop} {H H' : Hp} {σ : L2.St} {r : Env}

/-- more frozen, more on the heap, all that was there as it was -/
structure Nx (F : Addr → Prop) (H : Hp) (F' : Addr → Prop) (H' : Hp) : Prop where
  fin : ∀ a, F' a → H' a ≠ none
  le : ∀ a, F a → F' a
  born : ∀ a, F' a → F a ∨ H a = none
  same : ∀ a o, H a = some o → H' a = some o
theorem Nx.toLe (n : Nx F H F' H') (k : ∀ a, F a → H a ≠ none) : Le F H F' H' := fun a h => by
  refine ⟨n.le a h, ?_⟩
  cases e : H a with
  | none => exact absurd e (k a h)
  | some o => exact n.same a o e
theorem Ok.next (k : Ok G fr F H σ r) (n : Nx F H F' H') : Ok G fr F' H' σ r := by
  have l := n.toLe k.fin
  have nf : ∀ a o, H a = some o → ¬ F a → ¬ F' a := fun a o e hn z => by
    rcases n.born a z with z | z
    · exact hn z
    · rw [z] at e; cases e
  refine ⟨n.fin, fun a h => ?_, fun a o z => ?_, k.len, fun i s e => ?_, k.dis, k.par⟩
  · obtain ⟨h1, h2⟩ := k.grow a h
    exact ⟨n.le a h1, (l a h1).2.trans h2⟩
  · obtain ⟨h1, h2⟩ := k.prot a o z
    exact ⟨n.same a o h1, nf a o h1 h2⟩
  · have q := k.sl i s e
    cases s with
    | un => trivial
    | v d => obtain ⟨v, e1, e2⟩ := q; exact ⟨v, e1, e2.mono l⟩
    | o ds =>
      obtain ⟨a, vs, e1, e2, e3, e4, e5⟩ := q
      exact ⟨a, vs, e1, n.same a _ e2, nf a _ e2 e3, e4, e5.mono l⟩
    | p ds =>
      obtain ⟨a, vs, e1, e2, e3, e4, e5, e6⟩ := q
      exact ⟨a, vs, e1, n.same a _ e2, nf a _ e2 e3, e4, e5.mono l, e6⟩
/-- a new object, frozen at once -/
def Fadd (F : Addr → Prop) (p : Addr) : Addr → Prop := fun a => F a ∨ a = p
theorem Nx.frz (k : ∀ a, F a → H a ≠ none) {p : Addr} {o : HO} (hp : H p = none) : Nx F H (Fadd F p) (upd H p o) where
  fin := fun a h => by
    rcases h with h | h
    · have := k a h
      rw [upd_ne (fun z => by rw [z, hp] at this; exact this rfl)]
      exact this
    · subst h; rw [upd_same]; simp
  le := fun a h => .inl h
  born := fun a h => by
    rcases h with h | h
    · exact .inl h
    · subst h; exact .inr hp
  same := fun a o h => by rw [upd_ne (ne_of_none h hp)]; exact h
/-- a new object, not frozen -/
theorem Nx.open (k : ∀ a, F a → H a ≠ none) {p : Addr} {o : HO} (hp : H p = none) : Nx F H F (upd H p o) where
  fin := fun a h => by
    have := k a h
    rw [upd_ne (fun z => by rw [z, hp] at this; exact this rfl)]
    exact this
  le := fun a h => h
  born := fun a h => .inl h
  same := fun a o h => by rw [upd_ne (ne_of_none h hp)]; exact h
theorem Nx.refl (k : ∀ a, F a → H a ≠ none) : Nx F H F H := ⟨k, fun _ h => h, fun _ h => .inl h, fun _ _ h => h⟩
end

/-! ## What a piece of code is worth: denotations, and what a reading owes them -/
abbrev DenX (G : Gc) (F : Addr → Prop) (H : Hp) (x : D) (c : Value) (dd : Option Addr) : Prop :=
  ∃ n f d C a w, x = .exc n f d ∧ c = .ref C ∧ G.mg n = some (.ref C) ∧ dd = some a ∧ F a ∧ H a = some (.xd [(f, w)]) ∧ Den G F H d w
theorem DenX.mono {G F H F' H' x c dd} (l : Le F H F' H') (h : DenX G F H x c dd) : DenX G F' H' x c dd := by
  obtain ⟨n, f, d, C, a, w, e1, e2, e3, e4, e5, e6, e7⟩ := h
  exact ⟨n, f, d, C, a, w, e1, e2, e3, e4, (l a e5).1, (l a e5).2.trans e6, e7.mono l⟩

def Post {α β : Type} (G : Gc) (W : WX) (R : (Addr → Prop) → Hp → α → β → Prop) (fr : Fr) (F : Addr → Prop) (H : Hp) (σ : L2.St) (m : Res α) (Q : β → Hp → Prop) : Prop :=
  match m with
  | .ok x r' => ∀ v H' F', Ok G fr F' H' σ r' → Le F H F' H' → R F' H' x v → Q v H'
  | .err x r' => ∀ c dd H' F', Ok G fr F' H' σ r' → Le F H F' H' → DenX G F' H' x c dd → W c dd σ H'
  | .bad => False
/-- the reading that a denotation stands for -/
def tR {α β : Type} (G : Gc) (W : WX) (R : (Addr → Prop) → Hp → α → β → Prop) (d : Env → Res α) : L2.St → Hp → (β → Hp → Prop) → Prop := fun σ H Q =>
  ∃ fr F r, Ok G fr F H σ r ∧ Post G W R fr F H σ (d r) Q
abbrev RB : (Addr → Prop) → Hp → Bool → Bool → Prop := fun _ _ b c => c = b
def Res.bind {α β : Type} (m : Res α) (k : α → Env → Res β) : Res β := match m with
  | .ok a r => k a r
  | .err e r => .err e r
  | .bad => .bad
@[simp] theorem Res.bind_ok {α β : Type} (a : α) (r : Env) (k : α → Env → Res β) : (Res.ok a r).bind k = k a r := (rfl)
@[simp] theorem Res.bind_err {α β : Type} (e : D) (r : Env) (k : α → Env → Res β) : (Res.err e r : Res α).bind k = .err e r := (rfl)
@[simp] theorem Res.bind_bad {α β : Type} (k : α → Env → Res β) : (Res.bad : Res α).bind k = .bad := (rfl)

section
variable {G : Gc} {W : WX} {fr : Fr} {F F1 : Addr → Prop} {H H1 : Hp} {σ : L2.St} {r : Env} {α β γ δ : Type} {R : (Addr → Prop) → Hp → α → β → Prop} {R' : (Addr → Prop) → Hp → γ → δ → Prop}
theorem Post.le {m : Res α} {Q : β → Hp → Prop} (l : Le F H F1 H1) (h : Post G W R fr F H σ m Q) : Post G W R fr F1 H1 σ m Q := by
  cases m with
  | ok x r' => exact fun v H' F' k l' q => h v H' F' k (l.trans l') q
  | err x r' => exact fun c dd H' F' k l' q => h c dd H' F' k (l.trans l') q
  | bad => exact h
/-- one thing after another -/
theorem Post.seq {m : Res α} {k : α → Env → Res γ} {Q : δ → Hp → Prop} {Q1 : β → Hp → Prop} (h : Post G W R' fr F H σ (m.bind k) Q)
    (f : ∀ x r1 v H1 F1, Ok G fr F1 H1 σ r1 → Le F H F1 H1 → R F1 H1 x v → Post G W R' fr F1 H1 σ (k x r1) Q → Q1 v H1) : Post G W R fr F H σ m Q1 := by
  cases m with
  | ok x r' => exact fun v H' F' ok l q => f x r' v H' F' ok l q (Post.le l h)
  | err x r' => exact h
  | bad => exact h
end

/-- an expression, a test, an argument list, by what it is worth -/
def PX (X : Cx) (W : WX) (e : Expr) (d : Env → Res D) : Prop := PE X e (tR ⟨X.K, X.mg⟩ W (Den ⟨X.K, X.mg⟩) d)
def PB (X : Cx) (W : WX) (e : Expr) (d : Env → Res Bool) : Prop := PT X e (tR ⟨X.K, X.mg⟩ W RB d)
def PL (X : Cx) (W : WX) (es : List Expr) (d : Env → Res (List D)) : Prop := PA X es (tR ⟨X.K, X.mg⟩ W (DenL ⟨X.K, X.mg⟩) d)
/-- a list that is new: nobody else holds it -/
def DenN (G : Gc) (fr : Fr) (F : Addr → Prop) (H : Hp) (r : Env) (σ : L2.St) (ds : List D) (v : V) : Prop :=
  ∃ a vs, v = .ref a ∧ H a = some (.lst vs) ∧ ¬ F a ∧ (∀ o, ¬ fr.Z a o) ∧ DenL G F H ds vs ∧ ∀ (i : Nat) (s : Slot) (es : List D), r[i]? = some s → s.opn = some es → σ[i]? ≠ some (some (V.ref a))
/-- a value, or a list that is new -/
inductive Val where
  | v (d : D) | n (ds : List D)
def DenV (G : Gc) (fr : Fr) (F : Addr → Prop) (H : Hp) (r : Env) (σ : L2.St) : Val → V → Prop
  | .v d, v => Den G F H d v
  | .n ds, v => DenN G fr F H r σ ds v
def PostV (G : Gc) (W : WX) (fr : Fr) (F : Addr → Prop) (H : Hp) (σ : L2.St) (m : Res Val) (Q : VK) : Prop :=
  match m with
  | .ok x r' => ∀ v H' F', Ok G fr F' H' σ r' → Le F H F' H' → DenV G fr F' H' r' σ x v → Q v H'
  | .err x r' => ∀ c dd H' F', Ok G fr F' H' σ r' → Le F H F' H' → DenX G F' H' x c dd → W c dd σ H'
  | .bad => False
def tV (G : Gc) (W : WX) (d : Env → Res Val) : L2.St → Hp → VK → Prop := fun σ H Q => ∃ fr F r, Ok G fr F H σ r ∧ PostV G W fr F H σ (d r) Q
def PV (X : Cx) (W : WX) (e : Expr) (d : Env → Res Val) : Prop := PE X e (tV ⟨X.K, X.mg⟩ W d)
section
variable {G : Gc} {W : WX} {fr : Fr} {F F1 : Addr → Prop} {H H1 : Hp} {σ : L2.St} {r : Env} {α β : Type} {R : (Addr → Prop) → Hp → α → β → Prop}
theorem PostV.le {m : Res Val} {Q : VK} (l : Le F H F1 H1) (h : PostV G W fr F H σ m Q) : PostV G W fr F1 H1 σ m Q := by
  cases m with
  | ok x r' => exact fun v H' F' k l' q => h v H' F' k (l.trans l') q
  | err x r' => exact fun c dd H' F' k l' q => h c dd H' F' k (l.trans l') q
  | bad => exact h
/-- one thing, then one whose value may be new -/
theorem Post.seqV {m : Res α} {k : α → Env → Res Val} {Q : VK} {Q1 : β → Hp → Prop} (h : PostV G W fr F H σ (m.bind k) Q)
    (f : ∀ x r1 v H1 F1, Ok G fr F1 H1 σ r1 → Le F H F1 H1 → R F1 H1 x v → PostV G W fr F1 H1 σ (k x r1) Q → Q1 v H1) : Post G W R fr F H σ m Q1 := by
  cases m with
  | ok x r' => exact fun v H' F' ok l q => f x r' v H' F' ok l q (PostV.le l h)
  | err x r' => exact h
  | bad => exact h
theorem PostV.seq {γ δ : Type} {R' : (Addr → Prop) → Hp → γ → δ → Prop} {m : Res Val} {k : Val → Env → Res γ} {Q : δ → Hp → Prop} {Q1 : VK} (h : Post G W R' fr F H σ (m.bind k) Q)
    (f : ∀ x r1 v H1 F1, Ok G fr F1 H1 σ r1 → Le F H F1 H1 → DenV G fr F1 H1 r1 σ x v → Post G W R' fr F1 H1 σ (k x r1) Q → Q1 v H1) : PostV G W fr F H σ m Q1 := by
  cases m with
  | ok x r' => exact fun v H' F' ok l q => f x r' v H' F' ok l q (Post.le l h)
  | err x r' => exact h
  | bad => exact h
end

theorem pe_weak {X : Cx} {e : Expr} {t t' : TE} (h : PE X e t) (w : ∀ σ H Q, t' σ H Q → t σ H Q) : PE X e t' := ⟨fun pins s σ H Q I k => h.run pins s σ H Q I (w σ H Q k)⟩
theorem pt_weak {X : Cx} {e : Expr} {t t' : TT} (h : PT X e t) (w : ∀ σ H Q, t' σ H Q → t σ H Q) : PT X e t' := ⟨fun pins s σ H Q I k => h.run pins s σ H Q I (w σ H Q k)⟩
theorem pa_weak {X : Cx} {es : List Expr} {t t' : TA} (h : PA X es t) (w : ∀ σ H Q, t' σ H Q → t σ H Q) : PA X es t' := ⟨fun pos pins s σ H Q I k => h.run pos pins s σ H Q I (w σ H Q k)⟩
theorem ps_weak {X : Cx} {st : Stmt} {t t' : TS} (h : PS X st t) (w : ∀ D σ H, t' D σ H → t D σ H) : PS X st t' := ⟨fun pins s σ H D I k => h.run pins s σ H D I (w D σ H k)⟩
theorem pss_weak {X : Cx} {st : List Stmt} {t t' : TS} (h : PSs X st t) (w : ∀ D σ H, t' D σ H → t D σ H) : PSs X st t' := ⟨fun pins s σ H D I k => h.run pins s σ H D I (w D σ H k)⟩
theorem pi_weak {X : Cx} {tg e : Expr} {t t' : TI} (h : PI X tg e t) (w : ∀ σ H Q, t' σ H Q → t σ H Q) : PI X tg e t' := ⟨fun pins s σ H Q I k => h.run pins s σ H Q I (w σ H Q k)⟩

/-! ## Expressions -/
section
variable {X : Cx} {W : WX} {pos : Pos}
abbrev gc (X : Cx) : Gc := ⟨X.K, X.mg⟩

def dC (d : D) : Env → Res D := fun r => .ok d r
theorem x_const {e : Expr} {v : V} {d : D} (h : PE X e (tC v)) (hd : ∀ F H, Den (gc X) F H d v) : PX X W e (dC d) :=
  pe_weak h fun σ H Q ⟨fr, F, r, ok, p⟩ => p v H F ok Le.refl (hd F H)
theorem x_int {i : Int} {j pos} : PX X W (.Constant (.int i) j pos) (dC (.int i)) := x_const pe_int fun _ _ => by simp only [Den]
theorem x_bl {b : Bool} {j pos} : PX X W (.Constant (.bool b) j pos) (dC (.bl b)) := x_const pe_bl fun _ _ => by simp only [Den]
theorem x_non {j pos} : PX X W (.Constant .none j pos) (dC .non) := x_const pe_non fun _ _ => by simp only [Den]
theorem x_str {x : Str} {j pos} : PX X W (.Constant (.str x) j pos) (dC (.str x)) := x_const pe_str fun _ _ => by simp only [Den]
theorem x_cl {x : Str} {C : Addr} (hg : Gl X x) (hm : X.mg x = some (.ref C)) (hd : (x == ("__debug__" : Str)) = false := by decide) : PX X W (.Name x pos) (dC (.cl x)) :=
  x_const (pe_glob (v := .ref C) hg hm rfl hd) fun _ _ => by simp only [Den]; exact ⟨C, rfl, hm⟩
theorem x_ty {x : Str} (n : Ty) (hg : Gl X x) (hm : X.mg x = none) (hv : bootBuiltins x = some (.type n.nm)) (hn : x ≠ "__name__" := by decide) (hd : (x == ("__debug__" : Str)) = false := by decide) : PX X W (.Name x pos) (dC (.ty n)) :=
  x_const (pe_bltn (v := .ty n.nm) hg hm hv rfl hn hd) fun _ _ => by simp only [Den]

/-- a name: what an open list's slot holds is frozen by being looked at -/
def dVar (i : Nat) : Env → Res D := fun r => match r[i]? with
  | some (.v d) => .ok d r
  | some (.o ds) => .ok (.lst ds) (r.set i (.v (.lst ds)))
  | _ => .bad
theorem Ok.freeze {G fr F H σ r} (ok : Ok G fr F H σ r) {i : Nat} {ds : List D} {a : Addr} {vs : List V} (e : r[i]? = some (.o ds)) (h1 : σ[i]? = some (some (V.ref a))) (h2 : H a = some (.lst vs)) (h3 : ¬ F a) (h4 : ∀ o, ¬ fr.Z a o) (h5 : DenL G F H ds vs) :
    Ok G fr (Fadd F a) H σ (r.set i (.v (.lst ds))) := by
  have l : Le F H (Fadd F a) H := fun b h => ⟨.inl h, rfl⟩
  have hi : i < r.length := (List.getElem?_eq_some_iff.mp e).1
  have nf : ∀ (j : Nat) (s : Slot) (es : List D) (b : Addr), j ≠ i → r[j]? = some s → s.opn = some es → σ[j]? = some (some (V.ref b)) → ¬ F b → ¬ Fadd F a b := fun j s es b hj e1 e2 e3 hn z => by
    rcases z with z | z
    · exact hn z
    · subst z; exact ok.dis i j _ _ ds es b (Ne.symm hj) e e1 rfl e2 h1 e3
  refine ⟨fun b h => ?_, fun b h => ⟨.inl (ok.grow b h).1, (ok.grow b h).2⟩, fun b o z => ⟨(ok.prot b o z).1, fun q => ?_⟩, by rw [List.length_set]; exact ok.len, fun j s q => ?_, fun j k s t es fs b hjk q1 q2 o1 o2 q3 q4 => ?_, fun j b hp => ?_⟩
  · rcases h with h | h
    · exact ok.fin b h
    · subst h; rw [h2]; simp
  · rcases q with q | q
    · exact (ok.prot b o z).2 q
    · subst q; exact h4 o z
  · by_cases hj : j = i
    · subst hj
      rw [List.getElem?_set_self hi] at q; cases q
      refine ⟨.ref a, h1, ?_⟩
      simp only [Den]
      exact ⟨a, vs, rfl, .inr rfl, h2, h5.mono l⟩
    · rw [List.getElem?_set_ne (Ne.symm hj)] at q
      have z := ok.sl j s q
      cases s with
      | un => trivial
      | v d => obtain ⟨v, e1, e2⟩ := z; exact ⟨v, e1, e2.mono l⟩
      | o es =>
        obtain ⟨b, ws, e1, e2, e3, e4, e5⟩ := z
        exact ⟨b, ws, e1, e2, nf j _ es b hj q rfl e1 e3, e4, e5.mono l⟩
      | p es =>
        obtain ⟨b, ws, e1, e2, e3, e4, e5, e6⟩ := z
        exact ⟨b, ws, e1, e2, nf j _ es b hj q rfl e1 e3, e4, e5.mono l, e6⟩
  · have old : ∀ (j : Nat) (s : Slot) (es : List D), (r.set i (.v (.lst ds)))[j]? = some s → s.opn = some es → r[j]? = some s := fun j s es q o => by
      by_cases hj : j = i
      · subst hj; rw [List.getElem?_set_self hi] at q; cases q; cases o
      · rw [List.getElem?_set_ne (Ne.symm hj)] at q; exact q
    exact ok.dis j k s t es fs b hjk (old j s es q1 o1) (old k t fs q2 o2) o1 o2 q3 q4
  · obtain ⟨q1, es, q2⟩ := ok.par j b hp
    refine ⟨q1, es, ?_⟩
    rw [List.getElem?_set_ne (fun z => by subst z; rw [e] at q2; cases q2)]
    exact q2
theorem x_var (i : Nat) {x : Str} (h : PE X (.Name x pos) (tVar i)) : PX X W (.Name x pos) (dVar i) :=
  pe_weak h fun σ H Q ⟨fr, F, r, ok, p⟩ => by
    unfold dVar at p
    split at p
    · rename_i d e
      obtain ⟨v, h1, h2⟩ := ok.sl i _ e
      exact ⟨v, h1, p v H F ok Le.refl h2⟩
    · rename_i ds e
      obtain ⟨a, vs, h1, h2, h3, h4, h5⟩ := ok.sl i _ e
      refine ⟨.ref a, h1, p (.ref a) H (Fadd F a) (ok.freeze e h1 h2 h3 h4 h5) (fun b h => ⟨.inl h, rfl⟩) ?_⟩
      simp only [Den]
      exact ⟨a, vs, rfl, .inr rfl, h2, h5.mono fun b h => ⟨.inl h, rfl⟩⟩
    · exact p.elim
end
end Py
end

section
set_option maxHeartbeats 2000000
namespace Py
open PySem PySem.Spec PyProof.Rows L2

/-! ## Operators by values -/
section
variable {X : Cx} {W : WX} {pos : Pos}
/-- the answer z may be handed on -/
abbrev Giv (G : Gc) (F : Addr → Prop) (H : Hp) (z : D) (Q : VK) : Prop := ∀ w H' F', Nx F H F' H' → Den G F' H' z w → Q w H'
theorem Giv.same {G F H z Q} (k : ∀ a, F a → H a ≠ none) {w : V} (g : Giv G F H z Q) (d : Den G F H z w) : Q w H := g w H F (Nx.refl k) d
structure BOp (X : Cx) (o : Value → Value → Sem Value) (f : D → D → Option D) : Prop where
  ex : ∃ rr : R2, OpR X o rr ∧ ∀ F H x y z v u Q, (∀ a, F a → H a ≠ none) → Den (gc X) F H x v → Den (gc X) F H y u → f x y = some z → Giv (gc X) F H z Q → rr v u H Q
structure COp (X : Cx) (o : Value) (f : List D → Option D) : Prop where
  ex : ∃ rr, CallR X o rr ∧ ∀ F H xs z vs Q, (∀ a, F a → H a ≠ none) → DenL (gc X) F H xs vs → f xs = some z → Giv (gc X) F H z Q → rr vs H Q
structure IOp (X : Cx) (f : D → D → Option D) : Prop where
  ex : ∃ rr : R2, IxR X rr ∧ ∀ F H x y z v u Q, (∀ a, F a → H a ≠ none) → Den (gc X) F H x v → Den (gc X) F H y u → f x y = some z → Giv (gc X) F H z Q → rr v u H Q

def Res.of (o : Option D) (r : Env) : Res D := match o with
  | some z => .ok z r
  | none => .bad
@[simp] theorem Res.of_some (z : D) (r : Env) : Res.of (some z) r = .ok z r := (rfl)
@[simp] theorem Res.of_none (r : Env) : Res.of none r = .bad := (rfl)
theorem post_of {G W fr F H σ r o} {Q : VK} (ok : Ok G fr F H σ r) (p : Post G W (Den G) fr F H σ (Res.of o r) Q) : ∃ z, o = some z ∧ Giv G F H z Q := by
  cases o with
  | none => exact p.elim
  | some z => exact ⟨z, rfl, fun w H' F' n d => p w H' F' (ok.next n) (n.toLe ok.fin) d⟩

def dBin (f : D → D → Option D) (da db : Env → Res D) : Env → Res D := fun r => (da r).bind fun x r => (db r).bind fun y r => Res.of (f x y) r
theorem bin_rd {f : D → D → Option D} {da db : Env → Res D} {rr : R2} (h : ∀ F H x y z v u Q, (∀ a, F a → H a ≠ none) → Den (gc X) F H x v → Den (gc X) F H y u → f x y = some z → Giv (gc X) F H z Q → rr v u H Q)
    {σ : L2.St} {H : Hp} {Q : VK} (p : tR (gc X) W (Den (gc X)) (dBin f da db) σ H Q) : tOp rr (tR (gc X) W (Den (gc X)) da) (tR (gc X) W (Den (gc X)) db) σ H Q := by
  obtain ⟨fr, F, r, ok, p⟩ := p
  refine ⟨fr, F, r, ok, Post.seq p fun x r1 v H1 F1 ok1 l1 q1 p1 => ⟨fr, F1, r1, ok1, Post.seq p1 fun y r2 u H2 F2 ok2 l2 q2 p2 => ?_⟩⟩
  obtain ⟨z, e, g⟩ := post_of ok2 p2
  exact h F2 H2 x y z v u Q ok2.fin (q1.mono l2) q2 e g
theorem x_bin {op : Operator} {a b : Expr} {f : D → D → Option D} {da db : Env → Res D} (ho : BOp X (binaryOp op) f) (ha : PX X W a da) (hb : PX X W b db) : PX X W (.BinOp a op b pos) (dBin f da db) := by
  obtain ⟨rr, h1, h2⟩ := ho.ex
  exact pe_weak (pe_op h1 ha hb) fun σ H Q p => bin_rd h2 p
theorem x_cmp {op : CmpOp} {a b : Expr} {f : D → D → Option D} {da db : Env → Res D} (ho : BOp X (compareOp op) f) (ha : PX X W a da) (hb : PX X W b db) (hm : behindInMarks op b = false) : PX X W (.Compare a [op] [b] pos) (dBin f da db) := by
  obtain ⟨rr, h1, h2⟩ := ho.ex
  exact pe_weak (pe_cmpR h1 ha hb hm) fun σ H Q p => bin_rd h2 p
/-- a value that is a bool, as a test -/
def dTst (d : Env → Res D) : Env → Res Bool := fun r => (d r).bind fun x r => match x with
  | .bl b => .ok b r
  | _ => .bad
theorem tst_rd {G : Gc} {d : Env → Res D} {σ : L2.St} {H : Hp} {Q : Bool → Hp → Prop} (p : tR G W RB (dTst d) σ H Q) : tR G W (Den G) d σ H (fun x H' => ∃ k, x = .bl k ∧ Q k H') := by
  obtain ⟨fr, F, r, ok, p⟩ := p
  refine ⟨fr, F, r, ok, Post.seq p fun x r1 v H1 F1 ok1 l1 q1 p1 => ?_⟩
  cases x with
  | bl b =>
    simp only [Den] at q1
    exact ⟨b, q1, p1 b H1 F1 ok1 Le.refl rfl⟩
  | _ => exact (show False from p1).elim
theorem b_cmp {op : CmpOp} {a b : Expr} {f : D → D → Option D} {da db : Env → Res D} (ho : BOp X (compareOp op) f) (ha : PX X W a da) (hb : PX X W b db) (hm : behindInMarks op b = false) : PB X W (.Compare a [op] [b] pos) (dTst (dBin f da db)) := by
  obtain ⟨rr, h1, h2⟩ := ho.ex
  refine pt_weak (pt_cmpR h1 ha hb hm) fun σ H Q p => ?_
  exact bin_rd h2 (tst_rd p)
/-- any other expression as a test: a bool -/
theorem b_val {e : Expr} {d : Env → Res D} (h : PX X W e d) (he : ∀ whole, isTrue e X.env whole = (do let v ← whole; standAt e.pos; holding [v] (truthy v)) := by intro _; rfl) : PB X W e (dTst d) :=
  pt_weak (pt_val h he) fun σ H Q p => tst_rd p
/-- .. by its truth -/
def fTru : D → Option Bool
  | .non => some false
  | .bl b => some b
  | .int i => some (i != 0)
  | .str y => if y.length ≤ 16777216 then some ((y.length : Int) != 0) else none
  | .tup ds => some (!ds.isEmpty)
  | .lst ds => some (!ds.isEmpty)
  | .frl ds => some (!ds.isEmpty)
  | _ => none
theorem line_eq : sizeLine = 16777216 := sizeLine_eq
theorem emp_of {G F H} {ds : List D} {vs : List V} (h : DenL G F H ds vs) : (!ds.isEmpty) = !vs.isEmpty := by
  have := h.length
  cases ds <;> cases vs <;> simp_all
theorem tru_of {F H x k v} (d : Den (gc X) F H x v) (e : fTru x = some k) : TruV X.K v H k := by
  cases x with
  | non => simp only [Den] at d; subst d; cases e; rfl
  | bl b => simp only [Den] at d; subst d; cases e; rfl
  | int i => simp only [Den] at d; subst d; cases e; rfl
  | str y =>
    simp only [Den] at d; subst d
    simp only [fTru] at e
    split at e
    · rename_i h; cases e; exact ⟨by rw [line_eq]; exact h, rfl⟩
    · cases e
  | tup ds => simp only [Den] at d; obtain ⟨a, vs, rfl, t, l⟩ := d; cases e; exact .inr (.inl ⟨vs, t.sq, emp_of l⟩)
  | lst ds => simp only [Den] at d; obtain ⟨a, vs, rfl, f, t, l⟩ := d; cases e; exact .inl ⟨vs, .of t, emp_of l⟩
  | frl ds => simp only [Den] at d; obtain ⟨a, vs, rfl, t, l⟩ := d; cases e; exact .inl ⟨vs, t.sq, emp_of l⟩
  | _ => cases e
def dTru (d : Env → Res D) : Env → Res Bool := fun r => (d r).bind fun x r => match fTru x with
  | some b => .ok b r
  | none => .bad
theorem b_tru {e : Expr} {d : Env → Res D} (h : PX X W e d) (he : ∀ whole, isTrue e X.env whole = (do let v ← whole; standAt e.pos; holding [v] (truthy v)) := by intro _; rfl) : PB X W e (dTru d) :=
  pt_weak (pt_truth h he) fun σ H Q p => by
    obtain ⟨fr, F, r, ok, p⟩ := p
    refine ⟨fr, F, r, ok, Post.seq p fun x r1 v H1 F1 ok1 l1 q1 p1 => ?_⟩
    cases e : fTru x with
    | none => rw [e] at p1; exact (show False from p1).elim
    | some b =>
      rw [e] at p1
      exact ⟨b, tru_of q1 e, p1 b H1 F1 ok1 Le.refl rfl⟩
/-! and, or, not -/
def dNot (d : Env → Res Bool) : Env → Res Bool := fun r => (d r).bind fun b r => .ok (!b) r
theorem b_not {a : Expr} {d : Env → Res Bool} (h : PB X W a d) : PB X W (.UnaryOp .Not a pos) (dNot d) :=
  pt_weak (pt_not h) fun σ H Q ⟨fr, F, r, ok, p⟩ => ⟨fr, F, r, ok, Post.seq p fun x r1 v H1 F1 ok1 l1 q1 p1 => by
    have q1 : v = x := q1
    subst q1
    exact p1 _ H1 F1 ok1 Le.refl rfl⟩
def PBw (X : Cx) (W : WX) (e : Expr) (d : Env → Res Bool) : Prop := PW X e (tR ⟨X.K, X.mg⟩ W RB d)
theorem pw_weak {X : Cx} {e : Expr} {t t' : TT} (h : PW X e t) (w : ∀ σ H Q, t' σ H Q → t σ H Q) : PW X e t' := ⟨fun wh pins s σ H Q I k => h.run wh pins s σ H Q I (w σ H Q k)⟩
theorem PBw.b {e : Expr} {d : Env → Res Bool} (h : PBw X W e d) : PB X W e d := PW.pt h
def dAnd (d1 d2 : Env → Res Bool) : Env → Res Bool := fun r => (d1 r).bind fun b r => if b = true then d2 r else .ok false r
def dOr (d1 d2 : Env → Res Bool) : Env → Res Bool := fun r => (d1 r).bind fun b r => if b = true then .ok true r else d2 r
theorem w_and1 {a : Expr} {d : Env → Res Bool} (h : PB X W a d) : PBw X W (.BoolOp .And [a] pos) d := pw_and1 h
theorem w_or1 {a : Expr} {d : Env → Res Bool} (h : PB X W a d) : PBw X W (.BoolOp .Or [a] pos) d := pw_or1 h
theorem w_and {a b : Expr} {rest : List Expr} {d1 d2 : Env → Res Bool} (h1 : PB X W a d1) (h2 : PBw X W (.BoolOp .And (b :: rest) pos) d2) : PBw X W (.BoolOp .And (a :: b :: rest) pos) (dAnd d1 d2) :=
  pw_weak (pw_and h1 h2) fun σ H Q ⟨fr, F, r, ok, p⟩ => ⟨fr, F, r, ok, Post.seq p fun x r1 v H1 F1 ok1 l1 q1 p1 => by
    have q1 : v = x := q1
    subst q1
    cases v with
    | true => exact ⟨fr, F1, r1, ok1, p1⟩
    | false => exact p1 _ H1 F1 ok1 Le.refl rfl⟩
theorem w_or {a b : Expr} {rest : List Expr} {d1 d2 : Env → Res Bool} (h1 : PB X W a d1) (h2 : PBw X W (.BoolOp .Or (b :: rest) pos) d2) : PBw X W (.BoolOp .Or (a :: b :: rest) pos) (dOr d1 d2) :=
  pw_weak (pw_or h1 h2) fun σ H Q ⟨fr, F, r, ok, p⟩ => ⟨fr, F, r, ok, Post.seq p fun x r1 v H1 F1 ok1 l1 q1 p1 => by
    have q1 : v = x := q1
    subst q1
    cases v with
    | true => exact p1 _ H1 F1 ok1 Le.refl rfl
    | false => exact ⟨fr, F1, r1, ok1, p1⟩⟩
/-! .. as values -/
def dAndV (d1 d2 : Env → Res D) : Env → Res D := fun r => (d1 r).bind fun x r => match fTru x with
  | some true => d2 r
  | some false => .ok x r
  | none => .bad
def dOrV (d1 d2 : Env → Res D) : Env → Res D := fun r => (d1 r).bind fun x r => match fTru x with
  | some true => .ok x r
  | some false => d2 r
  | none => .bad
def dNotV (d : Env → Res D) : Env → Res D := fun r => (d r).bind fun x r => match fTru x with
  | some b => .ok (.bl (!b)) r
  | none => .bad
theorem x_one {op} {a : Expr} {d : Env → Res D} (h : PX X W a d) : PX X W (.BoolOp op [a] pos) d := pe_one h
theorem x_and {a b : Expr} {rest : List Expr} {d1 d2 : Env → Res D} (h1 : PX X W a d1) (h2 : PX X W (.BoolOp .And (b :: rest) pos) d2) : PX X W (.BoolOp .And (a :: b :: rest) pos) (dAndV d1 d2) :=
  pe_weak (pe_andT h1 h2) fun σ H Q ⟨fr, F, r, ok, p⟩ => ⟨fr, F, r, ok, Post.seq p fun x r1 v H1 F1 ok1 l1 q1 p1 => by
    cases e : fTru x with
    | none => rw [e] at p1; exact (show False from p1).elim
    | some k =>
      rw [e] at p1
      refine ⟨k, tru_of q1 e, ?_⟩
      cases k with
      | true => exact ⟨fr, F1, r1, ok1, p1⟩
      | false => exact p1 v H1 F1 ok1 Le.refl q1⟩
theorem x_or {a b : Expr} {rest : List Expr} {d1 d2 : Env → Res D} (h1 : PX X W a d1) (h2 : PX X W (.BoolOp .Or (b :: rest) pos) d2) : PX X W (.BoolOp .Or (a :: b :: rest) pos) (dOrV d1 d2) :=
  pe_weak (pe_orT h1 h2) fun σ H Q ⟨fr, F, r, ok, p⟩ => ⟨fr, F, r, ok, Post.seq p fun x r1 v H1 F1 ok1 l1 q1 p1 => by
    cases e : fTru x with
    | none => rw [e] at p1; exact (show False from p1).elim
    | some k =>
      rw [e] at p1
      refine ⟨k, tru_of q1 e, ?_⟩
      cases k with
      | true => exact p1 v H1 F1 ok1 Le.refl q1
      | false => exact ⟨fr, F1, r1, ok1, p1⟩⟩
theorem x_not {a : Expr} {d : Env → Res D} (h : PX X W a d) : PX X W (.UnaryOp .Not a pos) (dNotV d) :=
  pe_weak (pe_notT h) fun σ H Q ⟨fr, F, r, ok, p⟩ => ⟨fr, F, r, ok, Post.seq p fun x r1 v H1 F1 ok1 l1 q1 p1 => by
    cases e : fTru x with
    | none => rw [e] at p1; exact (show False from p1).elim
    | some k =>
      rw [e] at p1
      exact ⟨k, tru_of q1 e, p1 (.bl (!k)) H1 F1 ok1 Le.refl (by simp only [Den])⟩⟩
/-- a if t else b -/
def dIfE (t : Env → Res Bool) (a b : Env → Res D) : Env → Res D := fun r => (t r).bind fun c r => if c = true then a r else b r
theorem x_if {c a b : Expr} {t : Env → Res Bool} {d1 d2 : Env → Res D} (h : PB X W c t) (h1 : PX X W a d1) (h2 : PX X W b d2) : PX X W (.IfExp c a b pos) (dIfE t d1 d2) :=
  pe_weak (pe_ifExp h h1 h2) fun σ H Q ⟨fr, F, r, ok, p⟩ => ⟨fr, F, r, ok, Post.seq p fun x r1 v H1 F1 ok1 l1 q1 p1 => by
    have q1 : v = x := q1
    subst q1
    cases v with
    | true => exact ⟨fr, F1, r1, ok1, p1⟩
    | false => exact ⟨fr, F1, r1, ok1, p1⟩⟩

/-! ## Arguments, displays -/
def dNil : Env → Res (List D) := fun r => .ok [] r
def dCons (d : Env → Res D) (ds : Env → Res (List D)) : Env → Res (List D) := fun r => (d r).bind fun x r => (ds r).bind fun xs r => .ok (x :: xs) r
theorem l_nil : PL X W [] dNil := pa_weak pa_nil fun σ H Q ⟨fr, F, r, ok, p⟩ => p [] H F ok Le.refl (by simp only [DenL])
theorem l_cons {e : Expr} {es : List Expr} {d : Env → Res D} {ds : Env → Res (List D)} (h1 : PX X W e d) (h2 : PL X W es ds) (hs : starEach (e :: es) X.env = (false, eval e X.env) :: starEach es X.env := by rfl) : PL X W (e :: es) (dCons d ds) :=
  pa_weak (pa_cons h1 h2 hs) fun σ H Q ⟨fr, F, r, ok, p⟩ => ⟨fr, F, r, ok, Post.seq p fun x r1 v H1 F1 ok1 l1 q1 p1 => ⟨fr, F1, r1, ok1, Post.seq p1 fun y r2 u H2 F2 ok2 l2 q2 p2 =>
    p2 (v :: u) H2 F2 ok2 Le.refl (by simp only [DenL]; exact ⟨v, u, rfl, q1.mono l2, q2⟩)⟩⟩
def dTup (ds : Env → Res (List D)) : Env → Res D := fun r => (ds r).bind fun xs r => if xs.length ≤ 16777216 then .ok (.tup xs) r else .bad
theorem den_newt {G F H} {ds : List D} {vs : List V} {p : Addr} (hp : H p = none) (k : ∀ a, F a → H a ≠ none) (h : DenL G F H ds vs) : Den G (Fadd F p) (upd H p (.tup vs)) (.tup ds) (.ref p) := by
  simp only [Den]
  exact ⟨p, vs, rfl, .inl ⟨.inr rfl, upd_same⟩, h.mono ((Nx.frz k hp).toLe k)⟩
theorem den_newl {G F H} {ds : List D} {vs : List V} {p : Addr} (hp : H p = none) (k : ∀ a, F a → H a ≠ none) (h : DenL G F H ds vs) : Den G (Fadd F p) (upd H p (.lst vs)) (.lst ds) (.ref p) := by
  simp only [Den]
  exact ⟨p, vs, rfl, .inr rfl, upd_same, h.mono ((Nx.frz k hp).toLe k)⟩
theorem x_tup {es : List Expr} {k : Nat} {ds : Env → Res (List D)} (h : PL X W es ds) : PX X W (.Tuple es k pos) (dTup ds) :=
  pe_weak (pe_tup h) fun σ H Q ⟨fr, F, r, ok, p⟩ => ⟨fr, F, r, ok, Post.seq p fun xs r1 vs H1 F1 ok1 l1 q1 p1 => by
    split at p1
    · rename_i hl
      refine ⟨by rw [q1.length, line_eq]; exact hl, fun a ha => p1 _ _ (Fadd F1 a) (ok1.next (Nx.frz ok1.fin ha)) ((Nx.frz ok1.fin ha).toLe ok1.fin) (den_newt ha ok1.fin q1)⟩
    · exact (show False from p1).elim⟩
/-- a new list, not yet held by anybody -/
def dLst (ds : Env → Res (List D)) : Env → Res Val := fun r => (ds r).bind fun xs r => if xs.length ≤ 16777216 then .ok (.n xs) r else .bad
theorem Ok.opn_at {G fr F H σ r} (ok : Ok G fr F H σ r) {i : Nat} {s : Slot} {es : List D} {a : Addr} (e : r[i]? = some s) (o : s.opn = some es) (h : σ[i]? = some (some (V.ref a))) : ∃ vs, H a = some (.lst vs) ∧ ¬ F a ∧ (∀ o, ¬ fr.Z a o) ∧ DenL G F H es vs := by
  have q := ok.sl i s e
  cases s with
  | un => cases o
  | v d => cases o
  | o ds =>
    cases o
    obtain ⟨b, vs, e1, e2, e3, e4, e5⟩ := q
    rw [h] at e1; cases e1
    exact ⟨vs, e2, e3, e4, e5⟩
  | p ds =>
    cases o
    obtain ⟨b, vs, e1, e2, e3, e4, e5, e6⟩ := q
    rw [h] at e1; cases e1
    exact ⟨vs, e2, e3, e4, e5⟩
theorem den_nn {G fr F H σ r} (ok : Ok G fr F H σ r) {ds : List D} {vs : List V} {p : Addr} (hp : H p = none) (h : DenL G F H ds vs) : DenN G fr F (upd H p (.lst vs)) r σ ds (.ref p) := by
  refine ⟨p, vs, rfl, upd_same, fun z => absurd hp (ok.fin p z), fun o z => ?_, h.mono ((Nx.open ok.fin hp).toLe ok.fin), fun i s es e1 e2 e3 => ?_⟩
  · have := (ok.prot p o z).1; rw [hp] at this; cases this
  · obtain ⟨vs, z, _⟩ := ok.opn_at e1 e2 e3
    rw [hp] at z; cases z
theorem v_lst {es : List Expr} {ds : Env → Res (List D)} (h : PL X W es ds) : PV X W (.List es pos) (dLst ds) :=
  pe_weak (pe_lst h) fun σ H Q ⟨fr, F, r, ok, p⟩ => ⟨fr, F, r, ok, Post.seqV p fun xs r1 vs H1 F1 ok1 l1 q1 p1 => by
    split at p1
    · rename_i hl
      exact ⟨by rw [q1.length, line_eq]; exact hl, fun a ha => p1 _ _ F1 (ok1.next (Nx.open ok1.fin ha)) ((Nx.open ok1.fin ha).toLe ok1.fin) (den_nn ok1 ha q1)⟩
    · exact (show False from p1).elim⟩
/-- .. held -/
def dHold (d : Env → Res Val) : Env → Res D := fun r => (d r).bind fun x r => match x with
  | .v d => .ok d r
  | .n ds => .ok (.lst ds) r
theorem Ok.frzN {G fr F H σ r ds v} (ok : Ok G fr F H σ r) (h : DenN G fr F H r σ ds v) : ∃ F', Ok G fr F' H σ r ∧ Le F H F' H ∧ Den G F' H (.lst ds) v := by
  obtain ⟨a, vs, rfl, h1, h2, h3, h4, h5⟩ := h
  have l : Le F H (Fadd F a) H := fun b h => ⟨.inl h, rfl⟩
  have nf : ∀ (i : Nat) (s : Slot) (es : List D) (b : Addr), r[i]? = some s → s.opn = some es → σ[i]? = some (some (V.ref b)) → ¬ Fadd F a b := fun i s es b e1 e2 e3 z => by
    obtain ⟨_, _, z1, _⟩ := ok.opn_at e1 e2 e3
    rcases z with z | z
    · exact z1 z
    · subst z; exact h5 i s es e1 e2 e3
  refine ⟨Fadd F a, ⟨fun b hb => ?_, fun b hb => ⟨.inl (ok.grow b hb).1, (ok.grow b hb).2⟩, fun b o z => ⟨(ok.prot b o z).1, fun q => ?_⟩, ok.len, fun i s e => ?_, ok.dis, ok.par⟩, l, ?_⟩
  · rcases hb with hb | hb
    · exact ok.fin b hb
    · subst hb; rw [h1]; simp
  · rcases q with q | q
    · exact (ok.prot b o z).2 q
    · subst q; exact h3 o z
  · have z := ok.sl i s e
    cases s with
    | un => trivial
    | v d => obtain ⟨v, e1, e2⟩ := z; exact ⟨v, e1, e2.mono l⟩
    | o es =>
      obtain ⟨b, ws, e1, e2, e3, e4, e5⟩ := z
      exact ⟨b, ws, e1, e2, nf i _ es b e rfl e1, e4, e5.mono l⟩
    | p es =>
      obtain ⟨b, ws, e1, e2, e3, e4, e5, e6⟩ := z
      exact ⟨b, ws, e1, e2, nf i _ es b e rfl e1, e4, e5.mono l, e6⟩
  · simp only [Den]
    exact ⟨a, vs, rfl, .inr rfl, h1, h4.mono l⟩
theorem x_hold {e : Expr} {d : Env → Res Val} (h : PV X W e d) : PX X W e (dHold d) := pe_weak h fun σ H Q ⟨fr, F, r, ok, p⟩ => ⟨fr, F, r, ok, PostV.seq p fun x r1 v H1 F1 ok1 l1 q1 p1 => by
  cases x with
  | v d => exact p1 v H1 F1 ok1 Le.refl q1
  | n ds =>
    obtain ⟨F2, ok2, l2, q2⟩ := ok1.frzN q1
    exact p1 v H1 F2 ok2 l2 q2⟩
/-- a value that is nobody's new list -/
def dVal (d : Env → Res D) : Env → Res Val := fun r => (d r).bind fun x r => .ok (.v x) r
theorem v_val {e : Expr} {d : Env → Res D} (h : PX X W e d) : PV X W e (dVal d) := pe_weak h fun σ H Q ⟨fr, F, r, ok, p⟩ => ⟨fr, F, r, ok, Post.seqV p fun x r1 v H1 F1 ok1 l1 q1 p1 => p1 v H1 F1 ok1 Le.refl q1⟩
theorem v_const {e : Expr} {d : D} (h : PX X W e (dC d)) : PV X W e (dVal (dC d)) := v_val h

/-! ## Built-in calls, subscripts -/
def dCal (f : List D → Option D) (ds : Env → Res (List D)) : Env → Res D := fun r => (ds r).bind fun xs r => Res.of (f xs) r
theorem cal_rd {f : List D → Option D} {ds : Env → Res (List D)} {rr : List V → Hp → VK → Prop} (h : ∀ F H xs z vs Q, (∀ a, F a → H a ≠ none) → DenL (gc X) F H xs vs → f xs = some z → Giv (gc X) F H z Q → rr vs H Q)
    {σ : L2.St} {H : Hp} {Q : VK} (p : tR (gc X) W (Den (gc X)) (dCal f ds) σ H Q) : tCB rr (tR (gc X) W (DenL (gc X)) ds) σ H Q := by
  obtain ⟨fr, F, r, ok, p⟩ := p
  refine ⟨fr, F, r, ok, Post.seq p fun xs r1 vs H1 F1 ok1 l1 q1 p1 => ?_⟩
  obtain ⟨z, e, g⟩ := post_of ok1 p1
  exact h F1 H1 xs z vs Q ok1.fin q1 e g
theorem x_callB {id : String} {x : Str} {p : Pos} {e : Expr} {es : List Expr} {f : List D → Option D} {ds : Env → Res (List D)} (ho : COp X (.builtin id) f) (hg : Gl X x) (hm : X.mg x = none) (hv : bootBuiltins x = some (.builtin id)) (ha : PL X W (e :: es) ds) (hn : x ≠ "__name__" := by decide) (hdb : (x == ("__debug__" : Str)) = false := by decide)
    (he : starEach (e :: es) X.env = (false, eval e X.env) :: starEach es X.env := by rfl) (hpl : (backTo pos (starEach es X.env)).any (·.1) = false := by rfl) : PX X W (.Call (.Name x p) (e :: es) [] pos) (dCal f ds) := by
  obtain ⟨rr, h1, h2⟩ := ho.ex
  exact pe_weak (pe_callB h1 hg hm hv ha hn hdb he hpl) fun σ H Q p => cal_rd h2 p
theorem x_callT {T : String} {x : Str} {p : Pos} {e : Expr} {es : List Expr} {f : List D → Option D} {ds : Env → Res (List D)} (ho : COp X (.type T) f) (hg : Gl X x) (hm : X.mg x = none) (hv : bootBuiltins x = some (.type T)) (ha : PL X W (e :: es) ds) (hn : x ≠ "__name__" := by decide) (hdb : (x == ("__debug__" : Str)) = false := by decide)
    (he : starEach (e :: es) X.env = (false, eval e X.env) :: starEach es X.env := by rfl) (hpl : (backTo pos (starEach es X.env)).any (·.1) = false := by rfl) : PX X W (.Call (.Name x p) (e :: es) [] pos) (dCal f ds) := by
  obtain ⟨rr, h1, h2⟩ := ho.ex
  exact pe_weak (pe_callTy h1 hg hm hv ha hn hdb he hpl) fun σ H Q p => cal_rd h2 p
theorem x_ix {a b : Expr} {f : D → D → Option D} {da db : Env → Res D} (ho : IOp X f) (ha : PX X W a da) (hb : PX X W b db) (hs : PlainIx b := by exact fun _ _ => rfl) : PX X W (.Subscript a b pos) (dBin f da db) := by
  obtain ⟨rr, h1, h2⟩ := ho.ex
  exact pe_weak (pe_ix h1 ha hb hs) fun σ H Q p => bin_rd h2 p
end
end Py
end

section
set_option maxHeartbeats 2000000
namespace Py
open PySem PySem.Spec PyProof.Rows L2

/-! ## Slots stored -/
section
variable {G : Gc} {fr : Fr} {F : Addr → Prop} {H : Hp} {σ : L2.St} {r : Env}
theorem Ok.slotlen (ok : Ok G fr F H σ r) {i : Nat} {x : Option V} (h : σ[i]? = some x) : i < r.length := by
  rw [← ok.len]; exact (List.getElem?_eq_some_iff.mp h).1
/-- a slot's content is forgotten -/
theorem Ok.unset (ok : Ok G fr F H σ r) {i : Nat} (np : ∀ ds, r[i]? ≠ some (.p ds)) : Ok G fr F H σ (r.set i .un) := by
  have old : ∀ (j : Nat) (s : Slot) (es : List D), (r.set i .un)[j]? = some s → s.opn = some es → r[j]? = some s := fun j s es q o => by
    by_cases hj : i = j
    · subst hj
      by_cases hi : i < r.length
      · rw [List.getElem?_set_self hi] at q; cases q; cases o
      · rw [List.getElem?_eq_none (by simpa using hi)] at q; cases q
    · rw [List.getElem?_set_ne hj] at q; exact q
  refine ⟨ok.fin, ok.grow, ok.prot, by rw [List.length_set]; exact ok.len, fun j s q => ?_, fun j k s t es fs b hjk q1 q2 o1 o2 q3 q4 => ok.dis j k s t es fs b hjk (old j s es q1 o1) (old k t fs q2 o2) o1 o2 q3 q4, fun j b hp => ?_⟩
  · by_cases hj : i = j
    · subst hj
      by_cases hi : i < r.length
      · rw [List.getElem?_set_self hi] at q; cases q; trivial
      · rw [List.getElem?_eq_none (by simpa using hi)] at q; cases q
    · rw [List.getElem?_set_ne hj] at q
      exact ok.sl j s q
  · obtain ⟨q1, es, q2⟩ := ok.par j b hp
    refine ⟨q1, es, ?_⟩
    rw [List.getElem?_set_ne (fun z => by subst z; exact np es q2)]
    exact q2
/-- a slot is stored -/
theorem Ok.store (ok : Ok G fr F H σ r) {i : Nat} (np : ∀ ds, r[i]? ≠ some (.p ds)) {v : V} {s : Slot} (hs : SlotOk G fr F H i (some (some v)) s)
    (hd : ∀ es, s.opn = some es → ∀ (j : Nat) (t : Slot) (fs : List D), j ≠ i → r[j]? = some t → t.opn = some fs → ∀ a, v = .ref a → σ[j]? ≠ some (some (V.ref a))) : Ok G fr F H (σ.set i (some v)) (r.set i s) := by
  by_cases hi : i < r.length
  · have hi' : i < σ.length := by rw [ok.len]; exact hi
    refine ⟨ok.fin, ok.grow, ok.prot, by rw [List.length_set, List.length_set]; exact ok.len, fun j t q => ?_, fun j k t u es fs b hjk q1 q2 o1 o2 q3 q4 => ?_, fun j b hp => ?_⟩
    · by_cases hj : i = j
      · subst hj
        rw [List.getElem?_set_self hi] at q; cases q
        rw [List.getElem?_set_self hi']
        exact hs
      · rw [List.getElem?_set_ne hj] at q
        rw [List.getElem?_set_ne hj]
        exact ok.sl j t q
    · by_cases hj : i = j
      · subst hj
        rw [List.getElem?_set_self hi] at q1; cases q1
        rw [List.getElem?_set_self hi'] at q3
        rw [List.getElem?_set_ne hjk] at q2 q4
        exact hd es o1 k u fs (Ne.symm hjk) q2 o2 b (Option.some.inj (Option.some.inj q3)) q4
      · rw [List.getElem?_set_ne hj] at q1 q3
        by_cases hk : i = k
        · subst hk
          rw [List.getElem?_set_self hi] at q2; cases q2
          rw [List.getElem?_set_self hi'] at q4
          exact hd fs o2 j t es (fun z => hj z.symm) q1 o1 b (Option.some.inj (Option.some.inj q4)) q3
        · rw [List.getElem?_set_ne hk] at q2 q4
          exact ok.dis j k t u es fs b hjk q1 q2 o1 o2 q3 q4
    · obtain ⟨q1, es, q2⟩ := ok.par j b hp
      have hj : i ≠ j := fun z => by subst z; exact np es q2
      rw [List.getElem?_set_ne hj, List.getElem?_set_ne hj]
      exact ⟨q1, es, q2⟩
  · have e1 : r.set i s = r := List.set_eq_of_length_le (by omega)
    have e2 : σ.set i (some v) = σ := List.set_eq_of_length_le (by rw [ok.len]; omega)
    rw [e1, e2]
    exact ok
theorem Ok.storeV (ok : Ok G fr F H σ r) {i : Nat} (np : ∀ ds, r[i]? ≠ some (.p ds)) {v : V} {d : D} (h : Den G F H d v) : Ok G fr F H (σ.set i (some v)) (r.set i (.v d)) :=
  ok.store np ⟨v, rfl, h⟩ fun es z => nomatch z
theorem Ok.storeN (ok : Ok G fr F H σ r) {i : Nat} (np : ∀ ds, r[i]? ≠ some (.p ds)) {v : V} {ds : List D} (h : DenN G fr F H r σ ds v) : Ok G fr F H (σ.set i (some v)) (r.set i (.o ds)) := by
  obtain ⟨a, vs, rfl, h1, h2, h3, h4, h5⟩ := h
  refine ok.store np ⟨a, vs, rfl, h1, h2, h3, h4⟩ fun es _ j t fs hj e1 e2 b e3 => ?_
  cases e3
  exact h5 j t fs e1 e2
/-- the content of an open list has changed -/
theorem Ok.chg (ok : Ok G fr F H σ r) {i : Nat} {s s' : Slot} {ds es : List D} {a : Addr} {vs : List V} (e : r[i]? = some s) (o : s.opn = some ds) (h : σ[i]? = some (some (V.ref a)))
    (hs : s' = match s with | .o _ => .o es | _ => .p es) (d : DenL G F H es vs) : Ok G fr F (upd H a (.lst vs)) σ (r.set i s') ∧ Le F H F (upd H a (.lst vs)) := by
  obtain ⟨ws, z1, z2, z3, z4⟩ := ok.opn_at e o h
  have hi : i < r.length := (List.getElem?_eq_some_iff.mp e).1
  have l : Le F H F (upd H a (.lst vs)) := fun b hb => ⟨hb, upd_ne fun z => by subst z; exact z2 hb⟩
  have ho' : s'.opn = some es := by
    cases s with
    | o _ => subst hs; rfl
    | p _ => subst hs; rfl
    | un => cases o
    | v _ => cases o
  have old : ∀ (j : Nat) (t : Slot) (fs : List D), (r.set i s')[j]? = some t → t.opn = some fs → ∃ t' fs', r[j]? = some t' ∧ t'.opn = some fs' := fun j t fs q oo => by
    by_cases hj : i = j
    · subst hj; exact ⟨s, ds, e, o⟩
    · rw [List.getElem?_set_ne hj] at q; exact ⟨t, fs, q, oo⟩
  refine ⟨⟨fun b hb => ?_, fun b hb => ⟨(ok.grow b hb).1, by rw [(l b (ok.grow b hb).1).2]; exact (ok.grow b hb).2⟩, fun b o z => ⟨?_, (ok.prot b o z).2⟩, by rw [List.length_set]; exact ok.len, fun j t q => ?_, fun j k t u fs gs b hjk q1 q2 o1 o2 q3 q4 => ?_, fun j b hp => ?_⟩, l⟩
  · rw [(l b hb).2]; exact ok.fin b hb
  · rw [upd_ne (fun q => by subst q; exact z3 o z)]; exact (ok.prot b o z).1
  · by_cases hj : i = j
    · subst hj
      rw [List.getElem?_set_self hi] at q; cases q
      have q := ok.sl i s e
      cases s with
      | o _ =>
        subst hs
        exact ⟨a, vs, h, upd_same, z2, z3, d.mono l⟩
      | p _ =>
        obtain ⟨b, _, q1, _, _, _, _, q6⟩ := q
        rw [h] at q1; cases q1
        subst hs
        exact ⟨a, vs, h, upd_same, z2, z3, d.mono l, q6⟩
      | un => cases o
      | v _ => cases o
    · rw [List.getElem?_set_ne hj] at q
      have z := ok.sl j t q
      have nb : ∀ fs b, t.opn = some fs → σ[j]? = some (some (V.ref b)) → b ≠ a := fun fs b o1 q1 z => by
        subst z; exact ok.dis i j s t ds fs b hj e q o o1 h q1
      cases t with
      | un => trivial
      | v d => obtain ⟨v, e1, e2⟩ := z; exact ⟨v, e1, e2.mono l⟩
      | o fs =>
        obtain ⟨b, us, e1, e2, e3, e4, e5⟩ := z
        exact ⟨b, us, e1, by rw [upd_ne (nb fs b rfl e1)]; exact e2, e3, e4, e5.mono l⟩
      | p fs =>
        obtain ⟨b, us, e1, e2, e3, e4, e5, e6⟩ := z
        exact ⟨b, us, e1, by rw [upd_ne (nb fs b rfl e1)]; exact e2, e3, e4, e5.mono l, e6⟩
  · obtain ⟨t', fs', y1, y2⟩ := old j t fs q1 o1
    obtain ⟨u', gs', y3, y4⟩ := old k u gs q2 o2
    exact ok.dis j k t' u' fs' gs' b hjk y1 y3 y2 y4 q3 q4
  · obtain ⟨q1, fs, q2⟩ := ok.par j b hp
    refine ⟨q1, ?_⟩
    by_cases hj : i = j
    · subst hj
      rw [e] at q2; cases q2
      subst hs
      exact ⟨es, List.getElem?_set_self hi⟩
    · rw [List.getElem?_set_ne hj]
      exact ⟨fs, q2⟩
end
def setOpn (r : Env) (j : Nat) (ds : List D) : Env := match r[j]? with
  | some (.o _) => r.set j (.o ds)
  | some (.p _) => r.set j (.p ds)
  | _ => r
def getOpn (r : Env) (j : Nat) : Option (List D) := match r[j]? with
  | some (.o ds) => some ds
  | some (.p ds) => some ds
  | _ => none
def notP (r : Env) (j : Nat) : Bool := match r[j]? with
  | some (.p _) => false
  | _ => true
theorem notP_ok {r : Env} {j : Nat} (h : notP r j = true) : ∀ ds, r[j]? ≠ some (.p ds) := fun ds e => by
  unfold notP at h; rw [e] at h; cases h
theorem getOpn_ok {r : Env} {j : Nat} {ds : List D} (h : getOpn r j = some ds) : ∃ s, r[j]? = some s ∧ s.opn = some ds ∧ ∀ es, setOpn r j es = r.set j (match s with | .o _ => .o es | _ => .p es) := by
  unfold getOpn at h
  split at h
  · rename_i e e'; cases h; exact ⟨_, e', rfl, fun es => by unfold setOpn; rw [e']⟩
  · rename_i e e'; cases h; exact ⟨_, e', rfl, fun es => by unfold setOpn; rw [e']⟩
  · cases h
theorem Ok.opened {G fr F H σ r} (ok : Ok G fr F H σ r) {j : Nat} {ds : List D} (h : getOpn r j = some ds) : ∃ a vs, σ[j]? = some (some (V.ref a)) ∧ H a = some (.lst vs) ∧ ¬ F a ∧ DenL G F H ds vs ∧
    ∀ es ws, DenL G F H es ws → Ok G fr F (upd H a (.lst ws)) σ (setOpn r j es) ∧ Le F H F (upd H a (.lst ws)) := by
  obtain ⟨s, e1, e2, e3⟩ := getOpn_ok h
  have q := ok.sl j s e1
  have : ∃ a, σ[j]? = some (some (V.ref a)) := by
    cases s with
    | o _ => obtain ⟨a, vs, q, _⟩ := q; exact ⟨a, q⟩
    | p _ => obtain ⟨a, vs, q, _⟩ := q; exact ⟨a, q⟩
    | un => cases e2
    | v _ => cases e2
  obtain ⟨a, ha⟩ := this
  obtain ⟨vs, z1, z2, z3, z4⟩ := ok.opn_at e1 e2 ha
  refine ⟨a, vs, ha, z1, z2, z4, fun es ws d => ?_⟩
  rw [e3 es]
  cases s with
  | o _ => exact ok.chg e1 e2 ha rfl d
  | p _ => exact ok.chg e1 e2 ha rfl d
  | un => cases e2
  | v _ => cases e2

/-! ## Statements -/
inductive SRes where
  | nx (r : Env) | rt (x : D) (r : Env) | rn (ds : List D) (r : Env) | bk (r : Env) | ct (r : Env) | err (e : D) (r : Env) | bad
section
variable (G : Gc) (W : WX) (fr : Fr) (F : Addr → Prop) (H : Hp)
def PostS (m : SRes) (E : Ends) : Prop := match m with
  | .nx r' => ∀ σ' H' F', Ok G fr F' H' σ' r' → Le F H F' H' → E.nx σ' H'
  | .bk r' => ∀ σ' H' F', Ok G fr F' H' σ' r' → Le F H F' H' → E.bk σ' H'
  | .ct r' => ∀ σ' H' F', Ok G fr F' H' σ' r' → Le F H F' H' → E.ct σ' H'
  | .rt x r' => ∀ v σ' H' F', Ok G fr F' H' σ' r' → Le F H F' H' → Den G F' H' x v → E.rt v H'
  | .rn ds r' => ∀ v σ' H' F', Ok G fr F' H' σ' r' → Le F H F' H' → DenN G fr F' H' r' σ' ds v → E.rt v H'
  | .err x r' => ∀ c dd σ' H' F', Ok G fr F' H' σ' r' → Le F H F' H' → DenX G F' H' x c dd → W c dd σ' H'
  | .bad => False
end
def tS (G : Gc) (W : WX) (d : Env → SRes) : TS := fun E σ H => ∃ fr F r, Ok G fr F H σ r ∧ PostS G W fr F H (d r) E
def PT1 (X : Cx) (W : WX) (st : Stmt) (d : Env → SRes) : Prop := PS X st (tS (gc X) W d)
def PTs (X : Cx) (W : WX) (st : List Stmt) (d : Env → SRes) : Prop := PSs X st (tS (gc X) W d)
def SRes.seq (m : SRes) (k : Env → SRes) : SRes := match m with
  | .nx r => k r
  | m => m
def Res.toS {α : Type} (m : Res α) (k : α → Env → SRes) : SRes := match m with
  | .ok a r => k a r
  | .err e r => .err e r
  | .bad => .bad
@[simp] theorem Res.toS_ok {α : Type} (a : α) (r : Env) (k : α → Env → SRes) : (Res.ok a r).toS k = k a r := (rfl)
@[simp] theorem Res.toS_err {α : Type} (e : D) (r : Env) (k : α → Env → SRes) : (Res.err e r : Res α).toS k = .err e r := (rfl)
@[simp] theorem Res.toS_bad {α : Type} (k : α → Env → SRes) : (Res.bad : Res α).toS k = .bad := (rfl)
@[simp] theorem SRes.seq_nx (r : Env) (k : Env → SRes) : (SRes.nx r).seq k = k r := (rfl)
@[simp] theorem SRes.seq_rt (x : D) (r : Env) (k : Env → SRes) : (SRes.rt x r).seq k = .rt x r := (rfl)
@[simp] theorem SRes.seq_rn (x : List D) (r : Env) (k : Env → SRes) : (SRes.rn x r).seq k = .rn x r := (rfl)
@[simp] theorem SRes.seq_bk (r : Env) (k : Env → SRes) : (SRes.bk r).seq k = .bk r := (rfl)
@[simp] theorem SRes.seq_ct (r : Env) (k : Env → SRes) : (SRes.ct r).seq k = .ct r := (rfl)
@[simp] theorem SRes.seq_err (e : D) (r : Env) (k : Env → SRes) : (SRes.err e r).seq k = .err e r := (rfl)
@[simp] theorem SRes.seq_bad (k : Env → SRes) : (SRes.bad).seq k = .bad := (rfl)
section
variable {G : Gc} {W : WX} {fr : Fr} {F F1 : Addr → Prop} {H H1 : Hp} {σ : L2.St} {r : Env}
theorem PostS.le {m : SRes} {E : Ends} (l : Le F H F1 H1) (h : PostS G W fr F H m E) : PostS G W fr F1 H1 m E := by
  cases m with
  | nx r' => exact fun σ' H' F' k l' => h σ' H' F' k (l.trans l')
  | bk r' => exact fun σ' H' F' k l' => h σ' H' F' k (l.trans l')
  | ct r' => exact fun σ' H' F' k l' => h σ' H' F' k (l.trans l')
  | rt x r' => exact fun v σ' H' F' k l' q => h v σ' H' F' k (l.trans l') q
  | rn x r' => exact fun v σ' H' F' k l' q => h v σ' H' F' k (l.trans l') q
  | err x r' => exact fun c dd σ' H' F' k l' q => h c dd σ' H' F' k (l.trans l') q
  | bad => exact h
theorem Post.toS {α β : Type} {R : (Addr → Prop) → Hp → α → β → Prop} {m : Res α} {k : α → Env → SRes} {E : Ends} {Q1 : β → Hp → Prop} (h : PostS G W fr F H (m.toS k) E)
    (f : ∀ x r1 v H1 F1, Ok G fr F1 H1 σ r1 → Le F H F1 H1 → R F1 H1 x v → PostS G W fr F1 H1 (k x r1) E → Q1 v H1) : Post G W R fr F H σ m Q1 := by
  cases m with
  | ok x r' => exact fun v H' F' ok l q => f x r' v H' F' ok l q (PostS.le l h)
  | err x r' => exact fun c dd H' F' ok l q => h c dd σ H' F' ok l q
  | bad => exact h
theorem PostV.toS {m : Res Val} {k : Val → Env → SRes} {E : Ends} {Q1 : VK} (h : PostS G W fr F H (m.toS k) E)
    (f : ∀ x r1 v H1 F1, Ok G fr F1 H1 σ r1 → Le F H F1 H1 → DenV G fr F1 H1 r1 σ x v → PostS G W fr F1 H1 (k x r1) E → Q1 v H1) : PostV G W fr F H σ m Q1 := by
  cases m with
  | ok x r' => exact fun v H' F' ok l q => f x r' v H' F' ok l q (PostS.le l h)
  | err x r' => exact fun c dd H' F' ok l q => h c dd σ H' F' ok l q
  | bad => exact h
end
section
variable {X : Cx} {W : WX} {pos : Pos}
def dNext : Env → SRes := fun r => .nx r
def dSeq (a b : Env → SRes) : Env → SRes := fun r => (a r).seq b
theorem ss_nil : PTs X W [] dNext := pss_weak pss_nil fun E σ H ⟨fr, F, r, ok, p⟩ => p σ H F ok Le.refl
theorem ss_cons {st : Stmt} {rest : List Stmt} {a b : Env → SRes} (h1 : PT1 X W st a) (h2 : PTs X W rest b) : PTs X W (st :: rest) (dSeq a b) :=
  pss_weak (pss_cons h1 h2) fun E σ H ⟨fr, F, r, ok, p⟩ => by
    refine ⟨fr, F, r, ok, ?_⟩
    unfold dSeq at p
    cases e : a r with
    | nx r1 =>
      rw [e] at p
      exact fun σ' H' F' ok' l => ⟨fr, F', r1, ok', PostS.le l p⟩
    | _ => rw [e] at p; exact p
theorem ss_one {st : Stmt} {a : Env → SRes} (h1 : PT1 X W st a) : PTs X W [st] a := pss_one h1
theorem s_pass : PT1 X W (.Pass pos) dNext := ps_weak ps_pass fun E σ H ⟨fr, F, r, ok, p⟩ => p σ H F ok Le.refl
def dBreak : Env → SRes := fun r => .bk r
theorem s_break : PT1 X W (.Break pos) dBreak := ps_weak ps_break fun E σ H ⟨fr, F, r, ok, p⟩ => p σ H F ok Le.refl
def dCont : Env → SRes := fun r => .ct r
theorem s_cont : PT1 X W (.Continue pos) dCont := ps_weak ps_continue fun E σ H ⟨fr, F, r, ok, p⟩ => p σ H F ok Le.refl
def dRet (d : Env → Res Val) : Env → SRes := fun r => (d r).toS fun x r => match x with
  | .v d => .rt d r
  | .n ds => .rn ds r
theorem s_ret {e : Expr} {d : Env → Res Val} (h : PV X W e d) : PT1 X W (.Return (some e) pos) (dRet d) :=
  ps_weak (ps_ret h) fun E σ H ⟨fr, F, r, ok, p⟩ => ⟨fr, F, r, ok, PostV.toS p fun x r1 v H1 F1 ok1 l1 q1 p1 => by
    cases x with
    | v d => exact p1 v σ H1 F1 ok1 Le.refl q1
    | n ds => exact p1 v σ H1 F1 ok1 Le.refl q1⟩
def dRetN : Env → SRes := fun r => .rt .non r
theorem s_retN : PT1 X W (.Return none pos) dRetN := ps_weak ps_retN fun E σ H ⟨fr, F, r, ok, p⟩ => p .non σ H F ok Le.refl (by simp only [Den])
def dDrop (d : Env → Res Val) : Env → SRes := fun r => (d r).toS fun _ r => .nx r
theorem s_expr {e : Expr} {d : Env → Res Val} (h : PV X W e d) (hs : swapsWith e none pos.line X.env = pure false := by rfl) : PT1 X W (.Expr e pos) (dDrop d) :=
  ps_weak (ps_expr h hs) fun E σ H ⟨fr, F, r, ok, p⟩ => ⟨fr, F, r, ok, PostV.toS p fun x r1 v H1 F1 ok1 l1 q1 p1 => p1 σ H1 F1 ok1 Le.refl⟩
def dIf (t : Env → Res Bool) (a b : Env → SRes) : Env → SRes := fun r => (t r).toS fun c r => if c = true then a r else b r
theorem s_if {c : Expr} {a b : List Stmt} {t : Env → Res Bool} {d1 d2 : Env → SRes} (h : PB X W c t) (h1 : PTs X W a d1) (h2 : PTs X W b d2) : PT1 X W (.If c a b pos) (dIf t d1 d2) :=
  ps_weak (ps_if h h1 h2) fun E σ H ⟨fr, F, r, ok, p⟩ => ⟨fr, F, r, ok, Post.toS p fun x r1 v H1 F1 ok1 l1 q1 p1 => by
    have q1 : v = x := q1
    subst q1
    cases v with
    | true => exact ⟨fr, F1, r1, ok1, p1⟩
    | false => exact ⟨fr, F1, r1, ok1, p1⟩⟩
/-- name = value -/
def dSet (i : Nat) (d : Env → Res Val) : Env → SRes := fun r => (d r).toS fun x r => if notP r i = true then .nx (r.set i (match x with | .v d => .v d | .n ds => .o ds)) else .bad
theorem s_set {i : Nat} {x : Str} {e : Expr} {d : Env → Res Val} {pos' : Pos} (hN : X.N.Nodup) (hi : X.N[i]? = some x) (hx : Loc X.env.scope x) (he : PV X W e d) (hs : swapsWith e (some (.Name x pos')) pos.line X.env = pure false := by rfl) (hf : X.fn x = true ∨ X.env.scope.names.lookup x = some .local := by first | exact .inl rfl | exact .inr rfl | assumption) :
    PT1 X W (.Assign [.Name x pos'] e pos) (dSet i d) :=
  ps_weak (ps_set hN hi hx he hs hf) fun E σ H ⟨fr, F, r, ok, p⟩ => ⟨fr, F, r, ok, PostV.toS p fun x r1 v H1 F1 ok1 l1 q1 p1 => by
    split at p1
    · rename_i h
      cases x with
      | v d => exact p1 _ H1 F1 (ok1.storeV (notP_ok h) q1) Le.refl
      | n ds => exact p1 _ H1 F1 (ok1.storeN (notP_ok h) q1) Le.refl
    · exact (show False from p1).elim⟩
/-- targets: a name, a tuple of targets -/
def tG (G : Gc) (d : D → Env → Option Env) : TG := fun v σ H Q => ∃ fr F r x, Ok G fr F H σ r ∧ Den G F H x v ∧ ∃ r', d x r = some r' ∧ ∀ σ', Ok G fr F H σ' r' → Q σ' H
def tGs (G : Gc) (d : List D → Env → Option Env) : TGs := fun vs σ H Q => ∃ fr F r xs, Ok G fr F H σ r ∧ DenL G F H xs vs ∧ ∃ r', d xs r = some r' ∧ ∀ σ', Ok G fr F H σ' r' → Q σ' H
def PGt (X : Cx) (tg : Expr) (d : D → Env → Option Env) : Prop := PG X tg (tG (gc X) d)
def PGts (X : Cx) (tg : List Expr) (d : List D → Env → Option Env) : Prop := PGs X tg (tGs (gc X) d)
theorem pg_weak {tg : Expr} {t t' : TG} (h : PG X tg t) (w : ∀ v σ H Q, t' v σ H Q → t v σ H Q) : PG X tg t' := ⟨fun pins s σ H v u Q I rv k => h.run pins s σ H v u Q I rv (w v σ H Q k)⟩
theorem pgs_weak {tg : List Expr} {t t' : TGs} (h : PGs X tg t) (w : ∀ v σ H Q, t' v σ H Q → t v σ H Q) : PGs X tg t' := ⟨fun pins s σ H v u Q I rv k => h.run pins s σ H v u Q I rv (w v σ H Q k)⟩
def gNm (i : Nat) : D → Env → Option Env := fun x r => if notP r i = true then some (r.set i (.v x)) else none
theorem g_name {i : Nat} {x : Str} (hN : X.N.Nodup) (hi : X.N[i]? = some x) (hx : Loc X.env.scope x) (hf : X.fn x = true ∨ X.env.scope.names.lookup x = some .local := by first | exact .inl rfl | exact .inr rfl | assumption) : PGt X (.Name x pos) (gNm i) :=
  pg_weak (pg_name hN hi hx hf) fun v σ H Q ⟨fr, F, r, x, ok, dn, r', e, q⟩ => by
    unfold gNm at e
    split at e
    · rename_i h
      cases e
      exact q _ (ok.storeV (notP_ok h) dn)
    · cases e
def gN0 : List D → Env → Option Env := fun xs r => match xs with
  | [] => some r
  | _ => none
def gC (a : D → Env → Option Env) (b : List D → Env → Option Env) : List D → Env → Option Env := fun xs r => match xs with
  | [] => none
  | x :: xs => (a x r).bind fun r => b xs r
theorem gs_nil : PGts X [] gN0 := pgs_weak pgs_nil fun vs σ H Q ⟨fr, F, r, xs, ok, dn, r', e, q⟩ => by
  cases xs with
  | nil => cases e; simp only [DenL] at dn; exact ⟨dn, q σ ok⟩
  | cons _ _ => cases e
theorem gs_cons {e : Expr} {es : List Expr} {a : D → Env → Option Env} {b : List D → Env → Option Env} (h1 : PGt X e a) (h2 : PGts X es b) (hs : (assignEach (e :: es) X.env).map (·.2) = assign e X.env :: (assignEach es X.env).map (·.2) := by rfl) : PGts X (e :: es) (gC a b) :=
  pgs_weak (pgs_cons h1 h2 hs) fun vs σ H Q ⟨fr, F, r, xs, ok, dn, r', e, q⟩ => by
    cases xs with
    | nil => cases e
    | cons x xs =>
      simp only [DenL] at dn
      obtain ⟨v, ws, rfl, d1, d2⟩ := dn
      unfold gC at e
      simp only at e
      cases e1 : a x r with
      | none => rw [e1] at e; cases e
      | some r1 =>
        rw [e1] at e
        exact ⟨v, ws, rfl, fr, F, r, x, ok, d1, r1, e1, fun σ' ok' => ⟨fr, F, r1, xs, ok', d2, r', e, q⟩⟩
def gTp (n : Nat) (b : List D → Env → Option Env) : D → Env → Option Env := fun x r => match x with
  | .tup ds => if ds.length = n then b ds r else none
  | _ => none
theorem g_tup {es : List Expr} {k : Nat} {b : List D → Env → Option Env} {n : Nat} (hc : X.calm = true) (h : PGts X es b) (hn : (assignEach es X.env).length = n := by rfl) (hst : (assignEach es X.env).findIdx? (·.1) = none := by rfl) : PGt X (.Tuple es k pos) (gTp n b) :=
  pg_weak (pg_tup hc h hn hst) fun v σ H Q ⟨fr, F, r, x, ok, dn, r', e, q⟩ => by
    cases x with
    | tup ds =>
      simp only [Den] at dn
      obtain ⟨a, vs, rfl, t, dl⟩ := dn
      unfold gTp at e
      simp only at e
      split at e
      · rename_i hl
        exact ⟨a, vs, rfl, t.sq, by rw [dl.length]; exact hl, fr, F, r, ds, ok, dl, r', e, q⟩
      · cases e
    | _ => cases e
/-- target = value -/
def dAsg (d : Env → Res D) (g : D → Env → Option Env) : Env → SRes := fun r => (d r).toS fun x r => match g x r with
  | some r => .nx r
  | none => .bad
theorem s_asg {tg e : Expr} {d : Env → Res D} {g : D → Env → Option Env} (he : PX X W e d) (hg : PGt X tg g) (hs : swapsWithSole [tg] e pos.line X.env = pure false := by rfl) (hw : swappedStores [tg] e X.env = pure none := by rfl)
    (h1 : (assignEach [tg] X.env).map (·.2) = [assign tg X.env] := by rfl) : PT1 X W (.Assign [tg] e pos) (dAsg d g) :=
  ps_weak (ps_asg he hg hs hw h1) fun E σ H ⟨fr, F, r, ok, p⟩ => ⟨fr, F, r, ok, Post.toS p fun x r1 v H1 F1 ok1 l1 q1 p1 => by
    cases e : g x r1 with
    | none => rw [e] at p1; exact (show False from p1).elim
    | some r2 =>
      rw [e] at p1
      exact ⟨fr, F1, r1, x, ok1, q1, r2, e, fun σ' ok' => p1 σ' H1 F1 ok' Le.refl⟩⟩
end
end Py
end

section
set_option maxHeartbeats 2000000
/-! enumerate(a tuple) in a for -/
namespace PySem
theorem pyen_meets {v : Value} {ob : Obj} {Hv : Heap → Prop} (B : Begins v ob Hv) :
    Meets (Builtin.«enumerate.__new__» ⟨[.type "enumerate", v], []⟩) (fun _ R s => Hv s.heap ∧ R (.ok (.ret (.ref (s.heap.push ob).objs.size)))
      { s with heap := (s.heap.push ob).push { cls := .type "enumerate", data := .fields #[.none, .bool false, .ref s.heap.objs.size, rawInt 0, .none, .none] } }) :=
  .of_wp fun prog w A R s hyp => by
    obtain ⟨hp, gg, dr, tks, osx⟩ := s; obtain ⟨hv, hr⟩ := hyp
    have hsb := sub_enumerate
    have stp : ∀ {A1 : Around} {E1 Q1 : Value → Shared → Prop}, Q1 (.ref hp.objs.size) ⟨hp.push ob, gg, dr, tks, osx⟩ → wpAny (model prog w) A1 (pyIter v) Q1 E1 ⟨hp, gg, dr, tks, osx⟩ :=
      fun z => B.iter prog w _ _ ⟨hp, gg, dr, tks, osx⟩ _ hv z
    wp_walk using stp
    refine wpAny_stack_any fun stk => wpAny_pure ?_
    split
    · rename_i cc _ _ _ _ _
      cases (cc == Value.type "enumerate") <;> (wp_walk using stp; exact ⟨_, rfl, hr⟩)
    · wp_walk using stp; exact ⟨_, rfl, hr⟩
section
variable {prog : Program} {w : World} {A : Around} {E : Value → Shared → Prop} {s : Shared}
theorem pyen_call {v : Value} {ob : Obj} {Hv : Heap → Prop} {Q : Value → Shared → Prop} (B : Begins v ob Hv) (h1 : Hv s.heap)
    (go : ∀ hn, IsEnum hn (s.heap.objs.size + 1) s.heap.objs.size 0 .none → hn.get? s.heap.objs.size = some ob → (∀ b o, s.heap.get? b = some o → hn.get? b = some o) → Q (.ref (s.heap.objs.size + 1)) { s with heap := hn }) :
    wpAny (model prog w) A (call (.type "enumerate") [v]) Q E s := by
  refine callType_new F.called_enumerate (by decide) (F.typeCall_enumerate_1 _) (F.newCall_enumerate_1 _) (fun obj => F.args_object_init_2 obj _) F.entry_enumerate_new (pyen_meets B) ⟨h1, ?_⟩
  have z1 : (s.heap.push ob).objs.size = s.heap.objs.size + 1 := Heap.size_push ..
  show _ ∧ _
  rw [z1]
  have isE : IsEnum ((s.heap.push ob).push { cls := .type "enumerate", data := .fields #[.none, .bool false, .ref s.heap.objs.size, rawInt 0, .none, .none] }) (s.heap.objs.size + 1) s.heap.objs.size 0 .none := by
    have t := Heap.get?_push_size (s.heap.push ob) (o := { cls := .type "enumerate", data := .fields #[.none, .bool false, .ref s.heap.objs.size, rawInt 0, .none, .none] }) rfl
    rw [z1] at t; exact t
  exact ⟨⟨_, isE, rfl⟩, go _ isE (Heap.get?_push_of_some _ (Heap.get?_push_size _ B.free)) fun b o x => Heap.get?_push_of_some _ (Heap.get?_push_of_some _ x)⟩
end
end PySem
namespace L2
open PySem PySem.Spec PyProof.Rows
/-- the tuple at a, each item in a new pair with its number -/
def IteT (K : PySem.W.Frag) (a : Addr) : It where
  go := fun i H => ∃ (xs : List V) (x : V), SqT K H a xs ∧ xs[i]? = some x
  yld := fun i H v H' => ∃ T x, v = .ref T ∧ H T = none ∧ H' = upd H T (.tup [.int (i : Nat), x]) ∧ ∀ xs, SqT K H a xs → xs[i]? = some x
  stop := fun i H => ∃ xs : List V, SqT K H a xs ∧ xs.length ≤ i
theorem turn_enumT {P : Program} {w : World} {K : PySem.W.Frag} {elts : List Expr} {kk : Nat} {tpos : Pos} (a e it : Addr) :
    Turn P w K (.Tuple elts kk tpos) (IteT K a) [e, it] e (fun i h => (∃ old, IsEnum h e it ((i : Nat) : Int) old) ∧ h.IsTupleIter it a i ∧ e ≠ it) where
  mem := by simp
  obj := fun i h st b hb => by
    obtain ⟨⟨old, he⟩, ⟨o, ho, hc, hd⟩, _⟩ := st
    rcases (show b = e ∨ b = it by simpa using hb) with z | z
    · exact ⟨_, z ▸ he, fun v q => by cases q⟩
    · exact ⟨o, z ▸ ho, fun v q => by rw [hd] at q; cases q⟩
  keep := fun i h h' st k => by
    obtain ⟨⟨old, he⟩, hi, hne⟩ := st
    exact ⟨⟨old, k e (by simp) _ he⟩, hi.at fun o q => k it (by simp) o q, hne⟩
  item := by
    intro X hP hw hK hc i pins s σ H E I hf st hg
    subst hP hw hK
    obtain ⟨⟨old, he⟩, hit, hne⟩ := st
    obtain ⟨xs, x, hq, hx⟩ := hg
    obtain ⟨its, rv, p, hz⟩ := I.tuple hq
    obtain ⟨u, hu, ru⟩ := rv.get hx
    have p' : s.heap.IsTuple a its.toArray := p
    have lt1 : e < s.heap.objs.size := Heap.lt_size he
    have lt2 : it < s.heap.objs.size := by obtain ⟨_, q, _⟩ := hit; exact Heap.lt_size q
    have nea : a ≠ it := fun z => by
      obtain ⟨o1, q1, q2, _⟩ := id p'
      obtain ⟨o2, q3, q4, _⟩ := id hit
      rw [z, q3] at q1; cases q1
      rw [q4] at q2; exact absurd q2 (by decide)
    have nee : e ∉ [it, a] := fun z => by
      obtain ⟨o1, q1, q2, _⟩ := id p'
      rcases (show e = it ∨ e = a by simpa using z) with z | z
      · exact hne z
      · subst z
        have he2 : s.heap.get? e = some _ := he
        rw [q1] at he2; cases he2; exact absurd (show Value.type "enumerate" = Value.type "tuple" from q2) (by decide)
    have hd : X.A.in1.handled = none := I.ok.hd hc
    refine wpAny_pyNext_enum_itemD (Draws.tuple (prog := X.prog) (w := X.w) hd it a nea its.toArray) he ⟨hit, p'⟩ (by have := (List.getElem?_eq_some_iff.mp hu).1; simpa using this) hne nee fun y h' tk hy ho st' hT hsz hk => ?_
    have ey : y = u := by
      have : its.toArray[i]? = some u := by simpa using hu
      rw [this] at hy; exact (Option.some.inj hy).symm
    subst ey
    refine ⟨_, rfl, wpAny_letOwnedTupleGo_enum (s := { s with heap := h', toks := tk + 1 }) ho fun h'' he' sb => ?_⟩
    have hT2 : h''.get? s.heap.objs.size = some { cls := .type "tuple", data := .seq #[.int i tk, y] } := (sb.2 _ (Nat.ne_of_gt lt1)).trans hT
    have new : ObjOk X.prog X.w (upd H s.heap.objs.size (.tup [.int (i : Nat), x])) h'' s.heap.objs.size (.tup [.int (i : Nat), x]) :=
      ⟨by show 2 ≤ sizeLine; decide, [.int i tk, y], .cons ⟨_, rfl⟩ (.cons ru .nil), ⟨_, hT2, rfl, _, rfl⟩⟩
    have I1 := I.turnedNew (ch := [e, it]) (t' := tk + 1) (h' := h'') (fun b ob hb q => (sb.2 b (fun z => hb (by simp [z]))).trans (hk b ob (fun z => hb (by simp [z])) (fun z => hb (by simp [z])) q)) hf (Nat.le_refl _) new
    refine ⟨.ref s.heap.objs.size, _, I1, rfl, ⟨_, x, rfl, I.hok.fresh (Nat.le_refl _), rfl, fun ys hy => by rw [I.tuple_inj hy hq]; exact hx⟩, ⟨⟨y, ?_⟩, st'.1.at fun o q => (sb.2 it (Ne.symm hne)).trans q, hne⟩, fun b hb => ?_⟩
    · rw [show ((i + 1 : Nat) : Int) = (i : Int) + 1 by omega]; exact he'
    · have hb' : b < s.heap.objs.size := by
        rcases (show b = e ∨ b = it by simpa using hb) with z | z
        · exact z ▸ lt1
        · exact z ▸ lt2
      rw [upd_ne (Nat.ne_of_lt hb')]; exact (hf b hb).1
  done := by
    intro X hP hw hK hc i pins s σ H E I hf st hg
    subst hP hw hK
    obtain ⟨⟨old, he⟩, hit, hne⟩ := st
    obtain ⟨xs, hq, hx⟩ := hg
    obtain ⟨its, rv, p, hz⟩ := I.tuple hq
    have p' : s.heap.IsTuple a its.toArray := p
    obtain ⟨f0, f1, f2, f3, f4, f5⟩ := hf it (by simp)
    have hd : X.A.in1.handled = none := I.ok.hd hc
    have nea : a ≠ it := fun z => by
      obtain ⟨o1, q1, q2, _⟩ := id p'
      obtain ⟨o2, q3, q4, _⟩ := id hit
      rw [z, q3] at q1; cases q1
      rw [q4] at q2; exact absurd q2 (by decide)
    have hl := rv.length
    unfold pyNext
    have hT : s.TypeIs (.ref e) "enumerate" := ⟨_, he, rfl⟩
    refine wpAny_bind (wpAny_attempt (wpAny_callSpecial?_slot (name := Str.ofString "__next__") hT F.slot_enumerate_next (wpAny_call_entry F.slot_enumerate_next hT F.entry_enumerate_next ?_ (F.args_enumerate_next_1 _))))
    show wpAny _ _ (field (.ref e) 2 >>= _) _ _ _
    refine wpAny_bind (wpAny_field he rfl (x := .ref it) rfl ?_)
    refine wpAny_bind (wpAny_nextOf_tuple_end (A := X.A.in1) hd hit p' (by simp; omega) fun h' z hz' hx' => ?_)
    obtain ⟨o, ho, hcl⟩ := hx'
    refine wpAny_bind (wpAny_isInstance (T := "StopIteration") (b := true) ⟨o, ho, hcl⟩ isSubtype_stop ?_)
    exact wpAny_pure ⟨rfl, I.turned (t' := s.toks) (fun b o hb q => hz' b o hb q) f0 f1 f3 f4 f5⟩
  self := fun A i s Q E st h => let ⟨⟨_, he⟩, _⟩ := st; wpAny_pyIter_enum he h
def iEnumT (K : PySem.W.Frag) (ta : TA) : TI := fun σ H R => ta σ H fun vs H1 => ∃ a xs, vs = [.ref a] ∧ SqT K H1 a xs ∧ R (IteT K a) H1
theorem pi_enumT {X : Cx} {e : Expr} {ta : TA} {p pos tpos : Pos} {elts : List Expr} {kk : Nat} (hg : Gl X "enumerate") (hm : X.mg "enumerate" = none) (ha : PA X [e] ta) (hs : starEach [e] X.env = [(false, eval e X.env)]) :
    PI X (.Tuple elts kk tpos) (.Call (.Name "enumerate" p) [e] [] pos) (iEnumT X.K ta) := by
  refine ⟨fun pins s σ H R I h => Call_ (ld_blt I hg hm boot_enumerate (PyProof.Rows.callWith_type1 (thn (ha.run pos pins s σ H _ I h) fun us s1 ⟨vs, H1, I1, r1, q1⟩ => ?_) hs rfl))⟩
  obtain ⟨a, xs, ex, hq, q⟩ := q1
  subst ex
  cases r1 with
  | cons r rr =>
    cases rr
    cases r
    obtain ⟨its, rv, p', hz⟩ := I1.tuple hq
    refine pyen_call (begins_tuple a its.toArray) (show s1.heap.IsTuple a its.toArray from p') fun h' he hit hk => wpAny_pyIter_enum he ?_
    have I2 : Inv X pins σ H1 { s1 with heap := h' } := I1.kept (t' := s1.toks) hk
    refine ⟨s1.heap.objs.size + 1, [s1.heap.objs.size + 1, s1.heap.objs.size], _, _, H1, rfl, I2, turn_enumT a (s1.heap.objs.size + 1) s1.heap.objs.size, ⟨⟨.none, he⟩, ⟨_, hit, rfl, rfl⟩, Nat.succ_ne_self _⟩, fun b hb => ?_, q⟩
    have hle : s1.heap.objs.size ≤ b := by
      rcases (show b = s1.heap.objs.size + 1 ∨ b = s1.heap.objs.size by simpa using hb) with z | z
      · rw [z]; exact Nat.le_succ _
      · rw [z]; exact Nat.le_refl _
    exact I1.fpOk hle (I1.hok.fresh hle)
end L2
end

section
set_option maxHeartbeats 2000000
namespace Py
open PySem PySem.Spec PyProof.Rows L2

/-! ## What a for walks -/
def Draw (G : Gc) (F : Addr → Prop) (H : Hp) (xs : List D) (J : It) : Prop := ∀ F1 H1, Le F H F1 H1 → (∀ a, F1 a → H1 a ≠ none) →
  (∀ (i : Nat) x, xs[i]? = some x → J.go i H1 ∧ ∀ v H2, J.yld i H1 v H2 → ∃ F2, Nx F1 H1 F2 H2 ∧ Den G F2 H2 x v) ∧ ∀ i, xs.length ≤ i → J.stop i H1
def PIt (X : Cx) (W : WX) (tg e : Expr) (d : Env → Res (List D)) : Prop := PI X tg e (tR (gc X) W (Draw (gc X)) d)
theorem pi_or {X : Cx} {tg e : Expr} {t u : TI} (h1 : PI X tg e t) (h2 : PI X tg e u) : PI X tg e (fun σ H R => t σ H R ∨ u σ H R) :=
  ⟨fun pins s σ H R I h => h.elim (h1.run pins s σ H R I) (h2.run pins s σ H R I)⟩
section
variable {X : Cx} {W : WX} {pos : Pos} {tg : Expr}
def itemsOf : D → Option (List D)
  | .tup ds => some ds
  | .lst ds => some ds
  | .frl ds => some ds
  | _ => none
def Res.ofL (o : Option (List D)) (r : Env) : Res (List D) := match o with
  | some z => .ok z r
  | none => .bad
@[simp] theorem Res.ofL_some (z : List D) (r : Env) : Res.ofL (some z) r = .ok z r := (rfl)
@[simp] theorem Res.ofL_none (r : Env) : Res.ofL none r = .bad := (rfl)
def dItems (d : Env → Res D) : Env → Res (List D) := fun r => (d r).bind fun x r => Res.ofL (itemsOf x) r
theorem draw_list {G : Gc} {F : Addr → Prop} {H : Hp} {ds : List D} {vs : List V} {a : Addr} (h : LstAt G.K F H a vs) (dl : DenL G F H ds vs) : Draw G F H ds (Itl G.K a) := fun F1 H1 l k => by
  have hs : SqL G.K H1 a vs := (h.mono l).sq
  refine ⟨fun i x e => ?_, fun i hi => ⟨vs, hs, by rw [dl.length]; exact hi⟩⟩
  obtain ⟨v, h1, h2⟩ := (dl.mono l).get e
  refine ⟨⟨vs, v, hs, h1⟩, fun u H2 ⟨e2, q⟩ => ?_⟩
  subst e2
  have := q vs hs
  rw [h1] at this; cases this
  exact ⟨F1, Nx.refl k, h2⟩
theorem draw_tup {G : Gc} {F : Addr → Prop} {H : Hp} {ds : List D} {vs : List V} {a : Addr} (h : TupAt G.K F H a vs) (dl : DenL G F H ds vs) : Draw G F H ds (Itt G.K a) := fun F1 H1 l k => by
  have hs : SqT G.K H1 a vs := (h.mono l).sq
  refine ⟨fun i x e => ?_, fun i hi => ⟨vs, hs, by rw [dl.length]; exact hi⟩⟩
  obtain ⟨v, h1, h2⟩ := (dl.mono l).get e
  refine ⟨⟨vs, v, hs, h1⟩, fun u H2 ⟨e2, q⟩ => ?_⟩
  subst e2
  have := q vs hs
  rw [h1] at this; cases this
  exact ⟨F1, Nx.refl k, h2⟩
theorem LstAt.of {K F H a vs} (f : F a) (h : H a = some (.lst vs)) : LstAt K F H a vs := .inl ⟨f, .inl h⟩
theorem i_seq {e : Expr} {d : Env → Res D} (h : PX X W e d) : PIt X W tg e (dItems d) :=
  pi_weak (pi_or (pi_list (tg := tg) h) (pi_tup (tg := tg) h)) fun σ H R ⟨fr, F, r, ok, p⟩ => by
    unfold dItems at p
    cases e : d r with
    | ok x r1 =>
      rw [e] at p
      cases x with
      | tup ds =>
        refine .inr ⟨fr, F, r, ok, ?_⟩
        rw [e]
        intro v H' F' ok' l' q'
        simp only [Den] at q'
        obtain ⟨a, vs, rfl, t, dl⟩ := q'
        exact ⟨a, rfl, ⟨vs, t.sq⟩, p _ H' F' ok' l' (draw_tup t dl)⟩
      | lst ds =>
        refine .inl ⟨fr, F, r, ok, ?_⟩
        rw [e]
        intro v H' F' ok' l' q'
        simp only [Den] at q'
        obtain ⟨a, vs, rfl, f, t, dl⟩ := q'
        exact ⟨a, rfl, ⟨vs, .of t⟩, p _ H' F' ok' l' (draw_list (.of f t) dl)⟩
      | frl ds =>
        refine .inl ⟨fr, F, r, ok, ?_⟩
        rw [e]
        intro v H' F' ok' l' q'
        simp only [Den] at q'
        obtain ⟨a, vs, rfl, t, dl⟩ := q'
        exact ⟨a, rfl, ⟨vs, t.sq⟩, p _ H' F' ok' l' (draw_list t dl)⟩
      | _ => exact (show False from p).elim
    | err x r1 =>
      rw [e] at p
      refine .inr ⟨fr, F, r, ok, ?_⟩
      rw [e]; exact p
    | bad => rw [e] at p; exact (show False from p).elim
def dIt (f : List D → Option (List D)) (ds : Env → Res (List D)) : Env → Res (List D) := fun r => (ds r).bind fun xs r => Res.ofL (f xs) r
/-- (by choice: nobody is to compute it) -/
noncomputable def inR (i : Int) : Bool := @decide (-(4611686018427387904) ≤ i ∧ i < 4611686018427387904) (Classical.propDecidable _)
def intsD (lo : Int) (n : Nat) : List D := (List.range n).map fun (k : Nat) => D.int (lo + (k : Int))
noncomputable def fRange1 : List D → Option (List D)
  | [.int j] => if inR j = true then some (intsD 0 j.toNat) else none
  | _ => none
noncomputable def fRange2 : List D → Option (List D)
  | [.int i, .int j] => if (inR i && inR j) = true then some (intsD i (j - i).toNat) else none
  | _ => none
theorem inR_ok {i : Int} (h : inR i = true) : -(2 ^ 62) ≤ i ∧ i < 2 ^ 62 := by
  unfold inR at h
  have h := @of_decide_eq_true _ (Classical.propDecidable _) h
  omega
theorem draw_range {G : Gc} {F : Addr → Prop} {H : Hp} {lo : Int} {n : Nat} : Draw G F H (intsD lo n) (Itr lo n) := fun F1 H1 l k => by
  refine ⟨fun i x e => ?_, fun i hi => by simp [intsD] at hi; exact hi⟩
  unfold intsD at e
  rw [List.getElem?_map] at e
  by_cases hi : i < n
  · rw [List.getElem?_range hi] at e
    cases e
    refine ⟨hi, fun u H2 ⟨e2, q⟩ => ?_⟩
    subst e2
    exact ⟨F1, Nx.refl k, by simp only [Den]; exact q⟩
  · rw [List.getElem?_eq_none (by simpa using hi)] at e; cases e
theorem res_ofL {G W fr F H σ r o} {β : Type} {R : (Addr → Prop) → Hp → List D → β → Prop} {Q : β → Hp → Prop} (p : Post G W R fr F H σ (Res.ofL o r) Q) : ∃ z, o = some z ∧ ∀ v H' F', Ok G fr F' H' σ r → Le F H F' H' → R F' H' z v → Q v H' := by
  cases o with
  | none => exact p.elim
  | some z => exact ⟨z, rfl, p⟩
theorem i_range1 {a : Expr} {ds : Env → Res (List D)} {p : Pos} (hg : Gl X "range") (hm : X.mg "range" = none) (ha : PL X W [a] ds) (hs : starEach [a] X.env = [(false, eval a X.env)] := by rfl) : PIt X W tg (.Call (.Name "range" p) [a] [] pos) (dIt fRange1 ds) :=
  pi_weak (pi_range1 hg hm ha hs) fun σ H R ⟨fr, F, r, ok, p⟩ => ⟨fr, F, r, ok, Post.seq p fun xs r1 vs H1 F1 ok1 l1 q1 p1 => by
    obtain ⟨z, e, g⟩ := res_ofL p1
    unfold fRange1 at e
    split at e
    · rename_i j
      simp only [DenL, Den] at q1
      obtain ⟨v, ws, rfl, rfl, rfl⟩ := q1
      split at e
      · rename_i h
        cases e
        have b := inR_ok h
        exact ⟨j, rfl, b.1, b.2, g _ H1 F1 ok1 Le.refl draw_range⟩
      · cases e
    · cases e⟩
theorem i_range2 {a b : Expr} {ds : Env → Res (List D)} {p : Pos} (hg : Gl X "range") (hm : X.mg "range" = none) (ha : PL X W [a, b] ds) (hs : starEach [a, b] X.env = [(false, eval a X.env), (false, eval b X.env)] := by rfl) (hs2 : starEach [b] X.env = [(false, eval b X.env)] := by rfl) :
    PIt X W tg (.Call (.Name "range" p) [a, b] [] pos) (dIt fRange2 ds) :=
  pi_weak (pi_range2 hg hm ha hs hs2) fun σ H R ⟨fr, F, r, ok, p⟩ => ⟨fr, F, r, ok, Post.seq p fun xs r1 vs H1 F1 ok1 l1 q1 p1 => by
    obtain ⟨z, e, g⟩ := res_ofL p1
    unfold fRange2 at e
    split at e
    · rename_i i j
      simp only [DenL, Den] at q1
      obtain ⟨v, ws, rfl, rfl, u, us, rfl, rfl, rfl⟩ := q1
      split at e
      · rename_i h
        rw [Bool.and_eq_true] at h
        cases e
        have b := inR_ok h.1
        have c := inR_ok h.2
        exact ⟨i, j, rfl, ⟨b.1, b.2, c.1, c.2⟩, g _ H1 F1 ok1 Le.refl draw_range⟩
      · cases e
    · cases e⟩
def enumD (ds : List D) : List D := ds.zipIdx.map fun p => .tup [.int (p.2 : Nat), p.1]
theorem enumD_get {ds : List D} {i : Nat} {x : D} (e : (enumD ds)[i]? = some x) : ∃ y, ds[i]? = some y ∧ x = .tup [.int (i : Nat), y] := by
  unfold enumD at e
  rw [List.getElem?_map, List.getElem?_zipIdx] at e
  cases h : ds[i]? with
  | none => rw [h] at e; cases e
  | some y => rw [h] at e; cases e; exact ⟨y, rfl, by simp⟩
theorem enumD_len (ds : List D) : (enumD ds).length = ds.length := by unfold enumD; simp
def fEnum : List D → Option (List D)
  | [x] => (itemsOf x).map enumD
  | _ => none
theorem nx_pair {G : Gc} {F : Addr → Prop} {H : Hp} {T : Addr} {i : Nat} {x : D} {v : V} (k : ∀ a, F a → H a ≠ none) (hT : H T = none) (d : Den G F H x v) :
    ∃ F2, Nx F H F2 (upd H T (.tup [.int (i : Nat), v])) ∧ Den G F2 (upd H T (.tup [.int (i : Nat), v])) (.tup [.int (i : Nat), x]) (.ref T) :=
  ⟨_, Nx.frz k hT, den_newt hT k (by simp only [DenL, Den]; exact ⟨_, _, rfl, rfl, _, _, rfl, d, rfl⟩)⟩
theorem i_enum {e : Expr} {ds : Env → Res (List D)} {p tpos : Pos} {elts : List Expr} {kk : Nat} (hg : Gl X "enumerate") (hm : X.mg "enumerate" = none) (ha : PL X W [e] ds) (hs : starEach [e] X.env = [(false, eval e X.env)] := by rfl) :
    PIt X W (.Tuple elts kk tpos) (.Call (.Name "enumerate" p) [e] [] pos) (dIt fEnum ds) :=
  pi_weak (pi_or (pi_enum hg hm ha hs) (pi_enumT hg hm ha hs)) fun σ H R ⟨fr, F, r, ok, p⟩ => by
    have lst : ∀ F1 H1 a vs ys, LstAt X.K F1 H1 a vs → DenL (gc X) F1 H1 ys vs → Draw (gc X) F1 H1 (enumD ys) (Ite X.K a) := fun F1 H1 a vs ys h dl F2 H2 l k => by
      have hs : SqL X.K H2 a vs := (h.mono l).sq
      refine ⟨fun i x e => ?_, fun i hi => ⟨vs, hs, by rw [dl.length, ← enumD_len]; exact hi⟩⟩
      obtain ⟨y, e1, rfl⟩ := enumD_get e
      obtain ⟨v, h1, h2⟩ := (dl.mono l).get e1
      refine ⟨⟨vs, v, hs, h1⟩, fun u H3 ⟨T, z, eu, hT, eH, q⟩ => ?_⟩
      have := q vs hs
      rw [h1] at this; cases this
      subst eu eH
      exact nx_pair k hT h2
    have tup : ∀ F1 H1 a vs ys, TupAt X.K F1 H1 a vs → DenL (gc X) F1 H1 ys vs → Draw (gc X) F1 H1 (enumD ys) (IteT X.K a) := fun F1 H1 a vs ys h dl F2 H2 l k => by
      have hs : SqT X.K H2 a vs := (h.mono l).sq
      refine ⟨fun i x e => ?_, fun i hi => ⟨vs, hs, by rw [dl.length, ← enumD_len]; exact hi⟩⟩
      obtain ⟨y, e1, rfl⟩ := enumD_get e
      obtain ⟨v, h1, h2⟩ := (dl.mono l).get e1
      refine ⟨⟨vs, v, hs, h1⟩, fun u H3 ⟨T, z, eu, hT, eH, q⟩ => ?_⟩
      have := q vs hs
      rw [h1] at this; cases this
      subst eu eH
      exact nx_pair k hT h2
    unfold dIt at p
    cases e : ds r with
    | ok xs r1 =>
      rw [e] at p
      match xs, p, e with
      | [.tup ys], p, e =>
        refine .inr ⟨fr, F, r, ok, ?_⟩
        rw [e]
        intro v H' F' ok' l' q'
        simp only [DenL, Den] at q'
        obtain ⟨u, us, rfl, ⟨a, vs, rfl, t, dl⟩, rfl⟩ := q'
        exact ⟨a, vs, rfl, t.sq, p _ H' F' ok' l' (tup F' H' a vs ys t dl)⟩
      | [.lst ys], p, e =>
        refine .inl ⟨fr, F, r, ok, ?_⟩
        rw [e]
        intro v H' F' ok' l' q'
        simp only [DenL, Den] at q'
        obtain ⟨u, us, rfl, ⟨a, vs, rfl, f, t, dl⟩, rfl⟩ := q'
        exact ⟨a, vs, rfl, .of t, p _ H' F' ok' l' (lst F' H' a vs ys (.of f t) dl)⟩
      | [.frl ys], p, e =>
        refine .inl ⟨fr, F, r, ok, ?_⟩
        rw [e]
        intro v H' F' ok' l' q'
        simp only [DenL, Den] at q'
        obtain ⟨u, us, rfl, ⟨a, vs, rfl, t, dl⟩, rfl⟩ := q'
        exact ⟨a, vs, rfl, t.sq, p _ H' F' ok' l' (lst F' H' a vs ys t dl)⟩
      | [], p, e => exact (show False from p).elim
      | [.non], p, e => exact (show False from p).elim
      | [.bl _], p, e => exact (show False from p).elim
      | [.int _], p, e => exact (show False from p).elim
      | [.str _], p, e => exact (show False from p).elim
      | [.ty _], p, e => exact (show False from p).elim
      | [.cl _], p, e => exact (show False from p).elim
      | [.exc _ _ _], p, e => exact (show False from p).elim
      | _ :: _ :: _, p, e => exact (show False from p).elim
    | err x r1 =>
      rw [e] at p
      refine .inr ⟨fr, F, r, ok, ?_⟩
      rw [e]; exact p
    | bad => rw [e] at p; exact (show False from p).elim

/-! ## for, while -/
def dForL (g : D → Env → Option Env) (b : Env → SRes) : List D → Env → SRes
  | [], r => .nx r
  | x :: xs, r => match g x r with
    | none => .bad
    | some r1 => match b r1 with
      | .nx r2 => dForL g b xs r2
      | .ct r2 => dForL g b xs r2
      | .bk r2 => .nx r2
      | m => m
def dFor (d : Env → Res (List D)) (g : D → Env → Option Env) (b : Env → SRes) : Env → SRes := fun r => (d r).toS fun xs r => dForL g b xs r
theorem s_for {iter : Expr} {body : List Stmt} {d : Env → Res (List D)} {g : D → Env → Option Env} {b : Env → SRes} (hp : PassesOwn (model X.prog X.w) X.A X.env X.xe) (hc : X.calm = true) (hi : PIt X W tg iter d) (hg : PGt X tg g) (hb : PTs X W body b)
    (hs : ∀ x, foldedSetIterable iter X.env x = pure x := by intro _; rfl) : PT1 X W (.For tg iter body [] pos) (dFor d g b) :=
  ps_weak (ps_for hp hc hi hg hb hs) fun E σ H ⟨fr, F, r, ok, p⟩ => ⟨fr, F, r, ok, Post.toS p fun xs r1 J H1 F1 ok1 l1 q1 p1 => by
    refine ⟨fun i m σ H2 => ∃ F2 r2, Ok (gc X) fr F2 H2 σ r2 ∧ Le F1 H1 F2 H2 ∧ i + m = xs.length ∧ PostS (gc X) W fr F2 H2 (dForL g b (xs.drop i) r2) E, ⟨xs.length, F1, r1, ok1, Le.refl, by omega, by simpa using p1⟩, fun i m σ2 H2 ⟨F2, r2, ok2, l2, em, p2⟩ => ?_⟩
    obtain ⟨go, stop⟩ := q1 F2 H2 l2 ok2.fin
    by_cases hi : i < xs.length
    · have ex : xs[i]? = some xs[i] := List.getElem?_eq_getElem hi
      obtain ⟨g1, g2⟩ := go i _ ex
      rw [List.drop_eq_getElem_cons hi] at p2
      refine .inr ⟨g1, fun σ3 H3 => ∃ F3 r3, Ok (gc X) fr F3 H3 σ3 r3 ∧ Le F1 H1 F3 H3 ∧ PostS (gc X) W fr F3 H3 (dForL g b (xs.drop (i + 1)) r3) E, fun σ3 H3 ⟨F3, r3, a1, a2, a3⟩ => ⟨m - 1, by omega, F3, r3, a1, a2, by omega, a3⟩, fun v H3 hy => ?_⟩
      obtain ⟨F3, n3, d3⟩ := g2 v H3 hy
      have l3 : Le F1 H1 F3 H3 := l2.trans (n3.toLe ok2.fin)
      have p3 := PostS.le (n3.toLe ok2.fin) p2
      unfold dForL at p3
      cases eg : g xs[i] r2 with
      | none => rw [eg] at p3; exact p3.elim
      | some r3 =>
        rw [eg] at p3
        refine ⟨fr, F3, r2, xs[i], ok2.next n3, d3, r3, eg, fun σ4 ok4 => ⟨fr, F3, r3, ok4, ?_⟩⟩
        simp only at p3
        cases eb : b r3 with
        | nx r4 =>
          rw [eb] at p3
          exact fun σ5 H5 F5 ok5 l5 => ⟨F5, r4, ok5, l3.trans l5, PostS.le l5 p3⟩
        | ct r4 =>
          rw [eb] at p3
          exact fun σ5 H5 F5 ok5 l5 => ⟨F5, r4, ok5, l3.trans l5, PostS.le l5 p3⟩
        | bk r4 => rw [eb] at p3; exact p3
        | rt x r4 => rw [eb] at p3; exact p3
        | rn x r4 => rw [eb] at p3; exact p3
        | err x r4 => rw [eb] at p3; exact p3
        | bad => rw [eb] at p3; exact p3
    · refine .inl ⟨stop i (by omega), ?_⟩
      rw [List.drop_eq_nil_of_le (by omega)] at p2
      exact p2 σ2 H2 F2 ok2 Le.refl⟩
def dWhile (t : Env → Res Bool) (b : Env → SRes) : Nat → Env → SRes
  | 0, _ => .bad
  | n + 1, r => (t r).toS fun c r => if c = true then (match b r with
      | .nx r => dWhile t b n r
      | .ct r => dWhile t b n r
      | .bk r => .nx r
      | m => m) else .nx r
theorem s_while (n : Nat) {c : Expr} {body : List Stmt} {t : Env → Res Bool} {b : Env → SRes} (hp : PassesOwn (model X.prog X.w) X.A X.env X.xe) (hc : PB X W c t) (hb : PTs X W body b) : PT1 X W (.While c body [] pos) (dWhile t b n) :=
  ps_weak (ps_while hp hc hb) fun E σ H ⟨fr, F, r, ok, p⟩ => by
    refine ⟨fun m σ H => ∃ fr F r, Ok (gc X) fr F H σ r ∧ PostS (gc X) W fr F H (dWhile t b m r) E, ⟨n, fr, F, r, ok, p⟩, fun m σ1 H1 ⟨fr, F1, r1, ok1, p1⟩ => ?_⟩
    cases m with
    | zero => exact p1.elim
    | succ m =>
      refine ⟨fr, F1, r1, ok1, Post.toS p1 fun c r2 v H2 F2 ok2 l2 q2 p2 => ?_⟩
      have q2 : v = c := q2
      subst q2
      cases v with
      | false => exact p2 σ1 H2 F2 ok2 Le.refl
      | true =>
        refine ⟨fun σ H => ∃ fr F r, Ok (gc X) fr F H σ r ∧ PostS (gc X) W fr F H (dWhile t b m r) E, fun σ' H' h => ⟨m, Nat.lt_succ_self m, h⟩, fr, F2, r2, ok2, ?_⟩
        simp only [if_true] at p2
        cases eb : b r2 with
        | nx r4 => rw [eb] at p2; exact fun σ5 H5 F5 ok5 l5 => ⟨fr, F5, r4, ok5, PostS.le l5 p2⟩
        | ct r4 => rw [eb] at p2; exact fun σ5 H5 F5 ok5 l5 => ⟨fr, F5, r4, ok5, PostS.le l5 p2⟩
        | bk r4 => rw [eb] at p2; exact p2
        | rt x r4 => rw [eb] at p2; exact p2
        | rn x r4 => rw [eb] at p2; exact p2
        | err x r4 => rw [eb] at p2; exact p2
        | bad => rw [eb] at p2; exact p2

/-! ## Open lists changed -/
def Res.ofV (o : Option (Val × Env)) : Res Val := match o with
  | some (x, r) => .ok x r
  | none => .bad
@[simp] theorem Res.ofV_some (x : Val) (r : Env) : Res.ofV (some (x, r)) = .ok x r := (rfl)
@[simp] theorem Res.ofV_none : Res.ofV none = .bad := (rfl)
/-- x.m(args), x an open list: what it gives and what the list is behind it -/
def dMut (j : Nat) (f : List D → List D → Option (D × List D)) (ds : Env → Res (List D)) : Env → Res Val := fun r => match getOpn r j with
  | none => .bad
  | some _ => (ds r).bind fun xs r => match getOpn r j with
    | none => .bad
    | some ys => match f ys xs with
      | some (z, zs) => .ok (.v z) (setOpn r j zs)
      | none => .bad
structure MOp (X : Cx) (id : String) (f : List D → List D → Option (D × List D)) : Prop where
  ex : ∃ rr, MtR X id rr ∧ ∀ F H ys xs z zs a ws vs Q, (∀ a, F a → H a ≠ none) → H a = some (.lst ws) → ¬ F a → DenL (gc X) F H ys ws → DenL (gc X) F H xs vs → f ys xs = some (z, zs) →
    (∀ us v, DenL (gc X) F H zs us → Den (gc X) F H z v → Q v (upd H a (.lst us))) → rr (.ref a) vs H Q
theorem mut_rd {id : String} {j : Nat} {f : List D → List D → Option (D × List D)} {ds : Env → Res (List D)} {rr : V → List V → Hp → VK → Prop}
    (h : ∀ F H ys xs z zs a ws vs Q, (∀ a, F a → H a ≠ none) → H a = some (.lst ws) → ¬ F a → DenL (gc X) F H ys ws → DenL (gc X) F H xs vs → f ys xs = some (z, zs) → (∀ us v, DenL (gc X) F H zs us → Den (gc X) F H z v → Q v (upd H a (.lst us))) → rr (.ref a) vs H Q)
    {σ : L2.St} {H : Hp} {Q : VK} (p : tV (gc X) W (dMut j f ds) σ H Q) : tBM X.K "list" rr (tVar j) (tR (gc X) W (DenL (gc X)) ds) σ H Q := by
  obtain ⟨fr, F, r, ok, p⟩ := p
  unfold dMut at p
  cases e : getOpn r j with
  | none => rw [e] at p; exact p.elim
  | some ys0 =>
    rw [e] at p
    obtain ⟨a, vs0, h1, h2, _⟩ := ok.opened e
    refine ⟨.ref a, h1, .inl ⟨rfl, vs0, .of h2⟩, fr, F, r, ok, Post.seqV p fun xs r1 vs H1 F1 ok1 l1 q1 p1 => ?_⟩
    cases e1 : getOpn r1 j with
    | none => rw [e1] at p1; exact (show False from p1).elim
    | some ys =>
      rw [e1] at p1
      obtain ⟨b, ws, g1, g2, g3, g4, g5⟩ := ok1.opened e1
      rw [h1] at g1; cases g1
      cases e2 : f ys xs with
      | none => simp only [e2] at p1; exact (show False from p1).elim
      | some zz =>
        obtain ⟨z, zs⟩ := zz
        simp only [e2] at p1
        refine h F1 H1 ys xs z zs a ws vs Q ok1.fin g2 g3 g4 q1 e2 fun us v d1 d2 => ?_
        obtain ⟨ok2, l2⟩ := g5 zs us d1
        exact p1 v _ F1 ok2 l2 (d2.mono l2)
theorem v_mut {id name : String} {j : Nat} {x : Str} {p apos : Pos} {e : Expr} {es : List Expr} {f : List D → List D → Option (D × List D)} {ds : Env → Res (List D)} (pa : PlainAttrs "list") (slot : PySem.Slot "list" name id) (hty : typeOf (.builtin id) = pure (.type "method_descriptor")) (hm : MOp X id f)
    (ho : PE X (.Name x p) (tVar j)) (ha : PL X W (e :: es) ds) (hbase : attributeBase (.Name x p) name X.env (eval (.Name x p) X.env) = eval (.Name x p) X.env := by rfl)
    (hfew : ((backTo pos (starEach (e :: es) X.env)).all (fun x => !x.1) && (backToKw pos (keywordEach [] X.env)).all (fun x => x.1.isSome) && decide ((e :: es).length + ([] : List Keyword).length + (if ([] : List Keyword).isEmpty then 0 else 1) < 30)) = true := by rfl)
    (hline : (apos.endLine == pos.line) = true := by rfl) (hs : starEach (e :: es) X.env = (false, eval e X.env) :: starEach es X.env := by rfl) (hplain : (backTo pos (starEach es X.env)).any (·.1) = false := by rfl) :
    PV X W (.Call (.Attribute (.Name x p) name apos) (e :: es) [] pos) (dMut j f ds) := by
  obtain ⟨rr, h1, h2⟩ := hm.ex
  exact pe_weak (pe_bm pa slot hty h1 ho ha hbase hfew hline hs hplain) fun σ H Q p => mut_rd (id := id) h2 p
theorem v_mut0 {id name : String} {j : Nat} {x : Str} {p apos : Pos} {f : List D → List D → Option (D × List D)} (pa : PlainAttrs "list") (slot : PySem.Slot "list" name id) (hty : typeOf (.builtin id) = pure (.type "method_descriptor")) (hm : MOp X id f)
    (ho : PE X (.Name x p) (tVar j)) (hbase : attributeBase (.Name x p) name X.env (eval (.Name x p) X.env) = eval (.Name x p) X.env := by rfl) (hline : (apos.endLine == pos.line) = true := by rfl) :
    PV X W (.Call (.Attribute (.Name x p) name apos) [] [] pos) (dMut j f dNil) := by
  obtain ⟨rr, h1, h2⟩ := hm.ex
  refine pe_weak (pe_bm0 pa slot hty h1 ho hbase hline) fun σ H Q p => ?_
  have q := mut_rd (id := id) h2 p
  obtain ⟨v, e1, ty, q⟩ := q
  refine ⟨v, e1, ty, ?_⟩
  obtain ⟨fr, F, r, ok, q⟩ := q
  exact q [] H F ok Le.refl (by simp only [DenL])
def mAppend : List D → List D → Option (D × List D) := fun ys xs => match xs with
  | [x] => if ys.length < 16777216 then some (.non, ys ++ [x]) else none
  | _ => none
theorem m_append : MOp X "list.append" mAppend := ⟨rAppend, mt_append, fun F H ys xs z zs a ws vs Q k ha na dy dx e q => by
  unfold mAppend at e
  split at e
  · rename_i x
    simp only [DenL] at dx
    obtain ⟨v, us, rfl, d, rfl⟩ := dx
    split at e
    · rename_i h
      cases e
      exact ⟨a, ws, v, rfl, rfl, ha, by rw [dy.length, line_eq]; exact h, q _ _ (dy.append (.one d)) (by simp only [Den])⟩
    · cases e
  · cases e⟩
def mPop : List D → List D → Option (D × List D) := fun ys xs => match xs, ys.getLast? with
  | [], some y => some (y, ys.dropLast)
  | _, _ => none
theorem m_pop : MOp X "list.pop" mPop := ⟨rPop, mt_pop, fun F H ys xs z zs a ws vs Q k ha na dy dx e q => by
  unfold mPop at e
  split at e
  · rename_i y h
    cases e
    simp only [DenL] at dx
    subst dx
    rw [List.getLast?_eq_getElem?] at h
    obtain ⟨v, h1, h2⟩ := dy.get h
    exact ⟨a, ws, v, rfl, rfl, ha, by rw [dy.length]; exact h1, q _ _ dy.dropLast h2⟩
  · cases e⟩
def mReverse : List D → List D → Option (D × List D) := fun ys xs => match xs with
  | [] => some (.non, ys.reverse)
  | _ => none
theorem m_reverse : MOp X "list.reverse" mReverse := ⟨rReverse, mt_reverse, fun F H ys xs z zs a ws vs Q k ha na dy dx e q => by
  unfold mReverse at e
  split at e
  · cases e
    simp only [DenL] at dx
    subst dx
    exact ⟨a, ws, rfl, rfl, ha, q _ _ dy.reverse (by simp only [Den])⟩
  · cases e⟩
end
end Py
end

section
set_option maxHeartbeats 2000000
namespace Py
open PySem PySem.Spec PyProof.Rows L2

/-! ## Defs: what a call gives, what it owes -/
inductive FRes where
  | ok (x : D) (o : List Slot) | okn (ds : List D) (o : List Slot) | err (e : D) (o : List Slot) | bad
abbrev Fn := List Slot → FRes
def outs : List Slot → Env → List Slot
  | [], _ => []
  | _ :: _, [] => []
  | .p _ :: as, s :: r => s :: outs as r
  | _ :: as, _ :: r => .un :: outs as r
theorem outs_p : ∀ {as : List Slot} {r : Env} {i : Nat} {ds : List D} {s : Slot}, as[i]? = some (.p ds) → r[i]? = some s → (outs as r)[i]? = some s
  | [], _, _, _, _, e, _ => by simp at e
  | _ :: _, [], _, _, _, _, e => by simp at e
  | a :: as, t :: r, 0, ds, s, e1, e2 => by
    simp only [List.getElem?_cons_zero, Option.some.injEq] at e1 e2
    subst e1; subst e2
    rfl
  | a :: as, t :: r, i + 1, ds, s, e1, e2 => by
    simp only [List.getElem?_cons_succ] at e1 e2
    have ih := outs_p e1 e2
    cases a <;> simpa [outs] using ih
def ArgOk (G : Gc) (F : Addr → Prop) (H : Hp) : Slot → V → Prop
  | .v d, v => Den G F H d v
  | .p ds, v => ∃ a ws, v = .ref a ∧ H a = some (.lst ws) ∧ ¬ F a ∧ DenL G F H ds ws
  | _, _ => False
structure ArgsOk (G : Gc) (F : Addr → Prop) (H : Hp) (args : List Slot) (vs : List V) : Prop where
  len : vs.length = args.length
  at_ : ∀ (i : Nat) (s : Slot), args[i]? = some s → ∃ v, vs[i]? = some v ∧ ArgOk G F H s v
  dis : ∀ (i j : Nat) (ds es : List D) (a : Addr), i ≠ j → args[i]? = some (.p ds) → args[j]? = some (.p es) → vs[i]? = some (.ref a) → vs[j]? = some (.ref a) → False
structure CallEnd (G : Gc) (F : Addr → Prop) (H : Hp) (F' : Addr → Prop) (H' : Hp) (args : List Slot) (vs : List V) (o : List Slot) : Prop where
  fin : ∀ a, F' a → H' a ≠ none
  le : Le F H F' H'
  born : ∀ a, F' a → F a ∨ H a = none
  same : ∀ a ob, H a = some ob → (∀ (i : Nat) ds, args[i]? = some (.p ds) → vs[i]? ≠ some (.ref a)) → H' a = some ob
  out : ∀ (i : Nat) ds a, args[i]? = some (.p ds) → vs[i]? = some (.ref a) → ∃ es ws, o[i]? = some (.p es) ∧ H' a = some (.lst ws) ∧ DenL G F' H' es ws
def spF (G : Gc) (n : Nat) (fn : Fn) : Sp := fun vs H Q E => ∃ F args, args.length = n ∧ (∀ a, F a → H a ≠ none) ∧ ArgsOk G F H args vs ∧ match fn args with
  | .ok x o => ∀ v H' F', CallEnd G F H F' H' args vs o → Den G F' H' x v → Q v H'
  | .okn ds o => ∀ a ws H' F', CallEnd G F H F' H' args vs o → H' a = some (.lst ws) → ¬ F' a → H a = none → DenL G F' H' ds ws → Q (.ref a) H'
  | .err x o => ∀ c dd H' F', CallEnd G F H F' H' args vs o → DenX G F' H' x c dd → E c dd H'
  | .bad => False
def runD (n : Nat) (body : Env → SRes) : Fn := fun args => match body (args ++ List.replicate (n - args.length) .un) with
  | .nx r => .ok .non (outs args r)
  | .rt x r => .ok x (outs args r)
  | .rn ds r => .okn ds (outs args r)
  | .err e r => .err e (outs args r)
  | _ => .bad
section
variable {G : Gc} {F F' : Addr → Prop} {H H' : Hp} {args : List Slot} {vs : List V} {n : Nat}
/-- the frame of a def's call -/
def frOf (F : Addr → Prop) (H : Hp) (args : List Slot) (vs : List V) : Fr where
  F0 := F
  H0 := H
  Z := fun a o => H a = some o ∧ ¬ F a ∧ ∀ (i : Nat) ds, args[i]? = some (.p ds) → vs[i]? ≠ some (.ref a)
  P := fun i a => (∃ ds, args[i]? = some (.p ds)) ∧ vs[i]? = some (.ref a)
theorem getElem?_rep {α : Type} {l : List α} {k : Nat} {x y : α} {i : Nat} (h : (l ++ List.replicate k x)[i]? = some y) : l[i]? = some y ∨ (l.length ≤ i ∧ y = x) := by
  by_cases hi : i < l.length
  · rw [List.getElem?_append_left hi] at h; exact .inl h
  · rw [List.getElem?_append_right (by omega)] at h
    by_cases hk : i - l.length < k
    · rw [List.getElem?_replicate, if_pos hk] at h; exact .inr ⟨by omega, (Option.some.inj h).symm⟩
    · rw [List.getElem?_eq_none (by simpa using hk)] at h; cases h
theorem Ok.enter {N : List Str} (k : ∀ a, F a → H a ≠ none) (A : ArgsOk G F H args vs) (hn : args.length ≤ N.length) : Ok G (frOf F H args vs) F H (L2.start N vs) (args ++ List.replicate (N.length - args.length) .un) := by
  have hs : ∀ i v, vs[i]? = some v → (L2.start N vs)[i]? = some (some v) := fun i v e => by
    have hi : i < vs.length := (List.getElem?_eq_some_iff.mp e).1
    unfold L2.start
    rw [List.getElem?_append_left (by simpa using hi), List.getElem?_map, e]; rfl
  have hs2 : ∀ i v, (L2.start N vs)[i]? = some (some v) → vs[i]? = some v := fun i v e => by
    unfold L2.start at e
    rcases getElem?_rep e with h | ⟨_, h⟩
    · rw [List.getElem?_map] at h
      cases q : vs[i]? with
      | none => rw [q] at h; cases h
      | some u => rw [q] at h; cases h; rfl
    · cases h
  have opn : ∀ (i : Nat) (s : Slot) (ds : List D), (args ++ List.replicate (N.length - args.length) .un)[i]? = some s → s.opn = some ds → ∃ es, args[i]? = some (.p es) := fun i s ds e o => by
    rcases getElem?_rep e with h | ⟨_, h⟩
    · obtain ⟨v, h1, h2⟩ := A.at_ i s h
      cases s with
      | p es => exact ⟨es, h⟩
      | o es => exact h2.elim
      | un => cases o
      | v d => cases o
    · subst h; cases o
  refine ⟨k, fun a h => ⟨h, rfl⟩, fun a o z => ⟨z.1, z.2.1⟩, ?_, fun i s e => ?_, fun i j s t ds es a hij e1 e2 o1 o2 q1 q2 => ?_, fun i a ⟨⟨ds, e⟩, q⟩ => ⟨hs i _ q, ds, ?_⟩⟩
  · unfold L2.start; simp; rw [A.len]
  · rcases getElem?_rep e with h | ⟨_, h⟩
    · obtain ⟨v, h1, h2⟩ := A.at_ i s h
      cases s with
      | un => trivial
      | v d => exact ⟨v, hs i v h1, h2⟩
      | o ds => exact h2.elim
      | p ds =>
        obtain ⟨a, ws, rfl, g1, g2, g3⟩ := h2
        exact ⟨a, ws, hs i _ h1, g1, g2, fun o z => z.2.2 i ds h h1, g3, ⟨ds, h⟩, h1⟩
    · subst h; trivial
  · obtain ⟨ds', x1⟩ := opn i s ds e1 o1
    obtain ⟨es', x2⟩ := opn j t es e2 o2
    exact A.dis i j ds' es' a hij x1 x2 (hs2 i _ q1) (hs2 j _ q2)
  · rw [List.getElem?_append_left (List.getElem?_eq_some_iff.mp e).1]; exact e
theorem Ok.leave {σ : L2.St} {r : Env} (ok : Ok G (frOf F H args vs) F' H' σ r) (l : Le F H F' H') : CallEnd G F H F' H' args vs (outs args r) where
  fin := ok.fin
  le := l
  born := fun a h => by
    by_cases hF : F a
    · exact .inl hF
    · cases e : H a with
      | none => exact .inr rfl
      | some o =>
        by_cases hp : ∃ (i : Nat) (ds : List D), args[i]? = some (.p ds) ∧ vs[i]? = some (.ref a)
        · obtain ⟨i, ds, h1, h2⟩ := hp
          obtain ⟨q1, es, q2⟩ := ok.par i a ⟨⟨ds, h1⟩, h2⟩
          obtain ⟨b, ws, z1, z2, z3, _⟩ := ok.sl i _ q2
          rw [q1] at z1; cases z1
          exact absurd h z3
        · exact absurd h (ok.prot a o ⟨e, hF, fun i ds h1 h2 => hp ⟨i, ds, h1, h2⟩⟩).2
  same := fun a ob e hp => by
    by_cases hF : F a
    · exact (l a hF).2.trans e
    · exact (ok.prot a ob ⟨e, hF, hp⟩).1
  out := fun i ds a e1 e2 => by
    obtain ⟨q1, es, q2⟩ := ok.par i a ⟨⟨ds, e1⟩, e2⟩
    obtain ⟨b, ws, z1, z2, z3, z4, z5, _⟩ := ok.sl i _ q2
    rw [q1] at z1; cases z1
    exact ⟨es, ws, outs_p e1 q2, z2, z5⟩
end
section
variable {P : Program} {w : World} {K : PySem.W.Frag} {mg : Str → Option Value} {base : Heap}
/-- a def's own wish about what leaves it -/
abbrev wD (E : XK) : WX := fun cls d _ H => E cls d H
theorem fn_ok {x qual : Str} {st : Stmt} {f : Addr} {fd : FuncData} {N ps : List Str} {k : Nat} {body : Env → SRes} (Fu : L2.Fun K x qual st f fd) (S : FnScope N ps (defScope st)) (hN : ps.length ≤ N.length)
    (hb : ∀ (cdv : Value) (A : Around) (outer : List PySem.Env) (s : Shared) (H : Hp) (E : XK), Room k (A.deeper (envOfC qual (defScope st) s.heap.objs.size f cdv)) → PTs (cxOf (L2.CX P w) P w K mg base N qual (defScope st) f cdv A outer s H E) (wD E) (defBody st) body) :
    FnOk P w K mg base (L2.CX P w) (k + 1) f fd ps (spF ⟨K, mg⟩ ps.length (runD N.length body)) := by
  refine Fu.okX S (fun vs H Q E h => ?_) (fun cdv A outer s H vs Q E hr h => ?_)
  · obtain ⟨F, args, h1, _, h2, _⟩ := h
    rw [h2.len, h1]
  · refine ⟨_, hb cdv A outer s H E hr, ?_⟩
    obtain ⟨F, args, h1, k0, h2, h3⟩ := h
    refine ⟨frOf F H args vs, F, args ++ List.replicate (N.length - args.length) Slot.un, Ok.enter (N := N) k0 h2 (by omega), ?_⟩
    unfold runD at h3
    cases e : body (args ++ List.replicate (N.length - args.length) .un) with
    | nx r => rw [e] at h3; exact fun σ' H' F' ok l => h3 .non H' F' (ok.leave l) (by simp only [Den])
    | rt x r => rw [e] at h3; exact fun v σ' H' F' ok l d => h3 v H' F' (ok.leave l) d
    | rn ds r =>
      rw [e] at h3
      intro v σ' H' F' ok l ⟨a, ws, ev, d1, d2, d3, d4, d5⟩
      subst ev
      refine h3 a ws H' F' (ok.leave l) d1 d2 ?_ d4
      cases q : H a with
      | none => rfl
      | some o =>
        by_cases hp : ∃ (i : Nat) (ds : List D), args[i]? = some (.p ds) ∧ vs[i]? = some (.ref a)
        · obtain ⟨i, ds', g1, g2⟩ := hp
          obtain ⟨q1, es, q2⟩ := ok.par i a ⟨⟨ds', g1⟩, g2⟩
          exact absurd q1 (d5 i _ es q2 rfl)
        · by_cases hF : F a
          · exact absurd (l a hF).1 d2
          · exact absurd ⟨q, hF, fun i ds' g1 g2 => hp ⟨i, ds', g1, g2⟩⟩ (d3 o)
    | err x r => rw [e] at h3; exact fun c dd σ' H' F' ok l d => h3 c dd H' F' (ok.leave l) d
    | bk r => rw [e] at h3; exact h3.elim
    | ct r => rw [e] at h3; exact h3.elim
    | bad => rw [e] at h3; exact h3.elim
end

/-! ## Calls of own defs -/
inductive Arg where
  | v (d : D) | s (j : Nat)
def RA (G : Gc) (σ : L2.St) (F : Addr → Prop) (H : Hp) : Arg → V → Prop
  | .v d, v => Den G F H d v
  | .s j, v => σ[j]? = some (some v)
def RAL (G : Gc) (σ : L2.St) (F : Addr → Prop) (H : Hp) : List Arg → List V → Prop
  | [], vs => vs = []
  | a :: as, vs => ∃ v ws, vs = v :: ws ∧ RA G σ F H a v ∧ RAL G σ F H as ws
theorem RA.mono {G σ F H F' H'} (l : Le F H F' H') : ∀ {a : Arg} {v : V}, RA G σ F H a v → RA G σ F' H' a v
  | .v _, _, h => Den.mono l h
  | .s _, _, h => h
def tA (G : Gc) (W : WX) (d : Env → Res (List Arg)) : TA := fun σ H Q => ∃ fr F r, Ok G fr F H σ r ∧ Post G W (RAL G σ) fr F H σ (d r) Q
def PLA (X : Cx) (W : WX) (es : List Expr) (d : Env → Res (List Arg)) : Prop := PA X es (tA (gc X) W d)
def argSlots (r : Env) : List Arg → Option (List Slot)
  | [] => some []
  | .v d :: as => (argSlots r as).map (.v d :: ·)
  | .s j :: as => (getOpn r j).bind fun ds => (argSlots r as).map (.p ds :: ·)
def Arg.ix : Arg → Option Nat
  | .s j => some j
  | _ => none
def putBack : List Arg → List Slot → Env → Env
  | .s j :: as, .p ds :: o, r => putBack as o (setOpn r j ds)
  | .s _ :: as, _ :: o, r => putBack as o r
  | .v _ :: as, _ :: o, r => putBack as o r
  | _, _, r => r
section
variable {X : Cx} {W : WX} {pos : Pos}
def aNil : Env → Res (List Arg) := fun r => .ok [] r
def aVal (d : Env → Res D) (ds : Env → Res (List Arg)) : Env → Res (List Arg) := fun r => (d r).bind fun x r => (ds r).bind fun xs r => .ok (.v x :: xs) r
def aOpn (j : Nat) (ds : Env → Res (List Arg)) : Env → Res (List Arg) := fun r => match getOpn r j with
  | none => .bad
  | some _ => (ds r).bind fun xs r => .ok (.s j :: xs) r
theorem a_nil : PLA X W [] aNil := pa_weak pa_nil fun σ H Q ⟨fr, F, r, ok, p⟩ => p [] H F ok Le.refl (by simp only [RAL])
theorem a_val {e : Expr} {es : List Expr} {d : Env → Res D} {ds : Env → Res (List Arg)} (h1 : PX X W e d) (h2 : PLA X W es ds) (hs : starEach (e :: es) X.env = (false, eval e X.env) :: starEach es X.env := by rfl) : PLA X W (e :: es) (aVal d ds) :=
  pa_weak (pa_cons h1 h2 hs) fun σ H Q ⟨fr, F, r, ok, p⟩ => ⟨fr, F, r, ok, Post.seq p fun x r1 v H1 F1 ok1 l1 q1 p1 => ⟨fr, F1, r1, ok1, Post.seq p1 fun y r2 u H2 F2 ok2 l2 q2 p2 =>
    p2 (v :: u) H2 F2 ok2 Le.refl (by simp only [RAL]; exact ⟨v, u, rfl, q1.mono l2, q2⟩)⟩⟩
theorem a_opn {j : Nat} {x : Str} {p : Pos} {es : List Expr} {ds : Env → Res (List Arg)} (h1 : PE X (.Name x p) (tVar j)) (h2 : PLA X W es ds) (hs : starEach (.Name x p :: es) X.env = (false, eval (.Name x p) X.env) :: starEach es X.env := by rfl) : PLA X W (.Name x p :: es) (aOpn j ds) :=
  pa_weak (pa_cons h1 h2 hs) fun σ H Q ⟨fr, F, r, ok, p⟩ => by
    unfold aOpn at p
    cases e : getOpn r j with
    | none => rw [e] at p; exact p.elim
    | some ys =>
      rw [e] at p
      obtain ⟨a, vs, g1, _⟩ := ok.opened e
      exact ⟨.ref a, g1, fr, F, r, ok, Post.seq p fun y r2 u H2 F2 ok2 l2 q2 p2 => p2 (.ref a :: u) H2 F2 ok2 Le.refl (by simp only [RAL]; exact ⟨_, u, rfl, g1, q2⟩)⟩
def dCall (fn : Fn) (ds : Env → Res (List Arg)) : Env → Res Val := fun r => (ds r).bind fun as r => if (as.filterMap Arg.ix).Nodup then (match argSlots r as with
  | none => .bad
  | some ss => match fn ss with
    | .ok x o => .ok (.v x) (putBack as o r)
    | .okn x o => .ok (.n x) (putBack as o r)
    | .err e o => .err e (putBack as o r)
    | .bad => .bad) else .bad
theorem argSlots_len {r : Env} : ∀ {as : List Arg} {ss : List Slot}, argSlots r as = some ss → ss.length = as.length
  | [], ss, h => by cases h; rfl
  | .v d :: as, ss, h => by
    unfold argSlots at h
    cases e : argSlots r as with
    | none => rw [e] at h; cases h
    | some tt => rw [e] at h; cases h; simp [argSlots_len e]
  | .s j :: as, ss, h => by
    unfold argSlots at h
    cases e0 : getOpn r j with
    | none => rw [e0] at h; cases h
    | some ds =>
      rw [e0] at h
      cases e : argSlots r as with
      | none => rw [e] at h; cases h
      | some tt => rw [e] at h; cases h; simp [argSlots_len e]
theorem argSlots_at {r : Env} : ∀ {as : List Arg} {ss : List Slot} {i : Nat} {a : Arg}, argSlots r as = some ss → as[i]? = some a → match a with
    | .v d => ss[i]? = some (.v d)
    | .s j => ∃ ds, getOpn r j = some ds ∧ ss[i]? = some (.p ds)
  | [], _, _, _, _, e => by simp at e
  | .v d :: as, ss, i, a, h, e => by
    unfold argSlots at h
    cases e1 : argSlots r as with
    | none => rw [e1] at h; cases h
    | some tt =>
      rw [e1] at h; cases h
      cases i with
      | zero => simp at e; subst e; simp
      | succ i => simpa using argSlots_at e1 (by simpa using e)
  | .s j :: as, ss, i, a, h, e => by
    unfold argSlots at h
    cases e0 : getOpn r j with
    | none => rw [e0] at h; cases h
    | some ds =>
      rw [e0] at h
      cases e1 : argSlots r as with
      | none => rw [e1] at h; cases h
      | some tt =>
        rw [e1] at h; cases h
        cases i with
        | zero => simp at e; subst e; exact ⟨ds, e0, by simp⟩
        | succ i => simpa using argSlots_at e1 (by simpa using e)
theorem RAL.get {G σ F H} : ∀ {as : List Arg} {vs : List V} {i : Nat} {a : Arg}, RAL G σ F H as vs → as[i]? = some a → ∃ v, vs[i]? = some v ∧ RA G σ F H a v
  | [], _, _, _, _, e => by simp at e
  | b :: as, vs, i, a, h, e => by
    simp only [RAL] at h
    obtain ⟨v, ws, rfl, h1, h2⟩ := h
    cases i with
    | zero => simp at e; subst e; exact ⟨v, by simp, h1⟩
    | succ i => simpa using RAL.get h2 (by simpa using e)
theorem RAL.len {G σ F H} : ∀ {as : List Arg} {vs : List V}, RAL G σ F H as vs → vs.length = as.length
  | [], _, h => by simp only [RAL] at h; subst h; rfl
  | b :: as, vs, h => by
    simp only [RAL] at h
    obtain ⟨v, ws, rfl, h1, h2⟩ := h
    simp [RAL.len h2]
theorem ix_inj : ∀ {as : List Arg} {i j k : Nat}, (as.filterMap Arg.ix).Nodup → as[i]? = some (.s k) → as[j]? = some (.s k) → i = j
  | [], _, _, _, _, e, _ => by simp at e
  | a :: as, i, j, k, h, e1, e2 => by
    have mem : ∀ {n : Nat}, as[n]? = some (.s k) → k ∈ as.filterMap Arg.ix := fun e => List.mem_filterMap.mpr ⟨_, List.mem_of_getElem? e, rfl⟩
    have tl : (as.filterMap Arg.ix).Nodup := by
      cases a with
      | v d => simpa [List.filterMap_cons, Arg.ix] using h
      | s m => have := h; simp only [List.filterMap_cons, Arg.ix, List.nodup_cons] at this; exact this.2
    cases i with
    | zero =>
      simp at e1; subst e1
      have hk : k ∉ as.filterMap Arg.ix := by have := h; simp only [List.filterMap_cons, Arg.ix, List.nodup_cons] at this; exact this.1
      cases j with
      | zero => rfl
      | succ j => exact absurd (mem (by simpa using e2)) hk
    | succ i =>
      cases j with
      | zero =>
        simp at e2; subst e2
        have hk : k ∉ as.filterMap Arg.ix := by have := h; simp only [List.filterMap_cons, Arg.ix, List.nodup_cons] at this; exact this.1
        exact absurd (mem (by simpa using e1)) hk
      | succ j => exact congrArg (· + 1) (ix_inj tl (by simpa using e1) (by simpa using e2))
theorem getOpn_set {r : Env} {j k : Nat} {ds : List D} (h : j ≠ k) : getOpn (setOpn r j ds) k = getOpn r k := by
  unfold setOpn
  split
  · unfold getOpn; rw [List.getElem?_set_ne h]
  · unfold getOpn; rw [List.getElem?_set_ne h]
  · rfl
end
end Py
end

section
set_option maxHeartbeats 2000000
namespace Py
open PySem PySem.Spec PyProof.Rows L2

/-- the slot with another content -/
def Slot.put (s : Slot) (es : List D) : Slot := match s with
  | .o _ => .o es
  | .p _ => .p es
  | s => s
theorem setOpn_at {r : Env} {j : Nat} {s : Slot} {ds es : List D} (e : r[j]? = some s) (o : s.opn = some ds) : (setOpn r j es)[j]? = some (s.put es) := by
  have hj : j < r.length := (List.getElem?_eq_some_iff.mp e).1
  unfold setOpn
  rw [e]
  cases s with
  | o _ => simp only; rw [List.getElem?_set_self hj]; rfl
  | p _ => simp only; rw [List.getElem?_set_self hj]; rfl
  | un => cases o
  | v _ => cases o
theorem setOpn_ne {r : Env} {j k : Nat} {es : List D} (h : j ≠ k) : (setOpn r j es)[k]? = r[k]? := by
  unfold setOpn
  split
  · rw [List.getElem?_set_ne h]
  · rw [List.getElem?_set_ne h]
  · rfl
theorem setOpn_len {r : Env} {j : Nat} {es : List D} : (setOpn r j es).length = r.length := by
  unfold setOpn; split <;> simp
theorem putBack_len : ∀ {as : List Arg} {o : List Slot} {r : Env}, (putBack as o r).length = r.length
  | [], _, _ => by simp [putBack]
  | .v _ :: as, [], r => by simp [putBack]
  | .s _ :: as, [], r => by simp [putBack]
  | .v _ :: as, _ :: o, r => by simp only [putBack]; exact putBack_len
  | .s j :: as, .p ds :: o, r => by simp only [putBack]; rw [putBack_len, setOpn_len]
  | .s j :: as, .v ds :: o, r => by simp only [putBack]; exact putBack_len
  | .s j :: as, .o ds :: o, r => by simp only [putBack]; exact putBack_len
  | .s j :: as, .un :: o, r => by simp only [putBack]; exact putBack_len
theorem putBack_out : ∀ {as : List Arg} {o : List Slot} {r : Env} {k : Nat}, k ∉ as.filterMap Arg.ix → (putBack as o r)[k]? = r[k]?
  | [], _, _, _, _ => by simp [putBack]
  | .v _ :: as, [], r, _, _ => by simp [putBack]
  | .s _ :: as, [], r, _, _ => by simp [putBack]
  | .v _ :: as, _ :: o, r, k, h => by simp only [putBack]; exact putBack_out (by simpa [List.filterMap_cons, Arg.ix] using h)
  | .s j :: as, s :: o, r, k, h => by
    simp only [List.filterMap_cons, Arg.ix, List.mem_cons, not_or] at h
    cases s with
    | p ds => simp only [putBack]; rw [putBack_out h.2, setOpn_ne (Ne.symm h.1)]
    | v _ => simp only [putBack]; exact putBack_out h.2
    | o _ => simp only [putBack]; exact putBack_out h.2
    | un => simp only [putBack]; exact putBack_out h.2
theorem putBack_at : ∀ {as : List Arg} {o : List Slot} {r : Env} {i k : Nat} {s : Slot} {ds es : List D}, (as.filterMap Arg.ix).Nodup → as[i]? = some (.s k) → o[i]? = some (.p es) → r[k]? = some s → s.opn = some ds → (putBack as o r)[k]? = some (s.put es)
  | [], _, _, _, _, _, _, _, _, e, _, _, _ => by simp at e
  | _ :: _, [], _, _, _, _, _, _, _, _, e, _, _ => by simp at e
  | .v _ :: as, t :: o, r, i, k, s, ds, es, h, e1, e2, e3, e4 => by
    simp only [putBack]
    cases i with
    | zero => simp at e1
    | succ i => exact putBack_at (by simpa [List.filterMap_cons, Arg.ix] using h) (by simpa using e1) (by simpa using e2) e3 e4
  | .s j :: as, t :: o, r, i, k, s, ds, es, h, e1, e2, e3, e4 => by
    simp only [List.filterMap_cons, Arg.ix, List.nodup_cons] at h
    cases i with
    | zero =>
      simp at e1 e2
      subst e1; subst e2
      simp only [putBack]
      rw [putBack_out h.1]
      exact setOpn_at e3 e4
    | succ i =>
      have e1' : as[i]? = some (.s k) := by simpa using e1
      have hk : j ≠ k := fun z => h.1 (z ▸ List.mem_filterMap.mpr ⟨_, List.mem_of_getElem? e1', rfl⟩)
      have ih := fun r (e3 : r[k]? = some s) => putBack_at (r := r) h.2 e1' (by simpa using e2) e3 e4
      cases t with
      | p fs => simp only [putBack]; exact ih _ (by rw [setOpn_ne hk]; exact e3)
      | v _ => simp only [putBack]; exact ih _ e3
      | o _ => simp only [putBack]; exact ih _ e3
      | un => simp only [putBack]; exact ih _ e3
section
variable {G : Gc} {fr : Fr} {F F' : Addr → Prop} {H H' : Hp} {σ : L2.St} {r : Env} {as : List Arg} {ss o : List Slot} {vs : List V}
theorem Ok.args (ok : Ok G fr F H σ r) (hn : (as.filterMap Arg.ix).Nodup) (e : argSlots r as = some ss) (q : RAL G σ F H as vs) : ArgsOk G F H ss vs where
  len := by rw [q.len, argSlots_len e]
  at_ := fun i s hs => by
    have hi : i < as.length := by rw [← argSlots_len e]; exact (List.getElem?_eq_some_iff.mp hs).1
    have ha : as[i]? = some as[i] := List.getElem?_eq_getElem hi
    obtain ⟨v, h1, h2⟩ := q.get ha
    have h3 := argSlots_at e ha
    refine ⟨v, h1, ?_⟩
    cases hq : as[i] with
    | v d => rw [hq] at h2 h3; simp only at h3; rw [hs] at h3; cases h3; exact h2
    | s j =>
      rw [hq] at h2 h3
      obtain ⟨ds, g1, g2⟩ := h3
      rw [hs] at g2; cases g2
      obtain ⟨a, ws, z1, z2, z3, z4, _⟩ := ok.opened g1
      have h2' : σ[j]? = some (some v) := h2
      rw [z1] at h2'; cases h2'
      exact ⟨a, ws, rfl, z2, z3, z4⟩
  dis := fun i j ds es a hij e1 e2 q1 q2 => by
    have key : ∀ {i : Nat} {ds : List D}, ss[i]? = some (.p ds) → vs[i]? = some (.ref a) → ∃ k, as[i]? = some (.s k) ∧ σ[k]? = some (some (V.ref a)) ∧ ∃ s, r[k]? = some s ∧ s.opn = some ds := fun {i ds} hs hv => by
      have hi : i < as.length := by rw [← argSlots_len e]; exact (List.getElem?_eq_some_iff.mp hs).1
      have ha : as[i]? = some as[i] := List.getElem?_eq_getElem hi
      obtain ⟨v, h1, h2⟩ := q.get ha
      rw [hv] at h1; cases h1
      have h3 := argSlots_at e ha
      cases hq : as[i] with
      | v d => rw [hq] at h3; simp only at h3; rw [hs] at h3; cases h3
      | s k =>
        rw [hq] at h2 h3 ha
        obtain ⟨ds', g1, g2⟩ := h3
        rw [hs] at g2; cases g2
        obtain ⟨s, x1, x2, _⟩ := getOpn_ok g1
        exact ⟨k, ha, h2, s, x1, x2⟩
    obtain ⟨k, a1, a2, s, a3, a4⟩ := key e1 q1
    obtain ⟨l, b1, b2, t, b3, b4⟩ := key e2 q2
    by_cases hkl : k = l
    · subst hkl; exact hij (ix_inj hn a1 b1)
    · exact ok.dis k l s t _ _ a hkl a3 b3 a4 b4 a2 b2
/-- behind the call -/
theorem Ok.called (ok : Ok G fr F H σ r) (hn : (as.filterMap Arg.ix).Nodup) (e : argSlots r as = some ss) (q : RAL G σ F H as vs) (c : CallEnd G F H F' H' ss vs o) : Ok G fr F' H' σ (putBack as o r) := by
  have l := c.le
  -- an open slot that was handed in
  have inn : ∀ {i k : Nat}, as[i]? = some (.s k) → ∃ a ds s, σ[k]? = some (some (V.ref a)) ∧ vs[i]? = some (.ref a) ∧ ss[i]? = some (.p ds) ∧ r[k]? = some s ∧ s.opn = some ds := fun {i k} ha => by
    obtain ⟨v, h1, h2⟩ := q.get ha
    obtain ⟨ds, g1, g2⟩ := argSlots_at e ha
    obtain ⟨a, ws, z1, _⟩ := ok.opened g1
    obtain ⟨s, x1, x2, _⟩ := getOpn_ok g1
    have h2' : σ[k]? = some (some v) := h2
    rw [z1] at h2'; cases h2'
    exact ⟨a, ds, s, z1, h1, g2, x1, x2⟩
  have par : ∀ {i : Nat} {ds : List D} {a : Addr}, ss[i]? = some (.p ds) → vs[i]? = some (.ref a) → ∃ k s, as[i]? = some (.s k) ∧ σ[k]? = some (some (V.ref a)) ∧ r[k]? = some s ∧ s.opn = some ds := fun {i ds a} hs hv => by
    have hi : i < as.length := by rw [← argSlots_len e]; exact (List.getElem?_eq_some_iff.mp hs).1
    have ha : as[i]? = some as[i] := List.getElem?_eq_getElem hi
    cases hq : as[i] with
    | v d =>
      rw [hq] at ha
      have h3 := argSlots_at e ha
      simp only at h3
      rw [hs] at h3; cases h3
    | s k =>
      rw [hq] at ha
      obtain ⟨b, ds', s, z1, z2, z3, z4, z5⟩ := inn ha
      rw [hv] at z2; cases z2
      rw [hs] at z3; cases z3
      exact ⟨k, s, ha, z1, z4, z5⟩
  -- what was not handed in
  have nf : ∀ a ob, H a = some ob → ¬ F a → ¬ F' a := fun a ob h1 h2 h3 => by
    rcases c.born a h3 with z | z
    · exact h2 z
    · rw [z] at h1; cases h1
  have same : ∀ {k : Nat} {s : Slot} {ds : List D} {a : Addr} {ob : HO}, r[k]? = some s → s.opn = some ds → σ[k]? = some (some (V.ref a)) → k ∉ as.filterMap Arg.ix → H a = some ob → H' a = some ob := fun {k s ds a ob} h1 h2 h3 h4 h5 =>
    c.same a ob h5 fun i es h6 h7 => by
      obtain ⟨k', s', g1, g2, g3, g4⟩ := par h6 h7
      by_cases hk : k = k'
      · subst hk; exact h4 (List.mem_filterMap.mpr ⟨_, List.mem_of_getElem? g1, rfl⟩)
      · exact ok.dis k k' s s' _ _ a hk h1 g3 h2 g4 h3 g2
  -- the new slots
  have new : ∀ (k : Nat) (s' : Slot), (putBack as o r)[k]? = some s' → (k ∉ as.filterMap Arg.ix ∧ r[k]? = some s') ∨ ∃ s ds es a ws, r[k]? = some s ∧ s.opn = some ds ∧ s' = s.put es ∧ σ[k]? = some (some (V.ref a)) ∧ H' a = some (.lst ws) ∧ DenL G F' H' es ws := fun k s' h => by
    by_cases hk : k ∈ as.filterMap Arg.ix
    · obtain ⟨b, hb, hb2⟩ := List.mem_filterMap.mp hk
      cases b with
      | v d => cases hb2
      | s j =>
        cases hb2
        obtain ⟨i, hi⟩ := List.getElem?_of_mem hb
        obtain ⟨a, ds, s, z1, z2, z3, z4, z5⟩ := inn hi
        obtain ⟨es, ws, y1, y2, y3⟩ := c.out i ds a z3 z2
        have := putBack_at hn hi y1 z4 z5
        rw [this] at h; cases h
        exact .inr ⟨s, ds, es, a, ws, z4, z5, rfl, z1, y2, y3⟩
    · rw [putBack_out hk] at h; exact .inl ⟨hk, h⟩
  have opn : ∀ {k : Nat} {s' : Slot} {es : List D}, (putBack as o r)[k]? = some s' → s'.opn = some es → ∃ s ds, r[k]? = some s ∧ s.opn = some ds := fun {k s' es} h1 h2 => by
    rcases new k s' h1 with ⟨_, h⟩ | ⟨s, ds, _, _, _, h3, h4, _⟩
    · exact ⟨s', es, h, h2⟩
    · exact ⟨s, ds, h3, h4⟩
  refine ⟨c.fin, fun a h => ?_, fun a ob z => ?_, by rw [putBack_len]; exact ok.len, fun k s' h => ?_, fun i j s t ds es a hij e1 e2 o1 o2 q1 q2 => ?_, fun i a hp => ?_⟩
  · obtain ⟨h1, h2⟩ := ok.grow a h
    exact ⟨(l a h1).1, (l a h1).2.trans h2⟩
  · obtain ⟨h1, h2⟩ := ok.prot a ob z
    refine ⟨c.same a ob h1 fun i ds g1 g2 => ?_, nf a ob h1 h2⟩
    obtain ⟨k, s, y1, y2, y3, y4⟩ := par g1 g2
    obtain ⟨ws, x1, x2, x3, _⟩ := ok.opn_at y3 y4 y2
    exact x3 ob z
  · rcases new k s' h with ⟨hk, h⟩ | ⟨s, ds, es, a, ws, h1, h2, h3, h4, h5, h6⟩
    · have z := ok.sl k s' h
      cases s' with
      | un => trivial
      | v d => obtain ⟨v, e1, e2⟩ := z; exact ⟨v, e1, e2.mono l⟩
      | o es =>
        obtain ⟨b, us, e1, e2, e3, e4, e5⟩ := z
        exact ⟨b, us, e1, same h rfl e1 hk e2, nf b _ e2 e3, e4, e5.mono l⟩
      | p es =>
        obtain ⟨b, us, e1, e2, e3, e4, e5, e6⟩ := z
        exact ⟨b, us, e1, same h rfl e1 hk e2, nf b _ e2 e3, e4, e5.mono l, e6⟩
    · obtain ⟨us, x1, x2, x3, _⟩ := ok.opn_at h1 h2 h4
      subst h3
      have z := ok.sl k s h1
      cases s with
      | un => cases h2
      | v _ => cases h2
      | o _ => exact ⟨a, ws, h4, h5, nf a _ x1 x2, x3, h6⟩
      | p _ =>
        obtain ⟨b, us', e1, _, _, _, _, e6⟩ := z
        rw [h4] at e1; cases e1
        exact ⟨a, ws, h4, h5, nf a _ x1 x2, x3, h6, e6⟩
  · obtain ⟨s0, ds0, g1, g2⟩ := opn e1 o1
    obtain ⟨t0, es0, g3, g4⟩ := opn e2 o2
    exact ok.dis i j s0 t0 ds0 es0 a hij g1 g3 g2 g4 q1 q2
  · obtain ⟨h1, ds, h2⟩ := ok.par i a hp
    refine ⟨h1, ?_⟩
    have hi : i < (putBack as o r).length := by rw [putBack_len]; exact (List.getElem?_eq_some_iff.mp h2).1
    rcases new i _ (List.getElem?_eq_getElem hi) with ⟨_, h⟩ | ⟨s, ds', es, b, ws, g1, g2, g3, _⟩
    · rw [h2] at h
      exact ⟨ds, by rw [List.getElem?_eq_getElem hi, ← Option.some.inj h]⟩
    · rw [h2] at g1; cases g1
      exact ⟨es, by rw [List.getElem?_eq_getElem hi, g3]; rfl⟩
end
section
variable {X : Cx} {W : WX} {pos : Pos}
theorem call_rd {n : Nat} {fn : Fn} {ds : Env → Res (List Arg)} {as : List Arg} {r1 : Env} {fr : Fr} {F : Addr → Prop} {H : Hp} {σ : L2.St} {vs : List V} {Q : VK} (ok : Ok (gc X) fr F H σ r1) (q : RAL (gc X) σ F H as vs) (hl : as.length = n)
    (p : PostV (gc X) W fr F H σ (if (as.filterMap Arg.ix).Nodup then (match argSlots r1 as with
      | none => .bad
      | some ss => match fn ss with
        | .ok x o => .ok (.v x) (putBack as o r1)
        | .okn x o => .ok (.n x) (putBack as o r1)
        | .err e o => .err e (putBack as o r1)
        | .bad => .bad) else .bad) Q) : spF (gc X) n fn vs H Q (WE W σ) := by
  split at p
  · rename_i hn
    cases es : argSlots r1 as with
    | none => rw [es] at p; exact p.elim
    | some ss =>
      rw [es] at p
      simp only at p
      refine ⟨F, ss, by rw [argSlots_len es]; exact hl, ok.fin, ok.args hn es q, ?_⟩
      cases ef : fn ss with
      | ok x o => rw [ef] at p; exact fun v H' F' c d => p v H' F' (ok.called hn es q c) c.le d
      | okn x o =>
        rw [ef] at p
        intro a ws H' F' c h1 h2 h3 h4
        refine p (.ref a) H' F' (ok.called hn es q c) c.le ⟨a, ws, rfl, h1, h2, fun ob z => ?_, h4, fun i s gs e1 e2 e3 => ?_⟩
        · have := (ok.prot a ob z).1; rw [h3] at this; cases this
        · have ok' := ok.called hn es q c
          -- an open slot behind the call was one ahead of it
          have hi : i < r1.length := by rw [← putBack_len (as := as) (o := o)]; exact (List.getElem?_eq_some_iff.mp e1).1
          have e4 : ∃ t hs, r1[i]? = some t ∧ t.opn = some hs := by
            by_cases hk : i ∈ as.filterMap Arg.ix
            · obtain ⟨b, hb, hb2⟩ := List.mem_filterMap.mp hk
              cases b with
              | v d => cases hb2
              | s j =>
                cases hb2
                obtain ⟨m, hm⟩ := List.getElem?_of_mem hb
                obtain ⟨ds', g1, g2⟩ := argSlots_at es hm
                obtain ⟨t, x1, x2, _⟩ := getOpn_ok g1
                exact ⟨t, _, x1, x2⟩
            · rw [putBack_out hk] at e1; exact ⟨s, gs, e1, e2⟩
          obtain ⟨t, hs, e5, e6⟩ := e4
          obtain ⟨us, x1, _⟩ := ok.opn_at e5 e6 e3
          rw [h3] at x1; cases x1
      | err x o => rw [ef] at p; exact fun c dd H' F' ce d => p c dd H' F' (ok.called hn es q ce) ce.le d
      | bad => rw [ef] at p; exact p.elim
  · exact p.elim
theorem v_call {k n : Nat} {f : Addr} {fd : FuncData} {ps : List Str} {fn : Fn} {x : Str} {p : Pos} {e : Expr} {es : List Expr} {ds : Env → Res (List Arg)} (Fo : FnOk X.prog X.w X.K X.mg X.base (L2.CX X.prog X.w) k f fd ps (spF ⟨X.K, X.mg⟩ n fn)) (hr : Room k X.A) (hg : Gl X x) (hm : X.mg x = some (.ref f)) (hk : PySem.W.keepIn X.K (.ref f) = true) (hb : Binds X.K fd ps []) (tk : Takes X W)
    (ha : PLA X W (e :: es) ds) (hl : (e :: es).length = n) (hdb : (x == ("__debug__" : Str)) = false := by decide) (he : starEach (e :: es) X.env = (false, eval e X.env) :: starEach es X.env := by rfl) (hpl : (backTo pos (starEach es X.env)).any (·.1) = false := by rfl)
    (hds : ∀ r as r', ds r = .ok as r' → as.length = n) : PV X W (.Call (.Name x p) (e :: es) [] pos) (dCall fn ds) :=
  pe_weak (pe_callSD (dvs := []) (E := WE W) Fo hr hg hm hk hb .nil (fun σ => passAt tk σ) ha hdb he hpl) fun σ H Q ⟨fr, F, r, ok, p⟩ => by
    refine ⟨fr, F, r, ok, ?_⟩
    unfold dCall at p
    cases e1 : ds r with
    | ok as r1 =>
      rw [e1] at p
      intro vs H1 F1 ok1 l1 q1
      rw [List.append_nil]
      exact call_rd (ds := ds) ok1 q1 (hds r as r1 e1) (PostV.le l1 p)
    | err x r1 => rw [e1] at p; exact p
    | bad => rw [e1] at p; exact p.elim
/-- argument lists have a fixed length -/
def ALen (ds : Env → Res (List Arg)) (n : Nat) : Prop := ∀ r as r', ds r = .ok as r' → as.length = n
theorem alen_nil : ALen aNil 0 := fun r as r' h => by cases h; rfl
theorem alen_val {d : Env → Res D} {ds : Env → Res (List Arg)} {n : Nat} (h : ALen ds n) : ALen (aVal d ds) (n + 1) := fun r as r' e => by
  unfold aVal at e
  cases e1 : d r with
  | ok x r1 =>
    rw [e1] at e
    simp only [Res.bind_ok] at e
    cases e2 : ds r1 with
    | ok xs r2 => rw [e2] at e; cases e; simp [h _ _ _ e2]
    | err _ _ => rw [e2] at e; cases e
    | bad => rw [e2] at e; cases e
  | err _ _ => rw [e1] at e; cases e
  | bad => rw [e1] at e; cases e
theorem alen_opn {j : Nat} {ds : Env → Res (List Arg)} {n : Nat} (h : ALen ds n) : ALen (aOpn j ds) (n + 1) := fun r as r' e => by
  unfold aOpn at e
  cases e1 : getOpn r j with
  | none => rw [e1] at e; cases e
  | some y =>
    rw [e1] at e
    simp only at e
    cases e2 : ds r with
    | ok xs r2 => rw [e2] at e; cases e; simp [h _ _ _ e2]
    | err _ _ => rw [e2] at e; cases e
    | bad => rw [e2] at e; cases e
end
end Py
end

section
set_option maxHeartbeats 4000000
namespace Py
open PySem PySem.Spec PyProof.Rows L2

/-! ## A caught exception is tracked from the clause on -/
section
variable {X : Cx} {pins : List (Addr × Obj)} {σ : L2.St} {H : Hp} {s : Shared}
theorem exk_ok {P : Program} {w : World} {h : Heap} {a : Addr} {cls : Value} {d : Option Addr} {oe : Obj} {vs : Array Value} (ha : h.get? a = some oe) (hz : Zc cls d oe) (hd : oe.data = .fields vs) : ObjOk P w H h a (ExK a cls d) :=
  ⟨⟨oe, vs, ha, hz, hd⟩, ⟨oe, ha⟩, fun _ _ ⟨o, v, q, z⟩ k => ⟨o, v, k o q, z⟩⟩
theorem adopt {a : Addr} {cls : Value} {d : Option Addr} {oe : Obj} {vs : Array Value} (I : Inv X pins σ H s) (ha : s.heap.get? a = some oe) (hz : Zc cls d oe) (hd : oe.data = .fields vs) (na : H a = none) (nL : a ≠ X.env.locals)
    (fr : X.s_0.heap.get? a = none) (np : ∀ p ∈ X.pn ++ pins, p.1 ≠ a) : Inv X pins σ (upd H a (ExK a cls d)) s := by
  have up : ∀ {b : Addr} {o : HO}, H b = some o → upd H a (ExK a cls d) b = some o := fun {b o} e => by rw [upd_ne (ne_of_none e na)]; exact e
  refine ⟨I.ok, I.os, I.bare, ⟨I.base.keep, I.base.slot, fun b o e n hx => ?_, I.base.there, fun b xs e => up (I.base.tups b xs e), fun b o u e => up (I.base.frzs b o u e), fun b ps e => ?_⟩, I.loc, I.cell, ?_, fun x c e => ?_, fun p hp => ?_, fun b o e => ?_, I.len⟩
  · have hb : b ≠ a := fun z => by rw [z, fr] at e; cases e
    rw [upd_ne hb]; exact I.base.free b o e n hx
  · obtain ⟨m, q⟩ := I.base.tbls b ps e
    exact ⟨m, up q⟩
  · rw [upd_ne (Ne.symm nL)]; exact I.free
  · have hc : c ≠ a := fun z => by
      obtain ⟨v, o, h1, h2⟩ := I.cell x c e
      rw [z, ha] at h1; cases h1
      rw [hd] at h2; cases h2
    rw [upd_ne hc]; exact I.freeC x c e
  · obtain ⟨h1, h2, h3, h4, h5⟩ := I.pin p hp
    exact ⟨h1, by rw [upd_ne (np p hp)]; exact h2, h3, h4, h5⟩
  · by_cases hb : b = a
    · subst hb
      rw [upd_same] at e; cases e
      exact exk_ok ha hz hd
    · rw [upd_ne hb] at e
      exact (I.hok b o e).stay (fun _ _ _ q => q) (fun c q => up q) fun c xs q => up q
theorem toSuite (I : Inv X pins σ H s) (a : Addr) : Inv (X.suite a (X.pn ++ pins)) [] σ H s :=
  ⟨I.ok.suite _ _, I.os, I.bare, I.base, I.loc, I.cell, I.free, I.freeC, fun p hp => I.pin p (by simpa using hp), I.hok, I.len⟩
theorem ofSuite {a : Addr} {pl : List (Addr × Obj)} (I : Inv (X.suite a (X.pn ++ pins)) pl σ H s) (ok : X.Ok) : Inv X pins σ H s :=
  ⟨ok, I.os, I.bare, I.base, I.loc, I.cell, I.free, I.freeC, fun p hp => I.pin p (List.mem_append_left _ hp), I.hok, I.len⟩
end
/-- what the clauses wish, the caught exception tracked -/
def wHds (K : PySem.W.Frag) (Wout : WX) (D : Ends) : List (Value × Option Nat × TS) → WX
  | [] => Wout
  | (c, none, ts) :: l => fun cls d σ H => ∃ b, PySem.W.exmOne K cls c = some b ∧ (b = true → ∀ a, H a = none → ts D σ (upd H a (ExK a cls d))) ∧ (b = false → wHds K Wout D l cls d σ H)
  | (c, some i, ts) :: l => fun cls d σ H => ∃ b, PySem.W.exmOne K cls c = some b ∧ (b = true → ∀ a, H a = none → ts { nx := fun σ' H' => D.nx (σ'.set i none) H', rt := D.rt, bk := fun σ' H' => D.bk (σ'.set i none) H', ct := fun σ' H' => D.ct (σ'.set i none) H' } (σ.set i (some (.ref a))) (upd H a (ExK a cls d))) ∧
      (b = false → wHds K Wout D l cls d σ H)
inductive HdsT (X : Cx) : List ExceptHandler → List (Value × Option Nat × TS) → Prop
  | nil : HdsT X [] []
  | plain {x : Str} {c : Value} {ts : TS} {b₀ : Stmt} {su : List Stmt} {np pp : Pos} {hds : List ExceptHandler} {l : List (Value × Option Nat × TS)} (hc : Names X x c) (hsu : ∀ a pn, PSs (X.suite a pn) (b₀ :: su) ts) (r : HdsT X hds l) :
      HdsT X (.ExceptHandler (some (.Name x np)) none (b₀ :: su) pp :: hds) ((c, none, ts) :: l)
  | named {x n : Str} {i : Nat} {c : Value} {ts : TS} {b₀ : Stmt} {su : List Stmt} {np pp : Pos} {hds : List ExceptHandler} {l : List (Value × Option Nat × TS)} (hi : X.N[i]? = some n) (hln : X.env.kindOf n = some .local) (hc : Names X x c) (hsu : ∀ a pn, PSs (X.suite a pn) (b₀ :: su) ts) (r : HdsT X hds l) :
      HdsT X (.ExceptHandler (some (.Name x np)) (some n) (b₀ :: su) pp :: hds) ((c, some i, ts) :: l)
section
variable {X : Cx} {body : List Stmt} {h₀ : ExceptHandler} {hds : List ExceptHandler} {l : List (Value × Option Nat × TS)} {pos : Pos} {tb : WX → TS} {Wout : WX}
theorem ps_try (hs : X.stack = X.env :: X.outer) (hf : X.env.frame = some X.env.locals) (hN : X.N.Nodup) (hex : X.ex = []) (tk : Takes X Wout)
    (hb : ∀ (W : WX) (pn : List (Addr × Obj)) (xe : Value → Shared → Prop), Takes (X.tr pn xe) W → PassesOwn (model X.prog X.w) X.A X.env xe → PSs (X.tr pn xe) body (tb W))
    (hh : HdsT X (h₀ :: hds) l) : PS X (.Try body (h₀ :: hds) [] [] pos) (fun D σ H => tb (wHds X.K Wout D l) D σ H) := by
  refine ⟨fun pins s σ H D I hyp => ?_⟩
  have ok := I.ok
  have hfr : X.A.frames = some (X.env :: X.outer) := by rw [ok.frames, hs]
  refine wpAny_Try_except ?_
  refine wpAny_mono ((hb (wHds X.K Wout D l) (X.pn ++ pins) (fun e s1 => wpAny (model X.prog X.w) X.A (noteFrame e X.env) (fun _ s2 => wpAny (model X.prog X.w) X.A (setFlight e none) (fun _ s3 => wpAny (model X.prog X.w) X.A
    (handleBy e X.env (h₀ :: hds)) (SP X pins D) X.xe s3) X.xe s2) X.xe s1) (fun u st xx => ?_) PassesOwn.looking).run [] s σ H D (I.toTry _) hyp) (fun f s1 hsp => ?_) (fun e s1 he => he)
  · obtain ⟨a, B, sI, pins', σ', H', cls, d, rfl, J', nb, up, sky, na, os, ag, w⟩ := xx
    have J : Inv X pins σ' H' sI := J'.ofTry ok
    have sky' : Sky B (X.env :: X.outer) a (Zc cls d) X.env.locals st.heap := by rw [← hs]; exact sky
    show wpAny (model X.prog X.w) X.A (noteFrame (.ref a) X.env) _ _ _
    refine Sky.land Zc.steady hfr hf sky' fun h3 fl3 up3 => ?_
    have J3 : Inv X pins σ' H' { st with heap := h3 } := J.landed nb fl3.1 (up.trans up3) os ag
    obtain ⟨oe3, vs3, he3, hz3, hd3⟩ := fl3.there
    have nfr : a ∉ frs (X.env :: X.outer) := fun hm => by
      obtain ⟨_, o1, e1, hnf⟩ := fl3.2.2.1.mem hm
      rw [he3] at e1; cases e1
      exact hnf _ hd3
    have nfrs : a ∉ frs X.stack := by rw [hs]; exact nfr
    have nL : a ≠ X.env.locals := fun z => nfr (List.mem_filterMap.mpr ⟨X.env, List.mem_cons_self, by rw [hf, z]⟩)
    have nB : B.get? a = none := fl3.2.1
    have fresh : X.s_0.heap.get? a = none := by
      cases q : X.s_0.heap.get? a with
      | none => rfl
      | some o =>
        obtain ⟨o2, q2⟩ := J.base.there a o q (by rw [hex]; simp)
        rw [nb a o2 q2 nfrs] at nB; cases nB
    have npin : ∀ p ∈ X.pn ++ pins, p.1 ≠ a := fun p hp z => by
      obtain ⟨g1, _, g3, g4, _⟩ := J.pin p hp
      have nf : p.1 ∉ frs X.stack := fun hm => by
        rcases List.mem_cons.mp (J.stkSub p.1 hm) with y | y
        · exact g3 y
        · exact g4 y
      have y := nb p.1 p.2 g1 nf
      rw [z, nB] at y; cases y
    -- the class test in the state at h3
    have T3 : ∀ {cl : Value} {b : Bool}, PySem.W.exmOne X.K cls cl = some b → PySem.W.Looks (model X.prog X.w) h3 (excMatches (.ref a) cl) b := fun {cl b} e =>
      PySem.W.exm_one (M := model X.prog X.w) J3.kIn (fun A Q E s k q => wpAny_typeOf_ref (k _ _ he3) (by rw [hz3.1]; exact q)) e
    have nm : ∀ {x : Str} {cl : Value} {np : Pos} {Q : Value → Shared → Prop} {E : Value → Shared → Prop}, Names X x cl → Q cl { st with heap := h3 } → wpAny (model X.prog X.w) (X.A.mark (some (.ref a))) (eval (.Name x np) X.env) Q E { st with heap := h3 } := fun {x cl np Q E} hc q => by
      obtain ⟨hg, hdbg, hm | ⟨hm, hv, hnn⟩⟩ := hc
      · exact ld_glob (X := X.suite a (X.pn ++ pins)) (toSuite J3 a) hg hm q hdbg
      · exact ld_blt (X := X.suite a (X.pn ++ pins)) (toSuite J3 a) hg hm hv q hnn hdbg
    have go : ∀ {hd' : List ExceptHandler} {l' : List (Value × Option Nat × TS)}, HdsT X hd' l' → wHds X.K Wout D l' cls d σ' H' → wpAny (model X.prog X.w) X.A (handleBy (.ref a) X.env hd') (SP X pins D) X.xe { st with heap := h3 } := by
      intro hd' l' hk
      induction hk with
      | nil =>
        intro w
        refine wpAny_handleBy_nil ?_
        obtain ⟨k1, k2, k3, oe, vs, TT, oT, ts', he, hz, hd, h1, hr⟩ := id fl3
        unfold PySem.passOn
        refine wpAny_bind (wpAny_field he hd h1 ?_)
        rw [if_neg (show ¬ ((Value.ref TT == Value.none) = true) from by simp)]
        have fin : wpAny (model X.prog X.w) X.A (setFlight (.ref a) X.env.frame) (fun _ s4 => wpAny (model X.prog X.w) X.A (throw (.ref a) : Sem Flow) (SP X pins D) X.xe s4) X.xe { st with heap := h3 } := by
          rw [hf]
          exact HandSPX.setFlight_upZ fl3 fun h4 hh4 up4 => wpAny_throw (tk _ _ ⟨a, B, sI, pins, σ', H', cls, d, rfl, J, nb, (up.trans up3).trans up4, .inr (.inr (by rw [hs]; exact hh4)), na, os, ag, w⟩)
        first
          | exact wpAny_bind (wpAny_pure (wpAny_bind fin))
          | exact wpAny_bind fin
      | @plain x c ts b₀ su np pp hds2 l2 hc hsu r ih =>
        intro w
        obtain ⟨b, hb1, hyes, hno⟩ := w
        refine wpAny_handleBy_cons (codeAny_handlers_test (nm hc ((T3 hb1).here ?_))) (by intro q; cases q)
        cases b with
        | true =>
          refine codeAny_handlers_suite (HandSPX.lands_againZ fl3 fun h4 fl4 up4 => ?_)
          have J4 : Inv X pins σ' H' { st with heap := h4 } := J.landed nb fl4.1 ((up.trans up3).trans up4) os ag
          obtain ⟨oe4, vs4, he4, hz4, hd4⟩ := fl4.there
          have K4 := adopt J4 he4 hz4 hd4 na nL fresh npin
          refine wpAny_mono ((hsu a (X.pn ++ pins)).run [] _ _ _ D (toSuite K4 a) (hyes rfl a na)) (fun f s6 hsp => ?_) (fun _ _ z => False.elim z)
          cases f with
          | next => obtain ⟨σ6, H6, S6, q6⟩ := hsp; exact ⟨_, _, ofSuite S6 ok, q6⟩
          | brk => obtain ⟨σ6, H6, S6, q6⟩ := hsp; exact ⟨_, _, ofSuite S6 ok, q6⟩
          | cont => obtain ⟨σ6, H6, S6, q6⟩ := hsp; exact ⟨_, _, ofSuite S6 ok, q6⟩
          | ret u => obtain ⟨v6, σ6, H6, S6, r6, q6⟩ := hsp; exact ⟨_, _, _, ofSuite S6 ok, r6, q6⟩
        | false =>
          show wpAny _ X.A (handleBy (.ref a) X.env hds2) _ _ _
          exact ih (hno rfl)
      | @named x n i c ts b₀ su np pp hds2 l2 hi hln hc hsu r ih =>
        intro w
        obtain ⟨b, hb1, hyes, hno⟩ := w
        refine wpAny_handleBy_cons (codeAny_handlers_test (nm hc ((T3 hb1).here ?_))) (by intro q; cases q)
        cases b with
        | true =>
          refine codeAny_handlers_suite_as (HandSPX.lands_againZ fl3 fun h4 fl4 up4 => ?_)
          have J4 : Inv X pins σ' H' { st with heap := h4 } := J.landed nb fl4.1 ((up.trans up3).trans up4) os ag
          obtain ⟨oe4, vs4, he4, hz4, hd4⟩ := fl4.there
          have K4 := adopt J4 he4 hz4 hd4 na nL fresh npin
          refine store_ok (X := X.suite a (X.pn ++ pins)) (v := .ref a) (toSuite K4 a) hN hi (.inl hln) rfl (fun s5 S5 => ?_) (.inr hln)
          refine wpAny_mono ((hsu a (X.pn ++ pins)).run [] s5 _ _ _ S5 (hyes rfl a na)) (fun f s6 hsp => ?_) (fun _ _ z => False.elim z)
          have fin : ∀ {σ6 : L2.St} {H6 : Hp} {Q : Shared → Prop}, Inv (X.suite a (X.pn ++ pins)) [] σ6 H6 s6 → (∀ s7, Inv X pins (σ6.set i none) H6 s7 → Q s7) →
              wpAny (model X.prog X.w) X.A (do bindName X.env n .none; unbindBehindTheSuite X.env n pp) (fun _ s7 => Q s7) X.xe s6 := fun {σ6 H6 Q} S6 hq => gone_ok (ofSuite S6 ok) hN hi hln hq
          cases f with
          | next => obtain ⟨σ6, H6, S6, q6⟩ := hsp; exact fin S6 fun s7 J7 => ⟨_, _, J7, q6⟩
          | brk => obtain ⟨σ6, H6, S6, q6⟩ := hsp; exact fin S6 fun s7 J7 => ⟨_, _, J7, q6⟩
          | cont => obtain ⟨σ6, H6, S6, q6⟩ := hsp; exact fin S6 fun s7 J7 => ⟨_, _, J7, q6⟩
          | ret u => obtain ⟨v6, σ6, H6, S6, r6, q6⟩ := hsp; exact fin S6 fun s7 J7 => ⟨_, _, _, J7, r6, q6⟩
        | false =>
          show wpAny _ X.A (handleBy (.ref a) X.env hds2) _ _ _
          exact ih (hno rfl)
    exact go hh w
  · cases f with
    | next => obtain ⟨σ', H', J', q⟩ := hsp; exact wpAny_execs_nil ⟨σ', H', J'.ofTry ok, q⟩
    | brk => obtain ⟨σ', H', J', q⟩ := hsp; exact ⟨σ', H', J'.ofTry ok, q⟩
    | cont => obtain ⟨σ', H', J', q⟩ := hsp; exact ⟨σ', H', J'.ofTry ok, q⟩
    | ret u => obtain ⟨v, σ', H', J', r, q⟩ := hsp; exact ⟨v, σ', H', J'.ofTry ok, r, q⟩
end
end Py
end

section
set_option maxHeartbeats 4000000
/-! isinstance of an exception of an own class that has its dict -/
namespace PySem.W
open PySem PySem.Spec PySem.Calls PyProof.Rows
section
variable {prog : Program} {w : World} {A : Around} {E : Value → Shared → Prop} {s : Shared} {K : Frag} {x Dc : Addr} {ox : Obj} {od : Option Obj}
theorem px_find {C : Addr} {nm : Str} {av gv : Value} (c1 : (clsIn K C).isSome = true) (c2 : findIn K (.ref C) nm = some (some av)) (c3 : specialIn K av "__get__" = some (some gv)) (c4 : takesIn K av = some true) : findObj K C od nm = some (.bind gv av) := by
  obtain ⟨cd, e⟩ := Option.isSome_iff_exists.mp c1
  unfold findObj
  rw [e, Option.bind_some, c2, Option.bind_some]
  simp [c3, c4]
structure PxC (K : Frag) (Dc : Addr) : Prop where
  ga : findIn K (.ref Dc) "__getattribute__" = some (some (.builtin "BaseException.__getattribute__"))
  gt : findIn K (.ref Dc) "__getattr__" = some none
  sb : subIn K (.ref Dc) (.type "BaseException") = some true
  dc : hasDictIn K Dc = true
  cl : findIn K (.ref Dc) "__class__" = some (some (.builtin "object.__class__"))
  sp : specialIn K (.builtin "object.__class__") "__get__" = some (some (.builtin "getset_descriptor.__get__"))
  tk : takesIn K (.builtin "object.__class__") = some true
  mr : mroIn K Dc (.type "object") = some true
theorem px_class {Q : Option Value → Shared → Prop} (P : PxC K Dc) (X : K.In s.heap) (I : InstAt s.heap x ox Dc od) (hq : Q (some (.ref Dc)) { s with toks := s.toks + 1 }) : wpAny (model prog w) A (getAttr? (.ref x) "__class__") Q E s := by
  have ff : findObj K Dc od "__class__" = some (.bind (.builtin "getset_descriptor.__get__") (.builtin "object.__class__")) := px_find (by obtain ⟨cd, hc, _⟩ := any_some P.dc; rw [hc]; rfl) P.cl P.sp P.tk
  obtain ⟨hp, gg, dd, tt, oss⟩ := s
  have M0 := I.type (M := model prog w)
  have M1 := looks_findIn (M := model prog w) X P.ga
  have M2 := looks_findIn (M := model prog w) X P.gt
  have M3 := looks_find (M := model prog w) X I ff
  have isx : Looks (model prog w) hp (isInstance (.ref x) (.type "BaseException")) true := M0.andThen (looks_subIn X P.sb)
  have z0 : (false && onTheHeap (Value.builtin "BaseException.__getattribute__")) = false := rfl
  have z2 : (Value.builtin "BaseException.__getattribute__" == Value.builtin "object.__getattribute__") = false := by decide +kernel
  have z1 : (onTheHeap (Value.ref Dc) && Value.builtin "BaseException.__getattribute__" == Value.builtin "object.__getattribute__") = false := by rw [z2]; rfl
  unfold getAttr? getAttrBy? getAttrBy
  refine wpAny_bind (wpAny_mkText (wpAny_bind (wpAny_attempt (wpAny_holding (wpAny_bind (M0.at (wpAny_bind (M1.at ?_))))))))
  show wpAny _ _ (if (onTheHeap (Value.ref Dc) && Value.builtin "BaseException.__getattribute__" == Value.builtin "object.__getattribute__") = true then _ else _) _ _ _
  rw [z1, if_neg Bool.false_ne_true]; unfold getAttrByItsOwn hookBefore
  refine wpAny_bind ?_
  rw [if_pos (show onTheHeap (Value.ref Dc) = true from rfl)]
  refine M2.at (wpAny_bind (wpAny_attempt (wpAny_holding ?_)))
  unfold callGetattribute; rw [z0, if_neg Bool.false_ne_true]
  unfold boundAndCalled; rw [PySem.F.excAttr_ValueError.ga.bind (.ref x)]
  refine wpAny_bind (wpAny_pure ?_)
  show wpAny _ _ (call (.builtin "BaseException.__getattribute__") [.ref x, .str "__class__" tt]) _ _ _
  refine wpAny_call (codeAny_call_builtin PySem.F.excAttr_ValueError.ga.plain PySem.F.entry_bexc_ga (@check_slot (model prog w) _ _ ⟨hp, gg, dd, tt + 1, oss⟩ "BaseException.__getattribute__" "BaseException" "__getattribute__" (.ref x) [.str "__class__" tt] [] _ (by decide +kernel) (by decide +kernel) isx (PySem.F.args_bexc_ga (.ref x) (.str "__class__" tt)) ?_))
  unfold Builtin.«object.__getattribute__»
  refine wpAny_bind (wpAny_of_eq (a := ((Value.ref x : Value), [Value.str "__class__" tt])) (by first | rfl | (simp only [slotArgs]; rfl)) (wpAny_bind (wpAny_pure (wpAny_bind (M0.at (wpAny_bind (M3.at ?_)))))))
  show wpAny _ _ (holding [Value.builtin "object.__class__"] (call (.builtin "getset_descriptor.__get__") [.builtin "object.__class__", .ref x, .ref Dc]) >>= ret) _ _ _
  refine wpAny_bind (wpAny_holding (wpAny_call (class_get (s := ⟨hp, gg, dd, tt + 1, oss⟩) (ox := ox) (od := od) X I P.mr (wpAny_pure ?_))))
  show wpAny _ _ (handedOut (.ref Dc)) _ _ _
  rw [handedOut_of (v := .ref Dc) rfl]
  first
    | exact wpAny_pure (wpAny_pure hq)
    | exact wpAny_pure hq
    | exact wpAny_pure (wpAny_bind (wpAny_pure (wpAny_pure hq)))
theorem px_kit (P : PxC K Dc) : KitX K (.ref x) (.ref Dc) (fun h => ∃ ox od, InstAt h x ox Dc od) where
  ty := fun _ _ _ ⟨_, _, I⟩ => I.type
  it := fun _ _ X _ => by
    obtain ⟨cdD, hcD, _⟩ := any_some P.dc
    unfold clsIn at hcD
    split at hcD
    · rename_i c' d' cd' sl' ho
      intro A' Q' E' s' k q
      unfold isType loadHead
      exact wpAny_bind (wpAny_loadPart (k _ _ (X _ _ ho)) (wpAny_pure q))
    · cases hcD
  ne := fun h tp dd its n sl X htp => by
    obtain ⟨cdD, hcD, _⟩ := any_some P.dc
    refine Bool.eq_false_iff.mpr fun q => ?_
    have e : Dc = tp := Value.ref.inj (beq_iff_eq.mp q)
    subst e
    unfold clsIn at hcD
    split at hcD
    · rename_i c' d' cd' sl' ho
      have z := (X _ _ ho).symm.trans htp
      cases z
    · cases hcD
  ca := fun X ⟨_, _, I⟩ k => px_class P X I k
end
end PySem.W
namespace Py
open PySem PySem.Spec PyProof.Rows L2
section
variable {X : Cx} {pins : List (Addr × Obj)} {σ : L2.St} {H : Hp} {s : Shared}
theorem exk_inst {a C dd : Addr} {fs : List (Str × V)} (I : Inv X pins σ H s) (h : H a = some (ExK a (.ref C) (some dd))) (hd : H dd = some (.xd fs)) :
    ∃ (oe od : Obj) (mA : Str → Option Value), PySem.W.InstAt s.heap a oe C (some od) ∧ (∀ name, PySem.W.lookIn name od = some (mA name)) ∧ ∀ f, RelO (fs.lookup f) (mA f) := by
  have q : ObjOk X.prog X.w H s.heap a (.ext fun h => ∃ oe vs, h.get? a = some oe ∧ Zc (.ref C) (some dd) oe ∧ oe.data = .fields vs) := I.hok a _ h
  obtain ⟨⟨oe, vs, e1, e2, e3⟩, _⟩ := q
  have hx : ObjOk X.prog X.w H s.heap dd (.xd fs) := I.hok dd _ hd
  obtain ⟨mA, hns, hr⟩ := hx
  obtain ⟨od, ho, hl⟩ := lookIn_ns hns
  exact ⟨oe, od, mA, ⟨e1, e2.1, by unfold PySem.W.notCls; rw [e3] <;> rfl, by rw [e2.2]; exact ho⟩, hl, hr⟩
/-- e.f, e a caught exception -/
def tXat (K : PySem.W.Frag) (te : TE) (f : Str) : TE := fun σ H Q => te σ H fun x H1 => ∃ a C dd fs v, x = .ref a ∧ PySem.W.PxC K C ∧ PySem.W.findIn K (.ref C) f = some none ∧ H1 a = some (ExK a (.ref C) (some dd)) ∧ H1 dd = some (.xd fs) ∧ fs.lookup f = some v ∧ Q v H1
theorem pe_xat {e : Expr} {te : TE} {f : Str} {pos : Pos} (he : PE X e te) (hb : attributeBase e f X.env (eval e X.env) = eval e X.env := by rfl) : PE X (.Attribute e f pos) (tXat X.K te f) := by
  refine ⟨fun pins s σ H Q I h => attr_of hb (thn (he.run pins s σ H _ I h) fun u s1 hh => ?_)⟩
  obtain ⟨x, H1, I1, rx, a, C, dd, fs, v, ex, P, hno, ha, hd, l, q⟩ := hh
  subst ex
  obtain rfl : u = Value.ref a := rx
  obtain ⟨oe, od, mA, J, hl, hr⟩ := exk_inst I1 ha hd
  obtain ⟨u, hu, ru⟩ := RelO.some_of (v := v) (o := mA f) (by rw [← l]; exact hr f)
  exact HandSPX.exc_get I1.kIn J P.ga P.gt P.sb (PySem.W.findObj_own P.dc hno rfl (by rw [hl, hu])) (handed_of ru) ⟨v, H1, I1.tok _, ru, q⟩
/-- isinstance(e, c), isinstance(e, (c1, ..)) -/
def rIsX (K : PySem.W.Frag) : List V → Hp → VK → Prop := fun xs H Q => ∃ a C dd fs c u b, xs = [.ref a, c] ∧ PySem.W.PxC K C ∧ H a = some (ExK a (.ref C) (some dd)) ∧ H dd = some (.xd fs) ∧ ClsV c u ∧ PySem.W.kitOne K (.ref C) u = some b ∧ Q (.bl b) H
def rIsXT (K : PySem.W.Frag) : List V → Hp → VK → Prop := fun xs H Q => ∃ a C dd fs tp cs us b, xs = [.ref a, .ref tp] ∧ PySem.W.PxC K C ∧ H a = some (ExK a (.ref C) (some dd)) ∧ H dd = some (.xd fs) ∧ H tp = some (.tup cs) ∧ Paired ClsV cs us ∧ PySem.W.kitAny K (.ref C) us = some b ∧ Q (.bl b) H
theorem call_isX : CallR X (.builtin "isinstance") (rIsX X.K) := by
  intro pins s σ H xs us Q I r h
  obtain ⟨a, C, dd, fs, c, u, b, rfl, P, ha, hd, k, e, q⟩ := h
  obtain ⟨u1, u2, rfl, r1, r2⟩ := vals2 r
  have e2 := k.eq r2
  subst e2
  cases (show u1 = Value.ref a from r1)
  obtain ⟨oe, od, _, J, _⟩ := exk_inst I ha hd
  exact PySem.W.kia_one (PySem.W.px_kit P) I.kIn ⟨oe, _, J⟩ e (fun z => nomatch z) fun tk => ⟨.bl b, H, I.tok tk, rfl, q⟩
theorem call_isXT : CallR X (.builtin "isinstance") (rIsXT X.K) := by
  intro pins s σ H xs us Q I r h
  obtain ⟨a, C, dd, fs, tp, cs, ws, b, rfl, P, ha, hd, hT, k, e, q⟩ := h
  obtain ⟨u1, u2, rfl, r1, r2⟩ := vals2 r
  cases (show u2 = Value.ref tp from r2)
  cases (show u1 = Value.ref a from r1)
  obtain ⟨_, its, rv, o, h1, h2, n, h3⟩ := (show ObjOk X.prog X.w H s.heap tp (.tup cs) from I.hok tp _ hT)
  have e3 := ClsV.all k rv
  subst e3
  obtain ⟨oc, od', dt, sl⟩ := o
  simp only at h2 h3
  subst h2 h3
  obtain ⟨oe, od, _, J, _⟩ := exk_inst I ha hd
  exact PySem.W.kia_tup (PySem.W.px_kit P) I.kIn ⟨oe, _, J⟩ h1 e (fun z => nomatch z) fun tk => ⟨.bl b, H, I.tok tk, rfl, q⟩
end
end Py
end

section
set_option maxHeartbeats 4000000
namespace Py
open PySem PySem.Spec PyProof.Rows L2

/-! ## Own exception classes: a table of names and what stands above each -/
abbrev Tbl := List (Str × List Str)
structure ExcT (K : PySem.W.Frag) (mg : Str → Option Value) (T : Tbl) : Prop where
  all : ∀ n anc, T.lookup n = some anc → ∃ C, mg n = some (.ref C) ∧ PySem.W.PxC K C ∧
    (∀ m anc', T.lookup m = some anc' → ∀ D, mg m = some (.ref D) → PySem.W.kitOne K (.ref C) (.ref D) = some (anc.contains m) ∧ PySem.W.exmOne K (.ref C) (.ref D) = some (anc.contains m)) ∧
    (∀ t : Ty, PySem.W.kitOne K (.ref C) (.type t.nm) = some (t == .verr)) ∧ (∀ t : Ty, t ≠ .verr → PySem.W.kitOne K (.type t.nm) (.ref C) = some false)
def tyOf : D → Option Ty
  | .non => some .non
  | .bl _ => some .bool
  | .int _ => some .int
  | .str _ => some .str
  | .tup _ => some .tup
  | .lst _ => some .lst
  | .frl _ => some .lst
  | _ => none
def isOne (T : Tbl) : D → D → Option Bool
  | .exc n _ _, .cl m => (T.lookup n).bind fun anc => (T.lookup m).map fun _ => anc.contains m
  | .exc n _ _, .ty t => (T.lookup n).map fun _ => t == .verr
  | x, .ty t => (tyOf x).map fun s => s == t || (s == .bool && t == .int)
  | x, .cl m => (tyOf x).bind fun _ => (T.lookup m).map fun _ => false
  | _, _ => none
def isAny (T : Tbl) (x : D) : List D → Option Bool
  | [] => some false
  | c :: cs => match isOne T x c with
    | some true => some true
    | some false => isAny T x cs
    | none => none
theorem tyOf_ne {x : D} {s : Ty} (h : tyOf x = some s) : s ≠ .verr ∧ s ≠ .dct := by
  cases x <;> simp [tyOf] at h <;> subst h <;> exact ⟨by decide, by decide⟩
theorem kit_pair (s t : Ty) (h1 : s ≠ .verr) (h2 : s ≠ .dct) : kitB s.nm t.nm = some (s == t || (s == .bool && t == .int)) := by
  cases s <;> first | exact absurd rfl h1 | exact absurd rfl h2 | (cases t <;> decide +kernel)
section
variable {X : Cx} {F : Addr → Prop} {H : Hp}
theorem tyx_of {K : PySem.W.Frag} {mg} {x : D} {v : V} {s : Ty} (d : Den ⟨K, mg⟩ F H x v) (h : tyOf x = some s) : TyX K H v (.type s.nm) := by
  cases x with
  | non => simp only [Den] at d; subst d; cases h; exact .base .non
  | bl b => simp only [Den] at d; subst d; cases h; exact .base (.bl b)
  | int i => simp only [Den] at d; subst d; cases h; exact .base (.int i)
  | str z => simp only [Den] at d; subst d; cases h; exact .base (.str z)
  | tup ds =>
    simp only [Den] at d; obtain ⟨a, vs, rfl, t, _⟩ := d; cases h
    rcases t with ⟨_, t⟩ | t
    · exact .base (.tup t)
    · rcases t (fun _ => none) with (z | ⟨_, z⟩) | ⟨o, its, n, k, c, _⟩
      · cases z
      · cases z
      · exact .kTuple k c
  | lst ds => simp only [Den] at d; obtain ⟨a, vs, rfl, f, t, _⟩ := d; cases h; exact .base (.lst t)
  | frl ds =>
    simp only [Den] at d; obtain ⟨a, vs, rfl, t, _⟩ := d; cases h
    rcases t with ⟨_, t | ⟨o, t⟩⟩ | t
    · exact .base (.lst t)
    · exact .base (.frz t)
    · rcases t (fun _ => none) with (z | ⟨_, z⟩) | ⟨o, its, n, k, c, _⟩
      · cases z
      · cases z
      · exact .kList k c
  | ty _ => cases h
  | cl _ => cases h
  | exc _ _ _ => cases h
/-- what the class c is as a value -/
theorem cls_of {K : PySem.W.Frag} {mg} {c : D} {v : V} (d : Den ⟨K, mg⟩ F H c v) : (∃ t : Ty, c = .ty t ∧ ClsV v (.type t.nm)) ∨ (∃ m C, c = .cl m ∧ mg m = some (.ref C) ∧ ClsV v (.ref C)) ∨ ((∀ t, c ≠ .ty t) ∧ ∀ m, c ≠ .cl m) := by
  cases c with
  | ty t => simp only [Den] at d; subst d; exact .inl ⟨t, rfl, .ty _⟩
  | cl m => simp only [Den] at d; obtain ⟨C, rfl, h⟩ := d; exact .inr (.inl ⟨m, C, rfl, h, .own C⟩)
  | _ => exact .inr (.inr ⟨fun t z => (nomatch z), fun m z => (nomatch z)⟩)
theorem isOne_cls {T : Tbl} {x c : D} {b : Bool} (h : isOne T x c = some b) : (∃ t, c = .ty t) ∨ ∃ m, c = .cl m := by
  cases c with
  | ty t => exact .inl ⟨t, rfl⟩
  | cl m => exact .inr ⟨m, rfl⟩
  | _ => cases x <;> cases h
/-- the type that isinstance looks at, and what it answers -/
structure KT (K : PySem.W.Frag) (mg : Str → Option Value) (T : Tbl) (x : D) (t : Value) : Prop where
  one : ∀ c v u b, isOne T x c = some b → Den ⟨K, mg⟩ F H c v → ClsV v u → PySem.W.kitOne K t u = some b
theorem kt_plain {K mg} {T : Tbl} (hT : ExcT K mg T) {x : D} {s : Ty} (h : tyOf x = some s) : KT (F := F) (H := H) K mg T x (.type s.nm) := ⟨fun c v u b e d k => by
  obtain ⟨n1, n2⟩ := tyOf_ne h
  rcases cls_of d with ⟨t, rfl, k'⟩ | ⟨m, C, rfl, hm, k'⟩ | ⟨z1, z2⟩
  · have eu : u = .type t.nm := by cases k' with | ty n => cases k; rfl
    subst eu
    have e' : isOne T x (.ty t) = some (s == t || (s == .bool && t == .int)) := by
      cases x <;> simp_all [isOne, tyOf]
    rw [e'] at e; cases e
    exact kit_ty (kit_pair s t n1 n2)
  · have eu : u = .ref C := by cases k' with | own n => cases k; rfl
    subst eu
    have e' : isOne T x (.cl m) = (T.lookup m).map fun _ => false := by
      cases x <;> first | (cases h; rfl) | cases h
    rw [e'] at e
    have hl : ∃ anc, T.lookup m = some anc ∧ b = false := by
      cases hq : T.lookup m with
      | none => rw [hq] at e; cases e
      | some anc => rw [hq] at e; cases e; exact ⟨anc, rfl, rfl⟩
    obtain ⟨anc, h1, rfl⟩ := hl
    obtain ⟨C', g1, _, _, _, g5⟩ := hT.all m anc h1
    rw [hm] at g1; cases g1
    exact g5 s n1
  · rcases isOne_cls e with ⟨t, e⟩ | ⟨m, e⟩
    · exact absurd e (z1 t)
    · exact absurd e (z2 m)⟩
theorem kt_exc {K mg} {T : Tbl} (hT : ExcT K mg T) {n f : Str} {d0 : D} {anc : List Str} {C : Addr} (hn : T.lookup n = some anc) (hC : mg n = some (.ref C)) : KT (F := F) (H := H) K mg T (.exc n f d0) (.ref C) := ⟨fun c v u b e d k => by
  obtain ⟨C', g1, g2, g3, g4, g5⟩ := hT.all n anc hn
  rw [hC] at g1; cases g1
  rcases cls_of d with ⟨t, rfl, k'⟩ | ⟨m, D', rfl, hm, k'⟩ | ⟨z1, z2⟩
  · have eu : u = .type t.nm := by cases k' with | ty n => cases k; rfl
    subst eu
    simp only [isOne, hn, Option.map_some] at e
    cases e
    exact g4 t
  · have eu : u = .ref D' := by cases k' with | own n => cases k; rfl
    subst eu
    simp only [isOne, hn, Option.bind_some] at e
    cases hq : T.lookup m with
    | none => rw [hq] at e; cases e
    | some anc' => rw [hq] at e; cases e; exact (g3 m anc' hq D' hm).1
  · rcases isOne_cls e with ⟨t, e⟩ | ⟨m, e⟩
    · exact absurd e (z1 t)
    · exact absurd e (z2 m)⟩
/-- all of a tuple are classes -/
def allCls : List D → Bool
  | [] => true
  | .ty _ :: cs => allCls cs
  | .cl _ :: cs => allCls cs
  | _ => false
theorem cls_all {K mg} : ∀ {cs : List D} {vs : List V}, allCls cs = true → DenL ⟨K, mg⟩ F H cs vs → ∃ us, Paired ClsV vs us
  | [], vs, _, d => by simp only [DenL] at d; subst d; exact ⟨[], .nil⟩
  | c :: cs, vs, h, d => by
    simp only [DenL] at d
    obtain ⟨v, ws, rfl, d1, d2⟩ := d
    have h2 : allCls cs = true := by cases c <;> simp_all [allCls]
    obtain ⟨us, r⟩ := cls_all h2 d2
    rcases cls_of d1 with ⟨t, rfl, k'⟩ | ⟨m, C, rfl, hm, k'⟩ | ⟨z1, z2⟩
    · exact ⟨_ :: us, .cons k' r⟩
    · exact ⟨_ :: us, .cons k' r⟩
    · cases c <;> simp_all [allCls]
theorem any_all {K mg} {T : Tbl} {x : D} {t : Value} (k : KT (F := F) (H := H) K mg T x t) : ∀ {cs : List D} {vs : List V} {us : List Value} {b : Bool}, isAny T x cs = some b → DenL ⟨K, mg⟩ F H cs vs → Paired ClsV vs us → PySem.W.kitAny K t us = some b
  | [], vs, us, b, e, d, r => by
    simp only [DenL] at d; subst d; cases r; cases e; rfl
  | c :: cs, vs, us, b, e, d, r => by
    simp only [DenL] at d
    obtain ⟨v, ws, rfl, d1, d2⟩ := d
    cases r with
    | @cons _ u _ us' r1 r2 =>
      unfold isAny at e
      cases e1 : isOne T x c with
      | none => rw [e1] at e; cases e
      | some b1 =>
        rw [e1] at e
        have q := k.one c v u b1 e1 d1 r1
        cases b1 with
        | true => cases e; exact kitAny_cons q (fun z => by cases z) (fun _ => rfl)
        | false => exact kitAny_cons q (fun _ => any_all k e d2 r2) (fun z => by cases z)
def fIs (T : Tbl) : List D → Option D
  | [x, .tup (c :: cs)] => if allCls (c :: cs) = true then (isAny T x (c :: cs)).map D.bl else none
  | [x, c] => (isOne T x c).map D.bl
  | _ => none
theorem call_isXK {K0 : PySem.W.Frag} (e0 : X.K = K0) : CallR X (.builtin "isinstance") (fun xs H Q => ∃ a C dd fs tp dct us n sl b, xs = [.ref a, .ref tp] ∧ PySem.W.PxC X.K C ∧ H a = some (ExK a (.ref C) (some dd)) ∧ H dd = some (.xd fs) ∧ X.K.lookup tp = some ⟨.type "tuple", dct, .seq (List.toArray us) n, sl⟩ ∧ PySem.W.kitAny X.K (.ref C) us = some b ∧ Q (.bl b) H) := by
  intro pins s σ H xs us Q I r h
  obtain ⟨a, C, dd, fs, tp, dct, ws, n, sl, b, rfl, P, ha, hd, hT, e, q⟩ := h
  obtain ⟨u1, u2, rfl, r1, r2⟩ := vals2 r
  cases (show u2 = Value.ref tp from r2)
  cases (show u1 = Value.ref a from r1)
  obtain ⟨oe, od, _, J, _⟩ := exk_inst I ha hd
  exact PySem.W.kia_tup (PySem.W.px_kit P) I.kIn ⟨oe, _, J⟩ (I.kIn _ _ hT) e (fun z => nomatch z) fun tk => ⟨.bl b, H, I.tok tk, rfl, q⟩
/-- the tuple of classes: tracked, or of the text -/
theorem tup_two {K : PySem.W.Frag} {a : Addr} {vs : List V} (h : TupAt K F H a vs) : H a = some (.tup vs) ∨ ∃ dct us n sl, K.lookup a = some ⟨.type "tuple", dct, .seq (List.toArray us) n, sl⟩ ∧ Vals vs us := by
  rcases h with ⟨_, h⟩ | h
  · exact .inl h
  · rcases h (fun _ => none) with (z | ⟨_, z⟩) | ⟨o, its, n, k, c, d, _, r⟩
    · cases z
    · cases z
    · obtain ⟨oc, od, dt, sl⟩ := o
      simp only at c d
      subst c d
      exact .inr ⟨od, its.toList, n, sl, by simpa using k, r⟩
theorem clsv_vals : ∀ {vs : List V} {us ws : List Value}, Paired ClsV vs us → Vals vs ws → ws = us := fun k r => ClsV.all k r
theorem c_isi {T : Tbl} (hT : ExcT X.K X.mg T) : COp X (.builtin "isinstance") (fIs T) :=
  ⟨_, (call_isi.or (call_isiT.or call_isiK)).or (call_isX.or (call_isXT.or (call_isXK rfl))), fun F H xs z vs Q k d e g => by
    have main : ∀ x v, Den (gc X) F H x v → ∀ (R : (∃ s, tyOf x = some s) ∨ ∃ n f d0 anc, x = .exc n f d0 ∧ T.lookup n = some anc),
        (∃ t, KT (F := F) (H := H) X.K X.mg T x t ∧ ((∃ s, t = .type s ∧ TyX X.K H v t) ∨ ∃ a C dd fs, v = .ref a ∧ t = .ref C ∧ PySem.W.PxC X.K C ∧ H a = some (ExK a (.ref C) (some dd)) ∧ H dd = some (.xd fs))) := fun x v d1 R => by
      rcases R with ⟨s, hs⟩ | ⟨n, f, d0, anc, rfl, hn⟩
      · exact ⟨_, kt_plain hT hs, .inl ⟨_, rfl, tyx_of d1 hs⟩⟩
      · simp only [Den] at d1
        obtain ⟨a, C, dd, w, rfl, hm, _, ha, _, hd, _⟩ := d1
        obtain ⟨C', g1, g2, _⟩ := hT.all n anc hn
        have hm' : X.mg n = some (.ref C) := hm
        rw [hm'] at g1; cases g1
        exact ⟨_, kt_exc hT hn hm', .inr ⟨a, C, dd, _, rfl, rfl, g2, ha, hd⟩⟩
    have kinds : ∀ x c b, isOne T x c = some b → (∃ s, tyOf x = some s) ∨ ∃ n f d0 anc, x = .exc n f d0 ∧ T.lookup n = some anc := fun x c b e => by
      cases x with
      | exc n f d0 =>
        cases hq : T.lookup n with
        | none =>
          rcases isOne_cls e with ⟨t, rfl⟩ | ⟨m, rfl⟩
          · simp only [isOne, hq] at e; cases e
          · simp only [isOne, hq] at e; cases e
        | some anc => exact .inr ⟨n, f, d0, anc, rfl, hq⟩
      | ty t => cases c <;> simp_all [isOne, tyOf]
      | cl t => cases c <;> simp_all [isOne, tyOf]
      | _ => exact .inl ⟨_, rfl⟩
    have ans : ∀ b, Den (gc X) F H (.bl b) (.bl b) := fun b => by simp only [Den]
    unfold fIs at e
    split at e
    · rename_i x c cs'
      simp only [DenL] at d
      obtain ⟨v, _, rfl, d1, _, _, rfl, dt, rfl⟩ := d
      simp only [Den] at dt
      obtain ⟨tp, ws, rfl, t, dl⟩ := dt
      split at e
      · rename_i hc
        cases ea : isAny T x (c :: cs') with
        | none => rw [ea] at e; cases e
        | some b =>
          rw [ea] at e; cases e
          obtain ⟨us, pu⟩ := cls_all hc dl
          have e0 : ∃ b0, isOne T x c = some b0 := by
            unfold isAny at ea
            cases hq : isOne T x c with
            | none => rw [hq] at ea; cases ea
            | some b0 => exact ⟨b0, rfl⟩
          obtain ⟨b0, e0⟩ := e0
          obtain ⟨tt, kt, ⟨s, rfl, ty⟩ | ⟨a, C, dd, fs, rfl, rfl, P, ha, hd⟩⟩ := main x v d1 (kinds x c b0 e0)
          · have ka := any_all kt ea dl pu
            rcases tup_two t with z | ⟨dct, us', n, sl, z, rv⟩
            · exact .inl (.inr (.inl ⟨v, tp, ws, _, us, b, rfl, z, pu, ty, ka, g.same k (ans _)⟩))
            · have := clsv_vals pu rv; subst this
              exact .inl (.inr (.inr ⟨v, tp, dct, us', n, sl, _, b, rfl, z, ty, ka, g.same k (ans _)⟩))
          · have ka := any_all kt ea dl pu
            rcases tup_two t with z | ⟨dct, us', n, sl, z, rv⟩
            · exact .inr (.inr (.inl ⟨a, C, dd, fs, tp, ws, us, b, rfl, P, ha, hd, z, pu, ka, g.same k (ans _)⟩))
            · have := clsv_vals pu rv; subst this
              exact .inr (.inr (.inr ⟨a, C, dd, fs, tp, dct, us', n, sl, b, rfl, P, ha, hd, z, ka, g.same k (ans _)⟩))
      · cases e
    · rename_i x c hne
      simp only [DenL] at d
      obtain ⟨v, _, rfl, d1, u, _, rfl, d2, rfl⟩ := d
      cases e1 : isOne T x c with
      | none => rw [e1] at e; cases e
      | some b =>
        rw [e1] at e; cases e
        obtain ⟨tt, kt, ⟨s, rfl, ty⟩ | ⟨a, C, dd, fs, rfl, rfl, P, ha, hd⟩⟩ := main x v d1 (kinds x c b e1)
        · rcases cls_of d2 with ⟨t, rfl, k'⟩ | ⟨m, C, rfl, hm, k'⟩ | ⟨z1, z2⟩
          · exact .inl (.inl ⟨v, u, _, _, b, rfl, k', ty, kt.one _ u _ b e1 d2 k', g.same k (ans _)⟩)
          · exact .inl (.inl ⟨v, u, _, _, b, rfl, k', ty, kt.one _ u _ b e1 d2 k', g.same k (ans _)⟩)
          · rcases isOne_cls e1 with ⟨t, e⟩ | ⟨m, e⟩
            · exact absurd e (z1 t)
            · exact absurd e (z2 m)
        · rcases cls_of d2 with ⟨t, rfl, k'⟩ | ⟨m, C', rfl, hm, k'⟩ | ⟨z1, z2⟩
          · exact .inr (.inl ⟨a, C, dd, fs, u, _, b, rfl, P, ha, hd, k', kt.one _ u _ b e1 d2 k', g.same k (ans _)⟩)
          · exact .inr (.inl ⟨a, C, dd, fs, u, _, b, rfl, P, ha, hd, k', kt.one _ u _ b e1 d2 k', g.same k (ans _)⟩)
          · rcases isOne_cls e1 with ⟨t, e⟩ | ⟨m, e⟩
            · exact absurd e (z1 t)
            · exact absurd e (z2 m)
    · cases e⟩
end

section
variable {X : Cx} {W : WX} {pos : Pos}
/-- e.f of a caught exception -/
def dAt (T : Tbl) (f : Str) (d : Env → Res D) : Env → Res D := fun r => (d r).bind fun x r => match x with
  | .exc n g y => if g = f ∧ (T.lookup n).isSome = true then .ok y r else .bad
  | _ => .bad
theorem x_at {T : Tbl} (hT : ExcT X.K X.mg T) {e : Expr} {f : Str} {d : Env → Res D} (hno : ∀ n anc C, T.lookup n = some anc → X.mg n = some (.ref C) → PySem.W.findIn X.K (.ref C) f = some none)
    (h : PX X W e d) (hb : attributeBase e f X.env (eval e X.env) = eval e X.env := by rfl) : PX X W (.Attribute e f pos) (dAt T f d) :=
  pe_weak (pe_xat h hb) fun σ H Q ⟨fr, F, r, ok, p⟩ => ⟨fr, F, r, ok, Post.seq p fun x r1 v H1 F1 ok1 l1 q1 p1 => by
    cases x with
    | exc n g y =>
      simp only at p1
      split at p1
      · rename_i hg
        obtain ⟨rfl, hl⟩ := hg
        simp only [Den] at q1
        obtain ⟨a, C, dd, w, rfl, hm, fa, ha, fd, hd, dy⟩ := q1
        obtain ⟨anc, hn⟩ := Option.isSome_iff_exists.mp hl
        obtain ⟨C', g1, g2, _⟩ := hT.all n anc hn
        have hm' : X.mg n = some (.ref C) := hm
        rw [hm'] at g1; cases g1
        exact ⟨a, C, dd, _, w, rfl, g2, hno n anc C hn hm', ha, hd, by simp [List.lookup], p1 w H1 F1 ok1 Le.refl dy⟩
      · exact (show False from p1).elim
    | _ => exact (show False from p1).elim⟩
/-- an exception class's own __init__(self, at): self.at = at -/
def spI (C : Addr) (f : Str) : Sp := fun vs H Q _ => ∃ a v, vs = [.ref a, v] ∧ H a = some (exo a C none) ∧ ∀ dx, H dx = none → dx ≠ a → Q .non (upd (upd H dx (exd dx [(f, v)])) a (exo a C (some dx)))
theorem init_rd {K : PySem.W.Frag} {C : Addr} {f : Str} (T : OexC K C) (hno : PySem.W.findIn K (.ref C) f = some none) {vs : List V} {H : Hp} {Q : VK} {E : XK} {N : List Str} (h : spI C f vs H Q E) (hN : N.length = 2) :
    tOst K f (tVar 0) (tVar 1) { nx := fun _ H' => Q .non H', rt := Q } (L2.start N vs) H := by
  obtain ⟨a, v, rfl, ha, q⟩ := h
  have e : L2.start N [.ref a, v] = [some (V.ref a), some v] := by unfold L2.start; rw [hN]; rfl
  rw [e]
  exact ⟨v, rfl, .ref a, rfl, a, C, rfl, T, hno, .inl ⟨ha, q⟩⟩
/-- raise C(e) -/
def dRaise (n f : Str) (d : Env → Res D) : Env → SRes := fun r => (d r).toS fun x r => .err (.exc n f x) r
theorem s_raise {n f : Str} {C fI : Addr} {k : Nat} {fd : FuncData} {ps : List Str} {p pos2 : Pos} {e : Expr} {d : Env → Res D} (hc : X.calm = true) (tk : Takes X W) (T : OexC X.K C) (iC : PySem.W.findIn X.K (.ref C) "__init__" = some (some (.ref fI))) (tI : PySem.W.typeIn X.K (.ref fI) = some (.type "function"))
    (F1 : FnOk X.prog X.w X.K X.mg X.base (L2.CX X.prog X.w) k fI fd ps (spI C f)) (hr : Room (k + 1) X.A) (hb : Binds X.K fd ps []) (hg : Gl X n) (hm : X.mg n = some (.ref C)) (h : PX X W e d)
    (hdb : (n == ("__debug__" : Str)) = false := by decide) (he0 : starEach (e :: []) X.env = (false, eval e X.env) :: starEach [] X.env := by rfl) (hpl : (backTo pos (starEach [] X.env)).any (·.1) = false := by rfl) :
    PT1 X W (.Raise (some (.Call (.Name n p) [e] [] pos)) none pos2) (dRaise n f d) :=
  ps_weak (ps_raise hc tk (pmk_oex (dvs := []) (ds := []) T iC tI F1 hr hb .nil (fun _ _ _ _ _ _ _ c => by obtain ⟨_, _, _, _, _, _, _, _, _, _, _, _, z⟩ := c; exact z.elim) hg hm (pa_cons h pa_nil he0) hdb he0 hpl)) fun E σ H ⟨fr, F, r, ok, p⟩ =>
    ⟨fr, F, r, ok, Post.toS p fun x r1 v H1 F1 ok1 l1 q1 p1 => by
      refine ⟨by simp, fun a ha => ⟨a, v, rfl, upd_same, fun dx hdx hne => ⟨rfl, dx, [(f, v)], upd_same, ?_, ?_, ?_⟩⟩⟩
      · rw [upd_ne hne, upd_same]
      · rw [upd_ne hne] at hdx; exact hdx
      · have h1 : H1 dx = none := by rw [upd_ne hne] at hdx; exact hdx
        have eH : upd (L2.del (upd (upd (upd H1 a (exo a C none)) dx (exd dx [(f, v)])) a (exo a C (some dx))) a) dx (.xd [(f, v)]) = upd H1 dx (.xd [(f, v)]) := by
          funext b
          by_cases hb : b = dx
          · subst hb; rw [upd_same, upd_same]
          · rw [upd_ne hb, upd_ne hb]
            by_cases hba : b = a
            · subst hba; rw [L2.del_same, ha]
            · rw [L2.del_ne hba, upd_ne hba, upd_ne hb, upd_ne hba]
        rw [eH]
        have nx := Nx.frz (o := .xd [(f, v)]) ok1.fin h1
        exact p1 _ _ σ _ _ (ok1.next nx) (nx.toLe ok1.fin) ⟨n, f, x, C, dx, v, rfl, rfl, hm, rfl, .inr rfl, upd_same, q1.mono (nx.toLe ok1.fin)⟩⟩
/-! ## try -/
def exMatch (T : Tbl) (e : D) (m : Str) : Option Bool := match e with
  | .exc n _ _ => (T.lookup n).bind fun anc => (T.lookup m).map fun _ => anc.contains m
  | _ => none
/-- behind a suite: nothing may have been raised; the clause's name is gone -/
def sEnd (oi : Option Nat) (m : SRes) : SRes := match oi with
  | none => (match m with
    | .err _ _ => .bad
    | m => m)
  | some i => (match m with
    | .nx r => if notP r i = true then .nx (r.set i .un) else .bad
    | .bk r => if notP r i = true then .bk (r.set i .un) else .bad
    | .ct r => if notP r i = true then .ct (r.set i .un) else .bad
    | .rt x r => .rt x r
    | .rn x r => .rn x r
    | .err _ _ => .bad
    | .bad => .bad)
def dHds (T : Tbl) : List (Str × Option Nat × (Env → SRes)) → D → Env → SRes
  | [], e, r => .err e r
  | (m, oi, su) :: l, e, r => match exMatch T e m with
    | some true => (match oi with
      | none => sEnd none (su r)
      | some i => if notP r i = true then sEnd (some i) (su (r.set i (.v e))) else .bad)
    | some false => dHds T l e r
    | none => .bad
def dTry (T : Tbl) (b : Env → SRes) (l : List (Str × Option Nat × (Env → SRes))) : Env → SRes := fun r => match b r with
  | .err e r => dHds T l e r
  | m => m
abbrev W0 : WX := fun _ _ _ _ => False
inductive HdsD (X : Cx) : List ExceptHandler → List (Str × Option Nat × (Env → SRes)) → Prop
  | nil : HdsD X [] []
  | plain {x : Str} {D0 : Addr} {su : Env → SRes} {b₀ : Stmt} {sb : List Stmt} {np pp : Pos} {hds : List ExceptHandler} {l : List (Str × Option Nat × (Env → SRes))} (hg : Gl X x) (hdb : (x == ("__debug__" : Str)) = false) (hm : X.mg x = some (.ref D0)) (hsu : ∀ a pn, PTs (X.suite a pn) W0 (b₀ :: sb) su) (r : HdsD X hds l) :
      HdsD X (.ExceptHandler (some (.Name x np)) none (b₀ :: sb) pp :: hds) ((x, none, su) :: l)
  | named {x n : Str} {i : Nat} {D0 : Addr} {su : Env → SRes} {b₀ : Stmt} {sb : List Stmt} {np pp : Pos} {hds : List ExceptHandler} {l : List (Str × Option Nat × (Env → SRes))} (hi : X.N[i]? = some n) (hln : X.env.kindOf n = some .local) (hg : Gl X x) (hdb : (x == ("__debug__" : Str)) = false) (hm : X.mg x = some (.ref D0)) (hsu : ∀ a pn, PTs (X.suite a pn) W0 (b₀ :: sb) su) (r : HdsD X hds l) :
      HdsD X (.ExceptHandler (some (.Name x np)) (some n) (b₀ :: sb) pp :: hds) ((x, some i, su) :: l)
theorem hds_of {T : Tbl} (hT : ExcT X.K X.mg T) : ∀ {hds : List ExceptHandler} {l : List (Str × Option Nat × (Env → SRes))}, HdsD X hds l → ∃ l', HdsT X hds l' ∧ ∀ (E : Ends) (fr : Fr) (F : Addr → Prop) (H : Hp) (r : Env) (x : D) (c : Value) (dd : Option Addr) (σ : L2.St),
    Ok (gc X) fr F H σ r → DenX (gc X) F H x c dd → PostS (gc X) W fr F H (dHds T l x r) E → wHds X.K W E l' c dd σ H := by
  intro hds l hh
  -- the caught exception as a value
  have val : ∀ (fr : Fr) (F : Addr → Prop) (H : Hp) (r : Env) (x : D) (c : Value) (dd : Option Addr) (σ : L2.St), Ok (gc X) fr F H σ r → DenX (gc X) F H x c dd → ∀ a, H a = none → Nx F H (Fadd F a) (upd H a (ExK a c dd)) ∧ Den (gc X) (Fadd F a) (upd H a (ExK a c dd)) x (.ref a) := fun fr F H r x c dd σ ok d a ha => by
    have nx := Nx.frz (o := ExK a c dd) ok.fin ha
    obtain ⟨n, f, y, C, ad, w, rfl, rfl, hm, rfl, fa, hd, dy⟩ := d
    have l := nx.toLe ok.fin
    refine ⟨nx, ?_⟩
    simp only [Den]
    exact ⟨a, C, ad, w, rfl, hm, .inr rfl, upd_same, (l ad fa).1, (l ad fa).2.trans hd, dy.mono l⟩
  have cls : ∀ (F : Addr → Prop) (H : Hp) (x : D) (c : Value) (dd : Option Addr) (m : Str) (D0 : Addr) (b : Bool), DenX (gc X) F H x c dd → X.mg m = some (.ref D0) → exMatch T x m = some b → PySem.W.exmOne X.K c (.ref D0) = some b := fun F H x c dd m D0 b d hm e => by
    obtain ⟨n, f, y, C, ad, w, rfl, rfl, hn, _⟩ := d
    unfold exMatch at e
    cases h1 : T.lookup n with
    | none => simp only [h1] at e; cases e
    | some anc =>
      simp only [h1, Option.bind_some] at e
      cases h2 : T.lookup m with
      | none => rw [h2] at e; cases e
      | some anc' =>
        rw [h2] at e; cases e
        obtain ⟨C', g1, _, g3, _⟩ := hT.all n anc h1
        have hn' : X.mg n = some (.ref C) := hn
        rw [hn'] at g1; cases g1
        exact (g3 m anc' h2 D0 hm).2
  induction hh with
  | nil => exact ⟨[], .nil, fun E fr F H r x c dd σ ok d p => p c dd σ H F ok Le.refl d⟩
  | @plain x D0 su b₀ sb np pp hds l hg hdb hm hsu r ih =>
    obtain ⟨l', h1, h2⟩ := ih
    refine ⟨(.ref D0, none, tS (gc X) W0 su) :: l', .plain ⟨hg, hdb, .inl hm⟩ hsu h1, fun E fr F H r y c dd σ ok d p => ?_⟩
    unfold dHds at p
    cases e : exMatch T y x with
    | none => rw [e] at p; exact p.elim
    | some b =>
      rw [e] at p
      refine ⟨b, cls F H y c dd x D0 b d hm e, fun hb a ha => ?_, fun hb => ?_⟩
      · subst hb
        obtain ⟨nx, _⟩ := val fr F H r y c dd σ ok d a ha
        refine ⟨fr, _, r, ok.next nx, PostS.le (nx.toLe ok.fin) ?_⟩
        simp only [sEnd] at p
        cases es : su r with
        | err x r => rw [es] at p; exact p.elim
        | nx r => rw [es] at p; exact p
        | bk r => rw [es] at p; exact p
        | ct r => rw [es] at p; exact p
        | rt x r => rw [es] at p; exact p
        | rn x r => rw [es] at p; exact p
        | bad => rw [es] at p; exact p
      · subst hb; exact h2 E fr F H r y c dd σ ok d p
  | @named x n i D0 su b₀ sb np pp hds l hi hln hg hdb hm hsu r ih =>
    obtain ⟨l', h1, h2⟩ := ih
    refine ⟨(.ref D0, some i, tS (gc X) W0 su) :: l', .named hi hln ⟨hg, hdb, .inl hm⟩ hsu h1, fun E fr F H r y c dd σ ok d p => ?_⟩
    unfold dHds at p
    cases e : exMatch T y x with
    | none => rw [e] at p; exact p.elim
    | some b =>
      rw [e] at p
      refine ⟨b, cls F H y c dd x D0 b d hm e, fun hb a ha => ?_, fun hb => ?_⟩
      · subst hb
        simp only at p
        split at p
        · rename_i hn
          obtain ⟨nx, dv⟩ := val fr F H r y c dd σ ok d a ha
          refine ⟨fr, _, r.set i (.v y), (ok.next nx).storeV (notP_ok hn) dv, ?_⟩
          have p := PostS.le (nx.toLe ok.fin) p
          have un : ∀ {r3 : Env} {σ3 : L2.St} {F3 : Addr → Prop} {H3 : Hp}, notP r3 i = true → Ok (gc X) fr F3 H3 σ3 r3 → Ok (gc X) fr F3 H3 (σ3.set i none) (r3.set i .un) := fun {r3 σ3 F3 H3} hp ok3 => by
            have o := ok3.unset (notP_ok hp)
            refine ⟨o.fin, o.grow, o.prot, by rw [List.length_set]; exact o.len, fun j s q => ?_, fun j k s t ds es b hjk q1 q2 o1 o2 q3 q4 => ?_, fun j b hp' => ?_⟩
            · by_cases hj : i = j
              · subst hj
                by_cases hlt : i < r3.length
                · rw [List.getElem?_set_self hlt] at q; cases q; trivial
                · rw [List.getElem?_eq_none (by simpa using hlt)] at q; cases q
              · rw [List.getElem?_set_ne hj]; exact o.sl j s q
            · have ne : ∀ {m : Nat} {s : Slot} {ds : List D}, (r3.set i .un)[m]? = some s → s.opn = some ds → i ≠ m := fun {m s ds} q o z => by
                subst z
                by_cases hlt : i < r3.length
                · rw [List.getElem?_set_self hlt] at q; cases q; cases o
                · rw [List.getElem?_eq_none (by simpa using hlt)] at q; cases q
              rw [List.getElem?_set_ne (ne q1 o1)] at q3
              rw [List.getElem?_set_ne (ne q2 o2)] at q4
              exact o.dis j k s t ds es b hjk q1 q2 o1 o2 q3 q4
            · obtain ⟨z1, ds, z2⟩ := o.par j b hp'
              have hj : i ≠ j := fun z => by
                subst z
                by_cases hlt : i < r3.length
                · rw [List.getElem?_set_self hlt] at z2; cases z2
                · rw [List.getElem?_eq_none (by simpa using hlt)] at z2; cases z2
              rw [List.getElem?_set_ne hj]
              exact ⟨z1, ds, z2⟩
          cases es : su (r.set i (.v y)) with
          | nx r3 =>
            rw [es] at p; simp only [sEnd] at p
            split at p
            · rename_i hp3; exact fun σ3 H3 F3 ok3 l3 => p _ H3 F3 (un hp3 ok3) l3
            · exact p.elim
          | bk r3 =>
            rw [es] at p; simp only [sEnd] at p
            split at p
            · rename_i hp3; exact fun σ3 H3 F3 ok3 l3 => p _ H3 F3 (un hp3 ok3) l3
            · exact p.elim
          | ct r3 =>
            rw [es] at p; simp only [sEnd] at p
            split at p
            · rename_i hp3; exact fun σ3 H3 F3 ok3 l3 => p _ H3 F3 (un hp3 ok3) l3
            · exact p.elim
          | rt x r3 => rw [es] at p; exact p
          | rn x r3 => rw [es] at p; exact p
          | err x r3 => rw [es] at p; exact p.elim
          | bad => rw [es] at p; exact p.elim
        · exact p.elim
      · subst hb; exact h2 E fr F H r y c dd σ ok d p
theorem s_try {T : Tbl} (hT : ExcT X.K X.mg T) {body : List Stmt} {h₀ : ExceptHandler} {hds : List ExceptHandler} {b : Env → SRes} {l : List (Str × Option Nat × (Env → SRes))} (hs : X.stack = X.env :: X.outer) (hf : X.env.frame = some X.env.locals) (hN : X.N.Nodup) (hex : X.ex = []) (tk : Takes X W)
    (hb : ∀ (W' : WX) (pn : List (Addr × Obj)) (xe : Value → Shared → Prop), Takes (X.tr pn xe) W' → PassesOwn (model X.prog X.w) X.A X.env xe → PTs (X.tr pn xe) W' body b) (hh : HdsD X (h₀ :: hds) l) : PT1 X W (.Try body (h₀ :: hds) [] [] pos) (dTry T b l) := by
  obtain ⟨l', h1, h2⟩ := hds_of (W := W) hT hh
  refine ps_weak (ps_try (tb := fun W' => tS (gc X) W' b) hs hf hN hex tk hb h1) fun E σ H ⟨fr, F, r, ok, p⟩ => ⟨fr, F, r, ok, ?_⟩
  unfold dTry at p
  cases e : b r with
  | err x r1 =>
    rw [e] at p
    exact fun c dd σ' H' F' ok' l d => h2 E fr F' H' r1 x c dd σ' ok' d (PostS.le l p)
  | nx r1 => rw [e] at p; exact p
  | bk r1 => rw [e] at p; exact p
  | ct r1 => rw [e] at p; exact p
  | rt x r1 => rw [e] at p; exact p
  | rn x r1 => rw [e] at p; exact p
  | bad => rw [e] at p; exact p
end
end Py
end

section
set_option maxHeartbeats 400000
namespace Py
open PySem PySem.Spec PyProof.Rows L2

theorem bop_or {X : Cx} {o : Value → Value → Sem Value} {f g h : D → D → Option D} (a : BOp X o f) (b : BOp X o g) (e : ∀ x y z, h x y = some z → f x y = some z ∨ g x y = some z) : BOp X o h := by
  obtain ⟨r1, h1, h2⟩ := a.ex
  obtain ⟨r2, h3, h4⟩ := b.ex
  exact ⟨_, h1.or h3, fun F H x y z v u Q k dx dy q gv => (e x y z q).elim (fun q => .inl (h2 F H x y z v u Q k dx dy q gv)) fun q => .inr (h4 F H x y z v u Q k dx dy q gv)⟩
theorem cop_or {X : Cx} {o : Value} {f g h : List D → Option D} (a : COp X o f) (b : COp X o g) (e : ∀ x z, h x = some z → f x = some z ∨ g x = some z) : COp X o h := by
  obtain ⟨r1, h1, h2⟩ := a.ex
  obtain ⟨r2, h3, h4⟩ := b.ex
  exact ⟨_, h1.or h3, fun F H x z v Q k dx q gv => (e x z q).elim (fun q => .inl (h2 F H x z v Q k dx q gv)) fun q => .inr (h4 F H x z v Q k dx q gv)⟩
theorem iop_or {X : Cx} {f g h : D → D → Option D} (a : IOp X f) (b : IOp X g) (e : ∀ x y z, h x y = some z → f x y = some z ∨ g x y = some z) : IOp X h := by
  obtain ⟨r1, h1, h2⟩ := a.ex
  obtain ⟨r2, h3, h4⟩ := b.ex
  exact ⟨_, h1.or h3, fun F H x y z v u Q k dx dy q gv => (e x y z q).elim (fun q => .inl (h2 F H x y z v u Q k dx dy q gv)) fun q => .inr (h4 F H x y z v u Q k dx dy q gv)⟩
section
variable {X : Cx}
def f2 (c : Int → Int → Bool) (g : Int → Int → D) : D → D → Option D
  | .int i, .int j => if c i j = true then some (g i j) else none
  | _, _ => none
theorem f2_inv {c : Int → Int → Bool} {g : Int → Int → D} {x y z : D} (h : f2 c g x y = some z) : ∃ i j, x = .int i ∧ y = .int j ∧ c i j = true ∧ z = g i j := by
  unfold f2 at h
  split at h
  · rename_i i j
    split at h
    · rename_i hc; cases h; exact ⟨i, j, rfl, rfl, hc, rfl⟩
    · cases h
  · cases h
theorem bop_int {o : Value → Value → Sem Value} {C : Int → Int → Prop} {g' : Int → Int → V} {c : Int → Int → Bool} {g : Int → Int → D} (h : OpR X o (rI C g')) (hc : ∀ i j, c i j = true → C i j) (hg : ∀ F H i j, Den (gc X) F H (g i j) (g' i j)) : BOp X o (f2 c g) :=
  ⟨_, h, fun F H x y z v u Q k dx dy e gv => by
    obtain ⟨i, j, rfl, rfl, hcc, rfl⟩ := f2_inv e
    simp only [Den] at dx dy
    subst dx dy
    exact ⟨i, j, rfl, rfl, hc i j hcc, gv.same k (hg F H i j)⟩⟩
theorem bop_int0 {o : Value → Value → Sem Value} {g' : Int → Int → V} {g : Int → Int → D} (h : OpR X o (rI0 g')) (hg : ∀ F H i j, Den (gc X) F H (g i j) (g' i j)) : BOp X o (f2 (fun _ _ => true) g) :=
  ⟨_, h, fun F H x y z v u Q k dx dy e gv => by
    obtain ⟨i, j, rfl, rfl, _, rfl⟩ := f2_inv e
    simp only [Den] at dx dy
    subst dx dy
    exact ⟨i, j, rfl, rfl, gv.same k (hg F H i j)⟩⟩
def fAdd : D → D → Option D
  | .int i, .int j => some (.int (i + j))
  | .str x, .str y => if x.length + y.length ≤ 16777216 then some (.str (x ++ y)) else none
  | .tup xs, .tup ys => if xs.length + ys.length ≤ 16777216 then some (.tup (xs ++ ys)) else none
  | .lst xs, .lst ys => if xs.length + ys.length ≤ 16777216 then some (.lst (xs ++ ys)) else none
  | _, _ => none
theorem o_add : BOp X (binaryOp .Add) fAdd :=
  ⟨_, (op_add.or op_add_str).or (op_catA.or op_cat), fun F H x y z v u Q k dx dy e gv => by
    unfold fAdd at e
    split at e
    · rename_i i j
      simp only [Den] at dx dy; subst dx dy; cases e
      exact .inl (.inl ⟨i, j, rfl, rfl, gv.same k (by simp only [Den])⟩)
    · rename_i i j
      simp only [Den] at dx dy; subst dx dy
      split at e
      · rename_i h; cases e; exact .inl (.inr ⟨i, j, rfl, rfl, by rw [line_eq]; exact h, gv.same k (by simp only [Den])⟩)
      · cases e
    · rename_i xs ys
      simp only [Den] at dx dy
      obtain ⟨a, vs, rfl, ta, da⟩ := dx
      obtain ⟨b, ws, rfl, tb, db⟩ := dy
      split at e
      · rename_i h
        cases e
        refine .inr (.inl ⟨a, b, vs, ws, rfl, rfl, ta.sq, tb.sq, by rw [da.length, db.length, line_eq]; exact h, fun z => ?_, fun z1 z2 => ?_, fun _ _ p hp => ?_⟩)
        · subst z
          have : xs = [] := by have := da.length; simp at this; exact List.length_eq_zero_iff.mp this.symm
          subst this
          exact gv.same k (by simp only [Den, List.nil_append]; exact ⟨b, ws, rfl, tb, db⟩)
        · subst z2
          have : ys = [] := by have := db.length; simp at this; exact List.length_eq_zero_iff.mp this.symm
          subst this
          exact gv.same k (by simp only [Den, List.append_nil]; exact ⟨a, vs, rfl, ta, da⟩)
        · exact gv _ _ _ (Nx.frz k hp) (den_newt hp k (da.append db))
      · cases e
    · rename_i xs ys
      simp only [Den] at dx dy
      obtain ⟨a, vs, rfl, fa, ta, da⟩ := dx
      obtain ⟨b, ws, rfl, fb, tb, db⟩ := dy
      split at e
      · rename_i h
        cases e
        exact .inr (.inr ⟨a, b, vs, ws, rfl, rfl, ta, tb, by rw [da.length, db.length, line_eq]; exact h, fun p hp => gv _ _ _ (Nx.frz k hp) (den_newl hp k (da.append db))⟩)
      · cases e
    · cases e⟩
abbrev fSub := f2 (fun _ _ => true) fun i j => .int (i - j)
theorem o_sub : BOp X (binaryOp .Sub) fSub := bop_int0 op_sub fun _ _ _ _ => by simp only [Den]
def mulOk (i j : Int) : Bool := decide (i.natAbs < 18446744073709551616) || decide (j.natAbs < 18446744073709551616) || decide (i.natAbs.log2 + j.natAbs.log2 < 1000000)
abbrev fMul := f2 mulOk fun i j => .int (i * j)
theorem o_mul : BOp X (binaryOp .Mult) fMul := by
  refine ⟨_, op_mul.or op_mulW, fun F H x y z v u Q k dx dy e gv => ?_⟩
  obtain ⟨i, j, rfl, rfl, h, rfl⟩ := f2_inv e
  simp only [Den] at dx dy
  subst dx dy
  have q := gv.same k (w := .int (i * j)) (by simp only [Den])
  simp only [mulOk, Bool.or_eq_true, decide_eq_true_eq] at h
  rcases h with (h | h) | h
  · exact .inl ⟨i, j, rfl, rfl, .inl (by omega), q⟩
  · exact .inl ⟨i, j, rfl, rfl, .inr (by omega), q⟩
  · exact .inr ⟨i, j, rfl, rfl, h, q⟩
abbrev fMod := f2 (fun _ j => decide (0 < j)) fun i j => .int (i % j)
theorem o_mod : BOp X (binaryOp .Mod) fMod := bop_int op_mod (fun _ _ h => of_decide_eq_true h) fun _ _ _ _ => by simp only [Den]
abbrev fDiv := f2 (fun _ j => decide (0 < j) && decide (j.natAbs.log2 < 9000)) fun i j => .int (i / j)
theorem o_div : BOp X (binaryOp .FloorDiv) fDiv := bop_int op_fdivW (fun _ _ h => by simp only [Bool.and_eq_true, decide_eq_true_eq] at h; exact h) fun _ _ _ _ => by simp only [Den]
def powOk (i j : Int) : Bool := decide (0 ≤ j) && decide (j ≤ 1000000) && decide (i.natAbs < 18446744073709551616)
theorem powOk_ok {i j : Int} (h : powOk i j = true) : CPow i j := by
  simp only [powOk, Bool.and_eq_true, decide_eq_true_eq] at h
  exact ⟨h.1.1, h.1.2, by have := h.2; omega⟩
abbrev fPow := f2 powOk fun i j => .int (i ^ j.toNat)
theorem o_pow : BOp X (binaryOp .Pow) fPow := bop_int op_pow (fun _ _ h => powOk_ok h) fun _ _ _ _ => by simp only [Den]
abbrev fShl := f2 powOk fun i j => .int (i * 2 ^ j.toNat)
theorem o_shl : BOp X (binaryOp .LShift) fShl := bop_int op_shl (fun _ _ h => powOk_ok h) fun _ _ _ _ => by simp only [Den]
abbrev fShr := f2 (fun _ j => decide (0 ≤ j)) fun i j => .int (i / 2 ^ j.toNat)
theorem o_shr : BOp X (binaryOp .RShift) fShr := bop_int op_shr (fun _ _ h => of_decide_eq_true h) fun _ _ _ _ => by simp only [Den]
abbrev fAnd := f2 (fun _ _ => true) fun i j => .int (Builtin.bitAnd i j)
theorem o_and : BOp X (binaryOp .BitAnd) fAnd := bop_int0 op_and fun _ _ _ _ => by simp only [Den]
abbrev fOr := f2 (fun _ _ => true) fun i j => .int (Builtin.bitOr i j)
theorem o_or : BOp X (binaryOp .BitOr) fOr := bop_int0 op_or fun _ _ _ _ => by simp only [Den]
abbrev fLt := f2 (fun _ _ => true) fun i j => .bl (decide (i < j))
theorem o_lt : BOp X (compareOp .Lt) fLt := bop_int0 op_lt fun _ _ _ _ => by simp only [Den]
abbrev fLe := f2 (fun _ _ => true) fun i j => .bl (decide (i ≤ j))
theorem o_le : BOp X (compareOp .LtE) fLe := bop_int0 op_le fun _ _ _ _ => by simp only [Den]
abbrev fGt := f2 (fun _ _ => true) fun i j => .bl (decide (j < i))
theorem o_gt : BOp X (compareOp .Gt) fGt := bop_int0 op_gt fun _ _ _ _ => by simp only [Den]
abbrev fGe := f2 (fun _ _ => true) fun i j => .bl (decide (j ≤ i))
theorem o_ge : BOp X (compareOp .GtE) fGe := bop_int0 op_ge fun _ _ _ _ => by simp only [Den]
/-! ### == -/
mutual
def D.py : D → PyData
  | .non => .none
  | .bl b => .bool b
  | .int i => .int i
  | .str x => .str x
  | .tup ds => .tuple (D.pyL ds)
  | .lst ds => .list (D.pyL ds)
  | _ => .dict []
def D.pyL : List D → List PyData
  | [] => []
  | d :: ds => D.py d :: D.pyL ds
end
mutual
theorem den_dp {K mg F H} : ∀ (d : D) (v : V), PyData.canLay0 d.py = true → Den ⟨K, mg⟩ F H d v → Dp K H v d.py
  | .non, v, _, h => by simp only [Den] at h; subst h; simp only [D.py]; exact .non
  | .bl b, v, _, h => by simp only [Den] at h; subst h; simp only [D.py]; exact .bl b
  | .int i, v, _, h => by simp only [Den] at h; subst h; simp only [D.py]; exact .int i
  | .str x, v, _, h => by simp only [Den] at h; subst h; simp only [D.py]; exact .str x
  | .tup ds, v, c, h => by
    simp only [Den] at h
    obtain ⟨a, vs, rfl, t, dl⟩ := h
    simp only [D.py] at c ⊢
    exact .tup t.sq (den_dpL ds vs (by simpa [PyData.canLay0] using c) dl)
  | .lst ds, v, c, h => by
    simp only [Den] at h
    obtain ⟨a, vs, rfl, f, t, dl⟩ := h
    simp only [D.py] at c ⊢
    exact .lst (.of t) (den_dpL ds vs (by simpa [PyData.canLay0] using c) dl)
  | .ty _, v, c, _ => by simp [D.py, PyData.canLay0] at c
  | .cl _, v, c, _ => by simp [D.py, PyData.canLay0] at c
  | .frl _, v, c, _ => by simp [D.py, PyData.canLay0] at c
  | .exc _ _ _, v, c, _ => by simp [D.py, PyData.canLay0] at c
theorem den_dpL {K mg F H} : ∀ (ds : List D) (vs : List V), PyData.canLayAll0 (D.pyL ds) = true → DenL ⟨K, mg⟩ F H ds vs → DpAll K H vs (D.pyL ds)
  | [], vs, _, h => by simp only [DenL] at h; subst h; simp only [D.pyL]; exact .nil
  | d :: ds, vs, c, h => by
    simp only [DenL] at h
    obtain ⟨v, ws, rfl, h1, h2⟩ := h
    simp only [D.pyL, PyData.canLayAll0, Bool.and_eq_true] at c ⊢
    exact .cons (den_dp d v c.1 h1) (den_dpL ds ws c.2 h2)
end
def fEq (x y : D) : Option D := if (SeqAt.shaped x.py && SeqAt.shaped y.py) = true then some (.bl (PyData.eqv x.py y.py)) else none
def fNe (x y : D) : Option D := if (SeqAt.shaped x.py && SeqAt.shaped y.py) = true then some (.bl (!PyData.eqv x.py y.py)) else none
theorem o_eq (hu : X.A.units + 64 < cLine) : BOp X (compareOp .Eq) fEq :=
  ⟨_, op_eqD hu, fun F H x y z v u Q k dx dy e gv => by
    unfold fEq at e
    split at e
    · rename_i h
      rw [Bool.and_eq_true] at h
      cases e
      exact ⟨x.py, y.py, den_dp x v (SeqAt.canLay_of_shaped h.1) dx, den_dp y u (SeqAt.canLay_of_shaped h.2) dy, h.1, h.2, gv.same k (by simp only [Den])⟩
    · cases e⟩
theorem o_ne (hu : X.A.units + 64 < cLine) : BOp X (compareOp .NotEq) fNe :=
  ⟨_, op_neD hu, fun F H x y z v u Q k dx dy e gv => by
    unfold fNe at e
    split at e
    · rename_i h
      rw [Bool.and_eq_true] at h
      cases e
      exact ⟨x.py, y.py, den_dp x v (SeqAt.canLay_of_shaped h.1) dx, den_dp y u (SeqAt.canLay_of_shaped h.2) dy, h.1, h.2, gv.same k (by simp only [Den])⟩
    · cases e⟩
/-! ### is -/
def isNon : D → Bool
  | .non => true
  | _ => false
theorem isNon_ok {G F H} {x : D} {v : V} (d : Den G F H x v) : decide (v = .non) = isNon x := by
  cases x <;> simp only [Den] at d <;> first
    | (subst d; rfl)
    | (obtain ⟨_, _, rfl, _⟩ := d; rfl)
    | (obtain ⟨_, rfl, _⟩ := d; rfl)
    | (obtain ⟨_, _, _, _, rfl, _⟩ := d; rfl)
def isBlD : D → Bool → Bool
  | .bl a, b => decide (a = b)
  | _, _ => false
theorem isBlD_ok {G F H} {x : D} {v : V} {b : Bool} (d : Den G F H x v) : decide (v = .bl b) = isBlD x b := by
  cases x <;> simp only [Den] at d <;> first
    | (subst d; simp [isBlD])
    | (obtain ⟨_, _, rfl, _⟩ := d; simp [isBlD])
    | (obtain ⟨_, rfl, _⟩ := d; simp [isBlD])
    | (obtain ⟨_, _, _, _, rfl, _⟩ := d; simp [isBlD])
theorem op_isT : OpR X (compareOp .Is) (fun x y H Q => ∃ b, y = .bl b ∧ Q (.bl (decide (x = .bl b))) H) := by
  intro pins s σ H x y v u Q I rx ry h
  obtain ⟨b, rfl, q⟩ := h
  cases (show u = Value.bool b from ry)
  have go : ∀ v : Value, (∀ n, v ≠ .builtin n) → wpAny (model X.prog X.w) X.A (compareOp .Is v (.bool b)) (fun r s' => r = .bool (v == .bool b) ∧ s' = s) X.xe s := fun v hn => by
    cases v <;> first
      | exact wpAny_pure ⟨rfl, rfl⟩
      | exact absurd rfl (hn _)
  have key : (∀ n, v ≠ .builtin n) ∧ (v == .bool b) = decide (x = .bl b) := by
    cases x
    case bl c => cases (show v = Value.bool c from rx); exact ⟨fun n z => (by cases z), by cases b <;> cases c <;> rfl⟩
    all_goals first
      | (obtain ⟨t, rfl⟩ := rx; exact ⟨fun n z => (by cases z), by simp⟩)
      | (cases rx; exact ⟨fun n z => (by cases z), by simp⟩)
  exact thn (go v key.1) fun r s' ⟨e1, e2⟩ => by
    subst e1 e2
    exact fin_bl I q key.2.symm
theorem op_notT : OpR X (compareOp .IsNot) (fun x y H Q => ∃ b, y = .bl b ∧ Q (.bl (!decide (x = .bl b))) H) := by
  intro pins s σ H x y v u Q I rx ry h
  obtain ⟨b, rfl, q⟩ := h
  cases (show u = Value.bool b from ry)
  have go : ∀ v : Value, (∀ n, v ≠ .builtin n) → wpAny (model X.prog X.w) X.A (compareOp .IsNot v (.bool b)) (fun r s' => r = .bool (!(v == .bool b)) ∧ s' = s) X.xe s := fun v hn => by
    cases v <;> first
      | exact wpAny_pure ⟨rfl, rfl⟩
      | exact absurd rfl (hn _)
  have key : (∀ n, v ≠ .builtin n) ∧ (!(v == .bool b)) = !decide (x = .bl b) := by
    cases x
    case bl c => cases (show v = Value.bool c from rx); exact ⟨fun n z => (by cases z), by cases b <;> cases c <;> rfl⟩
    all_goals first
      | (obtain ⟨t, rfl⟩ := rx; exact ⟨fun n z => (by cases z), by simp⟩)
      | (cases rx; exact ⟨fun n z => (by cases z), by simp⟩)
  exact thn (go v key.1) fun r s' ⟨e1, e2⟩ => by
    subst e1 e2
    exact fin_bl I q key.2.symm
def fIsN : D → D → Option D
  | x, .non => some (.bl (isNon x))
  | x, .bl b => some (.bl (isBlD x b))
  | _, _ => none
def fIsNot : D → D → Option D
  | x, .non => some (.bl (!isNon x))
  | x, .bl b => some (.bl (!isBlD x b))
  | _, _ => none
theorem o_is : BOp X (compareOp .Is) fIsN :=
  ⟨_, op_isN.or op_isT, fun F H x y z v u Q k dx dy e gv => by
    unfold fIsN at e
    split at e
    · simp only [Den] at dy; subst dy; cases e
      exact .inl ⟨rfl, by rw [isNon_ok dx]; exact gv.same k (by simp only [Den])⟩
    · simp only [Den] at dy; subst dy; cases e
      exact .inr ⟨_, rfl, by rw [isBlD_ok dx]; exact gv.same k (by simp only [Den])⟩
    · cases e⟩
theorem o_isnot : BOp X (compareOp .IsNot) fIsNot :=
  ⟨_, op_notN.or op_notT, fun F H x y z v u Q k dx dy e gv => by
    unfold fIsNot at e
    split at e
    · simp only [Den] at dy; subst dy; cases e
      exact .inl ⟨rfl, by rw [isNon_ok dx]; exact gv.same k (by simp only [Den])⟩
    · simp only [Den] at dy; subst dy; cases e
      exact .inr ⟨_, rfl, by rw [isBlD_ok dx]; exact gv.same k (by simp only [Den])⟩
    · cases e⟩
/-! ### in -/
def D.flat : D → Option V
  | .non => some .non
  | .bl b => some (.bl b)
  | .int i => some (.int i)
  | .str x => some (.str x)
  | _ => none
theorem flat_ok {G F H} {x : D} {v w : V} (d : Den G F H x v) (h : x.flat = some w) : v = w ∧ flatV w = true := by
  cases x <;> simp only [D.flat] at h <;> cases h <;> simp only [Den] at d <;> subst d <;> exact ⟨rfl, rfl⟩
def flatL : List D → Option (List V)
  | [] => some []
  | d :: ds => d.flat.bind fun v => (flatL ds).map (v :: ·)
theorem flatL_ok {G F H} : ∀ {ds : List D} {vs ws : List V}, DenL G F H ds vs → flatL ds = some ws → vs = ws ∧ ws.all flatV = true
  | [], vs, ws, d, h => by simp only [DenL] at d; subst d; cases h; exact ⟨rfl, rfl⟩
  | x :: ds, vs, ws, d, h => by
    simp only [DenL] at d
    obtain ⟨v, us, rfl, d1, d2⟩ := d
    unfold flatL at h
    cases e1 : x.flat with
    | none => rw [e1] at h; cases h
    | some w =>
      rw [e1] at h
      cases e2 : flatL ds with
      | none => rw [e2] at h; cases h
      | some ws' =>
        rw [e2] at h; cases h
        obtain ⟨rfl, h1⟩ := flat_ok d1 e1
        obtain ⟨rfl, h2⟩ := flatL_ok d2 e2
        exact ⟨rfl, by simp [h1, h2]⟩
def fInW (neg : Bool) (x y : D) : Option D := (itemsOf y).bind fun ys => x.flat.bind fun v => (flatL ys).map fun ws => .bl (if neg then !inV v ws else inV v ws)
theorem in_rd (neg : Bool) {F H x y z v u Q} (k : ∀ a, F a → H a ≠ none) (dx : Den (gc X) F H x v) (dy : Den (gc X) F H y u) (e : fInW neg x y = some z) (gv : Giv (gc X) F H z Q) : rIn X.K neg v u H Q := by
  unfold fInW at e
  cases e0 : itemsOf y with
  | none => rw [e0] at e; cases e
  | some ys =>
    rw [e0] at e
    cases e1 : x.flat with
    | none => simp only [e1, Option.bind_some] at e; cases e
    | some v' =>
      cases e2 : flatL ys with
      | none => simp only [e1, e2, Option.bind_some] at e; cases e
      | some ws =>
        simp only [e1, e2, Option.bind_some, Option.map_some] at e
        cases e
        obtain ⟨rfl, h1⟩ := flat_ok dx e1
        cases y with
        | tup ds =>
          cases e0
          simp only [Den] at dy
          obtain ⟨a, us, rfl, t, dl⟩ := dy
          obtain ⟨rfl, h2⟩ := flatL_ok dl e2
          exact ⟨a, us, rfl, .inr t.sq, h1, h2, gv.same k (by simp only [Den])⟩
        | lst ds =>
          cases e0
          simp only [Den] at dy
          obtain ⟨a, us, rfl, f, t, dl⟩ := dy
          obtain ⟨rfl, h2⟩ := flatL_ok dl e2
          exact ⟨a, us, rfl, .inl (.of t), h1, h2, gv.same k (by simp only [Den])⟩
        | frl ds =>
          cases e0
          simp only [Den] at dy
          obtain ⟨a, us, rfl, t, dl⟩ := dy
          obtain ⟨rfl, h2⟩ := flatL_ok dl e2
          exact ⟨a, us, rfl, .inl t.sq, h1, h2, gv.same k (by simp only [Den])⟩
        | _ => cases e0
theorem o_in : BOp X (compareOp .In) (fInW false) := ⟨_, op_in_seq, fun F H x y z v u Q k dx dy e gv => in_rd false k dx dy e gv⟩
theorem o_notin : BOp X (compareOp .NotIn) (fInW true) := ⟨_, op_notIn_seq, fun F H x y z v u Q k dx dy e gv => in_rd true k dx dy e gv⟩
/-! ### one place -/
def fNeg : D → Option D
  | .int i => some (.int (-i))
  | _ => none
def dUn (f : D → Option D) (d : Env → Res D) : Env → Res D := fun r => (d r).bind fun x r => Res.of (f x) r
theorem x_neg {W : WX} {pos : Pos} {a : Expr} {d : Env → Res D} (h : PX X W a d) : PX X W (.UnaryOp .USub a pos) (dUn fNeg d) :=
  pe_weak (pe_un un_neg h) fun σ H Q ⟨fr, F, r, ok, p⟩ => ⟨fr, F, r, ok, Post.seq p fun x r1 v H1 F1 ok1 l1 q1 p1 => by
    obtain ⟨z, e, gv⟩ := post_of ok1 p1
    cases x <;> simp only [fNeg] at e <;> first | cases e | skip
    simp only [Den] at q1; subst q1
    exact ⟨_, rfl, gv.same ok1.fin (by simp only [Den])⟩⟩
/-! ### built-in calls -/
def fLen : List D → Option D
  | [.tup ds] => some (.int ds.length)
  | [.lst ds] => some (.int ds.length)
  | [.frl ds] => some (.int ds.length)
  | [.str x] => if x.length ≤ 16777216 then some (.int x.length) else none
  | _ => none
theorem c_len : COp X (.builtin "len") fLen :=
  ⟨_, call_len_seq.or call_len_str, fun F H xs z vs Q k d e gv => by
    unfold fLen at e
    split at e
    · simp only [DenL, Den] at d
      obtain ⟨_, _, rfl, ⟨a, us, rfl, t, dl⟩, rfl⟩ := d
      cases e
      exact .inl ⟨a, us, rfl, .inr t.sq, gv.same k (by simp only [Den]; rw [dl.length])⟩
    · simp only [DenL, Den] at d
      obtain ⟨_, _, rfl, ⟨a, us, rfl, f, t, dl⟩, rfl⟩ := d
      cases e
      exact .inl ⟨a, us, rfl, .inl (.of t), gv.same k (by simp only [Den]; rw [dl.length])⟩
    · simp only [DenL, Den] at d
      obtain ⟨_, _, rfl, ⟨a, us, rfl, t, dl⟩, rfl⟩ := d
      cases e
      exact .inl ⟨a, us, rfl, .inl t.sq, gv.same k (by simp only [Den]; rw [dl.length])⟩
    · simp only [DenL, Den] at d
      obtain ⟨_, _, rfl, rfl, rfl⟩ := d
      split at e
      · rename_i h; cases e
        exact .inr ⟨_, rfl, by rw [line_eq]; exact h, gv.same k (by simp only [Den])⟩
      · cases e
    · cases e⟩
def fMin : List D → Option D
  | [.int i, .int j] => some (.int (if j < i then j else i))
  | _ => none
def fMax : List D → Option D
  | [.int i, .int j] => some (.int (if j > i then j else i))
  | _ => none
theorem c_min (hc : X.calm = true) : COp X (.builtin "min") fMin :=
  ⟨_, call_min2 hc, fun F H xs z vs Q k d e gv => by
    unfold fMin at e
    split at e
    · simp only [DenL, Den] at d
      obtain ⟨_, _, rfl, rfl, _, _, rfl, rfl, rfl⟩ := d
      cases e
      exact ⟨_, _, rfl, gv.same k (by simp only [Den])⟩
    · cases e⟩
theorem c_max (hc : X.calm = true) : COp X (.builtin "max") fMax :=
  ⟨_, call_max2 hc, fun F H xs z vs Q k d e gv => by
    unfold fMax at e
    split at e
    · simp only [DenL, Den] at d
      obtain ⟨_, _, rfl, rfl, _, _, rfl, rfl, rfl⟩ := d
      cases e
      exact ⟨_, _, rfl, gv.same k (by simp only [Den])⟩
    · cases e⟩
def fInt : List D → Option D
  | [.int i] => some (.int i)
  | [.bl b] => some (.int (if b then 1 else 0))
  | _ => none
theorem c_int : COp X (.type "int") fInt :=
  ⟨_, call_int1, fun F H xs z vs Q k d e gv => by
    unfold fInt at e
    split at e
    · simp only [DenL, Den] at d
      obtain ⟨_, _, rfl, rfl, rfl⟩ := d
      cases e
      exact .inl ⟨_, rfl, gv.same k (by simp only [Den])⟩
    · simp only [DenL, Den] at d
      obtain ⟨_, _, rfl, rfl, rfl⟩ := d
      cases e
      exact .inr ⟨_, rfl, gv.same k (by simp only [Den])⟩
    · cases e⟩
def fTuple : List D → Option D
  | [x] => (itemsOf x).map D.tup
  | _ => none
theorem c_tuple : COp X (.type "tuple") fTuple :=
  ⟨_, call_tuple_of, fun F H xs z vs Q k d e gv => by
    unfold fTuple at e
    split at e
    · rename_i x
      simp only [DenL] at d
      obtain ⟨v, _, rfl, d, rfl⟩ := d
      cases x with
      | tup ds => cases e; have d' := d; simp only [Den] at d; obtain ⟨a, us, rfl, t, dl⟩ := d; exact ⟨a, us, rfl, .inr ⟨t.sq, gv.same k d'⟩⟩
      | lst ds => cases e; simp only [Den] at d; obtain ⟨a, us, rfl, f, t, dl⟩ := d; exact ⟨a, us, rfl, .inl ⟨.of t, fun p hp => gv _ _ _ (Nx.frz k hp) (den_newt hp k dl)⟩⟩
      | frl ds => cases e; simp only [Den] at d; obtain ⟨a, us, rfl, t, dl⟩ := d; exact ⟨a, us, rfl, .inl ⟨t.sq, fun p hp => gv _ _ _ (Nx.frz k hp) (den_newt hp k dl)⟩⟩
      | _ => cases e
    · cases e⟩
def fList : List D → Option D
  | [x] => (itemsOf x).map D.lst
  | _ => none
theorem c_list : COp X (.type "list") fList :=
  ⟨_, call_list_of, fun F H xs z vs Q k d e gv => by
    unfold fList at e
    split at e
    · rename_i x
      simp only [DenL] at d
      obtain ⟨v, _, rfl, d, rfl⟩ := d
      cases x with
      | tup ds => cases e; simp only [Den] at d; obtain ⟨a, us, rfl, t, dl⟩ := d; exact ⟨a, us, rfl, .inr t.sq, fun p hp => gv _ _ _ (Nx.frz k hp) (den_newl hp k dl)⟩
      | lst ds => cases e; simp only [Den] at d; obtain ⟨a, us, rfl, f, t, dl⟩ := d; exact ⟨a, us, rfl, .inl (.of t), fun p hp => gv _ _ _ (Nx.frz k hp) (den_newl hp k dl)⟩
      | frl ds => cases e; simp only [Den] at d; obtain ⟨a, us, rfl, t, dl⟩ := d; exact ⟨a, us, rfl, .inl t.sq, fun p hp => gv _ _ _ (Nx.frz k hp) (den_newl hp k dl)⟩
      | _ => cases e
    · cases e⟩
def intsOf : List D → Option (List Int)
  | [] => some []
  | .int i :: ds => (intsOf ds).map (i :: ·)
  | _ => none
theorem intsOf_ok {G F H} : ∀ {ds : List D} {vs : List V} {ns : List Int}, DenL G F H ds vs → intsOf ds = some ns → vs = ns.map V.int
  | [], vs, ns, d, h => by simp only [DenL] at d; subst d; simp only [intsOf] at h; cases h; rfl
  | x :: ds, vs, ns, d, h => by
    simp only [DenL] at d
    obtain ⟨v, us, rfl, d1, d2⟩ := d
    cases x with
    | int i =>
      simp only [Den] at d1
      subst d1
      simp only [intsOf] at h
      cases e2 : intsOf ds with
      | none => rw [e2] at h; cases h
      | some ms => rw [e2] at h; cases h; rw [intsOf_ok d2 e2]; rfl
    | _ => simp only [intsOf] at h; cases h
def fSum : List D → Option D
  | [.lst ds] => (intsOf ds).map fun ns => .int ns.sum
  | _ => none
theorem c_sum (hc : X.calm = true) : COp X (.builtin "sum") fSum :=
  ⟨_, cr_sum hc, fun F H xs z vs Q k d e gv => by
    unfold fSum at e
    split at e
    · rename_i ds
      simp only [DenL, Den] at d
      obtain ⟨_, _, rfl, ⟨a, us, rfl, f, t, dl⟩, rfl⟩ := d
      cases h : intsOf ds with
      | none => rw [h] at e; cases e
      | some ns =>
        rw [h] at e; cases e
        exact ⟨a, ns, rfl, .of (by rw [← intsOf_ok dl h]; exact t), gv.same k (by simp only [Den])⟩
    · cases e⟩
/-! ### subscripts -/
def fIx : D → D → Option D
  | .tup ds, .int i => atI ds i
  | .lst ds, .int i => atI ds i
  | .frl ds, .int i => atI ds i
  | _, _ => none
theorem atI_den {G F H} {ds : List D} {vs : List V} {i : Int} {z : D} (dl : DenL G F H ds vs) (e : atI ds i = some z) : ∃ v, atI vs i = some v ∧ Den G F H z v := by
  unfold atI at e ⊢
  rw [dl.length]
  cases h : ixN ds.length i with
  | none => rw [h] at e; cases e
  | some j => rw [h] at e; exact dl.get e
theorem o_ix : IOp X fIx :=
  ⟨_, ix_list.or ix_tup, fun F H x y z v u Q k dx dy e gv => by
    unfold fIx at e
    split at e
    · rename_i ds i
      simp only [Den] at dx dy
      obtain ⟨a, us, rfl, t, dl⟩ := dx
      subst dy
      obtain ⟨w, h1, h2⟩ := atI_den dl e
      exact .inr ⟨a, us, i, w, rfl, rfl, t.sq, h1, gv.same k h2⟩
    · rename_i ds i
      simp only [Den] at dx dy
      obtain ⟨a, us, rfl, f, t, dl⟩ := dx
      subst dy
      obtain ⟨w, h1, h2⟩ := atI_den dl e
      exact .inl ⟨a, us, i, w, rfl, rfl, .of t, h1, gv.same k h2⟩
    · rename_i ds i
      simp only [Den] at dx dy
      obtain ⟨a, us, rfl, t, dl⟩ := dx
      subst dy
      obtain ⟨w, h1, h2⟩ := atI_den dl e
      exact .inl ⟨a, us, i, w, rfl, rfl, t.sq, h1, gv.same k h2⟩
    · cases e⟩
end
/-! ## Open lists looked at (they stay open) -/
section
variable {X : Cx} {W : WX} {pos : Pos}
/-- what a slot holds, as a value to look at -/
def peek (r : Env) (j : Nat) : Option D := match r[j]? with
  | some (.v d) => some d
  | some (.o ds) => some (.frl ds)
  | some (.p ds) => some (.frl ds)
  | _ => none
/-- len(x) -/
def dLenO (j : Nat) : Env → Res D := fun r => match getOpn r j with
  | some ds => .ok (.int ds.length) r
  | none => .bad
theorem x_lenO {j : Nat} {x : Str} {p p' : Pos} (hg : Gl X "len") (hm : X.mg "len" = none) (ho : PE X (.Name x p) (tVar j)) : PX X W (.Call (.Name "len" p') [.Name x p] [] pos) (dLenO j) :=
  pe_weak (pe_callB call_len_seq hg hm PySem.boot_len (pa_cons ho pa_nil)) fun σ H Q ⟨fr, F, r, ok, p⟩ => by
    unfold dLenO at p
    cases e : getOpn r j with
    | none => rw [e] at p; exact p.elim
    | some ds =>
      rw [e] at p
      obtain ⟨a, vs, h1, h2, h3, h4, _⟩ := ok.opened e
      exact ⟨.ref a, h1, a, vs, rfl, .inl (.of h2), p _ H F ok Le.refl (by simp only [Den]; rw [h4.length])⟩
/-- truth -/
def dTruO (j : Nat) : Env → Res Bool := fun r => match getOpn r j with
  | some ds => .ok (!ds.isEmpty) r
  | none => .bad
theorem b_truO {j : Nat} {x : Str} {p : Pos} (ho : PE X (.Name x p) (tVar j)) (he : ∀ whole, isTrue (.Name x p) X.env whole = (do let v ← whole; standAt (Expr.Name x p).pos; holding [v] (truthy v)) := by intro _; rfl) : PB X W (.Name x p) (dTruO j) :=
  pt_weak (pt_truth ho he) fun σ H Q ⟨fr, F, r, ok, p⟩ => by
    unfold dTruO at p
    cases e : getOpn r j with
    | none => rw [e] at p; exact p.elim
    | some ds =>
      rw [e] at p
      obtain ⟨a, vs, h1, h2, h3, h4, _⟩ := ok.opened e
      exact ⟨.ref a, h1, !vs.isEmpty, .inl ⟨vs, .of h2, rfl⟩, p _ H F ok Le.refl (emp_of h4).symm⟩
/-- x[i] -/
def dIxO (j : Nat) (d : Env → Res D) : Env → Res D := fun r => match getOpn r j with
  | none => .bad
  | some _ => (d r).bind fun x r => match getOpn r j, x with
    | some ds, .int i => Res.of (atI ds i) r
    | _, _ => .bad
theorem x_ixO {j : Nat} {x : Str} {p : Pos} {b : Expr} {d : Env → Res D} (ho : PE X (.Name x p) (tVar j)) (hb : PX X W b d) (hs : PlainIx b := by exact fun _ _ => rfl) : PX X W (.Subscript (.Name x p) b pos) (dIxO j d) :=
  pe_weak (pe_ix ix_list ho hb hs) fun σ H Q ⟨fr, F, r, ok, p⟩ => by
    unfold dIxO at p
    cases e : getOpn r j with
    | none => rw [e] at p; exact p.elim
    | some ds0 =>
      rw [e] at p
      obtain ⟨a, vs, h1, _⟩ := ok.opened e
      refine ⟨.ref a, h1, fr, F, r, ok, Post.seq p fun y r1 v H1 F1 ok1 l1 q1 p1 => ?_⟩
      cases e1 : getOpn r1 j with
      | none => simp only [e1] at p1; exact (show False from p1).elim
      | some ds =>
        simp only [e1] at p1
        cases y with
        | int i =>
          simp only [Den] at q1; subst q1
          obtain ⟨z, e2, gv⟩ := post_of ok1 p1
          obtain ⟨b, ws, g1, g2, g3, g4, _⟩ := ok1.opened e1
          rw [h1] at g1; cases g1
          obtain ⟨w, y1, y2⟩ := atI_den g4 e2
          exact ⟨a, ws, i, w, rfl, rfl, .of g2, y1, gv.same ok1.fin y2⟩
        | _ => exact (show False from p1).elim
/-- x[i] = e -/
def dSetIx (j : Nat) (di d : Env → Res D) : Env → SRes := fun r => (d r).toS fun x r => match getOpn r j with
  | none => .bad
  | some _ => (di r).toS fun k r => match getOpn r j, k with
    | some ds, .int k => (match ixN ds.length k with
      | some n => .nx (setOpn r j (ds.set n x))
      | none => .bad)
    | _, _ => .bad
theorem s_setix {j : Nat} {x : Str} {p p2 : Pos} {i e : Expr} {di d : Env → Res D} (ho : PE X (.Name x p) (tVar j)) (hi : PX X W i di) (he : PX X W e d) (hg : PG X (.Subscript (.Name x p) i p2) (gSub (tVar j) (tR (gc X) W (Den (gc X)) di) rSetL))
    (hs : swapsWithSole [.Subscript (.Name x p) i p2] e pos.line X.env = pure false := by rfl) (hw : swappedStores [.Subscript (.Name x p) i p2] e X.env = pure none := by rfl) (h1 : (assignEach [.Subscript (.Name x p) i p2] X.env).map (·.2) = [assign (.Subscript (.Name x p) i p2) X.env] := by rfl) :
    PT1 X W (.Assign [.Subscript (.Name x p) i p2] e pos) (dSetIx j di d) :=
  ps_weak (ps_asg he hg hs hw h1) fun E σ H ⟨fr, F, r, ok, p⟩ => ⟨fr, F, r, ok, Post.toS p fun y r1 v H1 F1 ok1 l1 q1 p1 => by
    cases e : getOpn r1 j with
    | none => simp only [e] at p1; exact (show False from p1).elim
    | some ds0 =>
      simp only [e] at p1
      obtain ⟨a, vs, h1, _⟩ := ok1.opened e
      refine ⟨.ref a, h1, fr, F1, r1, ok1, Post.toS p1 fun k r2 u H2 F2 ok2 l2 q2 p2 => ?_⟩
      cases e1 : getOpn r2 j with
      | none => simp only [e1] at p2; exact (show False from p2).elim
      | some ds =>
        simp only [e1] at p2
        cases k with
        | int k =>
          simp only at p2
          cases e2 : ixN ds.length k with
          | none => rw [e2] at p2; exact (show False from p2).elim
          | some n =>
            rw [e2] at p2
            simp only [Den] at q2; subst q2
            obtain ⟨b, ws, g1, g2, g3, g4, g5⟩ := ok2.opened e1
            rw [h1] at g1; cases g1
            obtain ⟨ok3, l3⟩ := g5 _ _ (DenL.set n g4 (q1.mono l2))
            exact ⟨a, ws, k, n, rfl, rfl, g2, by rw [g4.length]; exact e2, p2 σ _ F2 ok3 l3⟩
        | _ => exact (show False from p2).elim⟩
end
end Py
end

section
set_option maxHeartbeats 400000
namespace Py
open PySem PySem.Spec PyProof.Rows L2

/-! ## List comprehensions -/
section
variable {G : Gc} {fr : Fr} {F F' : Addr → Prop} {H H' : Hp} {σ σ' : L2.St} {r r' : Env}
theorem Ok.wipe1 (ok : Ok G fr F H σ r) {i : Nat} (hp : notP r i = true) : Ok G fr F H (σ.set i none) (r.set i .un) := by
  have o := ok.unset (notP_ok hp)
  have ne : ∀ {m : Nat} {s : Slot} {ds : List D}, (r.set i .un)[m]? = some s → s.opn = some ds → i ≠ m := fun {m s ds} q o z => by
    subst z
    by_cases hlt : i < r.length
    · rw [List.getElem?_set_self hlt] at q; cases q; cases o
    · rw [List.getElem?_eq_none (by simpa using hlt)] at q; cases q
  refine ⟨o.fin, o.grow, o.prot, by rw [List.length_set]; exact o.len, fun j s q => ?_, fun j k s t ds es b hjk q1 q2 o1 o2 q3 q4 => ?_, fun j b hp' => ?_⟩
  · by_cases hj : i = j
    · subst hj
      by_cases hlt : i < r.length
      · rw [List.getElem?_set_self hlt] at q; cases q; trivial
      · rw [List.getElem?_eq_none (by simpa using hlt)] at q; cases q
    · rw [List.getElem?_set_ne hj]; exact o.sl j s q
  · rw [List.getElem?_set_ne (ne q1 o1)] at q3
    rw [List.getElem?_set_ne (ne q2 o2)] at q4
    exact o.dis j k s t ds es b hjk q1 q2 o1 o2 q3 q4
  · obtain ⟨z1, ds, z2⟩ := o.par j b hp'
    rw [List.getElem?_set_ne (ne z2 rfl)]
    exact ⟨z1, ds, z2⟩
def wipeR (r : Env) : List Nat → Env
  | [] => r
  | v :: vs => (wipeR r vs).set v .un
def notPs (r : Env) : List Nat → Bool
  | [] => true
  | v :: vs => notP r v && notPs r vs
theorem notP_wipeR {r : Env} {i : Nat} : ∀ {vs : List Nat}, notP r i = true → notP (wipeR r vs) i = true
  | [], h => h
  | v :: vs, h => by
    have ih := notP_wipeR (vs := vs) h
    unfold wipeR
    unfold notP at ih ⊢
    by_cases hv : v = i
    · subst hv
      by_cases hl : v < (wipeR r vs).length
      · rw [List.getElem?_set_self hl]
      · rw [List.getElem?_eq_none (by simpa using hl)]
    · rw [List.getElem?_set_ne hv]; exact ih
theorem Ok.wipes (ok : Ok G fr F H σ r) : ∀ {vs : List Nat}, notPs r vs = true → Ok G fr F H (wipe σ vs) (wipeR r vs)
  | [], _ => ok
  | v :: vs, h => by
    unfold notPs at h
    rw [Bool.and_eq_true] at h
    exact (Ok.wipes ok h.2).wipe1 (notP_wipeR h.1)
/-- own slots hold nothing that is open -/
def plainAt (r : Env) : List Nat → Bool
  | [] => true
  | v :: vs => (match r[v]? with
    | some (.v _) => true
    | some .un => true
    | _ => false) && plainAt r vs
theorem plainAt_notPs : ∀ {vs : List Nat}, plainAt r vs = true → notPs r vs = true
  | [], _ => rfl
  | v :: vs, h => by
    unfold plainAt at h
    rw [Bool.and_eq_true] at h
    unfold notPs notP
    rw [Bool.and_eq_true]
    refine ⟨?_, plainAt_notPs h.2⟩
    have h1 := h.1
    split at h1
    · rename_i e; rw [e]
    · rename_i e; rw [e]
    · cases h1
def putSlots (r0 : Env) : List Nat → Env → Env
  | [], r => r
  | v :: vs, r => match r0[v]? with
    | some s => putSlots r0 vs (r.set v s)
    | none => putSlots r0 vs r
/-- back from the block: σ as it was, the own slots as they were -/
theorem wipe_at {σ : L2.St} : ∀ {vs : List Nat} {i : Nat}, i ∈ vs → i < σ.length → (wipe σ vs)[i]? = some none
  | v :: vs, i, h, hl => by
    unfold wipe
    by_cases hv : v = i
    · subst hv; exact List.getElem?_set_self (by rw [wipe_length]; exact hl)
    · rw [List.getElem?_set_ne hv]
      rcases List.mem_cons.mp h with h | h
      · exact absurd h.symm hv
      · exact wipe_at h hl
theorem wipe_wipe {σ : L2.St} {vs : List Nat} : wipe (wipe σ vs) vs = wipe σ vs := by
  refine List.ext_getElem? fun i => ?_
  by_cases hi : i ∈ vs
  · by_cases hl : i < σ.length
    · rw [wipe_at hi (by rw [wipe_length]; exact hl), wipe_at hi hl]
    · rw [List.getElem?_eq_none (by rw [wipe_length, wipe_length]; omega), List.getElem?_eq_none (by rw [wipe_length]; omega)]
  · rw [wipe_out hi]
theorem putSlots_len {r0 : Env} : ∀ {vs : List Nat} {r : Env}, (putSlots r0 vs r).length = r.length
  | [], r => rfl
  | v :: vs, r => by unfold putSlots; split <;> rw [putSlots_len] ; simp
theorem putSlots_out {r0 : Env} : ∀ {vs : List Nat} {r : Env} {i : Nat}, i ∉ vs → (putSlots r0 vs r)[i]? = r[i]?
  | [], r, i, _ => rfl
  | v :: vs, r, i, h => by
    simp only [List.mem_cons, not_or] at h
    unfold putSlots
    split
    · rw [putSlots_out h.2, List.getElem?_set_ne (Ne.symm h.1)]
    · rw [putSlots_out h.2]
theorem putSlots_in {r0 : Env} : ∀ {vs : List Nat} {r : Env} {i : Nat}, i ∈ vs → r.length = r0.length → (putSlots r0 vs r)[i]? = r0[i]?
  | v :: vs, r, i, h, hl => by
    unfold putSlots
    by_cases hi : i ∈ vs
    · split
      · rw [putSlots_in hi (by simpa using hl)]
      · rw [putSlots_in hi hl]
    · have hv : v = i := by
        rcases List.mem_cons.mp h with h | h
        · exact h.symm
        · exact absurd h hi
      subst hv
      split
      · rename_i s e
        rw [putSlots_out hi, List.getElem?_set_self (by rw [hl]; exact (List.getElem?_eq_some_iff.mp e).1), e]
      · rename_i e
        rw [putSlots_out hi, List.getElem?_eq_none (by rw [hl]; exact List.getElem?_eq_none_iff.mp e), e]
theorem Ok.unwipe {F0 : Addr → Prop} {H0 : Hp} {r0 : Env} {vs : List Nat} (ok0 : Ok G fr F0 H0 σ r0) (hp : plainAt r0 vs = true) (ok : Ok G fr F H (wipe σ vs) r) (l : Le F0 H0 F H) : Ok G fr F H σ (putSlots r0 vs r) := by
  have hl : r.length = r0.length := by rw [← ok.len, wipe_length, ok0.len]
  have plain : ∀ {vs : List Nat} {i : Nat} {s : Slot}, plainAt r0 vs = true → i ∈ vs → r0[i]? = some s → s.opn = none := by
    intro vs
    induction vs with
    | nil => intro i s _ h; cases h
    | cons v vs ih =>
      intro i s h1 h2 h3
      unfold plainAt at h1
      rw [Bool.and_eq_true] at h1
      rcases List.mem_cons.mp h2 with rfl | h2
      · have h1 := h1.1
        rw [h3] at h1
        cases s <;> first | rfl | cases h1
      · exact ih h1.2 h2 h3
  have old : ∀ {i : Nat} {s : Slot} {ds : List D}, (putSlots r0 vs r)[i]? = some s → s.opn = some ds → i ∉ vs ∧ r[i]? = some s := fun {i s ds} e o => by
    by_cases hi : i ∈ vs
    · rw [putSlots_in hi hl] at e
      rw [plain hp hi e] at o; cases o
    · rw [putSlots_out hi] at e; exact ⟨hi, e⟩
  refine ⟨ok.fin, ok.grow, ok.prot, by rw [putSlots_len, ← ok.len, wipe_length], fun i s e => ?_, fun i j s t ds es a hij e1 e2 o1 o2 q1 q2 => ?_, fun i a h => ?_⟩
  · by_cases hi : i ∈ vs
    · rw [putSlots_in hi hl] at e
      have z := ok0.sl i s e
      have y := plain hp hi e
      cases s with
      | un => trivial
      | v d => obtain ⟨v, z1, z2⟩ := z; exact ⟨v, z1, z2.mono l⟩
      | o _ => cases y
      | p _ => cases y
    · rw [putSlots_out hi] at e
      have z := ok.sl i s e
      rw [wipe_out hi] at z
      exact z
  · obtain ⟨h1, e1⟩ := old e1 o1
    obtain ⟨h2, e2⟩ := old e2 o2
    exact ok.dis i j s t ds es a hij e1 e2 o1 o2 (by rw [wipe_out h1]; exact q1) (by rw [wipe_out h2]; exact q2)
  · obtain ⟨h1, ds, h2⟩ := ok.par i a h
    have hi : i ∉ vs := fun hi => by
      rw [wipe_at hi (by rw [ok0.len, ← hl]; exact (List.getElem?_eq_some_iff.mp h2).1)] at h1; cases h1
    rw [wipe_out hi] at h1
    exact ⟨h1, ds, by rw [putSlots_out hi]; exact h2⟩
/-- a private object is to stay as it is -/
def Fr.keep (fr : Fr) (a : Addr) (o : HO) : Fr := { fr with Z := fun b u => fr.Z b u ∨ (b = a ∧ u = o) }
structure Priv (fr : Fr) (F : Addr → Prop) (H : Hp) (σ : L2.St) (r : Env) (a : Addr) (o : HO) : Prop where
  at_ : H a = some o
  nf : ¬ F a
  nz : ∀ u, ¬ fr.Z a u
  ns : ∀ (i : Nat) (s : Slot) (es : List D), r[i]? = some s → s.opn = some es → σ[i]? ≠ some (some (V.ref a))
theorem Ok.keeping (ok : Ok G fr F H σ r) {a : Addr} {o : HO} (p : Priv fr F H σ r a o) : Ok G (fr.keep a o) F H σ r := by
  refine ⟨ok.fin, ok.grow, fun b u z => ?_, ok.len, fun i s e => ?_, ok.dis, ok.par⟩
  · rcases z with z | ⟨rfl, rfl⟩
    · exact ok.prot b u z
    · exact ⟨p.at_, p.nf⟩
  · have z := ok.sl i s e
    cases s with
    | un => trivial
    | v d => exact z
    | o ds =>
      obtain ⟨b, vs, e1, e2, e3, e4, e5⟩ := z
      exact ⟨b, vs, e1, e2, e3, fun u q => by
        rcases q with q | ⟨rfl, _⟩
        · exact e4 u q
        · exact p.ns i _ ds e rfl e1, e5⟩
    | p ds =>
      obtain ⟨b, vs, e1, e2, e3, e4, e5, e6⟩ := z
      exact ⟨b, vs, e1, e2, e3, fun u q => by
        rcases q with q | ⟨rfl, _⟩
        · exact e4 u q
        · exact p.ns i _ ds e rfl e1, e5, e6⟩
theorem Ok.kept (ok : Ok G (fr.keep a o) F H σ r) (nz : ∀ u, ¬ fr.Z a u) : Ok G fr F H σ r ∧ Priv fr F H σ r a o := by
  refine ⟨⟨ok.fin, ok.grow, fun b u z => ok.prot b u (.inl z), ok.len, fun i s e => ?_, ok.dis, ok.par⟩, ?_⟩
  · have z := ok.sl i s e
    cases s with
    | un => trivial
    | v d => exact z
    | o ds =>
      obtain ⟨b, vs, e1, e2, e3, e4, e5⟩ := z
      exact ⟨b, vs, e1, e2, e3, fun u q => e4 u (.inl q), e5⟩
    | p ds =>
      obtain ⟨b, vs, e1, e2, e3, e4, e5, e6⟩ := z
      exact ⟨b, vs, e1, e2, e3, fun u q => e4 u (.inl q), e5, e6⟩
  · obtain ⟨h1, h2⟩ := ok.prot a o (.inr ⟨rfl, rfl⟩)
    refine ⟨h1, h2, nz, fun i s es e1 e2 e3 => ?_⟩
    obtain ⟨vs, _, _, z, _⟩ := ok.opn_at e1 e2 e3
    exact z o (.inr ⟨rfl, rfl⟩)
/-- a private object is written -/
theorem Ok.privWrite (ok : Ok G fr F H σ r) {a : Addr} {o o' : HO} (p : Priv fr F H σ r a o) : Ok G fr F (upd H a o') σ r ∧ Priv fr F (upd H a o') σ r a o' ∧ Le F H F (upd H a o') := by
  have l : Le F H F (upd H a o') := fun b hb => ⟨hb, upd_ne fun z => by subst z; exact p.nf hb⟩
  refine ⟨⟨fun b hb => by rw [(l b hb).2]; exact ok.fin b hb, fun b hb => ⟨(ok.grow b hb).1, by rw [(l b (ok.grow b hb).1).2]; exact (ok.grow b hb).2⟩, fun b u z => ?_, ok.len, fun i s e => ?_, ok.dis, ok.par⟩, ⟨upd_same, p.nf, p.nz, p.ns⟩, l⟩
  · obtain ⟨h1, h2⟩ := ok.prot b u z
    exact ⟨by rw [upd_ne (fun q => by subst q; exact p.nz u z)]; exact h1, h2⟩
  · have z := ok.sl i s e
    cases s with
    | un => trivial
    | v d => obtain ⟨v, e1, e2⟩ := z; exact ⟨v, e1, e2.mono l⟩
    | o ds =>
      obtain ⟨b, vs, e1, e2, e3, e4, e5⟩ := z
      exact ⟨b, vs, e1, by rw [upd_ne (fun q => by subst q; exact p.ns i _ ds e rfl e1)]; exact e2, e3, e4, e5.mono l⟩
    | p ds =>
      obtain ⟨b, vs, e1, e2, e3, e4, e5, e6⟩ := z
      exact ⟨b, vs, e1, by rw [upd_ne (fun q => by subst q; exact p.ns i _ ds e rfl e1)]; exact e2, e3, e4, e5.mono l, e6⟩
end
/-- a comprehension's target: it writes its own slots alone -/
structure CT (G : Gc) (g : TG) (gd : D → Env → Option Env) (vs : List Nat) : Prop where
  go : ∀ v σ H (Q : L2.St → Hp → Prop) fr F r x r', Ok G fr F H σ r → Den G F H x v → gd x r = some r' → (∀ σ', wipe σ' vs = wipe σ vs → Ok G fr F H σ' r' → Q σ' H) → g v σ H Q
theorem ct_name {G : Gc} {i : Nat} : CT G (gName i) (gNm i) [i] := ⟨fun v σ H Q fr F r x r' ok d e q => by
  unfold gNm at e
  split at e
  · rename_i h
    cases e
    exact q _ (by simp [wipe]) (ok.storeV (notP_ok h) d)
  · cases e⟩
theorem ct_two {G : Gc} {i j : Nat} : CT G (gTup G.K 2 (gCons (gName i) (gCons (gName j) gNil))) (gTp 2 (gC (gNm i) (gC (gNm j) gN0))) [i, j] := ⟨fun v σ H Q fr F r x r' ok d e q => by
  unfold gTp at e
  split at e
  · rename_i ds
    split at e
    · rename_i hl
      simp only [Den] at d
      obtain ⟨a, vs, rfl, t, dl⟩ := d
      match ds, hl, e, dl with
      | [x, y], _, e, dl =>
        simp only [DenL] at dl
        obtain ⟨v, _, rfl, d1, w, _, rfl, d2, rfl⟩ := dl
        simp only [gC, gNm, gN0] at e
        split at e
        · rename_i h1
          simp only [Option.bind_some] at e
          split at e
          · rename_i h2
            simp only [Option.bind_some] at e
            cases e
            refine ⟨a, _, rfl, t.sq, rfl, v, [w], rfl, w, [], rfl, rfl, ?_⟩
            refine q _ ?_ ((ok.storeV (notP_ok h1) d1).storeV (notP_ok h2) d2)
            simp only [wipe]
            by_cases hij : i = j
            · subst hij; simp
            · rw [List.set_set, List.set_comm (none : Option V) none (Ne.symm hij), List.set_set, List.set_comm (none : Option V) none hij]
          · cases e
        · cases e
    · cases e
  · cases e⟩
def dYes : Env → Res Bool := fun r => .ok true r
def PI1 (X : Cx) (W : WX) (ifs : List Expr) (t : Env → Res Bool) : Prop := L2.PTs X ifs (tR (gc X) W RB t)
theorem q_nil {X : Cx} {W : WX} : PI1 X W [] dYes := ⟨fun pins s σ H Q I ⟨fr, F, r, ok, p⟩ => (pts_nil (X := X)).run pins s σ H Q I (p true H F ok Le.refl rfl)⟩
theorem q_one {X : Cx} {W : WX} {c : Expr} {t : Env → Res Bool} (h : PB X W c t) : PI1 X W [c] t := pts_one h
def dLcL (g : D → Env → Option Env) (t : Env → Res Bool) (e : Env → Res D) (vs : List Nat) : List D → Env → List D → Res (List D)
  | [], r, acc => .ok acc r
  | x :: xs, r, acc => match g x r with
    | none => .bad
    | some r1 => match t r1 with
      | .ok b r2 => if b = true then (match e r2 with
          | .ok y r3 => if (decide (acc.length < 16777216) && notPs r3 vs) = true then dLcL g t e vs xs (wipeR r3 vs) (acc ++ [y]) else .bad
          | _ => .bad) else (if notPs r2 vs = true then dLcL g t e vs xs (wipeR r2 vs) acc else .bad)
      | _ => .bad
def lcFin (r1 : Env) (vs : List Nat) (m : Res (List D)) : Res Val := match m with
  | .ok ys r2 => .ok (.n ys) (putSlots r1 vs r2)
  | _ => .bad
def dLc (di : Env → Res (List D)) (g : D → Env → Option Env) (t : Env → Res Bool) (e : Env → Res D) (vs : List Nat) : Env → Res Val := fun r => (di r).bind fun xs r1 => if plainAt r1 vs = true then lcFin r1 vs (dLcL g t e vs xs (wipeR r1 vs) []) else .bad
theorem lc_rd {X : Cx} {W : WX} {g : TG} {gd : D → Env → Option Env} {di : Env → Res (List D)} {t : Env → Res Bool} {e : Env → Res D} {vs : List Nat} (ct : CT (gc X) g gd vs) {σ : L2.St} {H : Hp} {Q : VK} (p : tV (gc X) W (dLc di gd t e vs) σ H Q) :
    tLc (tR (gc X) W (Draw (gc X)) di) g (tR (gc X) W0 RB t) (tR (gc X) W0 (Den (gc X)) e) vs σ H Q := by
  obtain ⟨fr, F, r, ok, p⟩ := p
  refine ⟨fr, F, r, ok, Post.seqV p fun xs r1 J H1 F1 ok1 l1 q1 p1 => ?_⟩
  split at p1
  · rename_i hpl
    intro a ha
    have nx := Nx.open (o := .lst []) ok1.fin ha
    have okw := (ok1.next nx).wipes (plainAt_notPs hpl)
    have pv : Priv fr F1 (upd H1 a (.lst [])) (wipe σ vs) (wipeR r1 vs) a (.lst []) := by
      refine ⟨upd_same, fun z => absurd ha (ok1.fin a z), fun u z => ?_, fun i s es e1 e2 e3 => ?_⟩
      · have := (ok1.prot a u z).1; rw [ha] at this; cases this
      · have e3' := (wipe_some e3).1
        obtain ⟨ws, z, _⟩ := okw.opn_at e1 e2 e3
        -- an open slot of the block was one of the frame
        have : ∃ s' es', r1[i]? = some s' ∧ s'.opn = some es' := by
          have hi : i ∉ vs := (wipe_some e3).2
          have key : ∀ {vs : List Nat} {i : Nat}, i ∉ vs → (wipeR r1 vs)[i]? = r1[i]? := by
            intro vs
            induction vs with
            | nil => intro i _; rfl
            | cons v vs ih =>
              intro i h
              simp only [List.mem_cons, not_or] at h
              unfold wipeR
              rw [List.getElem?_set_ne (Ne.symm h.1)]
              exact ih h.2
          rw [key hi] at e1
          exact ⟨s, es, e1, e2⟩
        obtain ⟨s', es', g1, g2⟩ := this
        obtain ⟨us, y, _⟩ := ok1.opn_at g1 g2 e3'
        rw [ha] at y; cases y
    have l0 : Le F1 H1 F1 (upd H1 a (.lst [])) := nx.toLe ok1.fin
    refine ⟨fun i m H2 => ∃ F2 r2 acc accv, i + m = xs.length ∧ Ok (gc X) fr F2 H2 (wipe σ vs) r2 ∧ Priv fr F2 H2 (wipe σ vs) r2 a (.lst accv) ∧ DenL (gc X) F2 H2 acc accv ∧ Le F1 H1 F2 H2 ∧ PostV (gc X) W fr F2 H2 σ (lcFin r1 vs (dLcL gd t e vs (xs.drop i) r2 acc)) Q,
      ⟨xs.length, F1, _, [], [], by omega, okw, pv, by simp only [DenL], l0, PostV.le l0 (by simpa using p1)⟩, fun i m H2 ⟨F2, r2, acc, accv, em, ok2, pv2, da, l2, p2⟩ => ?_⟩
    obtain ⟨go, stop⟩ := q1 F2 H2 l2 ok2.fin
    by_cases hi : i < xs.length
    · obtain ⟨g1, g2⟩ := go i _ (List.getElem?_eq_getElem hi)
      rw [List.drop_eq_getElem_cons hi] at p2
      refine .inr ⟨g1, fun H3 => ∃ F3 r3 acc' accv', Ok (gc X) fr F3 H3 (wipe σ vs) r3 ∧ Priv fr F3 H3 (wipe σ vs) r3 a (.lst accv') ∧ DenL (gc X) F3 H3 acc' accv' ∧ Le F1 H1 F3 H3 ∧ PostV (gc X) W fr F3 H3 σ (lcFin r1 vs (dLcL gd t e vs (xs.drop (i + 1)) r3 acc')) Q,
        fun H3 ⟨F3, r3, acc', accv', z1, z2, z3, z4, z5⟩ => ⟨m - 1, by omega, F3, r3, acc', accv', by omega, z1, z2, z3, z4, z5⟩, fun v H3 hy => ?_⟩
      obtain ⟨F3, n3, d3⟩ := g2 v H3 hy
      have le3 := n3.toLe ok2.fin
      have ok3 := (ok2.keeping pv2).next n3
      unfold dLcL at p2
      cases eg : gd xs[i] r2 with
      | none => rw [eg] at p2; exact p2.elim
      | some r3 =>
        rw [eg] at p2
        refine ct.go v _ H3 _ (fr.keep a (.lst accv)) F3 r2 xs[i] r3 ok3 d3 eg fun σ4 ew ok4 => ?_
        rw [wipe_wipe] at ew
        refine ⟨ew, fr.keep a (.lst accv), F3, r3, ok4, ?_⟩
        simp only at p2
        cases et : t r3 with
        | ok b r4 =>
          rw [et] at p2
          intro b' H5 F5 ok5 l5 eb
          have eb : b' = b := eb
          subst eb
          simp only at p2
          have P5 := PostV.le (le3.trans l5) p2
          cases b' with
          | true =>
            simp only [if_true] at P5
            refine ⟨fr.keep a (.lst accv), F5, r4, ok5, ?_⟩
            cases ee : e r4 with
            | ok y r5 =>
              rw [ee] at P5
              intro u H6 F6 ok6 l6 dy
              simp only at P5
              split at P5
              · rename_i hc
                rw [Bool.and_eq_true, decide_eq_true_eq] at hc
                obtain ⟨ok6', pv6⟩ := ok6.kept pv2.nz
                have ow := ok6'.wipes hc.2
                rw [ew] at ow
                have pw : Priv fr F6 H6 (wipe σ vs) (wipeR r5 vs) a (.lst accv) := by
                  have ok6w := ok6.wipes hc.2
                  rw [ew] at ok6w
                  exact (ok6w.kept pv2.nz).2
                have lall : Le F2 H2 F6 H6 := le3.trans (l5.trans l6)
                obtain ⟨okn, pvn, ln⟩ := ow.privWrite (o' := .lst (accv ++ [u])) pw
                refine ⟨accv, pv6.at_, by rw [da.length, line_eq]; exact hc.1, F6, _, acc ++ [y], accv ++ [u], okn, pvn, ?_, l2.trans (lall.trans ln), PostV.le (l6.trans ln) P5⟩
                exact ((da.mono lall).append (.one dy)).mono ln
              · exact P5.elim
            | err x r5 => rw [ee] at P5; exact P5.elim
            | bad => rw [ee] at P5; exact P5.elim
          | false =>
            simp only [Bool.false_eq_true, if_false] at P5
            split at P5
            · rename_i hn
              have ok5w := ok5.wipes hn
              rw [ew] at ok5w
              obtain ⟨okn, pvn⟩ := ok5w.kept pv2.nz
              exact ⟨F5, _, acc, accv, okn, pvn, da.mono (le3.trans l5), l2.trans (le3.trans l5), P5⟩
            · exact P5.elim
        | err x r4 => rw [et] at p2; exact p2.elim
        | bad => rw [et] at p2; exact p2.elim
    · refine .inl ⟨stop i (by omega), ?_⟩
      rw [List.drop_eq_nil_of_le (by omega)] at p2
      refine p2 (.ref a) H2 F2 (ok1.unwipe hpl ok2 l2) Le.refl ⟨a, accv, rfl, pv2.at_, pv2.nf, pv2.nz, da, fun i s es e1 e2 e3 => ?_⟩
      have okf := ok1.unwipe hpl ok2 l2
      obtain ⟨us, y1, y2, y3, y4⟩ := okf.opn_at e1 e2 e3
      -- a was not there when the frame's slots were filled
      have hl : r2.length = r1.length := by rw [← ok2.len, wipe_length, ok1.len]
      by_cases hiv : i ∈ vs
      · rw [putSlots_in hiv hl] at e1
        obtain ⟨ws, y, _⟩ := ok1.opn_at e1 e2 e3
        rw [ha] at y; cases y
      · rw [putSlots_out hiv] at e1
        exact pv2.ns i s es e1 e2 (by rw [wipe_out hiv]; exact e3)
  · exact (show False from p1).elim
section
variable {X : Cx} {W : WX} {pos : Pos}
theorem v_lc {elt tg iter : Expr} {ifs : List Expr} {scope : Scope} {own : List (Str × Nat)} {di : Env → Res (List D)} {g : TG} {gd : D → Env → Option Env} {t : Env → Res Bool} {e : Env → Res D} (hc : X.calm = true) (hN : X.N.Nodup) (hi : PIt X W tg iter di) (ok : BlkOk X.N X.env.scope scope own)
    (ct : CT (gc X) g gd (own.map (·.2))) (hg : ∀ (s : Shared) (H : Hp) (C : Addr) (cl : List (Str × Addr)) (fp : List Addr), PG (X.blk s H scope (compEnvC scope cl C X.env) fp) tg g)
    (ht : ∀ (s : Shared) (H : Hp) (C : Addr) (cl : List (Str × Addr)) (fp : List Addr), PI1 (X.blk s H scope (compEnvC scope cl C X.env) fp) W0 ifs t) (he : ∀ (s : Shared) (H : Hp) (C : Addr) (cl : List (Str × Addr)) (fp : List Addr), PX (X.blk s H scope (compEnvC scope cl C X.env) fp) W0 elt e)
    (hs : ∀ x, foldedSetIterable iter X.env x = pure x := by intro _; rfl) : PV X W (.ListComp elt [⟨tg, iter, ifs, 0⟩] scope pos) (dLc di gd t e (own.map (·.2))) :=
  pe_weak (pe_lc (tt := tR (gc X) W0 RB t) (te := tR (gc X) W0 (Den (gc X)) e) hc hN hi ok hg (fun s H C cl fp => ht s H C cl fp) (fun s H C cl fp => he s H C cl fp) hs) fun σ H Q p => lc_rd ct p
/-- name = [..] on one line -/
theorem s_setLc {i : Nat} {y : Str} {py spos : Pos} {elt tg iter : Expr} {ifs : List Expr} {scope : Scope} {own : List (Str × Nat)} {di : Env → Res (List D)} {g : TG} {gd : D → Env → Option Env} {t : Env → Res Bool} {e : Env → Res D} (hc : X.calm = true) (hN : X.N.Nodup) (hy : X.N[i]? = some y) (hyl : X.env.scope.names.lookup y = some .local)
    (hsw : swapsWith (.ListComp elt [⟨tg, iter, ifs, 0⟩] scope pos) (some (.Name y py)) spos.line X.env = pure true) (hi : PIt X W tg iter di) (ok : BlkOk X.N X.env.scope scope own)
    (ct : CT (gc X) g gd (own.map (·.2))) (hg : ∀ (s : Shared) (H : Hp) (C : Addr) (cl : List (Str × Addr)) (fp : List Addr), PG (X.blk s H scope (compEnvC scope cl C X.env) fp) tg g)
    (ht : ∀ (s : Shared) (H : Hp) (C : Addr) (cl : List (Str × Addr)) (fp : List Addr), PI1 (X.blk s H scope (compEnvC scope cl C X.env) fp) W0 ifs t) (he : ∀ (s : Shared) (H : Hp) (C : Addr) (cl : List (Str × Addr)) (fp : List Addr), PX (X.blk s H scope (compEnvC scope cl C X.env) fp) W0 elt e)
    (hs : ∀ x, foldedSetIterable iter X.env x = pure x := by intro _; rfl) : PT1 X W (.Assign [.Name y py] (.ListComp elt [⟨tg, iter, ifs, 0⟩] scope pos) spos) (dSet i (dLc di gd t e (own.map (·.2)))) :=
  ps_weak (ps_setLc (tt := tR (gc X) W0 RB t) (te := tR (gc X) W0 (Den (gc X)) e) hc hN hy hyl hsw hi ok hg (fun s H C cl fp => ht s H C cl fp) (fun s H C cl fp => he s H C cl fp) hs) fun E σ H ⟨fr, F, r, ok, p⟩ => by
    refine lc_rd (W := W) ct ⟨fr, F, r, ok, PostV.toS p fun x r1 v H1 F1 ok1 l1 q1 p1 => ?_⟩
    split at p1
    · rename_i h
      cases x with
      | v d => exact p1 _ H1 F1 (ok1.storeV (notP_ok h) q1) Le.refl
      | n ds => exact p1 _ H1 F1 (ok1.storeN (notP_ok h) q1) Le.refl
    · exact (show False from p1).elim
end
end Py
end

section
set_option maxHeartbeats 400000
namespace Py
open PySem PySem.Spec PyProof.Rows L2

/-! ## What the top has left: classes of exceptions, defs -/
def dO {α : Type} [DecidableEq α] (a b : α) : Bool := decide (a = b)
def pxB (K : PySem.W.Frag) (C : Addr) : Bool :=
  decide (PySem.W.findIn K (.ref C) "__getattribute__" = some (some (.builtin "BaseException.__getattribute__"))) && (decide (PySem.W.findIn K (.ref C) "__getattr__" = some none) && (decide (PySem.W.subIn K (.ref C) (.type "BaseException") = some true) && (PySem.W.hasDictIn K C &&
  (decide (PySem.W.findIn K (.ref C) "__class__" = some (some (.builtin "object.__class__"))) && (decide (PySem.W.specialIn K (.builtin "object.__class__") "__get__" = some (some (.builtin "getset_descriptor.__get__"))) && (decide (PySem.W.takesIn K (.builtin "object.__class__") = some true) && decide (PySem.W.mroIn K C (.type "object") = some true)))))))
theorem pxB_ok {K : PySem.W.Frag} {C : Addr} (h : pxB K C = true) : PySem.W.PxC K C := by
  unfold pxB at h
  simp only [Bool.and_eq_true, decide_eq_true_eq] at h
  obtain ⟨h1, h2, h3, h4, h5, h6, h7, h8⟩ := h
  exact ⟨h1, h2, h3, h4, h5, h6, h7, h8⟩
def oexB (K : PySem.W.Frag) (C : Addr) : Bool := (match K.lookup C with
  | some ⟨.type "type", _, .cls cd, sl⟩ => (match cd.mro, sl.toList with
    | .ref C' :: bm, [_, _, _, _, some (.builtin n), _] => decide (C' = C) && (decide (n = "ValueError.__new__") && (!cd.hasDel && (cd.hasDict && PySem.HandSPX.refsVE bm)))
    | _, _ => false)
  | _ => false) && (decide (PySem.W.findIn K (.ref C) "__setattr__" = some (some (.builtin "object.__setattr__"))) && (decide (PySem.W.subIn K (.ref C) (.type "BaseException") = some true) && (decide (PySem.W.typeIn K (.ref C) = some (.type "type")) && PySem.W.keepIn K (.ref C))))
theorem oexB_ok {K : PySem.W.Frag} {C : Addr} (h : oexB K C = true) : OexC K C := by
  unfold oexB at h
  rw [Bool.and_eq_true] at h
  obtain ⟨h0, h⟩ := h
  simp only [Bool.and_eq_true, decide_eq_true_eq] at h
  obtain ⟨h1, h2, h3, h4⟩ := h
  refine ⟨?_, h1, h2, h3, h4⟩
  split at h0
  · rename_i dd cd sl e
    split at h0
    · rename_i C' bm k0 k1 k2 k3 n k5 e1 e2
      simp only [Bool.and_eq_true, decide_eq_true_eq, Bool.not_eq_true'] at h0
      obtain ⟨rfl, rfl, a, b, c⟩ := h0
      obtain ⟨nm, bs, mro, ns, q, hd, sn, sub, ab, col, del⟩ := cd
      simp only at e1 a b
      subst e1 a b
      have es : sl = #[k0, k1, k2, k3, some (.builtin "ValueError.__new__"), k5] := by rw [← e2]
      subst es
      exact ⟨_, _, _, _, _, _, _, _, _, _, _, _, _, _, _, e, c⟩
    · cases h0
  · cases h0
def allTy : List Ty := [.int, .bool, .str, .tup, .lst, .dct, .non, .verr]
theorem mem_allTy (t : Ty) : t ∈ allTy := by cases t <;> decide
def excB (K : PySem.W.Frag) (T : Tbl) (fields : List Str) : Bool := T.all fun p =>
  decide (PySem.W.nsIn K mainGlobals p.1 = some (some (.ref (He.ga K p.1)))) && (pxB K (He.ga K p.1) &&
  ((T.all fun q => decide (PySem.W.kitOne K (.ref (He.ga K p.1)) (.ref (He.ga K q.1)) = some (p.2.contains q.1)) && decide (PySem.W.exmOne K (.ref (He.ga K p.1)) (.ref (He.ga K q.1)) = some (p.2.contains q.1))) &&
  ((allTy.all fun t => decide (PySem.W.kitOne K (.ref (He.ga K p.1)) (.type t.nm) = some (t == .verr)) && (t == .verr || decide (PySem.W.kitOne K (.type t.nm) (.ref (He.ga K p.1)) = some false))) &&
  (fields.all fun f => decide (PySem.W.findIn K (.ref (He.ga K p.1)) f = some none)))))
theorem lookup_mem {T : Tbl} {n : Str} {anc : List Str} (h : T.lookup n = some anc) : (n, anc) ∈ T := by
  induction T with
  | nil => cases h
  | cons p T ih =>
    obtain ⟨m, a⟩ := p
    simp only [List.lookup] at h
    by_cases e : n == m
    · rw [e] at h; cases h; rw [beq_iff_eq.mp e]; exact List.mem_cons_self
    · have e' : (n == m) = false := by simpa using e
      rw [e'] at h; exact List.mem_cons_of_mem _ (ih h)
theorem excB_ok {K : PySem.W.Frag} {h : Heap} {mg : Str → Option Value} {T : Tbl} {fields : List Str} (X : K.In h) (G : h.Ns mainGlobals mg) (e : excB K T fields = true) :
    ExcT K mg T ∧ (∀ n anc, T.lookup n = some anc → mg n = some (.ref (He.ga K n))) ∧ ∀ f ∈ fields, ∀ n anc C, T.lookup n = some anc → mg n = some (.ref C) → PySem.W.findIn K (.ref C) f = some none := by
  unfold excB at e
  rw [List.all_eq_true] at e
  have ff : ∀ n anc, T.lookup n = some anc → _ := fun n anc hl => e (n, anc) (lookup_mem hl)
  have gl : ∀ n anc, T.lookup n = some anc → mg n = some (.ref (He.ga K n)) := fun n anc hl => by
    have q := ff n anc hl
    simp only [Bool.and_eq_true, decide_eq_true_eq] at q
    exact PySem.W.mg_of X G q.1
  refine ⟨⟨fun n anc hl => ?_⟩, gl, fun f hf n anc C hl hC => ?_⟩
  · have q := ff n anc hl
    simp only [Bool.and_eq_true] at q
    obtain ⟨q1, q2, q3, q4, q5⟩ := q
    refine ⟨He.ga K n, gl n anc hl, pxB_ok q2, fun m anc' hm D hD => ?_, fun t => ?_, fun t ht => ?_⟩
    · rw [gl m anc' hm] at hD; cases hD
      have z := List.all_eq_true.mp q3 (m, anc') (lookup_mem hm)
      simp only [Bool.and_eq_true, decide_eq_true_eq] at z
      exact z
    · have z := List.all_eq_true.mp q4 t (mem_allTy t)
      simp only [Bool.and_eq_true, decide_eq_true_eq] at z
      exact z.1
    · have z := List.all_eq_true.mp q4 t (mem_allTy t)
      simp only [Bool.and_eq_true, decide_eq_true_eq, Bool.or_eq_true] at z
      rcases z.2 with z | z
      · exact absurd (by simpa using z) ht
      · exact z
  · rw [gl n anc hl] at hC; cases hC
    have q := ff n anc hl
    simp only [Bool.and_eq_true] at q
    obtain ⟨q1, q2, q3, q4, q5⟩ := q
    exact of_decide_eq_true (List.all_eq_true.mp q5 f hf)
/-- the classes that are raised: their makers -/
def mkB (K : PySem.W.Frag) (n : Str) : Bool := oexB K (He.ga K n) && (decide (PySem.W.findIn K (.ref (He.ga K n)) "__init__" = some (some (.ref (He.ma K (He.ga K n) "__init__")))) && decide (PySem.W.typeIn K (.ref (He.ma K (He.ga K n) "__init__")) = some (.type "function")))
/-- all that is to be read off the top -/
structure Top where
  fa : List He.Fa
  fn : List He.DefD
  T : Tbl
  fields : List Str
  raised : List Str
abbrev Top.Al : Type := Bool × He.AlD
def Top.obs (t : Top) (K : PySem.W.Frag) : Top.Al := (excB K t.T t.fields && t.raised.all fun n => mkB K n, He.obsD t.fa t.fn K)
def Top.val (t : Top) : Top.Al := (true, He.valD t.fn)
def Top.Says (t : Top) (K : PySem.W.Frag) : Prop := t.obs K = t.val
def Top.obsG (t : Top) (n : Nat) (g : Addr → Option Obj) : Top.Al := t.obs (He.frG g (He.asD g n))
def Top.hook (t : Top) (n : Nat) : PySem.W.Hook where
  α := Top.Al
  obs := fun s => t.obsG n s.heap.get?
  val := fun _ => t.val
  says := fun _ h => ∃ K : PySem.W.Frag, K.In h ∧ t.Says K
  of := fun _ _ e => ⟨_, He.frG_in, e⟩
  keeps := fun _ _ _ ⟨K, hK, c⟩ k => ⟨K, PySem.W.Frag.In.keeps hK k, c⟩
theorem Top.obsG_eq {t : Top} {n : Nat} {g : Addr → Option Obj} {s : Shared} (h : ∀ a, g a = s.heap.get? a) : t.obsG n g = (t.hook n).obs s := by
  have e : g = s.heap.get? := funext h
  rw [e] <;> rfl
section
variable {t : Top} {K : PySem.W.Frag}
theorem Top.Says.d (c : t.Says K) : He.SaysD t.fa t.fn K := congrArg (fun z : Top.Al => z.2) c
theorem Top.Says.exc (c : t.Says K) : excB K t.T t.fields = true := by
  have := congrArg (fun z : Top.Al => z.1) c
  exact (Bool.and_eq_true_iff.mp this).1
theorem Top.Says.mk (c : t.Says K) {n : Str} (h : n ∈ t.raised) : mkB K n = true := by
  have := congrArg (fun z : Top.Al => z.1) c
  exact List.all_eq_true.mp (Bool.and_eq_true_iff.mp this).2 n h
end
/-- what stands behind the top, for the walks -/
structure Env1 (t : Top) (K : PySem.W.Frag) (mg : Str → Option Value) : Prop where
  says : t.Says K
  ex : ∃ h : Heap, K.In h ∧ h.Ns mainGlobals mg
section
variable {t : Top} {K : PySem.W.Frag} {mg : Str → Option Value} (e : Env1 t K mg)
include e
theorem Env1.free {x : Str} (i : Nat) (h : t.fa[i]? = some (.free x) := by rfl) : mg x = none := by
  obtain ⟨hp, X, G⟩ := e.ex
  exact He.free_ok X G (e.says.d.fact i h)
theorem Env1.tbl : ExcT K mg t.T := by
  obtain ⟨hp, X, G⟩ := e.ex
  exact (excB_ok X G e.says.exc).1
theorem Env1.cls {n : Str} {anc : List Str} (h : t.T.lookup n = some anc := by rfl) : mg n = some (.ref (He.ga K n)) := by
  obtain ⟨hp, X, G⟩ := e.ex
  exact (excB_ok X G e.says.exc).2.1 n anc h
theorem Env1.fld {f : Str} (h : f ∈ t.fields) : ∀ n anc C, t.T.lookup n = some anc → mg n = some (.ref C) → PySem.W.findIn K (.ref C) f = some none := by
  obtain ⟨hp, X, G⟩ := e.ex
  exact (excB_ok X G e.says.exc).2.2 f h
end
/-- a def of the text: what it is worth -/
structure DefOk (P : Program) (w : World) (K : PySem.W.Frag) (mg : Str → Option Value) (base : Heap) (k : Nat) (x : Str) (n : Nat) (fn : Fn) : Prop where
  ex : ∃ f fd ps, FnOk P w K mg base (L2.CX P w) k f fd ps (spF ⟨K, mg⟩ n fn) ∧ mg x = some (.ref f) ∧ PySem.W.keepIn K (.ref f) = true ∧ Binds K fd ps []
section
variable {P : Program} {w : World} {base : Heap} {t : Top} {K : PySem.W.Frag} {mg : Str → Option Value}
theorem fn_okD {x qual : Str} {st : Stmt} {f : Addr} {fd : FuncData} {N ps : List Str} {k : Nat} {body : Env → SRes} (Fu : FunD K x qual (defArgs st) (defBody st) (defScope st) [] [] f fd) (S : FnScope N ps (defScope st)) (hN : ps.length ≤ N.length)
    (hb : ∀ (cdv : Value) (A : Around) (outer : List PySem.Env) (s : Shared) (H : Hp) (E : XK), Room k (A.deeper (envOfC qual (defScope st) s.heap.objs.size f cdv)) → PTs (cxOf (L2.CX P w) P w K mg base N qual (defScope st) f cdv A outer s H E) (wD E) (defBody st) body) :
    FnOk P w K mg base (L2.CX P w) (k + 1) f fd ps (spF ⟨K, mg⟩ ps.length (runD N.length body)) := by
  obtain ⟨oc, od, dV, kV, doc, pm, an, cdv, ct, osl, rfl, lk, hcd, hD, hK⟩ := Fu.ex
  refine fn_of lk hcd S (fun vs H Q E h => ?_) fun A outer s H vs Q E hr h => ?_
  · obtain ⟨F, args, h1, _, h2, _⟩ := h
    rw [h2.len, h1]
  · refine ⟨_, hb _ A outer s H E hr, ?_⟩
    obtain ⟨F, args, h1, k0, h2, h3⟩ := h
    refine ⟨frOf F H args vs, F, args ++ List.replicate (N.length - args.length) Slot.un, Ok.enter (N := N) k0 h2 (by omega), ?_⟩
    unfold runD at h3
    cases e : body (args ++ List.replicate (N.length - args.length) .un) with
    | nx r => rw [e] at h3; exact fun σ' H' F' ok l => h3 .non H' F' (ok.leave l) (by simp only [Den])
    | rt x r => rw [e] at h3; exact fun v σ' H' F' ok l d => h3 v H' F' (ok.leave l) d
    | rn ds r =>
      rw [e] at h3
      intro v σ' H' F' ok l ⟨a, ws, ev, d1, d2, d3, d4, d5⟩
      subst ev
      refine h3 a ws H' F' (ok.leave l) d1 d2 ?_ d4
      cases q : H a with
      | none => rfl
      | some o =>
        by_cases hp : ∃ (i : Nat) (ds : List D), args[i]? = some (.p ds) ∧ vs[i]? = some (.ref a)
        · obtain ⟨i, ds', g1, g2⟩ := hp
          obtain ⟨q1, es, q2⟩ := ok.par i a ⟨⟨ds', g1⟩, g2⟩
          exact absurd q1 (d5 i _ es q2 rfl)
        · by_cases hF : F a
          · exact absurd (l a hF).1 d2
          · exact absurd ⟨q, hF, fun i ds' g1 g2 => hp ⟨i, ds', g1, g2⟩⟩ (d3 o)
    | err x r => rw [e] at h3; exact fun c dd σ' H' F' ok l d => h3 c dd H' F' (ok.leave l) d
    | bk r => rw [e] at h3; exact h3.elim
    | ct r => rw [e] at h3; exact h3.elim
    | bad => rw [e] at h3; exact h3.elim
/-- a def from what the top says of it -/
theorem def_of {x : Str} {st : Stmt} {N ps : List Str} {k : Nat} {body : Env → SRes} (e : Env1 t K mg) (i j : Nat) (hd : t.fn[i]? = some ⟨(x, none), x, x, defArgs st, defBody st, defScope st, [], []⟩) (hg : t.fa[j]? = some (.glo x)) (S : FnScope N ps (defScope st)) (hN : ps.length ≤ N.length)
    (bi : ∀ (kV doc pm : Value) (an : Option Addr) (cdv ct : Value) (us : List Value), us.length = ps.length → bindArgs (PySem.W.fnOf x x (defArgs st) (defBody st) (defScope st) .none kV doc pm an cdv ct) ⟨us, []⟩ = pure (ps.zip us))
    (hb : ∀ (f : Addr) (cdv : Value) (A : Around) (outer : List PySem.Env) (s : Shared) (H : Hp) (E : XK), Room k (A.deeper (envOfC x (defScope st) s.heap.objs.size f cdv)) → PTs (cxOf (L2.CX P w) P w K mg base N x (defScope st) f cdv A outer s H E) (wD E) (defBody st) body) :
    DefOk P w K mg base (k + 1) x ps.length (runD N.length body) := by
  obtain ⟨fd, Fu⟩ := e.says.d.def_ i hd
  obtain ⟨hp, X, G⟩ := e.ex
  exact ⟨_, fd, ps, fn_okD Fu S hN (hb _), He.glo_ok X G (e.says.d.fact j hg), Fu.kp, FunD.bindsN Fu bi⟩
theorem v_callD {X : Cx} {W : WX} {pos : Pos} {k n : Nat} {fn : Fn} {x : Str} {p : Pos} {e : Expr} {es : List Expr} {ds : Env → Res (List Arg)} (Do : DefOk X.prog X.w X.K X.mg X.base k x n fn) (hr : Room k X.A) (hg : Gl X x) (tk : Takes X W) (ha : PLA X W (e :: es) ds) (hds : ALen ds n)
    (hl : (e :: es).length = n := by rfl) (hdb : (x == ("__debug__" : Str)) = false := by decide) (he : starEach (e :: es) X.env = (false, eval e X.env) :: starEach es X.env := by rfl) (hpl : (backTo pos (starEach es X.env)).any (·.1) = false := by rfl) : PV X W (.Call (.Name x p) (e :: es) [] pos) (dCall fn ds) := by
  obtain ⟨f, fd, ps, h1, h2, h3, h4⟩ := Do.ex
  exact v_call h1 hr hg h2 h3 h4 tk ha hl hdb he hpl hds
/-- the maker of an exception class -/
theorem init_ok {n f : Str} {st : Stmt} {C fI : Addr} {fd : FuncData} {p0 p1 : Str} (Fu : FunD K "__init__" (n ++ ".__init__") (defArgs st) (defBody st) (defScope st) [] [] fI fd) (S : FnScope [p0, p1] [p0, p1] (defScope st)) (T : OexC K C) (hno : PySem.W.findIn K (.ref C) f = some none)
    (hb : ∀ X : Cx, X.K = K → X.N = [p0, p1] → X.env.scope = defScope st → PSs X (defBody st) (tOst X.K f (tVar 0) (tVar 1))) : FnOk P w K mg base (L2.CX P w) 1 fI fd [p0, p1] (spI C f) := by
  obtain ⟨oc, od, dV, kV, doc, pm, an, cdv, ct, osl, rfl, lk, hcd, hD, hK⟩ := Fu.ex
  refine fn_of lk hcd S (fun vs H Q E h => ?_) fun A outer s H vs Q E hr h => ⟨_, hb _ rfl rfl rfl, init_rd T hno h rfl⟩
  obtain ⟨a, v, rfl, _⟩ := h
  rfl
end
end Py
end

section
set_option maxHeartbeats 400000
namespace Py
open PySem PySem.Spec PyProof.Rows L2
section
variable {X : Cx} {W : WX} {pos : Pos}
/-! ## A list handed on by its name -/
def dMove (i : Nat) : Env → Res Val := fun r => match r[i]? with
  | some (.v d) => .ok (.v d) r
  | some (.o ds) => .ok (.n ds) (r.set i .un)
  | _ => .bad
theorem v_move (i : Nat) {x : Str} (h : PE X (.Name x pos) (tVar i)) : PV X W (.Name x pos) (dMove i) :=
  pe_weak h fun σ H Q ⟨fr, F, r, ok, p⟩ => by
    unfold dMove at p
    split at p
    · rename_i d e
      obtain ⟨v, h1, h2⟩ := ok.sl i _ e
      exact ⟨v, h1, p v H F ok Le.refl h2⟩
    · rename_i ds e
      obtain ⟨a, vs, h1, h2, h3, h4, h5⟩ := ok.sl i _ e
      refine ⟨.ref a, h1, p (.ref a) H F (ok.unset fun es z => by rw [e] at z; cases z) Le.refl ⟨a, vs, rfl, h2, h3, h4, h5, fun j s es e1 e2 e3 => ?_⟩⟩
      by_cases hj : i = j
      · subst hj
        rw [List.getElem?_set_self (List.getElem?_eq_some_iff.mp e).1] at e1; cases e1; cases e2
      · rw [List.getElem?_set_ne hj] at e1
        exact ok.dis i j _ _ ds es a hj e e1 rfl e2 h1 e3
    · exact p.elim
/-! ## tuple(range(..)), list(range(..)) -/
theorem rgV_den {G : Gc} {F : Addr → Prop} {H : Hp} (a b : Int) : DenL G F H (intsD a (b - a).toNat) (rgV a b) := by
  unfold intsD rgV
  generalize (b - a).toNat = n
  have : ∀ l : List Nat, DenL G F H (l.map fun (k : Nat) => D.int (a + (k : Int))) (l.map fun i => V.int (a + (i : Nat))) := by
    intro l
    induction l with
    | nil => simp [DenL]
    | cons x l ih => simp only [List.map_cons, DenL]; exact ⟨_, _, rfl, by simp only [Den], ih⟩
  exact this _
noncomputable def rgB (a b : Int) : Bool := inR a && (inR b && decide ((b - a).toNat ≤ 16777216))
theorem rgB_ok {a b : Int} (h : rgB a b = true) : RgOk a b := by
  unfold rgB at h
  simp only [Bool.and_eq_true, decide_eq_true_eq] at h
  have h1 := inR_ok h.1
  have h2 := inR_ok h.2.1
  exact ⟨h1.1, h1.2, h2.1, h2.2, by have := h.2.2; omega⟩
noncomputable def fTupRg (a b : Int) : Option D := if rgB a b = true then some (.tup (intsD a (b - a).toNat)) else none
noncomputable def dTupRg1 (d : Env → Res D) : Env → Res D := fun r => (d r).bind fun x r => match x with
  | .int j => Res.of (fTupRg 0 j) r
  | _ => .bad
noncomputable def dTupRg2 (da db : Env → Res D) : Env → Res D := fun r => (da r).bind fun x r => (db r).bind fun y r => match x, y with
  | .int i, .int j => Res.of (fTupRg i j) r
  | _, _ => .bad
theorem tuprg_end {fr F H σ r} {Q : VK} (ok : Ok (gc X) fr F H σ r) {a b : Int} (p : Post (gc X) W (Den (gc X)) fr F H σ (Res.of (fTupRg a b) r) Q) : RgOk a b ∧ ∀ q, H q = none → Q (.ref q) (upd H q (.tup (rgV a b))) := by
  obtain ⟨z, e, g⟩ := post_of ok p
  unfold fTupRg at e
  split at e
  · rename_i h
    cases e
    exact ⟨rgB_ok h, fun q hq => g _ _ _ (Nx.frz ok.fin hq) (den_newt hq ok.fin (rgV_den a b))⟩
  · cases e
theorem x_tupRg1 {a : Expr} {d : Env → Res D} {p p2 pos2 : Pos} (hc : X.calm = true) (hg : Gl X "tuple") (hm : X.mg "tuple" = none) (hg2 : Gl X "range") (hm2 : X.mg "range" = none) (ha : PX X W a d) (na : starEach [a] X.env = (false, eval a X.env) :: starEach [] X.env := by rfl)
    (nt : starEach [.Call (.Name "range" p2) [a] [] pos2] X.env = (false, eval (.Call (.Name "range" p2) [a] [] pos2) X.env) :: starEach [] X.env := by rfl) : PX X W (.Call (.Name "tuple" p) [.Call (.Name "range" p2) [a] [] pos2] [] pos) (dTupRg1 d) :=
  pe_weak (pe_tupRg hc hg hm (prg_1 hg2 hm2 ha na) nt) fun σ H Q ⟨fr, F, r, ok, p⟩ => ⟨fr, F, r, ok, Post.seq p fun x r1 v H1 F1 ok1 l1 q1 p1 => by
    cases x with
    | int j =>
      simp only [Den] at q1
      subst q1
      exact ⟨j, rfl, tuprg_end ok1 p1⟩
    | _ => exact (show False from p1).elim⟩
theorem x_tupRg2 {a b : Expr} {da db : Env → Res D} {p p2 pos2 : Pos} (hc : X.calm = true) (hg : Gl X "tuple") (hm : X.mg "tuple" = none) (hg2 : Gl X "range") (hm2 : X.mg "range" = none) (ha : PX X W a da) (hb : PX X W b db) (na : starEach [a, b] X.env = (false, eval a X.env) :: starEach [b] X.env := by rfl)
    (nb : starEach [b] X.env = (false, eval b X.env) :: starEach [] X.env := by rfl) (hp : (backTo pos2 (starEach [b] X.env)).any (·.1) = false := by rfl)
    (nt : starEach [.Call (.Name "range" p2) [a, b] [] pos2] X.env = (false, eval (.Call (.Name "range" p2) [a, b] [] pos2) X.env) :: starEach [] X.env := by rfl) : PX X W (.Call (.Name "tuple" p) [.Call (.Name "range" p2) [a, b] [] pos2] [] pos) (dTupRg2 da db) :=
  pe_weak (pe_tupRg hc hg hm (prg_2 hg2 hm2 ha hb na nb hp) nt) fun σ H Q ⟨fr, F, r, ok, p⟩ => ⟨fr, F, r, ok, Post.seq p fun x r1 v H1 F1 ok1 l1 q1 p1 => ⟨fr, F1, r1, ok1, Post.seq p1 fun y r2 u H2 F2 ok2 l2 q2 p2 => by
    cases x with
    | int i =>
      cases y with
      | int j =>
        simp only [Den] at q1 q2
        subst q1 q2
        exact ⟨i, j, rfl, rfl, tuprg_end ok2 p2⟩
      | _ => exact (show False from p2).elim
    | _ => exact (show False from p2).elim⟩⟩
/-! ## Slices -/
abbrev RO : (Addr → Prop) → Hp → Option Int → Option Int → Prop := fun _ _ b c => c = b
def PP (X : Cx) (W : WX) (e : Option Expr) (d : Env → Res (Option Int)) : Prop := PO X e (tR (gc X) W RO d)
theorem po_weak {e : Option Expr} {t t' : TO} (h : PO X e t) (w : ∀ σ H Q, t' σ H Q → t σ H Q) : PO X e t' := ⟨fun pins s σ H Q I k => h.run pins s σ H Q I (w σ H Q k)⟩
def dNoP : Env → Res (Option Int) := fun r => .ok none r
def dPart (d : Env → Res D) : Env → Res (Option Int) := fun r => (d r).bind fun x r => match x with
  | .int i => .ok (some i) r
  | _ => .bad
theorem p_none : PP X W none dNoP := po_weak po_none fun σ H Q ⟨fr, F, r, ok, p⟩ => p none H F ok Le.refl rfl
theorem p_some {e : Expr} {d : Env → Res D} (h : PX X W e d) : PP X W (some e) (dPart d) := po_weak (po_some h) fun σ H Q ⟨fr, F, r, ok, p⟩ => ⟨fr, F, r, ok, Post.seq p fun x r1 v H1 F1 ok1 l1 q1 p1 => by
  cases x with
  | int i => simp only [Den] at q1; exact ⟨i, q1, p1 (some i) H1 F1 ok1 Le.refl rfl⟩
  | _ => exact (show False from p1).elim⟩
def cutD (xs : List D) (lo hi : Option Int) : List D := (xs.drop (HT.sIx xs.length 0 lo)).take (HT.sIx xs.length xs.length hi - HT.sIx xs.length 0 lo)
theorem cut_den {G F H} {ds : List D} {vs : List V} (h : DenL G F H ds vs) (lo hi : Option Int) : DenL G F H (cutD ds lo hi) (cutV vs lo hi) := by
  unfold cutD cutV
  rw [h.length]
  exact (h.drop _).take _
def fCut (x : D) (lo hi : Option Int) : Option D := match x with
  | .tup ds => some (.tup (cutD ds lo hi))
  | .lst ds => some (.lst (cutD ds lo hi))
  | .frl ds => some (.lst (cutD ds lo hi))
  | .str y => if y.length ≤ 16777216 then some (.str (cutS y lo hi)) else none
  | _ => none
def dCut (d : Env → Res D) (dl dh : Env → Res (Option Int)) : Env → Res D := fun r => (d r).bind fun x r => (dl r).bind fun lo r => (dh r).bind fun hi r => Res.of (fCut x lo hi) r
theorem x_cut {e : Expr} {lo hi : Option Expr} {p2 : Pos} {d : Env → Res D} {dl dh : Env → Res (Option Int)} (he : PX X W e d) (hl : PP X W lo dl) (hh : PP X W hi dh) : PX X W (.Subscript e (.Slice lo hi none p2) pos) (dCut d dl dh) :=
  pe_weak (pe_slice ((sl_list.or sl_tupA).or sl_str) he hl hh) fun σ H Q ⟨fr, F, r, ok, p⟩ => ⟨fr, F, r, ok, Post.seq p fun x r1 v H1 F1 ok1 l1 q1 p1 => ⟨fr, F1, r1, ok1, Post.seq p1 fun lo r2 lo' H2 F2 ok2 l2 q2 p2 => ⟨fr, F2, r2, ok2, Post.seq p2 fun hi r3 hi' H3 F3 ok3 l3 q3 p3 => by
    have q2 : lo' = lo := q2
    have q3 : hi' = hi := q3
    subst q2 q3
    obtain ⟨z, e, g⟩ := post_of ok3 p3
    have d := q1.mono (l2.trans l3)
    cases x with
    | tup ds =>
      cases e
      simp only [Den] at d
      obtain ⟨a, vs, rfl, t, dl⟩ := d
      refine .inl (.inr ⟨a, vs, rfl, t.sq, fun hw => ?_, fun _ p hp => g _ _ _ (Nx.frz ok3.fin hp) (den_newt hp ok3.fin (cut_den dl _ _))⟩)
      refine g.same ok3.fin ?_
      have : cutD ds lo' hi' = ds := by
        unfold cutD
        rw [dl.length] at hw
        rw [hw.1, hw.2]; simp
      rw [this]
      simp only [Den]
      exact ⟨a, vs, rfl, t, dl⟩
    | lst ds =>
      cases e
      simp only [Den] at d
      obtain ⟨a, vs, rfl, f, t, dl⟩ := d
      exact .inl (.inl ⟨a, vs, rfl, .of t, fun p hp => g _ _ _ (Nx.frz ok3.fin hp) (den_newl hp ok3.fin (cut_den dl _ _))⟩)
    | frl ds =>
      cases e
      simp only [Den] at d
      obtain ⟨a, vs, rfl, t, dl⟩ := d
      exact .inl (.inl ⟨a, vs, rfl, t.sq, fun p hp => g _ _ _ (Nx.frz ok3.fin hp) (den_newl hp ok3.fin (cut_den dl _ _))⟩)
    | str y =>
      simp only [fCut] at e
      split at e
      · rename_i h
        cases e
        simp only [Den] at d
        exact .inr ⟨y, d, by rw [line_eq]; exact h, g.same ok3.fin (by simp only [Den])⟩
      · cases e
    | _ => cases e⟩⟩⟩
def fRev : D → Option D
  | .lst ds => some (.lst ds.reverse)
  | .frl ds => some (.lst ds.reverse)
  | _ => none
theorem x_revL {e : Expr} {d : Env → Res D} {k : Nat} {p1 p2 p3 : Pos} (he : PX X W e d) : PX X W (.Subscript e (.Slice none none (some (.UnaryOp .USub (.Constant (.int 1) k p1) p2)) p3) pos) (dUn fRev d) :=
  pe_weak (pe_revL he) fun σ H Q ⟨fr, F, r, ok, p⟩ => ⟨fr, F, r, ok, Post.seq p fun x r1 v H1 F1 ok1 l1 q1 p1 => by
    obtain ⟨z, e, g⟩ := post_of ok1 p1
    cases x with
    | lst ds =>
      cases e
      simp only [Den] at q1
      obtain ⟨a, vs, rfl, f, t, dl⟩ := q1
      exact ⟨a, vs, rfl, .of t, fun p hp => g _ _ _ (Nx.frz ok1.fin hp) (den_newl hp ok1.fin dl.reverse)⟩
    | frl ds =>
      cases e
      simp only [Den] at q1
      obtain ⟨a, vs, rfl, t, dl⟩ := q1
      exact ⟨a, vs, rfl, t.sq, fun p hp => g _ _ _ (Nx.frz ok1.fin hp) (den_newl hp ok1.fin dl.reverse)⟩
    | _ => cases e⟩
/-! ## Targets: a tuple or a list is unpacked -/
theorem pg_or {tg : Expr} {t u : TG} (h1 : PG X tg t) (h2 : PG X tg u) : PG X tg (fun v σ H Q => t v σ H Q ∨ u v σ H Q) := ⟨fun pins s σ H v x Q I r h => h.elim (h1.run pins s σ H v x Q I r) (h2.run pins s σ H v x Q I r)⟩
def gSq (n : Nat) (b : List D → Env → Option Env) : D → Env → Option Env := fun x r => match itemsOf x with
  | some ds => if ds.length = n then b ds r else none
  | none => none
theorem g_seq {es : List Expr} {k : Nat} {b : List D → Env → Option Env} {n : Nat} (hc : X.calm = true) (h : PGts X es b) (hn : (assignEach es X.env).length = n := by rfl) (hst : (assignEach es X.env).findIdx? (·.1) = none := by rfl) : PGt X (.Tuple es k pos) (gSq n b) :=
  pg_weak (pg_or (pg_tup hc h hn hst) (pg_unl hc h hn hst)) fun v σ H Q ⟨fr, F, r, x, ok, dn, r', e, q⟩ => by
    unfold gSq at e
    cases x with
    | tup ds =>
      simp only [itemsOf] at e
      simp only [Den] at dn
      obtain ⟨a, vs, rfl, t, dl⟩ := dn
      split at e
      · rename_i hl
        exact .inl ⟨a, vs, rfl, t.sq, by rw [dl.length]; exact hl, fr, F, r, ds, ok, dl, r', e, q⟩
      · cases e
    | lst ds =>
      simp only [itemsOf] at e
      simp only [Den] at dn
      obtain ⟨a, vs, rfl, f, t, dl⟩ := dn
      split at e
      · rename_i hl
        exact .inr ⟨a, vs, rfl, .of t, by rw [dl.length]; exact hl, fr, F, r, ds, ok, dl, r', e, q⟩
      · cases e
    | frl ds =>
      simp only [itemsOf] at e
      simp only [Den] at dn
      obtain ⟨a, vs, rfl, t, dl⟩ := dn
      split at e
      · rename_i hl
        exact .inr ⟨a, vs, rfl, t.sq, by rw [dl.length]; exact hl, fr, F, r, ds, ok, dl, r', e, q⟩
      · cases e
    | _ => cases e
end
end Py
end

section
set_option maxHeartbeats 400000
namespace Py
open PySem PySem.Spec PyProof.Rows L2
/-! ## Own exceptions raised, from what the top says -/
structure InitOk (P : Program) (w : World) (K : PySem.W.Frag) (mg : Str → Option Value) (base : Heap) (n f : Str) : Prop where
  ex : ∃ C fI fd ps, mg n = some (.ref C) ∧ OexC K C ∧ PySem.W.findIn K (.ref C) "__init__" = some (some (.ref fI)) ∧ PySem.W.typeIn K (.ref fI) = some (.type "function") ∧ FnOk P w K mg base (L2.CX P w) 1 fI fd ps (spI C f) ∧ Binds K fd ps []
section
variable {P : Program} {w : World} {base : Heap} {t : Top} {K : PySem.W.Frag} {mg : Str → Option Value}
theorem mkB_ok {n : Str} (h : mkB K n = true) : OexC K (He.ga K n) ∧ PySem.W.findIn K (.ref (He.ga K n)) "__init__" = some (some (.ref (He.ma K (He.ga K n) "__init__"))) ∧ PySem.W.typeIn K (.ref (He.ma K (He.ga K n) "__init__")) = some (.type "function") := by
  unfold mkB at h
  simp only [Bool.and_eq_true, decide_eq_true_eq] at h
  exact ⟨oexB_ok h.1, h.2.1, h.2.2⟩
theorem init_of {n f : Str} {anc : List Str} {st : Stmt} {p0 p1 : Str} (e : Env1 t K mg) (i : Nat) (hd : t.fn[i]? = some ⟨(n, some "__init__"), "__init__", n ++ ".__init__", defArgs st, defBody st, defScope st, [], []⟩) (hr : n ∈ t.raised) (hl : t.T.lookup n = some anc) (hf : f ∈ t.fields) (S : FnScope [p0, p1] [p0, p1] (defScope st))
    (bi : ∀ (kV doc pm : Value) (an : Option Addr) (cdv ct : Value) (us : List Value), us.length = [p0, p1].length → bindArgs (PySem.W.fnOf "__init__" (n ++ ".__init__") (defArgs st) (defBody st) (defScope st) .none kV doc pm an cdv ct) ⟨us, []⟩ = pure ([p0, p1].zip us))
    (hb : ∀ X : Cx, X.K = K → X.N = [p0, p1] → X.env.scope = defScope st → PSs X (defBody st) (tOst X.K f (tVar 0) (tVar 1))) : InitOk P w K mg base n f := by
  obtain ⟨fd, Fu⟩ := e.says.d.def_ i hd
  obtain ⟨h1, h2, h3⟩ := mkB_ok (e.says.mk hr)
  have hm := e.cls hl
  exact ⟨_, _, fd, _, hm, h1, h2, h3, init_ok Fu S h1 (e.fld hf n anc _ hl hm) hb, FunD.bindsN Fu bi⟩
end
section
variable {X : Cx} {W : WX} {pos : Pos}
theorem s_raiseD {n f : Str} {p pos2 : Pos} {e : Expr} {d : Env → Res D} (Io : InitOk X.prog X.w X.K X.mg X.base n f) (hc : X.calm = true) (tk : Takes X W) (hr : Room 2 X.A) (hg : Gl X n) (h : PX X W e d)
    (hdb : (n == ("__debug__" : Str)) = false := by decide) (he0 : starEach (e :: []) X.env = (false, eval e X.env) :: starEach [] X.env := by rfl) (hpl : (backTo pos (starEach [] X.env)).any (·.1) = false := by rfl) :
    PT1 X W (.Raise (some (.Call (.Name n p) [e] [] pos)) none pos2) (dRaise n f d) := by
  obtain ⟨C, fI, fd, ps, h1, h2, h3, h4, h5, h6⟩ := Io.ex
  exact s_raise hc tk h2 h3 h4 h5 hr h6 hg h1 h hdb he0 hpl
end
/-! ## The built-in names -/
theorem bt_int : bootBuiltins "int" = some (.type "int") := by decide +kernel
theorem bt_bool : bootBuiltins "bool" = some (.type "bool") := by decide +kernel
theorem bt_str : bootBuiltins "str" = some (.type "str") := by decide +kernel
theorem bt_tuple : bootBuiltins "tuple" = some (.type "tuple") := by decide +kernel
theorem bt_list : bootBuiltins "list" = some (.type "list") := by decide +kernel
theorem bt_dict : bootBuiltins "dict" = some (.type "dict") := by decide +kernel
theorem bt_ValueError : bootBuiltins "ValueError" = some (.type "ValueError") := by decide +kernel
theorem bt_set : bootBuiltins "set" = some (.type "set") := by decide +kernel
theorem bt_frozenset : bootBuiltins "frozenset" = some (.type "frozenset") := by decide +kernel
theorem bt_len : bootBuiltins "len" = some (.builtin "len") := by decide +kernel
theorem bt_min : bootBuiltins "min" = some (.builtin "min") := by decide +kernel
theorem bt_max : bootBuiltins "max" = some (.builtin "max") := by decide +kernel
theorem bt_sum : bootBuiltins "sum" = some (.builtin "sum") := by decide +kernel
theorem bt_isinstance : bootBuiltins "isinstance" = some (.builtin "isinstance") := by decide +kernel
theorem bt_sorted : bootBuiltins "sorted" = some (.builtin "sorted") := by decide +kernel
theorem bt_any : bootBuiltins "any" = some (.builtin "any") := by decide +kernel
theorem bt_all : bootBuiltins "all" = some (.builtin "all") := by decide +kernel
theorem bt_abs : bootBuiltins "abs" = some (.builtin "abs") := by decide +kernel
end Py
end

section
set_option maxHeartbeats 400000
namespace Py
open PySem PySem.Spec PyProof.Rows L2
/-! ## The law's own call -/
theorem ints_den {G : Gc} {F : Addr → Prop} {H : Hp} : ∀ ns : List Int, DenL G F H (ns.map D.int) (ns.map V.int)
  | [] => by simp [DenL]
  | n :: ns => by simp only [List.map_cons, DenL]; exact ⟨_, _, rfl, by simp only [Den], ints_den ns⟩
theorem law_sp {K : PySem.W.Frag} {mg : Str → Option Value} {H : Hp} {a : Addr} {ns : List Int} {fn : Fn} (hS : SqL K H a (ns.map V.int)) (hm : ∃ o, fn [.v (.frl (ns.map D.int))] = .ok (.bl true) o) : spF ⟨K, mg⟩ 1 fn [.ref a] H (fun v _ => v = .bl true) (fun _ _ _ => False) := by
  obtain ⟨o, hm⟩ := hm
  have key : ∀ F : Addr → Prop, (∀ a, F a → H a ≠ none) → LstAt K F H a (ns.map V.int) → spF ⟨K, mg⟩ 1 fn [.ref a] H (fun v _ => v = .bl true) (fun _ _ _ => False) := fun F k l => by
    refine ⟨F, [.v (.frl (ns.map D.int))], rfl, k, ⟨rfl, fun i s e => ?_, fun i j ds es b hij e1 e2 _ _ => ?_⟩, ?_⟩
    · cases i with
      | zero =>
        cases e
        refine ⟨.ref a, rfl, ?_⟩
        show Den _ _ _ _ _
        simp only [Den]
        exact ⟨a, _, rfl, l, ints_den ns⟩
      | succ i => simp at e
    · cases i with
      | zero => cases e1
      | succ i => simp at e1
    · rw [hm]
      exact fun v H' F' c d => by simpa only [Den] using d
  rcases hS with h | h
  · refine key (fun b => b = a) (fun b hb => ?_) (.inl ⟨rfl, h⟩)
    subst hb
    rcases h with h | ⟨o, h⟩
    · rw [h]; simp
    · rw [h]; simp
  · exact key (fun _ => False) (fun b hb => hb.elim) (.inr fun H' => .inr h)
end Py
end

section
set_option maxHeartbeats 400000
namespace Py
open PySem L2
/-! ## What the combinators do, as rules -/
section
variable {r : Env}
@[simp] theorem e_dC {d : D} : dC d r = .ok d r := (rfl)
@[simp] theorem e_dVar {i : Nat} : dVar i r = (match r[i]? with | some (.v d) => .ok d r | some (.o ds) => .ok (.lst ds) (r.set i (.v (.lst ds))) | _ => .bad) := (rfl)
@[simp] theorem e_dBin {f : D → D → Option D} {a b : Env → Res D} : dBin f a b r = (a r).bind fun x r => (b r).bind fun y r => Res.of (f x y) r := (rfl)
@[simp] theorem e_dTst {d : Env → Res D} : dTst d r = (d r).bind fun x r => match x with | .bl b => .ok b r | _ => .bad := (rfl)
@[simp] theorem e_dTru {d : Env → Res D} : dTru d r = (d r).bind fun x r => match fTru x with | some b => .ok b r | none => .bad := (rfl)
@[simp] theorem e_dNot {d : Env → Res Bool} : dNot d r = (d r).bind fun b r => .ok (!b) r := (rfl)
@[simp] theorem e_dAnd {a b : Env → Res Bool} : dAnd a b r = (a r).bind fun c r => if c = true then b r else .ok false r := (rfl)
@[simp] theorem e_dOr {a b : Env → Res Bool} : dOr a b r = (a r).bind fun c r => if c = true then .ok true r else b r := (rfl)
@[simp] theorem e_dAndV {a b : Env → Res D} : dAndV a b r = (a r).bind fun x r => match fTru x with | some true => b r | some false => .ok x r | none => .bad := (rfl)
@[simp] theorem e_dOrV {a b : Env → Res D} : dOrV a b r = (a r).bind fun x r => match fTru x with | some true => .ok x r | some false => b r | none => .bad := (rfl)
@[simp] theorem e_dNotV {d : Env → Res D} : dNotV d r = (d r).bind fun x r => match fTru x with | some b => .ok (.bl (!b)) r | none => .bad := (rfl)
@[simp] theorem e_dIfE {t : Env → Res Bool} {a b : Env → Res D} : dIfE t a b r = (t r).bind fun c r => if c = true then a r else b r := (rfl)
@[simp] theorem e_dNil : dNil r = .ok [] r := (rfl)
@[simp] theorem e_dCons {d : Env → Res D} {ds : Env → Res (List D)} : dCons d ds r = (d r).bind fun x r => (ds r).bind fun xs r => .ok (x :: xs) r := (rfl)
@[simp] theorem e_dTup {ds : Env → Res (List D)} : dTup ds r = (ds r).bind fun xs r => if xs.length ≤ 16777216 then .ok (.tup xs) r else .bad := (rfl)
@[simp] theorem e_dLst {ds : Env → Res (List D)} : dLst ds r = (ds r).bind fun xs r => if xs.length ≤ 16777216 then .ok (.n xs) r else .bad := (rfl)
@[simp] theorem e_dHold {d : Env → Res Val} : dHold d r = (d r).bind fun x r => match x with | .v d => .ok d r | .n ds => .ok (.lst ds) r := (rfl)
@[simp] theorem e_dVal {d : Env → Res D} : dVal d r = (d r).bind fun x r => .ok (.v x) r := (rfl)
@[simp] theorem e_dCal {f : List D → Option D} {ds : Env → Res (List D)} : dCal f ds r = (ds r).bind fun xs r => Res.of (f xs) r := (rfl)
@[simp] theorem e_dUn {f : D → Option D} {d : Env → Res D} : dUn f d r = (d r).bind fun x r => Res.of (f x) r := (rfl)
@[simp] theorem e_dNext : dNext r = .nx r := (rfl)
@[simp] theorem e_dSeq {a b : Env → SRes} : dSeq a b r = (a r).seq b := (rfl)
@[simp] theorem e_dBreak : dBreak r = .bk r := (rfl)
@[simp] theorem e_dCont : dCont r = .ct r := (rfl)
@[simp] theorem e_dRet {d : Env → Res Val} : dRet d r = (d r).toS fun x r => match x with | .v d => .rt d r | .n ds => .rn ds r := (rfl)
@[simp] theorem e_dRetN : dRetN r = .rt .non r := (rfl)
@[simp] theorem e_dDrop {d : Env → Res Val} : dDrop d r = (d r).toS fun _ r => .nx r := (rfl)
@[simp] theorem e_dIf {t : Env → Res Bool} {a b : Env → SRes} : dIf t a b r = (t r).toS fun c r => if c = true then a r else b r := (rfl)
@[simp] theorem e_dSet {i : Nat} {d : Env → Res Val} : dSet i d r = (d r).toS fun x r => if notP r i = true then .nx (r.set i (match x with | .v d => .v d | .n ds => .o ds)) else .bad := (rfl)
@[simp] theorem e_dAsg {d : Env → Res D} {g : D → Env → Option Env} : dAsg d g r = (d r).toS fun x r => match g x r with | some r => .nx r | none => .bad := (rfl)
@[simp] theorem e_gNm {i : Nat} {x : D} : gNm i x r = if notP r i = true then some (r.set i (.v x)) else none := (rfl)
@[simp] theorem e_gN0 : gN0 [] r = some r := (rfl)
@[simp] theorem e_gC {a : D → Env → Option Env} {b : List D → Env → Option Env} {x : D} {xs : List D} : gC a b (x :: xs) r = (a x r).bind fun r => b xs r := (rfl)
@[simp] theorem e_gTp {n : Nat} {b : List D → Env → Option Env} {ds : List D} : gTp n b (.tup ds) r = if ds.length = n then b ds r else none := (rfl)
@[simp] theorem e_gSq {n : Nat} {b : List D → Env → Option Env} {x : D} : gSq n b x r = (match itemsOf x with | some ds => if ds.length = n then b ds r else none | none => none) := (rfl)
@[simp] theorem e_dItems {d : Env → Res D} : dItems d r = (d r).bind fun x r => Res.ofL (itemsOf x) r := (rfl)
@[simp] theorem e_dIt {f : List D → Option (List D)} {ds : Env → Res (List D)} : dIt f ds r = (ds r).bind fun xs r => Res.ofL (f xs) r := (rfl)
@[simp] theorem e_dFor {d : Env → Res (List D)} {g : D → Env → Option Env} {b : Env → SRes} : dFor d g b r = (d r).toS fun xs r => dForL g b xs r := (rfl)
@[simp] theorem e_dForL0 {g : D → Env → Option Env} {b : Env → SRes} : dForL g b [] r = .nx r := (rfl)
theorem e_dForL1 {g : D → Env → Option Env} {b : Env → SRes} {x : D} {xs : List D} : dForL g b (x :: xs) r = (match g x r with
    | none => .bad
    | some r1 => match b r1 with
      | .nx r2 => dForL g b xs r2
      | .ct r2 => dForL g b xs r2
      | .bk r2 => .nx r2
      | m => m) := (rfl)
@[simp] theorem e_dMut {j : Nat} {f : List D → List D → Option (D × List D)} {ds : Env → Res (List D)} : dMut j f ds r = (match getOpn r j with
  | none => .bad
  | some _ => (ds r).bind fun xs r => match getOpn r j with
    | none => .bad
    | some ys => match f ys xs with
      | some (z, zs) => .ok (.v z) (setOpn r j zs)
      | none => .bad) := (rfl)
@[simp] theorem e_aNil : aNil r = .ok [] r := (rfl)
@[simp] theorem e_aVal {d : Env → Res D} {ds : Env → Res (List Arg)} : aVal d ds r = (d r).bind fun x r => (ds r).bind fun xs r => .ok (.v x :: xs) r := (rfl)
@[simp] theorem e_aOpn {j : Nat} {ds : Env → Res (List Arg)} : aOpn j ds r = (match getOpn r j with | none => .bad | some _ => (ds r).bind fun xs r => .ok (.s j :: xs) r) := (rfl)
@[simp] theorem e_dCall {fn : Fn} {ds : Env → Res (List Arg)} : dCall fn ds r = (ds r).bind fun as r => if (as.filterMap Arg.ix).Nodup then (match argSlots r as with
  | none => .bad
  | some ss => match fn ss with
    | .ok x o => .ok (.v x) (putBack as o r)
    | .okn x o => .ok (.n x) (putBack as o r)
    | .err e o => .err e (putBack as o r)
    | .bad => .bad) else .bad := (rfl)
@[simp] theorem e_dLenO {j : Nat} : dLenO j r = (match getOpn r j with | some ds => .ok (.int ds.length) r | none => .bad) := (rfl)
@[simp] theorem e_dTruO {j : Nat} : dTruO j r = (match getOpn r j with | some ds => .ok (!ds.isEmpty) r | none => .bad) := (rfl)
@[simp] theorem e_dIxO {j : Nat} {d : Env → Res D} : dIxO j d r = (match getOpn r j with
  | none => .bad
  | some _ => (d r).bind fun x r => match getOpn r j, x with
    | some ds, .int i => Res.of (atI ds i) r
    | _, _ => .bad) := (rfl)
@[simp] theorem e_dMove {i : Nat} : dMove i r = (match r[i]? with | some (.v d) => .ok (.v d) r | some (.o ds) => .ok (.n ds) (r.set i .un) | _ => .bad) := (rfl)
@[simp] theorem e_dRaise {n f : Str} {d : Env → Res D} : dRaise n f d r = (d r).toS fun x r => .err (.exc n f x) r := (rfl)
@[simp] theorem e_dTry {T : Tbl} {b : Env → SRes} {l : List (Str × Option Nat × (Env → SRes))} : dTry T b l r = (match b r with | .err e r => dHds T l e r | m => m) := (rfl)
@[simp] theorem e_dPart {d : Env → Res D} : dPart d r = (d r).bind fun x r => match x with | .int i => .ok (some i) r | _ => .bad := (rfl)
@[simp] theorem e_dNoP : dNoP r = .ok none r := (rfl)
@[simp] theorem e_dCut {d : Env → Res D} {dl dh : Env → Res (Option Int)} : dCut d dl dh r = (d r).bind fun x r => (dl r).bind fun lo r => (dh r).bind fun hi r => Res.of (fCut x lo hi) r := (rfl)
@[simp] theorem e_dTupRg2 {da db : Env → Res D} : dTupRg2 da db r = (da r).bind fun x r => (db r).bind fun y r => match x, y with
  | .int i, .int j => Res.of (fTupRg i j) r
  | _, _ => .bad := (rfl)
@[simp] theorem e_dTupRg1 {d : Env → Res D} : dTupRg1 d r = (d r).bind fun x r => match x with
  | .int j => Res.of (fTupRg 0 j) r
  | _ => .bad := (rfl)
@[simp] theorem e_dAt {T : Tbl} {f : Str} {d : Env → Res D} : dAt T f d r = (d r).bind fun x r => match x with
  | .exc n g y => if g = f ∧ (T.lookup n).isSome = true then .ok y r else .bad
  | _ => .bad := (rfl)
@[simp] theorem e_dYes : dYes r = .ok true r := (rfl)
end
@[simp] theorem tru_bl {b : Bool} : fTru (.bl b) = some b := (rfl)
@[simp] theorem tru_non : fTru .non = some false := (rfl)
@[simp] theorem tru_int {i : Int} : fTru (.int i) = some (i != 0) := (rfl)
@[simp] theorem tru_tup {ds : List D} : fTru (.tup ds) = some (!ds.isEmpty) := (rfl)
@[simp] theorem tru_lst {ds : List D} : fTru (.lst ds) = some (!ds.isEmpty) := (rfl)
@[simp] theorem ix_v {d : D} : Arg.ix (.v d) = none := (rfl)
@[simp] theorem ix_s {j : Nat} : Arg.ix (.s j) = some j := (rfl)
@[simp] theorem fm_v {d : D} {as : List Arg} : List.filterMap Arg.ix (.v d :: as) = List.filterMap Arg.ix as := (rfl)
@[simp] theorem fm_s {j : Nat} {as : List Arg} : List.filterMap Arg.ix (.s j :: as) = j :: List.filterMap Arg.ix as := (rfl)
@[simp] theorem as_nil {r : Env} : argSlots r [] = some [] := (rfl)
@[simp] theorem as_v {r : Env} {d : D} {as : List Arg} : argSlots r (.v d :: as) = (argSlots r as).map (.v d :: ·) := (rfl)
@[simp] theorem as_s {r : Env} {j : Nat} {as : List Arg} : argSlots r (.s j :: as) = (getOpn r j).bind fun ds => (argSlots r as).map (.p ds :: ·) := (rfl)
@[simp] theorem pb_nil {o : List Slot} {r : Env} : putBack [] o r = r := (rfl)
@[simp] theorem pb_v {d : D} {s : Slot} {as : List Arg} {o : List Slot} {r : Env} : putBack (.v d :: as) (s :: o) r = putBack as o r := (rfl)
@[simp] theorem pb_sp {j : Nat} {ds : List D} {as : List Arg} {o : List Slot} {r : Env} : putBack (.s j :: as) (.p ds :: o) r = putBack as o (setOpn r j ds) := (rfl)
@[simp] theorem pb_su {j : Nat} {as : List Arg} {o : List Slot} {r : Env} : putBack (.s j :: as) (.un :: o) r = putBack as o r := (rfl)
@[simp] theorem out_nil {r : Env} : outs [] r = [] := (rfl)
@[simp] theorem out_p {ds : List D} {as : List Slot} {s : Slot} {r : Env} : outs (.p ds :: as) (s :: r) = s :: outs as r := (rfl)
@[simp] theorem out_v {d : D} {as : List Slot} {s : Slot} {r : Env} : outs (.v d :: as) (s :: r) = .un :: outs as r := (rfl)
@[simp] theorem e_f2 {c : Int → Int → Bool} {g : Int → Int → D} {i j : Int} : f2 c g (.int i) (.int j) = if c i j = true then some (g i j) else none := (rfl)
@[simp] theorem e_go {r : Env} {j : Nat} : getOpn r j = match r[j]? with | some (.o ds) => some ds | some (.p ds) => some ds | _ => none := (rfl)
@[simp] theorem e_so {r : Env} {j : Nat} {ds : List D} : setOpn r j ds = match r[j]? with | some (.o _) => r.set j (.o ds) | some (.p _) => r.set j (.p ds) | _ => r := (rfl)
def Slot.np : Slot → Bool
  | .p _ => false
  | _ => true
@[simp] theorem np_un : Slot.un.np = true := (rfl)
@[simp] theorem np_v {d : D} : (Slot.v d).np = true := (rfl)
@[simp] theorem np_o {d : List D} : (Slot.o d).np = true := (rfl)
@[simp] theorem np_p {d : List D} : (Slot.p d).np = false := (rfl)
@[simp] theorem e_np {r : Env} {j : Nat} : notP r j = match r[j]? with | some s => s.np | none => true := by
  unfold notP
  cases r[j]? with
  | none => rfl
  | some s => cases s <;> rfl
theorem e_run {n : Nat} {b : Env → SRes} {args : List Slot} : runD n b args = match b (args ++ List.replicate (n - args.length) .un) with
  | .nx r => .ok .non (outs args r)
  | .rt x r => .ok x (outs args r)
  | .rn ds r => .okn ds (outs args r)
  | .err e r => .err e (outs args r)
  | _ => .bad := (rfl)
@[simp] theorem isN_non {x : D} : fIsN x .non = some (.bl (isNon x)) := by cases x <;> rfl
@[simp] theorem isNot_non {x : D} : fIsNot x .non = some (.bl (!isNon x)) := by cases x <;> rfl
@[simp] theorem isN_bl {x : D} {b : Bool} : fIsN x (.bl b) = some (.bl (isBlD x b)) := by cases x <;> rfl
@[simp] theorem isNot_bl {x : D} {b : Bool} : fIsNot x (.bl b) = some (.bl (!isBlD x b)) := by cases x <;> rfl
@[simp] theorem isBlD_bl {a b : Bool} : isBlD (.bl a) b = decide (a = b) := (rfl)
@[simp] theorem isBlD_int {a : Int} {b : Bool} : isBlD (.int a) b = false := (rfl)
@[simp] theorem isNon_non : isNon .non = true := (rfl)
@[simp] theorem isNon_int {i : Int} : isNon (.int i) = false := (rfl)
@[simp] theorem isNon_bl {i : Bool} : isNon (.bl i) = false := (rfl)
@[simp] theorem isNon_tup {i : List D} : isNon (.tup i) = false := (rfl)
@[simp] theorem isNon_lst {i : List D} : isNon (.lst i) = false := (rfl)
@[simp] theorem isNon_str {i : Str} : isNon (.str i) = false := (rfl)
@[simp] theorem its_tup {i : List D} : itemsOf (.tup i) = some i := (rfl)
@[simp] theorem its_lst {i : List D} : itemsOf (.lst i) = some i := (rfl)
@[simp] theorem its_frl {i : List D} : itemsOf (.frl i) = some i := (rfl)
@[simp] theorem tup1 {x : D} : fTuple [x] = (itemsOf x).map D.tup := (rfl)
@[simp] theorem list1 {x : D} : fList [x] = (itemsOf x).map D.lst := (rfl)
@[simp] theorem len_tup {i : List D} : fLen [.tup i] = some (.int i.length) := (rfl)
@[simp] theorem len_lst {i : List D} : fLen [.lst i] = some (.int i.length) := (rfl)
@[simp] theorem len_frl {i : List D} : fLen [.frl i] = some (.int i.length) := (rfl)
@[simp] theorem int1 {i : Int} : fInt [.int i] = some (.int i) := (rfl)
@[simp] theorem min2 {i j : Int} : fMin [.int i, .int j] = some (.int (if j < i then j else i)) := (rfl)
@[simp] theorem max2 {i j : Int} : fMax [.int i, .int j] = some (.int (if j > i then j else i)) := (rfl)
@[simp] theorem neg1 {i : Int} : fNeg (.int i) = some (.int (-i)) := (rfl)
@[simp] theorem app1 {ys : List D} {x : D} : mAppend ys [x] = if ys.length < 16777216 then some (.non, ys ++ [x]) else none := (rfl)
@[simp] theorem rev0 {ys : List D} : mReverse ys [] = some (.non, ys.reverse) := (rfl)
@[simp] theorem add_int {i j : Int} : fAdd (.int i) (.int j) = some (.int (i + j)) := (rfl)
@[simp] theorem ix_tup' {ds : List D} {i : Int} : fIx (.tup ds) (.int i) = atI ds i := (rfl)
@[simp] theorem ix_lst' {ds : List D} {i : Int} : fIx (.lst ds) (.int i) = atI ds i := (rfl)
@[simp] theorem ix_frl' {ds : List D} {i : Int} : fIx (.frl ds) (.int i) = atI ds i := (rfl)
theorem log2_le (n k : Nat) (h : n < 2 ^ k) : n.log2 ≤ k := by
  by_cases h0 : n = 0
  · subst h0; simp
  · exact Nat.le_of_lt ((Nat.log2_lt h0).mpr h)
@[simp high] theorem e_div {i j : Int} (h : 0 < j) (h2 : j < 1000000000000000000000000000000000000000000000000000000000000) : fDiv (.int i) (.int j) = some (.int (i / j)) := by
  have h3 : j.natAbs.log2 < 9000 := Nat.lt_of_le_of_lt (log2_le _ 200 (by omega)) (by decide)
  simp only [e_f2, h, h3, decide_true, Bool.and_self, if_true]
theorem shp_int {i : Int} : SeqAt.shaped (.int i) = true := (rfl)
@[simp] theorem eq_int {i j : Int} : fEq (.int i) (.int j) = some (.bl (decide (i = j))) := by
  show (if (SeqAt.shaped (.int i) && SeqAt.shaped (.int j)) = true then some (D.bl (PyData.eqv (.int i) (.int j))) else none) = _
  simp only [shp_int, PyData.eqv]
  simp only [Bool.and_self, if_true]
  congr
@[simp] theorem ne_int {i j : Int} : fNe (.int i) (.int j) = some (.bl (!decide (i = j))) := by
  show (if (SeqAt.shaped (.int i) && SeqAt.shaped (.int j)) = true then some (D.bl (!PyData.eqv (.int i) (.int j))) else none) = _
  simp only [shp_int, PyData.eqv]
  simp only [Bool.and_self, if_true]
  congr
theorem shp_str {x : Str} (h : PyData.strOk x = true) : SeqAt.shaped (.str x) = true := by
  show (PyData.canLay0 (.str x) && decide (PyData.depth (.str x) ≤ 64)) = true
  simp [PyData.canLay0, PyData.depth, h]
theorem eq_str {x y : Str} (hx : PyData.strOk x = true) (hy : PyData.strOk y = true) : fEq (.str x) (.str y) = some (.bl (x == y)) := by
  show (if (SeqAt.shaped (.str x) && SeqAt.shaped (.str y)) = true then some (D.bl (PyData.eqv (.str x) (.str y))) else none) = _
  simp only [shp_str hx, shp_str hy, PyData.eqv]
  simp only [Bool.and_self, if_true]
theorem ne_str {x y : Str} (hx : PyData.strOk x = true) (hy : PyData.strOk y = true) : fNe (.str x) (.str y) = some (.bl (!(x == y))) := by
  show (if (SeqAt.shaped (.str x) && SeqAt.shaped (.str y)) = true then some (D.bl (!PyData.eqv (.str x) (.str y))) else none) = _
  simp only [shp_str hx, shp_str hy, PyData.eqv]
  simp only [Bool.and_self, if_true]
/-! plain data -/
mutual
def D.dat : Nat → D → Bool
  | _, .non => true
  | _, .bl _ => true
  | _, .int _ => true
  | _, .str x => PyData.strOk x
  | 0, .tup _ => false
  | n + 1, .tup ds => D.datL n ds
  | 0, .lst _ => false
  | n + 1, .lst ds => D.datL n ds
  | _, _ => false
def D.datL : Nat → List D → Bool
  | _, [] => true
  | n, d :: ds => D.dat n d && D.datL n ds
end
mutual
theorem dat_py : ∀ (n : Nat) (d : D), D.dat n d = true → PyData.canLay0 d.py = true ∧ PyData.depth d.py ≤ n ∧ PyData.eqv d.py d.py = true
  | n, .non, _ => by simp [D.py, PyData.canLay0, PyData.depth, PyData.eqv]
  | n, .bl _, _ => by simp [D.py, PyData.canLay0, PyData.depth, PyData.eqv]
  | n, .int _, _ => by simp [D.py, PyData.canLay0, PyData.depth, PyData.eqv]
  | n, .str _, h => by simp only [D.dat] at h; simp [D.py, PyData.canLay0, PyData.depth, PyData.eqv, h]
  | 0, .tup _, h => by simp [D.dat] at h
  | n + 1, .tup ds, h => by
    simp only [D.dat] at h
    obtain ⟨h1, h2, h3⟩ := datL_py n ds h
    simp only [D.py, PyData.canLay0, PyData.depth, PyData.eqv]
    exact ⟨h1, by omega, h3⟩
  | 0, .lst _, h => by simp [D.dat] at h
  | n + 1, .lst ds, h => by
    simp only [D.dat] at h
    obtain ⟨h1, h2, h3⟩ := datL_py n ds h
    simp only [D.py, PyData.canLay0, PyData.depth, PyData.eqv]
    exact ⟨h1, by omega, h3⟩
  | n, .ty _, h => by simp [D.dat] at h
  | n, .cl _, h => by simp [D.dat] at h
  | n, .frl _, h => by simp [D.dat] at h
  | n, .exc _ _ _, h => by simp [D.dat] at h
theorem datL_py : ∀ (n : Nat) (ds : List D), D.datL n ds = true → PyData.canLayAll0 (D.pyL ds) = true ∧ PyData.depthAll (D.pyL ds) ≤ n ∧ PyData.eqvAll (D.pyL ds) (D.pyL ds) = true
  | n, [], _ => by simp [D.pyL, PyData.canLayAll0, PyData.depthAll, PyData.eqvAll]
  | n, d :: ds, h => by
    simp only [D.datL, Bool.and_eq_true] at h
    obtain ⟨h1, h2, h3⟩ := dat_py n d h.1
    obtain ⟨k1, k2, k3⟩ := datL_py n ds h.2
    simp only [D.pyL, PyData.canLayAll0, PyData.depthAll, PyData.eqvAll, Bool.and_eq_true]
    exact ⟨⟨h1, k1⟩, by omega, h3, k3⟩
end
theorem dat_sh {d : D} (h : D.dat 60 d = true) : SeqAt.shaped d.py = true := by
  obtain ⟨h1, h2, _⟩ := dat_py 60 d h
  unfold SeqAt.shaped
  rw [h1, Bool.true_and]
  exact decide_eq_true (by omega)
theorem eq_dat {x y : D} (hx : D.dat 60 x = true) (hy : D.dat 60 y = true) : fEq x y = some (.bl (PyData.eqv x.py y.py)) := by
  unfold fEq
  rw [dat_sh hx, dat_sh hy]; rfl
theorem ne_dat {x y : D} (hx : D.dat 60 x = true) (hy : D.dat 60 y = true) : fNe x y = some (.bl (!PyData.eqv x.py y.py)) := by
  unfold fNe
  rw [dat_sh hx, dat_sh hy]; rfl
theorem eq_self {x : D} (hx : D.dat 60 x = true) : fEq x x = some (.bl true) := by rw [eq_dat hx hx, (dat_py 60 x hx).2.2]
theorem ne_self {x : D} (hx : D.dat 60 x = true) : fNe x x = some (.bl false) := by rw [ne_dat hx hx, (dat_py 60 x hx).2.2]; rfl

@[simp] theorem atI_nat {α : Type} (xs : List α) (i : Nat) : atI xs (i : Int) = xs[i]? := by
  unfold atI ixN
  rw [if_pos (by omega)]
  by_cases h : (i : Int) < xs.length
  · rw [if_pos h]; simp
  · rw [if_neg h, List.getElem?_eq_none (by omega)]; rfl
theorem atI_at {α : Type} (xs : List α) {i : Int} (h : 0 ≤ i) : atI xs i = xs[i.toNat]? := by
  obtain ⟨n, rfl⟩ : ∃ n : Nat, i = n := ⟨i.toNat, by omega⟩
  rw [atI_nat]; simp
@[simp] theorem atI_0 {α : Type} (xs : List α) : atI xs 0 = xs[0]? := atI_nat xs 0
@[simp] theorem atI_1 {α : Type} (xs : List α) : atI xs 1 = xs[1]? := atI_nat xs 1
@[simp] theorem atI_2 {α : Type} (xs : List α) : atI xs 2 = xs[2]? := atI_nat xs 2
@[simp] theorem atI_3 {α : Type} (xs : List α) : atI xs 3 = xs[3]? := atI_nat xs 3
@[simp] theorem atI_4 {α : Type} (xs : List α) : atI xs 4 = xs[4]? := atI_nat xs 4
@[simp] theorem atI_5 {α : Type} (xs : List α) : atI xs 5 = xs[5]? := atI_nat xs 5
@[simp] theorem atI_6 {α : Type} (xs : List α) : atI xs 6 = xs[6]? := atI_nat xs 6
@[simp] theorem atI_7 {α : Type} (xs : List α) : atI xs 7 = xs[7]? := atI_nat xs 7
theorem mulS {i j : Int} (h : 0 ≤ i) (h2 : i < 1000000000) : mulOk i j = true := by
  unfold mulOk
  rw [decide_eq_true (show i.natAbs < 18446744073709551616 by omega)]; rfl
theorem mulS' {i j : Int} (h : -1000000000 < j) (h2 : j < 1000000000) : mulOk i j = true := by
  unfold mulOk
  rw [decide_eq_true (show j.natAbs < 18446744073709551616 by omega)]; simp
theorem inR_nat {n : Nat} (h : n ≤ 1000000000) : inR (n : Int) = true := by unfold inR; exact @decide_eq_true _ (Classical.propDecidable _) ⟨by omega, by omega⟩
theorem inR_int {n : Int} (h : -1000000000 ≤ n) (h2 : n ≤ 1000000000) : inR n = true := by unfold inR; exact @decide_eq_true _ (Classical.propDecidable _) ⟨by omega, by omega⟩
theorem rg1 {n : Nat} (h : n ≤ 1000000000) : fRange1 [.int (n : Int)] = some (intsD 0 n) := by
  simp only [fRange1]
  rw [inR_nat h, if_pos (by decide), Int.toNat_natCast]
theorem rg1i {j : Int} (h : -1000000000 ≤ j) (h2 : j ≤ 1000000000) : fRange1 [.int j] = some (intsD 0 j.toNat) := by
  simp only [fRange1]
  rw [inR_int h h2, if_pos (by decide)]
theorem rg2i {i j : Int} (hi : -1000000000 ≤ i) (hi2 : i ≤ 1000000000) (h : -1000000000 ≤ j) (h2 : j ≤ 1000000000) : fRange2 [.int i, .int j] = some (intsD i (j - i).toNat) := by
  simp only [fRange2]
  rw [inR_int h h2, inR_int hi hi2, if_pos (by decide)]
theorem tupRg {i j : Int} (hi : -1000000000 ≤ i) (hi2 : i ≤ 1000000000) (h : -1000000000 ≤ j) (h2 : j ≤ 1000000000) (h3 : (j - i).toNat ≤ 16777216) : fTupRg i j = some (.tup (intsD i (j - i).toNat)) := by
  unfold fTupRg rgB
  rw [inR_int h h2, inR_int hi hi2, decide_eq_true h3, if_pos (by decide)]
@[simp] theorem e_hdN {T : Tbl} {m : Str} {i : Nat} {su : Env → SRes} {l : List (Str × Option Nat × (Env → SRes))} {e : D} {r : Env} : dHds T ((m, some i, su) :: l) e r = (match exMatch T e m with
    | some true => if notP r i = true then sEnd (some i) (su (r.set i (.v e))) else .bad
    | some false => dHds T l e r
    | none => .bad) := (rfl)
@[simp] theorem e_hd0 {T : Tbl} {m : Str} {su : Env → SRes} {l : List (Str × Option Nat × (Env → SRes))} {e : D} {r : Env} : dHds T ((m, none, su) :: l) e r = (match exMatch T e m with
    | some true => sEnd none (su r)
    | some false => dHds T l e r
    | none => .bad) := (rfl)
@[simp] theorem end_nx {i : Nat} {r : Env} : sEnd (some i) (.nx r) = if notP r i = true then .nx (r.set i .un) else .bad := (rfl)
@[simp] theorem end_rt {i : Nat} {x : D} {r : Env} : sEnd (some i) (.rt x r) = .rt x r := (rfl)
@[simp] theorem end_nx0 {r : Env} : sEnd none (.nx r) = .nx r := (rfl)
@[simp] theorem end_rt0 {x : D} {r : Env} : sEnd none (.rt x r) = .rt x r := (rfl)
/-! ## Loops -/
/-- a loop that goes through: a state a turn -/
theorem forL_st {α σ : Type} (E : σ → Env) (enc : α → D) (st : σ → α → σ) (inv : σ → Prop) {g : D → Env → Option Env} {b : Env → SRes} : ∀ (xs : List α) (s : σ), inv s →
    (∀ s a, a ∈ xs → inv s → (∃ r1, g (enc a) (E s) = some r1 ∧ (b r1 = .nx (E (st s a)) ∨ b r1 = .ct (E (st s a)))) ∧ inv (st s a)) →
    dForL g b (xs.map enc) (E s) = .nx (E (xs.foldl st s)) ∧ inv (xs.foldl st s)
  | [], s, h, _ => ⟨rfl, h⟩
  | x :: xs, s, h, k => by
    obtain ⟨⟨r1, h1, h2⟩, h3⟩ := k s x List.mem_cons_self h
    have ih := forL_st E enc st inv xs (st s x) h3 fun s a ha => k s a (List.mem_cons_of_mem _ ha)
    refine ⟨?_, ih.2⟩
    rw [List.map_cons, e_dForL1]
    rcases h2 with h2 | h2 <;> simp only [h1, h2] <;> exact ih.1
theorem forL_ind {α : Type} (enc : α → D) (I : List α → Env → Prop) {g : D → Env → Option Env} {b : Env → SRes} (step : ∀ a as r, I (a :: as) r → ∃ r1 r2, g (enc a) r = some r1 ∧ (b r1 = .nx r2 ∨ b r1 = .ct r2) ∧ I as r2) :
    ∀ (xs : List α) (r : Env), I xs r → ∃ r', dForL g b (xs.map enc) r = .nx r' ∧ I [] r'
  | [], r, h => ⟨r, rfl, h⟩
  | x :: xs, r, h => by
    obtain ⟨r1, r2, h1, h2, h3⟩ := step x xs r h
    obtain ⟨r', h4, h5⟩ := forL_ind enc I step xs r2 h3
    refine ⟨r', ?_, h5⟩
    rw [List.map_cons, e_dForL1]
    rcases h2 with h2 | h2 <;> simp only [h1, h2] <;> exact h4
theorem forE_ind {α : Type} (enc : α → D) (I : List α → Nat → Env → Prop) {g : D → Env → Option Env} {b : Env → SRes} (step : ∀ a as n r, I (a :: as) n r → ∃ r1 r2, g (.tup [.int (n : Nat), enc a]) r = some r1 ∧ (b r1 = .nx r2 ∨ b r1 = .ct r2) ∧ I as (n + 1) r2) :
    ∀ (xs : List α) (n : Nat) (r : Env), I xs n r → ∃ r', dForL g b (((xs.map enc).zipIdx n).map fun p => .tup [.int (p.2 : Nat), p.1]) r = .nx r' ∧ I [] (n + xs.length) r'
  | [], n, r, h => ⟨r, rfl, h⟩
  | x :: xs, n, r, h => by
    obtain ⟨r1, r2, h1, h2, h3⟩ := step x xs n r h
    obtain ⟨r', h4, h5⟩ := forE_ind enc I step xs (n + 1) r2 h3
    refine ⟨r', ?_, by rw [List.length_cons, show n + (xs.length + 1) = n + 1 + xs.length by omega]; exact h5⟩
    rw [List.map_cons, List.zipIdx_cons, List.map_cons, e_dForL1]
    rcases h2 with h2 | h2 <;> simp only [h1, h2] <;> exact h4
theorem forEn {α : Type} (enc : α → D) (I : List α → Nat → Env → Prop) {g : D → Env → Option Env} {b : Env → SRes} (xs : List α) (r : Env) (h : I xs 0 r) (step : ∀ a as n r, I (a :: as) n r → ∃ r1 r2, g (.tup [.int (n : Nat), enc a]) r = some r1 ∧ (b r1 = .nx r2 ∨ b r1 = .ct r2) ∧ I as (n + 1) r2) :
    ∃ r', dForL g b (enumD (xs.map enc)) r = .nx r' ∧ I [] xs.length r' := by
  obtain ⟨r', h1, h2⟩ := forE_ind enc I step xs 0 r h
  exact ⟨r', h1, by simpa using h2⟩
theorem forR_ind (lo : Int) (n : Nat) (I : Nat → Env → Prop) {g : D → Env → Option Env} {b : Env → SRes} (step : ∀ k r, k < n → I k r → ∃ r1 r2, g (.int (lo + (k : Int))) r = some r1 ∧ (b r1 = .nx r2 ∨ b r1 = .ct r2) ∧ I (k + 1) r2) (r : Env) (h : I 0 r) :
    ∃ r', dForL g b (intsD lo n) r = .nx r' ∧ I n r' := by
  have key : ∀ (m k : Nat) (r : Env), k + m = n → I k r → ∃ r', dForL g b ((List.range' k m).map fun (k : Nat) => D.int (lo + (k : Int))) r = .nx r' ∧ I n r' := by
    intro m
    induction m with
    | zero => intro k r e h; exact ⟨r, rfl, by rw [← e]; exact h⟩
    | succ m ih =>
      intro k r e h
      obtain ⟨r1, r2, h1, h2, h3⟩ := step k r (by omega) h
      obtain ⟨r', h4, h5⟩ := ih (k + 1) r2 (by omega) h3
      refine ⟨r', ?_, h5⟩
      rw [List.range'_succ, List.map_cons, e_dForL1]
      rcases h2 with h2 | h2 <;> simp only [h1, h2] <;> exact h4
  unfold intsD
  rw [List.range_eq_range']
  exact key n 0 r (by omega) h
/-- .. that may hand back in its midst -/
theorem forR_or (lo : Int) (n : Nat) (I : Nat → Env → Prop) (R : D → Env → Prop) {g : D → Env → Option Env} {b : Env → SRes} (step : ∀ k r, k < n → I k r → ∃ r1, g (.int (lo + (k : Int))) r = some r1 ∧ ((∃ r2, (b r1 = .nx r2 ∨ b r1 = .ct r2) ∧ I (k + 1) r2) ∨ ∃ x r2, b r1 = .rt x r2 ∧ R x r2)) (r : Env) (h : I 0 r) :
    (∃ r', dForL g b (intsD lo n) r = .nx r' ∧ I n r') ∨ ∃ x r', dForL g b (intsD lo n) r = .rt x r' ∧ R x r' := by
  have key : ∀ (m k : Nat) (r : Env), k + m = n → I k r → (∃ r', dForL g b ((List.range' k m).map fun (k : Nat) => D.int (lo + (k : Int))) r = .nx r' ∧ I n r') ∨ ∃ x r', dForL g b ((List.range' k m).map fun (k : Nat) => D.int (lo + (k : Int))) r = .rt x r' ∧ R x r' := by
    intro m
    induction m with
    | zero => intro k r e h; exact .inl ⟨r, rfl, by rw [← e]; exact h⟩
    | succ m ih =>
      intro k r e h
      obtain ⟨r1, h1, h2⟩ := step k r (by omega) h
      rw [List.range'_succ, List.map_cons]
      simp only [e_dForL1, h1]
      rcases h2 with ⟨r2, h2, h3⟩ | ⟨x, r2, h2, h3⟩
      · rcases h2 with h2 | h2 <;> simp only [h2] <;> exact ih (k + 1) r2 (by omega) h3
      · exact .inr ⟨x, r2, by simp only [h2], h3⟩
  unfold intsD
  rw [List.range_eq_range']
  exact key n 0 r (by omega) h
theorem intsD_succ (a : Int) (n : Nat) : intsD a (n + 1) = intsD a n ++ [.int (a + (n : Int))] := by unfold intsD; rw [List.range_succ, List.map_append]; rfl
@[simp] theorem intsD_0 (a : Int) : intsD a 0 = [] := (rfl)
@[simp] theorem intsD_len (a : Int) (n : Nat) : (intsD a n).length = n := by unfold intsD; simp
theorem lc_ind {α : Type} (enc : α → D) (I : List α → List D → Env → Prop) {g : D → Env → Option Env} {e : Env → Res D} {vs : List Nat} (step : ∀ a as acc r, I (a :: as) acc r → ∃ r1 y r3, g (enc a) r = some r1 ∧ e r1 = .ok y r3 ∧ acc.length < 16777216 ∧ notPs r3 vs = true ∧ I as (acc ++ [y]) (wipeR r3 vs)) :
    ∀ (xs : List α) (acc : List D) (r : Env), I xs acc r → ∃ acc' r', dLcL g dYes e vs (xs.map enc) r acc = .ok acc' r' ∧ I [] acc' r'
  | [], acc, r, h => ⟨acc, r, rfl, h⟩
  | x :: xs, acc, r, h => by
    obtain ⟨r1, y, r3, h1, h2, h3, h4, h5⟩ := step x xs acc r h
    obtain ⟨acc', r', h6, h7⟩ := lc_ind enc I step xs (acc ++ [y]) (wipeR r3 vs) h5
    refine ⟨acc', r', ?_, h7⟩
    rw [List.map_cons]
    unfold dLcL
    simp only [h1, e_dYes, h2, h3, h4, if_true, decide_true, Bool.and_self]
    exact h6
/-- a comprehension that leaves the frame as it is -/
theorem lc_pure {α : Type} (enc : α → D) (f : α → D) {g : D → Env → Option Env} {e : Env → Res D} {vs : List Nat} {r0 : Env} (xs : List α) (hl : xs.length ≤ 16777216) (step : ∀ a ∈ xs, ∃ r1, g (enc a) r0 = some r1 ∧ e r1 = .ok (f a) r1 ∧ notPs r1 vs = true ∧ wipeR r1 vs = r0) :
    dLcL g dYes e vs (xs.map enc) r0 [] = .ok (xs.map f) r0 := by
  have key : ∀ (ys : List α) (acc : List D), (∀ a ∈ ys, a ∈ xs) → acc.length + ys.length ≤ 16777216 → dLcL g dYes e vs (ys.map enc) r0 acc = .ok (acc ++ ys.map f) r0 := by
    intro ys
    induction ys with
    | nil => intro acc _ _; simp [dLcL]
    | cons y ys ih =>
      intro acc hm hl
      obtain ⟨r1, h1, h2, h3, h4⟩ := step y (hm y List.mem_cons_self)
      rw [List.map_cons]
      unfold dLcL
      have : acc.length < 16777216 := by simp at hl; omega
      simp only [h1, e_dYes, h2, h3, this, if_true, decide_true, Bool.and_self, h4]
      rw [ih (acc ++ [f y]) (fun a ha => hm a (List.mem_cons_of_mem _ ha)) (by simp at hl ⊢; omega)]
      simp
  simpa using key xs [] (fun a h => h) (by simpa using hl)
@[simp] theorem enum1 {x : D} : fEnum [x] = (itemsOf x).map enumD := (rfl)
@[simp] theorem e_dLc {di : Env → Res (List D)} {g : D → Env → Option Env} {t : Env → Res Bool} {e : Env → Res D} {vs : List Nat} {r : Env} : dLc di g t e vs r = (di r).bind fun xs r1 => if plainAt r1 vs = true then lcFin r1 vs (dLcL g t e vs xs (wipeR r1 vs) []) else .bad := (rfl)
@[simp] theorem plainAt0 {r : Env} : plainAt r [] = true := (rfl)
@[simp] theorem plainAt1 {r : Env} {v : Nat} {vs : List Nat} : plainAt r (v :: vs) = ((match r[v]? with
    | some (.v _) => true
    | some .un => true
    | _ => false) && plainAt r vs) := (rfl)
@[simp] theorem wipeR0 {r : Env} : wipeR r [] = r := (rfl)
@[simp] theorem wipeR1 {r : Env} {v : Nat} {vs : List Nat} : wipeR r (v :: vs) = (wipeR r vs).set v .un := (rfl)
@[simp] theorem notPs0 {r : Env} : notPs r [] = true := (rfl)
@[simp] theorem notPs1 {r : Env} {v : Nat} {vs : List Nat} : notPs r (v :: vs) = (notP r v && notPs r vs) := (rfl)
@[simp] theorem lcFin_ok {r1 r2 : Env} {vs : List Nat} {ys : List D} : lcFin r1 vs (.ok ys r2) = .ok (.n ys) (putSlots r1 vs r2) := (rfl)
@[simp] theorem putS0 {r r1 : Env} : putSlots r [] r1 = r1 := (rfl)
@[simp] theorem putS1 {r r1 : Env} {v : Nat} {vs : List Nat} : putSlots r (v :: vs) r1 = (match r[v]? with
    | some s => putSlots r vs (r1.set v s)
    | none => putSlots r vs r1) := (rfl)
theorem e_dWhile {t : Env → Res Bool} {b : Env → SRes} {n : Nat} {r : Env} : dWhile t b (n + 1) r = (t r).toS fun c r => if c = true then (match b r with
      | .nx r => dWhile t b n r
      | .ct r => dWhile t b n r
      | .bk r => .nx r
      | m => m) else .nx r := (rfl)
theorem dSeq_nx {a b : Env → SRes} {r r' : Env} (h : a r = .nx r') : dSeq a b r = b r' := by rw [e_dSeq, h]; rfl

end Py
end

section
set_option maxHeartbeats 400000
noncomputable section
namespace PyM
open Py PySem L2
/-! ## What every law's script is read by -/
def l__law_draws_1 : Py.Env → SRes := dSeq (dDrop (dMut 1 mAppend (dCons (dBin fMod (dCal fInt (dCons (dVar 3) (dNil))) (dC (.int 30))) (dNil)))) (dSeq (dSet 3 (dVal (dBin fDiv (dVar 3) (dC (.int 30))))) (dIf (dTst (dBin fEq (dVar 3) (dC (.int 0)))) (dBreak) (dNext)))
def l__law_draws_0 : Py.Env → SRes := dSeq (dSet 3 (dVal (dCal fInt (dCons (dBin fIx (dVar 0) (dVar 2)) (dNil))))) (dSeq (dIf (dTst (dBin fLt (dVar 3) (dC (.int 0)))) (dSet 3 (dVal (dBin fSub (dC (.int 11)) (dBin fMul (dC (.int 2)) (dVar 3))))) (dNext)) (dSeq (dSet 3 (dVal (dBin fMod (dCal fInt (dCons (dVar 3) (dNil))) (dBin fPow (dC (.int 30)) (dC (.int 24)))))) (dFor (dIt fRange1 (dCons (dC (.int 24)) (dNil))) (gNm 4) (l__law_draws_1))))
def f__law_draws : Py.Env → SRes := dSeq (dSet 1 (dLst (dNil))) (dSeq (dFor (dIt fRange1 (dCons (dCal fMin (dCons (dCal fLen (dCons (dVar 0) (dNil))) (dCons (dC (.int 63)) (dNil)))) (dNil))) (gNm 2) (l__law_draws_0)) (dSeq (dDrop (dMut 1 mReverse dNil)) (dRet (dMove 1))))
def c__law_draws : Py.Fn := runD 5 f__law_draws
def f__law_take : Py.Env → SRes := dSeq (dIf (dTst (dBin fEq (dLenO 0) (dC (.int 0)))) (dRet (dVal (dC (.int 0)))) (dNext)) (dRet (dVal (dBin fMod (dCal fInt (dCons (dHold (dMut 0 mPop dNil)) (dNil))) (dVar 1))))
def c__law_take : Py.Fn := runD 2 f__law_take
def small (d : Int) : Prop := 0 ≤ d ∧ d < 30
theorem inner : ∀ (xs : List D) (ds : List Int) (c : Int) (a0 a2 t : Slot), t.np = true → ds.length + xs.length < 16777216 → (∀ d ∈ ds, small d) →
    ∃ (ds' : List Int) (c' : Int) (t' : Slot), t'.np = true ∧ ds'.length ≤ ds.length + xs.length ∧ (∀ d ∈ ds', small d) ∧
      dForL (gNm 4) l__law_draws_1 xs [a0, .o (ds.map D.int), a2, .v (.int c), t] = .nx [a0, .o (ds'.map D.int), a2, .v (.int c'), t']
  | [], ds, c, a0, a2, t, ht, hl, hd => ⟨ds, c, t, ht, by simp, hd, rfl⟩
  | x :: xs, ds, c, a0, a2, t, ht, hl, hd => by
    have hl0 : ds.length < 16777216 := by simp at hl; omega
    have e : l__law_draws_1 [a0, .o (ds.map D.int), a2, .v (.int c), .v x] = if c / 30 = 0 then .bk [a0, .o ((ds ++ [c % 30]).map D.int), a2, .v (.int (c / 30)), .v x] else .nx [a0, .o ((ds ++ [c % 30]).map D.int), a2, .v (.int (c / 30)), .v x] := by
      simp [l__law_draws_1, hl0]
    rw [e_dForL1]
    simp only [e_gNm, e_np, List.getElem?_cons_succ, List.getElem?_cons_zero, ht, if_true, List.set_cons_succ, List.set_cons_zero]
    rw [e]
    have hd' : ∀ d ∈ ds ++ [c % 30], small d := fun d h => by
      rcases List.mem_append.mp h with h | h
      · exact hd d h
      · rw [List.mem_singleton.mp h]
        exact ⟨Int.emod_nonneg _ (by decide), Int.emod_lt_of_pos _ (by decide)⟩
    by_cases h0 : c / 30 = 0
    · rw [if_pos h0]
      exact ⟨ds ++ [c % 30], c / 30, .v x, rfl, by simp, hd', rfl⟩
    · rw [if_neg h0]
      obtain ⟨ds', c', t', h1, h2, h3, h4⟩ := inner xs (ds ++ [c % 30]) (c / 30) a0 a2 (.v x) rfl (by simp at hl ⊢; omega) hd'
      exact ⟨ds', c', t', h1, by simp at h2 ⊢; omega, h3, h4⟩
theorem outer (zs : List Int) : ∀ (xs : List Nat) (ds : List Int) (c t : Slot) (s2 : Slot), s2.np = true → c.np = true → t.np = true → (∀ x ∈ xs, x < zs.length) → ds.length + 24 * xs.length < 16777216 → (∀ d ∈ ds, small d) →
    ∃ (ds' : List Int) (c' t' s2' : Slot), ds'.length ≤ ds.length + 24 * xs.length ∧ (∀ d ∈ ds', small d) ∧
      dForL (gNm 2) l__law_draws_0 (xs.map fun k : Nat => D.int (0 + (k : Int))) [.v (.frl (zs.map D.int)), .o (ds.map D.int), s2, c, t] = .nx [.v (.frl (zs.map D.int)), .o (ds'.map D.int), s2', c', t']
  | [], ds, c, t, s2, h2, hc, ht, hx, hl, hd => ⟨ds, c, t, s2, by simp, hd, rfl⟩
  | x :: xs, ds, c, t, s2, h2, hc, ht, hx, hl, hd => by
    have hxl : x < zs.length := hx x List.mem_cons_self
    obtain ⟨ds1, c1, t1, k1, k2, k3, k4⟩ := inner (intsD 0 24) ds ((if zs[x] < 0 then 11 - 2 * zs[x] else zs[x]) % 30 ^ 24) (.v (.frl (zs.map D.int))) (.v (.int (0 + (x : Int)))) t ht (by simp [intsD] at hl ⊢; omega) hd
    have e : l__law_draws_0 [.v (.frl (zs.map D.int)), .o (ds.map D.int), .v (.int (0 + (x : Int))), c, t] = .nx [.v (.frl (zs.map D.int)), .o (ds1.map D.int), .v (.int (0 + (x : Int))), .v (.int c1), t1] := by
      rw [← k4]
      by_cases h0 : zs[x] < 0
      · simp [l__law_draws_0, hxl, hc, h0, mulOk, powOk, rg1i]
      · simp [l__law_draws_0, hxl, hc, h0, mulOk, powOk, rg1i]
    rw [List.map_cons, e_dForL1]
    simp only [e_gNm, e_np, List.getElem?_cons_succ, List.getElem?_cons_zero, h2, if_true, List.set_cons_succ, List.set_cons_zero]
    rw [e]
    obtain ⟨ds', c', t', s2', j1, j2, j3⟩ := outer zs xs ds1 (.v (.int c1)) t1 (.v (.int (0 + (x : Int)))) rfl rfl k1 (fun y hy => hx y (List.mem_cons_of_mem _ hy)) (by simp [intsD] at hl k2 ⊢; omega) k3
    exact ⟨ds', c', t', s2', by simp [intsD] at k2 ⊢; omega, j2, j3⟩
theorem draws_ok (zs : List Int) (h : zs.length ≤ 63) : ∃ ds : List Int, (∀ d ∈ ds, small d) ∧ ds.length ≤ 1512 ∧ c__law_draws [.v (.frl (zs.map D.int))] = .okn (ds.map D.int) [.un] := by
  have key : ∃ n : Nat, n ≤ zs.length ∧ n ≤ 63 ∧ (if (63 : Int) < zs.length then (63 : Int) else (zs.length : Int)) = (n : Int) := by
    by_cases h0 : (63 : Int) < zs.length
    · exact ⟨63, by omega, by omega, by rw [if_pos h0]; rfl⟩
    · exact ⟨zs.length, by omega, by omega, by rw [if_neg h0]⟩
  obtain ⟨n, n1, n2, n3⟩ := key
  obtain ⟨ds, c', t', s2', h1, h2, h3⟩ := outer zs (List.range n) [] .un .un .un rfl rfl rfl (fun x hx => by have := List.mem_range.mp hx; omega) (by simp; omega) (fun d hd => by cases hd)
  have r1 : inR (n : Int) = true := inR_nat (by omega)
  refine ⟨ds.reverse, fun d hd => h2 d (List.mem_reverse.mp hd), by simp at h1 ⊢; omega, ?_⟩
  have h3' : dForL (gNm 2) l__law_draws_0 (intsD 0 n) [.v (.frl (zs.map D.int)), .o [], .un, .un, .un] = .nx [.v (.frl (zs.map D.int)), .o (ds.map D.int), s2', c', t'] := by unfold intsD; exact h3
  simp [c__law_draws, f__law_draws, e_run, n3, rg1 (show n ≤ 1000000000 by omega), h3', List.map_reverse]
theorem take_ok (ds : List Int) (m : Int) (hm : 0 < m) (hd : ∀ d ∈ ds, small d) : ∃ (k : Int) (ds' : List Int), 0 ≤ k ∧ k < m ∧ (∀ d ∈ ds', small d) ∧ c__law_take [.p (ds.map D.int), .v (.int m)] = .ok (.int k) [.p (ds'.map D.int), .un] := by
  cases h : ds.getLast? with
  | none =>
    have : ds = [] := by simpa using h
    subst this
    exact ⟨0, [], by omega, hm, fun d hd => (nomatch hd), by simp [c__law_take, f__law_take, e_run]⟩
  | some x =>
    have hx : ds ≠ [] := fun z => by subst z; cases h
    have hl : ¬ ((ds.length : Int) = 0) := by
      have := List.length_pos_iff.mpr hx; omega
    have hp : mPop (ds.map D.int) [] = some (.int x, ds.dropLast.map D.int) := by
      unfold mPop
      rw [List.getLast?_map, h]
      simp
    refine ⟨x % m, ds.dropLast, Int.emod_nonneg _ (by omega), Int.emod_lt_of_pos _ hm, fun d hd' => hd d (List.dropLast_subset _ hd'), ?_⟩
    simp [c__law_take, f__law_take, e_run, hp, hx, hm]
end PyM
end
end

section
set_option maxHeartbeats 400000
namespace K05
open Py PySem L2
noncomputable section
def T : Tbl := [("KeysError", ["KeysError"]), ("BadNumber", ["BadNumber", "KeysError"]), ("BadHours", ["BadHours", "KeysError"]), ("BadStore", ["BadStore", "KeysError"])]
def plain_form_n0 : Nat := 1000000
def f_is_int : Py.Env → SRes := dRet (dVal (dAndV (dCal (fIs T) (dCons (dVar 0) (dCons (dC (.ty .int)) (dNil)))) (dNotV (dCal (fIs T) (dCons (dVar 0) (dCons (dC (.ty .bool)) (dNil)))))))
def c_is_int : Py.Fn := runD 1 f_is_int
def l_plain_form_1 : Py.Env → SRes := dDrop (dMut 1 mAppend (dCons (dVar 4) (dNil)))
def l_plain_form_0 : Py.Env → SRes := dSeq (dSet 3 (dMut 1 mPop dNil)) (dIf (dTru (dCal (fIs T) (dCons (dVar 3) (dCons (dTup (dCons (dC (.ty .lst)) (dCons (dC (.ty .tup)) (dNil)))) (dNil))))) (dSeq (dDrop (dMut 2 mAppend (dCons (dTup (dCons (dCal fLen (dCons (dVar 3) (dNil))) (dCons (dC (.bl true)) (dNil)))) (dNil)))) (dFor (dItems (dVar 3)) (gNm 4) (l_plain_form_1))) (dDrop (dMut 2 mAppend (dCons (dTup (dCons (dVar 3) (dCons (dC (.bl false)) (dNil)))) (dNil)))))
def l_plain_form_3 : Py.Env → SRes := dDrop (dMut 7 mAppend (dCons (dHold (dMut 5 mPop dNil)) (dNil)))
def l_plain_form_2 : Py.Env → SRes := dIf (dTru (dVar 6)) (dSeq (dSet 7 (dLst (dNil))) (dSeq (dFor (dIt fRange1 (dCons (dVar 3) (dNil))) (gNm 8) (l_plain_form_3)) (dDrop (dMut 5 mAppend (dCons (dCal fTuple (dCons (dUn fRev (dVar 7)) (dNil))) (dNil)))))) (dDrop (dMut 5 mAppend (dCons (dVar 3) (dNil))))
def st_plain_form_0 : Py.Env → SRes := dSet 1 (dLst (dCons (dVar 0) (dNil)))
def st_plain_form_1 : Py.Env → SRes := dSet 2 (dLst (dNil))
def st_plain_form_2 : Py.Env → SRes := dWhile (dTruO 1) (l_plain_form_0) plain_form_n0
def st_plain_form_3 : Py.Env → SRes := dSet 5 (dLst (dNil))
def st_plain_form_4 : Py.Env → SRes := dFor (dItems (dUn fRev (dVar 2))) (gSq 2 (gC (gNm 3) (gC (gNm 6) gN0))) (l_plain_form_2)
def st_plain_form_5 : Py.Env → SRes := dRet (dVal (dIxO 5 (dC (.int 0))))
def f_plain_form : Py.Env → SRes := dSeq (st_plain_form_0) (dSeq (st_plain_form_1) (dSeq (st_plain_form_2) (dSeq (st_plain_form_3) (dSeq (st_plain_form_4) (st_plain_form_5)))))
def c_plain_form : Py.Fn := runD 9 f_plain_form
def f_check_number : Py.Env → SRes := dSeq (dIf (dOr (dNot (dTru (dHold (dCall c_is_int (aVal (dVar 0) (aNil)))))) (dTst (dBin fLt (dVar 0) (dVar 1)))) (dRaise "BadNumber" "at" (dHold (dCall c_plain_form (aVal (dVar 0) (aNil))))) (dNext)) (dRet (dVal (dVar 0)))
def c_check_number : Py.Fn := runD 2 f_check_number
def st_wrong_store_part_0 : Py.Env → SRes := dIf (dOr (dNot (dTru (dCal (fIs T) (dCons (dVar 0) (dCons (dTup (dCons (dC (.ty .tup)) (dCons (dC (.ty .lst)) (dNil)))) (dNil)))))) (dTst (dBin fNe (dCal fLen (dCons (dVar 0) (dNil))) (dC (.int 4))))) (dRet (dVal (dUn fNeg (dC (.int 1))))) (dNext)
def st_wrong_store_part_1 : Py.Env → SRes := dAsg (dVar 0) (gSq 4 (gC (gNm 1) (gC (gNm 2) (gC (gNm 3) (gC (gNm 4) gN0)))))
def st_wrong_store_part_2 : Py.Env → SRes := dIf (dOr (dNot (dTru (dHold (dCall c_is_int (aVal (dVar 1) (aNil)))))) (dTst (dBin fLt (dVar 1) (dC (.int 0))))) (dRet (dVal (dC (.int 0)))) (dNext)
def st_wrong_store_part_3 : Py.Env → SRes := dIf (dAnd (dTst (dBin fIsNot (dVar 2) (dC .non))) (dOr (dNot (dTru (dHold (dCall c_is_int (aVal (dVar 2) (aNil)))))) (dTst (dBin fLt (dVar 2) (dC (.int 0)))))) (dRet (dVal (dC (.int 1)))) (dNext)
def st_wrong_store_part_4 : Py.Env → SRes := dIf (dOr (dNot (dTru (dHold (dCall c_is_int (aVal (dVar 3) (aNil)))))) (dTst (dBin fLt (dVar 3) (dC (.int 0))))) (dRet (dVal (dC (.int 2)))) (dNext)
def st_wrong_store_part_5 : Py.Env → SRes := dIf (dOr (dNot (dTru (dCal (fIs T) (dCons (dVar 4) (dCons (dC (.ty .str)) (dNil)))))) (dTst (dBin (fInW true) (dVar 4) (dTup (dCons (dC (.str "anew")) (dCons (dC (.str "on")) (dNil))))))) (dRet (dVal (dC (.int 3)))) (dNext)
def st_wrong_store_part_6 : Py.Env → SRes := dRet (dVal (dC .non))
def f_wrong_store_part : Py.Env → SRes := dSeq (st_wrong_store_part_0) (dSeq (st_wrong_store_part_1) (dSeq (st_wrong_store_part_2) (dSeq (st_wrong_store_part_3) (dSeq (st_wrong_store_part_4) (dSeq (st_wrong_store_part_5) (st_wrong_store_part_6))))))
def c_wrong_store_part : Py.Fn := runD 5 f_wrong_store_part
def l_wrong_way_place_0 : Py.Env → SRes := dSeq (dSet 3 (dCall c_wrong_store_part (aVal (dVar 2) (aNil)))) (dIf (dTst (dBin fIsNot (dVar 3) (dC .non))) (dRet (dVal (dTup (dCons (dVar 1) (dCons (dVar 3) (dNil)))))) (dNext))
def f_wrong_way_place : Py.Env → SRes := dSeq (dIf (dOr (dNot (dTru (dCal (fIs T) (dCons (dVar 0) (dCons (dTup (dCons (dC (.ty .tup)) (dCons (dC (.ty .lst)) (dNil)))) (dNil)))))) (dTst (dBin fEq (dCal fLen (dCons (dVar 0) (dNil))) (dC (.int 0))))) (dRet (dVal (dTup (dCons (dUn fNeg (dC (.int 1))) (dCons (dUn fNeg (dC (.int 1))) (dNil)))))) (dNext)) (dSeq (dFor (dIt fEnum (dCons (dVar 0) (dNil))) (gSq 2 (gC (gNm 1) (gC (gNm 2) gN0))) (l_wrong_way_place_0)) (dRet (dVal (dC .non))))
def c_wrong_way_place : Py.Fn := runD 4 f_wrong_way_place
def l_plain_way_0 : Py.Env → SRes := dDrop (dMut 1 mAppend (dCons (dCal fTuple (dCons (dVar 2) (dNil))) (dNil)))
def f_plain_way : Py.Env → SRes := dSeq (dSet 1 (dLst (dNil))) (dSeq (dFor (dItems (dVar 0)) (gNm 2) (l_plain_way_0)) (dRet (dVal (dCal fTuple (dCons (dVar 1) (dNil))))))
def c_plain_way : Py.Fn := runD 3 f_plain_way
def f_check_way : Py.Env → SRes := dSeq (dSet 1 (dCall c_wrong_way_place (aVal (dVar 0) (aNil)))) (dSeq (dIf (dTst (dBin fIsNot (dVar 1) (dC .non))) (dRaise "BadStore" "at" (dVar 1)) (dNext)) (dRet (dCall c_plain_way (aVal (dVar 0) (aNil)))))
def c_check_way : Py.Fn := runD 2 f_check_way
def l_check_ways_0 : Py.Env → SRes := dSeq (dSet 4 (dCall c_wrong_way_place (aVal (dVar 3) (aNil)))) (dSeq (dIf (dTst (dBin fIsNot (dVar 4) (dC .non))) (dRaise "BadStore" "at" (dTup (dCons (dVar 2) (dCons (dBin fIx (dVar 4) (dC (.int 0))) (dCons (dBin fIx (dVar 4) (dC (.int 1))) (dNil)))))) (dNext)) (dDrop (dMut 1 mAppend (dCons (dHold (dCall c_plain_way (aVal (dVar 3) (aNil)))) (dNil)))))
def f_check_ways : Py.Env → SRes := dSeq (dIf (dOr (dNot (dTru (dCal (fIs T) (dCons (dVar 0) (dCons (dTup (dCons (dC (.ty .tup)) (dCons (dC (.ty .lst)) (dNil)))) (dNil)))))) (dTst (dBin fEq (dCal fLen (dCons (dVar 0) (dNil))) (dC (.int 0))))) (dRaise "BadStore" "at" (dTup (dCons (dUn fNeg (dC (.int 1))) (dCons (dUn fNeg (dC (.int 1))) (dCons (dUn fNeg (dC (.int 1))) (dNil)))))) (dNext)) (dSeq (dSet 1 (dLst (dNil))) (dSeq (dFor (dIt fEnum (dCons (dVar 0) (dNil))) (gSq 2 (gC (gNm 2) (gC (gNm 3) gN0))) (l_check_ways_0)) (dRet (dVal (dCal fTuple (dCons (dVar 1) (dNil)))))))
def c_check_ways : Py.Fn := runD 5 f_check_ways
def l_plain_groups_0 : Py.Env → SRes := dIf (dOr (dTst (dBin fEq (dBin fIx (dVar 4) (dC (.int 3))) (dC (.str "anew")))) (dTst (dBin fEq (dVar 3) (dBin fSub (dCal fLen (dCons (dVar 0) (dNil))) (dC (.int 1)))))) (dSeq (dDrop (dMut 1 mAppend (dCons (dTupRg2 (dVar 2) (dBin fAdd (dVar 3) (dC (.int 1)))) (dNil)))) (dSet 2 (dVal (dBin fAdd (dVar 3) (dC (.int 1)))))) (dNext)
def f_plain_groups : Py.Env → SRes := dSeq (dSet 1 (dLst (dNil))) (dSeq (dSet 2 (dVal (dC (.int 0)))) (dSeq (dFor (dIt fEnum (dCons (dVar 0) (dNil))) (gSq 2 (gC (gNm 3) (gC (gNm 4) gN0))) (l_plain_groups_0)) (dRet (dVal (dCal fTuple (dCons (dVar 1) (dNil)))))))
def c_plain_groups : Py.Fn := runD 5 f_plain_groups
def l_plain_caps_1 : Py.Env → SRes := dSeq (dSet 5 (dVal (dBin fIx (dBin fIx (dVar 0) (dVar 4)) (dC (.int 1))))) (dIf (dTst (dBin fIsNot (dVar 3) (dC .non))) (dSet 3 (dVal (dIfE (dTst (dBin fIsN (dVar 5) (dC .non))) (dC .non) (dBin fAdd (dVar 3) (dVar 5))))) (dNext))
def l_plain_caps_0 : Py.Env → SRes := dSeq (dSet 3 (dVal (dC (.int 0)))) (dSeq (dFor (dItems (dVar 2)) (gNm 4) (l_plain_caps_1)) (dDrop (dMut 1 mAppend (dCons (dVar 3) (dNil)))))
def f_plain_caps : Py.Env → SRes := dSeq (dSet 1 (dLst (dNil))) (dSeq (dFor (dItems (dHold (dCall c_plain_groups (aVal (dVar 0) (aNil))))) (gNm 2) (l_plain_caps_0)) (dRet (dVal (dCal fTuple (dCons (dVar 1) (dNil))))))
def c_plain_caps : Py.Fn := runD 6 f_plain_caps
def l_plain_base_0 : Py.Env → SRes := dSet 1 (dVal (dBin fAdd (dBin fAdd (dVar 1) (dBin fIx (dVar 2) (dC (.int 0)))) (dBin fIx (dVar 2) (dC (.int 2)))))
def f_plain_base : Py.Env → SRes := dSeq (dSet 1 (dVal (dC (.int 0)))) (dSeq (dFor (dItems (dVar 0)) (gNm 2) (l_plain_base_0)) (dRet (dMove 1)))
def c_plain_base : Py.Fn := runD 3 f_plain_base
def l_life_shares_0 : Py.Env → SRes := dDrop (dMut 2 mAppend (dCons (dIfE (dTst (dBin fIsN (dVar 3) (dC .non))) (dVar 1) (dCal fMin (dCons (dVar 1) (dCons (dVar 3) (dNil))))) (dNil)))
def f_life_shares : Py.Env → SRes := dSeq (dSet 2 (dLst (dNil))) (dSeq (dFor (dItems (dHold (dCall c_plain_caps (aVal (dVar 0) (aNil))))) (gNm 3) (l_life_shares_0)) (dRet (dVal (dCal fTuple (dCons (dVar 2) (dNil))))))
def c_life_shares : Py.Fn := runD 4 f_life_shares
def l_plain_delay_0 : Py.Env → SRes := dSet 2 (dVal (dBin fAdd (dVar 2) (dVar 3)))
def f_plain_delay : Py.Env → SRes := dSeq (dSet 2 (dCall c_plain_base (aVal (dVar 0) (aNil)))) (dSeq (dFor (dItems (dHold (dCall c_life_shares (aVal (dVar 0) (aVal (dVar 1) (aNil)))))) (gNm 3) (l_plain_delay_0)) (dRet (dMove 2)))
def c_plain_delay : Py.Fn := runD 4 f_plain_delay
def l_plain_ways_delay_0 : Py.Env → SRes := dSet 2 (dVal (dCal fMax (dCons (dVar 2) (dCons (dHold (dCall c_plain_delay (aVal (dVar 3) (aVal (dVar 1) (aNil))))) (dNil)))))
def f_plain_ways_delay : Py.Env → SRes := dSeq (dSet 2 (dVal (dC (.int 0)))) (dSeq (dFor (dItems (dVar 0)) (gNm 3) (l_plain_ways_delay_0)) (dRet (dMove 2)))
def c_plain_ways_delay : Py.Fn := runD 4 f_plain_ways_delay
def f_groups_of : Py.Env → SRes := dRet (dCall c_plain_groups (aVal (dHold (dCall c_check_way (aVal (dVar 0) (aNil)))) (aNil)))
def c_groups_of : Py.Fn := runD 1 f_groups_of
def f_group_caps : Py.Env → SRes := dRet (dCall c_plain_caps (aVal (dHold (dCall c_check_way (aVal (dVar 0) (aNil)))) (aNil)))
def c_group_caps : Py.Fn := runD 1 f_group_caps
def f_base_hours : Py.Env → SRes := dRet (dCall c_plain_base (aVal (dHold (dCall c_check_way (aVal (dVar 0) (aNil)))) (aNil)))
def c_base_hours : Py.Fn := runD 1 f_base_hours
def f_way_delay : Py.Env → SRes := dSeq (dSet 2 (dCall c_check_way (aVal (dVar 0) (aNil)))) (dSeq (dDrop (dCall c_check_number (aVal (dVar 1) (aVal (dC (.int 0)) (aNil))))) (dRet (dCall c_plain_delay (aVal (dVar 2) (aVal (dVar 1) (aNil))))))
def c_way_delay : Py.Fn := runD 3 f_way_delay
def f_ways_delay : Py.Env → SRes := dSeq (dSet 2 (dCall c_check_ways (aVal (dVar 0) (aNil)))) (dSeq (dDrop (dCall c_check_number (aVal (dVar 1) (aVal (dC (.int 0)) (aNil))))) (dRet (dCall c_plain_ways_delay (aVal (dVar 2) (aVal (dVar 1) (aNil))))))
def c_ways_delay : Py.Fn := runD 3 f_ways_delay
def l__law_draws_1 : Py.Env → SRes := dSeq (dDrop (dMut 1 mAppend (dCons (dBin fMod (dCal fInt (dCons (dVar 3) (dNil))) (dC (.int 30))) (dNil)))) (dSeq (dSet 3 (dVal (dBin fDiv (dVar 3) (dC (.int 30))))) (dIf (dTst (dBin fEq (dVar 3) (dC (.int 0)))) (dBreak) (dNext)))
def l__law_draws_0 : Py.Env → SRes := dSeq (dSet 3 (dVal (dCal fInt (dCons (dBin fIx (dVar 0) (dVar 2)) (dNil))))) (dSeq (dIf (dTst (dBin fLt (dVar 3) (dC (.int 0)))) (dSet 3 (dVal (dBin fSub (dC (.int 11)) (dBin fMul (dC (.int 2)) (dVar 3))))) (dNext)) (dSeq (dSet 3 (dVal (dBin fMod (dCal fInt (dCons (dVar 3) (dNil))) (dBin fPow (dC (.int 30)) (dC (.int 24)))))) (dFor (dIt fRange1 (dCons (dC (.int 24)) (dNil))) (gNm 4) (l__law_draws_1))))
def f__law_draws : Py.Env → SRes := dSeq (dSet 1 (dLst (dNil))) (dSeq (dFor (dIt fRange1 (dCons (dCal fMin (dCons (dCal fLen (dCons (dVar 0) (dNil))) (dCons (dC (.int 63)) (dNil)))) (dNil))) (gNm 2) (l__law_draws_0)) (dSeq (dDrop (dMut 1 mReverse dNil)) (dRet (dMove 1))))
def c__law_draws : Py.Fn := runD 5 f__law_draws
def f__law_take : Py.Env → SRes := dSeq (dIf (dTst (dBin fEq (dLenO 0) (dC (.int 0)))) (dRet (dVal (dC (.int 0)))) (dNext)) (dRet (dVal (dBin fMod (dCal fInt (dCons (dHold (dMut 0 mPop dNil)) (dNil))) (dVar 1))))
def c__law_take : Py.Fn := runD 2 f__law_take
def f__law_is_int : Py.Env → SRes := dRet (dVal (dAndV (dCal (fIs T) (dCons (dVar 0) (dCons (dC (.ty .int)) (dNil)))) (dNotV (dCal (fIs T) (dCons (dVar 0) (dCons (dC (.ty .bool)) (dNil)))))))
def c__law_is_int : Py.Fn := runD 1 f__law_is_int
def st__law_store_0 : Py.Env → SRes := dSet 3 (dVal (dBin fMul (dBin fIx (dHold (dLst (dCons (dC (.int 0)) (dCons (dC (.int 2)) (dCons (dC (.int 1)) (dCons (dC (.int 5)) (dNil))))))) (dHold (dCall c__law_take (aOpn 0 (aVal (dC (.int 4)) (aNil)))))) (dVar 2)))
def st__law_store_1 : Py.Env → SRes := dSet 4 (dVal (dBin fIx (dHold (dLst (dCons (dC .non) (dCons (dC (.int 3)) (dCons (dC (.int 0)) (dCons (dC (.int 7)) (dCons (dC (.int 1)) (dCons (dC (.int 12)) (dNil))))))))) (dHold (dCall c__law_take (aOpn 0 (aVal (dC (.int 6)) (aNil)))))))
def st__law_store_2 : Py.Env → SRes := dIf (dTst (dBin fIsNot (dVar 4) (dC .non))) (dSet 4 (dVal (dBin fMul (dVar 4) (dVar 2)))) (dNext)
def st__law_store_3 : Py.Env → SRes := dSet 5 (dVal (dBin fMul (dBin fIx (dHold (dLst (dCons (dC (.int 1)) (dCons (dC (.int 0)) (dCons (dC (.int 2)) (dNil)))))) (dHold (dCall c__law_take (aOpn 0 (aVal (dC (.int 3)) (aNil)))))) (dVar 2)))
def st__law_store_4 : Py.Env → SRes := dSet 6 (dVal (dBin fIx (dHold (dLst (dCons (dC (.str "anew")) (dCons (dC (.str "on")) (dNil))))) (dBin fMod (dCal fInt (dCons (dBin fAdd (dHold (dCall c__law_take (aOpn 0 (aVal (dC (.int 2)) (aNil))))) (dVar 1)) (dNil))) (dC (.int 2)))))
def st__law_store_5 : Py.Env → SRes := dRet (dVal (dTup (dCons (dVar 3) (dCons (dVar 4) (dCons (dVar 5) (dCons (dVar 6) (dNil)))))))
def f__law_store : Py.Env → SRes := dSeq (st__law_store_0) (dSeq (st__law_store_1) (dSeq (st__law_store_2) (dSeq (st__law_store_3) (dSeq (st__law_store_4) (st__law_store_5)))))
def c__law_store : Py.Fn := runD 7 f__law_store
def q__law_course_0 : Py.Env → Res D := dHold (dCall c__law_store (aOpn 0 (aVal (dVar 3) (aVal (dVar 1) (aNil)))))
def f__law_course : Py.Env → SRes := dSeq (dSet 2 (dVal (dBin fIx (dHold (dLst (dCons (dC (.int 2)) (dCons (dC (.int 1)) (dCons (dC (.int 3)) (dCons (dC (.int 4)) (dNil))))))) (dHold (dCall c__law_take (aOpn 0 (aVal (dC (.int 4)) (aNil)))))))) (dRet (dVal (dCal fTuple (dCons (dHold (dLc (dIt fRange1 (dCons (dVar 2) (dNil))) (gNm 3) (dYes) (q__law_course_0) [3])) (dNil)))))
def c__law_course : Py.Fn := runD 4 f__law_course
def l__law_groups_0 : Py.Env → SRes := dSeq (dDrop (dMut 2 mAppend (dCons (dVar 3) (dNil)))) (dIf (dOr (dTst (dBin fEq (dBin fIx (dBin fIx (dVar 0) (dVar 3)) (dC (.int 3))) (dC (.str "anew")))) (dTst (dBin fEq (dBin fAdd (dVar 3) (dC (.int 1))) (dCal fLen (dCons (dVar 0) (dNil)))))) (dSeq (dDrop (dMut 1 mAppend (dCons (dCal fTuple (dCons (dVar 2) (dNil))) (dNil)))) (dSet 2 (dLst (dNil)))) (dNext))
def f__law_groups : Py.Env → SRes := dSeq (dSet 1 (dLst (dNil))) (dSeq (dSet 2 (dLst (dNil))) (dSeq (dFor (dIt fRange1 (dCons (dCal fLen (dCons (dVar 0) (dNil))) (dNil))) (gNm 3) (l__law_groups_0)) (dRet (dMove 1))))
def c__law_groups : Py.Fn := runD 4 f__law_groups
def l__law_cap_sum_0 : Py.Env → SRes := dSeq (dIf (dTst (dBin fIsN (dBin fIx (dBin fIx (dVar 0) (dVar 3)) (dC (.int 1))) (dC .non))) (dRet (dVal (dC .non))) (dNext)) (dSet 2 (dVal (dBin fAdd (dVar 2) (dBin fIx (dBin fIx (dVar 0) (dVar 3)) (dC (.int 1))))))
def f__law_cap_sum : Py.Env → SRes := dSeq (dSet 2 (dVal (dC (.int 0)))) (dSeq (dFor (dItems (dVar 1)) (gNm 3) (l__law_cap_sum_0)) (dRet (dMove 2)))
def c__law_cap_sum : Py.Fn := runD 4 f__law_cap_sum
def l__law_greedy_0 : Py.Env → SRes := dSeq (dSet 5 (dVal (dVar 3))) (dSeq (dIf (dAnd (dTst (dBin fIsNot (dBin fIx (dVar 4) (dC (.int 1))) (dC .non))) (dTst (dBin fLt (dBin fIx (dVar 4) (dC (.int 1))) (dVar 3)))) (dSet 5 (dVal (dBin fIx (dVar 4) (dC (.int 1))))) (dNext)) (dSeq (dSet 2 (dVal (dBin fAdd (dBin fAdd (dBin fAdd (dVar 2) (dBin fIx (dVar 4) (dC (.int 0)))) (dVar 5)) (dBin fIx (dVar 4) (dC (.int 2)))))) (dSeq (dSet 3 (dVal (dBin fSub (dVar 3) (dVar 5)))) (dIf (dTst (dBin fEq (dBin fIx (dVar 4) (dC (.int 3))) (dC (.str "anew")))) (dSet 3 (dVal (dVar 1))) (dNext)))))
def f__law_greedy : Py.Env → SRes := dSeq (dSet 2 (dVal (dC (.int 0)))) (dSeq (dSet 3 (dVal (dVar 1))) (dSeq (dFor (dItems (dVar 0)) (gNm 4) (l__law_greedy_0)) (dRet (dMove 2))))
def c__law_greedy : Py.Fn := runD 6 f__law_greedy
def l__law_row_0 : Py.Env → SRes := dIf (dTst (dBin fIsN (dBin fIx (dVar 1) (dVar 2)) (dC .non))) (dIf (dTst (dBin fIsNot (dBin fIx (dVar 0) (dVar 2)) (dC .non))) (dRet (dVal (dC (.bl false)))) (dNext)) (dIf (dOr (dNot (dTru (dHold (dCall c__law_is_int (aVal (dBin fIx (dVar 0) (dVar 2)) (aNil)))))) (dTst (dBin fNe (dBin fIx (dVar 0) (dVar 2)) (dBin fIx (dVar 1) (dVar 2))))) (dRet (dVal (dC (.bl false)))) (dNext))
def f__law_row : Py.Env → SRes := dSeq (dIf (dOr (dNot (dTru (dCal (fIs T) (dCons (dVar 0) (dCons (dC (.ty .tup)) (dNil)))))) (dTst (dBin fNe (dCal fLen (dCons (dVar 0) (dNil))) (dCal fLen (dCons (dVar 1) (dNil)))))) (dRet (dVal (dC (.bl false)))) (dNext)) (dSeq (dFor (dIt fRange1 (dCons (dCal fLen (dCons (dVar 1) (dNil))) (dNil))) (gNm 2) (l__law_row_0)) (dRet (dVal (dC (.bl true)))))
def c__law_row : Py.Fn := runD 3 f__law_row
def l__law_rows_0 : Py.Env → SRes := dIf (dNot (dTru (dHold (dCall c__law_row (aVal (dBin fIx (dVar 0) (dVar 2)) (aVal (dBin fIx (dVar 1) (dVar 2)) (aNil))))))) (dRet (dVal (dC (.bl false)))) (dNext)
def f__law_rows : Py.Env → SRes := dSeq (dIf (dOr (dNot (dTru (dCal (fIs T) (dCons (dVar 0) (dCons (dC (.ty .tup)) (dNil)))))) (dTst (dBin fNe (dCal fLen (dCons (dVar 0) (dNil))) (dCal fLen (dCons (dVar 1) (dNil)))))) (dRet (dVal (dC (.bl false)))) (dNext)) (dSeq (dFor (dIt fRange1 (dCons (dCal fLen (dCons (dVar 1) (dNil))) (dNil))) (gNm 2) (l__law_rows_0)) (dRet (dVal (dC (.bl true)))))
def c__law_rows : Py.Fn := runD 3 f__law_rows
def f__law_number : Py.Env → SRes := dRet (dVal (dAndV (dHold (dCall c__law_is_int (aVal (dVar 0) (aNil)))) (dBin fEq (dVar 0) (dVar 1))))
def c__law_number : Py.Fn := runD 2 f__law_number
def f__law_refused : Py.Env → SRes := dSeq (dIf (dOr (dNot (dTru (dCal (fIs T) (dCons (dVar 0) (dCons (dC (.cl "BadNumber")) (dNil)))))) (dNot (dTru (dCal (fIs T) (dCons (dVar 0) (dCons (dC (.cl "KeysError")) (dNil))))))) (dRet (dVal (dC (.bl false)))) (dNext)) (dSeq (dIf (dOr (dTru (dCal (fIs T) (dCons (dVar 0) (dCons (dC (.cl "BadStore")) (dNil))))) (dTru (dCal (fIs T) (dCons (dVar 0) (dCons (dC (.cl "BadHours")) (dNil)))))) (dRet (dVal (dC (.bl false)))) (dNext)) (dSeq (dIf (dTst (dBin fIsN (dVar 1) (dC (.bl true)))) (dRet (dVal (dBin fIsN (dAt T "at" (dVar 0)) (dC (.bl true))))) (dNext)) (dRet (dVal (dAndV (dHold (dCall c__law_is_int (aVal (dAt T "at" (dVar 0)) (aNil)))) (dBin fEq (dAt T "at" (dVar 0)) (dVar 1)))))))
def c__law_refused : Py.Fn := runD 2 f__law_refused
def q_law_0 : Py.Env → Res D := dHold (dCall c__law_cap_sum (aVal (dVar 3) (aVal (dVar 16) (aNil))))
def q_law_1 : Py.Env → Res D := dBin fAdd (dBin fIx (dVar 17) (dC (.int 0))) (dBin fIx (dVar 17) (dC (.int 2)))
def l_law_0 : Py.Env → SRes := dSeq (dSet 11 (dCall c__law_greedy (aVal (dVar 3) (aVal (dVar 10) (aNil))))) (dSeq (dSet 12 (dCall c__law_greedy (aVal (dVar 4) (aVal (dVar 10) (aNil))))) (dSeq (dIf (dOr (dNot (dTru (dHold (dCall c__law_number (aVal (dHold (dCall c_way_delay (aVal (dVar 3) (aVal (dVar 10) (aNil))))) (aVal (dVar 11) (aNil))))))) (dNot (dTru (dHold (dCall c__law_number (aVal (dHold (dCall c_way_delay (aVal (dVar 4) (aVal (dVar 10) (aNil))))) (aVal (dVar 12) (aNil)))))))) (dRet (dVal (dC (.bl false)))) (dNext)) (dSeq (dIf (dNot (dTru (dHold (dCall c__law_number (aVal (dHold (dCall c_ways_delay (aVal (dTup (dCons (dVar 3) (dCons (dVar 4) (dNil)))) (aVal (dVar 10) (aNil))))) (aVal (dCal fMax (dCons (dVar 11) (dCons (dVar 12) (dNil)))) (aNil))))))) (dRet (dVal (dC (.bl false)))) (dNext)) (dIf (dNot (dTru (dHold (dCall c__law_number (aVal (dHold (dCall c_ways_delay (aVal (dTup (dCons (dVar 4) (dNil))) (aVal (dVar 10) (aNil))))) (aVal (dVar 12) (aNil))))))) (dRet (dVal (dC (.bl false)))) (dNext)))))
def q_law_2 : Py.Env → Res D := dCal fList (dCons (dVar 17) (dNil))
def q_law_3 : Py.Env → Res D := dCal fTuple (dCons (dVar 17) (dNil))
def st_law_0 : Py.Env → SRes := dSet 1 (dCall c__law_draws (aVal (dVar 0) (aNil)))
def st_law_1 : Py.Env → SRes := dSet 2 (dVal (dBin fIx (dHold (dLst (dCons (dC (.int 1)) (dCons (dC (.int 1)) (dCons (dBin fPow (dC (.int 10)) (dC (.int 12))) (dCons (dBin fPow (dC (.int 10)) (dC (.int 30))) (dNil))))))) (dHold (dCall c__law_take (aOpn 1 (aVal (dC (.int 4)) (aNil)))))))
def st_law_2 : Py.Env → SRes := dSet 3 (dCall c__law_course (aOpn 1 (aVal (dVar 2) (aNil))))
def st_law_3 : Py.Env → SRes := dSet 4 (dCall c__law_course (aOpn 1 (aVal (dVar 2) (aNil))))
def st_law_4 : Py.Env → SRes := dSet 5 (dCall c__law_take (aOpn 1 (aVal (dC (.int 20)) (aNil))))
def st_law_5 : Py.Env → SRes := dSet 6 (dVal (dTup (dCons (dC (.int 0)) (dCons (dVar 5) (dCons (dBin fAdd (dBin fMul (dVar 5) (dVar 2)) (dC (.int 1))) (dCons (dBin fMul (dC (.int 10)) (dVar 2)) (dCons (dBin fAdd (dBin fPow (dC (.int 10)) (dC (.int 31))) (dVar 5)) (dNil))))))))
def st_law_6 : Py.Env → SRes := dSet 7 (dCall c__law_groups (aVal (dVar 3) (aNil)))
def st_law_7 : Py.Env → SRes := dSet 8 (dVal (dCal fTuple (dCons (dHold (dLc (dItems (dVar 7)) (gNm 16) (dYes) (q_law_0) [16])) (dNil))))
def st_law_8 : Py.Env → SRes := dSet 9 (dVal (dCal fSum (dCons (dHold (dLc (dItems (dVar 3)) (gNm 17) (dYes) (q_law_1) [17])) (dNil))))
def st_law_9 : Py.Env → SRes := dIf (dOr (dNot (dTru (dHold (dCall c__law_rows (aVal (dHold (dCall c_groups_of (aVal (dVar 3) (aNil)))) (aVal (dVar 7) (aNil))))))) (dNot (dTru (dHold (dCall c__law_row (aVal (dHold (dCall c_group_caps (aVal (dVar 3) (aNil)))) (aVal (dVar 8) (aNil)))))))) (dRet (dVal (dC (.bl false)))) (dNext)
def st_law_10 : Py.Env → SRes := dIf (dNot (dTru (dHold (dCall c__law_number (aVal (dHold (dCall c_base_hours (aVal (dVar 3) (aNil)))) (aVal (dVar 9) (aNil))))))) (dRet (dVal (dC (.bl false)))) (dNext)
def st_law_11 : Py.Env → SRes := dFor (dItems (dVar 6)) (gNm 10) (l_law_0)
def st_law_12 : Py.Env → SRes := dSet 13 (dLc (dItems (dVar 3)) (gNm 17) (dYes) (q_law_2) [17])
def st_law_13 : Py.Env → SRes := dIf (dOr (dNot (dTru (dHold (dCall c__law_rows (aVal (dHold (dCall c_groups_of (aVal (dVar 13) (aNil)))) (aVal (dVar 7) (aNil))))))) (dNot (dTru (dHold (dCall c__law_number (aVal (dHold (dCall c_way_delay (aVal (dVar 13) (aVal (dBin fIx (dVar 6) (dC (.int 2))) (aNil))))) (aVal (dHold (dCall c__law_greedy (aVal (dVar 3) (aVal (dBin fIx (dVar 6) (dC (.int 2))) (aNil))))) (aNil)))))))) (dRet (dVal (dC (.bl false)))) (dNext)
def st_law_14 : Py.Env → SRes := dIf (dTst (dBin fNe (dCal fTuple (dCons (dHold (dLc (dItems (dVar 13)) (gNm 17) (dYes) (q_law_3) [17])) (dNil))) (dVar 3))) (dRet (dVal (dC (.bl false)))) (dNext)
def st_law_15 : Py.Env → SRes := dSet 14 (dVal (dC .non))
def st_law_16 : Py.Env → SRes := dTry T (dDrop (dCall c_way_delay (aVal (dVar 3) (aVal (dBin fSub (dUn fNeg (dC (.int 1))) (dVar 5)) (aNil))))) (("KeysError", some 15, dSet 14 (dVal (dVar 15))) :: [])
def st_law_17 : Py.Env → SRes := dIf (dNot (dTru (dHold (dCall c__law_refused (aVal (dVar 14) (aVal (dBin fSub (dUn fNeg (dC (.int 1))) (dVar 5)) (aNil))))))) (dRet (dVal (dC (.bl false)))) (dNext)
def st_law_18 : Py.Env → SRes := dSet 14 (dVal (dC .non))
def st_law_19 : Py.Env → SRes := dTry T (dDrop (dCall c_ways_delay (aVal (dTup (dCons (dVar 3) (dCons (dVar 4) (dNil)))) (aVal (dC (.bl true)) (aNil))))) (("KeysError", some 15, dSet 14 (dVal (dVar 15))) :: [])
def st_law_20 : Py.Env → SRes := dRet (dCall c__law_refused (aVal (dVar 14) (aVal (dC (.bl true)) (aNil))))
def f_law : Py.Env → SRes := dSeq (st_law_0) (dSeq (st_law_1) (dSeq (st_law_2) (dSeq (st_law_3) (dSeq (st_law_4) (dSeq (st_law_5) (dSeq (st_law_6) (dSeq (st_law_7) (dSeq (st_law_8) (dSeq (st_law_9) (dSeq (st_law_10) (dSeq (st_law_11) (dSeq (st_law_12) (dSeq (st_law_13) (dSeq (st_law_14) (dSeq (st_law_15) (dSeq (st_law_16) (dSeq (st_law_17) (dSeq (st_law_18) (dSeq (st_law_19) (st_law_20))))))))))))))))))))
def c_law : Py.Fn := runD 18 f_law
end
end K05
end

section
set_option maxHeartbeats 400000
namespace K05
open Py PySem PySem.Spec PyProof.Rows L2
def top (i : Nat) : Stmt := PySem.Challenge.pw_keysoverlap_k05_delays_by_groups.main.body.getD i (.Pass ⟨0, 0, 0, 0⟩)
def inS (i j : Nat) : Stmt := match top i with
  | .ClassDef _ _ _ b _ _ _ _ _ _ _ => b.getD j (.Pass ⟨0, 0, 0, 0⟩)
  | s => s
abbrev s_is_int : Stmt := top 6
abbrev s_plain_form : Stmt := top 7
abbrev s_check_number : Stmt := top 8
abbrev s_wrong_store_part : Stmt := top 10
abbrev s_wrong_way_place : Stmt := top 11
abbrev s_plain_way : Stmt := top 12
abbrev s_check_way : Stmt := top 13
abbrev s_check_ways : Stmt := top 14
abbrev s_plain_groups : Stmt := top 15
abbrev s_plain_caps : Stmt := top 16
abbrev s_plain_base : Stmt := top 17
abbrev s_life_shares : Stmt := top 18
abbrev s_plain_delay : Stmt := top 19
abbrev s_plain_ways_delay : Stmt := top 20
abbrev s_groups_of : Stmt := top 21
abbrev s_group_caps : Stmt := top 22
abbrev s_base_hours : Stmt := top 23
abbrev s_way_delay : Stmt := top 24
abbrev s_ways_delay : Stmt := top 25
abbrev s__law_draws : Stmt := top 27
abbrev s__law_take : Stmt := top 28
abbrev s__law_is_int : Stmt := top 29
abbrev s__law_store : Stmt := top 30
abbrev s__law_course : Stmt := top 31
abbrev s__law_groups : Stmt := top 32
abbrev s__law_cap_sum : Stmt := top 33
abbrev s__law_greedy : Stmt := top 34
abbrev s__law_row : Stmt := top 35
abbrev s__law_rows : Stmt := top 36
abbrev s__law_number : Stmt := top 37
abbrev s__law_refused : Stmt := top 38
abbrev s_law : Stmt := top 39
abbrev s_BadNumber : Stmt := inS 2 0
abbrev s_BadHours : Stmt := inS 3 0
abbrev s_BadStore : Stmt := inS 4 0
def fa : List He.Fa := [.glo "is_int", .glo "plain_form", .glo "check_number", .glo "wrong_store_part", .glo "wrong_way_place", .glo "plain_way", .glo "check_way", .glo "check_ways", .glo "plain_groups", .glo "plain_caps", .glo "plain_base", .glo "life_shares", .glo "plain_delay", .glo "plain_ways_delay", .glo "groups_of", .glo "group_caps", .glo "base_hours", .glo "way_delay", .glo "ways_delay", .glo "_law_draws", .glo "_law_take", .glo "_law_is_int", .glo "_law_store", .glo "_law_course", .glo "_law_groups", .glo "_law_cap_sum", .glo "_law_greedy", .glo "_law_row", .glo "_law_rows", .glo "_law_number", .glo "_law_refused", .glo "law", .free "isinstance", .free "int", .free "bool", .free "list", .free "tuple", .free "range", .free "len", .free "str", .free "enumerate", .free "min", .free "max", .free "sum"]
def fn : List He.DefD := [⟨("is_int", none), "is_int", "is_int", defArgs s_is_int, defBody s_is_int, defScope s_is_int, [], []⟩, ⟨("plain_form", none), "plain_form", "plain_form", defArgs s_plain_form, defBody s_plain_form, defScope s_plain_form, [], []⟩, ⟨("check_number", none), "check_number", "check_number", defArgs s_check_number, defBody s_check_number, defScope s_check_number, [], []⟩, ⟨("wrong_store_part", none), "wrong_store_part", "wrong_store_part", defArgs s_wrong_store_part, defBody s_wrong_store_part, defScope s_wrong_store_part, [], []⟩, ⟨("wrong_way_place", none), "wrong_way_place", "wrong_way_place", defArgs s_wrong_way_place, defBody s_wrong_way_place, defScope s_wrong_way_place, [], []⟩, ⟨("plain_way", none), "plain_way", "plain_way", defArgs s_plain_way, defBody s_plain_way, defScope s_plain_way, [], []⟩, ⟨("check_way", none), "check_way", "check_way", defArgs s_check_way, defBody s_check_way, defScope s_check_way, [], []⟩, ⟨("check_ways", none), "check_ways", "check_ways", defArgs s_check_ways, defBody s_check_ways, defScope s_check_ways, [], []⟩, ⟨("plain_groups", none), "plain_groups", "plain_groups", defArgs s_plain_groups, defBody s_plain_groups, defScope s_plain_groups, [], []⟩, ⟨("plain_caps", none), "plain_caps", "plain_caps", defArgs s_plain_caps, defBody s_plain_caps, defScope s_plain_caps, [], []⟩, ⟨("plain_base", none), "plain_base", "plain_base", defArgs s_plain_base, defBody s_plain_base, defScope s_plain_base, [], []⟩, ⟨("life_shares", none), "life_shares", "life_shares", defArgs s_life_shares, defBody s_life_shares, defScope s_life_shares, [], []⟩, ⟨("plain_delay", none), "plain_delay", "plain_delay", defArgs s_plain_delay, defBody s_plain_delay, defScope s_plain_delay, [], []⟩, ⟨("plain_ways_delay", none), "plain_ways_delay", "plain_ways_delay", defArgs s_plain_ways_delay, defBody s_plain_ways_delay, defScope s_plain_ways_delay, [], []⟩, ⟨("groups_of", none), "groups_of", "groups_of", defArgs s_groups_of, defBody s_groups_of, defScope s_groups_of, [], []⟩, ⟨("group_caps", none), "group_caps", "group_caps", defArgs s_group_caps, defBody s_group_caps, defScope s_group_caps, [], []⟩, ⟨("base_hours", none), "base_hours", "base_hours", defArgs s_base_hours, defBody s_base_hours, defScope s_base_hours, [], []⟩, ⟨("way_delay", none), "way_delay", "way_delay", defArgs s_way_delay, defBody s_way_delay, defScope s_way_delay, [], []⟩, ⟨("ways_delay", none), "ways_delay", "ways_delay", defArgs s_ways_delay, defBody s_ways_delay, defScope s_ways_delay, [], []⟩, ⟨("_law_draws", none), "_law_draws", "_law_draws", defArgs s__law_draws, defBody s__law_draws, defScope s__law_draws, [], []⟩, ⟨("_law_take", none), "_law_take", "_law_take", defArgs s__law_take, defBody s__law_take, defScope s__law_take, [], []⟩, ⟨("_law_is_int", none), "_law_is_int", "_law_is_int", defArgs s__law_is_int, defBody s__law_is_int, defScope s__law_is_int, [], []⟩, ⟨("_law_store", none), "_law_store", "_law_store", defArgs s__law_store, defBody s__law_store, defScope s__law_store, [], []⟩, ⟨("_law_course", none), "_law_course", "_law_course", defArgs s__law_course, defBody s__law_course, defScope s__law_course, [], []⟩, ⟨("_law_groups", none), "_law_groups", "_law_groups", defArgs s__law_groups, defBody s__law_groups, defScope s__law_groups, [], []⟩, ⟨("_law_cap_sum", none), "_law_cap_sum", "_law_cap_sum", defArgs s__law_cap_sum, defBody s__law_cap_sum, defScope s__law_cap_sum, [], []⟩, ⟨("_law_greedy", none), "_law_greedy", "_law_greedy", defArgs s__law_greedy, defBody s__law_greedy, defScope s__law_greedy, [], []⟩, ⟨("_law_row", none), "_law_row", "_law_row", defArgs s__law_row, defBody s__law_row, defScope s__law_row, [], []⟩, ⟨("_law_rows", none), "_law_rows", "_law_rows", defArgs s__law_rows, defBody s__law_rows, defScope s__law_rows, [], []⟩, ⟨("_law_number", none), "_law_number", "_law_number", defArgs s__law_number, defBody s__law_number, defScope s__law_number, [], []⟩, ⟨("_law_refused", none), "_law_refused", "_law_refused", defArgs s__law_refused, defBody s__law_refused, defScope s__law_refused, [], []⟩, ⟨("law", none), "law", "law", defArgs s_law, defBody s_law, defScope s_law, [], []⟩, ⟨("BadNumber", some "__init__"), "__init__", "BadNumber.__init__", defArgs s_BadNumber, defBody s_BadNumber, defScope s_BadNumber, [], []⟩, ⟨("BadStore", some "__init__"), "__init__", "BadStore.__init__", defArgs s_BadStore, defBody s_BadStore, defScope s_BadStore, [], []⟩]
def tp : Py.Top := ⟨fa, fn, T, ["at"], ["BadNumber", "BadStore"]⟩
theorem sc_is_int : FnScope ["x"] ["x"] (defScope s_is_int) := ⟨rfl, rfl, rfl, by decide +kernel, rfl, by decide +kernel, by decide +kernel⟩
theorem sc_plain_form : FnScope ["x", "work", "tokens", "item", "part", "held", "is_row", "parts", "_"] ["x"] (defScope s_plain_form) := ⟨rfl, rfl, rfl, by decide +kernel, rfl, by decide +kernel, by decide +kernel⟩
theorem sc_check_number : FnScope ["x", "least"] ["x", "least"] (defScope s_check_number) := ⟨rfl, rfl, rfl, by decide +kernel, rfl, by decide +kernel, by decide +kernel⟩
theorem sc_wrong_store_part : FnScope ["store", "slow", "cap", "err", "kind"] ["store"] (defScope s_wrong_store_part) := ⟨rfl, rfl, rfl, by decide +kernel, rfl, by decide +kernel, by decide +kernel⟩
theorem sc_wrong_way_place : FnScope ["way", "number", "store", "wrong"] ["way"] (defScope s_wrong_way_place) := ⟨rfl, rfl, rfl, by decide +kernel, rfl, by decide +kernel, by decide +kernel⟩
theorem sc_plain_way : FnScope ["way", "stores", "store"] ["way"] (defScope s_plain_way) := ⟨rfl, rfl, rfl, by decide +kernel, rfl, by decide +kernel, by decide +kernel⟩
theorem sc_check_way : FnScope ["way", "wrong"] ["way"] (defScope s_check_way) := ⟨rfl, rfl, rfl, by decide +kernel, rfl, by decide +kernel, by decide +kernel⟩
theorem sc_check_ways : FnScope ["ways", "plain", "place", "way", "wrong"] ["ways"] (defScope s_check_ways) := ⟨rfl, rfl, rfl, by decide +kernel, rfl, by decide +kernel, by decide +kernel⟩
theorem sc_plain_groups : FnScope ["way", "groups", "start", "number", "store"] ["way"] (defScope s_plain_groups) := ⟨rfl, rfl, rfl, by decide +kernel, rfl, by decide +kernel, by decide +kernel⟩
theorem sc_plain_caps : FnScope ["way", "sums", "group", "total", "number", "cap"] ["way"] (defScope s_plain_caps) := ⟨rfl, rfl, rfl, by decide +kernel, rfl, by decide +kernel, by decide +kernel⟩
theorem sc_plain_base : FnScope ["way", "total", "store"] ["way"] (defScope s_plain_base) := ⟨rfl, rfl, rfl, by decide +kernel, rfl, by decide +kernel, by decide +kernel⟩
theorem sc_life_shares : FnScope ["way", "life", "shares", "cap"] ["way", "life"] (defScope s_life_shares) := ⟨rfl, rfl, rfl, by decide +kernel, rfl, by decide +kernel, by decide +kernel⟩
theorem sc_plain_delay : FnScope ["way", "life", "total", "share"] ["way", "life"] (defScope s_plain_delay) := ⟨rfl, rfl, rfl, by decide +kernel, rfl, by decide +kernel, by decide +kernel⟩
theorem sc_plain_ways_delay : FnScope ["ways", "life", "best", "way"] ["ways", "life"] (defScope s_plain_ways_delay) := ⟨rfl, rfl, rfl, by decide +kernel, rfl, by decide +kernel, by decide +kernel⟩
theorem sc_groups_of : FnScope ["way"] ["way"] (defScope s_groups_of) := ⟨rfl, rfl, rfl, by decide +kernel, rfl, by decide +kernel, by decide +kernel⟩
theorem sc_group_caps : FnScope ["way"] ["way"] (defScope s_group_caps) := ⟨rfl, rfl, rfl, by decide +kernel, rfl, by decide +kernel, by decide +kernel⟩
theorem sc_base_hours : FnScope ["way"] ["way"] (defScope s_base_hours) := ⟨rfl, rfl, rfl, by decide +kernel, rfl, by decide +kernel, by decide +kernel⟩
theorem sc_way_delay : FnScope ["way", "life", "plain"] ["way", "life"] (defScope s_way_delay) := ⟨rfl, rfl, rfl, by decide +kernel, rfl, by decide +kernel, by decide +kernel⟩
theorem sc_ways_delay : FnScope ["ways", "life", "plain"] ["ways", "life"] (defScope s_ways_delay) := ⟨rfl, rfl, rfl, by decide +kernel, rfl, by decide +kernel, by decide +kernel⟩
theorem sc__law_draws : FnScope ["script", "draws", "at", "cell", "turn"] ["script"] (defScope s__law_draws) := ⟨rfl, rfl, rfl, by decide +kernel, rfl, by decide +kernel, by decide +kernel⟩
theorem sc__law_take : FnScope ["draws", "many"] ["draws", "many"] (defScope s__law_take) := ⟨rfl, rfl, rfl, by decide +kernel, rfl, by decide +kernel, by decide +kernel⟩
theorem sc__law_is_int : FnScope ["thing"] ["thing"] (defScope s__law_is_int) := ⟨rfl, rfl, rfl, by decide +kernel, rfl, by decide +kernel, by decide +kernel⟩
theorem sc__law_store : FnScope ["draws", "at", "scale", "slow", "cap", "err", "kind"] ["draws", "at", "scale"] (defScope s__law_store) := ⟨rfl, rfl, rfl, by decide +kernel, rfl, by decide +kernel, by decide +kernel⟩
theorem sc__law_course : FnScope ["draws", "scale", "many", "at"] ["draws", "scale"] (defScope s__law_course) := ⟨rfl, rfl, rfl, by decide +kernel, rfl, by decide +kernel, by decide +kernel⟩
theorem sc__law_groups : FnScope ["way", "groups", "now", "at"] ["way"] (defScope s__law_groups) := ⟨rfl, rfl, rfl, by decide +kernel, rfl, by decide +kernel, by decide +kernel⟩
theorem sc__law_cap_sum : FnScope ["way", "group", "total", "at"] ["way", "group"] (defScope s__law_cap_sum) := ⟨rfl, rfl, rfl, by decide +kernel, rfl, by decide +kernel, by decide +kernel⟩
theorem sc__law_greedy : FnScope ["way", "life", "total", "left", "store", "stay"] ["way", "life"] (defScope s__law_greedy) := ⟨rfl, rfl, rfl, by decide +kernel, rfl, by decide +kernel, by decide +kernel⟩
theorem sc__law_row : FnScope ["told", "due", "at"] ["told", "due"] (defScope s__law_row) := ⟨rfl, rfl, rfl, by decide +kernel, rfl, by decide +kernel, by decide +kernel⟩
theorem sc__law_rows : FnScope ["told", "due", "at"] ["told", "due"] (defScope s__law_rows) := ⟨rfl, rfl, rfl, by decide +kernel, rfl, by decide +kernel, by decide +kernel⟩
theorem sc__law_number : FnScope ["told", "due"] ["told", "due"] (defScope s__law_number) := ⟨rfl, rfl, rfl, by decide +kernel, rfl, by decide +kernel, by decide +kernel⟩
theorem sc__law_refused : FnScope ["told", "at"] ["told", "at"] (defScope s__law_refused) := ⟨rfl, rfl, rfl, by decide +kernel, rfl, by decide +kernel, by decide +kernel⟩
theorem sc_law : FnScope ["script", "draws", "scale", "way", "other", "small", "lives", "groups", "caps", "base", "life", "due", "mate", "rows", "told", "error", "group", "store"] ["script"] (defScope s_law) := ⟨rfl, rfl, rfl, by decide +kernel, rfl, by decide +kernel, by decide +kernel⟩
theorem sc_BadNumber : FnScope ["self", "at"] ["self", "at"] (defScope s_BadNumber) := ⟨rfl, rfl, rfl, by decide +kernel, rfl, by decide +kernel, by decide +kernel⟩
theorem sc_BadStore : FnScope ["self", "at"] ["self", "at"] (defScope s_BadStore) := ⟨rfl, rfl, rfl, by decide +kernel, rfl, by decide +kernel, by decide +kernel⟩
section
variable {P : Program} {w : World} {K : PySem.W.Frag} {mg : Str → Option Value} {base : Heap}
theorem i_BadNumber (e : Env1 tp K mg) : InitOk P w K mg base "BadNumber" "at" :=
  init_of (st := s_BadNumber) (p0 := "self") (p1 := "at") e 32 rfl (by decide) rfl (by decide) sc_BadNumber (fun _ _ _ _ _ _ us hl => match us, hl with | [_, _], _ => rfl) fun X hK hN hS => by
    have e0 : X.N[0]? = some (("self" : Str)) := by rw [hN]; rfl
    have e1 : X.N[1]? = some (("at" : Str)) := by rw [hN]; rfl
    exact pss_one (ps_ost (pv 0 e0 (by rw [hS]; exact .inl rfl)) (pv 1 e1 (by rw [hS]; exact .inl rfl)))
theorem i_BadStore (e : Env1 tp K mg) : InitOk P w K mg base "BadStore" "at" :=
  init_of (st := s_BadStore) (p0 := "self") (p1 := "at") e 33 rfl (by decide) rfl (by decide) sc_BadStore (fun _ _ _ _ _ _ us hl => match us, hl with | [_, _], _ => rfl) fun X hK hN hS => by
    have e0 : X.N[0]? = some (("self" : Str)) := by rw [hN]; rfl
    have e1 : X.N[1]? = some (("at" : Str)) := by rw [hN]; rfl
    exact pss_one (ps_ost (pv 0 e0 (by rw [hS]; exact .inl rfl)) (pv 1 e1 (by rw [hS]; exact .inl rfl)))
theorem w_is_int (e : Env1 tp K mg) : DefOk P w K mg base 1 "is_int" 1 c_is_int :=
  def_of (st := s_is_int) (N := ["x"]) (ps := ["x"]) e 0 0 rfl rfl sc_is_int (by decide) (fun _ _ _ _ _ _ us hl => match us, hl with | [_], _ => rfl) fun f cdv A outer s H E hr => by
    have tk := takes_of (X := cxOf (L2.CX P w) P w K mg base ["x"] "is_int" (defScope s_is_int) f cdv A outer s H E) rfl rfl rfl rfl
    have po := passes_of (X := cxOf (L2.CX P w) P w K mg base ["x"] "is_int" (defScope s_is_int) f cdv A outer s H E) rfl
    have hu := hr.units
    exact ss_one (s_ret (v_val (x_and (x_callB (c_isi e.tbl) rfl (e.free 32) bt_isinstance (l_cons (x_var 0 (pv 0)) (l_cons (x_ty .int rfl (e.free 33) bt_int) (l_nil)))) (x_one (x_not (x_callB (c_isi e.tbl) rfl (e.free 32) bt_isinstance (l_cons (x_var 0 (pv 0)) (l_cons (x_ty .bool rfl (e.free 34) bt_bool) (l_nil)))))))))
theorem w_plain_form (e : Env1 tp K mg) : DefOk P w K mg base 1 "plain_form" 1 c_plain_form :=
  def_of (st := s_plain_form) (N := ["x", "work", "tokens", "item", "part", "held", "is_row", "parts", "_"]) (ps := ["x"]) e 1 1 rfl rfl sc_plain_form (by decide) (fun _ _ _ _ _ _ us hl => match us, hl with | [_], _ => rfl) fun f cdv A outer s H E hr => by
    have tk := takes_of (X := cxOf (L2.CX P w) P w K mg base ["x", "work", "tokens", "item", "part", "held", "is_row", "parts", "_"] "plain_form" (defScope s_plain_form) f cdv A outer s H E) rfl rfl rfl rfl
    have po := passes_of (X := cxOf (L2.CX P w) P w K mg base ["x", "work", "tokens", "item", "part", "held", "is_row", "parts", "_"] "plain_form" (defScope s_plain_form) f cdv A outer s H E) rfl
    have hu := hr.units
    exact ss_cons (s_set sc_plain_form.nd rfl (by first | exact .inl rfl | exact .inr rfl) (v_lst (l_cons (x_var 0 (pv 0)) (l_nil)))) (ss_cons (s_set sc_plain_form.nd rfl (by first | exact .inl rfl | exact .inr rfl) (v_lst (l_nil))) (ss_cons (s_while plain_form_n0 po (b_truO (pv 1)) (ss_cons (s_set sc_plain_form.nd rfl (by first | exact .inl rfl | exact .inr rfl) (v_mut0 PySem.F.plainAttrs_list PySem.F.slot_list_pop PySem.F.type_list_pop m_pop (pv 1))) (ss_one (s_if (b_tru (x_callB (c_isi e.tbl) rfl (e.free 32) bt_isinstance (l_cons (x_var 3 (pv 3)) (l_cons (x_tup (l_cons (x_ty .lst rfl (e.free 35) bt_list) (l_cons (x_ty .tup rfl (e.free 36) bt_tuple) (l_nil)))) (l_nil))))) (ss_cons (s_expr (v_mut PySem.F.plainAttrs_list PySem.F.slot_list_append PySem.F.type_list_append m_append (pv 2) (l_cons (x_tup (l_cons (x_callB c_len rfl (e.free 38) bt_len (l_cons (x_var 3 (pv 3)) (l_nil))) (l_cons (x_bl) (l_nil)))) (l_nil)))) (ss_one (s_for po rfl (i_seq (x_var 3 (pv 3))) (g_name sc_plain_form.nd rfl (by first | exact .inl rfl | exact .inr rfl)) (ss_one (s_expr (v_mut PySem.F.plainAttrs_list PySem.F.slot_list_append PySem.F.type_list_append m_append (pv 1) (l_cons (x_var 4 (pv 4)) (l_nil)))))))) (ss_one (s_expr (v_mut PySem.F.plainAttrs_list PySem.F.slot_list_append PySem.F.type_list_append m_append (pv 2) (l_cons (x_tup (l_cons (x_var 3 (pv 3)) (l_cons (x_bl) (l_nil)))) (l_nil))))))))) (ss_cons (s_set sc_plain_form.nd rfl (by first | exact .inl rfl | exact .inr rfl) (v_lst (l_nil))) (ss_cons (s_for po rfl (i_seq (x_revL (x_var 2 (pv 2)))) (g_seq rfl (gs_cons (g_name sc_plain_form.nd rfl (by first | exact .inl rfl | exact .inr rfl)) (gs_cons (g_name sc_plain_form.nd rfl (by first | exact .inl rfl | exact .inr rfl)) gs_nil))) (ss_one (s_if (b_tru (x_var 6 (pv 6))) (ss_cons (s_set sc_plain_form.nd rfl (by first | exact .inl rfl | exact .inr rfl) (v_lst (l_nil))) (ss_cons (s_for po rfl (i_range1 rfl (e.free 37) (l_cons (x_var 3 (pv 3)) (l_nil))) (g_name sc_plain_form.nd rfl (by first | exact .inl rfl | exact .inr rfl)) (ss_one (s_expr (v_mut PySem.F.plainAttrs_list PySem.F.slot_list_append PySem.F.type_list_append m_append (pv 7) (l_cons (x_hold (v_mut0 PySem.F.plainAttrs_list PySem.F.slot_list_pop PySem.F.type_list_pop m_pop (pv 5))) (l_nil)))))) (ss_one (s_expr (v_mut PySem.F.plainAttrs_list PySem.F.slot_list_append PySem.F.type_list_append m_append (pv 5) (l_cons (x_callT c_tuple rfl (e.free 36) bt_tuple (l_cons (x_revL (x_var 7 (pv 7))) (l_nil))) (l_nil))))))) (ss_one (s_expr (v_mut PySem.F.plainAttrs_list PySem.F.slot_list_append PySem.F.type_list_append m_append (pv 5) (l_cons (x_var 3 (pv 3)) (l_nil)))))))) (ss_one (s_ret (v_val (x_ixO (pv 5) (x_int)))))))))
theorem w_check_number (e : Env1 tp K mg) (h_is_int : DefOk P w K mg base 1 "is_int" 1 c_is_int) (h_plain_form : DefOk P w K mg base 1 "plain_form" 1 c_plain_form) (i_BadNumber : InitOk P w K mg base "BadNumber" "at") : DefOk P w K mg base 3 "check_number" 2 c_check_number :=
  def_of (st := s_check_number) (N := ["x", "least"]) (ps := ["x", "least"]) e 2 2 rfl rfl sc_check_number (by decide) (fun _ _ _ _ _ _ us hl => match us, hl with | [_, _], _ => rfl) fun f cdv A outer s H E hr => by
    have tk := takes_of (X := cxOf (L2.CX P w) P w K mg base ["x", "least"] "check_number" (defScope s_check_number) f cdv A outer s H E) rfl rfl rfl rfl
    have po := passes_of (X := cxOf (L2.CX P w) P w K mg base ["x", "least"] "check_number" (defScope s_check_number) f cdv A outer s H E) rfl
    have hu := hr.units
    exact ss_cons (s_if (PBw.b (w_or (b_not (b_tru (x_hold (v_callD (h_is_int : DefOk P w K mg base _ _ _ _) (hr.mono (by decide)) rfl tk (a_val (x_var 0 (pv 0)) (a_nil)) (alen_val alen_nil))))) (w_or1 (b_cmp o_lt (x_var 0 (pv 0)) (x_var 1 (pv 1)) rfl)))) (ss_one (s_raiseD (i_BadNumber : InitOk P w K mg base _ _) rfl tk (hr.mono (by decide)) rfl (x_hold (v_callD (h_plain_form : DefOk P w K mg base _ _ _ _) (hr.mono (by decide)) rfl tk (a_val (x_var 0 (pv 0)) (a_nil)) (alen_val alen_nil))))) (ss_nil)) (ss_one (s_ret (v_val (x_var 0 (pv 0)))))
theorem w_wrong_store_part (e : Env1 tp K mg) (h_is_int : DefOk P w K mg base 1 "is_int" 1 c_is_int) : DefOk P w K mg base 2 "wrong_store_part" 1 c_wrong_store_part :=
  def_of (st := s_wrong_store_part) (N := ["store", "slow", "cap", "err", "kind"]) (ps := ["store"]) e 3 3 rfl rfl sc_wrong_store_part (by decide) (fun _ _ _ _ _ _ us hl => match us, hl with | [_], _ => rfl) fun f cdv A outer s H E hr => by
    have tk := takes_of (X := cxOf (L2.CX P w) P w K mg base ["store", "slow", "cap", "err", "kind"] "wrong_store_part" (defScope s_wrong_store_part) f cdv A outer s H E) rfl rfl rfl rfl
    have po := passes_of (X := cxOf (L2.CX P w) P w K mg base ["store", "slow", "cap", "err", "kind"] "wrong_store_part" (defScope s_wrong_store_part) f cdv A outer s H E) rfl
    have hu := hr.units
    exact ss_cons (s_if (PBw.b (w_or (b_not (b_tru (x_callB (c_isi e.tbl) rfl (e.free 32) bt_isinstance (l_cons (x_var 0 (pv 0)) (l_cons (x_tup (l_cons (x_ty .tup rfl (e.free 36) bt_tuple) (l_cons (x_ty .lst rfl (e.free 35) bt_list) (l_nil)))) (l_nil)))))) (w_or1 (b_cmp (o_ne hu) (x_callB c_len rfl (e.free 38) bt_len (l_cons (x_var 0 (pv 0)) (l_nil))) (x_int) rfl)))) (ss_one (s_ret (v_val (x_neg (x_int))))) (ss_nil)) (ss_cons (s_asg (x_var 0 (pv 0)) (g_seq rfl (gs_cons (g_name sc_wrong_store_part.nd rfl (by first | exact .inl rfl | exact .inr rfl)) (gs_cons (g_name sc_wrong_store_part.nd rfl (by first | exact .inl rfl | exact .inr rfl)) (gs_cons (g_name sc_wrong_store_part.nd rfl (by first | exact .inl rfl | exact .inr rfl)) (gs_cons (g_name sc_wrong_store_part.nd rfl (by first | exact .inl rfl | exact .inr rfl)) gs_nil)))))) (ss_cons (s_if (PBw.b (w_or (b_not (b_tru (x_hold (v_callD (h_is_int : DefOk P w K mg base _ _ _ _) (hr.mono (by decide)) rfl tk (a_val (x_var 1 (pv 1)) (a_nil)) (alen_val alen_nil))))) (w_or1 (b_cmp o_lt (x_var 1 (pv 1)) (x_int) rfl)))) (ss_one (s_ret (v_val (x_int)))) (ss_nil)) (ss_cons (s_if (PBw.b (w_and (b_cmp o_isnot (x_var 2 (pv 2)) (x_non) rfl) (w_and1 (PBw.b (w_or (b_not (b_tru (x_hold (v_callD (h_is_int : DefOk P w K mg base _ _ _ _) (hr.mono (by decide)) rfl tk (a_val (x_var 2 (pv 2)) (a_nil)) (alen_val alen_nil))))) (w_or1 (b_cmp o_lt (x_var 2 (pv 2)) (x_int) rfl))))))) (ss_one (s_ret (v_val (x_int)))) (ss_nil)) (ss_cons (s_if (PBw.b (w_or (b_not (b_tru (x_hold (v_callD (h_is_int : DefOk P w K mg base _ _ _ _) (hr.mono (by decide)) rfl tk (a_val (x_var 3 (pv 3)) (a_nil)) (alen_val alen_nil))))) (w_or1 (b_cmp o_lt (x_var 3 (pv 3)) (x_int) rfl)))) (ss_one (s_ret (v_val (x_int)))) (ss_nil)) (ss_cons (s_if (PBw.b (w_or (b_not (b_tru (x_callB (c_isi e.tbl) rfl (e.free 32) bt_isinstance (l_cons (x_var 4 (pv 4)) (l_cons (x_ty .str rfl (e.free 39) bt_str) (l_nil)))))) (w_or1 (b_cmp o_notin (x_var 4 (pv 4)) (x_tup (l_cons (x_str) (l_cons (x_str) (l_nil)))) rfl)))) (ss_one (s_ret (v_val (x_int)))) (ss_nil)) (ss_one (s_ret (v_val (x_non)))))))))
theorem w_wrong_way_place (e : Env1 tp K mg) (h_wrong_store_part : DefOk P w K mg base 2 "wrong_store_part" 1 c_wrong_store_part) : DefOk P w K mg base 3 "wrong_way_place" 1 c_wrong_way_place :=
  def_of (st := s_wrong_way_place) (N := ["way", "number", "store", "wrong"]) (ps := ["way"]) e 4 4 rfl rfl sc_wrong_way_place (by decide) (fun _ _ _ _ _ _ us hl => match us, hl with | [_], _ => rfl) fun f cdv A outer s H E hr => by
    have tk := takes_of (X := cxOf (L2.CX P w) P w K mg base ["way", "number", "store", "wrong"] "wrong_way_place" (defScope s_wrong_way_place) f cdv A outer s H E) rfl rfl rfl rfl
    have po := passes_of (X := cxOf (L2.CX P w) P w K mg base ["way", "number", "store", "wrong"] "wrong_way_place" (defScope s_wrong_way_place) f cdv A outer s H E) rfl
    have hu := hr.units
    exact ss_cons (s_if (PBw.b (w_or (b_not (b_tru (x_callB (c_isi e.tbl) rfl (e.free 32) bt_isinstance (l_cons (x_var 0 (pv 0)) (l_cons (x_tup (l_cons (x_ty .tup rfl (e.free 36) bt_tuple) (l_cons (x_ty .lst rfl (e.free 35) bt_list) (l_nil)))) (l_nil)))))) (w_or1 (b_cmp (o_eq hu) (x_callB c_len rfl (e.free 38) bt_len (l_cons (x_var 0 (pv 0)) (l_nil))) (x_int) rfl)))) (ss_one (s_ret (v_val (x_tup (l_cons (x_neg (x_int)) (l_cons (x_neg (x_int)) (l_nil))))))) (ss_nil)) (ss_cons (s_for po rfl (i_enum rfl (e.free 40) (l_cons (x_var 0 (pv 0)) (l_nil))) (g_seq rfl (gs_cons (g_name sc_wrong_way_place.nd rfl (by first | exact .inl rfl | exact .inr rfl)) (gs_cons (g_name sc_wrong_way_place.nd rfl (by first | exact .inl rfl | exact .inr rfl)) gs_nil))) (ss_cons (s_set sc_wrong_way_place.nd rfl (by first | exact .inl rfl | exact .inr rfl) (v_callD (h_wrong_store_part : DefOk P w K mg base _ _ _ _) (hr.mono (by decide)) rfl tk (a_val (x_var 2 (pv 2)) (a_nil)) (alen_val alen_nil))) (ss_one (s_if (b_cmp o_isnot (x_var 3 (pv 3)) (x_non) rfl) (ss_one (s_ret (v_val (x_tup (l_cons (x_var 1 (pv 1)) (l_cons (x_var 3 (pv 3)) (l_nil))))))) (ss_nil))))) (ss_one (s_ret (v_val (x_non)))))
theorem w_plain_way (e : Env1 tp K mg) : DefOk P w K mg base 1 "plain_way" 1 c_plain_way :=
  def_of (st := s_plain_way) (N := ["way", "stores", "store"]) (ps := ["way"]) e 5 5 rfl rfl sc_plain_way (by decide) (fun _ _ _ _ _ _ us hl => match us, hl with | [_], _ => rfl) fun f cdv A outer s H E hr => by
    have tk := takes_of (X := cxOf (L2.CX P w) P w K mg base ["way", "stores", "store"] "plain_way" (defScope s_plain_way) f cdv A outer s H E) rfl rfl rfl rfl
    have po := passes_of (X := cxOf (L2.CX P w) P w K mg base ["way", "stores", "store"] "plain_way" (defScope s_plain_way) f cdv A outer s H E) rfl
    have hu := hr.units
    exact ss_cons (s_set sc_plain_way.nd rfl (by first | exact .inl rfl | exact .inr rfl) (v_lst (l_nil))) (ss_cons (s_for po rfl (i_seq (x_var 0 (pv 0))) (g_name sc_plain_way.nd rfl (by first | exact .inl rfl | exact .inr rfl)) (ss_one (s_expr (v_mut PySem.F.plainAttrs_list PySem.F.slot_list_append PySem.F.type_list_append m_append (pv 1) (l_cons (x_callT c_tuple rfl (e.free 36) bt_tuple (l_cons (x_var 2 (pv 2)) (l_nil))) (l_nil)))))) (ss_one (s_ret (v_val (x_callT c_tuple rfl (e.free 36) bt_tuple (l_cons (x_var 1 (pv 1)) (l_nil)))))))
theorem w_check_way (e : Env1 tp K mg) (h_wrong_way_place : DefOk P w K mg base 3 "wrong_way_place" 1 c_wrong_way_place) (h_plain_way : DefOk P w K mg base 1 "plain_way" 1 c_plain_way) (i_BadStore : InitOk P w K mg base "BadStore" "at") : DefOk P w K mg base 4 "check_way" 1 c_check_way :=
  def_of (st := s_check_way) (N := ["way", "wrong"]) (ps := ["way"]) e 6 6 rfl rfl sc_check_way (by decide) (fun _ _ _ _ _ _ us hl => match us, hl with | [_], _ => rfl) fun f cdv A outer s H E hr => by
    have tk := takes_of (X := cxOf (L2.CX P w) P w K mg base ["way", "wrong"] "check_way" (defScope s_check_way) f cdv A outer s H E) rfl rfl rfl rfl
    have po := passes_of (X := cxOf (L2.CX P w) P w K mg base ["way", "wrong"] "check_way" (defScope s_check_way) f cdv A outer s H E) rfl
    have hu := hr.units
    exact ss_cons (s_set sc_check_way.nd rfl (by first | exact .inl rfl | exact .inr rfl) (v_callD (h_wrong_way_place : DefOk P w K mg base _ _ _ _) (hr.mono (by decide)) rfl tk (a_val (x_var 0 (pv 0)) (a_nil)) (alen_val alen_nil))) (ss_cons (s_if (b_cmp o_isnot (x_var 1 (pv 1)) (x_non) rfl) (ss_one (s_raiseD (i_BadStore : InitOk P w K mg base _ _) rfl tk (hr.mono (by decide)) rfl (x_var 1 (pv 1)))) (ss_nil)) (ss_one (s_ret (v_callD (h_plain_way : DefOk P w K mg base _ _ _ _) (hr.mono (by decide)) rfl tk (a_val (x_var 0 (pv 0)) (a_nil)) (alen_val alen_nil)))))
theorem w_check_ways (e : Env1 tp K mg) (h_wrong_way_place : DefOk P w K mg base 3 "wrong_way_place" 1 c_wrong_way_place) (h_plain_way : DefOk P w K mg base 1 "plain_way" 1 c_plain_way) (i_BadStore : InitOk P w K mg base "BadStore" "at") : DefOk P w K mg base 4 "check_ways" 1 c_check_ways :=
  def_of (st := s_check_ways) (N := ["ways", "plain", "place", "way", "wrong"]) (ps := ["ways"]) e 7 7 rfl rfl sc_check_ways (by decide) (fun _ _ _ _ _ _ us hl => match us, hl with | [_], _ => rfl) fun f cdv A outer s H E hr => by
    have tk := takes_of (X := cxOf (L2.CX P w) P w K mg base ["ways", "plain", "place", "way", "wrong"] "check_ways" (defScope s_check_ways) f cdv A outer s H E) rfl rfl rfl rfl
    have po := passes_of (X := cxOf (L2.CX P w) P w K mg base ["ways", "plain", "place", "way", "wrong"] "check_ways" (defScope s_check_ways) f cdv A outer s H E) rfl
    have hu := hr.units
    exact ss_cons (s_if (PBw.b (w_or (b_not (b_tru (x_callB (c_isi e.tbl) rfl (e.free 32) bt_isinstance (l_cons (x_var 0 (pv 0)) (l_cons (x_tup (l_cons (x_ty .tup rfl (e.free 36) bt_tuple) (l_cons (x_ty .lst rfl (e.free 35) bt_list) (l_nil)))) (l_nil)))))) (w_or1 (b_cmp (o_eq hu) (x_callB c_len rfl (e.free 38) bt_len (l_cons (x_var 0 (pv 0)) (l_nil))) (x_int) rfl)))) (ss_one (s_raiseD (i_BadStore : InitOk P w K mg base _ _) rfl tk (hr.mono (by decide)) rfl (x_tup (l_cons (x_neg (x_int)) (l_cons (x_neg (x_int)) (l_cons (x_neg (x_int)) (l_nil))))))) (ss_nil)) (ss_cons (s_set sc_check_ways.nd rfl (by first | exact .inl rfl | exact .inr rfl) (v_lst (l_nil))) (ss_cons (s_for po rfl (i_enum rfl (e.free 40) (l_cons (x_var 0 (pv 0)) (l_nil))) (g_seq rfl (gs_cons (g_name sc_check_ways.nd rfl (by first | exact .inl rfl | exact .inr rfl)) (gs_cons (g_name sc_check_ways.nd rfl (by first | exact .inl rfl | exact .inr rfl)) gs_nil))) (ss_cons (s_set sc_check_ways.nd rfl (by first | exact .inl rfl | exact .inr rfl) (v_callD (h_wrong_way_place : DefOk P w K mg base _ _ _ _) (hr.mono (by decide)) rfl tk (a_val (x_var 3 (pv 3)) (a_nil)) (alen_val alen_nil))) (ss_cons (s_if (b_cmp o_isnot (x_var 4 (pv 4)) (x_non) rfl) (ss_one (s_raiseD (i_BadStore : InitOk P w K mg base _ _) rfl tk (hr.mono (by decide)) rfl (x_tup (l_cons (x_var 2 (pv 2)) (l_cons (x_ix o_ix (x_var 4 (pv 4)) (x_int)) (l_cons (x_ix o_ix (x_var 4 (pv 4)) (x_int)) (l_nil))))))) (ss_nil)) (ss_one (s_expr (v_mut PySem.F.plainAttrs_list PySem.F.slot_list_append PySem.F.type_list_append m_append (pv 1) (l_cons (x_hold (v_callD (h_plain_way : DefOk P w K mg base _ _ _ _) (hr.mono (by decide)) rfl tk (a_val (x_var 3 (pv 3)) (a_nil)) (alen_val alen_nil))) (l_nil)))))))) (ss_one (s_ret (v_val (x_callT c_tuple rfl (e.free 36) bt_tuple (l_cons (x_var 1 (pv 1)) (l_nil))))))))
theorem w_plain_groups (e : Env1 tp K mg) : DefOk P w K mg base 1 "plain_groups" 1 c_plain_groups :=
  def_of (st := s_plain_groups) (N := ["way", "groups", "start", "number", "store"]) (ps := ["way"]) e 8 8 rfl rfl sc_plain_groups (by decide) (fun _ _ _ _ _ _ us hl => match us, hl with | [_], _ => rfl) fun f cdv A outer s H E hr => by
    have tk := takes_of (X := cxOf (L2.CX P w) P w K mg base ["way", "groups", "start", "number", "store"] "plain_groups" (defScope s_plain_groups) f cdv A outer s H E) rfl rfl rfl rfl
    have po := passes_of (X := cxOf (L2.CX P w) P w K mg base ["way", "groups", "start", "number", "store"] "plain_groups" (defScope s_plain_groups) f cdv A outer s H E) rfl
    have hu := hr.units
    exact ss_cons (s_set sc_plain_groups.nd rfl (by first | exact .inl rfl | exact .inr rfl) (v_lst (l_nil))) (ss_cons (s_set sc_plain_groups.nd rfl (by first | exact .inl rfl | exact .inr rfl) (v_val (x_int))) (ss_cons (s_for po rfl (i_enum rfl (e.free 40) (l_cons (x_var 0 (pv 0)) (l_nil))) (g_seq rfl (gs_cons (g_name sc_plain_groups.nd rfl (by first | exact .inl rfl | exact .inr rfl)) (gs_cons (g_name sc_plain_groups.nd rfl (by first | exact .inl rfl | exact .inr rfl)) gs_nil))) (ss_one (s_if (PBw.b (w_or (b_cmp (o_eq hu) (x_ix o_ix (x_var 4 (pv 4)) (x_int)) (x_str) rfl) (w_or1 (b_cmp (o_eq hu) (x_var 3 (pv 3)) (x_bin o_sub (x_callB c_len rfl (e.free 38) bt_len (l_cons (x_var 0 (pv 0)) (l_nil))) (x_int)) rfl)))) (ss_cons (s_expr (v_mut PySem.F.plainAttrs_list PySem.F.slot_list_append PySem.F.type_list_append m_append (pv 1) (l_cons (x_tupRg2 rfl rfl (e.free 36) rfl (e.free 37) (x_var 2 (pv 2)) (x_bin o_add (x_var 3 (pv 3)) (x_int))) (l_nil)))) (ss_one (s_set sc_plain_groups.nd rfl (by first | exact .inl rfl | exact .inr rfl) (v_val (x_bin o_add (x_var 3 (pv 3)) (x_int)))))) (ss_nil)))) (ss_one (s_ret (v_val (x_callT c_tuple rfl (e.free 36) bt_tuple (l_cons (x_var 1 (pv 1)) (l_nil))))))))
theorem w_plain_caps (e : Env1 tp K mg) (h_plain_groups : DefOk P w K mg base 1 "plain_groups" 1 c_plain_groups) : DefOk P w K mg base 2 "plain_caps" 1 c_plain_caps :=
  def_of (st := s_plain_caps) (N := ["way", "sums", "group", "total", "number", "cap"]) (ps := ["way"]) e 9 9 rfl rfl sc_plain_caps (by decide) (fun _ _ _ _ _ _ us hl => match us, hl with | [_], _ => rfl) fun f cdv A outer s H E hr => by
    have tk := takes_of (X := cxOf (L2.CX P w) P w K mg base ["way", "sums", "group", "total", "number", "cap"] "plain_caps" (defScope s_plain_caps) f cdv A outer s H E) rfl rfl rfl rfl
    have po := passes_of (X := cxOf (L2.CX P w) P w K mg base ["way", "sums", "group", "total", "number", "cap"] "plain_caps" (defScope s_plain_caps) f cdv A outer s H E) rfl
    have hu := hr.units
    exact ss_cons (s_set sc_plain_caps.nd rfl (by first | exact .inl rfl | exact .inr rfl) (v_lst (l_nil))) (ss_cons (s_for po rfl (i_seq (x_hold (v_callD (h_plain_groups : DefOk P w K mg base _ _ _ _) (hr.mono (by decide)) rfl tk (a_val (x_var 0 (pv 0)) (a_nil)) (alen_val alen_nil)))) (g_name sc_plain_caps.nd rfl (by first | exact .inl rfl | exact .inr rfl)) (ss_cons (s_set sc_plain_caps.nd rfl (by first | exact .inl rfl | exact .inr rfl) (v_val (x_int))) (ss_cons (s_for po rfl (i_seq (x_var 2 (pv 2))) (g_name sc_plain_caps.nd rfl (by first | exact .inl rfl | exact .inr rfl)) (ss_cons (s_set sc_plain_caps.nd rfl (by first | exact .inl rfl | exact .inr rfl) (v_val (x_ix o_ix (x_ix o_ix (x_var 0 (pv 0)) (x_var 4 (pv 4))) (x_int)))) (ss_one (s_if (b_cmp o_isnot (x_var 3 (pv 3)) (x_non) rfl) (ss_one (s_set sc_plain_caps.nd rfl (by first | exact .inl rfl | exact .inr rfl) (v_val (x_if (b_cmp o_is (x_var 5 (pv 5)) (x_non) rfl) (x_non) (x_bin o_add (x_var 3 (pv 3)) (x_var 5 (pv 5))))))) (ss_nil))))) (ss_one (s_expr (v_mut PySem.F.plainAttrs_list PySem.F.slot_list_append PySem.F.type_list_append m_append (pv 1) (l_cons (x_var 3 (pv 3)) (l_nil)))))))) (ss_one (s_ret (v_val (x_callT c_tuple rfl (e.free 36) bt_tuple (l_cons (x_var 1 (pv 1)) (l_nil)))))))
theorem w_plain_base (e : Env1 tp K mg) : DefOk P w K mg base 1 "plain_base" 1 c_plain_base :=
  def_of (st := s_plain_base) (N := ["way", "total", "store"]) (ps := ["way"]) e 10 10 rfl rfl sc_plain_base (by decide) (fun _ _ _ _ _ _ us hl => match us, hl with | [_], _ => rfl) fun f cdv A outer s H E hr => by
    have tk := takes_of (X := cxOf (L2.CX P w) P w K mg base ["way", "total", "store"] "plain_base" (defScope s_plain_base) f cdv A outer s H E) rfl rfl rfl rfl
    have po := passes_of (X := cxOf (L2.CX P w) P w K mg base ["way", "total", "store"] "plain_base" (defScope s_plain_base) f cdv A outer s H E) rfl
    have hu := hr.units
    exact ss_cons (s_set sc_plain_base.nd rfl (by first | exact .inl rfl | exact .inr rfl) (v_val (x_int))) (ss_cons (s_for po rfl (i_seq (x_var 0 (pv 0))) (g_name sc_plain_base.nd rfl (by first | exact .inl rfl | exact .inr rfl)) (ss_one (s_set sc_plain_base.nd rfl (by first | exact .inl rfl | exact .inr rfl) (v_val (x_bin o_add (x_bin o_add (x_var 1 (pv 1)) (x_ix o_ix (x_var 2 (pv 2)) (x_int))) (x_ix o_ix (x_var 2 (pv 2)) (x_int))))))) (ss_one (s_ret (v_move 1 (pv 1)))))
theorem w_life_shares (e : Env1 tp K mg) (h_plain_caps : DefOk P w K mg base 2 "plain_caps" 1 c_plain_caps) : DefOk P w K mg base 3 "life_shares" 2 c_life_shares :=
  def_of (st := s_life_shares) (N := ["way", "life", "shares", "cap"]) (ps := ["way", "life"]) e 11 11 rfl rfl sc_life_shares (by decide) (fun _ _ _ _ _ _ us hl => match us, hl with | [_, _], _ => rfl) fun f cdv A outer s H E hr => by
    have tk := takes_of (X := cxOf (L2.CX P w) P w K mg base ["way", "life", "shares", "cap"] "life_shares" (defScope s_life_shares) f cdv A outer s H E) rfl rfl rfl rfl
    have po := passes_of (X := cxOf (L2.CX P w) P w K mg base ["way", "life", "shares", "cap"] "life_shares" (defScope s_life_shares) f cdv A outer s H E) rfl
    have hu := hr.units
    exact ss_cons (s_set sc_life_shares.nd rfl (by first | exact .inl rfl | exact .inr rfl) (v_lst (l_nil))) (ss_cons (s_for po rfl (i_seq (x_hold (v_callD (h_plain_caps : DefOk P w K mg base _ _ _ _) (hr.mono (by decide)) rfl tk (a_val (x_var 0 (pv 0)) (a_nil)) (alen_val alen_nil)))) (g_name sc_life_shares.nd rfl (by first | exact .inl rfl | exact .inr rfl)) (ss_one (s_expr (v_mut PySem.F.plainAttrs_list PySem.F.slot_list_append PySem.F.type_list_append m_append (pv 2) (l_cons (x_if (b_cmp o_is (x_var 3 (pv 3)) (x_non) rfl) (x_var 1 (pv 1)) (x_callB (c_min rfl) rfl (e.free 41) bt_min (l_cons (x_var 1 (pv 1)) (l_cons (x_var 3 (pv 3)) (l_nil))))) (l_nil)))))) (ss_one (s_ret (v_val (x_callT c_tuple rfl (e.free 36) bt_tuple (l_cons (x_var 2 (pv 2)) (l_nil)))))))
theorem w_plain_delay (e : Env1 tp K mg) (h_plain_base : DefOk P w K mg base 1 "plain_base" 1 c_plain_base) (h_life_shares : DefOk P w K mg base 3 "life_shares" 2 c_life_shares) : DefOk P w K mg base 4 "plain_delay" 2 c_plain_delay :=
  def_of (st := s_plain_delay) (N := ["way", "life", "total", "share"]) (ps := ["way", "life"]) e 12 12 rfl rfl sc_plain_delay (by decide) (fun _ _ _ _ _ _ us hl => match us, hl with | [_, _], _ => rfl) fun f cdv A outer s H E hr => by
    have tk := takes_of (X := cxOf (L2.CX P w) P w K mg base ["way", "life", "total", "share"] "plain_delay" (defScope s_plain_delay) f cdv A outer s H E) rfl rfl rfl rfl
    have po := passes_of (X := cxOf (L2.CX P w) P w K mg base ["way", "life", "total", "share"] "plain_delay" (defScope s_plain_delay) f cdv A outer s H E) rfl
    have hu := hr.units
    exact ss_cons (s_set sc_plain_delay.nd rfl (by first | exact .inl rfl | exact .inr rfl) (v_callD (h_plain_base : DefOk P w K mg base _ _ _ _) (hr.mono (by decide)) rfl tk (a_val (x_var 0 (pv 0)) (a_nil)) (alen_val alen_nil))) (ss_cons (s_for po rfl (i_seq (x_hold (v_callD (h_life_shares : DefOk P w K mg base _ _ _ _) (hr.mono (by decide)) rfl tk (a_val (x_var 0 (pv 0)) (a_val (x_var 1 (pv 1)) (a_nil))) (alen_val (alen_val alen_nil))))) (g_name sc_plain_delay.nd rfl (by first | exact .inl rfl | exact .inr rfl)) (ss_one (s_set sc_plain_delay.nd rfl (by first | exact .inl rfl | exact .inr rfl) (v_val (x_bin o_add (x_var 2 (pv 2)) (x_var 3 (pv 3))))))) (ss_one (s_ret (v_move 2 (pv 2)))))
theorem w_plain_ways_delay (e : Env1 tp K mg) (h_plain_delay : DefOk P w K mg base 4 "plain_delay" 2 c_plain_delay) : DefOk P w K mg base 5 "plain_ways_delay" 2 c_plain_ways_delay :=
  def_of (st := s_plain_ways_delay) (N := ["ways", "life", "best", "way"]) (ps := ["ways", "life"]) e 13 13 rfl rfl sc_plain_ways_delay (by decide) (fun _ _ _ _ _ _ us hl => match us, hl with | [_, _], _ => rfl) fun f cdv A outer s H E hr => by
    have tk := takes_of (X := cxOf (L2.CX P w) P w K mg base ["ways", "life", "best", "way"] "plain_ways_delay" (defScope s_plain_ways_delay) f cdv A outer s H E) rfl rfl rfl rfl
    have po := passes_of (X := cxOf (L2.CX P w) P w K mg base ["ways", "life", "best", "way"] "plain_ways_delay" (defScope s_plain_ways_delay) f cdv A outer s H E) rfl
    have hu := hr.units
    exact ss_cons (s_set sc_plain_ways_delay.nd rfl (by first | exact .inl rfl | exact .inr rfl) (v_val (x_int))) (ss_cons (s_for po rfl (i_seq (x_var 0 (pv 0))) (g_name sc_plain_ways_delay.nd rfl (by first | exact .inl rfl | exact .inr rfl)) (ss_one (s_set sc_plain_ways_delay.nd rfl (by first | exact .inl rfl | exact .inr rfl) (v_val (x_callB (c_max rfl) rfl (e.free 42) bt_max (l_cons (x_var 2 (pv 2)) (l_cons (x_hold (v_callD (h_plain_delay : DefOk P w K mg base _ _ _ _) (hr.mono (by decide)) rfl tk (a_val (x_var 3 (pv 3)) (a_val (x_var 1 (pv 1)) (a_nil))) (alen_val (alen_val alen_nil)))) (l_nil)))))))) (ss_one (s_ret (v_move 2 (pv 2)))))
theorem w_groups_of (e : Env1 tp K mg) (h_check_way : DefOk P w K mg base 4 "check_way" 1 c_check_way) (h_plain_groups : DefOk P w K mg base 1 "plain_groups" 1 c_plain_groups) : DefOk P w K mg base 5 "groups_of" 1 c_groups_of :=
  def_of (st := s_groups_of) (N := ["way"]) (ps := ["way"]) e 14 14 rfl rfl sc_groups_of (by decide) (fun _ _ _ _ _ _ us hl => match us, hl with | [_], _ => rfl) fun f cdv A outer s H E hr => by
    have tk := takes_of (X := cxOf (L2.CX P w) P w K mg base ["way"] "groups_of" (defScope s_groups_of) f cdv A outer s H E) rfl rfl rfl rfl
    have po := passes_of (X := cxOf (L2.CX P w) P w K mg base ["way"] "groups_of" (defScope s_groups_of) f cdv A outer s H E) rfl
    have hu := hr.units
    exact ss_one (s_ret (v_callD (h_plain_groups : DefOk P w K mg base _ _ _ _) (hr.mono (by decide)) rfl tk (a_val (x_hold (v_callD (h_check_way : DefOk P w K mg base _ _ _ _) (hr.mono (by decide)) rfl tk (a_val (x_var 0 (pv 0)) (a_nil)) (alen_val alen_nil))) (a_nil)) (alen_val alen_nil)))
theorem w_group_caps (e : Env1 tp K mg) (h_check_way : DefOk P w K mg base 4 "check_way" 1 c_check_way) (h_plain_caps : DefOk P w K mg base 2 "plain_caps" 1 c_plain_caps) : DefOk P w K mg base 5 "group_caps" 1 c_group_caps :=
  def_of (st := s_group_caps) (N := ["way"]) (ps := ["way"]) e 15 15 rfl rfl sc_group_caps (by decide) (fun _ _ _ _ _ _ us hl => match us, hl with | [_], _ => rfl) fun f cdv A outer s H E hr => by
    have tk := takes_of (X := cxOf (L2.CX P w) P w K mg base ["way"] "group_caps" (defScope s_group_caps) f cdv A outer s H E) rfl rfl rfl rfl
    have po := passes_of (X := cxOf (L2.CX P w) P w K mg base ["way"] "group_caps" (defScope s_group_caps) f cdv A outer s H E) rfl
    have hu := hr.units
    exact ss_one (s_ret (v_callD (h_plain_caps : DefOk P w K mg base _ _ _ _) (hr.mono (by decide)) rfl tk (a_val (x_hold (v_callD (h_check_way : DefOk P w K mg base _ _ _ _) (hr.mono (by decide)) rfl tk (a_val (x_var 0 (pv 0)) (a_nil)) (alen_val alen_nil))) (a_nil)) (alen_val alen_nil)))
theorem w_base_hours (e : Env1 tp K mg) (h_check_way : DefOk P w K mg base 4 "check_way" 1 c_check_way) (h_plain_base : DefOk P w K mg base 1 "plain_base" 1 c_plain_base) : DefOk P w K mg base 5 "base_hours" 1 c_base_hours :=
  def_of (st := s_base_hours) (N := ["way"]) (ps := ["way"]) e 16 16 rfl rfl sc_base_hours (by decide) (fun _ _ _ _ _ _ us hl => match us, hl with | [_], _ => rfl) fun f cdv A outer s H E hr => by
    have tk := takes_of (X := cxOf (L2.CX P w) P w K mg base ["way"] "base_hours" (defScope s_base_hours) f cdv A outer s H E) rfl rfl rfl rfl
    have po := passes_of (X := cxOf (L2.CX P w) P w K mg base ["way"] "base_hours" (defScope s_base_hours) f cdv A outer s H E) rfl
    have hu := hr.units
    exact ss_one (s_ret (v_callD (h_plain_base : DefOk P w K mg base _ _ _ _) (hr.mono (by decide)) rfl tk (a_val (x_hold (v_callD (h_check_way : DefOk P w K mg base _ _ _ _) (hr.mono (by decide)) rfl tk (a_val (x_var 0 (pv 0)) (a_nil)) (alen_val alen_nil))) (a_nil)) (alen_val alen_nil)))
theorem w_way_delay (e : Env1 tp K mg) (h_check_number : DefOk P w K mg base 3 "check_number" 2 c_check_number) (h_check_way : DefOk P w K mg base 4 "check_way" 1 c_check_way) (h_plain_delay : DefOk P w K mg base 4 "plain_delay" 2 c_plain_delay) : DefOk P w K mg base 5 "way_delay" 2 c_way_delay :=
  def_of (st := s_way_delay) (N := ["way", "life", "plain"]) (ps := ["way", "life"]) e 17 17 rfl rfl sc_way_delay (by decide) (fun _ _ _ _ _ _ us hl => match us, hl with | [_, _], _ => rfl) fun f cdv A outer s H E hr => by
    have tk := takes_of (X := cxOf (L2.CX P w) P w K mg base ["way", "life", "plain"] "way_delay" (defScope s_way_delay) f cdv A outer s H E) rfl rfl rfl rfl
    have po := passes_of (X := cxOf (L2.CX P w) P w K mg base ["way", "life", "plain"] "way_delay" (defScope s_way_delay) f cdv A outer s H E) rfl
    have hu := hr.units
    exact ss_cons (s_set sc_way_delay.nd rfl (by first | exact .inl rfl | exact .inr rfl) (v_callD (h_check_way : DefOk P w K mg base _ _ _ _) (hr.mono (by decide)) rfl tk (a_val (x_var 0 (pv 0)) (a_nil)) (alen_val alen_nil))) (ss_cons (s_expr (v_callD (h_check_number : DefOk P w K mg base _ _ _ _) (hr.mono (by decide)) rfl tk (a_val (x_var 1 (pv 1)) (a_val (x_int) (a_nil))) (alen_val (alen_val alen_nil)))) (ss_one (s_ret (v_callD (h_plain_delay : DefOk P w K mg base _ _ _ _) (hr.mono (by decide)) rfl tk (a_val (x_var 2 (pv 2)) (a_val (x_var 1 (pv 1)) (a_nil))) (alen_val (alen_val alen_nil))))))
theorem w_ways_delay (e : Env1 tp K mg) (h_check_number : DefOk P w K mg base 3 "check_number" 2 c_check_number) (h_check_ways : DefOk P w K mg base 4 "check_ways" 1 c_check_ways) (h_plain_ways_delay : DefOk P w K mg base 5 "plain_ways_delay" 2 c_plain_ways_delay) : DefOk P w K mg base 6 "ways_delay" 2 c_ways_delay :=
  def_of (st := s_ways_delay) (N := ["ways", "life", "plain"]) (ps := ["ways", "life"]) e 18 18 rfl rfl sc_ways_delay (by decide) (fun _ _ _ _ _ _ us hl => match us, hl with | [_, _], _ => rfl) fun f cdv A outer s H E hr => by
    have tk := takes_of (X := cxOf (L2.CX P w) P w K mg base ["ways", "life", "plain"] "ways_delay" (defScope s_ways_delay) f cdv A outer s H E) rfl rfl rfl rfl
    have po := passes_of (X := cxOf (L2.CX P w) P w K mg base ["ways", "life", "plain"] "ways_delay" (defScope s_ways_delay) f cdv A outer s H E) rfl
    have hu := hr.units
    exact ss_cons (s_set sc_ways_delay.nd rfl (by first | exact .inl rfl | exact .inr rfl) (v_callD (h_check_ways : DefOk P w K mg base _ _ _ _) (hr.mono (by decide)) rfl tk (a_val (x_var 0 (pv 0)) (a_nil)) (alen_val alen_nil))) (ss_cons (s_expr (v_callD (h_check_number : DefOk P w K mg base _ _ _ _) (hr.mono (by decide)) rfl tk (a_val (x_var 1 (pv 1)) (a_val (x_int) (a_nil))) (alen_val (alen_val alen_nil)))) (ss_one (s_ret (v_callD (h_plain_ways_delay : DefOk P w K mg base _ _ _ _) (hr.mono (by decide)) rfl tk (a_val (x_var 2 (pv 2)) (a_val (x_var 1 (pv 1)) (a_nil))) (alen_val (alen_val alen_nil))))))
theorem w__law_draws (e : Env1 tp K mg) : DefOk P w K mg base 1 "_law_draws" 1 c__law_draws :=
  def_of (st := s__law_draws) (N := ["script", "draws", "at", "cell", "turn"]) (ps := ["script"]) e 19 19 rfl rfl sc__law_draws (by decide) (fun _ _ _ _ _ _ us hl => match us, hl with | [_], _ => rfl) fun f cdv A outer s H E hr => by
    have tk := takes_of (X := cxOf (L2.CX P w) P w K mg base ["script", "draws", "at", "cell", "turn"] "_law_draws" (defScope s__law_draws) f cdv A outer s H E) rfl rfl rfl rfl
    have po := passes_of (X := cxOf (L2.CX P w) P w K mg base ["script", "draws", "at", "cell", "turn"] "_law_draws" (defScope s__law_draws) f cdv A outer s H E) rfl
    have hu := hr.units
    exact ss_cons (s_set sc__law_draws.nd rfl (by first | exact .inl rfl | exact .inr rfl) (v_lst (l_nil))) (ss_cons (s_for po rfl (i_range1 rfl (e.free 37) (l_cons (x_callB (c_min rfl) rfl (e.free 41) bt_min (l_cons (x_callB c_len rfl (e.free 38) bt_len (l_cons (x_var 0 (pv 0)) (l_nil))) (l_cons (x_int) (l_nil)))) (l_nil))) (g_name sc__law_draws.nd rfl (by first | exact .inl rfl | exact .inr rfl)) (ss_cons (s_set sc__law_draws.nd rfl (by first | exact .inl rfl | exact .inr rfl) (v_val (x_callT c_int rfl (e.free 33) bt_int (l_cons (x_ix o_ix (x_var 0 (pv 0)) (x_var 2 (pv 2))) (l_nil))))) (ss_cons (s_if (b_cmp o_lt (x_var 3 (pv 3)) (x_int) rfl) (ss_one (s_set sc__law_draws.nd rfl (by first | exact .inl rfl | exact .inr rfl) (v_val (x_bin o_sub (x_int) (x_bin o_mul (x_int) (x_var 3 (pv 3))))))) (ss_nil)) (ss_cons (s_set sc__law_draws.nd rfl (by first | exact .inl rfl | exact .inr rfl) (v_val (x_bin o_mod (x_callT c_int rfl (e.free 33) bt_int (l_cons (x_var 3 (pv 3)) (l_nil))) (x_bin o_pow (x_int) (x_int))))) (ss_one (s_for po rfl (i_range1 rfl (e.free 37) (l_cons (x_int) (l_nil))) (g_name sc__law_draws.nd rfl (by first | exact .inl rfl | exact .inr rfl)) (ss_cons (s_expr (v_mut PySem.F.plainAttrs_list PySem.F.slot_list_append PySem.F.type_list_append m_append (pv 1) (l_cons (x_bin o_mod (x_callT c_int rfl (e.free 33) bt_int (l_cons (x_var 3 (pv 3)) (l_nil))) (x_int)) (l_nil)))) (ss_cons (s_set sc__law_draws.nd rfl (by first | exact .inl rfl | exact .inr rfl) (v_val (x_bin o_div (x_var 3 (pv 3)) (x_int)))) (ss_one (s_if (b_cmp (o_eq hu) (x_var 3 (pv 3)) (x_int) rfl) (ss_one (s_break)) (ss_nil))))))))))) (ss_cons (s_expr (v_mut0 PySem.F.plainAttrs_list PySem.F.slot_list_reverse PySem.F.type_list_reverse m_reverse (pv 1))) (ss_one (s_ret (v_move 1 (pv 1))))))
theorem w__law_take (e : Env1 tp K mg) : DefOk P w K mg base 1 "_law_take" 2 c__law_take :=
  def_of (st := s__law_take) (N := ["draws", "many"]) (ps := ["draws", "many"]) e 20 20 rfl rfl sc__law_take (by decide) (fun _ _ _ _ _ _ us hl => match us, hl with | [_, _], _ => rfl) fun f cdv A outer s H E hr => by
    have tk := takes_of (X := cxOf (L2.CX P w) P w K mg base ["draws", "many"] "_law_take" (defScope s__law_take) f cdv A outer s H E) rfl rfl rfl rfl
    have po := passes_of (X := cxOf (L2.CX P w) P w K mg base ["draws", "many"] "_law_take" (defScope s__law_take) f cdv A outer s H E) rfl
    have hu := hr.units
    exact ss_cons (s_if (b_cmp (o_eq hu) (x_lenO rfl (e.free 38) (pv 0)) (x_int) rfl) (ss_one (s_ret (v_val (x_int)))) (ss_nil)) (ss_one (s_ret (v_val (x_bin o_mod (x_callT c_int rfl (e.free 33) bt_int (l_cons (x_hold (v_mut0 PySem.F.plainAttrs_list PySem.F.slot_list_pop PySem.F.type_list_pop m_pop (pv 0))) (l_nil))) (x_var 1 (pv 1))))))
theorem w__law_is_int (e : Env1 tp K mg) : DefOk P w K mg base 1 "_law_is_int" 1 c__law_is_int :=
  def_of (st := s__law_is_int) (N := ["thing"]) (ps := ["thing"]) e 21 21 rfl rfl sc__law_is_int (by decide) (fun _ _ _ _ _ _ us hl => match us, hl with | [_], _ => rfl) fun f cdv A outer s H E hr => by
    have tk := takes_of (X := cxOf (L2.CX P w) P w K mg base ["thing"] "_law_is_int" (defScope s__law_is_int) f cdv A outer s H E) rfl rfl rfl rfl
    have po := passes_of (X := cxOf (L2.CX P w) P w K mg base ["thing"] "_law_is_int" (defScope s__law_is_int) f cdv A outer s H E) rfl
    have hu := hr.units
    exact ss_one (s_ret (v_val (x_and (x_callB (c_isi e.tbl) rfl (e.free 32) bt_isinstance (l_cons (x_var 0 (pv 0)) (l_cons (x_ty .int rfl (e.free 33) bt_int) (l_nil)))) (x_one (x_not (x_callB (c_isi e.tbl) rfl (e.free 32) bt_isinstance (l_cons (x_var 0 (pv 0)) (l_cons (x_ty .bool rfl (e.free 34) bt_bool) (l_nil)))))))))
theorem w__law_store (e : Env1 tp K mg) (h__law_take : DefOk P w K mg base 1 "_law_take" 2 c__law_take) : DefOk P w K mg base 2 "_law_store" 3 c__law_store :=
  def_of (st := s__law_store) (N := ["draws", "at", "scale", "slow", "cap", "err", "kind"]) (ps := ["draws", "at", "scale"]) e 22 22 rfl rfl sc__law_store (by decide) (fun _ _ _ _ _ _ us hl => match us, hl with | [_, _, _], _ => rfl) fun f cdv A outer s H E hr => by
    have tk := takes_of (X := cxOf (L2.CX P w) P w K mg base ["draws", "at", "scale", "slow", "cap", "err", "kind"] "_law_store" (defScope s__law_store) f cdv A outer s H E) rfl rfl rfl rfl
    have po := passes_of (X := cxOf (L2.CX P w) P w K mg base ["draws", "at", "scale", "slow", "cap", "err", "kind"] "_law_store" (defScope s__law_store) f cdv A outer s H E) rfl
    have hu := hr.units
    exact ss_cons (s_set sc__law_store.nd rfl (by first | exact .inl rfl | exact .inr rfl) (v_val (x_bin o_mul (x_ix o_ix (x_hold (v_lst (l_cons (x_int) (l_cons (x_int) (l_cons (x_int) (l_cons (x_int) (l_nil))))))) (x_hold (v_callD (h__law_take : DefOk P w K mg base _ _ _ _) (hr.mono (by decide)) rfl tk (a_opn (pv 0) (a_val (x_int) (a_nil))) (alen_opn (alen_val alen_nil))))) (x_var 2 (pv 2))))) (ss_cons (s_set sc__law_store.nd rfl (by first | exact .inl rfl | exact .inr rfl) (v_val (x_ix o_ix (x_hold (v_lst (l_cons (x_non) (l_cons (x_int) (l_cons (x_int) (l_cons (x_int) (l_cons (x_int) (l_cons (x_int) (l_nil))))))))) (x_hold (v_callD (h__law_take : DefOk P w K mg base _ _ _ _) (hr.mono (by decide)) rfl tk (a_opn (pv 0) (a_val (x_int) (a_nil))) (alen_opn (alen_val alen_nil))))))) (ss_cons (s_if (b_cmp o_isnot (x_var 4 (pv 4)) (x_non) rfl) (ss_one (s_set sc__law_store.nd rfl (by first | exact .inl rfl | exact .inr rfl) (v_val (x_bin o_mul (x_var 4 (pv 4)) (x_var 2 (pv 2)))))) (ss_nil)) (ss_cons (s_set sc__law_store.nd rfl (by first | exact .inl rfl | exact .inr rfl) (v_val (x_bin o_mul (x_ix o_ix (x_hold (v_lst (l_cons (x_int) (l_cons (x_int) (l_cons (x_int) (l_nil)))))) (x_hold (v_callD (h__law_take : DefOk P w K mg base _ _ _ _) (hr.mono (by decide)) rfl tk (a_opn (pv 0) (a_val (x_int) (a_nil))) (alen_opn (alen_val alen_nil))))) (x_var 2 (pv 2))))) (ss_cons (s_set sc__law_store.nd rfl (by first | exact .inl rfl | exact .inr rfl) (v_val (x_ix o_ix (x_hold (v_lst (l_cons (x_str) (l_cons (x_str) (l_nil))))) (x_bin o_mod (x_callT c_int rfl (e.free 33) bt_int (l_cons (x_bin o_add (x_hold (v_callD (h__law_take : DefOk P w K mg base _ _ _ _) (hr.mono (by decide)) rfl tk (a_opn (pv 0) (a_val (x_int) (a_nil))) (alen_opn (alen_val alen_nil)))) (x_var 1 (pv 1))) (l_nil))) (x_int))))) (ss_one (s_ret (v_val (x_tup (l_cons (x_var 3 (pv 3)) (l_cons (x_var 4 (pv 4)) (l_cons (x_var 5 (pv 5)) (l_cons (x_var 6 (pv 6)) (l_nil)))))))))))))
theorem w__law_course (e : Env1 tp K mg) (h__law_take : DefOk P w K mg base 1 "_law_take" 2 c__law_take) (h__law_store : DefOk P w K mg base 2 "_law_store" 3 c__law_store) : DefOk P w K mg base 3 "_law_course" 2 c__law_course :=
  def_of (st := s__law_course) (N := ["draws", "scale", "many", "at"]) (ps := ["draws", "scale"]) e 23 23 rfl rfl sc__law_course (by decide) (fun _ _ _ _ _ _ us hl => match us, hl with | [_, _], _ => rfl) fun f cdv A outer s H E hr => by
    have tk := takes_of (X := cxOf (L2.CX P w) P w K mg base ["draws", "scale", "many", "at"] "_law_course" (defScope s__law_course) f cdv A outer s H E) rfl rfl rfl rfl
    have po := passes_of (X := cxOf (L2.CX P w) P w K mg base ["draws", "scale", "many", "at"] "_law_course" (defScope s__law_course) f cdv A outer s H E) rfl
    have hu := hr.units
    exact ss_cons (s_set sc__law_course.nd rfl (by first | exact .inl rfl | exact .inr rfl) (v_val (x_ix o_ix (x_hold (v_lst (l_cons (x_int) (l_cons (x_int) (l_cons (x_int) (l_cons (x_int) (l_nil))))))) (x_hold (v_callD (h__law_take : DefOk P w K mg base _ _ _ _) (hr.mono (by decide)) rfl tk (a_opn (pv 0) (a_val (x_int) (a_nil))) (alen_opn (alen_val alen_nil))))))) (ss_one (s_ret (v_val (x_callT c_tuple rfl (e.free 36) bt_tuple (l_cons (x_hold (v_lc (own := [("at", 3)]) rfl sc__law_course.nd (i_range1 rfl (e.free 37) (l_cons (x_var 2 (pv 2)) (l_nil))) (blkOk_by (own := [("at", 3)]) (by kernel_rfl)) ct_name (fun _ _ _ _ _ => pg_name sc__law_course.nd rfl (by first | exact .inl rfl | exact .inr rfl) (by first | exact .inl rfl | exact .inr rfl)) (fun _ _ _ _ _ => q_nil) (fun _ _ _ _ _ => x_hold (v_callD (h__law_store : DefOk P w K mg base _ _ _ _) (hr.mono (by decide)) rfl takes0 (a_opn (pv 0) (a_val (x_var 3 (pv 3)) (a_val (x_var 1 (pv 1)) (a_nil)))) (alen_opn (alen_val (alen_val alen_nil))))))) (l_nil))))))
theorem w__law_groups (e : Env1 tp K mg) : DefOk P w K mg base 1 "_law_groups" 1 c__law_groups :=
  def_of (st := s__law_groups) (N := ["way", "groups", "now", "at"]) (ps := ["way"]) e 24 24 rfl rfl sc__law_groups (by decide) (fun _ _ _ _ _ _ us hl => match us, hl with | [_], _ => rfl) fun f cdv A outer s H E hr => by
    have tk := takes_of (X := cxOf (L2.CX P w) P w K mg base ["way", "groups", "now", "at"] "_law_groups" (defScope s__law_groups) f cdv A outer s H E) rfl rfl rfl rfl
    have po := passes_of (X := cxOf (L2.CX P w) P w K mg base ["way", "groups", "now", "at"] "_law_groups" (defScope s__law_groups) f cdv A outer s H E) rfl
    have hu := hr.units
    exact ss_cons (s_set sc__law_groups.nd rfl (by first | exact .inl rfl | exact .inr rfl) (v_lst (l_nil))) (ss_cons (s_set sc__law_groups.nd rfl (by first | exact .inl rfl | exact .inr rfl) (v_lst (l_nil))) (ss_cons (s_for po rfl (i_range1 rfl (e.free 37) (l_cons (x_callB c_len rfl (e.free 38) bt_len (l_cons (x_var 0 (pv 0)) (l_nil))) (l_nil))) (g_name sc__law_groups.nd rfl (by first | exact .inl rfl | exact .inr rfl)) (ss_cons (s_expr (v_mut PySem.F.plainAttrs_list PySem.F.slot_list_append PySem.F.type_list_append m_append (pv 2) (l_cons (x_var 3 (pv 3)) (l_nil)))) (ss_one (s_if (PBw.b (w_or (b_cmp (o_eq hu) (x_ix o_ix (x_ix o_ix (x_var 0 (pv 0)) (x_var 3 (pv 3))) (x_int)) (x_str) rfl) (w_or1 (b_cmp (o_eq hu) (x_bin o_add (x_var 3 (pv 3)) (x_int)) (x_callB c_len rfl (e.free 38) bt_len (l_cons (x_var 0 (pv 0)) (l_nil))) rfl)))) (ss_cons (s_expr (v_mut PySem.F.plainAttrs_list PySem.F.slot_list_append PySem.F.type_list_append m_append (pv 1) (l_cons (x_callT c_tuple rfl (e.free 36) bt_tuple (l_cons (x_var 2 (pv 2)) (l_nil))) (l_nil)))) (ss_one (s_set sc__law_groups.nd rfl (by first | exact .inl rfl | exact .inr rfl) (v_lst (l_nil))))) (ss_nil))))) (ss_one (s_ret (v_move 1 (pv 1))))))
theorem w__law_cap_sum (e : Env1 tp K mg) : DefOk P w K mg base 1 "_law_cap_sum" 2 c__law_cap_sum :=
  def_of (st := s__law_cap_sum) (N := ["way", "group", "total", "at"]) (ps := ["way", "group"]) e 25 25 rfl rfl sc__law_cap_sum (by decide) (fun _ _ _ _ _ _ us hl => match us, hl with | [_, _], _ => rfl) fun f cdv A outer s H E hr => by
    have tk := takes_of (X := cxOf (L2.CX P w) P w K mg base ["way", "group", "total", "at"] "_law_cap_sum" (defScope s__law_cap_sum) f cdv A outer s H E) rfl rfl rfl rfl
    have po := passes_of (X := cxOf (L2.CX P w) P w K mg base ["way", "group", "total", "at"] "_law_cap_sum" (defScope s__law_cap_sum) f cdv A outer s H E) rfl
    have hu := hr.units
    exact ss_cons (s_set sc__law_cap_sum.nd rfl (by first | exact .inl rfl | exact .inr rfl) (v_val (x_int))) (ss_cons (s_for po rfl (i_seq (x_var 1 (pv 1))) (g_name sc__law_cap_sum.nd rfl (by first | exact .inl rfl | exact .inr rfl)) (ss_cons (s_if (b_cmp o_is (x_ix o_ix (x_ix o_ix (x_var 0 (pv 0)) (x_var 3 (pv 3))) (x_int)) (x_non) rfl) (ss_one (s_ret (v_val (x_non)))) (ss_nil)) (ss_one (s_set sc__law_cap_sum.nd rfl (by first | exact .inl rfl | exact .inr rfl) (v_val (x_bin o_add (x_var 2 (pv 2)) (x_ix o_ix (x_ix o_ix (x_var 0 (pv 0)) (x_var 3 (pv 3))) (x_int)))))))) (ss_one (s_ret (v_move 2 (pv 2)))))
theorem w__law_greedy (e : Env1 tp K mg) : DefOk P w K mg base 1 "_law_greedy" 2 c__law_greedy :=
  def_of (st := s__law_greedy) (N := ["way", "life", "total", "left", "store", "stay"]) (ps := ["way", "life"]) e 26 26 rfl rfl sc__law_greedy (by decide) (fun _ _ _ _ _ _ us hl => match us, hl with | [_, _], _ => rfl) fun f cdv A outer s H E hr => by
    have tk := takes_of (X := cxOf (L2.CX P w) P w K mg base ["way", "life", "total", "left", "store", "stay"] "_law_greedy" (defScope s__law_greedy) f cdv A outer s H E) rfl rfl rfl rfl
    have po := passes_of (X := cxOf (L2.CX P w) P w K mg base ["way", "life", "total", "left", "store", "stay"] "_law_greedy" (defScope s__law_greedy) f cdv A outer s H E) rfl
    have hu := hr.units
    exact ss_cons (s_set sc__law_greedy.nd rfl (by first | exact .inl rfl | exact .inr rfl) (v_val (x_int))) (ss_cons (s_set sc__law_greedy.nd rfl (by first | exact .inl rfl | exact .inr rfl) (v_val (x_var 1 (pv 1)))) (ss_cons (s_for po rfl (i_seq (x_var 0 (pv 0))) (g_name sc__law_greedy.nd rfl (by first | exact .inl rfl | exact .inr rfl)) (ss_cons (s_set sc__law_greedy.nd rfl (by first | exact .inl rfl | exact .inr rfl) (v_val (x_var 3 (pv 3)))) (ss_cons (s_if (PBw.b (w_and (b_cmp o_isnot (x_ix o_ix (x_var 4 (pv 4)) (x_int)) (x_non) rfl) (w_and1 (b_cmp o_lt (x_ix o_ix (x_var 4 (pv 4)) (x_int)) (x_var 3 (pv 3)) rfl)))) (ss_one (s_set sc__law_greedy.nd rfl (by first | exact .inl rfl | exact .inr rfl) (v_val (x_ix o_ix (x_var 4 (pv 4)) (x_int))))) (ss_nil)) (ss_cons (s_set sc__law_greedy.nd rfl (by first | exact .inl rfl | exact .inr rfl) (v_val (x_bin o_add (x_bin o_add (x_bin o_add (x_var 2 (pv 2)) (x_ix o_ix (x_var 4 (pv 4)) (x_int))) (x_var 5 (pv 5))) (x_ix o_ix (x_var 4 (pv 4)) (x_int))))) (ss_cons (s_set sc__law_greedy.nd rfl (by first | exact .inl rfl | exact .inr rfl) (v_val (x_bin o_sub (x_var 3 (pv 3)) (x_var 5 (pv 5))))) (ss_one (s_if (b_cmp (o_eq hu) (x_ix o_ix (x_var 4 (pv 4)) (x_int)) (x_str) rfl) (ss_one (s_set sc__law_greedy.nd rfl (by first | exact .inl rfl | exact .inr rfl) (v_val (x_var 1 (pv 1))))) (ss_nil)))))))) (ss_one (s_ret (v_move 2 (pv 2))))))
theorem w__law_row (e : Env1 tp K mg) (h__law_is_int : DefOk P w K mg base 1 "_law_is_int" 1 c__law_is_int) : DefOk P w K mg base 2 "_law_row" 2 c__law_row :=
  def_of (st := s__law_row) (N := ["told", "due", "at"]) (ps := ["told", "due"]) e 27 27 rfl rfl sc__law_row (by decide) (fun _ _ _ _ _ _ us hl => match us, hl with | [_, _], _ => rfl) fun f cdv A outer s H E hr => by
    have tk := takes_of (X := cxOf (L2.CX P w) P w K mg base ["told", "due", "at"] "_law_row" (defScope s__law_row) f cdv A outer s H E) rfl rfl rfl rfl
    have po := passes_of (X := cxOf (L2.CX P w) P w K mg base ["told", "due", "at"] "_law_row" (defScope s__law_row) f cdv A outer s H E) rfl
    have hu := hr.units
    exact ss_cons (s_if (PBw.b (w_or (b_not (b_tru (x_callB (c_isi e.tbl) rfl (e.free 32) bt_isinstance (l_cons (x_var 0 (pv 0)) (l_cons (x_ty .tup rfl (e.free 36) bt_tuple) (l_nil)))))) (w_or1 (b_cmp (o_ne hu) (x_callB c_len rfl (e.free 38) bt_len (l_cons (x_var 0 (pv 0)) (l_nil))) (x_callB c_len rfl (e.free 38) bt_len (l_cons (x_var 1 (pv 1)) (l_nil))) rfl)))) (ss_one (s_ret (v_val (x_bl)))) (ss_nil)) (ss_cons (s_for po rfl (i_range1 rfl (e.free 37) (l_cons (x_callB c_len rfl (e.free 38) bt_len (l_cons (x_var 1 (pv 1)) (l_nil))) (l_nil))) (g_name sc__law_row.nd rfl (by first | exact .inl rfl | exact .inr rfl)) (ss_one (s_if (b_cmp o_is (x_ix o_ix (x_var 1 (pv 1)) (x_var 2 (pv 2))) (x_non) rfl) (ss_one (s_if (b_cmp o_isnot (x_ix o_ix (x_var 0 (pv 0)) (x_var 2 (pv 2))) (x_non) rfl) (ss_one (s_ret (v_val (x_bl)))) (ss_nil))) (ss_one (s_if (PBw.b (w_or (b_not (b_tru (x_hold (v_callD (h__law_is_int : DefOk P w K mg base _ _ _ _) (hr.mono (by decide)) rfl tk (a_val (x_ix o_ix (x_var 0 (pv 0)) (x_var 2 (pv 2))) (a_nil)) (alen_val alen_nil))))) (w_or1 (b_cmp (o_ne hu) (x_ix o_ix (x_var 0 (pv 0)) (x_var 2 (pv 2))) (x_ix o_ix (x_var 1 (pv 1)) (x_var 2 (pv 2))) rfl)))) (ss_one (s_ret (v_val (x_bl)))) (ss_nil)))))) (ss_one (s_ret (v_val (x_bl)))))
theorem w__law_rows (e : Env1 tp K mg) (h__law_row : DefOk P w K mg base 2 "_law_row" 2 c__law_row) : DefOk P w K mg base 3 "_law_rows" 2 c__law_rows :=
  def_of (st := s__law_rows) (N := ["told", "due", "at"]) (ps := ["told", "due"]) e 28 28 rfl rfl sc__law_rows (by decide) (fun _ _ _ _ _ _ us hl => match us, hl with | [_, _], _ => rfl) fun f cdv A outer s H E hr => by
    have tk := takes_of (X := cxOf (L2.CX P w) P w K mg base ["told", "due", "at"] "_law_rows" (defScope s__law_rows) f cdv A outer s H E) rfl rfl rfl rfl
    have po := passes_of (X := cxOf (L2.CX P w) P w K mg base ["told", "due", "at"] "_law_rows" (defScope s__law_rows) f cdv A outer s H E) rfl
    have hu := hr.units
    exact ss_cons (s_if (PBw.b (w_or (b_not (b_tru (x_callB (c_isi e.tbl) rfl (e.free 32) bt_isinstance (l_cons (x_var 0 (pv 0)) (l_cons (x_ty .tup rfl (e.free 36) bt_tuple) (l_nil)))))) (w_or1 (b_cmp (o_ne hu) (x_callB c_len rfl (e.free 38) bt_len (l_cons (x_var 0 (pv 0)) (l_nil))) (x_callB c_len rfl (e.free 38) bt_len (l_cons (x_var 1 (pv 1)) (l_nil))) rfl)))) (ss_one (s_ret (v_val (x_bl)))) (ss_nil)) (ss_cons (s_for po rfl (i_range1 rfl (e.free 37) (l_cons (x_callB c_len rfl (e.free 38) bt_len (l_cons (x_var 1 (pv 1)) (l_nil))) (l_nil))) (g_name sc__law_rows.nd rfl (by first | exact .inl rfl | exact .inr rfl)) (ss_one (s_if (b_not (b_tru (x_hold (v_callD (h__law_row : DefOk P w K mg base _ _ _ _) (hr.mono (by decide)) rfl tk (a_val (x_ix o_ix (x_var 0 (pv 0)) (x_var 2 (pv 2))) (a_val (x_ix o_ix (x_var 1 (pv 1)) (x_var 2 (pv 2))) (a_nil))) (alen_val (alen_val alen_nil)))))) (ss_one (s_ret (v_val (x_bl)))) (ss_nil)))) (ss_one (s_ret (v_val (x_bl)))))
theorem w__law_number (e : Env1 tp K mg) (h__law_is_int : DefOk P w K mg base 1 "_law_is_int" 1 c__law_is_int) : DefOk P w K mg base 2 "_law_number" 2 c__law_number :=
  def_of (st := s__law_number) (N := ["told", "due"]) (ps := ["told", "due"]) e 29 29 rfl rfl sc__law_number (by decide) (fun _ _ _ _ _ _ us hl => match us, hl with | [_, _], _ => rfl) fun f cdv A outer s H E hr => by
    have tk := takes_of (X := cxOf (L2.CX P w) P w K mg base ["told", "due"] "_law_number" (defScope s__law_number) f cdv A outer s H E) rfl rfl rfl rfl
    have po := passes_of (X := cxOf (L2.CX P w) P w K mg base ["told", "due"] "_law_number" (defScope s__law_number) f cdv A outer s H E) rfl
    have hu := hr.units
    exact ss_one (s_ret (v_val (x_and (x_hold (v_callD (h__law_is_int : DefOk P w K mg base _ _ _ _) (hr.mono (by decide)) rfl tk (a_val (x_var 0 (pv 0)) (a_nil)) (alen_val alen_nil))) (x_one (x_cmp (o_eq hu) (x_var 0 (pv 0)) (x_var 1 (pv 1)) rfl)))))
theorem w__law_refused (e : Env1 tp K mg) (h__law_is_int : DefOk P w K mg base 1 "_law_is_int" 1 c__law_is_int) : DefOk P w K mg base 2 "_law_refused" 2 c__law_refused :=
  def_of (st := s__law_refused) (N := ["told", "at"]) (ps := ["told", "at"]) e 30 30 rfl rfl sc__law_refused (by decide) (fun _ _ _ _ _ _ us hl => match us, hl with | [_, _], _ => rfl) fun f cdv A outer s H E hr => by
    have tk := takes_of (X := cxOf (L2.CX P w) P w K mg base ["told", "at"] "_law_refused" (defScope s__law_refused) f cdv A outer s H E) rfl rfl rfl rfl
    have po := passes_of (X := cxOf (L2.CX P w) P w K mg base ["told", "at"] "_law_refused" (defScope s__law_refused) f cdv A outer s H E) rfl
    have hu := hr.units
    exact ss_cons (s_if (PBw.b (w_or (b_not (b_tru (x_callB (c_isi e.tbl) rfl (e.free 32) bt_isinstance (l_cons (x_var 0 (pv 0)) (l_cons (x_cl rfl (e.cls rfl)) (l_nil)))))) (w_or1 (b_not (b_tru (x_callB (c_isi e.tbl) rfl (e.free 32) bt_isinstance (l_cons (x_var 0 (pv 0)) (l_cons (x_cl rfl (e.cls rfl)) (l_nil))))))))) (ss_one (s_ret (v_val (x_bl)))) (ss_nil)) (ss_cons (s_if (PBw.b (w_or (b_tru (x_callB (c_isi e.tbl) rfl (e.free 32) bt_isinstance (l_cons (x_var 0 (pv 0)) (l_cons (x_cl rfl (e.cls rfl)) (l_nil))))) (w_or1 (b_tru (x_callB (c_isi e.tbl) rfl (e.free 32) bt_isinstance (l_cons (x_var 0 (pv 0)) (l_cons (x_cl rfl (e.cls rfl)) (l_nil)))))))) (ss_one (s_ret (v_val (x_bl)))) (ss_nil)) (ss_cons (s_if (b_cmp o_is (x_var 1 (pv 1)) (x_bl) rfl) (ss_one (s_ret (v_val (x_cmp o_is (x_at e.tbl (e.fld (by decide)) (x_var 0 (pv 0))) (x_bl) rfl)))) (ss_nil)) (ss_one (s_ret (v_val (x_and (x_hold (v_callD (h__law_is_int : DefOk P w K mg base _ _ _ _) (hr.mono (by decide)) rfl tk (a_val (x_at e.tbl (e.fld (by decide)) (x_var 0 (pv 0))) (a_nil)) (alen_val alen_nil))) (x_one (x_cmp (o_eq hu) (x_at e.tbl (e.fld (by decide)) (x_var 0 (pv 0))) (x_var 1 (pv 1)) rfl))))))))
theorem w_law (e : Env1 tp K mg) {fa : Addr} {fd : FuncData} (Fu : FunD K "law" "law" (defArgs s_law) (defBody s_law) (defScope s_law) [] [] fa fd) (h_groups_of : DefOk P w K mg base 5 "groups_of" 1 c_groups_of) (h_group_caps : DefOk P w K mg base 5 "group_caps" 1 c_group_caps) (h_base_hours : DefOk P w K mg base 5 "base_hours" 1 c_base_hours) (h_way_delay : DefOk P w K mg base 5 "way_delay" 2 c_way_delay) (h_ways_delay : DefOk P w K mg base 6 "ways_delay" 2 c_ways_delay) (h__law_draws : DefOk P w K mg base 1 "_law_draws" 1 c__law_draws) (h__law_take : DefOk P w K mg base 1 "_law_take" 2 c__law_take) (h__law_course : DefOk P w K mg base 3 "_law_course" 2 c__law_course) (h__law_groups : DefOk P w K mg base 1 "_law_groups" 1 c__law_groups) (h__law_cap_sum : DefOk P w K mg base 1 "_law_cap_sum" 2 c__law_cap_sum) (h__law_greedy : DefOk P w K mg base 1 "_law_greedy" 2 c__law_greedy) (h__law_row : DefOk P w K mg base 2 "_law_row" 2 c__law_row) (h__law_rows : DefOk P w K mg base 3 "_law_rows" 2 c__law_rows) (h__law_number : DefOk P w K mg base 2 "_law_number" 2 c__law_number) (h__law_refused : DefOk P w K mg base 2 "_law_refused" 2 c__law_refused) : FnOk P w K mg base (L2.CX P w) 7 fa fd ["script"] (spF ⟨K, mg⟩ 1 c_law) :=
  fn_okD (N := ["script", "draws", "scale", "way", "other", "small", "lives", "groups", "caps", "base", "life", "due", "mate", "rows", "told", "error", "group", "store"]) (ps := ["script"]) Fu sc_law (by decide) fun cdv A outer s H E hr => by
    have tk := takes_of (X := cxOf (L2.CX P w) P w K mg base ["script", "draws", "scale", "way", "other", "small", "lives", "groups", "caps", "base", "life", "due", "mate", "rows", "told", "error", "group", "store"] "law" (defScope s_law) fa cdv A outer s H E) rfl rfl rfl rfl
    have po := passes_of (X := cxOf (L2.CX P w) P w K mg base ["script", "draws", "scale", "way", "other", "small", "lives", "groups", "caps", "base", "life", "due", "mate", "rows", "told", "error", "group", "store"] "law" (defScope s_law) fa cdv A outer s H E) rfl
    have hu := hr.units
    exact ss_cons (s_set sc_law.nd rfl (by first | exact .inl rfl | exact .inr rfl) (v_callD (h__law_draws : DefOk P w K mg base _ _ _ _) (hr.mono (by decide)) rfl tk (a_val (x_var 0 (pv 0)) (a_nil)) (alen_val alen_nil))) (ss_cons (s_set sc_law.nd rfl (by first | exact .inl rfl | exact .inr rfl) (v_val (x_ix o_ix (x_hold (v_lst (l_cons (x_int) (l_cons (x_int) (l_cons (x_bin o_pow (x_int) (x_int)) (l_cons (x_bin o_pow (x_int) (x_int)) (l_nil))))))) (x_hold (v_callD (h__law_take : DefOk P w K mg base _ _ _ _) (hr.mono (by decide)) rfl tk (a_opn (pv 1) (a_val (x_int) (a_nil))) (alen_opn (alen_val alen_nil))))))) (ss_cons (s_set sc_law.nd rfl (by first | exact .inl rfl | exact .inr rfl) (v_callD (h__law_course : DefOk P w K mg base _ _ _ _) (hr.mono (by decide)) rfl tk (a_opn (pv 1) (a_val (x_var 2 (pv 2)) (a_nil))) (alen_opn (alen_val alen_nil)))) (ss_cons (s_set sc_law.nd rfl (by first | exact .inl rfl | exact .inr rfl) (v_callD (h__law_course : DefOk P w K mg base _ _ _ _) (hr.mono (by decide)) rfl tk (a_opn (pv 1) (a_val (x_var 2 (pv 2)) (a_nil))) (alen_opn (alen_val alen_nil)))) (ss_cons (s_set sc_law.nd rfl (by first | exact .inl rfl | exact .inr rfl) (v_callD (h__law_take : DefOk P w K mg base _ _ _ _) (hr.mono (by decide)) rfl tk (a_opn (pv 1) (a_val (x_int) (a_nil))) (alen_opn (alen_val alen_nil)))) (ss_cons (s_set sc_law.nd rfl (by first | exact .inl rfl | exact .inr rfl) (v_val (x_tup (l_cons (x_int) (l_cons (x_var 5 (pv 5)) (l_cons (x_bin o_add (x_bin o_mul (x_var 5 (pv 5)) (x_var 2 (pv 2))) (x_int)) (l_cons (x_bin o_mul (x_int) (x_var 2 (pv 2))) (l_cons (x_bin o_add (x_bin o_pow (x_int) (x_int)) (x_var 5 (pv 5))) (l_nil))))))))) (ss_cons (s_set sc_law.nd rfl (by first | exact .inl rfl | exact .inr rfl) (v_callD (h__law_groups : DefOk P w K mg base _ _ _ _) (hr.mono (by decide)) rfl tk (a_val (x_var 3 (pv 3)) (a_nil)) (alen_val alen_nil))) (ss_cons (s_set sc_law.nd rfl (by first | exact .inl rfl | exact .inr rfl) (v_val (x_callT c_tuple rfl (e.free 36) bt_tuple (l_cons (x_hold (v_lc (own := [("group", 16)]) rfl sc_law.nd (i_seq (x_var 7 (pv 7))) (blkOk_by (own := [("group", 16)]) (by kernel_rfl)) ct_name (fun _ _ _ _ _ => pg_name sc_law.nd rfl (by first | exact .inl rfl | exact .inr rfl) (by first | exact .inl rfl | exact .inr rfl)) (fun _ _ _ _ _ => q_nil) (fun _ _ _ _ _ => x_hold (v_callD (h__law_cap_sum : DefOk P w K mg base _ _ _ _) (hr.mono (by decide)) rfl takes0 (a_val (x_var 3 (pv 3)) (a_val (x_var 16 (pv 16)) (a_nil))) (alen_val (alen_val alen_nil)))))) (l_nil))))) (ss_cons (s_set sc_law.nd rfl (by first | exact .inl rfl | exact .inr rfl) (v_val (x_callB (c_sum rfl) rfl (e.free 43) bt_sum (l_cons (x_hold (v_lc (own := [("store", 17)]) rfl sc_law.nd (i_seq (x_var 3 (pv 3))) (blkOk_by (own := [("store", 17)]) (by kernel_rfl)) ct_name (fun _ _ _ _ _ => pg_name sc_law.nd rfl (by first | exact .inl rfl | exact .inr rfl) (by first | exact .inl rfl | exact .inr rfl)) (fun _ _ _ _ _ => q_nil) (fun _ _ _ _ _ => x_bin o_add (x_ix o_ix (x_var 17 (pv 17)) (x_int)) (x_ix o_ix (x_var 17 (pv 17)) (x_int))))) (l_nil))))) (ss_cons (s_if (PBw.b (w_or (b_not (b_tru (x_hold (v_callD (h__law_rows : DefOk P w K mg base _ _ _ _) (hr.mono (by decide)) rfl tk (a_val (x_hold (v_callD (h_groups_of : DefOk P w K mg base _ _ _ _) (hr.mono (by decide)) rfl tk (a_val (x_var 3 (pv 3)) (a_nil)) (alen_val alen_nil))) (a_val (x_var 7 (pv 7)) (a_nil))) (alen_val (alen_val alen_nil)))))) (w_or1 (b_not (b_tru (x_hold (v_callD (h__law_row : DefOk P w K mg base _ _ _ _) (hr.mono (by decide)) rfl tk (a_val (x_hold (v_callD (h_group_caps : DefOk P w K mg base _ _ _ _) (hr.mono (by decide)) rfl tk (a_val (x_var 3 (pv 3)) (a_nil)) (alen_val alen_nil))) (a_val (x_var 8 (pv 8)) (a_nil))) (alen_val (alen_val alen_nil))))))))) (ss_one (s_ret (v_val (x_bl)))) (ss_nil)) (ss_cons (s_if (b_not (b_tru (x_hold (v_callD (h__law_number : DefOk P w K mg base _ _ _ _) (hr.mono (by decide)) rfl tk (a_val (x_hold (v_callD (h_base_hours : DefOk P w K mg base _ _ _ _) (hr.mono (by decide)) rfl tk (a_val (x_var 3 (pv 3)) (a_nil)) (alen_val alen_nil))) (a_val (x_var 9 (pv 9)) (a_nil))) (alen_val (alen_val alen_nil)))))) (ss_one (s_ret (v_val (x_bl)))) (ss_nil)) (ss_cons (s_for po rfl (i_seq (x_var 6 (pv 6))) (g_name sc_law.nd rfl (by first | exact .inl rfl | exact .inr rfl)) (ss_cons (s_set sc_law.nd rfl (by first | exact .inl rfl | exact .inr rfl) (v_callD (h__law_greedy : DefOk P w K mg base _ _ _ _) (hr.mono (by decide)) rfl tk (a_val (x_var 3 (pv 3)) (a_val (x_var 10 (pv 10)) (a_nil))) (alen_val (alen_val alen_nil)))) (ss_cons (s_set sc_law.nd rfl (by first | exact .inl rfl | exact .inr rfl) (v_callD (h__law_greedy : DefOk P w K mg base _ _ _ _) (hr.mono (by decide)) rfl tk (a_val (x_var 4 (pv 4)) (a_val (x_var 10 (pv 10)) (a_nil))) (alen_val (alen_val alen_nil)))) (ss_cons (s_if (PBw.b (w_or (b_not (b_tru (x_hold (v_callD (h__law_number : DefOk P w K mg base _ _ _ _) (hr.mono (by decide)) rfl tk (a_val (x_hold (v_callD (h_way_delay : DefOk P w K mg base _ _ _ _) (hr.mono (by decide)) rfl tk (a_val (x_var 3 (pv 3)) (a_val (x_var 10 (pv 10)) (a_nil))) (alen_val (alen_val alen_nil)))) (a_val (x_var 11 (pv 11)) (a_nil))) (alen_val (alen_val alen_nil)))))) (w_or1 (b_not (b_tru (x_hold (v_callD (h__law_number : DefOk P w K mg base _ _ _ _) (hr.mono (by decide)) rfl tk (a_val (x_hold (v_callD (h_way_delay : DefOk P w K mg base _ _ _ _) (hr.mono (by decide)) rfl tk (a_val (x_var 4 (pv 4)) (a_val (x_var 10 (pv 10)) (a_nil))) (alen_val (alen_val alen_nil)))) (a_val (x_var 12 (pv 12)) (a_nil))) (alen_val (alen_val alen_nil))))))))) (ss_one (s_ret (v_val (x_bl)))) (ss_nil)) (ss_cons (s_if (b_not (b_tru (x_hold (v_callD (h__law_number : DefOk P w K mg base _ _ _ _) (hr.mono (by decide)) rfl tk (a_val (x_hold (v_callD (h_ways_delay : DefOk P w K mg base _ _ _ _) (hr.mono (by decide)) rfl tk (a_val (x_tup (l_cons (x_var 3 (pv 3)) (l_cons (x_var 4 (pv 4)) (l_nil)))) (a_val (x_var 10 (pv 10)) (a_nil))) (alen_val (alen_val alen_nil)))) (a_val (x_callB (c_max rfl) rfl (e.free 42) bt_max (l_cons (x_var 11 (pv 11)) (l_cons (x_var 12 (pv 12)) (l_nil)))) (a_nil))) (alen_val (alen_val alen_nil)))))) (ss_one (s_ret (v_val (x_bl)))) (ss_nil)) (ss_one (s_if (b_not (b_tru (x_hold (v_callD (h__law_number : DefOk P w K mg base _ _ _ _) (hr.mono (by decide)) rfl tk (a_val (x_hold (v_callD (h_ways_delay : DefOk P w K mg base _ _ _ _) (hr.mono (by decide)) rfl tk (a_val (x_tup (l_cons (x_var 4 (pv 4)) (l_nil))) (a_val (x_var 10 (pv 10)) (a_nil))) (alen_val (alen_val alen_nil)))) (a_val (x_var 12 (pv 12)) (a_nil))) (alen_val (alen_val alen_nil)))))) (ss_one (s_ret (v_val (x_bl)))) (ss_nil)))))))) (ss_cons (s_setLc (own := [("store", 17)]) rfl sc_law.nd rfl rfl (sw_true rfl rfl rfl rfl) (i_seq (x_var 3 (pv 3))) (blkOk_by (own := [("store", 17)]) (by kernel_rfl)) ct_name (fun _ _ _ _ _ => pg_name sc_law.nd rfl (by first | exact .inl rfl | exact .inr rfl) (by first | exact .inl rfl | exact .inr rfl)) (fun _ _ _ _ _ => q_nil) (fun _ _ _ _ _ => x_callT c_list rfl (e.free 35) bt_list (l_cons (x_var 17 (pv 17)) (l_nil)))) (ss_cons (s_if (PBw.b (w_or (b_not (b_tru (x_hold (v_callD (h__law_rows : DefOk P w K mg base _ _ _ _) (hr.mono (by decide)) rfl tk (a_val (x_hold (v_callD (h_groups_of : DefOk P w K mg base _ _ _ _) (hr.mono (by decide)) rfl tk (a_val (x_var 13 (pv 13)) (a_nil)) (alen_val alen_nil))) (a_val (x_var 7 (pv 7)) (a_nil))) (alen_val (alen_val alen_nil)))))) (w_or1 (b_not (b_tru (x_hold (v_callD (h__law_number : DefOk P w K mg base _ _ _ _) (hr.mono (by decide)) rfl tk (a_val (x_hold (v_callD (h_way_delay : DefOk P w K mg base _ _ _ _) (hr.mono (by decide)) rfl tk (a_val (x_var 13 (pv 13)) (a_val (x_ix o_ix (x_var 6 (pv 6)) (x_int)) (a_nil))) (alen_val (alen_val alen_nil)))) (a_val (x_hold (v_callD (h__law_greedy : DefOk P w K mg base _ _ _ _) (hr.mono (by decide)) rfl tk (a_val (x_var 3 (pv 3)) (a_val (x_ix o_ix (x_var 6 (pv 6)) (x_int)) (a_nil))) (alen_val (alen_val alen_nil)))) (a_nil))) (alen_val (alen_val alen_nil))))))))) (ss_one (s_ret (v_val (x_bl)))) (ss_nil)) (ss_cons (s_if (b_cmp (o_ne hu) (x_callT c_tuple rfl (e.free 36) bt_tuple (l_cons (x_hold (v_lc (own := [("store", 17)]) rfl sc_law.nd (i_seq (x_var 13 (pv 13))) (blkOk_by (own := [("store", 17)]) (by kernel_rfl)) ct_name (fun _ _ _ _ _ => pg_name sc_law.nd rfl (by first | exact .inl rfl | exact .inr rfl) (by first | exact .inl rfl | exact .inr rfl)) (fun _ _ _ _ _ => q_nil) (fun _ _ _ _ _ => x_callT c_tuple rfl (e.free 36) bt_tuple (l_cons (x_var 17 (pv 17)) (l_nil))))) (l_nil))) (x_var 3 (pv 3)) rfl) (ss_one (s_ret (v_val (x_bl)))) (ss_nil)) (ss_cons (s_set sc_law.nd rfl (by first | exact .inl rfl | exact .inr rfl) (v_val (x_non))) (ss_cons (s_try e.tbl rfl rfl sc_law.nd rfl tk (fun _ _ _ tk po => ss_one (s_expr (v_callD (h_way_delay : DefOk P w K mg base _ _ _ _) (hr.mono (by decide)) rfl tk (a_val (x_var 3 (pv 3)) (a_val (x_bin o_sub (x_neg (x_int)) (x_var 5 (pv 5))) (a_nil))) (alen_val (alen_val alen_nil))))) (.named rfl rfl rfl rfl (e.cls rfl) (fun _ _ => ss_one (s_set sc_law.nd rfl (by first | exact .inl rfl | exact .inr rfl) (v_val (x_var 15 (pv 15))))) (.nil))) (ss_cons (s_if (b_not (b_tru (x_hold (v_callD (h__law_refused : DefOk P w K mg base _ _ _ _) (hr.mono (by decide)) rfl tk (a_val (x_var 14 (pv 14)) (a_val (x_bin o_sub (x_neg (x_int)) (x_var 5 (pv 5))) (a_nil))) (alen_val (alen_val alen_nil)))))) (ss_one (s_ret (v_val (x_bl)))) (ss_nil)) (ss_cons (s_set sc_law.nd rfl (by first | exact .inl rfl | exact .inr rfl) (v_val (x_non))) (ss_cons (s_try e.tbl rfl rfl sc_law.nd rfl tk (fun _ _ _ tk po => ss_one (s_expr (v_callD (h_ways_delay : DefOk P w K mg base _ _ _ _) (hr.mono (by decide)) rfl tk (a_val (x_tup (l_cons (x_var 3 (pv 3)) (l_cons (x_var 4 (pv 4)) (l_nil)))) (a_val (x_bl) (a_nil))) (alen_val (alen_val alen_nil))))) (.named rfl rfl rfl rfl (e.cls rfl) (fun _ _ => ss_one (s_set sc_law.nd rfl (by first | exact .inl rfl | exact .inr rfl) (v_val (x_var 15 (pv 15))))) (.nil))) (ss_one (s_ret (v_callD (h__law_refused : DefOk P w K mg base _ _ _ _) (hr.mono (by decide)) rfl tk (a_val (x_var 14 (pv 14)) (a_val (x_bl) (a_nil))) (alen_val (alen_val alen_nil))))))))))))))))))))))))
/-- all defs -/
theorem w_all (e : Env1 tp K mg) {fa : Addr} {fd : FuncData} (Fu : FunD K "law" "law" (defArgs s_law) (defBody s_law) (defScope s_law) [] [] fa fd) : FnOk P w K mg base (L2.CX P w) 7 fa fd ["script"] (spF ⟨K, mg⟩ 1 c_law) :=
  have j_BadNumber : InitOk P w K mg base "BadNumber" "at" := i_BadNumber e
  have j_BadStore : InitOk P w K mg base "BadStore" "at" := i_BadStore e
  have k_is_int : DefOk P w K mg base 1 "is_int" 1 c_is_int := w_is_int e
  have k_plain_form : DefOk P w K mg base 1 "plain_form" 1 c_plain_form := w_plain_form e
  have k_check_number : DefOk P w K mg base 3 "check_number" 2 c_check_number := w_check_number e k_is_int k_plain_form j_BadNumber
  have k_wrong_store_part : DefOk P w K mg base 2 "wrong_store_part" 1 c_wrong_store_part := w_wrong_store_part e k_is_int
  have k_wrong_way_place : DefOk P w K mg base 3 "wrong_way_place" 1 c_wrong_way_place := w_wrong_way_place e k_wrong_store_part
  have k_plain_way : DefOk P w K mg base 1 "plain_way" 1 c_plain_way := w_plain_way e
  have k_check_way : DefOk P w K mg base 4 "check_way" 1 c_check_way := w_check_way e k_wrong_way_place k_plain_way j_BadStore
  have k_check_ways : DefOk P w K mg base 4 "check_ways" 1 c_check_ways := w_check_ways e k_wrong_way_place k_plain_way j_BadStore
  have k_plain_groups : DefOk P w K mg base 1 "plain_groups" 1 c_plain_groups := w_plain_groups e
  have k_plain_caps : DefOk P w K mg base 2 "plain_caps" 1 c_plain_caps := w_plain_caps e k_plain_groups
  have k_plain_base : DefOk P w K mg base 1 "plain_base" 1 c_plain_base := w_plain_base e
  have k_life_shares : DefOk P w K mg base 3 "life_shares" 2 c_life_shares := w_life_shares e k_plain_caps
  have k_plain_delay : DefOk P w K mg base 4 "plain_delay" 2 c_plain_delay := w_plain_delay e k_plain_base k_life_shares
  have k_plain_ways_delay : DefOk P w K mg base 5 "plain_ways_delay" 2 c_plain_ways_delay := w_plain_ways_delay e k_plain_delay
  have k_groups_of : DefOk P w K mg base 5 "groups_of" 1 c_groups_of := w_groups_of e k_check_way k_plain_groups
  have k_group_caps : DefOk P w K mg base 5 "group_caps" 1 c_group_caps := w_group_caps e k_check_way k_plain_caps
  have k_base_hours : DefOk P w K mg base 5 "base_hours" 1 c_base_hours := w_base_hours e k_check_way k_plain_base
  have k_way_delay : DefOk P w K mg base 5 "way_delay" 2 c_way_delay := w_way_delay e k_check_number k_check_way k_plain_delay
  have k_ways_delay : DefOk P w K mg base 6 "ways_delay" 2 c_ways_delay := w_ways_delay e k_check_number k_check_ways k_plain_ways_delay
  have k__law_draws : DefOk P w K mg base 1 "_law_draws" 1 c__law_draws := w__law_draws e
  have k__law_take : DefOk P w K mg base 1 "_law_take" 2 c__law_take := w__law_take e
  have k__law_is_int : DefOk P w K mg base 1 "_law_is_int" 1 c__law_is_int := w__law_is_int e
  have k__law_store : DefOk P w K mg base 2 "_law_store" 3 c__law_store := w__law_store e k__law_take
  have k__law_course : DefOk P w K mg base 3 "_law_course" 2 c__law_course := w__law_course e k__law_take k__law_store
  have k__law_groups : DefOk P w K mg base 1 "_law_groups" 1 c__law_groups := w__law_groups e
  have k__law_cap_sum : DefOk P w K mg base 1 "_law_cap_sum" 2 c__law_cap_sum := w__law_cap_sum e
  have k__law_greedy : DefOk P w K mg base 1 "_law_greedy" 2 c__law_greedy := w__law_greedy e
  have k__law_row : DefOk P w K mg base 2 "_law_row" 2 c__law_row := w__law_row e k__law_is_int
  have k__law_rows : DefOk P w K mg base 3 "_law_rows" 2 c__law_rows := w__law_rows e k__law_row
  have k__law_number : DefOk P w K mg base 2 "_law_number" 2 c__law_number := w__law_number e k__law_is_int
  have k__law_refused : DefOk P w K mg base 2 "_law_refused" 2 c__law_refused := w__law_refused e k__law_is_int
  w_law e Fu k_groups_of k_group_caps k_base_hours k_way_delay k_ways_delay k__law_draws k__law_take k__law_course k__law_groups k__law_cap_sum k__law_greedy k__law_row k__law_rows k__law_number k__law_refused
end
end K05
end

section
set_option maxHeartbeats 400000
namespace K05
open Py PySem L2
abbrev sA : Str := "anew"
abbrev sO : Str := "on"
structure S where
  slow : Int
  cap : Option Int
  err : Int
  anew : Bool
def S.ok (s : S) : Prop := 0 ≤ s.slow ∧ (∀ c, s.cap = some c → 0 ≤ c) ∧ 0 ≤ s.err
def capD : Option Int → D
  | none => .non
  | some c => .int c
def kd (b : Bool) : Str := if b = true then sA else sO
def S.ds (s : S) : List D := [.int s.slow, capD s.cap, .int s.err, .str (kd s.anew)]
def S.enc (s : S) : D := .tup s.ds
def S.encL (s : S) : D := .lst s.ds
theorem T1 (i : Int) : c_is_int [.v (.int i)] = .ok (.bl true) [.un] := rfl
theorem T2 (i : Bool) : c_is_int [.v (.bl i)] = .ok (.bl false) [.un] := by cases i <;> rfl
theorem L1 (i : Int) : c__law_is_int [.v (.int i)] = .ok (.bl true) [.un] := rfl
theorem L2' (i : Bool) : c__law_is_int [.v (.bl i)] = .ok (.bl false) [.un] := by cases i <;> rfl
theorem in_kd (b : Bool) : fInW true (.str (kd b)) (.tup [.str "anew", .str "on"]) = some (.bl false) := by cases b <;> kernel_rfl
theorem eq_kd (b : Bool) : fEq (.str (kd b)) (.str "anew") = some (.bl b) := by cases b <;> kernel_rfl
theorem isl {ds : List D} : fIs T [.lst ds, .tup [.ty .tup, .ty .lst]] = some (.bl true) := rfl
theorem ist {ds : List D} : fIs T [.tup ds, .tup [.ty .tup, .ty .lst]] = some (.bl true) := rfl
theorem iss {x : Str} : fIs T [.str x, .ty .str] = some (.bl true) := rfl
theorem ist1 {ds : List D} : fIs T [.tup ds, .ty .tup] = some (.bl true) := rfl
/-- a store as the program may get it -/
def isS (d : D) (s : S) : Prop := d = s.enc ∨ d = s.encL
theorem wsp {d : D} {s : S} (h : isS d s) (o : s.ok) : c_wrong_store_part [.v d] = .ok .non [.un] := by
  obtain ⟨h1, h2, h3⟩ := o
  obtain ⟨sl, cap, er, an⟩ := s
  simp only at h1 h2 h3
  cases cap with
  | none => rcases h with rfl | rfl <;> simp [S.enc, S.encL, S.ds, capD, c_wrong_store_part, f_wrong_store_part, st_wrong_store_part_0, st_wrong_store_part_1, st_wrong_store_part_2, st_wrong_store_part_3, st_wrong_store_part_4, st_wrong_store_part_5, st_wrong_store_part_6, e_run, T1, Int.not_lt.mpr h1, Int.not_lt.mpr h3, isl, ist, iss, in_kd]
  | some c =>
    have h2 := h2 c rfl
    rcases h with rfl | rfl <;> simp [S.enc, S.encL, S.ds, capD, c_wrong_store_part, f_wrong_store_part, st_wrong_store_part_0, st_wrong_store_part_1, st_wrong_store_part_2, st_wrong_store_part_3, st_wrong_store_part_4, st_wrong_store_part_5, st_wrong_store_part_6, e_run, T1, Int.not_lt.mpr h1, Int.not_lt.mpr h2, Int.not_lt.mpr h3, isl, ist, iss, in_kd]
/-- a way as the program may get it -/
def eS (b : Bool) (s : S) : D := if b = true then s.encL else s.enc
def W (b : Bool) (way : List S) : D := if b = true then .lst (way.map (eS b)) else .tup (way.map (eS b))
theorem isS_e (b : Bool) (s : S) : isS (eS b s) s := by cases b; exact .inl rfl; exact .inr rfl
theorem its_W {b way} : itemsOf (W b way) = some (way.map (eS b)) := by cases b <;> rfl
theorem is_W {b way} : fIs T [W b way, .tup [.ty .tup, .ty .lst]] = some (.bl true) := by cases b <;> rfl
theorem len_W {b way} : fLen [W b way] = some (.int (way.length : Nat)) := by cases b <;> simp [W]
theorem wwp (b : Bool) (way : List S) (h : ∀ s ∈ way, s.ok) (hne : way ≠ []) : c_wrong_way_place [.v (W b way)] = .ok .non [.un] := by
  obtain ⟨r', h1, h2⟩ := forEn (eS b) (fun as n r => (∀ s ∈ as, s.ok) ∧ ∃ t1 t2 t3, r = [.v (W b way), t1, t2, t3] ∧ t1.np = true ∧ t2.np = true ∧ t3.np = true) (g := gSq 2 (gC (gNm 1) (gC (gNm 2) gN0))) (b := l_wrong_way_place_0) way [.v (W b way), .un, .un, .un] ⟨h, _, _, _, rfl, rfl, rfl, rfl⟩
    fun a as n r ⟨k, t1, t2, t3, e, n1, n2, n3⟩ => by
      subst e
      refine ⟨[.v (W b way), .v (.int n), .v (eS b a), t3], [.v (W b way), .v (.int n), .v (eS b a), .v .non], by simp [n1, n2], .inl ?_, fun s hs => k s (List.mem_cons_of_mem _ hs), _, _, _, rfl, rfl, rfl, rfl⟩
      simp [l_wrong_way_place_0, wsp (isS_e b a) (k a List.mem_cons_self), n3]
  obtain ⟨_, t1, t2, t3, rfl, _⟩ := h2
  have hl : ¬ ((way.length : Int) = 0) := by have := List.length_pos_iff.mpr hne; omega
  simp [c_wrong_way_place, f_wrong_way_place, e_run, is_W, len_W, its_W, hne, h1]
theorem pw (b : Bool) (way : List S) (hl : way.length ≤ 1000) : c_plain_way [.v (W b way)] = .ok (W false way) [.un] := by
  obtain ⟨r', h1, h2⟩ := forL_ind (eS b) (fun as r => ∃ ds t1, r = [.v (W b way), .o ds, t1] ∧ t1.np = true ∧ ds.length + as.length ≤ 1000 ∧ ds ++ as.map (eS false) = way.map (eS false)) (g := gNm 2) (b := l_plain_way_0)
    (fun a as r ⟨ds, t1, e, n1, hl, hd⟩ => by
      subst e
      refine ⟨[.v (W b way), .o ds, .v (eS b a)], [.v (W b way), .o (ds ++ [eS false a]), .v (eS b a)], by simp [n1], .inl ?_, _, _, rfl, rfl, by simp at hl ⊢; omega, by rw [← hd]; simp⟩
      have : ds.length < 16777216 := by omega
      cases b <;> simp [l_plain_way_0, eS, S.enc, S.encL, this]) way [.v (W b way), .o [], .un] ⟨[], _, rfl, rfl, by simpa using hl, rfl⟩
  obtain ⟨ds, t1, rfl, _, _, hd⟩ := h2
  simp only [List.map_nil, List.append_nil] at hd
  subst hd
  simp [c_plain_way, f_plain_way, e_run, its_W, h1]
  rfl
theorem cw (b : Bool) (way : List S) (h : ∀ s ∈ way, s.ok) (hne : way ≠ []) (hl : way.length ≤ 1000) : c_check_way [.v (W b way)] = .ok (W false way) [.un] := by
  simp [c_check_way, f_check_way, e_run, wwp b way h hne, pw b way hl]
/-! ## Groups -/
def gr (st i : Nat) : List S → List (Nat × Nat)
  | [] => []
  | s :: rest => if (s.anew || rest.isEmpty) = true then (st, i + 1 - st) :: gr (i + 1) (i + 1) rest else gr st (i + 1) rest
def gD (p : Nat × Nat) : D := .tup (intsD (p.1 : Int) p.2)
theorem ix3 (s : S) : fIx s.enc (.int 3) = some (.str (kd s.anew)) := by simp [S.enc, S.ds]
theorem ix1 (s : S) : fIx s.enc (.int 1) = some (capD s.cap) := by simp [S.enc, S.ds]
theorem ix0 (s : S) : fIx s.enc (.int 0) = some (.int s.slow) := by simp [S.enc, S.ds]
theorem ix2 (s : S) : fIx s.enc (.int 2) = some (.int s.err) := by simp [S.enc, S.ds]
theorem pg (way : List S) (hl : way.length ≤ 1000) : c_plain_groups [.v (W false way)] = .ok (.tup ((gr 0 0 way).map gD)) [.un] := by
  obtain ⟨r', h1, h2⟩ := forEn (eS false) (fun as n r => ∃ gs st t3 t4, r = [.v (W false way), .o (gs.map gD), .v (.int (st : Nat)), t3, t4] ∧ t3.np = true ∧ t4.np = true ∧ n + as.length = way.length ∧ st ≤ n ∧ gs.length ≤ n ∧ gs ++ gr st n as = gr 0 0 way) (g := gSq 2 (gC (gNm 3) (gC (gNm 4) gN0))) (b := l_plain_groups_0) way [.v (W false way), .o [], .v (.int 0), .un, .un] ⟨[], 0, _, _, rfl, rfl, rfl, by simp, by omega, by simp, rfl⟩
    fun a as n r ⟨gs, st, t3, t4, e, n3, n4, hn, hs, hg, hh⟩ => by
      subst e
      have hc : decide ((n : Int) = (way.length : Int) - 1) = as.isEmpty := by
        cases as with
        | nil => simp at hn ⊢; omega
        | cons x as => simp at hn ⊢; omega
      have hrg : fTupRg (st : Int) ((n : Int) + 1) = some (gD (st, n + 1 - st)) := by
        rw [tupRg (by omega) (by omega) (by omega) (by omega) (by omega)]
        rw [show ((n : Int) + 1 - (st : Int)).toNat = n + 1 - st by omega]; rfl
      have hgl : gs.length < 16777216 := by omega
      cases hb : (a.anew || as.isEmpty) with
      | true =>
        refine ⟨[.v (W false way), .o (gs.map gD), .v (.int st), .v (.int n), .v a.enc], [.v (W false way), .o ((gs ++ [(st, n + 1 - st)]).map gD), .v (.int ((n + 1 : Nat) : Int)), .v (.int n), .v a.enc], by simp [n3, n4, eS], .inl ?_, _, n + 1, _, _, rfl, rfl, rfl, by simp at hn; omega, by omega, by simp; omega, ?_⟩
        · cases ha : a.anew with
          | true => simp [l_plain_groups_0, ix3, ha, eq_kd, len_W, hrg, hgl]
          | false =>
            rw [ha] at hb
            simp [l_plain_groups_0, ix3, ha, eq_kd, len_W, hrg, hgl, hc, hb]
            simp at hb
            simp [hb]
        · rw [← hh]
          simp [gr, hb]
      | false =>
        refine ⟨[.v (W false way), .o (gs.map gD), .v (.int st), .v (.int n), .v a.enc], [.v (W false way), .o (gs.map gD), .v (.int st), .v (.int n), .v a.enc], by simp [n3, n4, eS], .inl ?_, _, st, _, _, rfl, rfl, rfl, by simp at hn; omega, by omega, by omega, ?_⟩
        · simp at hb
          simp [l_plain_groups_0, ix3, hb, eq_kd, len_W, hc]
        · rw [← hh]
          simp [gr, hb]
  obtain ⟨gs, st, t3, t4, rfl, _, _, _, _, _, hh⟩ := h2
  simp only [gr, List.append_nil] at hh
  simp [c_plain_groups, f_plain_groups, e_run, len_W, its_W, h1, hh]
theorem lg (way : List S) (hl : way.length ≤ 1000) : c__law_groups [.v (W false way)] = .okn ((gr 0 0 way).map gD) [.un] := by
  obtain ⟨r', h1, h2⟩ := forR_ind 0 way.length (fun k r => ∃ gs st t3, r = [.v (W false way), .o (gs.map gD), .o (intsD (st : Nat) (k - st)), t3] ∧ t3.np = true ∧ st ≤ k ∧ gs.length ≤ k ∧ gs ++ gr st k (way.drop k) = gr 0 0 way) (g := gNm 3) (b := l__law_groups_0)
    (fun k r hk ⟨gs, st, t3, e, n3, hs, hg, hh⟩ => by
      subst e
      obtain ⟨a, as, hd⟩ : ∃ a as, way.drop k = a :: as := ⟨_, _, List.drop_eq_getElem_cons hk⟩
      have hd2 : way.drop (k + 1) = as := by rw [← List.drop_drop, hd]; rfl
      have hix : fIx (W false way) (.int (k : Int)) = some a.enc := by
        have : way[k]? = some a := by rw [← List.head?_drop, hd]; rfl
        simp [W, this, eS]
      have hc : decide ((k : Int) + 1 = (way.length : Int)) = as.isEmpty := by
        have := congrArg List.length hd2
        rw [List.length_drop] at this
        cases as with
        | nil => simp at this ⊢; omega
        | cons x as => simp at this ⊢; omega
      have hln : k - st < 16777216 := by omega
      have hgl : gs.length < 16777216 := by omega
      have hap : intsD (st : Nat) (k - st) ++ [.int (k : Int)] = intsD (st : Nat) (k + 1 - st) := by
        rw [show k + 1 - st = (k - st) + 1 by omega, intsD_succ]
        congr; omega
      rw [hd] at hh
      cases hb : (a.anew || as.isEmpty) with
      | true =>
        refine ⟨[.v (W false way), .o (gs.map gD), .o (intsD (st : Nat) (k - st)), .v (.int (k : Int))], [.v (W false way), .o ((gs ++ [(st, k + 1 - st)]).map gD), .o [], .v (.int (k : Int))], by simp [n3], .inl ?_, gs ++ [(st, k + 1 - st)], k + 1, .v (.int (k : Int)), by simp, rfl, by omega, by simp; omega, ?_⟩
        · cases ha : a.anew with
          | true => simp [l__law_groups_0, hix, ix3, ha, eq_kd, len_W, hgl, hln, hap, gD]
          | false =>
            rw [ha] at hb
            simp [l__law_groups_0, hix, ix3, ha, eq_kd, len_W, hgl, hln, hap, gD, hc, hb]
            simp at hb
            simp [hb]
        · rw [← hh, hd2]
          simp [gr, hb]
      | false =>
        refine ⟨[.v (W false way), .o (gs.map gD), .o (intsD (st : Nat) (k - st)), .v (.int (k : Int))], [.v (W false way), .o (gs.map gD), .o (intsD (st : Nat) (k + 1 - st)), .v (.int (k : Int))], by simp [n3], .inl ?_, gs, st, _, rfl, rfl, by omega, by omega, ?_⟩
        · simp at hb
          simp [l__law_groups_0, hix, ix3, hb, eq_kd, len_W, hc, hln, hap]
        · rw [← hh, hd2]
          simp [gr, hb]) [.v (W false way), .o [], .o [], .un] ⟨[], 0, _, rfl, rfl, by omega, by simp, rfl⟩
  obtain ⟨gs, st, t3, rfl, _, _, _, hh⟩ := h2
  rw [List.drop_length] at hh
  simp only [gr, List.append_nil] at hh
  simp [c__law_groups, f__law_groups, e_run, len_W, rg1 (show way.length ≤ 1000000000 by omega), h1, hh]
/-! ## Caps -/
def addc : Option Int → Option Int → Option Int
  | some a, some b => some (a + b)
  | _, _ => none
def capF (way : List S) (s n : Nat) : Option Int := ((way.drop s).take n).foldl (fun a x => addc a x.cap) (some 0)
theorem capF_succ (way : List S) (s n : Nat) (x : S) (h : way[s + n]? = some x) : capF way s (n + 1) = addc (capF way s n) x.cap := by
  unfold capF
  have : (way.drop s).take (n + 1) = (way.drop s).take n ++ [x] := by
    rw [List.take_add_one, List.getElem?_drop, h]; rfl
  rw [this, List.foldl_append]; rfl
theorem ixW (way : List S) (i : Nat) (x : S) (h : way[i]? = some x) : fIx (W false way) (.int (i : Int)) = some x.enc := by simp [W, h, eS]
theorem gr_le : ∀ (as : List S) (st i : Nat), st ≤ i → ∀ p ∈ gr st i as, p.1 + p.2 ≤ i + as.length
  | [], st, i, h, p, hp => by simp [gr] at hp
  | a :: as, st, i, h, p, hp => by
    unfold gr at hp
    split at hp
    · rcases List.mem_cons.mp hp with rfl | hp
      · simp; omega
      · have := gr_le as (i + 1) (i + 1) (by omega) p hp
        simp; omega
    · have := gr_le as st (i + 1) (by omega) p hp
      simp; omega
theorem gr_len : ∀ (as : List S) (st i : Nat), (gr st i as).length ≤ as.length
  | [], st, i => by simp [gr]
  | a :: as, st, i => by
    unfold gr
    split
    · have := gr_len as (i + 1) (i + 1); simp; omega
    · have := gr_len as st (i + 1); simp; omega
theorem pcI (way : List S) (s n : Nat) (h : s + n ≤ way.length) (acc : List D) (ha : acc.length < 16777216) (t3 t4 t5 : Slot) (h3 : t3.np = true) (h4 : t4.np = true) (h5 : t5.np = true) : ∃ t4' t5', t4'.np = true ∧ t5'.np = true ∧ l_plain_caps_0 [.v (W false way), .o acc, .v (gD (s, n)), t3, t4, t5] = .nx [.v (W false way), .o (acc ++ [capD (capF way s n)]), .v (gD (s, n)), .v (capD (capF way s n)), t4', t5'] := by
  obtain ⟨r', h1, h2⟩ := forR_ind (s : Nat) n (fun k r => ∃ t4 t5, r = [.v (W false way), .o acc, .v (gD (s, n)), .v (capD (capF way s k)), t4, t5] ∧ t4.np = true ∧ t5.np = true) (g := gNm 4) (b := l_plain_caps_1)
    (fun k r hk ⟨t4, t5, e, n4, n5⟩ => by
      subst e
      obtain ⟨x, hx⟩ : ∃ x, way[s + k]? = some x := ⟨_, List.getElem?_eq_getElem (by omega)⟩
      have hix : fIx (W false way) (.int ((s : Int) + (k : Int))) = some x.enc := ixW way (s + k) x hx
      refine ⟨[.v (W false way), .o acc, .v (gD (s, n)), .v (capD (capF way s k)), .v (.int ((s : Int) + (k : Int))), t5], [.v (W false way), .o acc, .v (gD (s, n)), .v (capD (capF way s (k + 1))), .v (.int ((s : Int) + (k : Int))), .v (capD x.cap)], by simp [n4], .inl ?_, _, _, rfl, rfl, rfl⟩
      rw [capF_succ way s k x hx]
      cases h1 : capF way s k with
      | none => simp [l_plain_caps_1, hix, ix1, n5, h1, capD, addc]
      | some a => cases h2 : x.cap <;> simp [l_plain_caps_1, hix, ix1, n5, h1, h2, capD, addc]) [.v (W false way), .o acc, .v (gD (s, n)), .v (.int 0), t4, t5] ⟨_, _, rfl, h4, h5⟩
  obtain ⟨t4', t5', rfl, n4, n5⟩ := h2
  refine ⟨t4', t5', n4, n5, ?_⟩
  have hg : itemsOf (gD (s, n)) = some (intsD (s : Nat) n) := rfl
  simp [l_plain_caps_0, h3, hg, h1, ha]
theorem pc (way : List S) (hl : way.length ≤ 1000) : c_plain_caps [.v (W false way)] = .ok (.tup ((gr 0 0 way).map fun p => capD (capF way p.1 p.2))) [.un] := by
  obtain ⟨r', h1, h2⟩ := forL_ind gD (fun as r => ∃ ds t2 t3 t4 t5, r = [.v (W false way), .o ds, t2, t3, t4, t5] ∧ t2.np = true ∧ t3.np = true ∧ t4.np = true ∧ t5.np = true ∧ ds.length + as.length ≤ 1000 ∧ (∀ p ∈ as, p.1 + p.2 ≤ way.length) ∧ ds ++ as.map (fun p => capD (capF way p.1 p.2)) = (gr 0 0 way).map fun p => capD (capF way p.1 p.2)) (g := gNm 2) (b := l_plain_caps_0)
    (fun a as r ⟨ds, t2, t3, t4, t5, e, n2, n3, n4, n5, hl, hm, hd⟩ => by
      subst e
      obtain ⟨t4', t5', k4, k5, hh⟩ := pcI way a.1 a.2 (hm a List.mem_cons_self) ds (by omega) t3 t4 t5 n3 n4 n5
      exact ⟨[.v (W false way), .o ds, .v (gD a), t3, t4, t5], _, by simp [n2], .inl hh, _, _, _, _, _, rfl, rfl, rfl, k4, k5, by simp at hl ⊢; omega, fun p hp => hm p (List.mem_cons_of_mem _ hp), by rw [← hd]; simp⟩) (gr 0 0 way) [.v (W false way), .o [], .un, .un, .un, .un]
    ⟨[], _, _, _, _, rfl, rfl, rfl, rfl, rfl, by have := gr_len way 0 0; simp; omega, fun p hp => by have := gr_le way 0 0 (by omega) p hp; omega, rfl⟩
  obtain ⟨ds, t2, t3, t4, t5, rfl, _, _, _, _, _, _, hd⟩ := h2
  simp only [List.map_nil, List.append_nil] at hd
  subst hd
  simp [c_plain_caps, f_plain_caps, e_run, pg way hl, h1]
theorem cs (way : List S) (s n : Nat) (h : s + n ≤ way.length) : c__law_cap_sum [.v (W false way), .v (gD (s, n))] = .ok (capD (capF way s n)) [.un, .un] := by
  have none_stays : ∀ k m, capF way s k = none → capF way s (k + m) = none := fun k m h => by
    unfold capF at h ⊢
    rw [List.take_add, List.foldl_append, h]
    generalize List.take m _ = l
    induction l with
    | nil => rfl
    | cons x l ih => exact ih
  have hg : itemsOf (gD (s, n)) = some (intsD (s : Nat) n) := rfl
  rcases forR_or (s : Nat) n (fun k r => ∃ t3 a, capF way s k = some a ∧ r = [.v (W false way), .v (gD (s, n)), .v (.int a), t3] ∧ t3.np = true) (fun x r => x = capD (capF way s n) ∧ ∃ a b c d, r = [a, b, c, d]) (g := gNm 3) (b := l__law_cap_sum_0)
    (fun k r hk ⟨t3, a, ha, e, n3⟩ => by
      subst e
      obtain ⟨x, hx⟩ : ∃ x, way[s + k]? = some x := ⟨_, List.getElem?_eq_getElem (by omega)⟩
      have hix : fIx (W false way) (.int ((s : Int) + (k : Int))) = some x.enc := ixW way (s + k) x hx
      refine ⟨[.v (W false way), .v (gD (s, n)), .v (.int a), .v (.int ((s : Int) + (k : Int)))], by simp [n3], ?_⟩
      have hc := capF_succ way s k x hx
      rw [ha] at hc
      cases h2 : x.cap with
      | none =>
        rw [h2] at hc
        exact .inr ⟨.non, [.v (W false way), .v (gD (s, n)), .v (.int a), .v (.int ((s : Int) + (k : Int)))], by simp [l__law_cap_sum_0, hix, ix1, h2, capD], by have := none_stays (k + 1) (n - (k + 1)) hc; rw [show k + 1 + (n - (k + 1)) = n by omega] at this; rw [this]; rfl, _, _, _, _, rfl⟩
      | some b =>
        rw [h2] at hc
        exact .inl ⟨[.v (W false way), .v (gD (s, n)), .v (.int (a + b)), .v (.int ((s : Int) + (k : Int)))], .inl (by simp [l__law_cap_sum_0, hix, ix1, h2, capD]), _, _, hc, rfl, rfl⟩) [.v (W false way), .v (gD (s, n)), .v (.int 0), .un] ⟨_, 0, rfl, rfl, rfl⟩ with ⟨r', h1, t3, a, ha, rfl, _⟩ | ⟨x, r', h1, rfl, a, b, c, d, rfl⟩
  · simp [c__law_cap_sum, f__law_cap_sum, e_run, hg, h1, ha, capD]
  · simp [c__law_cap_sum, f__law_cap_sum, e_run, hg, h1]
/-! ## Delays -/
def minC (life : Int) : Option Int → Int
  | none => life
  | some c => if c < life then c else life
def base (way : List S) : Int := (way.map fun s => s.slow + s.err).sum
theorem pb (way : List S) : c_plain_base [.v (W false way)] = .ok (.int (base way)) [.un] := by
  obtain ⟨r', h1, h2⟩ := forL_ind (eS false) (fun as r => ∃ a t2, r = [.v (W false way), .v (.int a), t2] ∧ t2.np = true ∧ a + base as = base way) (g := gNm 2) (b := l_plain_base_0)
    (fun a as r ⟨x, t2, e, n2, h⟩ => by
      subst e
      refine ⟨[.v (W false way), .v (.int x), .v a.enc], [.v (W false way), .v (.int (x + a.slow + a.err)), .v a.enc], by simp [n2, eS], .inl (by simp [l_plain_base_0, ix0, ix2]), _, _, rfl, rfl, ?_⟩
      rw [← h]; simp [base]; omega) way [.v (W false way), .v (.int 0), .un] ⟨0, _, rfl, rfl, by simp⟩
  obtain ⟨a, t2, rfl, _, h⟩ := h2
  have : a = base way := by rw [← h]; simp [base]
  subst this
  simp [c_plain_base, f_plain_base, e_run, its_W, h1]
def caps (way : List S) : List (Option Int) := (gr 0 0 way).map fun p => capF way p.1 p.2
theorem pc' (way : List S) (hl : way.length ≤ 1000) : c_plain_caps [.v (W false way)] = .ok (.tup ((caps way).map capD)) [.un] := by
  rw [pc way hl]; simp [caps]
theorem caps_len (way : List S) : (caps way).length ≤ way.length := by unfold caps; rw [List.length_map]; exact gr_len way 0 0
theorem ls (way : List S) (life : Int) (hl : way.length ≤ 1000) : c_life_shares [.v (W false way), .v (.int life)] = .ok (.tup ((caps way).map fun c => .int (minC life c))) [.un, .un] := by
  obtain ⟨r', h1, h2⟩ := forL_ind capD (fun as r => ∃ ds t3, r = [.v (W false way), .v (.int life), .o ds, t3] ∧ t3.np = true ∧ ds.length + as.length ≤ 1000 ∧ ds ++ as.map (fun c => .int (minC life c)) = (caps way).map fun c => .int (minC life c)) (g := gNm 3) (b := l_life_shares_0)
    (fun a as r ⟨ds, t3, e, n3, hl, hd⟩ => by
      subst e
      have : ds.length < 16777216 := by omega
      refine ⟨[.v (W false way), .v (.int life), .o ds, .v (capD a)], [.v (W false way), .v (.int life), .o (ds ++ [.int (minC life a)]), .v (capD a)], by simp [n3], .inl ?_, _, _, rfl, rfl, by simp at hl ⊢; omega, by rw [← hd]; simp⟩
      cases a <;> simp [l_life_shares_0, capD, minC, this]) (caps way) [.v (W false way), .v (.int life), .o [], .un] ⟨[], _, rfl, rfl, by have := caps_len way; simp; omega, rfl⟩
  obtain ⟨ds, t3, rfl, _, _, hd⟩ := h2
  simp only [List.map_nil, List.append_nil] at hd
  subst hd
  simp [c_life_shares, f_life_shares, e_run, pc' way hl, h1]
def delay (way : List S) (life : Int) : Int := base way + ((caps way).map (minC life)).sum
theorem pd (way : List S) (life : Int) (hl : way.length ≤ 1000) : c_plain_delay [.v (W false way), .v (.int life)] = .ok (.int (delay way life)) [.un, .un] := by
  obtain ⟨r', h1, h2⟩ := forL_ind (fun c => D.int (minC life c)) (fun as r => ∃ a t3, r = [.v (W false way), .v (.int life), .v (.int a), t3] ∧ t3.np = true ∧ a + (as.map (minC life)).sum = delay way life) (g := gNm 3) (b := l_plain_delay_0)
    (fun a as r ⟨x, t3, e, n3, h⟩ => by
      subst e
      refine ⟨[.v (W false way), .v (.int life), .v (.int x), .v (.int (minC life a))], [.v (W false way), .v (.int life), .v (.int (x + minC life a)), .v (.int (minC life a))], by simp [n3], .inl (by simp [l_plain_delay_0]), _, _, rfl, rfl, ?_⟩
      rw [← h]; simp; omega) (caps way) [.v (W false way), .v (.int life), .v (.int (base way)), .un] ⟨_, _, rfl, rfl, rfl⟩
  obtain ⟨a, t3, rfl, _, h⟩ := h2
  have : a = delay way life := by rw [← h]; simp
  subst this
  simp [c_plain_delay, f_plain_delay, e_run, pb, ls way life hl, h1]
/-! the law's own course -/
def gc (acc : Option Int) : List S → List (Option Int)
  | [] => []
  | s :: rest => if (s.anew || rest.isEmpty) = true then addc acc s.cap :: gc (some 0) rest else gc (addc acc s.cap) rest
theorem caps_gc (way : List S) : ∀ (as : List S) (st i : Nat), st ≤ i → way.drop i = as → (gr st i as).map (fun p => capF way p.1 p.2) = gc (capF way st (i - st)) as
  | [], _, _, _, _ => rfl
  | a :: as, st, i, h, hd => by
    have hx : way[st + (i - st)]? = some a := by rw [show st + (i - st) = i by omega, ← List.head?_drop, hd]; rfl
    have hd2 : way.drop (i + 1) = as := by rw [← List.drop_drop, hd]; rfl
    have e := capF_succ way st (i - st) a hx
    rw [show i - st + 1 = i + 1 - st by omega] at e
    unfold gr gc
    rw [← e]
    split
    · rw [List.map_cons, caps_gc way as (i + 1) (i + 1) (by omega) hd2]
      simp [capF]
    · exact caps_gc way as st (i + 1) (by omega) hd2
def greedy (life : Int) : Int → Int → List S → Int
  | total, _, [] => total
  | total, left, s :: rest => greedy life (total + s.slow + minC left s.cap + s.err) (if s.anew = true then life else left - minC left s.cap) rest
theorem minC_add {life : Int} (h : 0 ≤ life) (acc c : Option Int) (ha : ∀ x, acc = some x → 0 ≤ x) (hc : ∀ x, c = some x → 0 ≤ x) : minC life (addc acc c) = minC life acc + minC (life - minC life acc) c := by
  cases acc with
  | none => cases c with
    | none => simp [minC, addc]
    | some c => have := hc c rfl; simp [minC, addc]; omega
  | some a => have := ha a rfl; cases c with
    | none => simp only [minC, addc]; omega
    | some c => have := hc c rfl; simp only [minC, addc]; split <;> split <;> split <;> omega
theorem greedy_eq {life : Int} (h : 0 ≤ life) : ∀ (as : List S) (acc : Option Int) (total : Int), (∀ s ∈ as, s.ok) → (∀ x, acc = some x → 0 ≤ x) → (as = [] → acc = some 0) →
    greedy life total (life - minC life acc) as = total + base as + ((gc acc as).map (minC life)).sum - minC life acc
  | [], acc, total, ho, ha, hn => by
    rw [hn rfl]; simp [greedy, base, gc, minC]; omega
  | a :: as, acc, total, ho, ha, hn => by
    have hoa := ho a List.mem_cons_self
    have m := minC_add h acc a.cap ha hoa.2.1
    have ha' : ∀ x, addc acc a.cap = some x → 0 ≤ x := fun x e => by
      cases e1 : acc with
      | none => rw [e1] at e; cases e
      | some y => cases e2 : a.cap with
        | none => rw [e1, e2] at e; cases e
        | some z => rw [e1, e2] at e; cases e; have := ha y e1; have := hoa.2.1 z e2; omega
    have z0 : minC life (some 0) = 0 := by simp only [minC]; split <;> omega
    unfold greedy gc
    cases hb : a.anew with
    | true =>
      have ih := greedy_eq h as (some 0) (total + a.slow + minC (life - minC life acc) a.cap + a.err) (fun s hs => ho s (List.mem_cons_of_mem _ hs)) (fun x e => by cases e; omega) (fun _ => rfl)
      rw [z0, Int.sub_zero] at ih
      simp only [if_true, Bool.true_or]
      rw [ih]
      simp [base]; omega
    | false =>
      cases as with
      | nil => simp [greedy, base, gc]; omega
      | cons b bs =>
        have ih := greedy_eq h (b :: bs) (addc acc a.cap) (total + a.slow + minC (life - minC life acc) a.cap + a.err) (fun s hs => ho s (List.mem_cons_of_mem _ hs)) ha' (fun e => nomatch e)
        rw [m] at ih
        rw [show life - minC life acc - minC (life - minC life acc) a.cap = life - (minC life acc + minC (life - minC life acc) a.cap) by omega]
        simp only [Bool.false_eq_true, if_false, List.isEmpty_cons, Bool.or_self]
        rw [ih]
        simp [base]; omega
theorem greedy_delay {life : Int} (h : 0 ≤ life) (way : List S) (ho : ∀ s ∈ way, s.ok) : greedy life 0 life way = delay way life := by
  have z0 : minC life (some 0) = 0 := by simp only [minC]; split <;> omega
  have e := greedy_eq h way (some 0) 0 ho (fun x e => by cases e; omega) (fun _ => rfl)
  rw [z0, Int.sub_zero] at e
  rw [e]
  have c := caps_gc way way 0 0 (by omega) (by simp)
  unfold delay caps
  rw [c]
  simp [capF]
theorem lgr (way : List S) (life : Int) : c__law_greedy [.v (W false way), .v (.int life)] = .ok (.int (greedy life 0 life way)) [.un, .un] := by
  obtain ⟨r', h1, h2⟩ := forL_ind (eS false) (fun as r => ∃ a l t4 t5, r = [.v (W false way), .v (.int life), .v (.int a), .v (.int l), t4, t5] ∧ t4.np = true ∧ t5.np = true ∧ greedy life a l as = greedy life 0 life way) (g := gNm 4) (b := l__law_greedy_0)
    (fun s as r ⟨a, l, t4, t5, e, n4, n5, h⟩ => by
      subst e
      refine ⟨[.v (W false way), .v (.int life), .v (.int a), .v (.int l), .v s.enc, t5], [.v (W false way), .v (.int life), .v (.int (a + s.slow + minC l s.cap + s.err)), .v (.int (if s.anew = true then life else l - minC l s.cap)), .v s.enc, .v (.int (minC l s.cap))], by simp [n4, eS], .inl ?_, _, _, _, _, rfl, rfl, rfl, h⟩
      cases hc : s.cap with
      | none => cases hb : s.anew <;> simp [l__law_greedy_0, ix0, ix1, ix2, ix3, hc, capD, hb, eq_kd, minC, n5]
      | some c =>
        by_cases hlt : c < l <;> cases hb : s.anew <;> simp [l__law_greedy_0, ix0, ix1, ix2, ix3, hc, capD, hb, eq_kd, minC, n5, hlt]) way [.v (W false way), .v (.int life), .v (.int 0), .v (.int life), .un, .un] ⟨_, _, _, _, rfl, rfl, rfl, rfl⟩
  obtain ⟨a, l, t4, t5, rfl, _, _, h⟩ := h2
  simp only [greedy] at h
  subst h
  simp [c__law_greedy, f__law_greedy, e_run, its_W, h1]
/-! ## The law's checks -/
theorem isN_capD (c : Option Int) : isNon (capD c) = c.isNone := by cases c <;> rfl
theorem row (xs : List (Option Int)) (hl : xs.length ≤ 1000) : c__law_row [.v (.tup (xs.map capD)), .v (.tup (xs.map capD))] = .ok (.bl true) [.un, .un] := by
  obtain ⟨r', h1, h2⟩ := forR_ind 0 xs.length (fun k r => ∃ t2, r = [.v (.tup (xs.map capD)), .v (.tup (xs.map capD)), t2] ∧ t2.np = true) (g := gNm 2) (b := l__law_row_0)
    (fun k r hk ⟨t2, e, n2⟩ => by
      subst e
      refine ⟨[.v (.tup (xs.map capD)), .v (.tup (xs.map capD)), .v (.int (k : Int))], [.v (.tup (xs.map capD)), .v (.tup (xs.map capD)), .v (.int (k : Int))], by simp [n2], .inl ?_, _, rfl, rfl⟩
      cases hx : xs[k] with
      | none => simp [l__law_row_0, hk, hx, capD]
      | some i => simp [l__law_row_0, hk, hx, capD, L1]) [.v (.tup (xs.map capD)), .v (.tup (xs.map capD)), .un] ⟨_, rfl, rfl⟩
  obtain ⟨t2, rfl, _⟩ := h2
  simp [c__law_row, f__law_row, e_run, ist1, rg1 (show xs.length ≤ 1000000000 by omega), h1]
theorem gD_cap (p : Nat × Nat) : gD p = .tup (((List.range p.2).map fun (k : Nat) => some ((p.1 : Int) + (k : Int))).map capD) := by
  unfold gD intsD; simp [capD]
theorem rows (gs : List (Nat × Nat)) (hl : gs.length ≤ 1000) (hg : ∀ p ∈ gs, p.2 ≤ 1000) : c__law_rows [.v (.tup (gs.map gD)), .v (.lst (gs.map gD))] = .ok (.bl true) [.un, .un] := by
  obtain ⟨r', h1, h2⟩ := forR_ind 0 gs.length (fun k r => ∃ t2, r = [.v (.tup (gs.map gD)), .v (.lst (gs.map gD)), t2] ∧ t2.np = true) (g := gNm 2) (b := l__law_rows_0)
    (fun k r hk ⟨t2, e, n2⟩ => by
      subst e
      refine ⟨[.v (.tup (gs.map gD)), .v (.lst (gs.map gD)), .v (.int (k : Int))], [.v (.tup (gs.map gD)), .v (.lst (gs.map gD)), .v (.int (k : Int))], by simp [n2], .inl ?_, _, rfl, rfl⟩
      have hr : c__law_row [.v (gD gs[k]), .v (gD gs[k])] = .ok (.bl true) [.un, .un] := by
        rw [gD_cap]
        exact row _ (by simp; exact hg _ (List.getElem_mem hk))
      simp [l__law_rows_0, hk, hr]) [.v (.tup (gs.map gD)), .v (.lst (gs.map gD)), .un] ⟨_, rfl, rfl⟩
  obtain ⟨t2, rfl, _⟩ := h2
  simp [c__law_rows, f__law_rows, e_run, ist1, rg1 (show gs.length ≤ 1000000000 by omega), h1]
theorem num (i : Int) : c__law_number [.v (.int i), .v (.int i)] = .ok (.bl true) [.un, .un] := by
  simp [c__law_number, f__law_number, e_run, L1]
/-! refusals -/
theorem isli (i : Int) : fIs T [.int i, .tup [.ty .lst, .ty .tup]] = some (.bl false) := rfl
theorem islb (b : Bool) : fIs T [.bl b, .tup [.ty .lst, .ty .tup]] = some (.bl false) := rfl
theorem pf (d : D) (h : fIs T [d, .tup [.ty .lst, .ty .tup]] = some (.bl false)) : c_plain_form [.v d] = .ok d [.un] := by
  have e : plain_form_n0 = 999997 + 1 + 1 + 1 := rfl
  have w : dWhile (dTruO 1) l_plain_form_0 plain_form_n0 [.v d, .o [d], .o [], .un, .un, .un, .un, .un, .un] = .nx [.v d, .o [], .o [.tup [d, .bl false]], .v d, .un, .un, .un, .un, .un] := by
    rw [e, e_dWhile]
    simp [l_plain_form_0, mPop, h]
    rw [e_dWhile]
    simp
  simp [c_plain_form, f_plain_form, st_plain_form_0, st_plain_form_1, st_plain_form_2, st_plain_form_3, st_plain_form_4, st_plain_form_5, e_run, w, fRev, e_dForL1, l_plain_form_2]
/-! PART B -/
theorem cn (n : Int) (h : 0 ≤ n) : c_check_number [.v (.int n), .v (.int 0)] = .ok (.int n) [.un, .un] := by
  simp [c_check_number, f_check_number, e_run, T1, Int.not_lt.mpr h]
theorem cnX (n : Int) (h : n < 0) : c_check_number [.v (.int n), .v (.int 0)] = .err (.exc "BadNumber" "at" (.int n)) [.un, .un] := by
  simp [c_check_number, f_check_number, e_run, T1, h, pf _ (isli n)]
theorem cnB : c_check_number [.v (.bl true), .v (.int 0)] = .err (.exc "BadNumber" "at" (.bl true)) [.un, .un] := by
  simp [c_check_number, f_check_number, e_run, T2, pf _ (islb true)]
structure Way (way : List S) : Prop where
  ok : ∀ s ∈ way, s.ok
  ne : way ≠ []
  len : way.length ≤ 4
theorem wd (b : Bool) (way : List S) (h : Way way) (n : Int) (hn : 0 ≤ n) : c_way_delay [.v (W b way), .v (.int n)] = .ok (.int (delay way n)) [.un, .un] := by
  have := h.len
  simp [c_way_delay, f_way_delay, e_run, cw b way h.ok h.ne (by omega), cn n hn, pd way n (by omega)]
theorem wdX (way : List S) (h : Way way) (n : Int) (hn : n < 0) : c_way_delay [.v (W false way), .v (.int n)] = .err (.exc "BadNumber" "at" (.int n)) [.un, .un] := by
  have := h.len
  simp [c_way_delay, f_way_delay, e_run, cw false way h.ok h.ne (by omega), cnX n hn]
theorem cws (ways : List (List S)) (h : ∀ w ∈ ways, Way w) (hne : ways ≠ []) (hl : ways.length ≤ 1000) : c_check_ways [.v (.tup (ways.map (W false)))] = .ok (.tup (ways.map (W false))) [.un] := by
  obtain ⟨r', h1, h2⟩ := forEn (W false) (fun as n r => (∀ w ∈ as, Way w) ∧ ∃ ds t2 t3 t4, r = [.v (.tup (ways.map (W false))), .o ds, t2, t3, t4] ∧ t2.np = true ∧ t3.np = true ∧ t4.np = true ∧ ds.length + as.length ≤ 1000 ∧ ds ++ as.map (W false) = ways.map (W false)) (g := gSq 2 (gC (gNm 2) (gC (gNm 3) gN0))) (b := l_check_ways_0) ways [.v (.tup (ways.map (W false))), .o [], .un, .un, .un] ⟨h, [], _, _, _, rfl, rfl, rfl, rfl, by simpa using hl, rfl⟩
    fun a as n r ⟨hw, ds, t2, t3, t4, e, n2, n3, n4, hl, hd⟩ => by
      subst e
      have ha := hw a List.mem_cons_self
      have := ha.len
      have : ds.length < 16777216 := by omega
      refine ⟨[.v (.tup (ways.map (W false))), .o ds, .v (.int n), .v (W false a), t4], [.v (.tup (ways.map (W false))), .o (ds ++ [W false a]), .v (.int n), .v (W false a), .v .non], by simp [n2, n3], .inl ?_, fun w hw' => hw w (List.mem_cons_of_mem _ hw'), _, _, _, _, rfl, rfl, rfl, rfl, by simp at hl ⊢; omega, by rw [← hd]; simp⟩
      simp [l_check_ways_0, wwp false a ha.ok ha.ne, pw false a (by omega), n4, this]
  obtain ⟨_, ds, t2, t3, t4, rfl, _, _, _, _, hd⟩ := h2
  simp only [List.map_nil, List.append_nil] at hd
  subst hd
  have hl : ¬ ((ways.length : Int) = 0) := by have := List.length_pos_iff.mpr hne; omega
  simp [c_check_ways, f_check_ways, e_run, ist, hne, h1]
theorem minC_nn {life : Int} (h : 0 ≤ life) (c : Option Int) (hc : ∀ x, c = some x → 0 ≤ x) : 0 ≤ minC life c := by
  cases c with
  | none => exact h
  | some c => have := hc c rfl; simp only [minC]; split <;> omega
theorem gc_nn : ∀ (as : List S) (acc : Option Int), (∀ s ∈ as, s.ok) → (∀ x, acc = some x → 0 ≤ x) → ∀ c ∈ gc acc as, ∀ x, c = some x → 0 ≤ x
  | [], acc, ho, ha, c, hc, x, e => by cases hc
  | a :: as, acc, ho, ha, c, hc, x, e => by
    have hoa := ho a List.mem_cons_self
    have ha' : ∀ x, addc acc a.cap = some x → 0 ≤ x := fun x e => by
      cases e1 : acc with
      | none => rw [e1] at e; cases e
      | some y => cases e2 : a.cap with
        | none => rw [e1, e2] at e; cases e
        | some z => rw [e1, e2] at e; cases e; have := ha y e1; have := hoa.2.1 z e2; omega
    unfold gc at hc
    split at hc
    · rcases List.mem_cons.mp hc with rfl | hc
      · exact ha' x e
      · exact gc_nn as (some 0) (fun s hs => ho s (List.mem_cons_of_mem _ hs)) (fun x e => by cases e; omega) c hc x e
    · exact gc_nn as _ (fun s hs => ho s (List.mem_cons_of_mem _ hs)) ha' c hc x e
theorem sum_nn : ∀ (l : List Int), (∀ x ∈ l, 0 ≤ x) → 0 ≤ l.sum
  | [], _ => by simp
  | a :: l, h => by
    have := h a List.mem_cons_self
    have := sum_nn l fun x hx => h x (List.mem_cons_of_mem _ hx)
    simp; omega
theorem delay_nn (way : List S) (h : ∀ s ∈ way, s.ok) (life : Int) (hl : 0 ≤ life) : 0 ≤ delay way life := by
  have c := caps_gc way way 0 0 (by omega) (by simp)
  have c2 : caps way = gc (some 0) way := by unfold caps; rw [c]; simp [capF]
  have h1 : 0 ≤ base way := sum_nn _ fun x hx => by
    obtain ⟨s, hs, rfl⟩ := List.mem_map.mp hx
    have := h s hs
    have := this.1; have := (h s hs).2.2; omega
  have h2 : 0 ≤ ((caps way).map (minC life)).sum := sum_nn _ fun x hx => by
    obtain ⟨y, hy, rfl⟩ := List.mem_map.mp hx
    rw [c2] at hy
    exact minC_nn hl y (gc_nn way (some 0) h (fun x e => by cases e; omega) y hy)
  unfold delay; omega
def most (life : Int) (ways : List (List S)) : Int := ways.foldl (fun b w => if delay w life > b then delay w life else b) 0
theorem pwd (ways : List (List S)) (h : ∀ w ∈ ways, Way w) (life : Int) : c_plain_ways_delay [.v (.tup (ways.map (W false))), .v (.int life)] = .ok (.int (most life ways)) [.un, .un] := by
  obtain ⟨r', h1, h2⟩ := forL_ind (W false) (fun as r => (∀ w ∈ as, Way w) ∧ ∃ a t3, r = [.v (.tup (ways.map (W false))), .v (.int life), .v (.int a), t3] ∧ t3.np = true ∧ as.foldl (fun b w => if delay w life > b then delay w life else b) a = most life ways) (g := gNm 3) (b := l_plain_ways_delay_0)
    (fun w as r ⟨hw, a, t3, e, n3, h⟩ => by
      subst e
      have := (hw w List.mem_cons_self).len
      exact ⟨[.v (.tup (ways.map (W false))), .v (.int life), .v (.int a), .v (W false w)], [.v (.tup (ways.map (W false))), .v (.int life), .v (.int (if delay w life > a then delay w life else a)), .v (W false w)], by simp [n3], .inl (by simp [l_plain_ways_delay_0, pd w life (by omega)]), fun w hw' => hw w (List.mem_cons_of_mem _ hw'), _, _, rfl, rfl, h⟩) ways [.v (.tup (ways.map (W false))), .v (.int life), .v (.int 0), .un] ⟨h, 0, _, rfl, rfl, rfl⟩
  obtain ⟨_, a, t3, rfl, _, h⟩ := h2
  have : a = most life ways := h
  subst this
  simp [c_plain_ways_delay, f_plain_ways_delay, e_run, h1]
theorem wsd (ways : List (List S)) (h : ∀ w ∈ ways, Way w) (hne : ways ≠ []) (hl : ways.length ≤ 1000) (n : Int) (hn : 0 ≤ n) : c_ways_delay [.v (.tup (ways.map (W false))), .v (.int n)] = .ok (.int (most n ways)) [.un, .un] := by
  simp [c_ways_delay, f_ways_delay, e_run, cws ways h hne hl, cn n hn, pwd ways h n]
theorem wsB (ways : List (List S)) (h : ∀ w ∈ ways, Way w) (hne : ways ≠ []) (hl : ways.length ≤ 1000) : c_ways_delay [.v (.tup (ways.map (W false))), .v (.bl true)] = .err (.exc "BadNumber" "at" (.bl true)) [.un, .un] := by
  simp [c_ways_delay, f_ways_delay, e_run, cws ways h hne hl, cnB]
theorem go (b : Bool) (way : List S) (h : Way way) : c_groups_of [.v (W b way)] = .ok (.tup ((gr 0 0 way).map gD)) [.un] := by
  have := h.len
  simp [c_groups_of, f_groups_of, e_run, cw b way h.ok h.ne (by omega), pg way (by omega)]
theorem gcp (way : List S) (h : Way way) : c_group_caps [.v (W false way)] = .ok (.tup ((caps way).map capD)) [.un] := by
  have := h.len
  simp [c_group_caps, f_group_caps, e_run, cw false way h.ok h.ne (by omega), pc' way (by omega)]
theorem bh (way : List S) (h : Way way) : c_base_hours [.v (W false way)] = .ok (.int (base way)) [.un] := by
  have := h.len
  simp [c_base_hours, f_base_hours, e_run, cw false way h.ok h.ne (by omega), pb way]
/-! drawing -/
theorem tk_eq : c__law_take = PyM.c__law_take := rfl
theorem dr_eq : c__law_draws = PyM.c__law_draws := rfl
theorem store (ds : List Int) (hd : ∀ d ∈ ds, PyM.small d) (a sc : Int) (hs : 0 ≤ sc) : ∃ (s : S) (ds' : List Int), s.ok ∧ (∀ d ∈ ds', PyM.small d) ∧ c__law_store [.p (ds.map D.int), .v (.int a), .v (.int sc)] = .ok s.enc [.p (ds'.map D.int), .un, .un] := by
  obtain ⟨k1, d1, a1, b1, hd1, e1⟩ := PyM.take_ok ds 4 (by omega) hd
  obtain ⟨k2, d2, a2, b2, hd2, e2⟩ := PyM.take_ok d1 6 (by omega) hd1
  obtain ⟨k3, d3, a3, b3, hd3, e3⟩ := PyM.take_ok d2 3 (by omega) hd2
  obtain ⟨k4, d4, a4, b4, hd4, e4⟩ := PyM.take_ok d3 2 (by omega) hd3
  obtain ⟨v1, p1, q1, r1⟩ : ∃ v : Int, 0 ≤ v ∧ v < 1000000 ∧ atI [D.int 0, .int 2, .int 1, .int 5] k1 = some (.int v) := by
    have : k1 = 0 ∨ k1 = 1 ∨ k1 = 2 ∨ k1 = 3 := by omega
    rcases this with rfl | rfl | rfl | rfl <;> (refine ⟨_, ?_, ?_, rfl⟩ <;> decide)
  obtain ⟨v2, p2, r2⟩ : ∃ v : Option Int, (∀ x, v = some x → 0 ≤ x ∧ x < 1000000) ∧ atI [D.non, .int 3, .int 0, .int 7, .int 1, .int 12] k2 = some (capD v) := by
    have : k2 = 0 ∨ k2 = 1 ∨ k2 = 2 ∨ k2 = 3 ∨ k2 = 4 ∨ k2 = 5 := by omega
    rcases this with rfl | rfl | rfl | rfl | rfl | rfl
    · exact ⟨none, fun x e => (by cases e), rfl⟩
    · exact ⟨some 3, fun x e => (by cases e; omega), rfl⟩
    · exact ⟨some 0, fun x e => (by cases e; omega), rfl⟩
    · exact ⟨some 7, fun x e => (by cases e; omega), rfl⟩
    · exact ⟨some 1, fun x e => (by cases e; omega), rfl⟩
    · exact ⟨some 12, fun x e => (by cases e; omega), rfl⟩
  obtain ⟨v3, p3, q3, r3⟩ : ∃ v : Int, 0 ≤ v ∧ v < 1000000 ∧ atI [D.int 1, .int 0, .int 2] k3 = some (.int v) := by
    have : k3 = 0 ∨ k3 = 1 ∨ k3 = 2 := by omega
    rcases this with rfl | rfl | rfl <;> (refine ⟨_, ?_, ?_, rfl⟩ <;> decide)
  obtain ⟨v4, r4⟩ : ∃ v : Bool, atI [D.str "anew", .str "on"] ((k4 + a) % 2) = some (.str (kd v)) := by
    have : (k4 + a) % 2 = 0 ∨ (k4 + a) % 2 = 1 := by omega
    rcases this with h | h <;> rw [h]
    · exact ⟨true, rfl⟩
    · exact ⟨false, rfl⟩
  refine ⟨⟨v1 * sc, v2.map (· * sc), v3 * sc, v4⟩, d4, ⟨Int.mul_nonneg p1 hs, fun c e => ?_, Int.mul_nonneg p3 hs⟩, hd4, ?_⟩
  · cases v2 with
    | none => cases e
    | some x => cases e; exact Int.mul_nonneg (p2 x rfl).1 hs
  · cases v2 with
    | none => simp [c__law_store, f__law_store, st__law_store_0, st__law_store_1, st__law_store_2, st__law_store_3, st__law_store_4, st__law_store_5, e_run, tk_eq, e1, e2, e3, e4, r1, r2, r3, r4, mulS p1 (show v1 < 1000000000 by omega), mulS p3 (show v3 < 1000000000 by omega), capD, S.enc, S.ds]
    | some x => simp [c__law_store, f__law_store, st__law_store_0, st__law_store_1, st__law_store_2, st__law_store_3, st__law_store_4, st__law_store_5, e_run, tk_eq, e1, e2, e3, e4, r1, r2, r3, r4, mulS p1 (show v1 < 1000000000 by omega), mulS p3 (show v3 < 1000000000 by omega), mulS (p2 x rfl).1 (show x < 1000000000 by have := (p2 x rfl).2; omega), capD, S.enc, S.ds]
/-! PART C -/
theorem course (ds : List Int) (hd : ∀ d ∈ ds, PyM.small d) (sc : Int) (hs : 0 ≤ sc) : ∃ (way : List S) (ds' : List Int), Way way ∧ (∀ d ∈ ds', PyM.small d) ∧ c__law_course [.p (ds.map D.int), .v (.int sc)] = .ok (W false way) [.p (ds'.map D.int), .un] := by
  obtain ⟨k1, d1, a1, b1, hd1, e1⟩ := PyM.take_ok ds 4 (by omega) hd
  obtain ⟨v, p1, q1, r1⟩ : ∃ v : Int, 0 < v ∧ v ≤ 4 ∧ atI [D.int 2, .int 1, .int 3, .int 4] k1 = some (.int v) := by
    have : k1 = 0 ∨ k1 = 1 ∨ k1 = 2 ∨ k1 = 3 := by omega
    rcases this with rfl | rfl | rfl | rfl <;> (refine ⟨_, ?_, ?_, rfl⟩ <;> decide)
  obtain ⟨acc, r', h1, h2⟩ := lc_ind (fun k : Nat => D.int (0 + (k : Int))) (fun as acc r => ∃ ds' ss, (∀ d ∈ ds', PyM.small d) ∧ r = [.p (ds'.map D.int), .v (.int sc), .v (.int v), .un] ∧ acc = ss.map S.enc ∧ (∀ s ∈ ss, s.ok) ∧ ss.length + as.length = v.toNat) (g := gNm 3) (e := q__law_course_0) (vs := [3])
    (fun a as acc r ⟨ds', ss, hds, e, ea, ho, hl⟩ => by
      subst e ea
      obtain ⟨s, ds2, hs1, hs2, hs3⟩ := store ds' hds (0 + (a : Int)) sc hs
      have hs3' : c__law_store [.p (ds'.map D.int), .v (.int (a : Int)), .v (.int sc)] = .ok s.enc [.p (ds2.map D.int), .un, .un] := by rw [← hs3]; simp
      refine ⟨[.p (ds'.map D.int), .v (.int sc), .v (.int v), .v (.int (a : Int))], s.enc, [.p (ds2.map D.int), .v (.int sc), .v (.int v), .v (.int (a : Int))], by simp, by simp [q__law_course_0, hs3'], by simp at hl ⊢; omega, by simp, ds2, ss ++ [s], hs2, by simp, by simp, fun x hx => ?_, by simp at hl ⊢; omega⟩
      rcases List.mem_append.mp hx with hx | hx
      · exact ho x hx
      · rw [List.mem_singleton.mp hx]; exact hs1) (List.range v.toNat) [] [.p (d1.map D.int), .v (.int sc), .v (.int v), .un] ⟨d1, [], hd1, rfl, rfl, fun s hs => (by cases hs), by simp⟩
  obtain ⟨ds', ss, hds, rfl, rfl, ho, hl⟩ := h2
  have h1' : dLcL (gNm 3) dYes q__law_course_0 [3] (intsD 0 v.toNat) [.p (d1.map D.int), .v (.int sc), .v (.int v), .un] [] = .ok (ss.map S.enc) [.p (ds'.map D.int), .v (.int sc), .v (.int v), .un] := by unfold intsD; exact h1
  refine ⟨ss, ds', ⟨ho, fun z => by subst z; simp at hl; omega, by simp at hl; omega⟩, hds, ?_⟩
  have ew : W false ss = .tup (ss.map S.enc) := by
    unfold W eS; simp
  simp [c__law_course, f__law_course, e_run, tk_eq, e1, r1, rg1i (show -1000000000 ≤ v by omega) (show v ≤ 1000000000 by omega), h1', ew]
/-! refused -/
theorem rf (n : Int) : c__law_refused [.v (.exc "BadNumber" "at" (.int n)), .v (.int n)] = .ok (.bl true) [.un, .un] := by
  have a1 : ∀ d, fIs T [.exc "BadNumber" "at" d, .cl "BadNumber"] = some (.bl true) := fun d => by kernel_rfl
  have a2 : ∀ d, fIs T [.exc "BadNumber" "at" d, .cl "KeysError"] = some (.bl true) := fun d => by kernel_rfl
  have a3 : ∀ d, fIs T [.exc "BadNumber" "at" d, .cl "BadStore"] = some (.bl false) := fun d => by kernel_rfl
  have a4 : ∀ d, fIs T [.exc "BadNumber" "at" d, .cl "BadHours"] = some (.bl false) := fun d => by kernel_rfl
  have a5 : (T.lookup ("BadNumber" : Str)).isSome = true := by kernel_rfl
  simp [c__law_refused, f__law_refused, e_run, a1, a2, a3, a4, a5, L1]
theorem rfB : c__law_refused [.v (.exc "BadNumber" "at" (.bl true)), .v (.bl true)] = .ok (.bl true) [.un, .un] := by
  have a1 : ∀ d, fIs T [.exc "BadNumber" "at" d, .cl "BadNumber"] = some (.bl true) := fun d => by kernel_rfl
  have a2 : ∀ d, fIs T [.exc "BadNumber" "at" d, .cl "KeysError"] = some (.bl true) := fun d => by kernel_rfl
  have a3 : ∀ d, fIs T [.exc "BadNumber" "at" d, .cl "BadStore"] = some (.bl false) := fun d => by kernel_rfl
  have a4 : ∀ d, fIs T [.exc "BadNumber" "at" d, .cl "BadHours"] = some (.bl false) := fun d => by kernel_rfl
  have a5 : (T.lookup ("BadNumber" : Str)).isSome = true := by kernel_rfl
  simp [c__law_refused, f__law_refused, e_run, a1, a2, a3, a4, a5, L2']
/-! PART D -/
theorem law_ok (zs : List Int) (h : zs.length ≤ 63) : ∃ o, c_law [.v (.frl (zs.map D.int))] = .ok (.bl true) o := by
  obtain ⟨d0, hd0, _, hdr⟩ := PyM.draws_ok zs h
  obtain ⟨k1, d1, a1, b1, hd1, t1⟩ := PyM.take_ok d0 4 (by omega) hd0
  obtain ⟨sc, hs0, hsc⟩ : ∃ v : Int, 0 ≤ v ∧ atI [D.int 1, .int 1, .int (10 ^ 12), .int (10 ^ 30)] k1 = some (.int v) := by
    have : k1 = 0 ∨ k1 = 1 ∨ k1 = 2 ∨ k1 = 3 := by omega
    rcases this with rfl | rfl | rfl | rfl <;> (refine ⟨_, ?_, rfl⟩ <;> decide)
  simp at hsc
  obtain ⟨way, d2, hw, hd2, c1⟩ := course d1 hd1 sc hs0
  obtain ⟨oth, d3, ho, hd3, c2⟩ := course d2 hd2 sc hs0
  obtain ⟨sm, d4, s1, s2, hd4, t4⟩ := PyM.take_ok d3 20 (by omega) hd3
  have wl := hw.len
  let L : List Int := [0, sm, sm * sc + 1, 10 * sc, 10 ^ 31 + sm]
  have p2 : 0 ≤ sm * sc + 1 := by have := Int.mul_nonneg s1 hs0; omega
  have hL : ∀ x ∈ L, 0 ≤ x := fun x hx => by
    simp [L] at hx
    rcases hx with rfl | rfl | rfl | rfl | rfl <;> first | assumption | omega
  have gl := gr_len way 0 0
  have cl := caps_len way
  have hg2 : ∀ p ∈ gr 0 0 way, p.2 ≤ 1000 := fun p hp => by have := gr_le way 0 0 (by omega) p hp; omega
  have q7 : dLcL (gNm 16) dYes q_law_0 [16] ((gr 0 0 way).map gD) [.v (.frl (zs.map D.int)), .o (d4.map D.int), .v (.int sc), .v (W false way), .v (W false oth), .v (.int sm), .v (.tup (L.map D.int)), .v (.lst ((gr 0 0 way).map gD)), .un, .un, .un, .un, .un, .un, .un, .un, .un, .un] [] = .ok ((caps way).map capD) [.v (.frl (zs.map D.int)), .o (d4.map D.int), .v (.int sc), .v (W false way), .v (W false oth), .v (.int sm), .v (.tup (L.map D.int)), .v (.lst ((gr 0 0 way).map gD)), .un, .un, .un, .un, .un, .un, .un, .un, .un, .un] := by
    rw [lc_pure gD (fun p => capD (capF way p.1 p.2)) (gr 0 0 way) (by omega) fun a ha => ⟨[.v (.frl (zs.map D.int)), .o (d4.map D.int), .v (.int sc), .v (W false way), .v (W false oth), .v (.int sm), .v (.tup (L.map D.int)), .v (.lst ((gr 0 0 way).map gD)), .un, .un, .un, .un, .un, .un, .un, .un, .v (gD a), .un], by simp, by have := gr_le way 0 0 (by omega) a ha; simp [q_law_0, cs way a.1 a.2 (by omega)], by simp, by simp⟩]
    simp [caps]
  have q8 : dLcL (gNm 17) dYes q_law_1 [17] (way.map (eS false)) [.v (.frl (zs.map D.int)), .o (d4.map D.int), .v (.int sc), .v (W false way), .v (W false oth), .v (.int sm), .v (.tup (L.map D.int)), .v (.lst ((gr 0 0 way).map gD)), .v (.tup ((caps way).map capD)), .un, .un, .un, .un, .un, .un, .un, .un, .un] [] = .ok ((way.map fun s => s.slow + s.err).map D.int) [.v (.frl (zs.map D.int)), .o (d4.map D.int), .v (.int sc), .v (W false way), .v (W false oth), .v (.int sm), .v (.tup (L.map D.int)), .v (.lst ((gr 0 0 way).map gD)), .v (.tup ((caps way).map capD)), .un, .un, .un, .un, .un, .un, .un, .un, .un] := by
    rw [lc_pure (eS false) (fun s => .int (s.slow + s.err)) way (by omega) fun a ha => ⟨[.v (.frl (zs.map D.int)), .o (d4.map D.int), .v (.int sc), .v (W false way), .v (W false oth), .v (.int sm), .v (.tup (L.map D.int)), .v (.lst ((gr 0 0 way).map gD)), .v (.tup ((caps way).map capD)), .un, .un, .un, .un, .un, .un, .un, .un, .v a.enc], by simp [eS], by simp [q_law_1, ix0, ix2], by simp, by simp⟩]
    simp
  have bsum : (way.map fun s => s.slow + s.err).sum = base way := rfl
  have iof : ∀ l : List Int, intsOf (l.map D.int) = some l := fun l => by
    induction l with
    | nil => rfl
    | cons x l ih => simp [intsOf, ih]
  have iof' := iof (way.map fun s => s.slow + s.err)
  have q12 : ∀ x1 x2 x3 : Slot, dLcL (gNm 17) dYes q_law_2 [17] (way.map (eS false)) [.v (.frl (zs.map D.int)), .o (d4.map D.int), .v (.int sc), .v (W false way), .v (W false oth), .v (.int sm), .v (.tup (L.map D.int)), .v (.lst ((gr 0 0 way).map gD)), .v (.tup ((caps way).map capD)), .v (.int (base way)), x1, x2, x3, .un, .un, .un, .un, .un] [] = .ok (way.map S.encL) [.v (.frl (zs.map D.int)), .o (d4.map D.int), .v (.int sc), .v (W false way), .v (W false oth), .v (.int sm), .v (.tup (L.map D.int)), .v (.lst ((gr 0 0 way).map gD)), .v (.tup ((caps way).map capD)), .v (.int (base way)), x1, x2, x3, .un, .un, .un, .un, .un] := fun x1 x2 x3 => by
    rw [lc_pure (eS false) S.encL way (by omega) fun a ha => ⟨[.v (.frl (zs.map D.int)), .o (d4.map D.int), .v (.int sc), .v (W false way), .v (W false oth), .v (.int sm), .v (.tup (L.map D.int)), .v (.lst ((gr 0 0 way).map gD)), .v (.tup ((caps way).map capD)), .v (.int (base way)), x1, x2, x3, .un, .un, .un, .un, .v a.enc], by simp [eS], by simp [q_law_2, S.enc, S.encL], by simp, by simp⟩]
  have q14 : ∀ x1 x2 x3 : Slot, dLcL (gNm 17) dYes q_law_3 [17] (way.map (eS true)) [.v (.frl (zs.map D.int)), .o (d4.map D.int), .v (.int sc), .v (W false way), .v (W false oth), .v (.int sm), .v (.tup (L.map D.int)), .v (.lst ((gr 0 0 way).map gD)), .v (.tup ((caps way).map capD)), .v (.int (base way)), x1, x2, x3, .v (W true way), .un, .un, .un, .un] [] = .ok (way.map S.enc) [.v (.frl (zs.map D.int)), .o (d4.map D.int), .v (.int sc), .v (W false way), .v (W false oth), .v (.int sm), .v (.tup (L.map D.int)), .v (.lst ((gr 0 0 way).map gD)), .v (.tup ((caps way).map capD)), .v (.int (base way)), x1, x2, x3, .v (W true way), .un, .un, .un, .un] := fun x1 x2 x3 => by
    rw [lc_pure (eS true) S.enc way (by omega) fun a ha => ⟨[.v (.frl (zs.map D.int)), .o (d4.map D.int), .v (.int sc), .v (W false way), .v (W false oth), .v (.int sm), .v (.tup (L.map D.int)), .v (.lst ((gr 0 0 way).map gD)), .v (.tup ((caps way).map capD)), .v (.int (base way)), x1, x2, x3, .v (W true way), .un, .un, .un, .v a.encL], by simp [eS], by simp [q_law_3, S.enc, S.encL], by simp, by simp⟩]
  have eL : D.lst (way.map S.encL) = W true way := by unfold W eS; simp
  have eW : D.tup (way.map S.enc) = W false way := by unfold W eS; simp
  have hdat : D.dat 60 (W false way) = true := by
    rw [← eW]
    have : ∀ l : List S, D.datL 59 (l.map S.enc) = true := fun l => by
      induction l with
      | nil => rfl
      | cons s l ih =>
        have hk : PyData.strOk (kd s.anew) = true := by cases s.anew <;> kernel_rfl
        cases hc : s.cap <;> simp [D.datL, S.enc, S.ds, D.dat, ih, hk, hc, capD]
    simp [D.dat, this]
  have ex1 : ∀ d, exMatch T (.exc "BadNumber" "at" d) "KeysError" = some true := fun d => by kernel_rfl
  have wB : c_ways_delay [.v (.tup [W false way, W false oth]), .v (.bl true)] = .err (.exc "BadNumber" "at" (.bl true)) [.un, .un] := wsB [way, oth] (fun w hw' => by simp at hw'; rcases hw' with rfl | rfl <;> assumption) (by simp) (by simp)
  have h0 : st_law_0 [.v (.frl (zs.map D.int)), .un, .un, .un, .un, .un, .un, .un, .un, .un, .un, .un, .un, .un, .un, .un, .un, .un] = .nx [.v (.frl (zs.map D.int)), .o (d0.map D.int), .un, .un, .un, .un, .un, .un, .un, .un, .un, .un, .un, .un, .un, .un, .un, .un] := by
    simp [st_law_0, dr_eq, hdr]
  have h1 : st_law_1 [.v (.frl (zs.map D.int)), .o (d0.map D.int), .un, .un, .un, .un, .un, .un, .un, .un, .un, .un, .un, .un, .un, .un, .un, .un] = .nx [.v (.frl (zs.map D.int)), .o (d1.map D.int), .v (.int sc), .un, .un, .un, .un, .un, .un, .un, .un, .un, .un, .un, .un, .un, .un, .un] := by
    simp [st_law_1, tk_eq, t1, hsc, powOk]
  have h2 : st_law_2 [.v (.frl (zs.map D.int)), .o (d1.map D.int), .v (.int sc), .un, .un, .un, .un, .un, .un, .un, .un, .un, .un, .un, .un, .un, .un, .un] = .nx [.v (.frl (zs.map D.int)), .o (d2.map D.int), .v (.int sc), .v (W false way), .un, .un, .un, .un, .un, .un, .un, .un, .un, .un, .un, .un, .un, .un] := by
    simp [st_law_2, c1]
  have h3 : st_law_3 [.v (.frl (zs.map D.int)), .o (d2.map D.int), .v (.int sc), .v (W false way), .un, .un, .un, .un, .un, .un, .un, .un, .un, .un, .un, .un, .un, .un] = .nx [.v (.frl (zs.map D.int)), .o (d3.map D.int), .v (.int sc), .v (W false way), .v (W false oth), .un, .un, .un, .un, .un, .un, .un, .un, .un, .un, .un, .un, .un] := by
    simp [st_law_3, c2]
  have h4 : st_law_4 [.v (.frl (zs.map D.int)), .o (d3.map D.int), .v (.int sc), .v (W false way), .v (W false oth), .un, .un, .un, .un, .un, .un, .un, .un, .un, .un, .un, .un, .un] = .nx [.v (.frl (zs.map D.int)), .o (d4.map D.int), .v (.int sc), .v (W false way), .v (W false oth), .v (.int sm), .un, .un, .un, .un, .un, .un, .un, .un, .un, .un, .un, .un] := by
    simp [st_law_4, tk_eq, t4]
  have h5 : st_law_5 [.v (.frl (zs.map D.int)), .o (d4.map D.int), .v (.int sc), .v (W false way), .v (W false oth), .v (.int sm), .un, .un, .un, .un, .un, .un, .un, .un, .un, .un, .un, .un] = .nx [.v (.frl (zs.map D.int)), .o (d4.map D.int), .v (.int sc), .v (W false way), .v (W false oth), .v (.int sm), .v (.tup (L.map D.int)), .un, .un, .un, .un, .un, .un, .un, .un, .un, .un, .un] := by
    simp [st_law_5, mulS s1 (show sm < 1000000000 by omega), mulS (show (0 : Int) ≤ 10 by omega) (show (10 : Int) < 1000000000 by omega), powOk, L]
  have h6 : st_law_6 [.v (.frl (zs.map D.int)), .o (d4.map D.int), .v (.int sc), .v (W false way), .v (W false oth), .v (.int sm), .v (.tup (L.map D.int)), .un, .un, .un, .un, .un, .un, .un, .un, .un, .un, .un] = .nx [.v (.frl (zs.map D.int)), .o (d4.map D.int), .v (.int sc), .v (W false way), .v (W false oth), .v (.int sm), .v (.tup (L.map D.int)), .o ((gr 0 0 way).map gD), .un, .un, .un, .un, .un, .un, .un, .un, .un, .un] := by
    simp [st_law_6, lg way (by omega)]
  have h7 : st_law_7 [.v (.frl (zs.map D.int)), .o (d4.map D.int), .v (.int sc), .v (W false way), .v (W false oth), .v (.int sm), .v (.tup (L.map D.int)), .o ((gr 0 0 way).map gD), .un, .un, .un, .un, .un, .un, .un, .un, .un, .un] = .nx [.v (.frl (zs.map D.int)), .o (d4.map D.int), .v (.int sc), .v (W false way), .v (W false oth), .v (.int sm), .v (.tup (L.map D.int)), .v (.lst ((gr 0 0 way).map gD)), .v (.tup ((caps way).map capD)), .un, .un, .un, .un, .un, .un, .un, .un, .un] := by
    simp [st_law_7, q7]
  have h8 : st_law_8 [.v (.frl (zs.map D.int)), .o (d4.map D.int), .v (.int sc), .v (W false way), .v (W false oth), .v (.int sm), .v (.tup (L.map D.int)), .v (.lst ((gr 0 0 way).map gD)), .v (.tup ((caps way).map capD)), .un, .un, .un, .un, .un, .un, .un, .un, .un] = .nx [.v (.frl (zs.map D.int)), .o (d4.map D.int), .v (.int sc), .v (W false way), .v (W false oth), .v (.int sm), .v (.tup (L.map D.int)), .v (.lst ((gr 0 0 way).map gD)), .v (.tup ((caps way).map capD)), .v (.int (base way)), .un, .un, .un, .un, .un, .un, .un, .un] := by
    simp [st_law_8, its_W, q8, fSum, iof', bsum, -List.map_map]
  have h9 : st_law_9 [.v (.frl (zs.map D.int)), .o (d4.map D.int), .v (.int sc), .v (W false way), .v (W false oth), .v (.int sm), .v (.tup (L.map D.int)), .v (.lst ((gr 0 0 way).map gD)), .v (.tup ((caps way).map capD)), .v (.int (base way)), .un, .un, .un, .un, .un, .un, .un, .un] = .nx [.v (.frl (zs.map D.int)), .o (d4.map D.int), .v (.int sc), .v (W false way), .v (W false oth), .v (.int sm), .v (.tup (L.map D.int)), .v (.lst ((gr 0 0 way).map gD)), .v (.tup ((caps way).map capD)), .v (.int (base way)), .un, .un, .un, .un, .un, .un, .un, .un] := by
    simp [st_law_9, go false way hw, gcp way hw, rows _ (show (gr 0 0 way).length ≤ 1000 by omega) hg2, row (caps way) (by omega)]
  have h10 : st_law_10 [.v (.frl (zs.map D.int)), .o (d4.map D.int), .v (.int sc), .v (W false way), .v (W false oth), .v (.int sm), .v (.tup (L.map D.int)), .v (.lst ((gr 0 0 way).map gD)), .v (.tup ((caps way).map capD)), .v (.int (base way)), .un, .un, .un, .un, .un, .un, .un, .un] = .nx [.v (.frl (zs.map D.int)), .o (d4.map D.int), .v (.int sc), .v (W false way), .v (W false oth), .v (.int sm), .v (.tup (L.map D.int)), .v (.lst ((gr 0 0 way).map gD)), .v (.tup ((caps way).map capD)), .v (.int (base way)), .un, .un, .un, .un, .un, .un, .un, .un] := by
    simp [st_law_10, bh way hw, num]
  obtain ⟨r11, l1, l2⟩ := forL_ind D.int (fun as r => (∀ x ∈ as, 0 ≤ x) ∧ ∃ t1 t2 t3, r = [.v (.frl (zs.map D.int)), .o (d4.map D.int), .v (.int sc), .v (W false way), .v (W false oth), .v (.int sm), .v (.tup (L.map D.int)), .v (.lst ((gr 0 0 way).map gD)), .v (.tup ((caps way).map capD)), .v (.int (base way)), t1, t2, t3, .un, .un, .un, .un, .un] ∧ t1.np = true ∧ t2.np = true ∧ t3.np = true) (g := gNm 10) (b := l_law_0)
    (fun a as r ⟨hp, t1, t2, t3, e, n1, n2, n3⟩ => by
      subst e
      have ha := hp a List.mem_cons_self
      refine ⟨[.v (.frl (zs.map D.int)), .o (d4.map D.int), .v (.int sc), .v (W false way), .v (W false oth), .v (.int sm), .v (.tup (L.map D.int)), .v (.lst ((gr 0 0 way).map gD)), .v (.tup ((caps way).map capD)), .v (.int (base way)), .v (.int a), t2, t3, .un, .un, .un, .un, .un], [.v (.frl (zs.map D.int)), .o (d4.map D.int), .v (.int sc), .v (W false way), .v (W false oth), .v (.int sm), .v (.tup (L.map D.int)), .v (.lst ((gr 0 0 way).map gD)), .v (.tup ((caps way).map capD)), .v (.int (base way)), .v (.int a), .v (.int (delay way a)), .v (.int (delay oth a)), .un, .un, .un, .un, .un], by simp [n1], .inl ?_, fun x hx => hp x (List.mem_cons_of_mem _ hx), _, _, _, rfl, rfl, rfl, rfl⟩
      have w2 : c_ways_delay [.v (.tup [W false way, W false oth]), .v (.int a)] = .ok (.int (most a [way, oth])) [.un, .un] := wsd [way, oth] (fun w hw' => by simp at hw'; rcases hw' with rfl | rfl <;> assumption) (by simp) (by simp) a ha
      have w1 : c_ways_delay [.v (.tup [W false oth]), .v (.int a)] = .ok (.int (most a [oth])) [.un, .un] := wsd [oth] (fun w hw' => by simp at hw'; subst hw'; assumption) (by simp) (by simp) a ha
      have nn1 := delay_nn way hw.ok a ha
      have nn2 := delay_nn oth ho.ok a ha
      have m2 : most a [way, oth] = if delay oth a > delay way a then delay oth a else delay way a := by
        simp only [most, List.foldl]
        by_cases z : delay way a > 0
        · simp [z]
        · have : delay way a = 0 := by omega
          simp [this]
      have m1 : most a [oth] = delay oth a := by
        simp only [most, List.foldl]
        split <;> omega
      rw [m2] at w2
      rw [m1] at w1
      simp [l_law_0, lgr, greedy_delay ha way hw.ok, greedy_delay ha oth ho.ok, wd false way hw a ha, wd false oth ho a ha, num, w1, w2, n2, n3]) L [.v (.frl (zs.map D.int)), .o (d4.map D.int), .v (.int sc), .v (W false way), .v (W false oth), .v (.int sm), .v (.tup (L.map D.int)), .v (.lst ((gr 0 0 way).map gD)), .v (.tup ((caps way).map capD)), .v (.int (base way)), .un, .un, .un, .un, .un, .un, .un, .un] ⟨hL, _, _, _, rfl, rfl, rfl, rfl⟩
  obtain ⟨_, x1, x2, x3, rfl, n1, n2, n3⟩ := l2
  have h11 : st_law_11 [.v (.frl (zs.map D.int)), .o (d4.map D.int), .v (.int sc), .v (W false way), .v (W false oth), .v (.int sm), .v (.tup (L.map D.int)), .v (.lst ((gr 0 0 way).map gD)), .v (.tup ((caps way).map capD)), .v (.int (base way)), .un, .un, .un, .un, .un, .un, .un, .un] = .nx [.v (.frl (zs.map D.int)), .o (d4.map D.int), .v (.int sc), .v (W false way), .v (W false oth), .v (.int sm), .v (.tup (L.map D.int)), .v (.lst ((gr 0 0 way).map gD)), .v (.tup ((caps way).map capD)), .v (.int (base way)), x1, x2, x3, .un, .un, .un, .un, .un] := by
    simp [st_law_11, l1]
  have h12 : st_law_12 [.v (.frl (zs.map D.int)), .o (d4.map D.int), .v (.int sc), .v (W false way), .v (W false oth), .v (.int sm), .v (.tup (L.map D.int)), .v (.lst ((gr 0 0 way).map gD)), .v (.tup ((caps way).map capD)), .v (.int (base way)), x1, x2, x3, .un, .un, .un, .un, .un] = .nx [.v (.frl (zs.map D.int)), .o (d4.map D.int), .v (.int sc), .v (W false way), .v (W false oth), .v (.int sm), .v (.tup (L.map D.int)), .v (.lst ((gr 0 0 way).map gD)), .v (.tup ((caps way).map capD)), .v (.int (base way)), x1, x2, x3, .o (way.map S.encL), .un, .un, .un, .un] := by
    simp [st_law_12, its_W, q12 x1 x2 x3]
  have h13 : st_law_13 [.v (.frl (zs.map D.int)), .o (d4.map D.int), .v (.int sc), .v (W false way), .v (W false oth), .v (.int sm), .v (.tup (L.map D.int)), .v (.lst ((gr 0 0 way).map gD)), .v (.tup ((caps way).map capD)), .v (.int (base way)), x1, x2, x3, .o (way.map S.encL), .un, .un, .un, .un] = .nx [.v (.frl (zs.map D.int)), .o (d4.map D.int), .v (.int sc), .v (W false way), .v (W false oth), .v (.int sm), .v (.tup (L.map D.int)), .v (.lst ((gr 0 0 way).map gD)), .v (.tup ((caps way).map capD)), .v (.int (base way)), x1, x2, x3, .v (W true way), .un, .un, .un, .un] := by
    simp [st_law_13, eL, go true way hw, rows _ (show (gr 0 0 way).length ≤ 1000 by omega) hg2, wd true way hw _ p2, lgr, greedy_delay p2 way hw.ok, num, L]
  have h14 : st_law_14 [.v (.frl (zs.map D.int)), .o (d4.map D.int), .v (.int sc), .v (W false way), .v (W false oth), .v (.int sm), .v (.tup (L.map D.int)), .v (.lst ((gr 0 0 way).map gD)), .v (.tup ((caps way).map capD)), .v (.int (base way)), x1, x2, x3, .v (W true way), .un, .un, .un, .un] = .nx [.v (.frl (zs.map D.int)), .o (d4.map D.int), .v (.int sc), .v (W false way), .v (W false oth), .v (.int sm), .v (.tup (L.map D.int)), .v (.lst ((gr 0 0 way).map gD)), .v (.tup ((caps way).map capD)), .v (.int (base way)), x1, x2, x3, .v (W true way), .un, .un, .un, .un] := by
    simp [st_law_14, its_W, q14 x1 x2 x3, eW, ne_self hdat]
  have h15 : st_law_15 [.v (.frl (zs.map D.int)), .o (d4.map D.int), .v (.int sc), .v (W false way), .v (W false oth), .v (.int sm), .v (.tup (L.map D.int)), .v (.lst ((gr 0 0 way).map gD)), .v (.tup ((caps way).map capD)), .v (.int (base way)), x1, x2, x3, .v (W true way), .un, .un, .un, .un] = .nx [.v (.frl (zs.map D.int)), .o (d4.map D.int), .v (.int sc), .v (W false way), .v (W false oth), .v (.int sm), .v (.tup (L.map D.int)), .v (.lst ((gr 0 0 way).map gD)), .v (.tup ((caps way).map capD)), .v (.int (base way)), x1, x2, x3, .v (W true way), .v .non, .un, .un, .un] := by
    simp [st_law_15]
  have h16 : st_law_16 [.v (.frl (zs.map D.int)), .o (d4.map D.int), .v (.int sc), .v (W false way), .v (W false oth), .v (.int sm), .v (.tup (L.map D.int)), .v (.lst ((gr 0 0 way).map gD)), .v (.tup ((caps way).map capD)), .v (.int (base way)), x1, x2, x3, .v (W true way), .v .non, .un, .un, .un] = .nx [.v (.frl (zs.map D.int)), .o (d4.map D.int), .v (.int sc), .v (W false way), .v (W false oth), .v (.int sm), .v (.tup (L.map D.int)), .v (.lst ((gr 0 0 way).map gD)), .v (.tup ((caps way).map capD)), .v (.int (base way)), x1, x2, x3, .v (W true way), .v (.exc "BadNumber" "at" (.int (-1 - sm))), .un, .un, .un] := by
    simp [st_law_16, wdX way hw _ (show -1 - sm < 0 by omega), ex1]
  have h17 : st_law_17 [.v (.frl (zs.map D.int)), .o (d4.map D.int), .v (.int sc), .v (W false way), .v (W false oth), .v (.int sm), .v (.tup (L.map D.int)), .v (.lst ((gr 0 0 way).map gD)), .v (.tup ((caps way).map capD)), .v (.int (base way)), x1, x2, x3, .v (W true way), .v (.exc "BadNumber" "at" (.int (-1 - sm))), .un, .un, .un] = .nx [.v (.frl (zs.map D.int)), .o (d4.map D.int), .v (.int sc), .v (W false way), .v (W false oth), .v (.int sm), .v (.tup (L.map D.int)), .v (.lst ((gr 0 0 way).map gD)), .v (.tup ((caps way).map capD)), .v (.int (base way)), x1, x2, x3, .v (W true way), .v (.exc "BadNumber" "at" (.int (-1 - sm))), .un, .un, .un] := by
    simp [st_law_17, rf]
  have h18 : st_law_18 [.v (.frl (zs.map D.int)), .o (d4.map D.int), .v (.int sc), .v (W false way), .v (W false oth), .v (.int sm), .v (.tup (L.map D.int)), .v (.lst ((gr 0 0 way).map gD)), .v (.tup ((caps way).map capD)), .v (.int (base way)), x1, x2, x3, .v (W true way), .v (.exc "BadNumber" "at" (.int (-1 - sm))), .un, .un, .un] = .nx [.v (.frl (zs.map D.int)), .o (d4.map D.int), .v (.int sc), .v (W false way), .v (W false oth), .v (.int sm), .v (.tup (L.map D.int)), .v (.lst ((gr 0 0 way).map gD)), .v (.tup ((caps way).map capD)), .v (.int (base way)), x1, x2, x3, .v (W true way), .v .non, .un, .un, .un] := by
    simp [st_law_18]
  have h19 : st_law_19 [.v (.frl (zs.map D.int)), .o (d4.map D.int), .v (.int sc), .v (W false way), .v (W false oth), .v (.int sm), .v (.tup (L.map D.int)), .v (.lst ((gr 0 0 way).map gD)), .v (.tup ((caps way).map capD)), .v (.int (base way)), x1, x2, x3, .v (W true way), .v .non, .un, .un, .un] = .nx [.v (.frl (zs.map D.int)), .o (d4.map D.int), .v (.int sc), .v (W false way), .v (W false oth), .v (.int sm), .v (.tup (L.map D.int)), .v (.lst ((gr 0 0 way).map gD)), .v (.tup ((caps way).map capD)), .v (.int (base way)), x1, x2, x3, .v (W true way), .v (.exc "BadNumber" "at" (.bl true)), .un, .un, .un] := by
    simp [st_law_19, wB, ex1]
  have h20 : st_law_20 [.v (.frl (zs.map D.int)), .o (d4.map D.int), .v (.int sc), .v (W false way), .v (W false oth), .v (.int sm), .v (.tup (L.map D.int)), .v (.lst ((gr 0 0 way).map gD)), .v (.tup ((caps way).map capD)), .v (.int (base way)), x1, x2, x3, .v (W true way), .v (.exc "BadNumber" "at" (.bl true)), .un, .un, .un] = .rt (.bl true) [.v (.frl (zs.map D.int)), .o (d4.map D.int), .v (.int sc), .v (W false way), .v (W false oth), .v (.int sm), .v (.tup (L.map D.int)), .v (.lst ((gr 0 0 way).map gD)), .v (.tup ((caps way).map capD)), .v (.int (base way)), x1, x2, x3, .v (W true way), .v (.exc "BadNumber" "at" (.bl true)), .un, .un, .un] := by simp [st_law_20, rfB]
  have hf : f_law [.v (.frl (zs.map D.int)), .un, .un, .un, .un, .un, .un, .un, .un, .un, .un, .un, .un, .un, .un, .un, .un, .un] = .rt (.bl true) [.v (.frl (zs.map D.int)), .o (d4.map D.int), .v (.int sc), .v (W false way), .v (W false oth), .v (.int sm), .v (.tup (L.map D.int)), .v (.lst ((gr 0 0 way).map gD)), .v (.tup ((caps way).map capD)), .v (.int (base way)), x1, x2, x3, .v (W true way), .v (.exc "BadNumber" "at" (.bl true)), .un, .un, .un] := by
    rw [f_law, dSeq_nx h0, dSeq_nx h1, dSeq_nx h2, dSeq_nx h3, dSeq_nx h4, dSeq_nx h5, dSeq_nx h6, dSeq_nx h7, dSeq_nx h8, dSeq_nx h9, dSeq_nx h10, dSeq_nx h11, dSeq_nx h12, dSeq_nx h13, dSeq_nx h14, dSeq_nx h15, dSeq_nx h16, dSeq_nx h17, dSeq_nx h18, dSeq_nx h19, h20]
  exact ⟨_, by simp [c_law, e_run, hf]; rfl⟩
end K05
end

section
set_option maxHeartbeats 0
namespace K05
open Py PySem PySem.Spec PyProof.Rows L2
abbrev R : PySem.W.OpenRow := PySem.W.OpenLaw.row PySem.Challenge.rw_keysoverlap_k05_delays_by_groups
def loose0 : List Str := ["KeysError", "BadNumber", "BadHours", "BadStore", "is_int", "plain_form", "check_number", "wrong_store_part", "wrong_way_place", "plain_way", "check_way", "check_ways", "plain_groups", "plain_caps", "plain_base", "life_shares", "plain_delay", "plain_ways_delay", "groups_of", "group_caps", "base_hours", "way_delay", "ways_delay", "_law_draws", "_law_take", "_law_is_int", "_law_store", "_law_course", "_law_groups", "_law_cap_sum"]
def loose1 : List Str := ["_law_greedy", "_law_row", "_law_rows", "_law_number", "_law_refused"]
def loose : List Str := loose0 ++ loose1
abbrev hk : PySem.W.Hook := tp.hook 5
def ob (s : PySem.W.SharedT) : Py.Top.Al := tp.obsG 5 (HandSHeadRun.getT s)
theorem ob_eq (s : PySem.W.SharedT) : ob s = hk.obs s.abs := Top.obsG_eq (HandSHeadRun.getT_eq s)
theorem run (w : World) : HandSHeadRun.RunEq R (PySem.W.view R.prog [39]) hk ob 6000 loose w := by
  intro os
  kernel_rfl
end K05
open PySem PySem.W PySem.Calls PyProof.Rows
theorem K05.head (hm : ∀ ns : List Int, ns.length ≤ 63 → ∃ o, K05.c_law [.v (.frl (ns.map Py.D.int))] = .ok (.bl true) o) : PySem.Challenge.rw_keysoverlap_k05_delays_by_groups.Holds := by
  w_on; o_law
  refine HandSHeadRun.head_any (r := OpenLaw.row PySem.Challenge.rw_keysoverlap_k05_delays_by_groups) (q := view (OpenLaw.row PySem.Challenge.rw_keysoverlap_k05_delays_by_groups).prog [39]) (H := K05.hk) (ob := K05.ob) (M := 6000) (loose := K05.loose) (d := HandSHeadRun.topDef (OpenLaw.row PySem.Challenge.rw_keysoverlap_k05_delays_by_groups).prog 39) (kwd := []) K05.ob_eq
    (by kernel_rfl) (fun s => by kernel_rfl) K05.run (by kernel_rfl) (by kernel_rfl) (by kernel_rfl) (by rfl) (by first | assumption | decide +kernel) (by decide +kernel) ⟨rfl, rfl, rfl, rfl, rfl, by decide +kernel⟩ ?hw ?hc
  case hw => w_witness2
  case hc =>
    refine LamX.walk_ofTsE (l := PySem.Challenge.rw_keysoverlap_k05_delays_by_groups) (n := 63) (k := 7) (x := "script") (CX := fun w => L2.CX (PySem.Challenge.rw_keysoverlap_k05_delays_by_groups).prog w) rfl (by decide) (by kernel_rfl) ⟨rfl, by decide, by decide⟩ ?F (fun _ _ _ _ _ z => by obtain ⟨_, _, _, _, _, _, _, _, _, _, _, _, z⟩ := z; exact z.elim)
    intro w mg fa h Y G hmg0
    obtain ⟨K, KX, c⟩ := Y
    have hmg : mg ("law" : PySem.Str) = some (.ref fa) := by
      have e : (HandSHeadRun.topDef (OpenLaw.row PySem.Challenge.rw_keysoverlap_k05_delays_by_groups).prog 39).name = ("law" : PySem.Str) := by kernel_rfl
      rw [← e]
      exact hmg0
    have e : Py.Env1 K05.tp K mg := ⟨c, h, KX, G⟩
    obtain ⟨fd, Fu⟩ := e.says.d.def_ 31 rfl
    refine ⟨K, KX, fd, [], Py.spF ⟨K, mg⟩ 1 K05.c_law, fun _ h => (nomatch h), fun _ h => (nomatch h), fun _ h => (nomatch h), ?_, fun H a ns hl _ _ hS => Py.law_sp hS (hm ns hl), fun base _ _ _ => ?_⟩
    · intro s u
      exact L2.FunD.bindsA (ps := ["script"]) Fu (fun _ _ _ _ _ _ us hl => match us, hl with | [_], _ => rfl) s [u] rfl
    · have ef := hmg.symm.trans (He.glo_ok KX G (e.says.d.fact 31 (f := .glo "law") rfl))
      cases ef
      exact K05.w_all e Fu
end
theorem PySem.Challenge.cw_keysoverlap_k05_delays_by_groups_holds : PySem.Challenge.rw_keysoverlap_k05_delays_by_groups.Holds :=
  K05.head K05.law_ok
