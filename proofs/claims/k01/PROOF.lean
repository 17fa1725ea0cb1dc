import PyProof.Rows.All
import Wide.All
import OpenK.AllK
import Wide.FinOn
import HandS.ForMost
import HandS.ForExc
import HandS.TupAny
import HandS.Wide
import HandS.Style
import HandS.WideBits
import HandS.IsInst
import HandS.Replace
import HandS.More
import HandS.Zip
import HandS.Codes
import HandS.Text
import PySem.Challenge.RW_sumgrove_k01_names_and_bits
set_option Elab.async false
set_option linter.all false
set_option maxRecDepth 100000
set_option maxHeartbeats 4000000
set_option maxHeartbeats 2000000
noncomputable section
namespace DS
open PySem L2

/-- a test that no machine reckons: the kernel never looks into it -/
def cd (p : Prop) : Bool := @decide p (Classical.propDecidable p)
theorem cd_iff {p : Prop} : cd p = true ↔ p := by unfold cd; exact @decide_eq_true_iff p (Classical.propDecidable p)
@[simp] theorem cd_eq {p : Prop} : (cd p = true) = p := propext cd_iff
theorem cd_pos {p : Prop} (h : p) : cd p = true := cd_iff.mpr h
theorem cd_neg {p : Prop} (h : ¬ p) : cd p = false := by
  cases e : cd p with
  | true => exact absurd (cd_iff.mp e) h
  | false => rfl
@[simp] theorem cd_eqf {p : Prop} : (cd p = false) = ¬ p := propext ⟨fun e h => (by rw [cd_pos h] at e; cases e), cd_neg⟩
@[simp] theorem cd_true : cd True = true := cd_pos trivial
@[simp] theorem cd_false : cd False = false := cd_neg fun h => h
theorem cd_of {p : Prop} [Decidable p] : decide p = cd p := by
  by_cases h : p
  · rw [decide_eq_true h, cd_pos h]
  · rw [decide_eq_false h, cd_neg h]
/-- data, without a heap -/
inductive D where
  | non | bl (b : Bool) | int (i : Int) | str (s : Str)
  | tup (l : List D) | lst (l : List D)
  | dct (l : List (Key × D))
  | ins (c : Nat) (fs : List (Str × D))
  | scr (ns : List Int)

/-- what an expression comes to -/
inductive R (α : Type) where
  | ok (a : α) | exc (c : Nat) (fs : List (Str × D)) | stuck

def R.bind {α β : Type} (x : R α) (f : α → R β) : R β := match x with
  | .ok a => f a
  | .exc c fs => .exc c fs
  | .stuck => .stuck
instance : Monad R where
  pure := R.ok
  bind := R.bind
@[simp] theorem R.ok_bind {α β : Type} (a : α) (f : α → R β) : (R.ok a >>= f) = f a := rfl
@[simp] theorem R.bind_ok {α β : Type} (a : α) (f : α → R β) : (R.ok a).bind f = f a := rfl
@[simp] theorem R.pure_eq {α : Type} (a : α) : (pure a : R α) = R.ok a := rfl

section
variable (K : PySem.W.Frag) (C : Nat → Addr)
mutual
/-- the value v stands for the data in the heap H -/
def Rep (H : Hp) : D → V → Prop
  | .non, v => v = .non
  | .bl b, v => v = .bl b
  | .int i, v => v = .int i
  | .str s, v => v = .str s
  | .tup l, v => ∃ a xs, v = .ref a ∧ SqT K H a xs ∧ RepL H l xs
  | .lst l, v => ∃ a xs, v = .ref a ∧ H a = some (.lst xs) ∧ RepL H l xs
  | .scr ns, v => ∃ a, v = .ref a ∧ SqL K H a (ns.map V.int)
  | .dct l, v => ∃ a kvs, v = .ref a ∧ H a = some (.dK kvs) ∧ RepK H l kvs
  | .ins c fs, v => ∃ a dx gs, v = .ref a ∧ H a = some (.ins (C c) dx gs) ∧ RepF H fs gs
def RepL (H : Hp) : List D → List V → Prop
  | [], xs => xs = []
  | d :: ds, xs => ∃ x r, xs = x :: r ∧ Rep H d x ∧ RepL H ds r
def RepK (H : Hp) : List (Key × D) → List (Key × V) → Prop
  | [], xs => xs = []
  | (k, d) :: ds, xs => ∃ x r, xs = (k, x) :: r ∧ Rep H d x ∧ RepK H ds r
def RepF (H : Hp) : List (Str × D) → List (Str × V) → Prop
  | [], xs => xs = []
  | (k, d) :: ds, xs => ∃ x r, xs = (k, x) :: r ∧ Rep H d x ∧ RepF H ds r
end
end

theorem same_seqT {K : PySem.W.Frag} {H H' : Hp} {a : Addr} {xs : List V} (e : Same H H') (h : SqT K H a xs) : SqT K H' a xs := by
  rcases h with (h | ⟨o, h⟩) | h
  · exact .inl (.inl (e _ _ h))
  · exact .inl (.inr ⟨o, e _ _ h⟩)
  · exact .inr h

section
variable {K : PySem.W.Frag} {C : Nat → Addr} {H H' : Hp}
mutual
theorem Rep.mono (e : Same H H') : ∀ (d : D) (v : V), Rep K C H d v → Rep K C H' d v
  | .non, v, h => h
  | .bl b, v, h => h
  | .int i, v, h => h
  | .str s, v, h => h
  | .tup l, v, h => by
    obtain ⟨a, xs, rfl, h1, h2⟩ := h
    exact ⟨a, xs, rfl, same_seqT e h1, RepL.mono e l xs h2⟩
  | .lst l, v, h => by
    obtain ⟨a, xs, rfl, h1, h2⟩ := h
    exact ⟨a, xs, rfl, e _ _ h1, RepL.mono e l xs h2⟩
  | .scr ns, v, h => by
    obtain ⟨a, rfl, h1⟩ := h
    exact ⟨a, rfl, e.seq h1⟩
  | .dct l, v, h => by
    obtain ⟨a, xs, rfl, h1, h2⟩ := h
    exact ⟨a, xs, rfl, e _ _ h1, RepK.mono e l xs h2⟩
  | .ins c fs, v, h => by
    obtain ⟨a, dx, gs, rfl, h1, h2⟩ := h
    exact ⟨a, dx, gs, rfl, e _ _ h1, RepF.mono e fs gs h2⟩
theorem RepL.mono (e : Same H H') : ∀ (ds : List D) (xs : List V), RepL K C H ds xs → RepL K C H' ds xs
  | [], xs, h => h
  | d :: ds, xs, h => by
    obtain ⟨x, r, rfl, h1, h2⟩ := h
    exact ⟨x, r, rfl, Rep.mono e d x h1, RepL.mono e ds r h2⟩
theorem RepK.mono (e : Same H H') : ∀ (ds : List (Key × D)) (xs : List (Key × V)), RepK K C H ds xs → RepK K C H' ds xs
  | [], xs, h => h
  | (k, d) :: ds, xs, h => by
    obtain ⟨x, r, rfl, h1, h2⟩ := h
    exact ⟨x, r, rfl, Rep.mono e d x h1, RepK.mono e ds r h2⟩
theorem RepF.mono (e : Same H H') : ∀ (ds : List (Str × D)) (xs : List (Str × V)), RepF K C H ds xs → RepF K C H' ds xs
  | [], xs, h => h
  | (k, d) :: ds, xs, h => by
    obtain ⟨x, r, rfl, h1, h2⟩ := h
    exact ⟨x, r, rfl, Rep.mono e d x h1, RepF.mono e ds r h2⟩
end

theorem RepL.length : ∀ {ds : List D} {xs : List V}, RepL K C H ds xs → xs.length = ds.length
  | [], xs, h => by have h : xs = [] := h; subst h; rfl
  | d :: ds, xs, h => by
    obtain ⟨x, r, rfl, _, h2⟩ := h
    simp [RepL.length h2]
theorem RepL.append : ∀ {ds es : List D} {xs ys : List V}, RepL K C H ds xs → RepL K C H es ys → RepL K C H (ds ++ es) (xs ++ ys)
  | [], es, xs, ys, h, h' => by have h : xs = [] := h; subst h; exact h'
  | d :: ds, es, xs, ys, h, h' => by
    obtain ⟨x, r, rfl, h1, h2⟩ := h
    exact ⟨x, r ++ ys, rfl, h1, RepL.append h2 h'⟩
theorem RepL.one {d : D} {v : V} (h : Rep K C H d v) : RepL K C H [d] [v] := ⟨v, [], rfl, h, rfl⟩
theorem RepL.get : ∀ {ds : List D} {xs : List V} {i : Nat} {x : V}, RepL K C H ds xs → xs[i]? = some x → ∃ d, ds[i]? = some d ∧ Rep K C H d x
  | [], xs, i, x, h, e => by have h : xs = [] := h; subst h; simp at e
  | d :: ds, xs, i, x, h, e => by
    obtain ⟨y, r, rfl, h1, h2⟩ := h
    cases i with
    | zero => simp at e; subst e; exact ⟨d, rfl, h1⟩
    | succ i => exact (RepL.get (i := i) h2 (by simpa using e)).elim fun d' q => ⟨d', by simpa using q.1, q.2⟩
theorem RepL.get' : ∀ {ds : List D} {xs : List V} {i : Nat} {d : D}, RepL K C H ds xs → ds[i]? = some d → ∃ x, xs[i]? = some x ∧ Rep K C H d x
  | [], xs, i, x, h, e => by simp at e
  | d :: ds, xs, i, x, h, e => by
    obtain ⟨y, r, rfl, h1, h2⟩ := h
    cases i with
    | zero => simp at e; subst e; exact ⟨y, rfl, h1⟩
    | succ i => exact (RepL.get' (i := i) h2 (by simpa using e)).elim fun d' q => ⟨d', by simpa using q.1, q.2⟩
theorem RepL.drop : ∀ (n : Nat) {ds : List D} {xs : List V}, RepL K C H ds xs → RepL K C H (ds.drop n) (xs.drop n)
  | 0, ds, xs, h => h
  | n + 1, [], xs, h => by have h : xs = [] := h; subst h; exact rfl
  | n + 1, d :: ds, xs, h => by
    obtain ⟨y, r, rfl, h1, h2⟩ := h
    exact RepL.drop n h2
theorem RepL.take : ∀ (n : Nat) {ds : List D} {xs : List V}, RepL K C H ds xs → RepL K C H (ds.take n) (xs.take n)
  | 0, ds, xs, h => rfl
  | n + 1, [], xs, h => by have h : xs = [] := h; subst h; exact rfl
  | n + 1, d :: ds, xs, h => by
    obtain ⟨y, r, rfl, h1, h2⟩ := h
    exact ⟨y, r.take n, rfl, h1, RepL.take n h2⟩
theorem RepL.ints {H : Hp} : ∀ {ns : List Int} {xs : List V}, RepL K C H (ns.map D.int) xs ↔ xs = ns.map V.int
  | [], xs => Iff.rfl
  | n :: ns, xs => by
    constructor
    · rintro ⟨x, r, rfl, h1, h2⟩
      have h1 : x = .int n := h1
      rw [h1, RepL.ints.mp h2]
      rfl
    · rintro rfl
      exact ⟨_, _, rfl, rfl, RepL.ints.mpr rfl⟩
end

/-- a slot of the frame: no value yet, data that nobody changes, data that this frame alone holds -/
inductive Sl where
  | no | fro (d : D) | own (d : D)

/-- what this frame alone holds, at a -/
def OwnAt (K : PySem.W.Frag) (C : Nat → Addr) (Hf H : Hp) (a : Addr) : D → Prop
  | .lst ds => ∃ xs, H a = some (.lst xs) ∧ RepL K C Hf ds xs
  | .dct ds => ∃ kvs, H a = some (.dK kvs) ∧ RepK K C Hf ds kvs
  | .ins c fs => ∃ dx gs, H a = some (.ins (C c) dx gs) ∧ RepF K C Hf fs gs
  | _ => False

structure Gr (H0 F0 Hf H : Hp) : Prop where
  g0 : Same H0 H
  f0 : Same F0 Hf
  le : Same Hf H
  sep : ∀ a o, H0 a = some o → F0 a = none → Hf a = none

/-- the frame's slots as data; H0, F0: the heap and its part that does not change, at the def's entry -/
structure SS (K : PySem.W.Frag) (C : Nat → Addr) (H0 F0 : Hp) (ρ : List Sl) (Hf : Hp) (σ : L2.St) (H : Hp) : Prop where
  gr : Gr H0 F0 Hf H
  len : σ.length = ρ.length
  fro : ∀ (i : Nat) (d : D), ρ[i]? = some (.fro d) → ∃ v, σ[i]? = some (some v) ∧ Rep K C Hf d v
  own : ∀ (i : Nat) (d : D), ρ[i]? = some (.own d) → ∃ a, σ[i]? = some (some (.ref a)) ∧ Hf a = none ∧ H0 a = none ∧ OwnAt K C Hf H a d
  apart : ∀ (i j : Nat) (d e : D) (a : Addr), ρ[i]? = some (.own d) → ρ[j]? = some (.own e) → σ[i]? = some (some (.ref a)) → σ[j]? = some (some (.ref a)) → i = j

/-- from (Hf, H) on nothing that stood was changed; the part that does not change grows by new things alone -/
structure Go (Hf H Hf' H' : Hp) : Prop where
  h : Same H H'
  f : Same Hf Hf'
  n : ∀ a o, H a = some o → Hf a = none → Hf' a = none
theorem Go.refl (Hf H : Hp) : Go Hf H Hf H := ⟨.refl _, .refl _, fun _ _ _ e => e⟩
theorem Go.trans {F1 H1 F2 H2 F3 H3 : Hp} (a : Go F1 H1 F2 H2) (b : Go F2 H2 F3 H3) : Go F1 H1 F3 H3 := ⟨a.h.trans b.h, a.f.trans b.f, fun p o e1 e2 => b.n p o (a.h _ _ e1) (a.n p o e1 e2)⟩

section
variable {K : PySem.W.Frag} {C : Nat → Addr} {H0 F0 Hf H Hf' H' : Hp} {ρ : List Sl} {σ : L2.St}
theorem OwnAt.mono' {a : Addr} (gh : Same H H') (gf : Same Hf Hf') : ∀ {d : D}, OwnAt K C Hf H a d → OwnAt K C Hf' H' a d
  | .lst ds, ⟨xs, h1, h2⟩ => ⟨xs, gh _ _ h1, RepL.mono gf _ _ h2⟩
  | .dct ds, ⟨xs, h1, h2⟩ => ⟨xs, gh _ _ h1, RepK.mono gf _ _ h2⟩
  | .ins c fs, ⟨dx, gs, h1, h2⟩ => ⟨dx, gs, gh _ _ h1, RepF.mono gf _ _ h2⟩
theorem OwnAt.mono {a : Addr} (g : Go Hf H Hf' H') {d : D} (h : OwnAt K C Hf H a d) : OwnAt K C Hf' H' a d := h.mono' g.h g.f
theorem OwnAt.there {a : Addr} : ∀ {d : D}, OwnAt K C Hf H a d → ∃ o, H a = some o
  | .lst ds, ⟨xs, h1, h2⟩ => ⟨_, h1⟩
  | .dct ds, ⟨xs, h1, h2⟩ => ⟨_, h1⟩
  | .ins c fs, ⟨dx, gs, h1, h2⟩ => ⟨_, h1⟩
/-- nothing that stood is changed; the part that does not change grows by new things alone -/
theorem SS.go (S : SS K C H0 F0 ρ Hf σ H) (g : Go Hf H Hf' H') (le : Same Hf' H') : SS K C H0 F0 ρ Hf' σ H' := by
  refine ⟨⟨S.gr.g0.trans g.h, S.gr.f0.trans g.f, le, fun a o h1 h2 => g.n a o (S.gr.g0 a o h1) (S.gr.sep a o h1 h2)⟩, S.len, fun i d h => ?_, fun i d h => ?_, S.apart⟩
  · obtain ⟨v, h1, h2⟩ := S.fro i d h
    exact ⟨v, h1, Rep.mono g.f _ _ h2⟩
  · obtain ⟨a, h1, h2, h3, h4⟩ := S.own i d h
    obtain ⟨o, ho⟩ := h4.there
    exact ⟨a, h1, g.n a o ho h2, h3, h4.mono g⟩
theorem upd_same_of {H : Hp} {p : Addr} {o : HO} (hp : H p = none) : Same H (upd H p o) := fun b u e => by
  rw [upd_ne (ne_of_none e hp)]; exact e
theorem SS.free (S : SS K C H0 F0 ρ Hf σ H) {p : Addr} (hp : H p = none) : Hf p = none := S.gr.le.free hp
/-- a new thing that nobody changes -/
theorem SS.new (S : SS K C H0 F0 ρ Hf σ H) {p : Addr} (o : HO) (hp : H p = none) : SS K C H0 F0 ρ (upd Hf p o) σ (upd H p o) ∧ Go Hf H (upd Hf p o) (upd H p o) := by
  have g : Go Hf H (upd Hf p o) (upd H p o) := ⟨upd_same_of hp, upd_same_of (S.free hp), fun a u e1 e2 => by rw [upd_ne (ne_of_none e1 hp)]; exact e2⟩
  refine ⟨S.go g (fun b u e => ?_), g⟩
  by_cases hb : b = p
  · subst hb; rw [upd_same] at e ⊢; exact e
  · rw [upd_ne hb] at e ⊢; exact S.gr.le _ _ e
end
end DS
set_option maxHeartbeats 2000000
noncomputable section
namespace DS
open PySem L2

/-- how an exception's fields lie -/
def ExcAt (K : PySem.W.Frag) (C : Nat → Addr) (Hf H : Hp) (fs : List (Str × D)) (d : Option Addr) : Prop :=
  (fs = [] ∧ d = none) ∨ ∃ dd gs, d = some dd ∧ H dd = some (.xd gs) ∧ RepF K C Hf fs gs

/-- the def's surroundings for data: written part, classes, entry heaps, the wish about exceptions -/
structure Ctx where
  K : PySem.W.Frag
  C : Nat → Addr
  H0 : Hp
  F0 : Hp
  W : WX
abbrev Ctx.SS (c : Ctx) := DS.SS c.K c.C c.H0 c.F0
abbrev Ctx.Rep (c : Ctx) := DS.Rep c.K c.C
abbrev Ctx.RepL (c : Ctx) := DS.RepL c.K c.C

/-- what is wanted behind r, from the state ρ, Hf, σ, H -/
def At {α β : Type} (c : Ctx) (rel : α → β → Hp → Hp → Prop) (r : R α) (ρ : List Sl) (Hf : Hp) (σ : L2.St) (H : Hp) (Q : β → Hp → Prop) : Prop :=
  match r with
  | .ok d => ∀ v H' Hf', c.SS ρ Hf' σ H' → Go Hf H Hf' H' → rel d v Hf' H' → Q v H'
  | .exc k fs => ∀ d H' Hf', c.SS ρ Hf' σ H' → Same Hf Hf' → ExcAt c.K c.C Hf' H' fs d → c.W (.ref (c.C k)) d σ H'
  | .stuck => False
def tG {α β : Type} (c : Ctx) (rel : α → β → Hp → Hp → Prop) (f : List Sl → R α) : L2.St → Hp → (β → Hp → Prop) → Prop := fun σ H Q =>
  ∃ ρ Hf, c.SS ρ Hf σ H ∧ At c rel (f ρ) ρ Hf σ H Q

def rD (c : Ctx) : D → V → Hp → Hp → Prop := fun d v Hf _ => c.Rep Hf d v
def rL (c : Ctx) : List D → List V → Hp → Hp → Prop := fun d v Hf _ => c.RepL Hf d v
def rB : Bool → Bool → Hp → Hp → Prop := fun b k _ _ => b = k
/-- read alone: a list may still be the frame's own -/
def RepR (c : Ctx) (Hf H : Hp) : D → V → Prop
  | .lst l, v => ∃ a xs, v = .ref a ∧ H a = some (.lst xs) ∧ c.RepL Hf l xs
  | .dct l, v => ∃ a kvs, v = .ref a ∧ H a = some (.dK kvs) ∧ RepK c.K c.C Hf l kvs
  | .ins k fs, v => ∃ a dx gs, v = .ref a ∧ H a = some (.ins (c.C k) dx gs) ∧ RepF c.K c.C Hf fs gs
  | d, v => c.Rep Hf d v
def rR (c : Ctx) : D → V → Hp → Hp → Prop := fun d v Hf H => RepR c Hf H d v

section
variable {c : Ctx} {α β γ δ : Type} {rel : α → β → Hp → Hp → Prop} {rel3 : γ → δ → Hp → Hp → Prop} {ρ : List Sl} {Hf H : Hp} {σ : L2.St}
theorem RepR.of (le : Same Hf H) : ∀ {d : D} {v : V}, c.Rep Hf d v → RepR c Hf H d v
  | .lst l, v, ⟨a, xs, h1, h2, h3⟩ => ⟨a, xs, h1, le _ _ h2, h3⟩
  | .dct l, v, ⟨a, xs, h1, h2, h3⟩ => ⟨a, xs, h1, le _ _ h2, h3⟩
  | .ins k l, v, ⟨a, dx, gs, h1, h2, h3⟩ => ⟨a, dx, gs, h1, le _ _ h2, h3⟩
  | .non, v, h => h
  | .bl _, v, h => h
  | .int _, v, h => h
  | .str _, v, h => h
  | .scr _, v, h => h
  | .tup _, v, h => h
theorem RepR.mono {Hf' H' : Hp} (g : Go Hf H Hf' H') : ∀ {d : D} {v : V}, RepR c Hf H d v → RepR c Hf' H' d v
  | .lst l, v, ⟨a, xs, h1, h2, h3⟩ => ⟨a, xs, h1, g.h _ _ h2, RepL.mono g.f _ _ h3⟩
  | .dct l, v, ⟨a, xs, h1, h2, h3⟩ => ⟨a, xs, h1, g.h _ _ h2, RepK.mono g.f _ _ h3⟩
  | .ins k l, v, ⟨a, dx, gs, h1, h2, h3⟩ => ⟨a, dx, gs, h1, g.h _ _ h2, RepF.mono g.f _ _ h3⟩
  | .non, v, h => h
  | .bl _, v, h => h
  | .int _, v, h => h
  | .str _, v, h => h
  | .scr _, v, h => Rep.mono g.f _ _ h
  | .tup l, v, h => Rep.mono g.f _ _ h
theorem At.imp {r : R α} {Q Q' : β → Hp → Prop} (h : At c rel r ρ Hf σ H Q) (f : ∀ v H', Q v H' → Q' v H') : At c rel r ρ Hf σ H Q' := by
  cases r with
  | ok d => exact fun v H' Hf' S g r => f v H' (h v H' Hf' S g r)
  | exc k fs => exact h
  | stuck => exact h
/-- one after the other -/
theorem At.bind {r : R α} {k : α → R γ} {Q : δ → Hp → Prop} (h : At c rel3 (r >>= k) ρ Hf σ H Q) :
    At c rel r ρ Hf σ H (fun x H1 => ∃ Hf1 a, c.SS ρ Hf1 σ H1 ∧ Go Hf H Hf1 H1 ∧ rel a x Hf1 H1 ∧ r = .ok a ∧ At c rel3 (k a) ρ Hf1 σ H1 Q) := by
  cases r with
  | ok d =>
    intro v H1 Hf1 S1 g1 r1
    refine ⟨Hf1, d, S1, g1, r1, rfl, ?_⟩
    have h : At c rel3 (k d) ρ Hf σ H Q := h
    cases e : k d with
    | ok d2 => rw [e] at h; exact fun v H' Hf' S g r => h v H' Hf' S (g1.trans g) r
    | exc k2 fs => rw [e] at h; exact fun d H' Hf' S m x => h d H' Hf' S (g1.f.trans m) x
    | stuck => rw [e] at h; exact h
  | exc k fs => exact h
  | stuck => exact h
theorem At.ret {d : α} {v : β} {Q : β → Hp → Prop} (h : At c rel (.ok d) ρ Hf σ H Q) (S : c.SS ρ Hf σ H) (r : rel d v Hf H) : Q v H := h v H Hf S (.refl _ _) r
end

/-- by the reading alone -/
theorem _root_.L2.PE.imp {X : Cx} {e : Expr} {t t' : TE} (h : PE X e t) (f : ∀ σ H Q, t' σ H Q → t σ H Q) : PE X e t' := ⟨fun pins s σ H Q I q => h.run pins s σ H Q I (f _ _ _ q)⟩
theorem _root_.L2.PT.imp {X : Cx} {e : Expr} {t t' : TT} (h : PT X e t) (f : ∀ σ H Q, t' σ H Q → t σ H Q) : PT X e t' := ⟨fun pins s σ H Q I q => h.run pins s σ H Q I (f _ _ _ q)⟩
theorem _root_.L2.PW.imp {X : Cx} {e : Expr} {t t' : TT} (h : PW X e t) (f : ∀ σ H Q, t' σ H Q → t σ H Q) : PW X e t' := ⟨fun wh pins s σ H Q I q => h.run wh pins s σ H Q I (f _ _ _ q)⟩
theorem _root_.L2.PA.imp {X : Cx} {e : List Expr} {t t' : TA} (h : PA X e t) (f : ∀ σ H Q, t' σ H Q → t σ H Q) : PA X e t' := ⟨fun pos pins s σ H Q I q => h.run pos pins s σ H Q I (f _ _ _ q)⟩
theorem _root_.L2.PS.imp {X : Cx} {e : Stmt} {t t' : TS} (h : PS X e t) (f : ∀ D σ H, t' D σ H → t D σ H) : PS X e t' := ⟨fun pins s σ H D I q => h.run pins s σ H D I (f _ _ _ q)⟩
theorem _root_.L2.PSs.imp {X : Cx} {e : List Stmt} {t t' : TS} (h : PSs X e t) (f : ∀ D σ H, t' D σ H → t D σ H) : PSs X e t' := ⟨fun pins s σ H D I q => h.run pins s σ H D I (f _ _ _ q)⟩

/-! ### pieces in a row, by values -/
section
variable {c : Ctx} {X : Cx} {α1 α2 : Type} {ra rb : D → V → Hp → Hp → Prop} {a b : Expr} {f g : List Sl → R D} {pos : Pos}
/-- a rule of two values holds for data -/
def D2 (c : Ctx) (ra rb ro : D → V → Hp → Hp → Prop) (r : R2) (op : D → D → R D) : Prop :=
  ∀ (ρ : List Sl) (Hf H : Hp) (σ : L2.St) (x y : V) (d e : D) (Q : VK), c.SS ρ Hf σ H → ra d x Hf H → rb e y Hf H → At c ro (op d e) ρ Hf σ H Q → r x y H Q
def D1 (c : Ctx) (ra ro : D → V → Hp → Hp → Prop) (r : V → Hp → VK → Prop) (op : D → R D) : Prop :=
  ∀ (ρ : List Sl) (Hf H : Hp) (σ : L2.St) (x : V) (d : D) (Q : VK), c.SS ρ Hf σ H → ra d x Hf H → At c ro (op d) ρ Hf σ H Q → r x H Q
/-- data carried over -/
def Mono (ra : D → V → Hp → Hp → Prop) : Prop := ∀ {d v Hf H Hf' H'}, Go Hf H Hf' H' → ra d v Hf H → ra d v Hf' H'
theorem mono_rD : Mono (rD c) := fun {d v Hf H Hf' H'} g h => Rep.mono g.f _ _ h
theorem mono_rR : Mono (rR c) := fun {d v Hf H Hf' H'} g h => RepR.mono g h
theorem seq2 {ro : D → V → Hp → Hp → Prop} {r : R2} {op : D → D → R D} {σ : L2.St} {H : Hp} {Q : VK} (m : Mono ra) (h2 : D2 c ra rb ro r op)
    (h : tG c ro (fun ρ => do let x ← f ρ; let y ← g ρ; op x y) σ H Q) : tG c ra f σ H fun x H1 => tG c rb g σ H1 fun y H2 => r x y H2 Q := by
  obtain ⟨ρ, Hf, S, A⟩ := h
  refine ⟨ρ, Hf, S, A.bind.imp fun x H1 ⟨Hf1, d, S1, g1, r1, _, A1⟩ => ⟨ρ, Hf1, S1, A1.bind.imp fun y H2 ⟨Hf2, e, S2, g2, r2, _, A2⟩ => ?_⟩⟩
  exact h2 ρ Hf2 H2 σ x y d e Q S2 (m g2 r1) r2 A2
theorem seq1 {ro : D → V → Hp → Hp → Prop} {r : V → Hp → VK → Prop} {op : D → R D} {σ : L2.St} {H : Hp} {Q : VK} (h1 : D1 c ra ro r op)
    (h : tG c ro (fun ρ => do let x ← f ρ; op x) σ H Q) : tG c ra f σ H fun x H1 => r x H1 Q := by
  obtain ⟨ρ, Hf, S, A⟩ := h
  exact ⟨ρ, Hf, S, A.bind.imp fun x H1 ⟨Hf1, d, S1, g1, r1, _, A1⟩ => h1 ρ Hf1 H1 σ x d Q S1 r1 A1⟩
theorem pe_op2 {op : Operator} {r : R2} {h : D → D → R D} (m : Mono ra) (hr : OpR X (binaryOp op) r) (hd : D2 c ra rb (rD c) r h) (ha : PE X a (tG c ra f)) (hb : PE X b (tG c rb g)) :
    PE X (.BinOp a op b pos) (tG c (rD c) fun ρ => do let x ← f ρ; let y ← g ρ; h x y) := (pe_op hr ha hb).imp fun _ _ _ q => seq2 m hd q
theorem pe_ix2 {r : R2} {h : D → D → R D} (m : Mono ra) (hr : IxR X r) (hs : PlainIx b) (hd : D2 c ra rb (rD c) r h) (ha : PE X a (tG c ra f)) (hb : PE X b (tG c rb g)) :
    PE X (.Subscript a b pos) (tG c (rD c) fun ρ => do let x ← f ρ; let y ← g ρ; h x y) := (pe_ix hr ha hb hs).imp fun _ _ _ q => seq2 m hd q
end

/-! ### the argument lists, displays -/
section
variable {c : Ctx} {X : Cx} {e : Expr} {es : List Expr} {f : List Sl → R D} {fs : List Sl → R (List D)} {pos : Pos}
/-- item by item -/
def rLs (re : D → V → Hp → Hp → Prop) : List D → List V → Hp → Hp → Prop
  | [], xs, _, _ => xs = []
  | d :: ds, xs, Hf, H => ∃ x r, xs = x :: r ∧ re d x Hf H ∧ rLs re ds r Hf H
theorem rLs_rD {c : Ctx} {Hf H : Hp} : ∀ {ds : List D} {xs : List V}, rLs (rD c) ds xs Hf H → c.RepL Hf ds xs
  | [], xs, h => h
  | d :: ds, xs, ⟨x, r, h1, h2, h3⟩ => ⟨x, r, h1, h2, rLs_rD h3⟩
theorem da_nil {re : D → V → Hp → Hp → Prop} : PA X [] (tG c (rLs re) fun _ => .ok []) := pa_nil.imp fun σ H Q h => by
  obtain ⟨ρ, Hf, S, A⟩ := h
  exact A.ret S rfl
theorem da_cons {re : D → V → Hp → Hp → Prop} (m : Mono re) (ha : PE X e (tG c re f)) (hr : PA X es (tG c (rLs re) fs)) (hs : starEach (e :: es) X.env = (false, eval e X.env) :: starEach es X.env) :
    PA X (e :: es) (tG c (rLs re) fun ρ => do let x ← f ρ; let xs ← fs ρ; .ok (x :: xs)) := (pa_cons ha hr hs).imp fun σ H Q h => by
  obtain ⟨ρ, Hf, S, A⟩ := h
  refine ⟨ρ, Hf, S, A.bind.imp fun x H1 ⟨Hf1, d, S1, g1, r1, _, A1⟩ => ⟨ρ, Hf1, S1, A1.bind.imp fun xs H2 ⟨Hf2, ds, S2, g2, r2, _, A2⟩ => ?_⟩⟩
  exact A2.ret S2 ⟨x, xs, rfl, m g2 r1, r2⟩
/-- a list's size -/
def small {α : Type} (l : List α) (r : R D) : R D := if cd (l.length ≤ sizeLine) = true then r else .stuck
theorem pe_tupD (h : PA X es (tG c (rLs (rD c)) fs)) {x1} : PE X (.Tuple es x1 pos) (tG c (rD c) fun ρ => do let xs ← fs ρ; small xs (.ok (.tup xs))) := (pe_tup h).imp fun σ H Q h => by
  obtain ⟨ρ, Hf, S, A⟩ := h
  refine ⟨ρ, Hf, S, A.bind.imp fun xs H1 ⟨Hf1, ds, S1, g1, r1, _, A1⟩ => ?_⟩
  have r1 := rLs_rD r1
  unfold small at A1
  split at A1
  · rename_i hl
    have hl := cd_iff.mp hl
    refine ⟨by rw [RepL.length r1]; exact hl, fun p hp => ?_⟩
    obtain ⟨S2, g2⟩ := S1.new (.tup xs) hp
    exact A1 _ _ _ S2 g2 ⟨p, xs, rfl, .of upd_same, RepL.mono g2.f _ _ r1⟩
  · exact A1.elim
theorem pe_lstD (h : PA X es (tG c (rLs (rD c)) fs)) : PE X (.List es pos) (tG c (rD c) fun ρ => do let xs ← fs ρ; small xs (.ok (.lst xs))) := (pe_lst h).imp fun σ H Q h => by
  obtain ⟨ρ, Hf, S, A⟩ := h
  refine ⟨ρ, Hf, S, A.bind.imp fun xs H1 ⟨Hf1, ds, S1, g1, r1, _, A1⟩ => ?_⟩
  have r1 := rLs_rD r1
  unfold small at A1
  split at A1
  · rename_i hl
    have hl := cd_iff.mp hl
    refine ⟨by rw [RepL.length r1]; exact hl, fun p hp => ?_⟩
    obtain ⟨S2, g2⟩ := S1.new (.lst xs) hp
    exact A1 _ _ _ S2 g2 ⟨p, xs, rfl, upd_same, RepL.mono g2.f _ _ r1⟩
  · exact A1.elim
end

/-! ### names and constants -/
section
variable {c : Ctx} {X : Cx} {pos : Pos}
def getV (i : Nat) : List Sl → R D := fun ρ => match ρ[i]? with | some (.fro d) => .ok d | _ => .stuck
/-- for reading alone -/
def getR (i : Nat) : List Sl → R D := fun ρ => match ρ[i]? with | some (.fro d) => .ok d | some (.own d) => .ok d | _ => .stuck
theorem pe_varD {i : Nat} {x : Str} (hN : X.N[i]? = some x) (hv : Vis X.env.scope x) (hd : (x == ("__debug__" : Str)) = false) (hcd : (x == ("__classdict__" : Str)) = false) : PE X (.Name x pos) (tG c (rD c) (getV i)) :=
  (pe_var hN hv hd hcd).imp fun σ H Q h => by
    obtain ⟨ρ, Hf, S, A⟩ := h
    unfold getV at A
    split at A
    · rename_i d e
      obtain ⟨v, h1, h2⟩ := S.fro i d e
      exact ⟨v, h1, A.ret S h2⟩
    · exact A.elim
theorem pe_varR {i : Nat} {x : Str} (hN : X.N[i]? = some x) (hv : Vis X.env.scope x) (hd : (x == ("__debug__" : Str)) = false) (hcd : (x == ("__classdict__" : Str)) = false) : PE X (.Name x pos) (tG c (rR c) (getR i)) :=
  (pe_var hN hv hd hcd).imp fun σ H Q h => by
    obtain ⟨ρ, Hf, S, A⟩ := h
    unfold getR at A
    split at A
    · rename_i d e
      obtain ⟨v, h1, h2⟩ := S.fro i d e
      exact ⟨v, h1, A.ret S (RepR.of S.gr.le h2)⟩
    · rename_i d e
      obtain ⟨a, h1, h2, h3, h4⟩ := S.own i d e
      refine ⟨_, h1, A.ret S ?_⟩
      cases d with
      | lst ds => obtain ⟨xs, q1, q2⟩ := h4; exact ⟨a, xs, rfl, q1, q2⟩
      | dct ds => obtain ⟨xs, q1, q2⟩ := h4; exact ⟨a, xs, rfl, q1, q2⟩
      | ins k ds => obtain ⟨dx, gs, q1, q2⟩ := h4; exact ⟨a, dx, gs, rfl, q1, q2⟩
      | _ => exact h4.elim
    · exact A.elim
/-- what is data may be read -/
theorem pe_read {e : Expr} {f : List Sl → R D} (h : PE X e (tG c (rD c) f)) : PE X e (tG c (rR c) f) := h.imp fun σ H Q h => by
  obtain ⟨ρ, Hf, S, A⟩ := h
  refine ⟨ρ, Hf, S, ?_⟩
  cases e : f ρ with
  | ok d => rw [e] at A; exact fun v H' Hf' S' g r => A v H' Hf' S' g (RepR.of S'.gr.le r)
  | exc k fs => rw [e] at A; exact A
  | stuck => rw [e] at A; exact A
theorem pe_conD {e : Expr} {v : V} {d : D} (h : PE X e (tC v)) (r : ∀ Hf, c.Rep Hf d v) : PE X e (tG c (rD c) fun _ => .ok d) := h.imp fun σ H Q h => by
  obtain ⟨ρ, Hf, S, A⟩ := h
  exact A.ret S (r Hf)
end
end DS
set_option maxHeartbeats 2000000
noncomputable section
namespace DS
open PySem L2

/-! ### operators on data -/
def lim (n : Nat) (r : R D) : R D := if cd (n ≤ sizeLine) = true then r else .stuck
def addD : D → D → R D
  | .int i, .int j => .ok (.int (i + j))
  | .str x, .str y => lim (x.length + y.length) (.ok (.str (x ++ y)))
  | .tup xs, .tup ys => lim (xs.length + ys.length) (.ok (.tup (xs ++ ys)))
  | .lst xs, .lst ys => lim (xs.length + ys.length) (.ok (.lst (xs ++ ys)))
  | _, _ => .stuck
def subD : D → D → R D
  | .int i, .int j => .ok (.int (i - j))
  | _, _ => .stuck
def mulOk (i j : Int) : Bool := cd (-(2 ^ 64) < i ∧ i < 2 ^ 64) || cd (-(2 ^ 64) < j ∧ j < 2 ^ 64)
def mulD : D → D → R D
  | .int i, .int j => if mulOk i j = true then .ok (.int (i * j)) else .stuck
  | _, _ => .stuck
def divOk (j : Int) : Bool := cd (0 < j ∧ j < 2 ^ 100)
def fdivD : D → D → R D
  | .int i, .int j => if divOk j = true then .ok (.int (i / j)) else .stuck
  | _, _ => .stuck
def modD : D → D → R D
  | .int i, .int j => if cd (0 < j) = true then .ok (.int (i % j)) else .stuck
  | _, _ => .stuck
def powD : D → D → R D
  | .int i, .int j => if cd (0 ≤ j ∧ j ≤ 1000000 ∧ i.natAbs < 2 ^ 64) = true then .ok (.int (i ^ j.toNat)) else .stuck
  | _, _ => .stuck
def shrD : D → D → R D
  | .int i, .int j => if cd (0 ≤ j) = true then .ok (.int (i / 2 ^ j.toNat)) else .stuck
  | _, _ => .stuck
def xorD : D → D → R D
  | .int i, .int j => .ok (.int (Builtin.bitXor i j))
  | _, _ => .stuck
def binD : Operator → D → D → R D
  | .Add => addD | .Sub => subD | .Mult => mulD | .FloorDiv => fdivD | .Mod => modD | .Pow => powD | .RShift => shrD | .BitXor => xorD
  | _ => fun _ _ => .stuck

/-! ### comparisons of data -/
mutual
def toPy : D → PyData
  | .non => .none | .bl b => .bool b | .int i => .int i | .str s => .str s
  | .tup l => .tuple (toPyL l)
  | .lst l => .list (toPyL l)
  | .dct _ => .dict [] | .ins _ _ => .dict [] | .scr _ => .dict []
def toPyL : List D → List PyData
  | [] => []
  | d :: ds => toPy d :: toPyL ds
end
/-- plain things -/
def scE : D → D → Option Bool
  | .int i, .int j => some (cd (i = j))
  | .str x, .str y => some (cd (x = y))
  | .bl x, .bl y => some (decide (x = y))
  | .non, .non => some true
  | .non, .int _ => some false | .int _, .non => some false | .non, .bl _ => some false | .bl _, .non => some false
  | .non, .str _ => some false | .str _, .non => some false
  | .int _, .str _ => some false | .str _, .int _ => some false | .bl _, .str _ => some false | .str _, .bl _ => some false
  | _, _ => none
def eqB (d e : D) : R Bool := match scE d e with
  | some b => .ok b
  | none => if SeqAt.shaped (toPy d) && SeqAt.shaped (toPy e) then .ok (PyData.eqv (toPy d) (toPy e)) else .stuck
def bR (r : R Bool) : R D := r.bind fun b => .ok (.bl b)
def inB : D → D → R Bool
  | .str x, .str z => match x.cps.toList with | [k] => .ok (decide (k ∈ z.cps.toList)) | _ => .stuck
  | _, _ => .stuck
def isNon : D → Bool
  | .non => true
  | _ => false
def cmpB : CmpOp → D → D → R Bool
  | .Eq, d, e => eqB d e
  | .NotEq, d, e => (eqB d e).bind fun b => .ok (!b)
  | .Lt, .int i, .int j => .ok (cd (i < j))
  | .LtE, .int i, .int j => .ok (cd (i ≤ j))
  | .Gt, .int i, .int j => .ok (cd (j < i))
  | .GtE, .int i, .int j => .ok (cd (j ≤ i))
  | .Lt, .str x, .str y => .ok (cd (x.cps.toList < y.cps.toList))
  | .Is, .bl a, .bl b => .ok (decide (a = b))
  | .IsNot, .bl a, .bl b => .ok (!decide (a = b))
  | .Is, d, .non => .ok (isNon d)
  | .IsNot, d, .non => .ok (!isNon d)
  | .In, d, e => inB d e
  | .NotIn, d, e => (inB d e).bind fun b => .ok (!b)
  | _, _, _ => .stuck


section
variable {c : Ctx}
def rOp (c : Ctx) (op : D → D → R D) : R2 := fun x y H Q => ∃ ρ Hf σ d e, c.SS ρ Hf σ H ∧ RepR c Hf H d x ∧ RepR c Hf H e y ∧ At c (rD c) (op d e) ρ Hf σ H Q
theorem rOp_d2 (op : D → D → R D) : D2 c (rR c) (rR c) (rD c) (rOp c op) op := fun ρ Hf H σ x y d e Q S hd he A => ⟨ρ, Hf, σ, d, e, S, hd, he, A⟩
theorem lim_cases {n : Nat} {r : R D} {ρ : List Sl} {Hf H : Hp} {σ : L2.St} {Q : VK} (A : At c (rD c) (lim n r) ρ Hf σ H Q) : n ≤ sizeLine ∧ At c (rD c) r ρ Hf σ H Q := by
  unfold lim at A
  split at A
  · exact ⟨cd_iff.mp (by assumption), A⟩
  · exact A.elim
theorem if_cases {p : Prop} [Decidable p] {r : R D} {ρ : List Sl} {Hf H : Hp} {σ : L2.St} {Q : VK} (A : At c (rD c) (if p then r else .stuck) ρ Hf σ H Q) : p ∧ At c (rD c) r ρ Hf σ H Q := by
  split at A
  · exact ⟨by assumption, A⟩
  · exact A.elim
theorem rep_str {Hf : Hp} {x : Str} {v : V} (h : c.Rep Hf (.str x) v) : v = .str x := h
theorem D.eta_tup : ∀ l : List D, l = [] ∨ l ≠ [] := fun l => by cases l <;> simp
variable {X : Cx}
/-- a new tuple, a new list of data -/
theorem At.newTup {ρ : List Sl} {Hf H : Hp} {σ : L2.St} {Q : VK} {ds : List D} {xs : List V} (A : At c (rD c) (.ok (.tup ds)) ρ Hf σ H Q) (S : c.SS ρ Hf σ H) (h : c.RepL Hf ds xs) : ∀ p, H p = none → Q (.ref p) (upd H p (.tup xs)) := fun p hp => by
  obtain ⟨S2, g2⟩ := S.new (.tup xs) hp
  exact A _ _ _ S2 g2 ⟨p, xs, rfl, .of upd_same, RepL.mono g2.f _ _ h⟩
theorem At.newLst {ρ : List Sl} {Hf H : Hp} {σ : L2.St} {Q : VK} {ds : List D} {xs : List V} (A : At c (rD c) (.ok (.lst ds)) ρ Hf σ H Q) (S : c.SS ρ Hf σ H) (h : c.RepL Hf ds xs) : ∀ p, H p = none → Q (.ref p) (upd H p (.lst xs)) := fun p hp => by
  obtain ⟨S2, g2⟩ := S.new (.lst xs) hp
  exact A _ _ _ S2 g2 ⟨p, xs, rfl, upd_same, RepL.mono g2.f _ _ h⟩
theorem or_add (hK : X.K = c.K) : OpR X (binaryOp .Add) (rOp c addD) := by
  intro pins s σ' H x y v u Q I rx ry h
  obtain ⟨ρ, Hf, σ, d, e, S, hd, he, A⟩ := h
  unfold addD at A
  split at A
  · obtain rfl : x = .int _ := hd
    obtain rfl : y = .int _ := he
    exact op_add pins s σ' H _ _ v u Q I rx ry ⟨_, _, rfl, rfl, A.ret S rfl⟩
  · obtain rfl : x = .str _ := hd
    obtain rfl : y = .str _ := he
    obtain ⟨hl, A⟩ := lim_cases A
    exact op_add_str pins s σ' H _ _ v u Q I rx ry ⟨_, _, rfl, rfl, hl, A.ret S rfl⟩
  · obtain ⟨hl, A⟩ := lim_cases A
    obtain ⟨a, vs, rfl, q1, q2⟩ := hd
    obtain ⟨b, ws, rfl, p1, p2⟩ := he
    have l1 := RepL.length q2
    have l2 := RepL.length p2
    have n1 := same_seqT S.gr.le q1
    have n2 := same_seqT S.gr.le p1
    rw [← hK] at n1 n2
    refine op_catA pins s σ' H _ _ v u Q I rx ry ⟨a, b, vs, ws, rfl, rfl, n1, n2, by rw [l1, l2]; exact hl, fun e => ?_, fun _ e => ?_, fun _ _ => At.newTup A S (q2.append p2)⟩
    · subst e
      have e2 := List.length_eq_zero_iff.mp l1.symm
      subst e2
      exact A.ret S ⟨b, ws, rfl, p1, p2⟩
    · subst e
      have e2 := List.length_eq_zero_iff.mp l2.symm
      subst e2
      rw [List.append_nil] at A
      exact A.ret S ⟨a, vs, rfl, q1, q2⟩
  · obtain ⟨hl, A⟩ := lim_cases A
    obtain ⟨a, vs, rfl, q1, q2⟩ := hd
    obtain ⟨b, ws, rfl, p1, p2⟩ := he
    refine op_cat pins s σ' H _ _ v u Q I rx ry ⟨a, b, vs, ws, rfl, rfl, q1, p1, by rw [RepL.length q2, RepL.length p2]; exact hl, At.newLst A S (q2.append p2)⟩
  · exact A.elim
theorem or_bin (hK : X.K = c.K) (o : Operator) : OpR X (binaryOp o) (rOp c (binD o)) := by
  cases o with
  | Add => exact or_add hK
  | Sub =>
    intro pins s σ' H x y v u Q I rx ry ⟨ρ, Hf, σ, d, e, S, hd, he, A⟩
    simp only [binD] at A
    unfold subD at A
    split at A
    · obtain rfl : x = .int _ := hd
      obtain rfl : y = .int _ := he
      exact op_sub pins s σ' H _ _ v u Q I rx ry ⟨_, _, rfl, rfl, A.ret S rfl⟩
    · exact A.elim
  | Mult =>
    intro pins s σ' H x y v u Q I rx ry ⟨ρ, Hf, σ, d, e, S, hd, he, A⟩
    simp only [binD] at A
    unfold mulD at A
    split at A
    · obtain rfl : x = .int _ := hd
      obtain rfl : y = .int _ := he
      obtain ⟨hm, A⟩ := if_cases A
      refine op_mul pins s σ' H _ _ v u Q I rx ry ⟨_, _, rfl, rfl, ?_, A.ret S rfl⟩
      unfold mulOk at hm
      simp only [Bool.or_eq_true, cd_eq] at hm
      exact hm
    · exact A.elim
  | FloorDiv =>
    intro pins s σ' H x y v u Q I rx ry ⟨ρ, Hf, σ, d, e, S, hd, he, A⟩
    simp only [binD] at A
    unfold fdivD at A
    split at A
    · obtain rfl : x = .int _ := hd
      obtain rfl : y = .int _ := he
      obtain ⟨hm, A⟩ := if_cases A
      refine op_fdivW pins s σ' H _ _ v u Q I rx ry ⟨_, _, rfl, rfl, ?_, A.ret S rfl⟩
      unfold divOk at hm
      have hm := cd_iff.mp hm
      exact wide_div (b := 100) hm.1 (by omega) (by decide) (by decide)
    · exact A.elim
  | Mod =>
    intro pins s σ' H x y v u Q I rx ry ⟨ρ, Hf, σ, d, e, S, hd, he, A⟩
    simp only [binD] at A
    unfold modD at A
    split at A
    · obtain rfl : x = .int _ := hd
      obtain rfl : y = .int _ := he
      obtain ⟨hm, A⟩ := if_cases A
      have hm := cd_iff.mp hm
      refine op_modN pins s σ' H _ _ v u Q I rx ry ⟨_, _, rfl, rfl, by omega, ?_⟩
      have q := A.ret S rfl
      show Q (.int (Int.fmod _ _)) H
      rw [Int.fmod_eq_emod_of_nonneg _ (by omega)]
      exact q
    · exact A.elim
  | Pow =>
    intro pins s σ' H x y v u Q I rx ry ⟨ρ, Hf, σ, d, e, S, hd, he, A⟩
    simp only [binD] at A
    unfold powD at A
    split at A
    · obtain rfl : x = .int _ := hd
      obtain rfl : y = .int _ := he
      obtain ⟨hm, A⟩ := if_cases A
      exact op_pow pins s σ' H _ _ v u Q I rx ry ⟨_, _, rfl, rfl, cd_iff.mp hm, A.ret S rfl⟩
    · exact A.elim
  | RShift =>
    intro pins s σ' H x y v u Q I rx ry ⟨ρ, Hf, σ, d, e, S, hd, he, A⟩
    simp only [binD] at A
    unfold shrD at A
    split at A
    · obtain rfl : x = .int _ := hd
      obtain rfl : y = .int _ := he
      obtain ⟨hm, A⟩ := if_cases A
      exact op_shr pins s σ' H _ _ v u Q I rx ry ⟨_, _, rfl, rfl, cd_iff.mp hm, A.ret S rfl⟩
    · exact A.elim
  | BitXor =>
    intro pins s σ' H x y v u Q I rx ry ⟨ρ, Hf, σ, d, e, S, hd, he, A⟩
    simp only [binD] at A
    unfold xorD at A
    split at A
    · obtain rfl : x = .int _ := hd
      obtain rfl : y = .int _ := he
      exact op_xor pins s σ' H _ _ v u Q I rx ry ⟨_, _, rfl, rfl, A.ret S rfl⟩
    · exact A.elim
  | _ =>
    intro pins s σ' H x y v u Q I rx ry ⟨ρ, Hf, σ, d, e, S, hd, he, A⟩
    exact A.elim

/-! ### comparisons -/
mutual
theorem dp_of {Hf H : Hp} (le : Same Hf H) : ∀ (d : D) (v : V), c.Rep Hf d v → SeqAt.shaped (toPy d) = true ∨ (toPy d).canLay0 = true → Dp c.K H v (toPy d)
  | .non, v, h, _ => by have h : v = .non := h; subst h; exact .non
  | .bl b, v, h, _ => by have h : v = .bl b := h; subst h; exact .bl b
  | .int b, v, h, _ => by have h : v = .int b := h; subst h; exact .int b
  | .str b, v, h, _ => by have h : v = .str b := h; subst h; exact .str b
  | .tup l, v, h, q => by
    obtain ⟨a, xs, rfl, h1, h2⟩ := h
    exact .tup (same_seqT le h1) (dpAll_of le l xs h2 (q.elim SeqAt.canLay_of_shaped _root_.id))
  | .lst l, v, h, q => by
    obtain ⟨a, xs, rfl, h1, h2⟩ := h
    exact .lst (.of (le _ _ h1)) (dpAll_of le l xs h2 (q.elim SeqAt.canLay_of_shaped _root_.id))
  | .dct l, v, h, q => by rcases q with q | q <;> simp [toPy, SeqAt.shaped, PyData.canLay0] at q
  | .ins k l, v, h, q => by rcases q with q | q <;> simp [toPy, SeqAt.shaped, PyData.canLay0] at q
  | .scr k, v, h, q => by rcases q with q | q <;> simp [toPy, SeqAt.shaped, PyData.canLay0] at q
theorem dpAll_of {Hf H : Hp} (le : Same Hf H) : ∀ (ds : List D) (xs : List V), c.RepL Hf ds xs → PyData.canLayAll0 (toPyL ds) = true → DpAll c.K H xs (toPyL ds)
  | [], xs, h, _ => by have h : xs = [] := h; subst h; exact .nil
  | d :: ds, xs, h, q => by
    obtain ⟨x, r, rfl, h1, h2⟩ := h
    simp only [toPyL, PyData.canLayAll0, Bool.and_eq_true] at q
    exact .cons (dp_of le d x h1 (.inr q.1)) (dpAll_of le ds r h2 q.2)
end
/-- data to be read, to compare -/
theorem dpR {Hf H : Hp} (le : Same Hf H) : ∀ {d : D} {v : V}, RepR c Hf H d v → SeqAt.shaped (toPy d) = true → Dp c.K H v (toPy d)
  | .lst l, v, ⟨a, xs, h1, h2, h3⟩, q => by subst h1; exact .lst (.of h2) (dpAll_of le l xs h3 (SeqAt.canLay_of_shaped q))
  | .dct l, v, h, q => by simp [toPy, SeqAt.shaped, PyData.canLay0] at q
  | .ins k l, v, h, q => by simp [toPy, SeqAt.shaped, PyData.canLay0] at q
  | .scr k, v, h, q => by simp [toPy, SeqAt.shaped, PyData.canLay0] at q
  | .non, v, h, q => dp_of le _ _ h (.inl q)
  | .bl _, v, h, q => dp_of le _ _ h (.inl q)
  | .int _, v, h, q => dp_of le _ _ h (.inl q)
  | .str _, v, h, q => dp_of le _ _ h (.inl q)
  | .tup _, v, h, q => dp_of le _ _ h (.inl q)
theorem scE_ok {Hf H : Hp} {d e : D} {x y : V} {b : Bool} (h : scE d e = some b) (hd : RepR c Hf H d x) (he : RepR c Hf H e y) : scal x y = true ∧ b = decide (x = y) := by
  unfold scE at h
  split at h
  all_goals first
    | (cases h; done)
    | (obtain rfl : x = _ := hd; obtain rfl : y = _ := he; cases h; exact ⟨rfl, by first | (rw [← cd_of]; simp) | simp⟩)
theorem bR_At {r : R Bool} {ρ : List Sl} {Hf H : Hp} {σ : L2.St} {Q : VK} (A : At c (rD c) (bR r) ρ Hf σ H Q) : At c rB r ρ Hf σ H (fun b H' => Q (.bl b) H') := by
  cases r with
  | ok b => exact fun k H' Hf' S g e => by cases e; exact A _ H' Hf' S g rfl
  | exc k fs => exact A
  | stuck => exact A
/-- a comparison of data -/
def rOpB (c : Ctx) (op : D → D → R Bool) : R2 := fun x y H Q => ∃ ρ Hf σ d e, c.SS ρ Hf σ H ∧ RepR c Hf H d x ∧ RepR c Hf H e y ∧ At c rB (op d e) ρ Hf σ H (fun b H' => Q (.bl b) H')
theorem eqB_cases {d e : D} {ρ : List Sl} {Hf H : Hp} {σ : L2.St} {Q : Bool → Hp → Prop} (S : c.SS ρ Hf σ H) (A : At c rB (eqB d e) ρ Hf σ H Q) :
    (∃ b, scE d e = some b ∧ Q b H) ∨ (SeqAt.shaped (toPy d) = true ∧ SeqAt.shaped (toPy e) = true ∧ Q (PyData.eqv (toPy d) (toPy e)) H) := by
  unfold eqB at A
  split at A
  · exact .inl ⟨_, by assumption, A.ret S rfl⟩
  · split at A
    · rename_i q
      rw [Bool.and_eq_true] at q
      exact .inr ⟨q.1, q.2, A.ret S rfl⟩
    · exact A.elim
theorem At.notB {r : R Bool} {ρ : List Sl} {Hf H : Hp} {σ : L2.St} {Q : Bool → Hp → Prop} (A : At c rB (r.bind fun b => .ok (!b)) ρ Hf σ H Q) : At c rB r ρ Hf σ H (fun b H' => Q (!b) H') := by
  cases r with
  | ok b => exact fun k H' Hf' S g e => by cases e; exact A _ H' Hf' S g rfl
  | exc k fs => exact A
  | stuck => exact A
theorem isNon_of {Hf H : Hp} : ∀ {d : D} {x : V}, RepR c Hf H d x → decide (x = .non) = isNon d
  | .non, x, h => by have h : x = .non := h; subst h; rfl
  | .bl b, x, h => by have h : x = .bl b := h; subst h; rfl
  | .int b, x, h => by have h : x = .int b := h; subst h; rfl
  | .str b, x, h => by have h : x = .str b := h; subst h; rfl
  | .tup l, x, h => by obtain ⟨a, xs, rfl, _⟩ := h; rfl
  | .lst l, x, h => by obtain ⟨a, xs, rfl, _⟩ := h; rfl
  | .dct l, x, h => by obtain ⟨a, xs, rfl, _⟩ := h; rfl
  | .ins k l, x, h => by obtain ⟨a, dx, gs, rfl, _⟩ := h; rfl
  | .scr l, x, h => by obtain ⟨a, rfl, _⟩ := h; rfl
/-- one sign in a text -/
def InIs (d e : D) (b : Bool) : Prop := ∃ (k : Nat) (z : Str), d = .str ⟨#[k]⟩ ∧ e = .str z ∧ b = decide (k ∈ z.cps.toList)
theorem inB_cases {d e : D} {ρ : List Sl} {Hf H : Hp} {σ : L2.St} {Q : Bool → Hp → Prop} (A : At c rB (inB d e) ρ Hf σ H Q) : ∃ b, InIs d e b ∧ At c rB (.ok b) ρ Hf σ H Q := by
  unfold inB at A
  split at A
  · rename_i x z
    split at A
    · rename_i k q
      have ex : x = ⟨#[k]⟩ := by
        cases x with
        | mk a => simp only [Str.mk.injEq]; exact Array.ext' q
      subst ex
      exact ⟨_, ⟨k, z, rfl, rfl, rfl⟩, A⟩
    · exact A.elim
  · exact A.elim
theorem or_in {pins : List (Addr × Obj)} {s : Shared} {σ' σ : L2.St} {ρ : List Sl} {Hf H : Hp} {x y : V} {v u : Value} {d e : D} {Q : VK} (S : c.SS ρ Hf σ H) (I : L2.Inv X pins σ' H s) (rx : RelV x v) (ry : RelV y u) (hd : RepR c Hf H d x) (he : RepR c Hf H e y)
    (h : ∃ b, InIs d e b ∧ At c rB (.ok b) ρ Hf σ H (fun b H' => Q (.bl b) H')) : wpAny (model X.prog X.w) X.A (compareOp .In v u) (EP X pins σ' Q) X.xe s := by
  obtain ⟨b, ⟨k, z, rfl, rfl, rfl⟩, A⟩ := h
  obtain rfl : x = .str _ := hd
  obtain rfl : y = .str _ := he
  exact op_in_sign pins s σ' H _ _ v u Q I rx ry ⟨k, z, rfl, rfl, A.ret S rfl⟩
theorem or_notin {pins : List (Addr × Obj)} {s : Shared} {σ' σ : L2.St} {ρ : List Sl} {Hf H : Hp} {x y : V} {v u : Value} {d e : D} {Q : VK} (S : c.SS ρ Hf σ H) (I : L2.Inv X pins σ' H s) (rx : RelV x v) (ry : RelV y u) (hd : RepR c Hf H d x) (he : RepR c Hf H e y)
    (h : ∃ b, InIs d e b ∧ At c rB (.ok b) ρ Hf σ H (fun b H' => Q (.bl (!b)) H')) : wpAny (model X.prog X.w) X.A (compareOp .NotIn v u) (EP X pins σ' Q) X.xe s := by
  obtain ⟨b, ⟨k, z, rfl, rfl, rfl⟩, A⟩ := h
  obtain rfl : x = .str _ := hd
  obtain rfl : y = .str _ := he
  exact op_notIn_sign pins s σ' H _ _ v u Q I rx ry ⟨k, z, rfl, rfl, A.ret S rfl⟩
theorem or_cmp (hK : X.K = c.K) (hu : X.A.units + 64 < cLine) (o : CmpOp) : OpR X (compareOp o) (rOpB c (cmpB o)) := by
  intro pins s σ' H x y v u Q I rx ry ⟨ρ, Hf, σ, d, e, S, hd, he, A⟩
  unfold cmpB at A
  split at A
  · rcases eqB_cases S A with ⟨b, q1, q2⟩ | ⟨q1, q2, q3⟩
    · obtain ⟨h1, h2⟩ := scE_ok q1 hd he
      subst h2
      exact op_eq pins s σ' H _ _ v u Q I rx ry ⟨h1, q2⟩
    · refine op_eqD hu pins s σ' H _ _ v u Q I rx ry ⟨_, _, ?_, ?_, q1, q2, q3⟩
      · rw [hK]; exact dpR S.gr.le hd q1
      · rw [hK]; exact dpR S.gr.le he q2
  · rcases eqB_cases S A.notB with ⟨b, q1, q2⟩ | ⟨q1, q2, q3⟩
    · obtain ⟨h1, h2⟩ := scE_ok q1 hd he
      subst h2
      exact op_ne pins s σ' H _ _ v u Q I rx ry ⟨h1, q2⟩
    · refine op_neD hu pins s σ' H _ _ v u Q I rx ry ⟨_, _, ?_, ?_, q1, q2, q3⟩
      · rw [hK]; exact dpR S.gr.le hd q1
      · rw [hK]; exact dpR S.gr.le he q2
  · obtain rfl : x = .int _ := hd
    obtain rfl : y = .int _ := he
    exact op_lt pins s σ' H _ _ v u Q I rx ry ⟨_, _, rfl, rfl, by simp only [cd_of]; exact A.ret S rfl⟩
  · obtain rfl : x = .int _ := hd
    obtain rfl : y = .int _ := he
    exact op_le pins s σ' H _ _ v u Q I rx ry ⟨_, _, rfl, rfl, by simp only [cd_of]; exact A.ret S rfl⟩
  · obtain rfl : x = .int _ := hd
    obtain rfl : y = .int _ := he
    exact op_gt pins s σ' H _ _ v u Q I rx ry ⟨_, _, rfl, rfl, by simp only [cd_of]; exact A.ret S rfl⟩
  · obtain rfl : x = .int _ := hd
    obtain rfl : y = .int _ := he
    exact op_ge pins s σ' H _ _ v u Q I rx ry ⟨_, _, rfl, rfl, by simp only [cd_of]; exact A.ret S rfl⟩
  · obtain rfl : x = .str _ := hd
    obtain rfl : y = .str _ := he
    exact op_lt_str pins s σ' H _ _ v u Q I rx ry ⟨_, _, rfl, rfl, by simp only [cd_of]; exact A.ret S rfl⟩
  · obtain rfl : x = .bl _ := hd
    obtain rfl : y = .bl _ := he
    exact op_isBl pins s σ' H _ _ v u Q I rx ry ⟨_, _, rfl, rfl, A.ret S rfl⟩
  · obtain rfl : x = .bl _ := hd
    obtain rfl : y = .bl _ := he
    exact op_notBl pins s σ' H _ _ v u Q I rx ry ⟨_, _, rfl, rfl, A.ret S rfl⟩
  · obtain rfl : y = .non := he
    exact op_isN pins s σ' H _ _ v u Q I rx ry ⟨rfl, by rw [isNon_of hd]; exact A.ret S rfl⟩
  · obtain rfl : y = .non := he
    exact op_notN pins s σ' H _ _ v u Q I rx ry ⟨rfl, by rw [isNon_of hd]; exact A.ret S rfl⟩
  · exact or_in S I rx ry hd he (inB_cases A)
  · exact or_notin S I rx ry hd he (inB_cases A.notB)
  · exact A.elim
end
end DS
set_option maxHeartbeats 2000000
noncomputable section
namespace DS
open PySem L2
section
variable {c : Ctx} {X : Cx} {a b e : Expr} {f g h : List Sl → R D} {pos : Pos}

/-! ### comparisons, tests -/
theorem seq2B {r : R2} {op : D → D → R Bool} {σ : L2.St} {H : Hp} {Q : Bool → Hp → Prop} (hA : tG c rB (fun ρ => do let x ← f ρ; let y ← g ρ; op x y) σ H Q) :
    tG c (rR c) f σ H fun x H1 => tG c (rR c) g σ H1 fun y H2 => ∃ ρ Hf, ∃ d e, c.SS ρ Hf σ H2 ∧ RepR c Hf H2 d x ∧ RepR c Hf H2 e y ∧ At c rB (op d e) ρ Hf σ H2 Q := by
  obtain ⟨ρ, Hf, S, A⟩ := hA
  exact ⟨ρ, Hf, S, A.bind.imp fun x H1 ⟨Hf1, d, S1, g1, r1, _, A1⟩ => ⟨ρ, Hf1, S1, A1.bind.imp fun y H2 ⟨Hf2, e, S2, g2, r2, _, A2⟩ => ⟨ρ, Hf2, d, e, S2, RepR.mono g2 r1, r2, A2⟩⟩⟩
theorem tG_bR {r : List Sl → R Bool} {σ : L2.St} {H : Hp} {Q : VK} (hA : tG c (rD c) (fun ρ => bR (r ρ)) σ H Q) : tG c rB r σ H (fun k H' => Q (.bl k) H') := by
  obtain ⟨ρ, Hf, S, A⟩ := hA
  exact ⟨ρ, Hf, S, bR_At A⟩
/-- a value that is True or False, as a test -/
def toB : D → R Bool
  | .bl k => .ok k
  | _ => .stuck
theorem At.toB' {r : R D} {ρ : List Sl} {Hf H : Hp} {σ : L2.St} {Q : Bool → Hp → Prop} (A : At c rB (r.bind toB) ρ Hf σ H Q) : At c (rD c) r ρ Hf σ H (fun v H' => ∃ k, v = .bl k ∧ Q k H') := by
  cases r with
  | ok d =>
    intro v H' Hf' S g q
    cases d with
    | bl k =>
      obtain rfl : v = .bl k := q
      exact ⟨k, rfl, A k H' Hf' S g rfl⟩
    | _ => exact A.elim
  | exc k fs => exact A
  | stuck => exact A
theorem At.toRR {r : R D} {ρ : List Sl} {Hf H : Hp} {σ : L2.St} {Q : VK} (A : At c (rR c) r ρ Hf σ H Q) : At c (rD c) r ρ Hf σ H Q := by
  cases r with
  | ok d => exact fun v H' Hf' S g q => A v H' Hf' S g (RepR.of S.gr.le q)
  | exc k fs => exact A
  | stuck => exact A
theorem pt_valD (hh : PE X e (tG c (rD c) f)) (he : ∀ whole, isTrue e X.env whole = (do let v ← whole; standAt e.pos; holding [v] (truthy v))) : PT X e (tG c rB fun ρ => (f ρ).bind toB) :=
  (pt_val hh he).imp fun σ H Q ⟨ρ, Hf, S, A⟩ => ⟨ρ, Hf, S, A.toB'⟩
theorem pe_cmpD {op : CmpOp} (hK : X.K = c.K) (hu : X.A.units + 64 < cLine) (ha : PE X a (tG c (rR c) f)) (hb : PE X b (tG c (rR c) g)) (hm : behindInMarks op b = false) :
    PE X (.Compare a [op] [b] pos) (tG c (rD c) fun ρ => bR (do let x ← f ρ; let y ← g ρ; cmpB op x y)) :=
  (pe_cmpR (or_cmp hK hu op) ha hb hm).imp fun σ H Q q => by
    obtain ⟨ρ, Hf, S, A⟩ := seq2B (r := fun _ _ _ _ => True) (tG_bR q)
    refine ⟨ρ, Hf, S, A.imp fun x H1 ⟨ρ1, Hf1, S1, A1⟩ => ⟨ρ1, Hf1, S1, A1.imp fun y H2 ⟨ρ2, Hf2, d, e, S2, h1, h2, A2⟩ => ⟨ρ2, Hf2, σ, d, e, S2, h1, h2, A2⟩⟩⟩
theorem pt_cmpD {op : CmpOp} (hK : X.K = c.K) (hu : X.A.units + 64 < cLine) (ha : PE X a (tG c (rR c) f)) (hb : PE X b (tG c (rR c) g)) (hm : behindInMarks op b = false) :
    PT X (.Compare a [op] [b] pos) (tG c rB fun ρ => do let x ← f ρ; let y ← g ρ; cmpB op x y) :=
  (pt_cmpR (or_cmp hK hu op) ha hb hm).imp fun σ H Q q => by
    obtain ⟨ρ, Hf, S, A⟩ := seq2B (r := fun _ _ _ _ => True) q
    refine ⟨ρ, Hf, S, A.imp fun x H1 ⟨ρ1, Hf1, S1, A1⟩ => ⟨ρ1, Hf1, S1, A1.imp fun y H2 ⟨ρ2, Hf2, d, e, S2, h1, h2, A2⟩ => ⟨ρ2, Hf2, σ, d, e, S2, h1, h2, A2.imp fun k H' q => ⟨k, rfl, q⟩⟩⟩⟩
/-- a < b < c -/
def chainB (o o' : CmpOp) (f g h : List Sl → R D) : List Sl → R Bool := fun ρ => do
  let x ← f ρ
  let y ← g ρ
  let k ← cmpB o x y
  if k = true then (do let z ← h ρ; cmpB o' y z) else .ok false
theorem chain_core {o o' : CmpOp} {σ : L2.St} {H : Hp} {Q : Bool → Hp → Prop} (q : tG c rB (chainB o o' f g h) σ H Q) :
    tChain (rOpB c (cmpB o)) (rOpB c (cmpB o')) (tG c (rR c) f) (tG c (rR c) g) (tG c (rR c) h) σ H (fun v H' => ∃ k, v = .bl k ∧ Q k H') := by
  obtain ⟨ρ, Hf, S, A⟩ := q
  refine ⟨ρ, Hf, S, A.bind.imp fun x H1 ⟨Hf1, d, S1, g1, r1, _, A1⟩ => ⟨ρ, Hf1, S1, A1.bind.imp fun y H2 ⟨Hf2, e, S2, g2, r2, _, A2⟩ => ⟨ρ, Hf2, σ, d, e, S2, RepR.mono g2 r1, r2, ?_⟩⟩⟩
  refine (A2.bind (rel := rB)).imp fun k H3 ⟨Hf3, k', S3, g3, r3, _, A3⟩ => ⟨k, rfl, ?_⟩
  cases r3
  cases k with
  | true =>
    rw [if_pos rfl] at A3 ⊢
    exact ⟨ρ, Hf3, S3, A3.bind.imp fun z H4 ⟨Hf4, m, S4, g4, r4, _, A4⟩ => ⟨ρ, Hf4, σ, e, m, S4, RepR.mono g4 (RepR.mono g3 r2), r4, A4.imp fun k H' q => ⟨k, rfl, q⟩⟩⟩
  | false =>
    rw [if_neg (by decide)] at A3 ⊢
    exact ⟨_, rfl, A3.ret S3 rfl⟩
variable {d : Expr}
theorem pt_chainD {o o' : CmpOp} (hK : X.K = c.K) (hu : X.A.units + 64 < cLine) (ha : PE X a (tG c (rR c) f)) (hb : PE X b (tG c (rR c) g)) (hd : PE X d (tG c (rR c) h)) (hm : lastMarks [o, o'] [b, d] = false) :
    PT X (.Compare a [o, o'] [b, d] pos) (tG c rB (chainB o o' f g h)) :=
  (pt_chain (or_cmp hK hu o) (or_cmp hK hu o') ha hb hd hm).imp fun σ H Q q => chain_core q
theorem tChain_mono {r r' : R2} {ta tb tc : TE} {σ : L2.St} {H : Hp} {Q Q' : VK} (m : tChain r r' ta tb tc σ H Q) (e : Q = Q') : tChain r r' ta tb tc σ H Q' := e ▸ m
theorem pe_chainD {o o' : CmpOp} (hK : X.K = c.K) (hu : X.A.units + 64 < cLine) (ha : PE X a (tG c (rR c) f)) (hb : PE X b (tG c (rR c) g)) (hd : PE X d (tG c (rR c) h)) (hm : lastMarks [o, o'] [b, d] = false) :
    PE X (.Compare a [o, o'] [b, d] pos) (tG c (rD c) fun ρ => bR (chainB o o' f g h ρ)) :=
  (pe_chain (or_cmp hK hu o) (or_cmp hK hu o') ha hb hd hm).imp fun σ H Q q => by
    obtain ⟨ρ, Hf, S, A⟩ := tG_bR q
    unfold chainB at A
    refine ⟨ρ, Hf, S, A.bind.imp fun x H1 ⟨Hf1, d, S1, g1, r1, _, A1⟩ => ⟨ρ, Hf1, S1, A1.bind.imp fun y H2 ⟨Hf2, e, S2, g2, r2, _, A2⟩ => ⟨ρ, Hf2, σ, d, e, S2, RepR.mono g2 r1, r2, ?_⟩⟩⟩
    refine (A2.bind (rel := rB)).imp fun k H3 ⟨Hf3, k', S3, g3, r3, _, A3⟩ => ⟨k, rfl, ?_⟩
    cases r3
    cases k with
    | true =>
      rw [if_pos rfl] at A3 ⊢
      exact ⟨ρ, Hf3, S3, A3.bind.imp fun z H4 ⟨Hf4, m, S4, g4, r4, _, A4⟩ => ⟨ρ, Hf4, σ, e, m, S4, RepR.mono g4 (RepR.mono g3 r2), r4, A4⟩⟩
    | false =>
      rw [if_neg (by decide)] at A3 ⊢
      exact A3.ret S3 rfl

/-! ### and, or, not, if -/
def andB (f g : List Sl → R Bool) : List Sl → R Bool := fun ρ => do let k ← f ρ; if k = true then g ρ else .ok false
def orB (f g : List Sl → R Bool) : List Sl → R Bool := fun ρ => do let k ← f ρ; if k = true then .ok true else g ρ
variable {p q r : List Sl → R Bool} {rest : List Expr}
theorem seqB {α β : Type} {rel : α → β → Hp → Hp → Prop} {k : Bool → List Sl → R α} {σ : L2.St} {H : Hp} {Q : β → Hp → Prop} (A : tG c rel (fun ρ => do let x ← p ρ; k x ρ) σ H Q) :
    tG c rB p σ H fun x H1 => tG c rel (k x) σ H1 Q := by
  obtain ⟨ρ, Hf, S, A⟩ := A
  refine ⟨ρ, Hf, S, A.bind.imp fun x H1 ⟨Hf1, d, S1, g1, r1, _, A1⟩ => ?_⟩
  cases r1
  exact ⟨ρ, Hf1, S1, A1⟩
theorem tG_ok {α β : Type} {rel : α → β → Hp → Hp → Prop} {d : α} {v : β} {σ : L2.St} {H : Hp} {Q : β → Hp → Prop} (A : tG c rel (fun _ => .ok d) σ H Q) (r : ∀ Hf H, rel d v Hf H) : Q v H := by
  obtain ⟨ρ, Hf, S, A⟩ := A
  exact A.ret S (r _ _)
theorem pw_andD (ha : PT X a (tG c rB p)) (hb : PW X (.BoolOp .And (b :: rest) pos) (tG c rB q)) : PW X (.BoolOp .And (a :: b :: rest) pos) (tG c rB (andB p q)) := (pw_and ha hb).imp fun σ H Q A => by
  have A := seqB (k := fun k ρ => if k = true then q ρ else .ok false) A
  obtain ⟨ρ, Hf, S, A⟩ := A
  refine ⟨ρ, Hf, S, A.imp fun k H1 A1 => ?_⟩
  cases k with
  | true => exact A1
  | false => exact tG_ok (rel := rB) A1 fun _ _ => rfl
theorem pw_orD (ha : PT X a (tG c rB p)) (hb : PW X (.BoolOp .Or (b :: rest) pos) (tG c rB q)) : PW X (.BoolOp .Or (a :: b :: rest) pos) (tG c rB (orB p q)) := (pw_or ha hb).imp fun σ H Q A => by
  have A := seqB (k := fun k ρ => if k = true then .ok true else q ρ) A
  obtain ⟨ρ, Hf, S, A⟩ := A
  refine ⟨ρ, Hf, S, A.imp fun k H1 A1 => ?_⟩
  cases k with
  | true => exact tG_ok (rel := rB) A1 fun _ _ => rfl
  | false => exact A1
theorem pt_notD (ha : PT X a (tG c rB p)) : PT X (.UnaryOp .Not a pos) (tG c rB fun ρ => do let k ← p ρ; .ok (!k)) := (pt_not ha).imp fun σ H Q A => by
  obtain ⟨ρ, Hf, S, A⟩ := seqB (k := fun k _ => .ok (!k)) A
  exact ⟨ρ, Hf, S, A.imp fun k H1 A1 => tG_ok (rel := rB) A1 fun _ _ => rfl⟩
/-- a value of True, False out of its reading -/
theorem bool_v {σ : L2.St} {H : Hp} {α β : Type} {rel : α → β → Hp → Hp → Prop} {k : Bool → List Sl → R α} {Q : β → Hp → Prop} (A : tG c rel (fun ρ => do let x ← p ρ; k x ρ) σ H Q) :
    tG c (rD c) (fun ρ => bR (p ρ)) σ H fun x H1 => ∃ b, x = .bl b ∧ tG c rel (k b) σ H1 Q := by
  obtain ⟨ρ, Hf, S, A⟩ := seqB (p := p) A
  refine ⟨ρ, Hf, S, ?_⟩
  show At c (rD c) (bR (p ρ)) ρ Hf σ H _
  generalize p ρ = r0 at A ⊢
  cases r0 with
  | ok b =>
    intro v H' Hf' S' g r
    obtain rfl : v = .bl b := r
    exact ⟨b, rfl, A b H' Hf' S' g rfl⟩
  | exc k fs => exact A
  | stuck => exact A
theorem bR_bind {r : R Bool} {k : Bool → R Bool} : bR (r >>= k) = (r >>= fun x => bR (k x)) := by cases r <;> rfl
theorem pe_andD (ha : PE X a (tG c (rD c) fun ρ => bR (p ρ))) (hb : PE X (.BoolOp .And (b :: rest) pos) (tG c (rD c) fun ρ => bR (q ρ))) : PE X (.BoolOp .And (a :: b :: rest) pos) (tG c (rD c) fun ρ => bR (andB p q ρ)) := (pe_and ha hb).imp fun σ H Q A => by
  unfold andB at A
  simp only [bR_bind] at A
  obtain ⟨ρ, Hf, S, A⟩ := bool_v (p := p) (k := fun k ρ => bR (if k = true then q ρ else .ok false)) A
  refine ⟨ρ, Hf, S, A.imp fun v H1 ⟨k, e, A1⟩ => ⟨k, e, ?_⟩⟩
  cases k with
  | true => exact A1
  | false => exact tG_ok (rel := rD c) (d := .bl false) A1 fun _ _ => rfl
theorem pe_orD (ha : PE X a (tG c (rD c) fun ρ => bR (p ρ))) (hb : PE X (.BoolOp .Or (b :: rest) pos) (tG c (rD c) fun ρ => bR (q ρ))) : PE X (.BoolOp .Or (a :: b :: rest) pos) (tG c (rD c) fun ρ => bR (orB p q ρ)) := (pe_or ha hb).imp fun σ H Q A => by
  unfold orB at A
  simp only [bR_bind] at A
  obtain ⟨ρ, Hf, S, A⟩ := bool_v (p := p) (k := fun k ρ => bR (if k = true then .ok true else q ρ)) A
  refine ⟨ρ, Hf, S, A.imp fun v H1 ⟨k, e, A1⟩ => ⟨k, e, ?_⟩⟩
  cases k with
  | true => exact tG_ok (rel := rD c) (d := .bl true) A1 fun _ _ => rfl
  | false => exact A1
theorem pe_notD (ha : PE X a (tG c (rD c) fun ρ => bR (p ρ))) : PE X (.UnaryOp .Not a pos) (tG c (rD c) fun ρ => bR (do let k ← p ρ; .ok (!k))) := (pe_not ha).imp fun σ H Q A => by
  simp only [bR_bind] at A
  obtain ⟨ρ, Hf, S, A⟩ := bool_v (p := p) (k := fun k ρ => bR (.ok (!k))) A
  exact ⟨ρ, Hf, S, A.imp fun v H1 ⟨k, e, A1⟩ => ⟨k, e, tG_ok (rel := rD c) (d := .bl (!k)) A1 fun _ _ => rfl⟩⟩
theorem pe_ifD (ht : PT X e (tG c rB p)) (ha : PE X a (tG c (rD c) f)) (hb : PE X b (tG c (rD c) g)) : PE X (.IfExp e a b pos) (tG c (rD c) fun ρ => do let k ← p ρ; if k = true then f ρ else g ρ) := (pe_ifExp ht ha hb).imp fun σ H Q A => by
  obtain ⟨ρ, Hf, S, A⟩ := seqB (p := p) (k := fun k ρ => if k = true then f ρ else g ρ) A
  refine ⟨ρ, Hf, S, A.imp fun k H1 A1 => ?_⟩
  cases k with
  | true => exact A1
  | false => exact A1
def negD : D → R D
  | .int i => .ok (.int (-i))
  | _ => .stuck
theorem pe_negD (ha : PE X a (tG c (rR c) f)) : PE X (.UnaryOp .USub a pos) (tG c (rD c) fun ρ => do let x ← f ρ; negD x) := (pe_un un_neg ha).imp fun σ H Q A => seq1 (r := rU fun i => .int (-i)) (fun ρ Hf H σ x d Q S r A => by
  cases d with
  | int i =>
    obtain rfl : x = .int i := r
    exact ⟨i, rfl, A.ret S rfl⟩
  | _ => exact A.elim) A
end
end DS
set_option maxHeartbeats 2000000
noncomputable section
namespace DS
open PySem L2
/-! ### subscripts -/
def ofO (o : Option D) : R D := match o with | some d => .ok d | none => .stuck
def idxD : D → D → R D
  | .lst xs, .int i => ofO (atI xs i)
  | .tup xs, .int i => ofO (atI xs i)
  | .scr ns, .int i => ofO ((atI ns i).map D.int)
  | .str z, .int i => lim z.length (ofO ((atI z.cps.toList i).map fun k => D.str ⟨#[k]⟩))
  | _, _ => .stuck
section
variable {c : Ctx} {X : Cx} {a b e : Expr} {f g h : List Sl → R D} {pos : Pos}
theorem ofO_cases {o : Option D} {ρ : List Sl} {Hf H : Hp} {σ : L2.St} {Q : VK} (A : At c (rD c) (ofO o) ρ Hf σ H Q) : ∃ d, o = some d ∧ At c (rD c) (.ok d) ρ Hf σ H Q := by
  cases o with
  | some d => exact ⟨d, rfl, A⟩
  | none => exact A.elim
theorem atI_rep {Hf : Hp} {ds : List D} {xs : List V} {i : Int} {d : D} (h : c.RepL Hf ds xs) (e : atI ds i = some d) : ∃ x, atI xs i = some x ∧ c.Rep Hf d x := by
  unfold atI at e ⊢
  rw [RepL.length h]
  cases q : ixN ds.length i with
  | none => rw [q] at e; cases e
  | some j =>
    rw [q] at e
    exact RepL.get' h e
theorem atI_map {α β : Type} (f : α → β) (xs : List α) (i : Int) : atI (xs.map f) i = (atI xs i).map f := by
  unfold atI
  rw [List.length_map]
  cases ixN xs.length i with
  | none => rfl
  | some j => simp
theorem ixr_idx (hK : X.K = c.K) : IxR X (rOp c idxD) := by
  intro value slice pins s σ' H x y v u Q I rx ry ⟨ρ, Hf, σ, d, e, S, hd, he, A⟩ hs
  unfold idxD at A
  split at A
  · obtain rfl : y = .int _ := he
    obtain ⟨z, e1, A⟩ := ofO_cases A
    obtain ⟨p, vs, rfl, q1, q2⟩ := hd
    obtain ⟨w, e2, r2⟩ := atI_rep q2 e1
    exact ix_list value slice pins s σ' H _ _ v u Q I rx ry ⟨p, vs, _, w, rfl, rfl, .of q1, e2, A.ret S r2⟩ hs
  · obtain rfl : y = .int _ := he
    obtain ⟨z, e1, A⟩ := ofO_cases A
    obtain ⟨p, vs, rfl, q1, q2⟩ := hd
    obtain ⟨w, e2, r2⟩ := atI_rep q2 e1
    exact ix_tup value slice pins s σ' H _ _ v u Q I rx ry ⟨p, vs, _, w, rfl, rfl, by rw [hK]; exact same_seqT S.gr.le q1, e2, A.ret S r2⟩ hs
  · obtain rfl : y = .int _ := he
    obtain ⟨z, e1, A⟩ := ofO_cases A
    obtain ⟨p, rfl, q1⟩ := hd
    have q1 := S.gr.le.seq q1
    obtain ⟨n, e2, rfl⟩ := Option.map_eq_some_iff.mp e1
    exact ix_list value slice pins s σ' H _ _ v u Q I rx ry ⟨p, _, _, .int n, rfl, rfl, by rw [hK]; exact q1, by rw [atI_map, e2]; rfl, A.ret S rfl⟩ hs
  · obtain rfl : x = .str _ := hd
    obtain rfl : y = .int _ := he
    obtain ⟨hl, A⟩ := lim_cases A
    obtain ⟨z, e1, A⟩ := ofO_cases A
    obtain ⟨n, e2, rfl⟩ := Option.map_eq_some_iff.mp e1
    exact ix_str value slice pins s σ' H _ _ v u Q I rx ry ⟨_, _, n, rfl, rfl, hl, e2, A.ret S rfl⟩ hs
  · exact A.elim
theorem pe_idxD (hK : X.K = c.K) (hs : PlainIx b) (ha : PE X a (tG c (rR c) f)) (hb : PE X b (tG c (rR c) g)) : PE X (.Subscript a b pos) (tG c (rD c) fun ρ => do let x ← f ρ; let y ← g ρ; idxD x y) :=
  pe_ix2 (@mono_rR c) (ixr_idx hK) hs (rOp_d2 idxD) ha hb

/-! ### slices -/
def cutA {α : Type} (xs : List α) (lo hi : Option Int) : List α := (xs.drop (HT.sIx xs.length 0 lo)).take (HT.sIx xs.length xs.length hi - HT.sIx xs.length 0 lo)
def slcD : D → Option Int → Option Int → R D
  | .lst xs, lo, hi => .ok (.lst (cutA xs lo hi))
  | .tup xs, lo, hi => .ok (.tup (cutA xs lo hi))
  | .scr ns, lo, hi => .ok (.lst ((cutA ns lo hi).map D.int))
  | .str z, lo, hi => lim z.length (.ok (.str (cutS z lo hi)))
  | _, _, _ => .stuck
theorem cut_rep {Hf : Hp} {ds : List D} {xs : List V} {lo hi : Option Int} (h : c.RepL Hf ds xs) : c.RepL Hf (cutA ds lo hi) (cutV xs lo hi) := by
  unfold cutA cutV
  rw [RepL.length h]
  exact (h.drop _).take _
theorem cutA_map {α β : Type} (f : α → β) (xs : List α) (lo hi : Option Int) : cutA (xs.map f) lo hi = (cutA xs lo hi).map f := by
  unfold cutA
  rw [List.length_map, List.map_take, List.map_drop]
theorem cutA_whole {α : Type} (xs : List α) (lo hi : Option Int) (h : HT.sIx xs.length 0 lo = 0 ∧ HT.sIx xs.length xs.length hi = xs.length) : cutA xs lo hi = xs := by
  unfold cutA
  rw [h.1, h.2]
  simp
def rSl (c : Ctx) : V → Option Int → Option Int → Hp → VK → Prop := fun x lo hi H Q => ∃ ρ Hf σ d, c.SS ρ Hf σ H ∧ RepR c Hf H d x ∧ At c (rD c) (slcD d lo hi) ρ Hf σ H Q
theorem slr (hK : X.K = c.K) : SlR X (rSl c) := by
  intro pins s σ' H x v vl vu lo hi sl Q I rx hs pl pu ⟨ρ, Hf, σ, d, S, hd, A⟩
  unfold slcD at A
  split at A
  · obtain ⟨p, vs, rfl, q1, q2⟩ := hd
    exact sl_list pins s σ' H _ v vl vu lo hi sl Q I rx hs pl pu ⟨p, vs, rfl, .of q1, At.newLst A S (cut_rep q2)⟩
  · obtain ⟨p, vs, rfl, q1, q2⟩ := hd
    refine sl_tupA pins s σ' H _ v vl vu lo hi sl Q I rx hs pl pu ⟨p, vs, rfl, by rw [hK]; exact same_seqT S.gr.le q1, fun hw => ?_, fun _ => At.newTup A S (cut_rep q2)⟩
    rw [RepL.length q2] at hw
    rw [cutA_whole _ _ _ hw] at A
    exact A.ret S ⟨p, vs, rfl, q1, q2⟩
  · obtain ⟨p, rfl, q1⟩ := hd
    have q1 := S.gr.le.seq q1
    refine sl_list pins s σ' H _ v vl vu lo hi sl Q I rx hs pl pu ⟨p, _, rfl, by rw [hK]; exact q1, At.newLst A S ?_⟩
    exact RepL.ints.mpr (cutA_map V.int _ lo hi)
  · obtain rfl : x = .str _ := hd
    obtain ⟨hl, A⟩ := lim_cases A
    exact sl_str pins s σ' H _ v vl vu lo hi sl Q I rx hs pl pu ⟨_, rfl, hl, A.ret S rfl⟩
  · exact A.elim
def toI : D → R (Option Int)
  | .int i => .ok (some i)
  | _ => .stuck
def rO : Option Int → Option Int → Hp → Hp → Prop := fun a b _ _ => a = b
theorem po_noneD : PO X none (tG c rO fun _ => .ok none) := ⟨fun pins s σ H Q I h => po_none.run pins s σ H Q I (by obtain ⟨ρ, Hf, S, A⟩ := h; exact A.ret S rfl)⟩
theorem po_someD (ha : PE X a (tG c (rR c) f)) : PO X (some a) (tG c rO fun ρ => do let x ← f ρ; toI x) := ⟨fun pins s σ H Q I h => (po_some ha).run pins s σ H Q I (by
  obtain ⟨ρ, Hf, S, A⟩ := h
  refine ⟨ρ, Hf, S, A.bind.imp fun x H1 ⟨Hf1, d, S1, g1, r1, _, A1⟩ => ?_⟩
  cases d with
  | int i =>
    obtain rfl : x = .int i := r1
    exact ⟨i, rfl, A1.ret S1 rfl⟩
  | _ => exact A1.elim)⟩
variable {lo hi : Option Expr} {fl fh : List Sl → R (Option Int)} {p2 : Pos}
theorem pe_slcD (hK : X.K = c.K) (ha : PE X a (tG c (rR c) f)) (hl : PO X lo (tG c rO fl)) (hh : PO X hi (tG c rO fh)) :
    PE X (.Subscript a (.Slice lo hi none p2) pos) (tG c (rD c) fun ρ => do let x ← f ρ; let l ← fl ρ; let u ← fh ρ; slcD x l u) := (pe_slice (slr hK) ha hl hh).imp fun σ H Q ⟨ρ, Hf, S, A⟩ => by
  refine ⟨ρ, Hf, S, A.bind.imp fun x H1 ⟨Hf1, d, S1, g1, r1, _, A1⟩ => ⟨ρ, Hf1, S1, A1.bind.imp fun l H2 ⟨Hf2, l', S2, g2, r2, _, A2⟩ => ⟨ρ, Hf2, S2, A2.bind.imp fun u H3 ⟨Hf3, u', S3, g3, r3, _, A3⟩ => ?_⟩⟩⟩
  cases r2
  cases r3
  exact ⟨ρ, Hf3, σ, d, S3, RepR.mono g3 (RepR.mono g2 r1), A3⟩

/-! ### calls of built-ins -/
def rC (c : Ctx) (g : List D → R D) : List V → Hp → VK → Prop := fun xs H Q => ∃ ρ Hf σ ds, c.SS ρ Hf σ H ∧ rLs (rR c) ds xs Hf H ∧ At c (rD c) (g ds) ρ Hf σ H Q
variable {es : List Expr} {fs : List Sl → R (List D)} {x : Str} {p : Pos} {id T : String} {gg : List D → R D}
theorem tCB_of {σ : L2.St} {H : Hp} {Q : VK} (h : tG c (rD c) (fun ρ => do let xs ← fs ρ; gg xs) σ H Q) : tCB (rC c gg) (tG c (rLs (rR c)) fs) σ H Q := by
  obtain ⟨ρ, Hf, S, A⟩ := h
  exact ⟨ρ, Hf, S, A.bind.imp fun xs H1 ⟨Hf1, ds, S1, g1, r1, _, A1⟩ => ⟨ρ, Hf1, σ, ds, S1, r1, A1⟩⟩
theorem rLs1 {re : D → V → Hp → Hp → Prop} {d : D} {xs : List V} {Hf H : Hp} (h : rLs re [d] xs Hf H) : ∃ x, xs = [x] ∧ re d x Hf H := by
  obtain ⟨x, r, rfl, h1, h2⟩ := h
  have h2 : r = [] := h2
  subst h2
  exact ⟨x, rfl, h1⟩
theorem rLs2 {re : D → V → Hp → Hp → Prop} {d e : D} {xs : List V} {Hf H : Hp} (h : rLs re [d, e] xs Hf H) : ∃ x y, xs = [x, y] ∧ re d x Hf H ∧ re e y Hf H := by
  obtain ⟨x, r, rfl, h1, h2⟩ := h
  obtain ⟨y, rfl, h3⟩ := rLs1 h2
  exact ⟨x, y, rfl, h1, h3⟩
def lenD : List D → R D
  | [.lst xs] => .ok (.int xs.length)
  | [.tup xs] => .ok (.int xs.length)
  | [.scr xs] => .ok (.int xs.length)
  | [.dct xs] => .ok (.int xs.length)
  | [.str z] => lim z.length (.ok (.int z.length))
  | _ => .stuck
def absD : List D → R D
  | [.int i] => .ok (.int (if i < 0 then -i else i))
  | _ => .stuck
def intD : List D → R D
  | [.int i] => .ok (.int i)
  | [.bl k] => .ok (.int (if k then 1 else 0))
  | _ => .stuck
def bools : List D → Option (List Bool)
  | [] => some []
  | .bl b :: r => (bools r).map (b :: ·)
  | _ => none
def intsOf : List D → Option (List Int)
  | [] => some []
  | .int b :: r => (intsOf r).map (b :: ·)
  | _ => none
def ofOp {α : Type} (o : Option α) (k : α → R D) : R D := match o with | some a => k a | none => .stuck
def allD : List D → R D
  | [.lst xs] => ofOp (bools xs) fun bs => .ok (.bl (bs.all _root_.id))
  | _ => .stuck
def anyD : List D → R D
  | [.lst xs] => ofOp (bools xs) fun bs => .ok (.bl (bs.any _root_.id))
  | _ => .stuck
def sumD : List D → R D
  | [.lst xs] => ofOp (intsOf xs) fun ns => .ok (.int ns.sum)
  | _ => .stuck
def listD : List D → R D
  | [.lst xs] => .ok (.lst xs)
  | [.tup xs] => .ok (.lst xs)
  | [.scr ns] => .ok (.lst (ns.map D.int))
  | [.dct kvs] => .ok (.lst (kvs.map fun kv => match kv.1 with | .inl i => .int i | .inr s => .str s))
  | _ => .stuck
def tupleD : List D → R D
  | [.lst xs] => .ok (.tup xs)
  | [.tup xs] => .ok (.tup xs)
  | _ => .stuck
def min2D : List D → R D
  | [.int i, .int j] => .ok (.int (if j < i then j else i))
  | _ => .stuck
def max2D : List D → R D
  | [.int i, .int j] => .ok (.int (if j > i then j else i))
  | _ => .stuck
def strD : List D → R D
  | [.int i] => if i.natAbs.log2 < 1920 then .ok (.str (toString i)) else .stuck
  | _ => .stuck
theorem bools_rep {Hf : Hp} : ∀ {ds : List D} {xs : List V} {bs : List Bool}, c.RepL Hf ds xs → bools ds = some bs → xs = bs.map V.bl
  | [], xs, bs, h, e => by
    have h : xs = [] := h
    cases e; exact h
  | d :: ds, xs, bs, ⟨x, r, e1, h1, h2⟩, e => by
    cases d with
    | bl b =>
      obtain ⟨l, e2, rfl⟩ := Option.map_eq_some_iff.mp e
      have h1 : x = .bl b := h1
      rw [e1, h1, bools_rep h2 e2]
      rfl
    | _ => cases e
theorem intsOf_rep {Hf : Hp} : ∀ {ds : List D} {xs : List V} {bs : List Int}, c.RepL Hf ds xs → intsOf ds = some bs → xs = bs.map V.int
  | [], xs, bs, h, e => by
    have h : xs = [] := h
    cases e; exact h
  | d :: ds, xs, bs, ⟨x, r, e1, h1, h2⟩, e => by
    cases d with
    | int b =>
      obtain ⟨l, e2, rfl⟩ := Option.map_eq_some_iff.mp e
      have h1 : x = .int b := h1
      rw [e1, h1, intsOf_rep h2 e2]
      rfl
    | _ => cases e
theorem ofOp_cases {α : Type} {o : Option α} {k : α → R D} {ρ : List Sl} {Hf H : Hp} {σ : L2.St} {Q : VK} (A : At c (rD c) (ofOp o k) ρ Hf σ H Q) : ∃ d, o = some d ∧ At c (rD c) (k d) ρ Hf σ H Q := by
  cases o with
  | some d => exact ⟨d, rfl, A⟩
  | none => exact A.elim
theorem rep_keys {Hf : Hp} : ∀ {ds : List (Key × D)} {kvs : List (Key × V)}, RepK c.K c.C Hf ds kvs → c.RepL Hf (ds.map fun kv => match kv.1 with | .inl i => .int i | .inr s => .str s) (kvs.map fun kv => kV kv.1)
  | [], kvs, h => by have h : kvs = [] := h; subst h; rfl
  | (k, d) :: ds, kvs, ⟨x, r, e1, h1, h2⟩ => by
    subst e1
    refine ⟨kV k, _, rfl, ?_, rep_keys h2⟩
    cases k with
    | inl i => rfl
    | inr s => rfl
theorem cr_len (hK : X.K = c.K) : CallR X (.builtin "len") (rC c lenD) := by
  intro pins s σ' H xs us Q I r ⟨ρ, Hf, σ, ds, S, hd, A⟩
  unfold lenD at A
  split at A
  · obtain ⟨x, rfl, h⟩ := rLs1 hd
    obtain ⟨p, vs, rfl, q1, q2⟩ := h
    exact call_len_seq pins s σ' H _ us Q I r ⟨p, vs, rfl, .inl (.of q1), by rw [RepL.length q2]; exact A.ret S rfl⟩
  · obtain ⟨x, rfl, h⟩ := rLs1 hd
    obtain ⟨p, vs, rfl, q1, q2⟩ := h
    exact call_len_seq pins s σ' H _ us Q I r ⟨p, vs, rfl, .inr (by rw [hK]; exact same_seqT S.gr.le q1), by rw [RepL.length q2]; exact A.ret S rfl⟩
  · obtain ⟨x, rfl, h⟩ := rLs1 hd
    obtain ⟨p, rfl, q1⟩ := h
    exact call_len_seq pins s σ' H _ us Q I r ⟨p, _, rfl, .inl (by rw [hK]; exact S.gr.le.seq q1), by rw [List.length_map]; exact A.ret S rfl⟩
  · obtain ⟨x, rfl, h⟩ := rLs1 hd
    obtain ⟨p, kvs, rfl, q1, q2⟩ := h
    have hl : ∀ {ds : List (Key × D)} {kvs : List (Key × V)}, RepK c.K c.C Hf ds kvs → kvs.length = ds.length := by
      intro ds
      induction ds with
      | nil => intro kvs h; have h : kvs = [] := h; subst h; rfl
      | cons kd ds ih =>
        intro kvs h
        obtain ⟨k, d⟩ := kd
        obtain ⟨x, r, e1, h1, h2⟩ := h
        subst e1
        simp [ih h2]
    exact call_lenD pins s σ' H _ us Q I r ⟨p, kvs, rfl, q1, by rw [hl q2]; exact A.ret S rfl⟩
  · obtain ⟨x, rfl, h⟩ := rLs1 hd
    obtain rfl : x = .str _ := h
    obtain ⟨hl, A⟩ := lim_cases A
    exact call_len_str pins s σ' H _ us Q I r ⟨_, rfl, hl, A.ret S rfl⟩
  · exact A.elim
theorem cr_abs : CallR X (.builtin "abs") (rC c absD) := by
  intro pins s σ' H xs us Q I r ⟨ρ, Hf, σ, ds, S, hd, A⟩
  unfold absD at A
  split at A
  · obtain ⟨x, rfl, h⟩ := rLs1 hd
    obtain rfl : x = .int _ := h
    exact call_abs pins s σ' H _ us Q I r ⟨_, rfl, A.ret S rfl⟩
  · exact A.elim
theorem cr_int : CallR X (.type "int") (rC c intD) := by
  intro pins s σ' H xs us Q I r ⟨ρ, Hf, σ, ds, S, hd, A⟩
  unfold intD at A
  split at A
  · obtain ⟨x, rfl, h⟩ := rLs1 hd
    obtain rfl : x = .int _ := h
    exact call_int1 pins s σ' H _ us Q I r (.inl ⟨_, rfl, A.ret S rfl⟩)
  · obtain ⟨x, rfl, h⟩ := rLs1 hd
    obtain rfl : x = .bl _ := h
    exact call_int1 pins s σ' H _ us Q I r (.inr ⟨_, rfl, A.ret S rfl⟩)
  · exact A.elim
theorem cr_str : CallR X (.type "str") (rC c strD) := by
  intro pins s σ' H xs us Q I r ⟨ρ, Hf, σ, ds, S, hd, A⟩
  unfold strD at A
  split at A
  · obtain ⟨x, rfl, h⟩ := rLs1 hd
    obtain rfl : x = .int _ := h
    obtain ⟨hl, A⟩ := if_cases A
    exact call_str_int pins s σ' H _ us Q I r ⟨_, rfl, hl, A.ret S rfl⟩
  · exact A.elim
theorem cr_allD (hc : X.calm = true) (hK : X.K = c.K) : CallR X (.builtin "all") (rC c allD) := by
  intro pins s σ' H xs us Q I r ⟨ρ, Hf, σ, ds, S, hd, A⟩
  unfold allD at A
  split at A
  · obtain ⟨x, rfl, h⟩ := rLs1 hd
    obtain ⟨p, vs, rfl, q1, q2⟩ := h
    obtain ⟨bs, e, A⟩ := ofOp_cases A
    have e2 := bools_rep q2 e
    subst e2
    exact cr_all hc pins s σ' H _ us Q I r ⟨p, bs, rfl, .of q1, A.ret S rfl⟩
  · exact A.elim
theorem cr_anyD (hc : X.calm = true) (hK : X.K = c.K) : CallR X (.builtin "any") (rC c anyD) := by
  intro pins s σ' H xs us Q I r ⟨ρ, Hf, σ, ds, S, hd, A⟩
  unfold anyD at A
  split at A
  · obtain ⟨x, rfl, h⟩ := rLs1 hd
    obtain ⟨p, vs, rfl, q1, q2⟩ := h
    obtain ⟨bs, e, A⟩ := ofOp_cases A
    have e2 := bools_rep q2 e
    subst e2
    exact cr_any hc pins s σ' H _ us Q I r ⟨p, bs, rfl, .of q1, A.ret S rfl⟩
  · exact A.elim
theorem cr_sumD (hc : X.calm = true) (hK : X.K = c.K) : CallR X (.builtin "sum") (rC c sumD) := by
  intro pins s σ' H xs us Q I r ⟨ρ, Hf, σ, ds, S, hd, A⟩
  unfold sumD at A
  split at A
  · obtain ⟨x, rfl, h⟩ := rLs1 hd
    obtain ⟨p, vs, rfl, q1, q2⟩ := h
    obtain ⟨bs, e, A⟩ := ofOp_cases A
    have e2 := intsOf_rep q2 e
    subst e2
    exact cr_sum hc pins s σ' H _ us Q I r ⟨p, bs, rfl, .of q1, A.ret S rfl⟩
  · exact A.elim
theorem cr_list (hc : X.calm = true) (hK : X.K = c.K) : CallR X (.type "list") (rC c listD) := by
  intro pins s σ' H xs us Q I r ⟨ρ, Hf, σ, ds, S, hd, A⟩
  unfold listD at A
  split at A
  · obtain ⟨x, rfl, h⟩ := rLs1 hd
    obtain ⟨p, vs, rfl, q1, q2⟩ := h
    exact call_list_of pins s σ' H _ us Q I r ⟨p, vs, rfl, .inl (.of q1), At.newLst A S q2⟩
  · obtain ⟨x, rfl, h⟩ := rLs1 hd
    obtain ⟨p, vs, rfl, q1, q2⟩ := h
    exact call_list_of pins s σ' H _ us Q I r ⟨p, vs, rfl, .inr (by rw [hK]; exact same_seqT S.gr.le q1), At.newLst A S q2⟩
  · obtain ⟨x, rfl, h⟩ := rLs1 hd
    obtain ⟨p, rfl, q1⟩ := h
    exact call_list_of pins s σ' H _ us Q I r ⟨p, _, rfl, .inl (by rw [hK]; exact S.gr.le.seq q1), At.newLst A S (RepL.ints.mpr rfl)⟩
  · obtain ⟨x, rfl, h⟩ := rLs1 hd
    obtain ⟨p, kvs, rfl, q1, q2⟩ := h
    exact call_listD hc pins s σ' H _ us Q I r ⟨p, kvs, rfl, .of q1, At.newLst A S (rep_keys q2)⟩
  · exact A.elim
theorem cr_tuple (hK : X.K = c.K) : CallR X (.type "tuple") (rC c tupleD) := by
  intro pins s σ' H xs us Q I r ⟨ρ, Hf, σ, ds, S, hd, A⟩
  unfold tupleD at A
  split at A
  · obtain ⟨x, rfl, h⟩ := rLs1 hd
    obtain ⟨p, vs, rfl, q1, q2⟩ := h
    exact call_tuple_of pins s σ' H _ us Q I r ⟨p, vs, rfl, .inl ⟨.of q1, At.newTup A S q2⟩⟩
  · obtain ⟨x, rfl, h⟩ := rLs1 hd
    obtain ⟨p, vs, rfl, q1, q2⟩ := h
    exact call_tuple_of pins s σ' H _ us Q I r ⟨p, vs, rfl, .inr ⟨by rw [hK]; exact same_seqT S.gr.le q1, A.ret S ⟨p, vs, rfl, q1, q2⟩⟩⟩
  · exact A.elim
theorem cr_min2 (hc : X.calm = true) : CallR X (.builtin "min") (rC c min2D) := by
  intro pins s σ' H xs us Q I r ⟨ρ, Hf, σ, ds, S, hd, A⟩
  unfold min2D at A
  split at A
  · obtain ⟨x, y, rfl, h1, h2⟩ := rLs2 hd
    obtain rfl : x = .int _ := h1
    obtain rfl : y = .int _ := h2
    exact call_min2 hc pins s σ' H _ us Q I r ⟨_, _, rfl, A.ret S rfl⟩
  · exact A.elim
theorem cr_max2 (hc : X.calm = true) : CallR X (.builtin "max") (rC c max2D) := by
  intro pins s σ' H xs us Q I r ⟨ρ, Hf, σ, ds, S, hd, A⟩
  unfold max2D at A
  split at A
  · obtain ⟨x, y, rfl, h1, h2⟩ := rLs2 hd
    obtain rfl : x = .int _ := h1
    obtain rfl : y = .int _ := h2
    exact call_max2 hc pins s σ' H _ us Q I r ⟨_, _, rfl, A.ret S rfl⟩
  · exact A.elim
/-- the built-ins by name -/
def fnD : String → List D → R D
  | "len" => lenD | "abs" => absD | "all" => allD | "any" => anyD | "sum" => sumD | "min" => min2D | "max" => max2D
  | _ => fun _ => .stuck
def tyD : String → List D → R D
  | "int" => intD | "str" => strD | "list" => listD | "tuple" => tupleD
  | _ => fun _ => .stuck
theorem cr_fn (hc : X.calm = true) (hK : X.K = c.K) (n : String) : CallR X (.builtin n) (rC c (fnD n)) := by
  unfold fnD
  split
  · exact cr_len hK
  · exact cr_abs
  · exact cr_allD hc hK
  · exact cr_anyD hc hK
  · exact cr_sumD hc hK
  · exact cr_min2 hc
  · exact cr_max2 hc
  · intro pins s σ' H xs us Q I r ⟨ρ, Hf, σ, ds, S, hd, A⟩
    exact A.elim
theorem cr_ty (hc : X.calm = true) (hK : X.K = c.K) (n : String) : CallR X (.type n) (rC c (tyD n)) := by
  unfold tyD
  split
  · exact cr_int
  · exact cr_str
  · exact cr_list hc hK
  · exact cr_tuple hK
  · intro pins s σ' H xs us Q I r ⟨ρ, Hf, σ, ds, S, hd, A⟩
    exact A.elim
end
end DS
set_option maxHeartbeats 2000000
noncomputable section
namespace DS
open PySem L2
/-! ### what a def promises, by data -/
def spD (K : PySem.W.Frag) (C : Nat → Addr) (n : Nat) (Φ : List D → R D) : Sp := fun vs H Q E => ∃ ds Hf, Same Hf H ∧ RepL K C Hf ds vs ∧ ds.length = n ∧
  match Φ ds with
  | .ok d => ∀ v H' Hf', Gr H Hf Hf' H' → Rep K C Hf' d v → Q v H'
  | .exc k fs => ∀ d H' Hf', Gr H Hf Hf' H' → ExcAt K C Hf' H' fs d → E (.ref (C k)) d H'
  | .stuck => False
/-- a def of the module, called by its name x: at most level k, n arguments -/
structure Callee (P : Program) (w : World) (K : PySem.W.Frag) (C : Nat → Addr) (mg : Str → Option Value) (base : Heap) (k : Nat) (x : Str) (n : Nat) (Φ : List D → R D) : Prop where
  ex : ∃ f fd ps, mg x = some (.ref f) ∧ PySem.W.keepIn K (.ref f) = true ∧ Binds K fd ps [] ∧ FnOk P w K mg base (L2.CX P w) k f fd ps (spD K C n Φ)
section
variable {c : Ctx} {X : Cx} {a b e : Expr} {es : List Expr} {f g h : List Sl → R D} {fs : List Sl → R (List D)} {pos p : Pos} {x : Str} {k n : Nat} {Φ : List D → R D}
theorem call_sp {ρ : List Sl} {Hf H : Hp} {σ : L2.St} {vs : List V} {ds : List D} {Q : VK} (S : c.SS ρ Hf σ H) (r : c.RepL Hf ds vs) (hn : ds.length = n) (A : At c (rD c) (Φ ds) ρ Hf σ H Q) : spD c.K c.C n Φ vs H Q (WE c.W σ) := by
  refine ⟨ds, Hf, S.gr.le, r, hn, ?_⟩
  cases q : Φ ds with
  | ok d =>
    rw [q] at A
    exact fun v H' Hf' G rv => A v H' Hf' (S.go ⟨G.g0, G.f0, G.sep⟩ G.le) ⟨G.g0, G.f0, G.sep⟩ rv
  | exc k fs =>
    rw [q] at A
    exact fun d H' Hf' G rv => A d H' Hf' (S.go ⟨G.g0, G.f0, G.sep⟩ G.le) G.f0 rv
  | stuck => rw [q] at A; exact A
theorem pe_callD (hK : X.K = c.K) (tk : Takes X c.W) (hr : Room k X.A) (F : Callee X.prog X.w X.K c.C X.mg X.base k x n Φ) (hg : Gl X x) (ha : PA X (e :: es) (tG c (rLs (rD c)) fs)) (hn : ∀ ρ ds, fs ρ = .ok ds → ds.length = n)
    (hdb : (x == ("__debug__" : Str)) = false) (he : starEach (e :: es) X.env = (false, eval e X.env) :: starEach es X.env) (hpl : (backTo pos (starEach es X.env)).any (·.1) = false) :
    PE X (.Call (.Name x p) (e :: es) [] pos) (tG c (rD c) fun ρ => do let xs ← fs ρ; Φ xs) := by
  obtain ⟨fa, fd, ps, h1, h2, h3, h4⟩ := F.ex
  refine (pe_callS h4 hr hg h1 h2 h3 (fun σ => passAt tk σ) ha hdb he hpl).imp fun σ H Q ⟨ρ, Hf, S, A⟩ => ?_
  refine ⟨ρ, Hf, S, A.bind.imp fun vs H1 ⟨Hf1, ds, S1, g1, r1, eq1, A1⟩ => ?_⟩
  rw [hK]
  exact call_sp S1 (rLs_rD r1) (hn ρ ds eq1) A1
theorem pe_fnD (hc : X.calm = true) (hK : X.K = c.K) {id : String} (hg : Gl X x) (hm : X.mg x = none) (hv : bootBuiltins x = some (.builtin id)) (ha : PA X (e :: es) (tG c (rLs (rR c)) fs)) (hn : x ≠ "__name__") (hdb : (x == ("__debug__" : Str)) = false)
    (he : starEach (e :: es) X.env = (false, eval e X.env) :: starEach es X.env) (hpl : (backTo pos (starEach es X.env)).any (·.1) = false) :
    PE X (.Call (.Name x p) (e :: es) [] pos) (tG c (rD c) fun ρ => do let xs ← fs ρ; fnD id xs) := (pe_callB (cr_fn hc hK id) hg hm hv ha hn hdb he hpl).imp fun σ H Q q => tCB_of q
theorem pe_tyD (hc : X.calm = true) (hK : X.K = c.K) {id : String} (hg : Gl X x) (hm : X.mg x = none) (hv : bootBuiltins x = some (.type id)) (ha : PA X (e :: es) (tG c (rLs (rR c)) fs)) (hn : x ≠ "__name__") (hdb : (x == ("__debug__" : Str)) = false)
    (he : starEach (e :: es) X.env = (false, eval e X.env) :: starEach es X.env) (hpl : (backTo pos (starEach es X.env)).any (·.1) = false) :
    PE X (.Call (.Name x p) (e :: es) [] pos) (tG c (rD c) fun ρ => do let xs ← fs ρ; tyD id xs) := (pe_callTy (cr_ty hc hK id) hg hm hv ha hn hdb he hpl).imp fun σ H Q q => tCB_of q

/-! ### what is walked -/
theorem _root_.L2.PI.imp {X : Cx} {tg iter : Expr} {t t' : TI} (h : PI X tg iter t) (f : ∀ σ H R, t' σ H R → t σ H R) : PI X tg iter t' := ⟨fun pins s σ H R I q => h.run pins s σ H R I (f _ _ _ q)⟩
/-- J walks the data ds, as long as Fb and Hb stand -/
def Walk (c : Ctx) (J : It) (ds : List D) (Fb Hb : Hp) : Prop := ∀ ρ Hf σ H, c.SS ρ Hf σ H → Same Fb Hf → Same Hb H →
  J.stop ds.length H ∧ ∀ i d, ds[i]? = some d → J.go i H ∧ ∀ x H', J.yld i H x H' → ∃ Hf', c.SS ρ Hf' σ H' ∧ Go Hf H Hf' H' ∧ c.Rep Hf' d x
/-- the data that iter walks; fz: nobody changes it -/
def tI (c : Ctx) (fz : Bool) (src : List Sl → R (List D)) : TI := fun σ H R => ∃ ρ Hf, c.SS ρ Hf σ H ∧ match src ρ with
  | .ok ds => ∀ J Hf' H', c.SS ρ Hf' σ H' → Go Hf H Hf' H' → Walk c J ds Hf' (if fz then Hf' else H') → R J H'
  | .exc k fs => ∀ d H' Hf', c.SS ρ Hf' σ H' → Same Hf Hf' → ExcAt c.K c.C Hf' H' fs d → c.W (.ref (c.C k)) d σ H'
  | .stuck => False
theorem Walk.mono {J : It} {ds : List D} {Fb Hb Hb' : Hp} (h : Walk c J ds Fb Hb) (m : Same Hb Hb') : Walk c J ds Fb Hb' := fun ρ Hf σ H S h1 h2 => h ρ Hf σ H S h1 (m.trans h2)
theorem walk_list {a : Addr} {xs : List V} {ds : List D} {Hf Hb : Hp} (h1 : SqL c.K Hb a xs) (h2 : c.RepL Hf ds xs) : Walk c (Itl c.K a) ds Hf Hb := fun ρ F σ H S m1 m2 => by
  have q := m2.seq h1
  refine ⟨⟨xs, q, by rw [RepL.length h2]; exact Nat.le_refl _⟩, fun i d e => ?_⟩
  obtain ⟨x, e1, r1⟩ := RepL.get' h2 e
  refine ⟨⟨xs, x, q, e1⟩, fun y H' ⟨e2, e3⟩ => ?_⟩
  subst e2
  have e4 := e3 xs q
  rw [e1] at e4
  cases e4
  exact ⟨F, S, .refl _ _, Rep.mono m1 _ _ r1⟩
theorem walk_tup {a : Addr} {xs : List V} {ds : List D} {Hf Hb : Hp} (h1 : SqT c.K Hb a xs) (h2 : c.RepL Hf ds xs) : Walk c (Itt c.K a) ds Hf Hb := fun ρ F σ H S m1 m2 => by
  have q := same_seqT m2 h1
  refine ⟨⟨xs, q, by rw [RepL.length h2]; exact Nat.le_refl _⟩, fun i d e => ?_⟩
  obtain ⟨x, e1, r1⟩ := RepL.get' h2 e
  refine ⟨⟨xs, x, q, e1⟩, fun y H' ⟨e2, e3⟩ => ?_⟩
  subst e2
  have e4 := e3 xs q
  rw [e1] at e4
  cases e4
  exact ⟨F, S, .refl _ _, Rep.mono m1 _ _ r1⟩
def signsD (z : Str) : List D := z.cps.toList.map fun k => .str ⟨#[k]⟩
theorem walk_str {z : Str} {Hf Hb : Hp} : Walk c (Its z) (signsD z) Hf Hb := fun ρ F σ H S m1 m2 => by
  refine ⟨by show z.cps.size ≤ _; unfold signsD; simp, fun i d e => ?_⟩
  unfold signsD at e
  rw [List.getElem?_map] at e
  obtain ⟨k, e1, rfl⟩ := Option.map_eq_some_iff.mp e
  have hi : i < z.cps.size := by
    have := (List.getElem?_eq_some_iff.mp e1).1
    simpa using this
  refine ⟨hi, fun y H' ⟨e2, k', e3, e4⟩ => ?_⟩
  subst e2
  subst e4
  have e5 : z.cps[i]? = some k := by rw [← Array.getElem?_toList]; exact e1
  rw [e5] at e3
  cases e3
  exact ⟨F, S, .refl _ _, rfl⟩
def rangeD (lo : Int) (n : Nat) : List D := (List.range n).map fun i => .int (lo + (i : Nat))
theorem walk_range {lo : Int} {n : Nat} {Hf Hb : Hp} : Walk c (Itr lo n) (rangeD lo n) Hf Hb := fun ρ F σ H S m1 m2 => by
  refine ⟨by show n ≤ _; unfold rangeD; simp, fun i d e => ?_⟩
  unfold rangeD at e
  rw [List.getElem?_map] at e
  obtain ⟨k, e1, rfl⟩ := Option.map_eq_some_iff.mp e
  obtain ⟨hi, e2⟩ := List.getElem?_eq_some_iff.mp e1
  simp at hi e2
  subst e2
  refine ⟨hi, fun y H' ⟨e2, e3⟩ => ?_⟩
  subst e2
  subst e3
  exact ⟨F, S, .refl _ _, rfl⟩
def itemsD : D → R (List D)
  | .lst l => .ok l
  | .tup l => .ok l
  | .scr ns => .ok (ns.map D.int)
  | .str z => .ok (signsD z)
  | _ => .stuck
variable {tg iter : Expr}
theorem pi_anyR (hK : X.K = c.K) (h : PE X iter (tG c (rR c) f)) : PI X tg iter (tI c false fun ρ => do let x ← f ρ; itemsD x) := by
  refine ⟨fun pins s σ H R I ⟨ρ, Hf, S, A⟩ => ?_⟩
  cases q : f ρ with
  | stuck => simp only [q] at A; exact A.elim
  | exc k fs =>
    refine wpAny_mono (h.run pins s σ H (fun _ _ => False) I ⟨ρ, Hf, S, ?_⟩) (fun v s1 ⟨_, _, _, _, z⟩ => z.elim) fun _ _ z => z
    simp only [q] at A
    rw [q]; exact A
  | ok d =>
    simp only [q] at A
    have A : (match itemsD d with
      | .ok ds => ∀ J Hf' H', c.SS ρ Hf' σ H' → Go Hf H Hf' H' → Walk c J ds Hf' H' → R J H'
      | .exc k fs => ∀ d H' Hf', c.SS ρ Hf' σ H' → Same Hf Hf' → ExcAt c.K c.C Hf' H' fs d → c.W (.ref (c.C k)) d σ H'
      | .stuck => False) := A
    cases d with
    | lst l =>
      refine (pi_list h).run pins s σ H R I ⟨ρ, Hf, S, ?_⟩
      rw [q]
      rintro v H' Hf' S' g ⟨p, vs, e1, q1, q2⟩
      refine ⟨p, e1, ⟨vs, .of q1⟩, ?_⟩
      rw [hK]
      exact A _ _ _ S' g (walk_list (.of q1) q2)
    | tup l =>
      refine (pi_tup h).run pins s σ H R I ⟨ρ, Hf, S, ?_⟩
      rw [q]
      rintro v H' Hf' S' g ⟨p, vs, e1, q1, q2⟩
      refine ⟨p, e1, ⟨vs, by rw [hK]; exact same_seqT S'.gr.le q1⟩, ?_⟩
      rw [hK]
      exact A _ _ _ S' g (walk_tup (same_seqT S'.gr.le q1) q2)
    | scr l =>
      refine (pi_list h).run pins s σ H R I ⟨ρ, Hf, S, ?_⟩
      rw [q]
      rintro v H' Hf' S' g ⟨p, e1, q1⟩
      refine ⟨p, e1, ⟨_, by rw [hK]; exact S'.gr.le.seq q1⟩, ?_⟩
      rw [hK]
      exact A _ _ _ S' g (walk_list (S'.gr.le.seq q1) (RepL.ints.mpr rfl))
    | str z =>
      refine (pi_str h).run pins s σ H R I ⟨ρ, Hf, S, ?_⟩
      rw [q]
      rintro v H' Hf' S' g r
      refine ⟨z, r, ?_⟩
      exact A _ _ _ S' g walk_str
    | _ => exact A.elim
theorem pi_anyF (hK : X.K = c.K) (h : PE X iter (tG c (rD c) f)) : PI X tg iter (tI c true fun ρ => do let x ← f ρ; itemsD x) := by
  refine ⟨fun pins s σ H R I ⟨ρ, Hf, S, A⟩ => ?_⟩
  cases q : f ρ with
  | stuck => simp only [q] at A; exact A.elim
  | exc k fs =>
    refine wpAny_mono (h.run pins s σ H (fun _ _ => False) I ⟨ρ, Hf, S, ?_⟩) (fun v s1 ⟨_, _, _, _, z⟩ => z.elim) fun _ _ z => z
    simp only [q] at A
    rw [q]; exact A
  | ok d =>
    simp only [q] at A
    have A : (match itemsD d with
      | .ok ds => ∀ J Hf' H', c.SS ρ Hf' σ H' → Go Hf H Hf' H' → Walk c J ds Hf' Hf' → R J H'
      | .exc k fs => ∀ d H' Hf', c.SS ρ Hf' σ H' → Same Hf Hf' → ExcAt c.K c.C Hf' H' fs d → c.W (.ref (c.C k)) d σ H'
      | .stuck => False) := A
    cases d with
    | lst l =>
      refine (pi_list h).run pins s σ H R I ⟨ρ, Hf, S, ?_⟩
      rw [q]
      rintro v H' Hf' S' g ⟨p, vs, e1, q1, q2⟩
      refine ⟨p, e1, ⟨vs, .of (S'.gr.le _ _ q1)⟩, ?_⟩
      rw [hK]
      exact A _ _ _ S' g (walk_list (.of q1) q2)
    | tup l =>
      refine (pi_tup h).run pins s σ H R I ⟨ρ, Hf, S, ?_⟩
      rw [q]
      rintro v H' Hf' S' g ⟨p, vs, e1, q1, q2⟩
      refine ⟨p, e1, ⟨vs, by rw [hK]; exact same_seqT S'.gr.le q1⟩, ?_⟩
      rw [hK]
      exact A _ _ _ S' g (walk_tup q1 q2)
    | scr l =>
      refine (pi_list h).run pins s σ H R I ⟨ρ, Hf, S, ?_⟩
      rw [q]
      rintro v H' Hf' S' g ⟨p, e1, q1⟩
      refine ⟨p, e1, ⟨_, by rw [hK]; exact S'.gr.le.seq q1⟩, ?_⟩
      rw [hK]
      exact A _ _ _ S' g (walk_list q1 (RepL.ints.mpr rfl))
    | str z =>
      refine (pi_str h).run pins s σ H R I ⟨ρ, Hf, S, ?_⟩
      rw [q]
      rintro v H' Hf' S' g r
      refine ⟨z, r, ?_⟩
      exact A _ _ _ S' g walk_str
    | _ => exact A.elim
def in62 (j : Int) : Bool := cd (-(2 ^ 62) ≤ j ∧ j < 2 ^ 62)
def rng1D : List D → R (List D)
  | [.int j] => if in62 j = true then .ok (rangeD 0 j.toNat) else .stuck
  | _ => .stuck
def rng2D : List D → R (List D)
  | [.int i, .int j] => if in62 i = true then (if in62 j = true then .ok (rangeD i (j - i).toNat) else .stuck) else .stuck
  | _ => .stuck
theorem pi_rng1D {fz : Bool} (hg : Gl X "range") (hm : X.mg "range" = none) (ha : PA X [a] (tG c (rLs (rR c)) fs)) (hs : starEach [a] X.env = [(false, eval a X.env)]) :
    PI X tg (.Call (.Name "range" p) [a] [] pos) (tI c fz fun ρ => do let xs ← fs ρ; rng1D xs) := (pi_range1 hg hm ha hs).imp fun σ H R ⟨ρ, Hf, S, A⟩ => by
  refine ⟨ρ, Hf, S, ?_⟩
  dsimp only at A
  generalize fs ρ = q at A ⊢
  cases q with
  | stuck => exact A
  | exc k fs => exact A
  | ok ds =>
    intro vs H1 Hf1 S1 g1 r1
    have A : (match rng1D ds with
      | .ok ds => ∀ J Hf' H', c.SS ρ Hf' σ H' → Go Hf H Hf' H' → Walk c J ds Hf' (if fz then Hf' else H') → R J H'
      | .exc k fs => ∀ d H' Hf', c.SS ρ Hf' σ H' → Same Hf Hf' → ExcAt c.K c.C Hf' H' fs d → c.W (.ref (c.C k)) d σ H'
      | .stuck => False) := A
    unfold rng1D at A
    split at A
    · rename_i e
      split at e
      · split at e
        · rename_i j hj
          cases e
          obtain ⟨x, rfl, h⟩ := rLs1 r1
          obtain rfl : x = .int _ := h
          have hj := cd_iff.mp hj
          exact ⟨_, rfl, hj.1, hj.2, A _ _ _ S1 g1 walk_range⟩
        · cases e
      · cases e
    · rename_i e
      split at e
      · split at e <;> cases e
      · cases e
    · exact A.elim
theorem pi_rng2D {fz : Bool} (hg : Gl X "range") (hm : X.mg "range" = none) (ha : PA X [a, b] (tG c (rLs (rR c)) fs)) (hs : starEach [a, b] X.env = [(false, eval a X.env), (false, eval b X.env)]) (hs2 : starEach [b] X.env = [(false, eval b X.env)]) :
    PI X tg (.Call (.Name "range" p) [a, b] [] pos) (tI c fz fun ρ => do let xs ← fs ρ; rng2D xs) := (pi_range2 hg hm ha hs hs2).imp fun σ H R ⟨ρ, Hf, S, A⟩ => by
  refine ⟨ρ, Hf, S, ?_⟩
  dsimp only at A
  generalize fs ρ = q at A ⊢
  cases q with
  | stuck => exact A
  | exc k fs => exact A
  | ok ds =>
    intro vs H1 Hf1 S1 g1 r1
    have A : (match rng2D ds with
      | .ok ds => ∀ J Hf' H', c.SS ρ Hf' σ H' → Go Hf H Hf' H' → Walk c J ds Hf' (if fz then Hf' else H') → R J H'
      | .exc k fs => ∀ d H' Hf', c.SS ρ Hf' σ H' → Same Hf Hf' → ExcAt c.K c.C Hf' H' fs d → c.W (.ref (c.C k)) d σ H'
      | .stuck => False) := A
    unfold rng2D at A
    split at A
    · rename_i e
      split at e
      · split at e
        · rename_i hi
          split at e
          · rename_i hj
            cases e
            obtain ⟨x, y, rfl, h, h'⟩ := rLs2 r1
            obtain rfl : x = .int _ := h
            obtain rfl : y = .int _ := h'
            have hi := cd_iff.mp hi
            have hj := cd_iff.mp hj
            exact ⟨_, _, rfl, ⟨hi.1, hi.2, hj.1, hj.2⟩, A _ _ _ S1 g1 walk_range⟩
          · cases e
        · cases e
      · cases e
    · rename_i e
      split at e
      · split at e
        · split at e <;> cases e
        · cases e
      · cases e
    · exact A.elim
end
end DS
set_option maxHeartbeats 2000000
noncomputable section
namespace DS
open PySem L2
/-! ### targets -/
inductive Tg where
  | one (i : Nat) | many (is : List Nat)
def Tg.ids : Tg → List Nat
  | .one i => [i]
  | .many is => is
def setMany : List Nat → List D → List Sl → List Sl
  | i :: is, d :: ds, ρ => setMany is ds (ρ.set i (.fro d))
  | _, _, ρ => ρ
def bindT : Tg → D → List Sl → R (List Sl)
  | .one i, d, ρ => .ok (ρ.set i (.fro d))
  | .many is, .tup ds, ρ => if ds.length = is.length then .ok (setMany is ds ρ) else .stuck
  | _, _, _ => .stuck
def gNames : List Nat → TGs
  | [] => gNil
  | i :: is => gCons (gName i) (gNames is)
def gT (K : PySem.W.Frag) : Tg → TG
  | .one i => gName i
  | .many is => gTup K is.length (gNames is)
theorem wipe_get (σ : L2.St) : ∀ (vs : List Nat) (j : Nat), (wipe σ vs)[j]? = if j ∈ vs then (σ[j]?).map (fun _ => none) else σ[j]?
  | [], j => by simp [wipe]
  | v :: vs, j => by
    unfold wipe
    rw [List.getElem?_set, wipe_get σ vs j, wipe_length]
    by_cases hv : v = j
    · subst hv
      by_cases hl : v < σ.length
      · simp [hl]
      · have e : σ[v]? = none := List.getElem?_eq_none (by omega)
        simp [hl, e]
    · have hv' : ¬ j = v := fun e => hv e.symm
      simp [hv, hv']
theorem wipe_set (σ : L2.St) (vs : List Nat) (i : Nat) (x : Option V) (h : i ∈ vs) : wipe (σ.set i x) vs = wipe σ vs := by
  apply List.ext_getElem?
  intro j
  rw [wipe_get, wipe_get, List.getElem?_set]
  by_cases hj : i = j
  · subst hj
    by_cases hl : i < σ.length
    · simp [h, hl]
    · have e : σ[i]? = none := List.getElem?_eq_none (by omega)
      simp [hl, e, h]
  · simp [hj]
theorem wipe_wipe (σ : L2.St) (vs : List Nat) : wipe (wipe σ vs) vs = wipe σ vs := by
  apply List.ext_getElem?
  intro j
  rw [wipe_get, wipe_get]
  by_cases h : j ∈ vs
  · simp [h]
    cases σ[j]? <;> rfl
  · simp [h]
def wipeR (ρ : List Sl) : List Nat → List Sl
  | [] => ρ
  | v :: vs => (wipeR ρ vs).set v .no
theorem wipeR_get (ρ : List Sl) : ∀ (vs : List Nat) (j : Nat), (wipeR ρ vs)[j]? = if j ∈ vs then (ρ[j]?).map (fun _ => .no) else ρ[j]?
  | [], j => by simp [wipeR]
  | v :: vs, j => by
    have hl : ∀ vs : List Nat, (wipeR ρ vs).length = ρ.length := fun vs => by
      induction vs with
      | nil => rfl
      | cons v vs ih => unfold wipeR; rw [List.length_set, ih]
    unfold wipeR
    rw [List.getElem?_set, wipeR_get ρ vs j, hl]
    by_cases hv : v = j
    · subst hv
      by_cases hl : v < ρ.length
      · simp [hl]
      · have e : ρ[v]? = none := List.getElem?_eq_none (by omega)
        simp [hl, e]
    · have hv' : ¬ j = v := fun e => hv e.symm
      simp [hv, hv']
theorem wipeR_length (ρ : List Sl) (vs : List Nat) : (wipeR ρ vs).length = ρ.length := by
  induction vs with
  | nil => rfl
  | cons v vs ih => unfold wipeR; rw [List.length_set, ih]
section
variable {K : PySem.W.Frag} {C : Nat → Addr} {H0 F0 Hf H : Hp} {ρ : List Sl} {σ : L2.St}
theorem SS.wipe (S : SS K C H0 F0 ρ Hf σ H) (vs : List Nat) : SS K C H0 F0 (wipeR ρ vs) Hf (L2.wipe σ vs) H := by
  have back : ∀ (i : Nat) (s : Sl), s ≠ .no → (wipeR ρ vs)[i]? = some s → ρ[i]? = some s ∧ i ∉ vs := fun i s hs h => by
    rw [wipeR_get] at h
    by_cases hi : i ∈ vs
    · rw [if_pos hi] at h
      obtain ⟨_, _, e⟩ := Option.map_eq_some_iff.mp h
      exact absurd e.symm hs
    · rw [if_neg hi] at h
      exact ⟨h, hi⟩
  have fwd : ∀ (i : Nat), i ∉ vs → (L2.wipe σ vs)[i]? = σ[i]? := fun i h => by rw [wipe_get, if_neg h]
  refine ⟨S.gr, by rw [wipe_length, wipeR_length]; exact S.len, fun i d h => ?_, fun i d h => ?_, fun i j d e a h1 h2 h3 h4 => ?_⟩
  · obtain ⟨h1, h2⟩ := back i _ (by simp) h
    rw [fwd i h2]; exact S.fro i d h1
  · obtain ⟨h1, h2⟩ := back i _ (by simp) h
    rw [fwd i h2]; exact S.own i d h1
  · obtain ⟨q1, q2⟩ := back i _ (by simp) h1
    obtain ⟨p1, p2⟩ := back j _ (by simp) h2
    rw [fwd i q2] at h3
    rw [fwd j p2] at h4
    exact S.apart i j d e a q1 p1 h3 h4
theorem SS.set (S : SS K C H0 F0 ρ Hf σ H) (i : Nat) {d : D} {v : V} (r : Rep K C Hf d v) : SS K C H0 F0 (ρ.set i (.fro d)) Hf (σ.set i (some v)) H := by
  have back : ∀ (j : Nat) (s : Sl), (ρ.set i (.fro d))[j]? = some s → (j = i ∧ s = .fro d ∧ i < ρ.length) ∨ (j ≠ i ∧ ρ[j]? = some s) := fun j s h => by
    rw [List.getElem?_set] at h
    by_cases hj : i = j
    · subst hj
      by_cases hl : i < ρ.length
      · simp [hl] at h; exact .inl ⟨rfl, h.symm, hl⟩
      · simp [hl] at h
    · rw [if_neg hj] at h
      exact .inr ⟨fun e => hj e.symm, h⟩
  have fwd : ∀ (j : Nat), j ≠ i → (σ.set i (some v))[j]? = σ[j]? := fun j h => List.getElem?_set_ne (Ne.symm h)
  refine ⟨S.gr, by simp [S.len], fun j e h => ?_, fun j e h => ?_, fun j k e e' a h1 h2 h3 h4 => ?_⟩
  · rcases back j _ h with ⟨rfl, q, hl⟩ | ⟨h1, h2⟩
    · cases q
      exact ⟨v, List.getElem?_set_self (by rw [S.len]; exact hl), r⟩
    · rw [fwd j h1]; exact S.fro j e h2
  · rcases back j _ h with ⟨rfl, q, hl⟩ | ⟨h1, h2⟩
    · cases q
    · rw [fwd j h1]; exact S.own j e h2
  · rcases back j _ h1 with ⟨_, q, _⟩ | ⟨q1, q2⟩
    · cases q
    rcases back k _ h2 with ⟨_, q, _⟩ | ⟨p1, p2⟩
    · cases q
    rw [fwd j q1] at h3
    rw [fwd k p1] at h4
    exact S.apart j k e e' a q2 p2 h3 h4
/-- a thing apart is written -/
theorem SS.write (S : SS K C H0 F0 ρ Hf σ H) {p : Addr} (o : HO) (h0 : H0 p = none) (hf : Hf p = none) (ho : ∀ (i : Nat) (d : D), ρ[i]? = some (.own d) → σ[i]? ≠ some (some (.ref p))) : SS K C H0 F0 ρ Hf σ (upd H p o) := by
  refine ⟨⟨fun a u e => ?_, S.gr.f0, fun a u e => ?_, S.gr.sep⟩, S.len, S.fro, fun i d h => ?_, S.apart⟩
  · rw [upd_ne (ne_of_none e h0)]; exact S.gr.g0 a u e
  · rw [upd_ne (ne_of_none e hf)]; exact S.gr.le a u e
  · obtain ⟨a, h1, h2, h3, h4⟩ := S.own i d h
    have ne : a ≠ p := fun e => ho i d h (e ▸ h1)
    refine ⟨a, h1, h2, h3, ?_⟩
    cases d with
    | lst ds => obtain ⟨xs, q1, q2⟩ := h4; exact ⟨xs, (upd_ne ne).trans q1, q2⟩
    | dct ds => obtain ⟨xs, q1, q2⟩ := h4; exact ⟨xs, (upd_ne ne).trans q1, q2⟩
    | ins k ds => obtain ⟨dx, gs, q1, q2⟩ := h4; exact ⟨dx, gs, (upd_ne ne).trans q1, q2⟩
    | _ => exact h4.elim
end
section
variable {c : Ctx} {X : Cx}
theorem names_ok {Hf H : Hp} {Q : L2.St → Hp → Prop} : ∀ (is : List Nat) (ds : List D) (xs : List V) (ρ : List Sl) (σ : L2.St), c.SS ρ Hf σ H → c.RepL Hf ds xs → ds.length = is.length →
    (∀ σ', c.SS (setMany is ds ρ) Hf σ' H → (∀ vs : List Nat, (∀ i ∈ is, i ∈ vs) → wipe σ' vs = wipe σ vs) → Q σ' H) → gNames is xs σ H Q
  | [], [], xs, ρ, σ, S, r, _, h => by
    have r : xs = [] := r
    subst r
    exact ⟨rfl, h σ S fun _ _ => rfl⟩
  | i :: is, d :: ds, xs, ρ, σ, S, r, hl, h => by
    obtain ⟨x, r', rfl, h1, h2⟩ := r
    refine ⟨x, r', rfl, ?_⟩
    refine names_ok is ds r' (ρ.set i (.fro d)) _ (S.set i h1) h2 (by simpa using hl) fun σ' S' hw => h σ' S' fun vs hv => ?_
    rw [hw vs fun j hj => hv j (List.mem_cons_of_mem _ hj)]
    exact wipe_set σ vs i _ (hv i List.mem_cons_self)
  | [], _ :: _, _, _, _, _, _, hl, _ => by simp at hl
  | _ :: _, [], _, _, _, _, _, hl, _ => by simp at hl
theorem bind_ok {t : Tg} {d : D} {v : V} {ρ ρ' : List Sl} {Hf H : Hp} {σ : L2.St} {Q : L2.St → Hp → Prop} (S : c.SS ρ Hf σ H) (r : c.Rep Hf d v) (hb : bindT t d ρ = .ok ρ')
    (h : ∀ σ', c.SS ρ' Hf σ' H → (∀ vs : List Nat, (∀ i ∈ t.ids, i ∈ vs) → wipe σ' vs = wipe σ vs) → Q σ' H) : gT c.K t v σ H Q := by
  cases t with
  | one i =>
    cases hb
    exact h _ (S.set i r) fun vs hv => wipe_set σ vs i _ (hv i (List.mem_singleton.mpr rfl))
  | many is =>
    cases d with
    | tup ds =>
      have hb : (if ds.length = is.length then R.ok (setMany is ds ρ) else R.stuck) = .ok ρ' := hb
      by_cases hl : ds.length = is.length
      · rw [if_pos hl] at hb
        cases hb
        obtain ⟨a, xs, rfl, h1, h2⟩ := r
        exact ⟨a, xs, rfl, same_seqT S.gr.le h1, by rw [RepL.length h2]; exact hl, names_ok is ds xs ρ σ S h2 hl h⟩
      · rw [if_neg hl] at hb
        cases hb
    | _ => cases hb

/-! ### new things that this frame alone holds -/
def Fresh (c : Ctx) (ρ : List Sl) (σ : L2.St) (Hs Hf H : Hp) (d : D) (v : V) : Prop :=
  ∃ a, v = .ref a ∧ Hs a = none ∧ Hf a = none ∧ c.H0 a = none ∧ OwnAt c.K c.C Hf H a d ∧ ∀ (i : Nat) (e : D), ρ[i]? = some (.own e) → σ[i]? ≠ some (some (.ref a))
def AtN (c : Ctx) (r : R D) (ρ : List Sl) (Hf : Hp) (σ : L2.St) (H : Hp) (Q : VK) : Prop :=
  match r with
  | .ok d => ∀ v H' Hf', c.SS ρ Hf' σ H' → Go Hf H Hf' H' → Fresh c ρ σ H Hf' H' d v → Q v H'
  | .exc k fs => ∀ d H' Hf', c.SS ρ Hf' σ H' → Same Hf Hf' → ExcAt c.K c.C Hf' H' fs d → c.W (.ref (c.C k)) d σ H'
  | .stuck => False
def tN (c : Ctx) (f : List Sl → R D) : TE := fun σ H Q => ∃ ρ Hf, c.SS ρ Hf σ H ∧ AtN c (f ρ) ρ Hf σ H Q
theorem SS.freeze1 {ρ : List Sl} {Hf H : Hp} {σ : L2.St} {a : Addr} {o : HO} (S : c.SS ρ Hf σ H) (hf : Hf a = none) (h0 : c.H0 a = none) (ha : H a = some o) (ho : ∀ (i : Nat) (e : D), ρ[i]? = some (.own e) → σ[i]? ≠ some (some (.ref a))) : c.SS ρ (upd Hf a o) σ H := by
  have m : Same Hf (upd Hf a o) := upd_same_of hf
  refine ⟨⟨S.gr.g0, S.gr.f0.trans m, fun b u e => ?_, fun b u e1 e2 => ?_⟩, S.len, fun i d h => ?_, fun i d h => ?_, S.apart⟩
  · by_cases hb : b = a
    · subst hb
      rw [upd_same] at e
      rw [ha]; exact e
    · rw [upd_ne hb] at e
      exact S.gr.le _ _ e
  · have hb : b ≠ a := ne_of_none e1 h0
    rw [upd_ne hb]
    exact S.gr.sep b u e1 e2
  · obtain ⟨v, h1, h2⟩ := S.fro i d h
    exact ⟨v, h1, Rep.mono m _ _ h2⟩
  · obtain ⟨b, h1, h2, h3, h4⟩ := S.own i d h
    have hb : b ≠ a := fun e => ho i d h (e ▸ h1)
    exact ⟨b, h1, by rw [upd_ne hb]; exact h2, h3, h4.mono' (.refl _) m⟩
theorem OwnAt.rep {Hf H : Hp} {a : Addr} (hf : Hf a = none) : ∀ {d : D}, OwnAt c.K c.C Hf H a d → ∃ o, H a = some o ∧ c.Rep (upd Hf a o) d (.ref a)
  | .lst ds, ⟨xs, h1, h2⟩ => ⟨_, h1, a, xs, rfl, upd_same, RepL.mono (upd_same_of hf) _ _ h2⟩
  | .dct ds, ⟨xs, h1, h2⟩ => ⟨_, h1, a, xs, rfl, upd_same, RepK.mono (upd_same_of hf) _ _ h2⟩
  | .ins k fs, ⟨dx, gs, h1, h2⟩ => ⟨_, h1, a, dx, gs, rfl, upd_same, RepF.mono (upd_same_of hf) _ _ h2⟩
/-- who wants a datum is content with a new thing -/
theorem tN_of {f : List Sl → R D} {σ : L2.St} {H : Hp} {Q : VK} (h : tG c (rD c) f σ H Q) : tN c f σ H Q := by
  obtain ⟨ρ, Hf, S, A⟩ := h
  refine ⟨ρ, Hf, S, ?_⟩
  generalize f ρ = r at A ⊢
  cases r with
  | stuck => exact A
  | exc k fs => exact A
  | ok d =>
    intro v H' Hf' S' g ⟨a, e, hs, hf, h0, ow, ho⟩
    subst e
    obtain ⟨o, h1, h2⟩ := OwnAt.rep hf ow
    refine A _ H' _ (SS.freeze1 S' hf h0 h1 ho) ⟨g.h, g.f.trans (upd_same_of hf), fun p u e1 e2 => ?_⟩ h2
    rw [upd_ne (ne_of_none e1 hs)]
    exact g.n p u e1 e2

/-! ### comprehensions -/
/-- the items made, one for each datum -/
def compR (t : Tg) (tt : List Sl → R Bool) (el : List Sl → R D) (ρ : List Sl) : List D → R (List D)
  | [] => .ok []
  | d :: ds => do
    let ρ1 ← bindT t d ρ
    let k ← tt ρ1
    if k = true then (do let y ← el ρ1; let ys ← compR t tt el ρ ds; .ok (y :: ys)) else compR t tt el ρ ds
/-- no exception leaves -/
def calmR {α : Type} : R α → R α
  | .ok a => .ok a
  | _ => .stuck
def compE (src : List Sl → R (List D)) (t : Tg) (tt : List Sl → R Bool) (el : List Sl → R D) (own : List Nat) : List Sl → R D := fun ρ => do
  let ds ← src ρ
  let ys ← calmR (compR t tt el (wipeR ρ own) ds)
  small ys (.ok (.lst ys))
theorem R.bind_ok_inv {α β : Type} {r : R α} {k : α → R β} {b : β} (h : (r >>= k) = .ok b) : ∃ a, r = .ok a ∧ k a = .ok b := by
  cases r with
  | ok a => exact ⟨a, rfl, h⟩
  | exc _ _ => cases h
  | stuck => cases h
/-- the context of a block: no exception leaves -/
def Ctx.calm (c : Ctx) : Ctx := { c with W := fun _ _ _ _ => False }
theorem At.calmly {α β : Type} {rel : α → β → Hp → Hp → Prop} {a : α} {ρ : List Sl} {Hf H : Hp} {σ : L2.St} {Q : β → Hp → Prop} {r : R α} (e : r = .ok a) (h : ∀ v H' Hf', c.SS ρ Hf' σ H' → Go Hf H Hf' H' → rel a v Hf' H' → Q v H') : At c.calm rel r ρ Hf σ H Q := by
  subst e
  exact h
theorem lcN {src : List Sl → R (List D)} {t : Tg} {tt : List Sl → R Bool} {el : List Sl → R D} {own : List Nat} (ho : ∀ i ∈ t.ids, i ∈ own) {σ : L2.St} {H : Hp} {Q : VK} (h : tN c (compE src t tt el own) σ H Q) :
    tLc (tI c false src) (gT c.K t) (tG c.calm rB tt) (tG c.calm (rD c.calm) el) own σ H Q := by
  obtain ⟨ρ, Hf, S, A⟩ := h
  refine ⟨ρ, Hf, S, ?_⟩
  unfold compE at A
  cases q : src ρ with
  | stuck => simp only [q] at A; exact A
  | exc k fs => simp only [q] at A; exact A
  | ok ds =>
    simp only [q, R.ok_bind] at A
    intro J F1 H1 S1 g1 wk p hp
    have hp1 : F1 p = none := S1.gr.le.free hp
    have h0 : c.H0 p = none := S1.gr.g0.free hp
    have own_ne : ∀ (i : Nat) (d : D), (wipeR ρ own)[i]? = some (.own d) → (wipe σ own)[i]? ≠ some (some (.ref p)) := fun i d h e => by
      obtain ⟨a, h1, h2, h3, h4⟩ := (S1.wipe own).own i d h
      rw [e] at h1
      cases h1
      obtain ⟨o, ho⟩ := h4.there
      rw [hp] at ho
      cases ho
    cases q2 : compR t tt el (wipeR ρ own) ds with
    | stuck => rw [q2] at A; exact A.elim
    | exc k fs => rw [q2] at A; exact A.elim
    | ok ys =>
      rw [q2] at A
      simp only [calmR, R.ok_bind] at A
      unfold small at A
      split at A
      · rename_i hsz
        have hsz := cd_iff.mp hsz
        -- the invariant: what is made, what is left
        refine ⟨fun i m H2 => m = ds.length - i ∧ i ≤ ds.length ∧ ∃ F2 acc as rest, c.SS (wipeR ρ own) F2 (wipe σ own) H2 ∧ Go F1 H1 F2 H2 ∧ H2 p = some (.lst acc) ∧ F2 p = none ∧ c.RepL F2 as acc ∧
          compR t tt el (wipeR ρ own) (ds.drop i) = .ok rest ∧ as ++ rest = ys, ⟨ds.length, by simp, Nat.zero_le _, F1, [], [], ys, ?_, ?_, upd_same, hp1, rfl, by simpa using q2, rfl⟩, ?_⟩
        · exact (S1.wipe own).write _ h0 hp1 own_ne
        · exact ⟨upd_same_of hp, .refl _, fun _ _ _ e => e⟩
        · rintro i m H2 ⟨rfl, hi, F2, acc, as, rest, S2, gg, hD, hF, ra, hc, he⟩
          obtain ⟨w1, w2⟩ := wk _ F2 _ H2 S2 gg.f gg.h
          by_cases hlt : i < ds.length
          · obtain ⟨d, hd⟩ : ∃ d, ds[i]? = some d := ⟨ds[i], by simp [hlt]⟩
            obtain ⟨go, yl⟩ := w2 i d hd
            have hdr : ds.drop i = d :: ds.drop (i + 1) := by
              rw [List.drop_eq_getElem_cons hlt]
              rw [List.getElem?_eq_getElem hlt] at hd
              rw [Option.some.inj hd]
            rw [hdr] at hc
            unfold compR at hc
            obtain ⟨ρ1, b1, hc⟩ := R.bind_ok_inv hc
            obtain ⟨k, b2, hc⟩ := R.bind_ok_inv hc
            refine .inr ⟨go, _, fun H' h' => ⟨ds.length - (i + 1), by omega, rfl, by omega, h'⟩, fun x H3 hy => ?_⟩
            obtain ⟨F3, S3, g3, r3⟩ := yl x H3 hy
            have hD3 : H3 p = some (.lst acc) := g3.h _ _ hD
            have hF3 : F3 p = none := g3.n _ _ hD hF
            refine bind_ok (c := c) S3 r3 b1 fun σ4 S4 hw4 => ⟨(hw4 own ho).trans (wipe_wipe σ own), ρ1, F3, S4, At.calmly b2 fun k' H4 F4 S4' g4 ek => ?_⟩
            cases ek
            have S5 : c.SS (wipeR ρ own) F4 (wipe σ own) H4 := S3.go g4 S4'.gr.le
            have hD4 : H4 p = some (.lst acc) := g4.h _ _ hD3
            have hF4 : F4 p = none := g4.n _ _ hD3 hF3
            have ra4 : c.RepL F4 as acc := RepL.mono g4.f _ _ (RepL.mono g3.f _ _ ra)
            cases k with
            | false =>
              rw [if_neg (by decide)] at hc ⊢
              exact ⟨F4, acc, as, rest, S5, (gg.trans g3).trans g4, hD4, hF4, ra4, hc, he⟩
            | true =>
              rw [if_pos rfl] at hc ⊢
              obtain ⟨y, b3, hc⟩ := R.bind_ok_inv hc
              obtain ⟨rest2, b4, hc⟩ := R.bind_ok_inv hc
              cases hc
              refine ⟨ρ1, F4, S4', At.calmly b3 fun v H5 F5 S5' g5 rv => ?_⟩
              have hD5 : H5 p = some (.lst acc) := g5.h _ _ hD4
              have hF5 : F5 p = none := g5.n _ _ hD4 hF4
              have S6 : c.SS (wipeR ρ own) F5 (wipe σ own) H5 := S5.go g5 S5'.gr.le
              have la : acc.length = as.length := RepL.length ra4
              have ly : as.length + (rest2.length + 1) = ys.length := by rw [← he, List.length_append, List.length_cons]
              refine ⟨acc, hD5, by omega, F5, acc ++ [v], as ++ [y], rest2, S6.write _ h0 hF5 own_ne, ⟨fun b o e => ?_, (gg.f.trans g3.f).trans (g4.f.trans g5.f), ((gg.trans g3).trans (g4.trans g5)).n⟩, upd_same, hF5, (RepL.mono g5.f _ _ ra4).append (RepL.one rv), b4, by rw [List.append_assoc]; exact he⟩
              have hb : b ≠ p := ne_of_none e hp
              rw [upd_ne hb]
              exact g5.h _ _ (g4.h _ _ (g3.h _ _ (gg.h _ _ e)))
          · have e : i = ds.length := by omega
            subst e
            rw [List.drop_length] at hc
            have hc : R.ok ([] : List D) = .ok rest := hc
            cases hc
            rw [List.append_nil] at he
            subst he
            refine .inl ⟨w1, A (.ref p) H2 F2 (S1.go gg S2.gr.le) (g1.trans gg) ⟨p, rfl, g1.h.free hp, hF, h0, ⟨acc, hD, ra⟩, fun i d h e => ?_⟩⟩
            obtain ⟨a, h1, h2, h3, h4⟩ := S1.own i d h
            rw [e] at h1
            cases h1
            obtain ⟨o, ho⟩ := h4.there
            rw [hp] at ho
            cases ho
      · exact A.elim
theorem lcD {src : List Sl → R (List D)} {t : Tg} {tt : List Sl → R Bool} {el : List Sl → R D} {own : List Nat} (ho : ∀ i ∈ t.ids, i ∈ own) {σ : L2.St} {H : Hp} {Q : VK} (h : tG c (rD c) (compE src t tt el own) σ H Q) :
    tLc (tI c false src) (gT c.K t) (tG c.calm rB tt) (tG c.calm (rD c.calm) el) own σ H Q := lcN ho (tN_of h)
end
end DS
set_option maxHeartbeats 2000000
noncomputable section
namespace DS
open PySem L2
/-- what a statement comes to: on to the next, a value handed back, out of the loop, to its next turn, an exception -/
inductive SR where
  | nx (ρ : List Sl) | rt (d : D) | bk (ρ : List Sl) | ct (ρ : List Sl) | exc (k : Nat) (fs : List (Str × D)) (ρ : List Sl) | stuck
def SR.andThen (r : SR) (f : List Sl → SR) : SR := match r with
  | .nx ρ => f ρ
  | r => r
def R.then {α : Type} (r : R α) (ρ : List Sl) (k : α → SR) : SR := match r with
  | .ok a => k a
  | .exc c fs => .exc c fs ρ
  | .stuck => .stuck
@[simp] theorem R.then_ok {α : Type} (a : α) (ρ : List Sl) (k : α → SR) : (R.ok a).then ρ k = k a := rfl
@[simp] theorem SR.nx_andThen (ρ : List Sl) (f : List Sl → SR) : (SR.nx ρ).andThen f = f ρ := rfl
@[simp] theorem SR.rt_andThen (d : D) (f : List Sl → SR) : (SR.rt d).andThen f = .rt d := rfl
def SAt (c : Ctx) (Fb : Hp) (D : Ends) : SR → Prop
  | .nx ρ => ∀ σ' H' Hf', c.SS ρ Hf' σ' H' → Same Fb Hf' → D.nx σ' H'
  | .bk ρ => ∀ σ' H' Hf', c.SS ρ Hf' σ' H' → Same Fb Hf' → D.bk σ' H'
  | .ct ρ => ∀ σ' H' Hf', c.SS ρ Hf' σ' H' → Same Fb Hf' → D.ct σ' H'
  | .rt d => ∀ v H' Hf', Gr c.H0 c.F0 Hf' H' → c.Rep Hf' d v → D.rt v H'
  | .exc k fs ρ => ∀ d σ' H' Hf', c.SS ρ Hf' σ' H' → Same Fb Hf' → ExcAt c.K c.C Hf' H' fs d → c.W (.ref (c.C k)) d σ' H'
  | .stuck => False
def tS (c : Ctx) (f : List Sl → SR) : TS := fun D σ H => ∃ ρ Hf, c.SS ρ Hf σ H ∧ SAt c Hf D (f ρ)
theorem SAt.up {c : Ctx} {Fb Fb' : Hp} {D : Ends} (m : Same Fb Fb') : ∀ {r : SR}, SAt c Fb D r → SAt c Fb' D r
  | .nx _, h => fun σ' H' Hf' S q => h σ' H' Hf' S (m.trans q)
  | .bk _, h => fun σ' H' Hf' S q => h σ' H' Hf' S (m.trans q)
  | .ct _, h => fun σ' H' Hf' S q => h σ' H' Hf' S (m.trans q)
  | .rt _, h => h
  | .exc _ _ _, h => fun d σ' H' Hf' S q => h d σ' H' Hf' S (m.trans q)
  | .stuck, h => h
section
variable {c : Ctx} {X : Cx} {e a b : Expr} {f g : List Sl → R D} {p : List Sl → R Bool} {fs : List Sl → R (List D)} {st : Stmt} {rest body orelse : List Stmt} {s t u : List Sl → SR} {pos : Pos}
/-- an expression's outcome, then the rest -/
theorem SAt.expr {α β : Type} {rel : α → β → Hp → Hp → Prop} {r : R α} {k : α → SR} {ρ : List Sl} {Hf H : Hp} {σ : L2.St} {D : Ends} (h : SAt c Hf D (r.then ρ k)) (S : c.SS ρ Hf σ H) :
    At c rel r ρ Hf σ H (fun v H1 => ∃ Hf1 d, c.SS ρ Hf1 σ H1 ∧ Go Hf H Hf1 H1 ∧ rel d v Hf1 H1 ∧ r = .ok d ∧ SAt c Hf1 D (k d)) := by
  cases r with
  | ok d => exact fun v H1 Hf1 S1 g1 r1 => ⟨Hf1, d, S1, g1, r1, rfl, SAt.up g1.f h⟩
  | exc k fs => exact fun d H' Hf' S' m x => h d σ H' Hf' S' m x
  | stuck => exact h
theorem SAt.exprN {r : R D} {k : D → SR} {ρ : List Sl} {Hf H : Hp} {σ : L2.St} {D : Ends} (h : SAt c Hf D (r.then ρ k)) (S : c.SS ρ Hf σ H) :
    AtN c r ρ Hf σ H (fun v H1 => ∃ Hf1 d, c.SS ρ Hf1 σ H1 ∧ Go Hf H Hf1 H1 ∧ Fresh c ρ σ H Hf1 H1 d v ∧ r = .ok d ∧ SAt c Hf1 D (k d)) := by
  cases r with
  | ok d => exact fun v H1 Hf1 S1 g1 r1 => ⟨Hf1, d, S1, g1, r1, rfl, SAt.up g1.f h⟩
  | exc k fs => exact fun d H' Hf' S' m x => h d σ H' Hf' S' m x
  | stuck => exact h
/-! ### blocks -/
theorem pss_nilD : PSs X [] (tS c fun ρ => .nx ρ) := pss_nil.imp fun D σ H ⟨ρ, Hf, S, A⟩ => A σ H Hf S (.refl _)
theorem seqSt {D : Ends} {σ : L2.St} {H : Hp} (A : tS c (fun ρ => (s ρ).andThen t) D σ H) : tS c s { D with nx := tS c t D } σ H := by
  obtain ⟨ρ, Hf, S, A⟩ := A
  refine ⟨ρ, Hf, S, ?_⟩
  have A : SAt c Hf D ((s ρ).andThen t) := A
  generalize s ρ = r at A ⊢
  cases r with
  | nx ρ' => exact fun σ' H' Hf' S' m => ⟨ρ', Hf', S', SAt.up m A⟩
  | bk ρ' => exact A
  | ct ρ' => exact A
  | rt d => exact A
  | exc k fs ρ' => exact A
  | stuck => exact A
theorem pss_consD (h1 : PS X st (tS c s)) (h2 : PSs X rest (tS c t)) : PSs X (st :: rest) (tS c fun ρ => (s ρ).andThen t) := (pss_cons h1 h2).imp fun D σ H A => seqSt A
theorem ps_passD : PS X (.Pass pos) (tS c fun ρ => .nx ρ) := ps_pass.imp fun D σ H ⟨ρ, Hf, S, A⟩ => A σ H Hf S (.refl _)
theorem ps_breakD : PS X (.Break pos) (tS c fun ρ => .bk ρ) := ps_break.imp fun D σ H ⟨ρ, Hf, S, A⟩ => A σ H Hf S (.refl _)
theorem ps_continueD : PS X (.Continue pos) (tS c fun ρ => .ct ρ) := ps_continue.imp fun D σ H ⟨ρ, Hf, S, A⟩ => A σ H Hf S (.refl _)
theorem ps_exprD (he : PE X e (tG c (rD c) f)) (hs : swapsWith e none pos.line X.env = pure false) : PS X (.Expr e pos) (tS c fun ρ => (f ρ).then ρ fun _ => .nx ρ) := (ps_expr he hs).imp fun D σ H ⟨ρ, Hf, S, A⟩ =>
  ⟨ρ, Hf, S, (SAt.expr A S).imp fun v H1 ⟨Hf1, d, S1, g1, r1, _, A1⟩ => A1 σ H1 Hf1 S1 (.refl _)⟩
theorem ps_retD (he : PE X e (tG c (rD c) f)) : PS X (.Return (some e) pos) (tS c fun ρ => (f ρ).then ρ .rt) := (ps_ret he).imp fun D σ H ⟨ρ, Hf, S, A⟩ =>
  ⟨ρ, Hf, S, (SAt.expr A S).imp fun v H1 ⟨Hf1, d, S1, g1, r1, _, A1⟩ => A1 v H1 Hf1 S1.gr r1⟩
theorem ps_retND : PS X (.Return none pos) (tS c fun _ => .rt .non) := ps_retN.imp fun D σ H ⟨ρ, Hf, S, A⟩ => A .non H Hf S.gr rfl
theorem ps_ifD (he : PT X e (tG c rB p)) (hb : PSs X body (tS c s)) (ho : PSs X orelse (tS c t)) : PS X (.If e body orelse pos) (tS c fun ρ => (p ρ).then ρ fun k => if k = true then s ρ else t ρ) := (ps_if he hb ho).imp fun D σ H ⟨ρ, Hf, S, A⟩ =>
  ⟨ρ, Hf, S, (SAt.expr A S).imp fun k H1 ⟨Hf1, d, S1, g1, r1, _, A1⟩ => by
    cases r1
    cases k with
    | true => exact ⟨ρ, Hf1, S1, A1⟩
    | false => exact ⟨ρ, Hf1, S1, A1⟩⟩

/-! ### stores -/
theorem SS.setOwn {ρ : List Sl} {Hf H : Hp} {σ : L2.St} {a : Addr} {d : D} (S : c.SS ρ Hf σ H) (i : Nat) (hf : Hf a = none) (h0 : c.H0 a = none) (ow : OwnAt c.K c.C Hf H a d) (ho : ∀ (j : Nat) (e : D), ρ[j]? = some (.own e) → σ[j]? ≠ some (some (.ref a))) :
    c.SS (ρ.set i (.own d)) Hf (σ.set i (some (.ref a))) H := by
  have back : ∀ (j : Nat) (s : Sl), (ρ.set i (.own d))[j]? = some s → (j = i ∧ s = .own d ∧ i < ρ.length) ∨ (j ≠ i ∧ ρ[j]? = some s) := fun j s h => by
    rw [List.getElem?_set] at h
    by_cases hj : i = j
    · subst hj
      by_cases hl : i < ρ.length
      · simp [hl] at h; exact .inl ⟨rfl, h.symm, hl⟩
      · simp [hl] at h
    · rw [if_neg hj] at h
      exact .inr ⟨fun e => hj e.symm, h⟩
  have fwd : ∀ (j : Nat), j ≠ i → (σ.set i (some (V.ref a)))[j]? = σ[j]? := fun j h => List.getElem?_set_ne (Ne.symm h)
  have self : i < ρ.length → (σ.set i (some (V.ref a)))[i]? = some (some (.ref a)) := fun hl => List.getElem?_set_self (by rw [S.len]; exact hl)
  refine ⟨S.gr, by simp [S.len], fun j e h => ?_, fun j e h => ?_, fun j k e e' b h1 h2 h3 h4 => ?_⟩
  · rcases back j _ h with ⟨rfl, q, hl⟩ | ⟨h1, h2⟩
    · cases q
    · rw [fwd j h1]; exact S.fro j e h2
  · rcases back j _ h with ⟨rfl, q, hl⟩ | ⟨h1, h2⟩
    · cases q
      exact ⟨a, self hl, hf, h0, ow⟩
    · rw [fwd j h1]; exact S.own j e h2
  · rcases back j _ h1 with ⟨rfl, q, hl⟩ | ⟨q1, q2⟩
    · rcases back k _ h2 with ⟨rfl, _, _⟩ | ⟨p1, p2⟩
      · rfl
      · rw [self hl] at h3
        cases h3
        rw [fwd k p1] at h4
        exact absurd h4 (ho k _ p2)
    · rcases back k _ h2 with ⟨rfl, _, hl⟩ | ⟨p1, p2⟩
      · rw [self hl] at h4
        cases h4
        rw [fwd j q1] at h3
        exact absurd h3 (ho j _ q2)
      · rw [fwd j q1] at h3
        rw [fwd k p1] at h4
        exact S.apart j k e e' b q2 p2 h3 h4
theorem asgG {te : TE} {i : Nat} {D : Ends} {σ : L2.St} {H : Hp} (h : te σ H fun x H1 => D.nx (σ.set i (some x)) H1) : tAsg te (gName i) D σ H := h
theorem asgD {i : Nat} {D : Ends} {σ : L2.St} {H : Hp} (h : tS c (fun ρ => (f ρ).then ρ fun d => .nx (ρ.set i (.fro d))) D σ H) : tAsg (tG c (rD c) f) (gName i) D σ H := by
  obtain ⟨ρ, Hf, S, A⟩ := h
  exact ⟨ρ, Hf, S, (SAt.expr A S).imp fun v H1 ⟨Hf1, d, S1, g1, r1, _, A1⟩ => A1 _ H1 Hf1 (S1.set i r1) (.refl _)⟩
theorem asgN {i : Nat} {D : Ends} {σ : L2.St} {H : Hp} (h : tS c (fun ρ => (f ρ).then ρ fun d => .nx (ρ.set i (.own d))) D σ H) : tAsg (tN c f) (gName i) D σ H := by
  obtain ⟨ρ, Hf, S, A⟩ := h
  refine ⟨ρ, Hf, S, ?_⟩
  have := SAt.exprN A S
  generalize f ρ = r at this ⊢
  cases r with
  | ok d =>
    intro v H' Hf' S' g F
    obtain ⟨Hf1, d', S1, g1, ⟨a, e, hs, hf, h0, ow, ho⟩, _, A1⟩ := this v H' Hf' S' g F
    subst e
    exact A1 _ H' Hf1 (S1.setOwn i hf h0 ow ho) (.refl _)
  | exc k fs => exact this
  | stuck => exact this
/-- name = value -/
theorem ps_setD {i : Nat} {x : Str} {pos' : Pos} (hN : X.N.Nodup) (hi : X.N[i]? = some x) (hx : Loc X.env.scope x) (he : PE X e (tG c (rD c) f)) (hs : swapsWith e (some (.Name x pos')) pos.line X.env = pure false) (hf : X.fn x = true ∨ X.env.scope.names.lookup x = some .local) :
    PS X (.Assign [.Name x pos'] e pos) (tS c fun ρ => (f ρ).then ρ fun d => .nx (ρ.set i (.fro d))) := (ps_set hN hi hx he hs hf).imp fun D σ H h => asgD h
/-- .. held by the frame alone -/
theorem ps_setN {i : Nat} {x : Str} {pos' : Pos} (hN : X.N.Nodup) (hi : X.N[i]? = some x) (hx : Loc X.env.scope x) (he : PE X e (tN c f)) (hs : swapsWith e (some (.Name x pos')) pos.line X.env = pure false) (hf : X.fn x = true ∨ X.env.scope.names.lookup x = some .local) :
    PS X (.Assign [.Name x pos'] e pos) (tS c fun ρ => (f ρ).then ρ fun d => .nx (ρ.set i (.own d))) := (ps_set hN hi hx he hs hf).imp fun D σ H h => asgN h
/-- a, b = t -/
theorem ps_tupD {es : List Expr} {is : List Nat} {k : Nat} {tpos : Pos} (hK : X.K = c.K) (he : PE X e (tG c (rD c) f)) (hg : PG X (.Tuple es k tpos) (gT X.K (.many is))) (hs : swapsWithSole [.Tuple es k tpos] e pos.line X.env = pure false) (hw : swappedStores [.Tuple es k tpos] e X.env = pure none)
    (h1 : (assignEach [.Tuple es k tpos] X.env).map (·.2) = [assign (.Tuple es k tpos) X.env]) :
    PS X (.Assign [.Tuple es k tpos] e pos) (tS c fun ρ => (f ρ).then ρ fun d => (bindT (.many is) d ρ).then ρ .nx) := (ps_asg he hg hs hw h1).imp fun D σ H ⟨ρ, Hf, S, A⟩ => by
  refine ⟨ρ, Hf, S, (SAt.expr A S).imp fun v H1 ⟨Hf1, d, S1, g1, r1, _, A1⟩ => ?_⟩
  rw [hK]
  cases q : bindT (.many is) d ρ with
  | ok ρ' =>
    rw [q] at A1
    exact bind_ok S1 r1 q fun σ' S' _ => A1 σ' H1 Hf1 S' (.refl _)
  | exc k fs => cases d <;> simp [bindT] at q; split at q <;> cases q
  | stuck => rw [q] at A1; exact A1.elim
/-- a, b = x, y -/
theorem ps_parD {i j : Nat} {x y : Str} {px py pt : Pos} {kt k2 : Nat} {pt2 : Pos} (hc : X.calm = true) (hN : X.N.Nodup) (hi : X.N[i]? = some x) (hj : X.N[j]? = some y) (hij : i ≠ j)
    (hx : X.env.scope.names.lookup x = some .local) (hy : X.env.scope.names.lookup y = some .local) (ha : PE X a (tG c (rD c) f)) (hb : PE X b (tG c (rD c) g)) (hsa : starEach (a :: [b]) X.env = (false, eval a X.env) :: starEach [b] X.env) (hsb : starEach (b :: []) X.env = (false, eval b X.env) :: starEach [] X.env)
    (hw : swappedStores [.Tuple [.Name x px, .Name y py] kt pt] (.Tuple [a, b] k2 pt2) X.env = pure (some [x, y]))
    (hs : swapsWithSole [.Tuple [.Name x px, .Name y py] kt pt] (.Tuple [a, b] k2 pt2) pos.line X.env = pure false) :
    PS X (.Assign [.Tuple [.Name x px, .Name y py] kt pt] (.Tuple [a, b] k2 pt2) pos) (tS c fun ρ => (f ρ).then ρ fun d => (g ρ).then ρ fun e => .nx ((ρ.set i (.fro d)).set j (.fro e))) :=
  (ps_par hc hN hi hj hij hx hy (pa_cons ha (pa_cons hb pa_nil hsb) hsa) hw hs).imp fun D σ H ⟨ρ, Hf, S, A⟩ => by
    refine ⟨ρ, Hf, S, (SAt.expr A S).imp fun v H1 ⟨Hf1, d, S1, g1, r1, _, A1⟩ => ⟨ρ, Hf1, S1, (SAt.expr A1 S1).imp fun w H2 ⟨Hf2, e, S2, g2, r2, _, A2⟩ => ?_⟩⟩
    exact ⟨v, w, rfl, A2 _ H2 Hf2 ((S2.set i (Rep.mono g2.f _ _ r1)).set j r2) (.refl _)⟩
/-- name += e, ints -/
def augD (op : Operator) : D → D → R D
  | .int i, .int j => match op with | .Add => .ok (.int (i + j)) | .Sub => .ok (.int (i - j)) | _ => .stuck
  | _, _ => .stuck
theorem ps_augD {i : Nat} {x : Str} {pos' : Pos} {op : Operator} (hop : op = .Add ∨ op = .Sub) (hN : X.N.Nodup) (hi : X.N[i]? = some x) (hx : Loc X.env.scope x) (he : PE X e (tG c (rD c) f)) (hf : X.fn x = true ∨ X.env.scope.names.lookup x = some .local) :
    PS X (.AugAssign (.Name x pos') op e pos) (tS c fun ρ => (getV i ρ).then ρ fun d => (f ρ).then ρ fun y => (augD op d y).then ρ fun z => .nx (ρ.set i (.fro z))) := by
  have core : ∀ (o : Operator) (fn : Int → Int → Int), (∀ i j, augD o (.int i) (.int j) = .ok (.int (fn i j))) → PIp X o (ipI fn) → PS X (.AugAssign (.Name x pos') o e pos) (tS c fun ρ => (getV i ρ).then ρ fun d => (f ρ).then ρ fun y => (augD o d y).then ρ fun z => .nx (ρ.set i (.fro z))) :=
    fun o fn hfn hip => (ps_aug hN hi hx he hip hf).imp fun D σ H ⟨ρ, Hf, S, A⟩ => by
      dsimp only at A
      cases q : getV i ρ with
      | ok d =>
        have q' : ρ[i]? = some (.fro d) := by
          unfold getV at q
          split at q
          · rename_i d' e; cases q; exact e
          · cases q
        obtain ⟨v, h1, h2⟩ := S.fro i d q'
        rw [q, R.then_ok] at A
        refine ⟨v, h1, ρ, Hf, S, (SAt.expr A S).imp fun w H1 ⟨Hf1, e, S1, g1, r1, _, A1⟩ => ?_⟩
        cases d with
        | int i0 =>
          cases e with
          | int j0 =>
            rw [hfn] at A1
            obtain rfl : v = .int i0 := h2
            obtain rfl : w = .int j0 := r1
            exact ⟨i0, j0, rfl, rfl, A1 _ H1 Hf1 (S1.set i rfl) (.refl _)⟩
          | _ => exact A1.elim
        | _ => exact A1.elim
      | exc k fs =>
        unfold getV at q
        split at q <;> cases q
      | stuck => rw [q] at A; exact A.elim
  rcases hop with rfl | rfl
  · exact core .Add _ (fun _ _ => rfl) ip_add
  · exact core .Sub _ (fun _ _ => rfl) ip_sub

/-! ### loops -/
def loopS (bd : D → List Sl → R (List Sl)) (body : List Sl → SR) : List D → List Sl → SR
  | [], ρ => .nx ρ
  | d :: ds, ρ => (bd d ρ).then ρ fun ρ1 => match body ρ1 with
    | .nx ρ2 => loopS bd body ds ρ2
    | .ct ρ2 => loopS bd body ds ρ2
    | .bk ρ2 => .nx ρ2
    | r => r
theorem bindT_exc {t : Tg} {d : D} {ρ : List Sl} {k : Nat} {l : List (Str × D)} (h : bindT t d ρ = .exc k l) : False := by
  cases t with
  | one i => cases h
  | many is =>
    cases d with
    | tup ds =>
      have h : (if ds.length = is.length then R.ok (setMany is ds ρ) else R.stuck) = .exc k l := h
      split at h <;> cases h
    | _ => cases h
theorem ps_forD {tg iter : Expr} {src : List Sl → R (List D)} {tt : Tg} (hp : PassesOwn (model X.prog X.w) X.A X.env X.xe) (hc : X.calm = true) (hK : X.K = c.K) (hi : PI X tg iter (tI c true src)) (hg : PG X tg (gT X.K tt)) (hb : PSs X body (tS c s))
    (hs : ∀ x, foldedSetIterable iter X.env x = pure x) : PS X (.For tg iter body [] pos) (tS c fun ρ => (src ρ).then ρ fun ds => loopS (bindT tt) s ds ρ) := (ps_for hp hc hi hg hb hs).imp fun D σ H ⟨ρ, Hf, S, A⟩ => by
  refine ⟨ρ, Hf, S, ?_⟩
  dsimp only at A
  generalize src ρ = r at A ⊢
  cases r with
  | stuck => exact A
  | exc k l => exact fun d H' Hf' S' m x => A d σ H' Hf' S' m x
  | ok ds =>
    intro J F1 H1 S1 g1 wk
    simp only [if_true] at wk
    have A := SAt.up g1.f A
    refine ⟨fun i m σ2 H2 => m = ds.length - i ∧ i ≤ ds.length ∧ ∃ ρ2 F2, c.SS ρ2 F2 σ2 H2 ∧ Same F1 F2 ∧ SAt c F2 D (loopS (bindT tt) s (ds.drop i) ρ2), ⟨ds.length, by simp, Nat.zero_le _, ρ, F1, S1, .refl _, A⟩, ?_⟩
    rintro i m σ2 H2 ⟨rfl, hi, ρ2, F2, S2, m2, A2⟩
    obtain ⟨w1, w2⟩ := wk ρ2 F2 σ2 H2 S2 m2 (m2.trans S2.gr.le)
    by_cases hlt : i < ds.length
    · obtain ⟨d, hd⟩ : ∃ d, ds[i]? = some d := ⟨ds[i], by simp [hlt]⟩
      obtain ⟨go, yl⟩ := w2 i d hd
      have hdr : ds.drop i = d :: ds.drop (i + 1) := by
        rw [List.drop_eq_getElem_cons hlt]
        rw [List.getElem?_eq_getElem hlt] at hd
        rw [Option.some.inj hd]
      rw [hdr] at A2
      unfold loopS at A2
      cases q : bindT tt d ρ2 with
      | stuck => rw [q] at A2; exact A2.elim
      | exc k l => exact (bindT_exc q).elim
      | ok ρ3 =>
        rw [q, R.then_ok] at A2
        refine .inr ⟨go, _, fun σ' H' h' => ⟨ds.length - (i + 1), by omega, rfl, by omega, h'⟩, fun x H3 hy => ?_⟩
        obtain ⟨F3, S3, g3, r3⟩ := yl x H3 hy
        rw [hK]
        refine bind_ok S3 r3 q fun σ4 S4 _ => ⟨ρ3, F3, S4, ?_⟩
        have A3 := SAt.up g3.f A2
        generalize s ρ3 = r at A3 ⊢
        cases r with
        | nx ρ5 => exact fun σ' H' F' S' m' => ⟨ρ5, F', S', (m2.trans g3.f).trans m', SAt.up m' A3⟩
        | ct ρ5 => exact fun σ' H' F' S' m' => ⟨ρ5, F', S', (m2.trans g3.f).trans m', SAt.up m' A3⟩
        | bk ρ5 => exact A3
        | rt d => exact A3
        | exc k l ρ5 => exact A3
        | stuck => exact A3
    · have e : i = ds.length := by omega
      subst e
      rw [List.drop_length] at A2
      exact .inl ⟨w1, A2 σ2 H2 F2 S2 (.refl _)⟩
def whileS (t : List Sl → R Bool) (body : List Sl → SR) : Nat → List Sl → SR
  | 0, _ => .stuck
  | n + 1, ρ => (t ρ).then ρ fun k => if k = true then (match body ρ with
    | .nx ρ2 => whileS t body n ρ2
    | .ct ρ2 => whileS t body n ρ2
    | .bk ρ2 => .nx ρ2
    | r => r) else .nx ρ
theorem ps_whileD {n : Nat} (hp : PassesOwn (model X.prog X.w) X.A X.env X.xe) (hc : PT X e (tG c rB p)) (hb : PSs X body (tS c s)) : PS X (.While e body [] pos) (tS c (whileS p s n)) := (ps_while hp hc hb).imp fun D σ H ⟨ρ, Hf, S, A⟩ => by
  refine ⟨fun m σ2 H2 => ∃ ρ2 F2, c.SS ρ2 F2 σ2 H2 ∧ SAt c F2 D (whileS p s m ρ2), ⟨n, ρ, Hf, S, A⟩, ?_⟩
  rintro m σ2 H2 ⟨ρ2, F2, S2, A2⟩
  cases m with
  | zero => exact A2.elim
  | succ m =>
    refine ⟨ρ2, F2, S2, (SAt.expr A2 S2).imp fun k H3 ⟨F3, k', S3, g3, r3, _, A3⟩ => ?_⟩
    cases r3
    cases k with
    | false => exact A3 σ2 H3 F3 S3 (.refl _)
    | true =>
      simp only [if_true] at A3 ⊢
      refine ⟨_, fun σ' H' h' => ⟨m, Nat.lt_succ_self m, h'⟩, ρ2, F3, S3, ?_⟩
      generalize s ρ2 = r at A3 ⊢
      cases r with
      | nx ρ5 => exact fun σ' H' F' S' m' => ⟨ρ5, F', S', SAt.up m' A3⟩
      | ct ρ5 => exact fun σ' H' F' S' m' => ⟨ρ5, F', S', SAt.up m' A3⟩
      | bk ρ5 => exact A3
      | rt d => exact A3
      | exc k l ρ5 => exact A3
      | stuck => exact A3

/-! ### a list that the frame alone holds grows -/
theorem SS.writeOwn {ρ : List Sl} {Hf H : Hp} {σ : L2.St} {i : Nat} {d d' : D} {a : Addr} {o : HO} (S : c.SS ρ Hf σ H) (hi : ρ[i]? = some (.own d)) (ha : σ[i]? = some (some (.ref a))) (hn : ∀ u, H a = some u → (∀ xs, u ≠ .tup xs))
    (ow : OwnAt c.K c.C Hf (upd H a o) a d') : c.SS (ρ.set i (.own d')) Hf σ (upd H a o) := by
  obtain ⟨b, h1, hf, h0, h4⟩ := S.own i d hi
  rw [ha] at h1
  cases h1
  have hl : i < ρ.length := (List.getElem?_eq_some_iff.mp hi).1
  have back : ∀ (j : Nat) (s : Sl), (ρ.set i (.own d'))[j]? = some s → (j = i ∧ s = .own d') ∨ (j ≠ i ∧ ρ[j]? = some s) := fun j s h => by
    rw [List.getElem?_set] at h
    by_cases hj : i = j
    · subst hj
      simp [hl] at h; exact .inl ⟨rfl, h.symm⟩
    · rw [if_neg hj] at h
      exact .inr ⟨fun e => hj e.symm, h⟩
  refine ⟨⟨fun b u e => ?_, S.gr.f0, fun b u e => ?_, S.gr.sep⟩, by simp [S.len], fun j e h => ?_, fun j e h => ?_, fun j k e e' b h1 h2 h3 h4 => ?_⟩
  · rw [upd_ne (ne_of_none e h0)]; exact S.gr.g0 b u e
  · rw [upd_ne (ne_of_none e hf)]; exact S.gr.le b u e
  · rcases back j _ h with ⟨rfl, q⟩ | ⟨q1, q2⟩
    · cases q
    · exact S.fro j e q2
  · rcases back j _ h with ⟨rfl, q⟩ | ⟨q1, q2⟩
    · cases q
      exact ⟨a, ha, hf, h0, ow⟩
    · obtain ⟨b, p1, p2, p3, p4⟩ := S.own j e q2
      have ne : b ≠ a := fun z => q1 (S.apart j i e d a q2 hi (z ▸ p1) ha)
      refine ⟨b, p1, p2, p3, ?_⟩
      cases e with
      | lst ds => obtain ⟨xs, r1, r2⟩ := p4; exact ⟨xs, (upd_ne ne).trans r1, r2⟩
      | dct ds => obtain ⟨xs, r1, r2⟩ := p4; exact ⟨xs, (upd_ne ne).trans r1, r2⟩
      | ins k ds => obtain ⟨dx, gs, r1, r2⟩ := p4; exact ⟨dx, gs, (upd_ne ne).trans r1, r2⟩
      | _ => exact p4.elim
  · have own_of : ∀ (j : Nat) (e : D), (ρ.set i (.own d'))[j]? = some (.own e) → ∃ e0, ρ[j]? = some (.own e0) := fun j e h => by
      rcases back j _ h with ⟨rfl, q⟩ | ⟨q1, q2⟩
      · exact ⟨d, hi⟩
      · exact ⟨e, q2⟩
    obtain ⟨e0, q1⟩ := own_of j e h1
    obtain ⟨e1, q2⟩ := own_of k e' h2
    exact S.apart j k e0 e1 b q1 q2 h3 h4
def appS (i : Nat) (f : List Sl → R D) : List Sl → SR := fun ρ => match ρ[i]? with
  | some (.own (.lst ds)) => (f ρ).then ρ fun d => if cd (ds.length < sizeLine) = true then .nx (ρ.set i (.own (.lst (ds ++ [d])))) else .stuck
  | _ => .stuck
theorem ps_appD {i : Nat} {x : Str} {xp apos cpos : Pos} (hN : X.N[i]? = some x) (hv : Vis X.env.scope x) (hd : (x == ("__debug__" : Str)) = false) (hcd : (x == ("__classdict__" : Str)) = false) (he : PE X e (tG c (rD c) f))
    (hsw : swapsWith (.Call (.Attribute (.Name x xp) "append" apos) [e] [] cpos) none pos.line X.env = pure false)
    (hbase : attributeBase (.Name x xp) "append" X.env (eval (.Name x xp) X.env) = eval (.Name x xp) X.env)
    (hfew : ((backTo cpos (starEach [e] X.env)).all (fun x => !x.1) && (backToKw cpos (keywordEach [] X.env)).all (fun x => x.1.isSome)
      && decide ([e].length + ([] : List Keyword).length + (if ([] : List Keyword).isEmpty then 0 else 1) < 30)) = true)
    (hline : (apos.endLine == cpos.line) = true) (hs : starEach [e] X.env = (false, eval e X.env) :: starEach [] X.env) (hplain : (backTo cpos (starEach [] X.env)).any (·.1) = false) :
    PS X (.Expr (.Call (.Attribute (.Name x xp) "append" apos) [e] [] cpos) pos) (tS c (appS i f)) :=
  (ps_expr (pe_bm PySem.F.plainAttrs_list PySem.F.slot_list_append PySem.F.type_list_append mt_append (pe_var hN hv hd hcd) (pa_cons he pa_nil hs) hbase hfew hline hs hplain) hsw).imp fun D σ H ⟨ρ, Hf, S, A⟩ => by
    unfold appS at A
    split at A
    · rename_i ds q
      obtain ⟨a, h1, hf, h0, ow⟩ := S.own i _ q
      obtain ⟨xs, hx, rx⟩ := id ow
      refine ⟨_, h1, .inl ⟨rfl, xs, .of hx⟩, ρ, Hf, S, (SAt.expr A S).imp fun v H1 ⟨Hf1, d, S1, g1, r1, _, A1⟩ => ?_⟩
      split at A1
      · rename_i hl
        have hx1 : H1 a = some (.lst xs) := g1.h _ _ hx
        have rx1 := RepL.mono g1.f _ _ rx
        refine ⟨a, xs, v, rfl, rfl, hx1, by rw [RepL.length rx]; exact cd_iff.mp hl, A1 σ _ Hf1 (S1.writeOwn q h1 (fun u e xs' z => ?_) ⟨_, upd_same, rx1.append (RepL.one r1)⟩) (.refl _)⟩
        rw [hx1] at e
        cases e
        cases z
      · exact A1.elim
    · exact A.elim

/-! ### from now on nobody changes it -/
def frzSl : Sl → Sl
  | .own d => .fro d
  | s => s
def frzS : List Nat → List Sl → List Sl
  | [], ρ => ρ
  | i :: is, ρ => frzS is (match ρ[i]? with | some (.own d) => ρ.set i (.fro d) | _ => ρ)
theorem SS.frz {H : Hp} {σ : L2.St} : ∀ (is : List Nat) {ρ : List Sl} {Hf : Hp}, c.SS ρ Hf σ H → ∃ Hf', c.SS (frzS is ρ) Hf' σ H ∧ Same Hf Hf'
  | [], ρ, Hf, S => ⟨Hf, S, .refl _⟩
  | i :: is, ρ, Hf, S => by
    unfold frzS
    split
    · rename_i d q
      obtain ⟨a, h1, hf, h0, ow⟩ := S.own i d q
      obtain ⟨o, ho, r⟩ := OwnAt.rep hf ow
      have hl : i < ρ.length := (List.getElem?_eq_some_iff.mp q).1
      have S2 : c.SS (ρ.set i (.fro d)) (upd Hf a o) σ H := by
        have m : Same Hf (upd Hf a o) := upd_same_of hf
        have back : ∀ (j : Nat) (s : Sl), (ρ.set i (.fro d))[j]? = some s → (j = i ∧ s = .fro d) ∨ (j ≠ i ∧ ρ[j]? = some s) := fun j s h => by
          rw [List.getElem?_set] at h
          by_cases hj : i = j
          · subst hj
            simp [hl] at h; exact .inl ⟨rfl, h.symm⟩
          · rw [if_neg hj] at h
            exact .inr ⟨fun e => hj e.symm, h⟩
        refine ⟨⟨S.gr.g0, S.gr.f0.trans m, fun b u e => ?_, fun b u e1 e2 => ?_⟩, by simp [S.len], fun j e h => ?_, fun j e h => ?_, fun j k e e' b h1 h2 h3 h4 => ?_⟩
        · by_cases hb : b = a
          · subst hb
            rw [upd_same] at e
            rw [ho]; exact e
          · rw [upd_ne hb] at e
            exact S.gr.le _ _ e
        · rw [upd_ne (ne_of_none e1 h0)]
          exact S.gr.sep b u e1 e2
        · rcases back j _ h with ⟨rfl, q'⟩ | ⟨q1, q2⟩
          · cases q'
            exact ⟨_, h1, r⟩
          · obtain ⟨v, p1, p2⟩ := S.fro j e q2
            exact ⟨v, p1, Rep.mono m _ _ p2⟩
        · rcases back j _ h with ⟨rfl, q'⟩ | ⟨q1, q2⟩
          · cases q'
          · obtain ⟨b, p1, p2, p3, p4⟩ := S.own j e q2
            have ne : b ≠ a := fun z => q1 (S.apart j i e d a q2 q (z ▸ p1) h1)
            exact ⟨b, p1, by rw [upd_ne ne]; exact p2, p3, p4.mono' (.refl _) m⟩
        · rcases back j _ h1 with ⟨_, q'⟩ | ⟨_, q1⟩
          · cases q'
          rcases back k _ h2 with ⟨_, q'⟩ | ⟨_, q2⟩
          · cases q'
          exact S.apart j k e e' b q1 q2 h3 h4
      obtain ⟨F', S3, m3⟩ := SS.frz is S2
      exact ⟨F', S3, (upd_same_of hf).trans m3⟩
    · exact SS.frz is S
theorem ps_frz {is : List Nat} (h : PS X st (tS c s)) : PS X st (tS c fun ρ => s (frzS is ρ)) := h.imp fun D σ H ⟨ρ, Hf, S, A⟩ => by
  obtain ⟨F', S', m⟩ := SS.frz is S
  exact ⟨_, F', S', SAt.up m A⟩
end
end DS
noncomputable section
namespace DS
open PySem L2
/-! ### the small text of expressions; names are slots -/
inductive E where
  | var (i : Nat) | int (i : Int) | str (s : Str) | bl (b : Bool) | non | glob (n : Nat)
  | bin (o : Operator) (a b : E) | neg (a : E)
  | cmp (o : CmpOp) (a b : E) | chain (o o' : CmpOp) (a b d : E)
  | and (l : List E) | or (l : List E) | not (a : E) | ite (t a b : E)
  | tup (l : List E) | lst (l : List E)
  | idx (a b : E) | slc (a : E) (lo hi : Option E)
  | call (f : Nat) (l : List E) | fn (n : String) (l : List E) | ty (n : String) (l : List E)
  | sidx (a b : E) | bits (a : E) | isB (a : E)
  | rng1 (a : E) | rng2 (a b : E)
  | comp (t : Tg) (own : List Nat) (src : E) (ifs : Option E) (el : E)
/-- what the called defs and the constants are worth -/
structure Sem where
  Φ : Nat → List D → R D
  Γ : Nat → D
def withStr (x : D) (k : Str → R D) : R D := match x with
  | .str z => k z
  | _ => .stuck
def sidxS (a : Str) : D → R D
  | .str b => match Builtin.Str.occurrences a b 0 a.length 1 with | i :: _ => .ok (.int (i : Nat)) | [] => .stuck
  | _ => .stuck
def bitsD : D → R D
  | .int i => .ok (.int (Builtin.Int.intBits i : Nat))
  | _ => .stuck
def isBD : D → R D
  | .bl _ => .ok (.bl true)
  | .int _ => .ok (.bl false)
  | .str _ => .ok (.bl false)
  | .non => .ok (.bl false)
  | .tup _ => .ok (.bl false)
  | .lst _ => .ok (.bl false)
  | _ => .stuck
def seqD (r : R (List D)) : R D := r.bind fun ds => .ok (.lst ds)
mutual
/-- an expression's worth; rd: it is read alone -/
def evE (M : Sem) : E → Bool → List Sl → R D
  | .var i, rd, ρ => if rd = true then getR i ρ else getV i ρ
  | .int i, _, _ => .ok (.int i)
  | .str s, _, _ => .ok (.str s)
  | .bl b, _, _ => .ok (.bl b)
  | .non, _, _ => .ok .non
  | .glob n, _, _ => .ok (M.Γ n)
  | .bin o a b, _, ρ => do let x ← evE M a true ρ; let y ← evE M b true ρ; binD o x y
  | .neg a, _, ρ => do let x ← evE M a true ρ; negD x
  | .cmp o a b, _, ρ => bR (do let x ← evE M a true ρ; let y ← evE M b true ρ; cmpB o x y)
  | .chain o o' a b d, _, ρ => bR (chainB o o' (evE M a true) (evE M b true) (evE M d true) ρ)
  | .and l, _, ρ => bR (evAnd M l ρ)
  | .or l, _, ρ => bR (evOr M l ρ)
  | .not a, _, ρ => bR (do let k ← (evE M a false ρ).bind toB; .ok (!k))
  | .ite t a b, _, ρ => do let k ← (evE M t false ρ).bind toB; if k = true then evE M a false ρ else evE M b false ρ
  | .tup l, _, ρ => do let xs ← evL M l false ρ; small xs (.ok (.tup xs))
  | .lst l, _, ρ => do let xs ← evL M l false ρ; small xs (.ok (.lst xs))
  | .idx a b, _, ρ => do let x ← evE M a true ρ; let y ← evE M b true ρ; idxD x y
  | .slc a lo hi, _, ρ => do let x ← evE M a true ρ; let l ← evO M lo ρ; let u ← evO M hi ρ; slcD x l u
  | .call f l, _, ρ => do let xs ← evL M l false ρ; M.Φ f xs
  | .fn n l, _, ρ => do let xs ← evL M l true ρ; fnD n xs
  | .ty n l, _, ρ => do let xs ← evL M l true ρ; tyD n xs
  | .sidx a b, _, ρ => do let x ← evE M a true ρ; withStr x fun z => do let y ← evE M b true ρ; sidxS z y
  | .bits a, _, ρ => do let x ← evE M a true ρ; bitsD x
  | .isB a, _, ρ => do let x ← evE M a true ρ; isBD x
  | .rng1 a, _, ρ => do let x ← evE M a true ρ; seqD (rng1D [x])
  | .rng2 a b, _, ρ => do let x ← evE M a true ρ; let y ← evE M b true ρ; seqD (rng2D [x, y])
  | .comp t own src ifs el, _, ρ => compE (fun ρ => do let x ← evE M src true ρ; itemsD x) t (evIf M ifs) (evE M el false) own ρ
def evL (M : Sem) : List E → Bool → List Sl → R (List D)
  | [], _, _ => .ok []
  | e :: es, rd, ρ => do let x ← evE M e rd ρ; let xs ← evL M es rd ρ; .ok (x :: xs)
def evAnd (M : Sem) : List E → List Sl → R Bool
  | [], _ => .stuck
  | e :: es, ρ => match es with
    | [] => (evE M e false ρ).bind toB
    | e2 :: es2 => do let k ← (evE M e false ρ).bind toB; if k = true then evAnd M (e2 :: es2) ρ else .ok false
def evOr (M : Sem) : List E → List Sl → R Bool
  | [], _ => .stuck
  | e :: es, ρ => match es with
    | [] => (evE M e false ρ).bind toB
    | e2 :: es2 => do let k ← (evE M e false ρ).bind toB; if k = true then .ok true else evOr M (e2 :: es2) ρ
def evO (M : Sem) : Option E → List Sl → R (Option Int)
  | none, _ => .ok none
  | some e, ρ => do let x ← evE M e true ρ; toI x
def evIf (M : Sem) : Option E → List Sl → R Bool
  | none, _ => .ok true
  | some e, ρ => (evE M e false ρ).bind toB
end
/-- as a test -/
def evT (M : Sem) (e : E) (ρ : List Sl) : R Bool := (evE M e false ρ).bind toB

/-! ### is a piece of the program this text? -/
structure Tab where
  fn : Nat → Str
  ar : Nat → Nat
  fns : List Nat
  gn : Nat → Str
  gls : List Nat
  bts : List String
def nameB (x : Str) : Bool := !(x == ("__debug__" : Str)) && !(x == ("__classdict__" : Str)) && !(x == ("__name__" : Str))
def visB (sc : Scope) (x : Str) : Bool := (match sc.names.lookup x with | some .local => true | some .cell => true | some .free => true | _ => false) && nameB x
def glB (sc : Scope) (x : Str) : Bool := (match sc.names.lookup x with | some .globalImplicit => true | _ => false) && nameB x
def locB (sc : Scope) (x : Str) : Bool := (match sc.names.lookup x with | some .local => true | some .cell => true | _ => false)
def notSlice : Expr → Bool
  | .Slice .. => false
  | _ => true
def notSet : Expr → Bool
  | .Set .. => false
  | _ => true
def plainArg : Expr → Bool
  | .Starred .. => false
  | _ => true
/-- no call without arguments -/
def plainBase : Expr → Bool
  | .Call _ [] _ _ => false
  | _ => true
def fnNames : List String := ["len", "abs", "all", "any", "sum", "min", "max"]
def tyNames : List String := ["int", "str", "list", "tuple"]
/-- a target of a block: its names are the block's own -/
def chkTg1 (N : List Str) (scope sc : Scope) (i : Nat) : Expr → Bool
  | .Name x _ => decide (N[i]? = some x) && locB sc x && ((scope.names.lookup x == some .cell) || (sc.names.lookup x == some .local))
  | _ => false
def chkTgs (N : List Str) (scope sc : Scope) : List Nat → List Expr → Bool
  | [], [] => true
  | i :: is, e :: es => chkTg1 N scope sc i e && chkTgs N scope sc is es
  | _, _ => false
def chkTg (N : List Str) (scope sc : Scope) : Tg → Expr → Bool
  | .one i, e => chkTg1 N scope sc i e
  | .many is, .Tuple es _ _ => chkTgs N scope sc is es
  | _, _ => false
def ownP (N : List Str) (own : List Nat) : List (Str × Nat) := own.map fun i => ((N[i]?).getD Str.empty, i)
mutual
def chkE (T : Tab) (N : List Str) : E → Scope → Expr → Bool
  | .var i, sc, e' => match e' with | .Name x _ => decide (N[i]? = some x) && visB sc x | _ => false
  | .int i, _, e' => match e' with | .Constant (.int j) _ _ => decide (i = j) | _ => false
  | .str s, _, e' => match e' with | .Constant (.str j) _ _ => decide (s = j) | _ => false
  | .bl b, _, e' => match e' with | .Constant (.bool j) _ _ => decide (b = j) | _ => false
  | .non, _, e' => match e' with | .Constant .none _ _ => true | _ => false
  | .glob n, sc, e' => match e' with | .Name x _ => decide (T.gn n = x) && T.gls.contains n && glB sc x | _ => false
  | .bin o a b, sc, e' => match e' with | .BinOp a' o' b' _ => decide (o = o') && chkE T N a sc a' && chkE T N b sc b' | _ => false
  | .neg a, sc, e' => match e' with | .UnaryOp .USub a' _ => chkE T N a sc a' | _ => false
  | .cmp o a b, sc, e' => match e' with | .Compare a' [o'] [b'] _ => decide (o = o') && chkE T N a sc a' && chkE T N b sc b' && !behindInMarks o' b' | _ => false
  | .chain o p a b d, sc, e' => match e' with | .Compare a' [o', p'] [b', d'] _ => decide (o = o') && decide (p = p') && chkE T N a sc a' && chkE T N b sc b' && chkE T N d sc d' && !behindInMarks p' d' | _ => false
  | .and l, sc, e' => match e' with | .BoolOp .And es _ => chkL T N l sc es | _ => false
  | .or l, sc, e' => match e' with | .BoolOp .Or es _ => chkL T N l sc es | _ => false
  | .not a, sc, e' => match e' with | .UnaryOp .Not a' _ => chkE T N a sc a' | _ => false
  | .ite _ _ _, _, _ => false
  | .tup l, sc, e' => match e' with | .Tuple es _ _ => chkL T N l sc es | _ => false
  | .lst l, sc, e' => match e' with | .List es _ => chkL T N l sc es | _ => false
  | .idx a b, sc, e' => match e' with | .Subscript a' b' _ => chkE T N a sc a' && chkE T N b sc b' && notSlice b' | _ => false
  | .slc a lo hi, sc, e' => match e' with | .Subscript a' (.Slice lo' hi' none _) _ => chkE T N a sc a' && chkO T N lo sc lo' && chkO T N hi sc hi' | _ => false
  | .call f l, sc, e' => match e' with | .Call (.Name x _) es [] _ => decide (T.fn f = x) && T.fns.contains f && glB sc x && chkL T N l sc es && decide (l.length = T.ar f) && decide (0 < l.length) | _ => false
  | .fn n l, sc, e' => match e' with | .Call (.Name x _) es [] _ => decide (Str.ofString n = x) && T.bts.contains n && fnNames.contains n && glB sc x && chkL T N l sc es && decide (0 < l.length) | _ => false
  | .ty n l, sc, e' => match e' with | .Call (.Name x _) es [] _ => decide (Str.ofString n = x) && T.bts.contains n && tyNames.contains n && glB sc x && chkL T N l sc es && decide (0 < l.length) | _ => false
  | .sidx a b, sc, e' => match e' with | .Call (.Attribute a' m ap) [b'] [] cp => decide (m = ("index" : Str)) && chkE T N a sc a' && chkE T N b sc b' && (ap.endLine == cp.line) && plainBase a' | _ => false
  | .bits a, sc, e' => match e' with | .Call (.Attribute a' m ap) [] [] cp => decide (m = ("bit_length" : Str)) && chkE T N a sc a' && (ap.endLine == cp.line) && plainBase a' | _ => false
  | .isB a, sc, e' => match e' with | .Call (.Name x _) [a', .Name y _] [] _ => decide (x = ("isinstance" : Str)) && decide (y = ("bool" : Str)) && T.bts.contains "isinstance" && T.bts.contains "bool" && glB sc x && glB sc y && chkE T N a sc a' | _ => false
  | .rng1 _, _, _ => false
  | .rng2 _ _, _, _ => false
  | .comp t own src ifs el, sc, e' => match e' with
    | .ListComp el' [⟨tg, iter, ifs', 0⟩] scope _ => chkS T N src sc iter && blkC N sc scope (ownP N own) && chkTg N scope (relS scope sc) t tg && t.ids.all own.contains && chkIf T N ifs (relS scope sc) ifs' && chkE T N el (relS scope sc) el'
    | _ => false
/-- what is walked -/
def chkS (T : Tab) (N : List Str) : E → Scope → Expr → Bool
  | .rng1 a, sc, e' => match e' with | .Call (.Name x _) [a'] [] _ => decide (x = ("range" : Str)) && T.bts.contains "range" && glB sc x && chkE T N a sc a' | _ => false
  | .rng2 a b, sc, e' => match e' with | .Call (.Name x _) [a', b'] [] _ => decide (x = ("range" : Str)) && T.bts.contains "range" && glB sc x && chkE T N a sc a' && chkE T N b sc b' | _ => false
  | .var i, sc, e' => match e' with | .Name x _ => decide (N[i]? = some x) && visB sc x | _ => false
  | .idx a b, sc, e' => match e' with | .Subscript a' b' _ => chkE T N a sc a' && chkE T N b sc b' && notSlice b' | _ => false
  | .slc a lo hi, sc, e' => match e' with | .Subscript a' (.Slice lo' hi' none _) _ => chkE T N a sc a' && chkO T N lo sc lo' && chkO T N hi sc hi' | _ => false
  | .lst l, sc, e' => match e' with | .List es _ => chkL T N l sc es | _ => false
  | .tup l, sc, e' => match e' with | .Tuple es _ _ => chkL T N l sc es | _ => false
  | .bin o a b, sc, e' => match e' with | .BinOp a' o' b' _ => decide (o = o') && chkE T N a sc a' && chkE T N b sc b' | _ => false
  | .call f l, sc, e' => match e' with | .Call (.Name x _) es [] _ => decide (T.fn f = x) && T.fns.contains f && glB sc x && chkL T N l sc es && decide (l.length = T.ar f) && decide (0 < l.length) | _ => false
  | .fn n l, sc, e' => match e' with | .Call (.Name x _) es [] _ => decide (Str.ofString n = x) && T.bts.contains n && fnNames.contains n && glB sc x && chkL T N l sc es && decide (0 < l.length) | _ => false
  | .ty n l, sc, e' => match e' with | .Call (.Name x _) es [] _ => decide (Str.ofString n = x) && T.bts.contains n && tyNames.contains n && glB sc x && chkL T N l sc es && decide (0 < l.length) | _ => false
  | _, _, _ => false
def chkL (T : Tab) (N : List Str) : List E → Scope → List Expr → Bool
  | [], _, [] => true
  | e :: es, sc, e' :: es' => chkE T N e sc e' && chkL T N es sc es'
  | _, _, _ => false
def chkO (T : Tab) (N : List Str) : Option E → Scope → Option Expr → Bool
  | none, _, none => true
  | some e, sc, some e' => chkE T N e sc e'
  | _, _, _ => false
def chkIf (T : Tab) (N : List Str) : Option E → Scope → List Expr → Bool
  | none, _, [] => true
  | some e, sc, [e'] => chkE T N e sc e'
  | _, _, _ => false
end
end DS
end
noncomputable section
namespace DS
open PySem L2
structure Glo (T : Tab) (M : Sem) (P : Program) (w : World) (K : PySem.W.Frag) (C : Nat → Addr) (mg : Str → Option Value) (base : Heap) (k : Nat) : Prop where
  fn : ∀ f, T.fns.contains f = true → Callee P w K C mg base k (T.fn f) (T.ar f) (M.Φ f)
  gl : ∀ n, T.gls.contains n = true → ∃ v u, mg (T.gn n) = some u ∧ RelV v u ∧ ∀ Hf, Rep K C Hf (M.Γ n) v
  bt : ∀ n, T.bts.contains n = true → mg (Str.ofString n) = none
structure XOk (X : Cx) (c : Ctx) (N : List Str) (sc : Scope) (k : Nat) : Prop where
  hN : X.N = N
  nd : N.Nodup
  hsc : X.env.scope = sc
  hK : X.K = c.K
  calm : X.calm = true
  tk : Takes X c.W
  room : Room k X.A
abbrev GloX (T : Tab) (M : Sem) (X : Cx) (c : Ctx) (k : Nat) : Prop := Glo T M X.prog X.w X.K c.C X.mg X.base k

/-! ### what the checks say -/
theorem nameB_ok {x : Str} (h : nameB x = true) : (x == ("__debug__" : Str)) = false ∧ (x == ("__classdict__" : Str)) = false ∧ x ≠ "__name__" := by
  unfold nameB at h
  simp only [Bool.and_eq_true, Bool.not_eq_true'] at h
  exact ⟨h.1.1, h.1.2, by have := h.2; simpa using this⟩
theorem visB_ok {sc : Scope} {x : Str} (h : visB sc x = true) : Vis sc x ∧ (x == ("__debug__" : Str)) = false ∧ (x == ("__classdict__" : Str)) = false := by
  unfold visB at h
  rw [Bool.and_eq_true] at h
  obtain ⟨h1, h2, _⟩ := And.intro h.1 (nameB_ok h.2)
  refine ⟨?_, h2, (nameB_ok h.2).2.1⟩
  unfold Vis
  split at h1 <;> simp_all
theorem glB_ok {sc : Scope} {x : Str} (h : glB sc x = true) : sc.names.lookup x = some .globalImplicit ∧ (x == ("__debug__" : Str)) = false ∧ x ≠ "__name__" := by
  unfold glB at h
  rw [Bool.and_eq_true] at h
  refine ⟨?_, (nameB_ok h.2).1, (nameB_ok h.2).2.2⟩
  have h1 := h.1
  split at h1 <;> simp_all
theorem locB_ok {sc : Scope} {x : Str} (h : locB sc x = true) : L2.Loc sc x := by
  unfold locB at h
  unfold L2.Loc
  split at h <;> simp_all
theorem star_of {e : Expr} (h : plainArg e = true) (es : List Expr) (env : Env) : starEach (e :: es) env = (false, eval e env) :: starEach es env := by
  cases e <;> first | rfl | cases h
theorem plainIx_of {e : Expr} (h : notSlice e = true) : PlainIx e := by
  intro o i
  cases e <;> first | rfl | cases h
theorem folded_of {e : Expr} (h : notSet e = true) (env : Env) (x : Value) : foldedSetIterable e env x = pure x := by
  cases e <;> first | rfl | cases h
theorem base_of {e : Expr} (h : plainBase e = true) (m : Str) (env : Env) : attributeBase e m env (eval e env) = eval e env := by
  cases e with
  | Call f args kws pos =>
    cases args with
    | nil => cases h
    | cons a r =>
      cases f <;> cases kws <;> rfl
  | _ => rfl
theorem boot_fn {n : String} (h : fnNames.contains n = true) : bootBuiltins (Str.ofString n) = some (.builtin n) := by
  have h : n ∈ fnNames := by simpa using h
  simp only [fnNames, List.mem_cons, List.not_mem_nil, or_false] at h
  rcases h with rfl | rfl | rfl | rfl | rfl | rfl | rfl <;> decide +kernel
theorem boot_ty {n : String} (h : tyNames.contains n = true) : bootBuiltins (Str.ofString n) = some (.type n) := by
  have h : n ∈ tyNames := by simpa using h
  simp only [tyNames, List.mem_cons, List.not_mem_nil, or_false] at h
  rcases h with rfl | rfl | rfl | rfl <;> decide +kernel
theorem star_any {T : Tab} {N : List Str} {sc : Scope} (pos : Pos) (env : Env) : ∀ {es : List Expr}, (∀ e ∈ es, plainArg e = true) → (backTo pos (starEach es env)).any (·.1) = false
  | [], _ => rfl
  | e :: es, h => by
    rw [star_of (h e List.mem_cons_self)]
    have ih := star_any (T := T) (N := N) (sc := sc) pos env (es := es) fun e' h' => h e' (List.mem_cons_of_mem _ h')
    unfold backTo at ih ⊢
    simpa using ih

/-! ### a text is what it says -/
structure SE (X : Cx) (c : Ctx) (M : Sem) (e : E) (e' : Expr) : Prop where
  v : PE X e' (tG c (rD c) (evE M e false))
  r : PE X e' (tG c (rR c) (evE M e true))
  t : PT X e' (tG c rB (evT M e))
  p : plainArg e' = true
structure SI (X : Cx) (c : Ctx) (M : Sem) (e : E) (e' : Expr) : Prop where
  r : ∀ tg, PI X tg e' (tI c false fun ρ => do let x ← evE M e true ρ; itemsD x)
  f : ∀ tg, PI X tg e' (tI c true fun ρ => do let x ← evE M e false ρ; itemsD x)
  s : notSet e' = true
section
variable {T : Tab} {M : Sem} {N : List Str} {k : Nat} {X : Cx} {c : Ctx} {sc : Scope}
theorem SE.of {e : E} {e' : Expr} (h : PE X e' (tG c (rD c) (evE M e false))) (hr : evE M e true = evE M e false) (he : ∀ whole, isTrue e' X.env whole = (do let v ← whole; standAt e'.pos; holding [v] (truthy v))) (p : plainArg e' = true) : SE X c M e e' :=
  ⟨h, by rw [hr]; exact pe_read h, pt_valD h he, p⟩
theorem SE.si (hK : X.K = c.K) {e : E} {e' : Expr} (h : SE X c M e e') (s : notSet e' = true) : SI X c M e e' := ⟨fun _ => pi_anyR hK h.r, fun _ => pi_anyF hK h.v, s⟩
theorem toB_bR (r : R Bool) : (bR r).bind toB = r := by cases r <;> rfl
theorem XOk.gl (O : XOk X c N sc k) {x : Str} (h : glB sc x = true) : Gl X x := by
  show X.env.scope.names.lookup x = _
  rw [O.hsc]
  exact (glB_ok h).1
theorem XOk.vis (O : XOk X c N sc k) {x : Str} (h : visB sc x = true) : Vis X.env.scope x := by
  rw [O.hsc]
  exact (visB_ok h).1
theorem XOk.hu (O : XOk X c N sc k) : X.A.units + 64 < cLine := O.room.units
theorem and2 {a b : Bool} (h : (a && b) = true) : a = true ∧ b = true := by simpa using h
theorem blk_ok {scope : Scope} (O : XOk X c N sc k) (s : Shared) (H : Hp) (C : Addr) (cl : List (Str × Addr)) (fp : List Addr) : XOk (X.blk s H scope (compEnvC scope cl C X.env) fp) c.calm N (relS scope sc) k :=
  ⟨O.hN, O.nd, by rw [← O.hsc]; rfl, O.hK, O.calm, takes0, O.room⟩
theorem tG_congr {α β : Type} {rel : α → β → Hp → Hp → Prop} {f g : List Sl → R α} (h : ∀ ρ, f ρ = g ρ) : tG c rel f = tG c rel g := by
  have : f = g := funext h
  rw [this]
theorem tyV_str {x : Str} {H : Hp} : tyV X.K "str" (.str x) H := rfl
theorem tg1_ok {scope : Scope} {i : Nat} {tg : Expr} (hfn : ∀ x, (scope.names.lookup x == some .cell) = true → X.fn x = true) (O : XOk X c N sc k) (h : chkTg1 N scope sc i tg = true) : PG X tg (gName i) := by
  cases tg with
  | Name x pos =>
    unfold chkTg1 at h
    obtain ⟨h1, h3⟩ := and2 h
    obtain ⟨h1, h2⟩ := and2 h1
    refine pg_name (by rw [O.hN]; exact O.nd) (by rw [O.hN]; exact of_decide_eq_true h1) (by rw [O.hsc]; exact locB_ok h2) ?_
    rw [Bool.or_eq_true] at h3
    rcases h3 with h3 | h3
    · exact .inl (hfn x h3)
    · exact .inr (by rw [O.hsc]; simpa using h3)
  | _ => cases h
theorem tgs_ok {scope : Scope} (hfn : ∀ x, (scope.names.lookup x == some .cell) = true → X.fn x = true) (O : XOk X c N sc k) : ∀ {is : List Nat} {es : List Expr}, chkTgs N scope sc is es = true → PGs X es (gNames is) ∧ (assignEach es X.env).length = is.length ∧ (assignEach es X.env).findIdx? (·.1) = none
  | [], [], _ => ⟨pgs_nil, rfl, rfl⟩
  | i :: is, e :: es, h => by
    unfold chkTgs at h
    obtain ⟨h1, h2⟩ := and2 h
    obtain ⟨q1, q2, q3⟩ := tgs_ok hfn O h2
    have pl : assignEach (e :: es) X.env = (false, assign e X.env) :: assignEach es X.env := by
      cases e <;> first | rfl | cases h1
    refine ⟨pgs_cons (tg1_ok hfn O h1) q1 (by rw [pl]; rfl), by rw [pl]; simp [q2], by rw [pl]; simp [List.findIdx?_cons, q3]⟩
  | [], _ :: _, h => by cases h
  | _ :: _, [], h => by cases h
theorem tg_ok {scope : Scope} {t : Tg} {tg : Expr} (hfn : ∀ x, (scope.names.lookup x == some .cell) = true → X.fn x = true) (O : XOk X c N sc k) (h : chkTg N scope sc t tg = true) : PG X tg (gT c.K t) := by
  cases t with
  | one i => exact tg1_ok hfn O h
  | many is =>
    cases tg with
    | Tuple es kk pos =>
      obtain ⟨q1, q2, q3⟩ := tgs_ok hfn O (show chkTgs N scope sc is es = true from h)
      rw [← O.hK]
      exact pg_tup O.calm q1 q2 q3
    | _ => cases h
theorem own_snd (N : List Str) (own : List Nat) : (ownP N own).map (·.2) = own := by
  unfold ownP
  rw [List.map_map]
  induction own with
  | nil => rfl
  | cons a r ih => simp only [List.map_cons, Function.comp]; rw [List.cons.injEq]; exact ⟨rfl, ih⟩
end
end DS
end
noncomputable section
namespace DS
open PySem L2
section
variable {T : Tab} {M : Sem} {N : List Str} {k : Nat}
theorem at1 {c : Ctx} {f : List Sl → R D} {r : V → Hp → VK → Prop} {op : D → R D} {σ : L2.St} {H : Hp} {Q : VK} (h1 : D1 c (rR c) (rD c) r op) (h : tG c (rD c) (fun ρ => do let x ← f ρ; op x) σ H Q) : tG c (rR c) f σ H fun x H1 => r x H1 Q := seq1 h1 h
theorem sound_glob {X : Cx} {c : Ctx} {sc : Scope} (O : XOk X c N sc k) (G : GloX T M X c k) {n : Nat} {x : Str} {pos : Pos} (h1 : T.gn n = x) (h2 : T.gls.contains n = true) (h3 : glB sc x = true) : PE X (.Name x pos) (tG c (rD c) fun _ => .ok (M.Γ n)) := by
  obtain ⟨v, u, q1, q2, q3⟩ := G.gl n h2
  rw [h1] at q1
  rw [O.hK] at q3
  exact pe_conD (pe_glob (O.gl h3) q1 q2 (glB_ok h3).2.1) q3
theorem sound_sidx {X : Cx} {c : Ctx} {a b : Expr} {f g : List Sl → R D} {ap cp : Pos} (ha : PE X a (tG c (rR c) f)) (hb : PE X b (tG c (rR c) g)) (pb : plainArg b = true) (hbase : plainBase a = true) (hl : (ap.endLine == cp.line) = true) :
    PE X (.Call (.Attribute a "index" ap) [b] [] cp) (tG c (rD c) fun ρ => do let x ← f ρ; withStr x fun z => do let y ← g ρ; sidxS z y) := by
  have hs := star_of pb [] X.env
  refine (pe_bm PySem.F.plainAttrs_str PySem.F.slot_str_index PySem.F.type_str_index mt_sindex ha (pa_cons hb pa_nil hs) (base_of hbase _ _) (by rw [hs]; rfl) hl hs rfl).imp fun σ H Q ⟨ρ, Hf, S, A⟩ => ?_
  refine ⟨ρ, Hf, S, A.bind.imp fun x H1 ⟨Hf1, d, S1, g1, r1, _, A1⟩ => ?_⟩
  cases d with
  | str z =>
    obtain rfl : x = .str z := r1
    refine ⟨rfl, ρ, Hf1, S1, (At.bind (r := g ρ) A1).imp fun y H2 ⟨Hf2, e, S2, g2, r2, _, A2⟩ => ?_⟩
    cases e with
    | str w =>
      obtain rfl : y = .str w := r2
      unfold sidxS at A2
      cases q : Builtin.Str.occurrences z w 0 z.length 1 with
      | nil => simp only [q] at A2; exact A2.elim
      | cons i rest =>
        simp only [q] at A2
        exact ⟨z, w, i, rest, rfl, rfl, q, A2.ret S2 rfl⟩
    | _ => exact A2.elim
  | _ => exact A1.elim
theorem sound_bits {X : Cx} {c : Ctx} {a : Expr} {f : List Sl → R D} {ap cp : Pos} (ha : PE X a (tG c (rR c) f)) (hbase : plainBase a = true) (hl : (ap.endLine == cp.line) = true) :
    PE X (.Call (.Attribute a "bit_length" ap) [] [] cp) (tG c (rD c) fun ρ => do let x ← f ρ; bitsD x) :=
  (pe_bits ha (base_of hbase _ _) hl).imp fun σ H Q h => seq1 (r := fun x H Q => ∃ i, x = .int i ∧ Q (.int (Builtin.Int.intBits i : Nat)) H) (fun ρ Hf H σ x d Q S r A => by
    cases d with
    | int i =>
      obtain rfl : x = .int i := r
      exact ⟨i, rfl, A.ret S rfl⟩
    | _ => exact A.elim) h
theorem ty_of {c : Ctx} {ρ : List Sl} {Hf H : Hp} {σ : L2.St} {X : Cx} (hK : X.K = c.K) (S : c.SS ρ Hf σ H) {d : D} {x : V} {b : D} (h : isBD d = .ok b) (r : RepR c Hf H d x) : ∃ t k, TyX X.K H x (.type t) ∧ kitB t "bool" = some k ∧ b = .bl k := by
  cases d with
  | bl q => obtain rfl : x = .bl q := r; cases h; exact ⟨"bool", true, .base (.bl q), by decide +kernel, rfl⟩
  | int q => obtain rfl : x = .int q := r; cases h; exact ⟨"int", false, .base (.int q), by decide +kernel, rfl⟩
  | str q => obtain rfl : x = .str q := r; cases h; exact ⟨"str", false, .base (.str q), by decide +kernel, rfl⟩
  | non => obtain rfl : x = .non := r; cases h; exact ⟨"NoneType", false, .base .non, by decide +kernel, rfl⟩
  | lst l => obtain ⟨a, xs, rfl, q1, q2⟩ := r; cases h; exact ⟨"list", false, .base (.lst q1), by decide +kernel, rfl⟩
  | tup l =>
    obtain ⟨a, xs, rfl, q1, q2⟩ := r
    cases h
    refine ⟨"tuple", false, ?_, by decide +kernel, rfl⟩
    rcases same_seqT S.gr.le q1 with (q | ⟨o, q⟩) | ⟨o, its, n, q, q3, _⟩
    · exact .base (.tup q)
    · exact .fTuple q
    · exact .kTuple (by rw [hK]; exact q) q3
  | _ => cases h
theorem sound_isB {X : Cx} {c : Ctx} {sc : Scope} (O : XOk X c N sc k) (G : GloX T M X c k) {a : Expr} {f : List Sl → R D} {p p2 pos : Pos} (ha : PE X a (tG c (rR c) f)) (pa : plainArg a = true) (h1 : T.bts.contains "isinstance" = true) (h2 : T.bts.contains "bool" = true) (g1 : glB sc "isinstance" = true) (g2 : glB sc "bool" = true) :
    PE X (.Call (.Name "isinstance" p) [a, .Name "bool" p2] [] pos) (tG c (rD c) fun ρ => do let x ← f ρ; isBD x) := by
  have hb : PE X (.Name "bool" p2) (tC (.ty "bool")) := pe_bltn (O.gl g2) (G.bt _ h2) (by decide +kernel) rfl
  refine (pe_callB call_isi (O.gl g1) (G.bt _ h1) (by decide +kernel) (pa_cons ha (pa_cons hb pa_nil rfl) (star_of pa _ _)) (by decide) (by decide) (star_of pa _ _) rfl).imp fun σ H Q ⟨ρ, Hf, S, A⟩ => ?_
  refine ⟨ρ, Hf, S, A.bind.imp fun x H1 ⟨Hf1, d, S1, g1, r1, _, A1⟩ => ?_⟩
  cases q : isBD d with
  | ok b =>
    rw [q] at A1
    obtain ⟨t, kk, q1, q2, rfl⟩ := ty_of O.hK S1 q r1
    exact ⟨x, .ty "bool", .type t, .type "bool", kk, rfl, .ty "bool", q1, kit_ty q2, A1.ret S1 rfl⟩
  | exc _ _ => rw [q] at A1; cases d <;> cases q
  | stuck => rw [q] at A1; exact A1.elim
theorem evL_len (M : Sem) (rd : Bool) (ρ : List Sl) : ∀ (l : List E) (ds : List D), evL M l rd ρ = .ok ds → ds.length = l.length
  | [], ds, h => by
    have h : R.ok ([] : List D) = .ok ds := h
    cases h; rfl
  | e :: es, ds, h => by
    have h : (do let x ← evE M e rd ρ; let xs ← evL M es rd ρ; R.ok (x :: xs)) = .ok ds := h
    obtain ⟨x, h1, h⟩ := R.bind_ok_inv h
    obtain ⟨xs, h2, h⟩ := R.bind_ok_inv h
    cases h
    simp [evL_len M rd ρ es xs h2]
end
end DS
end
noncomputable section
namespace DS
open PySem L2
section
variable {T : Tab} {M : Sem} {N : List Str} {k : Nat}
theorem ands3 {a b c : Bool} (h : (a && b && c) = true) : a = true ∧ b = true ∧ c = true := by simp only [Bool.and_eq_true] at h; exact ⟨h.1.1, h.1.2, h.2⟩
/-- what a list of texts is -/
structure SL (X : Cx) (c : Ctx) (M : Sem) (l : List E) (es : List Expr) : Prop where
  v : PA X es (tG c (rLs (rD c)) (evL M l false))
  r : PA X es (tG c (rLs (rR c)) (evL M l true))
  p : ∀ e ∈ es, plainArg e = true
  len : es.length = l.length
structure SB (X : Cx) (c : Ctx) (op : BoolOp) (f : List Sl → R Bool) (es : List Expr) : Prop where
  w : ∀ pos, PW X (.BoolOp op es pos) (tG c rB f)
  v : ∀ pos, PE X (.BoolOp op es pos) (tG c (rD c) fun ρ => bR (f ρ))
theorem toBv {X : Cx} {c : Ctx} {e : E} {e' : Expr} (h : SE X c M e e') (hb : PE X e' (tG c (rD c) fun ρ => bR ((evE M e false ρ).bind toB))) : PE X e' (tG c (rD c) fun ρ => bR ((evE M e false ρ).bind toB)) := hb
/-- a value that must be True or False -/
theorem boolV {X : Cx} {c : Ctx} {e' : Expr} {f : List Sl → R D} (h : PE X e' (tG c (rD c) f)) : PE X e' (tG c (rD c) fun ρ => bR ((f ρ).bind toB)) := h.imp fun σ H Q ⟨ρ, Hf, S, A⟩ => by
  refine ⟨ρ, Hf, S, ?_⟩
  dsimp only at A
  generalize f ρ = r at A ⊢
  cases r with
  | ok d =>
    cases d with
    | bl b => exact A
    | _ => exact A.elim
  | exc _ _ => exact A
  | stuck => exact A
theorem call_args {X : Cx} {c : Ctx} {l : List E} {es : List Expr} (h : SL X c M l es) (hl : 0 < l.length) : ∃ e r, es = e :: r := by
  cases es with
  | nil => have := h.len; simp at this; omega
  | cons e r => exact ⟨e, r, rfl⟩
theorem sound_call {X : Cx} {c : Ctx} {sc : Scope} (O : XOk X c N sc k) (G : GloX T M X c k) {f : Nat} {l : List E} {x : Str} {p pos : Pos} {es : List Expr} (h : SL X c M l es) (h1 : T.fn f = x) (h2 : T.fns.contains f = true) (h3 : glB sc x = true) (h4 : l.length = T.ar f) (h5 : 0 < l.length) :
    PE X (.Call (.Name x p) es [] pos) (tG c (rD c) fun ρ => do let xs ← evL M l false ρ; M.Φ f xs) := by
  obtain ⟨e, r, rfl⟩ := call_args h h5
  subst h1
  exact pe_callD O.hK O.tk O.room (G.fn f h2) (O.gl h3) h.v (fun ρ ds q => (evL_len M false ρ l ds q).trans h4) (glB_ok h3).2.1 (star_of (h.p _ List.mem_cons_self) _ _) (star_any (T := T) (N := N) (sc := sc) _ _ fun e' he => h.p _ (List.mem_cons_of_mem _ he))
theorem sound_fn {X : Cx} {c : Ctx} {sc : Scope} (O : XOk X c N sc k) (G : GloX T M X c k) {n : String} {l : List E} {x : Str} {p pos : Pos} {es : List Expr} (h : SL X c M l es) (h1 : Str.ofString n = x) (h2 : T.bts.contains n = true) (h6 : fnNames.contains n = true) (h3 : glB sc x = true) (h5 : 0 < l.length) :
    PE X (.Call (.Name x p) es [] pos) (tG c (rD c) fun ρ => do let xs ← evL M l true ρ; fnD n xs) := by
  obtain ⟨e, r, rfl⟩ := call_args h h5
  subst h1
  exact pe_fnD O.calm O.hK (O.gl h3) (G.bt n h2) (boot_fn h6) h.r (glB_ok h3).2.2 (glB_ok h3).2.1 (star_of (h.p _ List.mem_cons_self) _ _) (star_any (T := T) (N := N) (sc := sc) _ _ fun e' he => h.p _ (List.mem_cons_of_mem _ he))
theorem sound_ty {X : Cx} {c : Ctx} {sc : Scope} (O : XOk X c N sc k) (G : GloX T M X c k) {n : String} {l : List E} {x : Str} {p pos : Pos} {es : List Expr} (h : SL X c M l es) (h1 : Str.ofString n = x) (h2 : T.bts.contains n = true) (h6 : tyNames.contains n = true) (h3 : glB sc x = true) (h5 : 0 < l.length) :
    PE X (.Call (.Name x p) es [] pos) (tG c (rD c) fun ρ => do let xs ← evL M l true ρ; tyD n xs) := by
  obtain ⟨e, r, rfl⟩ := call_args h h5
  subst h1
  exact pe_tyD O.calm O.hK (O.gl h3) (G.bt n h2) (boot_ty h6) h.r (glB_ok h3).2.2 (glB_ok h3).2.1 (star_of (h.p _ List.mem_cons_self) _ _) (star_any (T := T) (N := N) (sc := sc) _ _ fun e' he => h.p _ (List.mem_cons_of_mem _ he))
theorem pi_congr {X : Cx} {c : Ctx} {fz : Bool} {tg e : Expr} {f g : List Sl → R (List D)} (h : PI X tg e (tI c fz f)) (e1 : ∀ ρ, g ρ = f ρ) : PI X tg e (tI c fz g) := by
  have : g = f := funext e1
  rw [this]; exact h
theorem rng1_eq (r : R D) : (do let x ← (do let x ← r; seqD (rng1D [x])); itemsD x) = (do let xs ← (do let x ← r; let xs ← R.ok ([] : List D); R.ok (x :: xs)); rng1D xs) := by
  cases r with
  | ok d =>
    show (seqD (rng1D [d])).bind itemsD = rng1D [d]
    cases rng1D [d] <;> rfl
  | exc _ _ => rfl
  | stuck => rfl
theorem rng2_eq (r : R D) (r2 : R D) : (do let x ← (do let x ← r; let y ← r2; seqD (rng2D [x, y])); itemsD x) = (do let xs ← (do let x ← r; let xs ← (do let y ← r2; let ys ← R.ok ([] : List D); R.ok (y :: ys)); R.ok (x :: xs)); rng2D xs) := by
  cases r with
  | ok d =>
    cases r2 with
    | ok d2 =>
      show (seqD (rng2D [d, d2])).bind itemsD = rng2D [d, d2]
      cases rng2D [d, d2] <;> rfl
    | exc _ _ => rfl
    | stuck => rfl
  | exc _ _ => rfl
  | stuck => rfl
theorem no_chk {α : Prop} {b : Bool} (h : false = true) : α := by cases h
mutual
theorem sound : ∀ (e : E) {X : Cx} {c : Ctx} {sc : Scope} {e' : Expr}, XOk X c N sc k → GloX T M X c k → (chkE T N e sc e' = true → SE X c M e e') ∧ (chkS T N e sc e' = true → SI X c M e e')
  | .var i, X, c, sc, e', O, G => by
    have hv : chkE T N (.var i) sc e' = true → SE X c M (.var i) e' ∧ notSet e' = true := fun h => by
      unfold chkE at h
      split at h
      · rename_i x pos
        obtain ⟨h1, h2⟩ := and2 h
        have h1 := of_decide_eq_true h1
        have q : PE X (.Name x pos) (tG c (rD c) (evE M (.var i) false)) := pe_varD (by rw [O.hN]; exact h1) (O.vis h2) (visB_ok h2).2.1 (visB_ok h2).2.2
        exact ⟨⟨q, pe_varR (by rw [O.hN]; exact h1) (O.vis h2) (visB_ok h2).2.1 (visB_ok h2).2.2, pt_valD q (fun _ => rfl), rfl⟩, rfl⟩
      · cases h
    exact ⟨fun h => (hv h).1, fun h => (hv h).1.si O.hK (hv h).2⟩
  | .int i, X, c, sc, e', O, G => by
    refine ⟨fun h => ?_, fun h => by cases h⟩
    unfold chkE at h
    split at h
    · cases of_decide_eq_true h
      exact .of (pe_conD pe_int fun _ => rfl) rfl (fun _ => rfl) rfl
    · cases h
  | .str i, X, c, sc, e', O, G => by
    refine ⟨fun h => ?_, fun h => by cases h⟩
    unfold chkE at h
    split at h
    · cases of_decide_eq_true h
      exact .of (pe_conD pe_str fun _ => rfl) rfl (fun _ => rfl) rfl
    · cases h
  | .bl i, X, c, sc, e', O, G => by
    refine ⟨fun h => ?_, fun h => by cases h⟩
    unfold chkE at h
    split at h
    · cases of_decide_eq_true h
      exact .of (pe_conD pe_bl fun _ => rfl) rfl (fun _ => rfl) rfl
    · cases h
  | .non, X, c, sc, e', O, G => by
    refine ⟨fun h => ?_, fun h => by cases h⟩
    unfold chkE at h
    split at h
    · exact .of (pe_conD pe_non fun _ => rfl) rfl (fun _ => rfl) rfl
    · cases h
  | .glob n, X, c, sc, e', O, G => by
    refine ⟨fun h => ?_, fun h => by cases h⟩
    unfold chkE at h
    split at h
    · obtain ⟨h1, h2, h3⟩ := ands3 h
      exact .of (sound_glob O G (of_decide_eq_true h1) h2 h3) rfl (fun _ => rfl) rfl
    · cases h
  | .bin o a b, X, c, sc, e', O, G => by
    have hv : chkE T N (.bin o a b) sc e' = true → SE X c M (.bin o a b) e' ∧ notSet e' = true := fun h => by
      unfold chkE at h
      split at h
      · obtain ⟨h1, h2, h3⟩ := ands3 h
        cases of_decide_eq_true h1
        exact ⟨.of (pe_op2 (@mono_rR c) (or_bin O.hK _) (rOp_d2 _) ((sound a O G).1 h2).r ((sound b O G).1 h3).r) rfl (fun _ => rfl) rfl, rfl⟩
      · cases h
    exact ⟨fun h => (hv h).1, fun h => (hv h).1.si O.hK (hv h).2⟩
  | .neg a, X, c, sc, e', O, G => by
    refine ⟨fun h => ?_, fun h => by cases h⟩
    unfold chkE at h
    split at h
    · exact .of (pe_negD ((sound a O G).1 h).r) rfl (fun _ => rfl) rfl
    · cases h
  | .cmp o a b, X, c, sc, e', O, G => by
    refine ⟨fun h => ?_, fun h => by cases h⟩
    unfold chkE at h
    split at h
    · rename_i a' o' b' pos
      obtain ⟨h1, h4⟩ := and2 h
      obtain ⟨h1, h2, h3⟩ := ands3 h1
      cases of_decide_eq_true h1
      have hm : behindInMarks o b' = false := by simpa using h4
      have q : PE X _ (tG c (rD c) (evE M (.cmp o a b) false)) := pe_cmpD (pos := pos) O.hK O.hu ((sound a O G).1 h2).r ((sound b O G).1 h3).r hm
      refine ⟨q, pe_read q, ?_, rfl⟩
      have t := pt_cmpD (pos := pos) O.hK O.hu ((sound a O G).1 h2).r ((sound b O G).1 h3).r hm
      rw [tG_congr (f := evT M (.cmp o a b)) (g := fun ρ => do let x ← evE M a true ρ; let y ← evE M b true ρ; cmpB o x y) fun ρ => toB_bR _]
      exact t
    · cases h
  | .chain o p a b d, X, c, sc, e', O, G => by
    refine ⟨fun h => ?_, fun h => by cases h⟩
    unfold chkE at h
    split at h
    · rename_i a' o' p' b' d' pos
      obtain ⟨h1, h7⟩ := and2 h
      obtain ⟨h1, h5, h6⟩ := ands3 h1
      obtain ⟨h1, h2, h3⟩ := ands3 h1
      cases of_decide_eq_true h1
      cases of_decide_eq_true h2
      have hm : lastMarks [o, p] [b', d'] = false := by
        show behindInMarks p d' = false
        simpa using h7
      have q : PE X _ (tG c (rD c) (evE M (.chain o p a b d) false)) := pe_chainD (pos := pos) O.hK O.hu ((sound a O G).1 h3).r ((sound b O G).1 h5).r ((sound d O G).1 h6).r hm
      refine ⟨q, pe_read q, ?_, rfl⟩
      have t := pt_chainD (pos := pos) O.hK O.hu ((sound a O G).1 h3).r ((sound b O G).1 h5).r ((sound d O G).1 h6).r hm
      rw [tG_congr (f := evT M (.chain o p a b d)) (g := chainB o p (evE M a true) (evE M b true) (evE M d true)) fun ρ => toB_bR _]
      exact t
    · cases h
  | .and l, X, c, sc, e', O, G => by
    refine ⟨fun h => ?_, fun h => by cases h⟩
    unfold chkE at h
    split at h
    · rename_i es pos
      have q := soundAnd l O G h
      have v : PE X (.BoolOp .And es pos) (tG c (rD c) (evE M (.and l) false)) := q.v _
      refine ⟨v, pe_read v, ?_, rfl⟩
      rw [tG_congr (f := evT M (.and l)) (g := evAnd M l) fun ρ => toB_bR _]
      exact (q.w _).pt
    · cases h
  | .or l, X, c, sc, e', O, G => by
    refine ⟨fun h => ?_, fun h => by cases h⟩
    unfold chkE at h
    split at h
    · rename_i es pos
      have q := soundOr l O G h
      have v : PE X (.BoolOp .Or es pos) (tG c (rD c) (evE M (.or l) false)) := q.v _
      refine ⟨v, pe_read v, ?_, rfl⟩
      rw [tG_congr (f := evT M (.or l)) (g := evOr M l) fun ρ => toB_bR _]
      exact (q.w _).pt
    · cases h
  | .not a, X, c, sc, e', O, G => by
    refine ⟨fun h => ?_, fun h => by cases h⟩
    unfold chkE at h
    split at h
    · rename_i a' pos
      have s := (sound a O G).1 h
      have v : PE X (.UnaryOp .Not a' pos) (tG c (rD c) (evE M (.not a) false)) := pe_notD (p := fun ρ => (evE M a false ρ).bind toB) (boolV s.v)
      refine ⟨v, pe_read v, ?_, rfl⟩
      rw [tG_congr (f := evT M (.not a)) (g := fun ρ => do let k ← evT M a ρ; .ok (!k)) fun ρ => toB_bR _]
      exact pt_notD s.t
    · cases h
  | .ite t a b, X, c, sc, e', O, G => by
    refine ⟨fun h => ?_, fun h => by cases h⟩
    cases h
  | .tup l, X, c, sc, e', O, G => by
    have hv : chkE T N (.tup l) sc e' = true → SE X c M (.tup l) e' ∧ notSet e' = true := fun h => by
      unfold chkE at h
      split at h
      · exact ⟨.of (pe_tupD (soundL l O G h).v) rfl (fun _ => rfl) rfl, rfl⟩
      · cases h
    exact ⟨fun h => (hv h).1, fun h => (hv h).1.si O.hK (hv h).2⟩
  | .lst l, X, c, sc, e', O, G => by
    have hv : chkE T N (.lst l) sc e' = true → SE X c M (.lst l) e' ∧ notSet e' = true := fun h => by
      unfold chkE at h
      split at h
      · exact ⟨.of (pe_lstD (soundL l O G h).v) rfl (fun _ => rfl) rfl, rfl⟩
      · cases h
    exact ⟨fun h => (hv h).1, fun h => (hv h).1.si O.hK (hv h).2⟩
  | .idx a b, X, c, sc, e', O, G => by
    have hv : chkE T N (.idx a b) sc e' = true → SE X c M (.idx a b) e' ∧ notSet e' = true := fun h => by
      unfold chkE at h
      split at h
      · obtain ⟨h1, h2, h3⟩ := ands3 h
        exact ⟨.of (pe_idxD O.hK (plainIx_of h3) ((sound a O G).1 h1).r ((sound b O G).1 h2).r) rfl (fun _ => rfl) rfl, rfl⟩
      · cases h
    exact ⟨fun h => (hv h).1, fun h => (hv h).1.si O.hK (hv h).2⟩
  | .slc a lo hi, X, c, sc, e', O, G => by
    have hv : chkE T N (.slc a lo hi) sc e' = true → SE X c M (.slc a lo hi) e' ∧ notSet e' = true := fun h => by
      unfold chkE at h
      split at h
      · obtain ⟨h1, h2, h3⟩ := ands3 h
        exact ⟨.of (pe_slcD O.hK ((sound a O G).1 h1).r (soundO lo O G h2) (soundO hi O G h3)) rfl (fun _ => rfl) rfl, rfl⟩
      · cases h
    exact ⟨fun h => (hv h).1, fun h => (hv h).1.si O.hK (hv h).2⟩
  | .call f l, X, c, sc, e', O, G => by
    have hv : chkE T N (.call f l) sc e' = true → SE X c M (.call f l) e' ∧ notSet e' = true := fun h => by
      unfold chkE at h
      split at h
      · obtain ⟨h1, h5, h6⟩ := ands3 h
        obtain ⟨h1, h3, h4⟩ := ands3 h1
        obtain ⟨h1, h2⟩ := and2 h1
        exact ⟨.of (sound_call O G (soundL l O G h4) (of_decide_eq_true h1) h2 h3 (of_decide_eq_true h5) (of_decide_eq_true h6)) rfl (fun _ => rfl) rfl, rfl⟩
      · cases h
    exact ⟨fun h => (hv h).1, fun h => (hv h).1.si O.hK (hv h).2⟩
  | .fn n l, X, c, sc, e', O, G => by
    have hv : chkE T N (.fn n l) sc e' = true → SE X c M (.fn n l) e' ∧ notSet e' = true := fun h => by
      unfold chkE at h
      split at h
      · obtain ⟨h1, h5, h6⟩ := ands3 h
        obtain ⟨h1, h3, h4⟩ := ands3 h1
        obtain ⟨h1, h2⟩ := and2 h1
        exact ⟨.of (sound_fn O G (soundL l O G h5) (of_decide_eq_true h1) h2 h3 h4 (of_decide_eq_true h6)) rfl (fun _ => rfl) rfl, rfl⟩
      · cases h
    exact ⟨fun h => (hv h).1, fun h => (hv h).1.si O.hK (hv h).2⟩
  | .ty n l, X, c, sc, e', O, G => by
    have hv : chkE T N (.ty n l) sc e' = true → SE X c M (.ty n l) e' ∧ notSet e' = true := fun h => by
      unfold chkE at h
      split at h
      · obtain ⟨h1, h5, h6⟩ := ands3 h
        obtain ⟨h1, h3, h4⟩ := ands3 h1
        obtain ⟨h1, h2⟩ := and2 h1
        exact ⟨.of (sound_ty O G (soundL l O G h5) (of_decide_eq_true h1) h2 h3 h4 (of_decide_eq_true h6)) rfl (fun _ => rfl) rfl, rfl⟩
      · cases h
    exact ⟨fun h => (hv h).1, fun h => (hv h).1.si O.hK (hv h).2⟩
  | .sidx a b, X, c, sc, e', O, G => by
    refine ⟨fun h => ?_, fun h => by cases h⟩
    unfold chkE at h
    split at h
    · obtain ⟨h1, h4, h5⟩ := ands3 h
      obtain ⟨h1, h2, h3⟩ := ands3 h1
      cases of_decide_eq_true h1
      have sb := (sound b O G).1 h3
      exact .of (sound_sidx ((sound a O G).1 h2).r sb.r sb.p h5 h4) rfl (fun _ => rfl) rfl
    · cases h
  | .bits a, X, c, sc, e', O, G => by
    refine ⟨fun h => ?_, fun h => by cases h⟩
    unfold chkE at h
    split at h
    · obtain ⟨h1, h3, h4⟩ := ands3 h
      obtain ⟨h1, h2⟩ := and2 h1
      cases of_decide_eq_true h1
      exact .of (sound_bits ((sound a O G).1 h2).r h4 h3) rfl (fun _ => rfl) rfl
    · cases h
  | .isB a, X, c, sc, e', O, G => by
    refine ⟨fun h => ?_, fun h => by cases h⟩
    unfold chkE at h
    split at h
    · obtain ⟨h1, h6, h7⟩ := ands3 h
      obtain ⟨h1, h4, h5⟩ := ands3 h1
      obtain ⟨h1, h2, h3⟩ := ands3 h1
      cases of_decide_eq_true h1
      cases of_decide_eq_true h2
      have sa := (sound a O G).1 h7
      exact .of (sound_isB O G sa.r sa.p h3 h4 h5 h6) rfl (fun _ => rfl) rfl
    · cases h
  | .rng1 a, X, c, sc, e', O, G => by
    refine ⟨fun h => (by cases h), fun h => ?_⟩
    unfold chkS at h
    split at h
    · obtain ⟨h1, h3, h4⟩ := ands3 h
      obtain ⟨h1, h2⟩ := and2 h1
      cases of_decide_eq_true h1
      have s := (sound a O G).1 h4
      have hs : starEach [_] X.env = [(false, eval _ X.env)] := star_of s.p [] X.env
      have pa := da_cons (re := rR c) (@mono_rR c) s.r (da_nil (re := rR c)) (star_of s.p [] X.env)
      exact ⟨fun tg => pi_congr (pi_rng1D (O.gl h3) (G.bt _ h2) pa hs) fun ρ => rng1_eq _, fun tg => pi_congr (pi_rng1D (O.gl h3) (G.bt _ h2) pa hs) fun ρ => rng1_eq _, rfl⟩
    · cases h
  | .rng2 a b, X, c, sc, e', O, G => by
    refine ⟨fun h => (by cases h), fun h => ?_⟩
    unfold chkS at h
    split at h
    · obtain ⟨h1, h4, h5⟩ := ands3 h
      obtain ⟨h1, h2, h3⟩ := ands3 h1
      cases of_decide_eq_true h1
      have s := (sound a O G).1 h4
      have s2 := (sound b O G).1 h5
      have pa := da_cons (re := rR c) (@mono_rR c) s.r (da_cons (re := rR c) (@mono_rR c) s2.r (da_nil (re := rR c)) (star_of s2.p [] X.env)) (star_of s.p _ X.env)
      have hs2 : starEach [_] X.env = [(false, eval _ X.env)] := star_of s2.p [] X.env
      have hs : starEach [_, _] X.env = [(false, eval _ X.env), (false, eval _ X.env)] := (star_of s.p _ X.env).trans (by rw [hs2])
      exact ⟨fun tg => pi_congr (pi_rng2D (O.gl h3) (G.bt _ h2) pa hs hs2) fun ρ => rng2_eq _ _, fun tg => pi_congr (pi_rng2D (O.gl h3) (G.bt _ h2) pa hs hs2) fun ρ => rng2_eq _ _, rfl⟩
    · cases h
  | .comp t own src ifs el, X, c, sc, e', O, G => by
    refine ⟨fun h => ?_, fun h => by cases h⟩
    unfold chkE at h
    split at h
    · rename_i el' tg iter ifs' scope pos
      obtain ⟨h1, h5, h6⟩ := ands3 h
      obtain ⟨h1, h3, h4⟩ := ands3 h1
      obtain ⟨h1, h2⟩ := and2 h1
      have sI := (sound src O G).2 h1
      have bk : BlkOk X.N X.env.scope scope (ownP N own) := by
        rw [O.hN, O.hsc]; exact blkOk_by h2
      have ho : ∀ i ∈ t.ids, i ∈ own := fun i hi => by
        have := List.all_eq_true.mp h4 i hi
        simpa using this
      refine .of ?_ rfl (fun _ => rfl) rfl
      refine (pe_lc (wi := tI c false fun ρ => do let x ← evE M src true ρ; itemsD x) (g := gT c.K t) (tt := tG c.calm rB (evIf M ifs)) (te := tG c.calm (rD c.calm) (evE M el false)) O.calm (by rw [O.hN]; exact O.nd) (sI.r tg) bk
        (fun s H C cl fp => tg_ok (c := c.calm) (fun _ h => h) (blk_ok O s H C cl fp) h3) (fun s H C cl fp => soundIf ifs (blk_ok O s H C cl fp) G h5) (fun s H C cl fp => ((sound el (blk_ok O s H C cl fp) G).1 h6).v) (fun x => folded_of sI.s _ x)).imp fun σ H Q q => ?_
      rw [own_snd]
      exact lcD ho q
    · cases h
theorem soundL : ∀ (l : List E) {X : Cx} {c : Ctx} {sc : Scope} {es : List Expr}, XOk X c N sc k → GloX T M X c k → chkL T N l sc es = true → SL X c M l es
  | [], X, c, sc, es, O, G, h => by
    cases es with
    | nil => exact ⟨da_nil, da_nil, fun _ h => (by cases h), rfl⟩
    | cons _ _ => cases h
  | e :: l, X, c, sc, es, O, G, h => by
    cases es with
    | nil => cases h
    | cons e' es =>
      obtain ⟨h1, h2⟩ := and2 (show (chkE T N e sc e' && chkL T N l sc es) = true from h)
      have s := (sound e O G).1 h1
      have r := soundL l O G h2
      exact ⟨da_cons (@mono_rD c) s.v r.v (star_of s.p _ _), da_cons (@mono_rR c) s.r r.r (star_of s.p _ _), fun x hx => by
        rcases List.mem_cons.mp hx with rfl | hx
        · exact s.p
        · exact r.p x hx, by simp [r.len]⟩
theorem soundAnd : ∀ (l : List E) {X : Cx} {c : Ctx} {sc : Scope} {es : List Expr}, XOk X c N sc k → GloX T M X c k → chkL T N l sc es = true → SB X c .And (evAnd M l) es
  | [], X, c, sc, es, O, G, h => by
    cases es with
    | nil => exact ⟨fun _ => ⟨fun wh pins s σ H Q I ⟨_, _, _, A⟩ => A.elim⟩, fun _ => ⟨fun pins s σ H Q I ⟨_, _, _, A⟩ => A.elim⟩⟩
    | cons _ _ => cases h
  | e :: l, X, c, sc, es, O, G, h => by
    cases es with
    | nil => cases h
    | cons e' es =>
      obtain ⟨h1, h2⟩ := and2 (show (chkE T N e sc e' && chkL T N l sc es) = true from h)
      have s := (sound e O G).1 h1
      have r := soundAnd l O G h2
      cases l with
      | nil =>
        cases es with
        | nil => exact ⟨fun _ => pw_and1 s.t, fun _ => pe_one (boolV s.v)⟩
        | cons _ _ => cases h2
      | cons e2 l2 =>
        cases es with
        | nil => cases h2
        | cons e2' es2 => exact ⟨fun pos => pw_andD s.t (r.w pos), fun pos => pe_andD (p := fun ρ => (evE M e false ρ).bind toB) (boolV s.v) (r.v pos)⟩
theorem soundOr : ∀ (l : List E) {X : Cx} {c : Ctx} {sc : Scope} {es : List Expr}, XOk X c N sc k → GloX T M X c k → chkL T N l sc es = true → SB X c .Or (evOr M l) es
  | [], X, c, sc, es, O, G, h => by
    cases es with
    | nil => exact ⟨fun _ => ⟨fun wh pins s σ H Q I ⟨_, _, _, A⟩ => A.elim⟩, fun _ => ⟨fun pins s σ H Q I ⟨_, _, _, A⟩ => A.elim⟩⟩
    | cons _ _ => cases h
  | e :: l, X, c, sc, es, O, G, h => by
    cases es with
    | nil => cases h
    | cons e' es =>
      obtain ⟨h1, h2⟩ := and2 (show (chkE T N e sc e' && chkL T N l sc es) = true from h)
      have s := (sound e O G).1 h1
      have r := soundOr l O G h2
      cases l with
      | nil =>
        cases es with
        | nil => exact ⟨fun _ => pw_or1 s.t, fun _ => pe_one (boolV s.v)⟩
        | cons _ _ => cases h2
      | cons e2 l2 =>
        cases es with
        | nil => cases h2
        | cons e2' es2 => exact ⟨fun pos => pw_orD s.t (r.w pos), fun pos => pe_orD (p := fun ρ => (evE M e false ρ).bind toB) (boolV s.v) (r.v pos)⟩
theorem soundO : ∀ (o : Option E) {X : Cx} {c : Ctx} {sc : Scope} {o' : Option Expr}, XOk X c N sc k → GloX T M X c k → chkO T N o sc o' = true → PO X o' (tG c rO (evO M o))
  | none, X, c, sc, o', O, G, h => by
    cases o' with
    | none => exact po_noneD
    | some _ => cases h
  | some e, X, c, sc, o', O, G, h => by
    cases o' with
    | none => cases h
    | some e' => exact po_someD ((sound e O G).1 h).r
theorem soundIf : ∀ (o : Option E) {X : Cx} {c : Ctx} {sc : Scope} {es : List Expr}, XOk X c N sc k → GloX T M X c k → chkIf T N o sc es = true → PTs X es (tG c rB (evIf M o))
  | none, X, c, sc, es, O, G, h => by
    cases es with
    | nil => exact ⟨fun pins s σ H Q I ⟨ρ, Hf, S, A⟩ => pts_nil.run pins s σ H Q I (A.ret S rfl)⟩
    | cons _ _ => cases h
  | some e, X, c, sc, es, O, G, h => by
    cases es with
    | nil => cases h
    | cons e' es =>
      cases es with
      | nil => exact pts_one ((sound e O G).1 h).t
      | cons _ _ => cases h
end
end
end DS
end
noncomputable section
namespace DS
open PySem L2
/-! ### the small text of statements -/
inductive S where
  | asg (i : Nat) (own : Bool) (e : E)
  | tupl (is : List Nat) (e : E)
  | par (i j : Nat) (a b : E)
  | aug (o : Operator) (i : Nat) (e : E)
  | expr (e : E) | ret (e : E) | retN
  | ite (t : E) (a b : List S)
  | loop (t : Tg) (src : E) (b : List S)
  | whl (n : Nat) (t : E) (b : List S)
  | app (i : Nat) (e : E)
  | pas | brk | cont
  | frz (is : List Nat) (s : S)
mutual
def evS (M : Sem) : S → List Sl → SR
  | .asg i own e, ρ => (evE M e false ρ).then ρ fun d => .nx (ρ.set i (if own = true then .own d else .fro d))
  | .tupl is e, ρ => (evE M e false ρ).then ρ fun d => (bindT (.many is) d ρ).then ρ .nx
  | .par i j a b, ρ => (evE M a false ρ).then ρ fun d => (evE M b false ρ).then ρ fun e => .nx ((ρ.set i (.fro d)).set j (.fro e))
  | .aug o i e, ρ => (getV i ρ).then ρ fun d => (evE M e false ρ).then ρ fun y => (augD o d y).then ρ fun z => .nx (ρ.set i (.fro z))
  | .expr e, ρ => (evE M e false ρ).then ρ fun _ => .nx ρ
  | .ret e, ρ => (evE M e false ρ).then ρ .rt
  | .retN, _ => .rt .non
  | .ite t a b, ρ => (evT M t ρ).then ρ fun k => if k = true then evB M a ρ else evB M b ρ
  | .loop t src b, ρ => (do let x ← evE M src false ρ; itemsD x).then ρ fun ds => loopS (bindT t) (evB M b) ds ρ
  | .whl n t b, ρ => whileS (evT M t) (evB M b) n ρ
  | .app i e, ρ => appS i (evE M e false) ρ
  | .pas, ρ => .nx ρ
  | .brk, ρ => .bk ρ
  | .cont, ρ => .ct ρ
  | .frz is s, ρ => evS M s (frzS is ρ)
def evB (M : Sem) : List S → List Sl → SR
  | [], ρ => .nx ρ
  | s :: r, ρ => (evS M s ρ).andThen (evB M r)
end
def isComp : Expr → Bool
  | .ListComp .. => true
  | .SetComp .. => true
  | .DictComp .. => true
  | _ => false
def isTup : Expr → Bool
  | .Tuple .. => true
  | _ => false
def isLC : Expr → Bool
  | .ListComp .. => true
  | _ => false
/-- the comprehension's list is stored within its frame -/
def swB (sc : Scope) (x : Str) (px : Pos) : Expr → Bool
  | .ListComp _ _ scope pos => (sc.names.lookup x == some .local) && (px.line == pos.line) && !(scope.names.any fun (n, k) => n == x && (k == .local || k == .cell))
  | _ => false
def freshE : E → Bool
  | .lst _ => true
  | .comp .. => true
  | _ => false
def nm1 (N : List Str) (sc : Scope) (i : Nat) (x : Str) : Bool := decide (N[i]? = some x) && locB sc x
mutual
def chkT (T : Tab) (N : List Str) : S → Scope → Stmt → Bool
  | .asg i own e, sc, s' => match s' with | .Assign [.Name x px] e' _ => nm1 N sc i x && chkE T N e sc e' && (!own || freshE e) && (!isComp e' || isLC e') && (!isLC e' || freshE e) | _ => false
  | .tupl is e, sc, s' => match s' with | .Assign [.Tuple es _ _] e' _ => chkTgs N sc sc is es && chkE T N e sc e' && !isTup e' | _ => false
  | .par i j a b, sc, s' => match s' with
    | .Assign [.Tuple [.Name x px, .Name y py] _ pt] (.Tuple [a', b'] _ _) _ => nm1 N sc i x && nm1 N sc j y && decide (i ≠ j) && decide (x ≠ y) && (sc.names.lookup x == some .local) && (sc.names.lookup y == some .local) && chkE T N a sc a' && chkE T N b sc b'
        && (py.line == px.line) && !([a', b'].all (foldedForSure 8)) && !([a', b'].all (constantsAlone 8))
    | _ => false
  | .aug o i e, sc, s' => match s' with | .AugAssign (.Name x _) o' e' _ => nm1 N sc i x && decide (o = o') && (decide (o = .Add) || decide (o = .Sub)) && chkE T N e sc e' | _ => false
  | .expr e, sc, s' => match s' with | .Expr e' _ => chkE T N e sc e' && !isComp e' | _ => false
  | .ret e, sc, s' => match s' with | .Return (some e') _ => chkE T N e sc e' | _ => false
  | .retN, _, s' => match s' with | .Return none _ => true | _ => false
  | .ite t a b, sc, s' => match s' with | .If t' a' b' _ => chkE T N t sc t' && chkB T N a sc a' && chkB T N b sc b' | _ => false
  | .loop t src b, sc, s' => match s' with | .For tg iter b' [] _ => chkTg N sc sc t tg && chkS T N src sc iter && chkB T N b sc b' | _ => false
  | .whl _ t b, sc, s' => match s' with | .While t' b' [] _ => chkE T N t sc t' && chkB T N b sc b' | _ => false
  | .app i e, sc, s' => match s' with | .Expr (.Call (.Attribute (.Name x _) m ap) [e'] [] cp) _ => decide (N[i]? = some x) && visB sc x && decide (m = ("append" : Str)) && chkE T N e sc e' && (ap.endLine == cp.line) | _ => false
  | .pas, _, s' => match s' with | .Pass _ => true | _ => false
  | .brk, _, s' => match s' with | .Break _ => true | _ => false
  | .cont, _, s' => match s' with | .Continue _ => true | _ => false
  | .frz _ s, sc, s' => chkT T N s sc s'
def chkB (T : Tab) (N : List Str) : List S → Scope → List Stmt → Bool
  | [], _, [] => true
  | s :: r, sc, s' :: r' => chkT T N s sc s' && chkB T N r sc r'
  | _, _, _ => false
end
/-- the context of a def's body -/
structure XDef (X : Cx) (c : Ctx) (N : List Str) (sc : Scope) (k : Nat) : Prop extends XOk X c N sc k where
  kd : sc.kind = .function
  fn : ∀ x, X.fn x = true
  ps : PassesOwn (model X.prog X.w) X.A X.env X.xe
section
variable {T : Tab} {M : Sem} {N : List Str} {k : Nat} {X : Cx} {c : Ctx} {sc : Scope}
theorem nm1_ok (O : XOk X c N sc k) {i : Nat} {x : Str} (h : nm1 N sc i x = true) : X.N[i]? = some x ∧ L2.Loc X.env.scope x := by
  obtain ⟨h1, h2⟩ := and2 h
  exact ⟨by rw [O.hN]; exact of_decide_eq_true h1, by rw [O.hsc]; exact locB_ok h2⟩
theorem sw_false {e' : Expr} (h : isComp e' = false) (t : Option Expr) (l : Nat) (env : Env) : swapsWith e' t l env = pure false := by
  cases e' <;> first | rfl | cases h
theorem sw_lc {elt : Expr} {gs : List Comprehension} {scope : Scope} {pos px : Pos} {x : Str} {l : Nat} (hk : X.env.scope.kind = .function) : swapsWith (.ListComp elt gs scope pos) (some (.Name x px)) l X.env = pure (swB X.env.scope x px (.ListComp elt gs scope pos)) := by
  have hb : X.env.blockKind = .function := by unfold Env.blockKind; rw [hk]; rfl
  unfold swapsWith swB
  simp only [hb, Expr.pos]
  rfl
theorem pe_lstN {es : List Expr} {fs : List Sl → R (List D)} {pos : Pos} (h : PA X es (tG c (rLs (rD c)) fs)) : PE X (.List es pos) (tN c fun ρ => do let xs ← fs ρ; small xs (.ok (.lst xs))) := (pe_lst h).imp fun σ H Q h => by
  obtain ⟨ρ, Hf, S, A⟩ := h
  refine ⟨ρ, Hf, S, ?_⟩
  dsimp only at A
  generalize fs ρ = r at A ⊢
  cases r with
  | stuck => exact A
  | exc k l => exact A
  | ok ds =>
    intro xs H1 Hf1 S1 g1 r1
    have r1 := rLs_rD r1
    have A : AtN c (small ds (.ok (.lst ds))) ρ Hf σ H Q := A
    unfold small at A
    split at A
    · rename_i hl
      have hl := cd_iff.mp hl
      refine ⟨by rw [RepL.length r1]; exact hl, fun p hp => ?_⟩
      have hp0 : Hf1 p = none := S1.gr.le.free hp
      have ho : ∀ (i : Nat) (e : D), ρ[i]? = some (.own e) → σ[i]? ≠ some (some (.ref p)) := fun i d h e => by
        obtain ⟨a, h1, h2, h3, h4⟩ := S1.own i d h
        rw [e] at h1
        cases h1
        obtain ⟨o, ho⟩ := h4.there
        rw [hp] at ho
        cases ho
      refine A _ (upd H1 p (.lst xs)) Hf1 (S1.write _ (S1.gr.g0.free hp) hp0 ho) ⟨g1.h.trans (upd_same_of hp), g1.f, g1.n⟩ ⟨p, rfl, g1.h.free hp, hp0, S1.gr.g0.free hp, ⟨xs, upd_same, r1⟩, ho⟩
    · exact A.elim
theorem par_swap {x y : Str} {px py pt : Pos} {kt k2 : Nat} {pt2 : Pos} {a b : Expr} (hk : X.env.scope.kind = .function) (hx : X.env.scope.names.lookup x = some .local) (hy : X.env.scope.names.lookup y = some .local) (hxy : x ≠ y) (hl : (py.line == px.line) = true)
    (pa : plainArg a = true) (pb : plainArg b = true) (h1 : [a, b].all (foldedForSure 8) = false) (h2 : [a, b].all (constantsAlone 8) = false) :
    swappedStores [.Tuple [.Name x px, .Name y py] kt pt] (.Tuple [a, b] k2 pt2) X.env = pure (some [x, y]) := by
  have hb : X.env.blockKind = .function := by unfold Env.blockKind; rw [hk]; rfl
  have ex : X.env.kindOf x = some .local := hx
  have ey : X.env.kindOf y = some .local := hy
  have hne : ¬ (y = x) := fun e => hxy e.symm
  have hbk : (X.env.blockKind != ScopeKind.function) = false := by rw [hb]; rfl
  unfold swappedStores
  simp only [hbk, Expr.pos, List.filterMap_cons, ex, ey, hl, List.filterMap_nil, h1, h2, List.head?, Option.map, Option.getD, beq_self_eq_true, Bool.and_true, Bool.true_and, if_true]
  rw [if_neg (by simp)]
  split
  · rename_i h
    exfalso
    simp only [List.any_cons, List.any_nil, Bool.or_false, Bool.or_eq_true] at h
    rcases h with h | h
    · cases a <;> first | (cases h; done) | cases pa
    · cases b <;> first | (cases h; done) | cases pb
  · rw [if_neg (by simp [List.eraseDups_cons, hne]), if_neg (by decide), if_neg (by decide)]
theorem notB {b : Bool} (h : (!b) = true) : b = false := by cases b <;> first | rfl | cases h
theorem XDef.kind (O : XDef X c N sc k) : X.env.scope.kind = .function := by rw [O.hsc]; exact O.kd
theorem ands4 {a b c d : Bool} (h : (a && b && c && d) = true) : a = true ∧ b = true ∧ c = true ∧ d = true := by simp only [Bool.and_eq_true] at h; exact ⟨h.1.1.1, h.1.1.2, h.1.2, h.2⟩
/-- name = [.. for ..] -/
theorem sound_lc (O : XDef X c N sc k) (G : GloX T M X c k) {i : Nat} {own : Bool} {t : Tg} {ow : List Nat} {src el : E} {ifs : Option E} {x : Str} {px pos : Pos} {e' : Expr} (hx : nm1 N sc i x = true) (h : chkE T N (.comp t ow src ifs el) sc e' = true) :
    PS X (.Assign [.Name x px] e' pos) (tS c fun ρ => (evE M (.comp t ow src ifs el) false ρ).then ρ fun d => .nx (ρ.set i (if own = true then .own d else .fro d))) := by
  obtain ⟨n1, n2⟩ := nm1_ok O.toXOk hx
  unfold chkE at h
  split at h
  · rename_i el' tg iter ifs' scope lpos
    obtain ⟨h1, h5, h6⟩ := ands3 h
    obtain ⟨h1, h3, h4⟩ := ands3 h1
    obtain ⟨h1, h2⟩ := and2 h1
    have O' := O.toXOk
    have sI := (sound src O' G).2 h1
    have bk : BlkOk X.N X.env.scope scope (ownP N ow) := by
      rw [O.hN, O.hsc]; exact blkOk_by h2
    have ho : ∀ i ∈ t.ids, i ∈ ow := fun i hi => by
      have := List.all_eq_true.mp h4 i hi
      simpa using this
    have hnd : X.N.Nodup := by rw [O.hN]; exact O.nd
    have q1 : ∀ {σ : L2.St} {H : Hp} {D : Ends}, tS c (fun ρ => (evE M (.comp t ow src ifs el) false ρ).then ρ fun d => .nx (ρ.set i (if own = true then .own d else .fro d))) D σ H →
        tAsg (tLc (tI c false fun ρ => do let x ← evE M src true ρ; itemsD x) (gT c.K t) (tG c.calm rB (evIf M ifs)) (tG c.calm (rD c.calm) (evE M el false)) ((ownP N ow).map (·.2))) (gName i) D σ H := fun {σ H D} q => by
      rw [own_snd]
      cases own with
      | true => exact lcN ho (asgN (f := evE M (.comp t ow src ifs el) false) q)
      | false => exact lcD ho (asgD (f := evE M (.comp t ow src ifs el) false) q)
    have hg := fun s H C cl fp => tg_ok (c := c.calm) (X := X.blk s H scope (compEnvC scope cl C X.env) fp) (scope := scope) (fun x hx => hx) (blk_ok O' s H C cl fp) h3
    have ht := fun s H C cl fp => soundIf ifs (blk_ok (scope := scope) O' s H C cl fp) G h5
    have he := fun s H C cl fp => ((sound el (blk_ok (scope := scope) O' s H C cl fp) G).1 h6).v
    cases hs : swB X.env.scope x px (.ListComp el' [⟨tg, iter, ifs', 0⟩] scope lpos) with
    | true =>
      have hl : X.env.scope.names.lookup x = some .local := by
        unfold swB at hs
        simp only [Bool.and_eq_true] at hs
        simpa using hs.1.1
      exact (ps_setLc O.calm hnd n1 hl (by rw [sw_lc O.kind, hs]) (sI.r tg) bk hg ht he (fun x => folded_of sI.s _ x)).imp fun D σ H q => q1 q
    | false =>
      exact (ps_set hnd n1 n2 (pe_lc O.calm hnd (sI.r tg) bk hg ht he (fun x => folded_of sI.s _ x)) (by rw [sw_lc O.kind, hs]) (.inl (O.fn x))).imp fun D σ H q => q1 q
  · cases h
theorem sound_asg (O : XDef X c N sc k) (G : GloX T M X c k) {i : Nat} {own : Bool} {e : E} {x : Str} {px pos : Pos} {e' : Expr} (hx : nm1 N sc i x = true) (h : chkE T N e sc e' = true) (ho : own = true → freshE e = true) (hc : isComp e' = true → freshE e = true ∧ isLC e' = true) :
    PS X (.Assign [.Name x px] e' pos) (tS c fun ρ => (evE M e false ρ).then ρ fun d => .nx (ρ.set i (if own = true then .own d else .fro d))) := by
  obtain ⟨n1, n2⟩ := nm1_ok O.toXOk hx
  have hnd : X.N.Nodup := by rw [O.hN]; exact O.nd
  cases hcc : isComp e' with
  | true =>
    obtain ⟨q1, q2⟩ := hc hcc
    cases e with
    | comp t ow src ifs el => exact sound_lc O G hx h
    | lst l =>
      unfold chkE at h
      split at h
      · cases hcc
      · cases h
    | _ => cases q1
  | false =>
    have hs := sw_false hcc (some (.Name x px)) pos.line X.env
    cases own with
    | false => exact ps_setD hnd n1 n2 ((sound e O.toXOk G).1 h).v hs (.inl (O.fn x))
    | true =>
      have hf := ho rfl
      cases e with
      | comp t ow src ifs el =>
        unfold chkE at h
        split at h
        · cases hcc
        · cases h
      | lst l =>
        have h0 := h
        unfold chkE at h
        split at h
        · exact ps_setN hnd n1 n2 (pe_lstN (soundL l O.toXOk G h).v) hs (.inl (O.fn x))
        · cases h
      | _ => cases hf
mutual
theorem soundT : ∀ (s : S) {X : Cx} {c : Ctx} {sc : Scope} {s' : Stmt}, XDef X c N sc k → GloX T M X c k → chkT T N s sc s' = true → PS X s' (tS c (evS M s))
  | .asg i own e, X, c, sc, s', O, G, h => by
    unfold chkT at h
    split at h
    · rename_i x px e' pos
      obtain ⟨h1, h4, h5⟩ := ands3 h
      obtain ⟨h1, h2, h3⟩ := ands3 h1
      refine sound_asg O G h1 h2 (fun e => ?_) fun e => ?_
      · subst e; simpa using h3
      · have q2 : isLC e' = true := by simpa [e] using h4
        exact ⟨by simpa [q2] using h5, q2⟩
    · cases h
  | .tupl is e, X, c, sc, s', O, G, h => by
    unfold chkT at h
    split at h
    · rename_i es kk tp e' pos
      obtain ⟨h1, h2, h3⟩ := ands3 h
      have nt : isTup e' = false := by simpa using h3
      obtain ⟨q1, q2, q3⟩ := tgs_ok (X := X) (scope := sc) (fun x _ => O.fn x) O.toXOk h1
      refine ps_tupD O.hK ((sound e O.toXOk G).1 h2).v (pg_tup O.calm q1 q2 q3) ?_ ?_ rfl
      · cases e' <;> rfl
      · cases e' <;> first | rfl | cases nt
    · cases h
  | .par i j a b, X, c, sc, s', O, G, h => by
    unfold chkT at h
    split at h
    · rename_i x px y py kt pt a' b' k2 pt2 pos
      simp only [Bool.and_eq_true] at h
      obtain ⟨⟨⟨⟨⟨⟨⟨⟨⟨⟨h1, h2⟩, h3⟩, h4⟩, h5⟩, h6⟩, h7⟩, h8⟩, h9⟩, h10⟩, h11⟩ := h
      obtain ⟨n1, _⟩ := nm1_ok O.toXOk h1
      obtain ⟨m1, _⟩ := nm1_ok O.toXOk h2
      have hx : X.env.scope.names.lookup x = some .local := by rw [O.hsc]; simpa using h5
      have hy : X.env.scope.names.lookup y = some .local := by rw [O.hsc]; simpa using h6
      have sa := (sound a O.toXOk G).1 h7
      have sb := (sound b O.toXOk G).1 h8
      exact ps_parD O.calm (by rw [O.hN]; exact O.nd) n1 m1 (of_decide_eq_true h3) hx hy sa.v sb.v (star_of sa.p _ _) (star_of sb.p _ _) (par_swap O.kind hx hy (of_decide_eq_true h4) h9 sa.p sb.p (notB h10) (notB h11)) rfl
    · cases h
  | .aug o i e, X, c, sc, s', O, G, h => by
    unfold chkT at h
    split at h
    · obtain ⟨h1, h2, h3, h4⟩ := ands4 h
      cases of_decide_eq_true h2
      obtain ⟨n1, n2⟩ := nm1_ok O.toXOk h1
      rw [Bool.or_eq_true] at h3
      exact ps_augD (h3.imp of_decide_eq_true of_decide_eq_true) (by rw [O.hN]; exact O.nd) n1 n2 ((sound e O.toXOk G).1 h4).v (.inl (O.fn _))
    · cases h
  | .expr e, X, c, sc, s', O, G, h => by
    unfold chkT at h
    split at h
    · obtain ⟨h1, h2⟩ := and2 h
      exact ps_exprD ((sound e O.toXOk G).1 h1).v (sw_false (by simpa using h2) _ _ _)
    · cases h
  | .ret e, X, c, sc, s', O, G, h => by
    unfold chkT at h
    split at h
    · exact ps_retD ((sound e O.toXOk G).1 h).v
    · cases h
  | .retN, X, c, sc, s', O, G, h => by
    unfold chkT at h
    split at h
    · exact ps_retND
    · cases h
  | .ite t a b, X, c, sc, s', O, G, h => by
    unfold chkT at h
    split at h
    · obtain ⟨h1, h2, h3⟩ := ands3 h
      exact ps_ifD ((sound t O.toXOk G).1 h1).t (soundB a O G h2) (soundB b O G h3)
    · cases h
  | .loop t src b, X, c, sc, s', O, G, h => by
    unfold chkT at h
    split at h
    · obtain ⟨h1, h2, h3⟩ := ands3 h
      have sI := (sound src O.toXOk G).2 h2
      have g := tg_ok (scope := sc) (fun x _ => O.fn x) O.toXOk h1
      rw [← O.hK] at g
      exact ps_forD O.ps O.calm O.hK (sI.f _) g (soundB b O G h3) (fun x => folded_of sI.s _ x)
    · cases h
  | .whl n t b, X, c, sc, s', O, G, h => by
    unfold chkT at h
    split at h
    · obtain ⟨h1, h2⟩ := and2 h
      exact ps_whileD O.ps ((sound t O.toXOk G).1 h1).t (soundB b O G h2)
    · cases h
  | .app i e, X, c, sc, s', O, G, h => by
    unfold chkT at h
    split at h
    · obtain ⟨h1, h4, h5⟩ := ands3 h
      obtain ⟨h0, h2, h3⟩ := ands3 h1
      cases of_decide_eq_true h3
      have s := (sound e O.toXOk G).1 h4
      exact ps_appD (by rw [O.hN]; exact of_decide_eq_true h0) (O.toXOk.vis h2) (visB_ok h2).2.1 (visB_ok h2).2.2 s.v (sw_false rfl _ _ _) (base_of rfl _ _) (by rw [star_of s.p]; rfl) h5 (star_of s.p _ _) rfl
    · cases h
  | .pas, X, c, sc, s', O, G, h => by
    unfold chkT at h
    split at h
    · exact ps_passD
    · cases h
  | .brk, X, c, sc, s', O, G, h => by
    unfold chkT at h
    split at h
    · exact ps_breakD
    · cases h
  | .cont, X, c, sc, s', O, G, h => by
    unfold chkT at h
    split at h
    · exact ps_continueD
    · cases h
  | .frz is s, X, c, sc, s', O, G, h => ps_frz (soundT s O G h)
theorem soundB : ∀ (b : List S) {X : Cx} {c : Ctx} {sc : Scope} {b' : List Stmt}, XDef X c N sc k → GloX T M X c k → chkB T N b sc b' = true → PSs X b' (tS c (evB M b))
  | [], X, c, sc, b', O, G, h => by
    cases b' with
    | nil => exact pss_nilD
    | cons _ _ => cases h
  | s :: r, X, c, sc, b', O, G, h => by
    cases b' with
    | nil => cases h
    | cons s' r' =>
      obtain ⟨h1, h2⟩ := and2 (show (chkT T N s sc s' && chkB T N r sc r') = true from h)
      exact pss_consD (soundT s O G h1) (soundB r O G h2)
end
end
end DS
end
noncomputable section
namespace DS
open PySem L2
/-! ### a def of the text -/
def startR (n : Nat) (ds : List D) : List Sl := ds.map .fro ++ List.replicate (n - ds.length) .no
def outR : SR → R D
  | .rt d => .ok d
  | .nx _ => .ok .non
  | .exc k fs _ => .exc k fs
  | _ => .stuck
def runB (M : Sem) (n : Nat) (b : List S) (ds : List D) : R D := outR (evB M b (startR n ds))
def scopeB (N ps : List Str) (sc : Scope) : Bool :=
  decide (sc.kind = .function) && !sc.isCoroutine && !sc.isGenerator && decide N.Nodup && decide (N.take ps.length = ps) && (ps.all fun x => (sc.names.lookup x == some .local) || (sc.names.lookup x == some .cell)) && (sc.names.all fun y => !(y.2 == .free))
theorem scope_of {N ps : List Str} {sc : Scope} (h : scopeB N ps sc = true) : FnScope N ps sc := by
  unfold scopeB at h
  simp only [Bool.and_eq_true, decide_eq_true_eq, List.all_eq_true, Bool.or_eq_true, Bool.not_eq_true', beq_iff_eq] at h
  obtain ⟨⟨⟨⟨⟨⟨h1, h2⟩, h3⟩, h4⟩, h5⟩, h6⟩, h7⟩ := h
  refine ⟨h1, h2, h3, h4, h5, fun x hx => h6 x hx, fun y hy e => ?_⟩
  have := h7 y hy
  rw [e] at this
  cases this
theorem start_SS {K : PySem.W.Frag} {C : Nat → Addr} {H Hf : Hp} {N : List Str} {ds : List D} {vs : List V} (le : Same Hf H) (r : RepL K C Hf ds vs) : SS K C H Hf (startR N.length ds) Hf (L2.start N vs) H := by
  have hl := RepL.length r
  refine ⟨⟨.refl _, .refl _, le, fun _ _ _ e => e⟩, by unfold startR L2.start; simp [hl], fun i d h => ?_, fun i d h => ?_, fun i j d e a h => ?_⟩
  · unfold startR at h
    rw [List.getElem?_append] at h
    split at h
    · rename_i hi
      rw [List.getElem?_map] at h
      obtain ⟨d', e1, e2⟩ := Option.map_eq_some_iff.mp h
      cases e2
      obtain ⟨v, e3, r3⟩ := RepL.get' r e1
      refine ⟨v, ?_, r3⟩
      unfold L2.start
      rw [List.getElem?_append, if_pos (by simpa [hl] using hi), List.getElem?_map, e3]
      rfl
    · rw [List.getElem?_replicate] at h
      split at h <;> cases h
  · unfold startR at h
    rw [List.getElem?_append] at h
    split at h
    · rw [List.getElem?_map] at h
      obtain ⟨d', e1, e2⟩ := Option.map_eq_some_iff.mp h
      cases e2
    · rw [List.getElem?_replicate] at h
      split at h <;> cases h
  · unfold startR at h
    rw [List.getElem?_append] at h
    split at h
    · rw [List.getElem?_map] at h
      obtain ⟨d', e1, e2⟩ := Option.map_eq_some_iff.mp h
      cases e2
    · rw [List.getElem?_replicate] at h
      split at h <;> cases h
section
variable {P : Program} {w : World} {K : PySem.W.Frag} {C : Nat → Addr} {mg : Str → Option Value} {base : Heap} {k : Nat} {T : Tab} {M : Sem}
/-- THE RULE: a def keeps what its small text comes to -/
theorem ok_def {x qual : Str} {st : Stmt} {f : Addr} {fd : FuncData} {N ps : List Str} {b : List S} (F : Fun K x qual st f fd) (hS : scopeB N ps (defScope st) = true) (hB : chkB T N b (defScope st) (defBody st) = true) (G : Glo T M P w K C mg base k) :
    FnOk P w K mg base (L2.CX P w) (k + 1) f fd ps (spD K C ps.length (runB M N.length b)) := by
  have Sc := scope_of hS
  refine F.okX Sc (fun vs H Q E h => ?_) (fun cdv A outer s H vs Q E hr h => ?_)
  · obtain ⟨ds, Hf, _, r, hn, _⟩ := h
    rw [RepL.length r, hn]
  · obtain ⟨ds, Hf, le, r, hn, h⟩ := h
    let c : Ctx := ⟨K, C, H, Hf, fun cls d _ H' => E cls d H'⟩
    have O : XDef (cxOf (L2.CX P w) P w K mg base N qual (defScope st) f cdv A outer s H E) c N (defScope st) k :=
      { hN := rfl, nd := Sc.nd, hsc := rfl, hK := rfl, calm := rfl, tk := takes_of rfl rfl rfl rfl, room := hr, kd := Sc.kind, fn := fun _ => rfl, ps := passes_of rfl }
    refine ⟨tS c (evB M b), soundB b O G hB, startR N.length ds, Hf, start_SS le r, ?_⟩
    unfold runB at h
    generalize evB M b (startR N.length ds) = q at h ⊢
    cases q with
    | nx ρ => exact fun σ' H' Hf' S _ => h .non H' Hf' S.gr rfl
    | rt d => exact fun v H' Hf' G r => h v H' Hf' G r
    | exc kk fs ρ => exact fun d σ' H' Hf' S _ x => h d H' Hf' S.gr x
    | bk ρ => exact h.elim
    | ct ρ => exact h.elim
    | stuck => exact h
theorem spD_imp {n : Nat} {Φ Φ' : List D → R D} (h : ∀ ds, ds.length = n → Φ ds ≠ .stuck → Φ' ds = Φ ds) {vs : List V} {H : Hp} {Q : VK} {E : XK} (q : spD K C n Φ vs H Q E) : spD K C n Φ' vs H Q E := by
  obtain ⟨ds, Hf, le, r, hn, q⟩ := q
  refine ⟨ds, Hf, le, r, hn, ?_⟩
  rw [h ds hn (fun e => by rw [e] at q; exact q)]
  exact q
/-- a def as a callee: it comes to Φ wherever Φ says something -/
theorem callee_of {x qual y : Str} {st : Stmt} {f : Addr} {fd : FuncData} {N ps : List Str} {b : List S} {Φ : List D → R D} {n : Nat} (F : Fun K x qual st f fd) (hm : mg y = some (.ref f)) (hb : Binds K fd ps []) (hn : ps.length = n) (hS : scopeB N ps (defScope st) = true) (hB : chkB T N b (defScope st) (defBody st) = true) (G : Glo T M P w K C mg base k)
    (h : ∀ ds, ds.length = n → Φ ds ≠ .stuck → runB M N.length b ds = Φ ds) : Callee P w K C mg base (k + 1) y n Φ := by
  subst hn
  exact ⟨f, fd, ps, hm, F.kp, hb, (ok_def F hS hB G).imp fun vs H Q E q => spD_imp h q⟩
theorem Callee.up {j k n : Nat} {x : Str} {Φ : List D → R D} (h : Callee P w K C mg base j x n Φ) (hk : j ≤ k) : Callee P w K C mg base k x n Φ := by
  obtain ⟨f, fd, ps, h1, h2, h3, h4⟩ := h.ex
  exact ⟨f, fd, ps, h1, h2, h3, h4.mono hk⟩
theorem Callee.weak {k n : Nat} {x : Str} {Φ Φ' : List D → R D} (h : Callee P w K C mg base k x n Φ) (hw : ∀ ds, ds.length = n → Φ' ds ≠ .stuck → Φ ds = Φ' ds) : Callee P w K C mg base k x n Φ' := by
  obtain ⟨f, fd, ps, h1, h2, h3, h4⟩ := h.ex
  exact ⟨f, fd, ps, h1, h2, h3, h4.imp fun vs H Q E q => spD_imp hw q⟩
end
end DS
end
noncomputable section
namespace DS
open PySem L2
/-! ### loops by what holds between two turns -/
theorem loop_ix {bd : D → List Sl → R (List Sl)} {body : List Sl → SR} (I : Nat → List Sl → Prop) : ∀ (ds : List D) (i0 : Nat) (ρ : List Sl), I i0 ρ →
    (∀ i d ρ, ds[i]? = some d → I (i0 + i) ρ → ∃ ρ1, bd d ρ = .ok ρ1 ∧ ∃ ρ2, (body ρ1 = .nx ρ2 ∨ body ρ1 = .ct ρ2) ∧ I (i0 + i + 1) ρ2) → ∃ ρ', loopS bd body ds ρ = .nx ρ' ∧ I (i0 + ds.length) ρ'
  | [], i0, ρ, h, _ => ⟨ρ, rfl, h⟩
  | d :: ds, i0, ρ, h, hs => by
    obtain ⟨ρ1, e1, ρ2, e2, h2⟩ := hs 0 d ρ rfl h
    obtain ⟨ρ', e3, h3⟩ := loop_ix I ds (i0 + 1) ρ2 h2 (fun i d ρ e hi => by
      have := hs (i + 1) d ρ (by simpa using e) (by rw [show i0 + (i + 1) = i0 + 1 + i by omega]; exact hi)
      rw [show i0 + (i + 1) + 1 = i0 + 1 + i + 1 by omega] at this
      exact this)
    refine ⟨ρ', ?_, by rw [List.length_cons, show i0 + (ds.length + 1) = i0 + 1 + ds.length by omega]; exact h3⟩
    unfold loopS
    rw [e1, R.then_ok]
    rcases e2 with e2 | e2 <;> rw [e2] <;> exact e3
theorem rangeD_get {lo : Int} {n i : Nat} {d : D} (h : (rangeD lo n)[i]? = some d) : i < n ∧ d = .int (lo + (i : Nat)) := by
  unfold rangeD at h
  rw [List.getElem?_map] at h
  obtain ⟨k, e1, rfl⟩ := Option.map_eq_some_iff.mp h
  obtain ⟨hi, e2⟩ := List.getElem?_eq_some_iff.mp e1
  simp at hi e2
  subst e2
  exact ⟨hi, rfl⟩
theorem rangeD_len (lo : Int) (n : Nat) : (rangeD lo n).length = n := by unfold rangeD; simp
/-- a for over a range -/
theorem loop_range {bd : D → List Sl → R (List Sl)} {body : List Sl → SR} (I : Nat → List Sl → Prop) {lo : Int} {n : Nat} {ρ : List Sl} (h0 : I 0 ρ)
    (hs : ∀ (i : Nat) ρ, i < n → I i ρ → ∃ ρ1, bd (.int (lo + (i : Nat))) ρ = .ok ρ1 ∧ ∃ ρ2, (body ρ1 = .nx ρ2 ∨ body ρ1 = .ct ρ2) ∧ I (i + 1) ρ2) : ∃ ρ', loopS bd body (rangeD lo n) ρ = .nx ρ' ∧ I n ρ' := by
  have := loop_ix (bd := bd) (body := body) I (rangeD lo n) 0 ρ h0 (fun i d ρ e hi => by
    obtain ⟨h1, h2⟩ := rangeD_get e
    subst h2
    rw [Nat.zero_add] at hi ⊢
    exact hs i ρ h1 hi)
  rwa [rangeD_len, Nat.zero_add] at this
/-- a comprehension without a test -/
theorem cmap {t : Tg} {tt : List Sl → R Bool} {el : List Sl → R D} {ρ : List Sl} (g : D → D) : ∀ (ds : List D), (∀ d ∈ ds, ∃ ρ1, bindT t d ρ = .ok ρ1 ∧ tt ρ1 = .ok true ∧ el ρ1 = .ok (g d)) → compR t tt el ρ ds = .ok (ds.map g)
  | [], _ => rfl
  | d :: ds, h => by
    obtain ⟨ρ1, e1, e2, e3⟩ := h d List.mem_cons_self
    unfold compR
    rw [e1, R.ok_bind, e2, R.ok_bind, if_pos rfl, e3, R.ok_bind, cmap g ds fun d hd => h d (List.mem_cons_of_mem _ hd)]
    rfl
/-- with a test -/
theorem cfilter {t : Tg} {tt : List Sl → R Bool} {el : List Sl → R D} {ρ : List Sl} (p : D → Bool) (g : D → D) : ∀ (ds : List D), (∀ d ∈ ds, ∃ ρ1, bindT t d ρ = .ok ρ1 ∧ tt ρ1 = .ok (p d) ∧ (p d = true → el ρ1 = .ok (g d))) → compR t tt el ρ ds = .ok ((ds.filter p).map g)
  | [], _ => rfl
  | d :: ds, h => by
    obtain ⟨ρ1, e1, e2, e3⟩ := h d List.mem_cons_self
    have ih := cfilter (t := t) (tt := tt) (el := el) (ρ := ρ) p g ds fun d hd => h d (List.mem_cons_of_mem _ hd)
    unfold compR
    rw [e1, R.ok_bind, e2, R.ok_bind]
    cases q : p d with
    | true => rw [if_pos rfl, e3 q, R.ok_bind, ih, List.filter_cons, if_pos q]; rfl
    | false => rw [if_neg (by decide), ih, List.filter_cons, if_neg (by rw [q]; decide)]
/-- a comprehension's worth -/
theorem ev_comp {M : Sem} {t : Tg} {own : List Nat} {src el : E} {ifs : Option E} {rd : Bool} {ρ : List Sl} {x : D} {ds ys : List D} (h1 : evE M src true ρ = .ok x) (h2 : itemsD x = .ok ds) (h3 : compR t (evIf M ifs) (evE M el false) (wipeR ρ own) ds = .ok ys) (h4 : ys.length ≤ sizeLine) :
    evE M (.comp t own src ifs el) rd ρ = .ok (.lst ys) := by
  show compE _ t (evIf M ifs) (evE M el false) own ρ = _
  unfold compE
  dsimp only
  rw [h1, R.ok_bind, h2, R.ok_bind, h3]
  show small ys _ = _
  unfold small
  rw [if_pos (cd_pos h4)]
@[simp] theorem bR_ok (b : Bool) : bR (.ok b) = .ok (.bl b) := rfl
@[simp] theorem toB_bl (b : Bool) : toB (.bl b) = .ok b := rfl
theorem bools_map : ∀ l : List Bool, DS.bools (l.map D.bl) = some l
  | [] => rfl
  | b :: r => by simp [DS.bools, bools_map r]
theorem intsOf_map : ∀ l : List Int, DS.intsOf (l.map D.int) = some l
  | [] => rfl
  | b :: r => by simp [DS.intsOf, intsOf_map r]
theorem sizeLine_le {n : Nat} (h : n ≤ 1000000) : n ≤ sizeLine := Nat.le_trans h (by decide)
/-! ### a def's callees, its constants -/
theorem any_nil {α : Type} [BEq α] {p : α → Prop} : ∀ a, ([] : List α).contains a = true → p a := fun a h => by cases h
theorem any_cons {α : Type} [BEq α] [LawfulBEq α] {p : α → Prop} {b : α} {l : List α} (h : p b) (r : ∀ a, l.contains a = true → p a) : ∀ a, (b :: l).contains a = true → p a := fun a ha => by
  rw [List.contains_cons, Bool.or_eq_true] at ha
  rcases ha with ha | ha
  · rw [eq_of_beq ha]; exact h
  · exact r a ha
theorem gls_sub {l m : List Nat} (h : l.all m.contains = true) {n : Nat} (hn : l.contains n = true) : m.contains n = true :=
  List.all_eq_true.mp h n (by simpa using hn)
/-- a factor that is small -/
theorem mulOk_r {i j : Int} (h : -(2 ^ 64) < j ∧ j < 2 ^ 64) : mulOk i j = true := by unfold mulOk; rw [cd_pos h, Bool.or_true]
theorem mulOk_l {i j : Int} (h : -(2 ^ 64) < i ∧ i < 2 ^ 64) : mulOk i j = true := by unfold mulOk; rw [cd_pos h, Bool.true_or]
theorem lim_ok {n : Nat} {r : R D} (h : n ≤ sizeLine) : lim n r = r := by unfold lim; rw [if_pos (cd_pos h)]
theorem sz {n : Nat} (h : n ≤ 1000000) : n ≤ sizeLine := Nat.le_trans h (by decide)
theorem szl {n : Nat} (h : n < 1000000) : n < sizeLine := Nat.lt_of_lt_of_le h (by decide)

/-! ### the law's own row -/
section
open PySem.W
/-- as walk_of, with what the head tells of the loose names -/
theorem walkX {l : OpenLaw} {n k : Nat} {q : Program} {loose : List Str} {XP : (Str → Option Value) → Heap → Prop} {YP : World → Heap → Prop} {d : DefRec} {K : Params → Frag} {CX : World → CXT} {sp : World → Sp} {x : Str}
    (hn : l.most = some n) (hn2 : n ≤ sizeLine) (hdf : d.params.defaults = []) (hr : Room k callerA)
    (hY : ∀ (w : World) (h : Heap), YP w h → (K w.params).In h)
    (F : ∀ (w : World) (mg : Str → Option Value) (fa : Addr) (h : Heap), XP mg h → (K w.params).In h → h.Ns mainGlobals mg → mg d.name = some (.ref fa) →
      ∃ fd : FuncData, (∀ (s : Shared) (u : Value), BindsTo s fd ⟨[u], []⟩ [(x, u)]) ∧
        ∀ base : Heap, (K w.params).In base → base.Ns mainGlobals mg → FnOk l.prog w (K w.params) mg base (CX w) k fa fd [x] (sp w))
    (hsp : ∀ (w : World) (H : Hp) (a : Addr) (ns : List Int), ns.length ≤ n → Only H → SqL (K w.params) H a (ns.map V.int) → sp w [.ref a] H (fun v _ => v = .bl true) fun _ _ _ => False)
    (hCX : ∀ (w : World) (H : Hp) (s : Shared) (e : Value) (s' : Shared), CX w [] H s (fun _ _ _ => False) e s' → False) :
    WalkO q loose XP YP l.row.toRowW d [] (fun f vs => PySem.call f vs) := by
  refine Att.attach_call hn hdf fun w s₀ s₁ mg mb fa o pm cd doc a vs ns G Y ho hd hcd hmg hobj hints hlen hg => ?_
  have KX := hY w _ Y
  obtain ⟨fd, hb, hF⟩ := F w mg fa _ G.X KX G.T.g hmg
  exact law_call KX G.T.g G.T.b G.T.builtins G.T.nolimit hg hobj hints (Nat.le_trans hlen hn2) hr hF hb (fun H hO hS => hsp w H a ns hlen hO hS) fun H e s' => hCX w H s₁ e s'
theorem noCX {w : World} {P : Program} {H : Hp} {s : Shared} {e : Value} {s' : Shared} (h : L2.CX P w [] H s (fun _ _ _ => False) e s') : False := by
  obtain ⟨_, _, _, _, _, _, _, _, _, _, _, _, z⟩ := h
  exact z
theorem law_sp {K : Frag} {C : Nat → Addr} {Φ : List D → R D} {H : Hp} {a : Addr} {ns : List Int} (hS : SqL K H a (ns.map V.int)) (h : Φ [.scr ns] = .ok (.bl true)) : spD K C 1 Φ [.ref a] H (fun v _ => v = .bl true) fun _ _ _ => False := by
  refine ⟨[.scr ns], H, .refl _, ⟨.ref a, [], rfl, ⟨a, rfl, hS⟩, rfl⟩, rfl, ?_⟩
  rw [h]
  exact fun v H' Hf' G r => r
end
end DS
end
namespace SG
open PySem L2 DS
def b_is_name_C1 : E := .cmp .In (.var 1) (.glob 1)
def b_is_name_K1 : E := .comp (.one 1) [1] (.var 0) none b_is_name_C1
def N_is_name : List Str := [(PySem.Str.ofString "value"), (PySem.Str.ofString "char")]
def P_is_name : List Str := [(PySem.Str.ofString "value")]
def b_is_name : List S := [
    .ret (.and [.chain .LtE .LtE (.int 1) (.fn "len" [.var 0]) (.glob 0), .fn "all" [b_is_name_K1]])]
def b_number_of_L1 : List S := [.asg 1 false (.bin .Mult (.var 1) (.int 64)),
    .ite (.cmp .Lt (.var 2) (.fn "len" [.var 0]))
    [.aug .Add 1 (.bin .Add (.sidx (.glob 1) (.idx (.var 0) (.var 2))) (.int 1))]
    []]
def N_number_of : List Str := [(PySem.Str.ofString "name"), (PySem.Str.ofString "number"), (PySem.Str.ofString "k")]
def P_number_of : List Str := [(PySem.Str.ofString "name")]
def b_number_of : List S := [
    .asg 1 false (.int 0),
    .loop (.one 2) (.rng1 (.glob 0)) b_number_of_L1,
    .ret (.var 1)]
def N_bit_at : List Str := [(PySem.Str.ofString "name"), (PySem.Str.ofString "place")]
def P_bit_at : List Str := [(PySem.Str.ofString "name"), (PySem.Str.ofString "place")]
def b_bit_at : List S := [
    .ret (.bin .Mod (.ty "int" [.bin .RShift (.call 1 [.var 0]) (.bin .Sub (.bin .Sub (.glob 2) (.int 1)) (.var 1))]) (.int 2))]
def N_parting : List Str := [(PySem.Str.ofString "first"), (PySem.Str.ofString "second"), (PySem.Str.ofString "unlike")]
def P_parting : List Str := [(PySem.Str.ofString "first"), (PySem.Str.ofString "second")]
def b_parting : List S := [
    .asg 2 false (.bin .BitXor (.call 1 [.var 0]) (.call 1 [.var 1])),
    .ite (.cmp .Eq (.var 2) (.int 0))
    [.ret (.non)]
    [],
    .ret (.bin .Sub (.glob 2) (.bits (.var 2)))]
def N__law_cell : List Str := [(PySem.Str.ofString "_law_script"), (PySem.Str.ofString "_law_k")]
def P__law_cell : List Str := [(PySem.Str.ofString "_law_script"), (PySem.Str.ofString "_law_k")]
def b__law_cell : List S := [
    .ite (.cmp .Lt (.var 1) (.fn "len" [.var 0]))
    [.ret (.ty "int" [.idx (.var 0) (.var 1)])]
    [],
    .ret (.int 0)]
def b__law_name_L1 : List S := [.asg 3 false (.bin .Add (.bin .Add (.bin .Mult (.var 3) (.int 7)) (.int 3)) (.var 5)),
    .asg 4 false (.bin .Add (.var 4) (.idx (.var 1) (.bin .Mod (.bin .FloorDiv (.ty "int" [.var 3]) (.int 11)) (.int 37))))]
def N__law_name : List Str := [(PySem.Str.ofString "_law_number_here"), (PySem.Str.ofString "_law_letters"), (PySem.Str.ofString "_law_short"), (PySem.Str.ofString "_law_rest"), (PySem.Str.ofString "_law_name_here"), (PySem.Str.ofString "_law_k")]
def P__law_name : List Str := [(PySem.Str.ofString "_law_number_here")]
def b__law_name : List S := [
    .asg 1 false (.str (PySem.Str.ofString "0123456789_abcdefghijklmnopqrstuvwxyz")),
    .asg 2 false (.lst [.str (PySem.Str.ofString "a"), .str (PySem.Str.ofString "b"), .str (PySem.Str.ofString "aa"), .str (PySem.Str.ofString "ab"), .str (PySem.Str.ofString "a0"), .str (PySem.Str.ofString "a_"), .str (PySem.Str.ofString "abc"), .str (PySem.Str.ofString "z"), .str (PySem.Str.ofString "zz"), .str (PySem.Str.ofString "0"), .str (PySem.Str.ofString "_"), .str (PySem.Str.ofString "zzzzzzzz"), .str (PySem.Str.ofString "00000000"), .str (PySem.Str.ofString "ab0"), .str (PySem.Str.ofString "abd"), .str (PySem.Str.ofString "b_")]),
    .ite (.cmp .Eq (.bin .Mod (.ty "int" [.var 0]) (.int 3)) (.int 0))
    [.ret (.idx (.var 2) (.bin .Mod (.bin .FloorDiv (.ty "int" [.var 0]) (.int 3)) (.int 16)))]
    [],
    .asg 3 false (.bin .FloorDiv (.ty "int" [.var 0]) (.int 3)),
    .asg 4 false (.str (PySem.Str.ofString "")),
    .loop (.one 5) (.rng1 (.bin .Add (.int 1) (.bin .Mod (.var 3) (.int 8)))) b__law_name_L1,
    .ret (.var 4)]
def b__law_number_L1 : List S := [.asg 4 false (.int 0),
    .ite (.cmp .Lt (.var 3) (.fn "len" [.var 0]))
    [.asg 4 false (.bin .Add (.sidx (.var 1) (.idx (.var 0) (.var 3))) (.int 1))]
    [],
    .asg 2 false (.bin .Add (.bin .Mult (.var 2) (.int 64)) (.var 4))]
def N__law_number : List Str := [(PySem.Str.ofString "_law_name_here"), (PySem.Str.ofString "_law_letters"), (PySem.Str.ofString "_law_number_here"), (PySem.Str.ofString "_law_k"), (PySem.Str.ofString "_law_digit")]
def P__law_number : List Str := [(PySem.Str.ofString "_law_name_here")]
def b__law_number : List S := [
    .asg 1 false (.str (PySem.Str.ofString "0123456789_abcdefghijklmnopqrstuvwxyz")),
    .asg 2 false (.int 0),
    .loop (.one 3) (.rng1 (.int 8)) b__law_number_L1,
    .ret (.var 2)]
def b__law_bits_L1 : List S := [.app 2 (.bin .Mod (.ty "int" [.var 1]) (.int 2)),
    .asg 1 false (.bin .FloorDiv (.var 1) (.int 2))]
def b__law_bits_C1 : E := .idx (.var 2) (.bin .Sub (.int 47) (.var 3))
def b__law_bits_K1 : E := .comp (.one 3) [3] (.rng1 (.int 48)) none b__law_bits_C1
def N__law_bits : List Str := [(PySem.Str.ofString "_law_name_here"), (PySem.Str.ofString "_law_number_here"), (PySem.Str.ofString "_law_bits_here"), (PySem.Str.ofString "_law_k")]
def P__law_bits : List Str := [(PySem.Str.ofString "_law_name_here")]
def b__law_bits : List S := [
    .asg 1 false (.call 6 [.var 0]),
    .asg 2 true (.lst []),
    .loop (.one 3) (.rng1 (.int 48)) b__law_bits_L1,
    .ret (b__law_bits_K1)]
def b_law_L1 : List S := [.ite (.cmp .NotEq (.call 2 [.var 4, .var 7]) (.idx (.var 6) (.var 7)))
    [.ret (.bl false)]
    []]
def b_law_L2 : List S := [.asg 5 false (.call 1 [.var 4]),
    .ite (.or [.cmp .IsNot (.call 0 [.var 4]) (.bl true), .isB (.var 5), .cmp .NotEq (.var 5) (.call 6 [.var 4])])
    [.ret (.bl false)]
    [],
    .asg 6 false (.call 7 [.var 4]),
    .loop (.one 7) (.rng1 (.int 48)) b_law_L1]
def b_law_L3 : List S := [.ite (.and [.cmp .Is (.var 8) (.non), .cmp .NotEq (.idx (.call 7 [.var 2]) (.var 7)) (.idx (.call 7 [.var 3]) (.var 7))])
    [.asg 8 false (.var 7)]
    []]
def N_law : List Str := [(PySem.Str.ofString "_law_script"), (PySem.Str.ofString "_law_first"), (PySem.Str.ofString "_law_one"), (PySem.Str.ofString "_law_two"), (PySem.Str.ofString "_law_name_here"), (PySem.Str.ofString "_law_actual"), (PySem.Str.ofString "_law_bits_here"), (PySem.Str.ofString "_law_place"), (PySem.Str.ofString "_law_due"), (PySem.Str.ofString "_law_found"), (PySem.Str.ofString "_law_at"), (PySem.Str.ofString "_law_wrong")]
def P_law : List Str := [(PySem.Str.ofString "_law_script")]
def b_law : List S := [
    .asg 1 false (.fn "abs" [.call 4 [.var 0, .int 0]]),
    .asg 2 false (.call 5 [.bin .Mod (.fn "abs" [.call 4 [.var 0, .int 1]]) (.int 100000)]),
    .asg 3 false (.call 5 [.bin .Mod (.fn "abs" [.call 4 [.var 0, .int 2]]) (.int 100000)]),
    .ite (.cmp .Eq (.bin .Mod (.var 1) (.int 4)) (.int 1))
    [.asg 3 false (.var 2)]
    [],
    .ite (.cmp .Eq (.bin .Mod (.var 1) (.int 4)) (.int 2))
    [.asg 3 false (.slc (.bin .Add (.var 2) (.str (PySem.Str.ofString "x0_a"))) none (some (.bin .Add (.int 1) (.bin .Mod (.bin .FloorDiv (.var 1) (.int 4)) (.int 8)))))]
    [],
    .loop (.one 4) (.lst [.var 2, .var 3]) b_law_L2,
    .ite (.cmp .NotEq (.cmp .Lt (.var 2) (.var 3)) (.cmp .Lt (.call 1 [.var 2]) (.call 1 [.var 3])))
    [.ret (.bl false)]
    [],
    .asg 8 false (.non),
    .loop (.one 7) (.rng1 (.int 48)) b_law_L3,
    .asg 9 false (.call 3 [.var 2, .var 3]),
    .ite (.or [.cmp .NotEq (.var 9) (.var 8), .cmp .NotEq (.call 3 [.var 3, .var 2]) (.var 8), .cmp .NotEq (.cmp .Is (.var 9) (.non)) (.cmp .Eq (.var 2) (.var 3))])
    [.ret (.bl false)]
    [],
    .asg 10 false (.bin .Mod (.bin .FloorDiv (.var 1) (.int 32)) (.fn "len" [.var 2])),
    .asg 11 false (.lst [.bin .Add (.bin .Add (.slc (.var 2) none (some (.var 10))) (.str (PySem.Str.ofString "A"))) (.slc (.var 2) (some (.bin .Add (.var 10) (.int 1))) none), .bin .Add (.bin .Add (.slc (.var 2) none (some (.var 10))) (.str (PySem.Str.ofString " "))) (.slc (.var 2) (some (.var 10)) none), .str (PySem.Str.ofString ""), .bin .Add (.var 2) (.str (PySem.Str.ofString "abcdefgh")), .bin .Add (.bin .Add (.slc (.var 2) none (some (.var 10))) (.str (PySem.Str.ofString "-"))) (.slc (.var 2) (some (.bin .Add (.var 10) (.int 1))) none)]),
    .ret (.cmp .Is (.call 0 [.idx (.var 11) (.bin .Mod (.bin .FloorDiv (.var 1) (.int 300)) (.int 5))]) (.bl false))]
def fnT (n : Nat) : Str := (([(0, (PySem.Str.ofString "is_name")), (1, (PySem.Str.ofString "number_of")), (2, (PySem.Str.ofString "bit_at")), (3, (PySem.Str.ofString "parting")), (4, (PySem.Str.ofString "_law_cell")), (5, (PySem.Str.ofString "_law_name")), (6, (PySem.Str.ofString "_law_number")), (7, (PySem.Str.ofString "_law_bits")), (8, (PySem.Str.ofString "law"))] : List (Nat × Str)).lookup n).getD Str.empty
def arT (n : Nat) : Nat := (([(0, 1), (1, 1), (2, 2), (3, 2), (4, 2), (5, 1), (6, 1), (7, 1), (8, 1)] : List (Nat × Nat)).lookup n).getD 0
def glT (n : Nat) : Str := (([(0, (PySem.Str.ofString "NAME_LIMIT")), (1, (PySem.Str.ofString "ALPHABET")), (2, (PySem.Str.ofString "PLACES"))] : List (Nat × Str)).lookup n).getD Str.empty
def T_is_name : Tab := ⟨fnT, arT, [], glT, [0, 1], ["len", "all"]⟩
def T_number_of : Tab := ⟨fnT, arT, [], glT, [1, 0], ["len", "range"]⟩
def T_bit_at : Tab := ⟨fnT, arT, [1], glT, [2], ["int"]⟩
def T_parting : Tab := ⟨fnT, arT, [1], glT, [2], []⟩
def T__law_cell : Tab := ⟨fnT, arT, [], glT, [], ["len", "int"]⟩
def T__law_name : Tab := ⟨fnT, arT, [], glT, [], ["int", "range"]⟩
def T__law_number : Tab := ⟨fnT, arT, [], glT, [], ["len", "range"]⟩
def T__law_bits : Tab := ⟨fnT, arT, [6], glT, [], ["int", "range"]⟩
def T_law : Tab := ⟨fnT, arT, [4, 5, 1, 0, 6, 7, 2, 3], glT, [], ["abs", "isinstance", "bool", "range", "len"]⟩
/-! ### names -/
def alpha : Str := "0123456789_abcdefghijklmnopqrstuvwxyz"
def alphaL : List Nat := [48, 49, 50, 51, 52, 53, 54, 55, 56, 57, 95, 97, 98, 99, 100, 101, 102, 103, 104, 105, 106, 107, 108, 109, 110, 111, 112, 113, 114, 115, 116, 117, 118, 119, 120, 121, 122]
theorem alpha_cps : alpha.cps.toList = alphaL := by decide +kernel
theorem occ_alpha : ∀ c ∈ alphaL, Builtin.Str.occurrences alpha ⟨#[c]⟩ 0 alpha.length 1 = [alphaL.idxOf c] := by decide +kernel
theorem alpha_len : alpha.length = 37 := by decide +kernel
/-- a name's code points -/
abbrev cs (s : Str) : List Nat := s.cps.toList
def okN (l : List Nat) : Prop := 1 ≤ l.length ∧ l.length ≤ 8 ∧ ∀ c ∈ l, c ∈ alphaL
instance (l : List Nat) : Decidable (okN l) := by unfold okN; infer_instance
def dg (c : Nat) : Nat := alphaL.idxOf c + 1
def dgAt (l : List Nat) (k : Nat) : Nat := match l[k]? with | some c => dg c | none => 0
def numN (l : List Nat) : Nat → Nat
  | 0 => 0
  | k + 1 => numN l k * 64 + dgAt l k
def numOf (l : List Nat) : Nat := numN l 8
theorem length_cs (s : Str) : s.length = (cs s).length := by cases s; simp [cs, Str.length]
theorem numN_lt (l : List Nat) (h : ∀ c ∈ l, c ∈ alphaL) : ∀ k, numN l k < 64 ^ k
  | 0 => by simp [numN]
  | k + 1 => by
    have ih := numN_lt l h k
    have hd : dgAt l k < 64 := by
      unfold dgAt
      split
      · rename_i c e
        have hc : c ∈ alphaL := h c (List.mem_of_getElem? e)
        have := List.idxOf_lt_length_of_mem hc
        unfold dg
        have e2 : alphaL.length = 37 := rfl
        omega
      · omega
    unfold numN
    rw [Nat.pow_succ]
    omega
theorem sidx_alpha {c : Nat} (h : c ∈ alphaL) : sidxS alpha (.str ⟨#[c]⟩) = .ok (.int (alphaL.idxOf c : Nat)) := by
  unfold sidxS
  simp only [occ_alpha c h]
theorem ev_number_of {M : DS.Sem} (h0 : M.Γ 0 = .int 8) (h1 : M.Γ 1 = .str alpha) {s : Str} (hs : okN (cs s)) : runB M N_number_of.length b_number_of [.str s] = .ok (.int (numOf (cs s) : Nat)) := by
  have hl := length_cs s
  have hm64 : ∀ i, mulOk i 64 = true := fun i => mulOk_r (by omega)
  have h8 : s.length ≤ sizeLine := sz (by have := hs.2.1; omega)
  obtain ⟨ρ', e, x, rfl⟩ := loop_range (bd := bindT (.one 2)) (body := evB M b_number_of_L1) (fun i ρ => ∃ x, ρ = [.fro (.str s), .fro (.int (numN (cs s) i : Nat)), x]) (lo := 0) (n := 8) (ρ := [.fro (.str s), .fro (.int 0), .no]) ⟨.no, rfl⟩ (by
    rintro i ρ hi ⟨x, rfl⟩
    refine ⟨_, rfl, ?_⟩
    cases q : (cs s)[i]? with
    | none =>
      have hk : (cs s).length ≤ i := List.getElem?_eq_none_iff.mp q
      have hc : ¬ ((i : Int) < (s.length : Nat)) := by omega
      refine ⟨_, .inl ?_, .fro (.int (i : Nat)), rfl⟩
      simp [runB, outR, evB, evS, evT, evE, evL, evAnd, evOr, evO, evIf, startR, binD, addD, subD, modD, fdivD, mulD, shrD, xorD, powD, negD, cmpB, eqB, scE, bR, R.bind_ok, R.then_ok, SR.nx_andThen, SR.rt_andThen, getV, getR, toB, lim, small, idxD, ofO, slcD, fnD, tyD, lenD, absD, intD, allD, anyD, sumD, listD, tupleD, strD, min2D, max2D, isBD, bitsD, withStr, sidxS, seqD, rng1D, rng2D, in62, itemsD, augD, bindT, compE, calmR, chainB, DS.isNon, toI, appS, frzS, signsD, DS.bools, DS.intsOf, ofOp, inB, b_number_of_L1, h8, hm64, hc, numN, dgAt, q]
    | some c =>
      have hk : i < (cs s).length := (List.getElem?_eq_some_iff.mp q).1
      have hc : ((i : Int) < (s.length : Nat)) := by omega
      have hm : c ∈ alphaL := hs.2.2 c (List.mem_of_getElem? q)
      have hat : atI s.cps.toList (i : Int) = some c := atI_nat q
      refine ⟨_, .inl ?_, .fro (.int (i : Nat)), rfl⟩
      have hsx := sidx_alpha hm
      unfold sidxS at hsx
      simp [runB, outR, evB, evS, evT, evE, evL, evAnd, evOr, evO, evIf, startR, binD, addD, subD, modD, fdivD, mulD, shrD, xorD, powD, negD, cmpB, eqB, scE, bR, R.bind_ok, R.then_ok, SR.nx_andThen, SR.rt_andThen, getV, getR, toB, lim, small, idxD, ofO, slcD, fnD, tyD, lenD, absD, intD, allD, anyD, sumD, listD, tupleD, strD, min2D, max2D, isBD, bitsD, withStr, sidxS, seqD, rng1D, rng2D, in62, itemsD, augD, bindT, compE, calmR, chainB, DS.isNon, toI, appS, frzS, signsD, DS.bools, DS.intsOf, ofOp, inB, b_number_of_L1, h8, hm64, hc, numN, dgAt, q, hat, h1, hsx, dg]
      )
  simp [runB, outR, evB, evS, evT, evE, evL, evAnd, evOr, evO, evIf, startR, binD, addD, subD, modD, fdivD, mulD, shrD, xorD, powD, negD, cmpB, eqB, scE, bR, R.bind_ok, R.then_ok, SR.nx_andThen, SR.rt_andThen, getV, getR, toB, lim, small, idxD, ofO, slcD, fnD, tyD, lenD, absD, intD, allD, anyD, sumD, listD, tupleD, strD, min2D, max2D, isBD, bitsD, withStr, sidxS, seqD, rng1D, rng2D, in62, itemsD, augD, bindT, compE, calmR, chainB, DS.isNon, toI, appS, frzS, signsD, DS.bools, DS.intsOf, ofOp, inB, b_number_of, N_number_of, h0, e, numOf]

end SG
noncomputable section
namespace SG
open PySem L2 DS

theorem all_alpha (l : List Nat) : (l.map fun k => decide (k ∈ alphaL)).all id = decide (∀ k ∈ l, k ∈ alphaL) := by
  rw [Bool.eq_iff_iff]
  simp
theorem ev_is_name {M : DS.Sem} (h0 : M.Γ 0 = .int 8) (h1 : M.Γ 1 = .str alpha) {s : Str} (hl : s.length ≤ 100) : runB M N_is_name.length b_is_name [.str s] = .ok (.bl (cd (okN (cs s)))) := by
  have h8 : s.length ≤ sizeLine := sz (by omega)
  have hcs := length_cs s
  have hK : ∀ rd, evE M b_is_name_K1 rd [.fro (.str s), .no] = .ok (.lst (((cs s).map fun k => decide (k ∈ alphaL)).map D.bl)) := fun rd => by
    refine ev_comp (x := .str s) (ds := signsD s) rfl rfl ?_ (by rw [List.length_map, List.length_map, ← hcs]; exact h8)
    rw [cmap (fun d => match d with | .str z => D.bl (decide (z.cps.toList.headD 0 ∈ alphaL)) | _ => .non)]
    · unfold signsD; rw [List.map_map, List.map_map]; rfl
    · intro d hd
      obtain ⟨k, hk, rfl⟩ := List.mem_map.mp hd
      refine ⟨_, rfl, rfl, ?_⟩
      simp [runB, outR, evB, evS, evT, evE, evL, evAnd, evOr, evO, evIf, startR, binD, addD, subD, modD, fdivD, mulD, shrD, xorD, powD, negD, cmpB, eqB, scE, bR, R.bind_ok, R.then_ok, SR.nx_andThen, SR.rt_andThen, getV, getR, toB, lim, small, idxD, ofO, slcD, fnD, tyD, lenD, absD, intD, allD, anyD, sumD, listD, tupleD, strD, min2D, max2D, isBD, bitsD, withStr, sidxS, seqD, rng1D, rng2D, in62, itemsD, augD, bindT, compE, calmR, chainB, DS.isNon, toI, appS, frzS, signsD, DS.bools, DS.intsOf, ofOp, inB, b_is_name_C1, wipeR, h1, alpha_cps, -Array.mem_toList_iff]
  by_cases h : 1 ≤ s.length ∧ s.length ≤ 8
  · have e1 : (1 : Int) ≤ s.length := by omega
    have e2 : (s.length : Int) ≤ 8 := by omega
    have hk : cd (okN (cs s)) = decide (∀ k ∈ cs s, k ∈ alphaL) := by
      rw [← cd_of]
      refine decide_eq_decide.mpr ⟨fun o => o.2.2, fun o => ⟨by omega, by omega, o⟩⟩
    rw [hk, ← all_alpha]
    simp [runB, outR, evB, evS, evT, evE, evL, evAnd, evOr, evO, evIf, startR, binD, addD, subD, modD, fdivD, mulD, shrD, xorD, powD, negD, cmpB, eqB, scE, bR, R.bind_ok, R.then_ok, SR.nx_andThen, SR.rt_andThen, getV, getR, toB, lim, small, idxD, ofO, slcD, fnD, tyD, lenD, absD, intD, allD, anyD, sumD, listD, tupleD, strD, min2D, max2D, isBD, bitsD, withStr, sidxS, seqD, rng1D, rng2D, in62, itemsD, augD, bindT, compE, calmR, chainB, DS.isNon, toI, appS, frzS, signsD, DS.bools, DS.intsOf, ofOp, inB, b_is_name, N_is_name, h0, h8, hK, bools_map, e1, e2, -List.map_map, -List.all_map]
  · have hn : ¬ okN (cs s) := fun o => h ⟨by rw [hcs]; exact o.1, by rw [hcs]; exact o.2.1⟩
    by_cases h2 : 1 ≤ s.length
    · have h3 : ¬ s.length ≤ 8 := fun e => h ⟨h2, e⟩
      have h3' : ¬ (s.length : Int) ≤ 8 := by omega
      have h2' : (1 : Int) ≤ s.length := by omega
      simp [runB, outR, evB, evS, evT, evE, evL, evAnd, evOr, evO, evIf, startR, binD, addD, subD, modD, fdivD, mulD, shrD, xorD, powD, negD, cmpB, eqB, scE, bR, R.bind_ok, R.then_ok, SR.nx_andThen, SR.rt_andThen, getV, getR, toB, lim, small, idxD, ofO, slcD, fnD, tyD, lenD, absD, intD, allD, anyD, sumD, listD, tupleD, strD, min2D, max2D, isBD, bitsD, withStr, sidxS, seqD, rng1D, rng2D, in62, itemsD, augD, bindT, compE, calmR, chainB, DS.isNon, toI, appS, frzS, signsD, DS.bools, DS.intsOf, ofOp, inB, b_is_name, N_is_name, h0, h8, hn, h3', h2']
    · have h2' : ¬ (1 : Int) ≤ s.length := by omega
      simp [runB, outR, evB, evS, evT, evE, evL, evAnd, evOr, evO, evIf, startR, binD, addD, subD, modD, fdivD, mulD, shrD, xorD, powD, negD, cmpB, eqB, scE, bR, R.bind_ok, R.then_ok, SR.nx_andThen, SR.rt_andThen, getV, getR, toB, lim, small, idxD, ofO, slcD, fnD, tyD, lenD, absD, intD, allD, anyD, sumD, listD, tupleD, strD, min2D, max2D, isBD, bitsD, withStr, sidxS, seqD, rng1D, rng2D, in62, itemsD, augD, bindT, compE, calmR, chainB, DS.isNon, toI, appS, frzS, signsD, DS.bools, DS.intsOf, ofOp, inB, b_is_name, N_is_name, h0, h8, hn, h2']
theorem ev_bit_at {M : DS.Sem} (h2 : M.Γ 2 = .int 48) {s : Str} {n p : Nat} (hp : p ≤ 47) (hc : M.Φ 1 [.str s] = .ok (.int n)) : runB M N_bit_at.length b_bit_at [.str s, .int p] = .ok (.int ((n / 2 ^ (47 - p) % 2 : Nat))) := by
  have e : (0 : Int) ≤ 48 - 1 - p := by omega
  have e2 : (48 - 1 - (p : Int)).toNat = 47 - p := by omega
  have e3 : (0 : Int) ≤ 47 - p := by omega
  have e4 : (47 - (p : Int)).toNat = 47 - p := by omega
  have e5 : (p : Int) ≤ 47 := by omega
  simp [runB, outR, evB, evS, evT, evE, evL, evAnd, evOr, evO, evIf, startR, binD, addD, subD, modD, fdivD, mulD, shrD, xorD, powD, negD, cmpB, eqB, scE, bR, R.bind_ok, R.then_ok, SR.nx_andThen, SR.rt_andThen, getV, getR, toB, lim, small, idxD, ofO, slcD, fnD, tyD, lenD, absD, intD, allD, anyD, sumD, listD, tupleD, strD, min2D, max2D, isBD, bitsD, withStr, sidxS, seqD, rng1D, rng2D, in62, itemsD, augD, bindT, compE, calmR, chainB, DS.isNon, toI, appS, frzS, signsD, DS.bools, DS.intsOf, ofOp, inB, b_bit_at, N_bit_at, h2, hc, e3, e4, e5]
/-- the place at which two numbers of 48 bits part -/
def partN (a b : Nat) : Option Nat := if a = b then none else some (48 - ((a ^^^ b).log2 + 1))
def optD : Option Nat → D
  | none => .non
  | some n => .int n
theorem ev_parting {M : DS.Sem} (h2 : M.Γ 2 = .int 48) {s t : Str} {a b : Nat} (ha : M.Φ 1 [.str s] = .ok (.int a)) (hb : M.Φ 1 [.str t] = .ok (.int b)) (la : a < 2 ^ 48) (lb : b < 2 ^ 48) : runB M N_parting.length b_parting [.str s, .str t] = .ok (optD (partN a b)) := by
  have hx : Builtin.bitXor (a : Int) (b : Int) = ((a ^^^ b : Nat) : Int) := by
    rw [Bits.bitXor_pp (by omega) (by omega)]; rfl
  by_cases e : a = b
  · subst e
    have e0 : a ^^^ a = 0 := Nat.xor_self a
    simp [runB, outR, evB, evS, evT, evE, evL, evAnd, evOr, evO, evIf, startR, binD, addD, subD, modD, fdivD, mulD, shrD, xorD, powD, negD, cmpB, eqB, scE, bR, R.bind_ok, R.then_ok, SR.nx_andThen, SR.rt_andThen, getV, getR, toB, lim, small, idxD, ofO, slcD, fnD, tyD, lenD, absD, intD, allD, anyD, sumD, listD, tupleD, strD, min2D, max2D, isBD, bitsD, withStr, sidxS, seqD, rng1D, rng2D, in62, itemsD, augD, bindT, compE, calmR, chainB, DS.isNon, toI, appS, frzS, signsD, DS.bools, DS.intsOf, ofOp, inB, b_parting, N_parting, h2, ha, hb, hx, e0, partN, optD]
  · have e0 : a ^^^ b ≠ 0 := fun z => e (Nat.eq_of_testBit_eq fun i => by have q := congrArg (fun x => x.testBit i) z; simpa using q)
    have e1 : ¬ (((a ^^^ b : Nat) : Int) = 0) := by omega
    have hbits : Builtin.Int.intBits ((a ^^^ b : Nat) : Int) = (a ^^^ b).log2 + 1 := by
      unfold Builtin.Int.intBits
      rw [if_neg (by simpa using e1)]
      rfl
    have hlt : a ^^^ b < 2 ^ 48 := Nat.xor_lt_two_pow la lb
    have hlog : (a ^^^ b).log2 < 48 := (Nat.log2_lt e0).mpr hlt
    have e2 : ((48 - ((a ^^^ b).log2 + 1) : Nat) : Int) = 48 - (((a ^^^ b).log2 : Nat) + 1) := by omega
    simp [runB, outR, evB, evS, evT, evE, evL, evAnd, evOr, evO, evIf, startR, binD, addD, subD, modD, fdivD, mulD, shrD, xorD, powD, negD, cmpB, eqB, scE, bR, R.bind_ok, R.then_ok, SR.nx_andThen, SR.rt_andThen, getV, getR, toB, lim, small, idxD, ofO, slcD, fnD, tyD, lenD, absD, intD, allD, anyD, sumD, listD, tupleD, strD, min2D, max2D, isBD, bitsD, withStr, sidxS, seqD, rng1D, rng2D, in62, itemsD, augD, bindT, compE, calmR, chainB, DS.isNon, toI, appS, frzS, signsD, DS.bools, DS.intsOf, ofOp, inB, b_parting, N_parting, h2, ha, hb, hx, e1, partN, optD, e, hbits, e2, e0]
    omega
end SG
end
noncomputable section
namespace DS
open PySem L2
/-! ### reckoning by simp: each piece by an equation of its own, what follows stays folded -/
section
variable {M : Sem} {ρ : List Sl} {rd : Bool}
@[simp] theorem andThen_bk (f : List Sl → SR) : (SR.bk ρ).andThen f = .bk ρ := rfl
@[simp] theorem andThen_ct (f : List Sl → SR) : (SR.ct ρ).andThen f = .ct ρ := rfl
@[simp] theorem andThen_exc (k : Nat) (fs : List (Str × D)) (f : List Sl → SR) : (SR.exc k fs ρ).andThen f = .exc k fs ρ := rfl
@[simp] theorem andThen_stuck (f : List Sl → SR) : SR.stuck.andThen f = .stuck := rfl
@[simp] theorem then_exc {α : Type} (k : Nat) (fs : List (Str × D)) (f : α → SR) : (R.exc k fs : R α).then ρ f = .exc k fs ρ := rfl
@[simp] theorem bind_exc {α β : Type} (k : Nat) (fs : List (Str × D)) (f : α → R β) : (R.exc k fs : R α).bind f = .exc k fs := rfl
@[simp] theorem outR_rt (d : D) : outR (.rt d) = .ok d := rfl
@[simp] theorem outR_nx : outR (.nx ρ) = .ok .non := rfl
@[simp] theorem outR_exc (k : Nat) (fs : List (Str × D)) : outR (.exc k fs ρ) = .exc k fs := rfl
theorem runB_eq (n : Nat) (b : List S) (ds : List D) : runB M n b ds = outR (evB M b (startR n ds)) := rfl
@[simp] theorem evB_nil : evB M [] ρ = .nx ρ := rfl
@[simp] theorem evB_cons (s : S) (r : List S) : evB M (s :: r) ρ = (evS M s ρ).andThen (evB M r) := rfl
def kAsg (i : Nat) (own : Bool) (ρ : List Sl) (d : D) : SR := .nx (ρ.set i (if own = true then .own d else .fro d))
@[simp] theorem kAsg_t (i : Nat) (d : D) : kAsg i true ρ d = .nx (ρ.set i (.own d)) := rfl
@[simp] theorem kAsg_f (i : Nat) (d : D) : kAsg i false ρ d = .nx (ρ.set i (.fro d)) := rfl
@[simp] theorem evS_asg (i : Nat) (own : Bool) (e : E) : evS M (.asg i own e) ρ = (evE M e false ρ).then ρ (kAsg i own ρ) := rfl
def kTup (is : List Nat) (ρ : List Sl) (d : D) : SR := (bindT (.many is) d ρ).then ρ .nx
@[simp] theorem evS_tupl (is : List Nat) (e : E) : evS M (.tupl is e) ρ = (evE M e false ρ).then ρ (kTup is ρ) := rfl
theorem kTup_eq (is : List Nat) (ds : List D) (h : ds.length = is.length) : kTup is ρ (.tup ds) = .nx (setMany is ds ρ) := by
  unfold kTup bindT
  simp [h]
def then2 (x y : R D) (ρ : List Sl) (k : D → D → SR) : SR := x.then ρ fun a => y.then ρ fun b => k a b
@[simp] theorem then2_ok (a b : D) (k : D → D → SR) : then2 (.ok a) (.ok b) ρ k = k a b := rfl
def kPar (i j : Nat) (ρ : List Sl) (d e : D) : SR := .nx ((ρ.set i (.fro d)).set j (.fro e))
@[simp] theorem kPar_eq (i j : Nat) (d e : D) : kPar i j ρ d e = .nx ((ρ.set i (.fro d)).set j (.fro e)) := rfl
@[simp] theorem evS_par (i j : Nat) (a b : E) : evS M (.par i j a b) ρ = then2 (evE M a false ρ) (evE M b false ρ) ρ (kPar i j ρ) := rfl
def kAug (o : Operator) (i : Nat) (ρ : List Sl) (d y : D) : SR := (augD o d y).then ρ (kAsg i false ρ)
@[simp] theorem kAug_add (i : Nat) (a b : Int) : kAug .Add i ρ (.int a) (.int b) = .nx (ρ.set i (.fro (.int (a + b)))) := rfl
@[simp] theorem kAug_sub (i : Nat) (a b : Int) : kAug .Sub i ρ (.int a) (.int b) = .nx (ρ.set i (.fro (.int (a - b)))) := rfl
def gV : Option Sl → R D
  | some (.fro d) => .ok d
  | _ => .stuck
def gR : Option Sl → R D
  | some (.fro d) => .ok d
  | some (.own d) => .ok d
  | _ => .stuck
@[simp] theorem gV_fro (d : D) : gV (some (.fro d)) = .ok d := rfl
@[simp] theorem gR_fro (d : D) : gR (some (.fro d)) = .ok d := rfl
@[simp] theorem gR_own (d : D) : gR (some (.own d)) = .ok d := rfl
@[simp] theorem getV_eq (i : Nat) : getV i ρ = gV ρ[i]? := by
  unfold getV gV
  rfl
@[simp] theorem getR_eq (i : Nat) : getR i ρ = gR ρ[i]? := by
  unfold getR gR
  rfl
@[simp] theorem evS_aug (o : Operator) (i : Nat) (e : E) : evS M (.aug o i e) ρ = then2 (gV ρ[i]?) (evE M e false ρ) ρ (kAug o i ρ) := by
  rw [← getV_eq]; rfl
def kDrop (ρ : List Sl) (_ : D) : SR := .nx ρ
@[simp] theorem kDrop_eq (d : D) : kDrop ρ d = .nx ρ := rfl
@[simp] theorem evS_expr (e : E) : evS M (.expr e) ρ = (evE M e false ρ).then ρ (kDrop ρ) := rfl
@[simp] theorem evS_ret (e : E) : evS M (.ret e) ρ = (evE M e false ρ).then ρ .rt := rfl
@[simp] theorem evS_retN : evS M .retN ρ = .rt .non := rfl
@[simp] theorem evS_pas : evS M .pas ρ = .nx ρ := rfl
@[simp] theorem evS_brk : evS M .brk ρ = .bk ρ := rfl
@[simp] theorem evS_cont : evS M .cont ρ = .ct ρ := rfl
def kIte (M : Sem) (a b : List S) (ρ : List Sl) (k : Bool) : SR := if k = true then evB M a ρ else evB M b ρ
@[simp] theorem kIte_t (a b : List S) : kIte M a b ρ true = evB M a ρ := rfl
@[simp] theorem kIte_f (a b : List S) : kIte M a b ρ false = evB M b ρ := rfl
@[simp] theorem evS_ite (t : E) (a b : List S) : evS M (.ite t a b) ρ = (evT M t ρ).then ρ (kIte M a b ρ) := rfl
def evI (M : Sem) (e : E) (ρ : List Sl) : R (List D) := (evE M e false ρ).bind itemsD
@[simp] theorem evI_eq (e : E) : evI M e ρ = (evE M e false ρ).bind itemsD := rfl
def kLoop (M : Sem) (t : Tg) (b : List S) (ρ : List Sl) (ds : List D) : SR := loopS (bindT t) (evB M b) ds ρ
@[simp] theorem kLoop_eq (t : Tg) (b : List S) (ds : List D) : kLoop M t b ρ ds = loopS (bindT t) (evB M b) ds ρ := rfl
@[simp] theorem evS_loop (t : Tg) (e : E) (b : List S) : evS M (.loop t e b) ρ = (evI M e ρ).then ρ (kLoop M t b ρ) := rfl
@[simp] theorem evS_whl (n : Nat) (t : E) (b : List S) : evS M (.whl n t b) ρ = whileS (evT M t) (evB M b) n ρ := rfl
def appK (i : Nat) (ρ : List Sl) (ds : List D) (d : D) : SR := if cd (ds.length < sizeLine) = true then .nx (ρ.set i (.own (.lst (ds ++ [d])))) else .stuck
def appO (i : Nat) (ρ : List Sl) (o : Option Sl) (r : R D) : SR := match o with
  | some (.own (.lst ds)) => r.then ρ (appK i ρ ds)
  | _ => .stuck
@[simp] theorem appO_eq (i : Nat) (ds : List D) (r : R D) : appO i ρ (some (.own (.lst ds))) r = r.then ρ (appK i ρ ds) := rfl
@[simp] theorem evS_app (i : Nat) (e : E) : evS M (.app i e) ρ = appO i ρ ρ[i]? (evE M e false ρ) := by
  show appS i _ ρ = _
  unfold appS appO
  rfl
theorem appK_ok (i : Nat) (ds : List D) (d : D) (h : ds.length < sizeLine) : appK i ρ ds d = .nx (ρ.set i (.own (.lst (ds ++ [d])))) := by
  unfold appK; rw [if_pos (cd_pos h)]
def frz1 (i : Nat) (ρ : List Sl) (o : Option Sl) : List Sl := match o with | some (.own d) => ρ.set i (.fro d) | _ => ρ
@[simp] theorem frz1_own (i : Nat) (d : D) : frz1 i ρ (some (.own d)) = ρ.set i (.fro d) := rfl
@[simp] theorem frz1_fro (i : Nat) (d : D) : frz1 i ρ (some (.fro d)) = ρ := rfl
@[simp] theorem frz1_no (i : Nat) : frz1 i ρ (some .no) = ρ := rfl
@[simp] theorem frzS_nil : frzS [] ρ = ρ := rfl
@[simp] theorem frzS_cons (i : Nat) (is : List Nat) : frzS (i :: is) ρ = frzS is (frz1 i ρ ρ[i]?) := rfl
@[simp] theorem evS_frz (is : List Nat) (s : S) : evS M (.frz is s) ρ = evS M s (frzS is ρ) := rfl
@[simp] theorem evT_eq (e : E) : evT M e ρ = (evE M e false ρ).bind toB := rfl

/-! expressions -/
def b2 (f : D → D → R D) (x y : R D) : R D := x.bind fun a => y.bind fun b => f a b
@[simp] theorem b2_ok (f : D → D → R D) (a b : D) : b2 f (.ok a) (.ok b) = f a b := rfl
@[simp] theorem evE_var_t (i : Nat) : evE M (.var i) true ρ = gR ρ[i]? := by rw [← getR_eq]; rfl
@[simp] theorem evE_var_f (i : Nat) : evE M (.var i) false ρ = gV ρ[i]? := by rw [← getV_eq]; rfl
@[simp] theorem evE_int (i : Int) : evE M (.int i) rd ρ = .ok (.int i) := rfl
@[simp] theorem evE_str (i : Str) : evE M (.str i) rd ρ = .ok (.str i) := rfl
@[simp] theorem evE_bl (i : Bool) : evE M (.bl i) rd ρ = .ok (.bl i) := rfl
@[simp] theorem evE_non : evE M .non rd ρ = .ok .non := rfl
@[simp] theorem evE_glob (n : Nat) : evE M (.glob n) rd ρ = .ok (M.Γ n) := rfl
@[simp] theorem evE_bin (o : Operator) (a b : E) : evE M (.bin o a b) rd ρ = b2 (binD o) (evE M a true ρ) (evE M b true ρ) := rfl
@[simp] theorem evE_neg (a : E) : evE M (.neg a) rd ρ = (evE M a true ρ).bind negD := rfl
def cmpV (o : CmpOp) (x y : D) : R D := bR (cmpB o x y)
@[simp] theorem evE_cmp (o : CmpOp) (a b : E) : evE M (.cmp o a b) rd ρ = b2 (cmpV o) (evE M a true ρ) (evE M b true ρ) := by
  show bR _ = _
  generalize evE M a true ρ = x
  generalize evE M b true ρ = y
  cases x <;> cases y <;> rfl
def chain3 (o o' : CmpOp) (x y z : R D) : R D := bR (do let a ← x; let b ← y; let k ← cmpB o a b; if k = true then (do let c ← z; cmpB o' b c) else .ok false)
def chK (o' : CmpOp) (y : D) (z : R D) (k : Bool) : R D := if k = true then z.bind (cmpV o' y) else .ok (.bl false)
@[simp] theorem chK_t (o' : CmpOp) (y z : D) : chK o' y (.ok z) true = cmpV o' y z := rfl
@[simp] theorem chK_f (o' : CmpOp) (y : D) (z : R D) : chK o' y z false = .ok (.bl false) := rfl
@[simp] theorem chain3_ok (o o' : CmpOp) (x y : D) (z : R D) : chain3 o o' (.ok x) (.ok y) z = (cmpB o x y).bind (chK o' y z) := by
  show bR ((cmpB o x y).bind _) = _
  generalize cmpB o x y = r
  cases r with
  | ok k =>
    cases k
    · rfl
    · cases z <;> rfl
  | exc _ _ => rfl
  | stuck => rfl
@[simp] theorem evE_chain (o o' : CmpOp) (a b d : E) : evE M (.chain o o' a b d) rd ρ = chain3 o o' (evE M a true ρ) (evE M b true ρ) (evE M d true ρ) := rfl
def andR (x y : R D) : R D := x.bind fun d => (toB d).bind fun k => if k = true then (y.bind fun e => bR (toB e)) else .ok (.bl false)
def orR (x y : R D) : R D := x.bind fun d => (toB d).bind fun k => if k = true then .ok (.bl true) else (y.bind fun e => bR (toB e))
@[simp] theorem andR_f (y : R D) : andR (.ok (.bl false)) y = .ok (.bl false) := rfl
@[simp] theorem andR_t (b : Bool) : andR (.ok (.bl true)) (.ok (.bl b)) = .ok (.bl b) := rfl
theorem andR_ok (a b : Bool) : andR (.ok (.bl a)) (.ok (.bl b)) = .ok (.bl (a && b)) := by cases a <;> rfl
@[simp] theorem orR_t (y : R D) : orR (.ok (.bl true)) y = .ok (.bl true) := rfl
@[simp] theorem orR_f (b : Bool) : orR (.ok (.bl false)) (.ok (.bl b)) = .ok (.bl b) := rfl
theorem orR_ok (a b : Bool) : orR (.ok (.bl a)) (.ok (.bl b)) = .ok (.bl (a || b)) := by cases a <;> rfl
theorem bR_toB_and (x : R Bool) : (bR x).bind (fun e => bR (toB e)) = bR x := by cases x <;> rfl
@[simp] theorem evE_and1 (a : E) : evE M (.and [a]) rd ρ = (evE M a false ρ).bind fun e => bR (toB e) := by
  show bR ((evE M a false ρ).bind toB) = _
  generalize evE M a false ρ = x
  cases x <;> rfl
@[simp] theorem evE_and2 (a b : E) (l : List E) : evE M (.and (a :: b :: l)) rd ρ = andR (evE M a false ρ) (evE M (.and (b :: l)) rd ρ) := by
  show bR ((evE M a false ρ).bind toB >>= fun k => if k = true then evAnd M (b :: l) ρ else .ok false) = andR _ (bR (evAnd M (b :: l) ρ))
  generalize evE M a false ρ = x
  generalize evAnd M (b :: l) ρ = y
  cases x with
  | ok d =>
    cases d with
    | bl k =>
      cases k
      · rfl
      · cases y <;> rfl
    | _ => rfl
  | exc _ _ => rfl
  | stuck => rfl
@[simp] theorem evE_or1 (a : E) : evE M (.or [a]) rd ρ = (evE M a false ρ).bind fun e => bR (toB e) := by
  show bR ((evE M a false ρ).bind toB) = _
  generalize evE M a false ρ = x
  cases x <;> rfl
@[simp] theorem evE_or2 (a b : E) (l : List E) : evE M (.or (a :: b :: l)) rd ρ = orR (evE M a false ρ) (evE M (.or (b :: l)) rd ρ) := by
  show bR ((evE M a false ρ).bind toB >>= fun k => if k = true then .ok true else evOr M (b :: l) ρ) = orR _ (bR (evOr M (b :: l) ρ))
  generalize evE M a false ρ = x
  generalize evOr M (b :: l) ρ = y
  cases x with
  | ok d =>
    cases d with
    | bl k =>
      cases k
      · cases y <;> rfl
      · rfl
    | _ => rfl
  | exc _ _ => rfl
  | stuck => rfl
def notV (d : D) : R D := bR ((toB d).bind fun k => .ok (!k))
@[simp] theorem notV_bl (b : Bool) : notV (.bl b) = .ok (.bl (!b)) := rfl
@[simp] theorem evE_not (a : E) : evE M (.not a) rd ρ = (evE M a false ρ).bind notV := by
  show bR _ = _
  generalize evE M a false ρ = x
  cases x <;> rfl
def cons2 (x : R D) (xs : R (List D)) : R (List D) := x.bind fun a => xs.bind fun l => .ok (a :: l)
@[simp] theorem cons2_ok (a : D) (l : List D) : cons2 (.ok a) (.ok l) = .ok (a :: l) := rfl
@[simp] theorem evL_nil : evL M [] rd ρ = .ok [] := rfl
@[simp] theorem evL_cons (e : E) (l : List E) : evL M (e :: l) rd ρ = cons2 (evE M e rd ρ) (evL M l rd ρ) := rfl
def mkTup (l : List D) : R D := small l (.ok (.tup l))
def mkLst (l : List D) : R D := small l (.ok (.lst l))
theorem mkTup_ok (l : List D) (h : l.length ≤ sizeLine) : mkTup l = .ok (.tup l) := by unfold mkTup small; rw [if_pos (cd_pos h)]
theorem mkLst_ok (l : List D) (h : l.length ≤ sizeLine) : mkLst l = .ok (.lst l) := by unfold mkLst small; rw [if_pos (cd_pos h)]
@[simp] theorem evE_tup (l : List E) : evE M (.tup l) rd ρ = (evL M l false ρ).bind mkTup := rfl
@[simp] theorem evE_lst (l : List E) : evE M (.lst l) rd ρ = (evL M l false ρ).bind mkLst := rfl
@[simp] theorem evE_idx (a b : E) : evE M (.idx a b) rd ρ = b2 idxD (evE M a true ρ) (evE M b true ρ) := rfl
def slc3 (x : R D) (l u : R (Option Int)) : R D := x.bind fun d => l.bind fun a => u.bind fun b => slcD d a b
@[simp] theorem slc3_ok (d : D) (a b : Option Int) : slc3 (.ok d) (.ok a) (.ok b) = slcD d a b := rfl
@[simp] theorem evE_slc (a : E) (lo hi : Option E) : evE M (.slc a lo hi) rd ρ = slc3 (evE M a true ρ) (evO M lo ρ) (evO M hi ρ) := rfl
@[simp] theorem evO_none : evO M none ρ = .ok none := rfl
@[simp] theorem evO_some (e : E) : evO M (some e) ρ = (evE M e true ρ).bind toI := rfl
@[simp] theorem toI_int (i : Int) : toI (.int i) = .ok (some i) := rfl
@[simp] theorem evE_call (f : Nat) (l : List E) : evE M (.call f l) rd ρ = (evL M l false ρ).bind (M.Φ f) := rfl
@[simp] theorem evE_fn (n : String) (l : List E) : evE M (.fn n l) rd ρ = (evL M l true ρ).bind (fnD n) := rfl
@[simp] theorem evE_ty (n : String) (l : List E) : evE M (.ty n l) rd ρ = (evL M l true ρ).bind (tyD n) := rfl
def sidx2 (x y : R D) : R D := x.bind fun a => withStr a fun z => y.bind (sidxS z)
@[simp] theorem sidx2_ok (z : Str) (y : D) : sidx2 (.ok (.str z)) (.ok y) = sidxS z y := rfl
@[simp] theorem evE_sidx (a b : E) : evE M (.sidx a b) rd ρ = sidx2 (evE M a true ρ) (evE M b true ρ) := rfl
@[simp] theorem evE_bits (a : E) : evE M (.bits a) rd ρ = (evE M a true ρ).bind bitsD := rfl
@[simp] theorem evE_isB (a : E) : evE M (.isB a) rd ρ = (evE M a true ρ).bind isBD := rfl
@[simp] theorem evE_rng1 (a : E) : evE M (.rng1 a) rd ρ = (evE M a true ρ).bind fun x => seqD (rng1D [x]) := rfl
@[simp] theorem evE_rng2 (a b : E) : evE M (.rng2 a b) rd ρ = b2 (fun x y => seqD (rng2D [x, y])) (evE M a true ρ) (evE M b true ρ) := rfl
@[simp] theorem evIf_none : evIf M none ρ = .ok true := rfl
@[simp] theorem evIf_some (e : E) : evIf M (some e) ρ = (evE M e false ρ).bind toB := rfl

/-! operators -/
@[simp] theorem bin_add (i j : Int) : binD .Add (.int i) (.int j) = .ok (.int (i + j)) := rfl
@[simp] theorem bin_adds (x y : Str) : binD .Add (.str x) (.str y) = lim (x.length + y.length) (.ok (.str (x ++ y))) := rfl
@[simp] theorem bin_addt (x y : List D) : binD .Add (.tup x) (.tup y) = lim (x.length + y.length) (.ok (.tup (x ++ y))) := rfl
@[simp] theorem bin_addl (x y : List D) : binD .Add (.lst x) (.lst y) = lim (x.length + y.length) (.ok (.lst (x ++ y))) := rfl
@[simp] theorem bin_sub (i j : Int) : binD .Sub (.int i) (.int j) = .ok (.int (i - j)) := rfl
theorem bin_mul (i j : Int) (h : mulOk i j = true) : binD .Mult (.int i) (.int j) = .ok (.int (i * j)) := by
  show mulD (.int i) (.int j) = _; unfold mulD; simp [h]
theorem bin_div (i j : Int) (h : 0 < j ∧ j < 2 ^ 100) : binD .FloorDiv (.int i) (.int j) = .ok (.int (i / j)) := by
  show (if divOk j = true then R.ok (D.int (i / j)) else .stuck) = _; unfold divOk; rw [if_pos (cd_pos h)]
theorem bin_mod (i j : Int) (h : 0 < j) : binD .Mod (.int i) (.int j) = .ok (.int (i % j)) := by
  show modD (.int i) (.int j) = _; unfold modD; simp [cd_pos h]
theorem bin_shr (i j : Int) (h : 0 ≤ j) : binD .RShift (.int i) (.int j) = .ok (.int (i / 2 ^ j.toNat)) := by
  show shrD (.int i) (.int j) = _; unfold shrD; simp [cd_pos h]
theorem bin_pow (i j : Int) (h : 0 ≤ j ∧ j ≤ 1000000 ∧ i.natAbs < 2 ^ 64) : binD .Pow (.int i) (.int j) = .ok (.int (i ^ j.toNat)) := by
  show (if cd (0 ≤ j ∧ j ≤ 1000000 ∧ i.natAbs < 2 ^ 64) = true then R.ok (D.int (i ^ j.toNat)) else .stuck) = _; rw [if_pos (cd_pos h)]
@[simp] theorem bin_xor (i j : Int) : binD .BitXor (.int i) (.int j) = .ok (.int (Builtin.bitXor i j)) := rfl
@[simp] theorem neg_int (i : Int) : negD (.int i) = .ok (.int (-i)) := rfl
@[simp] theorem idx_lst (xs : List D) (i : Int) : idxD (.lst xs) (.int i) = ofO (atI xs i) := rfl
@[simp] theorem idx_tup (xs : List D) (i : Int) : idxD (.tup xs) (.int i) = ofO (atI xs i) := rfl
@[simp] theorem idx_scr (xs : List Int) (i : Int) : idxD (.scr xs) (.int i) = ofO ((atI xs i).map D.int) := rfl
@[simp] theorem idx_str (z : Str) (i : Int) : idxD (.str z) (.int i) = lim z.length (ofO ((atI z.cps.toList i).map fun k => D.str ⟨#[k]⟩)) := rfl
@[simp] theorem ofO_some (d : D) : ofO (some d) = .ok d := rfl
@[simp] theorem slc_lst (xs : List D) (a b : Option Int) : slcD (.lst xs) a b = .ok (.lst (cutA xs a b)) := rfl
@[simp] theorem slc_tup (xs : List D) (a b : Option Int) : slcD (.tup xs) a b = .ok (.tup (cutA xs a b)) := rfl
@[simp] theorem slc_scr (xs : List Int) (a b : Option Int) : slcD (.scr xs) a b = .ok (.lst ((cutA xs a b).map D.int)) := rfl
@[simp] theorem slc_str (z : Str) (a b : Option Int) : slcD (.str z) a b = lim z.length (.ok (.str (cutS z a b))) := rfl
@[simp] theorem len_lst (xs : List D) : fnD "len" [.lst xs] = .ok (.int xs.length) := rfl
@[simp] theorem len_tup (xs : List D) : fnD "len" [.tup xs] = .ok (.int xs.length) := rfl
@[simp] theorem len_scr (xs : List Int) : fnD "len" [.scr xs] = .ok (.int xs.length) := rfl
@[simp] theorem len_str (z : Str) : fnD "len" [.str z] = lim z.length (.ok (.int z.length)) := rfl
@[simp] theorem abs_int (i : Int) : fnD "abs" [.int i] = .ok (.int (if i < 0 then -i else i)) := rfl
@[simp] theorem all_bl (bs : List Bool) : fnD "all" [.lst (bs.map D.bl)] = .ok (.bl (bs.all _root_.id)) := by
  show allD [D.lst (bs.map D.bl)] = _; unfold allD; simp only [bools_map]; rfl
@[simp] theorem any_bl (bs : List Bool) : fnD "any" [.lst (bs.map D.bl)] = .ok (.bl (bs.any _root_.id)) := by
  show anyD [D.lst (bs.map D.bl)] = _; unfold anyD; simp only [bools_map]; rfl
@[simp] theorem sum_int (ns : List Int) : fnD "sum" [.lst (ns.map D.int)] = .ok (.int ns.sum) := by
  show sumD [D.lst (ns.map D.int)] = _; unfold sumD; simp only [intsOf_map]; rfl
@[simp] theorem min_int (i j : Int) : fnD "min" [.int i, .int j] = .ok (.int (if j < i then j else i)) := rfl
@[simp] theorem max_int (i j : Int) : fnD "max" [.int i, .int j] = .ok (.int (if j > i then j else i)) := rfl
@[simp] theorem int_int (i : Int) : tyD "int" [.int i] = .ok (.int i) := rfl
@[simp] theorem int_bl (b : Bool) : tyD "int" [.bl b] = .ok (.int (if b then 1 else 0)) := rfl
@[simp] theorem list_lst (xs : List D) : tyD "list" [.lst xs] = .ok (.lst xs) := rfl
@[simp] theorem list_tup (xs : List D) : tyD "list" [.tup xs] = .ok (.lst xs) := rfl
@[simp] theorem tuple_lst (xs : List D) : tyD "tuple" [.lst xs] = .ok (.tup xs) := rfl
@[simp] theorem tuple_tup (xs : List D) : tyD "tuple" [.tup xs] = .ok (.tup xs) := rfl
@[simp] theorem isB_bl (b : Bool) : isBD (.bl b) = .ok (.bl true) := rfl
@[simp] theorem isB_int (b : Int) : isBD (.int b) = .ok (.bl false) := rfl
@[simp] theorem isB_str (b : Str) : isBD (.str b) = .ok (.bl false) := rfl
@[simp] theorem isB_non : isBD .non = .ok (.bl false) := rfl
@[simp] theorem isB_tup (l : List D) : isBD (.tup l) = .ok (.bl false) := rfl
@[simp] theorem isB_lst (l : List D) : isBD (.lst l) = .ok (.bl false) := rfl
@[simp] theorem bits_int (b : Int) : bitsD (.int b) = .ok (.int (Builtin.Int.intBits b : Nat)) := rfl
theorem rng1_int (n : Nat) (h : n < 2 ^ 62) : seqD (rng1D [.int (n : Nat)]) = .ok (.lst (rangeD 0 n)) := by
  unfold rng1D in62
  simp only
  rw [if_pos (cd_pos ⟨by omega, by omega⟩)]
  rfl
theorem rng1_lit (i : Int) (h0 : 0 ≤ i) (h : i < 2 ^ 62) : seqD (rng1D [.int i]) = .ok (.lst (rangeD 0 i.toNat)) := by
  unfold rng1D in62
  simp only
  rw [if_pos (cd_pos ⟨by omega, h⟩)]
  rfl
theorem rng2_int (i j : Int) (h0 : -(2 ^ 62) ≤ i) (h1 : i < 2 ^ 62) (h2 : -(2 ^ 62) ≤ j) (h3 : j < 2 ^ 62) : seqD (rng2D [.int i, .int j]) = .ok (.lst (rangeD i (j - i).toNat)) := by
  unfold rng2D in62
  simp only
  rw [if_pos (cd_pos ⟨h0, h1⟩), if_pos (cd_pos ⟨h2, h3⟩)]
  rfl
@[simp] theorem items_lst (l : List D) : itemsD (.lst l) = .ok l := rfl
@[simp] theorem items_tup (l : List D) : itemsD (.tup l) = .ok l := rfl
@[simp] theorem items_str (z : Str) : itemsD (.str z) = .ok (signsD z) := rfl
@[simp] theorem items_scr (ns : List Int) : itemsD (.scr ns) = .ok (ns.map D.int) := rfl

/-! comparisons -/
@[simp] theorem cmpV_eq (o : CmpOp) (x y : D) : cmpV o x y = bR (cmpB o x y) := rfl
@[simp] theorem cmp_eq_int (i j : Int) : cmpB .Eq (.int i) (.int j) = .ok (cd (i = j)) := rfl
@[simp] theorem cmp_eq_str (i j : Str) : cmpB .Eq (.str i) (.str j) = .ok (cd (i = j)) := rfl
@[simp] theorem cmp_eq_bl (i j : Bool) : cmpB .Eq (.bl i) (.bl j) = .ok (decide (i = j)) := rfl
@[simp] theorem cmp_ne_int (i j : Int) : cmpB .NotEq (.int i) (.int j) = .ok (!cd (i = j)) := rfl
@[simp] theorem cmp_ne_str (i j : Str) : cmpB .NotEq (.str i) (.str j) = .ok (!cd (i = j)) := rfl
@[simp] theorem cmp_ne_bl (i j : Bool) : cmpB .NotEq (.bl i) (.bl j) = .ok (!decide (i = j)) := rfl
@[simp] theorem cmp_eq_nn : cmpB .Eq .non .non = .ok true := rfl
@[simp] theorem cmp_eq_ni (j : Int) : cmpB .Eq .non (.int j) = .ok false := rfl
@[simp] theorem cmp_eq_in (j : Int) : cmpB .Eq (.int j) .non = .ok false := rfl
@[simp] theorem cmp_ne_nn : cmpB .NotEq .non .non = .ok false := rfl
@[simp] theorem cmp_ne_ni (j : Int) : cmpB .NotEq .non (.int j) = .ok true := rfl
@[simp] theorem cmp_ne_in (j : Int) : cmpB .NotEq (.int j) .non = .ok true := rfl
@[simp] theorem cmp_lt (i j : Int) : cmpB .Lt (.int i) (.int j) = .ok (cd (i < j)) := rfl
@[simp] theorem cmp_le (i j : Int) : cmpB .LtE (.int i) (.int j) = .ok (cd (i ≤ j)) := rfl
@[simp] theorem cmp_gt (i j : Int) : cmpB .Gt (.int i) (.int j) = .ok (cd (j < i)) := rfl
@[simp] theorem cmp_ge (i j : Int) : cmpB .GtE (.int i) (.int j) = .ok (cd (j ≤ i)) := rfl
@[simp] theorem cmp_lts (i j : Str) : cmpB .Lt (.str i) (.str j) = .ok (cd (i.cps.toList < j.cps.toList)) := rfl
@[simp] theorem cmp_is_bl (i j : Bool) : cmpB .Is (.bl i) (.bl j) = .ok (decide (i = j)) := rfl
@[simp] theorem cmp_isnot_bl (i j : Bool) : cmpB .IsNot (.bl i) (.bl j) = .ok (!decide (i = j)) := rfl
theorem cmp_is_non (d : D) : cmpB .Is d .non = .ok (isNon d) := by cases d <;> rfl
theorem cmp_isnot_non (d : D) : cmpB .IsNot d .non = .ok (!isNon d) := by cases d <;> rfl
end
end DS
end
noncomputable section
namespace SG
open PySem L2 DS
def cellN (ns : List Int) (k : Nat) : Int := ns.getD k 0
theorem ev_law_cell {M : DS.Sem} {ns : List Int} {k : Nat} : runB M N__law_cell.length b__law_cell [.scr ns, .int k] = .ok (.int (cellN ns k)) := by
  by_cases h : k < ns.length
  · have h1 : (k : Int) < ns.length := by omega
    have hat : atI ns (k : Int) = some ns[k] := atI_nat (by simp [h])
    have hg : cellN ns k = ns[k] := by simp [cellN, h]
    simp [runB, outR, evB, evS, evT, evE, evL, evAnd, evOr, evO, evIf, startR, binD, addD, subD, modD, fdivD, mulD, shrD, xorD, powD, negD, cmpB, eqB, scE, bR, R.bind_ok, R.then_ok, SR.nx_andThen, SR.rt_andThen, getV, getR, toB, lim, small, idxD, ofO, slcD, fnD, tyD, lenD, absD, intD, allD, anyD, sumD, listD, tupleD, strD, min2D, max2D, isBD, bitsD, withStr, sidxS, seqD, rng1D, rng2D, in62, itemsD, augD, bindT, compE, calmR, chainB, DS.isNon, toI, appS, frzS, signsD, DS.bools, DS.intsOf, ofOp, inB, b__law_cell, N__law_cell, h, hat, hg]
  · have h1 : ¬ (k : Int) < ns.length := by omega
    have hg : cellN ns k = 0 := by unfold cellN; rw [List.getD_eq_getElem?_getD, List.getElem?_eq_none (by omega)]; rfl
    simp [runB, outR, evB, evS, evT, evE, evL, evAnd, evOr, evO, evIf, startR, binD, addD, subD, modD, fdivD, mulD, shrD, xorD, powD, negD, cmpB, eqB, scE, bR, R.bind_ok, R.then_ok, SR.nx_andThen, SR.rt_andThen, getV, getR, toB, lim, small, idxD, ofO, slcD, fnD, tyD, lenD, absD, intD, allD, anyD, sumD, listD, tupleD, strD, min2D, max2D, isBD, bitsD, withStr, sidxS, seqD, rng1D, rng2D, in62, itemsD, augD, bindT, compE, calmR, chainB, DS.isNon, toI, appS, frzS, signsD, DS.bools, DS.intsOf, ofOp, inB, b__law_cell, N__law_cell, h, hg]
/-- a text of code points -/
abbrev tx (l : List Nat) : Str := ⟨l.toArray⟩
theorem cs_tx (l : List Nat) : cs (tx l) = l := by simp [cs, tx]
theorem tx_app (l m : List Nat) : tx l ++ tx m = tx (l ++ m) := by
  show (⟨_ ++ _⟩ : Str) = _
  simp [tx]
theorem tx_len (l : List Nat) : (tx l).length = l.length := by rw [length_cs, cs_tx]
theorem tx_cs (s : Str) : tx (cs s) = s := by cases s; simp [tx, cs]
def shortS : List Str := ["a", "b", "aa", "ab", "a0", "a_", "abc", "z", "zz", "0", "_", "zzzzzzzz", "00000000", "ab0", "abd", "b_"]
def restN (r : Nat) : Nat → Nat
  | 0 => r
  | k + 1 => restN r k * 7 + 3 + k
def nameL (r : Nat) : Nat → List Nat
  | 0 => []
  | k + 1 => nameL r k ++ [alphaL.getD (restN r (k + 1) / 11 % 37) 0]
def lawName (n : Nat) : Str := if n % 3 = 0 then shortS.getD (n / 3 % 16) "a" else tx (nameL (n / 3) (n / 3 % 8 + 1))
theorem nameL_len (r k : Nat) : (nameL r k).length = k := by
  induction k with
  | zero => rfl
  | succ k ih => simp [nameL, ih]
theorem bin_mulr (i j : Int) (h : -(2 ^ 64) < j ∧ j < 2 ^ 64) : binD .Mult (.int i) (.int j) = .ok (.int (i * j)) := bin_mul i j (mulOk_r h)
theorem ev_law_name {M : DS.Sem} {n : Nat} : runB M N__law_name.length b__law_name [.int n] = .ok (.str (lawName n)) := by
  by_cases h : n % 3 = 0
  · have h1 : (n : Int) % 3 = 0 := by omega
    have hlt : n / 3 % 16 < 16 := Nat.mod_lt _ (by decide)
    have hat : atI (shortS.map D.str) ((n : Int) / 3 % 16) = some (.str (shortS.getD (n / 3 % 16) "a")) := by
      have e : ((n : Int) / 3 % 16) = ((n / 3 % 16 : Nat) : Int) := by omega
      rw [e]
      refine atI_nat ?_
      rw [List.getElem?_map, List.getD_eq_getElem?_getD]
      have : n / 3 % 16 < shortS.length := hlt
      rw [List.getElem?_eq_getElem this]
      rfl
    have hs : (16 : Nat) ≤ sizeLine := sz (by decide)
    have hl : lawName n = shortS.getD (n / 3 % 16) "a" := if_pos h
    have hM := mkLst_ok (shortS.map D.str) (by simpa [shortS] using hs)
    simp only [shortS, List.map_cons, List.map_nil] at hat hM
    rw [runB_eq]
    simp [startR, b__law_name, N__law_name, bin_div, bin_mod, hM, hat, h1, hl]
    rfl
  · have h1 : ¬ (n : Int) % 3 = 0 := by omega
    have hl : lawName n = tx (nameL (n / 3) (n / 3 % 8 + 1)) := if_neg h
    have hs : (16 : Nat) ≤ sizeLine := sz (by decide)
    have hM := mkLst_ok (shortS.map D.str) (by simpa [shortS] using hs)
    simp only [shortS, List.map_cons, List.map_nil] at hM
    have hr : n / 3 % 8 + 1 ≤ 8 := by omega
    obtain ⟨ρ', e, x, rfl⟩ := loop_range (bd := bindT (.one 5)) (body := evB M b__law_name_L1) (fun i ρ => ∃ x, ρ = [.fro (.int n), .fro (.str alpha), .fro (.lst (shortS.map D.str)), .fro (.int (restN (n / 3) i : Nat)), .fro (.str (tx (nameL (n / 3) i))), x]) (lo := 0) (n := n / 3 % 8 + 1) (ρ := [.fro (.int n), .fro (.str alpha), .fro (.lst (shortS.map D.str)), .fro (.int (n / 3 : Nat)), .fro (.str (tx [])), .no]) ⟨.no, rfl⟩ (by
      rintro i ρ hi ⟨x, rfl⟩
      refine ⟨_, rfl, _, .inl ?_, .fro (.int i), rfl⟩
      have ha : alpha.length ≤ sizeLine := sz (by rw [alpha_len]; decide)
      have e : ((restN (n / 3) i : Nat) : Int) * 7 + 3 + i = (restN (n / 3) (i + 1) : Nat) := by simp [restN]
      have hlt : restN (n / 3) (i + 1) / 11 % 37 < alphaL.length := Nat.mod_lt _ (by decide)
      have e2 : ((restN (n / 3) (i + 1) : Nat) : Int) / 11 % 37 = (restN (n / 3) (i + 1) / 11 % 37 : Nat) := by omega
      have hat : atI alphaL ((restN (n / 3) (i + 1) / 11 % 37 : Nat) : Int) = some (alphaL.getD (restN (n / 3) (i + 1) / 11 % 37) 0) := by
        refine atI_nat ?_
        rw [List.getD_eq_getElem?_getD, List.getElem?_eq_getElem hlt]
        rfl
      have hln : (tx (nameL (n / 3) i)).length + (tx [alphaL.getD (restN (n / 3) (i + 1) / 11 % 37) 0]).length ≤ sizeLine := by
        rw [tx_len, tx_len, nameL_len]; exact sz (by simp; omega)
      have hap := tx_app (nameL (n / 3) i) [alphaL.getD (restN (n / 3) (i + 1) / 11 % 37) 0]
      rw [b__law_name_L1]
      simp only [evB_cons, evS_asg, evE_bin, evE_var_t, evE_int, evE_var_f]
      simp only [List.getElem?_cons_succ, List.getElem?_cons_zero, gR_fro, b2_ok, bin_mulr _ 7 (by decide), bin_add, Int.zero_add, e, R.then_ok, kAsg_f, List.set_cons_succ, List.set_cons_zero, SR.nx_andThen, evE_ty, evL_cons, evE_var_t, cons2_ok, evL_nil, R.bind_ok, int_int, bin_div _ 11 (by decide), bin_mod _ 37 (by decide), e2, evE_idx, evE_bin, evE_int, idx_str, lim_ok ha, alpha_cps, hat, Option.map_some, ofO_some, bin_adds]
      simp only [evB_cons, evS_asg, evE_bin, evE_var_t, evE_int, evE_var_f, evE_idx, evE_ty, evL_cons, evL_nil, List.getElem?_cons_succ, List.getElem?_cons_zero, gR_fro, cons2_ok, R.bind_ok, int_int, b2_ok, bin_div _ 11 (by decide), bin_mod _ 37 (by decide), e2, idx_str, lim_ok ha, alpha_cps, hat, Option.map_some, ofO_some, bin_adds]
      rw [lim_ok hln]
      show SR.nx [_, _, _, _, .fro (.str (tx _ ++ tx _)), _] = _
      rw [hap]
      rfl)
    rw [runB_eq]
    simp [startR, b__law_name, N__law_name, bin_div, bin_mod, hM, h1, hl]
    have e3 : (1 : Int) + n / 3 % 8 = ((n / 3 % 8 + 1 : Nat) : Int) := by omega
    have e4 : (n : Int) / 3 = ((n / 3 : Nat) : Int) := by omega
    rw [e3, rng1_int _ (by omega), e4]
    simp only [R.bind_ok, items_lst, R.then_ok, kLoop_eq]
    have e5 : loopS (bindT (Tg.one 5)) (evB M b__law_name_L1) (rangeD 0 (n / 3 % 8 + 1)) [Sl.fro (D.int n), Sl.fro (D.str (Str.ofString "0123456789_abcdefghijklmnopqrstuvwxyz")), Sl.fro (D.lst (List.map D.str shortS)), Sl.fro (D.int (n / 3 : Nat)), Sl.fro (D.str (Str.ofString "")), Sl.no] = _ := e
    simp only [shortS, List.map_cons, List.map_nil] at e5
    rw [e5]
    rfl
end SG
end
noncomputable section
namespace SG
open PySem L2 DS
theorem ev_law_number {M : DS.Sem} {s : Str} (hs : okN (cs s)) : runB M N__law_number.length b__law_number [.str s] = .ok (.int (numOf (cs s) : Nat)) := by
  have hl := length_cs s
  have h8 : s.length ≤ sizeLine := sz (by have := hs.2.1; omega)
  obtain ⟨ρ', e, x, y, rfl⟩ := loop_range (bd := bindT (.one 3)) (body := evB M b__law_number_L1) (fun i ρ => ∃ x y, ρ = [.fro (.str s), .fro (.str alpha), .fro (.int (numN (cs s) i : Nat)), x, y]) (lo := 0) (n := 8) (ρ := [.fro (.str s), .fro (.str alpha), .fro (.int 0), .no, .no]) ⟨.no, .no, rfl⟩ (by
    rintro i ρ hi ⟨x, y, rfl⟩
    refine ⟨_, rfl, ?_⟩
    cases q : (cs s)[i]? with
    | none =>
      have hk : (cs s).length ≤ i := List.getElem?_eq_none_iff.mp q
      have hc : ¬ ((i : Int) < (s.length : Nat)) := by omega
      have hcd : cd (i < s.length) = false := cd_neg (by omega)
      refine ⟨_, .inl ?_, .fro (.int (i : Nat)), .fro (.int 0), rfl⟩
      rw [b__law_number_L1]
      simp [lim_ok h8, hcd, bin_mulr, numN, dgAt, q]
    | some c =>
      have hk : i < (cs s).length := (List.getElem?_eq_some_iff.mp q).1
      have hc : ((i : Int) < (s.length : Nat)) := by omega
      have hcd : cd (i < s.length) = true := cd_pos (by omega)
      have hm : c ∈ alphaL := hs.2.2 c (List.mem_of_getElem? q)
      have hat : atI s.cps.toList (i : Int) = some c := atI_nat q
      have hsx := sidx_alpha hm
      refine ⟨_, .inl ?_, .fro (.int (i : Nat)), .fro (.int (dg c : Nat)), rfl⟩
      rw [b__law_number_L1]
      simp [lim_ok h8, hcd, bin_mulr, numN, dgAt, q, hat, hsx, dg]
      )
  rw [runB_eq]
  simp [startR, b__law_number, N__law_number, rng1_lit]
  have e5 : loopS (bindT (.one 3)) (evB M b__law_number_L1) (rangeD 0 8) [Sl.fro (D.str s), Sl.fro (D.str (Str.ofString "0123456789_abcdefghijklmnopqrstuvwxyz")), Sl.fro (D.int 0), Sl.no, Sl.no] = _ := e
  rw [e5]
  rfl
def bitN (n k : Nat) : Nat := n / 2 ^ (47 - k) % 2
def bitsN (n : Nat) : List D := (List.range 48).map fun k => D.int (bitN n k : Nat)
def lowL (n i : Nat) : List D := (List.range i).map fun j => D.int (n / 2 ^ j % 2 : Nat)
theorem ev_law_bits {M : DS.Sem} {s : Str} {n : Nat} (hc : M.Φ 6 [.str s] = .ok (.int n)) : runB M N__law_bits.length b__law_bits [.str s] = .ok (.lst (bitsN n)) := by
  obtain ⟨ρ', e, x, rfl⟩ := loop_range (bd := bindT (.one 3)) (body := evB M b__law_bits_L1) (fun i ρ => ∃ x, ρ = [.fro (.str s), .fro (.int (n / 2 ^ i : Nat)), .own (.lst (lowL n i)), x]) (lo := 0) (n := 48) (ρ := [.fro (.str s), .fro (.int n), .own (.lst []), .no]) ⟨.no, by simp [lowL]⟩ (by
    rintro i ρ hi ⟨x, rfl⟩
    refine ⟨_, rfl, _, .inl ?_, .fro (.int i), rfl⟩
    rw [b__law_bits_L1]
    have e1 : ((n / 2 ^ i : Nat) : Int) % 2 = (n / 2 ^ i % 2 : Nat) := by omega
    have e2 : ((n / 2 ^ i : Nat) : Int) / 2 = (n / 2 ^ (i + 1) : Nat) := by
      rw [Nat.pow_succ, ← Nat.div_div_eq_div_mul]; omega
    have e3 := appK_ok (ρ := [.fro (.str s), .fro (.int (n / 2 ^ i : Nat)), .own (.lst (lowL n i)), .fro (.int i)]) 2 (lowL n i) (.int (n / 2 ^ i % 2 : Nat)) (szl (by simp [lowL]; omega))
    simp only [evB_cons, evS_app, evE_bin, evE_ty, evL_cons, evL_nil, evE_var_t, List.getElem?_cons_succ, List.getElem?_cons_zero, gR_fro, cons2_ok, R.bind_ok, int_int, b2_ok, evE_int, bin_mod _ 2 (by decide), e1, appO_eq, R.then_ok, List.set_cons_succ, List.set_cons_zero, bindT, Int.zero_add]
    rw [e3]
    simp only [SR.nx_andThen, evB_cons, evS_asg, evE_bin, evE_var_t, List.getElem?_cons_succ, List.getElem?_cons_zero, gR_fro, evE_int, b2_ok, bin_div _ 2 (by decide), e2, R.then_ok, kAsg_f, List.set_cons_succ, List.set_cons_zero, evB_nil]
    rw [show lowL n (i + 1) = lowL n i ++ [D.int (n / 2 ^ i % 2 : Nat)] by unfold lowL; rw [List.range_succ, List.map_append]; rfl])
  have hK : ∀ rd z, evE M b__law_bits_K1 rd [.fro (.str s), .fro (.int z), .own (.lst (lowL n 48)), x] = .ok (.lst (bitsN n)) := fun rd z => by
    refine ev_comp (x := .lst (rangeD 0 48)) (ds := rangeD 0 48) (by rw [evE_rng1, evE_int]; exact rng1_lit 48 (by decide) (by decide)) rfl ?_ (by rw [bitsN, List.length_map]; exact sz (by decide))
    rw [cmap (fun d => match d with | .int z => D.int (bitN n z.toNat : Nat) | _ => .non)]
    · rw [rangeD, List.map_map]; rfl
    · intro d hd
      obtain ⟨k, hk, rfl⟩ := List.mem_map.mp hd
      have hk : k < 48 := List.mem_range.mp hk
      have hat : atI (lowL n 48) (47 - (k : Int)) = some (.int (bitN n k : Nat)) := by
        rw [show (47 : Int) - k = ((47 - k : Nat) : Int) by omega]
        refine atI_nat ?_
        rw [lowL, List.getElem?_map, List.getElem?_range (by omega)]
        rfl
      refine ⟨_, rfl, rfl, ?_⟩
      rw [b__law_bits_C1]
      simp [wipeR, hat]
  rw [runB_eq]
  simp [startR, b__law_bits, N__law_bits, rng1_lit, hc, e, hK, mkLst_ok []]
end SG
end
noncomputable section
namespace SG
open PySem L2 DS
theorem numN_nil : ∀ k, numN [] k = 0
  | 0 => rfl
  | k + 1 => by simp [numN, numN_nil k, dgAt]
theorem numN_cons (c : Nat) (l : List Nat) : ∀ k, numN (c :: l) (k + 1) = dg c * 64 ^ k + numN l k
  | 0 => by simp [numN, dgAt]
  | k + 1 => by
    have ih := numN_cons c l k
    have e : dgAt (c :: l) (k + 1) = dgAt l k := by simp [dgAt]
    rw [numN, ih, e, numN, Nat.pow_succ]
    rw [Nat.add_mul, Nat.mul_assoc]
    omega
theorem dg_lt : ∀ c ∈ alphaL, ∀ d ∈ alphaL, (c < d ↔ dg c < dg d) := by decide +kernel
theorem dg_inj : ∀ c ∈ alphaL, ∀ d ∈ alphaL, dg c = dg d → c = d := by decide +kernel
theorem lex_num {a b x y p : Nat} (hx : x < p) (hy : y < p) : (a * p + x < b * p + y ↔ a < b ∨ (a = b ∧ x < y)) := by
  constructor
  · intro h
    by_cases e : a < b
    · exact .inl e
    · by_cases e2 : a = b
      · subst e2; exact .inr ⟨rfl, by omega⟩
      · exfalso
        have : (b + 1) * p ≤ a * p := Nat.mul_le_mul_right _ (by omega)
        rw [Nat.add_mul] at this
        omega
  · rintro (h | ⟨rfl, h⟩)
    · have : (a + 1) * p ≤ b * p := Nat.mul_le_mul_right _ (by omega)
      rw [Nat.add_mul] at this
      omega
    · omega
theorem lt_num : ∀ (k : Nat) (l m : List Nat), l.length ≤ k → m.length ≤ k → (∀ c ∈ l, c ∈ alphaL) → (∀ c ∈ m, c ∈ alphaL) → ((l < m ↔ numN l k < numN m k) ∧ (numN l k = numN m k → l = m))
  | 0, l, m, hl, hm, _, _ => by
    have e1 : l = [] := List.length_eq_zero_iff.mp (by omega)
    have e2 : m = [] := List.length_eq_zero_iff.mp (by omega)
    subst e1 e2
    simp [numN]
  | k + 1, [], [], _, _, _, _ => by simp
  | k + 1, [], d :: m, _, _, _, _ => by
    have : 0 < 64 ^ k := Nat.pow_pos (by decide)
    have h2 : 0 < dg d * 64 ^ k := Nat.mul_pos (by unfold dg; omega) this
    rw [numN_nil, numN_cons]
    refine ⟨⟨fun _ => by omega, fun _ => List.nil_lt_cons _ _⟩, fun e => by omega⟩
  | k + 1, c :: l, [], _, _, _, _ => by
    have : 0 < 64 ^ k := Nat.pow_pos (by decide)
    have h2 : 0 < dg c * 64 ^ k := Nat.mul_pos (by unfold dg; omega) this
    rw [numN_nil, numN_cons]
    refine ⟨⟨fun h => absurd h (List.not_lt_nil _), fun _ => by omega⟩, fun e => by omega⟩
  | k + 1, c :: l, d :: m, hl, hm, al, am => by
    have al' : ∀ x ∈ l, x ∈ alphaL := fun x h => al x (List.mem_cons_of_mem _ h)
    have am' : ∀ x ∈ m, x ∈ alphaL := fun x h => am x (List.mem_cons_of_mem _ h)
    have hc := al c List.mem_cons_self
    have hd := am d List.mem_cons_self
    obtain ⟨i1, i2⟩ := lt_num k l m (by simpa using hl) (by simpa using hm) al' am'
    have b1 := numN_lt l al' k
    have b2 := numN_lt m am' k
    rw [numN_cons, numN_cons]
    refine ⟨?_, ?_⟩
    · rw [List.cons_lt_cons_iff, lex_num b1 b2, i1, dg_lt c hc d hd]
      constructor
      · rintro (h | ⟨rfl, h⟩)
        · exact .inl h
        · exact .inr ⟨rfl, h⟩
      · rintro (h | ⟨e, h⟩)
        · exact .inl h
        · exact .inr ⟨dg_inj c hc d hd e, h⟩
    · intro e
      have n1 := (not_congr (lex_num (a := dg c) (b := dg d) b1 b2)).mp (by omega)
      have n2 := (not_congr (lex_num (a := dg d) (b := dg c) b2 b1)).mp (by omega)
      have e1 : dg c = dg d := by
        by_cases h1 : dg c < dg d
        · exact absurd (.inl h1) n1
        · by_cases h2 : dg d < dg c
          · exact absurd (.inl h2) n2
          · omega
      have e2 : numN l k = numN m k := by rw [e1] at e; omega
      rw [dg_inj c hc d hd e1, i2 e2]
theorem lt_numOf {l m : List Nat} (hl : okN l) (hm : okN m) : l < m ↔ numOf l < numOf m := (lt_num 8 l m hl.2.1 hm.2.1 hl.2.2 hm.2.2).1
theorem inj_numOf {l m : List Nat} (hl : okN l) (hm : okN m) (h : numOf l = numOf m) : l = m := (lt_num 8 l m hl.2.1 hm.2.1 hl.2.2 hm.2.2).2 h
theorem numOf_lt {l : List Nat} (hl : okN l) : numOf l < 2 ^ 48 := numN_lt l hl.2.2 8
/-! where two numbers part -/
def dueN (a b : Nat) : Nat → Option Nat
  | 0 => none
  | k + 1 => match dueN a b k with
    | some p => some p
    | none => if bitN a k = bitN b k then none else some k
theorem dueN_same (a : Nat) : ∀ k, dueN a a k = none
  | 0 => rfl
  | k + 1 => by simp [dueN, dueN_same a k]
theorem bit_xor (a b k : Nat) : (bitN a k = bitN b k) ↔ (a ^^^ b).testBit (47 - k) = false := by
  rw [Nat.testBit_xor, Nat.testBit_eq_decide_div_mod_eq, Nat.testBit_eq_decide_div_mod_eq]
  unfold bitN
  generalize a / 2 ^ (47 - k) = x
  generalize b / 2 ^ (47 - k) = y
  rcases Nat.mod_two_eq_zero_or_one x with h | h <;> rcases Nat.mod_two_eq_zero_or_one y with h2 | h2 <;> simp [h, h2]
theorem dueN_part {a b : Nat} (la : a < 2 ^ 48) (lb : b < 2 ^ 48) : dueN a b 48 = partN a b := by
  unfold partN
  by_cases e : a = b
  · subst e; rw [dueN_same, if_pos rfl]
  · rw [if_neg e]
    have e0 : a ^^^ b ≠ 0 := fun z => e (Nat.eq_of_testBit_eq fun i => by have q := congrArg (fun x => x.testBit i) z; simpa using q)
    have hlt : a ^^^ b < 2 ^ 48 := Nat.xor_lt_two_pow la lb
    have hlog : (a ^^^ b).log2 < 48 := (Nat.log2_lt e0).mpr hlt
    have hself : 2 ^ (a ^^^ b).log2 ≤ a ^^^ b := Nat.log2_self_le e0
    have hup : a ^^^ b < 2 ^ ((a ^^^ b).log2 + 1) := Nat.lt_log2_self
    have top : (a ^^^ b).testBit (a ^^^ b).log2 = true := by
      rw [Nat.testBit_eq_decide_div_mod_eq]
      have : (a ^^^ b) / 2 ^ (a ^^^ b).log2 = 1 := by
        refine Nat.div_eq_of_lt_le (by omega) ?_
        rw [Nat.pow_succ] at hup
        omega
      rw [this]; rfl
    have hz : ∀ j, (a ^^^ b).log2 < j → (a ^^^ b).testBit j = false := fun j hj =>
      Nat.testBit_lt_two_pow (Nat.lt_of_lt_of_le hup (Nat.pow_le_pow_right (by decide) hj))
    have before : ∀ k, k ≤ 47 - (a ^^^ b).log2 → dueN a b k = none := by
      intro k
      induction k with
      | zero => intro _; rfl
      | succ k ih =>
        intro h
        rw [dueN, ih (by omega)]
        simp only
        rw [if_pos ((bit_xor a b k).mpr (hz _ (by omega)))]
    have after : ∀ k, 47 - (a ^^^ b).log2 < k → dueN a b k = some (47 - (a ^^^ b).log2) := by
      intro k
      induction k with
      | zero => intro h; omega
      | succ k ih =>
        intro h
        by_cases q : k = 47 - (a ^^^ b).log2
        · subst q
          rw [dueN, before _ (Nat.le_refl _)]
          simp only
          rw [if_neg]
          rw [bit_xor, show 47 - (47 - (a ^^^ b).log2) = (a ^^^ b).log2 by omega, top]
          decide
        · rw [dueN, ih (by omega)]
    rw [after 48 (by omega), show 48 - ((a ^^^ b).log2 + 1) = 47 - (a ^^^ b).log2 by omega]
theorem partN_comm (a b : Nat) : partN a b = partN b a := by
  unfold partN
  rw [Nat.xor_comm]
  by_cases e : a = b
  · rw [if_pos e, if_pos e.symm]
  · rw [if_neg e, if_neg (fun h => e h.symm)]
/-! the law's names are names -/
theorem shortS_ok : ∀ s ∈ shortS, okN (cs s) := by decide +kernel
theorem nameL_mem (r : Nat) : ∀ k, ∀ c ∈ nameL r k, c ∈ alphaL
  | 0, c, h => by cases h
  | k + 1, c, h => by
    rcases List.mem_append.mp h with h | h
    · exact nameL_mem r k c h
    · have e : c = alphaL.getD (restN r (k + 1) / 11 % 37) 0 := by simpa using h
      subst e
      have hlt : restN r (k + 1) / 11 % 37 < alphaL.length := Nat.mod_lt _ (by decide)
      rw [List.getD_eq_getElem?_getD, List.getElem?_eq_getElem hlt]
      exact List.getElem_mem hlt
theorem lawName_ok (n : Nat) : okN (cs (lawName n)) := by
  unfold lawName
  split
  · have hlt : n / 3 % 16 < shortS.length := Nat.mod_lt _ (by decide)
    rw [List.getD_eq_getElem?_getD, List.getElem?_eq_getElem hlt]
    exact shortS_ok _ (List.getElem_mem hlt)
  · rw [cs_tx]
    exact ⟨by rw [nameL_len]; omega, by rw [nameL_len]; omega, nameL_mem _ _⟩
theorem cs_app (x y : Str) : cs (x ++ y) = cs x ++ cs y := by
  rw [← tx_cs x, ← tx_cs y, tx_app, cs_tx, cs_tx, cs_tx]
theorem not_ok_mem {l : List Nat} {c : Nat} (h : c ∈ l) (h2 : c ∉ alphaL) : ¬ okN l := fun o => h2 (o.2.2 c h)
end SG
end
noncomputable section
namespace SG
open PySem L2 DS
open Classical in
def gd (p : Prop) (r : R D) : R D := if p then r else .stuck
theorem gd_ok {p : Prop} {r : R D} (h : p) : gd p r = r := if_pos h
theorem gd_in {p : Prop} {r : R D} (h : gd p r ≠ .stuck) : p := by
  unfold gd at h
  by_cases q : p
  · exact q
  · rw [if_neg q] at h; exact absurd rfl h
def Q0 : List D → R D
  | [.str s] => gd (s.length ≤ 100) (.ok (.bl (cd (okN (cs s)))))
  | _ => .stuck
def Q1 : List D → R D
  | [.str s] => gd (okN (cs s)) (.ok (.int (numOf (cs s) : Nat)))
  | _ => .stuck
def Q2 : List D → R D
  | [.str s, .int p] => gd (okN (cs s) ∧ 0 ≤ p ∧ p ≤ 47) (.ok (.int (bitN (numOf (cs s)) p.toNat : Nat)))
  | _ => .stuck
def Q3 : List D → R D
  | [.str s, .str t] => gd (okN (cs s) ∧ okN (cs t)) (.ok (optD (partN (numOf (cs s)) (numOf (cs t)))))
  | _ => .stuck
def Q4 : List D → R D
  | [.scr ns, .int k] => gd (0 ≤ k) (.ok (.int (cellN ns k.toNat)))
  | _ => .stuck
def Q5 : List D → R D
  | [.int n] => gd (0 ≤ n) (.ok (.str (lawName n.toNat)))
  | _ => .stuck
def Q7 : List D → R D
  | [.str s] => gd (okN (cs s)) (.ok (.lst (bitsN (numOf (cs s)))))
  | _ => .stuck
def Phi_law : List D → R D
  | [.scr ns] => gd (ns.length ≤ 63) (.ok (.bl true))
  | _ => .stuck
def M : DS.Sem := ⟨fun i => match i with | 0 => Q0 | 1 => Q1 | 2 => Q2 | 3 => Q3 | 4 => Q4 | 5 => Q5 | 6 => Q1 | 7 => Q7 | _ => Phi_law,
  fun i => match i with | 0 => .int 8 | 1 => .str alpha | _ => .int 48⟩
theorem q0 {s : Str} (h : s.length ≤ 100) : M.Φ 0 [.str s] = .ok (.bl (cd (okN (cs s)))) := gd_ok h
theorem q1 {s : Str} (h : okN (cs s)) : M.Φ 1 [.str s] = .ok (.int (numOf (cs s) : Nat)) := gd_ok h
theorem q2 {s : Str} {p : Nat} (h : okN (cs s)) (hp : p ≤ 47) : M.Φ 2 [.str s, .int p] = .ok (.int (bitN (numOf (cs s)) p : Nat)) := gd_ok ⟨h, by omega, by omega⟩
theorem q3 {s t : Str} (h : okN (cs s)) (h2 : okN (cs t)) : M.Φ 3 [.str s, .str t] = .ok (optD (partN (numOf (cs s)) (numOf (cs t)))) := gd_ok ⟨h, h2⟩
theorem q4 {ns : List Int} {p : Nat} : M.Φ 4 [.scr ns, .int p] = .ok (.int (cellN ns p)) := gd_ok (show (0 : Int) ≤ (p : Nat) by omega)
theorem q5 {p : Nat} : M.Φ 5 [.int p] = .ok (.str (lawName p)) := gd_ok (show (0 : Int) ≤ (p : Nat) by omega)
theorem q6 {s : Str} (h : okN (cs s)) : M.Φ 6 [.str s] = .ok (.int (numOf (cs s) : Nat)) := gd_ok h
theorem q7 {s : Str} (h : okN (cs s)) : M.Φ 7 [.str s] = .ok (.lst (bitsN (numOf (cs s)))) := gd_ok h
theorem mev_is_name : ∀ ds : List D, ds.length = arT 0 → M.Φ 0 ds ≠ .stuck → runB M N_is_name.length b_is_name ds = M.Φ 0 ds := by
  intro ds _
  show Q0 ds ≠ .stuck → _ = Q0 ds
  unfold Q0
  split
  · intro h
    rw [gd_ok (gd_in h)]
    exact ev_is_name rfl rfl (gd_in h)
  · intro h; exact absurd rfl h
theorem mev_number_of : ∀ ds : List D, ds.length = arT 1 → M.Φ 1 ds ≠ .stuck → runB M N_number_of.length b_number_of ds = M.Φ 1 ds := by
  intro ds _
  show Q1 ds ≠ .stuck → _ = Q1 ds
  unfold Q1
  split
  · intro h
    rw [gd_ok (gd_in h)]
    exact ev_number_of rfl rfl (gd_in h)
  · intro h; exact absurd rfl h
theorem mev_bit_at : ∀ ds : List D, ds.length = arT 2 → M.Φ 2 ds ≠ .stuck → runB M N_bit_at.length b_bit_at ds = M.Φ 2 ds := by
  intro ds _
  show Q2 ds ≠ .stuck → _ = Q2 ds
  unfold Q2
  split
  · intro h
    obtain ⟨h1, h2, h3⟩ := gd_in h
    rw [gd_ok (gd_in h)]
    rename_i s p _
    have e : p = ((p.toNat : Nat) : Int) := by omega
    rw [e]
    exact ev_bit_at rfl (by omega) (q1 h1)
  · intro h; exact absurd rfl h
theorem mev_parting : ∀ ds : List D, ds.length = arT 3 → M.Φ 3 ds ≠ .stuck → runB M N_parting.length b_parting ds = M.Φ 3 ds := by
  intro ds _
  show Q3 ds ≠ .stuck → _ = Q3 ds
  unfold Q3
  split
  · intro h
    obtain ⟨h1, h2⟩ := gd_in h
    rw [gd_ok (gd_in h)]
    exact ev_parting rfl (q1 h1) (q1 h2) (numOf_lt h1) (numOf_lt h2)
  · intro h; exact absurd rfl h
theorem mev__law_cell : ∀ ds : List D, ds.length = arT 4 → M.Φ 4 ds ≠ .stuck → runB M N__law_cell.length b__law_cell ds = M.Φ 4 ds := by
  intro ds _
  show Q4 ds ≠ .stuck → _ = Q4 ds
  unfold Q4
  split
  · intro h
    have h1 := gd_in h
    rw [gd_ok (gd_in h)]
    rename_i ns p _
    have e : p = ((p.toNat : Nat) : Int) := by omega
    rw [e]
    exact ev_law_cell
  · intro h; exact absurd rfl h
theorem mev__law_name : ∀ ds : List D, ds.length = arT 5 → M.Φ 5 ds ≠ .stuck → runB M N__law_name.length b__law_name ds = M.Φ 5 ds := by
  intro ds _
  show Q5 ds ≠ .stuck → _ = Q5 ds
  unfold Q5
  split
  · intro h
    have h1 := gd_in h
    rw [gd_ok (gd_in h)]
    rename_i p _
    have e : p = ((p.toNat : Nat) : Int) := by omega
    rw [e]
    exact ev_law_name
  · intro h; exact absurd rfl h
theorem mev__law_number : ∀ ds : List D, ds.length = arT 6 → M.Φ 6 ds ≠ .stuck → runB M N__law_number.length b__law_number ds = M.Φ 6 ds := by
  intro ds _
  show Q1 ds ≠ .stuck → _ = Q1 ds
  unfold Q1
  split
  · intro h
    rw [gd_ok (gd_in h)]
    exact ev_law_number (gd_in h)
  · intro h; exact absurd rfl h
theorem mev__law_bits : ∀ ds : List D, ds.length = arT 7 → M.Φ 7 ds ≠ .stuck → runB M N__law_bits.length b__law_bits ds = M.Φ 7 ds := by
  intro ds _
  show Q7 ds ≠ .stuck → _ = Q7 ds
  unfold Q7
  split
  · intro h
    rw [gd_ok (gd_in h)]
    exact ev_law_bits (q6 (gd_in h))
  · intro h; exact absurd rfl h
end SG
end
noncomputable section
namespace SG
open PySem L2 DS
theorem cmp_ne_opt (o : Option Nat) : cmpB .NotEq (optD o) (optD o) = .ok false := by
  cases o with
  | none => rfl
  | some n => show R.ok (!cd _) = _; rw [cd_pos rfl]; rfl
theorem isNon_opt (o : Option Nat) : isNon (optD o) = o.isNone := by cases o <;> rfl
theorem bits_at {n k : Nat} (h : k < 48) : atI (bitsN n) (k : Int) = some (.int (bitN n k : Nat)) := by
  refine atI_nat ?_
  rw [bitsN, List.getElem?_map, List.getElem?_range h]
  rfl
theorem inner {s : Str} (hs : okN (cs s)) {a b c d e f g h i j k : Sl} : ∃ x, loopS (bindT (.one 7)) (evB M b_law_L1) (rangeD 0 48) [a, b, c, d, .fro (.str s), e, .fro (.lst (bitsN (numOf (cs s)))), f, g, h, i, j] = .nx [a, b, c, d, .fro (.str s), e, .fro (.lst (bitsN (numOf (cs s)))), x, g, h, i, j] := by
  obtain ⟨ρ', q, x, rfl⟩ := loop_range (bd := bindT (.one 7)) (body := evB M b_law_L1) (fun _ ρ => ∃ x, ρ = [a, b, c, d, .fro (.str s), e, .fro (.lst (bitsN (numOf (cs s)))), x, g, h, i, j]) (lo := 0) (n := 48) (ρ := [a, b, c, d, .fro (.str s), e, .fro (.lst (bitsN (numOf (cs s)))), f, g, h, i, j]) ⟨f, rfl⟩ (by
    rintro i ρ hi ⟨x, rfl⟩
    refine ⟨_, rfl, _, .inl ?_, .fro (.int i), rfl⟩
    rw [b_law_L1]
    have e2 := q2 (p := i) hs (by omega)
    simp [e2, bits_at hi])
  exact ⟨x, q⟩
theorem outer {A B : Str} (hA : okN (cs A)) (hB : okN (cs B)) {a b x4 x5 x6 x7 g h i j : Sl} : ∃ y4 y5 y6 y7, loopS (bindT (.one 4)) (evB M b_law_L2) [.str A, .str B] [a, b, .fro (.str A), .fro (.str B), x4, x5, x6, x7, g, h, i, j] = .nx [a, b, .fro (.str A), .fro (.str B), y4, y5, y6, y7, g, h, i, j] := by
  obtain ⟨ρ', q, y4, y5, y6, y7, rfl⟩ := loop_ix (bd := bindT (.one 4)) (body := evB M b_law_L2) (fun _ ρ => ∃ x4 x5 x6 x7, ρ = [a, b, .fro (.str A), .fro (.str B), x4, x5, x6, x7, g, h, i, j]) [.str A, .str B] 0 [a, b, .fro (.str A), .fro (.str B), x4, x5, x6, x7, g, h, i, j] ⟨_, _, _, _, rfl⟩ (by
    rintro k d ρ hk ⟨x4, x5, x6, x7, rfl⟩
    have hd : d ∈ [D.str A, D.str B] := List.mem_of_getElem? hk
    obtain ⟨s, rfl, hs⟩ : ∃ s, d = .str s ∧ okN (cs s) := by
      rcases List.mem_cons.mp hd with h | h
      · exact ⟨A, h, hA⟩
      · exact ⟨B, List.mem_singleton.mp h, hB⟩
    refine ⟨_, rfl, ?_⟩
    have hl : s.length ≤ 100 := by rw [length_cs]; have := hs.2.1; omega
    obtain ⟨x, hx⟩ := inner hs (a := a) (b := b) (c := .fro (.str A)) (d := .fro (.str B)) (e := .fro (.int (numOf (cs s) : Nat))) (f := x7) (g := g) (h := h) (i := i) (j := j) (k := a)
    refine ⟨_, .inl ?_, .fro (.str s), .fro (.int (numOf (cs s) : Nat)), .fro (.lst (bitsN (numOf (cs s)))), x, rfl⟩
    rw [b_law_L2]
    simp [bindT, q0 hl, q1 hs, q6 hs, q7 hs, hs, rng1_lit, hx])
  exact ⟨y4, y5, y6, y7, q⟩
theorem due {A B : Str} (hA : okN (cs A)) (hB : okN (cs B)) {a b x4 x5 x6 x7 h i j : Sl} : ∃ y7, loopS (bindT (.one 7)) (evB M b_law_L3) (rangeD 0 48) [a, b, .fro (.str A), .fro (.str B), x4, x5, x6, x7, .fro .non, h, i, j] = .nx [a, b, .fro (.str A), .fro (.str B), x4, x5, x6, y7, .fro (optD (partN (numOf (cs A)) (numOf (cs B)))), h, i, j] := by
  obtain ⟨ρ', q, x, rfl⟩ := loop_range (bd := bindT (.one 7)) (body := evB M b_law_L3) (fun k ρ => ∃ x, ρ = [a, b, .fro (.str A), .fro (.str B), x4, x5, x6, x, .fro (optD (dueN (numOf (cs A)) (numOf (cs B)) k)), h, i, j]) (lo := 0) (n := 48) (ρ := [a, b, .fro (.str A), .fro (.str B), x4, x5, x6, x7, .fro .non, h, i, j]) ⟨x7, rfl⟩ (by
    rintro k ρ hk ⟨x, rfl⟩
    refine ⟨_, rfl, _, .inl ?_, .fro (.int k), rfl⟩
    rw [b_law_L3]
    cases q : dueN (numOf (cs A)) (numOf (cs B)) k with
    | some p => simp [dueN, q, cmp_is_non, isNon_opt]
    | none =>
      by_cases e : bitN (numOf (cs A)) k = bitN (numOf (cs B)) k
      · simp [dueN, q, cmp_is_non, isNon_opt, q7 hA, q7 hB, bits_at hk, e]
      · have hz : cd (((bitN (numOf (cs A)) k : Nat) : Int) = (bitN (numOf (cs B)) k : Nat)) = false := cd_neg (by omega)
        have hn : DS.isNon D.non = true := rfl
        simp [dueN, q, cmp_is_non, q7 hA, q7 hB, bits_at hk, e, optD, hz, hn])
  exact ⟨x, by rw [q, dueN_part (numOf_lt hA) (numOf_lt hB)]⟩
theorem cs_cut (s : Str) (a b : Option Int) : cs (cutS s a b) = ((cs s).drop (HT.sIx s.length 0 a)).take (HT.sIx s.length s.length b - HT.sIx s.length 0 a) := by simp [cutS, cs]
theorem cs_cut_mem {s : Str} {a b : Option Int} : ∀ c ∈ cs (cutS s a b), c ∈ cs s := by
  intro c h
  rw [cs_cut] at h
  exact List.mem_of_mem_drop (List.mem_of_mem_take h)
theorem cut_len {s : Str} {a b : Option Int} : (cutS s a b).length ≤ s.length := by
  rw [length_cs, length_cs, cs_cut, List.length_take, List.length_drop]
  omega
theorem app_len (x y : Str) : (x ++ y).length = x.length + y.length := by
  rw [length_cs, length_cs, length_cs, cs_app, List.length_append]
/-- the law's five wrong names -/
theorem wrongs {A : Str} (hA : okN (cs A)) {p q : Int} : ∀ s ∈ [cutS A none (some p) ++ "A" ++ cutS A (some q) none, cutS A none (some p) ++ " " ++ cutS A (some p) none, "", A ++ "abcdefgh", cutS A none (some p) ++ "-" ++ cutS A (some q) none], s.length ≤ 100 ∧ ¬ okN (cs s) := by
  have hl : A.length ≤ 8 := by rw [length_cs]; exact hA.2.1
  have hl1 : 1 ≤ A.length := by rw [length_cs]; exact hA.1
  have c1 := cut_len (s := A) (a := none) (b := some p)
  have c2 := cut_len (s := A) (a := some q) (b := none)
  have c3 := cut_len (s := A) (a := some p) (b := none)
  intro s h
  rcases List.mem_cons.mp h with rfl | h
  · refine ⟨by rw [app_len, app_len, show ("A" : Str).length = 1 from rfl]; omega, not_ok_mem (c := 65) ?_ (by decide +kernel)⟩
    rw [cs_app, cs_app]
    exact List.mem_append_left _ (List.mem_append_right _ (by decide +kernel))
  rcases List.mem_cons.mp h with rfl | h
  · refine ⟨by rw [app_len, app_len, show (" " : Str).length = 1 from rfl]; omega, not_ok_mem (c := 32) ?_ (by decide +kernel)⟩
    rw [cs_app, cs_app]
    exact List.mem_append_left _ (List.mem_append_right _ (by decide +kernel))
  rcases List.mem_cons.mp h with rfl | h
  · exact ⟨by decide +kernel, by decide +kernel⟩
  rcases List.mem_cons.mp h with rfl | h
  · refine ⟨by rw [app_len, show ("abcdefgh" : Str).length = 8 from rfl]; omega, fun o => ?_⟩
    have := o.2.1
    rw [← length_cs, app_len, show ("abcdefgh" : Str).length = 8 from rfl] at this
    omega
  rcases List.mem_cons.mp h with rfl | h
  · refine ⟨by rw [app_len, app_len, show ("-" : Str).length = 1 from rfl]; omega, not_ok_mem (c := 45) ?_ (by decide +kernel)⟩
    rw [cs_app, cs_app]
    exact List.mem_append_left _ (List.mem_append_right _ (by decide +kernel))
  · cases h
end SG
end
noncomputable section
namespace SG
open PySem L2 DS
def b_law_T : List S := b_law.drop 5
theorem cut_ok {A : Str} (hA : okN (cs A)) (r : Nat) (hr : r < 8) : okN (cs (cutS (A ++ "x0_a") none (some ((1 + r : Nat) : Int)))) := by
  have hl1 := hA.1
  have e : cs ("x0_a" : Str) = [120, 48, 95, 97] := by decide +kernel
  refine ⟨?_, ?_, ?_⟩
  · rw [cs_cut, HT.sIx_nat, HT.sIx_none, List.length_take, List.length_drop, length_cs, cs_app, e, List.length_append]
    simp only [List.length_cons, List.length_nil]
    omega
  · rw [cs_cut, HT.sIx_nat, HT.sIx_none, List.length_take]
    omega
  · intro c h
    have h := cs_cut_mem c h
    rw [cs_app, e] at h
    rcases List.mem_append.mp h with h | h
    · exact hA.2.2 c h
    · exact (show ∀ c ∈ [120, 48, 95, 97], c ∈ alphaL by decide +kernel) c h
theorem q0f {s : Str} (h : s.length ≤ 100 ∧ ¬ okN (cs s)) : M.Φ 0 [.str s] = .ok (.bl false) := by rw [q0 h.1, cd_neg h.2]
theorem ev_tail {A B : Str} (hA : okN (cs A)) (hB : okN (cs B)) {f : Nat} {a : Sl} : evB M b_law_T [a, .fro (.int f), .fro (.str A), .fro (.str B), .no, .no, .no, .no, .no, .no, .no, .no] = .rt (.bl true) := by
  obtain ⟨y4, y5, y6, y7, h1⟩ := outer hA hB (a := a) (b := .fro (.int f)) (x4 := .no) (x5 := .no) (x6 := .no) (x7 := .no) (g := .no) (h := .no) (i := .no) (j := .no)
  obtain ⟨z7, h2⟩ := due hA hB (a := a) (b := .fro (.int f)) (x4 := y4) (x5 := y5) (x6 := y6) (x7 := y7) (h := .no) (i := .no) (j := .no)
  have hlA : A.length ≤ 8 := by rw [length_cs]; exact hA.2.1
  have hlA1 : 1 ≤ A.length := by rw [length_cs]; exact hA.1
  have hM2 := mkLst_ok [.str A, .str B] (sz (by simp))
  have hM5 := fun s1 s2 s3 s4 s5 => mkLst_ok [.str s1, .str s2, .str s3, .str s4, .str s5] (sz (by simp))
  have hlt : cd (A.cps.toList < B.cps.toList) = cd (numOf (cs A) < numOf (cs B)) := congrArg cd (propext (lt_numOf hA hB))
  have hlt2 : cd (A.cps < B.cps) = cd (numOf (cs A) < numOf (cs B)) := hlt
  have hq3 : M.Φ 3 [.str B, .str A] = .ok (optD (partN (numOf (cs A)) (numOf (cs B)))) := by rw [q3 hB hA, partN_comm]
  have hnn : (partN (numOf (cs A)) (numOf (cs B))).isNone = cd (A = B) := by
    unfold partN
    by_cases e : A = B
    · subst e; rw [cd_pos rfl, if_pos rfl]; rfl
    · rw [cd_neg e, if_neg]
      · rfl
      · intro q
        have q2 := inj_numOf hA hB q
        exact e (by rw [← tx_cs A, ← tx_cs B, q2])
  have hlim : ∀ r, lim A.length r = r := fun r => lim_ok (sz (by omega))
  have c1 := fun p => cut_len (s := A) (a := none) (b := p)
  have c2 := fun p => cut_len (s := A) (a := p) (b := none)
  have hl1 : ∀ p (z : Str) r, z.length ≤ 1 → lim ((cutS A none p).length + z.length) r = r := fun p z r hz => lim_ok (sz (by have := c1 p; omega))
  have hl2 : ∀ p q (z : Str) r, z.length ≤ 1 → lim ((cutS A none p ++ z).length + (cutS A q none).length) r = r := fun p q z r hz => lim_ok (sz (by rw [app_len]; have := c1 p; have := c2 q; omega))
  have z1 : (Str.ofString "A").length ≤ 1 := by decide +kernel
  have z2 : (Str.ofString " ").length ≤ 1 := by decide +kernel
  have z3 : (Str.ofString "-").length ≤ 1 := by decide +kernel
  have hl3 : ∀ r, lim (A.length + (Str.ofString "abcdefgh").length) r = r := fun r => lim_ok (sz (by rw [show (Str.ofString "abcdefgh").length = 8 from rfl]; omega))
  have w1 := fun p q => q0f (wrongs hA (p := p) (q := q) _ (.head _))
  have w2 := fun p q => q0f (wrongs hA (p := p) (q := q) _ (.tail _ (.head _)))
  have w3 := q0f (wrongs hA (p := 0) (q := 0) _ (.tail _ (.tail _ (.head _))))
  have w4 := q0f (wrongs hA (p := 0) (q := 0) _ (.tail _ (.tail _ (.tail _ (.head _)))))
  have w5 := fun p q => q0f (wrongs hA (p := p) (q := q) _ (.tail _ (.tail _ (.tail _ (.tail _ (.head _))))))
  have w2' := fun p => w2 p 0
  have hpos : (0 : Int) < (A.length : Nat) := by omega
  have bm : ∀ x : Int, binD .Mod (.int x) (.int (A.length : Nat)) = .ok (.int (x % (A.length : Nat))) := fun x => bin_mod x _ hpos
  have e300 : f / 300 % 5 = 0 ∨ f / 300 % 5 = 1 ∨ f / 300 % 5 = 2 ∨ f / 300 % 5 = 3 ∨ f / 300 % 5 = 4 := by omega
  rw [show b_law_T = b_law.drop 5 from rfl, b_law]
  rcases e300 with h | h | h | h | h
  · have hi : (f : Int) / 300 % 5 = 0 := by omega
    have t : ∀ a b c d e : D, atI [a, b, c, d, e] 0 = some a := fun a b c d e => rfl
    simp [hM2, h1, h2, q1 hA, q1 hB, hlt, hlt2, bm, rng1_lit, q3 hA hB, hq3, cmp_ne_opt, cmp_is_non, isNon_opt, hnn, hlim, bin_div, bin_mod, hlA1, hpos, hl1, hl2, hl3, z1, z2, z3, hM5, hi, t, w1, w2', w3, w4, w5]
  · have hi : (f : Int) / 300 % 5 = 1 := by omega
    have t : ∀ a b c d e : D, atI [a, b, c, d, e] 1 = some b := fun a b c d e => rfl
    simp [hM2, h1, h2, q1 hA, q1 hB, hlt, hlt2, bm, rng1_lit, q3 hA hB, hq3, cmp_ne_opt, cmp_is_non, isNon_opt, hnn, hlim, bin_div, bin_mod, hlA1, hpos, hl1, hl2, hl3, z1, z2, z3, hM5, hi, t, w1, w2', w3, w4, w5]
  · have hi : (f : Int) / 300 % 5 = 2 := by omega
    have t : ∀ a b c d e : D, atI [a, b, c, d, e] 2 = some c := fun a b c d e => rfl
    simp [hM2, h1, h2, q1 hA, q1 hB, hlt, hlt2, bm, rng1_lit, q3 hA hB, hq3, cmp_ne_opt, cmp_is_non, isNon_opt, hnn, hlim, bin_div, bin_mod, hlA1, hpos, hl1, hl2, hl3, z1, z2, z3, hM5, hi, t, w1, w2', w3, w4, w5]
  · have hi : (f : Int) / 300 % 5 = 3 := by omega
    have t : ∀ a b c d e : D, atI [a, b, c, d, e] 3 = some d := fun a b c d e => rfl
    simp [hM2, h1, h2, q1 hA, q1 hB, hlt, hlt2, bm, rng1_lit, q3 hA hB, hq3, cmp_ne_opt, cmp_is_non, isNon_opt, hnn, hlim, bin_div, bin_mod, hlA1, hpos, hl1, hl2, hl3, z1, z2, z3, hM5, hi, t, w1, w2', w3, w4, w5]
  · have hi : (f : Int) / 300 % 5 = 4 := by omega
    have t : ∀ a b c d e : D, atI [a, b, c, d, e] 4 = some e := fun a b c d e => rfl
    simp [hM2, h1, h2, q1 hA, q1 hB, hlt, hlt2, bm, rng1_lit, q3 hA hB, hq3, cmp_ne_opt, cmp_is_non, isNon_opt, hnn, hlim, bin_div, bin_mod, hlA1, hpos, hl1, hl2, hl3, z1, z2, z3, hM5, hi, t, w1, w2', w3, w4, w5]
theorem b_law_cut : b_law = [
    .asg 1 false (.fn "abs" [.call 4 [.var 0, .int 0]]),
    .asg 2 false (.call 5 [.bin .Mod (.fn "abs" [.call 4 [.var 0, .int 1]]) (.int 100000)]),
    .asg 3 false (.call 5 [.bin .Mod (.fn "abs" [.call 4 [.var 0, .int 2]]) (.int 100000)]),
    .ite (.cmp .Eq (.bin .Mod (.var 1) (.int 4)) (.int 1))
    [.asg 3 false (.var 2)]
    [],
    .ite (.cmp .Eq (.bin .Mod (.var 1) (.int 4)) (.int 2))
    [.asg 3 false (.slc (.bin .Add (.var 2) (.str (PySem.Str.ofString "x0_a"))) none (some (.bin .Add (.int 1) (.bin .Mod (.bin .FloorDiv (.var 1) (.int 4)) (.int 8)))))]
    []] ++ b_law_T := rfl
theorem ev_law {ns : List Int} : runB M N_law.length b_law [.scr ns] = .ok (.bl true) := by
  have c0 : M.Φ 4 [.scr ns, .int 0] = .ok (.int (cellN ns 0)) := q4 (p := 0)
  have c1 : M.Φ 4 [.scr ns, .int 1] = .ok (.int (cellN ns 1)) := q4 (p := 1)
  have c2 : M.Φ 4 [.scr ns, .int 2] = .ok (.int (cellN ns 2)) := q4 (p := 2)
  generalize cellN ns 0 = i0 at c0
  generalize cellN ns 1 = i1 at c1
  generalize cellN ns 2 = i2 at c2
  have ab : ∀ i : Int, fnD "abs" [.int i] = .ok (.int (i.natAbs : Nat)) := fun i => by
    rw [abs_int]
    congr 2
    split <;> omega
  generalize hf : i0.natAbs = f
  have ab0 : fnD "abs" [.int i0] = .ok (.int f) := by rw [ab, hf]
  have ab1 := ab i1
  have ab2 := ab i2
  generalize i1.natAbs = n1 at ab1
  generalize i2.natAbs = n2 at ab2
  have m1 : M.Φ 5 [.int ((n1 : Int) % 100000)] = .ok (.str (lawName (n1 % 100000))) := by
    rw [show ((n1 : Int) % 100000) = ((n1 % 100000 : Nat) : Int) by omega]; exact q5
  have m2 : M.Φ 5 [.int ((n2 : Int) % 100000)] = .ok (.str (lawName (n2 % 100000))) := by
    rw [show ((n2 : Int) % 100000) = ((n2 % 100000 : Nat) : Int) by omega]; exact q5
  have hA := lawName_ok (n1 % 100000)
  have hB := lawName_ok (n2 % 100000)
  generalize lawName (n1 % 100000) = A at m1 hA
  generalize lawName (n2 % 100000) = B at m2 hB
  have hlA : A.length ≤ 8 := by rw [length_cs]; exact hA.2.1
  have z1 : (Str.ofString "x0_a").length = 4 := rfl
  have hl1 : ∀ r, lim (A.length + (Str.ofString "x0_a").length) r = r := fun r => lim_ok (sz (by omega))
  have hl2 : ∀ r, lim (A ++ Str.ofString "x0_a").length r = r := fun r => lim_ok (sz (by rw [app_len]; omega))
  have hm : (1 : Int) + (f : Int) / 4 % 8 = ((1 + f / 4 % 8 : Nat) : Int) := by omega
  rw [b_law_cut, runB_eq]
  by_cases h1 : f % 4 = 1
  · have e1 : (f : Int) % 4 = 1 := by omega
    simp [startR, N_law, c0, c1, c2, ab0, ab1, ab2, bin_mod, bin_div, m1, m2, e1, ev_tail hA hA, -abs_int]
  · have e1 : ¬ (f : Int) % 4 = 1 := by omega
    by_cases h2 : f % 4 = 2
    · have e2 : (f : Int) % 4 = 2 := by omega
      have hC := cut_ok hA (f / 4 % 8) (by omega)
      rw [← hm] at hC
      have hT := fun a => ev_tail hA hC (f := f) (a := a)
      simp [startR, N_law, c0, c1, c2, ab0, ab1, ab2, bin_mod, bin_div, m1, m2, e2, hl1, hl2, hT, -abs_int]
    · have e2 : ¬ (f : Int) % 4 = 2 := by omega
      simp [startR, N_law, c0, c1, c2, ab0, ab1, ab2, bin_mod, bin_div, m1, m2, e1, e2, ev_tail hA hB, -abs_int]
theorem mev_law : ∀ ds : List D, ds.length = arT 8 → M.Φ 8 ds ≠ .stuck → runB M N_law.length b_law ds = M.Φ 8 ds := by
  intro ds _
  show Phi_law ds ≠ .stuck → _ = Phi_law ds
  unfold Phi_law
  split
  · intro h
    rw [gd_ok (gd_in h)]
    exact ev_law
  · intro h; exact absurd rfl h
end SG
end
noncomputable section
namespace SG
open PySem L2 DS
def CC : Nat → Addr := fun _ => default
def glsAll : List Nat := [0, 1, 2]
def top (i : Nat) : Stmt := PySem.Challenge.pw_sumgrove_k01_names_and_bits.main.body.getD i (.Pass ⟨0, 0, 0, 0⟩)
abbrev st_is_name : Stmt := top 5
theorem sc_is_name : scopeB N_is_name P_is_name (defScope st_is_name) = true := by decide +kernel
theorem ck_is_name : chkB T_is_name N_is_name b_is_name (defScope st_is_name) (defBody st_is_name) = true := by decide +kernel
abbrev st_number_of : Stmt := top 6
theorem sc_number_of : scopeB N_number_of P_number_of (defScope st_number_of) = true := by decide +kernel
theorem ck_number_of : chkB T_number_of N_number_of b_number_of (defScope st_number_of) (defBody st_number_of) = true := by decide +kernel
abbrev st_bit_at : Stmt := top 7
theorem sc_bit_at : scopeB N_bit_at P_bit_at (defScope st_bit_at) = true := by decide +kernel
theorem ck_bit_at : chkB T_bit_at N_bit_at b_bit_at (defScope st_bit_at) (defBody st_bit_at) = true := by decide +kernel
abbrev st_parting : Stmt := top 8
theorem sc_parting : scopeB N_parting P_parting (defScope st_parting) = true := by decide +kernel
theorem ck_parting : chkB T_parting N_parting b_parting (defScope st_parting) (defBody st_parting) = true := by decide +kernel
abbrev st__law_cell : Stmt := top 10
theorem sc__law_cell : scopeB N__law_cell P__law_cell (defScope st__law_cell) = true := by decide +kernel
theorem ck__law_cell : chkB T__law_cell N__law_cell b__law_cell (defScope st__law_cell) (defBody st__law_cell) = true := by decide +kernel
abbrev st__law_name : Stmt := top 11
theorem sc__law_name : scopeB N__law_name P__law_name (defScope st__law_name) = true := by decide +kernel
theorem ck__law_name : chkB T__law_name N__law_name b__law_name (defScope st__law_name) (defBody st__law_name) = true := by decide +kernel
abbrev st__law_number : Stmt := top 12
theorem sc__law_number : scopeB N__law_number P__law_number (defScope st__law_number) = true := by decide +kernel
theorem ck__law_number : chkB T__law_number N__law_number b__law_number (defScope st__law_number) (defBody st__law_number) = true := by decide +kernel
abbrev st__law_bits : Stmt := top 13
theorem sc__law_bits : scopeB N__law_bits P__law_bits (defScope st__law_bits) = true := by decide +kernel
theorem ck__law_bits : chkB T__law_bits N__law_bits b__law_bits (defScope st__law_bits) (defBody st__law_bits) = true := by decide +kernel
abbrev st_law : Stmt := top 14
theorem sc_law : scopeB N_law P_law (defScope st_law) = true := by decide +kernel
theorem ck_law : chkB T_law N_law b_law (defScope st_law) (defBody st_law) = true := by decide +kernel
section
variable {P : Program} {w : World} {K : PySem.W.Frag} {mg : Str → Option Value} {h : Heap}
theorem all_mk {fa : Addr} (GL : ∀ n, glsAll.contains n = true → ∃ v u, mg (glT n) = some u ∧ RelV v u ∧ ∀ Hf, Rep K CC Hf (M.Γ n) v) (X : K.In h) (G : h.Ns mainGlobals mg) (hfa : mg (PySem.Str.ofString "law") = some (.ref fa))
    {od0 an0 : Option Addr} {sl0 : Array (Option Value)} {oc0 kV0 dc0 pm0 cd0 ct0 : Value} {f0 : Addr}
    (a0 : PySem.W.nsIn K mainGlobals (PySem.Str.ofString "is_name") = some (some (.ref f0))) (l0 : K.lookup f0 = some ⟨oc0, od0, .func (PySem.W.fnOf (PySem.Str.ofString "is_name") (PySem.Str.ofString "is_name") (defArgs st_is_name) (defBody st_is_name) (defScope st_is_name) .none kV0 dc0 pm0 an0 cd0 ct0), sl0⟩) (c0 : PySem.W.codeIn K cd0 (PySem.Str.ofString "is_name") = true) (k0 : PySem.W.keepIn K (.ref f0) = true)
    {od1 an1 : Option Addr} {sl1 : Array (Option Value)} {oc1 kV1 dc1 pm1 cd1 ct1 : Value} {f1 : Addr}
    (a1 : PySem.W.nsIn K mainGlobals (PySem.Str.ofString "number_of") = some (some (.ref f1))) (l1 : K.lookup f1 = some ⟨oc1, od1, .func (PySem.W.fnOf (PySem.Str.ofString "number_of") (PySem.Str.ofString "number_of") (defArgs st_number_of) (defBody st_number_of) (defScope st_number_of) .none kV1 dc1 pm1 an1 cd1 ct1), sl1⟩) (c1 : PySem.W.codeIn K cd1 (PySem.Str.ofString "number_of") = true) (k1 : PySem.W.keepIn K (.ref f1) = true)
    {od2 an2 : Option Addr} {sl2 : Array (Option Value)} {oc2 kV2 dc2 pm2 cd2 ct2 : Value} {f2 : Addr}
    (a2 : PySem.W.nsIn K mainGlobals (PySem.Str.ofString "bit_at") = some (some (.ref f2))) (l2 : K.lookup f2 = some ⟨oc2, od2, .func (PySem.W.fnOf (PySem.Str.ofString "bit_at") (PySem.Str.ofString "bit_at") (defArgs st_bit_at) (defBody st_bit_at) (defScope st_bit_at) .none kV2 dc2 pm2 an2 cd2 ct2), sl2⟩) (c2 : PySem.W.codeIn K cd2 (PySem.Str.ofString "bit_at") = true) (k2 : PySem.W.keepIn K (.ref f2) = true)
    {od3 an3 : Option Addr} {sl3 : Array (Option Value)} {oc3 kV3 dc3 pm3 cd3 ct3 : Value} {f3 : Addr}
    (a3 : PySem.W.nsIn K mainGlobals (PySem.Str.ofString "parting") = some (some (.ref f3))) (l3 : K.lookup f3 = some ⟨oc3, od3, .func (PySem.W.fnOf (PySem.Str.ofString "parting") (PySem.Str.ofString "parting") (defArgs st_parting) (defBody st_parting) (defScope st_parting) .none kV3 dc3 pm3 an3 cd3 ct3), sl3⟩) (c3 : PySem.W.codeIn K cd3 (PySem.Str.ofString "parting") = true) (k3 : PySem.W.keepIn K (.ref f3) = true)
    {od4 an4 : Option Addr} {sl4 : Array (Option Value)} {oc4 kV4 dc4 pm4 cd4 ct4 : Value} {f4 : Addr}
    (a4 : PySem.W.nsIn K mainGlobals (PySem.Str.ofString "_law_cell") = some (some (.ref f4))) (l4 : K.lookup f4 = some ⟨oc4, od4, .func (PySem.W.fnOf (PySem.Str.ofString "_law_cell") (PySem.Str.ofString "_law_cell") (defArgs st__law_cell) (defBody st__law_cell) (defScope st__law_cell) .none kV4 dc4 pm4 an4 cd4 ct4), sl4⟩) (c4 : PySem.W.codeIn K cd4 (PySem.Str.ofString "_law_cell") = true) (k4 : PySem.W.keepIn K (.ref f4) = true)
    {od5 an5 : Option Addr} {sl5 : Array (Option Value)} {oc5 kV5 dc5 pm5 cd5 ct5 : Value} {f5 : Addr}
    (a5 : PySem.W.nsIn K mainGlobals (PySem.Str.ofString "_law_name") = some (some (.ref f5))) (l5 : K.lookup f5 = some ⟨oc5, od5, .func (PySem.W.fnOf (PySem.Str.ofString "_law_name") (PySem.Str.ofString "_law_name") (defArgs st__law_name) (defBody st__law_name) (defScope st__law_name) .none kV5 dc5 pm5 an5 cd5 ct5), sl5⟩) (c5 : PySem.W.codeIn K cd5 (PySem.Str.ofString "_law_name") = true) (k5 : PySem.W.keepIn K (.ref f5) = true)
    {od6 an6 : Option Addr} {sl6 : Array (Option Value)} {oc6 kV6 dc6 pm6 cd6 ct6 : Value} {f6 : Addr}
    (a6 : PySem.W.nsIn K mainGlobals (PySem.Str.ofString "_law_number") = some (some (.ref f6))) (l6 : K.lookup f6 = some ⟨oc6, od6, .func (PySem.W.fnOf (PySem.Str.ofString "_law_number") (PySem.Str.ofString "_law_number") (defArgs st__law_number) (defBody st__law_number) (defScope st__law_number) .none kV6 dc6 pm6 an6 cd6 ct6), sl6⟩) (c6 : PySem.W.codeIn K cd6 (PySem.Str.ofString "_law_number") = true) (k6 : PySem.W.keepIn K (.ref f6) = true)
    {od7 an7 : Option Addr} {sl7 : Array (Option Value)} {oc7 kV7 dc7 pm7 cd7 ct7 : Value} {f7 : Addr}
    (a7 : PySem.W.nsIn K mainGlobals (PySem.Str.ofString "_law_bits") = some (some (.ref f7))) (l7 : K.lookup f7 = some ⟨oc7, od7, .func (PySem.W.fnOf (PySem.Str.ofString "_law_bits") (PySem.Str.ofString "_law_bits") (defArgs st__law_bits) (defBody st__law_bits) (defScope st__law_bits) .none kV7 dc7 pm7 an7 cd7 ct7), sl7⟩) (c7 : PySem.W.codeIn K cd7 (PySem.Str.ofString "_law_bits") = true) (k7 : PySem.W.keepIn K (.ref f7) = true)
    {od8 an8 : Option Addr} {sl8 : Array (Option Value)} {oc8 kV8 dc8 pm8 cd8 ct8 : Value} {f8 : Addr}
    (a8 : PySem.W.nsIn K mainGlobals (PySem.Str.ofString "law") = some (some (.ref f8))) (l8 : K.lookup f8 = some ⟨oc8, od8, .func (PySem.W.fnOf (PySem.Str.ofString "law") (PySem.Str.ofString "law") (defArgs st_law) (defBody st_law) (defScope st_law) .none kV8 dc8 pm8 an8 cd8 ct8), sl8⟩) (c8 : PySem.W.codeIn K cd8 (PySem.Str.ofString "law") = true) (k8 : PySem.W.keepIn K (.ref f8) = true)
    (z0 : PySem.W.nsIn K mainGlobals (PySem.Str.ofString "abs") = some none)
    (z1 : PySem.W.nsIn K mainGlobals (PySem.Str.ofString "all") = some none)
    (z2 : PySem.W.nsIn K mainGlobals (PySem.Str.ofString "bool") = some none)
    (z3 : PySem.W.nsIn K mainGlobals (PySem.Str.ofString "int") = some none)
    (z4 : PySem.W.nsIn K mainGlobals (PySem.Str.ofString "isinstance") = some none)
    (z5 : PySem.W.nsIn K mainGlobals (PySem.Str.ofString "len") = some none)
    (z6 : PySem.W.nsIn K mainGlobals (PySem.Str.ofString "range") = some none)
    : ∃ fd : FuncData, (∀ (s : Shared) (v : Value), BindsTo s fd ⟨[v], []⟩ [("_law_script", v)]) ∧ ∀ base : Heap, K.In base → base.Ns mainGlobals mg → FnOk P w K mg base (L2.CX P w) 3 fa fd ["_law_script"] (spD K CC 1 Phi_law) := by
  have e := hfa.symm.trans (PySem.W.mg_of X G a8)
  cases e
  have F0 := fun_mk (st := st_is_name) l0 c0 k0
  have b0 := F0.binds (ps := P_is_name) fun _ _ _ _ _ _ us hl => match us, hl with | [_], _ => rfl
  have C0 : ∀ base : Heap, Callee P w K CC mg base 1 (fnT 0) (arT 0) (M.Φ 0) := fun base => callee_of (T := T_is_name) (M := M) (k := 0) F0 (PySem.W.mg_of X G a0) b0 rfl sc_is_name ck_is_name ⟨any_nil, (fun n hn => GL n (gls_sub (l := [0, 1]) (by decide) hn)), (any_cons (PySem.W.mg_none_of X G z5) (any_cons (PySem.W.mg_none_of X G z1) any_nil))⟩ (mev_is_name)
  have F1 := fun_mk (st := st_number_of) l1 c1 k1
  have b1 := F1.binds (ps := P_number_of) fun _ _ _ _ _ _ us hl => match us, hl with | [_], _ => rfl
  have C1 : ∀ base : Heap, Callee P w K CC mg base 1 (fnT 1) (arT 1) (M.Φ 1) := fun base => callee_of (T := T_number_of) (M := M) (k := 0) F1 (PySem.W.mg_of X G a1) b1 rfl sc_number_of ck_number_of ⟨any_nil, (fun n hn => GL n (gls_sub (l := [1, 0]) (by decide) hn)), (any_cons (PySem.W.mg_none_of X G z5) (any_cons (PySem.W.mg_none_of X G z6) any_nil))⟩ (mev_number_of)
  have F4 := fun_mk (st := st__law_cell) l4 c4 k4
  have b4 := F4.binds (ps := P__law_cell) fun _ _ _ _ _ _ us hl => match us, hl with | [_, _], _ => rfl
  have C4 : ∀ base : Heap, Callee P w K CC mg base 1 (fnT 4) (arT 4) (M.Φ 4) := fun base => callee_of (T := T__law_cell) (M := M) (k := 0) F4 (PySem.W.mg_of X G a4) b4 rfl sc__law_cell ck__law_cell ⟨any_nil, any_nil, (any_cons (PySem.W.mg_none_of X G z5) (any_cons (PySem.W.mg_none_of X G z3) any_nil))⟩ (mev__law_cell)
  have F5 := fun_mk (st := st__law_name) l5 c5 k5
  have b5 := F5.binds (ps := P__law_name) fun _ _ _ _ _ _ us hl => match us, hl with | [_], _ => rfl
  have C5 : ∀ base : Heap, Callee P w K CC mg base 1 (fnT 5) (arT 5) (M.Φ 5) := fun base => callee_of (T := T__law_name) (M := M) (k := 0) F5 (PySem.W.mg_of X G a5) b5 rfl sc__law_name ck__law_name ⟨any_nil, any_nil, (any_cons (PySem.W.mg_none_of X G z3) (any_cons (PySem.W.mg_none_of X G z6) any_nil))⟩ (mev__law_name)
  have F6 := fun_mk (st := st__law_number) l6 c6 k6
  have b6 := F6.binds (ps := P__law_number) fun _ _ _ _ _ _ us hl => match us, hl with | [_], _ => rfl
  have C6 : ∀ base : Heap, Callee P w K CC mg base 1 (fnT 6) (arT 6) (M.Φ 6) := fun base => callee_of (T := T__law_number) (M := M) (k := 0) F6 (PySem.W.mg_of X G a6) b6 rfl sc__law_number ck__law_number ⟨any_nil, any_nil, (any_cons (PySem.W.mg_none_of X G z5) (any_cons (PySem.W.mg_none_of X G z6) any_nil))⟩ (mev__law_number)
  have F2 := fun_mk (st := st_bit_at) l2 c2 k2
  have b2 := F2.binds (ps := P_bit_at) fun _ _ _ _ _ _ us hl => match us, hl with | [_, _], _ => rfl
  have C2 : ∀ base : Heap, Callee P w K CC mg base 2 (fnT 2) (arT 2) (M.Φ 2) := fun base => callee_of (T := T_bit_at) (M := M) (k := 1) F2 (PySem.W.mg_of X G a2) b2 rfl sc_bit_at ck_bit_at ⟨(any_cons ((C1 base).up (by decide)) any_nil), (fun n hn => GL n (gls_sub (l := [2]) (by decide) hn)), (any_cons (PySem.W.mg_none_of X G z3) any_nil)⟩ (mev_bit_at)
  have F3 := fun_mk (st := st_parting) l3 c3 k3
  have b3 := F3.binds (ps := P_parting) fun _ _ _ _ _ _ us hl => match us, hl with | [_, _], _ => rfl
  have C3 : ∀ base : Heap, Callee P w K CC mg base 2 (fnT 3) (arT 3) (M.Φ 3) := fun base => callee_of (T := T_parting) (M := M) (k := 1) F3 (PySem.W.mg_of X G a3) b3 rfl sc_parting ck_parting ⟨(any_cons ((C1 base).up (by decide)) any_nil), (fun n hn => GL n (gls_sub (l := [2]) (by decide) hn)), any_nil⟩ (mev_parting)
  have F7 := fun_mk (st := st__law_bits) l7 c7 k7
  have b7 := F7.binds (ps := P__law_bits) fun _ _ _ _ _ _ us hl => match us, hl with | [_], _ => rfl
  have C7 : ∀ base : Heap, Callee P w K CC mg base 2 (fnT 7) (arT 7) (M.Φ 7) := fun base => callee_of (T := T__law_bits) (M := M) (k := 1) F7 (PySem.W.mg_of X G a7) b7 rfl sc__law_bits ck__law_bits ⟨(any_cons ((C6 base).up (by decide)) any_nil), any_nil, (any_cons (PySem.W.mg_none_of X G z3) (any_cons (PySem.W.mg_none_of X G z6) any_nil))⟩ (mev__law_bits)
  have F8 := fun_mk (st := st_law) l8 c8 k8
  have b8 := F8.binds (ps := P_law) fun _ _ _ _ _ _ us hl => match us, hl with | [_], _ => rfl
  exact ⟨_, fun s v => .of_eq rfl, fun base _ _ => (ok_def (T := T_law) (M := M) (k := 2) F8 sc_law ck_law ⟨(any_cons ((C4 base).up (by decide)) (any_cons ((C5 base).up (by decide)) (any_cons ((C1 base).up (by decide)) (any_cons ((C0 base).up (by decide)) (any_cons ((C6 base).up (by decide)) (any_cons ((C7 base).up (by decide)) (any_cons ((C2 base).up (by decide)) (any_cons ((C3 base).up (by decide)) any_nil)))))))), any_nil, (any_cons (PySem.W.mg_none_of X G z0) (any_cons (PySem.W.mg_none_of X G z4) (any_cons (PySem.W.mg_none_of X G z2) (any_cons (PySem.W.mg_none_of X G z6) (any_cons (PySem.W.mg_none_of X G z5) any_nil)))))⟩).imp fun vs H Q E q => spD_imp mev_law q⟩
end
end SG
end
open PySem PySem.W PyProof.Rows
set_option maxHeartbeats 0 in
theorem PySem.Challenge.cw_sumgrove_k01_names_and_bits_holds : PySem.Challenge.rw_sumgrove_k01_names_and_bits.Holds := by
  w_on; o_law; k_head; (case hw => w_witness2)
  k_fill
  refine DS.walkX (l := rw_sumgrove_k01_names_and_bits) (n := 63) (k := 3) (x := "_law_script") (CX := fun w => L2.CX rw_sumgrove_k01_names_and_bits.prog w) (sp := fun w => DS.spD _ SG.CC 1 SG.Phi_law) rfl (by decide) rfl ⟨rfl, by decide, by decide⟩ (fun w h Y => PySem.W.kIn_of Y) ?F (fun w H a ns hl _ hS => DS.law_sp hS (SG.gd_ok hl)) (fun _ _ _ _ _ z => DS.noCX z)
  case F =>
    intro w mg fa h XP KX G hmg
    refine' SG.all_mk ?GL KX G hmg ?a0 ?l0 ?c0 ?k0 ?a1 ?l1 ?c1 ?k1 ?a2 ?l2 ?c2 ?k2 ?a3 ?l3 ?c3 ?k3 ?a4 ?l4 ?c4 ?k4 ?a5 ?l5 ?c5 ?k5 ?a6 ?l6 ?c6 ?k6 ?a7 ?l7 ?c7 ?k7 ?a8 ?l8 ?c8 ?k8 ?z0 ?z1 ?z2 ?z3 ?z4 ?z5 ?z6
    (case GL =>
      intro n hn
      have h3 : n = 0 ∨ n = 1 ∨ n = 2 := by simpa [SG.glsAll] using hn
      rcases h3 with rfl | rfl | rfl
      · refine' ⟨.int 8, ?ulim, PySem.W.mg_of KX G (n := PySem.Str.ofString "NAME_LIMIT") ?nlim, ?rlim, fun _ => rfl⟩
        (case nlim => k_is)
        (case rlim => exact ⟨_, rfl⟩)
      · refine' ⟨.str SG.alpha, ?ualp, PySem.W.mg_of KX G (n := PySem.Str.ofString "ALPHABET") ?alph, ?ralp, fun _ => rfl⟩
        (case alph => k_is)
        (case ralp => exact ⟨_, rfl⟩)
      · obtain ⟨v, hv, hr⟩ := XP.2.val (PySem.Str.ofString "PLACES", WData.int 48) (.head _)
        cases hr
        exact ⟨.int 48, _, hv, ⟨_, rfl⟩, fun _ => rfl⟩)
    (case a0 => k_is)
    (case l0 => k_is)
    (case c0 => k_is)
    (case k0 => k_is)
    (case a1 => k_is)
    (case l1 => k_is)
    (case c1 => k_is)
    (case k1 => k_is)
    (case a2 => k_is)
    (case l2 => k_is)
    (case c2 => k_is)
    (case k2 => k_is)
    (case a3 => k_is)
    (case l3 => k_is)
    (case c3 => k_is)
    (case k3 => k_is)
    (case a4 => k_is)
    (case l4 => k_is)
    (case c4 => k_is)
    (case k4 => k_is)
    (case a5 => k_is)
    (case l5 => k_is)
    (case c5 => k_is)
    (case k5 => k_is)
    (case a6 => k_is)
    (case l6 => k_is)
    (case c6 => k_is)
    (case k6 => k_is)
    (case a7 => k_is)
    (case l7 => k_is)
    (case c7 => k_is)
    (case k7 => k_is)
    (case a8 => k_is)
    (case l8 => k_is)
    (case c8 => k_is)
    (case k8 => k_is)
    (case z0 => k_is)
    (case z1 => k_is)
    (case z2 => k_is)
    (case z3 => k_is)
    (case z4 => k_is)
    (case z5 => k_is)
    (case z6 => k_is)
