import PyProof.Rows.All
import Wide.All
import OpenK.AllK
import Wide.FinOn
import HandS.ForMost
import HandS.ForExc
import HandS.TupAny
import HandS.TupMul
import HandS.TupSets
import HandS.Conv
import HandS.AnyAll
import HandS.JoinGen
import HandS.Deep
import HandS.Wide
import HandS.WideBits
import HandS.Text
import HandS.Style
import HandS.IsInst
import HandS.Replace
import HandS.More
import HandS.SortInts
import HandS.Zip
import HandS.Codes
import HandS.HeadWalk
import HandS.Small
import KE.KExcSuper
import HandS.ExcInit
import HandS.ExcField
import HandS.ExcIs
import HandS.TryOnly
import HandS.TryMany
import HandS.Nested
import HandS.WordsExc
import HandS.ExcOwn
import KE.KExcIs
import KE.DataMinMax
import KE.GoesComp
import PySem.Challenge.RW_sumgrove_k40_notes_locks_and_holds
set_option Elab.async false
set_option linter.all false
set_option maxRecDepth 100000
set_option maxHeartbeats 2000000

noncomputable section
namespace GS
open PySem PySem.Spec PyProof.Rows L2
theorem tuple_mul1 (l : Addr) (items : Array Value) (n : Nat) (dd : Option Addr) (sl : Array (Option Value)) (u : Tok) :
    Meets (Builtin.«tuple.__mul__» ⟨[.ref l, .int 1 u], []⟩) (fun _ R s => s.heap.get? l = some { cls := .type "tuple", dict := dd, data := .seq items n, slots := sl } ∧ R (.ok (.ret (Value.ref l))) s) :=
  .of_wp fun prog w A R s h => by
    obtain ⟨hp, g, d, tk, os⟩ := s
    obtain ⟨hl, h⟩ := h
    have f1 := AutoSeq1.idx_int
    wp_walk using wpAny_loadPart' hl
    exact ⟨_, rfl, h⟩
theorem tuple_mul0 (l : Addr) (items : Array Value) (n : Nat) (dd : Option Addr) (sl : Array (Option Value)) (u : Tok) (hi : items.isEmpty = false) :
    Meets (Builtin.«tuple.__mul__» ⟨[.ref l, .int 0 u], []⟩) (fun _ R s => s.heap.get? l = some { cls := .type "tuple", dict := dd, data := .seq items n, slots := sl } ∧
      R (.ok (.ret (Value.ref s.heap.objs.size))) { s with heap := s.heap.push { cls := Value.type "tuple", data := Data.seq #[] }, toks := s.toks }) :=
  .of_wp fun prog w A R s h => by
    obtain ⟨hp, g, d, tk, os⟩ := s
    obtain ⟨hl, h⟩ := h
    have f1 := AutoSeq1.idx_int
    wp_walk using wpAny_loadPart' hl
    exact ⟨_, rfl, h⟩
/-- t * k, k from 0 to 1000 -/
def rRepA (K : PySem.W.Frag) : R2 := fun x y H Q => ∃ l k xs, x = .ref l ∧ y = .int k ∧ SqT K H l xs ∧ xs ≠ [] ∧ 0 ≤ k ∧ k ≤ 1000 ∧ xs.length ≤ 1000 ∧ (k = 1 → Q (.ref l) H) ∧ (k ≠ 1 → ∀ p, H p = none → Q (.ref p) (upd H p (.tup (List.replicate k.toNat xs).flatten)))
theorem op_repA {X : Cx} : OpR X (binaryOp .Mult) (rRepA X.K) := by
  intro pins s σ H x y v u Q I rx ry h
  obtain ⟨l, k, xs, rfl, rfl, hT, hne, h1, h2, hz, q1, q2⟩ := h
  by_cases hk : 2 ≤ k
  · exact op_repT pins s σ H _ _ v u Q I rx ry ⟨l, k, xs, rfl, rfl, hT, hne, hk, h2, hz, q2 (by omega)⟩
  cases rx
  obtain ⟨t, rfl⟩ := ry
  obtain ⟨its, r, ⟨⟨cls, dd, data, sl⟩, ho, hc, n, hd⟩, hs⟩ := I.tuple hT
  simp only at hc hd
  subst hc hd
  have hle : its.length = xs.length := r.length.symm
  have hn : its ≠ [] := fun e => hne (by
    rw [e] at hle
    exact List.eq_nil_of_length_eq_zero hle.symm)
  have hi : its.toArray.isEmpty = false := by
    cases its with
    | nil => exact absurd rfl hn
    | cons a b => rfl
  by_cases hk1 : k = 1
  · subst hk1
    refine wpAny_binaryOp_repeat_ref (T := "tuple") (U := "int") (by decide) ⟨_, ho, rfl⟩ (fun s' => typeIs_int s' 1 t) noFill_tuple_mul F.fills_int_mul F.slot_int_rmul repeat_tuple F.slot_int_index.lookup
      (call_meets F.slot_int_rmul (typeIs_int s 1 t) F.entry_int_rmul (F.args_int_rmul_2 _ _) (int_rmul_tuple 1 t l its.toArray n dd sl)
        ⟨ho, rfl, ⟨_, ho, rfl⟩, call_meets F.slot_tuple_mul ⟨_, ho, rfl⟩ F.entry_tuple_mul (F.args_tuple_mul_2 _ _) (tuple_mul1 l its.toArray n dd sl t) ⟨ho, ?_⟩⟩)
    exact ⟨.ref l, H, I, rfl, q1 rfl⟩
  · obtain rfl : k = 0 := by omega
    refine wpAny_binaryOp_repeat_ref (T := "tuple") (U := "int") (by decide) ⟨_, ho, rfl⟩ (fun s' => typeIs_int s' 0 t) noFill_tuple_mul F.fills_int_mul F.slot_int_rmul repeat_tuple F.slot_int_index.lookup
      (call_meets F.slot_int_rmul (typeIs_int s 0 t) F.entry_int_rmul (F.args_int_rmul_2 _ _) (int_rmul_tuple 0 t l its.toArray n dd sl)
        ⟨ho, rfl, ⟨_, ho, rfl⟩, call_meets F.slot_tuple_mul ⟨_, ho, rfl⟩ F.entry_tuple_mul (F.args_tuple_mul_2 _ _) (tuple_mul0 l its.toArray n dd sl t hi) ⟨ho, ?_⟩⟩)
    refine ⟨.ref s.heap.objs.size, _, I.laid (t' := s.toks) (o := .tup []) (fun b ob q => Heap.get?_push_of_some _ q) (Nat.le_refl _) ?_, rfl, q2 (by decide) _ (I.hok.fresh (Nat.le_refl _))⟩
    exact ⟨Nat.zero_le _, [], .nil, IsTup.new _ _⟩
/-- list * k, read -/
theorem op_repR {X : Cx} {pins : List (Addr × Obj)} {s : Shared} {σ : L2.St} {H : Hp} {l : Addr} {k : Int} {t : Tok} {xs : List V} {Q : VK} (I : L2.Inv X pins σ H s) (hH : Rd H l (.lst xs)) (h1 : -(2 ^ 63) ≤ k) (h2 : k < 2 ^ 63) (hz : xs.length * k.toNat ≤ sizeLine) (q : ∀ p, H p = none → Q (.ref p) (upd H p (.lst (List.replicate k.toNat xs).flatten))) :
    wpAny (model X.prog X.w) X.A (binaryOp .Mult (.ref l) (.int k t)) (EP X pins σ Q) X.xe s := by
  obtain ⟨z, its, n, r, e⟩ := hH.ok I.hok
  have hl : xs.length = its.length := Paired.length r
  have hlen : its.toArray.size * k.toNat ≤ sizeLine := by rw [List.size_toArray, ← hl]; exact hz
  have hcap : ¬ its.toArray.size * k.toNat > (2 ^ 63 - 1) / 8 := by
    have : (sizeLine : Nat) ≤ (2 ^ 63 - 1) / 8 := by decide
    omega
  have hfit : ¬ (!Builtin.List.listFitsIndex k) = true := by
    rw [fitsIndex_both h1 h2]
    exact Bool.false_ne_true
  have hlong : ¬ Builtin.List.listTooLong (its.toArray.size * k.toNat) = true := by
    rw [notLongL hlen]
    exact Bool.false_ne_true
  have hnew : List.foldl (fun x1 x2 => x1 ++ x2) #[] (List.replicate (if its.toArray.isEmpty = true then 0 else k.toNat) its.toArray) = (List.replicate k.toNat its).flatten.toArray := by
    have f0 : ∀ m : Nat, List.foldl (fun x1 x2 => x1 ++ x2) #[] (List.replicate m its.toArray) = (List.replicate m its).flatten.toArray := fun m => by
      have := foldl_rep its m []
      rw [List.nil_append] at this
      exact this
    rw [f0]
    cases its with
    | nil => simp
    | cons a r' => rw [if_neg (by simp)]
  refine wpAny_binaryOp_repeat_ref (T := "list") (U := "int") (by decide) ⟨_, e, rfl⟩ (fun s' => typeIs_int s' k t) noFill_list_mul F.fills_int_mul F.slot_int_rmul repeat_list F.slot_int_index.lookup
    (call_meets F.slot_int_rmul (typeIs_int s k t) F.entry_int_rmul (F.args_int_rmul_2 _ _) (int___rmul___int_list k t l its.toArray n)
      ⟨e, rfl, ⟨_, e, rfl⟩, call_meets F.slot_list_mul ⟨_, e, rfl⟩ F.entry_list_mul (F.args_list_mul_2 _ _) (AutoListH.list___mul___list_int_3 l its.toArray n k t hfit hcap hlong) ⟨e, ?_⟩⟩)
  rw [hnew]
  exact ⟨.ref _, _, I.lnew (t' := s.toks) (r.rep k.toNat) (by rw [PyProof.Rows.lm_len_rep_flat, Nat.mul_comm]; exact hz), rfl, q _ I.fresh⟩
end GS
end

noncomputable section
namespace GS
open PySem L2

/-- a test that no machine reckons: the kernel never looks into it -/
def cd (p : Prop) : Bool := @decide p (Classical.propDecidable p)
theorem cd_iff {p : Prop} : cd p = true ↔ p := by unfold cd; exact @decide_eq_true_iff p (Classical.propDecidable p)
@[simp] theorem cd_eq {p : Prop} : (cd p = true) = p := propext cd_iff
theorem cd_pos {p : Prop} (h : p) : cd p = true := cd_iff.mpr h
theorem cd_neg {p : Prop} (h : ¬ p) : cd p = false := by
  cases e : cd p with
  | true => exact absurd (cd_iff.mp e) h
  | false => rfl
@[simp] theorem cd_eqf {p : Prop} : (cd p = false) = ¬ p := propext ⟨fun e h => (by rw [cd_pos h] at e; cases e), cd_neg⟩
@[simp] theorem cd_true : cd True = true := cd_pos trivial
@[simp] theorem cd_false : cd False = false := cd_neg fun h => h
theorem cd_of {p : Prop} [Decidable p] : decide p = cd p := by
  by_cases h : p
  · rw [decide_eq_true h, cd_pos h]
  · rw [decide_eq_false h, cd_neg h]
/-- data: what never changes is written out, what may change is a number in the store -/
inductive D where
  | no | non | bl (b : Bool) | int (i : Int) | str (s : Str)
  | tup (l : List D) | lst (l : List D)
  | dct (l : List (Key × D))
  | ins (c : Nat) (fs : List (Str × D))
  | obj (n : Nat)
  | scr (ns : List Int)
  | exn (c : Nat) (fs : List (Str × D))
  | fn (f : Nat)
/-- a thing of the store -/
inductive Cell where
  | dead | lst (l : List D) | dct (l : List (Key × D)) | ins (c : Nat) (fs : List (Str × D))

/-- what an expression comes to, and the store behind it -/
inductive R (α : Type) where
  | ok (a : α) (m : List Cell) | exc (c : Nat) (fs : List (Str × D)) (m : List Cell) | stuck
def R.bind {α β : Type} (x : R α) (f : α → List Cell → R β) : R β := match x with
  | .ok a m => f a m
  | .exc c fs m => .exc c fs m
  | .stuck => .stuck
@[simp] theorem R.bind_ok {α β : Type} (a : α) (m : List Cell) (f : α → List Cell → R β) : (R.ok a m).bind f = f a m := rfl
@[simp] theorem R.bind_exc {α β : Type} (c : Nat) (fs : List (Str × D)) (m : List Cell) (f : α → List Cell → R β) : (R.exc c fs m : R α).bind f = .exc c fs m := rfl
@[simp] theorem R.bind_stuck {α β : Type} (f : α → List Cell → R β) : (R.stuck : R α).bind f = .stuck := rfl
/-- a plain answer -/
def R.of {α : Type} (o : Option α) (m : List Cell) : R α := match o with | some a => .ok a m | none => .stuck
@[simp] theorem R.of_some {α : Type} (a : α) (m : List Cell) : R.of (some a) m = .ok a m := rfl
@[simp] theorem R.of_none {α : Type} (m : List Cell) : R.of (none : Option α) m = .stuck := rfl
theorem R.bind_ok_inv {α β : Type} {r : R α} {k : α → List Cell → R β} {b : β} {m' : List Cell} (h : r.bind k = .ok b m') : ∃ a m, r = .ok a m ∧ k a m = .ok b m' := by
  cases r with
  | ok a m => exact ⟨a, m, rfl, h⟩
  | exc _ _ _ => cases h
  | stuck => cases h

/-- where the store's things stand; the part of the heap that does not change -/
structure Fz where
  A : List Addr
  F : Hp

section
variable (K : PySem.W.Frag) (C : Nat → Addr) (z : Fz)
mutual
/-- the value v stands for the data -/
def Rep : D → V → Prop
  | .no, _ => False
  | .non, v => v = .non
  | .bl b, v => v = .bl b
  | .int i, v => v = .int i
  | .str s, v => v = .str s
  | .tup l, v => ∃ a xs, v = .ref a ∧ SqT K z.F a xs ∧ RepL l xs
  | .lst l, v => ∃ a xs, v = .ref a ∧ Rd z.F a (.lst xs) ∧ RepL l xs
  | .dct l, v => ∃ a o kvs, v = .ref a ∧ z.F a = some (.frz o (.dK kvs)) ∧ RepK l kvs
  | .ins c fs, v => ∃ a dx gs, v = .ref a ∧ z.F a = some (.ins (C c) dx gs) ∧ RepF fs gs
  | .obj n, v => ∃ a, v = .ref a ∧ z.A[n]? = some a
  | .scr ns, v => ∃ a, v = .ref a ∧ SqL K z.F a (ns.map V.int)
  | .exn _ _, _ => False
  | .fn _, _ => False
def RepL : List D → List V → Prop
  | [], xs => xs = []
  | d :: ds, xs => ∃ x r, xs = x :: r ∧ Rep d x ∧ RepL ds r
def RepK : List (Key × D) → List (Key × V) → Prop
  | [], xs => xs = []
  | (k, d) :: ds, xs => ∃ x r, xs = (k, x) :: r ∧ Rep d x ∧ RepK ds r
def RepF : List (Str × D) → List (Str × V) → Prop
  | [], xs => xs = []
  | (k, d) :: ds, xs => ∃ x r, xs = (k, x) :: r ∧ Rep d x ∧ RepF ds r
end
end

theorem same_seqT {K : PySem.W.Frag} {H H' : Hp} {a : Addr} {xs : List V} (e : Same H H') (h : SqT K H a xs) : SqT K H' a xs := by
  rcases h with (h | ⟨o, h⟩) | h
  · exact .inl (.inl (e _ _ h))
  · exact .inl (.inr ⟨o, e _ _ h⟩)
  · exact .inr h

theorem same_rd {H H' : Hp} {a : Addr} {o : HO} (e : Same H H') (h : Rd H a o) : Rd H' a o := by
  rcases h with h | ⟨u, h⟩
  · exact .inl (e _ _ h)
  · exact .inr ⟨u, e _ _ h⟩

/-- from z on: nothing that does not change was changed, the store grew -/
structure Le (z z' : Fz) : Prop where
  f : Same z.F z'.F
  a : ∀ (n : Nat) (p : Addr), z.A[n]? = some p → z'.A[n]? = some p
theorem Le.refl (z : Fz) : Le z z := ⟨.refl _, fun _ _ h => h⟩
theorem Le.trans {a b c : Fz} (h : Le a b) (g : Le b c) : Le a c := ⟨h.f.trans g.f, fun n p e => g.a n p (h.a n p e)⟩

section
variable {K : PySem.W.Frag} {C : Nat → Addr} {z z' : Fz}
mutual
theorem Rep.mono (e : Le z z') : ∀ (d : D) (v : V), Rep K C z d v → Rep K C z' d v
  | .no, v, h => h
  | .non, v, h => h
  | .bl b, v, h => h
  | .int i, v, h => h
  | .str s, v, h => h
  | .tup l, v, h => by
    obtain ⟨a, xs, rfl, h1, h2⟩ := h
    exact ⟨a, xs, rfl, same_seqT e.f h1, RepL.mono e l xs h2⟩
  | .lst l, v, h => by
    obtain ⟨a, xs, rfl, h1, h2⟩ := h
    exact ⟨a, xs, rfl, same_rd e.f h1, RepL.mono e l xs h2⟩
  | .dct l, v, h => by
    obtain ⟨a, o, xs, rfl, h1, h2⟩ := h
    exact ⟨a, o, xs, rfl, e.f _ _ h1, RepK.mono e l xs h2⟩
  | .ins c fs, v, h => by
    obtain ⟨a, dx, gs, rfl, h1, h2⟩ := h
    exact ⟨a, dx, gs, rfl, e.f _ _ h1, RepF.mono e fs gs h2⟩
  | .obj n, v, h => by
    obtain ⟨a, rfl, h⟩ := h
    exact ⟨a, rfl, e.a n a h⟩
  | .scr ns, v, h => by
    obtain ⟨a, rfl, h⟩ := h
    exact ⟨a, rfl, e.f.seq h⟩
  | .exn _ _, v, h => h
  | .fn _, v, h => h
theorem RepL.mono (e : Le z z') : ∀ (ds : List D) (xs : List V), RepL K C z ds xs → RepL K C z' ds xs
  | [], xs, h => h
  | d :: ds, xs, h => by
    obtain ⟨x, r, rfl, h1, h2⟩ := h
    exact ⟨x, r, rfl, Rep.mono e d x h1, RepL.mono e ds r h2⟩
theorem RepK.mono (e : Le z z') : ∀ (ds : List (Key × D)) (xs : List (Key × V)), RepK K C z ds xs → RepK K C z' ds xs
  | [], xs, h => h
  | (k, d) :: ds, xs, h => by
    obtain ⟨x, r, rfl, h1, h2⟩ := h
    exact ⟨x, r, rfl, Rep.mono e d x h1, RepK.mono e ds r h2⟩
theorem RepF.mono (e : Le z z') : ∀ (ds : List (Str × D)) (xs : List (Str × V)), RepF K C z ds xs → RepF K C z' ds xs
  | [], xs, h => h
  | (k, d) :: ds, xs, h => by
    obtain ⟨x, r, rfl, h1, h2⟩ := h
    exact ⟨x, r, rfl, Rep.mono e d x h1, RepF.mono e ds r h2⟩
end

theorem RepL.length : ∀ {ds : List D} {xs : List V}, RepL K C z ds xs → xs.length = ds.length
  | [], xs, h => by have h : xs = [] := h; subst h; rfl
  | d :: ds, xs, h => by
    obtain ⟨x, r, rfl, _, h2⟩ := h
    simp [RepL.length h2]
theorem RepL.append : ∀ {ds es : List D} {xs ys : List V}, RepL K C z ds xs → RepL K C z es ys → RepL K C z (ds ++ es) (xs ++ ys)
  | [], es, xs, ys, h, h' => by have h : xs = [] := h; subst h; exact h'
  | d :: ds, es, xs, ys, h, h' => by
    obtain ⟨x, r, rfl, h1, h2⟩ := h
    exact ⟨x, r ++ ys, rfl, h1, RepL.append h2 h'⟩
theorem RepL.one {d : D} {v : V} (h : Rep K C z d v) : RepL K C z [d] [v] := ⟨v, [], rfl, h, rfl⟩
theorem RepL.get : ∀ {ds : List D} {xs : List V} {i : Nat} {x : V}, RepL K C z ds xs → xs[i]? = some x → ∃ d, ds[i]? = some d ∧ Rep K C z d x
  | [], xs, i, x, h, e => by have h : xs = [] := h; subst h; simp at e
  | d :: ds, xs, i, x, h, e => by
    obtain ⟨y, r, rfl, h1, h2⟩ := h
    cases i with
    | zero => simp at e; subst e; exact ⟨d, rfl, h1⟩
    | succ i => exact (RepL.get (i := i) h2 (by simpa using e)).elim fun d' q => ⟨d', by simpa using q.1, q.2⟩
theorem RepL.get' : ∀ {ds : List D} {xs : List V} {i : Nat} {d : D}, RepL K C z ds xs → ds[i]? = some d → ∃ x, xs[i]? = some x ∧ Rep K C z d x
  | [], xs, i, x, h, e => by simp at e
  | d :: ds, xs, i, x, h, e => by
    obtain ⟨y, r, rfl, h1, h2⟩ := h
    cases i with
    | zero => simp at e; subst e; exact ⟨y, rfl, h1⟩
    | succ i => exact (RepL.get' (i := i) h2 (by simpa using e)).elim fun d' q => ⟨d', by simpa using q.1, q.2⟩
theorem RepL.drop : ∀ (n : Nat) {ds : List D} {xs : List V}, RepL K C z ds xs → RepL K C z (ds.drop n) (xs.drop n)
  | 0, ds, xs, h => h
  | n + 1, [], xs, h => by have h : xs = [] := h; subst h; exact rfl
  | n + 1, d :: ds, xs, h => by
    obtain ⟨y, r, rfl, h1, h2⟩ := h
    exact RepL.drop n h2
theorem RepL.take : ∀ (n : Nat) {ds : List D} {xs : List V}, RepL K C z ds xs → RepL K C z (ds.take n) (xs.take n)
  | 0, ds, xs, h => rfl
  | n + 1, [], xs, h => by have h : xs = [] := h; subst h; exact rfl
  | n + 1, d :: ds, xs, h => by
    obtain ⟨y, r, rfl, h1, h2⟩ := h
    exact ⟨y, r.take n, rfl, h1, RepL.take n h2⟩
theorem RepL.set : ∀ (n : Nat) {ds : List D} {xs : List V} {d : D} {v : V}, RepL K C z ds xs → Rep K C z d v → RepL K C z (ds.set n d) (xs.set n v)
  | n, [], xs, d, v, h, _ => by have h : xs = [] := h; subst h; exact rfl
  | 0, e :: ds, xs, d, v, h, q => by
    obtain ⟨y, r, rfl, h1, h2⟩ := h
    exact ⟨v, r, rfl, q, h2⟩
  | n + 1, e :: ds, xs, d, v, h, q => by
    obtain ⟨y, r, rfl, h1, h2⟩ := h
    exact ⟨y, r.set n v, rfl, h1, RepL.set n h2 q⟩
theorem RepL.ints : ∀ {ns : List Int} {xs : List V}, RepL K C z (ns.map D.int) xs ↔ xs = ns.map V.int
  | [], xs => Iff.rfl
  | n :: ns, xs => by
    constructor
    · rintro ⟨x, r, rfl, h1, h2⟩
      have h1 : x = .int n := h1
      rw [h1, RepL.ints.mp h2]
      rfl
    · rintro rfl
      exact ⟨_, _, rfl, rfl, RepL.ints.mpr rfl⟩
theorem RepK.length : ∀ {ds : List (Key × D)} {kvs : List (Key × V)}, RepK K C z ds kvs → kvs.length = ds.length
  | [], xs, h => by have h : xs = [] := h; subst h; rfl
  | (k, d) :: ds, xs, h => by
    obtain ⟨x, r, rfl, _, h2⟩ := h
    simp [RepK.length h2]
theorem RepF.length : ∀ {ds : List (Str × D)} {kvs : List (Str × V)}, RepF K C z ds kvs → kvs.length = ds.length
  | [], xs, h => by have h : xs = [] := h; subst h; rfl
  | (k, d) :: ds, xs, h => by
    obtain ⟨x, r, rfl, _, h2⟩ := h
    simp [RepF.length h2]

/-! ### data that names nothing of the store -/
mutual
def D.pure : D → Bool
  | .tup l => pureL l
  | .lst l => pureL l
  | .dct l => pureK l
  | .ins _ l => pureF l
  | .obj _ => false
  | .exn _ _ => false
  | _ => true
def pureL : List D → Bool
  | [] => true
  | d :: l => d.pure && pureL l
def pureK : List (Key × D) → Bool
  | [] => true
  | (_, d) :: l => d.pure && pureK l
def pureF : List (Str × D) → Bool
  | [] => true
  | (_, d) :: l => d.pure && pureF l
end
theorem and2 {a b : Bool} (h : (a && b) = true) : a = true ∧ b = true := by simpa using h
mutual
theorem Rep.pure (f : Same z.F z'.F) : ∀ (d : D) (v : V), d.pure = true → Rep K C z d v → Rep K C z' d v
  | .no, v, _, h => h
  | .non, v, _, h => h
  | .bl b, v, _, h => h
  | .int i, v, _, h => h
  | .str s, v, _, h => h
  | .tup l, v, p, h => by
    obtain ⟨a, xs, rfl, h1, h2⟩ := h
    exact ⟨a, xs, rfl, same_seqT f h1, RepL.pure f l xs p h2⟩
  | .lst l, v, p, h => by
    obtain ⟨a, xs, rfl, h1, h2⟩ := h
    exact ⟨a, xs, rfl, same_rd f h1, RepL.pure f l xs p h2⟩
  | .dct l, v, p, h => by
    obtain ⟨a, o, xs, rfl, h1, h2⟩ := h
    exact ⟨a, o, xs, rfl, f _ _ h1, RepK.pure f l xs p h2⟩
  | .ins c fs, v, p, h => by
    obtain ⟨a, dx, gs, rfl, h1, h2⟩ := h
    exact ⟨a, dx, gs, rfl, f _ _ h1, RepF.pure f fs gs p h2⟩
  | .obj n, v, p, h => by cases p
  | .scr ns, v, p, h => by
    obtain ⟨a, rfl, h⟩ := h
    exact ⟨a, rfl, f.seq h⟩
  | .exn _ _, v, p, h => h
  | .fn _, v, p, h => h
theorem RepL.pure (f : Same z.F z'.F) : ∀ (ds : List D) (xs : List V), pureL ds = true → RepL K C z ds xs → RepL K C z' ds xs
  | [], xs, _, h => h
  | d :: ds, xs, p, h => by
    obtain ⟨x, r, rfl, h1, h2⟩ := h
    obtain ⟨p1, p2⟩ := and2 p
    exact ⟨x, r, rfl, Rep.pure f d x p1 h1, RepL.pure f ds r p2 h2⟩
theorem RepK.pure (f : Same z.F z'.F) : ∀ (ds : List (Key × D)) (xs : List (Key × V)), pureK ds = true → RepK K C z ds xs → RepK K C z' ds xs
  | [], xs, _, h => h
  | (k, d) :: ds, xs, p, h => by
    obtain ⟨x, r, rfl, h1, h2⟩ := h
    obtain ⟨p1, p2⟩ := and2 p
    exact ⟨x, r, rfl, Rep.pure f d x p1 h1, RepK.pure f ds r p2 h2⟩
theorem RepF.pure (f : Same z.F z'.F) : ∀ (ds : List (Str × D)) (xs : List (Str × V)), pureF ds = true → RepF K C z ds xs → RepF K C z' ds xs
  | [], xs, _, h => h
  | (k, d) :: ds, xs, p, h => by
    obtain ⟨x, r, rfl, h1, h2⟩ := h
    obtain ⟨p1, p2⟩ := and2 p
    exact ⟨x, r, rfl, Rep.pure f d x p1 h1, RepF.pure f ds r p2 h2⟩
end
end

/-! ### the store -/
def Tbl (H : Hp) (a : Addr) : Prop := ∃ ps : Array Value, H a = some (.tbl ps) ∧ TriplesOk ps.toList
def noT (o : HO) : Prop := ∀ ps, o ≠ .tbl ps
/-- the tables of code objects stand at the numbers from a million on; 0: no table -/
def TabA (C : Nat → Addr) (a : Addr) : Prop := a ≠ 0 ∧ ∃ i, C (1000000 + 2 * i) = a
section
variable (K : PySem.W.Frag) (C : Nat → Addr)
def CellAt (z : Fz) (H : Hp) (a : Addr) : Cell → Prop
  | .dead => True
  | .lst ds => ∃ xs, H a = some (.lst xs) ∧ RepL K C z ds xs
  | .dct ds => ∃ kvs, H a = some (.dK kvs) ∧ RepK K C z ds kvs
  | .ins c fs => ∃ dx gs, H a = some (.ins (C c) dx gs) ∧ RepF K C z fs gs
structure Sto (m : List Cell) (z : Fz) (H : Hp) : Prop where
  le : Same z.F H
  len : z.A.length = m.length
  nd : z.A.Nodup
  there : ∀ a ∈ z.A, ∃ o, H a = some o ∧ noT o
  cell : ∀ (n : Nat) (c : Cell) (a : Addr), m[n]? = some c → z.A[n]? = some a → c ≠ .dead → z.F a = none ∧ CellAt K C z H a c
  tb : ∀ a, TabA C a → Tbl H a ∧ z.F a = none ∧ a ∉ z.A
end
/-- from (z, H) to (z', H') -/
structure Gr (z : Fz) (H : Hp) (z' : Fz) (H' : Hp) : Prop extends Le z z' where
  keep : ∀ a o, H a = some o → a ∉ z.A → noT o → H' a = some o
  tbk : ∀ a ps, H a = some (.tbl ps) → a ∉ z.A → ∃ ps', H' a = some (.tbl ps') ∧ (TriplesOk ps.toList → TriplesOk ps'.toList)
  new : ∀ a ∈ z'.A, a ∈ z.A ∨ H a = none
  sep : ∀ a o, H a = some o → z.F a = none → a ∉ z.A → z'.F a = none
theorem Gr.refl (z : Fz) (H : Hp) : Gr z H z H := { Le.refl z with keep := fun _ _ h _ _ => h, tbk := fun _ ps h _ => ⟨ps, h, _root_.id⟩, new := fun _ h => .inl h, sep := fun _ _ _ h _ => h }
theorem Gr.was {z z' : Fz} {H H' : Hp} (g : Gr z H z' H') {a : Addr} {o : HO} (e : H a = some o) (n : a ∉ z.A) : ∃ o', H' a = some o' := by
  by_cases q : noT o
  · exact ⟨o, g.keep a o e n q⟩
  · unfold noT at q
    have : ∃ ps, o = .tbl ps := Classical.byContradiction fun h => q fun ps e => h ⟨ps, e⟩
    obtain ⟨ps, rfl⟩ := this
    obtain ⟨ps', h, _⟩ := g.tbk a ps e n
    exact ⟨_, h⟩
theorem Gr.trans {z z1 z2 : Fz} {H H1 H2 : Hp} (g : Gr z H z1 H1) (h : Gr z1 H1 z2 H2) : Gr z H z2 H2 := by
  have stay : ∀ a o, H a = some o → a ∉ z.A → a ∉ z1.A := fun a o e n m => by
    rcases g.new a m with q | q
    · exact n q
    · rw [q] at e; cases e
  refine { Le.trans g.toLe h.toLe with keep := fun a o e n q => h.keep a o (g.keep a o e n q) (stay a o e n) q, tbk := fun a ps e n => ?_, new := fun a m => ?_, sep := fun a o e f n => ?_ }
  · obtain ⟨ps1, e1, t1⟩ := g.tbk a ps e n
    obtain ⟨ps2, e2, t2⟩ := h.tbk a ps1 e1 (stay a _ e n)
    exact ⟨ps2, e2, fun t => t2 (t1 t)⟩
  · rcases h.new a m with q | q
    · exact g.new a q
    · by_cases n : a ∈ z.A
      · exact .inl n
      · refine .inr ?_
        cases e : H a with
        | none => rfl
        | some o =>
          obtain ⟨o', this⟩ := g.was e n
          rw [q] at this; cases this
  · obtain ⟨o', e'⟩ := g.was e n
    exact h.sep a o' e' (g.sep a o e f n) (stay a o e n)

theorem upd_same_of {H : Hp} {p : Addr} {o : HO} (hp : H p = none) : Same H (upd H p o) := fun b u e => by
  rw [upd_ne (ne_of_none e hp)]; exact e
theorem mem_get {α : Type} {l : List α} {n : Nat} {a : α} (h : l[n]? = some a) : a ∈ l := List.mem_of_getElem? h
theorem nd_get {α : Type} {l : List α} {n k : Nat} {a : α} (nd : l.Nodup) (h : l[n]? = some a) (h' : l[k]? = some a) : n = k := by
  exact (List.getElem?_inj (List.getElem?_eq_some_iff.mp h).1 nd).mp (h.trans h'.symm)
section
variable {K : PySem.W.Frag} {C : Nat → Addr} {z z' : Fz} {m : List Cell} {H H' : Hp}
theorem CellAt.mono {a : Addr} (e : Le z z') (h : ∀ o, H a = some o → H' a = some o) : ∀ {c : Cell}, CellAt K C z H a c → CellAt K C z' H' a c
  | .dead, _ => trivial
  | .lst ds, ⟨xs, h1, h2⟩ => ⟨xs, h _ h1, RepL.mono e _ _ h2⟩
  | .dct ds, ⟨xs, h1, h2⟩ => ⟨xs, h _ h1, RepK.mono e _ _ h2⟩
  | .ins c fs, ⟨dx, gs, h1, h2⟩ => ⟨dx, gs, h _ h1, RepF.mono e _ _ h2⟩
theorem Sto.at (S : Sto K C m z H) {n : Nat} {c : Cell} (h : m[n]? = some c) : ∃ a, z.A[n]? = some a := by
  have := (List.getElem?_eq_some_iff.mp h).1
  rw [← S.len] at this
  exact ⟨z.A[n], List.getElem?_eq_getElem this⟩
theorem Tbl.upd {H : Hp} {a p : Addr} {o : HO} (h : Tbl H a) (n : a ≠ p) : Tbl (upd H p o) a := by
  obtain ⟨ps, e, t⟩ := h
  exact ⟨ps, by rw [upd_ne n]; exact e, t⟩
theorem Tbl.same {H H' : Hp} {a : Addr} (h : Tbl H a) (k : Same H H') : Tbl H' a := by
  obtain ⟨ps, e, t⟩ := h
  exact ⟨ps, k _ _ e, t⟩
/-- nothing of the store was touched -/
theorem Sto.kept (S : Sto K C m z H) (le : Same z'.F H') (eA : z'.A = z.A) (f : Same z.F z'.F) (k : ∀ a o, a ∈ z.A → H a = some o → noT o → H' a = some o) (s : ∀ a ∈ z.A, z.F a = none → z'.F a = none)
    (tt : ∀ a, Tbl H a → z.F a = none → a ∉ z.A → Tbl H' a ∧ z'.F a = none) : Sto K C m z' H' := by
  have L : Le z z' := ⟨f, fun n p h => by rw [eA]; exact h⟩
  refine ⟨le, by rw [eA]; exact S.len, by rw [eA]; exact S.nd, fun a h => ?_, fun n c a h1 h2 h3 => ?_, fun a h => by
    obtain ⟨q1, q2, q3⟩ := S.tb a h
    obtain ⟨r1, r2⟩ := tt a q1 q2 q3
    exact ⟨r1, r2, by rw [eA]; exact q3⟩⟩
  · rw [eA] at h
    obtain ⟨o, e, t⟩ := S.there a h
    exact ⟨o, k a o h e t, t⟩
  · rw [eA] at h2
    obtain ⟨q1, q2⟩ := S.cell n c a h1 h2 h3
    obtain ⟨o1, e1, t1⟩ := S.there a (mem_get h2)
    exact ⟨s a (mem_get h2) q1, q2.mono L fun o e => k a o (mem_get h2) e (by rw [e1] at e; cases e; exact t1)⟩
/-- a new thing that nobody changes -/
theorem Sto.new (S : Sto K C m z H) {p : Addr} (o : HO) (hp : H p = none) : Sto K C m ⟨z.A, upd z.F p o⟩ (upd H p o) ∧ Gr z H ⟨z.A, upd z.F p o⟩ (upd H p o) := by
  have hf : z.F p = none := S.le.free hp
  have np : ∀ a ∈ z.A, a ≠ p := fun a h => by obtain ⟨u, e, _⟩ := S.there a h; exact ne_of_none e hp
  refine ⟨S.kept (fun b u e => ?_) rfl (upd_same_of hf) (fun a u h e _ => by rw [upd_ne (np a h)]; exact e) (fun a h e => by show upd z.F p o a = none; rw [upd_ne (np a h)]; exact e) fun a h e n => by
    have ne : a ≠ p := by obtain ⟨ps, e, _⟩ := h; exact ne_of_none e hp
    exact ⟨h.upd ne, by show upd z.F p o a = none; rw [upd_ne ne]; exact e⟩, { f := upd_same_of hf, a := fun _ _ h => h, keep := fun a u e _ _ => by rw [upd_ne (ne_of_none e hp)]; exact e, tbk := fun a ps e _ => ⟨ps, by rw [upd_ne (ne_of_none e hp)]; exact e, _root_.id⟩, new := fun a h => .inl h, sep := fun a u e f _ => by show upd z.F p o a = none; rw [upd_ne (ne_of_none e hp)]; exact f }⟩
  show upd H p o b = some u
  have e : upd z.F p o b = some u := e
  by_cases hb : b = p
  · subst hb; rw [upd_same] at e ⊢; exact e
  · rw [upd_ne hb] at e ⊢; exact S.le _ _ e
/-- a new thing of the store -/
theorem Sto.alloc (S : Sto K C m z H) {p : Addr} (hp : H p = none) (k : Same H H') (hp' : ∃ o, H' p = some o ∧ noT o) {c : Cell} (hc : CellAt K C ⟨z.A ++ [p], z.F⟩ H' p c) : Sto K C (m ++ [c]) ⟨z.A ++ [p], z.F⟩ H' ∧ Gr z H ⟨z.A ++ [p], z.F⟩ H' := by
  have np : p ∉ z.A := fun h => by obtain ⟨u, e, _⟩ := S.there p h; rw [hp] at e; cases e
  have hA : ∀ (n : Nat) (q : Addr), z.A[n]? = some q → (z.A ++ [p])[n]? = some q := fun n q h => by
    rw [List.getElem?_append_left (List.getElem?_eq_some_iff.mp h).1]; exact h
  have L : Le z ⟨z.A ++ [p], z.F⟩ := ⟨.refl _, hA⟩
  refine ⟨⟨fun b u e => k _ _ (S.le _ _ e), by simp [S.len], ?_, fun a h => ?_, fun n c' a h1 h2 h3 => ?_, fun a h => by
    obtain ⟨q1, q2, q3⟩ := S.tb a h
    refine ⟨q1.same k, q2, fun z => ?_⟩
    rcases List.mem_append.mp z with z | z
    · exact q3 z
    · rw [List.mem_singleton] at z
      obtain ⟨ps, e, _⟩ := q1
      rw [z, hp] at e; cases e⟩, { L with keep := fun a o e _ _ => k _ _ e, tbk := fun a ps e _ => ⟨ps, k _ _ e, _root_.id⟩, new := fun a h => ?_, sep := fun a o e f _ => f }⟩
  · show (z.A ++ [p]).Nodup
    rw [List.nodup_append]
    refine ⟨S.nd, by simp, fun a h b h' => ?_⟩
    rw [List.mem_singleton] at h'
    rw [h']
    intro e
    subst e
    exact np h
  · rcases List.mem_append.mp h with h | h
    · obtain ⟨o, e, t⟩ := S.there a h
      exact ⟨o, k _ _ e, t⟩
    · rw [List.mem_singleton] at h
      subst h
      exact hp'
  · by_cases hn : n < m.length
    · rw [List.getElem?_append_left hn] at h1
      have h2 : (z.A ++ [p])[n]? = some a := h2
      rw [List.getElem?_append_left (by rw [S.len]; exact hn)] at h2
      obtain ⟨q1, q2⟩ := S.cell n c' a h1 h2 h3
      exact ⟨q1, q2.mono L fun o e => k _ _ e⟩
    · have hl := (List.getElem?_eq_some_iff.mp h1).1
      rw [List.length_append, List.length_singleton] at hl
      have e : n = m.length := by omega
      subst e
      have h2 : (z.A ++ [p])[m.length]? = some a := h2
      rw [← S.len] at h2
      simp at h1 h2
      subst h1
      subst h2
      exact ⟨S.le.free hp, hc⟩
  · rcases List.mem_append.mp h with h | h
    · exact .inl h
    · rw [List.mem_singleton] at h
      subst h
      exact .inr hp
/-- a thing of the store is written -/
theorem Sto.write (S : Sto K C m z H) {n : Nat} {c c' : Cell} {a : Addr} {o : HO} (h : m[n]? = some c) (ha : z.A[n]? = some a) (hl : c ≠ .dead) (hc : CellAt K C z (upd H a o) a c') (ho : noT o := by intro ps q; cases q) : Sto K C (m.set n c') z (upd H a o) ∧ Gr z H z (upd H a o) := by
  have hf := (S.cell n c a h ha hl).1
  refine ⟨⟨fun b u e => ?_, by simp [S.len], S.nd, fun b hb => ?_, fun k d b h1 h2 h3 => ?_, fun b h => by
    obtain ⟨q1, q2, q3⟩ := S.tb b h
    exact ⟨q1.upd fun z => q3 (z ▸ mem_get ha), q2, q3⟩⟩, { Le.refl z with keep := fun b u e nb _ => ?_, tbk := fun b ps e nb => ⟨ps, by rw [upd_ne (fun q : b = a => nb (by rw [q]; exact mem_get ha))]; exact e, _root_.id⟩, new := fun b hb => .inl hb, sep := fun _ _ _ f _ => f }⟩
  · rw [upd_ne (ne_of_none e hf)]; exact S.le _ _ e
  · by_cases e : b = a
    · subst e; exact ⟨o, upd_same, ho⟩
    · rw [upd_ne e]; exact S.there b hb
  · by_cases e : k = n
    · subst e
      rw [List.getElem?_set_self (List.getElem?_eq_some_iff.mp h).1] at h1
      cases h1
      rw [ha] at h2
      cases h2
      exact ⟨hf, hc⟩
    · rw [List.getElem?_set_ne (Ne.symm e)] at h1
      obtain ⟨q1, q2⟩ := S.cell k d b h1 h2 h3
      have ne : b ≠ a := fun z => e (nd_get S.nd h2 (z ▸ ha))
      exact ⟨q1, q2.mono (.refl _) fun u q => by rw [upd_ne ne]; exact q⟩
  · have ne : b ≠ a := fun z => nb (z ▸ mem_get ha)
    rw [upd_ne ne]; exact e
/-- a thing of the store from now on does not change; at a dict the heap's account of it becomes o -/
theorem Sto.freeze (S : Sto K C m z H) {n : Nat} {c : Cell} {a : Addr} {o : HO} (h : m[n]? = some c) (ha : z.A[n]? = some a) (hl : c ≠ .dead) (ho : noT o := by intro ps q; cases q) : Sto K C (m.set n .dead) ⟨z.A, upd z.F a o⟩ (upd H a o) ∧ Gr z H ⟨z.A, upd z.F a o⟩ (upd H a o) := by
  have hf := (S.cell n c a h ha hl).1
  have L : Le z ⟨z.A, upd z.F a o⟩ := ⟨upd_same_of hf, fun _ _ h => h⟩
  refine ⟨⟨fun b u e => ?_, by simp [S.len], S.nd, fun b hb => ?_, fun k d b h1 h2 h3 => ?_, fun b h => by
    obtain ⟨q1, q2, q3⟩ := S.tb b h
    have ne : b ≠ a := fun z => q3 (z ▸ mem_get ha)
    exact ⟨q1.upd ne, by show upd z.F a o b = none; rw [upd_ne ne]; exact q2, q3⟩⟩, { L with keep := fun b u e nb _ => ?_, tbk := fun b ps e nb => ⟨ps, by rw [upd_ne (fun q : b = a => nb (by rw [q]; exact mem_get ha))]; exact e, _root_.id⟩, new := fun b hb => .inl hb, sep := fun b u e f nb => ?_ }⟩
  · have e : upd z.F a o b = some u := e
    by_cases hb : b = a
    · subst hb; rw [upd_same] at e ⊢; exact e
    · rw [upd_ne hb] at e ⊢; exact S.le _ _ e
  · by_cases e : b = a
    · subst e; exact ⟨o, upd_same, ho⟩
    · rw [upd_ne e]; exact S.there b hb
  · by_cases e : k = n
    · subst e
      rw [List.getElem?_set_self (List.getElem?_eq_some_iff.mp h).1] at h1
      cases h1
      exact absurd rfl h3
    · rw [List.getElem?_set_ne (Ne.symm e)] at h1
      obtain ⟨q1, q2⟩ := S.cell k d b h1 h2 h3
      have ne : b ≠ a := fun z => e (nd_get S.nd h2 (z ▸ ha))
      exact ⟨by show upd z.F a o b = none; rw [upd_ne ne]; exact q1, q2.mono L fun u q => by rw [upd_ne ne]; exact q⟩
  · have ne : b ≠ a := fun z => nb (z ▸ mem_get ha)
    rw [upd_ne ne]; exact e
  · have ne : b ≠ a := fun z => nb (z ▸ mem_get ha)
    show upd z.F a o b = none
    rw [upd_ne ne]; exact f
theorem upd_id {H : Hp} {a : Addr} {o : HO} (h : H a = some o) : upd H a o = H := by
  funext b
  by_cases e : b = a
  · subst e; rw [upd_same, h]
  · rw [upd_ne e]
end

/-! ### the frame -/
structure Ctx where
  K : PySem.W.Frag
  C : Nat → Addr
  z0 : Fz
  H0 : Hp
  W : WX
abbrev Ctx.Rep (c : Ctx) := GS.Rep c.K c.C
abbrev Ctx.RepL (c : Ctx) := GS.RepL c.K c.C
/-- the frame's slots as data, the store -/
structure SS (c : Ctx) (ρ : List D) (m : List Cell) (z : Fz) (σ : L2.St) (H : Hp) : Prop where
  st : Sto c.K c.C m z H
  gr : Gr c.z0 c.H0 z H
  len : σ.length = ρ.length
  sl : ∀ (i : Nat) (d : D), ρ[i]? = some d → d ≠ .no → ∃ v, σ[i]? = some (some v) ∧ c.Rep z d v
section
variable {c : Ctx} {ρ : List D} {m m' : List Cell} {z z' : Fz} {σ : L2.St} {H H' : Hp}
theorem SS.go (S : SS c ρ m z σ H) (g : Gr z H z' H') (st : Sto c.K c.C m' z' H') : SS c ρ m' z' σ H' :=
  ⟨st, S.gr.trans g, S.len, fun i d h hn => by obtain ⟨v, h1, h2⟩ := S.sl i d h hn; exact ⟨v, h1, Rep.mono g.toLe _ _ h2⟩⟩
theorem SS.new (S : SS c ρ m z σ H) {p : Addr} (o : HO) (hp : H p = none) : SS c ρ m ⟨z.A, upd z.F p o⟩ σ (upd H p o) ∧ Gr z H ⟨z.A, upd z.F p o⟩ (upd H p o) := by
  obtain ⟨a, b⟩ := S.st.new o hp
  exact ⟨S.go b a, b⟩
end
end GS
end

noncomputable section
namespace GS
open PySem L2

/-- how an exception's fields lie -/
def ExcAt (K : PySem.W.Frag) (C : Nat → Addr) (z : Fz) (H : Hp) (fs : List (Str × D)) (d : Option Addr) : Prop :=
  (fs = [] ∧ d = none) ∨ ∃ dd gs, d = some dd ∧ z.F dd = some (.xd gs) ∧ RepF K C z fs gs
/-- what is wanted behind r -/
def At {α β : Type} (c : Ctx) (rel : α → β → Fz → Prop) (r : R α) (ρ : List D) (z : Fz) (σ : L2.St) (H : Hp) (Q : β → Hp → Prop) : Prop :=
  match r with
  | .ok a m => ∀ v H' z', SS c ρ m z' σ H' → Gr z H z' H' → rel a v z' → Q v H'
  | .exc k fs m => ∀ d H' z', SS c ρ m z' σ H' → Gr z H z' H' → ExcAt c.K c.C z' H' fs d → c.W (.ref (c.C k)) d σ H'
  | .stuck => False
def tG {α β : Type} (c : Ctx) (rel : α → β → Fz → Prop) (f : List D → List Cell → R α) : L2.St → Hp → (β → Hp → Prop) → Prop := fun σ H Q =>
  ∃ ρ m z, SS c ρ m z σ H ∧ At c rel (f ρ m) ρ z σ H Q

def rD (c : Ctx) : D → V → Fz → Prop := fun d v z => c.Rep z d v
def rL (c : Ctx) : List D → List V → Fz → Prop := fun d v z => c.RepL z d v
def rB : Bool → Bool → Fz → Prop := fun b k _ => b = k

/-- what may be read: a thing of the store is looked up -/
def ofCell : Option Cell → D
  | some (.lst l) => .lst l
  | some (.dct l) => .dct l
  | some (.ins c l) => .ins c l
  | _ => .no
def res (m : List Cell) : D → D
  | .obj n => ofCell m[n]?
  | d => d
def RepR (c : Ctx) (z : Fz) (H : Hp) : D → V → Prop
  | .lst l, v => ∃ a xs, v = .ref a ∧ Rd H a (.lst xs) ∧ c.RepL z l xs
  | .dct l, v => ∃ a kvs, v = .ref a ∧ Rd H a (.dK kvs) ∧ RepK c.K c.C z l kvs
  | .ins k fs, v => ∃ a dx gs, v = .ref a ∧ H a = some (.ins (c.C k) dx gs) ∧ RepF c.K c.C z fs gs
  | .no, _ => True
  | .scr ns, v => ∃ a, v = .ref a ∧ SqL c.K H a (ns.map V.int)
  | d, v => c.Rep z d v
section
variable {c : Ctx} {α β γ δ : Type} {rel : α → β → Fz → Prop} {rel3 : γ → δ → Fz → Prop} {ρ : List D} {m : List Cell} {z : Fz} {H : Hp} {σ : L2.St}
theorem RepR.of (le : Same z.F H) : ∀ {d : D} {v : V}, c.Rep z d v → RepR c z H d v
  | .lst l, v, ⟨a, xs, h1, h2, h3⟩ => ⟨a, xs, h1, same_rd le h2, h3⟩
  | .dct l, v, ⟨a, o, kvs, h1, h2, h3⟩ => ⟨a, kvs, h1, .inr ⟨o, le _ _ h2⟩, h3⟩
  | .ins k l, v, ⟨a, dx, gs, h1, h2, h3⟩ => ⟨a, dx, gs, h1, le _ _ h2, h3⟩
  | .no, v, h => trivial
  | .scr ns, v, ⟨a, h1, h2⟩ => ⟨a, h1, le.seq h2⟩
  | .non, v, h => h
  | .bl _, v, h => h
  | .int _, v, h => h
  | .str _, v, h => h
  | .tup _, v, h => h
  | .obj _, v, h => h
  | .exn _ _, v, h => h
  | .fn _, v, h => h
theorem res_ok (S : Sto c.K c.C m z H) {d : D} {v : V} (h : c.Rep z d v) : RepR c z H (res m d) v := by
  cases d with
  | obj n =>
    obtain ⟨a, rfl, ha⟩ := h
    show RepR c z H (ofCell m[n]?) _
    cases q : m[n]? with
    | none => exact trivial
    | some k =>
      cases k with
      | dead => exact trivial
      | lst l =>
        obtain ⟨xs, h1, h2⟩ := (S.cell n _ a q ha (by simp)).2
        exact ⟨a, xs, rfl, .inl h1, h2⟩
      | dct l =>
        obtain ⟨xs, h1, h2⟩ := (S.cell n _ a q ha (by simp)).2
        exact ⟨a, xs, rfl, .inl h1, h2⟩
      | ins k l =>
        obtain ⟨dx, xs, h1, h2⟩ := (S.cell n _ a q ha (by simp)).2
        exact ⟨a, dx, xs, rfl, h1, h2⟩
  | _ => exact RepR.of S.le h
theorem At.imp {r : R α} {Q Q' : β → Hp → Prop} (h : At c rel r ρ z σ H Q) (f : ∀ v H', Q v H' → Q' v H') : At c rel r ρ z σ H Q' := by
  cases r with
  | ok d m => exact fun v H' z' S g r => f v H' (h v H' z' S g r)
  | exc k fs m => exact h
  | stuck => exact h
/-- one after the other -/
theorem At.bind {r : R α} {k : α → List Cell → R γ} {Q : δ → Hp → Prop} (h : At c rel3 (r.bind k) ρ z σ H Q) :
    At c rel r ρ z σ H (fun x H1 => ∃ z1 a m1, SS c ρ m1 z1 σ H1 ∧ Gr z H z1 H1 ∧ rel a x z1 ∧ r = .ok a m1 ∧ At c rel3 (k a m1) ρ z1 σ H1 Q) := by
  cases r with
  | ok d m1 =>
    intro v H1 z1 S1 g1 r1
    refine ⟨z1, d, m1, S1, g1, r1, rfl, ?_⟩
    have h : At c rel3 (k d m1) ρ z σ H Q := h
    cases e : k d m1 with
    | ok d2 m2 => rw [e] at h; exact fun v H' z' S g r => h v H' z' S (g1.trans g) r
    | exc k2 fs m2 => rw [e] at h; exact fun d H' z' S g x => h d H' z' S (g1.trans g) x
    | stuck => rw [e] at h; exact h
  | exc k fs m => exact h
  | stuck => exact h
theorem At.ret {d : α} {v : β} {Q : β → Hp → Prop} (h : At c rel (.ok d m) ρ z σ H Q) (S : SS c ρ m z σ H) (r : rel d v z) : Q v H := h v H z S (.refl _ _) r
theorem At.of {o : Option α} {Q : β → Hp → Prop} (h : At c rel (R.of o m) ρ z σ H Q) : ∃ a, o = some a ∧ At c rel (.ok a m) ρ z σ H Q := by
  cases o with
  | some a => exact ⟨a, rfl, h⟩
  | none => exact h.elim
end

/-- by the reading alone -/
theorem _root_.L2.PE.imp {X : Cx} {e : Expr} {t t' : TE} (h : PE X e t) (f : ∀ σ H Q, t' σ H Q → t σ H Q) : PE X e t' := ⟨fun pins s σ H Q I q => h.run pins s σ H Q I (f _ _ _ q)⟩
theorem _root_.L2.PT.imp {X : Cx} {e : Expr} {t t' : TT} (h : PT X e t) (f : ∀ σ H Q, t' σ H Q → t σ H Q) : PT X e t' := ⟨fun pins s σ H Q I q => h.run pins s σ H Q I (f _ _ _ q)⟩
theorem _root_.L2.PW.imp {X : Cx} {e : Expr} {t t' : TT} (h : PW X e t) (f : ∀ σ H Q, t' σ H Q → t σ H Q) : PW X e t' := ⟨fun wh pins s σ H Q I q => h.run wh pins s σ H Q I (f _ _ _ q)⟩
theorem _root_.L2.PA.imp {X : Cx} {e : List Expr} {t t' : TA} (h : PA X e t) (f : ∀ σ H Q, t' σ H Q → t σ H Q) : PA X e t' := ⟨fun pos pins s σ H Q I q => h.run pos pins s σ H Q I (f _ _ _ q)⟩
theorem _root_.L2.PS.imp {X : Cx} {e : Stmt} {t t' : TS} (h : PS X e t) (f : ∀ D σ H, t' D σ H → t D σ H) : PS X e t' := ⟨fun pins s σ H D I q => h.run pins s σ H D I (f _ _ _ q)⟩
theorem _root_.L2.PSs.imp {X : Cx} {e : List Stmt} {t t' : TS} (h : PSs X e t) (f : ∀ D σ H, t' D σ H → t D σ H) : PSs X e t' := ⟨fun pins s σ H D I q => h.run pins s σ H D I (f _ _ _ q)⟩
theorem _root_.L2.PI.imp {X : Cx} {tg iter : Expr} {t t' : TI} (h : PI X tg iter t) (f : ∀ σ H R, t' σ H R → t σ H R) : PI X tg iter t' := ⟨fun pins s σ H R I q => h.run pins s σ H R I (f _ _ _ q)⟩

/-! ### pieces in a row, by values -/
section
variable {c : Ctx} {X : Cx} {a b : Expr} {f g : List D → List Cell → R D} {pos : Pos}
/-- what a plain rule of values asks: of the things looked up -/
def r1 (c : Ctx) (op : D → Option D) : V → Hp → VK → Prop := fun x H Q => ∃ ρ m z σ d, SS c ρ m z σ H ∧ RepR c z H d x ∧ At c (rD c) (R.of (op d) m) ρ z σ H Q
def r2 (c : Ctx) (op : D → D → Option D) : R2 := fun x y H Q => ∃ ρ m z σ d e, SS c ρ m z σ H ∧ RepR c z H d x ∧ RepR c z H e y ∧ At c (rD c) (R.of (op d e) m) ρ z σ H Q
def ev1 (f : List D → List Cell → R D) (op : D → Option D) : List D → List Cell → R D := fun ρ m => (f ρ m).bind fun x m => R.of (op (res m x)) m
def ev2 (f g : List D → List Cell → R D) (op : D → D → Option D) : List D → List Cell → R D := fun ρ m => (f ρ m).bind fun x m => (g ρ m).bind fun y m => R.of (op (res m x) (res m y)) m
theorem seq1 {op : D → Option D} {σ : L2.St} {H : Hp} {Q : VK} (h : tG c (rD c) (ev1 f op) σ H Q) : tG c (rD c) f σ H fun x H1 => r1 c op x H1 Q := by
  obtain ⟨ρ, m, z, S, A⟩ := h
  exact ⟨ρ, m, z, S, A.bind.imp fun x H1 ⟨z1, d, m1, S1, g1, q1, _, A1⟩ => ⟨ρ, m1, z1, σ, _, S1, res_ok S1.st q1, A1⟩⟩
theorem seq2 {op : D → D → Option D} {σ : L2.St} {H : Hp} {Q : VK} (h : tG c (rD c) (ev2 f g op) σ H Q) : tG c (rD c) f σ H fun x H1 => tG c (rD c) g σ H1 fun y H2 => r2 c op x y H2 Q := by
  obtain ⟨ρ, m, z, S, A⟩ := h
  refine ⟨ρ, m, z, S, A.bind.imp fun x H1 ⟨z1, d, m1, S1, g1, q1, _, A1⟩ => ⟨ρ, m1, z1, S1, A1.bind.imp fun y H2 ⟨z2, e, m2, S2, g2, q2, _, A2⟩ => ?_⟩⟩
  exact ⟨ρ, m2, z2, σ, _, _, S2, res_ok S2.st (Rep.mono g2.toLe _ _ q1), res_ok S2.st q2, A2⟩
theorem pe_bin {op : Operator} {h : D → D → Option D} (hr : OpR X (binaryOp op) (r2 c h)) (ha : PE X a (tG c (rD c) f)) (hb : PE X b (tG c (rD c) g)) :
    PE X (.BinOp a op b pos) (tG c (rD c) (ev2 f g h)) := (pe_op hr ha hb).imp fun _ _ _ q => seq2 q
theorem pe_ix2 {h : D → D → Option D} (hr : IxR X (r2 c h)) (hs : PlainIx b) (ha : PE X a (tG c (rD c) f)) (hb : PE X b (tG c (rD c) g)) :
    PE X (.Subscript a b pos) (tG c (rD c) (ev2 f g h)) := (pe_ix hr ha hb hs).imp fun _ _ _ q => seq2 q
end

/-! ### the argument lists, displays -/
section
variable {c : Ctx} {X : Cx} {e : Expr} {es : List Expr} {f : List D → List Cell → R D} {fs : List D → List Cell → R (List D)} {pos : Pos}
theorem da_nil : PA X [] (tG c (rL c) fun _ m => .ok [] m) := pa_nil.imp fun σ H Q h => by
  obtain ⟨ρ, m, z, S, A⟩ := h
  exact A.ret S rfl
def evCons (f : List D → List Cell → R D) (fs : List D → List Cell → R (List D)) : List D → List Cell → R (List D) := fun ρ m => (f ρ m).bind fun x m => (fs ρ m).bind fun xs m => .ok (x :: xs) m
theorem da_cons (ha : PE X e (tG c (rD c) f)) (hr : PA X es (tG c (rL c) fs)) (hs : starEach (e :: es) X.env = (false, eval e X.env) :: starEach es X.env) :
    PA X (e :: es) (tG c (rL c) (evCons f fs)) := (pa_cons ha hr hs).imp fun σ H Q h => by
  obtain ⟨ρ, m, z, S, A⟩ := h
  refine ⟨ρ, m, z, S, A.bind.imp fun x H1 ⟨z1, d, m1, S1, g1, q1, _, A1⟩ => ⟨ρ, m1, z1, S1, A1.bind.imp fun xs H2 ⟨z2, ds, m2, S2, g2, q2, _, A2⟩ => ?_⟩⟩
  exact A2.ret S2 ⟨x, xs, rfl, Rep.mono g2.toLe _ _ q1, q2⟩
/-- a size -/
def lim {α : Type} (n : Nat) (r : Option α) : Option α := if cd (n ≤ sizeLine) = true then r else none
theorem lim_some {α : Type} {n : Nat} {r : Option α} {a : α} (h : lim n r = some a) : n ≤ sizeLine ∧ r = some a := by
  unfold lim at h
  split at h
  · exact ⟨cd_iff.mp (by assumption), h⟩
  · cases h
def mkTup (xs : List D) : Option D := lim xs.length (some (.tup xs))
def mkLst (xs : List D) : Option D := lim xs.length (some (.lst xs))
/-- a new tuple, a new list of data -/
theorem At.newTup {ρ : List D} {m : List Cell} {z : Fz} {H : Hp} {σ : L2.St} {Q : VK} {ds : List D} {xs : List V} (A : At c (rD c) (.ok (.tup ds) m) ρ z σ H Q) (S : SS c ρ m z σ H) (h : c.RepL z ds xs) : ∀ p, H p = none → Q (.ref p) (upd H p (.tup xs)) := fun p hp => by
  obtain ⟨S2, g2⟩ := S.new (.tup xs) hp
  exact A _ _ _ S2 g2 ⟨p, xs, rfl, .of upd_same, RepL.mono g2.toLe _ _ h⟩
theorem At.newLst {ρ : List D} {m : List Cell} {z : Fz} {H : Hp} {σ : L2.St} {Q : VK} {ds : List D} {xs : List V} (A : At c (rD c) (.ok (.lst ds) m) ρ z σ H Q) (S : SS c ρ m z σ H) (h : c.RepL z ds xs) : ∀ p, H p = none → Q (.ref p) (upd H p (.lst xs)) := fun p hp => by
  obtain ⟨S2, g2⟩ := S.new (.lst xs) hp
  exact A _ _ _ S2 g2 ⟨p, xs, rfl, .of upd_same, RepL.mono g2.toLe _ _ h⟩
def evMk (fs : List D → List Cell → R (List D)) (mk : List D → Option D) : List D → List Cell → R D := fun ρ m => (fs ρ m).bind fun xs m => R.of (mk xs) m
theorem pe_tupD (h : PA X es (tG c (rL c) fs)) {x1} : PE X (.Tuple es x1 pos) (tG c (rD c) (evMk fs mkTup)) := (pe_tup h).imp fun σ H Q h => by
  obtain ⟨ρ, m, z, S, A⟩ := h
  refine ⟨ρ, m, z, S, A.bind.imp fun xs H1 ⟨z1, ds, m1, S1, g1, q1, _, A1⟩ => ?_⟩
  obtain ⟨a, e, A2⟩ := A1.of
  obtain ⟨hl, e⟩ := lim_some e
  cases e
  exact ⟨by rw [RepL.length q1]; exact hl, A2.newTup S1 q1⟩
theorem pe_lstD (h : PA X es (tG c (rL c) fs)) : PE X (.List es pos) (tG c (rD c) (evMk fs mkLst)) := (pe_lst h).imp fun σ H Q h => by
  obtain ⟨ρ, m, z, S, A⟩ := h
  refine ⟨ρ, m, z, S, A.bind.imp fun xs H1 ⟨z1, ds, m1, S1, g1, q1, _, A1⟩ => ?_⟩
  obtain ⟨a, e, A2⟩ := A1.of
  obtain ⟨hl, e⟩ := lim_some e
  cases e
  exact ⟨by rw [RepL.length q1]; exact hl, A2.newLst S1 q1⟩
end

/-! ### names and constants -/
section
variable {c : Ctx} {X : Cx} {pos : Pos}
def gV : Option D → Option D
  | some .no => none
  | some d => some d
  | none => none
def getV (i : Nat) : List D → List Cell → R D := fun ρ m => R.of (gV ρ[i]?) m
theorem gV_some {o : Option D} {d : D} (h : gV o = some d) : o = some d ∧ d ≠ .no := by
  cases o with
  | none => cases h
  | some e =>
    cases e <;> first | (cases h; done) | (cases h; exact ⟨rfl, by simp⟩)
theorem pe_varD {i : Nat} {x : Str} (hN : X.N[i]? = some x) (hv : Vis X.env.scope x) (hd : (x == ("__debug__" : Str)) = false) (hcd : (x == ("__classdict__" : Str)) = false) : PE X (.Name x pos) (tG c (rD c) (getV i)) :=
  (pe_var hN hv hd hcd).imp fun σ H Q h => by
    obtain ⟨ρ, m, z, S, A⟩ := h
    obtain ⟨d, e, A⟩ := A.of
    obtain ⟨h1, h2⟩ := gV_some e
    obtain ⟨v, q1, q2⟩ := S.sl i d h1 h2
    exact ⟨v, q1, A.ret S q2⟩
theorem pe_conD {e : Expr} {v : V} {d : D} (h : PE X e (tC v)) (r : ∀ z, c.Rep z d v) : PE X e (tG c (rD c) fun _ m => .ok d m) := h.imp fun σ H Q h => by
  obtain ⟨ρ, m, z, S, A⟩ := h
  exact A.ret S (r z)
end
end GS
end

noncomputable section
namespace GS
open PySem L2

/-! ### operators on data -/
def addD : D → D → Option D
  | .int i, .int j => some (.int (i + j))
  | .str x, .str y => lim (x.length + y.length) (some (.str (x ++ y)))
  | .tup xs, .tup ys => lim (xs.length + ys.length) (some (.tup (xs ++ ys)))
  | .lst xs, .lst ys => lim (xs.length + ys.length) (some (.lst (xs ++ ys)))
  | _, _ => none
def subD : D → D → Option D
  | .int i, .int j => some (.int (i - j))
  | _, _ => none
def mulOk (i j : Int) : Bool := cd (-(2 ^ 64) < i ∧ i < 2 ^ 64) || cd (-(2 ^ 64) < j ∧ j < 2 ^ 64)
def mulD : D → D → Option D
  | .int i, .int j => if mulOk i j = true then some (.int (i * j)) else none
  | .tup xs, .int k => if cd (xs ≠ [] ∧ 0 ≤ k ∧ k ≤ 1000 ∧ xs.length ≤ 1000) = true then some (.tup (List.replicate k.toNat xs).flatten) else none
  | .lst xs, .int k => if cd (0 ≤ k ∧ k < 2 ^ 20 ∧ xs.length * k.toNat ≤ sizeLine) = true then some (.lst (List.replicate k.toNat xs).flatten) else none
  | _, _ => none
def divOk (j : Int) : Bool := cd (0 < j ∧ j < 2 ^ 200)
def fdivD : D → D → Option D
  | .int i, .int j => if divOk j = true then some (.int (i / j)) else none
  | _, _ => none
def modD : D → D → Option D
  | .int i, .int j => if cd (0 < j) = true then some (.int (i % j)) else none
  | _, _ => none
def powD : D → D → Option D
  | .int i, .int j => if cd (0 ≤ j ∧ j ≤ 1000000 ∧ i.natAbs < 2 ^ 64) = true then some (.int (i ^ j.toNat)) else none
  | _, _ => none
def shrD : D → D → Option D
  | .int i, .int j => if cd (0 ≤ j) = true then some (.int (i / 2 ^ j.toNat)) else none
  | _, _ => none
def xorD : D → D → Option D
  | .int i, .int j => some (.int (Builtin.bitXor i j))
  | _, _ => none
def binD : Operator → D → D → Option D
  | .Add => addD | .Sub => subD | .Mult => mulD | .FloorDiv => fdivD | .Mod => modD | .Pow => powD | .RShift => shrD | .BitXor => xorD
  | _ => fun _ _ => none

/-! ### comparisons of data -/
mutual
def toPy : D → PyData
  | .non => .none | .bl b => .bool b | .int i => .int i | .str s => .str s
  | .tup l => .tuple (toPyL l)
  | .lst l => .list (toPyL l)
  | _ => .dict []
def toPyL : List D → List PyData
  | [] => []
  | d :: ds => toPy d :: toPyL ds
end
/-- plain things -/
def scE : D → D → Option Bool
  | .int i, .int j => some (cd (i = j))
  | .str x, .str y => some (cd (x = y))
  | .bl x, .bl y => some (decide (x = y))
  | .non, .non => some true
  | .non, .int _ => some false | .int _, .non => some false | .non, .bl _ => some false | .bl _, .non => some false
  | .non, .str _ => some false | .str _, .non => some false
  | .int _, .str _ => some false | .str _, .int _ => some false | .bl _, .str _ => some false | .str _, .bl _ => some false
  | _, _ => none
def eqB (d e : D) : Option Bool := match scE d e with
  | some b => some b
  | none => if SeqAt.shaped (toPy d) && SeqAt.shaped (toPy e) then some (PyData.eqv (toPy d) (toPy e)) else none
def notO (o : Option Bool) : Option Bool := o.map (!·)
def keyD : D → Option Key
  | .int i => some (.inl i)
  | .str s => some (.inr s)
  | _ => none
def lookK (l : List (Key × D)) (k : Key) : Option D := (l.find? fun p => decide (p.1 = k)).map (·.2)
/-- ints, texts -/
def flatD : D → Bool
  | .int _ => true
  | .str _ => true
  | _ => false
def flatE : D → D → Bool
  | .int i, .int j => cd (i = j)
  | .str i, .str j => cd (i = j)
  | _, _ => false
def inB : D → D → Option Bool
  | .str x, .str z => match x.cps.toList with | [k] => some (decide (k ∈ z.cps.toList)) | _ => none
  | d, .dct l => (keyD d).map fun k => (lookK l k).isSome
  | d, .tup l => if flatD d && l.all flatD then some (l.any (flatE d)) else none
  | d, .lst l => if flatD d && l.all flatD then some (l.any (flatE d)) else
      if SeqAt.shaped (toPy d) && SeqAt.shaped (toPy (.lst l)) then some ((toPyL l).any fun z => PyData.eqv z (toPy d)) else none
  | _, _ => none
def isNon : D → Bool
  | .non => true
  | _ => false
def isBl : D → D → Option Bool
  | .bl a, .bl b => some (decide (a = b))
  | .no, .non => none
  | d, .non => some (isNon d)
  | _, _ => none
def cmpB : CmpOp → D → D → Option Bool
  | .Eq, d, e => eqB d e
  | .NotEq, d, e => notO (eqB d e)
  | .Lt, .int i, .int j => some (cd (i < j))
  | .LtE, .int i, .int j => some (cd (i ≤ j))
  | .Gt, .int i, .int j => some (cd (j < i))
  | .GtE, .int i, .int j => some (cd (j ≤ i))
  | .Lt, .str x, .str y => some (cd (x.cps.toList < y.cps.toList))
  | .LtE, .str x, .str y => some (!cd (y.cps.toList < x.cps.toList))
  | .Gt, .str x, .str y => some (cd (y.cps.toList < x.cps.toList))
  | .GtE, .str x, .str y => some (!cd (x.cps.toList < y.cps.toList))
  | .Is, d, e => isBl d e
  | .IsNot, d, e => notO (isBl d e)
  | .In, d, e => inB d e
  | .NotIn, d, e => notO (inB d e)
  | _, _, _ => none
def cmpD (o : CmpOp) (d e : D) : Option D := (cmpB o d e).map D.bl

section
variable {c : Ctx} {X : Cx}
theorem if_some {α : Type} {p : Prop} [Decidable p] {r : Option α} {a : α} (h : (if p then r else none) = some a) : p ∧ r = some a := by
  split at h
  · exact ⟨by assumption, h⟩
  · cases h
/-- list + list, read -/
theorem op_catR {pins : List (Addr × Obj)} {s : Shared} {σ : L2.St} {H : Hp} {l b : Addr} {xs zs : List V} {Q : VK} (I : L2.Inv X pins σ H s) (hH : Rd H l (.lst xs)) (hB : Rd H b (.lst zs)) (hz : xs.length + zs.length ≤ sizeLine) (q : ∀ p, H p = none → Q (.ref p) (upd H p (.lst (xs ++ zs)))) :
    wpAny (model X.prog X.w) X.A (binaryOp .Add (.ref l) (.ref b)) (EP X pins σ Q) X.xe s := by
  obtain ⟨hl, its, n, r, e⟩ := hH.ok I.hok
  obtain ⟨hl2, its2, n2, r2, e2⟩ := hB.ok I.hok
  have k1 := Paired.length r
  have k2 := Paired.length r2
  refine PySem.P.add_list e e2 ?_ (by rw [List.size_toArray, List.size_toArray]; omega)
  have ea : its.toArray ++ its2.toArray = (its ++ its2).toArray := by simp
  rw [ea]
  exact ⟨.ref _, _, I.lnew (t' := s.toks) (r.append r2) (by rw [List.length_append]; omega), rfl, q _ I.fresh⟩
theorem or_add (hK : X.K = c.K) : OpR X (binaryOp .Add) (r2 c addD) := by
  intro pins s σ' H x y v u Q I rx ry h
  obtain ⟨ρ, m, z, σ, d, e, S, hd, he, A⟩ := h
  obtain ⟨b, eb, A⟩ := A.of
  unfold addD at eb
  split at eb
  · cases eb
    obtain rfl : x = .int _ := hd
    obtain rfl : y = .int _ := he
    exact op_add pins s σ' H _ _ v u Q I rx ry ⟨_, _, rfl, rfl, A.ret S rfl⟩
  · obtain ⟨hl, eb⟩ := lim_some eb
    cases eb
    obtain rfl : x = .str _ := hd
    obtain rfl : y = .str _ := he
    exact op_add_str pins s σ' H _ _ v u Q I rx ry ⟨_, _, rfl, rfl, hl, A.ret S rfl⟩
  · obtain ⟨hl, eb⟩ := lim_some eb
    cases eb
    obtain ⟨a, vs, rfl, q1, q2⟩ := hd
    obtain ⟨b, ws, rfl, p1, p2⟩ := he
    have l1 := RepL.length q2
    have l2 := RepL.length p2
    have n1 := same_seqT S.st.le q1
    have n2 := same_seqT S.st.le p1
    rw [← hK] at n1 n2
    refine op_catA pins s σ' H _ _ v u Q I rx ry ⟨a, b, vs, ws, rfl, rfl, n1, n2, by rw [l1, l2]; exact hl, fun e => ?_, fun _ e => ?_, fun _ _ => At.newTup A S (q2.append p2)⟩
    · subst e
      have e2 := List.length_eq_zero_iff.mp l1.symm
      subst e2
      exact A.ret S ⟨b, ws, rfl, p1, p2⟩
    · subst e
      have e2 := List.length_eq_zero_iff.mp l2.symm
      subst e2
      rw [List.append_nil] at A
      exact A.ret S ⟨a, vs, rfl, q1, q2⟩
  · obtain ⟨hl, eb⟩ := lim_some eb
    cases eb
    obtain ⟨a, vs, rfl, q1, q2⟩ := hd
    obtain ⟨b, ws, rfl, p1, p2⟩ := he
    cases rx
    cases ry
    exact op_catR I q1 p1 (by rw [RepL.length q2, RepL.length p2]; exact hl) (At.newLst A S (q2.append p2))
  · cases eb
theorem rep_flat {z : Fz} {ds : List D} {xs : List V} (k : Nat) (h : c.RepL z ds xs) : c.RepL z (List.replicate k ds).flatten (List.replicate k xs).flatten := by
  induction k with
  | zero => exact rfl
  | succ k ih => simp only [List.replicate_succ, List.flatten_cons]; exact RepL.append h ih
theorem or_bin (hK : X.K = c.K) (o : Operator) : OpR X (binaryOp o) (r2 c (binD o)) := by
  cases o with
  | Add => exact or_add hK
  | Sub =>
    intro pins s σ' H x y v u Q I rx ry ⟨ρ, m, z, σ, d, e, S, hd, he, A⟩
    obtain ⟨b, eb, A⟩ := A.of
    simp only [binD] at eb
    unfold subD at eb
    split at eb
    · cases eb
      obtain rfl : x = .int _ := hd
      obtain rfl : y = .int _ := he
      exact op_sub pins s σ' H _ _ v u Q I rx ry ⟨_, _, rfl, rfl, A.ret S rfl⟩
    · cases eb
  | Mult =>
    intro pins s σ' H x y v u Q I rx ry ⟨ρ, m, z, σ, d, e, S, hd, he, A⟩
    obtain ⟨b, eb, A⟩ := A.of
    simp only [binD] at eb
    unfold mulD at eb
    split at eb
    · obtain rfl : x = .int _ := hd
      obtain rfl : y = .int _ := he
      obtain ⟨hm, eb⟩ := if_some eb
      cases eb
      refine op_mul pins s σ' H _ _ v u Q I rx ry ⟨_, _, rfl, rfl, ?_, A.ret S rfl⟩
      unfold mulOk at hm
      simp only [Bool.or_eq_true, cd_eq] at hm
      exact hm
    · obtain rfl : y = .int _ := he
      obtain ⟨hm, eb⟩ := if_some eb
      obtain ⟨m1, m2, m3, m4⟩ := cd_iff.mp hm
      cases eb
      obtain ⟨a, vs, rfl, q1, q2⟩ := hd
      have l1 := RepL.length q2
      have n1 := same_seqT S.st.le q1
      rw [← hK] at n1
      refine op_repA pins s σ' H _ _ v u Q I rx ry ⟨a, _, vs, rfl, rfl, n1, fun e => m1 (by rw [e] at l1; exact List.length_eq_zero_iff.mp l1.symm), m2, m3, by omega, fun e => ?_, fun _ => At.newTup A S (rep_flat _ q2)⟩
      subst e
      exact A.ret S ⟨a, vs, rfl, q1, by simpa using q2⟩
    · obtain rfl : y = .int _ := he
      obtain ⟨hm, eb⟩ := if_some eb
      obtain ⟨m1, m2, m3⟩ := cd_iff.mp hm
      cases eb
      obtain ⟨a, vs, rfl, q1, q2⟩ := hd
      cases rx
      obtain ⟨t, rfl⟩ := ry
      exact op_repR I q1 (by omega) (by omega) (by rw [RepL.length q2]; exact m3) (At.newLst A S (rep_flat _ q2))
    · cases eb
  | FloorDiv =>
    intro pins s σ' H x y v u Q I rx ry ⟨ρ, m, z, σ, d, e, S, hd, he, A⟩
    obtain ⟨b, eb, A⟩ := A.of
    simp only [binD] at eb
    unfold fdivD at eb
    split at eb
    · obtain rfl : x = .int _ := hd
      obtain rfl : y = .int _ := he
      obtain ⟨hm, eb⟩ := if_some eb
      cases eb
      refine op_fdivW pins s σ' H _ _ v u Q I rx ry ⟨_, _, rfl, rfl, ?_, A.ret S rfl⟩
      unfold divOk at hm
      have hm := cd_iff.mp hm
      exact wide_div (b := 200) hm.1 (by omega) (by decide) (by decide)
    · cases eb
  | Mod =>
    intro pins s σ' H x y v u Q I rx ry ⟨ρ, m, z, σ, d, e, S, hd, he, A⟩
    obtain ⟨b, eb, A⟩ := A.of
    simp only [binD] at eb
    unfold modD at eb
    split at eb
    · obtain rfl : x = .int _ := hd
      obtain rfl : y = .int _ := he
      obtain ⟨hm, eb⟩ := if_some eb
      cases eb
      have hm := cd_iff.mp hm
      refine op_modN pins s σ' H _ _ v u Q I rx ry ⟨_, _, rfl, rfl, by omega, ?_⟩
      have q := A.ret S rfl
      show Q (.int (Int.fmod _ _)) H
      rw [Int.fmod_eq_emod_of_nonneg _ (by omega)]
      exact q
    · cases eb
  | Pow =>
    intro pins s σ' H x y v u Q I rx ry ⟨ρ, m, z, σ, d, e, S, hd, he, A⟩
    obtain ⟨b, eb, A⟩ := A.of
    simp only [binD] at eb
    unfold powD at eb
    split at eb
    · obtain rfl : x = .int _ := hd
      obtain rfl : y = .int _ := he
      obtain ⟨hm, eb⟩ := if_some eb
      cases eb
      exact op_pow pins s σ' H _ _ v u Q I rx ry ⟨_, _, rfl, rfl, cd_iff.mp hm, A.ret S rfl⟩
    · cases eb
  | RShift =>
    intro pins s σ' H x y v u Q I rx ry ⟨ρ, m, z, σ, d, e, S, hd, he, A⟩
    obtain ⟨b, eb, A⟩ := A.of
    simp only [binD] at eb
    unfold shrD at eb
    split at eb
    · obtain rfl : x = .int _ := hd
      obtain rfl : y = .int _ := he
      obtain ⟨hm, eb⟩ := if_some eb
      cases eb
      exact op_shr pins s σ' H _ _ v u Q I rx ry ⟨_, _, rfl, rfl, cd_iff.mp hm, A.ret S rfl⟩
    · cases eb
  | BitXor =>
    intro pins s σ' H x y v u Q I rx ry ⟨ρ, m, z, σ, d, e, S, hd, he, A⟩
    obtain ⟨b, eb, A⟩ := A.of
    simp only [binD] at eb
    unfold xorD at eb
    split at eb
    · cases eb
      obtain rfl : x = .int _ := hd
      obtain rfl : y = .int _ := he
      exact op_xor pins s σ' H _ _ v u Q I rx ry ⟨_, _, rfl, rfl, A.ret S rfl⟩
    · cases eb
  | _ =>
    intro pins s σ' H x y v u Q I rx ry ⟨ρ, m, z, σ, d, e, S, hd, he, A⟩
    obtain ⟨b, eb, A⟩ := A.of
    cases eb

/-! ### comparisons -/
mutual
theorem dp_of {z : Fz} {H : Hp} (le : Same z.F H) : ∀ (d : D) (v : V), c.Rep z d v → SeqAt.shaped (toPy d) = true ∨ (toPy d).canLay0 = true → Dp c.K H v (toPy d)
  | .no, v, h, _ => by exact h.elim
  | .non, v, h, _ => by have h : v = .non := h; subst h; exact .non
  | .bl b, v, h, _ => by have h : v = .bl b := h; subst h; exact .bl b
  | .int b, v, h, _ => by have h : v = .int b := h; subst h; exact .int b
  | .str b, v, h, _ => by have h : v = .str b := h; subst h; exact .str b
  | .tup l, v, h, q => by
    obtain ⟨a, xs, rfl, h1, h2⟩ := h
    exact .tup (same_seqT le h1) (dpAll_of le l xs h2 (q.elim SeqAt.canLay_of_shaped _root_.id))
  | .lst l, v, h, q => by
    obtain ⟨a, xs, rfl, h1, h2⟩ := h
    exact .lst (.inl (same_rd le h1)) (dpAll_of le l xs h2 (q.elim SeqAt.canLay_of_shaped _root_.id))
  | .dct l, v, h, q => by rcases q with q | q <;> simp [toPy, SeqAt.shaped, PyData.canLay0] at q
  | .ins k l, v, h, q => by rcases q with q | q <;> simp [toPy, SeqAt.shaped, PyData.canLay0] at q
  | .obj k, v, h, q => by rcases q with q | q <;> simp [toPy, SeqAt.shaped, PyData.canLay0] at q
  | .exn k l, v, h, q => by rcases q with q | q <;> simp [toPy, SeqAt.shaped, PyData.canLay0] at q
  | .fn k, v, h, q => by rcases q with q | q <;> simp [toPy, SeqAt.shaped, PyData.canLay0] at q
  | .scr k, v, h, q => by rcases q with q | q <;> simp [toPy, SeqAt.shaped, PyData.canLay0] at q
theorem dpAll_of {z : Fz} {H : Hp} (le : Same z.F H) : ∀ (ds : List D) (xs : List V), c.RepL z ds xs → PyData.canLayAll0 (toPyL ds) = true → DpAll c.K H xs (toPyL ds)
  | [], xs, h, _ => by have h : xs = [] := h; subst h; exact .nil
  | d :: ds, xs, h, q => by
    obtain ⟨x, r, rfl, h1, h2⟩ := h
    simp only [toPyL, PyData.canLayAll0, Bool.and_eq_true] at q
    exact .cons (dp_of le d x h1 (.inr q.1)) (dpAll_of le ds r h2 q.2)
end
/-- data to be read, to compare -/
theorem dpR {z : Fz} {H : Hp} (le : Same z.F H) : ∀ {d : D} {v : V}, RepR c z H d v → SeqAt.shaped (toPy d) = true → Dp c.K H v (toPy d)
  | .lst l, v, ⟨a, xs, h1, h2, h3⟩, q => by subst h1; exact .lst (.inl h2) (dpAll_of le l xs h3 (SeqAt.canLay_of_shaped q))
  | .no, v, h, q => by simp [toPy, SeqAt.shaped, PyData.canLay0] at q
  | .dct l, v, h, q => by simp [toPy, SeqAt.shaped, PyData.canLay0] at q
  | .ins k l, v, h, q => by simp [toPy, SeqAt.shaped, PyData.canLay0] at q
  | .obj k, v, h, q => by simp [toPy, SeqAt.shaped, PyData.canLay0] at q
  | .exn k l, v, h, q => by simp [toPy, SeqAt.shaped, PyData.canLay0] at q
  | .fn k, v, h, q => by simp [toPy, SeqAt.shaped, PyData.canLay0] at q
  | .scr k, v, h, q => by simp [toPy, SeqAt.shaped, PyData.canLay0] at q
  | .non, v, h, q => dp_of le _ _ h (.inl q)
  | .bl _, v, h, q => dp_of le _ _ h (.inl q)
  | .int _, v, h, q => dp_of le _ _ h (.inl q)
  | .str _, v, h, q => dp_of le _ _ h (.inl q)
  | .tup _, v, h, q => dp_of le _ _ h (.inl q)
theorem scE_ok {z : Fz} {H : Hp} {d e : D} {x y : V} {b : Bool} (h : scE d e = some b) (hd : RepR c z H d x) (he : RepR c z H e y) : scal x y = true ∧ b = decide (x = y) := by
  unfold scE at h
  split at h
  all_goals first
    | (cases h; done)
    | (obtain rfl : x = _ := hd; obtain rfl : y = _ := he; cases h; exact ⟨rfl, by first | (rw [← cd_of]; simp) | simp⟩)
theorem eqB_cases {d e : D} {b : Bool} (h : eqB d e = some b) : scE d e = some b ∨ (SeqAt.shaped (toPy d) = true ∧ SeqAt.shaped (toPy e) = true ∧ b = PyData.eqv (toPy d) (toPy e)) := by
  unfold eqB at h
  split at h
  · cases h; exact .inl (by assumption)
  · obtain ⟨q, h⟩ := if_some h
    rw [Bool.and_eq_true] at q
    cases h
    exact .inr ⟨q.1, q.2, rfl⟩
theorem notO_some {o : Option Bool} {b : Bool} (h : notO o = some b) : o = some (!b) := by
  cases o with
  | none => cases h
  | some k => cases h; simp
theorem isNon_of {z : Fz} {H : Hp} : ∀ {d : D} {x : V}, d ≠ .no → RepR c z H d x → decide (x = .non) = isNon d
  | .no, x, n, h => absurd rfl n
  | .non, x, _, h => by have h : x = .non := h; subst h; rfl
  | .bl b, x, _, h => by have h : x = .bl b := h; subst h; rfl
  | .int b, x, _, h => by have h : x = .int b := h; subst h; rfl
  | .str b, x, _, h => by have h : x = .str b := h; subst h; rfl
  | .tup l, x, _, h => by obtain ⟨a, xs, rfl, _⟩ := h; rfl
  | .lst l, x, _, h => by obtain ⟨a, xs, rfl, _⟩ := h; rfl
  | .dct l, x, _, h => by obtain ⟨a, xs, rfl, _⟩ := h; rfl
  | .ins c l, x, _, h => by obtain ⟨a, dx, gs, rfl, _⟩ := h; rfl
  | .obj n, x, _, h => by obtain ⟨a, rfl, _⟩ := h; rfl
  | .scr n, x, _, h => by obtain ⟨a, rfl, _⟩ := h; rfl
  | .exn _ _, x, _, h => h.elim
  | .fn _, x, _, h => h.elim
theorem val_look {z : Fz} : ∀ {ds : List (Key × D)} {kvs : List (Key × V)} {k : Key}, RepK c.K c.C z ds kvs → (∀ d, lookK ds k = some d → ∃ v, valV kvs k = some v ∧ c.Rep z d v) ∧ (lookK ds k = none → valV kvs k = none)
  | [], kvs, k, h => by have h : kvs = [] := h; subst h; exact ⟨fun d e => (by cases e), fun _ => rfl⟩
  | (k0, d0) :: ds, kvs, k, h => by
    obtain ⟨x, r, rfl, h1, h2⟩ := h
    obtain ⟨i1, i2⟩ := val_look (k := k) h2
    unfold lookK at i1 i2 ⊢
    unfold valV at i1 i2 ⊢
    by_cases e : k0 = k
    · simp only [List.find?_cons, e, decide_true, Option.map_some]
      exact ⟨fun d q => by cases q; exact ⟨x, rfl, h1⟩, fun q => by cases q⟩
    · simp only [List.find?_cons, e, decide_false]
      exact ⟨i1, i2⟩
theorem key_v {z : Fz} {H : Hp} {d : D} {k : Key} {x : V} (h : keyD d = some k) (r : RepR c z H d x) : x = kV k := by
  cases d <;> first | (cases h; done) | (cases h; exact r)
theorem flat_v {z : Fz} {d : D} {x : V} (h : flatD d = true) (r : c.Rep z d x) : flatV x = true ∧ ((∃ i, d = .int i ∧ x = .int i) ∨ ∃ s, d = .str s ∧ x = .str s) := by
  cases d <;> first | (cases h; done) | skip
  · obtain rfl : x = .int _ := r; exact ⟨rfl, .inl ⟨_, rfl, rfl⟩⟩
  · obtain rfl : x = .str _ := r; exact ⟨rfl, .inr ⟨_, rfl, rfl⟩⟩
theorem flat_all {z : Fz} {d : D} {x : V} (h : flatD d = true) (r : c.Rep z d x) : ∀ {ds : List D} {xs : List V}, c.RepL z ds xs → ds.all flatD = true → xs.all flatV = true ∧ inV x xs = ds.any (flatE d)
  | [], xs, q, _ => by have q : xs = [] := q; subst q; exact ⟨rfl, rfl⟩
  | e :: ds, xs, q, a => by
    obtain ⟨y, ys, rfl, q1, q2⟩ := q
    rw [List.all_cons, Bool.and_eq_true] at a
    obtain ⟨i1, i2⟩ := flat_all h r q2 a.2
    obtain ⟨f1, f2⟩ := flat_v a.1 q1
    refine ⟨by rw [List.all_cons, f1, i1]; rfl, ?_⟩
    rw [List.any_cons, ← i2]
    have e1 : inV x (y :: ys) = (eqV y x || inV x ys) := by first | rfl | simp [inV]
    rw [e1]
    congr 1
    rcases (flat_v h r).2 with ⟨i, rfl, rfl⟩ | ⟨i, rfl, rfl⟩ <;> rcases f2 with ⟨j, rfl, rfl⟩ | ⟨j, rfl, rfl⟩ <;> first
      | (simp [flatE, eqV, ← cd_of]; done)
      | (simp only [flatE, eqV, ← cd_of]; rw [Bool.eq_iff_iff, beq_iff_eq, decide_eq_true_eq]; exact ⟨fun h => h.symm, fun h => h.symm⟩)
/-- one sign in a text -/
def InIs (d e : D) (b : Bool) : Prop := ∃ (k : Nat) (w : Str), d = .str ⟨#[k]⟩ ∧ e = .str w ∧ b = decide (k ∈ w.cps.toList)
theorem or_inB (hK : X.K = c.K) (hu : X.A.units + 70 < cLine) {pins : List (Addr × Obj)} {s : Shared} {σ : L2.St} {z : Fz} {H : Hp} {x y : V} {v u : Value} {d e : D} {b : Bool} (le : Same z.F H) (I : L2.Inv X pins σ H s) (rx : RelV x v) (ry : RelV y u) (hd : RepR c z H d x) (he : RepR c z H e y) (h : inB d e = some b) :
    (∀ Q : VK, Q (.bl b) H → wpAny (model X.prog X.w) X.A (compareOp .In v u) (EP X pins σ Q) X.xe s) ∧ ∀ Q : VK, Q (.bl (!b)) H → wpAny (model X.prog X.w) X.A (compareOp .NotIn v u) (EP X pins σ Q) X.xe s := by
  have fl : ∀ (w : V), flatD d = true → RepR c z H d w → c.Rep z d w := fun w f r => by cases d <;> first | exact r | cases f
  unfold inB at h
  split at h
  · rename_i x' z'
    split at h
    · rename_i k q
      cases h
      have ex : x' = ⟨#[k]⟩ := by
        cases x' with
        | mk a => simp only [Str.mk.injEq]; exact Array.ext' q
      subst ex
      obtain rfl : x = .str _ := hd
      obtain rfl : y = .str _ := he
      exact ⟨fun Q q => op_in_sign pins s σ H _ _ v u Q I rx ry ⟨k, _, rfl, rfl, q⟩, fun Q q => op_notIn_sign pins s σ H _ _ v u Q I rx ry ⟨k, _, rfl, rfl, q⟩⟩
    · cases h
  · rename_i dd l
    obtain ⟨k, hk, rfl⟩ := Option.map_eq_some_iff.mp h
    have ex := key_v hk hd
    obtain ⟨a, kvs, rfl, q1, q2⟩ := he
    cases ry
    have dg : DGet H a x (valV kvs k) := .inl ⟨kvs, k, q1, ex, rfl⟩
    obtain ⟨v1, v2⟩ := val_look (k := k) q2
    have es : (lookK l k).isSome = (valV kvs k).isSome := by
      cases q : lookK l k with
      | none => rw [v2 q]; rfl
      | some d' => obtain ⟨w, e1, _⟩ := v1 d' q; rw [e1]; rfl
    refine ⟨fun Q q => d_in (by omega) I dg rx fun s' I' => ⟨.bl _, H, I', rfl, ?_⟩, fun Q q => d_notIn (by omega) I dg rx fun s' I' => ⟨.bl _, H, I', rfl, ?_⟩⟩
    · rw [← es]; exact q
    · rw [← es]; exact q
  · obtain ⟨q, h⟩ := if_some h
    rw [Bool.and_eq_true] at q
    cases h
    obtain ⟨a, xs, rfl, q1, q2⟩ := he
    have rd := fl x q.1 hd
    obtain ⟨f1, f2⟩ := flat_all q.1 rd q2 q.2
    have sq := same_seqT le q1
    rw [← hK] at sq
    have fx := (flat_v q.1 rd).1
    rw [← f2]
    exact ⟨fun Q q => op_in_seq pins s σ H _ _ v u Q I rx ry ⟨a, xs, rfl, .inr sq, fx, f1, q⟩, fun Q q => op_notIn_seq pins s σ H _ _ v u Q I rx ry ⟨a, xs, rfl, .inr sq, fx, f1, q⟩⟩
  · split at h
    · rename_i q
      rw [Bool.and_eq_true] at q
      cases h
      obtain ⟨a, xs, rfl, q1, q2⟩ := he
      have rd := fl x q.1 hd
      obtain ⟨f1, f2⟩ := flat_all q.1 rd q2 q.2
      have fx := (flat_v q.1 rd).1
      rw [← f2]
      exact ⟨fun Q q => op_in_seq pins s σ H _ _ v u Q I rx ry ⟨a, xs, rfl, .inl (.inl q1), fx, f1, q⟩, fun Q q => op_notIn_seq pins s σ H _ _ v u Q I rx ry ⟨a, xs, rfl, .inl (.inl q1), fx, f1, q⟩⟩
    · obtain ⟨q, h⟩ := if_some h
      rw [Bool.and_eq_true] at q
      cases h
      have p1 := dpR le hd q.1
      have p2 := dpR le he q.2
      rw [← hK] at p1 p2
      exact ⟨fun Q k => op_inD (by omega) pins s σ H _ _ v u Q I rx ry ⟨_, _, p1, p2, q.1, q.2, k⟩, fun Q k => op_notInD (by omega) pins s σ H _ _ v u Q I rx ry ⟨_, _, p1, p2, q.1, q.2, k⟩⟩
  · cases h
theorem isBl_cases {d e : D} {b : Bool} (h : isBl d e = some b) : (∃ p q, d = .bl p ∧ e = .bl q ∧ b = decide (p = q)) ∨ (d ≠ .no ∧ e = .non ∧ b = isNon d) := by
  unfold isBl at h
  split at h
  · cases h; exact .inl ⟨_, _, rfl, rfl, rfl⟩
  · cases h
  · rename_i h1 h2
    cases h; exact .inr ⟨by intro e; exact h2 e, rfl, rfl⟩
  · cases h
theorem or_cmp (hK : X.K = c.K) (hu : X.A.units + 70 < cLine) (o : CmpOp) : OpR X (compareOp o) (r2 c (cmpD o)) := by
  intro pins s σ' H x y v u Q I rx ry ⟨ρ, m, z, σ, d, e, S, hd, he, A⟩
  obtain ⟨b', eb, A⟩ := A.of
  unfold cmpD at eb
  obtain ⟨b, ec, rfl⟩ := Option.map_eq_some_iff.mp eb
  clear eb
  have eb := ec
  clear ec
  have q := A.ret S (rfl : rD c (.bl b) (.bl b) z)
  unfold cmpB at eb
  split at eb
  · rcases eqB_cases eb with eb | ⟨q1, q2, rfl⟩
    · obtain ⟨h1, h2⟩ := scE_ok eb hd he
      subst h2
      exact op_eq pins s σ' H _ _ v u Q I rx ry ⟨h1, q⟩
    · refine op_eqD (by omega) pins s σ' H _ _ v u Q I rx ry ⟨_, _, ?_, ?_, q1, q2, q⟩
      · rw [hK]; exact dpR S.st.le hd q1
      · rw [hK]; exact dpR S.st.le he q2
  · rcases eqB_cases (notO_some eb) with eb | ⟨q1, q2, eb⟩
    · obtain ⟨h1, h2⟩ := scE_ok eb hd he
      have h2 : b = !decide (x = y) := by rw [← h2, Bool.not_not]
      subst h2
      exact op_ne pins s σ' H _ _ v u Q I rx ry ⟨h1, q⟩
    · have h2 : b = !PyData.eqv (toPy d) (toPy e) := by rw [← eb, Bool.not_not]
      subst h2
      refine op_neD (by omega) pins s σ' H _ _ v u Q I rx ry ⟨_, _, ?_, ?_, q1, q2, q⟩
      · rw [hK]; exact dpR S.st.le hd q1
      · rw [hK]; exact dpR S.st.le he q2
  · cases eb
    obtain rfl : x = .int _ := hd
    obtain rfl : y = .int _ := he
    exact op_lt pins s σ' H _ _ v u Q I rx ry ⟨_, _, rfl, rfl, by simp only [cd_of]; exact q⟩
  · cases eb
    obtain rfl : x = .int _ := hd
    obtain rfl : y = .int _ := he
    exact op_le pins s σ' H _ _ v u Q I rx ry ⟨_, _, rfl, rfl, by simp only [cd_of]; exact q⟩
  · cases eb
    obtain rfl : x = .int _ := hd
    obtain rfl : y = .int _ := he
    exact op_gt pins s σ' H _ _ v u Q I rx ry ⟨_, _, rfl, rfl, by simp only [cd_of]; exact q⟩
  · cases eb
    obtain rfl : x = .int _ := hd
    obtain rfl : y = .int _ := he
    exact op_ge pins s σ' H _ _ v u Q I rx ry ⟨_, _, rfl, rfl, by simp only [cd_of]; exact q⟩
  · cases eb
    obtain rfl : x = .str _ := hd
    obtain rfl : y = .str _ := he
    exact op_lt_str pins s σ' H _ _ v u Q I rx ry ⟨_, _, rfl, rfl, by simp only [cd_of]; exact q⟩
  · cases eb
    obtain rfl : x = .str _ := hd
    obtain rfl : y = .str _ := he
    exact op_le_str pins s σ' H _ _ v u Q I rx ry ⟨_, _, rfl, rfl, by simp only [cd_of]; exact q⟩
  · cases eb
    obtain rfl : x = .str _ := hd
    obtain rfl : y = .str _ := he
    exact op_gt_str pins s σ' H _ _ v u Q I rx ry ⟨_, _, rfl, rfl, by simp only [cd_of]; exact q⟩
  · cases eb
    obtain rfl : x = .str _ := hd
    obtain rfl : y = .str _ := he
    exact op_ge_str pins s σ' H _ _ v u Q I rx ry ⟨_, _, rfl, rfl, by simp only [cd_of]; exact q⟩
  · rcases isBl_cases eb with ⟨p, q', rfl, rfl, rfl⟩ | ⟨n, rfl, rfl⟩
    · obtain rfl : x = .bl _ := hd
      obtain rfl : y = .bl _ := he
      exact op_isBl pins s σ' H _ _ v u Q I rx ry ⟨_, _, rfl, rfl, q⟩
    · obtain rfl : y = .non := he
      exact op_isN pins s σ' H _ _ v u Q I rx ry ⟨rfl, by rw [isNon_of n hd]; exact q⟩
  · rcases isBl_cases (notO_some eb) with ⟨p, q', rfl, rfl, h2⟩ | ⟨n, rfl, h2⟩
    · obtain rfl : x = .bl _ := hd
      obtain rfl : y = .bl _ := he
      exact op_notBl pins s σ' H _ _ v u Q I rx ry ⟨_, _, rfl, rfl, by rw [← h2, Bool.not_not]; exact q⟩
    · obtain rfl : y = .non := he
      exact op_notN pins s σ' H _ _ v u Q I rx ry ⟨rfl, by rw [isNon_of n hd, ← h2, Bool.not_not]; exact q⟩
  · exact (or_inB hK hu S.st.le I rx ry hd he eb).1 Q q
  · exact (or_inB hK hu S.st.le I rx ry hd he (notO_some eb)).2 Q (by rw [Bool.not_not]; exact q)
  · cases eb
end
end GS
end

noncomputable section
namespace GS
open PySem L2
section
variable {c : Ctx} {X : Cx} {a b e : Expr} {f g h : List D → List Cell → R D} {pos : Pos}

/-! ### tests -/
/-- a value that is True or False, as a test -/
def toB : D → List Cell → R Bool
  | .bl k, m => .ok k m
  | _, _ => .stuck
def evT (f : List D → List Cell → R D) : List D → List Cell → R Bool := fun ρ m => (f ρ m).bind toB
theorem At.toB' {r : R D} {ρ : List D} {z : Fz} {H : Hp} {σ : L2.St} {Q : Bool → Hp → Prop} (A : At c rB (r.bind toB) ρ z σ H Q) : At c (rD c) r ρ z σ H (fun v H' => ∃ k, v = .bl k ∧ Q k H') := by
  cases r with
  | ok d m =>
    intro v H' z' S g q
    cases d with
    | bl k =>
      obtain rfl : v = .bl k := q
      exact ⟨k, rfl, A k H' z' S g rfl⟩
    | _ => exact A.elim
  | exc k fs m => exact A
  | stuck => exact A
theorem tG_T {σ : L2.St} {H : Hp} {Q : Bool → Hp → Prop} (h : tG c rB (evT f) σ H Q) : tG c (rD c) f σ H (fun v H' => ∃ k, v = .bl k ∧ Q k H') := by
  obtain ⟨ρ, m, z, S, A⟩ := h
  exact ⟨ρ, m, z, S, A.toB'⟩
theorem pt_valD (hh : PE X e (tG c (rD c) f)) (he : ∀ whole, isTrue e X.env whole = (do let v ← whole; standAt e.pos; holding [v] (truthy v))) : PT X e (tG c rB (evT f)) :=
  (pt_val hh he).imp fun σ H Q q => tG_T q
theorem pe_cmpD {op : CmpOp} (hK : X.K = c.K) (hu : X.A.units + 70 < cLine) (ha : PE X a (tG c (rD c) f)) (hb : PE X b (tG c (rD c) g)) (hm : behindInMarks op b = false) :
    PE X (.Compare a [op] [b] pos) (tG c (rD c) (ev2 f g (cmpD op))) :=
  (pe_cmpR (or_cmp hK hu op) ha hb hm).imp fun σ H Q q => seq2 q
theorem pt_cmpD {op : CmpOp} (hK : X.K = c.K) (hu : X.A.units + 70 < cLine) (ha : PE X a (tG c (rD c) f)) (hb : PE X b (tG c (rD c) g)) (hm : behindInMarks op b = false) :
    PT X (.Compare a [op] [b] pos) (tG c rB (evT (ev2 f g (cmpD op)))) :=
  (pt_cmpR (or_cmp hK hu op) ha hb hm).imp fun σ H Q q => seq2 (tG_T q)
/-- a < b < c -/
def evChain (o o' : CmpOp) (f g h : List D → List Cell → R D) : List D → List Cell → R D := fun ρ m => (f ρ m).bind fun x m => (g ρ m).bind fun y m =>
  (R.of (cmpD o (res m x) (res m y)) m).bind fun k m => (toB k m).bind fun k m => if k = true then (h ρ m).bind fun w m => R.of (cmpD o' (res m y) (res m w)) m else .ok (.bl false) m
theorem chain_core {o o' : CmpOp} {σ : L2.St} {H : Hp} {Q : VK} (q : tG c (rD c) (evChain o o' f g h) σ H Q) :
    tChain (r2 c (cmpD o)) (r2 c (cmpD o')) (tG c (rD c) f) (tG c (rD c) g) (tG c (rD c) h) σ H Q := by
  obtain ⟨ρ, m, z, S, A⟩ := q
  refine ⟨ρ, m, z, S, A.bind.imp fun x H1 ⟨z1, d, m1, S1, g1, q1, _, A1⟩ => ⟨ρ, m1, z1, S1, A1.bind.imp fun y H2 ⟨z2, e, m2, S2, g2, q2, _, A2⟩ => ⟨ρ, m2, z2, σ, _, _, S2, res_ok S2.st (Rep.mono g2.toLe _ _ q1), res_ok S2.st q2, A2.bind.imp fun v H3 ⟨z3, k', m3, S3, g3, q3, _, A3⟩ => ?_⟩⟩⟩
  cases k' with
  | bl k =>
    obtain rfl : v = .bl k := q3
    refine ⟨k, rfl, ?_⟩
    have A3 : At c (rD c) (if k = true then (h ρ m3).bind fun w m => R.of (cmpD o' (res m e) (res m w)) m else .ok (.bl false) m3) ρ z3 σ H3 Q := A3
    cases k with
    | true =>
      rw [if_pos rfl] at A3 ⊢
      exact ⟨ρ, m3, z3, S3, A3.bind.imp fun w H4 ⟨z4, n, m4, S4, g4, q4, _, A4⟩ => ⟨ρ, m4, z4, σ, _, _, S4, res_ok S4.st (Rep.mono (g3.trans g4).toLe _ _ q2), res_ok S4.st q4, A4⟩⟩
    | false =>
      rw [if_neg (by decide)] at A3 ⊢
      exact A3.ret S3 rfl
  | _ => exact A3.elim
variable {d : Expr}
theorem pe_chainD {o o' : CmpOp} (hK : X.K = c.K) (hu : X.A.units + 70 < cLine) (ha : PE X a (tG c (rD c) f)) (hb : PE X b (tG c (rD c) g)) (hd : PE X d (tG c (rD c) h)) (hm : lastMarks [o, o'] [b, d] = false) :
    PE X (.Compare a [o, o'] [b, d] pos) (tG c (rD c) (evChain o o' f g h)) :=
  (pe_chain (or_cmp hK hu o) (or_cmp hK hu o') ha hb hd hm).imp fun σ H Q q => chain_core q
theorem pt_chainD {o o' : CmpOp} (hK : X.K = c.K) (hu : X.A.units + 70 < cLine) (ha : PE X a (tG c (rD c) f)) (hb : PE X b (tG c (rD c) g)) (hd : PE X d (tG c (rD c) h)) (hm : lastMarks [o, o'] [b, d] = false) :
    PT X (.Compare a [o, o'] [b, d] pos) (tG c rB (evT (evChain o o' f g h))) :=
  (pt_chain (or_cmp hK hu o) (or_cmp hK hu o') ha hb hd hm).imp fun σ H Q q => chain_core (tG_T q)

/-- a < b < c < d -/
def evChT (o o' : CmpOp) (y : D) (h k : List D → List Cell → R D) : List D → List Cell → R D := fun ρ m => (h ρ m).bind fun w m => (R.of (cmpD o (res m y) (res m w)) m).bind fun t m => (toB t m).bind fun t m =>
  if t = true then (k ρ m).bind fun v m => R.of (cmpD o' (res m w) (res m v)) m else .ok (.bl false) m
def evChain3 (o o' o2 : CmpOp) (f g h k : List D → List Cell → R D) : List D → List Cell → R D := fun ρ m => (f ρ m).bind fun x m => (g ρ m).bind fun y m =>
  (R.of (cmpD o (res m x) (res m y)) m).bind fun t m => (toB t m).bind fun t m => if t = true then evChT o' o2 y h k ρ m else .ok (.bl false) m
def tCh (r' r'' : R2) (tc td : TE) (y : V) : TE := fun σ H Q => tc σ H fun w' H4 => r' y w' H4 fun z H5 => ∃ k, z = .bl k ∧ (if k = true then td σ H5 fun v H6 => r'' w' v H6 Q else Q (.bl false) H5)
def tChain3 (r r' r'' : R2) (ta tb tc td : TE) : TE := fun σ H Q => ta σ H fun x H1 => tb σ H1 fun y H2 => r x y H2 fun z H3 => ∃ k, z = .bl k ∧
  (if k = true then tCh r' r'' tc td y σ H3 Q else Q (.bl false) H3)
theorem ch_tail {o o' : CmpOp} {k : List D → List Cell → R D} {e : D} {y : V} {ρ : List D} {m : List Cell} {z : Fz} {σ : L2.St} {H : Hp} {Q : VK} (S : SS c ρ m z σ H) (q2 : c.Rep z e y) (A : At c (rD c) (evChT o o' e h k ρ m) ρ z σ H Q) :
    tCh (r2 c (cmpD o)) (r2 c (cmpD o')) (tG c (rD c) h) (tG c (rD c) k) y σ H Q := by
  refine ⟨ρ, m, z, S, A.bind.imp fun w H1 ⟨z1, n, m1, S1, g1, q4, _, A1⟩ => ⟨ρ, m1, z1, σ, _, _, S1, res_ok S1.st (Rep.mono g1.toLe _ _ q2), res_ok S1.st q4, A1.bind.imp fun v H3 ⟨z3, k', m3, S3, g3, q3, _, A3⟩ => ?_⟩⟩
  cases k' with
  | bl t =>
    obtain rfl : v = .bl t := q3
    refine ⟨t, rfl, ?_⟩
    have A3 : At c (rD c) (if t = true then (k ρ m3).bind fun v m => R.of (cmpD o' (res m n) (res m v)) m else .ok (.bl false) m3) ρ z3 σ H3 Q := A3
    cases t with
    | true =>
      rw [if_pos rfl] at A3 ⊢
      exact ⟨ρ, m3, z3, S3, A3.bind.imp fun w H4 ⟨z4, n, m4, S4, g4, q5, _, A4⟩ => ⟨ρ, m4, z4, σ, _, _, S4, res_ok S4.st (Rep.mono (g3.trans g4).toLe _ _ q4), res_ok S4.st q5, A4⟩⟩
    | false =>
      rw [if_neg (by decide)] at A3 ⊢
      exact A3.ret S3 rfl
  | _ => exact A3.elim
theorem chain3_core {o o' o2 : CmpOp} {k : List D → List Cell → R D} {σ : L2.St} {H : Hp} {Q : VK} (q : tG c (rD c) (evChain3 o o' o2 f g h k) σ H Q) :
    tChain3 (r2 c (cmpD o)) (r2 c (cmpD o')) (r2 c (cmpD o2)) (tG c (rD c) f) (tG c (rD c) g) (tG c (rD c) h) (tG c (rD c) k) σ H Q := by
  obtain ⟨ρ, m, z, S, A⟩ := q
  refine ⟨ρ, m, z, S, A.bind.imp fun x H1 ⟨z1, d, m1, S1, g1, q1, _, A1⟩ => ⟨ρ, m1, z1, S1, A1.bind.imp fun y H2 ⟨z2, e, m2, S2, g2, q2, _, A2⟩ => ⟨ρ, m2, z2, σ, _, _, S2, res_ok S2.st (Rep.mono g2.toLe _ _ q1), res_ok S2.st q2, A2.bind.imp fun v H3 ⟨z3, k', m3, S3, g3, q3, _, A3⟩ => ?_⟩⟩⟩
  cases k' with
  | bl t =>
    obtain rfl : v = .bl t := q3
    refine ⟨t, rfl, ?_⟩
    have A3 : At c (rD c) (if t = true then evChT o' o2 e h k ρ m3 else .ok (.bl false) m3) ρ z3 σ H3 Q := A3
    cases t with
    | true =>
      rw [if_pos rfl] at A3 ⊢
      exact ch_tail S3 (Rep.mono g3.toLe _ _ q2) A3
    | false =>
      rw [if_neg (by decide)] at A3 ⊢
      exact A3.ret S3 rfl
  | _ => exact A3.elim
variable {w : Expr}
theorem pe_chain3 {op op' op2 : CmpOp} {r r' r'' : R2} {ta tb tc td : TE} (ho : OpR X (compareOp op) r) (ho' : OpR X (compareOp op') r') (ho2 : OpR X (compareOp op2) r'') (ha : PE X a ta) (hb : PE X b tb) (hc : PE X d tc) (hd : PE X w td)
    (hm : lastMarks [op, op', op2] [b, d, w] = false) : PE X (.Compare a [op, op', op2] [b, d, w] pos) (tChain3 r r' r'' ta tb tc td) := by
  refine ⟨fun pins s σ H Q I h => ?_⟩
  refine PyProof.Rows.Compare_chain (thn (ha.run pins s σ H _ I h) fun v s1 ⟨x, H1, I1, r1, q1⟩ => PyProof.Rows.chain_link (thn (hb.run pins s1 σ H1 _ I1 q1) fun u s2 ⟨y, H2, I2, r2, q2⟩ =>
    thn (ho pins s2 σ H2 x y v u _ I2 r1 r2 q2) fun d s3 ⟨z, H3, I3, r3, k, e, q3⟩ => ?_)) hm
  subst e
  cases r3
  refine wpAny_truthy_bool ?_
  cases k with
  | false => exact PyProof.Rows.ite_ff ⟨.bl false, H3, I3, rfl, q3⟩
  | true =>
    refine PyProof.Rows.ite_tt (PyProof.Rows.chain_link (thn (hc.run pins s3 σ H3 _ I3 q3) fun w' s4 ⟨z', H4, I4, r4, q4⟩ => thn (ho' pins s4 σ H4 y z' u w' _ I4 r2 r4 q4) fun d2 s5 ⟨z5, H5, I5, r5, k5, e5, q5⟩ => ?_))
    subst e5
    cases r5
    refine wpAny_truthy_bool ?_
    cases k5 with
    | false => exact PyProof.Rows.ite_ff ⟨.bl false, H5, I5, rfl, q5⟩
    | true => exact PyProof.Rows.ite_tt (PyProof.Rows.chain_last (thn (hd.run pins s5 σ H5 _ I5 q5) fun w6 s6 ⟨z6, H6, I6, r6, q6⟩ => ho2 pins s6 σ H6 z' z6 w' w6 Q I6 r4 r6 q6))
theorem pt_chain3 {op op' op2 : CmpOp} {r r' r'' : R2} {ta tb tc td : TE} (ho : OpR X (compareOp op) r) (ho' : OpR X (compareOp op') r') (ho2 : OpR X (compareOp op2) r'') (ha : PE X a ta) (hb : PE X b tb) (hc : PE X d tc) (hd : PE X w td)
    (hm : lastMarks [op, op', op2] [b, d, w] = false) : PT X (.Compare a [op, op', op2] [b, d, w] pos) (tTest (tChain3 r r' r'' ta tb tc td)) := by
  refine ⟨fun pins s σ H Q I h => ?_⟩
  refine PyProof.Rows.isTrue_chain (thn (ha.run pins s σ H _ I h) fun v s1 ⟨x, H1, I1, r1, q1⟩ => PyProof.Rows.test_link (thn (hb.run pins s1 σ H1 _ I1 q1) fun u s2 ⟨y, H2, I2, r2, q2⟩ =>
    thn (ho pins s2 σ H2 x y v u _ I2 r1 r2 q2) fun d s3 ⟨z, H3, I3, r3, k, e, q3⟩ => ?_)) hm
  subst e
  cases r3
  refine wpAny_truthy_bool ?_
  cases k with
  | false =>
    obtain ⟨k', e', q'⟩ := q3
    cases e'
    exact PyProof.Rows.ite_ff ⟨H3, I3, q'⟩
  | true =>
    refine PyProof.Rows.ite_tt (PyProof.Rows.test_link (thn (hc.run pins s3 σ H3 _ I3 q3) fun w' s4 ⟨z', H4, I4, r4, q4⟩ => thn (ho' pins s4 σ H4 y z' u w' _ I4 r2 r4 q4) fun d2 s5 ⟨z5, H5, I5, r5, k5, e5, q5⟩ => ?_))
    subst e5
    cases r5
    refine wpAny_truthy_bool ?_
    cases k5 with
    | false =>
      obtain ⟨k', e', q'⟩ := q5
      cases e'
      exact PyProof.Rows.ite_ff ⟨H5, I5, q'⟩
    | true =>
      refine PyProof.Rows.ite_tt (PyProof.Rows.test_last (thn (hd.run pins s5 σ H5 _ I5 q5) fun w6 s6 ⟨z6, H6, I6, r6, q6⟩ => thn (ho2 pins s6 σ H6 z' z6 w' w6 _ I6 r4 r6 q6) fun d' s7 ⟨z7, H7, I7, r7, k7, e7, q7⟩ => ?_))
      subst e7
      cases r7
      exact wpAny_truthy_bool ⟨H7, I7, q7⟩
theorem pe_chain3D {o o' o2 : CmpOp} {k : List D → List Cell → R D} (hK : X.K = c.K) (hu : X.A.units + 70 < cLine) (ha : PE X a (tG c (rD c) f)) (hb : PE X b (tG c (rD c) g)) (hd : PE X d (tG c (rD c) h)) (hw : PE X w (tG c (rD c) k)) (hm : lastMarks [o, o', o2] [b, d, w] = false) :
    PE X (.Compare a [o, o', o2] [b, d, w] pos) (tG c (rD c) (evChain3 o o' o2 f g h k)) :=
  (pe_chain3 (or_cmp hK hu o) (or_cmp hK hu o') (or_cmp hK hu o2) ha hb hd hw hm).imp fun σ H Q q => chain3_core q
theorem pt_chain3D {o o' o2 : CmpOp} {k : List D → List Cell → R D} (hK : X.K = c.K) (hu : X.A.units + 70 < cLine) (ha : PE X a (tG c (rD c) f)) (hb : PE X b (tG c (rD c) g)) (hd : PE X d (tG c (rD c) h)) (hw : PE X w (tG c (rD c) k)) (hm : lastMarks [o, o', o2] [b, d, w] = false) :
    PT X (.Compare a [o, o', o2] [b, d, w] pos) (tG c rB (evT (evChain3 o o' o2 f g h k))) :=
  (pt_chain3 (or_cmp hK hu o) (or_cmp hK hu o') (or_cmp hK hu o2) ha hb hd hw hm).imp fun σ H Q q => chain3_core (tG_T q)

/-! ### and, or, not, if -/
def evAnd2 (f g : List D → List Cell → R D) : List D → List Cell → R D := fun ρ m => (f ρ m).bind fun x m => (toB x m).bind fun k m => if k = true then g ρ m else .ok (.bl false) m
def evOr2 (f g : List D → List Cell → R D) : List D → List Cell → R D := fun ρ m => (f ρ m).bind fun x m => (toB x m).bind fun k m => if k = true then .ok (.bl true) m else g ρ m
def evNot (f : List D → List Cell → R D) : List D → List Cell → R D := fun ρ m => (f ρ m).bind fun x m => (toB x m).bind fun k m => .ok (.bl (!k)) m
def evIte (t f g : List D → List Cell → R D) : List D → List Cell → R D := fun ρ m => (t ρ m).bind fun x m => (toB x m).bind fun k m => if k = true then f ρ m else g ρ m
variable {rest : List Expr}
/-- a value of True, False out of its reading -/
theorem bool_v {σ : L2.St} {H : Hp} {α β : Type} {rel : α → β → Fz → Prop} {k : Bool → List D → List Cell → R α} {Q : β → Hp → Prop} (A : tG c rel (fun ρ m => (f ρ m).bind fun x m => (toB x m).bind fun b m => k b ρ m) σ H Q) :
    tG c (rD c) f σ H fun x H1 => ∃ b, x = .bl b ∧ tG c rel (k b) σ H1 Q := by
  obtain ⟨ρ, m, z, S, A⟩ := A
  refine ⟨ρ, m, z, S, A.bind.imp fun x H1 ⟨z1, d, m1, S1, g1, q1, _, A1⟩ => ?_⟩
  cases d with
  | bl b =>
    obtain rfl : x = .bl b := q1
    exact ⟨b, rfl, ρ, m1, z1, S1, A1⟩
  | _ => exact A1.elim
/-- a test out of its reading -/
theorem bool_t {σ : L2.St} {H : Hp} {α β : Type} {rel : α → β → Fz → Prop} {k : Bool → List D → List Cell → R α} {Q : β → Hp → Prop} (A : tG c rel (fun ρ m => (f ρ m).bind fun x m => (toB x m).bind fun b m => k b ρ m) σ H Q) :
    tG c rB (evT f) σ H fun b H1 => tG c rel (k b) σ H1 Q := by
  obtain ⟨ρ, m, z, S, A⟩ := A
  refine ⟨ρ, m, z, S, ?_⟩
  have e : ((f ρ m).bind fun x m => (toB x m).bind fun b m => k b ρ m) = (evT f ρ m).bind fun b m => k b ρ m := by
    unfold evT
    cases f ρ m <;> rfl
  dsimp only at A
  rw [e] at A
  exact A.bind.imp fun b H1 ⟨z1, d, m1, S1, g1, q1, _, A1⟩ => by cases q1; exact ⟨ρ, m1, z1, S1, A1⟩
theorem tG_ok {α β : Type} {rel : α → β → Fz → Prop} {d : α} {v : β} {σ : L2.St} {H : Hp} {Q : β → Hp → Prop} (A : tG c rel (fun _ m => .ok d m) σ H Q) (r : ∀ z, rel d v z) : Q v H := by
  obtain ⟨ρ, m, z, S, A⟩ := A
  exact A.ret S (r _)
theorem evT_k {f : List D → List Cell → R D} {k : Bool → List D → List Cell → R D} : evT (fun ρ m => (f ρ m).bind fun x m => (toB x m).bind fun b m => k b ρ m) = fun ρ m => (f ρ m).bind fun x m => (toB x m).bind fun b m => evT (k b) ρ m := by
  funext ρ m
  unfold evT
  dsimp only
  cases f ρ m with
  | ok d m => cases d <;> rfl
  | _ => rfl
theorem pw_andD (ha : PT X a (tG c rB (evT f))) (hb : PW X (.BoolOp .And (b :: rest) pos) (tG c rB (evT g))) : PW X (.BoolOp .And (a :: b :: rest) pos) (tG c rB (evT (evAnd2 f g))) := (pw_and ha hb).imp fun σ H Q A => by
  unfold evAnd2 at A
  rw [evT_k (k := fun k ρ m => if k = true then g ρ m else .ok (.bl false) m)] at A
  obtain ⟨ρ, m, z, S, A⟩ := bool_t (k := fun k => evT fun ρ m => if k = true then g ρ m else .ok (.bl false) m) A
  refine ⟨ρ, m, z, S, A.imp fun k H1 A1 => ?_⟩
  cases k with
  | true => exact A1
  | false => exact tG_ok (rel := rB) (d := false) A1 fun _ => rfl
theorem pw_orD (ha : PT X a (tG c rB (evT f))) (hb : PW X (.BoolOp .Or (b :: rest) pos) (tG c rB (evT g))) : PW X (.BoolOp .Or (a :: b :: rest) pos) (tG c rB (evT (evOr2 f g))) := (pw_or ha hb).imp fun σ H Q A => by
  unfold evOr2 at A
  rw [evT_k (k := fun k ρ m => if k = true then .ok (.bl true) m else g ρ m)] at A
  obtain ⟨ρ, m, z, S, A⟩ := bool_t (k := fun k => evT fun ρ m => if k = true then .ok (.bl true) m else g ρ m) A
  refine ⟨ρ, m, z, S, A.imp fun k H1 A1 => ?_⟩
  cases k with
  | true => exact tG_ok (rel := rB) (d := true) A1 fun _ => rfl
  | false => exact A1
theorem pt_notD (ha : PT X a (tG c rB (evT f))) : PT X (.UnaryOp .Not a pos) (tG c rB (evT (evNot f))) := (pt_not ha).imp fun σ H Q A => by
  unfold evNot at A
  rw [evT_k (k := fun k ρ m => .ok (.bl (!k)) m)] at A
  obtain ⟨ρ, m, z, S, A⟩ := bool_t (k := fun k => evT fun ρ m => .ok (.bl (!k)) m) A
  exact ⟨ρ, m, z, S, A.imp fun k H1 A1 => tG_ok (rel := rB) (d := !k) A1 fun _ => rfl⟩
theorem pe_andD (ha : PE X a (tG c (rD c) f)) (hb : PE X (.BoolOp .And (b :: rest) pos) (tG c (rD c) g)) : PE X (.BoolOp .And (a :: b :: rest) pos) (tG c (rD c) (evAnd2 f g)) := (pe_and ha hb).imp fun σ H Q A => by
  obtain ⟨ρ, m, z, S, A⟩ := bool_v (k := fun k ρ m => if k = true then g ρ m else .ok (.bl false) m) A
  refine ⟨ρ, m, z, S, A.imp fun v H1 ⟨k, e, A1⟩ => ⟨k, e, ?_⟩⟩
  cases k with
  | true => exact A1
  | false => exact tG_ok (rel := rD c) (d := .bl false) A1 fun _ => rfl
theorem pe_orD (ha : PE X a (tG c (rD c) f)) (hb : PE X (.BoolOp .Or (b :: rest) pos) (tG c (rD c) g)) : PE X (.BoolOp .Or (a :: b :: rest) pos) (tG c (rD c) (evOr2 f g)) := (pe_or ha hb).imp fun σ H Q A => by
  obtain ⟨ρ, m, z, S, A⟩ := bool_v (k := fun k ρ m => if k = true then .ok (.bl true) m else g ρ m) A
  refine ⟨ρ, m, z, S, A.imp fun v H1 ⟨k, e, A1⟩ => ⟨k, e, ?_⟩⟩
  cases k with
  | true => exact tG_ok (rel := rD c) (d := .bl true) A1 fun _ => rfl
  | false => exact A1
theorem pe_notD (ha : PE X a (tG c (rD c) f)) : PE X (.UnaryOp .Not a pos) (tG c (rD c) (evNot f)) := (pe_not ha).imp fun σ H Q A => by
  obtain ⟨ρ, m, z, S, A⟩ := bool_v (c := c) (f := f) (rel := rD c) (k := fun k ρ m => .ok (D.bl (!k)) m) A
  exact ⟨ρ, m, z, S, A.imp fun v H1 ⟨k, e, A1⟩ => ⟨k, e, tG_ok (rel := rD c) (d := .bl (!k)) A1 fun _ => rfl⟩⟩
theorem pe_ifD (ht : PT X e (tG c rB (evT h))) (ha : PE X a (tG c (rD c) f)) (hb : PE X b (tG c (rD c) g)) : PE X (.IfExp e a b pos) (tG c (rD c) (evIte h f g)) := (pe_ifExp ht ha hb).imp fun σ H Q A => by
  obtain ⟨ρ, m, z, S, A⟩ := bool_t (k := fun k ρ m => if k = true then f ρ m else g ρ m) A
  refine ⟨ρ, m, z, S, A.imp fun k H1 A1 => ?_⟩
  cases k with
  | true => exact A1
  | false => exact A1
def negD : D → Option D
  | .int i => some (.int (-i))
  | _ => none
theorem pe_negD (ha : PE X a (tG c (rD c) f)) : PE X (.UnaryOp .USub a pos) (tG c (rD c) (ev1 f negD)) := (pe_un un_neg ha).imp fun σ H Q A => by
  obtain ⟨ρ, m, z, S, A⟩ := seq1 A
  refine ⟨ρ, m, z, S, A.imp fun x H1 ⟨ρ1, m1, z1, σ1, d, S1, hd, A1⟩ => ?_⟩
  obtain ⟨b, eb, A1⟩ := A1.of
  unfold negD at eb
  split at eb
  · cases eb
    obtain rfl : x = .int _ := hd
    exact ⟨_, rfl, A1.ret S1 rfl⟩
  · cases eb
end
end GS
end

noncomputable section
namespace GS
open PySem L2
/-! ### subscripts -/
def idxD : D → D → Option D
  | .lst xs, .int i => atI xs i
  | .scr ns, .int i => (atI ns i).map .int
  | .tup xs, .int i => atI xs i
  | .str s, .int i => lim s.length ((atI s.cps.toList i).map fun k => D.str ⟨#[k]⟩)
  | .dct l, d => (keyD d).bind (lookK l)
  | _, _ => none
section
variable {c : Ctx} {X : Cx} {a b e : Expr} {f g h : List D → List Cell → R D} {pos : Pos}
theorem atI_rep {z : Fz} {ds : List D} {xs : List V} {i : Int} {d : D} (h : c.RepL z ds xs) (e : atI ds i = some d) : ∃ x, atI xs i = some x ∧ c.Rep z d x := by
  unfold atI at e ⊢
  rw [RepL.length h]
  cases q : ixN ds.length i with
  | none => rw [q] at e; cases e
  | some j =>
    rw [q] at e
    exact RepL.get' h e
theorem atI_map {α β : Type} (f : α → β) (xs : List α) (i : Int) : atI (xs.map f) i = (atI xs i).map f := by
  unfold atI
  rw [List.length_map]
  cases ixN xs.length i with
  | none => rfl
  | some j => simp
open PySem.Spec PyProof.Rows in
theorem tail_dict {pins : List (Addr × Obj)} {σ : L2.St} {s : Shared} {E : Value → Shared → Prop} {value slice : Expr} {v u : Value} {Q : Value → Shared → Prop} (hT : s.TypeIs v "dict") (hs : subscripted slice false v u = operate [v, u] (getItem v u))
    (h : wpAny (model X.prog X.w) X.A (getItem v u) Q E s) : wpAny (model X.prog X.w) X.A (subscriptTail value slice v u) Q E s := by
  unfold subscriptTail
  refine wpAny_bind ?_
  rw [getitemInPython_of_ne hT.not_modules]
  refine wpAny_bind (wpAny_specialOf hT PySem.F.slot_dict_getitem.lookup ?_)
  have fin : wpAny (model X.prog X.w) X.A (subscripted slice false v u) (fun r s₃ => wpAny (model X.prog X.w) X.A (letTemporaryGo value v r >>= fun _ => pure r) Q E s₃) E s := by
    rw [hs]
    exact wpAny_operating (wpAny_mono h (fun r s₃ h₃ => wpAny_bind (wpAny_letTemporaryGo (wpAny_pure h₃))) fun _ _ x => x)
  first
    | exact wpAny_pure (wpAny_bind fin)
    | exact wpAny_bind (wpAny_pure (wpAny_bind fin))
    | exact wpAny_bind fin
theorem ixr_idx (hK : X.K = c.K) (hu : X.A.units + 70 < cLine) : IxR X (r2 c idxD) := by
  intro value slice pins s σ' H x y v u Q I rx ry ⟨ρ, m, z, σ, d, e, S, hd, he, A0⟩ hs
  obtain ⟨b, eb, A⟩ := A0.of
  clear A0
  unfold idxD at eb
  split at eb
  · obtain rfl : y = .int _ := he
    obtain ⟨p, vs, rfl, q1, q2⟩ := hd
    obtain ⟨w, e2, r2⟩ := atI_rep q2 eb
    exact ix_list value slice pins s σ' H _ _ v u Q I rx ry ⟨p, vs, _, w, rfl, rfl, .inl q1, e2, A.ret S (show rD c b w z from r2)⟩ hs
  · obtain rfl : y = .int _ := he
    obtain ⟨p, rfl, q1⟩ := hd
    obtain ⟨n, e2, rfl⟩ := Option.map_eq_some_iff.mp eb
    exact ix_list value slice pins s σ' H _ _ v u Q I rx ry ⟨p, _, _, .int n, rfl, rfl, by rw [hK]; exact q1, by rw [atI_map, e2]; rfl, A.ret S rfl⟩ hs
  · obtain rfl : y = .int _ := he
    obtain ⟨p, vs, rfl, q1, q2⟩ := hd
    obtain ⟨w, e2, r2⟩ := atI_rep q2 eb
    exact ix_tup value slice pins s σ' H _ _ v u Q I rx ry ⟨p, vs, _, w, rfl, rfl, by rw [hK]; exact same_seqT S.st.le q1, e2, A.ret S (show rD c b w z from r2)⟩ hs
  · obtain rfl : x = .str _ := hd
    obtain rfl : y = .int _ := he
    obtain ⟨hl, eb⟩ := lim_some eb
    obtain ⟨n, e2, rfl⟩ := Option.map_eq_some_iff.mp eb
    exact ix_str value slice pins s σ' H _ _ v u Q I rx ry ⟨_, _, n, rfl, rfl, hl, e2, A.ret S rfl⟩ hs
  · obtain ⟨k, hk, e2⟩ := Option.bind_eq_some_iff.mp eb
    have ex := key_v hk he
    obtain ⟨p, kvs, rfl, q1, q2⟩ := hd
    obtain ⟨w, e3, r3⟩ := (val_look (k := k) q2).1 b e2
    cases rx
    have dg : DGet H p y (some w) := .inl ⟨kvs, k, q1, ex, e3.symm⟩
    exact tail_dict (σ := σ') (pins := pins) (dict_typeIs I dg) hs (d_getItem (by omega) I dg ry fun w' s' I' rw' => ⟨w, H, I', rw', A.ret S (show rD c b w z from r3)⟩)
  · cases eb
theorem pe_idxD (hK : X.K = c.K) (hu : X.A.units + 70 < cLine) (hs : PlainIx b) (ha : PE X a (tG c (rD c) f)) (hb : PE X b (tG c (rD c) g)) : PE X (.Subscript a b pos) (tG c (rD c) (ev2 f g idxD)) :=
  pe_ix2 (ixr_idx hK hu) hs ha hb

/-! ### slices -/
def cutA {α : Type} (xs : List α) (lo hi : Option Int) : List α := (xs.drop (HT.sIx xs.length 0 lo)).take (HT.sIx xs.length xs.length hi - HT.sIx xs.length 0 lo)
def slcD : D → Option Int → Option Int → Option D
  | .lst xs, lo, hi => some (.lst (cutA xs lo hi))
  | .tup xs, lo, hi => some (.tup (cutA xs lo hi))
  | .scr ns, lo, hi => some (.lst ((cutA ns lo hi).map D.int))
  | .str s, lo, hi => lim s.length (some (.str (cutS s lo hi)))
  | _, _, _ => none
theorem cut_rep {z : Fz} {ds : List D} {xs : List V} {lo hi : Option Int} (h : c.RepL z ds xs) : c.RepL z (cutA ds lo hi) (cutV xs lo hi) := by
  unfold cutA cutV
  rw [RepL.length h]
  exact (RepL.drop _ h).take _
theorem cutA_map {α β : Type} (f : α → β) (xs : List α) (lo hi : Option Int) : cutA (xs.map f) lo hi = (cutA xs lo hi).map f := by
  unfold cutA
  rw [List.length_map, List.map_take, List.map_drop]
theorem cutA_whole {α : Type} (xs : List α) (lo hi : Option Int) (h : HT.sIx xs.length 0 lo = 0 ∧ HT.sIx xs.length xs.length hi = xs.length) : cutA xs lo hi = xs := by
  unfold cutA
  rw [h.1, h.2]
  simp
def rSl (c : Ctx) : V → Option Int → Option Int → Hp → VK → Prop := fun x lo hi H Q => ∃ ρ m z σ d, SS c ρ m z σ H ∧ RepR c z H d x ∧ At c (rD c) (R.of (slcD d lo hi) m) ρ z σ H Q
theorem slr (hK : X.K = c.K) : SlR X (rSl c) := by
  intro pins s σ' H x v vl vu lo hi sl Q I rx hs pl pu ⟨ρ, m, z, σ, d, S, hd, A⟩
  obtain ⟨b, eb, A⟩ := A.of
  unfold slcD at eb
  split at eb
  · cases eb
    obtain ⟨p, vs, rfl, q1, q2⟩ := hd
    exact sl_list pins s σ' H _ v vl vu lo hi sl Q I rx hs pl pu ⟨p, vs, rfl, .inl q1, At.newLst A S (cut_rep q2)⟩
  · cases eb
    obtain ⟨p, vs, rfl, q1, q2⟩ := hd
    refine sl_tupA pins s σ' H _ v vl vu lo hi sl Q I rx hs pl pu ⟨p, vs, rfl, by rw [hK]; exact same_seqT S.st.le q1, fun hw => ?_, fun _ => At.newTup A S (cut_rep q2)⟩
    rw [RepL.length q2] at hw
    rw [cutA_whole _ _ _ hw] at A
    exact A.ret S ⟨p, vs, rfl, q1, q2⟩
  · cases eb
    obtain ⟨p, rfl, q1⟩ := hd
    refine sl_list pins s σ' H _ v vl vu lo hi sl Q I rx hs pl pu ⟨p, _, rfl, by rw [hK]; exact q1, At.newLst A S ?_⟩
    exact RepL.ints.mpr (cutA_map V.int _ lo hi)
  · obtain rfl : x = .str _ := hd
    obtain ⟨hl, eb⟩ := lim_some eb
    cases eb
    exact sl_str pins s σ' H _ v vl vu lo hi sl Q I rx hs pl pu ⟨_, rfl, hl, A.ret S rfl⟩
  · cases eb
def toI : D → List Cell → R (Option Int)
  | .int i, m => .ok (some i) m
  | _, _ => .stuck
def rO : Option Int → Option Int → Fz → Prop := fun a b _ => a = b
theorem po_noneD : PO X none (tG c rO fun _ m => .ok none m) := ⟨fun pins s σ H Q I h => po_none.run pins s σ H Q I (by obtain ⟨ρ, m, z, S, A⟩ := h; exact A.ret S rfl)⟩
theorem po_someD (ha : PE X a (tG c (rD c) f)) : PO X (some a) (tG c rO fun ρ m => (f ρ m).bind toI) := ⟨fun pins s σ H Q I h => (po_some ha).run pins s σ H Q I (by
  obtain ⟨ρ, m, z, S, A⟩ := h
  refine ⟨ρ, m, z, S, A.bind.imp fun x H1 ⟨z1, d, m1, S1, g1, q1, _, A1⟩ => ?_⟩
  cases d with
  | int i =>
    obtain rfl : x = .int i := q1
    exact ⟨i, rfl, A1.ret S1 rfl⟩
  | _ => exact A1.elim)⟩
variable {lo hi : Option Expr} {fl fh : List D → List Cell → R (Option Int)} {p2 : Pos}
def evSlc (f : List D → List Cell → R D) (fl fh : List D → List Cell → R (Option Int)) : List D → List Cell → R D := fun ρ m => (f ρ m).bind fun x m => (fl ρ m).bind fun l m => (fh ρ m).bind fun u m => R.of (slcD (res m x) l u) m
theorem pe_slcD (hK : X.K = c.K) (ha : PE X a (tG c (rD c) f)) (hl : PO X lo (tG c rO fl)) (hh : PO X hi (tG c rO fh)) :
    PE X (.Subscript a (.Slice lo hi none p2) pos) (tG c (rD c) (evSlc f fl fh)) := (pe_slice (slr hK) ha hl hh).imp fun σ H Q ⟨ρ, m, z, S, A⟩ => by
  refine ⟨ρ, m, z, S, A.bind.imp fun x H1 ⟨z1, d, m1, S1, g1, q1, _, A1⟩ => ⟨ρ, m1, z1, S1, A1.bind.imp fun l H2 ⟨z2, l', m2, S2, g2, q2, _, A2⟩ => ⟨ρ, m2, z2, S2, A2.bind.imp fun u H3 ⟨z3, u', m3, S3, g3, q3, _, A3⟩ => ?_⟩⟩⟩
  cases q2
  cases q3
  exact ⟨ρ, m3, z3, σ, _, S3, res_ok S3.st (Rep.mono (g2.trans g3).toLe _ _ q1), A3⟩

/-! ### calls of built-ins -/
/-- what a built-in asks of its arguments, looked up -/
def RepRs (c : Ctx) (z : Fz) (H : Hp) : List D → List V → Prop
  | [], xs => xs = []
  | d :: ds, xs => ∃ x r, xs = x :: r ∧ RepR c z H d x ∧ RepRs c z H ds r
theorem RepRs.of {m : List Cell} {z : Fz} {H : Hp} (S : Sto c.K c.C m z H) : ∀ {ds : List D} {xs : List V}, c.RepL z ds xs → RepRs c z H (ds.map (res m)) xs
  | [], xs, h => h
  | d :: ds, xs, ⟨x, r, h1, h2, h3⟩ => ⟨x, r, h1, res_ok S h2, RepRs.of S h3⟩
def rC (c : Ctx) (g : List D → Option D) : List V → Hp → VK → Prop := fun xs H Q => ∃ ρ m z σ ds, SS c ρ m z σ H ∧ RepRs c z H ds xs ∧ At c (rD c) (R.of (g ds) m) ρ z σ H Q
variable {es : List Expr} {fs : List D → List Cell → R (List D)} {x : Str} {p : Pos} {id T : String} {gg : List D → Option D}
def evFn (fs : List D → List Cell → R (List D)) (gg : List D → Option D) : List D → List Cell → R D := fun ρ m => (fs ρ m).bind fun xs m => R.of (gg (xs.map (res m))) m
theorem tCB_of {σ : L2.St} {H : Hp} {Q : VK} (h : tG c (rD c) (evFn fs gg) σ H Q) : tCB (rC c gg) (tG c (rL c) fs) σ H Q := by
  obtain ⟨ρ, m, z, S, A⟩ := h
  exact ⟨ρ, m, z, S, A.bind.imp fun xs H1 ⟨z1, ds, m1, S1, g1, q1, _, A1⟩ => ⟨ρ, m1, z1, σ, _, S1, RepRs.of S1.st q1, A1⟩⟩
theorem rs1 {z : Fz} {H : Hp} {d : D} {xs : List V} (h : RepRs c z H [d] xs) : ∃ x, xs = [x] ∧ RepR c z H d x := by
  obtain ⟨x, r, rfl, h1, h2⟩ := h
  have h2 : r = [] := h2
  subst h2
  exact ⟨x, rfl, h1⟩
theorem rs2 {z : Fz} {H : Hp} {d e : D} {xs : List V} (h : RepRs c z H [d, e] xs) : ∃ x y, xs = [x, y] ∧ RepR c z H d x ∧ RepR c z H e y := by
  obtain ⟨x, r, rfl, h1, h2⟩ := h
  obtain ⟨y, rfl, h3⟩ := rs1 h2
  exact ⟨x, y, rfl, h1, h3⟩
def lenD : List D → Option D
  | [.lst xs] => some (.int xs.length)
  | [.tup xs] => some (.int xs.length)
  | [.scr ns] => some (.int ns.length)
  | [.dct xs] => some (.int xs.length)
  | [.str s] => lim s.length (some (.int s.length))
  | _ => none
def absD : List D → Option D
  | [.int i] => some (.int (if i < 0 then -i else i))
  | _ => none
def intD : List D → Option D
  | [.int i] => some (.int i)
  | [.bl k] => some (.int (if k then 1 else 0))
  | [.str s] => if s.length ≤ 640 then (PySem.intText? s).map .int else none
  | _ => none
def bools : List D → Option (List Bool)
  | [] => some []
  | .bl b :: r => (bools r).map (b :: ·)
  | _ => none
def intsOf : List D → Option (List Int)
  | [] => some []
  | .int b :: r => (intsOf r).map (b :: ·)
  | _ => none
def allD : List D → Option D
  | [.lst xs] => (bools xs).map fun bs => .bl (bs.all _root_.id)
  | _ => none
def anyD : List D → Option D
  | [.lst xs] => (bools xs).map fun bs => .bl (bs.any _root_.id)
  | _ => none
def sumD : List D → Option D
  | [.lst xs] => (intsOf xs).map fun ns => .int ns.sum
  | _ => none
def kD : Key → D
  | .inl i => .int i
  | .inr s => .str s
def listD : List D → Option D
  | [.lst xs] => some (.lst xs)
  | [.tup xs] => some (.lst xs)
  | [.scr ns] => some (.lst (ns.map D.int))
  | [.dct kvs] => some (.lst (kvs.map fun kv => kD kv.1))
  | _ => none
def tupleD : List D → Option D
  | [.lst xs] => some (.tup xs)
  | [.tup xs] => some (.tup xs)
  | _ => none
def strsOf : List D → Option (List Str)
  | [] => some []
  | .str b :: r => (strsOf r).map (b :: ·)
  | _ => none
def minS (s : Str) (r : List Str) : Str := r.foldl (fun a y => if PySem.Spec.ltCps y.cps.toList a.cps.toList = true then y else a) s
def maxS (s : Str) (r : List Str) : Str := r.foldl (fun a y => if PySem.Spec.ltCps a.cps.toList y.cps.toList = true then y else a) s
def min2D : List D → Option D
  | [.int i, .int j] => some (.int (if j < i then j else i))
  | [.lst l] => match strsOf l with
    | some (s :: r) => some (.str (minS s r))
    | _ => match intsOf l with
      | some (i :: r) => some (.int (r.foldl min i))
      | _ => none
  | _ => none
def max2D : List D → Option D
  | [.int i, .int j] => some (.int (if j > i then j else i))
  | [.lst l] => match strsOf l with
    | some (s :: r) => some (.str (maxS s r))
    | _ => match intsOf l with
      | some (i :: r) => some (.int (r.foldl max i))
      | _ => none
  | _ => none
def strD : List D → Option D
  | [.int i] => if i.natAbs.log2 < 1920 then some (.str (toString i)) else none
  | _ => none
theorem bools_rep {z : Fz} : ∀ {ds : List D} {xs : List V} {bs : List Bool}, c.RepL z ds xs → bools ds = some bs → xs = bs.map V.bl
  | [], xs, bs, h, e => by
    have h : xs = [] := h
    cases e; exact h
  | d :: ds, xs, bs, ⟨x, r, e1, h1, h2⟩, e => by
    cases d with
    | bl b =>
      obtain ⟨l, e2, rfl⟩ := Option.map_eq_some_iff.mp e
      have h1 : x = .bl b := h1
      rw [e1, h1, bools_rep h2 e2]
      rfl
    | _ => cases e
theorem intsOf_rep {z : Fz} : ∀ {ds : List D} {xs : List V} {bs : List Int}, c.RepL z ds xs → intsOf ds = some bs → xs = bs.map V.int
  | [], xs, bs, h, e => by
    have h : xs = [] := h
    cases e; exact h
  | d :: ds, xs, bs, ⟨x, r, e1, h1, h2⟩, e => by
    cases d with
    | int b =>
      obtain ⟨l, e2, rfl⟩ := Option.map_eq_some_iff.mp e
      have h1 : x = .int b := h1
      rw [e1, h1, intsOf_rep h2 e2]
      rfl
    | _ => cases e
theorem rep_keys {z : Fz} : ∀ {ds : List (Key × D)} {kvs : List (Key × V)}, RepK c.K c.C z ds kvs → c.RepL z (ds.map fun kv => kD kv.1) (kvs.map fun kv => kV kv.1)
  | [], kvs, h => by have h : kvs = [] := h; subst h; rfl
  | (k, d) :: ds, kvs, ⟨x, r, e1, h1, h2⟩ => by
    subst e1
    refine ⟨kV k, _, rfl, ?_, rep_keys h2⟩
    cases k with
    | inl i => rfl
    | inr s => rfl
theorem cr_len (hK : X.K = c.K) : CallR X (.builtin "len") (rC c lenD) := by
  intro pins s σ' H xs us Q I r ⟨ρ, m, z, σ, ds, S, hd, A⟩
  obtain ⟨b, eb, A⟩ := A.of
  unfold lenD at eb
  split at eb
  · cases eb
    obtain ⟨x, rfl, h⟩ := rs1 hd
    obtain ⟨p, vs, rfl, q1, q2⟩ := h
    exact call_len_seq pins s σ' H _ us Q I r ⟨p, vs, rfl, .inl (.inl q1), by rw [RepL.length q2]; exact A.ret S rfl⟩
  · cases eb
    obtain ⟨x, rfl, h⟩ := rs1 hd
    obtain ⟨p, vs, rfl, q1, q2⟩ := h
    exact call_len_seq pins s σ' H _ us Q I r ⟨p, vs, rfl, .inr (by rw [hK]; exact same_seqT S.st.le q1), by rw [RepL.length q2]; exact A.ret S rfl⟩
  · cases eb
    obtain ⟨x, rfl, h⟩ := rs1 hd
    obtain ⟨p, rfl, q1⟩ := h
    exact call_len_seq pins s σ' H _ us Q I r ⟨p, _, rfl, .inl (by rw [hK]; exact q1), by rw [List.length_map]; exact A.ret S rfl⟩
  · cases eb
    obtain ⟨x, rfl, h⟩ := rs1 hd
    obtain ⟨p, kvs, rfl, q1, q2⟩ := h
    obtain ⟨u, rfl, ru⟩ := vals1 r
    cases ru
    exact d_len I q1 fun t s' I' => ⟨.int kvs.length, H, I', ⟨t, rfl⟩, by rw [RepK.length q2]; exact A.ret S rfl⟩
  · obtain ⟨x, rfl, h⟩ := rs1 hd
    obtain rfl : x = .str _ := h
    obtain ⟨hl, eb⟩ := lim_some eb
    cases eb
    exact call_len_str pins s σ' H _ us Q I r ⟨_, rfl, hl, A.ret S rfl⟩
  · cases eb
theorem cr_abs : CallR X (.builtin "abs") (rC c absD) := by
  intro pins s σ' H xs us Q I r ⟨ρ, m, z, σ, ds, S, hd, A⟩
  obtain ⟨b, eb, A⟩ := A.of
  unfold absD at eb
  split at eb
  · cases eb
    obtain ⟨x, rfl, h⟩ := rs1 hd
    obtain rfl : x = .int _ := h
    exact call_abs pins s σ' H _ us Q I r ⟨_, rfl, A.ret S rfl⟩
  · cases eb
theorem cr_int : CallR X (.type "int") (rC c intD) := by
  intro pins s σ' H xs us Q I r ⟨ρ, m, z, σ, ds, S, hd, A⟩
  obtain ⟨b, eb, A⟩ := A.of
  unfold intD at eb
  split at eb
  · cases eb
    obtain ⟨x, rfl, h⟩ := rs1 hd
    obtain rfl : x = .int _ := h
    exact call_int1 pins s σ' H _ us Q I r (.inl ⟨_, rfl, A.ret S rfl⟩)
  · cases eb
    obtain ⟨x, rfl, h⟩ := rs1 hd
    obtain rfl : x = .bl _ := h
    exact call_int1 pins s σ' H _ us Q I r (.inr ⟨_, rfl, A.ret S rfl⟩)
  · obtain ⟨x, rfl, h⟩ := rs1 hd
    obtain rfl : x = .str _ := h
    obtain ⟨hl, eb⟩ := if_some eb
    obtain ⟨n, hn, rfl⟩ := Option.map_eq_some_iff.mp eb
    exact call_int_str pins s σ' H _ us Q I r ⟨_, n, rfl, hn, hl, A.ret S rfl⟩
  · cases eb
theorem cr_str : CallR X (.type "str") (rC c strD) := by
  intro pins s σ' H xs us Q I r ⟨ρ, m, z, σ, ds, S, hd, A⟩
  obtain ⟨b, eb, A⟩ := A.of
  unfold strD at eb
  split at eb
  · obtain ⟨x, rfl, h⟩ := rs1 hd
    obtain rfl : x = .int _ := h
    obtain ⟨hl, eb⟩ := if_some eb
    cases eb
    exact call_str_int pins s σ' H _ us Q I r ⟨_, rfl, hl, A.ret S rfl⟩
  · cases eb
theorem cr_allD (hc : X.calm = true) : CallR X (.builtin "all") (rC c allD) := by
  intro pins s σ' H xs us Q I r ⟨ρ, m, z, σ, ds, S, hd, A⟩
  obtain ⟨b, eb, A⟩ := A.of
  unfold allD at eb
  split at eb
  · obtain ⟨x, rfl, h⟩ := rs1 hd
    obtain ⟨p, vs, rfl, q1, q2⟩ := h
    obtain ⟨bs, e, rfl⟩ := Option.map_eq_some_iff.mp eb
    have e2 := bools_rep q2 e
    subst e2
    exact cr_all hc pins s σ' H _ us Q I r ⟨p, bs, rfl, .inl q1, A.ret S rfl⟩
  · cases eb
theorem cr_anyD (hc : X.calm = true) : CallR X (.builtin "any") (rC c anyD) := by
  intro pins s σ' H xs us Q I r ⟨ρ, m, z, σ, ds, S, hd, A⟩
  obtain ⟨b, eb, A⟩ := A.of
  unfold anyD at eb
  split at eb
  · obtain ⟨x, rfl, h⟩ := rs1 hd
    obtain ⟨p, vs, rfl, q1, q2⟩ := h
    obtain ⟨bs, e, rfl⟩ := Option.map_eq_some_iff.mp eb
    have e2 := bools_rep q2 e
    subst e2
    exact cr_any hc pins s σ' H _ us Q I r ⟨p, bs, rfl, .inl q1, A.ret S rfl⟩
  · cases eb
theorem cr_sumD (hc : X.calm = true) : CallR X (.builtin "sum") (rC c sumD) := by
  intro pins s σ' H xs us Q I r ⟨ρ, m, z, σ, ds, S, hd, A⟩
  obtain ⟨b, eb, A⟩ := A.of
  unfold sumD at eb
  split at eb
  · obtain ⟨x, rfl, h⟩ := rs1 hd
    obtain ⟨p, vs, rfl, q1, q2⟩ := h
    obtain ⟨bs, e, rfl⟩ := Option.map_eq_some_iff.mp eb
    have e2 := intsOf_rep q2 e
    subst e2
    exact cr_sum hc pins s σ' H _ us Q I r ⟨p, bs, rfl, .inl q1, A.ret S rfl⟩
  · cases eb
theorem cr_list (hc : X.calm = true) (hK : X.K = c.K) : CallR X (.type "list") (rC c listD) := by
  intro pins s σ' H xs us Q I r ⟨ρ, m, z, σ, ds, S, hd, A⟩
  obtain ⟨b, eb, A⟩ := A.of
  unfold listD at eb
  split at eb
  · cases eb
    obtain ⟨x, rfl, h⟩ := rs1 hd
    obtain ⟨p, vs, rfl, q1, q2⟩ := h
    exact call_list_of pins s σ' H _ us Q I r ⟨p, vs, rfl, .inl (.inl q1), At.newLst A S q2⟩
  · cases eb
    obtain ⟨x, rfl, h⟩ := rs1 hd
    obtain ⟨p, vs, rfl, q1, q2⟩ := h
    exact call_list_of pins s σ' H _ us Q I r ⟨p, vs, rfl, .inr (by rw [hK]; exact same_seqT S.st.le q1), At.newLst A S q2⟩
  · cases eb
    obtain ⟨x, rfl, h⟩ := rs1 hd
    obtain ⟨p, rfl, q1⟩ := h
    exact call_list_of pins s σ' H _ us Q I r ⟨p, _, rfl, .inl (by rw [hK]; exact q1), At.newLst A S (RepL.ints.mpr rfl)⟩
  · cases eb
    obtain ⟨x, rfl, h⟩ := rs1 hd
    obtain ⟨p, kvs, rfl, q1, q2⟩ := h
    exact call_listD hc pins s σ' H _ us Q I r ⟨p, kvs, rfl, q1, At.newLst A S (rep_keys q2)⟩
  · cases eb
theorem cr_tuple (hK : X.K = c.K) : CallR X (.type "tuple") (rC c tupleD) := by
  intro pins s σ' H xs us Q I r ⟨ρ, m, z, σ, ds, S, hd, A⟩
  obtain ⟨b, eb, A⟩ := A.of
  unfold tupleD at eb
  split at eb
  · cases eb
    obtain ⟨x, rfl, h⟩ := rs1 hd
    obtain ⟨p, vs, rfl, q1, q2⟩ := h
    exact call_tuple_of pins s σ' H _ us Q I r ⟨p, vs, rfl, .inl ⟨.inl q1, At.newTup A S q2⟩⟩
  · cases eb
    obtain ⟨x, rfl, h⟩ := rs1 hd
    obtain ⟨p, vs, rfl, q1, q2⟩ := h
    exact call_tuple_of pins s σ' H _ us Q I r ⟨p, vs, rfl, .inr ⟨by rw [hK]; exact same_seqT S.st.le q1, A.ret S ⟨p, vs, rfl, q1, q2⟩⟩⟩
  · cases eb
theorem strsOf_rep {z : Fz} : ∀ {ds : List D} {xs : List V} {ss : List Str}, c.RepL z ds xs → strsOf ds = some ss → xs = ss.map V.str
  | [], xs, bs, h, e => by
    have h : xs = [] := h
    cases e; exact h
  | d :: ds, xs, bs, ⟨x, r, e1, h1, h2⟩, e => by
    cases d with
    | str b =>
      obtain ⟨l, e2, rfl⟩ := Option.map_eq_some_iff.mp e
      have h1 : x = .str b := h1
      rw [e1, h1, strsOf_rep h2 e2]
      rfl
    | _ => cases e
theorem vals_strs : ∀ {ss : List Str} {us : List Value}, Vals (ss.map V.str) us → PyProof.Rows.StrsAre us ss
  | [], us, r => by
    rw [List.map_nil] at r
    cases r
    exact .nil
  | s :: ss, us, r => by
    rw [List.map_cons] at r
    cases r with
    | cons h t =>
      obtain ⟨tk, rfl⟩ := h
      exact .cons s tk (vals_strs t)
theorem reads_strs {h : Heap} : ∀ {us : List Value} {ss : List Str}, PyProof.Rows.StrsAre us ss → ReadsAll h us (ss.map PyData.str) []
  | _, _, .nil => .nil
  | _, _, .cons y t r => .cons (as := []) (bs := []) (.str y t) (reads_strs r)
theorem alike_strs (ss : List Str) : PySem.W.AlikeAll (ss.map PyData.str) := by
  refine ⟨fun x hx y hy => ?_, fun x hx => ?_⟩
  · obtain ⟨a, _, rfl⟩ := List.mem_map.mp hx
    obtain ⟨b, _, rfl⟩ := List.mem_map.mp hy
    rfl
  · obtain ⟨a, _, rfl⟩ := List.mem_map.mp hx
    simp
theorem depth_strs : ∀ ss : List Str, PyData.depthAll (ss.map PyData.str) = 0
  | [] => by simp [PyData.depthAll]
  | s :: ss => by simp [PyData.depthAll, PyData.depth, depth_strs ss]
theorem dataLt_strs (a b : Str) : PySem.W.dataLt (.str a) (.str b) = PySem.Spec.ltCps a.cps.toList b.cps.toList := by
  rw [PyProof.Rows.ltCps_eq]
  exact PySem.W.dataLt_str a b
theorem minS_D : ∀ (r : List Str) (s : Str), PySem.W.minD (.str s) (r.map PyData.str) = .str (minS s r)
  | [], s => rfl
  | y :: r, s => by
    show PySem.W.minD (if PySem.W.dataLt (.str y) (.str s) = true then PyData.str y else PyData.str s) (r.map PyData.str) = .str (minS (if PySem.Spec.ltCps y.cps.toList s.cps.toList = true then y else s) r)
    rw [dataLt_strs]
    split <;> exact minS_D r _
theorem maxS_D : ∀ (r : List Str) (s : Str), PySem.W.maxD (.str s) (r.map PyData.str) = .str (maxS s r)
  | [], s => rfl
  | y :: r, s => by
    show PySem.W.maxD (if PySem.W.dataLt (.str s) (.str y) = true then PyData.str y else PyData.str s) (r.map PyData.str) = .str (maxS (if PySem.Spec.ltCps s.cps.toList y.cps.toList = true then y else s) r)
    rw [dataLt_strs]
    split <;> exact maxS_D r _
theorem foldmax_ge : ∀ (r : List Int) (i : Int), i ≤ r.foldl max i ∧ (∀ y ∈ r, y ≤ r.foldl max i) ∧ (r.foldl max i = i ∨ r.foldl max i ∈ r)
  | [], i => ⟨Int.le_refl _, by simp, .inl rfl⟩
  | x :: r, i => by
    obtain ⟨h1, h2, h3⟩ := foldmax_ge r (max i x)
    refine ⟨by simp only [List.foldl_cons]; omega, fun y hy => ?_, ?_⟩
    · simp only [List.foldl_cons]
      rcases List.mem_cons.mp hy with rfl | hy
      · omega
      · exact h2 y hy
    · simp only [List.foldl_cons]
      rcases h3 with h3 | h3
      · rw [h3]
        by_cases c : i ≤ x
        · exact .inr (by rw [Int.max_eq_right c]; simp)
        · exact .inl (Int.max_eq_left (by omega))
      · exact .inr (List.mem_cons_of_mem _ h3)
theorem max_uniq {i w : Int} {r : List Int} (hw : w ∈ i :: r) (h : ∀ y ∈ i :: r, y ≤ w) : w = r.foldl max i := by
  obtain ⟨h1, h2, h3⟩ := foldmax_ge r i
  have a : w ≤ r.foldl max i := by
    rcases List.mem_cons.mp hw with rfl | hw
    · exact h1
    · exact h2 w hw
  have b : r.foldl max i ≤ w := h _ (h3.elim (fun e => by rw [e]; simp) (List.mem_cons_of_mem _))
  omega
theorem foldmin_le : ∀ (r : List Int) (i : Int), r.foldl min i ≤ i ∧ (∀ y ∈ r, r.foldl min i ≤ y) ∧ (r.foldl min i = i ∨ r.foldl min i ∈ r)
  | [], i => ⟨Int.le_refl _, by simp, .inl rfl⟩
  | x :: r, i => by
    obtain ⟨h1, h2, h3⟩ := foldmin_le r (min i x)
    refine ⟨by simp only [List.foldl_cons]; omega, fun y hy => ?_, ?_⟩
    · simp only [List.foldl_cons]
      rcases List.mem_cons.mp hy with rfl | hy
      · omega
      · exact h2 y hy
    · simp only [List.foldl_cons]
      rcases h3 with h3 | h3
      · rw [h3]
        by_cases c : i ≤ x
        · exact .inl (Int.min_eq_left c)
        · exact .inr (by rw [Int.min_eq_right (by omega)]; simp)
      · exact .inr (List.mem_cons_of_mem _ h3)
theorem min_uniq {i w : Int} {r : List Int} (hw : w ∈ i :: r) (h : ∀ y ∈ i :: r, w ≤ y) : w = r.foldl min i := by
  obtain ⟨h1, h2, h3⟩ := foldmin_le r i
  have a : r.foldl min i ≤ w := by
    rcases List.mem_cons.mp hw with rfl | hw
    · exact h1
    · exact h2 w hw
  have b : w ≤ r.foldl min i := h _ (h3.elim (fun e => by rw [e]; simp) (List.mem_cons_of_mem _))
  omega
theorem cr_min2 (hc : X.calm = true) (hu : X.A.units + 70 < cLine) : CallR X (.builtin "min") (rC c min2D) := by
  intro pins s σ' H xs us Q I r ⟨ρ, m, z, σ, ds, S, hd, A⟩
  obtain ⟨b, eb, A⟩ := A.of
  unfold min2D at eb
  split at eb
  · cases eb
    obtain ⟨x, y, rfl, h1, h2⟩ := rs2 hd
    obtain rfl : x = .int _ := h1
    obtain rfl : y = .int _ := h2
    exact call_min2 hc pins s σ' H _ us Q I r ⟨_, _, rfl, A.ret S rfl⟩
  · obtain ⟨x, rfl, h⟩ := rs1 hd
    obtain ⟨p, vs, rfl, q1, q2⟩ := h
    split at eb
    · rename_i s0 r0 e
      cases eb
      have e2 := strsOf_rep q2 e
      subst e2
      obtain ⟨its, rv, hl, _⟩ := I.list (show SqL X.K H p ((s0 :: r0).map V.str) from .inl q1)
      rw [Vals.ref1 r]
      have rd := reads_strs (h := s.heap) (vals_strs rv)
      have dp := depth_strs (s0 :: r0)
      refine PySem.W.min_list_data (I.ok.hd hc) hl.isList (x := .str s0) (xs := r0.map PyData.str) rd (alike_strs (s0 :: r0)) (by show X.A.units + 1 + PyData.depthAll ((s0 :: r0).map PyData.str) < cLine; rw [dp]; omega) fun i v h' tk bs _ hr hk => ?_
      rw [minS_D] at hr
      cases hr
      exact ⟨.str _, H, I.kept (t' := tk) hk, ⟨_, rfl⟩, A.ret S rfl⟩
    · split at eb
      · rename_i i0 r0 e
        cases eb
        have e2 := intsOf_rep q2 e
        subst e2
        refine cr_min hc pins s σ' H _ us Q I r ⟨p, i0 :: r0, rfl, .inl q1, by simp, fun w hw hle => ?_⟩
        have : w = r0.foldl min i0 := min_uniq hw hle
        subst this
        exact A.ret S rfl
      · cases eb
  · cases eb
theorem cr_max2 (hc : X.calm = true) (hu : X.A.units + 70 < cLine) : CallR X (.builtin "max") (rC c max2D) := by
  intro pins s σ' H xs us Q I r ⟨ρ, m, z, σ, ds, S, hd, A⟩
  obtain ⟨b, eb, A⟩ := A.of
  unfold max2D at eb
  split at eb
  · cases eb
    obtain ⟨x, y, rfl, h1, h2⟩ := rs2 hd
    obtain rfl : x = .int _ := h1
    obtain rfl : y = .int _ := h2
    exact call_max2 hc pins s σ' H _ us Q I r ⟨_, _, rfl, A.ret S rfl⟩
  · obtain ⟨x, rfl, h⟩ := rs1 hd
    obtain ⟨p, vs, rfl, q1, q2⟩ := h
    split at eb
    · rename_i s0 r0 e
      cases eb
      have e2 := strsOf_rep q2 e
      subst e2
      obtain ⟨its, rv, hl, _⟩ := I.list (show SqL X.K H p ((s0 :: r0).map V.str) from .inl q1)
      rw [Vals.ref1 r]
      have rd := reads_strs (h := s.heap) (vals_strs rv)
      have dp := depth_strs (s0 :: r0)
      refine PySem.W.max_list_data (I.ok.hd hc) hl.isList (x := .str s0) (xs := r0.map PyData.str) rd (alike_strs (s0 :: r0)) (by show X.A.units + 1 + PyData.depthAll ((s0 :: r0).map PyData.str) < cLine; rw [dp]; omega) fun i v h' tk bs _ hr hk => ?_
      rw [maxS_D] at hr
      cases hr
      exact ⟨.str _, H, I.kept (t' := tk) hk, ⟨_, rfl⟩, A.ret S rfl⟩
    · split at eb
      · rename_i i0 r0 e
        cases eb
        have e2 := intsOf_rep q2 e
        subst e2
        refine cr_max hc pins s σ' H _ us Q I r ⟨p, i0 :: r0, rfl, .inl q1, by simp, fun w hw hle => ?_⟩
        have : w = r0.foldl max i0 := max_uniq hw hle
        subst this
        exact A.ret S rfl
      · cases eb
  · cases eb
/-! ### sorted -/
def keysOf : List (Key × D) → Option (List Str)
  | [] => some []
  | (.inr b, _) :: r => (keysOf r).map (b :: ·)
  | _ => none
def keysIOf : List (Key × D) → Option (List Int)
  | [] => some []
  | (.inl b, _) :: r => (keysIOf r).map (b :: ·)
  | _ => none
def leS (a b : Str) : Bool := !PySem.Spec.ltCps b.cps.toList a.cps.toList
def sortS (xs : List Str) : List Str := xs.mergeSort leS
def sortI (xs : List Int) : List Int := xs.mergeSort (fun a b => decide (a ≤ b))
theorem leS_iff (a b : Str) : leS a b = true ↔ a.cps.toList ≤ b.cps.toList := by
  unfold leS
  rw [PyProof.Rows.ltCps_eq]
  simp
theorem leS_trans (a b c : Str) (h : leS a b = true) (g : leS b c = true) : leS a c = true := by
  rw [leS_iff] at *
  exact List.le_trans h g
theorem leS_total (a b : Str) : (leS a b || leS b a) = true := by
  rw [Bool.or_eq_true, leS_iff, leS_iff]
  exact List.le_total _ _
theorem leS_anti (a b : Str) (h : leS a b = true) (g : leS b a = true) : a = b := by
  rw [leS_iff] at *
  have e := List.le_antisymm h g
  cases a; cases b
  simp at e
  rw [e]
theorem risingS_pair : ∀ (p : Str) (l : List Str), PyProof.Rows.risingS p l = true → (p :: l).Pairwise (fun a b => leS a b = true)
  | p, [], _ => by simp
  | p, x :: r, h => by
    have h : (!PySem.Spec.ltCps x.cps.toList p.cps.toList && PyProof.Rows.risingS x r) = true := h
    rw [Bool.and_eq_true] at h
    have ih := risingS_pair x r h.2
    have px : leS p x = true := h.1
    rw [List.pairwise_cons]
    refine ⟨fun y hy => ?_, ih⟩
    rcases List.mem_cons.mp hy with rfl | hy
    · exact px
    · exact leS_trans p x y px ((List.pairwise_cons.mp ih).1 y hy)
theorem sortedS_pair : ∀ (l : List Str), PyProof.Rows.sortedS l = true → l.Pairwise (fun a b => leS a b = true)
  | [], _ => List.Pairwise.nil
  | x :: r, h => risingS_pair x r h
theorem sortI_eq {xs ys : List Int} (h : ys.Perm xs) (s : ys.Pairwise (· ≤ ·)) : ys = sortI xs := by
  have p : (sortI xs).Pairwise (fun a b => decide (a ≤ b) = true) := List.pairwise_mergeSort (fun a b c h g => by simp at *; omega) (fun a b => by simp; omega) xs
  refine List.Perm.eq_of_pairwise (le := fun a b => a ≤ b) (fun a b _ _ h g => by omega) s (p.imp fun h => of_decide_eq_true h) (h.trans (List.mergeSort_perm xs _).symm)
theorem sortS_eq {xs ys : List Str} (h : ys.Perm xs) (s : PyProof.Rows.sortedS ys = true) : ys = sortS xs := by
  have p : (sortS xs).Pairwise (fun a b => leS a b = true) := List.pairwise_mergeSort leS_trans leS_total xs
  exact List.Perm.eq_of_pairwise (le := fun a b => leS a b = true) (fun a b _ _ h g => leS_anti a b h g) (sortedS_pair _ s) p (h.trans (List.mergeSort_perm xs _).symm)
def sortedD : List D → Option D
  | [.lst xs] => match strsOf xs with
    | some ss => if ss.length < 64 then some (.lst ((sortS ss).map D.str)) else none
    | none => (intsOf xs).map fun ns => .lst ((sortI ns).map D.int)
  | [.dct kvs] => match keysOf kvs with
    | some ss => if ss.length < 64 then some (.lst ((sortS ss).map D.str)) else none
    | none => match keysIOf kvs with
      | some is => if is.length < 64 then some (.lst ((sortI is).map D.int)) else none
      | none => none
  | _ => none
theorem keysOf_rep {z : Fz} : ∀ {ds : List (Key × D)} {kvs : List (Key × V)} {ss : List Str}, RepK c.K c.C z ds kvs → keysOf ds = some ss → kvs.map (·.1) = ss.map Sum.inr
  | [], xs, bs, h, e => by
    have h : xs = [] := h
    cases e; subst h; rfl
  | (k, d) :: ds, xs, bs, ⟨x, r, e1, h1, h2⟩, e => by
    cases k with
    | inr b =>
      obtain ⟨l, e2, rfl⟩ := Option.map_eq_some_iff.mp e
      rw [e1, List.map_cons, keysOf_rep h2 e2]
      rfl
    | inl b => cases e
theorem keysIOf_rep {z : Fz} : ∀ {ds : List (Key × D)} {kvs : List (Key × V)} {ss : List Int}, RepK c.K c.C z ds kvs → keysIOf ds = some ss → kvs.map (·.1) = ss.map Sum.inl
  | [], xs, bs, h, e => by
    have h : xs = [] := h
    cases e; subst h; rfl
  | (k, d) :: ds, xs, bs, ⟨x, r, e1, h1, h2⟩, e => by
    cases k with
    | inl b =>
      obtain ⟨l, e2, rfl⟩ := Option.map_eq_some_iff.mp e
      rw [e1, List.map_cons, keysIOf_rep h2 e2]
      rfl
    | inr b => cases e
theorem RepL.strs {z : Fz} : ∀ (ss : List Str), c.RepL z (ss.map D.str) (ss.map V.str)
  | [] => rfl
  | s :: ss => ⟨.str s, _, rfl, rfl, RepL.strs ss⟩
theorem cr_sortedD (hc : X.calm = true) : CallR X (.builtin "sorted") (rC c sortedD) := by
  intro pins s σ' H xs us Q I r ⟨ρ, m, z, σ, ds, S, hd, A⟩
  obtain ⟨b, eb, A⟩ := A.of
  unfold sortedD at eb
  split at eb
  · obtain ⟨x, rfl, h⟩ := rs1 hd
    obtain ⟨p, vs, rfl, q1, q2⟩ := h
    split at eb
    · rename_i ss e
      obtain ⟨hl, eb⟩ := if_some eb
      cases eb
      have e2 := strsOf_rep q2 e
      subst e2
      refine cr_sortedS pins s σ' H _ us Q I r ⟨p, ss, rfl, .inl q1, hl, fun ys p' pm so hp => ?_⟩
      rw [sortS_eq pm so]
      exact At.newLst A S (RepL.strs _) p' hp
    · obtain ⟨ns, e, rfl⟩ := Option.map_eq_some_iff.mp eb
      have e2 := intsOf_rep q2 e
      subst e2
      refine cr_sortedI pins s σ' H _ us Q I r ⟨p, ns, rfl, .inl q1, fun ys p' pm so hp => ?_⟩
      rw [sortI_eq pm so]
      exact At.newLst A S (RepL.ints.mpr rfl) p' hp
  · obtain ⟨x, rfl, h⟩ := rs1 hd
    obtain ⟨p, kvs, rfl, q1, q2⟩ := h
    split at eb
    · rename_i ss e
      obtain ⟨hl, eb⟩ := if_some eb
      cases eb
      have e2 := keysOf_rep q2 e
      refine call_sortedD hc pins s σ' H _ us Q I r ⟨p, kvs, ss, rfl, q1, e2, hl, fun ys p' pm so hp => ?_⟩
      rw [sortS_eq pm so]
      exact At.newLst A S (RepL.strs _) p' hp
    · split at eb
      · rename_i is e
        obtain ⟨hl, eb⟩ := if_some eb
        cases eb
        have e2 := keysIOf_rep q2 e
        refine call_sortedDI hc pins s σ' H _ us Q I r ⟨p, kvs, is, rfl, q1, e2, hl, fun ys p' pm so hp => ?_⟩
        rw [sortI_eq pm so]
        exact At.newLst A S (RepL.ints.mpr rfl) p' hp
      · cases eb
  · cases eb
/-- the built-ins by name -/
def fnD : String → List D → Option D
  | "len" => lenD | "abs" => absD | "all" => allD | "any" => anyD | "sum" => sumD | "min" => min2D | "max" => max2D | "sorted" => sortedD
  | _ => fun _ => none
def tyD : String → List D → Option D
  | "int" => intD | "str" => strD | "list" => listD | "tuple" => tupleD
  | _ => fun _ => none
theorem cr_fn (hc : X.calm = true) (hu : X.A.units + 70 < cLine) (hK : X.K = c.K) (n : String) : CallR X (.builtin n) (rC c (fnD n)) := by
  unfold fnD
  split
  · exact cr_len hK
  · exact cr_abs
  · exact cr_allD hc
  · exact cr_anyD hc
  · exact cr_sumD hc
  · exact cr_min2 hc hu
  · exact cr_max2 hc hu
  · exact cr_sortedD hc
  · intro pins s σ' H xs us Q I r ⟨ρ, m, z, σ, ds, S, hd, A⟩
    exact A.elim
theorem cr_ty (hc : X.calm = true) (hK : X.K = c.K) (n : String) : CallR X (.type n) (rC c (tyD n)) := by
  unfold tyD
  split
  · exact cr_int
  · exact cr_str
  · exact cr_list hc hK
  · exact cr_tuple hK
  · intro pins s σ' H xs us Q I r ⟨ρ, m, z, σ, ds, S, hd, A⟩
    exact A.elim
end
end GS
end

noncomputable section
namespace GS
open PySem L2
/-! ### calls, what is raised wished for at the slots -/
section
variable {X : Cx} {CX : CXT} {k : Nat} {f C : Addr} {fd : FuncData} {ps : List Str} {sp : Sp} {E : St → XK} {x m : Str} {p pos apos : Pos} {e o : Expr} {es : List Expr} {ta : TE} {t : TA}
theorem pe_callS0 (F : FnOk X.prog X.w X.K X.mg X.base CX k f fd ps sp) (hr : Room k X.A) (hg : Gl X x) (hm : X.mg x = some (.ref f)) (hk : PySem.W.keepIn X.K (.ref f) = true) (hb : Binds X.K fd ps []) (hx : ∀ σ, PassesAt CX X σ (E σ))
    (hdb : (x == ("__debug__" : Str)) = false := by decide) : PE X (.Call (.Name x p) [] [] pos) (tCallS sp E tNil) := by
  refine ⟨fun pins s σ H Q I h => ?_⟩
  refine wpAny_Call_Name_kw (ld_glob I hg hm ?_ hdb)
  exact PySem.W.callWith_K0 I.kIn hk (run_fnS (us := []) F hr hb (hx σ) I .nil h)
/-- o.m(..), the class told by the reading -/
def tMethA (X : Cx) (CX : CXT) (m : Str) (E : St → XK) (ta : TE) (t : TA) : TE := fun σ H Q => ta σ H fun x H1 => ∃ (a dx : Addr) (fs : List (Str × V)) (C f : Addr) (fd : FuncData) (ps : List Str) (k : Nat) (sp : Sp),
  x = .ref a ∧ H1 a = some (.ins C dx fs) ∧ fs.lookup m = none ∧ Cls X.K C ∧ Meth X.K C m f ∧ FnOk X.prog X.w X.K X.mg X.base CX k f fd ps sp ∧ Room k X.A ∧ Binds X.K fd ps [] ∧ t σ H1 fun vs H2 => sp (x :: vs) H2 Q (E σ)
theorem pe_methA {pl : Sem Bool} (he : PE X o ta) (hx : ∀ σ, PassesAt CX X σ (E σ)) (ha : PA X (e :: es) t)
    (hst : starEach (e :: es) X.env = (false, eval e X.env) :: starEach es X.env) (hpl : (backTo pos (starEach es X.env)).any (·.1) = false)
    (ht : eval (.Call (.Attribute o m apos) (e :: es) [] pos) X.env = (do
      let ov ← eval o X.env
      standAt apos.atName
      let (f, first) ← holding [ov] (getMethod ov m pl)
      callWith pos f first (backTo pos (starEach (e :: es) X.env)) (backToKw pos (keywordEach [] X.env)))) :
    PE X (.Call (.Attribute o m apos) (e :: es) [] pos) (tMethA X CX m E ta t) := by
  refine ⟨fun pins s σ H Q I h => ?_⟩
  refine PySem.W.methodCall_KW (pl := pl) (thn (he.run pins s σ H _ I h) fun u s1 ⟨x, H1, I1, rx, a, dx, fs, C, f, fd, ps, k, sp, ex, ea, l, c, hm, F, hr, hb, q⟩ => ?_) ht
  subst ex
  obtain rfl : u = Value.ref a := rx
  refine getmeth_ok I1 ea c hm l ?_
  refine PySem.W.callWith_K (first := [.ref a]) (h₀ := X.base) I.ok.mod.kin hm.kp (thn (ha.run pos pins s1 σ H1 _ I1 q) fun us s2 ⟨vs, H2, I2, r, q2⟩ => ⟨I2.kIn, ?_⟩) hst hpl
  exact run_fnS (us := .ref a :: us) (vs := .ref a :: vs) F hr hb (hx σ) I2 (.cons rfl r) q2
theorem pe_methA0 {pl : Sem Bool} (he : PE X o ta) (hx : ∀ σ, PassesAt CX X σ (E σ))
    (ht : eval (.Call (.Attribute o m apos) [] [] pos) X.env = (do
      let ov ← eval o X.env
      standAt apos.atName
      let (f, first) ← holding [ov] (getMethod ov m pl)
      callWith pos f first (backTo pos (starEach [] X.env)) (backToKw pos (keywordEach [] X.env)))) :
    PE X (.Call (.Attribute o m apos) [] [] pos) (tMethA X CX m E ta tNil) := by
  refine ⟨fun pins s σ H Q I h => ?_⟩
  refine PySem.W.methodCall_KW (pl := pl) (thn (he.run pins s σ H _ I h) fun u s1 ⟨x, H1, I1, rx, a, dx, fs, C, f, fd, ps, k, sp, ex, ea, l, c, hm, F, hr, hb, q⟩ => ?_) ht
  subst ex
  obtain rfl : u = Value.ref a := rx
  refine getmeth_ok I1 ea c hm l ?_
  exact PySem.W.callWith_K0 (first := [.ref a]) I1.kIn hm.kp (run_fnS (us := [.ref a]) (vs := [.ref a]) F hr hb (hx σ) I1 (.cons rfl .nil) q)
theorem run_makeS {pins : List (Addr × Obj)} {σ : St} {H : Hp} {s : Shared} {Q : VK} {us : List Value} {vs : List V} (M : Mk X.K C f) (F : FnOk X.prog X.w X.K X.mg X.base CX k f fd ps sp) (hr : Room (k + 1) X.A) (hb : Binds X.K fd ps [])
    (hx : PassesAt CX X σ (E σ)) (I : L2.Inv X pins σ H s) (r : Vals vs us)
    (h : ∀ x dx, H x = none → H dx = none → dx ≠ x → sp (.ref x :: vs) (upd (upd H dx (.own x)) x (.ins C dx [])) (fun v H2 => v = .non ∧ Q (.ref x) H2) (E σ)) :
    wpAny (model X.prog X.w) X.A (call (.ref C) us) (EP X pins σ Q) X.xe s := by
  have hq := h (s.heap.objs.size + 1) s.heap.objs.size (I.hok.fresh (Nat.le_succ _)) (I.hok.fresh (Nat.le_refl _)) (Nat.ne_of_lt (Nat.lt_succ_self _))
  have I2 := Inv.made (C := C) I
  have r2 : Vals (V.ref (s.heap.objs.size + 1) :: vs) (Value.ref (s.heap.objs.size + 1) :: us) := .cons rfl r
  have hl : (Value.ref (s.heap.objs.size + 1) :: us).length = ps.length := by
    have e := r2.length
    rw [F.len _ _ _ _ hq] at e
    exact e.symm
  have b := hb _ (Value.ref (s.heap.objs.size + 1) :: us) I2.kIn (by rw [List.append_nil]; exact hl)
  rw [List.append_nil] at b
  refine wpAny_call (make_map (f := f) I.kIn M.makes M.init (beq_iff_eq.mp M.fn) (codeAny_mono (F.run _ X.stack _ _ ⟨Value.ref (s.heap.objs.size + 1) :: us, []⟩ (Value.ref (s.heap.objs.size + 1) :: us) _ _ (E σ) (hr.make C us [])
    (I2.env0.make C us []) b r2 hq) fun r s' hq' => ?_))
  cases r with
  | error e => exact hx pins _ _ e s' I2 hq'
  | ok fl =>
    cases fl with
    | ret u =>
      obtain ⟨v, H', I3, rv, ev, q3⟩ := I2.after hq'
      subst ev
      exact ⟨rv, ⟨V.ref (s.heap.objs.size + 1), H', I3, rfl, q3⟩⟩
    | next => exact False.elim hq'
    | brk => exact False.elim hq'
    | cont => exact False.elim hq'
def tMakeS (C : Addr) (sp : Sp) (E : St → XK) (t : TA) : TE := fun σ H Q => t σ H fun vs H1 => ∀ x dx, H1 x = none → H1 dx = none → dx ≠ x →
  sp (.ref x :: vs) (upd (upd H1 dx (.own x)) x (.ins C dx [])) (fun v H2 => v = .non ∧ Q (.ref x) H2) (E σ)
theorem pe_makeS (M : Mk X.K C f) (F : FnOk X.prog X.w X.K X.mg X.base CX k f fd ps sp) (hr : Room (k + 1) X.A) (hg : Gl X x) (hm : X.mg x = some (.ref C)) (hb : Binds X.K fd ps []) (hx : ∀ σ, PassesAt CX X σ (E σ))
    (ha : PA X (e :: es) t) (hdb : (x == ("__debug__" : Str)) = false) (he : starEach (e :: es) X.env = (false, eval e X.env) :: starEach es X.env) (hpl : (backTo pos (starEach es X.env)).any (·.1) = false) :
    PE X (.Call (.Name x p) (e :: es) [] pos) (tMakeS C sp E t) := by
  refine ⟨fun pins s σ H Q I h => ?_⟩
  refine wpAny_Call_Name_kw (ld_glob I hg hm ?_ hdb)
  refine PySem.W.callWith_K (h₀ := X.base) I.ok.mod.kin M.kp (thn (ha.run pos pins s σ H _ I h) fun us s1 ⟨vs, H1, I1, r, q⟩ => ⟨I1.kIn, ?_⟩) he hpl
  exact run_makeS M F hr hb (hx σ) I1 r q
end

/-! ### what a def promises, by data -/
def spM (K : PySem.W.Frag) (C : Nat → Addr) (n : Nat) (Φ : List D → List Cell → R D) : Sp := fun vs H Q E => ∃ ds m z, Sto K C m z H ∧ RepL K C z ds vs ∧ ds.length = n ∧
  match Φ ds m with
  | .ok d m' => ∀ v H' z', Sto K C m' z' H' → Gr z H z' H' → Rep K C z' d v → Q v H'
  | .exc k fs m' => ∀ d H' z', Sto K C m' z' H' → Gr z H z' H' → ExcAt K C z' H' fs d → E (.ref (C k)) d H'
  | .stuck => False
/-- a def at fa: at most level k, n arguments -/
structure FnAt (P : Program) (w : World) (K : PySem.W.Frag) (C : Nat → Addr) (mg : Str → Option Value) (base : Heap) (k n : Nat) (Φ : List D → List Cell → R D) (fa : Addr) : Prop where
  ex : ∃ fd ps, Binds K fd ps [] ∧ FnOk P w K mg base (L2.CX P w) k fa fd ps (spM K C n Φ)
/-- a call that leaves the store alone: its own store is thrown away -/
def pur (Φ : List D → List Cell → R D) (xs : List D) (m : List Cell) : R D :=
  if pureL xs = true then (match Φ xs [] with
    | .ok d _ => if d.pure = true then .ok d m else .stuck
    | .exc k fs _ => if pureF fs = true then .exc k fs m else .stuck
    | .stuck => .stuck) else .stuck
section
variable {c : Ctx} {X : Cx} {a b e : Expr} {es : List Expr} {f g h : List D → List Cell → R D} {fs : List D → List Cell → R (List D)} {pos p apos : Pos} {x : Str} {k n : Nat} {Φ : List D → List Cell → R D}
theorem call_sp {ρ : List D} {m : List Cell} {z : Fz} {H : Hp} {σ : L2.St} {vs : List V} {ds : List D} {Q : VK} (S : SS c ρ m z σ H) (r : c.RepL z ds vs) (hn : ds.length = n) (A : At c (rD c) (Φ ds m) ρ z σ H Q) : spM c.K c.C n Φ vs H Q (WE c.W σ) := by
  refine ⟨ds, m, z, S.st, r, hn, ?_⟩
  cases q : Φ ds m with
  | ok d m' =>
    rw [q] at A
    exact fun v H' z' st G rv => A v H' z' (S.go G st) G rv
  | exc k fs m' =>
    rw [q] at A
    exact fun d H' z' st G rv => A d H' z' (S.go G st) G rv
  | stuck => rw [q] at A; exact A
/-- the caller's store behind a call that did not know it -/
theorem Sto.around {K : PySem.W.Frag} {C : Nat → Addr} {m : List Cell} {z z' : Fz} {H H' : Hp} (S : Sto K C m z H) (le : Same z'.F H') (G : Gr ⟨[], z.F⟩ H z' H') : Sto K C m ⟨z.A, z'.F⟩ H' ∧ Gr z H ⟨z.A, z'.F⟩ H' := by
  refine ⟨S.kept le rfl G.f (fun a o _ e t => G.keep a o e (by simp) t) (fun a h e => ?_) (fun a h e n => by
    obtain ⟨ps, e1, t⟩ := h
    obtain ⟨ps', e2, t2⟩ := G.tbk a ps e1 (by simp)
    exact ⟨⟨ps', e2, t2 t⟩, G.sep a _ e1 e (by simp)⟩), { f := G.f, a := fun _ _ h => h, keep := fun a o e _ t => G.keep a o e (by simp) t, tbk := fun a ps e _ => G.tbk a ps e (by simp), new := fun a h => .inl h, sep := fun a o e f _ => G.sep a o e f (by simp) }⟩
  obtain ⟨o, ho, _⟩ := S.there a h
  exact G.sep a o ho e (by simp)
theorem Sto.nil {K : PySem.W.Frag} {C : Nat → Addr} {F H : Hp} (le : Same F H) (tb : ∀ a, TabA C a → Tbl H a ∧ F a = none) : Sto K C [] ⟨[], F⟩ H :=
  ⟨le, rfl, List.nodup_nil, fun a h => (by cases h), fun n c a h => (by simp at h), fun a h => ⟨(tb a h).1, (tb a h).2, by simp⟩⟩
theorem Sto.bare {K : PySem.W.Frag} {C : Nat → Addr} {m : List Cell} {z : Fz} {H : Hp} (S : Sto K C m z H) : Sto K C [] ⟨[], z.F⟩ H := .nil S.le fun a h => ⟨(S.tb a h).1, (S.tb a h).2.1⟩
theorem callP_sp {ρ : List D} {m : List Cell} {z : Fz} {H : Hp} {σ : L2.St} {vs : List V} {ds : List D} {Q : VK} (S : SS c ρ m z σ H) (r : c.RepL z ds vs) (hn : ds.length = n) (A : At c (rD c) (pur Φ ds m) ρ z σ H Q) : spM c.K c.C n Φ vs H Q (WE c.W σ) := by
  unfold pur at A
  by_cases hp : pureL ds = true
  · rw [if_pos hp] at A
    refine ⟨ds, [], ⟨[], z.F⟩, S.st.bare, RepL.pure (z := z) (z' := ⟨[], z.F⟩) (.refl _) _ _ hp r, hn, ?_⟩
    cases q : Φ ds [] with
    | ok d m' =>
      rw [q] at A
      dsimp only at A
      by_cases hd : d.pure = true
      · rw [if_pos hd] at A
        intro v H' z' st G rv
        obtain ⟨s2, g2⟩ := S.st.around st.le G
        exact A v H' _ (S.go g2 s2) g2 (Rep.pure (z := z') (z' := ⟨z.A, z'.F⟩) (.refl _) _ _ hd rv)
      · rw [if_neg hd] at A
        exact A.elim
    | exc kk gs m' =>
      rw [q] at A
      dsimp only at A
      by_cases hd : pureF gs = true
      · rw [if_pos hd] at A
        intro d H' z' st G rv
        obtain ⟨s2, g2⟩ := S.st.around st.le G
        refine A d H' _ (S.go g2 s2) g2 ?_
        rcases rv with rv | ⟨dd, hs, e1, e2, e3⟩
        · exact .inl rv
        · exact .inr ⟨dd, hs, e1, e2, RepF.pure (z := z') (z' := ⟨z.A, z'.F⟩) (.refl _) _ _ hd e3⟩
      · rw [if_neg hd] at A
        exact A.elim
    | stuck => rw [q] at A; exact A
  · rw [if_neg hp] at A
    exact A.elim
/-- f(..): with the store, or leaving it alone -/
def app (pu : Bool) (Φ : List D → List Cell → R D) : List D → List Cell → R D := if pu = true then pur Φ else Φ
theorem app_sp {pu : Bool} {ρ : List D} {m : List Cell} {z : Fz} {H : Hp} {σ : L2.St} {vs : List V} {ds : List D} {Q : VK} (S : SS c ρ m z σ H) (r : c.RepL z ds vs) (hn : ds.length = n) (A : At c (rD c) (app pu Φ ds m) ρ z σ H Q) : spM c.K c.C n Φ vs H Q (WE c.W σ) := by
  cases pu with
  | true => exact callP_sp S r hn A
  | false => exact call_sp S r hn A
def evCall (pu : Bool) (fs : List D → List Cell → R (List D)) (Φ : List D → List Cell → R D) : List D → List Cell → R D := fun ρ m => (fs ρ m).bind fun xs m => app pu Φ xs m
theorem pe_callD {pu : Bool} {fa : Addr} (hK : X.K = c.K) (tk : Takes X c.W) (hr : Room k X.A) (F : FnAt X.prog X.w X.K c.C X.mg X.base k n Φ fa) (hm : X.mg x = some (.ref fa)) (hkp : PySem.W.keepIn X.K (.ref fa) = true) (hg : Gl X x) (ha : PA X (e :: es) (tG c (rL c) fs)) (hn : ∀ ρ m ds m', fs ρ m = .ok ds m' → ds.length = n)
    (hdb : (x == ("__debug__" : Str)) = false) (he : starEach (e :: es) X.env = (false, eval e X.env) :: starEach es X.env) (hpl : (backTo pos (starEach es X.env)).any (·.1) = false) :
    PE X (.Call (.Name x p) (e :: es) [] pos) (tG c (rD c) (evCall pu fs Φ)) := by
  obtain ⟨fd, ps, h3, h4⟩ := F.ex
  refine (pe_callS h4 hr hg hm hkp h3 (fun σ => passAt tk σ) ha hdb he hpl).imp fun σ H Q ⟨ρ, m, z, S, A⟩ => ?_
  refine ⟨ρ, m, z, S, A.bind.imp fun vs H1 ⟨z1, ds, m1, S1, g1, q1, eq1, A1⟩ => ?_⟩
  rw [hK]
  exact app_sp S1 q1 (hn _ _ _ _ eq1) A1
theorem pe_call0D {pu : Bool} {fa : Addr} (hK : X.K = c.K) (tk : Takes X c.W) (hr : Room k X.A) (F : FnAt X.prog X.w X.K c.C X.mg X.base k 0 Φ fa) (hm : X.mg x = some (.ref fa)) (hkp : PySem.W.keepIn X.K (.ref fa) = true) (hg : Gl X x) (hdb : (x == ("__debug__" : Str)) = false) :
    PE X (.Call (.Name x p) [] [] pos) (tG c (rD c) (evCall pu (fun _ m => .ok [] m) Φ)) := by
  obtain ⟨fd, ps, h3, h4⟩ := F.ex
  refine (pe_callS0 h4 hr hg hm hkp h3 (fun σ => passAt tk σ) hdb).imp fun σ H Q ⟨ρ, m, z, S, A⟩ => ?_
  show spM X.K c.C 0 Φ [] H Q (WE c.W σ)
  rw [hK]
  exact app_sp (ds := []) S rfl rfl A
theorem pe_fnD (hc : X.calm = true) (hu : X.A.units + 70 < cLine) (hK : X.K = c.K) {id : String} (hg : Gl X x) (hm : X.mg x = none) (hv : bootBuiltins x = some (.builtin id)) (ha : PA X (e :: es) (tG c (rL c) fs)) (hn : x ≠ "__name__") (hdb : (x == ("__debug__" : Str)) = false)
    (he : starEach (e :: es) X.env = (false, eval e X.env) :: starEach es X.env) (hpl : (backTo pos (starEach es X.env)).any (·.1) = false) :
    PE X (.Call (.Name x p) (e :: es) [] pos) (tG c (rD c) (evFn fs (fnD id))) := (pe_callB (cr_fn hc hu hK id) hg hm hv ha hn hdb he hpl).imp fun σ H Q q => tCB_of q
theorem pe_tyD (hc : X.calm = true) (hK : X.K = c.K) {id : String} (hg : Gl X x) (hm : X.mg x = none) (hv : bootBuiltins x = some (.type id)) (ha : PA X (e :: es) (tG c (rL c) fs)) (hn : x ≠ "__name__") (hdb : (x == ("__debug__" : Str)) = false)
    (he : starEach (e :: es) X.env = (false, eval e X.env) :: starEach es X.env) (hpl : (backTo pos (starEach es X.env)).any (·.1) = false) :
    PE X (.Call (.Name x p) (e :: es) [] pos) (tG c (rD c) (evFn fs (tyD id))) := (pe_callTy (cr_ty hc hK id) hg hm hv ha hn hdb he hpl).imp fun σ H Q q => tCB_of q

/-! ### classes -/
theorem lk_cons {α : Type} (m k : Str) (d : α) (l : List (Str × α)) : ((k, d) :: l).lookup m = if (m == k) = true then Option.some d else l.lookup m := by
  rw [List.lookup_cons]
  cases m == k <;> rfl
theorem RepF.none {K : PySem.W.Frag} {C : Nat → Addr} {z : Fz} {m : Str} : ∀ {fs : List (Str × D)} {gs : List (Str × V)}, RepF K C z fs gs → fs.lookup m = Option.none → gs.lookup m = Option.none
  | [], gs, h, _ => by
    have h : gs = [] := h
    subst h; rfl
  | (k, d) :: fs, gs, h, q => by
    obtain ⟨x, r, rfl, h1, h2⟩ := h
    rw [lk_cons] at q ⊢
    by_cases e : (m == k) = true
    · rw [if_pos e] at q; cases q
    · rw [if_neg e] at q ⊢; exact RepF.none h2 q
theorem RepF.some {K : PySem.W.Frag} {C : Nat → Addr} {z : Fz} {m : Str} {d : D} : ∀ {fs : List (Str × D)} {gs : List (Str × V)}, RepF K C z fs gs → fs.lookup m = Option.some d → ∃ v, gs.lookup m = Option.some v ∧ Rep K C z d v
  | [], gs, h, q => by cases q
  | (k, d') :: fs, gs, h, q => by
    obtain ⟨x, r, rfl, h1, h2⟩ := h
    rw [lk_cons] at q ⊢
    by_cases e : (m == k) = true
    · rw [if_pos e] at q ⊢; cases q; exact ⟨x, rfl, h1⟩
    · rw [if_neg e] at q ⊢; exact RepF.some h2 q
theorem ht_of {o : Expr} {m : Str} {apos pos : Pos} {es : List Expr} {env : Env} (hb : attributeBase o m env (eval o env) = eval o env)
    (hf : methodCallForm (es.length + ([] : List Keyword).length) (backTo pos (starEach es env)) (backToKw pos (keywordEach [] env)) = true) (hl : (apos.endLine == pos.line) = true) :
    eval (.Call (.Attribute o m apos) es [] pos) env = (do
      let ov ← eval o env
      standAt apos.atName
      let (f, first) ← holding [ov] (getMethod ov m (plainOf o env))
      callWith pos f first (backTo pos (starEach es env)) (backToKw pos (keywordEach [] env))) := by
  rw [arm_eval_Call, hb]
  simp only [mcall_line hf hl]
/-- the def that a method's name stands for; none: no such class, or the instance has an attribute of that name -/
def pickM (mt : Nat → Str → Option Nat) (m : Str) : D → Option Nat
  | .ins c fs => match fs.lookup m with
    | Option.none => mt c m
    | Option.some _ => Option.none
  | _ => Option.none
def evMeth (pu : Bool) (mt : Nat → Str → Option Nat) (Φ : Nat → List D → List Cell → R D) (m : Str) (f : List D → List Cell → R D) (fs : List D → List Cell → R (List D)) : List D → List Cell → R D := fun ρ s =>
  (f ρ s).bind fun d s => (R.of (pickM mt m (res s d)) s).bind fun g s => (fs ρ s).bind fun xs s => app pu (Φ g) (d :: xs) s
theorem pick_ok {mt : Nat → Str → Option Nat} {m : Str} {d : D} {g : Nat} {z : Fz} {H : Hp} {v : V} (h : pickM mt m d = some g) (r : RepR c z H d v) : ∃ cl a dx gs, v = .ref a ∧ H a = some (.ins (c.C cl) dx gs) ∧ gs.lookup m = none ∧ mt cl m = some g := by
  unfold pickM at h
  split at h
  · rename_i cl fs
    split at h
    · obtain ⟨a, dx, gs, rfl, h1, h2⟩ := r
      exact ⟨cl, a, dx, gs, rfl, h1, RepF.none h2 (by assumption), h⟩
    · cases h
  · cases h
theorem pe_methD {pu : Bool} {o : Expr} {m : Str} {mt : Nat → Str → Option Nat} {Ψ : Nat → List D → List Cell → R D} (hK : X.K = c.K) (tk : Takes X c.W) (hr : Room k X.A)
    (F : ∀ cl g, mt cl m = some g → Cls X.K (c.C cl) ∧ ∃ fa n, Meth X.K (c.C cl) m fa ∧ FnAt X.prog X.w X.K c.C X.mg X.base k n (Ψ g) fa ∧ ∀ ρ m ds m', fs ρ m = .ok ds m' → ds.length + 1 = n) (ho : PE X o (tG c (rD c) f)) (ha : PA X (e :: es) (tG c (rL c) fs))
    (hb : attributeBase o m X.env (eval o X.env) = eval o X.env) (hf : methodCallForm ((e :: es).length + ([] : List Keyword).length) (backTo pos (starEach (e :: es) X.env)) (backToKw pos (keywordEach [] X.env)) = true) (hl : (apos.endLine == pos.line) = true)
    (he : starEach (e :: es) X.env = (false, eval e X.env) :: starEach es X.env) (hpl : (backTo pos (starEach es X.env)).any (·.1) = false) :
    PE X (.Call (.Attribute o m apos) (e :: es) [] pos) (tG c (rD c) (evMeth pu mt Ψ m f fs)) := by
  refine (pe_methA (CX := L2.CX X.prog X.w) (E := WE c.W) ho (fun σ => passAt tk σ) ha he hpl (ht_of hb hf hl)).imp fun σ H Q ⟨ρ, s, z, S, A⟩ => ?_
  refine ⟨ρ, s, z, S, A.bind.imp fun x H1 ⟨z1, d, s1, S1, g1, q1, eq1, A1⟩ => ?_⟩
  cases qg : pickM mt m (res s1 d) with
  | none => rw [qg] at A1; exact A1.elim
  | some g =>
    rw [qg] at A1
    obtain ⟨cl, a, dx, gs, rfl, e1, e2, e3⟩ := pick_ok qg (res_ok S1.st q1)
    obtain ⟨k1, fa, n, k2, k3, hn⟩ := F cl g e3
    obtain ⟨fd, ps, k4, k5⟩ := k3.ex
    refine ⟨a, dx, gs, c.C cl, fa, fd, ps, k, _, rfl, e1, e2, k1, k2, k5, hr, k4, ρ, s1, z1, S1, (At.bind (r := fs ρ s1) A1).imp fun vs H2 ⟨z2, ds, s2, S2, g2, q2, eq2, A2⟩ => ?_⟩
    rw [hK]
    exact app_sp (ds := d :: ds) S2 ⟨_, _, rfl, Rep.mono g2.toLe _ _ q1, q2⟩ (by rw [List.length_cons]; exact hn _ _ _ _ eq2) A2
theorem pe_meth0D {pu : Bool} {o : Expr} {m : Str} {mt : Nat → Str → Option Nat} {Ψ : Nat → List D → List Cell → R D} (hK : X.K = c.K) (tk : Takes X c.W) (hr : Room k X.A)
    (F : ∀ cl g, mt cl m = some g → Cls X.K (c.C cl) ∧ ∃ fa, Meth X.K (c.C cl) m fa ∧ FnAt X.prog X.w X.K c.C X.mg X.base k 1 (Ψ g) fa) (ho : PE X o (tG c (rD c) f))
    (hb : attributeBase o m X.env (eval o X.env) = eval o X.env) (hl : (apos.endLine == pos.line) = true) :
    PE X (.Call (.Attribute o m apos) [] [] pos) (tG c (rD c) (evMeth pu mt Ψ m f fun _ m => .ok [] m)) := by
  refine (pe_methA0 (CX := L2.CX X.prog X.w) (E := WE c.W) ho (fun σ => passAt tk σ) (ht_of hb rfl hl)).imp fun σ H Q ⟨ρ, s, z, S, A⟩ => ?_
  refine ⟨ρ, s, z, S, A.bind.imp fun x H1 ⟨z1, d, s1, S1, g1, q1, eq1, A1⟩ => ?_⟩
  cases qg : pickM mt m (res s1 d) with
  | none => rw [qg] at A1; exact A1.elim
  | some g =>
    rw [qg] at A1
    obtain ⟨cl, a, dx, gs, rfl, e1, e2, e3⟩ := pick_ok qg (res_ok S1.st q1)
    obtain ⟨k1, fa, k2, k3⟩ := F cl g e3
    obtain ⟨fd, ps, k4, k5⟩ := k3.ex
    refine ⟨a, dx, gs, c.C cl, fa, fd, ps, k, _, rfl, e1, e2, k1, k2, k5, hr, k4, ?_⟩
    show spM X.K c.C 1 (Ψ g) [.ref a] H1 Q (WE c.W σ)
    rw [hK]
    exact app_sp (ds := [d]) S1 ⟨_, _, rfl, q1, rfl⟩ rfl A1
/-- a field of an instance -/
def fldD (fl : Nat → Str → Bool) (f : Str) : D → Option D
  | .ins c fs => if fl c f = true then fs.lookup f else Option.none
  | _ => Option.none
theorem pe_fldD {fl : Nat → Str → Bool} {fn : Str} (hf : ∀ cl, fl cl fn = true → Cls X.K (c.C cl) ∧ NoAttr X.K (c.C cl) fn) (ho : PE X a (tG c (rD c) f)) (hb : attributeBase a fn X.env (eval a X.env) = eval a X.env) :
    PE X (.Attribute a fn pos) (tG c (rD c) (ev1 f (fldD fl fn))) := by
  refine (pe_fld ho hb).imp fun σ H Q A => ?_
  obtain ⟨ρ, m, z, S, A⟩ := seq1 A
  refine ⟨ρ, m, z, S, A.imp fun x H1 ⟨ρ1, m1, z1, σ1, d, S1, hd, A0⟩ => ?_⟩
  obtain ⟨b, eb, A1⟩ := A0.of
  clear A0
  unfold fldD at eb
  split at eb
  · rename_i cl gs
    obtain ⟨h1, eb⟩ := if_some eb
    obtain ⟨k1, k2⟩ := hf cl h1
    obtain ⟨p, dx, gv, rfl, e1, e2⟩ := hd
    obtain ⟨v, e3, e4⟩ := RepF.some e2 eb
    exact ⟨p, _, dx, gv, v, rfl, e1, k1, k2, e3, A1.ret S1 (show rD c b v z1 from e4)⟩
  · cases eb
/-- C(..) -/
def asNew (n : Nat) : D → List Cell → R D
  | .non, m => .ok (.obj n) m
  | _, _ => .stuck
def evMake (cl : Nat) (fs : List D → List Cell → R (List D)) (Φ : List D → List Cell → R D) : List D → List Cell → R D := fun ρ m => (fs ρ m).bind fun xs m => (Φ (.obj m.length :: xs) (m ++ [.ins cl []])).bind (asNew m.length)
theorem make_sp {cl : Nat} {ρ : List D} {m : List Cell} {z : Fz} {H : Hp} {σ : L2.St} {vs : List V} {ds : List D} {Q : VK} (S : SS c ρ m z σ H) (r : c.RepL z ds vs) (hn : ds.length + 1 = n) (A : At c (rD c) ((Φ (.obj m.length :: ds) (m ++ [.ins cl []])).bind (asNew m.length)) ρ z σ H Q) :
    ∀ x dx, H x = none → H dx = none → dx ≠ x → spM c.K c.C n Φ (.ref x :: vs) (upd (upd H dx (.own x)) x (.ins (c.C cl) dx [])) (fun v H2 => v = .non ∧ Q (.ref x) H2) (WE c.W σ) := by
  intro p dx hp hd hne
  have k : Same H (upd (upd H dx (.own p)) p (.ins (c.C cl) dx [])) := fun b u e => by
    rw [upd_ne (ne_of_none e hp), upd_ne (ne_of_none e hd)]; exact e
  obtain ⟨s2, g2⟩ := S.st.alloc hp k ⟨_, upd_same, by intro ps q; cases q⟩ (c := .ins cl []) ⟨dx, [], upd_same, rfl⟩
  have hA : (z.A ++ [p])[m.length]? = some p := by rw [← S.st.len]; simp
  refine ⟨.obj m.length :: ds, _, _, s2, ⟨_, _, rfl, ⟨p, rfl, hA⟩, RepL.mono g2.toLe _ _ r⟩, by rw [List.length_cons]; exact hn, ?_⟩
  generalize Φ (.obj m.length :: ds) (m ++ [.ins cl []]) = q at A ⊢
  cases q with
  | ok d m' =>
    intro v H' z' st G rv
    cases d with
    | non =>
      obtain rfl : v = .non := rv
      have A : At c (rD c) (.ok (.obj m.length) m') ρ z σ H Q := A
      exact ⟨rfl, A _ H' z' (S.go (g2.trans G) st) (g2.trans G) ⟨p, rfl, G.a _ _ hA⟩⟩
    | _ => exact A.elim
  | exc kk gs m' => exact fun d H' z' st G rv => A d H' z' (S.go (g2.trans G) st) (g2.trans G) rv
  | stuck => exact A
theorem pe_makeD {cl : Nat} {fa : Addr} (hK : X.K = c.K) (tk : Takes X c.W) (hr : Room (k + 1) X.A) (M : Mk X.K (c.C cl) fa) (F : FnAt X.prog X.w X.K c.C X.mg X.base k n Φ fa) (hm : X.mg x = some (.ref (c.C cl))) (hg : Gl X x) (ha : PA X (e :: es) (tG c (rL c) fs)) (hn : ∀ ρ m ds m', fs ρ m = .ok ds m' → ds.length + 1 = n)
    (hdb : (x == ("__debug__" : Str)) = false) (he : starEach (e :: es) X.env = (false, eval e X.env) :: starEach es X.env) (hpl : (backTo pos (starEach es X.env)).any (·.1) = false) :
    PE X (.Call (.Name x p) (e :: es) [] pos) (tG c (rD c) (evMake cl fs Φ)) := by
  obtain ⟨fd, ps, h3, h4⟩ := F.ex
  refine (pe_makeS M h4 hr hg hm h3 (fun σ => passAt tk σ) ha hdb he hpl).imp fun σ H Q ⟨ρ, m, z, S, A⟩ => ?_
  refine ⟨ρ, m, z, S, A.bind.imp fun vs H1 ⟨z1, ds, m1, S1, g1, q1, eq1, A1⟩ => ?_⟩
  rw [hK]
  exact make_sp S1 q1 (hn _ _ _ _ eq1) A1

/-! ### own things, and things that no longer change -/
/-- a new thing, apart -/
def Fresh (c : Ctx) (z0 : Fz) (H0 : Hp) (z : Fz) (H : Hp) (cell : Cell) (v : V) : Prop :=
  ∃ p, v = .ref p ∧ H0 p = none ∧ z.F p = none ∧ p ∉ z.A ∧ CellAt c.K c.C z H p cell ∧ (∃ o, H p = some o)
end
end GS
end

noncomputable section
namespace GS
open PySem L2
/-! ### new things: who gets them -/
section
variable {K : PySem.W.Frag} {C : Nat → Addr} {z : Fz} {m : List Cell} {H : Hp}
/-- what stood apart no longer changes -/
theorem Sto.settle (S : Sto K C m z H) {p : Addr} {o : HO} (hf : z.F p = none) (hA : p ∉ z.A) (ho : H p = some o) (hn : noT o := by intro ps q; cases q) : Sto K C m ⟨z.A, upd z.F p o⟩ H := by
  refine S.kept (fun b u e => ?_) rfl (upd_same_of hf) (fun a u h e _ => e) (fun a h e => ?_) fun a h e n => ⟨h, by
    have ne : a ≠ p := fun q => by
      obtain ⟨ps, e1, _⟩ := h
      rw [q, ho] at e1
      exact hn ps (Option.some.inj e1)
    show upd z.F p o a = none
    rw [upd_ne ne]; exact e⟩
  · have e : upd z.F p o b = some u := e
    by_cases hb : b = p
    · subst hb; rw [upd_same] at e; rw [ho]; exact e
    · rw [upd_ne hb] at e; exact S.le _ _ e
  · have ne : a ≠ p := fun q => hA (q ▸ h)
    show upd z.F p o a = none
    rw [upd_ne ne]; exact e
/-- .. comes into the store -/
theorem Sto.adopt (S : Sto K C m z H) {p : Addr} {c : Cell} (hf : z.F p = none) (hA : p ∉ z.A) (ho : ∃ o, H p = some o ∧ noT o) (hc : CellAt K C z H p c) : Sto K C (m ++ [c]) ⟨z.A ++ [p], z.F⟩ H := by
  have hA' : ∀ (n : Nat) (q : Addr), z.A[n]? = some q → (z.A ++ [p])[n]? = some q := fun n q h => by
    rw [List.getElem?_append_left (List.getElem?_eq_some_iff.mp h).1]; exact h
  have L : Le z ⟨z.A ++ [p], z.F⟩ := ⟨.refl _, hA'⟩
  refine ⟨S.le, by simp [S.len], ?_, fun a h => ?_, fun n c' a h1 h2 h3 => ?_, fun a h => by
    obtain ⟨q1, q2, q3⟩ := S.tb a h
    refine ⟨q1, q2, fun z => ?_⟩
    rcases List.mem_append.mp z with z | z
    · exact q3 z
    · rw [List.mem_singleton] at z
      obtain ⟨ps, e1, _⟩ := q1
      obtain ⟨o, e2, hn⟩ := ho
      rw [z, e2] at e1
      exact hn ps (Option.some.inj e1)⟩
  · show (z.A ++ [p]).Nodup
    rw [List.nodup_append]
    refine ⟨S.nd, by simp, fun a h b h' => ?_⟩
    rw [List.mem_singleton] at h'
    rw [h']
    intro e
    subst e
    exact hA h
  · rcases List.mem_append.mp h with h | h
    · exact S.there a h
    · rw [List.mem_singleton] at h
      subst h
      exact ho
  · by_cases hn : n < m.length
    · rw [List.getElem?_append_left hn] at h1
      have h2 : (z.A ++ [p])[n]? = some a := h2
      rw [List.getElem?_append_left (by rw [S.len]; exact hn)] at h2
      obtain ⟨q1, q2⟩ := S.cell n c' a h1 h2 h3
      exact ⟨q1, q2.mono L fun o e => e⟩
    · have hl := (List.getElem?_eq_some_iff.mp h1).1
      rw [List.length_append, List.length_singleton] at hl
      have e : n = m.length := by omega
      subst e
      have h2 : (z.A ++ [p])[m.length]? = some a := h2
      rw [← S.len] at h2
      simp at h1 h2
      subst h1
      subst h2
      exact ⟨hf, hc.mono L fun o e => e⟩
end
def toCell : D → Option Cell
  | .lst l => some (.lst l)
  | .dct l => some (.dct l)
  | _ => none
section
variable {c : Ctx} {X : Cx} {f : List D → List Cell → R D}
def AtN (c : Ctx) (r : R D) (ρ : List D) (z : Fz) (σ : L2.St) (H : Hp) (Q : VK) : Prop :=
  match r with
  | .ok d m => ∀ p H' z' cell, SS c ρ m z' σ H' → Gr z H z' H' → toCell d = some cell → H p = none → z'.F p = none → p ∉ z'.A → CellAt c.K c.C z' H' p cell → Q (.ref p) H'
  | .exc k fs m => ∀ d H' z', SS c ρ m z' σ H' → Gr z H z' H' → ExcAt c.K c.C z' H' fs d → c.W (.ref (c.C k)) d σ H'
  | .stuck => False
def tN (c : Ctx) (f : List D → List Cell → R D) : TE := fun σ H Q => ∃ ρ m z, SS c ρ m z σ H ∧ AtN c (f ρ m) ρ z σ H Q
def isLst : D → Bool
  | .lst _ => true
  | _ => false
theorem CellAt.there {z : Fz} {H : Hp} {p : Addr} {d : D} {cell : Cell} (h : toCell d = some cell) (hc : CellAt c.K c.C z H p cell) : ∃ o, H p = some o ∧ noT o := by
  cases d <;> first | (cases h; done) | (cases h; obtain ⟨xs, e, _⟩ := hc; exact ⟨_, e, by intro ps q; cases q⟩) | (cases h; obtain ⟨dx, xs, e, _⟩ := hc; exact ⟨_, e, by intro ps q; cases q⟩)
/-- a new list that from now on does not change -/
theorem tN_lst (hl : ∀ ρ m d m', f ρ m = .ok d m' → isLst d = true) {σ : L2.St} {H : Hp} {Q : VK} (h : tG c (rD c) f σ H Q) : tN c f σ H Q := by
  obtain ⟨ρ, m, z, S, A⟩ := h
  refine ⟨ρ, m, z, S, ?_⟩
  have hl := hl ρ m
  generalize f ρ m = r at A hl ⊢
  cases r with
  | stuck => exact A
  | exc k fs m => exact A
  | ok d m' =>
    intro p H' z' cell S' g hc hp hf hA hC
    cases d with
    | lst l =>
      cases hc
      obtain ⟨xs, e, r⟩ := hC
      have st := S'.st.settle hf hA e
      have ne : ∀ a u, H a = some u → a ≠ p := fun a u q => ne_of_none q hp
      have L : Le z' ⟨z'.A, upd z'.F p (.lst xs)⟩ := ⟨upd_same_of hf, fun _ _ h => h⟩
      have g2 : Gr z H ⟨z'.A, upd z'.F p (.lst xs)⟩ H' := { g.toLe.trans L with keep := g.keep, tbk := g.tbk, new := g.new, sep := fun a u q1 q2 q3 => by show upd z'.F p _ a = none; rw [upd_ne (ne a u q1)]; exact g.sep a u q1 q2 q3 }
      exact A _ H' _ (S.go g2 st) g2 ⟨p, xs, rfl, .inl upd_same, RepL.mono L _ _ r⟩
    | _ => have := hl _ _ rfl; cases this
def evOwn (f : List D → List Cell → R D) : List D → List Cell → R D := fun ρ m => (f ρ m).bind fun d m => match toCell d with
  | some cell => .ok (.obj m.length) (m ++ [cell])
  | none => .stuck
/-- a new thing of the store -/
theorem tN_own {σ : L2.St} {H : Hp} {Q : VK} (h : tG c (rD c) (evOwn f) σ H Q) : tN c f σ H Q := by
  obtain ⟨ρ, m, z, S, A⟩ := h
  refine ⟨ρ, m, z, S, ?_⟩
  unfold evOwn at A
  generalize f ρ m = r at A ⊢
  cases r with
  | stuck => exact A
  | exc k fs m => exact A
  | ok d m' =>
    intro p H' z' cell S' g hc hp hf hA hC
    rw [R.bind_ok, hc] at A
    have ho := hC.there hc
    have st := S'.st.adopt hf hA ho hC
    have hA' : ∀ (n : Nat) (q : Addr), z'.A[n]? = some q → (z'.A ++ [p])[n]? = some q := fun n q h => by
      rw [List.getElem?_append_left (List.getElem?_eq_some_iff.mp h).1]; exact h
    have L : Le z' ⟨z'.A ++ [p], z'.F⟩ := ⟨.refl _, hA'⟩
    have hnew : ∀ a ∈ z'.A ++ [p], a ∈ z.A ∨ H a = none := fun a h => by
      rcases List.mem_append.mp h with h | h
      · exact g.new a h
      · rw [List.mem_singleton] at h
        subst h
        exact .inr hp
    have g2 : Gr z H ⟨z'.A ++ [p], z'.F⟩ H' := { g.toLe.trans L with keep := g.keep, tbk := g.tbk, new := hnew, sep := g.sep }
    exact A _ H' _ (S.go g2 st) g2 ⟨p, rfl, by rw [← S'.st.len]; simp⟩
/-- from now on it does not change -/
def evFrz (f : List D → List Cell → R D) : List D → List Cell → R D := fun ρ m => (f ρ m).bind fun d m => match d with
  | .obj n => (match m[n]? with
    | some (.lst l) => .ok (.lst l) (m.set n .dead)
    | some (.dct l) => .ok (.dct l) (m.set n .dead)
    | some (.ins c l) => .ok (.ins c l) (m.set n .dead)
    | _ => .stuck)
  | _ => .stuck
theorem pe_frzD {e : Expr} (h : PE X e (tG c (rD c) f)) : PE X e (tG c (rD c) (evFrz f)) := by
  refine ⟨fun pins s σ H Q I ⟨ρ, m, z, S, A⟩ => ?_⟩
  have A := At.bind (rel := rD c) (r := f ρ m) A
  refine thn (h.run pins s σ H _ I ⟨ρ, m, z, S, A⟩) fun u s1 ⟨v, H1, I1, rv, z1, d, m1, S1, g1, q1, _, A1⟩ => ?_
  cases d with
  | obj n =>
    obtain ⟨a, rfl, ha⟩ := q1
    dsimp only at A1
    cases q : m1[n]? with
    | none => rw [q] at A1; exact A1.elim
    | some k =>
      rw [q] at A1
      cases k with
      | dead => exact A1.elim
      | lst l =>
        obtain ⟨xs, e1, e2⟩ := (S1.st.cell n _ a q ha (by simp)).2
        have hf := (S1.st.cell n _ a q ha (by simp)).1
        obtain ⟨s2, g2⟩ := S1.st.freeze (o := .lst xs) q ha (by simp)
        rw [upd_id e1] at s2 g2
        exact ⟨.ref a, H1, I1, rv, A1 _ H1 _ (S1.go g2 s2) g2 ⟨a, xs, rfl, .inl upd_same, RepL.mono g2.toLe _ _ e2⟩⟩
      | ins cl l =>
        obtain ⟨dx, xs, e1, e2⟩ := (S1.st.cell n _ a q ha (by simp)).2
        obtain ⟨s2, g2⟩ := S1.st.freeze (o := .ins (c.C cl) dx xs) q ha (by simp)
        rw [upd_id e1] at s2 g2
        exact ⟨.ref a, H1, I1, rv, A1 _ H1 _ (S1.go g2 s2) g2 ⟨a, dx, xs, rfl, upd_same, RepF.mono g2.toLe _ _ e2⟩⟩
      | dct l =>
        obtain ⟨xs, e1, e2⟩ := (S1.st.cell n _ a q ha (by simp)).2
        obtain ⟨od, I2⟩ := I1.lock e1 trivial
        obtain ⟨s2, g2⟩ := S1.st.freeze (o := .frz od (.dK xs)) q ha (by simp)
        exact ⟨.ref a, _, I2, rv, A1 _ _ _ (S1.go g2 s2) g2 ⟨a, od, xs, rfl, upd_same, RepK.mono g2.toLe _ _ e2⟩⟩
  | _ => exact A1.elim
end

/-! ### targets -/
inductive Tg where
  | one (i : Nat) | many (is : List Nat)
def Tg.ids : Tg → List Nat
  | .one i => [i]
  | .many is => is
def setMany : List Nat → List D → List D → List D
  | i :: is, d :: ds, ρ => setMany is ds (ρ.set i d)
  | _, _, ρ => ρ
def bindT : Tg → D → List D → Option (List D)
  | .one i, d, ρ => some (ρ.set i d)
  | .many is, .tup ds, ρ => if ds.length = is.length then some (setMany is ds ρ) else none
  | _, _, _ => none
def gNames : List Nat → TGs
  | [] => gNil
  | i :: is => gCons (gName i) (gNames is)
def gT (K : PySem.W.Frag) : Tg → TG
  | .one i => gName i
  | .many is => gTup K is.length (gNames is)
theorem wipe_get (σ : L2.St) : ∀ (vs : List Nat) (j : Nat), (wipe σ vs)[j]? = if j ∈ vs then (σ[j]?).map (fun _ => none) else σ[j]?
  | [], j => by simp [wipe]
  | v :: vs, j => by
    unfold wipe
    rw [List.getElem?_set, wipe_get σ vs j, wipe_length]
    by_cases hv : v = j
    · subst hv
      by_cases hl : v < σ.length
      · simp [hl]
      · have e : σ[v]? = none := List.getElem?_eq_none (by omega)
        simp [hl, e]
    · have hv' : ¬ j = v := fun e => hv e.symm
      simp [hv, hv']
theorem wipe_set (σ : L2.St) (vs : List Nat) (i : Nat) (x : Option V) (h : i ∈ vs) : wipe (σ.set i x) vs = wipe σ vs := by
  apply List.ext_getElem?
  intro j
  rw [wipe_get, wipe_get, List.getElem?_set]
  by_cases hj : i = j
  · subst hj
    by_cases hl : i < σ.length
    · simp [h, hl]
    · have e : σ[i]? = none := List.getElem?_eq_none (by omega)
      simp [hl, e, h]
  · simp [hj]
theorem wipe_wipe (σ : L2.St) (vs : List Nat) : wipe (wipe σ vs) vs = wipe σ vs := by
  apply List.ext_getElem?
  intro j
  rw [wipe_get, wipe_get]
  by_cases h : j ∈ vs
  · simp [h]
    cases σ[j]? <;> rfl
  · simp [h]
def wipeR (ρ : List D) : List Nat → List D
  | [] => ρ
  | v :: vs => (wipeR ρ vs).set v .no
theorem wipeR_length (ρ : List D) (vs : List Nat) : (wipeR ρ vs).length = ρ.length := by
  induction vs with
  | nil => rfl
  | cons v vs ih => unfold wipeR; rw [List.length_set, ih]
theorem wipeR_get (ρ : List D) : ∀ (vs : List Nat) (j : Nat), (wipeR ρ vs)[j]? = if j ∈ vs then (ρ[j]?).map (fun _ => .no) else ρ[j]?
  | [], j => by simp [wipeR]
  | v :: vs, j => by
    unfold wipeR
    rw [List.getElem?_set, wipeR_get ρ vs j, wipeR_length]
    by_cases hv : v = j
    · subst hv
      by_cases hl : v < ρ.length
      · simp [hl]
      · have e : ρ[v]? = none := List.getElem?_eq_none (by omega)
        simp [hl, e]
    · have hv' : ¬ j = v := fun e => hv e.symm
      simp [hv, hv']
section
variable {c : Ctx} {X : Cx} {ρ : List D} {m : List Cell} {z : Fz} {σ : L2.St} {H : Hp}
theorem SS.wipe (S : SS c ρ m z σ H) (vs : List Nat) : SS c (wipeR ρ vs) m z (L2.wipe σ vs) H := by
  refine ⟨S.st, S.gr, by rw [wipe_length, wipeR_length]; exact S.len, fun i d h hn => ?_⟩
  rw [wipeR_get] at h
  by_cases hi : i ∈ vs
  · rw [if_pos hi] at h
    obtain ⟨_, _, e⟩ := Option.map_eq_some_iff.mp h
    exact absurd e.symm hn
  · rw [if_neg hi] at h
    rw [wipe_get, if_neg hi]
    exact S.sl i d h hn
theorem SS.set (S : SS c ρ m z σ H) (i : Nat) {d : D} {v : V} (r : c.Rep z d v) : SS c (ρ.set i d) m z (σ.set i (some v)) H := by
  refine ⟨S.st, S.gr, by simp [S.len], fun j e h hn => ?_⟩
  rw [List.getElem?_set] at h
  by_cases hj : i = j
  · subst hj
    by_cases hl : i < ρ.length
    · simp [hl] at h
      subst h
      exact ⟨v, List.getElem?_set_self (by rw [S.len]; exact hl), r⟩
    · simp [hl] at h
  · rw [if_neg hj] at h
    rw [List.getElem?_set_ne hj]
    exact S.sl j e h hn
theorem SS.unset (S : SS c ρ m z σ H) (i : Nat) (x : Option V) : SS c (ρ.set i .no) m z (σ.set i x) H := by
  refine ⟨S.st, S.gr, by simp [S.len], fun j e h hn => ?_⟩
  rw [List.getElem?_set] at h
  by_cases hj : i = j
  · subst hj
    by_cases hl : i < ρ.length
    · simp [hl] at h
      exact absurd h.symm hn
    · simp [hl] at h
  · rw [if_neg hj] at h
    rw [List.getElem?_set_ne hj]
    exact S.sl j e h hn
theorem names_ok {Q : L2.St → Hp → Prop} : ∀ (is : List Nat) (ds : List D) (xs : List V) (ρ : List D) (σ : L2.St), SS c ρ m z σ H → c.RepL z ds xs → ds.length = is.length →
    (∀ σ', SS c (setMany is ds ρ) m z σ' H → (∀ vs : List Nat, (∀ i ∈ is, i ∈ vs) → L2.wipe σ' vs = L2.wipe σ vs) → Q σ' H) → gNames is xs σ H Q
  | [], [], xs, ρ, σ, S, r, _, h => by
    have r : xs = [] := r
    subst r
    exact ⟨rfl, h σ S fun _ _ => rfl⟩
  | i :: is, d :: ds, xs, ρ, σ, S, r, hl, h => by
    obtain ⟨x, r', rfl, h1, h2⟩ := r
    refine ⟨x, r', rfl, ?_⟩
    refine names_ok is ds r' (ρ.set i d) _ (S.set i h1) h2 (by simpa using hl) fun σ' S' hw => h σ' S' fun vs hv => ?_
    rw [hw vs fun j hj => hv j (List.mem_cons_of_mem _ hj)]
    exact wipe_set σ vs i _ (hv i List.mem_cons_self)
  | [], _ :: _, _, _, _, _, _, hl, _ => by simp at hl
  | _ :: _, [], _, _, _, _, _, hl, _ => by simp at hl
theorem bind_ok {t : Tg} {d : D} {v : V} {ρ' : List D} {Q : L2.St → Hp → Prop} (S : SS c ρ m z σ H) (r : c.Rep z d v) (hb : bindT t d ρ = some ρ')
    (h : ∀ σ', SS c ρ' m z σ' H → (∀ vs : List Nat, (∀ i ∈ t.ids, i ∈ vs) → L2.wipe σ' vs = L2.wipe σ vs) → Q σ' H) : gT c.K t v σ H Q := by
  cases t with
  | one i =>
    cases hb
    exact h _ (S.set i r) fun vs hv => wipe_set σ vs i _ (hv i (List.mem_singleton.mpr rfl))
  | many is =>
    cases d with
    | tup ds =>
      have hb : (if ds.length = is.length then some (setMany is ds ρ) else none) = some ρ' := hb
      obtain ⟨hl, hb⟩ := if_some hb
      cases hb
      obtain ⟨a, xs, rfl, h1, h2⟩ := r
      exact ⟨a, xs, rfl, same_seqT S.st.le h1, by rw [RepL.length h2]; exact hl, names_ok is ds xs ρ σ S h2 hl h⟩
    | _ => cases hb

/-! ### what is walked -/
/-- the walked list, where it is a thing of the store: it must stay -/
abbrev Keep := Option (Nat × List D)
def Keep.ok (kp : Keep) (m : List Cell) : Prop := ∀ n l, kp = some (n, l) → m[n]? = some (.lst l)
/-- J walks the data ds -/
def Walk (c : Ctx) (J : It) (ds : List D) (kp : Keep) (z0 : Fz) : Prop := ∀ ρ m z σ H, SS c ρ m z σ H → Le z0 z → kp.ok m →
  J.stop ds.length H ∧ ∀ i d, ds[i]? = some d → J.go i H ∧ ∀ x H', J.yld i H x H' → ∃ z', SS c ρ m z' σ H' ∧ Gr z H z' H' ∧ c.Rep z' d x
def tI (c : Ctx) (src : List D → List Cell → R (List D × Keep)) : TI := fun σ H R => ∃ ρ m z, SS c ρ m z σ H ∧ match src ρ m with
  | .ok ds m' => ∀ J H' z', SS c ρ m' z' σ H' → Gr z H z' H' → Walk c J ds.1 ds.2 z' → R J H'
  | .exc k fs m' => ∀ d H' z', SS c ρ m' z' σ H' → Gr z H z' H' → ExcAt c.K c.C z' H' fs d → c.W (.ref (c.C k)) d σ H'
  | .stuck => False
theorem walk_list {a : Addr} {xs : List V} {ds : List D} {z0 : Fz} (h1 : Rd z0.F a (.lst xs)) (h2 : c.RepL z0 ds xs) : Walk c (Itl c.K a) ds none z0 := fun ρ m z σ H S le _ => by
  have q : SqL c.K H a xs := .inl (same_rd S.st.le (same_rd le.f h1))
  have r2 := RepL.mono le _ _ h2
  refine ⟨⟨xs, q, by rw [RepL.length h2]; exact Nat.le_refl _⟩, fun i d e => ?_⟩
  obtain ⟨x, e1, r1⟩ := RepL.get' r2 e
  refine ⟨⟨xs, x, q, e1⟩, fun y H' ⟨e2, e3⟩ => ?_⟩
  subst e2
  have e4 := e3 xs q
  rw [e1] at e4
  cases e4
  exact ⟨z, S, .refl _ _, r1⟩
theorem walk_cell {a : Addr} {n : Nat} {ds : List D} {z0 : Fz} (h1 : z0.A[n]? = some a) : Walk c (Itl c.K a) ds (some (n, ds)) z0 := fun ρ m z σ H S le kp => by
  have hm := kp n ds rfl
  obtain ⟨xs, q0, r2⟩ := (S.st.cell n _ a hm (le.a _ _ h1) (by simp)).2
  have q : SqL c.K H a xs := .inl (.inl q0)
  refine ⟨⟨xs, q, by rw [RepL.length r2]; exact Nat.le_refl _⟩, fun i d e => ?_⟩
  obtain ⟨x, e1, r1⟩ := RepL.get' r2 e
  refine ⟨⟨xs, x, q, e1⟩, fun y H' ⟨e2, e3⟩ => ?_⟩
  subst e2
  have e4 := e3 xs q
  rw [e1] at e4
  cases e4
  exact ⟨z, S, .refl _ _, r1⟩
theorem walk_tup {a : Addr} {xs : List V} {ds : List D} {z0 : Fz} (h1 : SqT c.K z0.F a xs) (h2 : c.RepL z0 ds xs) : Walk c (Itt c.K a) ds none z0 := fun ρ m z σ H S le _ => by
  have q := same_seqT S.st.le (same_seqT le.f h1)
  have r2 := RepL.mono le _ _ h2
  refine ⟨⟨xs, q, by rw [RepL.length h2]; exact Nat.le_refl _⟩, fun i d e => ?_⟩
  obtain ⟨x, e1, r1⟩ := RepL.get' r2 e
  refine ⟨⟨xs, x, q, e1⟩, fun y H' ⟨e2, e3⟩ => ?_⟩
  subst e2
  have e4 := e3 xs q
  rw [e1] at e4
  cases e4
  exact ⟨z, S, .refl _ _, r1⟩
def signsD (s : Str) : List D := s.cps.toList.map fun k => .str ⟨#[k]⟩
theorem walk_str {s : Str} {z0 : Fz} : Walk c (Its s) (signsD s) none z0 := fun ρ m z σ H S le _ => by
  refine ⟨by show s.cps.size ≤ _; unfold signsD; simp, fun i d e => ?_⟩
  unfold signsD at e
  rw [List.getElem?_map] at e
  obtain ⟨k, e1, rfl⟩ := Option.map_eq_some_iff.mp e
  have hi : i < s.cps.size := by
    have := (List.getElem?_eq_some_iff.mp e1).1
    simpa using this
  refine ⟨hi, fun y H' ⟨e2, k', e3, e4⟩ => ?_⟩
  subst e2
  subst e4
  have e5 : s.cps[i]? = some k := by rw [← Array.getElem?_toList]; exact e1
  rw [e5] at e3
  cases e3
  exact ⟨z, S, .refl _ _, rfl⟩
theorem walk_dict {a : Addr} {o : Obj} {kvs : List (Key × V)} {l : List (Key × D)} {z0 : Fz} (h1 : z0.F a = some (.frz o (.dK kvs))) (h2 : RepK c.K c.C z0 l kvs) : Walk c (Itk a o kvs) (l.map fun kv => kD kv.1) none z0 := fun ρ m z σ H S le _ => by
  have q : H a = some (.frz o (.dK kvs)) := S.st.le _ _ (le.f _ _ h1)
  have rk := rep_keys (RepK.mono le _ _ h2)
  have hl := RepK.length h2
  refine ⟨⟨q, by rw [hl, List.length_map]; exact Nat.le_refl _⟩, fun i d e => ?_⟩
  have hi : i < kvs.length := by
    have := (List.getElem?_eq_some_iff.mp e).1
    rw [List.length_map] at this
    omega
  obtain ⟨x, e1, r1⟩ := RepL.get' rk e
  refine ⟨⟨q, hi⟩, fun y H' ⟨e2, k, v, e3, e4⟩ => ?_⟩
  subst e2
  subst e4
  rw [List.getElem?_map, e3] at e1
  cases e1
  exact ⟨z, S, .refl _ _, r1⟩
def rangeD (lo : Int) (n : Nat) : List D := (List.range n).map fun i => .int (lo + (i : Nat))
theorem walk_range {lo : Int} {n : Nat} {z0 : Fz} : Walk c (Itr lo n) (rangeD lo n) none z0 := fun ρ m z σ H S le _ => by
  refine ⟨by show n ≤ _; unfold rangeD; simp, fun i d e => ?_⟩
  unfold rangeD at e
  rw [List.getElem?_map] at e
  obtain ⟨k, e1, rfl⟩ := Option.map_eq_some_iff.mp e
  obtain ⟨hi, e2⟩ := List.getElem?_eq_some_iff.mp e1
  simp at hi e2
  subst e2
  refine ⟨hi, fun y H' ⟨e2, e3⟩ => ?_⟩
  subst e2
  subst e3
  exact ⟨z, S, .refl _ _, rfl⟩
def downD (hi : Int) (n : Nat) : List D := (List.range n).map fun i => .int (hi + (i : Nat) * (-1))
theorem walk_down {lo : Int} {n : Nat} {z0 : Fz} : Walk c (Itc lo (-1) n) (downD lo n) none z0 := fun ρ m z σ H S le _ => by
  refine ⟨by show n ≤ _; unfold downD; simp, fun i d e => ?_⟩
  unfold downD at e
  rw [List.getElem?_map] at e
  obtain ⟨k, e1, rfl⟩ := Option.map_eq_some_iff.mp e
  obtain ⟨hi, e2⟩ := List.getElem?_eq_some_iff.mp e1
  simp at hi e2
  subst e2
  refine ⟨hi, fun y H' ⟨e2, e3⟩ => ?_⟩
  subst e2
  subst e3
  exact ⟨z, S, .refl _ _, rfl⟩
theorem walk_scr {a : Addr} {ns : List Int} {z0 : Fz} (h1 : SqL c.K z0.F a (ns.map V.int)) : Walk c (Itl c.K a) (ns.map D.int) none z0 := fun ρ m z σ H S le _ => by
  have q : SqL c.K H a (ns.map V.int) := S.st.le.seq (le.f.seq h1)
  refine ⟨⟨_, q, by simp⟩, fun i d e => ?_⟩
  rw [List.getElem?_map] at e
  obtain ⟨n, e1, rfl⟩ := Option.map_eq_some_iff.mp e
  refine ⟨⟨_, .int n, q, by rw [List.getElem?_map, e1]; rfl⟩, fun y H' ⟨e2, e3⟩ => ?_⟩
  subst e2
  have e4 := e3 _ q
  rw [List.getElem?_map, e1] at e4
  cases e4
  exact ⟨z, S, .refl _ _, rfl⟩
def itemsD : D → Option (List D)
  | .scr ns => some (ns.map D.int)
  | .lst l => some l
  | .tup l => some l
  | .str s => some (signsD s)
  | .dct l => some (l.map fun kv => kD kv.1)
  | _ => none
def srcD (d : D) (m : List Cell) : R (List D × Keep) := match d with
  | .obj n => (match m[n]? with | some (.lst l) => .ok (l, some (n, l)) m | _ => .stuck)
  | d => R.of ((itemsD d).map fun l => (l, none)) m
variable {tg iter : Expr} {f : List D → List Cell → R D}
theorem pi_anyD (hK : X.K = c.K) (h : PE X iter (tG c (rD c) f)) : PI X tg iter (tI c fun ρ m => (f ρ m).bind srcD) := by
  refine ⟨fun pins s σ H R I ⟨ρ, m, z, S, A⟩ => ?_⟩
  cases q : f ρ m with
  | stuck => simp only [q] at A; exact A.elim
  | exc k fs m' =>
    refine wpAny_mono (h.run pins s σ H (fun _ _ => False) I ⟨ρ, m, z, S, ?_⟩) (fun v s1 ⟨_, _, _, _, z⟩ => z.elim) fun _ _ z => z
    simp only [q] at A
    rw [q]; exact A
  | ok d m' =>
    simp only [q] at A
    cases d with
    | lst l =>
      refine (pi_list h).run pins s σ H R I ⟨ρ, m, z, S, ?_⟩
      rw [q]
      rintro v H' z' S' g ⟨p, vs, e1, q1, q2⟩
      refine ⟨p, e1, ⟨vs, .inl (same_rd S'.st.le q1)⟩, ?_⟩
      rw [hK]
      exact A _ _ _ S' g (walk_list q1 q2)
    | tup l =>
      refine (pi_tup h).run pins s σ H R I ⟨ρ, m, z, S, ?_⟩
      rw [q]
      rintro v H' z' S' g ⟨p, vs, e1, q1, q2⟩
      refine ⟨p, e1, ⟨vs, by rw [hK]; exact same_seqT S'.st.le q1⟩, ?_⟩
      rw [hK]
      exact A _ _ _ S' g (walk_tup q1 q2)
    | str s' =>
      refine (pi_str h).run pins s σ H R I ⟨ρ, m, z, S, ?_⟩
      rw [q]
      rintro v H' z' S' g r
      exact ⟨s', r, A _ _ _ S' g walk_str⟩
    | scr ns =>
      refine (pi_list h).run pins s σ H R I ⟨ρ, m, z, S, ?_⟩
      rw [q]
      rintro v H' z' S' g ⟨p, e1, q1⟩
      refine ⟨p, e1, ⟨_, by rw [hK]; exact S'.st.le.seq q1⟩, ?_⟩
      rw [hK]
      exact A _ _ _ S' g (walk_scr q1)
    | dct l =>
      refine (pi_keys h).run pins s σ H R I ⟨ρ, m, z, S, ?_⟩
      rw [q]
      rintro v H' z' S' g ⟨p, o, kvs, e1, q1, q2⟩
      exact ⟨p, o, e1, .inl ⟨kvs, S'.st.le _ _ q1, A _ _ _ S' g (walk_dict q1 q2)⟩⟩
    | obj n =>
      have A : (match (match m'[n]? with | some (.lst l) => .ok (l, some (n, l)) m' | _ => GS.R.stuck : GS.R (List D × Keep)) with
        | .ok ds m' => ∀ J H' z', SS c ρ m' z' σ H' → Gr z H z' H' → Walk c J ds.1 ds.2 z' → R J H'
        | .exc k fs m' => ∀ d H' z', SS c ρ m' z' σ H' → Gr z H z' H' → ExcAt c.K c.C z' H' fs d → c.W (.ref (c.C k)) d σ H'
        | .stuck => False) := A
      cases qm : m'[n]? with
      | none => rw [qm] at A; exact A.elim
      | some cell =>
        rw [qm] at A
        cases cell with
        | lst l =>
          dsimp only at A
          refine (pi_list h).run pins s σ H R I ⟨ρ, m, z, S, ?_⟩
          rw [q]
          rintro v H' z' S' g ⟨p, e1, q1⟩
          obtain ⟨xs, q2, q3⟩ := (S'.st.cell n _ p qm q1 (by simp)).2
          refine ⟨p, e1, ⟨xs, .inl (.inl q2)⟩, ?_⟩
          rw [hK]
          exact A _ _ _ S' g (walk_cell q1)
        | _ => exact A.elim
    | _ => exact A.elim
end
end GS
end

noncomputable section
namespace L2
open PySem PySem.Spec PyProof.Rows PySem.HandSPX
/-! ### comprehensions whose element may raise -/
section
variable {M : Model} {A : Around} {E : Value → Shared → Prop} {s : Shared} {env : Env} {outer l : List Env} {L : Addr} {base : Heap} {e : Addr} {Z : Obj → Prop}
/-- a frame notes an exception that another one held -/
theorem looks_anyZ {fl : Value} {Q : Unit → Shared → Prop} (hZ : Steady Z) (hfr : A.frames = some (env :: outer)) (hf : env.frame = some L) (hkb : base.StaysIn s.heap) (hen : base.get? e = none) (hl : s.heap.FunFrames base (env :: outer)) (ht : TracedZ s.heap base e Z fl) (hne : (fl == rawInt L) = false)
    (hQ : ∀ h', HeldZ base (env :: outer) e Z L h' → s.heap.UpToSlots h' → Q () { s with heap := h' }) : wpAny M A (noteFrame (.ref e) env) Q E s := by
  obtain ⟨oe, vs, T, oT, ts, he, hz, hd, h1, hnT, hTe, hT, hdT, h3⟩ := ht
  unfold noteFrame
  simp only [hf]
  refine wpAny_bind (wpAny_field he hd h1 ?_)
  rw [if_pos (show (Value.ref T != Value.none) = true from by simp)]
  refine wpAny_bind (wpAny_field hT hdT h3 ?_)
  rw [if_neg (show ¬ ((fl == rawInt L) = true) from by rw [hne]; decide)]
  refine wpAny_bind (wpAny_setField hT hdT (Array.getElem?_eq_some_iff.mp h3).1 ?_)
  have other : ∀ b, b ≠ T → (s.heap.update T (Obj.mapFields (·.setIfInBounds 3 Value.none))).get? b = s.heap.get? b := fun b hb => Heap.get?_update_other _ _ (Ne.symm hb)
  have noRecord : ∀ b o, s.heap.get? b = some o → (∀ vs, o.data ≠ .fields vs) → b ≠ T := fun b o hb hnf q => by
    rw [q, hT] at hb; injection hb with hb; subst hb; exact hnf ts hdT
  refine wpAny_entryZ hZ hfr (hl.of_keeps fun b o hb hnf => ⟨o, (other b (noRecord b o hb hnf)).trans hb, rfl⟩) hf ((other e (Ne.symm hTe)).trans he)
    (fun b o hbo => (other b fun q => by rw [q, hnT] at hbo; cases hbo).trans (hkb b o hbo)) hen hd (Array.getElem?_eq_some_iff.mp h1).1 hz fun h' hN => ?_
  obtain ⟨x1, x2, x3, x4⟩ := hN
  exact hQ h' ⟨x1, hen, x2, x3⟩ fun b o hb hnf => x4 b o ((other b (noRecord b o hb hnf)).trans hb) hnf
theorem FunFrames.swap {h h' B B' : Heap} (k : ∀ b, B.get? b = none → B'.get? b = none ∧ ∀ o, h.get? b = some o → h'.get? b = some o) : ∀ {l : List Env}, h.FunFrames B l → h'.FunFrames B' l
  | [], _ => trivial
  | env :: r, ⟨h1, ⟨L, o, e1, e2, e3, e4⟩, h3⟩ => ⟨h1, ⟨L, o, e1, (k L e2).1, (k L e2).2 o e3, e4⟩, FunFrames.swap k h3⟩
end
section
variable {X : Cx} {pins : List (Addr × Obj)} {σ : St} {H3 : Hp} {s3 : Shared} {scope : Scope} {cl : List (Str × Addr)} {fp : List Addr} {W : WX}
/-- what the block's element may raise -/
def WB (W : WX) (σ : St) : WX := fun cls d _ H => W cls d σ H
/-- the exception was noted by the frame L -/
def SkyH (B : Heap) (l : List Env) (a : Addr) (Z : Obj → Prop) (C L : Addr) (h : Heap) : Prop := Sky B l a Z C h ∨ HeldZ B l a Z L h
def XEH (X : Cx) (W : WX) (L : Addr) (u : Value) (s' : Shared) : Prop :=
  ∃ (a : Addr) (B : Heap) (sI : Shared) (pins : List (Addr × Obj)) (σ : St) (H : Hp) (cls : Value) (d : Option Addr),
    u = .ref a ∧ Inv X pins σ H sI ∧ (∀ b o, sI.heap.get? b = some o → b ∉ frs X.stack → B.get? b = some o) ∧ sI.heap.UpToSlots s'.heap ∧
      SkyH B X.stack a (Zc cls d) X.env.locals L s'.heap ∧ H a = none ∧ s'.os = sI.os ∧ AllBare s'.gens ∧ W cls d σ H
def TakesH (X : Cx) (W : WX) (L : Addr) : Prop := ∀ u s', XEH X W L u s' → X.xe u s'
/-- the frame of the def around -/
def FrOk (X : Cx) (W : WX) : Prop := ∃ E0 O0 L0, X.stack = E0 :: O0 ∧ E0.frame = some L0 ∧ X.env.frame = some L0 ∧ TakesH X W L0
theorem XE.toH {L : Addr} {u : Value} {s' : Shared} (x : XE X W u s') : XEH X W L u s' := by
  obtain ⟨a, B, sI, pins, σ, H, cls, d, e, I, nb, up, sky, rest⟩ := x
  exact ⟨a, B, sI, pins, σ, H, cls, d, e, I, nb, up, .inl sky, rest⟩
theorem fr_def (stk : X.stack = X.env :: X.outer) (frm : X.env.frame = some X.env.locals) (tk : Takes X W) : FrOk X W := ⟨X.env, X.outer, X.env.locals, stk, frm, frm, fun u s' x => by
  obtain ⟨a, B, sI, pins, σ, H, cls, d, e, I, nb, up, sky, rest⟩ := x
  refine tk u s' ⟨a, B, sI, pins, σ, H, cls, d, e, I, nb, up, ?_, rest⟩
  rcases sky with h | h
  · exact h
  · exact .inr (.inr h)⟩
theorem noteFrame_frame {e : Value} {env env' : Env} (h : env.frame = env'.frame) : noteFrame e env = noteFrame e env' := by
  unfold noteFrame PySem.frameOf
  rw [h]
/-- a raise out of the block goes on in the def's own frame -/
theorem comp_throw {E0 : Env} {O0 : List Env} {L0 : Addr} (I3 : Inv X pins σ H3 s3) (f3 : ∀ b ∈ fp, FpOk X pins H3 b ∧ b < s3.heap.objs.size) (hst : X.stack = E0 :: O0) (hE0 : E0.frame = some L0) (hfm : X.env.frame = some L0) (tk : TakesH X W L0) {pn : List (Addr × Obj)} {xe' : Value → Shared → Prop} {u : Value} {s' : Shared}
    (x : XEH ((X.blk s3 H3 scope (compEnvC scope cl s3.heap.objs.size X.env) fp).tr pn xe') (WB W σ) L0 u s') :
    notedBy (model X.prog X.w) X.A (compEnvC scope cl s3.heap.objs.size X.env) (CompFails (model X.prog X.w) X.A X.xe (compEnvC scope cl s3.heap.objs.size X.env)) u s' := by
  obtain ⟨a, B, sI, pn', σ', H', cls, d, rfl, I, nb, up, sky, na, os, ag, w⟩ := x
  have nb : ∀ b o, sI.heap.get? b = some o → b ∉ frs X.stack → B.get? b = some o := nb
  have sky : SkyH B X.stack a (Zc cls d) s3.heap.objs.size L0 s'.heap := sky
  have hfr : X.A.frames = some (E0 :: O0) := by rw [I3.ok.frames, hst]
  generalize hC : s3.heap.objs.size = C at *
  have hL : X.env.locals < C := by rw [← hC]; exact I3.lt
  -- the block's names
  obtain ⟨m, hn, _⟩ := I.loc
  have hn : sI.heap.Ns C m := hn
  have nC : H' C = none := I.free
  obtain ⟨oC, es, ep, hoC, hdC, hk, hm⟩ := hn
  have fC : ∀ vs, oC.data ≠ .fields vs := fun vs z => by rw [hdC] at z; cases z
  -- the def's own state
  have I7 : Inv X pins σ H' sI := I3.call' (ch := fp) I.os I.base I.hok I.bare fun b hb => ⟨(f3 b hb).1.2.2.2.1, (f3 b hb).1.2.1, (f3 b hb).1.2.2.2.2.1, (f3 b hb).1.2.2.2.2.2⟩
  obtain ⟨c0, c1, c2, c3, c4, c5⟩ : FpOk X pins H' C := I3.fpOk (Nat.le_of_eq hC) nC
  have hCf : C ∉ frs X.stack := by
    rcases I3.ok.stk with h | ⟨h, hf1⟩
    · rw [h]; exact c2
    · rw [h]
      intro z
      obtain ⟨ev, he, hf⟩ := List.mem_filterMap.mp z
      rcases List.mem_cons.mp he with rfl | he
      · rw [hf1] at hf; cases hf; exact Nat.lt_irrefl _ hL
      · exact c2 (List.mem_filterMap.mpr ⟨ev, he, hf⟩)
  have hCL : C ≠ L0 := fun z => hCf (by rw [hst]; exact List.mem_filterMap.mpr ⟨E0, List.mem_cons_self, by rw [z]; exact hE0⟩)
  have hBC : B.get? C = some oC := nb C oC hoC hCf
  unfold notedBy
  rw [noteFrame_frame (show (compEnvC scope cl C X.env).frame = E0.frame from hfm.trans hE0.symm)]
  have note : ∀ Q : Unit → Shared → Prop, (∀ h2, HeldZ B (E0 :: O0) a (Zc cls d) L0 h2 → s'.heap.UpToSlots h2 → Q () { s' with heap := h2 }) → wpAny (model X.prog X.w) X.A (noteFrame (.ref a) E0) Q (CompFails (model X.prog X.w) X.A X.xe (compEnvC scope cl C X.env)) s' := fun Q hQ => by
    rw [hst] at sky
    rcases sky with (⟨k1, k2, k3, oe, vs, e1, e2, e3, e4⟩ | fl | ⟨k1, k2, k3, k4⟩) | hd
    · exact look_newZ Zc.steady hfr k3 hE0 e1 k1 k2 e3 e4 e2 hQ
    · exact looks_onZ Zc.steady hfr hE0 fl hQ
    · refine looks_anyZ Zc.steady hfr hE0 k1 k2 k3 k4 ?_ hQ
      have ne : rawInt C ≠ rawInt L0 := fun z => hCL (by
        unfold rawInt at z
        injection z with z _
        exact Int.ofNat.inj z)
      exact beq_eq_false_iff_ne.mpr ne
    · exact againZ hE0 hd.2.2.2 (hQ s'.heap hd (Heap.UpToSlots.refl _))
  refine note _ fun h2 held up2 => ?_
  obtain ⟨sl, hC2⟩ := (up.trans up2) C oC hoC fC
  refine ⟨m, ⟨_, es, ep, hC2, hdC, hk, hm⟩, fun h' m' hn' sb => ?_⟩
  obtain ⟨oC', es', ep', hoC', hdC', _, _⟩ := hn'
  have hoC' : h'.get? C = some oC' := hoC'
  have sb : ∀ b, b ≠ C → h'.get? b = h2.get? b := sb.2
  obtain ⟨k1, k2, k3, oe, vs, T, oT, ts, t1, t2, t3, t4, t5, t6, t7, t8, t9⟩ := held
  have aC : a ≠ C := fun z => by rw [z, hBC] at k2; cases k2
  have TC : T ≠ C := fun z => by rw [z, hBC] at t5; cases t5
  have fr' : oC'.isFreed = false := Obj.isFreed_of_dict hdC'
  generalize hB' : B.update C (fun _ => oC') = B'
  have b1 : B'.get? C = some oC' := by rw [← hB']; exact Heap.get?_update_self (fun _ => oC') hBC fr'
  have b2 : ∀ b, b ≠ C → B'.get? b = B.get? b := fun b hb => by rw [← hB']; exact Heap.get?_update_other _ _ (Ne.symm hb)
  generalize hI' : sI.heap.update C (fun _ => oC') = hS
  have i1 : hS.get? C = some oC' := by rw [← hI']; exact Heap.get?_update_self (fun _ => oC') hoC fr'
  have i2 : ∀ b, b ≠ C → hS.get? b = sI.heap.get? b := fun b hb => by rw [← hI']; exact Heap.get?_update_other _ _ (Ne.symm hb)
  have bn : ∀ b, B.get? b = none → b ≠ C := fun b hb z => by rw [z, hBC] at hb; cases hb
  have held' : HeldZ B' (E0 :: O0) a (Zc cls d) L0 h' := by
    refine ⟨fun b o hb => ?_, by rw [b2 a aC]; exact k2, FunFrames.swap (fun b hb => ⟨by rw [b2 b (bn b hb)]; exact hb, fun o ho => by rw [sb b (bn b hb)]; exact ho⟩) k3, oe, vs, T, oT, ts, by rw [sb a aC]; exact t1, t2, t3, t4, by rw [b2 T TC]; exact t5, t6, by rw [sb T TC]; exact t7, t8, t9⟩
    by_cases z : b = C
    · subst z; rw [b1] at hb; cases hb; exact hoC'
    · rw [b2 b z] at hb; rw [sb b z]; exact k1 b o hb
  have I8 : Inv X pins σ H' { sI with heap := hS, toks := sI.toks } := I7.turned (it := C) (fun b o hb e => by rw [i2 b hb]; exact e) nC c1 c3 c4 c5
  have t1' : h'.get? a = some oe := by rw [sb a aC]; exact t1
  unfold PySem.passOn
  refine wpAny_bind (wpAny_field t1' t3 t4 ?_)
  rw [if_neg (show ¬ ((Value.ref T == Value.none) = true) from by simp)]
  show wpAny _ X.A (do setFlight (.ref a) X.env.frame; throw (.ref a)) _ _ _
  rw [hfm]
  refine wpAny_bind (setFlight_onZ held' fun h'' held'' up'' => wpAny_throw (tk _ _ ?_))
  refine ⟨a, B', _, pins, σ, H', cls, d, rfl, I8, fun b o hb hf => ?_, fun b o hb hnf => ?_, .inr (by rw [hst]; exact held''), na, os, ag, w⟩
  · have hb : hS.get? b = some o := hb
    by_cases z : b = C
    · subst z; rw [i1] at hb; cases hb; exact b1
    · rw [i2 b z] at hb; rw [b2 b z]; exact nb b o hb hf
  · have hb : hS.get? b = some o := hb
    by_cases z : b = C
    · subst z; rw [i1] at hb; cases hb; exact up'' _ _ hoC' hnf
    · rw [i2 b z] at hb
      obtain ⟨sl1, e1⟩ := (up.trans up2) b o hb hnf
      obtain ⟨sl2, e2⟩ := up'' b { o with slots := sl1 } (by rw [sb b z]; exact e1) hnf
      exact ⟨sl2, e2⟩
end
section
variable {X : Cx}
theorem lc_coreE {pins : List (Addr × Obj)} {s : Shared} {σ : St} {H : Hp} {Q : VK} {elt tg iter : Expr} {ifs : List Expr} {scope : Scope} {own : List (Str × Nat)} {pos pos' : Pos} {wi : TI} {g : TG} {tt : TT} {te : TE} {use : Option (Value → Sem Unit)} {Qf : Value → Shared → Prop} {Wx : WX} {E0 : Env} {O0 : List Env} {L0 : Addr} (hst : X.stack = E0 :: O0) (hE0 : E0.frame = some L0) (hfm : X.env.frame = some L0) (tk : TakesH X Wx L0)
    (hc : X.calm = true) (hN : X.N.Nodup) (I : Inv X pins σ H s) (hi : PI X tg iter wi) (ok : BlkOk X.N X.env.scope scope own)
    (hg : ∀ (s : Shared) (H : Hp) (C : Addr) (cl : List (Str × Addr)) (fp : List Addr), PG (X.blk s H scope (compEnvC scope cl C X.env) fp) tg g) (ht : ∀ (s : Shared) (H : Hp) (C : Addr) (cl : List (Str × Addr)) (fp : List Addr), PTs (X.blk s H scope (compEnvC scope cl C X.env) fp) ifs tt)
    (he : ∀ (s : Shared) (H : Hp) (C : Addr) (cl : List (Str × Addr)) (fp : List Addr) (pn : List (Addr × Obj)) (xe : Value → Shared → Prop), Takes ((X.blk s H scope (compEnvC scope cl C X.env) fp).tr pn xe) (WB Wx σ) → FrOk ((X.blk s H scope (compEnvC scope cl C X.env) fp).tr pn xe) (WB Wx σ) → PE ((X.blk s H scope (compEnvC scope cl C X.env) fp).tr pn xe) elt te) (hs : ∀ x, foldedSetIterable iter X.env x = pure x)
    (h : tLc wi g tt te (own.map (·.2)) σ H Q)
    (hRR : ∀ D (ce : Env) s' m H', Inv X pins σ H' s' → Q (.ref D) H' → s'.heap.Ns ce.locals m → FpOk X pins H' ce.locals → compEnds (model X.prog X.w) X.A X.xe use Qf (.ref D) ce (.ok .next) s') :
    wpAny (model X.prog X.w) X.A (comprehension (.ListComp elt [⟨tg, iter, ifs, 0⟩] scope pos) scope X.env pos' (newList []) false (eval iter X.env) use) Qf X.xe s := by
  have hfree : ∀ y ∈ scope.names, y.2 = .free → ∃ c, X.env.cells.lookup y.1 = some c := fun y hy e => by
    rcases ok.free y hy e with k | k
    · exact I.ok.has _ (.inl k)
    · exact I.ok.has _ (.inr k)
  refine comprehension_at (use := use) rfl hs (closure_ok hfree) ok.kind (fun y hy e => by rw [ok.uniq y hy, e])
    (thn (hi.run pins s σ H _ I h) fun xv s1 hx => thn hx fun itv s2 h2 => ?_)
  obtain ⟨it, fp, tn, J, H2, e, I2, T, st2, f2, q⟩ := h2
  subst e
  refine wpAny_newObj_type (newEnv_comp ?_) (by show 0 ≤ sizeLine; decide)
  generalize hD : s2.heap.objs.size = D
  have hDn : H2 D = none := I2.hok.fresh (Nat.le_of_eq hD)
  obtain ⟨W, ⟨m0, w0⟩, turn⟩ := q D hDn
  -- the new list
  generalize hs3 : ({ s2 with heap := s2.heap.push { cls := .type "list", data := .seq ([] : List Value).toArray } } : Shared) = s3
  have I3 : Inv X pins σ (upd H2 D (.lst [])) s3 := by
    rw [← hs3]
    refine I2.laid (t' := s2.toks) (fun b o e => Heap.get?_push_of_some _ e) (Nat.le_of_eq hD) ⟨Nat.zero_le _, [], 0, .nil, ?_⟩
    rw [← hD]
    exact Heap.get?_push_size _ rfl
  have h3 : s3.heap = s2.heap.push { cls := .type "list", data := .seq ([] : List Value).toArray } := by rw [← hs3]
  have sz : ∀ b ∈ fp, b < s2.heap.objs.size := fun b hb => by
    obtain ⟨o, e, _⟩ := T.obj _ _ st2 b hb
    exact Heap.lt_size e
  have f3 : ∀ b ∈ fp, FpOk X pins (upd H2 D (.lst [])) b ∧ b < s3.heap.objs.size := fun b hb => by
    have hlt := sz b hb
    refine ⟨⟨?_, (f2 b hb).2⟩, by rw [h3, Heap.size_push]; exact Nat.lt_succ_of_lt hlt⟩
    rw [upd_ne (by rw [← hD]; exact Nat.ne_of_lt hlt)]
    exact (f2 b hb).1
  have st3 : tn 0 s3.heap := T.keep _ _ _ st2 fun b _ o e => by rw [h3]; exact Heap.get?_push_of_some _ e
  have I4 := block_start I3 ok hN f3
  have pg := hg s3 (upd H2 D (.lst [])) s3.heap.objs.size (cellsFrom (s3.heap.objs.size + 1) scope.names (cloFrom X.env.cells scope.names [])) fp
  have pt := ht s3 (upd H2 D (.lst [])) s3.heap.objs.size (cellsFrom (s3.heap.objs.size + 1) scope.names (cloFrom X.env.cells scope.names [])) fp
  show codeAny _ _ (.compStart (.ListComp elt [⟨tg, iter, ifs, 0⟩] scope pos) 0 (.ref it) (.ref D) (compEnvC scope (cellsFrom (s3.heap.objs.size + 1) scope.names (cloFrom X.env.cells scope.names [])) s3.heap.objs.size X.env)) (compEnds (model X.prog X.w) X.A X.xe use Qf (.ref D) (compEnvC scope (cellsFrom (s3.heap.objs.size + 1) scope.names (cloFrom X.env.cells scope.names [])) s3.heap.objs.size X.env)) { s3 with heap := pushCells (s3.heap.push { cls := .type "dict", data := .dict #[] }) scope.names }
  have nfp : ∀ b ∈ fp, (upd H2 D (.lst [])) b = none := fun b hb => (f3 b hb).1.1
  generalize hce : compEnvC scope (cellsFrom (s3.heap.objs.size + 1) scope.names (cloFrom X.env.cells scope.names [])) s3.heap.objs.size X.env = ce at I4 pg pt ⊢
  have cL : ce.locals = s3.heap.objs.size := by subst hce; rfl
  generalize hH3 : upd H2 D (.lst []) = H3 at I3 I4 pg pt w0 nfp f3
  generalize hs4 : ({ s3 with heap := pushCells (s3.heap.push { cls := .type "dict", data := .dict #[] }) scope.names } : Shared) = s4 at I4 ⊢
  have st4 : tn 0 s4.heap := T.keep _ _ _ st3 fun b _ o e => by rw [← hs4]; exact pushCells_keeps _ _ _ _ (Heap.get?_push_of_some _ e)
  have stat : ∀ {σ' : St} {H' : Hp} {s' : Shared}, Inv (X.blk s3 H3 scope ce fp) [] σ' H' s' → (∀ b ∈ fp, H' b = none) → ∀ b ∈ fp, FpOk (X.blk s3 H3 scope ce fp) [] H' b := fun {σ' H' s'} I' hn b hb =>
    ⟨hn b hb, (I'.ok.exf b hb).1, I'.ok.exfs b hb, .inl hb, fun x c e => (I'.ok.exf b hb).2 x c e, fun p hp => absurd (show p ∈ ([] : List (Addr × Obj)) ++ [] from hp) (by simp)⟩
  have loop : codeAny (model X.prog X.w) X.A (.compLoop (.ListComp elt [⟨tg, iter, ifs, 0⟩] scope pos) 0 (.ref it) (.ref D) ce) (compEnds (model X.prog X.w) X.A X.xe use Qf (.ref D) ce) s4 := by
    refine compLoop_any (fun n s' => ∃ i H', Inv (X.blk s3 H3 scope ce fp) [] (wipe σ (own.map (·.2))) H' s' ∧ tn i s'.heap ∧ (∀ b ∈ fp, H' b = none) ∧ W i n H') ?_ m0 ⟨0, H3, I4, st4, nfp, w0⟩
    rintro n s5 ⟨i, H5, I5, st5, n5, w5⟩
    rcases turn i n H5 w5 with ⟨stop, qq⟩ | ⟨go, Nx, hNx, step⟩
    · have td := T.done (X.blk s3 H3 scope ce fp) rfl rfl rfl hc i [] s5 _ H5 (fun _ _ => False) I5 (stat I5 n5) st5 stop
      refine thnF td fun r s6 ⟨hr, I6⟩ => ?_
      subst hr
      -- back in the def's context
      have I7 : Inv X pins σ H5 s6 := I3.call' (ch := fp) I6.os I6.base I6.hok I6.bare fun b hb => ⟨(f3 b hb).1.2.2.2.1, (f3 b hb).1.2.1, (f3 b hb).1.2.2.2.2.1, (f3 b hb).1.2.2.2.2.2⟩
      have nC : H5 s3.heap.objs.size = none := by
        have z : H5 ce.locals = none := I6.free
        rw [cL] at z
        exact z
      obtain ⟨m, hn, _⟩ := I6.loc
      have hn : s6.heap.Ns ce.locals m := hn
      rw [cL] at hn
      refine hRR D ce s6 m H5 I7 qq (by rw [cL]; exact hn) (by rw [cL]; exact I3.fpOk (Nat.le_refl _) nC)
    · have ti := T.item (X.blk s3 H3 scope ce fp) rfl rfl rfl hc i [] s5 _ H5 (fun _ _ => False) I5 (stat I5 n5) st5 go
      refine thnF ti fun r s6 ⟨u, hr, h6⟩ => ?_
      subst hr
      refine thnF h6 fun _ s7 ⟨x, H7, I7, r7, y7, st7, n7⟩ => ?_
      have I7' := I7.pinned (stat I7 n7) (T.obj _ _ st7)
      refine thnF (pg.run _ s7 _ H7 x u _ I7' r7 (step x H7 y7)) fun _ s8 ⟨σ8, H8, I8, hw8, q8⟩ => ?_
      refine thnF (pt.run _ s8 σ8 H8 _ I8 q8) fun b s9 ⟨H9, I9, q9⟩ => ?_
      -- the turn's end
      have fin : ∀ {s' : Shared} {H' : Hp}, Inv (X.blk s3 H3 scope ce fp) ([] ++ pinsAt fp s7.heap) σ8 H' s' → Nx H' → ∃ m, m < n ∧ ∃ i H', Inv (X.blk s3 H3 scope ce fp) [] (wipe σ (own.map (·.2))) H' s' ∧ tn i s'.heap ∧ (∀ b ∈ fp, H' b = none) ∧ W i m H' := fun {s' H'} I' nx => by
        obtain ⟨m', hm, w'⟩ := hNx H' nx
        have pin' : ∀ b ∈ fp, ∀ o, s7.heap.get? b = some o → s'.heap.get? b = some o ∧ H' b = none := fun b hb o e =>
          let z := I'.pin (b, o) (List.mem_append_right _ (List.mem_append_right _ (mem_pinsAt hb e)))
          ⟨z.1, z.2.1⟩
        have hl : (wipe σ (own.map (·.2))).length = σ8.length := by rw [← hw8, wipe_length]
        refine ⟨m', hm, i + 1, H', (I'.unpinned (pins := [])).weak hl (fun j v e => ?_), T.keep _ _ _ st7 fun b hb o e => (pin' b hb o e).1, fun b hb => ?_, w'⟩
        · rw [← hw8] at e
          exact (wipe_some e).1
        · obtain ⟨o, e, _⟩ := T.obj _ _ st7 b hb
          exact (pin' b hb o e).2
      cases b with
      | false =>
        simp only [Bool.false_eq_true, if_false] at q9 ⊢
        exact fin I9 q9
      | true =>
        simp only [if_true] at q9 ⊢
        have tkH : TakesH ((X.blk s3 H3 scope ce fp).tr ((X.blk s3 H3 scope ce fp).pn ++ ([] ++ pinsAt fp s7.heap)) (notedBy (model X.prog X.w) X.A ce (CompFails (model X.prog X.w) X.A X.xe ce))) (WB Wx σ) L0 := fun u s' x => by
          subst hce
          exact comp_throw I3 f3 hst hE0 hfm tk x
        have tkB : Takes ((X.blk s3 H3 scope ce fp).tr ((X.blk s3 H3 scope ce fp).pn ++ ([] ++ pinsAt fp s7.heap)) (notedBy (model X.prog X.w) X.A ce (CompFails (model X.prog X.w) X.A X.xe ce))) (WB Wx σ) := fun u s' x => tkH u s' x.toH
        have frB : FrOk ((X.blk s3 H3 scope ce fp).tr ((X.blk s3 H3 scope ce fp).pn ++ ([] ++ pinsAt fp s7.heap)) (notedBy (model X.prog X.w) X.A ce (CompFails (model X.prog X.w) X.A X.xe ce))) (WB Wx σ) := ⟨E0, O0, L0, hst, hE0, by subst hce; exact hfm, tkH⟩
        have pe := he s3 H3 s3.heap.objs.size (cellsFrom (s3.heap.objs.size + 1) scope.names (cloFrom X.env.cells scope.names [])) fp ((X.blk s3 H3 scope ce fp).pn ++ ([] ++ pinsAt fp s7.heap)) (notedBy (model X.prog X.w) X.A ce (CompFails (model X.prog X.w) X.A X.xe ce))
        rw [hce] at pe
        refine wpAny_mono ((pe tkB frB).run [] s9 σ8 H9 _ (I9.toTry _) q9) (fun z s10 ⟨yv, H10, I10, r10, acc, hD10, hz10, nx⟩ => ?_) fun _ _ z => z
        exact app_ok (X := X.blk s3 H3 scope ce fp) (I10.ofTry I9.ok) hD10 hz10 r10 fun s11 I11 => fin I11 nx
  exact codeAny_compStart_list loop (T.self X.A 0 _ _ _ st4 loop)
/-- as a value -/
theorem pe_lcE {elt tg iter : Expr} {ifs : List Expr} {scope : Scope} {own : List (Str × Nat)} {pos : Pos} {wi : TI} {g : TG} {tt : TT} {te : St → TE} {W : WX} (fr : FrOk X W)
    (hc : X.calm = true) (hN : X.N.Nodup) (hi : PI X tg iter wi) (ok : BlkOk X.N X.env.scope scope own)
    (hg : ∀ (s : Shared) (H : Hp) (C : Addr) (cl : List (Str × Addr)) (fp : List Addr), PG (X.blk s H scope (compEnvC scope cl C X.env) fp) tg g) (ht : ∀ (s : Shared) (H : Hp) (C : Addr) (cl : List (Str × Addr)) (fp : List Addr), PTs (X.blk s H scope (compEnvC scope cl C X.env) fp) ifs tt)
    (he : ∀ (σ : St) (s : Shared) (H : Hp) (C : Addr) (cl : List (Str × Addr)) (fp : List Addr) (pn : List (Addr × Obj)) (xe : Value → Shared → Prop), Takes ((X.blk s H scope (compEnvC scope cl C X.env) fp).tr pn xe) (WB W σ) → FrOk ((X.blk s H scope (compEnvC scope cl C X.env) fp).tr pn xe) (WB W σ) → PE ((X.blk s H scope (compEnvC scope cl C X.env) fp).tr pn xe) elt (te σ))
    (hs : ∀ x, foldedSetIterable iter X.env x = pure x := by intro _; rfl) :
    PE X (.ListComp elt [⟨tg, iter, ifs, 0⟩] scope pos) (fun σ H Q => tLc wi g tt (te σ) (own.map (·.2)) σ H Q) := by
  refine ⟨fun pins s σ H Q I h => ?_⟩
  rw [eval_ListComp]
  obtain ⟨E0, O0, L0, hst, hE0, hfm, tk⟩ := fr
  refine lc_coreE hst hE0 hfm tk hc hN I hi ok hg ht (he σ) hs h fun D ce s' m H' I' q hn f => ⟨m, hn, fun h'' sb => ?_⟩
  obtain ⟨f0, f1, f2, f3, f4, f5⟩ := f
  exact ⟨.ref D, H', I'.turned (t' := s'.toks) (fun b o hb e => (sb.2 b hb).trans e) f0 f1 f3 f4 f5, rfl, q⟩
/-- name = [..] on one line, the name a local -/
theorem ps_setLcE {i : Nat} {y : Str} {py : Pos} {elt tg iter : Expr} {ifs : List Expr} {scope : Scope} {own : List (Str × Nat)} {pos spos : Pos} {wi : TI} {g : TG} {tt : TT} {te : St → TE} {W : WX} (fr : FrOk X W) (hc : X.calm = true) (hN : X.N.Nodup) (hy : X.N[i]? = some y) (hyl : X.env.scope.names.lookup y = some .local)
    (hsw : swapsWith (.ListComp elt [⟨tg, iter, ifs, 0⟩] scope pos) (some (.Name y py)) spos.line X.env = pure true) (hi : PI X tg iter wi) (ok : BlkOk X.N X.env.scope scope own)
    (hg : ∀ (s : Shared) (H : Hp) (C : Addr) (cl : List (Str × Addr)) (fp : List Addr), PG (X.blk s H scope (compEnvC scope cl C X.env) fp) tg g) (ht : ∀ (s : Shared) (H : Hp) (C : Addr) (cl : List (Str × Addr)) (fp : List Addr), PTs (X.blk s H scope (compEnvC scope cl C X.env) fp) ifs tt)
    (he : ∀ (σ : St) (s : Shared) (H : Hp) (C : Addr) (cl : List (Str × Addr)) (fp : List Addr) (pn : List (Addr × Obj)) (xe : Value → Shared → Prop), Takes ((X.blk s H scope (compEnvC scope cl C X.env) fp).tr pn xe) (WB W σ) → FrOk ((X.blk s H scope (compEnvC scope cl C X.env) fp).tr pn xe) (WB W σ) → PE ((X.blk s H scope (compEnvC scope cl C X.env) fp).tr pn xe) elt (te σ)) (hs : ∀ x, foldedSetIterable iter X.env x = pure x := by intro _; rfl) :
    PS X (.Assign [.Name y py] (.ListComp elt [⟨tg, iter, ifs, 0⟩] scope pos) spos) (tAsg (fun σ H Q => tLc wi g tt (te σ) (own.map (·.2)) σ H Q) (gName i)) := by
  refine ⟨fun pins s σ H D I h => ?_⟩
  rw [exec_Assign_Name_used _ _ _ _ hsw]
  refine wpAny_bind (wpAny_standAt (wpAny_bind ?_))
  show wpAny _ X.A (do let _ ← comprehension (.ListComp elt [⟨tg, iter, ifs, 0⟩] scope pos) scope X.env (firstIterPos [⟨tg, iter, ifs, 0⟩] pos) (newList []) false (eval iter X.env) (some (assign (.Name y py) X.env))) _ _ s
  have h : tLc wi g tt (te σ) (own.map (·.2)) σ H (fun x H1 => gName i x σ H1 D.nx) := h
  obtain ⟨E0, O0, L0, hst, hE0, hfm, tk⟩ := fr
  refine wpAny_bind (thn (lc_coreE (Qf := fun _ s' => SP X pins D .next s') hst hE0 hfm tk hc hN I hi ok hg ht (he σ) hs h fun L ce s' m H' I' q hn f => ?_) fun _ s' hq => wpAny_pure (wpAny_pure hq))
  show wpAny _ _ (assign (.Name y py) X.env (.ref L)) _ _ _
  refine wpAny_assign_Name (store_ok2 (v := V.ref L) I' hN hy (.inl hyl) rfl (fun s2 I2 ⟨a, sb, ha⟩ => ?_) (.inr hyl))
  obtain ⟨f0, f1, f2, f3, f4, f5⟩ := f
  have haC : ce.locals ≠ a := by
    rcases ha with z | z
    · rw [z]; exact f1
    · exact fun e => f4 y a z e.symm
  refine ⟨m, hn.sameBut sb haC, fun h3 sb3 => ?_⟩
  exact ⟨_, H', I2.turned (t' := s2.toks) (fun b o hb e => (sb3.2 b hb).trans e) f0 f1 f3 f4 f5, q⟩
end
end L2
end

noncomputable section
namespace GS
open PySem L2
/-! ### comprehensions -/
/-- no exception leaves -/
def calmR {α : Type} : R α → R α
  | .ok a m => .ok a m
  | _ => .stuck
/-- the items made, one for each datum -/
def compR (t : Tg) (tt : List D → List Cell → R Bool) (el : List D → List Cell → R D) (ρ : List D) (kp : Keep) : List D → List Cell → R (List D)
  | [], m => if cd (kp.ok m) = true then .ok [] m else .stuck
  | d :: ds, m => if cd (kp.ok m) = true then (R.of (bindT t d ρ) m).bind fun ρ1 m => (calmR (tt ρ1 m)).bind fun k m =>
      if k = true then (el ρ1 m).bind fun y m => (compR t tt el ρ kp ds m).bind fun ys m => .ok (y :: ys) m else compR t tt el ρ kp ds m
    else .stuck
/-- an exception leaves if there are not too many items -/
def limR {α : Type} (n : Nat) : R α → R α
  | .ok a m => .ok a m
  | .exc k fs m => if cd (n ≤ sizeLine) = true then .exc k fs m else .stuck
  | .stuck => .stuck
theorem limR_exc {α : Type} (n k : Nat) (fs : List (Str × D)) (m : List Cell) : limR (α := α) n (.exc k fs m) = if cd (n ≤ sizeLine) = true then .exc k fs m else .stuck := rfl
def compE (src : List D → List Cell → R (List D × Keep)) (t : Tg) (tt : List D → List Cell → R Bool) (el : List D → List Cell → R D) (own : List Nat) : List D → List Cell → R D := fun ρ m =>
  (src ρ m).bind fun ds m => (limR ds.1.length (compR t tt el (wipeR ρ own) ds.2 ds.1 m)).bind fun ys m => R.of (mkLst ys) m
/-- ahead of a list -/
def preR (as : List D) : R (List D) → R (List D)
  | .ok l m => .ok (as ++ l) m
  | .exc k fs m => .exc k fs m
  | .stuck => .stuck
/-- the context of a block: no exception leaves -/
def Ctx.calm (c : Ctx) : Ctx := { c with W := fun _ _ _ _ => False }
/-- the context of a block's element: its exceptions leave for the def -/
def Ctx.blk (c : Ctx) (σ : L2.St) : Ctx := { c with W := L2.WB c.W σ }
section
variable {c : Ctx} {ρ : List D} {m : List Cell} {z z' : Fz} {σ : L2.St} {H H' : Hp}
theorem SS.calm (S : SS c ρ m z σ H) : SS c.calm ρ m z σ H := ⟨S.st, S.gr, S.len, S.sl⟩
theorem SS.loud (S : SS c.calm ρ m z σ H) : SS c ρ m z σ H := ⟨S.st, S.gr, S.len, S.sl⟩
theorem SS.blk (S : SS c ρ m z σ H) (σ0 : L2.St) : SS (c.blk σ0) ρ m z σ H := ⟨S.st, S.gr, S.len, S.sl⟩
theorem SS.ofBlk {σ0 : L2.St} (S : SS (c.blk σ0) ρ m z σ H) : SS c ρ m z σ H := ⟨S.st, S.gr, S.len, S.sl⟩
theorem At.calmly {α β : Type} {rel : α → β → Fz → Prop} {a : α} {Q : β → Hp → Prop} {r : R α} (e : r = .ok a m) (h : ∀ v H' z', SS c ρ m z' σ H' → Gr z H z' H' → rel a v z' → Q v H') : At c.calm rel r ρ z σ H Q := by
  subst e
  exact fun v H' z' S g q => h v H' z' S.loud g q
theorem Sto.apart {K : PySem.W.Frag} {C : Nat → Addr} (S : Sto K C m z H) {p : Addr} (o : HO) (hf : z.F p = none) (hA : p ∉ z.A) (hT : ∀ ps, H p ≠ some (.tbl ps)) : Sto K C m z (upd H p o) := by
  refine ⟨fun b u e => by rw [upd_ne (ne_of_none e hf)]; exact S.le _ _ e, S.len, S.nd, fun a h => ?_, fun n k a h1 h2 h3 => ?_, fun a h => by
    obtain ⟨q1, q2, q3⟩ := S.tb a h
    refine ⟨q1.upd fun z => ?_, q2, q3⟩
    obtain ⟨ps, e1, _⟩ := q1
    exact hT ps (z ▸ e1)⟩
  · by_cases e : a = p
    · subst e; exact absurd h hA
    · rw [upd_ne e]; exact S.there a h
  · obtain ⟨q1, q2⟩ := S.cell n k a h1 h2 h3
    have ne : a ≠ p := fun e => hA (e ▸ mem_get h2)
    exact ⟨q1, q2.mono (.refl _) fun u q => by rw [upd_ne ne]; exact q⟩
theorem Gr.apart {z0 : Fz} {H0 : Hp} (g : Gr z0 H0 z H) {p : Addr} (o : HO) (h : H0 p = none) : Gr z0 H0 z (upd H p o) :=
  { g.toLe with keep := fun a u e n t => by rw [upd_ne (ne_of_none e h)]; exact g.keep a u e n t, tbk := fun a ps e n => by rw [upd_ne (ne_of_none e h)]; exact g.tbk a ps e n, new := g.new, sep := g.sep }
theorem SS.free0 (S : SS c ρ m z σ H) {p : Addr} (h : H p = none) : c.H0 p = none ∧ p ∉ z.A := by
  have nA : p ∉ z.A := fun q => by obtain ⟨o, e, _⟩ := S.st.there p q; rw [h] at e; cases e
  refine ⟨?_, nA⟩
  cases e : c.H0 p with
  | none => rfl
  | some o =>
    by_cases q : p ∈ c.z0.A
    · obtain ⟨n, hn⟩ := List.mem_iff_getElem?.mp q
      exact absurd (mem_get (S.gr.a _ _ hn)) nA
    · obtain ⟨o', this⟩ := S.gr.was e q
      rw [h] at this; cases this
theorem SS.apart (S : SS c ρ m z σ H) {p : Addr} (o : HO) (hf : z.F p = none) (hA : p ∉ z.A) (h0 : c.H0 p = none) (hT : ∀ ps, H p ≠ some (.tbl ps)) : SS c ρ m z σ (upd H p o) := ⟨S.st.apart o hf hA hT, S.gr.apart o h0, S.len, S.sl⟩
theorem lcN {src : List D → List Cell → R (List D × Keep)} {t : Tg} {tt : List D → List Cell → R Bool} {el : List D → List Cell → R D} {own : List Nat} (ho : ∀ i ∈ t.ids, i ∈ own) {Q : VK} (h : tN c (compE src t tt el own) σ H Q) :
    tLc (tI c src) (gT c.K t) (tG c.calm rB tt) (tG (c.blk σ) (rD (c.blk σ)) el) own σ H Q := by
  obtain ⟨ρ, m, z, S, A⟩ := h
  refine ⟨ρ, m, z, S, ?_⟩
  unfold compE at A
  cases q : src ρ m with
  | stuck => rw [q] at A; exact A
  | exc k fs m' => rw [q] at A; exact A
  | ok ds m' =>
    rw [q, R.bind_ok] at A
    obtain ⟨ds, kp⟩ := ds
    intro J H1 z1 S1 g1 wk p hp
    have hp1 : z1.F p = none := S1.st.le.free hp
    obtain ⟨h0, hA1⟩ := S1.free0 hp
    have hpH : H p = none := by
      cases e : H p with
      | none => rfl
      | some o =>
        by_cases q : p ∈ z.A
        · obtain ⟨n, hn⟩ := List.mem_iff_getElem?.mp q
          exact absurd (mem_get (g1.a _ _ hn)) hA1
        · obtain ⟨o', this⟩ := g1.was e q
          rw [hp] at this; cases this
    dsimp only at A wk
    generalize hR0 : compR t tt el (wipeR ρ own) kp ds m' = R0 at A
    have ns : R0 ≠ .stuck := fun e => by rw [e] at A; exact A
    refine ⟨fun i n H2 => n = ds.length - i ∧ i ≤ ds.length ∧ ∃ z2 m2 acc as, SS c (wipeR ρ own) m2 z2 (L2.wipe σ own) H2 ∧ Gr z1 H1 z2 H2 ∧ H2 p = some (.lst acc) ∧ z2.F p = none ∧ p ∉ z2.A ∧ c.RepL z2 as acc ∧
      preR as (compR t tt el (wipeR ρ own) kp (ds.drop i) m2) = R0 ∧ as.length ≤ i, ⟨ds.length, by simp, Nat.zero_le _, z1, m', [], [], ?_, ?_, upd_same, hp1, hA1, rfl, ?_, Nat.le_refl _⟩, ?_⟩
    · exact (S1.wipe own).apart _ hp1 hA1 h0 (by rw [hp]; simp)
    · exact (Gr.refl z1 H1).apart _ hp
    · rw [← hR0, List.drop_zero]
      cases compR t tt el (wipeR ρ own) kp ds m' <;> rfl
    · rintro i n H2 ⟨rfl, hi, z2, m2, acc, as, S2, gg, hD, hF, hA, ra, hc, ha⟩
      by_cases hlt : i < ds.length
      · obtain ⟨d, hd⟩ : ∃ d, ds[i]? = some d := ⟨ds[i], by simp [hlt]⟩
        have hdr : ds.drop i = d :: ds.drop (i + 1) := by
          rw [List.drop_eq_getElem_cons hlt]
          rw [List.getElem?_eq_getElem hlt] at hd
          rw [Option.some.inj hd]
        rw [hdr] at hc
        unfold compR at hc
        by_cases hk : cd (kp.ok m2) = true
        · rw [if_pos hk] at hc
          obtain ⟨w1, w2⟩ := wk _ m2 z2 _ H2 S2 gg.toLe (cd_iff.mp hk)
          obtain ⟨go, yl⟩ := w2 i d hd
          cases b1 : bindT t d (wipeR ρ own) with
          | none => rw [b1] at hc; exact absurd hc.symm ns
          | some ρ1 =>
            rw [b1] at hc
            have hc : preR as ((calmR (tt ρ1 m2)).bind fun k m => if k = true then (el ρ1 m).bind fun y m => (compR t tt el (wipeR ρ own) kp (ds.drop (i + 1)) m).bind fun ys m => .ok (y :: ys) m else compR t tt el (wipeR ρ own) kp (ds.drop (i + 1)) m) = R0 := hc
            cases b2 : tt ρ1 m2 with
            | stuck => rw [b2] at hc; exact absurd hc.symm ns
            | exc k fs m4 => rw [b2] at hc; exact absurd hc.symm ns
            | ok k m4 =>
              rw [b2] at hc
              have hc2 : preR as (if k = true then (el ρ1 m4).bind fun y m => (compR t tt el (wipeR ρ own) kp (ds.drop (i + 1)) m).bind fun ys m => .ok (y :: ys) m else compR t tt el (wipeR ρ own) kp (ds.drop (i + 1)) m4) = R0 := hc
              clear hc
              refine .inr ⟨go, _, fun H' h' => ⟨ds.length - (i + 1), by omega, rfl, by omega, h'⟩, fun x H3 hy => ?_⟩
              obtain ⟨z3, S3, g3, r3⟩ := yl x H3 hy
              -- the new list stays where it is
              have stay : ∀ {za : Fz} {Ha : Hp} {zb : Fz} {Hb : Hp}, Gr za Ha zb Hb → Ha p = some (.lst acc) → za.F p = none → p ∉ za.A → Hb p = some (.lst acc) ∧ zb.F p = none ∧ p ∉ zb.A := fun {za Ha zb Hb} g e1 e2 e3 =>
                ⟨g.keep _ _ e1 e3 (by intro ps q; cases q), g.sep _ _ e1 e2 e3, fun q => by rcases g.new _ q with q | q; exact e3 q; rw [e1] at q; cases q⟩
              obtain ⟨hD3, hF3, hA3⟩ := stay g3 hD hF hA
              refine bind_ok (c := c) S3 r3 b1 fun σ4 S4 hw4 => ⟨(hw4 own ho).trans (wipe_wipe σ own), ρ1, m2, z3, S4.calm, At.calmly b2 fun k' H4 z4 S4' g4 ek => ?_⟩
              cases ek
              have S5 : SS c (wipeR ρ own) m4 z4 (L2.wipe σ own) H4 := S3.go g4 S4'.st
              obtain ⟨hD4, hF4, hA4⟩ := stay g4 hD3 hF3 hA3
              have ra4 : c.RepL z4 as acc := RepL.mono (g3.trans g4).toLe _ _ ra
              cases k with
              | false =>
                rw [if_neg (by decide)] at hc2 ⊢
                exact ⟨z4, m4, acc, as, S5, (gg.trans g3).trans g4, hD4, hF4, hA4, ra4, hc2, by omega⟩
              | true =>
                rw [if_pos rfl] at hc2 ⊢
                refine ⟨ρ1, m4, z4, S4'.blk σ, ?_⟩
                cases b3 : el ρ1 m4 with
                | stuck => rw [b3] at hc2; exact absurd hc2.symm ns
                | exc k fs m5 =>
                  rw [b3] at hc2
                  have hc2 : R.exc k fs m5 = R0 := hc2
                  subst hc2
                  have hl : cd (ds.length ≤ sizeLine) = true := by
                    cases q9 : cd (ds.length ≤ sizeLine) with
                    | true => rfl
                    | false =>
                      have A : AtN c ((limR ds.length (R.exc k fs m5)).bind fun ys m => R.of (mkLst ys) m) ρ z σ H Q := A
                      rw [limR_exc] at A
                      rw [if_neg (by rw [q9]; decide)] at A
                      exact A.elim
                  have A : AtN c ((limR ds.length (R.exc k fs m5)).bind fun ys m => R.of (mkLst ys) m) ρ z σ H Q := A
                  rw [limR_exc] at A
                  rw [if_pos hl] at A
                  intro d' H5 z5 S5' g5 ex
                  have gall := ((gg.trans g3).trans g4).trans g5
                  exact A d' H5 z5 (S1.go gall S5'.st) (g1.trans gall) ex
                | ok y m5 =>
                  rw [b3] at hc2
                  have hc3 : preR as ((compR t tt el (wipeR ρ own) kp (ds.drop (i + 1)) m5).bind fun ys m => .ok (y :: ys) m) = R0 := hc2
                  clear hc2
                  intro v H5 z5 S5' g5 rv
                  obtain ⟨hD5, hF5, hA5⟩ := stay g5 hD4 hF4 hA4
                  have S6 : SS c (wipeR ρ own) m5 z5 (L2.wipe σ own) H5 := S5.go g5 S5'.st
                  have la : acc.length = as.length := RepL.length ra4
                  have room : as.length < sizeLine := by
                    cases b4 : compR t tt el (wipeR ρ own) kp (ds.drop (i + 1)) m5 with
                    | stuck => rw [b4] at hc3; exact absurd hc3.symm ns
                    | exc k fs m6 =>
                      rw [b4] at hc3
                      have hc3 : R.exc k fs m6 = R0 := hc3
                      subst hc3
                      cases q9 : cd (ds.length ≤ sizeLine) with
                      | true => have := cd_iff.mp q9; omega
                      | false =>
                        have A : AtN c ((limR ds.length (R.exc k fs m6)).bind fun ys m => R.of (mkLst ys) m) ρ z σ H Q := A
                        rw [limR_exc] at A
                        rw [if_neg (by rw [q9]; decide)] at A
                        exact A.elim
                    | ok rest2 m6 =>
                      rw [b4] at hc3
                      have hc3 : R.ok (as ++ y :: rest2) m6 = R0 := hc3
                      subst hc3
                      have A : AtN c (R.of (mkLst (as ++ y :: rest2)) m6) ρ z σ H Q := A
                      cases qm : mkLst (as ++ y :: rest2) with
                      | none => rw [qm] at A; exact A.elim
                      | some d =>
                        obtain ⟨hsz, _⟩ := lim_some qm
                        rw [List.length_append, List.length_cons] at hsz
                        omega
                  have hn : preR (as ++ [y]) (compR t tt el (wipeR ρ own) kp (ds.drop (i + 1)) m5) = R0 := by
                    rw [← hc3]
                    cases compR t tt el (wipeR ρ own) kp (ds.drop (i + 1)) m5 with
                    | ok l m => show R.ok (as ++ [y] ++ l) m = R.ok (as ++ y :: l) m; rw [List.append_assoc]; rfl
                    | exc k fs m => rfl
                    | stuck => rfl
                  exact ⟨acc, hD5, by omega, z5, m5, acc ++ [v], as ++ [y], S6.apart _ hF5 hA5 h0 (by rw [hD5]; simp), (((gg.trans g3).trans g4).trans g5).apart _ hp, upd_same, hF5, hA5, RepL.append (RepL.mono g5.toLe _ _ ra4) (RepL.one rv), hn, by rw [List.length_append, List.length_singleton]; omega⟩
        · rw [if_neg hk] at hc; exact absurd hc.symm ns
      · have e : i = ds.length := by omega
        subst e
        rw [List.drop_length] at hc
        unfold compR at hc
        by_cases hk : cd (kp.ok m2) = true
        · rw [if_pos hk] at hc
          have hc : R.ok (as ++ []) m2 = R0 := hc
          rw [List.append_nil] at hc
          subst hc
          obtain ⟨w1, w2⟩ := wk _ _ z2 _ H2 S2 gg.toLe (cd_iff.mp hk)
          have A : AtN c (R.of (mkLst as) m2) ρ z σ H Q := A
          cases qm : mkLst as with
          | none => rw [qm] at A; exact A.elim
          | some d =>
            rw [qm] at A
            obtain ⟨_, ed⟩ := lim_some qm
            cases ed
            exact .inl ⟨w1, A p H2 z2 _ (S1.go gg S2.st) (g1.trans gg) rfl hpH hF hA ⟨acc, hD, ra⟩⟩
        · rw [if_neg hk] at hc; exact absurd hc.symm ns
theorem comp_isLst {src : List D → List Cell → R (List D × Keep)} {t : Tg} {tt : List D → List Cell → R Bool} {el : List D → List Cell → R D} {own : List Nat} : ∀ ρ m d m', compE src t tt el own ρ m = .ok d m' → isLst d = true := fun ρ m d m' h => by
  unfold compE at h
  obtain ⟨a, m1, _, h⟩ := R.bind_ok_inv h
  obtain ⟨ys, m2, _, h⟩ := R.bind_ok_inv h
  cases q : mkLst ys with
  | none => rw [q] at h; cases h
  | some e =>
    rw [q] at h
    cases h
    obtain ⟨_, e2⟩ := lim_some q
    cases e2
    rfl
theorem lcD {src : List D → List Cell → R (List D × Keep)} {t : Tg} {tt : List D → List Cell → R Bool} {el : List D → List Cell → R D} {own : List Nat} (ho : ∀ i ∈ t.ids, i ∈ own) {Q : VK} (h : tG c (rD c) (compE src t tt el own) σ H Q) :
    tLc (tI c src) (gT c.K t) (tG c.calm rB tt) (tG (c.blk σ) (rD (c.blk σ)) el) own σ H Q := lcN ho (tN_lst comp_isLst h)
/-- a list, in own hands -/
theorem pe_lstN {X : Cx} {es : List Expr} {fs : List D → List Cell → R (List D)} {pos : Pos} (h : PA X es (tG c (rL c) fs)) : PE X (.List es pos) (tN c (evMk fs mkLst)) := (pe_lst h).imp fun σ H Q h => by
  obtain ⟨ρ, m, z, S, A⟩ := h
  refine ⟨ρ, m, z, S, ?_⟩
  unfold evMk at A
  cases q : fs ρ m with
  | stuck => rw [q] at A; exact A
  | exc k l m' => rw [q] at A; exact A
  | ok ds m' =>
    rw [q, R.bind_ok] at A
    intro xs H1 z1 S1 g1 q1
    cases qm : mkLst ds with
    | none => rw [qm] at A; exact A.elim
    | some d =>
      rw [qm] at A
      obtain ⟨hl, e⟩ := lim_some qm
      cases e
      refine ⟨by rw [RepL.length q1]; exact hl, fun p hp => ?_⟩
      obtain ⟨h0, hA⟩ := S1.free0 hp
      have hf := S1.st.le.free hp
      have hpH : H p = none := by
        cases e : H p with
        | none => rfl
        | some o =>
          by_cases q : p ∈ z.A
          · obtain ⟨n, hn⟩ := List.mem_iff_getElem?.mp q
            exact absurd (mem_get (g1.a _ _ hn)) hA
          · obtain ⟨o', this⟩ := g1.was e q
            rw [hp] at this; cases this
      exact A p _ z1 _ (S1.apart _ hf hA h0 (by rw [hp]; simp)) (g1.apart _ hpH) rfl hpH hf hA ⟨xs, upd_same, q1⟩
theorem pe_dnewN {X : Cx} {pos : Pos} : PE X (.Dict [] [] pos) (tN c fun _ m => .ok (.dct []) m) := pe_dnewK.imp fun σ H Q h => by
  obtain ⟨ρ, m, z, S, A⟩ := h
  intro p hp
  obtain ⟨h0, hA⟩ := S.free0 hp
  have hf := S.st.le.free hp
  exact A p _ z _ (S.apart _ hf hA h0 (by rw [hp]; simp)) ((Gr.refl z H).apart _ hp) rfl hp hf hA ⟨[], upd_same, rfl⟩
end
end GS
end

noncomputable section
namespace GS
open PySem L2
/-- what a statement comes to: on to the next, a value handed back, out of the loop, to its next turn, an exception -/
inductive SR where
  | nx (ρ : List D) (m : List Cell) | rt (d : D) (m : List Cell) | bk (ρ : List D) (m : List Cell) | ct (ρ : List D) (m : List Cell) | exc (k : Nat) (fs : List (Str × D)) (ρ : List D) (m : List Cell) | stuck
def SR.andThen (r : SR) (f : List D → List Cell → SR) : SR := match r with
  | .nx ρ m => f ρ m
  | r => r
def R.then {α : Type} (r : R α) (ρ : List D) (k : α → List Cell → SR) : SR := match r with
  | .ok a m => k a m
  | .exc c fs m => .exc c fs ρ m
  | .stuck => .stuck
@[simp] theorem R.then_ok {α : Type} (a : α) (m : List Cell) (ρ : List D) (k : α → List Cell → SR) : (R.ok a m).then ρ k = k a m := rfl
@[simp] theorem R.then_exc {α : Type} (c : Nat) (fs : List (Str × D)) (m : List Cell) (ρ : List D) (k : α → List Cell → SR) : (R.exc c fs m : R α).then ρ k = .exc c fs ρ m := rfl
@[simp] theorem R.then_stuck {α : Type} (ρ : List D) (k : α → List Cell → SR) : (R.stuck : R α).then ρ k = .stuck := rfl
@[simp] theorem SR.nx_andThen (ρ : List D) (m : List Cell) (f : List D → List Cell → SR) : (SR.nx ρ m).andThen f = f ρ m := rfl
@[simp] theorem SR.rt_andThen (d : D) (m : List Cell) (f : List D → List Cell → SR) : (SR.rt d m).andThen f = .rt d m := rfl
@[simp] theorem SR.bk_andThen (ρ : List D) (m : List Cell) (f : List D → List Cell → SR) : (SR.bk ρ m).andThen f = .bk ρ m := rfl
@[simp] theorem SR.ct_andThen (ρ : List D) (m : List Cell) (f : List D → List Cell → SR) : (SR.ct ρ m).andThen f = .ct ρ m := rfl
@[simp] theorem SR.exc_andThen (k : Nat) (fs : List (Str × D)) (ρ : List D) (m : List Cell) (f : List D → List Cell → SR) : (SR.exc k fs ρ m).andThen f = .exc k fs ρ m := rfl
@[simp] theorem SR.stuck_andThen (f : List D → List Cell → SR) : SR.stuck.andThen f = .stuck := rfl
def SAt (c : Ctx) (zb : Fz) (Hb : Hp) (D : Ends) : SR → Prop
  | .nx ρ m => ∀ σ' H' z', SS c ρ m z' σ' H' → Gr zb Hb z' H' → D.nx σ' H'
  | .bk ρ m => ∀ σ' H' z', SS c ρ m z' σ' H' → Gr zb Hb z' H' → D.bk σ' H'
  | .ct ρ m => ∀ σ' H' z', SS c ρ m z' σ' H' → Gr zb Hb z' H' → D.ct σ' H'
  | .rt d m => ∀ v ρ' σ' H' z', SS c ρ' m z' σ' H' → Gr zb Hb z' H' → c.Rep z' d v → D.rt v H'
  | .exc k fs ρ m => ∀ d σ' H' z', SS c ρ m z' σ' H' → Gr zb Hb z' H' → ExcAt c.K c.C z' H' fs d → c.W (.ref (c.C k)) d σ' H'
  | .stuck => False
def tS (c : Ctx) (f : List D → List Cell → SR) : TS := fun D σ H => ∃ ρ m z, SS c ρ m z σ H ∧ SAt c z H D (f ρ m)
theorem SAt.up {c : Ctx} {zb zb' : Fz} {Hb Hb' : Hp} {D : Ends} (g : Gr zb Hb zb' Hb') : ∀ {r : SR}, SAt c zb Hb D r → SAt c zb' Hb' D r
  | .nx _ _, h => fun σ' H' z' S q => h σ' H' z' S (g.trans q)
  | .bk _ _, h => fun σ' H' z' S q => h σ' H' z' S (g.trans q)
  | .ct _ _, h => fun σ' H' z' S q => h σ' H' z' S (g.trans q)
  | .rt _ _, h => fun v ρ' σ' H' z' S q r => h v ρ' σ' H' z' S (g.trans q) r
  | .exc _ _ _ _, h => fun d σ' H' z' S q => h d σ' H' z' S (g.trans q)
  | .stuck, h => h
section
variable {c : Ctx} {X : Cx} {e a b : Expr} {f g : List D → List Cell → R D} {st : Stmt} {rest body orelse : List Stmt} {s t u : List D → List Cell → SR} {pos : Pos}
/-- an expression's outcome, then the rest -/
theorem SAt.expr {α β : Type} {rel : α → β → Fz → Prop} {r : R α} {k : α → List Cell → SR} {ρ : List D} {z : Fz} {H : Hp} {σ : L2.St} {D : Ends} (h : SAt c z H D (r.then ρ k)) :
    At c rel r ρ z σ H (fun v H1 => ∃ z1 d m1, SS c ρ m1 z1 σ H1 ∧ Gr z H z1 H1 ∧ rel d v z1 ∧ r = .ok d m1 ∧ SAt c z1 H1 D (k d m1)) := by
  cases r with
  | ok d m => exact fun v H1 z1 S1 g1 r1 => ⟨z1, d, m, S1, g1, r1, rfl, SAt.up g1 h⟩
  | exc k fs m => exact fun d H' z' S' g x => h d σ H' z' S' g x
  | stuck => exact h
theorem SAt.exprN {r : R D} {k : D → List Cell → SR} {ρ : List D} {z : Fz} {H : Hp} {σ : L2.St} {D : Ends} (h : SAt c z H D (r.then ρ k)) (P : VK) (hp : ∀ v H1 z1 d m1, SS c ρ m1 z1 σ H1 → Gr z H z1 H1 → c.Rep z1 d v → r = .ok d m1 → SAt c z1 H1 D (k d m1) → P v H1) :
    At c (rD c) r ρ z σ H P := (SAt.expr h).imp fun v H1 ⟨z1, d, m1, S1, g1, q1, e1, A1⟩ => hp v H1 z1 d m1 S1 g1 q1 e1 A1
/-! ### blocks -/
theorem tS_nx {ρ : List D} {m : List Cell} {z : Fz} {H : Hp} {σ : L2.St} {D : Ends} (S : SS c ρ m z σ H) (A : SAt c z H D (.nx ρ m)) : D.nx σ H := A σ H z S (.refl _ _)
theorem pss_nilD : PSs X [] (tS c fun ρ m => .nx ρ m) := pss_nil.imp fun D σ H ⟨ρ, m, z, S, A⟩ => A σ H z S (.refl _ _)
theorem seqSt {D : Ends} {σ : L2.St} {H : Hp} (A : tS c (fun ρ m => (s ρ m).andThen t) D σ H) : tS c s { D with nx := tS c t D } σ H := by
  obtain ⟨ρ, m, z, S, A⟩ := A
  refine ⟨ρ, m, z, S, ?_⟩
  have A : SAt c z H D ((s ρ m).andThen t) := A
  generalize s ρ m = r at A ⊢
  cases r with
  | nx ρ' m' => exact fun σ' H' z' S' g => ⟨ρ', m', z', S', SAt.up g A⟩
  | bk ρ' m' => exact A
  | ct ρ' m' => exact A
  | rt d m' => exact A
  | exc k fs ρ' m' => exact A
  | stuck => exact A
theorem pss_consD (h1 : PS X st (tS c s)) (h2 : PSs X rest (tS c t)) : PSs X (st :: rest) (tS c fun ρ m => (s ρ m).andThen t) := (pss_cons h1 h2).imp fun D σ H A => seqSt A
theorem ps_passD : PS X (.Pass pos) (tS c fun ρ m => .nx ρ m) := ps_pass.imp fun D σ H ⟨ρ, m, z, S, A⟩ => A σ H z S (.refl _ _)
theorem ps_breakD : PS X (.Break pos) (tS c fun ρ m => .bk ρ m) := ps_break.imp fun D σ H ⟨ρ, m, z, S, A⟩ => A σ H z S (.refl _ _)
theorem ps_continueD : PS X (.Continue pos) (tS c fun ρ m => .ct ρ m) := ps_continue.imp fun D σ H ⟨ρ, m, z, S, A⟩ => A σ H z S (.refl _ _)
/-- nothing is promised of a statement -/
theorem ps_dead : PS X st (tS c fun _ _ => .stuck) := ⟨fun _ _ _ _ _ _ ⟨_, _, _, _, A⟩ => A.elim⟩
def sExpr (f : List D → List Cell → R D) : List D → List Cell → SR := fun ρ m => (f ρ m).then ρ fun _ m => .nx ρ m
def sRet (f : List D → List Cell → R D) : List D → List Cell → SR := fun ρ m => (f ρ m).then ρ fun d m => .rt d m
def sIf (p : List D → List Cell → R D) (s t : List D → List Cell → SR) : List D → List Cell → SR := fun ρ m => (evT p ρ m).then ρ fun k m => if k = true then s ρ m else t ρ m
def sSet (i : Nat) (f : List D → List Cell → R D) : List D → List Cell → SR := fun ρ m => (f ρ m).then ρ fun d m => .nx (ρ.set i d) m
theorem ps_exprD (he : PE X e (tG c (rD c) f)) (hs : swapsWith e none pos.line X.env = pure false) : PS X (.Expr e pos) (tS c (sExpr f)) := (ps_expr he hs).imp fun D σ H ⟨ρ, m, z, S, A⟩ =>
  ⟨ρ, m, z, S, (SAt.expr A).imp fun v H1 ⟨z1, d, m1, S1, g1, r1, _, A1⟩ => A1 σ H1 z1 S1 (.refl _ _)⟩
theorem ps_retD (he : PE X e (tG c (rD c) f)) : PS X (.Return (some e) pos) (tS c (sRet f)) := (ps_ret he).imp fun D σ H ⟨ρ, m, z, S, A⟩ =>
  ⟨ρ, m, z, S, (SAt.expr A).imp fun v H1 ⟨z1, d, m1, S1, g1, r1, _, A1⟩ => A1 v ρ σ H1 z1 S1 (.refl _ _) r1⟩
theorem ps_retND : PS X (.Return none pos) (tS c fun _ m => .rt .non m) := ps_retN.imp fun D σ H ⟨ρ, m, z, S, A⟩ => A .non ρ σ H z S (.refl _ _) rfl
theorem ps_ifD (he : PT X e (tG c rB (evT f))) (hb : PSs X body (tS c s)) (ho : PSs X orelse (tS c t)) : PS X (.If e body orelse pos) (tS c (sIf f s t)) := (ps_if he hb ho).imp fun D σ H ⟨ρ, m, z, S, A⟩ =>
  ⟨ρ, m, z, S, (SAt.expr A).imp fun k H1 ⟨z1, d, m1, S1, g1, r1, _, A1⟩ => by
    cases r1
    cases k with
    | true => exact ⟨ρ, m1, z1, S1, A1⟩
    | false => exact ⟨ρ, m1, z1, S1, A1⟩⟩

/-! ### stores -/
theorem asgD {i : Nat} {D : Ends} {σ : L2.St} {H : Hp} (h : tS c (sSet i f) D σ H) : tAsg (tG c (rD c) f) (gName i) D σ H := by
  obtain ⟨ρ, m, z, S, A⟩ := h
  exact ⟨ρ, m, z, S, (SAt.expr A).imp fun v H1 ⟨z1, d, m1, S1, g1, r1, _, A1⟩ => A1 _ H1 z1 (S1.set i r1) (.refl _ _)⟩
/-- name = value -/
theorem ps_setD {i : Nat} {x : Str} {pos' : Pos} (hN : X.N.Nodup) (hi : X.N[i]? = some x) (hx : Loc X.env.scope x) (he : PE X e (tG c (rD c) f)) (hs : swapsWith e (some (.Name x pos')) pos.line X.env = pure false) (hf : X.fn x = true ∨ X.env.scope.names.lookup x = some .local) :
    PS X (.Assign [.Name x pos'] e pos) (tS c (sSet i f)) := (ps_set hN hi hx he hs hf).imp fun D σ H h => asgD h
/-- a, b = t -/
def sTup (is : List Nat) (f : List D → List Cell → R D) : List D → List Cell → SR := fun ρ m => (f ρ m).then ρ fun d m => (R.of (bindT (.many is) d ρ) m).then ρ .nx
theorem ps_tupD {es : List Expr} {is : List Nat} {k : Nat} {tpos : Pos} (hK : X.K = c.K) (he : PE X e (tG c (rD c) f)) (hg : PG X (.Tuple es k tpos) (gT X.K (.many is))) (hs : swapsWithSole [.Tuple es k tpos] e pos.line X.env = pure false) (hw : swappedStores [.Tuple es k tpos] e X.env = pure none)
    (h1 : (assignEach [.Tuple es k tpos] X.env).map (·.2) = [assign (.Tuple es k tpos) X.env]) :
    PS X (.Assign [.Tuple es k tpos] e pos) (tS c (sTup is f)) := (ps_asg he hg hs hw h1).imp fun D σ H ⟨ρ, m, z, S, A⟩ => by
  refine ⟨ρ, m, z, S, (SAt.expr A).imp fun v H1 ⟨z1, d, m1, S1, g1, r1, _, A1⟩ => ?_⟩
  rw [hK]
  cases q : bindT (.many is) d ρ with
  | some ρ' =>
    rw [q] at A1
    exact bind_ok S1 r1 q fun σ' S' _ => A1 σ' H1 z1 S' (.refl _ _)
  | none => rw [q] at A1; exact A1.elim
/-- a, b = x, y -/
def sPar (i j : Nat) (f g : List D → List Cell → R D) : List D → List Cell → SR := fun ρ m => (f ρ m).then ρ fun d m => (g ρ m).then ρ fun e m => .nx ((ρ.set i d).set j e) m
theorem ps_parD {i j : Nat} {x y : Str} {px py pt : Pos} {kt k2 : Nat} {pt2 : Pos} (hc : X.calm = true) (hN : X.N.Nodup) (hi : X.N[i]? = some x) (hj : X.N[j]? = some y) (hij : i ≠ j)
    (hx : X.env.scope.names.lookup x = some .local) (hy : X.env.scope.names.lookup y = some .local) (ha : PE X a (tG c (rD c) f)) (hb : PE X b (tG c (rD c) g)) (hsa : starEach (a :: [b]) X.env = (false, eval a X.env) :: starEach [b] X.env) (hsb : starEach (b :: []) X.env = (false, eval b X.env) :: starEach [] X.env)
    (hw : swappedStores [.Tuple [.Name x px, .Name y py] kt pt] (.Tuple [a, b] k2 pt2) X.env = pure (some [x, y]))
    (hs : swapsWithSole [.Tuple [.Name x px, .Name y py] kt pt] (.Tuple [a, b] k2 pt2) pos.line X.env = pure false) :
    PS X (.Assign [.Tuple [.Name x px, .Name y py] kt pt] (.Tuple [a, b] k2 pt2) pos) (tS c (sPar i j f g)) :=
  (ps_par hc hN hi hj hij hx hy (pa_cons ha (pa_cons hb pa_nil hsb) hsa) hw hs).imp fun D σ H ⟨ρ, m, z, S, A⟩ => by
    refine ⟨ρ, m, z, S, (SAt.expr A).imp fun v H1 ⟨z1, d, m1, S1, g1, r1, _, A1⟩ => ⟨ρ, m1, z1, S1, (SAt.expr A1).imp fun w H2 ⟨z2, e, m2, S2, g2, r2, _, A2⟩ => ?_⟩⟩
    exact ⟨v, w, rfl, A2 _ H2 z2 ((S2.set i (Rep.mono g2.toLe _ _ r1)).set j r2) (.refl _ _)⟩
/-- name += e, ints -/
def augD (op : Operator) : D → D → Option D
  | .int i, .int j => match op with | .Add => some (.int (i + j)) | .Sub => some (.int (i - j)) | _ => none
  | _, _ => none
def sAug (op : Operator) (i : Nat) (f : List D → List Cell → R D) : List D → List Cell → SR := fun ρ m => (R.of (gV ρ[i]?) m).then ρ fun d m => (f ρ m).then ρ fun y m => (R.of (augD op d y) m).then ρ fun r m => .nx (ρ.set i r) m
theorem ps_augD {i : Nat} {x : Str} {pos' : Pos} {op : Operator} (hop : op = .Add ∨ op = .Sub) (hN : X.N.Nodup) (hi : X.N[i]? = some x) (hx : Loc X.env.scope x) (he : PE X e (tG c (rD c) f)) (hf : X.fn x = true ∨ X.env.scope.names.lookup x = some .local) :
    PS X (.AugAssign (.Name x pos') op e pos) (tS c (sAug op i f)) := by
  have core : ∀ (o : Operator) (fn : Int → Int → Int), (∀ i j, augD o (.int i) (.int j) = some (.int (fn i j))) → PIp X o (ipI fn) → PS X (.AugAssign (.Name x pos') o e pos) (tS c (sAug o i f)) :=
    fun o fn hfn hip => (ps_aug hN hi hx he hip hf).imp fun D σ H ⟨ρ, m, z, S, A⟩ => by
      unfold sAug at A
      cases q : gV ρ[i]? with
      | some d =>
        obtain ⟨q1, q2⟩ := gV_some q
        obtain ⟨v, h1, h2⟩ := S.sl i d q1 q2
        rw [q] at A
        refine ⟨v, h1, ρ, m, z, S, (SAt.expr (r := f ρ m) A).imp fun w H1 ⟨z1, e, m1, S1, g1, r1, _, A1⟩ => ?_⟩
        cases d with
        | int i0 =>
          cases e with
          | int j0 =>
            rw [hfn] at A1
            obtain rfl : v = .int i0 := h2
            obtain rfl : w = .int j0 := r1
            exact ⟨i0, j0, rfl, rfl, A1 _ H1 z1 (S1.set i rfl) (.refl _ _)⟩
          | _ => exact A1.elim
        | _ => exact A1.elim
      | none => rw [q] at A; exact A.elim
  rcases hop with rfl | rfl
  · exact core .Add _ (fun _ _ => rfl) ip_add
  · exact core .Sub _ (fun _ _ => rfl) ip_sub

/-! ### loops -/
def loopS (t : Tg) (body : List D → List Cell → SR) (kp : Keep) : List D → List D → List Cell → SR
  | [], ρ, m => if cd (kp.ok m) = true then .nx ρ m else .stuck
  | d :: ds, ρ, m => if cd (kp.ok m) = true then (R.of (bindT t d ρ) m).then ρ fun ρ1 m => match body ρ1 m with
    | .nx ρ2 m => loopS t body kp ds ρ2 m
    | .ct ρ2 m => loopS t body kp ds ρ2 m
    | .bk ρ2 m => .nx ρ2 m
    | r => r
    else .stuck
def sFor (src : List D → List Cell → R (List D × Keep)) (t : Tg) (body : List D → List Cell → SR) : List D → List Cell → SR := fun ρ m => (src ρ m).then ρ fun ds m => loopS t body ds.2 ds.1 ρ m
theorem ps_forD {tg iter : Expr} {src : List D → List Cell → R (List D × Keep)} {tt : Tg} (hp : PassesOwn (model X.prog X.w) X.A X.env X.xe) (hc : X.calm = true) (hK : X.K = c.K) (hi : PI X tg iter (tI c src)) (hg : PG X tg (gT X.K tt)) (hb : PSs X body (tS c s))
    (hs : ∀ x, foldedSetIterable iter X.env x = pure x) : PS X (.For tg iter body [] pos) (tS c (sFor src tt s)) := (ps_for hp hc hi hg hb hs).imp fun D σ H ⟨ρ, m, z, S, A⟩ => by
  refine ⟨ρ, m, z, S, ?_⟩
  unfold sFor at A
  generalize src ρ m = r at A ⊢
  cases r with
  | stuck => exact A
  | exc k l m' => exact fun d H' z' S' g x => A d σ H' z' S' g x
  | ok ds m' =>
    obtain ⟨ds, kp⟩ := ds
    intro J H1 z1 S1 g1 wk
    have A : SAt c z H D (loopS tt s kp ds ρ m') := A
    have A := SAt.up g1 A
    dsimp only at wk
    refine ⟨fun i n σ2 H2 => n = ds.length - i ∧ i ≤ ds.length ∧ ∃ ρ2 m2 z2, SS c ρ2 m2 z2 σ2 H2 ∧ Gr z1 H1 z2 H2 ∧ SAt c z2 H2 D (loopS tt s kp (ds.drop i) ρ2 m2), ⟨ds.length, by simp, Nat.zero_le _, ρ, m', z1, S1, .refl _ _, A⟩, ?_⟩
    rintro i n σ2 H2 ⟨rfl, hi, ρ2, m2, z2, S2, g2, A2⟩
    by_cases hlt : i < ds.length
    · obtain ⟨d, hd⟩ : ∃ d, ds[i]? = some d := ⟨ds[i], by simp [hlt]⟩
      have hdr : ds.drop i = d :: ds.drop (i + 1) := by
        rw [List.drop_eq_getElem_cons hlt]
        rw [List.getElem?_eq_getElem hlt] at hd
        rw [Option.some.inj hd]
      rw [hdr] at A2
      unfold loopS at A2
      by_cases hk : cd (kp.ok m2) = true
      · rw [if_pos hk] at A2
        obtain ⟨w1, w2⟩ := wk ρ2 m2 z2 σ2 H2 S2 g2.toLe (cd_iff.mp hk)
        obtain ⟨go, yl⟩ := w2 i d hd
        cases q : bindT tt d ρ2 with
        | none => rw [q] at A2; exact A2.elim
        | some ρ3 =>
          rw [q, R.of_some, R.then_ok] at A2
          refine .inr ⟨go, _, fun σ' H' h' => ⟨ds.length - (i + 1), by omega, rfl, by omega, h'⟩, fun x H3 hy => ?_⟩
          obtain ⟨z3, S3, g3, r3⟩ := yl x H3 hy
          rw [hK]
          refine bind_ok S3 r3 q fun σ4 S4 _ => ⟨ρ3, m2, z3, S4, ?_⟩
          have A3 := SAt.up g3 A2
          generalize s ρ3 m2 = r at A3 ⊢
          cases r with
          | nx ρ5 m5 => exact fun σ' H' z' S' g' => ⟨ρ5, m5, z', S', (g2.trans g3).trans g', SAt.up g' A3⟩
          | ct ρ5 m5 => exact fun σ' H' z' S' g' => ⟨ρ5, m5, z', S', (g2.trans g3).trans g', SAt.up g' A3⟩
          | bk ρ5 m5 => exact A3
          | rt d m5 => exact A3
          | exc k l ρ5 m5 => exact A3
          | stuck => exact A3
      · rw [if_neg hk] at A2; exact A2.elim
    · have e : i = ds.length := by omega
      subst e
      rw [List.drop_length] at A2
      unfold loopS at A2
      by_cases hk : cd (kp.ok m2) = true
      · rw [if_pos hk] at A2
        obtain ⟨w1, w2⟩ := wk ρ2 m2 z2 σ2 H2 S2 g2.toLe (cd_iff.mp hk)
        exact .inl ⟨w1, A2 σ2 H2 z2 S2 (.refl _ _)⟩
      · rw [if_neg hk] at A2; exact A2.elim
def whileS (t : List D → List Cell → R Bool) (body : List D → List Cell → SR) : Nat → List D → List Cell → SR
  | 0, _, _ => .stuck
  | n + 1, ρ, m => (t ρ m).then ρ fun k m => if k = true then (match body ρ m with
    | .nx ρ2 m => whileS t body n ρ2 m
    | .ct ρ2 m => whileS t body n ρ2 m
    | .bk ρ2 m => .nx ρ2 m
    | r => r) else .nx ρ m
theorem ps_whileD {n : Nat} (hp : PassesOwn (model X.prog X.w) X.A X.env X.xe) (hc : PT X e (tG c rB (evT f))) (hb : PSs X body (tS c s)) : PS X (.While e body [] pos) (tS c (whileS (evT f) s n)) := (ps_while hp hc hb).imp fun D σ H ⟨ρ, m, z, S, A⟩ => by
  refine ⟨fun n σ2 H2 => ∃ ρ2 m2 z2, SS c ρ2 m2 z2 σ2 H2 ∧ SAt c z2 H2 D (whileS (evT f) s n ρ2 m2), ⟨n, ρ, m, z, S, A⟩, ?_⟩
  rintro n σ2 H2 ⟨ρ2, m2, z2, S2, A2⟩
  cases n with
  | zero => exact A2.elim
  | succ n =>
    refine ⟨ρ2, m2, z2, S2, (SAt.expr A2).imp fun k H3 ⟨z3, k', m3, S3, g3, r3, _, A3⟩ => ?_⟩
    cases r3
    cases k with
    | false => exact A3 σ2 H3 z3 S3 (.refl _ _)
    | true =>
      simp only [if_true] at A3 ⊢
      refine ⟨_, fun σ' H' h' => ⟨n, Nat.lt_succ_self n, h'⟩, ρ2, m3, z3, S3, ?_⟩
      generalize s ρ2 m3 = r at A3 ⊢
      cases r with
      | nx ρ5 m5 => exact fun σ' H' z' S' g' => ⟨ρ5, m5, z', S', SAt.up g' A3⟩
      | ct ρ5 m5 => exact fun σ' H' z' S' g' => ⟨ρ5, m5, z', S', SAt.up g' A3⟩
      | bk ρ5 m5 => exact A3
      | rt d m5 => exact A3
      | exc k l ρ5 m5 => exact A3
      | stuck => exact A3
end
end GS
end

noncomputable section
namespace GS
open PySem L2
/-! ### what changes -/
def putD (kvs : List (Key × D)) (k : Key) (v : D) : List (Key × D) := if (kvs.any fun kv => decide (kv.1 = k)) = true then kvs.map fun kv => if kv.1 = k then (kv.1, v) else kv else kvs ++ [(k, v)]
def putFD (f : Str) (v : D) : List (Str × D) → List (Str × D)
  | [] => [(f, v)]
  | (g, x) :: r => if g = f then (g, v) :: r else (g, x) :: putFD f v r
section
variable {K : PySem.W.Frag} {C : Nat → Addr} {z : Fz}
theorem RepK.any {k : Key} : ∀ {l : List (Key × D)} {xs : List (Key × V)}, RepK K C z l xs → (l.any fun kv => decide (kv.1 = k)) = (xs.any fun kv => decide (kv.1 = k))
  | [], xs, h => by
    have h : xs = [] := h
    subst h; rfl
  | (j, d) :: l, xs, h => by
    obtain ⟨x, r, rfl, _, h2⟩ := h
    rw [List.any_cons, List.any_cons, RepK.any h2]
theorem RepK.over {k : Key} {d : D} {v : V} (q : Rep K C z d v) : ∀ {l : List (Key × D)} {xs : List (Key × V)}, RepK K C z l xs → RepK K C z (l.map fun kv => if kv.1 = k then (kv.1, d) else kv) (xs.map fun kv => if kv.1 = k then (kv.1, v) else kv)
  | [], xs, h => by
    have h : xs = [] := h
    subst h; rfl
  | (j, e) :: l, xs, h => by
    obtain ⟨x, r, rfl, h1, h2⟩ := h
    rw [List.map_cons, List.map_cons]
    by_cases y : j = k
    · rw [if_pos y, if_pos y]; exact ⟨_, _, rfl, q, RepK.over q h2⟩
    · rw [if_neg y, if_neg y]; exact ⟨_, _, rfl, h1, RepK.over q h2⟩
theorem RepK.snoc {k : Key} {d : D} {v : V} (q : Rep K C z d v) : ∀ {l : List (Key × D)} {xs : List (Key × V)}, RepK K C z l xs → RepK K C z (l ++ [(k, d)]) (xs ++ [(k, v)])
  | [], xs, h => by
    have h : xs = [] := h
    subst h
    exact ⟨v, [], rfl, q, rfl⟩
  | (j, e) :: l, xs, h => by
    obtain ⟨x, r, rfl, h1, h2⟩ := h
    exact ⟨x, _, rfl, h1, RepK.snoc q h2⟩
theorem RepK.put {k : Key} {d : D} {v : V} {l : List (Key × D)} {xs : List (Key × V)} (h : RepK K C z l xs) (q : Rep K C z d v) : RepK K C z (putD l k d) (putK xs k v) := by
  unfold putD putK
  rw [RepK.any h]
  split
  · exact RepK.over q h
  · exact RepK.snoc q h
theorem RepF.put {f : Str} {d : D} {v : V} (q : Rep K C z d v) : ∀ {l : List (Str × D)} {xs : List (Str × V)}, RepF K C z l xs → RepF K C z (putFD f d l) (putF f v xs)
  | [], xs, h => by
    have h : xs = [] := h
    subst h
    exact ⟨v, [], rfl, q, rfl⟩
  | (g, e) :: l, xs, h => by
    obtain ⟨x, r, rfl, h1, h2⟩ := h
    unfold putFD putF
    by_cases y : g = f
    · rw [if_pos y, if_pos y]; exact ⟨v, r, rfl, q, h2⟩
    · rw [if_neg y, if_neg y]; exact ⟨x, _, rfl, h1, RepF.put q h2⟩
theorem keyD_V {d : D} {k : Key} {v : V} (h : keyD d = some k) (r : Rep K C z d v) : v = kV k := by
  cases d with
  | int i => cases h; exact r
  | str s => cases h; exact r
  | _ => cases h
end
/-- a list of the store -/
def lstAt (m : List Cell) : D → Option (Nat × List D)
  | .obj n => match m[n]? with | some (.lst l) => some (n, l) | _ => none
  | _ => none
/-- an instance of the store -/
def insAt (m : List Cell) : D → Option (Nat × Nat × List (Str × D))
  | .obj n => match m[n]? with | some (.ins c l) => some (n, c, l) | _ => none
  | _ => none
/-- o[i] = v: the store behind it -/
def putItem (m : List Cell) : D → D → D → Option (List Cell)
  | .obj n, i, v => match m[n]? with
    | some (.lst l) => (match i with | .int k => (ixN l.length k).map fun j => m.set n (.lst (l.set j v)) | _ => none)
    | some (.dct l) => (keyD i).bind fun k => if cd (l.length < sizeLine) = true then some (m.set n (.dct (putD l k v))) else none
    | _ => none
  | _, _, _ => none
section
variable {c : Ctx} {X : Cx} {o i e a : Expr} {f g h : List D → List Cell → R D} {pos apos cpos : Pos} {m m' : List Cell} {z : Fz} {H : Hp}
theorem lstAt_ok (S : Sto c.K c.C m z H) {d : D} {v : V} {n : Nat} {l : List D} (h : lstAt m d = some (n, l)) (r : c.Rep z d v) : d = .obj n ∧ m[n]? = some (.lst l) ∧ ∃ p xs, v = .ref p ∧ z.A[n]? = some p ∧ H p = some (.lst xs) ∧ c.RepL z l xs := by
  cases d with
  | obj k =>
    have h : (match m[k]? with | some (.lst l) => some (k, l) | _ => none) = some (n, l) := h
    split at h
    · rename_i l' e
      cases h
      obtain ⟨p, rfl, hp⟩ := r
      obtain ⟨xs, e1, e2⟩ := (S.cell n _ p e hp (by simp)).2
      exact ⟨rfl, e, p, xs, rfl, hp, e1, e2⟩
    · cases h
  | _ => cases h
theorem insAt_ok (S : Sto c.K c.C m z H) {d : D} {v : V} {n cl : Nat} {l : List (Str × D)} (h : insAt m d = some (n, cl, l)) (r : c.Rep z d v) : d = .obj n ∧ m[n]? = some (.ins cl l) ∧ ∃ p dx xs, v = .ref p ∧ z.A[n]? = some p ∧ H p = some (.ins (c.C cl) dx xs) ∧ RepF c.K c.C z l xs := by
  cases d with
  | obj k =>
    have h : (match m[k]? with | some (.ins c l) => some (k, c, l) | _ => none) = some (n, cl, l) := h
    split at h
    · rename_i cl' l' e
      cases h
      obtain ⟨p, rfl, hp⟩ := r
      obtain ⟨dx, xs, e1, e2⟩ := (S.cell n _ p e hp (by simp)).2
      exact ⟨rfl, e, p, dx, xs, rfl, hp, e1, e2⟩
    · cases h
  | _ => cases h
/-- by values -/
def rPut (c : Ctx) : TSet := fun o i v H Q => ∃ m m' z d di dv, Sto c.K c.C m z H ∧ c.Rep z d o ∧ c.Rep z di i ∧ c.Rep z dv v ∧ putItem m d di dv = some m' ∧ ∀ H', Sto c.K c.C m' z H' → Gr z H z H' → Q H'
theorem set_item (hu : X.A.units + 70 < cLine) : PSet X (rPut c) := by
  intro pins s σ H o i v ov iv u Q I ro ri rv ⟨m, m', z, d, di, dv, S, hd, hi, hv, hp, q⟩
  unfold putItem at hp
  split at hp
  · rename_i n
    obtain ⟨p, rfl, ha⟩ := hd
    split at hp
    · rename_i l qm
      obtain ⟨xs, e1, e2⟩ := (S.cell n _ p qm ha (by simp)).2
      split at hp
      · obtain ⟨j, hj, rfl⟩ := Option.map_eq_some_iff.mp hp
        obtain rfl : i = .int _ := hi
        obtain ⟨s2, g2⟩ := S.write (c' := .lst (l.set j dv)) (o := .lst (xs.set j v)) qm ha (by simp) ⟨_, upd_same, RepL.set j e2 hv⟩
        exact set_list pins s σ H _ _ v ov iv u Q I ro ri rv ⟨p, xs, _, j, rfl, rfl, e1, by rw [RepL.length e2]; exact hj, q _ s2 g2⟩
      · cases hp
    · rename_i l qm
      obtain ⟨xs, e1, e2⟩ := (S.cell n _ p qm ha (by simp)).2
      obtain ⟨k, hk, hp⟩ := Option.bind_eq_some_iff.mp hp
      obtain ⟨hl, hp⟩ := if_some hp
      cases hp
      have ek := keyD_V hk hi
      obtain ⟨s2, g2⟩ := S.write (c' := .dct (putD l k dv)) (o := .dK (putK xs k v)) qm ha (by simp) ⟨_, upd_same, RepK.put e2 hv⟩
      exact set_dict (by omega) pins s σ H _ _ v ov iv u Q I ro ri rv ⟨p, _, rfl, .inl ⟨xs, k, e1, ek, by rw [RepK.length e2]; exact cd_iff.mp hl, rfl⟩, q _ s2 g2⟩
    · cases hp
  · cases hp
/-- a[i] = e -/
def sPut (fa fi fe : List D → List Cell → R D) : List D → List Cell → SR := fun ρ m => (fe ρ m).then ρ fun v m => (fa ρ m).then ρ fun o m => (fi ρ m).then ρ fun i m => (R.of (putItem m o i v) m).then ρ fun m' _ => .nx ρ m'
theorem ps_putD {p' : Pos} (hu : X.A.units + 70 < cLine) (ha : PE X a (tG c (rD c) f)) (hi : PE X i (tG c (rD c) g)) (he : PE X e (tG c (rD c) h)) (hsw : swapsWithSole [.Subscript a i p'] e pos.line X.env = pure false)
    (hns : ∀ v, assign (.Subscript a i p') X.env v = (do
      let ov ← holding [v] (eval a X.env)
      let iv ← holding [v, ov] (eval i X.env)
      standAt p'
      holding [v, ov, iv] (setItem ov iv v)
      release [v, ov, iv] [])) (hw : swappedStores [.Subscript a i p'] e X.env = pure none) :
    PS X (.Assign [.Subscript a i p'] e pos) (tS c (sPut f g h)) :=
  (ps_asg he (pg_sub ha hi (set_item (c := c) hu) hns) hsw hw).imp fun D σ H ⟨ρ, m, z, S, A⟩ => by
    refine ⟨ρ, m, z, S, (SAt.expr A).imp fun v H1 ⟨z1, dv, m1, S1, g1, r1, _, A1⟩ => ⟨ρ, m1, z1, S1, (SAt.expr A1).imp fun o H2 ⟨z2, d, m2, S2, g2, r2, _, A2⟩ => ⟨ρ, m2, z2, S2, (SAt.expr A2).imp fun iv H3 ⟨z3, di, m3, S3, g3, r3, _, A3⟩ => ?_⟩⟩⟩
    cases q : putItem m3 d di dv with
    | none => rw [q] at A3; exact A3.elim
    | some m' =>
      rw [q] at A3
      exact ⟨m3, m', z3, d, di, dv, S3.st, Rep.mono g3.toLe _ _ r2, r3, Rep.mono (g2.trans g3).toLe _ _ r1, q, fun H' s' g' => A3 σ H' z3 (S3.go g' s') g'⟩
/-- the least key of a dict of the store -/
def dminD (m : List Cell) : D → Option D
  | .obj n => match m[n]? with
    | some (.dct l) => (match keysIOf l with | some (i :: r) => some (.int (r.foldl min i)) | _ => none)
    | _ => none
  | _ => none
def evDmin (fa : List D → List Cell → R D) : List D → List Cell → R D := fun ρ m => (fa ρ m).bind fun x m => R.of (dminD m x) m
theorem pe_dminD {x : Str} {p : Pos} (hc : X.calm = true) (hK : X.K = c.K) (hg : Gl X x) (hm : X.mg x = none) (hv : bootBuiltins x = some (.builtin "min")) (ha : PE X a (tG c (rD c) f)) (hn : x ≠ "__name__") (hdb : (x == ("__debug__" : Str)) = false)
    (he : starEach [a] X.env = (false, eval a X.env) :: starEach [] X.env) : PE X (.Call (.Name x p) [a] [] pos) (tG c (rD c) (evDmin f)) :=
  (pe_callB (cr_minK hc) hg hm hv (pa_cons ha pa_nil he) hn hdb he (by rfl)).imp fun σ H Q ⟨ρ, m, z, S, A⟩ => by
    refine ⟨ρ, m, z, S, A.bind.imp fun v H1 ⟨z1, d, m1, S1, g1, r1, _, A1⟩ => ?_⟩
    obtain ⟨b, eb, A1⟩ := A1.of
    unfold dminD at eb
    split at eb
    · rename_i n _
      obtain ⟨q, rfl, hp⟩ := r1
      split at eb
      · rename_i l qm
        obtain ⟨xs, e1, e2⟩ := (S1.st.cell n _ q qm hp (by simp)).2
        split at eb
        · rename_i i r ek
          cases eb
          refine ⟨q, xs, i :: r, rfl, e1, keysIOf_rep e2 ek, by simp, fun w hw hle => ?_⟩
          rw [min_uniq hw hle]
          exact A1.ret S1 rfl
        · cases eb
      · cases eb
    · cases eb
/-- del o[i]: the store behind it -/
def dropD (kvs : List (Key × D)) (k : Key) : List (Key × D) := kvs.filter fun kv => decide (kv.1 ≠ k)
theorem RepK.drop {K : PySem.W.Frag} {C : Nat → Addr} {k : Key} : ∀ {l : List (Key × D)} {xs : List (Key × V)}, RepK K C z l xs → RepK K C z (dropD l k) (dropK xs k)
  | [], xs, h => by
    have h : xs = [] := h
    subst h; rfl
  | (j, e) :: l, xs, h => by
    obtain ⟨x, r, rfl, h1, h2⟩ := h
    unfold dropD dropK
    rw [List.filter_cons, List.filter_cons]
    by_cases q : decide (j ≠ k) = true
    · rw [if_pos q, if_pos q]
      exact ⟨x, _, rfl, h1, RepK.drop h2⟩
    · rw [if_neg q, if_neg q]
      exact RepK.drop h2
theorem RepK.has {K : PySem.W.Frag} {C : Nat → Addr} {k : Key} {l : List (Key × D)} {xs : List (Key × V)} (h : RepK K C z l xs) (q : (l.any fun kv => decide (kv.1 = k)) = true) : (valV xs k).isSome = true := by
  rw [← valV_any, ← RepK.any h]; exact q
def delItem (m : List Cell) : D → D → Option (List Cell)
  | .obj n, i => match m[n]? with
    | some (.dct l) => (keyD i).bind fun k => if (l.any fun kv => decide (kv.1 = k)) = true then some (m.set n (.dct (dropD l k))) else none
    | _ => none
  | _, _ => none
def sDel (fa fi : List D → List Cell → R D) : List D → List Cell → SR := fun ρ m => (fa ρ m).then ρ fun o m => (fi ρ m).then ρ fun i m => (R.of (delItem m o i) m).then ρ fun m' _ => .nx ρ m'
theorem ps_delD {p' : Pos} (ha : PE X a (tG c (rD c) f)) (hi : PE X i (tG c (rD c) g)) : PS X (.Delete [.Subscript a i p'] pos) (tS c (sDel f g)) :=
  (ps_ddel ha hi).imp fun D σ H ⟨ρ, m, z, S, A⟩ => by
    refine ⟨ρ, m, z, S, (SAt.expr A).imp fun o H1 ⟨z1, d, m1, S1, g1, r1, _, A1⟩ => ⟨ρ, m1, z1, S1, (SAt.expr A1).imp fun iv H2 ⟨z2, di, m2, S2, g2, r2, _, A2⟩ => ?_⟩⟩
    cases q : delItem m2 d di with
    | none => rw [q] at A2; exact A2.elim
    | some m' =>
      rw [q] at A2
      cases d with
      | obj n =>
        obtain ⟨p, rfl, hp⟩ := r1
        have q : (match m2[n]? with | some (.dct l) => (keyD di).bind fun k => if (l.any fun kv => decide (kv.1 = k)) = true then some (m2.set n (.dct (dropD l k))) else none | _ => none) = some m' := q
        split at q
        · rename_i l qm
          have hp2 : z2.A[n]? = some p := by
            obtain ⟨p', e, h⟩ := Rep.mono (K := c.K) (C := c.C) g2.toLe (.obj n) (.ref p) ⟨p, rfl, hp⟩
            cases e; exact h
          obtain ⟨xs, e1, e2⟩ := (S2.st.cell n _ p qm hp2 (by simp)).2
          obtain ⟨k, hk, q⟩ := Option.bind_eq_some_iff.mp q
          by_cases ha : (l.any fun kv => decide (kv.1 = k)) = true
          · rw [if_pos ha] at q
            cases q
            have ek := keyD_V hk r2
            obtain ⟨s3, g3⟩ := S2.st.write (c' := .dct (dropD l k)) (o := .dK (dropK xs k)) qm hp2 (by simp) ⟨_, upd_same, RepK.drop e2⟩
            exact ⟨p, xs, k, rfl, e1, ek, RepK.has e2 ha, A2 σ _ z2 (S2.go g3 s3) g3⟩
          · rw [if_neg ha] at q; cases q
        · cases q
      | _ => cases q
/-- a.append(e) -/
def sApp (fa fe : List D → List Cell → R D) : List D → List Cell → SR := fun ρ m => (fa ρ m).then ρ fun x m => (R.of (lstAt m x) m).then ρ fun _ m => (fe ρ m).then ρ fun y m => (R.of (lstAt m x) m).then ρ fun nl m =>
  if cd (nl.2.length < sizeLine) = true then .nx ρ (m.set nl.1 (.lst (nl.2 ++ [y]))) else .stuck
theorem ps_appD (ha : PE X a (tG c (rD c) f)) (he : PE X e (tG c (rD c) g))
    (hsw : swapsWith (.Call (.Attribute a "append" apos) [e] [] cpos) none pos.line X.env = pure false)
    (hbase : attributeBase a "append" X.env (eval a X.env) = eval a X.env)
    (hfew : ((backTo cpos (starEach [e] X.env)).all (fun x => !x.1) && (backToKw cpos (keywordEach [] X.env)).all (fun x => x.1.isSome)
      && decide ([e].length + ([] : List Keyword).length + (if ([] : List Keyword).isEmpty then 0 else 1) < 30)) = true)
    (hline : (apos.endLine == cpos.line) = true) (hs : starEach [e] X.env = (false, eval e X.env) :: starEach [] X.env) (hplain : (backTo cpos (starEach [] X.env)).any (·.1) = false) :
    PS X (.Expr (.Call (.Attribute a "append" apos) [e] [] cpos) pos) (tS c (sApp f g)) :=
  (ps_expr (pe_bm PySem.F.plainAttrs_list PySem.F.slot_list_append PySem.F.type_list_append mt_append ha (pa_cons he pa_nil hs) hbase hfew hline hs hplain) hsw).imp fun D σ H ⟨ρ, m, z, S, A⟩ => by
    refine ⟨ρ, m, z, S, (SAt.expr A).imp fun x H1 ⟨z1, d, m1, S1, g1, r1, _, A1⟩ => ?_⟩
    cases q : lstAt m1 d with
    | none => rw [q] at A1; exact A1.elim
    | some nl =>
      rw [q] at A1
      obtain ⟨n, l⟩ := nl
      obtain ⟨_, _, p, xs, rfl, hp, e1, e2⟩ := lstAt_ok S1.st q r1
      refine ⟨.inl ⟨rfl, xs, .of e1⟩, ρ, m1, z1, S1, (SAt.expr (r := g ρ m1) A1).imp fun y H2 ⟨z2, dy, m2, S2, g2, r2, _, A2⟩ => ?_⟩
      cases q2 : lstAt m2 d with
      | none => rw [q2] at A2; exact A2.elim
      | some nl =>
        rw [q2] at A2
        obtain ⟨n2, l2⟩ := nl
        obtain ⟨_, k2, p2, xs2, ep, hp2, e3, e4⟩ := lstAt_ok S2.st q2 (Rep.mono g2.toLe _ _ r1)
        cases ep
        have A2 : SAt c z2 H2 D (if cd (l2.length < sizeLine) = true then .nx ρ (m2.set n2 (.lst (l2 ++ [dy]))) else .stuck) := A2
        by_cases hl : cd (l2.length < sizeLine) = true
        · rw [if_pos hl] at A2
          obtain ⟨s3, g3⟩ := S2.st.write (c' := .lst (l2 ++ [dy])) (o := .lst (xs2 ++ [y])) k2 hp2 (by simp) ⟨_, upd_same, RepL.append e4 (RepL.one r2)⟩
          exact ⟨p, xs2, y, rfl, rfl, e3, by rw [RepL.length e4]; exact cd_iff.mp hl, A2 σ _ z2 (S2.go g3 s3) g3⟩
        · rw [if_neg hl] at A2; exact A2.elim
/-- a.pop() -/
def evPop (fa : List D → List Cell → R D) : List D → List Cell → R D := fun ρ m => (fa ρ m).bind fun x m => (R.of (lstAt m x) m).bind fun nl m => (R.of nl.2[nl.2.length - 1]? m).bind fun y m => .ok y (m.set nl.1 (.lst nl.2.dropLast))
theorem RepL.dropLast {K : PySem.W.Frag} {C : Nat → Addr} {ds : List D} {xs : List V} (h : GS.RepL K C z ds xs) : GS.RepL K C z ds.dropLast xs.dropLast := by
  rw [List.dropLast_eq_take, List.dropLast_eq_take, RepL.length h]
  exact RepL.take _ h
theorem pe_popD (ha : PE X a (tG c (rD c) f)) (hbase : attributeBase a "pop" X.env (eval a X.env) = eval a X.env) (hline : (apos.endLine == cpos.line) = true) :
    PE X (.Call (.Attribute a "pop" apos) [] [] cpos) (tG c (rD c) (evPop f)) :=
  (pe_bm0 PySem.F.plainAttrs_list PySem.F.slot_list_pop PySem.F.type_list_pop mt_pop ha hbase hline).imp fun σ H Q ⟨ρ, m, z, S, A⟩ => by
    refine ⟨ρ, m, z, S, A.bind.imp fun x H1 ⟨z1, d, m1, S1, g1, r1, _, A1⟩ => ?_⟩
    cases q : lstAt m1 d with
    | none => rw [q] at A1; exact A1.elim
    | some nl =>
      rw [q] at A1
      obtain ⟨n, l⟩ := nl
      obtain ⟨_, k2, p, xs, rfl, hp, e1, e2⟩ := lstAt_ok S1.st q r1
      have A1 : At c (rD c) ((R.of l[l.length - 1]? m1).bind fun y m => .ok y (m.set n (.lst l.dropLast))) ρ z1 σ H1 Q := A1
      cases q3 : l[l.length - 1]? with
      | none => rw [q3] at A1; exact A1.elim
      | some y =>
        rw [q3] at A1
        obtain ⟨v, e3, e4⟩ := RepL.get' e2 q3
        obtain ⟨s3, g3⟩ := S1.st.write (c' := .lst l.dropLast) (o := .lst xs.dropLast) k2 hp (by simp) ⟨_, upd_same, RepL.dropLast e2⟩
        exact ⟨.inl ⟨rfl, xs, .of e1⟩, p, xs, v, rfl, rfl, e1, by rw [RepL.length e2]; exact e3, A1 v _ z1 (S1.go g3 s3) g3 e4⟩
/-- a.f = e -/
def sFput (fl : Nat → Str → Bool) (fn : Str) (fa fe : List D → List Cell → R D) : List D → List Cell → SR := fun ρ m => (fe ρ m).then ρ fun v m => (fa ρ m).then ρ fun o m => (R.of (insAt m o) m).then ρ fun nc m =>
  if (fl nc.2.1 fn && cd (nc.2.2.length < 1000)) = true then .nx ρ (m.set nc.1 (.ins nc.2.1 (putFD fn v nc.2.2))) else .stuck
theorem ps_fputD {fl : Nat → Str → Bool} {fn : Str} {p' : Pos} (hf : ∀ cl, fl cl fn = true → Cls X.K (c.C cl) ∧ NoAttr X.K (c.C cl) fn) (ha : PE X a (tG c (rD c) f)) (he : PE X e (tG c (rD c) g)) (hs : swapsWith e (some (.Attribute a fn p')) pos.line X.env = pure false) :
    PS X (.Assign [.Attribute a fn p'] e pos) (tS c (sFput fl fn f g)) := (ps_fld ha he hs).imp fun D σ H ⟨ρ, m, z, S, A⟩ => by
  refine ⟨ρ, m, z, S, (SAt.expr A).imp fun v H1 ⟨z1, dv, m1, S1, g1, r1, _, A1⟩ => ⟨ρ, m1, z1, S1, (SAt.expr A1).imp fun o H2 ⟨z2, d, m2, S2, g2, r2, _, A2⟩ => ?_⟩⟩
  cases q : insAt m2 d with
  | none => rw [q] at A2; exact A2.elim
  | some nc =>
    rw [q] at A2
    obtain ⟨n, cl, l⟩ := nc
    obtain ⟨_, k2, p, dx, xs, rfl, hp, e1, e2⟩ := insAt_ok S2.st q r2
    have A2 : SAt c z2 H2 D (if (fl cl fn && cd (l.length < 1000)) = true then .nx ρ (m2.set n (.ins cl (putFD fn dv l))) else .stuck) := A2
    by_cases hl : (fl cl fn && cd (l.length < 1000)) = true
    · rw [if_pos hl] at A2
      obtain ⟨h1, h2⟩ := and2 hl
      obtain ⟨h3, h4⟩ := hf cl h1
      obtain ⟨s3, g3⟩ := S2.st.write (c' := .ins cl (putFD fn dv l)) (o := .ins (c.C cl) dx (putF fn v xs)) k2 hp (by simp) ⟨dx, _, upd_same, RepF.put (Rep.mono g2.toLe _ _ r1) e2⟩
      exact ⟨p, _, dx, xs, rfl, e1, h3, h4, by rw [RepF.length e2]; exact cd_iff.mp h2, A2 σ _ z2 (S2.go g3 s3) g3⟩
    · rw [if_neg hl] at A2; exact A2.elim

/-! ### methods of texts and ints, isinstance -/
def sidxD : D → D → Option D
  | .str a, .str b => match Builtin.Str.occurrences a b 0 a.length 1 with | i :: _ => some (.int (i : Nat)) | [] => none
  | _, _ => none
theorem pe_sidxD (ha : PE X a (tG c (rD c) f)) (hb : PE X e (tG c (rD c) g)) (hs : starEach [e] X.env = (false, eval e X.env) :: starEach [] X.env) (hbase : attributeBase a "index" X.env (eval a X.env) = eval a X.env) (hl : (apos.endLine == cpos.line) = true)
    (hfew : ((backTo cpos (starEach [e] X.env)).all (fun x => !x.1) && (backToKw cpos (keywordEach [] X.env)).all (fun x => x.1.isSome)
      && decide ([e].length + ([] : List Keyword).length + (if ([] : List Keyword).isEmpty then 0 else 1) < 30)) = true) (hplain : (backTo cpos (starEach [] X.env)).any (·.1) = false) :
    PE X (.Call (.Attribute a "index" apos) [e] [] cpos) (tG c (rD c) fun ρ m => (f ρ m).bind fun x m => match x with | .str s => (g ρ m).bind fun y m => R.of (sidxD (.str s) y) m | _ => .stuck) := by
  refine (pe_bm PySem.F.plainAttrs_str PySem.F.slot_str_index PySem.F.type_str_index mt_sindex ha (pa_cons hb pa_nil hs) hbase hfew hl hs hplain).imp fun σ H Q ⟨ρ, m, z, S, A⟩ => ?_
  refine ⟨ρ, m, z, S, (At.bind (rel := rD c) A).imp fun x H1 ⟨z1, d, m1, S1, g1, r1, _, A1⟩ => ?_⟩
  cases d with
  | str s =>
    obtain rfl : x = .str s := r1
    refine ⟨rfl, ρ, m1, z1, S1, (At.bind (rel := rD c) (r := g ρ m1) A1).imp fun y H2 ⟨z2, e, m2, S2, g2, r2, _, A2⟩ => ?_⟩
    cases e with
    | str w =>
      obtain rfl : y = .str w := r2
      unfold sidxD at A2
      dsimp only at A2
      cases q : Builtin.Str.occurrences s w 0 s.length 1 with
      | nil => rw [q] at A2; exact A2.elim
      | cons i rest =>
        rw [q] at A2
        exact ⟨s, w, i, rest, rfl, rfl, q, A2.ret S2 rfl⟩
    | _ => exact A2.elim
  | _ => exact A1.elim
/-- methods of texts with one argument -/
def strsD : D → Option (List Str)
  | .lst l => strsOf l
  | .tup l => strsOf l
  | _ => none
def splitD : D → D → Option D
  | .str a, .str b => if (b.length == 0) = false ∧ a.length + 2 ≤ sizeLine then some (.lst ((Txt.split a b).map D.str)) else none
  | _, _ => none
def joinD : D → D → Option D
  | .str a, d => (strsD d).bind fun ys => if (ys.map (·.length)).sum + ys.length * a.length ≤ 16777216 then some (.str (Txt.join a ys)) else none
  | _, _ => none
def findD : D → D → Option D
  | .str a, .str b => some (.int (Txt.find a b))
  | _, _ => none
def txmD : String → D → D → Option D
  | "split" => splitD | "join" => joinD | "find" => findD
  | _ => fun _ _ => none
def txmNames : List String := ["split", "join", "find"]
def evSm (n : String) (f g : List D → List Cell → R D) : List D → List Cell → R D := fun ρ m => (f ρ m).bind fun x m => match x with | .str s => (g ρ m).bind fun y m => R.of (txmD n (.str s) (res m y)) m | _ => .stuck
theorem strsD_rep {z : Fz} {H : Hp} (le : Same z.F H) {d : D} {v : V} {ys : List Str} (h : RepR c z H d v) (e : strsD d = some ys) : ∃ p, v = .ref p ∧ (SqL c.K H p (ys.map V.str) ∨ SqT c.K H p (ys.map V.str)) := by
  unfold strsD at e
  split at e
  · obtain ⟨a, xs, rfl, h1, h2⟩ := h
    rw [strsOf_rep h2 e] at h1
    exact ⟨a, rfl, .inl (.inl h1)⟩
  · obtain ⟨a, xs, rfl, h1, h2⟩ := h
    rw [strsOf_rep h2 e] at h1
    exact ⟨a, rfl, .inr (same_seqT le h1)⟩
  · cases e
theorem sm_two {n : String} {r : V → List V → Hp → VK → Prop} (hr : ∀ (s : Str) (y : V) (d : D) (b : D) (ρ : List D) (m : List Cell) (z : Fz) (σ : L2.St) (H : Hp) (Q : VK), SS c ρ m z σ H → RepR c z H d y → txmD n (.str s) d = some b → At c (rD c) (.ok b m) ρ z σ H Q → r (.str s) [y] H Q)
    {σ : L2.St} {H : Hp} {Q : VK} {ta te : TE} (ea : ta = tG c (rD c) f) (ee : te = tG c (rD c) g) (A : tG c (rD c) (evSm n f g) σ H Q) : tM1 r ta te σ H Q := by
  subst ea; subst ee
  obtain ⟨ρ, m, z, S, A⟩ := A
  refine ⟨ρ, m, z, S, (At.bind (rel := rD c) A).imp fun x H1 ⟨z1, d, m1, S1, g1, r1, _, A1⟩ => ?_⟩
  cases d with
  | str s =>
    obtain rfl : x = .str s := r1
    refine ⟨⟨s, rfl⟩, ρ, m1, z1, S1, (At.bind (rel := rD c) (r := g ρ m1) A1).imp fun y H2 ⟨z2, e, m2, S2, g2, r2, _, A2⟩ => ?_⟩
    obtain ⟨b, eb, A3⟩ := A2.of
    exact hr s y _ b ρ m2 z2 σ H2 Q S2 (res_ok S2.st r2) eb A3
  | _ => exact A1.elim
theorem pe_txmD {n : String} (hn : txmNames.contains n = true) (ha : PE X a (tG c (rD c) f)) (hb : PE X e (tG c (rD c) g)) (hK : X.K = c.K) (hs : starEach [e] X.env = [(false, eval e X.env)]) (hbase : attributeBase a (Str.ofString n) X.env (eval a X.env) = eval a X.env) (hl : (apos.endLine == cpos.line) = true) :
    PE X (.Call (.Attribute a (Str.ofString n) apos) [e] [] cpos) (tG c (rD c) (evSm n f g)) := by
  have hn2 : n = "split" ∨ n = "join" ∨ n = "find" := by simpa [txmNames] using hn
  rcases hn2 with rfl | rfl | rfl
  · refine (pe_split ha hb hs hbase hl).imp fun σ H Q A => sm_two (fun s y d b ρ m z σ H Q S h eb A => ?_) rfl rfl A
    have eb : splitD (.str s) d = some b := eb
    cases d with
    | str w =>
      obtain ⟨hl, eb⟩ := if_some eb
      cases eb
      obtain rfl : y = .str w := h
      exact ⟨_, _, rfl, rfl, hl.1, hl.2, At.newLst A S (RepL.strs _)⟩
    | _ => cases eb
  · refine (pe_join ha hb hs hbase hl).imp fun σ H Q A => sm_two (fun s y d b ρ m z σ H Q S h eb A => ?_) rfl rfl A
    have eb : joinD (.str s) d = some b := eb
    unfold joinD at eb
    dsimp only at eb
    obtain ⟨ys, e1, eb⟩ := Option.bind_eq_some_iff.mp eb
    obtain ⟨hl, eb⟩ := if_some eb
    cases eb
    obtain ⟨p, rfl, hp⟩ := strsD_rep S.st.le h e1
    exact ⟨s, p, ys, rfl, rfl, by rw [hK]; exact hp, hl, A.ret S rfl⟩
  · refine (pe_m1 PySem.F.slot_str_find PySem.F.type_str_find mt_find ha hb hs hbase hl).imp fun σ H Q A => sm_two (fun s y d b ρ m z σ H Q S h eb A => ?_) rfl rfl A
    have eb : findD (.str s) d = some b := eb
    cases d with
    | str w =>
      have eb : some (D.int (Txt.find s w)) = some b := eb
      cases eb
      obtain rfl : y = .str w := h
      exact ⟨_, _, rfl, rfl, A.ret S rfl⟩
    | _ => cases eb
def bitsD : D → Option D
  | .int i => some (.int (Builtin.Int.intBits i : Nat))
  | _ => none
theorem pe_bitsD (ha : PE X a (tG c (rD c) f)) (hbase : attributeBase a "bit_length" X.env (eval a X.env) = eval a X.env) (hl : (apos.endLine == cpos.line) = true) :
    PE X (.Call (.Attribute a "bit_length" apos) [] [] cpos) (tG c (rD c) (ev1 f bitsD)) :=
  (pe_bits ha hbase hl).imp fun σ H Q A => by
    obtain ⟨ρ, m, z, S, A⟩ := seq1 A
    refine ⟨ρ, m, z, S, A.imp fun x H1 ⟨ρ1, m1, z1, σ1, d, S1, hd, A0⟩ => ?_⟩
    obtain ⟨b, eb, A1⟩ := A0.of
    clear A0
    unfold bitsD at eb
    split at eb
    · cases eb
      obtain rfl : x = .int _ := hd
      exact ⟨_, rfl, A1.ret S1 rfl⟩
    · cases eb
/-- the built-in type of a datum -/
def tyD' : D → Option String
  | .bl _ => some "bool"
  | .int _ => some "int"
  | .str _ => some "str"
  | .non => some "NoneType"
  | .tup _ => some "tuple"
  | .lst _ => some "list"
  | _ => none
def isD (t : String) (d : D) : Option D := (tyD' d).bind fun u => (kitB u t).map .bl
theorem ty_of {ρ : List D} {σ : L2.St} (hK : X.K = c.K) (S : SS c ρ m z σ H) {d : D} {x : V} {u : String} (h : tyD' d = some u) (r : RepR c z H d x) : TyX X.K H x (.type u) := by
  cases d with
  | bl q => obtain rfl : x = .bl q := r; cases h; exact .base (.bl q)
  | int q => obtain rfl : x = .int q := r; cases h; exact .base (.int q)
  | str q => obtain rfl : x = .str q := r; cases h; exact .base (.str q)
  | non => obtain rfl : x = .non := r; cases h; exact .base .non
  | lst l =>
    obtain ⟨a, xs, rfl, q1, q2⟩ := r
    cases h
    rcases q1 with q1 | ⟨o, q1⟩
    · exact .base (.lst q1)
    · exact .base (.frz q1)
  | tup l =>
    obtain ⟨a, xs, rfl, q1, q2⟩ := r
    cases h
    rcases same_seqT S.st.le q1 with (q | ⟨o, q⟩) | ⟨o, its, n, q, q3, _⟩
    · exact .base (.tup q)
    · exact .fTuple q
    · exact .kTuple (by rw [hK]; exact q) q3
  | _ => cases h
end
end GS
end

noncomputable section
namespace GS
open PySem L2
/-! ### dict(..): a new dict -/
def pairsD : List D → Option (List (Key × D))
  | [] => some []
  | .tup [k, d] :: r => (keyD k).bind fun k' => (pairsD r).map ((k', d) :: ·)
  | _ => none
def mergeD (l more : List (Key × D)) : List (Key × D) := more.foldl (fun acc kv => putD acc kv.1 kv.2) l
def dictD : D → Option D
  | .dct kvs => some (.dct kvs)
  | .lst ps => (pairsD ps).map fun kvs => .dct (mergeD [] kvs)
  | _ => none
def dictDs : List D → Option D
  | [d] => dictD d
  | _ => none
section
variable {c : Ctx} {X : Cx}
theorem AtN.bind {α β : Type} {rel : α → β → Fz → Prop} {r : R α} {k : α → List Cell → R D} {ρ : List D} {z : Fz} {σ : L2.St} {H : Hp} {Q : VK} (A : AtN c (r.bind k) ρ z σ H Q) :
    At c rel r ρ z σ H (fun v H1 => ∃ z1 d m1, SS c ρ m1 z1 σ H1 ∧ Gr z H z1 H1 ∧ rel d v z1 ∧ AtN c (k d m1) ρ z1 σ H1 Q) := by
  cases r with
  | stuck => exact A
  | exc _ _ _ => exact A
  | ok d m1 =>
    intro v H1 z1 S1 g1 q1
    refine ⟨z1, d, m1, S1, g1, q1, ?_⟩
    rw [R.bind_ok] at A
    generalize k d m1 = r2 at A
    cases r2 with
    | stuck => exact A
    | exc _ _ _ => exact fun d' H' z' S' g e => A d' H' z' S' (g1.trans g) e
    | ok e m2 =>
      intro p H' z' cell S' g hc hp hf hA hC
      refine A p H' z' cell S' (g1.trans g) hc ?_ hf hA hC
      cases e : H p with
      | none => rfl
      | some o =>
        by_cases q : p ∈ z.A
        · obtain ⟨n, hn⟩ := List.mem_iff_getElem?.mp q
          exact absurd (mem_get (g.a _ _ (g1.a _ _ hn))) hA
        · obtain ⟨o', this⟩ := g1.was e q
          rw [hp] at this; cases this
theorem RepK.merge {z : Fz} : ∀ {more : List (Key × D)} {ys : List (Key × V)} {l : List (Key × D)} {xs : List (Key × V)}, RepK c.K c.C z l xs → RepK c.K c.C z more ys → RepK c.K c.C z (mergeD l more) (mergeK xs ys)
  | [], ys, l, xs, h, g => by
    have g : ys = [] := g
    subst g
    exact h
  | (k, d) :: more, ys, l, xs, h, ⟨x, r, e, h1, h2⟩ => by
    subst e
    exact RepK.merge (more := more) (ys := r) (RepK.put h h1) h2
theorem pairs_rep {z : Fz} : ∀ {ps : List D} {xs : List V} {kvs : List (Key × D)}, c.RepL z ps xs → pairsD ps = some kvs → ∃ (as : List Addr) (vs : List (Key × V)), xs = as.map V.ref ∧ Paired (fun p kv => SqT c.K z.F p [kV kv.1, kv.2]) as vs ∧ RepK c.K c.C z kvs vs
  | [], xs, kvs, h, e => by
    have h : xs = [] := h
    cases e
    exact ⟨[], [], h, .nil, rfl⟩
  | d :: ps, xs, kvs, ⟨x, r, e1, h1, h2⟩, e => by
    unfold pairsD at e
    split at e
    · rename_i heq; cases heq
    · rename_i k d' r' heq
      cases heq
      obtain ⟨k', ek, e⟩ := Option.bind_eq_some_iff.mp e
      obtain ⟨l, e2, rfl⟩ := Option.map_eq_some_iff.mp e
      obtain ⟨as, vs, q1, q2, q3⟩ := pairs_rep h2 e2
      obtain ⟨a, us, rfl, g1, g2⟩ := h1
      obtain ⟨v1, r1, rfl, g3, g4⟩ := g2
      obtain ⟨v2, r2, rfl, g5, g6⟩ := g4
      have g6 : r2 = [] := g6
      subst g6
      have kv := keyD_V ek g3
      subst kv
      exact ⟨a :: as, (k', v2) :: vs, by rw [e1, q1]; rfl, .cons g1 q2, ⟨v2, vs, rfl, g5, q3⟩⟩
    · cases e
def rCN (c : Ctx) (g : List D → Option D) : List V → Hp → VK → Prop := fun xs H Q => ∃ ρ m z σ ds, SS c ρ m z σ H ∧ RepRs c z H ds xs ∧ AtN c (R.of (g ds) m) ρ z σ H Q
theorem AtN.newDct {ρ : List D} {m : List Cell} {z : Fz} {σ : L2.St} {H : Hp} {Q : VK} {kvs : List (Key × D)} {vs : List (Key × V)} (A : AtN c (.ok (.dct kvs) m) ρ z σ H Q) (S : SS c ρ m z σ H) (h : RepK c.K c.C z kvs vs) : ∀ p, H p = none → Q (.ref p) (upd H p (.dK vs)) := fun p hp => by
  obtain ⟨h0, hA⟩ := S.free0 hp
  have hf := S.st.le.free hp
  exact A p _ z _ (S.apart _ hf hA h0 (by rw [hp]; simp)) ((Gr.refl z H).apart _ hp) rfl hp hf hA ⟨vs, upd_same, h⟩
theorem cr_dictN (hc : X.calm = true) (hK : X.K = c.K) : CallR X (.type "dict") (rCN c dictDs) := by
  intro pins s σ' H xs us Q I r ⟨ρ, m, z, σ, ds, S, hd, A⟩
  cases eb : dictDs ds with
  | none => rw [eb] at A; exact A.elim
  | some b =>
    rw [eb] at A
    unfold dictDs at eb
    split at eb
    · obtain ⟨x, rfl, h⟩ := rs1 hd
      unfold dictD at eb
      split at eb
      · cases eb
        obtain ⟨p, kvs, rfl, q1, q2⟩ := h
        exact call_dictD pins s σ' H _ us Q I r ⟨p, kvs, rfl, q1, AtN.newDct A S q2⟩
      · obtain ⟨kvs, e, rfl⟩ := Option.map_eq_some_iff.mp eb
        obtain ⟨p, vs, rfl, q1, q2⟩ := h
        obtain ⟨as, ws, rfl, g1, g2⟩ := pairs_rep q2 e
        have le := S.st.le
        refine call_dictP hc pins s σ' H _ us Q I r ⟨p, as, ws, rfl, .inl q1, ?_, AtN.newDct A S (RepK.merge (l := []) (xs := []) rfl g2)⟩
        rw [hK]
        exact Paired.mapP g1 fun a kv h => same_seqT le h
      · cases eb
    · cases eb
theorem tCBN_of {fs : List D → List Cell → R (List D)} {gg : List D → Option D} {σ : L2.St} {H : Hp} {Q : VK} (h : tN c (evFn fs gg) σ H Q) : tCB (rCN c gg) (tG c (rL c) fs) σ H Q := by
  obtain ⟨ρ, m, z, S, A⟩ := h
  exact ⟨ρ, m, z, S, (AtN.bind (rel := rL c) A).imp fun xs H1 ⟨z1, ds, m1, S1, g1, q1, A1⟩ => ⟨ρ, m1, z1, σ, _, S1, RepRs.of S1.st q1, A1⟩⟩
variable {e : Expr} {es : List Expr} {x : Str} {p pos : Pos} {fs : List D → List Cell → R (List D)}
theorem pe_dictD (hc : X.calm = true) (hK : X.K = c.K) (hg : Gl X x) (hm : X.mg x = none) (hv : bootBuiltins x = some (.type "dict")) (ha : PA X (e :: es) (tG c (rL c) fs)) (hn : x ≠ "__name__") (hdb : (x == ("__debug__" : Str)) = false)
    (he : starEach (e :: es) X.env = (false, eval e X.env) :: starEach es X.env) (hpl : (backTo pos (starEach es X.env)).any (·.1) = false) :
    PE X (.Call (.Name x p) (e :: es) [] pos) (tG c (rD c) (evOwn (evFn fs dictDs))) := (pe_callTy (cr_dictN hc hK) hg hm hv ha hn hdb he hpl).imp fun σ H Q q => tCBN_of (tN_own q)
/-! ### d.get(k) -/
def isDct : D → Bool
  | .dct _ => true
  | _ => false
def dgetD : D → D → Option D
  | .dct l, y => (keyD y).map fun k => (lookK l k).getD .non
  | _, _ => none
def evDget (f g : List D → List Cell → R D) : List D → List Cell → R D := fun ρ m => (f ρ m).bind fun x m => if isDct (res m x) = true then (g ρ m).bind fun y m => R.of (dgetD (res m x) (res m y)) m else .stuck
variable {o : Expr} {apos cpos : Pos} {f g : List D → List Cell → R D}
theorem pe_dgetD (hu : X.A.units + 70 < cLine) (ha : PE X o (tG c (rD c) f)) (he : PE X e (tG c (rD c) g)) (mm : M1 X o "get" apos e cpos) : PE X (.Call (.Attribute o "get" apos) [e] [] cpos) (tG c (rD c) (evDget f g)) := (pe_dget1 (by omega) ha he mm).imp fun σ H Q ⟨ρ, m, z, S, A⟩ => by
  refine ⟨ρ, m, z, S, (At.bind (rel := rD c) A).imp fun x H1 ⟨z1, d, m1, S1, g1, q1, _, A1⟩ => ?_⟩
  have r1 := res_ok S1.st q1
  cases hd : isDct (res m1 d) with
  | false => rw [hd, if_neg (by decide)] at A1; exact A1.elim
  | true =>
    rw [hd, if_pos rfl] at A1
    cases er : res m1 d with
    | dct l =>
      rw [er] at r1
      obtain ⟨p, kvs, rfl, e1, e2⟩ := r1
      refine ⟨p, rfl, .inl ⟨kvs, e1⟩, ρ, m1, z1, S1, (At.bind (rel := rD c) A1).imp fun y H2 ⟨z2, d2, m2, S2, g2, q2, _, A2⟩ => ?_⟩
      have r1' := res_ok S2.st (Rep.mono g2.toLe _ _ q1)
      have r2 := res_ok S2.st q2
      obtain ⟨b, eb, A2⟩ := A2.of
      generalize res m2 d = w at r1' eb
      cases w with
      | dct l2 =>
        obtain ⟨k, ek, rfl⟩ := Option.map_eq_some_iff.mp eb
        obtain ⟨p', kvs2, h, e5, e6⟩ := r1'
        cases h
        have ey := key_v ek r2
        cases lk : lookK l2 k with
        | some w =>
          obtain ⟨w', e7, e8⟩ := (val_look (k := k) e6).1 w lk
          rw [lk] at A2
          exact ⟨some w', .inl ⟨kvs2, k, e5, ey, e7.symm⟩, A2.ret S2 e8⟩
        | none =>
          have e7 := (val_look (k := k) e6).2 lk
          rw [lk] at A2
          exact ⟨none, .inl ⟨kvs2, k, e5, ey, e7.symm⟩, A2.ret S2 rfl⟩
      | _ => cases eb
    | _ => rw [er] at hd; cases hd
end
end GS
end

noncomputable section
namespace GS
open PySem L2
/-! ### a dict of the store that is walked: it stands still meanwhile -/
mutual
def nodct : D → Bool
  | .tup l => nodctL l
  | .lst l => nodctL l
  | .dct _ => false
  | .ins _ _ => false
  | .scr _ => false
  | _ => true
def nodctL : List D → Bool
  | [] => true
  | d :: l => nodct d && nodctL l
end
def nodctK : List (Key × D) → Bool
  | [] => true
  | (_, d) :: l => nodct d && nodctK l
def nodctF : List (Str × D) → Bool
  | [] => true
  | (_, d) :: l => nodct d && nodctF l
def cellNd : Cell → Bool
  | .dead => true
  | .lst l => nodctL l
  | .dct l => nodctK l
  | .ins _ l => nodctF l
def dropF (F : Hp) (p : Addr) : Hp := fun a => if a = p then none else F a
theorem dropF_ne {F : Hp} {p a : Addr} (h : a ≠ p) : dropF F p a = F a := if_neg h
theorem dropF_eq {F : Hp} {p : Addr} : dropF F p p = none := if_pos rfl
section
variable {K : PySem.W.Frag} {C : Nat → Addr} {z : Fz} {p : Addr} {od : Obj} {kvs : List (Key × V)}
mutual
theorem Rep.drop (hp : z.F p = some (.frz od (.dK kvs))) : ∀ (d : D) (v : V), nodct d = true → Rep K C z d v → Rep K C ⟨z.A, dropF z.F p⟩ d v
  | .no, v, _, h => h
  | .non, v, _, h => h
  | .bl b, v, _, h => h
  | .int i, v, _, h => h
  | .str s, v, _, h => h
  | .tup l, v, n, h => by
    obtain ⟨a, xs, rfl, h1, h2⟩ := h
    refine ⟨a, xs, rfl, ?_, RepL.drop1 hp l xs n h2⟩
    rcases h1 with (h | ⟨o, h⟩) | h
    · have ne : a ≠ p := fun e => by rw [e, hp] at h; cases h
      exact .inl (.inl ((dropF_ne ne).trans h))
    · have ne : a ≠ p := fun e => by rw [e, hp] at h; cases h
      exact .inl (.inr ⟨o, (dropF_ne ne).trans h⟩)
    · exact .inr h
  | .lst l, v, n, h => by
    obtain ⟨a, xs, rfl, h1, h2⟩ := h
    refine ⟨a, xs, rfl, ?_, RepL.drop1 hp l xs n h2⟩
    rcases h1 with h | ⟨o, h⟩
    · have ne : a ≠ p := fun e => by rw [e, hp] at h; cases h
      exact .inl ((dropF_ne ne).trans h)
    · have ne : a ≠ p := fun e => by rw [e, hp] at h; cases h
      exact .inr ⟨o, (dropF_ne ne).trans h⟩
  | .dct l, v, n, h => by cases n
  | .ins c fs, v, n, h => by cases n
  | .obj k, v, _, h => h
  | .scr ns, v, n, h => by cases n
  | .exn _ _, v, _, h => h
  | .fn _, v, _, h => h
theorem RepL.drop1 (hp : z.F p = some (.frz od (.dK kvs))) : ∀ (ds : List D) (xs : List V), nodctL ds = true → RepL K C z ds xs → RepL K C ⟨z.A, dropF z.F p⟩ ds xs
  | [], xs, _, h => h
  | d :: ds, xs, n, h => by
    obtain ⟨x, r, rfl, h1, h2⟩ := h
    obtain ⟨n1, n2⟩ := and2 n
    exact ⟨x, r, rfl, Rep.drop hp d x n1 h1, RepL.drop1 hp ds r n2 h2⟩
end
theorem RepK.drop1 (hp : z.F p = some (.frz od (.dK kvs))) : ∀ (ds : List (Key × D)) (xs : List (Key × V)), nodctK ds = true → RepK K C z ds xs → RepK K C ⟨z.A, dropF z.F p⟩ ds xs
  | [], xs, _, h => h
  | (k, d) :: ds, xs, n, h => by
    obtain ⟨x, r, rfl, h1, h2⟩ := h
    obtain ⟨n1, n2⟩ := and2 n
    exact ⟨x, r, rfl, Rep.drop hp d x n1 h1, RepK.drop1 hp ds r n2 h2⟩
theorem repF_drop1 (hp : z.F p = some (HO.frz od (HO.dK kvs))) : ∀ (ds : List (Str × D)) (xs : List (Str × V)), nodctF ds = true → RepF K C z ds xs → RepF K C ⟨z.A, dropF z.F p⟩ ds xs
  | [], xs, _, h => h
  | (k, d) :: ds, xs, n, h => by
    obtain ⟨x, r, rfl, h1, h2⟩ := h
    obtain ⟨n1, n2⟩ := and2 n
    exact ⟨x, r, rfl, Rep.drop hp d x n1 h1, repF_drop1 hp ds r n2 h2⟩
theorem CellAt.drop {H H' : Hp} {a : Addr} (hp : z.F p = some (.frz od (.dK kvs))) (e : H' a = H a) : ∀ {c : Cell}, cellNd c = true → CellAt K C z H a c → CellAt K C ⟨z.A, dropF z.F p⟩ H' a c
  | .dead, _, _ => trivial
  | .lst ds, n, ⟨xs, h1, h2⟩ => ⟨xs, e.trans h1, RepL.drop1 hp _ _ n h2⟩
  | .dct ds, n, ⟨xs, h1, h2⟩ => ⟨xs, e.trans h1, RepK.drop1 hp _ _ n h2⟩
  | .ins c fs, n, ⟨dx, gs, h1, h2⟩ => ⟨dx, gs, e.trans h1, repF_drop1 hp _ _ n h2⟩
end
def lk3 (m m1 : List Cell) : R D → R D
  | .ok d m' => if (nodct d && m.all cellNd && cd (m' = m1)) = true then .ok d m else .stuck
  | _ => .stuck
def lk2 (f : List D → List Cell → R D) (i : Nat) (ρ : List D) (m : List Cell) (n : Nat) : Option Cell → R D
  | some (.dct l) => lk3 m (m.set n .dead) (f (ρ.set i (.dct l)) (m.set n .dead))
  | _ => .stuck
def lk1 (f : List D → List Cell → R D) (i : Nat) (ρ : List D) (m : List Cell) : Option D → R D
  | some (.obj n) => lk2 f i ρ m n m[n]?
  | _ => f ρ m
def evLk (i : Nat) (f : List D → List Cell → R D) : List D → List Cell → R D := fun ρ m => lk1 f i ρ m ρ[i]?
theorem SS.reslot1 {c : Ctx} {ρ : List D} {m : List Cell} {z : Fz} {σ : L2.St} {H : Hp} (S : SS c ρ m z σ H) {i : Nat} {d : D} {v : V} (h : σ[i]? = some (some v)) (r : c.Rep z d v) : SS c (ρ.set i d) m z σ H := by
  refine ⟨S.st, S.gr, by simp [S.len], fun j e hj hn => ?_⟩
  rw [List.getElem?_set] at hj
  by_cases q : i = j
  · subst q
    by_cases hl : i < ρ.length
    · simp [hl] at hj
      subst hj
      exact ⟨v, h, r⟩
    · simp [hl] at hj
  · rw [if_neg q] at hj
    exact S.sl j e hj hn
theorem pe_lkD {c : Ctx} {X : Cx} {i : Nat} {e : Expr} {f : List D → List Cell → R D} (h : PE X e (tG c (rD c) f)) : PE X e (tG c (rD c) (evLk i f)) := by
  refine ⟨fun pins s σ H Q I ⟨ρ, m, z, S, A⟩ => ?_⟩
  have A : At c (rD c) (lk1 f i ρ m ρ[i]?) ρ z σ H Q := A
  cases q : ρ[i]? with
  | none => rw [q] at A; exact h.run pins s σ H Q I ⟨ρ, m, z, S, A⟩
  | some d =>
    rw [q] at A
    cases d with
    | obj n =>
      obtain ⟨v, hv, a, rfl, ha⟩ := S.sl i _ q (by simp)
      have A : At c (rD c) (lk2 f i ρ m n m[n]?) ρ z σ H Q := A
      cases qm : m[n]? with
      | none => rw [qm] at A; exact A.elim
      | some k =>
        rw [qm] at A
        cases k with
        | dct l =>
          obtain ⟨hf, xs, e1, e2⟩ := S.st.cell n _ a qm ha (by simp)
          have A : At c (rD c) (lk3 m (m.set n .dead) (f (ρ.set i (.dct l)) (m.set n .dead))) ρ z σ H Q := A
          refine (pe_lock h).run pins s σ H Q I ⟨a, .dK xs, e1, trivial, fun od => ?_⟩
          obtain ⟨s2, g2⟩ := S.st.freeze (o := .frz od (.dK xs)) qm ha (by simp)
          refine ⟨ρ.set i (.dct l), m.set n .dead, _, (S.go g2 s2).reslot1 (d := .dct l) hv ⟨a, od, xs, rfl, upd_same, RepK.mono g2.toLe _ _ e2⟩, ?_⟩
          generalize f (ρ.set i (.dct l)) (m.set n .dead) = r at A ⊢
          cases r with
          | stuck => exact A.elim
          | exc _ _ _ => exact A.elim
          | ok d m' =>
            unfold lk3 at A
            dsimp only at A
            by_cases hc : (nodct d && m.all cellNd && cd (m' = m.set n .dead)) = true
            · rw [if_pos hc] at A
              obtain ⟨hc1, hm'⟩ := and2 hc
              obtain ⟨hd, hall⟩ := and2 hc1
              have hm' : m' = m.set n .dead := cd_iff.mp hm'
              subst hm'
              intro v H' z' S' g r
              have kF : z'.F a = some (.frz od (.dK xs)) := g.f _ _ upd_same
              have aA : a ∈ z.A := mem_get ha
              refine ⟨S'.st.le _ _ kF, ?_⟩
              have L : Le z ⟨z'.A, dropF z'.F a⟩ := ⟨fun b u e => by
                have ne : b ≠ a := fun q => by rw [q, hf] at e; cases e
                show dropF z'.F a b = some u
                rw [dropF_ne ne]
                exact g.f _ _ ((upd_ne ne).trans e), fun k b e => g.a k b e⟩
              have G : Gr z H ⟨z'.A, dropF z'.F a⟩ (upd H' a (.dK xs)) := { L with
                keep := fun b o e nb t => by
                  have ne : b ≠ a := fun q => nb (q ▸ aA)
                  rw [upd_ne ne]
                  exact g.keep b o ((upd_ne ne).trans e) nb t
                tbk := fun b ps e nb => by
                  have ne : b ≠ a := fun q => nb (q ▸ aA)
                  rw [upd_ne ne]
                  exact g.tbk b ps ((upd_ne ne).trans e) nb
                new := fun b hb => by
                  rcases g.new b hb with q | q
                  · exact .inl q
                  · by_cases ne : b = a
                    · subst ne; rw [upd_same] at q; cases q
                    · rw [upd_ne ne] at q; exact .inr q
                sep := fun b o e f nb => by
                  have ne : b ≠ a := fun q => nb (q ▸ aA)
                  show dropF z'.F a b = none
                  rw [dropF_ne ne]
                  exact g.sep b o ((upd_ne ne).trans e) ((upd_ne ne).trans f) nb }
              have T : Sto c.K c.C m ⟨z'.A, dropF z'.F a⟩ (upd H' a (.dK xs)) := by
                refine ⟨fun b u e => ?_, by have := S'.st.len; simpa using this, S'.st.nd, fun b hb => ?_, fun k c' b h1 h2 h3 => ?_, fun b hb => by
                  obtain ⟨q1, q2, q3⟩ := S'.st.tb b hb
                  have ne : b ≠ a := fun q => by
                    obtain ⟨ps, e1, _⟩ := q1
                    rw [q] at q2
                    have : z'.F a = some _ := kF
                    rw [this] at q2; cases q2
                  exact ⟨q1.upd ne, (dropF_ne ne).trans q2, q3⟩⟩
                · by_cases ne : b = a
                  · subst ne
                    have e : dropF z'.F b b = some u := e
                    rw [dropF_eq] at e; cases e
                  · have e : dropF z'.F a b = some u := e
                    rw [dropF_ne ne] at e
                    rw [upd_ne ne]
                    exact S'.st.le _ _ e
                · by_cases ne : b = a
                  · subst ne; exact ⟨_, upd_same, by intro ps q; cases q⟩
                  · rw [upd_ne ne]; exact S'.st.there b hb
                · by_cases hk : k = n
                  · subst hk
                    rw [qm] at h1
                    cases h1
                    have h2 : z'.A[k]? = some b := h2
                    rw [g.a k a ha] at h2
                    cases h2
                    exact ⟨dropF_eq, xs, upd_same, RepK.mono L _ _ e2⟩
                  · have h2 : z'.A[k]? = some b := h2
                    have ne : b ≠ a := fun q => hk (nd_get S'.st.nd h2 (q ▸ g.a n a ha))
                    obtain ⟨q1, q2⟩ := S'.st.cell k c' b (by rw [List.getElem?_set_ne (Ne.symm hk)]; exact h1) h2 h3
                    have nd' : cellNd c' = true := List.all_eq_true.mp hall c' (List.mem_of_getElem? h1)
                    exact ⟨(dropF_ne ne).trans q1, CellAt.drop kF (upd_ne ne) nd' q2⟩
              exact A v _ _ (S.go G T) G (Rep.drop kF d v hd r)
            · rw [if_neg hc] at A; exact A.elim
        | _ => exact A.elim
    | _ => exact h.run pins s σ H Q I ⟨ρ, m, z, S, A⟩
end GS
end

noncomputable section
namespace GS
open PySem L2
/-! ### new lists that change from now on: [x] * k, s.split(t), list(xs) -/
section
variable {c : Ctx} {X : Cx} {a e b : Expr} {es : List Expr} {f g : List D → List Cell → R D} {fs : List D → List Cell → R (List D)} {pos apos cpos p : Pos} {x : Str}
theorem AtN.newLst {ρ : List D} {m : List Cell} {z : Fz} {σ : L2.St} {H : Hp} {Q : VK} {ds : List D} {vs : List V} (A : AtN c (.ok (.lst ds) m) ρ z σ H Q) (S : SS c ρ m z σ H) (h : RepL c.K c.C z ds vs) : ∀ p, H p = none → Q (.ref p) (upd H p (.lst vs)) := fun p hp => by
  obtain ⟨h0, hA⟩ := S.free0 hp
  have hf := S.st.le.free hp
  exact A p _ z _ (S.apart _ hf hA h0 (by rw [hp]; simp)) ((Gr.refl z H).apart _ hp) rfl hp hf hA ⟨vs, upd_same, h⟩
theorem AtN.of {o : Option D} {m : List Cell} {ρ : List D} {z : Fz} {σ : L2.St} {H : Hp} {Q : VK} (h : AtN c (R.of o m) ρ z σ H Q) : ∃ d, o = some d ∧ AtN c (.ok d m) ρ z σ H Q := by
  cases o with
  | some d => exact ⟨d, rfl, h⟩
  | none => exact h.elim
theorem pe_splitN (ha : PE X a (tG c (rD c) f)) (hb : PE X e (tG c (rD c) g)) (hs : starEach [e] X.env = [(false, eval e X.env)]) (hbase : attributeBase a "split" X.env (eval a X.env) = eval a X.env) (hl : (apos.endLine == cpos.line) = true) :
    PE X (.Call (.Attribute a "split" apos) [e] [] cpos) (tN c (evSm "split" f g)) := by
  refine (pe_split ha hb hs hbase hl).imp fun σ H Q ⟨ρ, m, z, S, A⟩ => ?_
  refine ⟨ρ, m, z, S, (AtN.bind (rel := rD c) A).imp fun x H1 ⟨z1, d, m1, S1, g1, r1, A1⟩ => ?_⟩
  cases d with
  | str s =>
    obtain rfl : x = .str s := r1
    refine ⟨⟨s, rfl⟩, ρ, m1, z1, S1, (AtN.bind (rel := rD c) (r := g ρ m1) A1).imp fun y H2 ⟨z2, d2, m2, S2, g2, r2, A2⟩ => ?_⟩
    obtain ⟨b, eb, A3⟩ := A2.of
    have hr := res_ok S2.st r2
    have eb : splitD (.str s) (res m2 d2) = some b := eb
    generalize res m2 d2 = d3 at *
    cases d3 with
    | str w =>
      obtain ⟨hl, eb⟩ := if_some eb
      cases eb
      obtain rfl : y = .str w := hr
      exact ⟨_, _, rfl, rfl, hl.1, hl.2, AtN.newLst A3 S2 (RepL.strs _)⟩
    | _ => cases eb
  | _ => exact A1.elim
theorem cr_listN (hc : X.calm = true) (hK : X.K = c.K) : CallR X (.type "list") (rCN c listD) := by
  intro pins s σ' H xs us Q I r ⟨ρ, m, z, σ, ds, S, hd, A⟩
  obtain ⟨b, eb, A⟩ := AtN.of A
  unfold listD at eb
  split at eb
  · cases eb
    obtain ⟨x, rfl, h⟩ := rs1 hd
    obtain ⟨p, vs, rfl, q1, q2⟩ := h
    exact call_list_of pins s σ' H _ us Q I r ⟨p, vs, rfl, .inl (.inl q1), AtN.newLst A S q2⟩
  · cases eb
    obtain ⟨x, rfl, h⟩ := rs1 hd
    obtain ⟨p, vs, rfl, q1, q2⟩ := h
    exact call_list_of pins s σ' H _ us Q I r ⟨p, vs, rfl, .inr (by rw [hK]; exact same_seqT S.st.le q1), AtN.newLst A S q2⟩
  · cases eb
    obtain ⟨x, rfl, h⟩ := rs1 hd
    obtain ⟨p, rfl, q1⟩ := h
    exact call_list_of pins s σ' H _ us Q I r ⟨p, _, rfl, .inl (by rw [hK]; exact q1), AtN.newLst A S (RepL.ints.mpr rfl)⟩
  · cases eb
    obtain ⟨x, rfl, h⟩ := rs1 hd
    obtain ⟨p, kvs, rfl, q1, q2⟩ := h
    exact call_listD hc pins s σ' H _ us Q I r ⟨p, kvs, rfl, q1, AtN.newLst A S (rep_keys q2)⟩
  · cases eb
theorem cr_sortedN (hc : X.calm = true) : CallR X (.builtin "sorted") (rCN c sortedD) := by
  intro pins s σ' H xs us Q I r ⟨ρ, m, z, σ, ds, S, hd, A⟩
  obtain ⟨b, eb, A⟩ := AtN.of A
  unfold sortedD at eb
  split at eb
  · obtain ⟨x, rfl, h⟩ := rs1 hd
    obtain ⟨p, vs, rfl, q1, q2⟩ := h
    split at eb
    · rename_i ss e
      obtain ⟨hl, eb⟩ := if_some eb
      cases eb
      have e2 := strsOf_rep q2 e
      subst e2
      refine cr_sortedS pins s σ' H _ us Q I r ⟨p, ss, rfl, .inl q1, hl, fun ys p' pm so hp => ?_⟩
      rw [sortS_eq pm so]
      exact AtN.newLst A S (RepL.strs _) p' hp
    · obtain ⟨ns, e, rfl⟩ := Option.map_eq_some_iff.mp eb
      have e2 := intsOf_rep q2 e
      subst e2
      refine cr_sortedI pins s σ' H _ us Q I r ⟨p, ns, rfl, .inl q1, fun ys p' pm so hp => ?_⟩
      rw [sortI_eq pm so]
      exact AtN.newLst A S (RepL.ints.mpr rfl) p' hp
  · obtain ⟨x, rfl, h⟩ := rs1 hd
    obtain ⟨p, kvs, rfl, q1, q2⟩ := h
    split at eb
    · rename_i ss e
      obtain ⟨hl, eb⟩ := if_some eb
      cases eb
      have e2 := keysOf_rep q2 e
      refine call_sortedD hc pins s σ' H _ us Q I r ⟨p, kvs, ss, rfl, q1, e2, hl, fun ys p' pm so hp => ?_⟩
      rw [sortS_eq pm so]
      exact AtN.newLst A S (RepL.strs _) p' hp
    · split at eb
      · rename_i is e
        obtain ⟨hl, eb⟩ := if_some eb
        cases eb
        have e2 := keysIOf_rep q2 e
        refine call_sortedDI hc pins s σ' H _ us Q I r ⟨p, kvs, is, rfl, q1, e2, hl, fun ys p' pm so hp => ?_⟩
        rw [sortI_eq pm so]
        exact AtN.newLst A S (RepL.ints.mpr rfl) p' hp
      · cases eb
  · cases eb
theorem pe_sortedN (hc : X.calm = true) (hg : Gl X x) (hm : X.mg x = none) (hv : bootBuiltins x = some (.builtin "sorted")) (ha : PA X (e :: es) (tG c (rL c) fs)) (hn : x ≠ "__name__") (hdb : (x == ("__debug__" : Str)) = false)
    (he : starEach (e :: es) X.env = (false, eval e X.env) :: starEach es X.env) (hpl : (backTo pos (starEach es X.env)).any (·.1) = false) :
    PE X (.Call (.Name x p) (e :: es) [] pos) (tN c (evFn fs sortedD)) := (pe_callB (cr_sortedN hc) hg hm hv ha hn hdb he hpl).imp fun σ H Q q => tCBN_of q
/-- list(range(n)) -/
def lrgD : D → Option D
  | .int i => if cd (0 ≤ i ∧ i ≤ 16777216) = true then some (.lst (((List.range i.toNat).map fun j => (0 + ((j : Nat) : Int))).map D.int)) else none
  | _ => none
def evLrg (f : List D → List Cell → R D) : List D → List Cell → R D := fun ρ m => (f ρ m).bind fun x m => R.of (lrgD (res m x)) m
theorem pe_lrgN {p1 : Pos} (hc : X.calm = true) (hg : Gl X "list") (hm : X.mg "list" = none) (hg2 : Gl X "range") (hm2 : X.mg "range" = none) (ha : PE X a (tG c (rD c) f)) (na : starEach [a] X.env = (false, eval a X.env) :: starEach [] X.env) :
    PE X (.Call (.Name "list" p) [.Call (.Name "range" p1) [a] [] cpos] [] pos) (tN c (evLrg f)) :=
  (pe_listRg hc hg hm (prg_1 hg2 hm2 ha na)).imp fun σ H Q ⟨ρ, m, z, S, A⟩ => by
    refine ⟨ρ, m, z, S, (AtN.bind (rel := rD c) A).imp fun x H1 ⟨z1, d, m1, S1, g1, r1, A1⟩ => ?_⟩
    obtain ⟨b, eb, A3⟩ := A1.of
    have hr := res_ok S1.st r1
    generalize res m1 d = d3 at *
    cases d3 with
    | int i =>
      obtain ⟨hl, eb⟩ := if_some eb
      cases eb
      obtain ⟨h0, h1⟩ := cd_iff.mp hl
      obtain rfl : x = .int i := hr
      refine ⟨i, rfl, RgOk.of_le (by omega) h1 (by omega) h0, fun q hq => ?_⟩
      refine AtN.newLst A3 S1 (RepL.ints.mpr ?_) q hq
      show rgV 0 i = _
      unfold rgV
      rw [List.map_map, Int.sub_zero]
      rfl
    | _ => cases eb
theorem pe_listN (hc : X.calm = true) (hK : X.K = c.K) (hg : Gl X x) (hm : X.mg x = none) (hv : bootBuiltins x = some (.type "list")) (ha : PA X (e :: es) (tG c (rL c) fs)) (hn : x ≠ "__name__") (hdb : (x == ("__debug__" : Str)) = false)
    (he : starEach (e :: es) X.env = (false, eval e X.env) :: starEach es X.env) (hpl : (backTo pos (starEach es X.env)).any (·.1) = false) :
    PE X (.Call (.Name x p) (e :: es) [] pos) (tN c (evFn fs listD)) := (pe_callTy (cr_listN hc hK) hg hm hv ha hn hdb he hpl).imp fun σ H Q q => tCBN_of q
def rRepN (c : Ctx) : R2 := fun x y H Q => ∃ ρ m z σ xs e, SS c ρ m z σ H ∧ RepR c z H (.lst xs) x ∧ RepR c z H e y ∧ AtN c (R.of (binD .Mult (.lst xs) e) m) ρ z σ H Q
theorem or_repN : OpR X (binaryOp .Mult) (rRepN c) := by
  intro pins s σ' H x y v u Q I rx ry ⟨ρ, m, z, σ, xs, e, S, hd, he, A⟩
  obtain ⟨b, eb, A⟩ := AtN.of A
  have eb : mulD (.lst xs) e = some b := eb
  cases e with
  | int k =>
    obtain rfl : y = .int _ := he
    obtain ⟨hm, eb⟩ := if_some eb
    obtain ⟨m1, m2, m3⟩ := cd_iff.mp hm
    cases eb
    obtain ⟨a, vs, rfl, q1, q2⟩ := hd
    cases rx
    obtain ⟨t, rfl⟩ := ry
    exact op_repR I q1 (by omega) (by omega) (by rw [RepL.length q2]; exact m3) (AtN.newLst A S (rep_flat _ q2))
  | _ => cases eb
theorem AtN.bindE {α β : Type} {rel : α → β → Fz → Prop} {r : R α} {k : α → List Cell → R D} {ρ : List D} {z : Fz} {σ : L2.St} {H : Hp} {Q : VK} (A : AtN c (r.bind k) ρ z σ H Q) :
    At c rel r ρ z σ H (fun v H1 => ∃ z1 d m1, SS c ρ m1 z1 σ H1 ∧ Gr z H z1 H1 ∧ rel d v z1 ∧ r = .ok d m1 ∧ AtN c (k d m1) ρ z1 σ H1 Q) := by
  cases r with
  | stuck => exact A
  | exc _ _ _ => exact A
  | ok d m1 =>
    intro v H1 z1 S1 g1 q1
    obtain ⟨z2, d2, m2, h⟩ : ∃ (z2 : Fz) (d2 : D) (m2 : List Cell), True := ⟨z1, .no, m1, trivial⟩
    refine ⟨z1, d, m1, S1, g1, q1, rfl, ?_⟩
    rw [R.bind_ok] at A
    generalize k d m1 = r2 at A
    cases r2 with
    | stuck => exact A
    | exc _ _ _ => exact fun d' H' z' S' g e => A d' H' z' S' (g1.trans g) e
    | ok e m2 =>
      intro p H' z' cell S' g hc hp hf hA hC
      refine A p H' z' cell S' (g1.trans g) hc ?_ hf hA hC
      cases e : H p with
      | none => rfl
      | some o =>
        by_cases q : p ∈ z.A
        · obtain ⟨n, hn⟩ := List.mem_iff_getElem?.mp q
          exact absurd (mem_get (g.a _ _ (g1.a _ _ hn))) hA
        · obtain ⟨o', this⟩ := g1.was e q
          rw [hp] at this; cases this
theorem pe_repN {ea : Expr} (ha : PE X ea (tG c (rD c) (evMk fs mkLst))) (hb : PE X b (tG c (rD c) g)) : PE X (.BinOp ea .Mult b pos) (tN c (ev2 (evMk fs mkLst) g (binD .Mult))) := by
  refine (pe_op (or_repN (c := c)) ha hb).imp fun σ H Q ⟨ρ, m, z, S, A⟩ => ?_
  refine ⟨ρ, m, z, S, ?_⟩
  have key : ∀ d m', evMk fs mkLst ρ m = .ok d m' → ∃ xs, d = .lst xs := fun d m' e => by
    unfold evMk at e
    obtain ⟨xs, m2, _, e2⟩ := R.bind_ok_inv e
    cases q : mkLst xs with
    | none => rw [q] at e2; cases e2
    | some y =>
      rw [q] at e2
      cases e2
      unfold mkLst lim at q
      split at q
      · cases q; exact ⟨_, rfl⟩
      · cases q
  refine (AtN.bindE (rel := rD c) A).imp fun x H1 ⟨z1, d, m1, S1, g1, r1, ed, A1⟩ => ?_
  obtain ⟨xs, rfl⟩ := key d m1 ed
  refine ⟨ρ, m1, z1, S1, (AtN.bindE (rel := rD c) (r := g ρ m1) A1).imp fun y H2 ⟨z2, d2, m2, S2, g2, r2, _, A2⟩ => ?_⟩
  exact ⟨ρ, m2, z2, σ, xs, _, S2, RepR.of S2.st.le (Rep.mono g2.toLe _ _ r1), res_ok S2.st r2, A2⟩
def ownF : D → List Cell → R D := fun d m => match toCell d with
  | some cell => .ok (.obj m.length) (m ++ [cell])
  | none => .stuck
theorem at_own {r : R D} {ρ : List D} {m : List Cell} {z : Fz} {σ : L2.St} {H : Hp} {Q : VK} (S : SS c ρ m z σ H) (A : At c (rD c) (r.bind ownF) ρ z σ H Q) : AtN c r ρ z σ H Q := by
  cases r with
  | stuck => exact A
  | exc k fs m => exact A
  | ok d m' =>
    intro p H' z' cell S' g hc hp hf hA hC
    rw [R.bind_ok] at A
    unfold ownF at A
    rw [hc] at A
    have ho := hC.there hc
    have st := S'.st.adopt hf hA ho hC
    have hA' : ∀ (n : Nat) (q : Addr), z'.A[n]? = some q → (z'.A ++ [p])[n]? = some q := fun n q h => by
      rw [List.getElem?_append_left (List.getElem?_eq_some_iff.mp h).1]; exact h
    have L : Le z' ⟨z'.A ++ [p], z'.F⟩ := ⟨.refl _, hA'⟩
    have hnew : ∀ a ∈ z'.A ++ [p], a ∈ z.A ∨ H a = none := fun a h => by
      rcases List.mem_append.mp h with h | h
      · exact g.new a h
      · rw [List.mem_singleton] at h
        subst h
        exact .inr hp
    have g2 : Gr z H ⟨z'.A ++ [p], z'.F⟩ H' := { g.toLe.trans L with keep := g.keep, tbk := g.tbk, new := hnew, sep := g.sep }
    exact A _ H' _ (S.go g2 st) g2 ⟨p, rfl, by rw [← S'.st.len]; simp⟩
def rCatN (c : Ctx) : R2 := fun x y H Q => ∃ ρ m z σ d e, SS c ρ m z σ H ∧ RepR c z H d x ∧ RepR c z H e y ∧ At c (rD c) ((R.of (binD .Add d e) m).bind ownF) ρ z σ H Q
/-- list + list, new, to change -/
theorem or_catN : OpR X (binaryOp .Add) (rCatN c) := by
  intro pins s σ' H x y v u Q I rx ry ⟨ρ, m, z, σ, d, e, S, hd, he, A⟩
  cases qb : binD .Add d e with
  | none => rw [qb] at A; exact A.elim
  | some b =>
    rw [qb] at A
    have eb : addD d e = some b := qb
    unfold addD at eb
    split at eb
    · cases eb; exact A.elim
    · obtain ⟨_, eb⟩ := lim_some eb; cases eb; exact A.elim
    · obtain ⟨_, eb⟩ := lim_some eb; cases eb; exact A.elim
    · obtain ⟨hl, eb⟩ := lim_some eb
      cases eb
      obtain ⟨a, vs, rfl, q1, q2⟩ := hd
      obtain ⟨b, ws, rfl, p1, p2⟩ := he
      cases rx
      cases ry
      exact op_catR I q1 p1 (by rw [RepL.length q2, RepL.length p2]; exact hl) (AtN.newLst (at_own S A) S (q2.append p2))
    · cases eb
theorem pe_catN (ha : PE X a (tG c (rD c) f)) (hb : PE X b (tG c (rD c) g)) : PE X (.BinOp a .Add b pos) (tG c (rD c) (evOwn (ev2 f g (binD .Add)))) := by
  refine (pe_op (or_catN (c := c)) ha hb).imp fun σ H Q ⟨ρ, m, z, S, A⟩ => ?_
  have e0 : evOwn (ev2 f g (binD .Add)) ρ m = (f ρ m).bind fun x m => (g ρ m).bind fun y m => (R.of (binD .Add (res m x) (res m y)) m).bind ownF := by
    unfold evOwn ev2
    cases f ρ m with
    | ok x m1 =>
      rw [R.bind_ok, R.bind_ok]
      cases g ρ m1 <;> rfl
    | _ => rfl
  rw [e0] at A
  refine ⟨ρ, m, z, S, A.bind.imp fun x H1 ⟨z1, d, m1, S1, g1, q1, _, A1⟩ => ⟨ρ, m1, z1, S1, A1.bind.imp fun y H2 ⟨z2, e, m2, S2, g2, q2, _, A2⟩ => ?_⟩⟩
  exact ⟨ρ, m2, z2, σ, _, _, S2, res_ok S2.st (Rep.mono g2.toLe _ _ q1), res_ok S2.st q2, A2⟩
end
end GS
end

noncomputable section
namespace GS
open PySem PySem.Spec PyProof.Rows L2 NdefX
/-- what the written part says of an own exception's __init__ that calls super().__init__ -/
structure XInit (P : Program) (K : PySem.W.Frag) (mg : Str → Option Value) (C f : Addr) (F : NF) (fd : FuncData) (cc : Addr) : Prop where
  T : OexC K C
  fn : ∃ oc od osl, K.lookup f = some ⟨oc, od, .func fd, osl⟩
  fdq : fd.scope = F.scope ∧ fd.globals = mainGlobals ∧ fd.closure = F.cl ∧ fd.qualname = F.qual ∧ fd.code = .ref F.c ∧ fd.builtins = builtinsNs ∧ fd.body = .stmts F.body
  cl : F.cl = [(("__class__" : Str), cc)]
  rec_ : PySem.W.codeIn K (.ref F.c) F.qual = true
  code : ∃ ccl cdd vs ccs file tf, K.lookup F.c = some ⟨ccl, cdd, .fields vs, ccs⟩ ∧ vs[2]? = some (.str file tf) ∧ ((P.main.file : Str) == file) = true
  cell : ∃ c1 c2 c3, K.lookup cc = some ⟨c1, c2, .cell (some (.ref C)), c3⟩
  sub : PySem.W.mroIn K C (.ref C) = some true
  sup : mg "super" = none
  top : (P.main.scope.names.lookup ("super" : Str)).isSome = false
  opq : PySem.W.nsIn K cStatics "thirdparty.any" = some none
  along : PySem.W.ks_superIn K C C "__init__" = some (some (.builtin "ValueError.__init__"))
  ve : PySem.W.subIn K (.ref C) (.type "ValueError") = some true
theorem boot_super : bootBuiltins ("super" : Str) = some (.type "super") := by decide +kernel
section
variable {X : Cx} {P : Program} {C f cc : Addr} {F : NF} {fd : FuncData} {pins : List (Addr × Obj)} {σ : L2.St} {H : Hp} {s : Shared} {a : Addr}
/-- the method-wrapper, called -/
theorem mw_call {u : Addr} {us : List Value} {Q : Value → Shared → Prop} {E : Value → Shared → Prop} {A : Around} (T : OexC X.K C) (I : Inv X pins σ H s) (e : H a = some (exo a C none)) (hu : s.heap.get? u = some (PySem.W.kxs_mw "ValueError.__init__" a)) (hl : us.length ≤ sizeLine) (h : ∀ s', Inv X pins σ H s' → Q .none s') :
    wpAny (model X.prog X.w) A (call (.ref u) us) Q E s := by
  obtain ⟨nm, q, N, bs, bm, sn, sub, ab, col, dd, k0, k1, k2, k3, k5, hC, hbm⟩ := T.cls
  obtain ⟨t1, ho⟩ := exo_at I.hok e
  obtain ⟨hp, g, d, t, os⟩ := s
  refine wpAny_call (codeAny_of_tree ?_)
  show wpAny _ A.in1 (callAny (.ref u) ⟨us, []⟩) _ _ _
  simp only [callAny]
  refine wpAny_bind (wpAny_load hu ?_)
  simp only [PySem.W.kxs_mw, show (Value.type "method-wrapper" == Value.type "method" || Value.type "method-wrapper" == Value.type "builtin_function_or_method" || Value.type "method-wrapper" == Value.type "method-wrapper") = true by decide, if_true]
  refine PySem.W.KFB.if_so (by decide) ?_
  refine wpAny_bind (PySem.W.check_bound_init PySem.F.excBase_ValueError.toExcCallFacts (I.kIn _ _ hC) ho rfl ?_)
  refine wpAny_bind (wpAny_pure (wpAny_pure ?_))
  refine ⟨PySem.plainId_quiet PySem.F.excBase_ValueError.init.plain _, ?_⟩
  refine codeAny_builtin PySem.F.excBase_ValueError.initEntry ?_
  rw [Around.under_plainId PySem.F.excBase_ValueError.init.plain _]
  have fin : ∀ h' t2, (∀ b o, b ≠ a → hp.get? b = some o → h'.get? b = some o) → h'.get? a = some ({ cls := .ref C, dict := none, data := .fields #[.ref t2, .none, .none, .none, .bool false, .none] } : Obj) → Q .none ⟨h', g, d, t, os⟩ := fun h' t2 k hx => by
    have J := I.write (t' := t) (x := a) (e := a) (o := exo a C none) (by rw [e]; exact True.intro) (.inl rfl) k ⟨_, hx⟩ (exo_ok hx)
    have eu : upd H a (exo a C none) = H := by
      funext b
      by_cases hb : b = a
      · rw [hb, upd_same, e]
      · rw [upd_ne hb]
    rw [eu] at J
    exact h _ J
  wp_walk
  refine fin _ hp.objs.size (fun b o hb ho => ?_) ?_
  · rw [Heap.get?_update_other _ _ (Ne.symm hb)]
    exact Heap.get?_push_of_some _ ho
  · rw [Heap.get?_update_self _ (Heap.get?_push_of_some _ ho) rfl]
    rfl
/-- super().__init__("..") as a statement -/
theorem super_stmt {body : List Stmt} {p : Str} {ar : Arg} {msg : Str} {j : Nat} {p0 p1 p3 ap cp p5 : Pos} {Q : Flow → Shared → Prop} (M : XInit X.prog X.K X.mg C f F fd cc)
    (hfunc : X.env.func = some f) (hcode : X.env.code = .ref F.c) (hcells : X.env.cells = F.cl) (hks : X.env.kindOf "super" = some .globalImplicit) (hkc : X.env.kindOf "__class__" = some .free) (hka : X.env.kindOf p = some .local)
    (hp : (fd.params.posonlyargs ++ fd.params.args).head? = some ar) (har : ar.arg = p) (hN : X.N[0]? = some p) (hσ : σ[0]? = some (some (.ref a)))
    (hi : interactive X.env = false) (hsw : swapsWith (.Call (.Attribute (.Call (.Name "super" p0) [] [] p1) "__init__" ap) [.Constant (.str msg) j p3] [] cp) none p5.line X.env = pure false) (hl : (ap.endLine == cp.line) = true)
    (I : Inv X pins σ H s) (e : H a = some (exo a C none)) (h : ∀ s', Inv X pins σ H s' → Q .next s') :
    _root_.PySem.wpAt (model X.prog X.w) X.A (.func body X.env) (exec (.Expr (.Call (.Attribute (.Call (.Name "super" p0) [] [] p1) "__init__" ap) [.Constant (.str msg) j p3] [] cp) p5) X.env) Q X.xe s := by
  obtain ⟨oc, od, osl, lkf⟩ := M.fn
  obtain ⟨ccl, cdd, vs, ccs, file, tf, lkc, hvs, hfile⟩ := M.code
  obtain ⟨c1, c2, c3, lkk⟩ := M.cell
  obtain ⟨nm, q, N, bs, bm, sn, sub, ab, col, dd, k0, k1, k2, k3, k5, hC, hbm⟩ := M.T.cls
  have KX := I.kIn
  have hcl : PySem.W.clsIn X.K C = some { name := nm, bases := bs, mro := .ref C :: bm, ns := N, qualname := q, hasDict := true, slotNames := sn, subclasses := sub, abstract := ab, collection := col, hasDel := false } := by unfold PySem.W.clsIn; rw [hC] <;> rfl
  obtain ⟨t1, ho⟩ := exo_at I.hok e
  refine PySem.ks_wpAt_Expr_any (PySem.ks_wpAt_MethodCall (pl := plainOf (.Call (.Name "super" p0) [] [] p1) X.env) ?_ ?_) hi hsw
  · refine PySem.ks_wpAt_super_base hks hkc (by decide) hfunc (KX _ _ lkf) rfl hp hcode (KX _ _ lkc) rfl hvs hfile M.top ?_
    obtain ⟨mb, b1, b2⟩ := I.mod.blt
    refine PySem.W.ks_loadName_global I.ok.kind hks (Calls.loadGlobal_builtin (by rw [I.ok.glob]; exact I.mod.glob.keeps I.bk) M.sup (by rw [I.ok.blt]; exact b1.keeps I.bk) ((b2 _ (by decide)).trans boot_super) ⟨rfl, ?_⟩)
    refine wpAny_loadName_free I.ok.kind hkc (by rw [hcells, M.cl]; rfl) ⟨_, KX _ _ lkk, rfl⟩ ?_
    obtain ⟨m, hns, hloc⟩ := I.loc
    obtain ⟨u, ru, lk⟩ := hloc 0 p _ hN hσ (.inl hka)
    have hm : m p = some (.ref a) := by
      rcases lk with ⟨_, z⟩ | ⟨z, _⟩
      · obtain rfl : u = .ref a := ru
        exact z
      · rw [hka] at z
        rcases z with z | z <;> cases z
    rw [har]
    refine wpAny_loadName_local I.ok.kind hka hns hm ?_
    obtain ⟨hp', g, d, tk, os⟩ := s
    refine PySem.ks_wpAny_isType_cls (KX _ _ hC) rfl ⟨rfl, ?_⟩
    refine PySem.ks_wpAny_call_super (KX _ _ hC) rfl ho rfl (fun c z => by cases z) (PySem.W.looks_mroIn KX M.sub) (fun h1 e1 kk => ?_)
    have I1 : Inv X pins σ H ⟨h1, g, d, tk, os⟩ := I.kept (t' := tk) kk
    have hne : a ≠ C := fun z => by
      have y := KX _ _ hC
      rw [← z] at y
      rw [ho] at y
      cases y
    have ho1 := kk _ _ ho
    have hI : PySem.W.Looks (model X.prog X.w) h1 (isInstance (.ref a) (.type "ValueError")) true := (PySem.W.InstAt.type (ox := ({ cls := .ref C, dict := none, data := .fields #[.ref t1, .none, .none, .none, .bool false, .none] } : Obj)) (od := none) ⟨ho1, rfl, rfl, trivial⟩).andThen (PySem.W.looks_subIn I1.kIn M.ve)
    have al := M.along
    unfold PySem.W.ks_superIn at al
    rw [hcl, Option.bind_some] at al
    refine PySem.W.kxs_getMethod PySem.W.kxs_ValueError e1 (PySem.W.looks_opaque I1.kIn M.opq) (l₀ := .ref C :: bm) ((PySem.W.looks_clsIn I1.kIn hcl).andThen .now) rfl I1.kIn al hI hne (by decide) ?_
    have hu : (h1.push (PySem.W.kxs_mw "ValueError.__init__" a)).get? h1.objs.size = some (PySem.W.kxs_mw "ValueError.__init__" a) := Heap.get?_push_at rfl rfl
    have I2 : Inv X pins σ H ⟨h1.push (PySem.W.kxs_mw "ValueError.__init__" a), g, d, tk + 1, os⟩ := I1.kept (t' := tk + 1) fun b o z => Heap.get?_push_of_some _ z
    show wpAny _ _ (callWith cp (.ref h1.objs.size) [] (backTo cp (starEach [.Constant (.str msg) j p3] X.env)) []) _ _ _
    have hst : backTo cp (starEach [.Constant (.str msg) j p3] X.env) = [(false, eval (.Constant (.str msg) j p3) X.env)] := rfl
    rw [hst]
    refine PySem.W.kxs_callWith (i := "ValueError.__init__") (x := a) rfl (Calls.evalArgs_plain (Calls.spliced_cons (Calls.Constant_str (Calls.spliced_nil ⟨hu, ?_⟩))))
    exact mw_call M.T (I2.tok _) e hu (by show 1 ≤ sizeLine; rw [sizeLine_eq]; omega) fun s' J => h s' J
  · rw [arm_eval_Call]
    simp only [mcall_line (show methodCallForm (([.Constant (.str msg) j p3] : List Expr).length + ([] : List Keyword).length) (backTo cp (starEach [.Constant (.str msg) j p3] X.env)) (backToKw cp (keywordEach [] X.env)) = true from rfl) hl]
    rfl
end
end GS
end

noncomputable section
namespace GS
open PySem PySem.Spec PyProof.Rows L2 NdefX
/-! ### the fields that an exception's __init__ sets -/
/-- a parameter that is read -/
def okVar (sc : Scope) (x : Str) : Bool := decide (sc.names.lookup x = some .local) && (!(x == ("__debug__" : Str)) && !(x == ("__classdict__" : Str)))
theorem okVar_ok {sc : Scope} {x : Str} (h : okVar sc x = true) : Vis sc x ∧ (x == ("__debug__" : Str)) = false ∧ (x == ("__classdict__" : Str)) = false := by
  obtain ⟨h1, h2⟩ := and2 h
  obtain ⟨h2, h3⟩ := and2 h2
  exact ⟨.inl (of_decide_eq_true h1), by simpa using h2, by simpa using h3⟩
/-- self.f = x -/
def flS (N : List Str) (sc : Scope) (p : Str × Nat) : Stmt → Bool
  | .Assign [.Attribute (.Name s _) f _] (.Name x _) _ => decide (f = p.1) && decide (N[0]? = some s) && okVar sc s && decide (N[p.2]? = some x) && okVar sc x
  | _ => false
def flB (N : List Str) (sc : Scope) : List Stmt → List (Str × Nat) → Bool
  | [], [] => true
  | st :: r, p :: l => flS N sc p st && flB N sc r l
  | _, _ => false
def tFls (K : PySem.W.Frag) : List (Str × Nat) → TS
  | [] => tNext
  | p :: r => tSeq (tOst K p.1 (tVar 0) (tVar p.2)) (tFls K r)
theorem fl_pss {X : Cx} {N : List Str} {sc : Scope} (hN : X.N = N) (hsc : X.env.scope = sc) : ∀ (sts : List Stmt) (l : List (Str × Nat)), flB N sc sts l = true → PSs X sts (tFls X.K l)
  | [], [], _ => pss_nil
  | [], _ :: _, h => by cases h
  | _ :: _, [], h => by cases h
  | st :: r, p :: l, h => by
    obtain ⟨h1, h2⟩ := and2 h
    refine pss_cons ?_ (fl_pss hN hsc r l h2)
    unfold flS at h1
    split at h1
    · rename_i s ps f pf x px pa
      obtain ⟨h1, h5⟩ := and2 h1
      obtain ⟨h1, h4⟩ := and2 h1
      obtain ⟨h1, h3⟩ := and2 h1
      obtain ⟨h1, h2⟩ := and2 h1
      have hf := of_decide_eq_true h1
      subst hf
      refine ps_ost (pe_var (by rw [hN]; exact of_decide_eq_true h2) ?_ ?_ ?_) (pe_var (by rw [hN]; exact of_decide_eq_true h4) ?_ ?_ ?_)
      · rw [hsc]; exact (okVar_ok h3).1
      · exact (okVar_ok h3).2.1
      · exact (okVar_ok h3).2.2
      · rw [hsc]; exact (okVar_ok h5).1
      · exact (okVar_ok h5).2.1
      · exact (okVar_ok h5).2.2
    · cases h1
/-- what holds behind it -/
def Made (a C : Addr) (gs : List (Str × V)) (H H2 : Hp) : Prop := ∃ dx, H dx = none ∧ dx ≠ a ∧ H2 a = some (exo a C (some dx)) ∧ H2 dx = some (exd dx gs) ∧ ∀ b, b ≠ a → b ≠ dx → H2 b = H b
def fsOf (vs : List V) : List (Str × Nat) → List (Str × V) → List (Str × V)
  | [], gs => gs
  | p :: r, gs => fsOf vs r ((match vs[p.2]? with | some v => [(p.1, v)] | _ => []) ++ gs)
theorem fl_more {K : PySem.W.Frag} {a C : Addr} {D : Ends} {σ : L2.St} {vs : List V} (T : OexC K C) (h0 : σ[0]? = some (some (.ref a))) (hv : ∀ (i : Nat) (v : V), vs[i]? = some v → σ[i]? = some (some v)) : ∀ (l : List (Str × Nat)) (H H1 : Hp) (gs : List (Str × V)),
    (∀ p ∈ l, PySem.W.findIn K (.ref C) p.1 = some none ∧ p.2 < vs.length) → gs.length + l.length ≤ 900 → Made a C gs H H1 → (∀ H2, Made a C (fsOf vs l gs) H H2 → D.nx σ H2) → tFls K l D σ H1
  | [], H, H1, gs, _, _, m, q => q H1 m
  | p :: r, H, H1, gs, hl, hn, ⟨dx, m1, m2, m3, m4, m5⟩, q => by
    obtain ⟨n1, n2⟩ := hl p List.mem_cons_self
    have ev : vs[p.2]? = some vs[p.2] := by simp [n2]
    refine ⟨vs[p.2], hv _ _ ev, .ref a, h0, a, C, rfl, T, n1, .inr ⟨dx, gs, m3, m4, by simp at hn; omega, ?_⟩⟩
    refine fl_more T h0 hv r H _ ((p.1, vs[p.2]) :: gs) (fun p' hp' => hl p' (List.mem_cons_of_mem _ hp')) (by simp at hn ⊢; omega) ⟨dx, m1, m2, by rw [upd_ne (Ne.symm m2)]; exact m3, upd_same, fun b hb1 hb2 => by rw [upd_ne hb2]; exact m5 b hb1 hb2⟩ fun H2 m' => q H2 ?_
    unfold fsOf
    rw [ev]
    exact m'
theorem fl_read {K : PySem.W.Frag} {a C : Addr} {D : Ends} {σ : L2.St} {vs : List V} {H : Hp} (T : OexC K C) (h0 : σ[0]? = some (some (.ref a))) (hv : ∀ (i : Nat) (v : V), vs[i]? = some v → σ[i]? = some (some v)) (e : H a = some (exo a C none)) : ∀ (l : List (Str × Nat)), l ≠ [] →
    (∀ p ∈ l, PySem.W.findIn K (.ref C) p.1 = some none ∧ p.2 < vs.length) → l.length ≤ 900 → (∀ H2, Made a C (fsOf vs l []) H H2 → D.nx σ H2) → tFls K l D σ H
  | [], h, _, _, _ => absurd rfl h
  | p :: r, _, hl, hn, q => by
    obtain ⟨n1, n2⟩ := hl p List.mem_cons_self
    have ev : vs[p.2]? = some vs[p.2] := by simp [n2]
    refine ⟨vs[p.2], hv _ _ ev, .ref a, h0, a, C, rfl, T, n1, .inl ⟨e, fun dx d1 d2 => ?_⟩⟩
    refine fl_more T h0 hv r H _ [(p.1, vs[p.2])] (fun p' hp' => hl p' (List.mem_cons_of_mem _ hp')) (by simp at hn ⊢; omega) ⟨dx, d1, d2, upd_same, by rw [upd_ne d2]; exact upd_same, fun b hb1 hb2 => by rw [upd_ne hb1, upd_ne hb2]⟩ fun H2 m' => q H2 ?_
    unfold fsOf
    rw [ev]
    exact m'
/-- what such an __init__ promises -/
def spX (K : PySem.W.Frag) (C : Addr) (n : Nat) (l : List (Str × Nat)) : Sp := fun vs H Q E => ∃ a, vs[0]? = some (.ref a) ∧ vs.length = n ∧ H a = some (exo a C none) ∧ ∀ H2, Made a C (fsOf vs l []) H H2 → Q .non H2
/-- the body: super().__init__("..") ahead of the fields -/
def xbodyB (N : List Str) (sc : Scope) (l : List (Str × Nat)) : List Stmt → Bool
  | .Expr (.Call (.Attribute (.Call (.Name s _) [] [] _) m ap) [.Constant (.str _) _ _] [] cp) _ :: rest => decide (s = ("super" : Str)) && decide (m = ("__init__" : Str)) && (ap.endLine == cp.line) && flB N sc rest l
  | _ => false
theorem startF_get {N : List Str} {vs : List V} {ws : List (Option V)} {i : Nat} {v : V} (h : vs[i]? = some v) : (startF N vs ws)[i]? = some (some v) := by
  unfold startF
  obtain ⟨h1, h2⟩ := List.getElem?_eq_some_iff.mp h
  rw [List.getElem?_append_left (by rw [List.length_map]; exact h1), List.getElem?_map, h]
  rfl
section
variable {P : Program} {w : World} {K : PySem.W.Frag} {mg : Str → Option Value} {base : Heap} {CX : CXT} {k : Nat} {C f cc : Addr} {F : NF} {fd : FuncData} {N ps : List Str} {l : List (Str × Nat)}
theorem xinit_ok (M : XInit P K mg C f F fd cc) (S : NScope N ps ["__class__"] F.scope) (hbind : ∀ ar, (fd.params.posonlyargs ++ fd.params.args).head? = some ar → ∃ p, ar.arg = p ∧ N[0]? = some p ∧ F.scope.names.lookup p = some .local) (har : ((fd.params.posonlyargs ++ fd.params.args).head?).isSome = true)
    (hks : F.scope.names.lookup ("super" : Str) = some .globalImplicit) (hb : xbodyB N F.scope l F.body = true) (hl : l ≠ [] ∧ l.length ≤ 900) (hf : ∀ p ∈ l, PySem.W.findIn K (.ref C) p.1 = some none ∧ p.2 < ps.length) : FnOk P w K mg base CX (k + 1) f fd ps (spX K C ps.length l) := by
  refine ⟨fun vs H Q E h => by obtain ⟨_, _, h, _⟩ := h; exact h, fun A outer s H args us vs Q E hr e0 hbd r hsp => ?_⟩
  obtain ⟨a, h0, hlen, he, hq⟩ := hsp
  obtain ⟨oc, od, osl, lkf⟩ := M.fn
  obtain ⟨q1, q2, q3, q4, q5, q6, q7⟩ := M.fdq
  obtain ⟨c1, c2, c3, lkk⟩ := M.cell
  have KX : K.In s.heap := e0.mod.kin.keeps fun b o e => (e0.bs b o e).1
  have lim : s.heap.NoLimit := e0.mod.nolimit.keeps fun b o e => (e0.bs b o e).1
  have hcc := e0.mod.kin _ _ lkk
  have C0 : CellsAt F.cl ["__class__"] [some (.ref C)] s.heap H := by
    rw [M.cl]
    refine ⟨rfl, fun y c hy => ?_, fun x y c hx hy => ?_, fun i y hy => ?_⟩
    · have e : c = cc := by
        simp only [List.lookup] at hy
        split at hy
        · cases hy; rfl
        · cases hy
      subst e
      exact ⟨(e0.bs _ _ hcc).2, some (.ref C), ⟨_, (e0.bs _ _ hcc).1, rfl⟩⟩
    · simp only [List.lookup] at hx hy
      split at hx <;> split at hy <;> first | (cases hx; done) | (cases hy; done) | skip
      rename_i e1 _ e2
      rw [eq_of_beq e1, eq_of_beq e2]
    · match i, hy with
      | 0, hy =>
        cases hy
        refine ⟨cc, rfl, fun v hv => ?_⟩
        cases hv
        exact ⟨.ref C, rfl, ⟨_, (e0.bs _ _ hcc).1, rfl⟩⟩
      | i + 1, hy => simp at hy
  have hvl : vs.length = ps.length := hlen
  refine ks_codeAny_call_defAt (binds := ps.zip us) (body := F.body) hr.depth (KX _ _ lkf) rfl lim (by rw [q5, q4]; exact PySem.W.codeRec_of KX M.rec_) q7 hbd (by rw [q1]; exact S.nocell) (fun ⟨x, u⟩ hx => by rw [q1]; exact S.par x (List.of_mem_zip hx).1) (fun h₀ hns kp => ?_) (by rw [q1]; exact S.co) (by rw [q1]; exact S.gen) (by rw [q1]; exact S.kind)
  have henv : callEnv fd s.heap.objs.size f = envF F f s.heap.objs.size := by
    unfold callEnv newEnv
    rw [q1, q2, q3, q4, q5, q6]
  rw [henv]
  have I : Inv (ncx CX P w K mg base N F f A outer s H E) [] (startF N vs [some (.ref C)]) H { s with heap := h₀, toks := s.toks + (ps.zip us).length } := inv_startN S hr.hd e0 hvl r C0 hns kp
  obtain ⟨ar, har'⟩ := Option.isSome_iff_exists.mp har
  obtain ⟨p, p1, p2, p3⟩ := hbind ar har'
  have hσ := startF_get (N := N) (ws := [some (.ref C)]) h0
  have fin : ∀ {σ' : L2.St} {H' : Hp} {v : V} {u : Value} {s' : Shared}, Inv (ncx CX P w K mg base N F f A outer s H E) [] σ' H' s' → L2.RelV v u → Q v H' → CE outer P w H s Q u s' :=
    fun {σ' H' v u s'} J rv q => ⟨v, H', J.os, J.bare, J.base, J.hok, rv, q⟩
  have hkc := S.frk "__class__" (by simp)
  generalize hbd' : F.body = bd at hb ⊢
  unfold xbodyB at hb
  split at hb
  · rename_i nm p0' p1' m ap msg j p3' cp p5 rest
    obtain ⟨hb, b4⟩ := and2 hb
    obtain ⟨hb, b3⟩ := and2 hb
    obtain ⟨b1, b2⟩ := and2 hb
    have b1 := of_decide_eq_true b1
    have b2 := of_decide_eq_true b2
    subst b1
    subst b2
    refine ks_wpAt_execs_cons (super_stmt (X := ncx CX P w K mg base N F f A outer s H E) (p := p) (ar := ar) M rfl rfl rfl hks hkc p3 har' p1 p2 hσ I.quiet rfl b3 I he fun s' J => ?_)
    refine wpAt_of_wpAny ?_
    refine wpAny_mono ((fl_pss (X := ncx CX P w K mg base N F f A outer s H E) rfl rfl rest l b4).run [] s' _ H { nx := fun _ H' => Q .non H', rt := Q } J (fl_read M.T hσ (fun i v e => startF_get e) he l hl.1 (fun p' hp' => ⟨(hf p' hp').1, by rw [hvl]; exact (hf p' hp').2⟩) hl.2 fun H2 m2 => hq H2 m2)) (fun fl s'' hs => ?_) fun e s'' hs => hs
    cases fl with
    | ret u =>
      obtain ⟨v, σ', H', J, rv, q⟩ := hs
      exact fin J rv q
    | next =>
      obtain ⟨σ', H', J, q⟩ := hs
      exact fin (v := V.non) (u := Value.none) J rfl q
    | brk =>
      obtain ⟨_, _, _, q⟩ := hs
      exact False.elim q
    | cont =>
      obtain ⟨_, _, _, q⟩ := hs
      exact False.elim q
  · cases hb
end
end GS
end

noncomputable section
namespace GS
open PySem PySem.Spec PyProof.Rows L2 NdefX
/-! ### raise C(..) -/
/-- the fields, by data -/
def fsD (ds : List D) : List (Str × Nat) → List (Str × D) → List (Str × D)
  | [], gs => gs
  | p :: r, gs => fsD ds r ((match ds[p.2 - 1]? with | some v => [(p.1, v)] | _ => []) ++ gs)
theorem fs_rep {K : PySem.W.Frag} {C : Nat → Addr} {z : Fz} {x : V} {ds : List D} {vs : List V} (h : GS.RepL K C z ds vs) : ∀ (l : List (Str × Nat)) (gs : List (Str × D)) (hs : List (Str × V)), (l.all fun p => decide (1 ≤ p.2)) = true → RepF K C z gs hs → RepF K C z (fsD ds l gs) (fsOf (x :: vs) l hs)
  | [], gs, hs, _, r => r
  | (f, i) :: l, gs, hs, hl, r => by
    rw [List.all_cons] at hl
    obtain ⟨h1, h2⟩ := and2 hl
    have h1 : 1 ≤ i := of_decide_eq_true h1
    have e : (x :: vs)[i]? = vs[i - 1]? := by
      obtain ⟨j, rfl⟩ : ∃ j, i = j + 1 := ⟨i - 1, by omega⟩
      simp
    unfold fsD fsOf
    show RepF K C z (fsD ds l ((match ds[i - 1]? with | some v => [(f, v)] | _ => []) ++ gs)) (fsOf (x :: vs) l ((match (x :: vs)[i]? with | some v => [(f, v)] | _ => []) ++ hs))
    rw [e]
    cases q : ds[i - 1]? with
    | none =>
      have : vs[i - 1]? = none := by
        rw [List.getElem?_eq_none_iff] at q ⊢
        rw [RepL.length h]; exact q
      rw [this]
      exact fs_rep h l gs hs h2 r
    | some d =>
      obtain ⟨v, e2, r2⟩ := RepL.get' h q
      rw [e2]
      exact fs_rep h l _ _ h2 ⟨v, hs, rfl, r2, r⟩
/-- what is told of such a class -/
structure XCls (P : Program) (w : World) (K : PySem.W.Frag) (mg : Str → Option Value) (base : Heap) (x : Str) (C : Addr) (l : List (Str × Nat)) (n : Nat) : Prop where
  T : OexC K C
  m : mg x = some (.ref C)
  pos : (l.all fun p => decide (1 ≤ p.2)) = true
  init : (n ≠ 1 ∧ ∃ fI fd ps, PySem.W.findIn K (.ref C) "__init__" = some (some (.ref fI)) ∧ PySem.W.typeIn K (.ref fI) = some (.type "function") ∧ Binds K fd ps [] ∧ FnOk P w K mg base CX0 1 fI fd ps (spX K C n l)) ∨
    (n = 1 ∧ l = [] ∧ PySem.W.excIn K C [.type "ValueError", .type "Exception", .type "BaseException", .type "object"] "ValueError.__new__" = true ∧ PySem.W.keepIn K (.ref C) = true ∧ PySem.W.subIn K (.ref C) (.type "BaseException") = some true ∧ PySem.W.typeIn K (.ref C) = some (.type "type"))
def sRaise (cl : Nat) (l : List (Str × Nat)) (fs : List D → List Cell → R (List D)) : List D → List Cell → SR := fun ρ m => (fs ρ m).then ρ fun ds m => .exc cl (fsD ds l []) ρ m
theorem ps_raiseD {X : Cx} {c : Ctx} {cl n : Nat} {x : Str} {l : List (Str × Nat)} {fs : List D → List Cell → R (List D)} {e : Expr} {es : List Expr} {p pos pos' : Pos} (hK : X.K = c.K) (hc : X.calm = true) (tk : Takes X c.W) (hr : Room 2 X.A) (I : XCls X.prog X.w X.K X.mg X.base x (c.C cl) l n) (hg : Gl X x)
    (ha : PA X (e :: es) (tG c (rL c) fs)) (hn : ∀ ρ m ds m', fs ρ m = .ok ds m' → ds.length + 1 = n) (hn2 : n ≤ 1000) (hn1 : n ≠ 1) (hdb : (x == ("__debug__" : Str)) = false) (he : starEach (e :: es) X.env = (false, eval e X.env) :: starEach es X.env) (hpl : (backTo pos (starEach es X.env)).any (·.1) = false) :
    PS X (.Raise (some (.Call (.Name x p) (e :: es) [] pos)) none pos') (tS c (sRaise cl l fs)) := by
  obtain ⟨_, fI, fd, ps, i1, i2, i3, i4⟩ := I.init.resolve_right (fun z => hn1 z.1)
  refine (ps_raise hc tk (pmk_oex (dvs := []) I.T i1 i2 i4 hr i3 .nil (fun _ _ _ _ _ _ _ h => h.elim) hg I.m ha hdb he hpl)).imp fun D σ H ⟨ρ, m, z, S, A⟩ => ?_
  refine ⟨ρ, m, z, S, (SAt.expr (r := fs ρ m) A).imp fun vs H1 ⟨z1, ds, m1, S1, g1, r1, eq1, A1⟩ => ?_⟩
  have hlen := hn _ _ _ _ eq1
  have hvl := RepL.length r1
  refine ⟨by omega, fun a hna => ⟨a, rfl, by simp; omega, upd_same, fun H2 ⟨dx, m1', m2, m3, m4, m5⟩ => ⟨rfl, dx, _, m3, m4, ?_, ?_⟩⟩⟩
  · rwa [upd_ne m2] at m1'
  · have hdx : H1 dx = none := by rwa [upd_ne m2] at m1'
    have eH : upd (del H2 a) dx (.xd (fsOf (V.ref a :: (vs ++ [])) l [])) = upd H1 dx (.xd (fsOf (V.ref a :: vs) l [])) := by
      funext b
      by_cases h1 : b = dx
      · subst h1; rw [upd_same, upd_same, List.append_nil]
      · rw [upd_ne h1, upd_ne h1]
        by_cases h2 : b = a
        · subst h2; rw [del_same]; exact hna.symm
        · rw [del_ne h2, m5 b h2 h1, upd_ne h2]
    rw [eH]
    obtain ⟨S2, g2⟩ := S1.new (.xd (fsOf (V.ref a :: vs) l [])) hdx
    exact A1 (some dx) _ _ _ S2 g2 (.inr ⟨dx, _, rfl, upd_same, fs_rep (RepL.mono g2.toLe _ _ r1) l [] [] I.pos rfl⟩)
/-- a class without own __init__, made without arguments -/
theorem pmk_own0 {X : Cx} {x : Str} {C : Addr} {p pos : Pos} {B newId initId : String} {bmB : List Value} (F : ExcBaseFacts B newId initId bmB) (q : PySem.W.excIn X.K C bmB newId = true) (gC : X.mg x = some (.ref C)) (kC : PySem.W.keepIn X.K (.ref C) = true) (r : Raises X (.ref C)) (hg : Gl X x)
    (hdb : (x == ("__debug__" : Str)) = false) : PMk X (.Call (.Name x p) [] [] pos) (fun _ H Q => Q (.ref C) none H) := by
  intro pins s σ H Q I h
  refine wpAny_Call_Name_kw (ld_glob I hg gC ?_ hdb)
  refine PySem.W.callWith_K0 I.kIn kC ?_
  show wpAny _ _ (call (.ref C) []) _ _ _
  obtain ⟨bm, N, nm, qn, bs, hdct, sn, sub, ab, col, dd, k0, k1, k2, k3, k5, mN, hC, hN, hni, T⟩ := exc_obj I.kIn q
  refine wpAny_call_exc_subT F T hC hN hni (fun h' e hm => ?_) (by show 0 ≤ sizeLine; decide)
  exact mk_of I hm r h (I.hok.gone hm.new)
theorem ps_raise0 {X : Cx} {c : Ctx} {cl : Nat} {x : Str} {p pos pos' : Pos} {l : List (Str × Nat)} {fs : List D → List Cell → R (List D)} (hK : X.K = c.K) (hc : X.calm = true) (tk : Takes X c.W) (I : XCls X.prog X.w X.K X.mg X.base x (c.C cl) l 1) (hg : Gl X x) (hdb : (x == ("__debug__" : Str)) = false) (hfs : ∀ ρ m, fs ρ m = .ok [] m) :
    PS X (.Raise (some (.Call (.Name x p) [] [] pos)) none pos') (tS c (sRaise cl l fs)) := by
  obtain ⟨_, hl, q, kC, sB, tB⟩ := I.init.resolve_left (fun z => z.1 rfl)
  subst hl
  refine (ps_raise hc tk (pmk_own0 PySem.F.excBase_ValueError q I.m kC (raises_own sB tB) hg hdb)).imp fun D σ H ⟨ρ, m, z, S, A⟩ => ?_
  unfold sRaise at A
  rw [hfs] at A
  exact A none σ H z S (Gr.refl z H) (.inl ⟨rfl, rfl⟩)
end GS
end

noncomputable section
namespace GS
open PySem PySem.Spec PyProof.Rows L2
/-! ### except suites: a return of what the exception tells -/
inductive XR where
  | str (s : Str) | non | bl (b : Bool) | int (i : Int) | fld (f : Str) | isx (c : Nat) | tup (l : List XR)
mutual
def evX (sub : Nat → Nat → Option Bool) (fl : Nat → Str → Bool) (k : Nat) (fs : List (Str × D)) : XR → Option D
  | .str s => some (.str s)
  | .non => some .non
  | .bl b => some (.bl b)
  | .int i => some (.int i)
  | .fld f => if fl k f = true then fs.lookup f else none
  | .isx c => (sub k c).map D.bl
  | .tup l => (evXs sub fl k fs l).bind mkTup
def evXs (sub : Nat → Nat → Option Bool) (fl : Nat → Str → Bool) (k : Nat) (fs : List (Str × D)) : List XR → Option (List D)
  | [] => some []
  | x :: l => (evX sub fl k fs x).bind fun d => (evXs sub fl k fs l).map fun ds => d :: ds
end
/-- what is asked of a caught class -/
structure XSee (K : PySem.W.Frag) (C : Addr) : Prop where
  xf : XfC K C
  cl : (PySem.W.clsIn K C).isSome = true
  ha : PySem.W.findIn K (.ref C) "__class__" = some (some (.builtin "object.__class__"))
  hn : PySem.W.specialIn K (.builtin "object.__class__") "__get__" = some (some (.builtin "getset_descriptor.__get__"))
  ht : PySem.W.takesIn K (.builtin "object.__class__") = some true
  hm : PySem.W.mroIn K C (.type "object") = some true
/-- the reading: the exception at a in slot i -/
def tX (c : Ctx) (k : Nat) (fs : List (Str × D)) (a : Addr) (i : Nat) (d : Option Addr) {α β : Type} (rel : α → β → Fz → Prop) (r : Option α) : L2.St → Hp → (β → Hp → Prop) → Prop := fun σ H Q =>
  ∃ ρ m z, SS c ρ m z σ H ∧ σ[i]? = some (some (.ref a)) ∧ ExcAt c.K c.C z H fs d ∧ (match r with
    | some x => ∀ v H' z', SS c ρ m z' σ H' → Gr z H z' H' → rel x v z' → Q v H'
    | none => False)
theorem ExcAt.mono {K : PySem.W.Frag} {C : Nat → Addr} {z z' : Fz} {H H' : Hp} {fs : List (Str × D)} {d : Option Addr} (le : Le z z') (h : ExcAt K C z H fs d) : ExcAt K C z' H' fs d := by
  rcases h with h | ⟨dd, gs, h1, h2, h3⟩
  · exact .inl h
  · exact .inr ⟨dd, gs, h1, le.f _ _ h2, RepF.mono le _ _ h3⟩
section
variable {c : Ctx} {X : Cx} {k i : Nat} {fs : List (Str × D)} {a : Addr} {d : Option Addr} {oe : Obj} {pn : List (Addr × Obj)}
theorem px_con {e : Expr} {v : V} {x : D} (h : PE (X.suite a ((a, oe) :: pn)) e (tC v)) (r : ∀ z, c.Rep z x v) : PE (X.suite a ((a, oe) :: pn)) e (tX c k fs a i d (rD c) (some x)) := h.imp fun σ H Q ⟨ρ, m, z, S, _, _, q⟩ => q v H z S (.refl _ _) (r z)
theorem px_fld {e n : Str} {p pos : Pos} (hK : X.K = c.K) (T : XfC X.K (c.C k)) (hno : PySem.W.findIn X.K (.ref (c.C k)) n = some none) (hz : Zc (.ref (c.C k)) d oe) (hf : ∃ vs, oe.data = .fields vs) (hN : X.N[i]? = some e) (hv : Vis X.env.scope e)
    (h1 : (e == ("__debug__" : Str)) = false) (h2 : (e == ("__classdict__" : Str)) = false) : PE (X.suite a ((a, oe) :: pn)) (.Attribute (.Name e p) n pos) (tX c k fs a i d (rD c) (fs.lookup n)) :=
  (pe_xf T hno hz hf (pe_var (X := X.suite a ((a, oe) :: pn)) (i := i) hN hv h1 h2)).imp fun σ H Q ⟨ρ, m, z, S, hσ, ha, q⟩ => by
    refine ⟨.ref a, hσ, rfl, rfl, ?_⟩
    cases ql : fs.lookup n with
    | none => rw [ql] at q; exact q.elim
    | some x =>
      rw [ql] at q
      rcases ha with ⟨hf0, _⟩ | ⟨dd, gs, e1, e2, e3⟩
      · rw [hf0] at ql; cases ql
      · obtain ⟨v, r1, r2⟩ := RepF.some e3 ql
        exact ⟨dd, gs, v, e1, S.st.le _ _ e2, r1, q v H z S (.refl _ _) r2⟩
/-- isinstance(e, C) -/
theorem call_isD {D : Addr} (C : XSee X.K D) {Q : VK} {pins : List (Addr × Obj)} {s : Shared} {σ : L2.St} {H : Hp} {cc : Value} {b : Bool} (hz : Zc (.ref D) d oe) (hf : ∃ vs, oe.data = .fields vs) (hd : d = none ∨ ∃ dd gs, d = some dd ∧ H dd = some (.xd gs))
    (I : Inv (X.suite a ((a, oe) :: pn)) pins σ H s) (e : PySem.W.kitOne X.K (.ref D) cc = some b) (q : Q (.bl b) H) : wpAny (model X.prog X.w) (X.A.mark (some (.ref a))) (call (.builtin "isinstance") [.ref a, cc]) (EP (X.suite a ((a, oe) :: pn)) pins σ Q) (fun _ _ => False) s := by
  obtain ⟨hget, _⟩ := I.pin (a, oe) (List.mem_append.mpr (.inl List.mem_cons_self))
  obtain ⟨vs, hv⟩ := hf
  have J : ∃ od, PySem.W.InstAt s.heap a oe D od := by
    rcases hd with rfl | ⟨dd, gs, rfl, ea⟩
    · exact ⟨none, hget, hz.1, by unfold PySem.W.notCls; rw [hv] <;> rfl, by rw [hz.2]; trivial⟩
    · have hx : ObjOk X.prog X.w H s.heap dd (.xd gs) := I.hok dd _ ea
      obtain ⟨mA, hns, hr⟩ := hx
      obtain ⟨od, ho, hl⟩ := lookIn_ns hns
      exact ⟨some od, hget, hz.1, by unfold PySem.W.notCls; rw [hv] <;> rfl, by rw [hz.2]; exact ho⟩
  obtain ⟨od, J⟩ := J
  exact PySem.W.kia_one (PySem.W.kitx_exc C.cl C.xf.ga C.xf.gg C.xf.exC C.ha C.hn C.ht C.hm) I.kIn J e (fun z => nomatch z) fun tk => ⟨.bl b, H, I.kept (t' := tk) fun _ _ z => z, rfl, q⟩
def rIs (K : PySem.W.Frag) (D a : Addr) (d : Option Addr) : List V → Hp → VK → Prop := fun xs H Q => ∃ (cv : V) (cc : Value) (b : Bool), xs = [.ref a, cv] ∧ (∀ u, RelV cv u → u = cc) ∧ PySem.W.kitOne K (.ref D) cc = some b ∧ (d = none ∨ ∃ dd gs, d = some dd ∧ H dd = some (.xd gs)) ∧ Q (.bl b) H
theorem cr_isX {D : Addr} (C : XSee X.K D) (hz : Zc (.ref D) d oe) (hf : ∃ vs, oe.data = .fields vs) : CallR (X.suite a ((a, oe) :: pn)) (.builtin "isinstance") (rIs X.K D a d) := by
  intro pins s σ H xs us Q I r h
  obtain ⟨cv, cc, b, rfl, hcv, e, hd, q⟩ := h
  cases r with
  | cons rx rr =>
    cases rr with
    | cons rt rr =>
      cases rr
      cases rx
      have ec := hcv _ rt
      subst ec
      exact call_isD C hz hf hd I e q
theorem px_isx {x nm : Str} {Dc : Addr} {b : Option Bool} {p p1 p2 pos : Pos} (hK : X.K = c.K) (C : XSee X.K (c.C k)) (hz : Zc (.ref (c.C k)) d oe) (hf : ∃ vs, oe.data = .fields vs) (hN : X.N[i]? = some x) (hv : Vis X.env.scope x)
    (h1 : (x == ("__debug__" : Str)) = false) (h2 : (x == ("__classdict__" : Str)) = false) (hg : Gl X "isinstance") (hm : X.mg "isinstance" = none) (hgn : Gl X nm) (hmn : X.mg nm = some (.ref Dc)) (hdn : (nm == ("__debug__" : Str)) = false)
    (hb : ∀ k', b = some k' → PySem.W.kitOne X.K (.ref (c.C k)) (.ref Dc) = some k') : PE (X.suite a ((a, oe) :: pn)) (.Call (.Name "isinstance" p) [.Name x p1, .Name nm p2] [] pos) (tX c k fs a i d (rD c) (b.map D.bl)) :=
  (pe_callB (X := X.suite a ((a, oe) :: pn)) (cr_isX C hz hf) hg hm (by decide +kernel) (pa_cons (pe_var (X := X.suite a ((a, oe) :: pn)) (i := i) hN hv h1 h2) (pa_cons (pe_glob (X := X.suite a ((a, oe) :: pn)) (v := .ref Dc) hgn hmn rfl hdn) pa_nil)) (by decide) (by decide)).imp fun σ H Q ⟨ρ, m, z, S, hσ, ha, q⟩ => by
    refine ⟨.ref a, hσ, ?_⟩
    cases b with
    | none => exact q.elim
    | some k' =>
      refine ⟨.ref Dc, .ref Dc, k', rfl, fun u r => r, hb k' rfl, ?_, q (.bl k') H z S (.refl _ _) rfl⟩
      rcases ha with ⟨_, h0⟩ | ⟨dd, gs, e1, e2, _⟩
      · exact .inl h0
      · exact .inr ⟨dd, gs, e1, S.st.le _ _ e2⟩
/-! items, tuples -/
theorem pxa_nil : PA (X.suite a ((a, oe) :: pn)) [] (tX c k fs a i d (rL c) (some [])) := pa_nil.imp fun σ H Q ⟨ρ, m, z, S, _, _, q⟩ => q [] H z S (.refl _ _) rfl
theorem pxa_cons {e : Expr} {es : List Expr} {x : Option D} {xs : Option (List D)} (h : PE (X.suite a ((a, oe) :: pn)) e (tX c k fs a i d (rD c) x)) (hs : PA (X.suite a ((a, oe) :: pn)) es (tX c k fs a i d (rL c) xs)) (hst : starEach (e :: es) X.env = (false, eval e X.env) :: starEach es X.env) :
    PA (X.suite a ((a, oe) :: pn)) (e :: es) (tX c k fs a i d (rL c) (x.bind fun y => xs.map fun ys => y :: ys)) := (pa_cons h hs hst).imp fun σ H Q ⟨ρ, m, z, S, hσ, ha, q⟩ => by
  cases x with
  | none => exact q.elim
  | some y =>
    refine ⟨ρ, m, z, S, hσ, ha, fun v H1 z1 S1 g1 r1 => ⟨ρ, m, z1, S1, hσ, ha.mono g1.toLe, ?_⟩⟩
    cases xs with
    | none => exact q.elim
    | some ys => exact fun vs H2 z2 S2 g2 r2 => q (v :: vs) H2 z2 S2 (g1.trans g2) ⟨v, vs, rfl, Rep.mono g2.toLe _ _ r1, r2⟩
theorem px_tup {es : List Expr} {xs : Option (List D)} {x1} {pos : Pos} (hs : PA (X.suite a ((a, oe) :: pn)) es (tX c k fs a i d (rL c) xs)) : PE (X.suite a ((a, oe) :: pn)) (.Tuple es x1 pos) (tX c k fs a i d (rD c) (xs.bind mkTup)) := (pe_tup hs).imp fun σ H Q ⟨ρ, m, z, S, hσ, ha, q⟩ => by
  refine ⟨ρ, m, z, S, hσ, ha, ?_⟩
  cases xs with
  | none => exact q.elim
  | some ys =>
    intro vs H1 z1 S1 g1 r1
    rw [Option.bind_some] at q
    cases e : mkTup ys with
    | none => rw [e] at q; exact q.elim
    | some y =>
      rw [e] at q
      dsimp only at q
      obtain ⟨hl, e⟩ := lim_some e
      cases e
      refine ⟨by rw [RepL.length r1]; exact hl, fun p hp => ?_⟩
      obtain ⟨S2, g2⟩ := S1.new (.tup vs) hp
      exact q _ _ _ S2 (g1.trans g2) ⟨p, vs, rfl, .of upd_same, RepL.mono g2.toLe _ _ r1⟩
end
end GS
end

noncomputable section
namespace GS
open PySem PySem.Spec PyProof.Rows L2
/-! ### generator expressions -/
/-- by this slot a def tells that its code object's table is known -/
def genName : Str := "<g>"
section
variable {X : Cx} {pins : List (Addr × Obj)} {σ : L2.St} {H : Hp} {s : Shared}
/-- a thing to be walked: its iterator -/
def ItSrc (X : Cx) (s : Shared) (P : Addr) (xv : Value) (vs : List V) : Prop :=
  ∀ (Q : Value → Shared → Prop), (∀ (o : Obj) (fpx : List Addr) (Pf : Nat → Value → Prop) (St : Nat → Heap → Prop),
     (∀ A' : Around, A'.handled = none → Walks X.prog X.w A' s.heap.objs.size (s.heap.objs.size :: fpx) [s.heap.objs.size] vs.length Pf St) →
     (∀ b ∈ fpx, b < s.heap.objs.size ∧ b ≠ P) → (∀ i u, Pf i u → ∃ w, vs[i]? = some w ∧ RelV w u) → St 0 (s.heap.push o) →
     Q (.ref s.heap.objs.size) { s with heap := s.heap.push o }) → wpAny (model X.prog X.w) X.A (pyIter xv) Q X.xe s
theorem pf_of {vs : List V} {its : List Value} (r : Vals vs its) : ∀ (i : Nat) (u : Value), its.toArray[i]? = some u → ∃ w, vs[i]? = some w ∧ RelV w u := fun i u h => by
  have h2 : its[i]? = some u := by simpa using h
  have hi : i < its.length := (List.getElem?_eq_some_iff.mp h2).1
  have hl := r.length
  obtain ⟨w, hw⟩ : ∃ w, vs[i]? = some w := ⟨vs[i]'(by omega), List.getElem?_eq_getElem _⟩
  obtain ⟨u', e, q⟩ := r.get hw
  rw [h2] at e
  cases e
  exact ⟨w, hw, q⟩
theorem itsrc_tup {P a : Addr} {xs : List V} {ps : Array Value} (I : L2.Inv X pins σ H s) (hP : s.heap.get? P = some { cls := .none, data := .fields ps }) (h : SqT X.K H a xs) : ItSrc X s P (.ref a) xs := fun Q q => by
  obtain ⟨its, r, ht, hz⟩ := I.tuple h
  have hT : s.heap.IsTuple a its.toArray := ht
  have hlt := IsTup.lt ht
  have hl : its.toArray.size = xs.length := by rw [List.size_toArray]; exact r.length.symm
  refine wpAny_pyIter_tuple hT (q _ [a] (fun i v => its.toArray[i]? = some v) (fun i h => h.IsTupleIter s.heap.objs.size a i ∧ h.IsTuple a its.toArray) (fun A' hA => ?_) (fun b hb => ?_) (pf_of r) ⟨⟨_, Heap.get?_push_size _ rfl, rfl, rfl⟩, IsTup.push ht _⟩)
  · rw [← hl]; exact Walks.tuple hA _ _ (Nat.ne_of_lt hlt) _
  · rw [List.mem_singleton] at hb
    subst hb
    refine ⟨hlt, fun z => ?_⟩
    obtain ⟨o, ho, hc, _⟩ := ht
    rw [z, hP] at ho
    cases ho
    cases hc
theorem itsrc_lst {P a : Addr} {xs : List V} {ps : Array Value} (I : L2.Inv X pins σ H s) (hP : s.heap.get? P = some { cls := .none, data := .fields ps }) (h : SqL X.K H a xs) : ItSrc X s P (.ref a) xs := fun Q q => by
  obtain ⟨its, r, ht, hz⟩ := I.list h
  have hT := ht.isList
  have hlt : a < s.heap.objs.size := by
    obtain ⟨_, e, _⟩ := _root_.id hT
    exact Heap.lt_size e
  have hl : its.toArray.size = xs.length := by rw [List.size_toArray]; exact r.length.symm
  have hne : a ≠ P := fun z => by
    obtain ⟨o, ho, hc, _⟩ := _root_.id hT
    rw [z, hP] at ho
    cases ho
    cases hc
  refine wpAny_pyIter_list hT (q _ [a] (fun i v => its.toArray[i]? = some v) (fun i h => h.IsListIter s.heap.objs.size a i ∧ h.IsList a its.toArray) (fun A' hA => ?_) (fun b hb => ?_) (pf_of r) ⟨⟨_, Heap.get?_push_size _ rfl, rfl, rfl⟩, ?_⟩)
  · rw [← hl]; exact Walks.list hA _ _ (Nat.ne_of_lt hlt) _
  · rw [List.mem_singleton] at hb
    subst hb
    exact ⟨hlt, hne⟩
  · obtain ⟨o, ho, r⟩ := _root_.id hT
    exact ⟨o, Heap.get?_push_of_some _ ho, r⟩
theorem itsrc_str {P : Addr} {a : Str} {t : Tok} : ItSrc X s P (.str a t) (a.cps.toList.map fun c => V.str ⟨#[c]⟩) := fun Q q => by
  refine wpAny_pyIter_str fun o St W hst => q o [] (SignAt a) St (fun A' hA => ?_) (fun b hb => by cases hb) (fun i u h => ?_) hst
  · have : (a.cps.toList.map fun c => V.str ⟨#[c]⟩).length = a.cps.size := by simp
    rw [this]; exact W A' hA
  · obtain ⟨c, t', hc, rfl⟩ := h
    exact ⟨.str ⟨#[c]⟩, by rw [List.getElem?_map, Array.getElem?_toList, hc]; rfl, t', rfl⟩
/-- the test of each thing comes to bs -/
def ElG (X : Cx) (s1 : Shared) (P : Addr) (scope : Scope) (x : Str) (elt : Expr) (vs : List V) (bs : List Bool) : Prop :=
  ∀ (i : Nat) (w : V) (u : Value), vs[i]? = some w → RelV w u → ∀ (cenv : Env) (A' : Around) (E' : Value → Shared → Prop) (s₂ : Shared) (m₂ : Str → Option Value), cenv.scope = scope → cenv.cells = cloFrom X.env.cells scope.names [] → cenv.globals = X.env.globals →
    s₂.heap.Ns cenv.locals m₂ → m₂ x = some u → (∀ b o, b ≠ P → s1.heap.get? b = some o → s₂.heap.get? b = some o) →
    wpAny (model X.prog X.w) A' (eval elt cenv) (fun y s₃ => (∃ b, bs[i]? = some b ∧ y = .bool b) ∧ Keeps s₂ s₃) E' s₂
/-- ready to be walked -/
def ReadyG (X : Cx) (pins : List (Addr × Obj)) (σ : L2.St) (H1 : Hp) (P : Addr) (bs : List Bool) (g : Addr) (s5 : Shared) : Prop :=
  ∃ (fp wr : List Addr) (G : Array GenState → Array GenState → Prop) (F : Nat → Value → Prop) (St : Nat → Shared → Prop),
    WalksS X.prog X.w X.A.in1 g fp wr G bs.length F St ∧ St 0 s5 ∧ TruthOf X.prog X.w X.A.in1 F (fun j => bs.getD j false) ∧
    ∀ s', Moved wr G s5 s' → ∃ H2, GxR.Tabbed P H1 H2 ∧ L2.Inv X pins σ H2 s'
theorem gen_core {c P : Addr} {elt iter : Expr} {x : Str} {px gpos : Pos} {scope : Scope} {te : TE} {k : Nat} {Q' : Value → Shared → Prop} {R : List Bool → Hp → Prop}
    (hr : Room k X.A) (TB : GxR.TabB X.base X.mg c P) (hcode : X.env.code = .ref c) (S : GxR.GenS X.env scope x) (hi : PE X iter te)
    (hs : ∀ v, genFold iter X.env v = pure v) (I : L2.Inv X pins σ H s)
    (h : te σ H fun v H1 => GxR.TabG H1 P ∧ ∀ s1 u, L2.Inv X pins σ H1 s1 → RelV v u → ∀ ps, s1.heap.get? P = some { cls := .none, data := .fields ps } → ∃ vs bs, vs.length = bs.length ∧ ItSrc X s1 P u vs ∧ ElG X s1 P scope x elt vs bs ∧ R bs H1)
    (hQ : ∀ bs H1 g s5, R bs H1 → ReadyG X pins σ H1 P bs g s5 → Q' (.ref g) s5) :
    wpAny (model X.prog X.w) X.A (eval (.GeneratorExp elt [⟨.Name x px, iter, [], 0⟩] scope gpos) X.env) Q' X.xe s := by
  refine wpAny_GeneratorExp_walksQ hr.hd S.co (closure_ok S.free) S.cell S.dot S.loc S.kind (by have := hr.dp; omega) ?_ hs
  refine thn (hi.run pins s σ H _ I h) fun xv s1 ⟨v, H1, I1, r1, q1⟩ => ?_
  obtain ⟨⟨ps, hP, ht⟩, q1⟩ := q1
  have hPs : s1.heap.get? P = some { cls := .none, data := .fields ps } := I1.hok P _ hP
  obtain ⟨vs, bs, hlen, hsrc, hel, q1⟩ := q1 s1 xv I1 r1 ps hPs
  refine hsrc _ fun o fpx Pf St W hfpx hPf hst => ?_
  have hPlt : P < s1.heap.objs.size := Heap.lt_size hPs
  have hP2 : (s1.heap.push o).get? P = some { cls := .none, data := .fields ps } := Heap.get?_push_of_some _ hPs
  have cd : PySem.W.CodeHd (s1.heap.push o) c P := TB.code.keeps fun b u e => Heap.get?_push_of_some _ (I1.bk b u e)
  have lim2 : (s1.heap.push o).NoLimit := I1.nolimit.push o
  have cont : ∀ (code : Value) (h3 : Heap) (tk : Nat) (ps' : Array Value), Heap.ExtBut P (s1.heap.push o) h3 → (s1.heap.push o).objs.size ≤ h3.objs.size → h3.get? P = some { cls := .none, data := .fields ps' } → (∃ more, ps' = ps ++ more) → TriplesOk ps'.toList →
      wpAny (model X.prog X.w) X.A (builtinsFor X.env.globals X.env.builtins) (fun bi s₄ =>
        ∃ Ia fp wr n₀ Pf St₀ pz F, Value.ref s1.heap.objs.size = .ref Ia ∧ (∀ A' : Around, A'.handled = none → Walks X.prog X.w A' Ia fp wr n₀ Pf St₀) ∧ St₀ 0 s₄.heap ∧ (∀ b ∈ fp, b < s₄.heap.objs.size) ∧ s₄.heap.NoLimit ∧ cStatics ∉ wr ∧
          (∀ href : Heap, (∀ b o, s₄.heap.get? b = some o → href.get? b = some o) →
            QuietGen X.prog X.w (genEnv scope (cloFrom X.env.cells scope.names []) s₄.heap.objs.size code bi X.env) x [] elt (List.range s₄.heap.objs.size) wr Pf pz F href) ∧
          (∀ a h₅ tk gs, gs.bare = true → s₄.heap.objs.size < a → h₅.objs.size = a + 1 → (∀ b o, s₄.heap.get? b = some o → h₅.get? b = some o) →
            WalksS X.prog X.w X.A.in4 a (a :: s₄.heap.objs.size :: List.range s₄.heap.objs.size) (s₄.heap.objs.size :: wr) (GenOnlyQ s₄.gens.size) (passing pz n₀ 0).length
              (fun j y => ∃ i, (passing pz n₀ 0)[j]? = some i ∧ F i y) (GenAt X.prog X.w X.A.in4 a s₄.gens.size s₄.heap.objs.size (List.range s₄.heap.objs.size) wr pz n₀ F) →
            GenAt X.prog X.w X.A.in4 a s₄.gens.size s₄.heap.objs.size (List.range s₄.heap.objs.size) wr pz n₀ F 0 { s₄ with gens := s₄.gens.push gs, toks := tk, heap := h₅ } →
            Q' (.ref a) { s₄ with gens := s₄.gens.push gs, toks := tk, heap := h₅ })) X.xe { s1 with heap := h3, toks := tk } := by
    intro code h3 tk ps' hx hsz hP3 hmore ht3
    obtain ⟨bm, ob, e1, e2, e3, e4, e5, e6, e7, e8⟩ := TB.bm
    have hcP : cStatics ≠ P := fun e => by
      obtain ⟨_, hns, _⟩ := I1.nolimit
      obtain ⟨o', es, ep, ho, hd, _⟩ := hns
      rw [e, hPs] at ho
      cases ho
      cases hd
    have hcl : cStatics < s1.heap.objs.size := let ⟨_, hns, _⟩ := I1.nolimit; hns.lt
    have sz2 : (s1.heap.push o).objs.size = s1.heap.objs.size + 1 := Heap.size_push ..
    have keep3 : ∀ b u, b ≠ P → s1.heap.get? b = some u → h3.get? b = some u := fun b u hb e => hx b u hb (Heap.get?_push_of_some _ e)
    refine wpAny_builtinsFor (m := X.mg) (by rw [I1.ok.glob]; exact ((I1.mod.glob.keeps I1.bk).push o).extBut hx TB.gP) e1 e2 (keep3 _ _ e4 (I1.bk _ _ e5)) e6 e7 e8 ?_
    refine ⟨s1.heap.objs.size, s1.heap.objs.size :: fpx, [s1.heap.objs.size], vs.length, Pf, St, (fun _ => true), (fun i y => ∃ b, bs[i]? = some b ∧ y = .bool b), rfl, W, ?_, ?_, lim2.extBut hx hcP, ?_, ?_, ?_⟩
    · refine (W X.A hr.hd).frame _ _ _ hst fun b hb u e => hx b u (fun z => ?_) e
      rcases List.mem_cons.mp hb with z2 | z2
      · exact Nat.ne_of_lt hPlt (z.symm.trans z2)
      · exact (hfpx b z2).2 z
    · intro b hb
      rcases List.mem_cons.mp hb with z | z
      · rw [z]
        show s1.heap.objs.size < h3.objs.size
        omega
      · have := (hfpx b z).1
        show b < h3.objs.size
        have h9 : (b : Nat) < s1.heap.objs.size := this
        exact Nat.lt_of_lt_of_le h9 (by omega)
    · intro z
      rcases List.mem_cons.mp z with z | z
      · exact Nat.ne_of_lt hcl z
      · cases z
    · intro href hhref
      refine ⟨fun A' E' i v s₂ m₂ hA hPv hn hm hk => ?_, fun A' E' i v s₂ m₂ hA hPv hp hn hm hk => ?_⟩
      · simp only [List.forIn_nil]
        exact wpAny_pure ⟨rfl, GxR.keeps_refl _⟩
      · obtain ⟨w, hw, rw'⟩ := hPf i v hPv
        refine hel i w v hw rw' _ A' E' s₂ m₂ rfl rfl rfl hn hm fun b u hb e => ?_
        have hl := Heap.lt_size e
        have e3 := keep3 b u hb e
        refine hk b (List.mem_range.mpr (Heap.lt_size e3)) (fun z => ?_) u (hhref b u e3)
        rcases List.mem_cons.mp z with z | z
        · exact Nat.ne_of_lt hl z
        · cases z
    · intro g h5 tk5 gs hgb hag hsz5 hk5 W5 hat
      simp only [GxR.passing_true, List.length_range] at W5
      rw [hlen] at W5 hat
      refine hQ bs H1 g _ q1 ⟨_, _, _, _, _, W5.in4_1, hat, ?_, fun s' hm => ?_⟩
      · intro j y sj Qj Ej hy hQj
        obtain ⟨i, hij, b, hb, rfl⟩ := hy
        obtain ⟨hj, ej⟩ := List.getElem?_eq_some_iff.mp hij
        rw [List.getElem_range] at ej
        subst ej
        have hQ2 : Qj (bs.getD j false) sj := hQj
        rw [List.getD_eq_getElem?_getD, hb] at hQ2
        exact wpAny_truthy_bool hQ2
      · obtain ⟨more, em⟩ := hmore
        have nwr : ∀ b u, s1.heap.get? b = some u → b ∉ h3.objs.size :: [s1.heap.objs.size] := fun b u e hb => by
          have hl := Heap.lt_size e
          rcases List.mem_cons.mp hb with z | z
          · rw [z] at hl
            have h9 : (h3.objs.size : Nat) < s1.heap.objs.size := hl
            omega
          · rcases List.mem_cons.mp z with z | z
            · rw [z] at hl
              exact Nat.lt_irrefl _ hl
            · cases z
        have J := GxR.inv_tab (more := more) (h' := s'.heap) (g' := s'.gens) (d' := s'.drawn) (t' := s'.toks) I1 hP (fun b u hb e => hm.heap b u (nwr b u e) (hk5 b u (keep3 b u hb e)))
          (by rw [← em]; exact hm.heap P _ (nwr P _ hPs) (hk5 P _ hP3)) (AllBare.movedS (I1.bare.push hgb) hm)
        rw [GxR.sh_eta s1 s' hm.os] at J
        refine ⟨upd H1 P (.tbl (ps ++ more)), ⟨⟨ps ++ more, upd_same, by rw [← em]; exact ht3⟩, fun b hb => upd_ne hb⟩, J⟩
  refine ⟨lim2, ?_⟩
  cases hf : codeAmong gpos ps.toList with
  | none =>
    refine wpAny_genexprCodeX hcode (cd.code hP2 ht) (cd.tab hP2) hf fun c' h' tk hx hge hlt hco' _ htab' _ => ?_
    obtain ⟨o1, vs, f1, tf, fl, tg, inF, tx, tt, op, _, _, _, _, _, _, _, _, _, htr, _⟩ := hco'
    exact cont _ h' tk _ hx (Nat.le_trans hge (Nat.le_of_lt hlt)) htab'.2 ⟨_, rfl⟩ htr
  | some cv =>
    refine wpAny_genexprCode_hit hcode (cd.code hP2 ht) hf ?_
    exact cont cv (s1.heap.push o) s1.toks ps (Heap.ExtBut.refl _ _) (Nat.le_refl _) hP2 ⟨#[], by simp⟩ ht
theorem any_bs (bs : List Bool) : (List.range bs.length).any (fun j => bs.getD j false) = bs.any _root_.id := by
  rw [Bool.eq_iff_iff, List.any_eq_true, List.any_eq_true]
  constructor
  · intro ⟨j, hj, h⟩
    have hj' := List.mem_range.mp hj
    rw [List.getD_eq_getElem?_getD, List.getElem?_eq_getElem hj'] at h
    exact ⟨bs[j], List.getElem_mem hj', h⟩
  · intro ⟨b, hb, h⟩
    obtain ⟨j, hj, e⟩ := List.getElem_of_mem hb
    refine ⟨j, List.mem_range.mpr hj, ?_⟩
    rw [List.getD_eq_getElem?_getD, List.getElem?_eq_getElem hj, e]
    exact h
theorem all_bs (bs : List Bool) : (List.range bs.length).all (fun j => bs.getD j false) = bs.all _root_.id := by
  rw [Bool.eq_iff_iff, List.all_eq_true, List.all_eq_true]
  constructor
  · intro h b hb
    obtain ⟨j, hj, e⟩ := List.getElem_of_mem hb
    have q := h j (List.mem_range.mpr hj)
    rw [List.getD_eq_getElem?_getD, List.getElem?_eq_getElem hj, e] at q
    exact q
  · intro h j hj
    have hj' := List.mem_range.mp hj
    rw [List.getD_eq_getElem?_getD, List.getElem?_eq_getElem hj']
    exact h _ (List.getElem_mem hj')
/-- any(test for x in e), all(..) -/
def boolOf (al : Bool) (bs : List Bool) : Bool := if al = true then bs.all _root_.id else bs.any _root_.id
def fnOfAl (al : Bool) : String := if al = true then "all" else "any"
theorem pe_gen {al : Bool} {c P : Addr} {elt iter : Expr} {x y : Str} {px p pos gpos : Pos} {scope : Scope} {te : TE} {k : Nat}
    (hr : Room k X.A) (hy : y = Str.ofString (fnOfAl al)) (hg : Gl X y) (hm : X.mg y = none) (TB : GxR.TabB X.base X.mg c P) (hcode : X.env.code = .ref c) (S : X.Ok → GxR.GenS X.env scope x) (hi : PE X iter te)
    (hs : ∀ v, genFold iter X.env v = pure v) (mono : ∀ σ H (Q Q' : VK), te σ H Q → (∀ v H', Q v H' → Q' v H') → te σ H Q')
    (he : starEach [.GeneratorExp elt [⟨.Name x px, iter, [], 0⟩] scope gpos] X.env = (false, eval (.GeneratorExp elt [⟨.Name x px, iter, [], 0⟩] scope gpos) X.env) :: starEach [] X.env := by rfl) :
    PE X (.Call (.Name y p) [.GeneratorExp elt [⟨.Name x px, iter, [], 0⟩] scope gpos] [] pos) (fun σ H Q => te σ H fun v H1 => GxR.TabG H1 P ∧ ∀ pins s1 u, L2.Inv X pins σ H1 s1 → RelV v u → ∀ ps, s1.heap.get? P = some { cls := .none, data := .fields ps } →
      ∃ vs bs, vs.length = bs.length ∧ ItSrc X s1 P u vs ∧ ElG X s1 P scope x elt vs bs ∧ ∀ H2, GxR.Tabbed P H1 H2 → Q (.bl (boolOf al bs)) H2) := by
  refine ⟨fun pins s σ H Q I h => ?_⟩
  subst hy
  have hb : bootBuiltins (Str.ofString (fnOfAl al)) = some (.builtin (fnOfAl al)) := by cases al <;> decide +kernel
  refine wpAny_Call_Name_kw (ld_blt I hg hm hb ?_ (by cases al <;> decide) (by cases al <;> decide))
  refine PyProof.Rows.callWith_builtin1 ?_ he (by rfl)
  rw [he]
  show wpAny _ _ (spliced ((false, eval (.GeneratorExp elt [⟨.Name x px, iter, [], 0⟩] scope gpos) X.env) :: backTo pos (starEach [] X.env))) _ _ s
  have h' : te σ H fun v H1 => GxR.TabG H1 P ∧ ∀ s1 u, L2.Inv X pins σ H1 s1 → RelV v u → ∀ ps, s1.heap.get? P = some { cls := .none, data := .fields ps } →
      ∃ vs bs, vs.length = bs.length ∧ ItSrc X s1 P u vs ∧ ElG X s1 P scope x elt vs bs ∧ ∀ H2, GxR.Tabbed P H1 H2 → Q (.bl (boolOf al bs)) H2 :=
    mono _ _ _ _ h fun v H1 ⟨q1, q2⟩ => ⟨q1, q2 pins⟩
  refine Calls.spliced_cons (gen_core (R := fun bs H1 => ∀ H2, GxR.Tabbed P H1 H2 → Q (.bl (boolOf al bs)) H2) hr TB hcode (S I.ok) hi hs I h' fun bs H1 g s5 hR hG => ?_)
  obtain ⟨fp, wr, G, F, St, W, hst, htr, hI⟩ := hG
  refine Calls.spliced_nil ?_
  cases al with
  | false =>
    refine call_any_walkS (W.self 0 _ _ _ hst ⟨g, fp, wr, G, _, F, St, _, rfl, W, hst, htr, fun s' hmv => ?_⟩)
    obtain ⟨H2, hT, J⟩ := hI s' hmv
    refine ⟨.bl _, H2, J, rfl, ?_⟩
    rw [any_bs bs]
    exact hR H2 hT
  | true =>
    refine call_all_walkS (W.self 0 _ _ _ hst ⟨g, fp, wr, G, _, F, St, _, rfl, W, hst, htr, fun s' hmv => ?_⟩)
    obtain ⟨H2, hT, J⟩ := hI s' hmv
    refine ⟨.bl _, H2, J, rfl, ?_⟩
    rw [all_bs bs]
    exact hR H2 hT
end
/-! ### the small text of tests of one thing -/
inductive Q1 where
  | own | int (i : Int) | glob (n : Nat) | free (i : Nat)
inductive QE where
  | cmp (o : CmpOp) (a b : Q1) | chain (o p : CmpOp) (a b d : Q1) | not (e : QE)
def qv (Γ : Nat → D) (ρ : List D) (d : D) : Q1 → Option D
  | .own => some d
  | .int i => some (.int i)
  | .glob n => some (Γ n)
  | .free i => gV ρ[i]?
def isStr : D → Bool
  | .str _ => true
  | _ => false
def qcmp : CmpOp → D → D → Option Bool
  | .Lt, .int i, .int j => some (cd (i < j))
  | .LtE, .int i, .int j => some (cd (i ≤ j))
  | .Gt, .int i, .int j => some (cd (j < i))
  | .GtE, .int i, .int j => some (cd (j ≤ i))
  | .In, .str x, .str z => match x.cps.toList with | [k] => some (decide (k ∈ z.cps.toList)) | _ => none
  | .NotIn, .str x, .str z => match x.cps.toList with | [k] => some (!decide (k ∈ z.cps.toList)) | _ => none
  | .In, .str x, .lst l => if l.all isStr then some (l.any (flatE (.str x))) else none
  | .NotIn, .str x, .lst l => if l.all isStr then some (!l.any (flatE (.str x))) else none
  | _, _, _ => none
def qe (Γ : Nat → D) (ρ : List D) (d : D) : QE → Option Bool
  | .cmp o a b => (qv Γ ρ d a).bind fun x => (qv Γ ρ d b).bind fun y => qcmp o x y
  | .chain o p a b e => (qv Γ ρ d a).bind fun x => (qv Γ ρ d b).bind fun y => (qcmp o x y).bind fun k => if k = true then (qv Γ ρ d e).bind fun z => qcmp p y z else some false
  | .not e => (qe Γ ρ d e).map (!·)
def qAll (p : D → Option Bool) : List D → Option (List Bool)
  | [] => some []
  | d :: ds => (p d).bind fun b => (qAll p ds).bind fun bs => some (b :: bs)
def signsG (s : Str) : List D := s.cps.toList.map fun k => .str ⟨#[k]⟩
def itemsG : D → Option (List D)
  | .tup l => some l
  | .lst l => some l
  | .str s => some (signsG s)
  | _ => none
def gqD (al : Bool) (p : D → Option Bool) (x : D) : Option D := (itemsG x).bind fun l => (qAll p l).map fun bs => .bl (boolOf al bs)
def evGq (al : Bool) (Γ : Nat → D) (q : QE) (f : List D → List Cell → R D) : List D → List Cell → R D := fun ρ m => (f ρ m).bind fun x m => R.of (gqD al (fun d => qe Γ ρ d q) (res m x)) m
theorem qAll_len {p : D → Option Bool} : ∀ {ds : List D} {bs : List Bool}, qAll p ds = some bs → bs.length = ds.length
  | [], bs, h => by cases h; rfl
  | d :: ds, bs, h => by
    obtain ⟨b, h1, h⟩ := Option.bind_eq_some_iff.mp h
    obtain ⟨bs', h2, h⟩ := Option.bind_eq_some_iff.mp h
    cases h
    simp [qAll_len h2]
theorem qAll_get {p : D → Option Bool} : ∀ {ds : List D} {bs : List Bool} {i : Nat} {d : D}, qAll p ds = some bs → ds[i]? = some d → ∃ b, bs[i]? = some b ∧ p d = some b
  | [], bs, i, d, h, e => by simp at e
  | d0 :: ds, bs, i, d, h, e => by
    obtain ⟨b, h1, h⟩ := Option.bind_eq_some_iff.mp h
    obtain ⟨bs', h2, h⟩ := Option.bind_eq_some_iff.mp h
    cases h
    cases i with
    | zero => simp at e; subst e; exact ⟨b, rfl, h1⟩
    | succ i => exact qAll_get (i := i) h2 (by simpa using e)
end GS
end

noncomputable section
namespace GS
open PySem L2
/-! ### the small text of expressions; names are slots -/
inductive E where
  | var (i : Nat) | int (i : Int) | str (s : Str) | bl (b : Bool) | non | glob (n : Nat)
  | bin (o : Operator) (a b : E) | neg (a : E)
  | cmp (o : CmpOp) (a b : E) | chain (o o' : CmpOp) (a b d : E) | chain3 (o o' o2 : CmpOp) (a b d e : E)
  | and (l : List E) | or (l : List E) | not (a : E) | ite (t a b : E)
  | tup (l : List E) | lst (l : List E)
  | idx (a b : E) | slc (a : E) (lo hi : Option E)
  | call (pu : Bool) (f : Nat) (l : List E) | fn (n : String) (l : List E) | ty (n : String) (l : List E)
  | sidx (a b : E) | sm (n : String) (a b : E) | bits (a : E) | isA (t : String) (a : E)
  | fld (f : Str) (a : E) | meth (pu : Bool) (m : Str) (a : E) (l : List E) | make (cl : Nat) (l : List E)
  | pop (a : E) | dmin (a : E) | lrg (a : E) | own (a : E) | frz (a : E) | dnew | dict (l : List E) | dget (a b : E) | lk (i : Nat) (a : E)
  | gq (al : Bool) (q : QE) (src : E)
  | rng1 (a : E) | rng2 (a b : E) | rngd (a b : E) | zip (a b : E)
  | comp (t : Tg) (own : List Nat) (src : E) (ifs : Option E) (el : E)
/-- what a text leans on: called defs (number, name, arguments), constants, built-ins, classes (number, name, __init__, its arguments), methods, fields -/
structure Tab where
  fns : List (Nat × Str × Nat)
  gls : List (Nat × Str)
  bts : List String
  cls : List (Nat × Str × Nat × Nat)
  mtl : List (Nat × Str × Nat × Nat)
  fll : List (Nat × Str)
  xcl : List (Nat × Str × List (Str × Nat) × Nat)
  xnm : List (Nat × Str)
  sub : List (Nat × Nat × Bool)
def Tab.xfl (T : Tab) (k : Nat) (f : Str) : Bool := T.xcl.any fun x => decide (x.1 = k) && x.2.2.1.any fun p => decide (p.1 = f)
def Tab.subOf (T : Tab) (k c : Nat) : Option Bool := if (T.xcl.any fun x => decide (x.1 = k)) = true then (T.sub.find? fun x => decide (x.1 = k) && decide (x.2.1 = c)).map (·.2.2) else none
def Tab.xl (T : Tab) (c : Nat) : List (Str × Nat) := ((T.xcl.find? fun x => decide (x.1 = c)).map (·.2.2.1)).getD []
def Tab.hasX (T : Tab) (c : Nat) (x : Str) (n : Nat) : Bool := match T.xcl.find? fun y => decide (y.1 = c) with
  | some y => decide (y.2.1 = x) && decide (y.2.2.2 = n)
  | none => false
def Tab.mt (T : Tab) (c : Nat) (m : Str) : Option Nat := (T.mtl.find? fun x => decide (x.1 = c) && decide (x.2.1 = m)).map (·.2.2.1)
def Tab.fl (T : Tab) (c : Nat) (f : Str) : Bool := T.fll.any fun x => decide (x.1 = c) && decide (x.2 = f)
def Tab.ini (T : Tab) (c : Nat) : Nat := ((T.cls.find? fun x => decide (x.1 = c)).map (·.2.2.1)).getD 0
/-- what the called defs and the constants are worth -/
structure Sem where
  T : Tab
  Φ : Nat → List D → List Cell → R D
  Γ : Nat → D
def in62 (j : Int) : Bool := cd (-(2 ^ 62) ≤ j ∧ j < 2 ^ 62)
def rng1D : D → Option D
  | .int j => if in62 j = true then some (.lst (rangeD 0 j.toNat)) else none
  | _ => none
def rng2D : D → D → Option D
  | .int i, .int j => if (in62 i && in62 j) = true then some (.lst (rangeD i (j - i).toNat)) else none
  | _, _ => none
def rngdD : D → D → Option D
  | .int i, .int j => if (in62 i && in62 j) = true then some (.lst (downD i (i - j).toNat)) else none
  | _, _ => none
def zipL (xs ys : List D) : List D := (xs.zip ys).map fun p => .tup [p.1, p.2]
def zipD : D → D → Option D
  | .tup xs, .tup ys => some (.lst (zipL xs ys))
  | .lst xs, .lst ys => some (.lst (zipL xs ys))
  | _, _ => none
def evSidx (f g : List D → List Cell → R D) : List D → List Cell → R D := fun ρ m => (f ρ m).bind fun x m => match x with | .str s => (g ρ m).bind fun y m => R.of (sidxD (.str s) y) m | _ => .stuck
/-- two things of the walk, as they are -/
def ev2p (f g : List D → List Cell → R D) (op : D → D → Option D) : List D → List Cell → R D := fun ρ m => (f ρ m).bind fun x m => (g ρ m).bind fun y m => R.of (op x y) m
def ev1p (f : List D → List Cell → R D) (op : D → Option D) : List D → List Cell → R D := fun ρ m => (f ρ m).bind fun x m => R.of (op x) m
def evYes : List D → List Cell → R Bool := fun _ m => .ok true m
mutual
/-- an expression's worth -/
def evE (M : Sem) : E → List D → List Cell → R D
  | .var i => getV i
  | .int i => fun _ m => .ok (.int i) m
  | .str s => fun _ m => .ok (.str s) m
  | .bl b => fun _ m => .ok (.bl b) m
  | .non => fun _ m => .ok .non m
  | .glob n => fun _ m => .ok (M.Γ n) m
  | .bin o a b => ev2 (evE M a) (evE M b) (binD o)
  | .neg a => ev1 (evE M a) negD
  | .cmp o a b => ev2 (evE M a) (evE M b) (cmpD o)
  | .chain o o' a b d => evChain o o' (evE M a) (evE M b) (evE M d)
  | .chain3 o o' o2 a b d e => evChain3 o o' o2 (evE M a) (evE M b) (evE M d) (evE M e)
  | .and l => evAnd M l
  | .or l => evOr M l
  | .not a => evNot (evE M a)
  | .ite t a b => evIte (evE M t) (evE M a) (evE M b)
  | .tup l => evMk (evL M l) mkTup
  | .lst l => evMk (evL M l) mkLst
  | .idx a b => ev2 (evE M a) (evE M b) idxD
  | .slc a lo hi => evSlc (evE M a) (evO M lo) (evO M hi)
  | .call pu f l => evCall pu (evL M l) (M.Φ f)
  | .fn n l => evFn (evL M l) (fnD n)
  | .ty n l => evFn (evL M l) (tyD n)
  | .sidx a b => evSidx (evE M a) (evE M b)
  | .sm n a b => evSm n (evE M a) (evE M b)
  | .bits a => ev1 (evE M a) bitsD
  | .isA t a => ev1 (evE M a) (isD t)
  | .fld f a => ev1 (evE M a) (fldD M.T.fl f)
  | .meth pu mn a l => evMeth pu M.T.mt M.Φ mn (evE M a) (evL M l)
  | .make cl l => evMake cl (evL M l) (M.Φ (M.T.ini cl))
  | .pop a => evPop (evE M a)
  | .dmin a => evDmin (evE M a)
  | .lrg a => evOwn (evLrg (evE M a))
  | .own a => evOwn (evE M a)
  | .frz a => evFrz (evE M a)
  | .dnew => fun _ m => .ok (.obj m.length) (m ++ [.dct []])
  | .dict l => evOwn (evFn (evL M l) dictDs)
  | .dget a b => evDget (evE M a) (evE M b)
  | .lk i a => evLk i (evE M a)
  | .gq al q src => evGq al M.Γ q (evE M src)
  | .rng1 a => ev1 (evE M a) rng1D
  | .rng2 a b => ev2 (evE M a) (evE M b) rng2D
  | .rngd a b => ev2 (evE M a) (evE M b) rngdD
  | .zip a b => ev2p (evE M a) (evE M b) zipD
  | .comp t own src ifs el => compE (fun ρ m => (evE M src ρ m).bind srcD) t (evIf M ifs) (evE M el) own
def evL (M : Sem) : List E → List D → List Cell → R (List D)
  | [] => fun _ m => .ok [] m
  | e :: es => evCons (evE M e) (evL M es)
def evAnd (M : Sem) : List E → List D → List Cell → R D
  | [] => fun _ _ => .stuck
  | e :: es => match es with
    | [] => evE M e
    | e2 :: es2 => evAnd2 (evE M e) (evAnd M (e2 :: es2))
def evOr (M : Sem) : List E → List D → List Cell → R D
  | [] => fun _ _ => .stuck
  | e :: es => match es with
    | [] => evE M e
    | e2 :: es2 => evOr2 (evE M e) (evOr M (e2 :: es2))
def evO (M : Sem) : Option E → List D → List Cell → R (Option Int)
  | none => fun _ m => .ok none m
  | some e => fun ρ m => (evE M e ρ m).bind toI
def evIf (M : Sem) : Option E → List D → List Cell → R Bool
  | none => evYes
  | some e => evT (evE M e)
end

/-! ### is a piece of the program this text? -/
def nameB (x : Str) : Bool := !(x == ("__debug__" : Str)) && !(x == ("__classdict__" : Str)) && !(x == ("__name__" : Str))
def visB (sc : Scope) (x : Str) : Bool := (match sc.names.lookup x with | some .local => true | some .cell => true | some .free => true | _ => false) && nameB x
def glB (sc : Scope) (x : Str) : Bool := (match sc.names.lookup x with | some .globalImplicit => true | _ => false) && nameB x
def locB (sc : Scope) (x : Str) : Bool := (match sc.names.lookup x with | some .local => true | some .cell => true | _ => false)
def notSlice : Expr → Bool
  | .Slice .. => false
  | _ => true
def notSet : Expr → Bool
  | .Set .. => false
  | _ => true
def plainArg : Expr → Bool
  | .Starred .. => false
  | _ => true
/-- no call without arguments of a name (super()) -/
def plainBase : Expr → Bool
  | .Call (.Name _ _) [] _ _ => false
  | _ => true
def fnNames : List String := ["len", "abs", "all", "any", "sum", "min", "max", "sorted"]
def tyNames : List String := ["int", "str", "list", "tuple"]
def isaNames : List String := ["bool", "int", "str", "tuple", "list"]
/-- a target of a block: its names are the block's own -/
def chkTg1 (N : List Str) (scope sc : Scope) (i : Nat) : Expr → Bool
  | .Name x _ => decide (N[i]? = some x) && locB sc x && ((scope.names.lookup x == some .cell) || (sc.names.lookup x == some .local))
  | _ => false
def chkTgs (N : List Str) (scope sc : Scope) : List Nat → List Expr → Bool
  | [], [] => true
  | i :: is, e :: es => chkTg1 N scope sc i e && chkTgs N scope sc is es
  | _, _ => false
def chkTg (N : List Str) (scope sc : Scope) : Tg → Expr → Bool
  | .one i, e => chkTg1 N scope sc i e
  | .many is, .Tuple es _ _ => chkTgs N scope sc is es
  | _, _ => false
def isTuple : Expr → Bool
  | .Tuple .. => true
  | _ => false
def ownP (N : List Str) (own : List Nat) : List (Str × Nat) := own.map fun i => ((N[i]?).getD Str.empty, i)
def Tab.hasFn (T : Tab) (f : Nat) (x : Str) (n : Nat) : Bool := T.fns.any fun y => decide (y.1 = f) && decide (y.2.1 = x) && decide (y.2.2 = n)
def Tab.hasGl (T : Tab) (f : Nat) (x : Str) : Bool := T.gls.any fun y => decide (y.1 = f) && decide (y.2 = x)
def Tab.hasCl (T : Tab) (f : Nat) (x : Str) (n : Nat) : Bool := match T.cls.find? fun y => decide (y.1 = f) with
  | some y => decide (y.2.1 = x) && decide (y.2.2.2 = n)
  | none => false
def Tab.okMt (T : Tab) (m : Str) (n : Nat) : Bool := T.mtl.all fun y => !decide (y.2.1 = m) || decide (y.2.2.2 = n)
/-- a generator expression's own scope -/
def genSB (sc scope : Scope) (x : Str) : Bool :=
  decide (scope.kind = .function) && !scope.isCoroutine && (scope.names.all fun y => !(y.2 == .cell)) && (scope.names.lookup (".0" : Str) == some .local) && (scope.names.lookup x == some .local) && (scope.names.all fun y => !(y.2 == .free) || (sc.names.lookup y.1 == some .cell) || (sc.names.lookup y.1 == some .free))
def chkQ1 (T : Tab) (N : List Str) (sc scope : Scope) (x : Str) : Q1 → Expr → Bool
  | .own, e' => match e' with | .Name y _ => decide (y = x) && nameB y | _ => false
  | .int i, e' => match e' with | .Constant (.int j) _ _ => decide (i = j) | _ => false
  | .glob n, e' => match e' with | .Name y _ => T.hasGl n y && glB scope y | _ => false
  | .free i, e' => match e' with | .Name y _ => decide (N[i]? = some y) && (visB sc y && !(sc.names.lookup y == some .local)) && (scope.names.lookup y == some .free) && nameB y | _ => false
def chkQ (T : Tab) (N : List Str) (sc scope : Scope) (x : Str) : QE → Expr → Bool
  | .cmp o a b, e' => match e' with | .Compare a' [o'] [b'] _ => decide (o = o') && chkQ1 T N sc scope x a a' && chkQ1 T N sc scope x b b' && !behindInMarks o' b' | _ => false
  | .chain o p a b d, e' => match e' with | .Compare a' [o', p'] [b', d'] _ => decide (o = o') && decide (p = p') && chkQ1 T N sc scope x a a' && chkQ1 T N sc scope x b b' && chkQ1 T N sc scope x d d' && !behindInMarks p' d' | _ => false
  | .not a, e' => match e' with | .UnaryOp .Not a' _ => chkQ T N sc scope x a a' | _ => false
def notList : Expr → Bool
  | .List .. => false
  | _ => true
def isLstE : E → Bool
  | .lst _ => true
  | _ => false
mutual
def chkE (T : Tab) (N : List Str) : E → Scope → Expr → Bool
  | .var i, sc, e' => match e' with | .Name x _ => decide (N[i]? = some x) && visB sc x | _ => false
  | .int i, _, e' => match e' with | .Constant (.int j) _ _ => decide (i = j) | _ => false
  | .str s, _, e' => match e' with | .Constant (.str j) _ _ => decide (s = j) | _ => false
  | .bl b, _, e' => match e' with | .Constant (.bool j) _ _ => decide (b = j) | _ => false
  | .non, _, e' => match e' with | .Constant .none _ _ => true | _ => false
  | .glob n, sc, e' => match e' with | .Name x _ => T.hasGl n x && glB sc x | _ => false
  | .bin o a b, sc, e' => match e' with | .BinOp a' o' b' _ => decide (o = o') && chkE T N a sc a' && chkE T N b sc b' | _ => false
  | .neg a, sc, e' => match e' with | .UnaryOp .USub a' _ => chkE T N a sc a' | _ => false
  | .cmp o a b, sc, e' => match e' with | .Compare a' [o'] [b'] _ => decide (o = o') && chkE T N a sc a' && chkE T N b sc b' && !behindInMarks o' b' | _ => false
  | .chain o p a b d, sc, e' => match e' with | .Compare a' [o', p'] [b', d'] _ => decide (o = o') && decide (p = p') && chkE T N a sc a' && chkE T N b sc b' && chkE T N d sc d' && !behindInMarks p' d' | _ => false
  | .chain3 o p q a b d e, sc, e' => match e' with | .Compare a' [o', p', q'] [b', d', w'] _ => decide (o = o') && decide (p = p') && decide (q = q') && chkE T N a sc a' && chkE T N b sc b' && chkE T N d sc d' && chkE T N e sc w' && !behindInMarks q' w' | _ => false
  | .and l, sc, e' => match e' with | .BoolOp .And es _ => chkL T N l sc es | _ => false
  | .or l, sc, e' => match e' with | .BoolOp .Or es _ => chkL T N l sc es | _ => false
  | .not a, sc, e' => match e' with | .UnaryOp .Not a' _ => chkE T N a sc a' | _ => false
  | .ite _ _ _, _, _ => false
  | .tup l, sc, e' => match e' with | .Tuple es _ _ => chkL T N l sc es | _ => false
  | .lst l, sc, e' => match e' with | .List es _ => chkL T N l sc es | _ => false
  | .idx a b, sc, e' => match e' with | .Subscript a' b' _ => chkE T N a sc a' && chkE T N b sc b' && notSlice b' | _ => false
  | .slc a lo hi, sc, e' => match e' with | .Subscript a' (.Slice lo' hi' none _) _ => chkE T N a sc a' && chkO T N lo sc lo' && chkO T N hi sc hi' | _ => false
  | .call _ f l, sc, e' => match e' with | .Call (.Name x _) es [] _ => T.hasFn f x l.length && glB sc x && chkL T N l sc es | _ => false
  | .fn n l, sc, e' => match e' with | .Call (.Name x _) es [] _ => decide (Str.ofString n = x) && T.bts.contains n && fnNames.contains n && glB sc x && chkL T N l sc es && decide (0 < l.length) | _ => false
  | .ty n l, sc, e' => match e' with | .Call (.Name x _) es [] _ => decide (Str.ofString n = x) && T.bts.contains n && tyNames.contains n && glB sc x && chkL T N l sc es && decide (0 < l.length) | _ => false
  | .sidx a b, sc, e' => match e' with | .Call (.Attribute a' m ap) [b'] [] cp => decide (m = ("index" : Str)) && chkE T N a sc a' && chkE T N b sc b' && (ap.endLine == cp.line) && plainBase a' | _ => false
  | .sm n a b, sc, e' => match e' with | .Call (.Attribute a' m ap) [b'] [] cp => decide (m = Str.ofString n) && txmNames.contains n && chkE T N a sc a' && chkE T N b sc b' && (ap.endLine == cp.line) && plainBase a' | _ => false
  | .bits a, sc, e' => match e' with | .Call (.Attribute a' m ap) [] [] cp => decide (m = ("bit_length" : Str)) && chkE T N a sc a' && (ap.endLine == cp.line) && plainBase a' | _ => false
  | .isA t a, sc, e' => match e' with | .Call (.Name x _) [a', .Name y _] [] _ => decide (x = ("isinstance" : Str)) && decide (y = Str.ofString t) && T.bts.contains "isinstance" && T.bts.contains t && isaNames.contains t && glB sc x && glB sc y && chkE T N a sc a' | _ => false
  | .fld f a, sc, e' => match e' with | .Attribute a' f' _ => decide (f = f') && chkE T N a sc a' && plainBase a' | _ => false
  | .meth _ m a l, sc, e' => match e' with | .Call (.Attribute a' m' ap) es [] cp => decide (m = m') && T.okMt m (l.length + 1) && chkE T N a sc a' && plainBase a' && (ap.endLine == cp.line) && chkL T N l sc es && decide (l.length < 20) | _ => false
  | .make cl l, sc, e' => match e' with | .Call (.Name x _) es [] _ => T.hasCl cl x (l.length + 1) && glB sc x && chkL T N l sc es && decide (0 < l.length) | _ => false
  | .dmin a, sc, e' => match e' with | .Call (.Name x _) [a'] [] _ => decide (x = ("min" : Str)) && T.bts.contains "min" && glB sc x && chkE T N a sc a' | _ => false
  | .lrg a, sc, e' => match e' with | .Call (.Name x _) [.Call (.Name y _) [a'] [] _] [] _ => decide (x = ("list" : Str)) && decide (y = ("range" : Str)) && T.bts.contains "list" && T.bts.contains "range" && glB sc x && glB sc y && chkE T N a sc a' | _ => false
  | .pop a, sc, e' => match e' with | .Call (.Attribute a' m ap) [] [] cp => decide (m = ("pop" : Str)) && chkE T N a sc a' && plainBase a' && (ap.endLine == cp.line) | _ => false
  | .own a, sc, e' => (match a with | .lst _ => true | .comp _ _ _ _ _ => true | .bin o x _ => decide (o = .Add) || decide (o = .Mult) && isLstE x | .sm n _ _ => decide (n = "split") | .ty n _ => decide (n = "list") | .fn n _ => decide (n = "sorted") | _ => false) && chkE T N a sc e'
  | .frz a, sc, e' => chkE T N a sc e'
  | .dnew, _, e' => match e' with | .Dict [] [] _ => true | _ => false
  | .dict l, sc, e' => match e' with | .Call (.Name x _) es [] _ => decide (x = ("dict" : Str)) && T.bts.contains "dict" && glB sc x && chkL T N l sc es && decide (0 < l.length) | _ => false
  | .lk _ a, sc, e' => (match a with | .comp _ _ _ _ _ => true | _ => false) && chkE T N a sc e'
  | .dget a b, sc, e' => match e' with | .Call (.Attribute a' m ap) [b'] [] cp => decide (m = ("get" : Str)) && chkE T N a sc a' && chkE T N b sc b' && (ap.endLine == cp.line) && plainBase a' | _ => false
  | .gq al q src, sc, e' => match e' with
    | .Call (.Name y _) [.GeneratorExp elt [⟨.Name x _, iter, [], 0⟩] scope _] [] _ => decide (y = Str.ofString (fnOfAl al)) && T.bts.contains (fnOfAl al) && glB sc y && decide (genName ∈ N) && genSB sc scope x && chkQ T N sc scope x q elt && chkE T N src sc iter && notSet iter && notList iter
    | _ => false
  | .rng1 _, _, _ => false
  | .rng2 _ _, _, _ => false
  | .rngd _ _, _, _ => false
  | .zip _ _, _, _ => false
  | .comp t own src ifs el, sc, e' => match e' with
    | .ListComp el' [⟨tg, iter, ifs', 0⟩] scope _ => chkS T N src sc iter tg && blkC N sc scope (ownP N own) && chkTg N scope (relS scope sc) t tg && t.ids.all own.contains && chkIf T N ifs (relS scope sc) ifs' && chkE T N el (relS scope sc) el'
    | _ => false
/-- what is walked -/
def chkS (T : Tab) (N : List Str) : E → Scope → Expr → Expr → Bool
  | .rng1 a, sc, e', _ => match e' with | .Call (.Name x _) [a'] [] _ => decide (x = ("range" : Str)) && T.bts.contains "range" && glB sc x && chkE T N a sc a' | _ => false
  | .rng2 a b, sc, e', _ => match e' with | .Call (.Name x _) [a', b'] [] _ => decide (x = ("range" : Str)) && T.bts.contains "range" && glB sc x && chkE T N a sc a' && chkE T N b sc b' | _ => false
  | .rngd a b, sc, e', _ => match e' with | .Call (.Name x _) [a', b', .UnaryOp .USub (.Constant (.int st) _ _) _] [] _ => decide (x = ("range" : Str)) && decide (st = 1) && T.bts.contains "range" && glB sc x && chkE T N a sc a' && chkE T N b sc b' | _ => false
  | .zip a b, sc, e', tg => match e' with | .Call (.Name x _) [a', b'] [] _ => decide (x = ("zip" : Str)) && T.bts.contains "zip" && glB sc x && chkE T N a sc a' && chkE T N b sc b' && isTuple tg | _ => false
  | .var i, sc, e', _ => match e' with | .Name x _ => decide (N[i]? = some x) && visB sc x | _ => false
  | .glob n, sc, e', _ => match e' with | .Name x _ => T.hasGl n x && glB sc x | _ => false
  | .idx a b, sc, e', _ => match e' with | .Subscript a' b' _ => chkE T N a sc a' && chkE T N b sc b' && notSlice b' | _ => false
  | .slc a lo hi, sc, e', _ => match e' with | .Subscript a' (.Slice lo' hi' none _) _ => chkE T N a sc a' && chkO T N lo sc lo' && chkO T N hi sc hi' | _ => false
  | .lst l, sc, e', _ => match e' with | .List es _ => chkL T N l sc es | _ => false
  | .tup l, sc, e', _ => match e' with | .Tuple es _ _ => chkL T N l sc es | _ => false
  | .bin o a b, sc, e', _ => match e' with | .BinOp a' o' b' _ => decide (o = o') && chkE T N a sc a' && chkE T N b sc b' | _ => false
  | .fld f a, sc, e', _ => match e' with | .Attribute a' f' _ => decide (f = f') && chkE T N a sc a' && plainBase a' | _ => false
  | .call _ f l, sc, e', _ => match e' with | .Call (.Name x _) es [] _ => T.hasFn f x l.length && glB sc x && chkL T N l sc es | _ => false
  | .fn n l, sc, e', _ => match e' with | .Call (.Name x _) es [] _ => decide (Str.ofString n = x) && T.bts.contains n && fnNames.contains n && glB sc x && chkL T N l sc es && decide (0 < l.length) | _ => false
  | .ty n l, sc, e', _ => match e' with | .Call (.Name x _) es [] _ => decide (Str.ofString n = x) && T.bts.contains n && tyNames.contains n && glB sc x && chkL T N l sc es && decide (0 < l.length) | _ => false
  | .sm n a b, sc, e', _ => match e' with | .Call (.Attribute a' m ap) [b'] [] cp => decide (m = Str.ofString n) && txmNames.contains n && chkE T N a sc a' && chkE T N b sc b' && (ap.endLine == cp.line) && plainBase a' | _ => false
  | .meth _ m a l, sc, e', _ => match e' with | .Call (.Attribute a' m' ap) es [] cp => decide (m = m') && T.okMt m (l.length + 1) && chkE T N a sc a' && plainBase a' && (ap.endLine == cp.line) && chkL T N l sc es && decide (l.length < 20) | _ => false
  | _, _, _, _ => false
def chkL (T : Tab) (N : List Str) : List E → Scope → List Expr → Bool
  | [], _, [] => true
  | e :: es, sc, e' :: es' => chkE T N e sc e' && chkL T N es sc es'
  | _, _, _ => false
def chkO (T : Tab) (N : List Str) : Option E → Scope → Option Expr → Bool
  | none, _, none => true
  | some e, sc, some e' => chkE T N e sc e'
  | _, _, _ => false
def chkIf (T : Tab) (N : List Str) : Option E → Scope → List Expr → Bool
  | none, _, [] => true
  | some e, sc, [e'] => chkE T N e sc e'
  | _, _, _ => false
end
end GS
end

noncomputable section
namespace GS
open PySem L2
structure Glo (M : Sem) (P : Program) (w : World) (K : PySem.W.Frag) (C : Nat → Addr) (mg : Str → Option Value) (base : Heap) (k : Nat) : Prop where
  fn : ∀ f x n, (f, x, n) ∈ M.T.fns → ∃ fa, mg x = some (.ref fa) ∧ PySem.W.keepIn K (.ref fa) = true ∧ FnAt P w K C mg base k n (M.Φ f) fa
  gl : ∀ n x, (n, x) ∈ M.T.gls → ∃ v u, mg x = some u ∧ RelV v u ∧ ∀ z, Rep K C z (M.Γ n) v
  bt : ∀ n ∈ M.T.bts, mg (Str.ofString n) = none
  cl : ∀ c x i n, (c, x, i, n) ∈ M.T.cls → mg x = some (.ref (C c)) ∧ ∃ fa, Mk K (C c) fa ∧ FnAt P w K C mg base k n (M.Φ i) fa
  mt : ∀ c m g n, (c, m, g, n) ∈ M.T.mtl → Cls K (C c) ∧ ∃ fa, Meth K (C c) m fa ∧ FnAt P w K C mg base k n (M.Φ g) fa
  fl : ∀ c f, (c, f) ∈ M.T.fll → Cls K (C c) ∧ NoAttr K (C c) f
  xc : ∀ c x l n, (c, x, l, n) ∈ M.T.xcl → XCls P w K mg base x (C c) l n
  lv : 1 ≤ k
  tb : ∀ i, C (1000000 + 2 * i) ≠ 0 → GxR.TabB base mg (C (1000001 + 2 * i)) (C (1000000 + 2 * i))
  see : ∀ c x l n, (c, x, l, n) ∈ M.T.xcl → XSee K (C c) ∧ ∀ p ∈ l, PySem.W.findIn K (.ref (C c)) p.1 = some none
  nm : ∀ c x, (c, x) ∈ M.T.xnm → mg x = some (.ref (C c))
  sub : ∀ j c b, (j, c, b) ∈ M.T.sub → PySem.W.kitOne K (.ref (C j)) (.ref (C c)) = some b ∧ PySem.W.exmOne K (.ref (C j)) (.ref (C c)) = some b
structure XOk (X : Cx) (c : Ctx) (N : List Str) (sc : Scope) (k : Nat) : Prop where
  hN : X.N = N
  nd : N.Nodup
  hsc : X.env.scope = sc
  hK : X.K = c.K
  calm : X.calm = true
  tk : Takes X c.W
  room : Room (k + 1) X.A
  fr : L2.FrOk X c.W
  cod : genName ∈ N → ∃ i, c.C (1000000 + 2 * i) ≠ 0 ∧ X.env.code = .ref (c.C (1000001 + 2 * i))
abbrev GloX (M : Sem) (X : Cx) (c : Ctx) (k : Nat) : Prop := Glo M X.prog X.w X.K c.C X.mg X.base k

/-! ### what the checks say -/
theorem ands3 {a b c : Bool} (h : (a && b && c) = true) : a = true ∧ b = true ∧ c = true := by simp only [Bool.and_eq_true] at h; exact ⟨h.1.1, h.1.2, h.2⟩
theorem nameB_ok {x : Str} (h : nameB x = true) : (x == ("__debug__" : Str)) = false ∧ (x == ("__classdict__" : Str)) = false ∧ x ≠ "__name__" := by
  unfold nameB at h
  simp only [Bool.and_eq_true, Bool.not_eq_true'] at h
  exact ⟨h.1.1, h.1.2, by have := h.2; simpa using this⟩
theorem visB_ok {sc : Scope} {x : Str} (h : visB sc x = true) : Vis sc x ∧ (x == ("__debug__" : Str)) = false ∧ (x == ("__classdict__" : Str)) = false := by
  unfold visB at h
  rw [Bool.and_eq_true] at h
  obtain ⟨h1, h2, _⟩ := And.intro h.1 (nameB_ok h.2)
  refine ⟨?_, h2, (nameB_ok h.2).2.1⟩
  unfold Vis
  split at h1 <;> simp_all
theorem glB_ok {sc : Scope} {x : Str} (h : glB sc x = true) : sc.names.lookup x = some .globalImplicit ∧ (x == ("__debug__" : Str)) = false ∧ x ≠ "__name__" := by
  unfold glB at h
  rw [Bool.and_eq_true] at h
  refine ⟨?_, (nameB_ok h.2).1, (nameB_ok h.2).2.2⟩
  have h1 := h.1
  split at h1 <;> simp_all
theorem locB_ok {sc : Scope} {x : Str} (h : locB sc x = true) : L2.Loc sc x := by
  unfold locB at h
  unfold L2.Loc
  split at h <;> simp_all
theorem star_of {e : Expr} (h : plainArg e = true) (es : List Expr) (env : Env) : starEach (e :: es) env = (false, eval e env) :: starEach es env := by
  cases e <;> first | rfl | cases h
theorem plainIx_of {e : Expr} (h : notSlice e = true) : PlainIx e := by
  intro o i
  cases e <;> first | rfl | cases h
theorem folded_of {e : Expr} (h : notSet e = true) (env : Env) (x : Value) : foldedSetIterable e env x = pure x := by
  cases e <;> first | rfl | cases h
theorem base_of {e : Expr} (h : plainBase e = true) (m : Str) (env : Env) : attributeBase e m env (eval e env) = eval e env := by
  cases e with
  | Call f args kws pos =>
    cases args with
    | nil => cases f <;> first | (cases h; done) | (cases kws <;> rfl)
    | cons a r =>
      cases f <;> cases kws <;> rfl
  | _ => rfl
theorem boot_fn {n : String} (h : fnNames.contains n = true) : bootBuiltins (Str.ofString n) = some (.builtin n) := by
  have h : n ∈ fnNames := by simpa using h
  simp only [fnNames, List.mem_cons, List.not_mem_nil, or_false] at h
  rcases h with rfl | rfl | rfl | rfl | rfl | rfl | rfl | rfl <;> decide +kernel
theorem boot_ty {n : String} (h : tyNames.contains n = true) : bootBuiltins (Str.ofString n) = some (.type n) := by
  have h : n ∈ tyNames := by simpa using h
  simp only [tyNames, List.mem_cons, List.not_mem_nil, or_false] at h
  rcases h with rfl | rfl | rfl | rfl <;> decide +kernel
theorem boot_isa {n : String} (h : isaNames.contains n = true) : bootBuiltins (Str.ofString n) = some (.type n) := by
  have h : n ∈ isaNames := by simpa using h
  simp only [isaNames, List.mem_cons, List.not_mem_nil, or_false] at h
  rcases h with rfl | rfl | rfl | rfl | rfl <;> decide +kernel
theorem star_any (pos : Pos) (env : Env) : ∀ {es : List Expr}, (∀ e ∈ es, plainArg e = true) → (backTo pos (starEach es env)).any (·.1) = false
  | [], _ => rfl
  | e :: es, h => by
    rw [star_of (h e List.mem_cons_self)]
    have ih := star_any pos env (es := es) fun e' h' => h e' (List.mem_cons_of_mem _ h')
    unfold backTo at ih ⊢
    simpa using ih
theorem form_of {es : List Expr} {pos : Pos} {env : Env} (h : ∀ e ∈ es, plainArg e = true) (hl : es.length < 20) : methodCallForm (es.length + ([] : List Keyword).length) (backTo pos (starEach es env)) (backToKw pos (keywordEach [] env)) = true := by
  have h1 := star_any pos env h
  have h2 : (backTo pos (starEach es env)).all (fun x => !x.1) = true := by
    rw [List.all_eq_true]
    intro x hx
    rw [List.any_eq_false] at h1
    have := h1 x hx
    simpa using this
  unfold methodCallForm
  rw [h2]
  show (true && true && decide (es.length + 0 + 0 < 30)) = true
  rw [Bool.true_and, Bool.true_and, decide_eq_true_eq]
  omega
theorem hasFn_ok {T : Tab} {f n : Nat} {x : Str} (h : T.hasFn f x n = true) : (f, x, n) ∈ T.fns := by
  unfold Tab.hasFn at h
  obtain ⟨⟨a, b, c⟩, h1, h2⟩ := List.any_eq_true.mp h
  simp only [Bool.and_eq_true, decide_eq_true_eq] at h2
  obtain ⟨⟨rfl, rfl⟩, rfl⟩ := h2
  exact h1
theorem hasGl_ok {T : Tab} {f : Nat} {x : Str} (h : T.hasGl f x = true) : (f, x) ∈ T.gls := by
  unfold Tab.hasGl at h
  obtain ⟨⟨a, b⟩, h1, h2⟩ := List.any_eq_true.mp h
  simp only [Bool.and_eq_true, decide_eq_true_eq] at h2
  obtain ⟨rfl, rfl⟩ := h2
  exact h1
theorem hasCl_ok {T : Tab} {f n : Nat} {x : Str} (h : T.hasCl f x n = true) : (f, x, T.ini f, n) ∈ T.cls := by
  unfold Tab.hasCl at h
  split at h
  · rename_i y q
    have hm := List.mem_of_find?_eq_some q
    have hp := List.find?_some q
    obtain ⟨a, b, c, d⟩ := y
    simp only [Bool.and_eq_true, decide_eq_true_eq] at h hp
    obtain ⟨rfl, rfl⟩ := h
    subst hp
    have : T.ini a = c := by unfold Tab.ini; rw [q]; rfl
    rw [this]
    exact hm
  · cases h
theorem mt_mem {T : Tab} {c g : Nat} {m : Str} (h : T.mt c m = some g) : ∃ n, (c, m, g, n) ∈ T.mtl := by
  unfold Tab.mt at h
  obtain ⟨⟨a, b, d, e⟩, h1, h2⟩ := Option.map_eq_some_iff.mp h
  have hm := List.mem_of_find?_eq_some h1
  have hp := List.find?_some h1
  simp only [Bool.and_eq_true, decide_eq_true_eq] at hp h2
  obtain ⟨rfl, rfl⟩ := hp
  subst h2
  exact ⟨e, hm⟩
theorem okMt_ok {T : Tab} {m : Str} {n c g k : Nat} (h : T.okMt m n = true) (hm : (c, m, g, k) ∈ T.mtl) : k = n := by
  unfold Tab.okMt at h
  have := List.all_eq_true.mp h _ hm
  simpa using this
theorem fl_mem {T : Tab} {c : Nat} {f : Str} (h : T.fl c f = true) : (c, f) ∈ T.fll := by
  unfold Tab.fl at h
  obtain ⟨⟨a, b⟩, h1, h2⟩ := List.any_eq_true.mp h
  simp only [Bool.and_eq_true, decide_eq_true_eq] at h2
  obtain ⟨rfl, rfl⟩ := h2
  exact h1

/-! ### a text is what it says -/
structure SE (X : Cx) (c : Ctx) (M : Sem) (e : E) (e' : Expr) : Prop where
  v : PE X e' (tG c (rD c) (evE M e))
  t : PT X e' (tG c rB (evT (evE M e)))
  p : plainArg e' = true
structure SI (X : Cx) (c : Ctx) (M : Sem) (e : E) (e' tg : Expr) : Prop where
  r : PI X tg e' (tI c fun ρ m => (evE M e ρ m).bind srcD)
  s : notSet e' = true
structure SL (X : Cx) (c : Ctx) (M : Sem) (l : List E) (es : List Expr) : Prop where
  v : PA X es (tG c (rL c) (evL M l))
  p : ∀ e ∈ es, plainArg e = true
  len : es.length = l.length
section
variable {M : Sem} {N : List Str} {k : Nat} {X : Cx} {c : Ctx} {sc : Scope}
theorem SE.of {e : E} {e' : Expr} (h : PE X e' (tG c (rD c) (evE M e))) (he : ∀ whole, isTrue e' X.env whole = (do let v ← whole; standAt e'.pos; holding [v] (truthy v))) (p : plainArg e' = true) : SE X c M e e' :=
  ⟨h, pt_valD h he, p⟩
theorem SE.si (hK : X.K = c.K) {e : E} {e' tg : Expr} (h : SE X c M e e') (s : notSet e' = true) : SI X c M e e' tg := ⟨pi_anyD hK h.v, s⟩
theorem XOk.gl (O : XOk X c N sc k) {x : Str} (h : glB sc x = true) : Gl X x := by
  show X.env.scope.names.lookup x = _
  rw [O.hsc]
  exact (glB_ok h).1
theorem XOk.vis (O : XOk X c N sc k) {x : Str} (h : visB sc x = true) : Vis X.env.scope x := by
  rw [O.hsc]
  exact (visB_ok h).1
theorem XOk.hu (O : XOk X c N sc k) : X.A.units + 70 < cLine := by have := O.room.un; omega
theorem XOk.rm (O : XOk X c N sc k) : Room k X.A := O.room.mono (Nat.le_succ k)
theorem blk_ok {scope : Scope} (O : XOk X c N sc k) (s : Shared) (H : Hp) (C : Addr) (cl : List (Str × Addr)) (fp : List Addr) : XOk (X.blk s H scope (compEnvC scope cl C X.env) fp) c.calm N (relS scope sc) k :=
  ⟨O.hN, O.nd, by rw [← O.hsc]; rfl, O.hK, O.calm, takes0, O.room, by
    obtain ⟨E0, O0, L0, h1, h2, h3, _⟩ := O.fr
    refine ⟨E0, O0, L0, h1, h2, h3, fun u s' x => ?_⟩
    obtain ⟨_, _, _, _, _, _, _, _, _, _, _, _, _, _, _, _, w⟩ := x
    exact w.elim, O.cod⟩
theorem blkE_ok {scope : Scope} (O : XOk X c N sc k) (σ : L2.St) (s : Shared) (H : Hp) (C : Addr) (cl : List (Str × Addr)) (fp : List Addr) (pn : List (Addr × Obj)) (xe : Value → Shared → Prop) (tk : Takes ((X.blk s H scope (compEnvC scope cl C X.env) fp).tr pn xe) (L2.WB c.W σ)) (fr : L2.FrOk ((X.blk s H scope (compEnvC scope cl C X.env) fp).tr pn xe) (L2.WB c.W σ)) : XOk ((X.blk s H scope (compEnvC scope cl C X.env) fp).tr pn xe) (c.blk σ) N (relS scope sc) k :=
  ⟨O.hN, O.nd, by rw [← O.hsc]; rfl, O.hK, O.calm, tk, O.room, fr, O.cod⟩
theorem tg1_ok {scope : Scope} {i : Nat} {tg : Expr} (hfn : ∀ x, (scope.names.lookup x == some .cell) = true → X.fn x = true) (O : XOk X c N sc k) (h : chkTg1 N scope sc i tg = true) : PG X tg (gName i) := by
  cases tg with
  | Name x pos =>
    unfold chkTg1 at h
    obtain ⟨h1, h3⟩ := and2 h
    obtain ⟨h1, h2⟩ := and2 h1
    refine pg_name (by rw [O.hN]; exact O.nd) (by rw [O.hN]; exact of_decide_eq_true h1) (by rw [O.hsc]; exact locB_ok h2) ?_
    rw [Bool.or_eq_true] at h3
    rcases h3 with h3 | h3
    · exact .inl (hfn x h3)
    · exact .inr (by rw [O.hsc]; simpa using h3)
  | _ => cases h
theorem tgs_ok {scope : Scope} (hfn : ∀ x, (scope.names.lookup x == some .cell) = true → X.fn x = true) (O : XOk X c N sc k) : ∀ {is : List Nat} {es : List Expr}, chkTgs N scope sc is es = true → PGs X es (gNames is) ∧ (assignEach es X.env).length = is.length ∧ (assignEach es X.env).findIdx? (·.1) = none
  | [], [], _ => ⟨pgs_nil, rfl, rfl⟩
  | i :: is, e :: es, h => by
    unfold chkTgs at h
    obtain ⟨h1, h2⟩ := and2 h
    obtain ⟨q1, q2, q3⟩ := tgs_ok hfn O h2
    have pl : assignEach (e :: es) X.env = (false, assign e X.env) :: assignEach es X.env := by
      cases e <;> first | rfl | cases h1
    refine ⟨pgs_cons (tg1_ok hfn O h1) q1 (by rw [pl]; rfl), by rw [pl]; simp [q2], by rw [pl]; simp [List.findIdx?_cons, q3]⟩
  | [], _ :: _, h => by cases h
  | _ :: _, [], h => by cases h
theorem tg_ok {scope : Scope} {t : Tg} {tg : Expr} (hfn : ∀ x, (scope.names.lookup x == some .cell) = true → X.fn x = true) (O : XOk X c N sc k) (h : chkTg N scope sc t tg = true) : PG X tg (gT c.K t) := by
  cases t with
  | one i => exact tg1_ok hfn O h
  | many is =>
    cases tg with
    | Tuple es kk pos =>
      obtain ⟨q1, q2, q3⟩ := tgs_ok hfn O (show chkTgs N scope sc is es = true from h)
      rw [← O.hK]
      exact pg_tup O.calm q1 q2 q3
    | _ => cases h
theorem own_snd (N : List Str) (own : List Nat) : (ownP N own).map (·.2) = own := by
  unfold ownP
  rw [List.map_map]
  induction own with
  | nil => rfl
  | cons a r ih => simp only [List.map_cons, Function.comp]; rw [List.cons.injEq]; exact ⟨rfl, ih⟩
theorem evL_len (M : Sem) : ∀ (l : List E) (ρ : List D) (m : List Cell) (ds : List D) (m' : List Cell), evL M l ρ m = .ok ds m' → ds.length = l.length
  | [], ρ, m, ds, m', h => by
    have h : R.ok ([] : List D) m = .ok ds m' := h
    cases h; rfl
  | e :: es, ρ, m, ds, m', h => by
    have h : ((evE M e ρ m).bind fun x m => (evL M es ρ m).bind fun xs m => R.ok (x :: xs) m) = .ok ds m' := h
    obtain ⟨x, m1, h1, h⟩ := R.bind_ok_inv h
    obtain ⟨xs, m2, h2, h⟩ := R.bind_ok_inv h
    cases h
    simp [evL_len M es ρ m1 xs _ h2]
theorem call_args {l : List E} {es : List Expr} (h : SL X c M l es) (hl : 0 < l.length) : ∃ e r, es = e :: r := by
  cases es with
  | nil => have := h.len; simp at this; omega
  | cons e r => exact ⟨e, r, rfl⟩
theorem sound_call (O : XOk X c N sc k) (G : GloX M X c k) {pu : Bool} {f : Nat} {l : List E} {x : Str} {p pos : Pos} {es : List Expr} (h : SL X c M l es) (h1 : M.T.hasFn f x l.length = true) (h3 : glB sc x = true) :
    PE X (.Call (.Name x p) es [] pos) (tG c (rD c) (evCall pu (evL M l) (M.Φ f))) := by
  obtain ⟨fa, g1, g2, g3⟩ := G.fn f x _ (hasFn_ok h1)
  cases es with
  | nil =>
    have hl0 : l = [] := List.length_eq_zero_iff.mp h.len.symm
    subst hl0
    exact pe_call0D O.hK O.tk O.rm g3 g1 g2 (O.gl h3) (glB_ok h3).2.1
  | cons e r => exact pe_callD O.hK O.tk O.rm g3 g1 g2 (O.gl h3) h.v (evL_len M l) (glB_ok h3).2.1 (star_of (h.p _ List.mem_cons_self) _ _) (star_any _ _ fun e' he => h.p _ (List.mem_cons_of_mem _ he))
theorem sound_make (O : XOk X c N sc k) (G : GloX M X c k) {cl : Nat} {l : List E} {x : Str} {p pos : Pos} {es : List Expr} (h : SL X c M l es) (h1 : M.T.hasCl cl x (l.length + 1) = true) (h3 : glB sc x = true) (h5 : 0 < l.length) :
    PE X (.Call (.Name x p) es [] pos) (tG c (rD c) (evMake cl (evL M l) (M.Φ (M.T.ini cl)))) := by
  obtain ⟨e, r, rfl⟩ := call_args h h5
  obtain ⟨g1, fa, g2, g3⟩ := G.cl cl x _ _ (hasCl_ok h1)
  exact pe_makeD O.hK O.tk O.room g2 g3 g1 (O.gl h3) h.v (fun ρ m ds m' q => by rw [evL_len M l ρ m ds m' q]) (glB_ok h3).2.1 (star_of (h.p _ List.mem_cons_self) _ _) (star_any _ _ fun e' he => h.p _ (List.mem_cons_of_mem _ he))
theorem hasX_ok {T : Tab} {f n : Nat} {x : Str} (h : T.hasX f x n = true) : (f, x, T.xl f, n) ∈ T.xcl := by
  unfold Tab.hasX at h
  split at h
  · rename_i y q
    have hm := List.mem_of_find?_eq_some q
    have hp := List.find?_some q
    obtain ⟨a, b, c, d⟩ := y
    simp only [Bool.and_eq_true, decide_eq_true_eq] at h hp
    obtain ⟨rfl, rfl⟩ := h
    subst hp
    have : T.xl a = c := by unfold Tab.xl; rw [q]; rfl
    rw [this]
    exact hm
  · cases h
theorem sound_raise (O : XOk X c N sc k) (G : GloX M X c k) {cl : Nat} {l : List E} {x : Str} {p pos pos' : Pos} {es : List Expr} (h : SL X c M l es) (h1 : M.T.hasX cl x (l.length + 1) = true) (h3 : glB sc x = true) (h6 : l.length < 900) :
    PS X (.Raise (some (.Call (.Name x p) es [] pos)) none pos') (tS c (sRaise cl (M.T.xl cl) (evL M l))) := by
  by_cases h5 : 0 < l.length
  · obtain ⟨e, r, rfl⟩ := call_args h h5
    exact ps_raiseD O.hK O.calm O.tk (O.room.mono (by have := G.lv; omega)) (G.xc cl x _ _ (hasX_ok h1)) (O.gl h3) h.v (fun ρ m ds m' q => by rw [evL_len M l ρ m ds m' q]) (by omega) (by omega) (glB_ok h3).2.1 (star_of (h.p _ List.mem_cons_self) _ _) (star_any _ _ fun e' he => h.p _ (List.mem_cons_of_mem _ he))
  · have hl : l = [] := List.length_eq_zero_iff.mp (by omega)
    subst hl
    have he : es = [] := List.length_eq_zero_iff.mp h.len
    subst he
    exact ps_raise0 O.hK O.calm O.tk (G.xc cl x _ _ (hasX_ok h1)) (O.gl h3) (glB_ok h3).2.1 (fun _ _ => rfl)
theorem sound_meth (O : XOk X c N sc k) (G : GloX M X c k) {pu : Bool} {m : Str} {a : E} {a' : Expr} {l : List E} {ap pos : Pos} {es : List Expr} (ha : SE X c M a a') (h : SL X c M l es) (h1 : M.T.okMt m (l.length + 1) = true) (h3 : plainBase a' = true) (h5 : l.length < 20) (hl : (ap.endLine == pos.line) = true) :
    PE X (.Call (.Attribute a' m ap) es [] pos) (tG c (rD c) (evMeth pu M.T.mt M.Φ m (evE M a) (evL M l))) := by
  cases es with
  | nil =>
    have hl0 : l = [] := List.length_eq_zero_iff.mp h.len.symm
    subst hl0
    refine pe_meth0D O.hK O.tk O.rm (fun cl g q => ?_) ha.v (base_of h3 _ _) hl
    obtain ⟨n, hn⟩ := mt_mem q
    obtain ⟨k1, fa, k2, k3⟩ := G.mt cl m g n hn
    obtain rfl := okMt_ok h1 hn
    exact ⟨k1, fa, k2, k3⟩
  | cons e r =>
    have hlen : (e :: r).length < 20 := by rw [h.len]; exact h5
    refine pe_methD O.hK O.tk O.rm (fun cl g q => ?_) ha.v h.v (base_of h3 _ _) (form_of h.p hlen) hl (star_of (h.p _ List.mem_cons_self) _ _) (star_any _ _ fun e' he => h.p _ (List.mem_cons_of_mem _ he))
    obtain ⟨n, hn⟩ := mt_mem q
    obtain ⟨k1, fa, k2, k3⟩ := G.mt cl m g n hn
    obtain rfl := okMt_ok h1 hn
    exact ⟨k1, fa, _, k2, k3, fun ρ m ds m' q => by rw [evL_len M l ρ m ds m' q]⟩
theorem sound_fn (O : XOk X c N sc k) (G : GloX M X c k) {n : String} {l : List E} {x : Str} {p pos : Pos} {es : List Expr} (h : SL X c M l es) (h1 : Str.ofString n = x) (h2 : M.T.bts.contains n = true) (h6 : fnNames.contains n = true) (h3 : glB sc x = true) (h5 : 0 < l.length) :
    PE X (.Call (.Name x p) es [] pos) (tG c (rD c) (evFn (evL M l) (fnD n))) := by
  obtain ⟨e, r, rfl⟩ := call_args h h5
  subst h1
  exact pe_fnD O.calm O.hu O.hK (O.gl h3) (G.bt n (by simpa using h2)) (boot_fn h6) h.v (glB_ok h3).2.2 (glB_ok h3).2.1 (star_of (h.p _ List.mem_cons_self) _ _) (star_any _ _ fun e' he => h.p _ (List.mem_cons_of_mem _ he))
theorem sound_ty (O : XOk X c N sc k) (G : GloX M X c k) {n : String} {l : List E} {x : Str} {p pos : Pos} {es : List Expr} (h : SL X c M l es) (h1 : Str.ofString n = x) (h2 : M.T.bts.contains n = true) (h6 : tyNames.contains n = true) (h3 : glB sc x = true) (h5 : 0 < l.length) :
    PE X (.Call (.Name x p) es [] pos) (tG c (rD c) (evFn (evL M l) (tyD n))) := by
  obtain ⟨e, r, rfl⟩ := call_args h h5
  subst h1
  exact pe_tyD O.calm O.hK (O.gl h3) (G.bt n (by simpa using h2)) (boot_ty h6) h.v (glB_ok h3).2.2 (glB_ok h3).2.1 (star_of (h.p _ List.mem_cons_self) _ _) (star_any _ _ fun e' he => h.p _ (List.mem_cons_of_mem _ he))
theorem sound_listN (O : XOk X c N sc k) (G : GloX M X c k) {l : List E} {x : Str} {p pos : Pos} {es : List Expr} (h : SL X c M l es) (h1 : Str.ofString "list" = x) (h2 : M.T.bts.contains "list" = true) (h3 : glB sc x = true) (h5 : 0 < l.length) :
    PE X (.Call (.Name x p) es [] pos) (tN c (evFn (evL M l) (tyD "list"))) := by
  obtain ⟨e, r, rfl⟩ := call_args h h5
  subst h1
  exact pe_listN O.calm O.hK (O.gl h3) (G.bt "list" (by simpa using h2)) (boot_ty (by decide)) h.v (glB_ok h3).2.2 (glB_ok h3).2.1 (star_of (h.p _ List.mem_cons_self) _ _) (star_any _ _ fun e' he => h.p _ (List.mem_cons_of_mem _ he))
theorem sound_sortedN (O : XOk X c N sc k) (G : GloX M X c k) {l : List E} {x : Str} {p pos : Pos} {es : List Expr} (h : SL X c M l es) (h1 : Str.ofString "sorted" = x) (h2 : M.T.bts.contains "sorted" = true) (h3 : glB sc x = true) (h5 : 0 < l.length) :
    PE X (.Call (.Name x p) es [] pos) (tN c (evFn (evL M l) (fnD "sorted"))) := by
  obtain ⟨e, r, rfl⟩ := call_args h h5
  subst h1
  exact pe_sortedN O.calm (O.gl h3) (G.bt "sorted" (by simpa using h2)) (boot_fn (by decide)) h.v (glB_ok h3).2.2 (glB_ok h3).2.1 (star_of (h.p _ List.mem_cons_self) _ _) (star_any _ _ fun e' he => h.p _ (List.mem_cons_of_mem _ he))
theorem sound_dict (O : XOk X c N sc k) (G : GloX M X c k) {l : List E} {p pos : Pos} {es : List Expr} (h : SL X c M l es) (h2 : M.T.bts.contains "dict" = true) (h3 : glB sc ("dict" : Str) = true) (h5 : 0 < l.length) :
    PE X (.Call (.Name "dict" p) es [] pos) (tG c (rD c) (evOwn (evFn (evL M l) dictDs))) := by
  obtain ⟨e, r, rfl⟩ := call_args h h5
  exact pe_dictD O.calm O.hK (O.gl h3) (G.bt "dict" (by simpa using h2)) (by decide +kernel) h.v (glB_ok h3).2.2 (glB_ok h3).2.1 (star_of (h.p _ List.mem_cons_self) _ _) (star_any _ _ fun e' he => h.p _ (List.mem_cons_of_mem _ he))
theorem sound_glob (O : XOk X c N sc k) (G : GloX M X c k) {n : Nat} {x : Str} {pos : Pos} (h2 : M.T.hasGl n x = true) (h3 : glB sc x = true) : PE X (.Name x pos) (tG c (rD c) fun _ m => .ok (M.Γ n) m) := by
  obtain ⟨v, u, q1, q2, q3⟩ := G.gl n x (hasGl_ok h2)
  rw [O.hK] at q3
  exact pe_conD (pe_glob (O.gl h3) q1 q2 (glB_ok h3).2.1) q3
theorem sound_isA (O : XOk X c N sc k) (G : GloX M X c k) {t : String} {a : Expr} {f : List D → List Cell → R D} {p p2 pos : Pos} {y : Str} (hy : y = Str.ofString t) (ha : PE X a (tG c (rD c) f)) (pa : plainArg a = true) (h1 : M.T.bts.contains "isinstance" = true) (h2 : M.T.bts.contains t = true) (h3 : isaNames.contains t = true) (g1 : glB sc "isinstance" = true) (g2 : glB sc y = true) :
    PE X (.Call (.Name "isinstance" p) [a, .Name y p2] [] pos) (tG c (rD c) (ev1 f (isD t))) := by
  subst hy
  have hb : PE X (.Name (Str.ofString t) p2) (tC (.ty t)) := pe_bltn (O.gl g2) (G.bt _ (by simpa using h2)) (boot_isa h3) rfl (glB_ok g2).2.2 (glB_ok g2).2.1
  refine (pe_callB call_isi (O.gl g1) (G.bt "isinstance" (by simpa using h1)) (by decide +kernel) (pa_cons ha (pa_cons hb pa_nil rfl) (star_of pa _ _)) (by decide) (by decide) (star_of pa _ _) rfl).imp fun σ H Q A => ?_
  obtain ⟨ρ, m, z, S, A⟩ := seq1 A
  refine ⟨ρ, m, z, S, A.imp fun x H1 ⟨ρ1, m1, z1, σ1, d, S1, hd, A0⟩ => ?_⟩
  obtain ⟨b, eb, A1⟩ := A0.of
  clear A0
  obtain ⟨u, hu, eb⟩ := Option.bind_eq_some_iff.mp eb
  obtain ⟨kk, hk, rfl⟩ := Option.map_eq_some_iff.mp eb
  exact ⟨x, .ty t, .type u, .type t, kk, rfl, .ty t, ty_of O.hK S1 hu hd, kit_ty hk, A1.ret S1 rfl⟩
theorem pi_congr {tg e : Expr} {f g : List D → List Cell → R (List D × Keep)} (h : PI X tg e (tI c f)) (e1 : ∀ ρ m, g ρ m = f ρ m) : PI X tg e (tI c g) := by
  have : g = f := funext fun ρ => funext fun m => e1 ρ m
  rw [this]; exact h
theorem pi_rng1D {a tg : Expr} {f : List D → List Cell → R D} {p pos : Pos} (hg : Gl X "range") (hm : X.mg "range" = none) (ha : PE X a (tG c (rD c) f)) (hs : plainArg a = true) :
    PI X tg (.Call (.Name "range" p) [a] [] pos) (tI c fun ρ m => (ev1 f rng1D ρ m).bind srcD) := (pi_range1 hg hm (pa_cons ha pa_nil (star_of hs [] _)) (star_of hs [] _)).imp fun σ H R' ⟨ρ, m, z, S, A⟩ => by
  refine ⟨ρ, m, z, S, ?_⟩
  unfold ev1 at A
  dsimp only at A
  generalize f ρ m = q at A ⊢
  cases q with
  | stuck => exact A
  | exc k fs m' => exact A
  | ok d m' =>
    intro x H1 z1 S1 g1 q1
    have q1 := res_ok S1.st q1
    rw [R.bind_ok] at A
    generalize res m' d = dd at A q1
    cases qr : rng1D dd with
    | none => rw [qr] at A; exact A.elim
    | some e =>
      rw [qr] at A
      unfold rng1D at qr
      split at qr
      · obtain ⟨hj, qr⟩ := if_some qr
        cases qr
        obtain rfl : x = .int _ := q1
        have hj := cd_iff.mp hj
        exact ⟨_, rfl, hj.1, hj.2, A _ _ _ S1 g1 walk_range⟩
      · cases qr
theorem pi_rng2D {a b tg : Expr} {f g : List D → List Cell → R D} {p pos : Pos} (hg : Gl X "range") (hm : X.mg "range" = none) (ha : PE X a (tG c (rD c) f)) (hb : PE X b (tG c (rD c) g)) (hs : plainArg a = true) (hs2 : plainArg b = true) :
    PI X tg (.Call (.Name "range" p) [a, b] [] pos) (tI c fun ρ m => (ev2 f g rng2D ρ m).bind srcD) := (pi_range2 hg hm (pa_cons ha (pa_cons hb pa_nil (star_of hs2 [] _)) (star_of hs _ _)) ((star_of hs _ _).trans (by rw [star_of hs2 [] _]; rfl)) (star_of hs2 [] _)).imp fun σ H R' ⟨ρ, m, z, S, A⟩ => by
  refine ⟨ρ, m, z, S, ?_⟩
  unfold ev2 at A
  dsimp only at A
  generalize f ρ m = q at A ⊢
  cases q with
  | stuck => exact A
  | exc k fs m' => exact A
  | ok d m' =>
    intro x H1 z1 S1 g1 q1
    rw [R.bind_ok] at A
    refine ⟨ρ, m', z1, S1, ?_⟩
    generalize g ρ m' = q2 at A ⊢
    cases q2 with
    | stuck => exact A
    | exc k fs m2 => exact fun d H' z' S' g' x => A d H' z' S' (g1.trans g') x
    | ok d2 m2 =>
      intro y H2 z2 S2 g2 q2
      rw [R.bind_ok] at A
      have q1 := res_ok S2.st (Rep.mono g2.toLe _ _ q1)
      have q2 := res_ok S2.st q2
      generalize res m2 d = dd at A q1
      generalize res m2 d2 = de at A q2
      cases qr : rng2D dd de with
      | none => rw [qr] at A; exact A.elim
      | some e =>
        rw [qr] at A
        unfold rng2D at qr
        split at qr
        · obtain ⟨hj, qr⟩ := if_some qr
          cases qr
          obtain rfl : x = .int _ := q1
          obtain rfl : y = .int _ := q2
          obtain ⟨h1, h2⟩ := and2 hj
          have h1 := cd_iff.mp h1
          have h2 := cd_iff.mp h2
          exact ⟨_, _, rfl, ⟨h1.1, h1.2, h2.1, h2.2⟩, A _ _ _ S2 (g1.trans g2) walk_range⟩
        · cases qr
theorem pi_rngdD {a b tg : Expr} {f g : List D → List Cell → R D} {p pos p1 p2 : Pos} {kk : Nat} (hg : Gl X "range") (hm : X.mg "range" = none) (ha : PE X a (tG c (rD c) f)) (hb : PE X b (tG c (rD c) g)) (hs : plainArg a = true) (hs2 : plainArg b = true) :
    PI X tg (.Call (.Name "range" p) [a, b, .UnaryOp .USub (.Constant (.int 1) kk p1) p2] [] pos) (tI c fun ρ m => (ev2 f g rngdD ρ m).bind srcD) := by
  have hc : PE X (.UnaryOp .USub (.Constant (.int 1) kk p1) p2) (tG c (rD c) (ev1 (fun _ m => .ok (.int 1) m) negD)) := pe_negD (pe_conD pe_int fun _ => rfl)
  have hpl : (backTo pos (starEach [b, .UnaryOp .USub (.Constant (.int 1) kk p1) p2] X.env)).any (·.1) = false := star_any _ _ fun e he => by
    rcases List.mem_cons.mp he with rfl | he
    · exact hs2
    · rw [List.mem_singleton] at he; subst he; rfl
  refine (pi_range3 hg hm (pa_cons ha (pa_cons hb (pa_cons hc pa_nil rfl) (star_of hs2 _ _)) (star_of hs _ _)) (star_of hs _ _) hpl).imp fun σ H R' ⟨ρ, m, z, S, A⟩ => ?_
  refine ⟨ρ, m, z, S, ?_⟩
  unfold ev2 at A
  dsimp only at A
  generalize f ρ m = q at A ⊢
  cases q with
  | stuck => exact A
  | exc k fs m' => exact A
  | ok d m' =>
    intro x H1 z1 S1 g1 q1
    rw [R.bind_ok] at A
    refine ⟨ρ, m', z1, S1, ?_⟩
    generalize g ρ m' = q2 at A ⊢
    cases q2 with
    | stuck => exact A
    | exc k fs m2 => exact fun d H' z' S' g' x => A d H' z' S' (g1.trans g') x
    | ok d2 m2 =>
      intro y H2 z2 S2 g2 q2
      rw [R.bind_ok] at A
      refine ⟨ρ, m2, z2, S2, ?_⟩
      intro w H3 z3 S3 g3 q3
      obtain rfl : w = .int (-1) := q3
      have q1 := res_ok S3.st (Rep.mono (g2.trans g3).toLe _ _ q1)
      have q2 := res_ok S3.st (Rep.mono g3.toLe _ _ q2)
      generalize res m2 d = dd at A q1
      generalize res m2 d2 = de at A q2
      cases qr : rngdD dd de with
      | none => rw [qr] at A; exact A.elim
      | some e =>
        rw [qr] at A
        unfold rngdD at qr
        split at qr
        · obtain ⟨hj, qr⟩ := if_some qr
          cases qr
          obtain rfl : x = .int _ := q1
          obtain rfl : y = .int _ := q2
          obtain ⟨h1, h2⟩ := and2 hj
          have h1 := cd_iff.mp h1
          have h2 := cd_iff.mp h2
          exact ⟨_, _, _, _, rfl, .neg h1.1 h1.2 h2.1 h2.2, A _ _ _ S3 (g1.trans (g2.trans g3)) walk_down⟩
        · cases qr
theorem zip_get {xs ys : List D} {i : Nat} {d : D} (h : (zipL xs ys)[i]? = some d) : ∃ x y, xs[i]? = some x ∧ ys[i]? = some y ∧ d = .tup [x, y] := by
  unfold zipL at h
  rw [List.getElem?_map] at h
  obtain ⟨p, h1, rfl⟩ := Option.map_eq_some_iff.mp h
  obtain ⟨a, b⟩ := p
  rw [List.getElem?_zip_eq_some] at h1
  exact ⟨a, b, h1.1, h1.2, rfl⟩
theorem zip_len (xs ys : List D) : (zipL xs ys).length = min xs.length ys.length := by unfold zipL; simp
theorem walk_zipT {a b : Addr} {vs ws : List V} {xs ys : List D} {z0 : Fz} (a1 : SqT c.K z0.F a vs) (a2 : c.RepL z0 xs vs) (b1 : SqT c.K z0.F b ws) (b2 : c.RepL z0 ys ws) : Walk c (RZ.ItzT c.K a b) (zipL xs ys) none z0 := fun ρ m z σ H S le _ => by
  have qa := same_seqT S.st.le (same_seqT le.f a1)
  have qb := same_seqT S.st.le (same_seqT le.f b1)
  have ra := RepL.mono le _ _ a2
  have rb := RepL.mono le _ _ b2
  refine ⟨⟨vs, ws, qa, qb, by rw [zip_len, RepL.length a2, RepL.length b2]; omega⟩, fun i d e => ?_⟩
  obtain ⟨x, y, e1, e2, rfl⟩ := zip_get e
  obtain ⟨v, f1, r1⟩ := RepL.get' ra e1
  obtain ⟨w, f2, r2⟩ := RepL.get' rb e2
  refine ⟨⟨vs, ws, v, w, qa, qb, f1, f2⟩, fun u H' ⟨T, x', y', e3, hT, e4, e5, e6⟩ => ?_⟩
  subst e3 e4
  have g1 := e5 vs qa
  have g2 := e6 ws qb
  rw [f1] at g1; cases g1
  rw [f2] at g2; cases g2
  obtain ⟨s2, g⟩ := S.new (.tup [v, w]) hT
  exact ⟨_, s2, g, T, [v, w], rfl, .inl (.inl upd_same), v, [w], rfl, Rep.mono g.toLe _ _ r1, w, [], rfl, Rep.mono g.toLe _ _ r2, rfl⟩
theorem walk_zipL {a b : Addr} {vs ws : List V} {xs ys : List D} {z0 : Fz} (a1 : Rd z0.F a (.lst vs)) (a2 : c.RepL z0 xs vs) (b1 : Rd z0.F b (.lst ws)) (b2 : c.RepL z0 ys ws) : Walk c (Itz c.K a b) (zipL xs ys) none z0 := fun ρ m z σ H S le _ => by
  have qa : SqL c.K H a vs := .inl (same_rd S.st.le (same_rd le.f a1))
  have qb : SqL c.K H b ws := .inl (same_rd S.st.le (same_rd le.f b1))
  have ra := RepL.mono le _ _ a2
  have rb := RepL.mono le _ _ b2
  refine ⟨⟨vs, ws, qa, qb, by rw [zip_len, RepL.length a2, RepL.length b2]; omega⟩, fun i d e => ?_⟩
  obtain ⟨x, y, e1, e2, rfl⟩ := zip_get e
  obtain ⟨v, f1, r1⟩ := RepL.get' ra e1
  obtain ⟨w, f2, r2⟩ := RepL.get' rb e2
  refine ⟨⟨vs, ws, v, w, qa, qb, f1, f2⟩, fun u H' ⟨T, x', y', e3, hT, e4, e5, e6⟩ => ?_⟩
  subst e3 e4
  have g1 := e5 vs qa
  have g2 := e6 ws qb
  rw [f1] at g1; cases g1
  rw [f2] at g2; cases g2
  obtain ⟨s2, g⟩ := S.new (.tup [v, w]) hT
  exact ⟨_, s2, g, T, [v, w], rfl, .inl (.inl upd_same), v, [w], rfl, Rep.mono g.toLe _ _ r1, w, [], rfl, Rep.mono g.toLe _ _ r2, rfl⟩
theorem pi_zipD {a b : Expr} {elts : List Expr} {kk : Nat} {tpos : Pos} {f g : List D → List Cell → R D} {p pos : Pos} (hK : X.K = c.K) (hg : Gl X "zip") (hm : X.mg "zip" = none) (ha : PE X a (tG c (rD c) f)) (hb : PE X b (tG c (rD c) g)) (hs : plainArg a = true) (hs2 : plainArg b = true) :
    PI X (.Tuple elts kk tpos) (.Call (.Name "zip" p) [a, b] [] pos) (tI c fun ρ m => (ev2p f g zipD ρ m).bind srcD) :=
  (RZ.pi_zipA hg hm (pa_cons ha (pa_cons hb pa_nil (star_of hs2 [] _)) (star_of hs _ _)) (star_of hs _ _) (by rw [star_of hs2 [] _]; rfl)).imp fun σ H R' ⟨ρ, m, z, S, A⟩ => by
  refine ⟨ρ, m, z, S, ?_⟩
  unfold ev2p at A
  dsimp only at A
  generalize f ρ m = q at A ⊢
  cases q with
  | stuck => exact A
  | exc k fs m' => exact A
  | ok d m' =>
    intro x H1 z1 S1 g1 q1
    rw [R.bind_ok] at A
    refine ⟨ρ, m', z1, S1, ?_⟩
    generalize g ρ m' = q2 at A ⊢
    cases q2 with
    | stuck => exact A
    | exc k fs m2 => exact fun d H' z' S' g' x => A d H' z' S' (g1.trans g') x
    | ok d2 m2 =>
      intro y H2 z2 S2 g2 q2
      rw [R.bind_ok] at A
      have q1 := Rep.mono g2.toLe _ _ q1
      cases qr : zipD d d2 with
      | none => rw [qr] at A; exact A.elim
      | some e =>
        rw [qr] at A
        unfold zipD at qr
        split at qr
        · cases qr
          obtain ⟨p1, vs, rfl, a1, a2⟩ := q1
          obtain ⟨p2, ws, rfl, b1, b2⟩ := q2
          refine ⟨p1, p2, vs, ws, rfl, .inr ⟨?_, ?_, ?_⟩⟩
          · rw [hK]; exact same_seqT S2.st.le a1
          · rw [hK]; exact same_seqT S2.st.le b1
          · rw [hK]; exact A _ _ _ S2 (g1.trans g2) (walk_zipT a1 a2 b1 b2)
        · cases qr
          obtain ⟨p1, vs, rfl, a1, a2⟩ := q1
          obtain ⟨p2, ws, rfl, b1, b2⟩ := q2
          refine ⟨p1, p2, vs, ws, rfl, .inl ⟨.inl (same_rd S2.st.le a1), .inl (same_rd S2.st.le b1), ?_⟩⟩
          rw [hK]; exact A _ _ _ S2 (g1.trans g2) (walk_zipL a1 a2 b1 b2)
        · cases qr
end
end GS
end

noncomputable section
namespace GS
open PySem PySem.Spec PyProof.Rows L2
section
variable {M : Sem} {N : List Str} {k : Nat} {X : Cx} {c : Ctx} {sc : Scope}
theorem genFold_of {e : Expr} (h : notSet e = true) (h2 : notList e = true) (env : Env) (x : Value) : genFold e env x = pure x := by
  cases e <;> first | (cases h; done) | (cases h2; done) | rfl
theorem genS_ok {scope : Scope} {x : Str} (O : XOk X c N sc k) (h : genSB sc scope x = true) (ok : X.Ok) : GxR.GenS X.env scope x := by
  unfold genSB at h
  simp only [Bool.and_eq_true, Bool.or_eq_true, Bool.not_eq_true', decide_eq_true_eq, List.all_eq_true, beq_iff_eq] at h
  obtain ⟨⟨⟨⟨⟨h1, h2⟩, h3⟩, h4⟩, h5⟩, h6⟩ := h
  refine ⟨h1, h2, fun y hy e => ?_, h4, h5, fun y hy e => ?_⟩
  · have := h3 y hy
    rw [e] at this
    cases this
  · rcases h6 y hy with (z | z) | z
    · rw [e] at z; cases z
    · exact ok.has _ (.inl (by show X.env.scope.names.lookup _ = _; rw [O.hsc]; exact z))
    · exact ok.has _ (.inr (by show X.env.scope.names.lookup _ = _; rw [O.hsc]; exact z))
/-- what stands around a generator's test -/
structure QAt (X : Cx) (c : Ctx) (ρ : List D) (m : List Cell) (z : Fz) (pins : List (Addr × Obj)) (σ : L2.St) (H1 : Hp) (s1 : Shared) (P : Addr) (scope : Scope) (x : Str) (d : D) (cenv : Env) (s₂ : Shared) : Prop where
  S : SS c ρ m z σ H1
  I : L2.Inv X pins σ H1 s1
  gP : mainGlobals ≠ P
  hP : ∃ ps, s1.heap.get? P = some { cls := .none, data := .fields ps }
  sc : cenv.scope = scope
  ce : cenv.cells = cloFrom X.env.cells scope.names []
  gl : cenv.globals = X.env.globals
  kind : scope.kind = .function
  loc : scope.names.lookup x = some .local
  free : ∀ y ∈ scope.names, y.2 = .free → ∃ c, X.env.cells.lookup y.1 = some c
  own : ∃ m₂ w u, s₂.heap.Ns cenv.locals m₂ ∧ m₂ x = some u ∧ RelV w u ∧ c.Rep z d w
  kp : ∀ b o, b ≠ P → s1.heap.get? b = some o → s₂.heap.get? b = some o
theorem QAt.keep {ρ : List D} {m : List Cell} {z : Fz} {pins : List (Addr × Obj)} {σ : L2.St} {H1 : Hp} {s1 s₂ s₃ : Shared} {P : Addr} {scope : Scope} {x : Str} {d : D} {cenv : Env} (q : QAt X c ρ m z pins σ H1 s1 P scope x d cenv s₂) (k : Keeps s₂ s₃) :
    QAt X c ρ m z pins σ H1 s1 P scope x d cenv s₃ := by
  obtain ⟨h', tk, rfl, kk⟩ := k
  obtain ⟨m₂, w, u, h1, h2, h3, h4⟩ := q.own
  exact { q with own := ⟨m₂, w, u, h1.keeps kk, h2, h3, h4⟩, kp := fun b o n e => kk b o (q.kp b o n e) }
theorem kp_trans {s s1 s2 : Shared} (a : Keeps s s1) (b : Keeps s1 s2) : Keeps s s2 := by
  obtain ⟨h1, t1, rfl, k1⟩ := a
  obtain ⟨h2, t2, rfl, k2⟩ := b
  exact ⟨h2, t2, rfl, fun b o e => k2 b o (k1 b o e)⟩
variable {ρ : List D} {m : List Cell} {z : Fz} {pins : List (Addr × Obj)} {σ : L2.St} {H1 : Hp} {s1 s₂ : Shared} {P : Addr} {scope : Scope} {x : Str} {d : D} {cenv : Env} {A' : Around} {E' : Value → Shared → Prop}
theorem q1_ok (O : XOk X c N sc k) (G : GloX M X c k) (q : QAt X c ρ m z pins σ H1 s1 P scope x d cenv s₂) {a : Q1} {e : Expr} {dq : D} {Q : Value → Shared → Prop} (h : chkQ1 M.T N sc scope x a e = true) (hv : qv M.Γ ρ d a = some dq)
    (hQ : ∀ y v s3, RelV v y → c.Rep z dq v → Keeps s₂ s3 → Q y s3) : wpAny (model X.prog X.w) A' (eval e cenv) Q E' s₂ := by
  have hk : cenv.scope.kind = .function := by rw [q.sc]; exact q.kind
  cases a with
  | own =>
    simp only [chkQ1] at h
    split at h
    · obtain ⟨h1, h2⟩ := and2 h
      have h1 := of_decide_eq_true h1
      subst h1
      cases hv
      obtain ⟨m₂, w, u, q1, q2, q3, q4⟩ := q.own
      exact wpAny_Name (wpAny_loadName_local hk (show cenv.scope.names.lookup _ = some .local by rw [q.sc]; exact q.loc) q1 q2 (hQ _ _ _ q3 q4 (GxR.keeps_refl _))) (nameB_ok h2).1
    · cases h
  | int i =>
    simp only [chkQ1] at h
    split at h
    · cases of_decide_eq_true h
      cases hv
      exact wpAny_Constant_int (hQ _ (.int i) _ ⟨_, rfl⟩ rfl (GxR.keeps_tok _ _))
    · cases h
  | glob n =>
    simp only [chkQ1] at h
    split at h
    · obtain ⟨h1, h2⟩ := and2 h
      cases hv
      obtain ⟨v, u, g1, g2, g3⟩ := G.gl n _ (hasGl_ok h1)
      have hn : s₂.heap.Ns cenv.globals X.mg := by
        have := q.I.mod.glob.keeps q.I.bk
        rw [q.gl, q.I.ok.glob]
        exact this.at' fun o e => q.kp _ _ q.gP e
      rw [O.hK] at g3
      exact Calls.Name_function_global hk (show cenv.scope.names.lookup _ = _ by rw [q.sc]; exact (glB_ok h2).1) (Calls.loadGlobal_global hn g1 (hQ _ _ _ g2 (g3 z) (GxR.keeps_refl _))) (glB_ok h2).2.1
    · cases h
  | free i =>
    simp only [chkQ1] at h
    split at h
    · rename_i y pos
      obtain ⟨h1, h2, h3⟩ := ands3 h
      obtain ⟨h0, h1⟩ := and2 h1
      obtain ⟨h1, hnl⟩ := and2 h1
      have h0 := of_decide_eq_true h0
      have h2 : scope.names.lookup y = some .free := by simpa using h2
      obtain ⟨e1, e2⟩ := gV_some hv
      obtain ⟨v, w1, w2⟩ := q.S.sl i dq e1 e2
      obtain ⟨ml, hn, hl⟩ := q.I.loc
      obtain ⟨u, r, l⟩ := hl i y v (by rw [O.hN]; exact h0) w1 (O.vis h1)
      have hmem : (y, NameKind.free) ∈ scope.names := PySem.mem_of_lookup h2
      obtain ⟨c1, hc1⟩ := q.free _ hmem rfl
      have hc1 : X.env.cells.lookup y = some c1 := hc1
      have hcell : s1.heap.IsCell c1 (some u) := by
        rcases l with ⟨hk', hm⟩ | ⟨hk', c2, hc2, hcell⟩
        · have hk' : X.env.scope.names.lookup y = some .local := hk'
          rw [O.hsc] at hk'
          rw [hk'] at hnl
          cases hnl
        · rw [hc1] at hc2
          cases hc2
          exact hcell
      have hcl : cenv.cells.lookup y = some c1 := by
        rw [q.ce]
        obtain ⟨c2, h9⟩ := mem_lookup (cloFrom_has (cells := X.env.cells) (acc := []) hmem)
        rw [h9]
        rcases cloFrom_mem (PySem.mem_of_lookup h9) with hm | ⟨_, hm⟩
        · cases hm
        · rw [hm, hc1]; rfl
      have hcell2 : s₂.heap.IsCell c1 (some u) := by
        obtain ⟨o, ho, hd⟩ := hcell
        refine ⟨o, q.kp _ _ (fun e => ?_) ho, hd⟩
        obtain ⟨ps, hp⟩ := q.hP
        rw [e, hp] at ho
        cases ho
        cases hd
      exact wpAny_Name (wpAny_loadName_free hk (show cenv.scope.names.lookup _ = some .free by rw [q.sc]; exact h2) hcl hcell2 (hQ _ _ _ r w2 (GxR.keeps_refl _)) (nameB_ok h3).2.1) (nameB_ok h3).1
    · cases h
theorem isStr_all {ds : List D} {vs : List V} (h : ds.all isStr = true) (r : c.RepL z ds vs) : vs.all flatV = true ∧ ∀ t : Str, inV (.str t) vs = ds.any (flatE (.str t)) := by
  have h2 : ds.all flatD = true := by
    rw [List.all_eq_true] at h ⊢
    intro d hd
    have := h d hd
    cases d <;> first | rfl | cases this
  refine ⟨?_, fun t => (flat_all (c := c) (z := z) (d := .str t) rfl rfl r h2).2⟩
  exact (flat_all (c := c) (z := z) (d := .str (⟨#[]⟩ : Str)) rfl rfl r h2).1
theorem qcmp_ok (O : XOk X c N sc k) (q : QAt X c ρ m z pins σ H1 s1 P scope x d cenv s₂) {o : CmpOp} {d1 d2 : D} {v1 v2 : V} {y1 y2 : Value} {b : Bool} {Q : Value → Shared → Prop} (h : qcmp o d1 d2 = some b) (r1 : RelV v1 y1) (r2 : RelV v2 y2) (e1 : c.Rep z d1 v1) (e2 : c.Rep z d2 v2)
    (hQ : Q (.bool b) s₂) : wpAny (model X.prog X.w) A' (compareOp o y1 y2) Q E' s₂ := by
  unfold qcmp at h
  split at h
  · cases h
    obtain rfl : v1 = .int _ := e1
    obtain rfl : v2 = .int _ := e2
    obtain ⟨_, rfl⟩ := r1
    obtain ⟨_, rfl⟩ := r2
    exact PyProof.Rows.lt_int (by rw [cd_of]; exact hQ)
  · cases h
    obtain rfl : v1 = .int _ := e1
    obtain rfl : v2 = .int _ := e2
    obtain ⟨_, rfl⟩ := r1
    obtain ⟨_, rfl⟩ := r2
    exact PyProof.Rows.le_int (by rw [cd_of]; exact hQ)
  · cases h
    obtain rfl : v1 = .int _ := e1
    obtain rfl : v2 = .int _ := e2
    obtain ⟨_, rfl⟩ := r1
    obtain ⟨_, rfl⟩ := r2
    exact PyProof.Rows.gt_int (by rw [cd_of]; exact hQ)
  · cases h
    obtain rfl : v1 = .int _ := e1
    obtain rfl : v2 = .int _ := e2
    obtain ⟨_, rfl⟩ := r1
    obtain ⟨_, rfl⟩ := r2
    exact PyProof.Rows.ge_int (by rw [cd_of]; exact hQ)
  · rename_i x' z'
    split at h
    · rename_i kk qq
      cases h
      have ex : x' = ⟨#[kk]⟩ := by
        cases x' with
        | mk a => simp only [Str.mk.injEq]; exact Array.ext' qq
      subst ex
      obtain rfl : v1 = .str _ := e1
      obtain rfl : v2 = .str _ := e2
      obtain ⟨_, rfl⟩ := r1
      obtain ⟨_, rfl⟩ := r2
      exact PyProof.Rows.in_str (by rw [PySem.StrLaws.found_one]; exact hQ)
    · cases h
  · rename_i x' z'
    split at h
    · rename_i kk qq
      cases h
      have ex : x' = ⟨#[kk]⟩ := by
        cases x' with
        | mk a => simp only [Str.mk.injEq]; exact Array.ext' qq
      subst ex
      obtain rfl : v1 = .str _ := e1
      obtain rfl : v2 = .str _ := e2
      obtain ⟨_, rfl⟩ := r1
      obtain ⟨_, rfl⟩ := r2
      exact PyProof.Rows.notIn_str (by rw [PySem.StrLaws.found_one]; exact hQ)
    · cases h
  · obtain ⟨h1, h⟩ := if_some h
    cases h
    rename_i tx lx
    obtain rfl : v1 = .str tx := e1
    obtain ⟨a, xs, rfl, p1, p2⟩ := e2
    cases r2
    obtain ⟨f1, f2⟩ := isStr_all h1 p2
    obtain ⟨its, r, pl, hz⟩ := q.I.list (.inl (same_rd q.S.st.le p1))
    have hL : s₂.heap.IsList a its.toArray := by
      obtain ⟨o, ho, hc, r⟩ := pl.isList
      refine ⟨o, q.kp _ _ (fun e => ?_) ho, hc, r⟩
      obtain ⟨ps, hp⟩ := q.hP
      rw [e, hp] at ho
      cases ho
      cases hc
    refine SeqAt.in_listAt (eqU (.str tx)) hL (fun w hw => mem_eqAt r1 rfl r f1 w (by simpa using hw)) ?_
    rw [show its.toArray.any (eqU (.str tx)) = its.any (eqU (.str tx)) by simp, any_eqU r f1]
    have e9 := f2 tx
    unfold inV at e9
    rw [e9]
    exact hQ
  · obtain ⟨h1, h⟩ := if_some h
    cases h
    rename_i tx lx
    obtain rfl : v1 = .str tx := e1
    obtain ⟨a, xs, rfl, p1, p2⟩ := e2
    cases r2
    obtain ⟨f1, f2⟩ := isStr_all h1 p2
    obtain ⟨its, r, pl, hz⟩ := q.I.list (.inl (same_rd q.S.st.le p1))
    have hL : s₂.heap.IsList a its.toArray := by
      obtain ⟨o, ho, hc, r⟩ := pl.isList
      refine ⟨o, q.kp _ _ (fun e => ?_) ho, hc, r⟩
      obtain ⟨ps, hp⟩ := q.hP
      rw [e, hp] at ho
      cases ho
      cases hc
    refine SeqAt.notIn_listAt (eqU (.str tx)) hL (fun w hw => mem_eqAt r1 rfl r f1 w (by simpa using hw)) ?_
    rw [show its.toArray.any (eqU (.str tx)) = its.any (eqU (.str tx)) by simp, any_eqU r f1]
    have e9 := f2 tx
    unfold inV at e9
    rw [e9]
    exact hQ
  · cases h
theorem qe_ok (O : XOk X c N sc k) (G : GloX M X c k) : ∀ (t : QE) {s₂ : Shared} {e : Expr} {b : Bool} {Q : Value → Shared → Prop} (_ : QAt X c ρ m z pins σ H1 s1 P scope x d cenv s₂) (_ : chkQ M.T N sc scope x t e = true) (_ : qe M.Γ ρ d t = some b)
    (_ : ∀ s3, Keeps s₂ s3 → Q (.bool b) s3), wpAny (model X.prog X.w) A' (eval e cenv) Q E' s₂
  | .cmp o a b', s₂, e, b, Q, q, h, hv, hQ => by
    simp only [chkQ] at h
    split at h
    · obtain ⟨h1, h4⟩ := and2 h
      obtain ⟨h1, h2, h3⟩ := ands3 h1
      cases of_decide_eq_true h1
      obtain ⟨d1, v1, hv⟩ := Option.bind_eq_some_iff.mp hv
      obtain ⟨d2, v2, hv⟩ := Option.bind_eq_some_iff.mp hv
      refine wpAny_Compare1 (q1_ok O G q h2 v1 fun y1 w1 s3 r1 p1 k1 => q1_ok O G (q.keep k1) h3 v2 fun y2 w2 s4 r2 p2 k2 => ?_) (by simpa using h4)
      exact qcmp_ok O ((q.keep k1).keep k2) hv r1 r2 p1 p2 (hQ _ (kp_trans k1 k2))
    · cases h
  | .chain o p a b' d', s₂, e, b, Q, q, h, hv, hQ => by
    simp only [chkQ] at h
    split at h
    · rename_i a' o' p' b'' d'' pos
      simp only [Bool.and_eq_true] at h
      obtain ⟨⟨⟨⟨⟨h1, h2⟩, h3⟩, h4⟩, h5⟩, h6⟩ := h
      cases of_decide_eq_true h1
      cases of_decide_eq_true h2
      obtain ⟨d1, v1, hv⟩ := Option.bind_eq_some_iff.mp hv
      obtain ⟨d2, v2, hv⟩ := Option.bind_eq_some_iff.mp hv
      obtain ⟨kk, v3, hv⟩ := Option.bind_eq_some_iff.mp hv
      have hm : lastMarks [o, p] [b'', d''] = false := by
        show behindInMarks p d'' = false
        simpa using h6
      refine PyProof.Rows.Compare_chain (q1_ok O G q h3 v1 fun y1 w1 s3 r1 p1 k1 => PyProof.Rows.chain_link (q1_ok O G (q.keep k1) h4 v2 fun y2 w2 s4 r2 p2 k2 => ?_)) hm
      refine qcmp_ok O ((q.keep k1).keep k2) v3 r1 r2 p1 p2 (wpAny_truthy_bool ?_)
      cases kk with
      | false =>
        cases hv
        exact PyProof.Rows.ite_ff (hQ _ (kp_trans k1 k2))
      | true =>
        obtain ⟨d3, v4, hv⟩ := Option.bind_eq_some_iff.mp hv
        refine PyProof.Rows.ite_tt (PyProof.Rows.chain_last (q1_ok O G ((q.keep k1).keep k2) h5 v4 fun y3 w3 s5 r3 p3 k3 => ?_))
        exact qcmp_ok O (((q.keep k1).keep k2).keep k3) hv r2 r3 p2 p3 (hQ _ (kp_trans (kp_trans k1 k2) k3))
    · cases h
  | .not a, s₂, e, b, Q, q, h, hv, hQ => by
    simp only [chkQ] at h
    split at h
    · obtain ⟨b', v1, rfl⟩ := Option.map_eq_some_iff.mp hv
      refine UnaryOp_ (qe_ok O G a q h v1 fun s3 k3 => ?_)
      exact not_of (wpAny_truthy_bool (hQ _ k3))
    · cases h
theorem Sto.tabbed {K : PySem.W.Frag} {C : Nat → Addr} {m : List Cell} {z : Fz} {H1 H2 : Hp} {P : Addr} (S : Sto K C m z H1) (hP : TabA C P) (t : GxR.Tabbed P H1 H2) : Sto K C m z H2 ∧ Gr z H1 z H2 := by
  obtain ⟨q1, q2, q3⟩ := S.tb P hP
  obtain ⟨⟨ps2, t1, t2⟩, t3⟩ := t
  refine ⟨S.kept (fun b u e => ?_) rfl (.refl _) (fun a o h e n => ?_) (fun a h e => e) (fun a h e n => ⟨?_, e⟩), { Le.refl z with keep := fun a o e n h => ?_, tbk := fun a ps e n => ?_, new := fun a h => .inl h, sep := fun a o e f n => f }⟩
  · have ne : b ≠ P := fun h => by rw [h, q2] at e; cases e
    rw [t3 b ne]; exact S.le _ _ e
  · have ne : a ≠ P := fun z => q3 (z ▸ h)
    rw [t3 a ne]; exact e
  · by_cases ne : a = P
    · subst ne; exact ⟨ps2, t1, t2⟩
    · obtain ⟨ps, e1, e2⟩ := h
      exact ⟨ps, by rw [t3 a ne]; exact e1, e2⟩
  · have ne : a ≠ P := fun z => by
      obtain ⟨ps, e1, _⟩ := q1
      rw [z, e1] at e
      exact h ps (Option.some.inj e).symm
    rw [t3 a ne]; exact e
  · by_cases ne : a = P
    · subst ne; exact ⟨ps2, t1, fun _ => t2⟩
    · exact ⟨ps, by rw [t3 a ne]; exact e, _root_.id⟩
theorem sound_gq (O : XOk X c N sc k) (G : GloX M X c k) {al : Bool} {t : QE} {f : List D → List Cell → R D} {elt iter : Expr} {x y : Str} {px p pos gpos : Pos} {scope : Scope} (hi : PE X iter (tG c (rD c) f))
    (hy : y = Str.ofString (fnOfAl al)) (h1 : M.T.bts.contains (fnOfAl al) = true) (h2 : glB sc y = true) (h3 : genName ∈ N) (h4 : genSB sc scope x = true) (h5 : chkQ M.T N sc scope x t elt = true) (h6 : notSet iter = true) (h7 : notList iter = true) :
    PE X (.Call (.Name y p) [.GeneratorExp elt [⟨.Name x px, iter, [], 0⟩] scope gpos] [] pos) (tG c (rD c) (evGq al M.Γ t f)) := by
  obtain ⟨i, hi0, hcode⟩ := O.cod h3
  have TB := G.tb i hi0
  have hT : TabA c.C (c.C (1000000 + 2 * i)) := ⟨hi0, i, rfl⟩
  refine (pe_gen (al := al) O.rm hy (O.gl h2) (G.bt _ (by simpa using h1) |> fun h => by rw [hy]; exact h) TB hcode (genS_ok O h4) hi (fun v => genFold_of h6 h7 _ v) (fun σ H Q Q' h g => ?_)).imp fun σ H Q ⟨ρ, m, z, S, A⟩ => ?_
  · obtain ⟨ρ, m, z, S, A⟩ := h
    exact ⟨ρ, m, z, S, A.imp g⟩
  refine ⟨ρ, m, z, S, A.bind.imp fun v H1 ⟨z1, d0, m1, S1, g1, q1, _, A1⟩ => ?_⟩
  obtain ⟨tps, tt, tt2⟩ := (S1.st.tb _ hT).1
  refine ⟨⟨tps, tt, tt2⟩, fun pins s1 u I1 ru ps hP => ?_⟩
  obtain ⟨b, eb, A2⟩ := A1.of
  have q1 := res_ok S1.st q1
  generalize res m1 d0 = dd at eb q1
  obtain ⟨l, el, eb⟩ := Option.bind_eq_some_iff.mp eb
  obtain ⟨bs, ebs, rfl⟩ := Option.map_eq_some_iff.mp eb
  have fin : ∀ vs : List V, c.RepL z1 l vs → ItSrc X s1 (c.C (1000000 + 2 * i)) u vs → ∃ vs bs, vs.length = bs.length ∧ ItSrc X s1 (c.C (1000000 + 2 * i)) u vs ∧ ElG X s1 (c.C (1000000 + 2 * i)) scope x elt vs bs ∧ ∀ H2, GxR.Tabbed (c.C (1000000 + 2 * i)) H1 H2 → Q (.bl (boolOf al bs)) H2 := fun vs hr hs => by
    refine ⟨vs, bs, by rw [RepL.length hr, qAll_len ebs], hs, fun j w u' hw rw' cenv A' E' s₂ m₂ e1 e2 e3 e4 e5 e6 => ?_, fun H2 ht => ?_⟩
    · obtain ⟨d, hd, rd⟩ := RepL.get hr hw
      obtain ⟨b, hb, hp⟩ := qAll_get ebs hd
      have gs := genS_ok O h4 I1.ok
      have q : QAt X c ρ m1 z1 pins σ H1 s1 (c.C (1000000 + 2 * i)) scope x d cenv s₂ := ⟨S1, I1, TB.gP, ⟨ps, hP⟩, e1, e2, e3, gs.kind, gs.loc, gs.free, ⟨m₂, w, u', e4, e5, rw', rd⟩, e6⟩
      exact qe_ok O G t q h5 hp fun s3 k3 => ⟨⟨b, hb, rfl⟩, k3⟩
    · obtain ⟨s2, g2⟩ := S1.st.tabbed hT ht
      exact A2 _ _ _ (S1.go g2 s2) g2 rfl
  cases dd with
  | tup l' =>
    cases el
    obtain ⟨a, xs, rfl, p1, p2⟩ := q1
    cases ru
    exact fin xs p2 (itsrc_tup I1 hP (by rw [O.hK]; exact same_seqT S1.st.le p1))
  | lst l' =>
    cases el
    obtain ⟨a, xs, rfl, p1, p2⟩ := q1
    cases ru
    exact fin xs p2 (itsrc_lst I1 hP (.inl p1))
  | str a =>
    cases el
    obtain rfl : v = .str a := q1
    obtain ⟨t', rfl⟩ := ru
    refine fin _ ?_ itsrc_str
    unfold signsG
    generalize a.cps.toList = cs
    induction cs with
    | nil => exact rfl
    | cons k r ih => exact ⟨_, _, rfl, rfl, ih⟩
  | _ => cases el
end
end GS
end

noncomputable section
namespace GS
open PySem L2
/-! ### except suites, checked -/
mutual
def chkXR (T : Tab) (N : List Str) (sc : Scope) (i : Nat) : XR → Expr → Bool
  | .str s, e => match e with | .Constant (.str j) _ _ => decide (s = j) | _ => false
  | .non, e => match e with | .Constant .none _ _ => true | _ => false
  | .bl b, e => match e with | .Constant (.bool j) _ _ => decide (b = j) | _ => false
  | .int n, e => match e with | .Constant (.int j) _ _ => decide (n = j) | _ => false
  | .fld f, e => match e with | .Attribute (.Name x _) g _ => decide (f = g) && decide (N[i]? = some x) && visB sc x | _ => false
  | .isx c, e => match e with
    | .Call (.Name y _) [.Name x _, .Name nm _] [] _ => decide (y = ("isinstance" : Str)) && glB sc "isinstance" && T.bts.contains "isinstance" && decide (N[i]? = some x) && visB sc x && (T.xnm.any fun p => decide (p.1 = c) && decide (p.2 = nm)) && glB sc nm
    | _ => false
  | .tup l, e => match e with | .Tuple es _ _ => chkXRs T N sc i l es | _ => false
def chkXRs (T : Tab) (N : List Str) (sc : Scope) (i : Nat) : List XR → List Expr → Bool
  | [], [] => true
  | x :: l, e :: es => chkXR T N sc i x e && chkXRs T N sc i l es
  | _, _ => false
end
section
variable {M : Sem} {N : List Str} {kk : Nat} {X : Cx} {c : Ctx} {sc : Scope} {k i : Nat} {fs : List (Str × D)} {a : Addr} {d : Option Addr} {oe : Obj} {pn : List (Addr × Obj)}
theorem px_none {e : Expr} : PE (X.suite a ((a, oe) :: pn)) e (tX c k fs a i d (rD c) (none : Option D)) := ⟨fun _ _ _ _ _ _ ⟨_, _, _, _, _, _, q⟩ => q.elim⟩
theorem xfl_ok {T : Tab} {k : Nat} {f : Str} (h : T.xfl k f = true) : ∃ x l n i, (k, x, l, n) ∈ T.xcl ∧ (f, i) ∈ l := by
  unfold Tab.xfl at h
  obtain ⟨⟨c, x, l, n⟩, h1, h2⟩ := List.any_eq_true.mp h
  obtain ⟨h2, h3⟩ := and2 h2
  have h2 := of_decide_eq_true h2
  obtain ⟨⟨g, i⟩, h4, h5⟩ := List.any_eq_true.mp h3
  have h5 := of_decide_eq_true h5
  dsimp only at h2 h5
  subst h2
  subst h5
  exact ⟨x, l, n, i, h1, h4⟩
theorem subOf_ok {T : Tab} {k c : Nat} {b : Bool} (h : T.subOf k c = some b) : (∃ x l n, (k, x, l, n) ∈ T.xcl) ∧ (k, c, b) ∈ T.sub := by
  unfold Tab.subOf at h
  split at h
  · rename_i h1
    obtain ⟨⟨k', x, l, n⟩, h2, h3⟩ := List.any_eq_true.mp h1
    have h3 := of_decide_eq_true h3
    dsimp only at h3
    subst h3
    obtain ⟨⟨k1, c1, b1⟩, h4, h5⟩ := Option.map_eq_some_iff.mp h
    have hm := List.mem_of_find?_eq_some h4
    have hp := List.find?_some h4
    obtain ⟨hp1, hp2⟩ := and2 hp
    have hp1 := of_decide_eq_true hp1
    have hp2 := of_decide_eq_true hp2
    dsimp only at hp1 hp2 h5
    subst hp1
    subst hp2
    subst h5
    exact ⟨⟨x, l, n, h2⟩, hm⟩
  · cases h
mutual
theorem soundXR (O : XOk X c N sc kk) (G : GloX M X c kk) (hz : Zc (.ref (c.C k)) d oe) (hf : ∃ vs, oe.data = .fields vs) : ∀ (r : XR) (e : Expr), chkXR M.T N sc i r e = true → PE (X.suite a ((a, oe) :: pn)) e (tX c k fs a i d (rD c) (evX M.T.subOf M.T.xfl k fs r)) ∧ plainArg e = true
  | .str s, e, h => by
    unfold chkXR at h
    split at h
    · cases of_decide_eq_true h
      exact ⟨px_con pe_str fun z => rfl, rfl⟩
    · cases h
  | .non, e, h => by
    unfold chkXR at h
    split at h
    · exact ⟨px_con pe_non fun z => rfl, rfl⟩
    · cases h
  | .bl b, e, h => by
    unfold chkXR at h
    split at h
    · cases of_decide_eq_true h
      exact ⟨px_con pe_bl fun z => rfl, rfl⟩
    · cases h
  | .int n, e, h => by
    unfold chkXR at h
    split at h
    · cases of_decide_eq_true h
      exact ⟨px_con pe_int fun z => rfl, rfl⟩
    · cases h
  | .fld f, e, h => by
    unfold chkXR at h
    split at h
    · rename_i x p g pos
      obtain ⟨h, h3⟩ := and2 h
      obtain ⟨h1, h2⟩ := and2 h
      cases of_decide_eq_true h1
      refine ⟨?_, rfl⟩
      show PE _ _ (tX c k fs a i d (rD c) (if M.T.xfl k f = true then fs.lookup f else none))
      by_cases q : M.T.xfl k f = true
      · rw [if_pos q]
        obtain ⟨x', l, n, j, m1, m2⟩ := xfl_ok q
        obtain ⟨s1, s2⟩ := G.see k x' l n m1
        exact px_fld O.hK s1.xf (s2 _ m2) hz hf (by rw [O.hN]; exact of_decide_eq_true h2) (O.vis h3) (visB_ok h3).2.1 (visB_ok h3).2.2
      · rw [if_neg q]
        exact px_none
    · cases h
  | .isx c0, e, h => by
    unfold chkXR at h
    split at h
    · rename_i y p x p1 nm p2 pos
      obtain ⟨h, h7⟩ := and2 h
      obtain ⟨h, h6⟩ := and2 h
      obtain ⟨h, h5⟩ := and2 h
      obtain ⟨h, h4⟩ := and2 h
      obtain ⟨h, h3⟩ := and2 h
      obtain ⟨h1, h2⟩ := and2 h
      cases of_decide_eq_true h1
      refine ⟨?_, rfl⟩
      show PE _ _ (tX c k fs a i d (rD c) ((M.T.subOf k c0).map D.bl))
      obtain ⟨⟨c1, nm1⟩, m1, m2⟩ := List.any_eq_true.mp h6
      obtain ⟨m2, m3⟩ := and2 m2
      have m2 := of_decide_eq_true m2
      have m3 := of_decide_eq_true m3
      dsimp only at m2 m3
      subst m2
      subst m3
      cases q : M.T.subOf k c1 with
      | none => exact px_none
      | some b =>
        obtain ⟨⟨x', l, n, m4⟩, m5⟩ := subOf_ok q
        exact px_isx O.hK (G.see k x' l n m4).1 hz hf (by rw [O.hN]; exact of_decide_eq_true h4) (O.vis h5) (visB_ok h5).2.1 (visB_ok h5).2.2 (O.gl h2) (G.bt "isinstance" (by simpa using h3)) (O.gl h7) (G.nm _ _ m1) (glB_ok h7).2.1 fun k' e => by cases e; exact (G.sub _ _ _ m5).1
    · cases h
  | .tup l, e, h => by
    unfold chkXR at h
    split at h
    · exact ⟨px_tup (soundXRs O G hz hf l _ h), rfl⟩
    · cases h
theorem soundXRs (O : XOk X c N sc kk) (G : GloX M X c kk) (hz : Zc (.ref (c.C k)) d oe) (hf : ∃ vs, oe.data = .fields vs) : ∀ (l : List XR) (es : List Expr), chkXRs M.T N sc i l es = true → PA (X.suite a ((a, oe) :: pn)) es (tX c k fs a i d (rL c) (evXs M.T.subOf M.T.xfl k fs l))
  | [], [], _ => pxa_nil
  | [], _ :: _, h => by cases h
  | _ :: _, [], h => by cases h
  | x :: l, e :: es, h => by
    obtain ⟨h1, h2⟩ := and2 h
    obtain ⟨s1, s2⟩ := soundXR O G hz hf x e h1
    exact pxa_cons s1 (soundXRs O G hz hf l es h2) (star_of s2 _ _)
end
end
/-! ### constants as an except suite's answer -/
mutual
def chkX0 : XR → Expr → Bool
  | .str s, e => match e with | .Constant (.str j) _ _ => decide (s = j) | _ => false
  | .non, e => match e with | .Constant .none _ _ => true | _ => false
  | .bl b, e => match e with | .Constant (.bool j) _ _ => decide (b = j) | _ => false
  | .int n, e => match e with | .Constant (.int j) _ _ => decide (n = j) | _ => false
  | .fld _, _ => false
  | .isx _, _ => false
  | .tup l, e => match e with | .Tuple es _ _ => chkXs0 l es | _ => false
def chkXs0 : List XR → List Expr → Bool
  | [], [] => true
  | x :: l, e :: es => chkX0 x e && chkXs0 l es
  | _, _ => false
end
section
variable {X : Cx} {c : Ctx} {sub : Nat → Nat → Option Bool} {fl : Nat → Str → Bool} {k : Nat} {fs : List (Str × D)}
mutual
theorem soundX0 : ∀ (r : XR) (e : Expr), chkX0 r e = true → PE X e (tG c (rD c) fun _ m => R.of (evX sub fl k fs r) m) ∧ plainArg e = true
  | .str s, e, h => by
    unfold chkX0 at h
    split at h
    · cases of_decide_eq_true h
      exact ⟨pe_conD pe_str fun _ => rfl, rfl⟩
    · cases h
  | .non, e, h => by
    unfold chkX0 at h
    split at h
    · exact ⟨pe_conD pe_non fun _ => rfl, rfl⟩
    · cases h
  | .bl b, e, h => by
    unfold chkX0 at h
    split at h
    · cases of_decide_eq_true h
      exact ⟨pe_conD pe_bl fun _ => rfl, rfl⟩
    · cases h
  | .int n, e, h => by
    unfold chkX0 at h
    split at h
    · cases of_decide_eq_true h
      exact ⟨pe_conD pe_int fun _ => rfl, rfl⟩
    · cases h
  | .fld f, e, h => by cases h
  | .isx c0, e, h => by cases h
  | .tup l, e, h => by
    unfold chkX0 at h
    split at h
    · refine ⟨(pe_tupD (soundXs0 l _ h)).imp fun σ H Q h => ?_, rfl⟩
      obtain ⟨ρ, m, z, S, A⟩ := h
      refine ⟨ρ, m, z, S, ?_⟩
      have e : evMk (fun _ m => R.of (evXs sub fl k fs l) m) mkTup ρ m = R.of (evX sub fl k fs (.tup l)) m := by
        show (R.of (evXs sub fl k fs l) m).bind _ = R.of ((evXs sub fl k fs l).bind mkTup) m
        cases evXs sub fl k fs l <;> rfl
      rw [e]
      exact A
    · cases h
theorem soundXs0 : ∀ (l : List XR) (es : List Expr), chkXs0 l es = true → PA X es (tG c (rL c) fun _ m => R.of (evXs sub fl k fs l) m)
  | [], [], _ => da_nil
  | [], _ :: _, h => by cases h
  | _ :: _, [], h => by cases h
  | x :: l, e :: es, h => by
    obtain ⟨h1, h2⟩ := and2 h
    obtain ⟨s1, s2⟩ := soundX0 x e h1
    refine (da_cons s1 (soundXs0 l es h2) (star_of s2 _ _)).imp fun σ H Q h => ?_
    obtain ⟨ρ, m, z, S, A⟩ := h
    refine ⟨ρ, m, z, S, ?_⟩
    have e : evCons (fun _ m => R.of (evX sub fl k fs x) m) (fun _ m => R.of (evXs sub fl k fs l) m) ρ m = R.of (evXs sub fl k fs (x :: l)) m := by
      show (R.of (evX sub fl k fs x) m).bind _ = R.of ((evX sub fl k fs x).bind fun d => (evXs sub fl k fs l).map fun ds => d :: ds) m
      cases evX sub fl k fs x with
      | none => rfl
      | some y => cases evXs sub fl k fs l <;> rfl
    rw [e]
    exact A
end
end
/-! ### try .. except .. -/
/-- the clauses, one after the other: class, slot of its name (none: no name), what the suite hands back -/
def goX (sub : Nat → Nat → Option Bool) (fl : Nat → Str → Bool) (k : Nat) (fs : List (Str × D)) (ρ : List D) (m : List Cell) : List (Nat × Option Nat × XR) → SR
  | [] => .exc k fs ρ m
  | (c, i, r) :: l => match sub k c with
    | some true => if cd (∀ j, i = some j → j < ρ.length) = true then (match evX sub fl k fs r with | some d => .rt d m | none => .stuck) else .stuck
    | some false => goX sub fl k fs ρ m l
    | none => .stuck
def catchR (sub : Nat → Nat → Option Bool) (fl : Nat → Str → Bool) (hs : List (Nat × Option Nat × XR)) : SR → SR
  | .exc k fs ρ m => goX sub fl k fs ρ m hs
  | r => r
def sTry (sub : Nat → Nat → Option Bool) (fl : Nat → Str → Bool) (b : List D → List Cell → SR) (hs : List (Nat × Option Nat × XR)) : List D → List Cell → SR := fun ρ m => catchR sub fl hs (b ρ m)
theorem SS.chg {c : Ctx} {W : WX} {ρ : List D} {m : List Cell} {z : Fz} {σ : L2.St} {H : Hp} (S : SS c ρ m z σ H) : SS { c with W := W } ρ m z σ H := ⟨S.st, S.gr, S.len, S.sl⟩
theorem SS.unchg {c : Ctx} {W : WX} {ρ : List D} {m : List Cell} {z : Fz} {σ : L2.St} {H : Hp} (S : SS { c with W := W } ρ m z σ H) : SS c ρ m z σ H := ⟨S.st, S.gr, S.len, S.sl⟩
theorem SS.hide {c : Ctx} {ρ : List D} {m : List Cell} {z : Fz} {σ : L2.St} {H : Hp} (S : SS c ρ m z σ H) (i : Nat) (v : Option V) : SS c (ρ.set i .no) m z (σ.set i v) H := by
  refine ⟨S.st, S.gr, by simp [S.len], fun j e hj hn => ?_⟩
  rw [List.getElem?_set] at hj
  by_cases q : i = j
  · subst q
    by_cases hl : i < ρ.length
    · simp [hl] at hj
      exact absurd hj.symm hn
    · simp [hl] at hj
  · rw [if_neg q] at hj
    obtain ⟨u, h1, h2⟩ := S.sl j e hj hn
    exact ⟨u, by rw [List.getElem?_set, if_neg q]; exact h1, h2⟩
section
variable {M : Sem} {N : List Str} {kk : Nat} {X : Cx} {c : Ctx} {sc : Scope} {i cl : Nat}
/-- what the suite of one clause wishes -/
def tsX (M : Sem) (c : Ctx) (i : Nat) (r : XR) (a : Addr) (cls : Value) (d : Option Addr) : TS := fun D σ H => ∃ k fs, cls = .ref (c.C k) ∧ tRet (tX c k fs a i d (rD c) (evX M.T.subOf M.T.xfl k fs r)) D σ H
theorem suite_ok (O : XOk X c N sc kk) (G : GloX M X c kk) {r : XR} {e : Expr} {rp : Pos} (h : chkXR M.T N sc i r e = true) (a : Addr) (oe : Obj) (cls : Value) (d : Option Addr) (pn : List (Addr × Obj)) (hz : Zc cls d oe) (hf : ∃ vs, oe.data = .fields vs) :
    PSs (X.suite a ((a, oe) :: pn)) [.Return (some e) rp] (tsX M c i r a cls d) := by
  refine ⟨fun pins s σ H D I ⟨k, fs, hc, h'⟩ => ?_⟩
  subst hc
  exact (pss_cons (ps_ret (soundXR O G hz hf r e h).1) pss_nil).run pins s σ H D I h'
/-- .. of a clause without a name -/
def tsU (M : Sem) (c : Ctx) (r : XR) (cls : Value) : TS := fun D σ H => ∃ k fs, cls = .ref (c.C k) ∧ tRet (tG c (rD c) fun _ m => R.of (evX M.T.subOf M.T.xfl k fs r) m) D σ H
theorem suite_ok0 {r : XR} {e : Expr} {rp : Pos} (h : chkX0 r e = true) (Y : Cx) (cls : Value) : PSs Y [.Return (some e) rp] (tsU M c r cls) := by
  refine ⟨fun pins s σ H D I ⟨k, fs, hc, h'⟩ => ?_⟩
  exact (pss_cons (ps_ret (soundX0 r e h).1) pss_nil).run pins s σ H D I h'
/-- what one clause wishes of an exception that it takes -/
def endsOff (D : Ends) (i : Nat) : Ends := { nx := fun σ' H' => D.nx (σ'.set i none) H', rt := D.rt, bk := fun σ' H' => D.bk (σ'.set i none) H', ct := fun σ' H' => D.ct (σ'.set i none) H' }
def oneW (ts : Addr → Value → Option Addr → TS) (cls : Value) (d : Option Addr) (D : Ends) (σ : L2.St) (H : Hp) : Option Nat → Prop
  | some i => ∀ a, H a = none → ts a cls d (endsOff D i) (σ.set i (some (.ref a))) H
  | none => ∀ a, H a = none → ts a cls d D σ H
/-- .. all clauses -/
def mixW (K : PySem.W.Frag) (Wout : WX) (D : Ends) : List (Value × Option Nat × (Addr → Value → Option Addr → TS)) → WX
  | [] => Wout
  | (v, oi, ts) :: r => fun cls d σ H => ∃ b, PySem.W.exmOne K cls v = some b ∧ (b = true → oneW ts cls d D σ H oi) ∧ (b = false → mixW K Wout D r cls d σ H)
/-- the clauses and what is known of them -/
inductive MxCls (Y : Cx) : List ExceptHandler → List (Value × Option Nat × (Addr → Value → Option Addr → TS)) → Prop
  | nil : MxCls Y [] []
  | bare {x : Str} {v : Value} {ts : Addr → Value → Option Addr → TS} {b₀ : Stmt} {su : List Stmt} {np p' : Pos} {hds : List ExceptHandler} {l : List (Value × Option Nat × (Addr → Value → Option Addr → TS))} (hc : Names Y x v)
      (hsu : ∀ (a : Addr) (oe : Obj) (cls : Value) (d : Option Addr) (pn : List (Addr × Obj)), Zc cls d oe → (∃ vs, oe.data = .fields vs) → PSs (Y.suite a ((a, oe) :: pn)) (b₀ :: su) (ts a cls d)) (r : MxCls Y hds l) : MxCls Y (.ExceptHandler (some (.Name x np)) none (b₀ :: su) p' :: hds) ((v, none, ts) :: l)
  | named {x n : Str} {v : Value} {i : Nat} {ts : Addr → Value → Option Addr → TS} {b₀ : Stmt} {su : List Stmt} {np p' : Pos} {hds : List ExceptHandler} {l : List (Value × Option Nat × (Addr → Value → Option Addr → TS))} (hc : Names Y x v) (hi : Y.N[i]? = some n) (hln : Y.env.kindOf n = some .local)
      (hsu : ∀ (a : Addr) (oe : Obj) (cls : Value) (d : Option Addr) (pn : List (Addr × Obj)), Zc cls d oe → (∃ vs, oe.data = .fields vs) → PSs (Y.suite a ((a, oe) :: pn)) (b₀ :: su) (ts a cls d)) (r : MxCls Y hds l) : MxCls Y (.ExceptHandler (some (.Name x np)) (some n) (b₀ :: su) p' :: hds) ((v, some i, ts) :: l)
open PySem.Spec PyProof.Rows in
theorem ps_mix {body : List Stmt} {h₀ : ExceptHandler} {hds : List ExceptHandler} {l : List (Value × Option Nat × (Addr → Value → Option Addr → TS))} {pos : Pos} {tb : WX → TS} {Wout : WX} (hs : X.stack = X.env :: X.outer) (hf : X.env.frame = some X.env.locals) (hN : X.N.Nodup) (tk : Takes X Wout)
    (hb : ∀ (W : WX) (pn : List (Addr × Obj)) (xe : Value → Shared → Prop), Takes (X.tr pn xe) W → PassesOwn (model X.prog X.w) X.A X.env xe → PSs (X.tr pn xe) body (tb W)) (hh : MxCls X (h₀ :: hds) l) :
    PS X (.Try body (h₀ :: hds) [] [] pos) (fun D σ H => tb (mixW X.K Wout D l) D σ H) := by
  refine ⟨fun pins s σ H D I h => ?_⟩
  have ok := I.ok
  have hfr : X.A.frames = some (X.env :: X.outer) := by rw [ok.frames, hs]
  refine wpAny_Try_except (wpAny_mono ((hb (mixW X.K Wout D l) (X.pn ++ pins) (fun e s₁ => wpAny (model X.prog X.w) X.A (noteFrame e X.env) (fun _ s₂ => wpAny (model X.prog X.w) X.A (setFlight e none) (fun _ s₃ =>
    wpAny (model X.prog X.w) X.A (handleBy e X.env (h₀ :: hds)) (SP X pins D) X.xe s₃) X.xe s₂) X.xe s₁) (fun u s' xx => ?_) PassesOwn.looking).run [] s σ H D (I.toTry _) h) (fun f s1 hsp => ?_) (fun e s1 he => he))
  · obtain ⟨a, B, sI, pins', σ', H', cls, d, rfl, J', nb, up, sky, na, os, ag, w⟩ := xx
    have J : Inv X pins σ' H' sI := J'.ofTry ok
    have sky' : Sky B (X.env :: X.outer) a (Zc cls d) X.env.locals s'.heap := by rw [← hs]; exact sky
    refine Sky.land Zc.steady hfr hf sky' fun h3 fl3 up3 => ?_
    have J3 : Inv X pins σ' H' { s' with heap := h3 } := J.landed nb fl3.1 (up.trans up3) os ag
    obtain ⟨oe3, vs3, he3, hz3, hd3⟩ := fl3.there
    have nfr : a ∉ frs (X.env :: X.outer) := fun hm => by
      obtain ⟨_, o', e', hnf⟩ := fl3.2.2.1.mem hm
      rw [he3] at e'; cases e'
      exact hnf _ hd3
    have nL : a ≠ X.env.locals := fun z => nfr (List.mem_filterMap.mpr ⟨X.env, List.mem_cons_self, by rw [hf, z]⟩)
    have nF : a ∉ X.fs := fun hm => by
      obtain ⟨e, he, q⟩ := List.mem_filterMap.mp hm
      exact nfr (List.mem_filterMap.mpr ⟨e, List.mem_cons_of_mem _ he, q⟩)
    have S3 := J3.suite he3 hd3 na nL nF
    have LT : PySem.W.Looks (model X.prog X.w) h3 (typeOf (.ref a)) cls := fun A Q E s k q => wpAny_typeOf_ref (k _ _ he3) (by rw [hz3.1]; exact q)
    have test : ∀ {x : Str} {np : Pos} {v : Value} {Q : Value → Shared → Prop} {E : Value → Shared → Prop}, Names X x v → Q v { s' with heap := h3 } → wpAny (model X.prog X.w) (X.A.mark (some (.ref a))) (eval (.Name x np) X.env) Q E { s' with heap := h3 } := fun {x np v Q E} hc q => by
      obtain ⟨hg, hdbg, hm | ⟨hm, hv, hnn⟩⟩ := hc
      · exact ld_glob (X := X.suite a ((a, oe3) :: (X.pn ++ pins))) S3 hg hm q hdbg
      · exact ld_blt (X := X.suite a ((a, oe3) :: (X.pn ++ pins))) S3 hg hm hv q hnn hdbg
    have all : ∀ {hds' : List ExceptHandler} {l' : List (Value × Option Nat × (Addr → Value → Option Addr → TS))}, MxCls X hds' l' → mixW X.K Wout D l' cls d σ' H' → wpAny (model X.prog X.w) X.A (handleBy (.ref a) X.env hds') (SP X pins D) X.xe { s' with heap := h3 } := by
      intro hds' l' hk
      induction hk with
      | nil =>
        intro w
        refine wpAny_handleBy_nil ?_
        obtain ⟨k1, k2, k3, oe, vs, T, oT, ts', he, hz, hd, h1, hr⟩ := id fl3
        unfold PySem.passOn
        refine wpAny_bind (wpAny_field he hd h1 ?_)
        rw [if_neg (show ¬ ((Value.ref T == Value.none) = true) from by simp)]
        have fin : wpAny (model X.prog X.w) X.A (setFlight (.ref a) X.env.frame) (fun _ s4 => wpAny (model X.prog X.w) X.A (throw (Value.ref a) : PySem.Sem Flow) (SP X pins D) X.xe s4) X.xe { s' with heap := h3 } := by
          rw [hf]
          refine HandSPX.setFlight_upZ fl3 fun h4 hh4 up4 => wpAny_throw (tk _ _ ?_)
          exact ⟨a, B, sI, pins, σ', H', cls, d, rfl, J, nb, (up.trans up3).trans up4, .inr (.inr (by rw [hs]; exact hh4)), na, os, ag, w⟩
        first
          | exact wpAny_bind (wpAny_pure (wpAny_bind fin))
          | exact wpAny_bind fin
      | bare hc hsu r ih =>
        intro w
        obtain ⟨b, hb1, hyes, hno⟩ := w
        refine wpAny_handleBy_cons (codeAny_handlers_test ?_) (by intro q; cases q)
        refine test hc ((PySem.W.exm_one (M := model X.prog X.w) (J3.kIn) LT hb1).here ?_)
        cases b with
        | false => exact ih (hno rfl)
        | true =>
          refine codeAny_handlers_suite (HandSPX.lands_againZ fl3 fun h4 fl4 up4 => ?_)
          have J4 : Inv X pins σ' H' { s' with heap := h4 } := J.landed nb fl4.1 ((up.trans up3).trans up4) os ag
          obtain ⟨oe4, vs4, he4, hz4, hd4⟩ := fl4.there
          refine wpAny_mono ((hsu a oe4 cls d (X.pn ++ pins) hz4 ⟨_, hd4⟩).run [] _ _ H' _ (J4.suite he4 hd4 na nL nF) (hyes rfl a na)) (fun f s6 hsp => ?_) (fun _ _ z => False.elim z)
          cases f with
          | ret u =>
            obtain ⟨v6, σ6, H6, S6, r6, q6⟩ := hsp
            exact ⟨_, _, _, S6.unsuite ok, r6, q6⟩
          | _ =>
            obtain ⟨σ6, H6, S6, q6⟩ := hsp
            exact ⟨_, _, S6.unsuite ok, q6⟩
      | named hc hi hln hsu r ih =>
        intro w
        obtain ⟨b, hb1, hyes, hno⟩ := w
        refine wpAny_handleBy_cons (codeAny_handlers_test ?_) (by intro q; cases q)
        refine test hc ((PySem.W.exm_one (M := model X.prog X.w) (J3.kIn) LT hb1).here ?_)
        cases b with
        | false => exact ih (hno rfl)
        | true =>
          refine codeAny_handlers_suite_as (HandSPX.lands_againZ fl3 fun h4 fl4 up4 => ?_)
          have J4 : Inv X pins σ' H' { s' with heap := h4 } := J.landed nb fl4.1 ((up.trans up3).trans up4) os ag
          obtain ⟨oe4, vs4, he4, hz4, hd4⟩ := fl4.there
          refine store_ok (X := X.suite a ((a, oe4) :: (X.pn ++ pins))) (v := .ref a) (J4.suite he4 hd4 na nL nF) hN hi (.inl hln) rfl (fun s5 S5 => ?_) (.inr hln)
          refine wpAny_mono ((hsu a oe4 cls d (X.pn ++ pins) hz4 ⟨_, hd4⟩).run [] s5 _ H' _ S5 (hyes rfl a na)) (fun f s6 hsp => ?_) (fun _ _ z => False.elim z)
          cases f with
          | ret u =>
            obtain ⟨v6, σ6, H6, S6, r6, q6⟩ := hsp
            exact gone_ok (S6.unsuite ok) hN hi hln fun s7 J7 => ⟨_, _, _, J7, r6, q6⟩
          | _ =>
            obtain ⟨σ6, H6, S6, q6⟩ := hsp
            exact gone_ok (S6.unsuite ok) hN hi hln fun s7 J7 => ⟨_, _, J7, q6⟩
    exact all hh w
  · cases f with
    | next =>
      obtain ⟨σ', H', J', q⟩ := hsp
      exact wpAny_execs_nil ⟨σ', H', J'.ofTry ok, q⟩
    | ret u =>
      obtain ⟨v, σ', H', J', r, q⟩ := hsp
      exact ⟨v, σ', H', J'.ofTry ok, r, q⟩
    | _ =>
      obtain ⟨σ', H', J', q⟩ := hsp
      exact ⟨σ', H', J'.ofTry ok, q⟩
/-- a text's clauses -/
def chkHs (T : Tab) (N : List Str) (sc : Scope) : List (Nat × Option Nat × XR) → List ExceptHandler → Bool
  | [], [] => true
  | (cl, some i, r) :: l, .ExceptHandler (some (.Name x _)) (some n) [.Return (some e) _] _ :: hs => decide (N[i]? = some n) && decide (sc.names.lookup n = some .local) && glB sc x && (T.xnm.any fun p => decide (p.1 = cl) && decide (p.2 = x)) && chkXR T N sc i r e && chkHs T N sc l hs
  | (cl, none, r) :: l, .ExceptHandler (some (.Name x _)) none [.Return (some e) _] _ :: hs => glB sc x && (T.xnm.any fun p => decide (p.1 = cl) && decide (p.2 = x)) && chkX0 r e && chkHs T N sc l hs
  | _, _ => false
def clsOf (M : Sem) (c : Ctx) : List (Nat × Option Nat × XR) → List (Value × Option Nat × (Addr → Value → Option Addr → TS))
  | [] => []
  | (cl, some i, r) :: l => (.ref (c.C cl), some i, fun a cls d => tsX M c i r a cls d) :: clsOf M c l
  | (cl, none, r) :: l => (.ref (c.C cl), none, fun _ cls _ => tsU M c r cls) :: clsOf M c l
theorem xnm_ok {T : Tab} {cl : Nat} {x : Str} (h : (T.xnm.any fun p => decide (p.1 = cl) && decide (p.2 = x)) = true) : (cl, x) ∈ T.xnm := by
  obtain ⟨⟨c1, x1⟩, m1, m2⟩ := List.any_eq_true.mp h
  obtain ⟨m2, m3⟩ := and2 m2
  have m2 := of_decide_eq_true m2
  have m3 := of_decide_eq_true m3
  dsimp only at m2 m3
  subst m2
  subst m3
  exact m1
theorem chkHs_ok (O : XOk X c N sc kk) (G : GloX M X c kk) : ∀ (hs : List (Nat × Option Nat × XR)) (hds : List ExceptHandler), chkHs M.T N sc hs hds = true → MxCls X hds (clsOf M c hs)
  | [], [], _ => .nil
  | [], _ :: _, h => by cases h
  | (cl, some i, r) :: l, hd :: hs, h => by
    unfold chkHs at h
    split at h
    · rename_i heq _; cases heq
    · rename_i x _ n e _ _ _ heq1 heq2
      cases heq1
      cases heq2
      obtain ⟨h, h7⟩ := and2 h
      obtain ⟨h, h6⟩ := and2 h
      obtain ⟨h, h5⟩ := and2 h
      obtain ⟨h, h4⟩ := and2 h
      obtain ⟨h2, h3⟩ := and2 h
      exact .named ⟨O.gl h4, (glB_ok h4).2.1, .inl (G.nm _ _ (xnm_ok h5))⟩ (by rw [O.hN]; exact of_decide_eq_true h2) (by show X.env.scope.names.lookup _ = _; rw [O.hsc]; exact of_decide_eq_true h3) (fun a oe cls d pn hz hf => suite_ok O G h6 a oe cls d pn hz hf) (chkHs_ok O G l hs h7)
    · rename_i heq1 heq2; cases heq1
    · cases h
  | (cl, none, r) :: l, hd :: hs, h => by
    unfold chkHs at h
    split at h
    · rename_i heq _; cases heq
    · rename_i heq1 heq2; cases heq1
    · rename_i x _ e _ _ _ heq1 heq2
      cases heq1
      cases heq2
      obtain ⟨h, h7⟩ := and2 h
      obtain ⟨h, h6⟩ := and2 h
      obtain ⟨h4, h5⟩ := and2 h
      exact .bare ⟨O.gl h4, (glB_ok h4).2.1, .inl (G.nm _ _ (xnm_ok h5))⟩ (fun a oe cls d pn hz hf => suite_ok0 h6 _ cls) (chkHs_ok O G l hs h7)
    · cases h
  | (_, some _, _) :: _, [], h => by cases h
  | (_, none, _) :: _, [], h => by cases h
/-- what comes out of the clauses is what they wish -/
theorem goX_wish (hK : X.K = c.K) (G : GloX M X c kk) {k : Nat} {fs : List (Str × D)} {ρ : List D} {m : List Cell} {z z' : Fz} {H0 H : Hp} {σ : L2.St} {D : Ends} {d : Option Addr} (S : SS c ρ m z' σ H) (g : Gr z H0 z' H) (hx : ExcAt c.K c.C z' H fs d) : ∀ hs : List (Nat × Option Nat × XR), SAt c z H0 D (goX M.T.subOf M.T.xfl k fs ρ m hs) → mixW X.K c.W D (clsOf M c hs) (.ref (c.C k)) d σ H
  | [], A => A d σ H z' S g hx
  | (cl, oi, r) :: l, A => by
    unfold goX at A
    cases q : M.T.subOf k cl with
    | none => rw [q] at A; exact A.elim
    | some bb =>
      rw [q] at A
      obtain ⟨_, m5⟩ := subOf_ok q
      have ex : PySem.W.exmOne X.K (.ref (c.C k)) (.ref (c.C cl)) = some bb := (G.sub _ _ _ m5).2
      cases bb with
      | false =>
        have ih := goX_wish hK G S g hx l A
        cases oi with
        | none => exact ⟨false, ex, (fun z => by cases z), fun _ => ih⟩
        | some i => exact ⟨false, ex, (fun z => by cases z), fun _ => ih⟩
      | true =>
        replace A : SAt c z H0 D (if cd (∀ j, oi = some j → j < ρ.length) = true then (match evX M.T.subOf M.T.xfl k fs r with | some d => .rt d m | none => .stuck) else .stuck) := A
        by_cases hl : cd (∀ j, oi = some j → j < ρ.length) = true
        · rw [if_pos hl] at A
          replace hl := cd_iff.mp hl
          cases oi with
          | some i =>
            refine ⟨true, ex, fun _ a na => ?_, fun z => by cases z⟩
            refine ⟨k, fs, rfl, ρ.set i .no, m, z', S.hide i _, ?_, hx, ?_⟩
            · have : i < σ.length := by rw [S.len]; exact hl i rfl
              simp [this]
            · cases e' : evX M.T.subOf M.T.xfl k fs r with
              | none => rw [e'] at A; exact A.elim
              | some dd =>
                rw [e'] at A
                exact fun v H2 z2 S2 g2 rr => A v _ _ H2 z2 S2 (g.trans g2) rr
          | none =>
            refine ⟨true, ex, fun _ a na => ?_, fun z => by cases z⟩
            refine ⟨k, fs, rfl, ρ, m, z', S, ?_⟩
            cases e' : evX M.T.subOf M.T.xfl k fs r with
            | none => rw [e'] at A; exact A.elim
            | some dd =>
              rw [e'] at A
              exact fun v H2 z2 S2 g2 rr => A v _ _ H2 z2 S2 (g.trans g2) rr
        · rw [if_neg hl] at A; exact A.elim
theorem ps_tryD {body : List Stmt} {b : List D → List Cell → SR} {hs : List (Nat × Option Nat × XR)} {h₀ : ExceptHandler} {hds : List ExceptHandler} {pos : Pos} (O : XOk X c N sc kk) (G : GloX M X c kk) (hst : X.stack = X.env :: X.outer) (hf : X.env.frame = some X.env.locals) (hc : chkHs M.T N sc hs (h₀ :: hds) = true)
    (hb : ∀ (W : WX) (pn : List (Addr × Obj)) (xe : Value → Shared → Prop), Takes (X.tr pn xe) W → PassesOwn (model X.prog X.w) X.A X.env xe → PSs (X.tr pn xe) body (tS { c with W := W } b)) :
    PS X (.Try body (h₀ :: hds) [] [] pos) (tS c (sTry M.T.subOf M.T.xfl b hs)) := by
  refine (ps_mix (tb := fun W => tS { c with W := W } b) (Wout := c.W) hst hf (by rw [O.hN]; exact O.nd) O.tk hb (chkHs_ok O G hs _ hc)).imp fun D σ H ⟨ρ, m, z, S, A⟩ => ?_
  refine ⟨ρ, m, z, S.chg, ?_⟩
  have A : SAt c z H D (catchR M.T.subOf M.T.xfl hs (b ρ m)) := A
  generalize b ρ m = q at A ⊢
  cases q with
  | nx ρ' m' => exact fun σ' H' z' S' g => A σ' H' z' S'.unchg g
  | bk ρ' m' => exact fun σ' H' z' S' g => A σ' H' z' S'.unchg g
  | ct ρ' m' => exact fun σ' H' z' S' g => A σ' H' z' S'.unchg g
  | rt d m' => exact fun v ρ' σ' H' z' S' g rr => A v ρ' σ' H' z' S'.unchg g rr
  | stuck => exact A
  | exc k fs ρ' m' => exact fun d σ' H' z' S' g hx => goX_wish O.hK G S'.unchg g hx hs A
end
end GS
end

noncomputable section
namespace GS
open PySem PySem.Spec PyProof.Rows L2
/-! ### tests: lists that are not empty, and, or, not -/
inductive XB where
  | tst (e : E) | tru (e : E) | not (b : XB) | and (a b : XB) | or (a b : XB)
def truD (m : List Cell) (d : D) : Option Bool := match res m d with
  | .lst l => some (!l.isEmpty)
  | _ => none
def evXB (M : Sem) : XB → List D → List Cell → R Bool
  | .tst e => evT (evE M e)
  | .tru e => fun ρ m => (evE M e ρ m).bind fun d m => R.of (truD m d) m
  | .not b => fun ρ m => (evXB M b ρ m).bind fun k m => .ok (!k) m
  | .and a b => fun ρ m => (evXB M a ρ m).bind fun k m => if k = true then evXB M b ρ m else .ok false m
  | .or a b => fun ρ m => (evXB M a ρ m).bind fun k m => if k = true then .ok true m else evXB M b ρ m
/-- a name, a field: its test is its value's truth -/
def plainTst : Expr → Bool
  | .Name .. => true
  | .Attribute .. => true
  | _ => false
def chkXB (ck : E → Expr → Bool) : XB → Expr → Bool
  | .tst e, e' => ck e e'
  | .tru e, e' => ck e e' && plainTst e'
  | .not b, e' => match e' with | .UnaryOp .Not x _ => chkXB ck b x | _ => false
  | .and a b, e' => match e' with | .BoolOp .And [x, y] _ => chkXB ck a x && chkXB ck b y | _ => false
  | .or a b, e' => match e' with | .BoolOp .Or [x, y] _ => chkXB ck a x && chkXB ck b y | _ => false
section
variable {M : Sem} {X : Cx} {c : Ctx} {ck : E → Expr → Bool}
theorem tru_pt {e : Expr} {f : List D → List Cell → R D} (h : PE X e (tG c (rD c) f)) (hK : X.K = c.K) (hp : plainTst e = true) : PT X e (tG c rB fun ρ m => (f ρ m).bind fun d m => R.of (truD m d) m) :=
  (pt_truth h (by cases e <;> first | (cases hp; done) | (intro _; rfl))).imp fun σ H Q ⟨ρ, m, z, S, A⟩ => by
    refine ⟨ρ, m, z, S, A.bind.imp fun v H1 ⟨z1, d, m1, S1, g1, r1, _, A1⟩ => ?_⟩
    obtain ⟨k, ek, A2⟩ := A1.of
    have r2 := res_ok S1.st r1
    unfold truD at ek
    split at ek
    · rename_i l el
      cases ek
      rw [el] at r2
      obtain ⟨p, xs, rfl, q1, q2⟩ := r2
      refine ⟨!l.isEmpty, .inl ⟨xs, .inl q1, ?_⟩, A2.ret S1 rfl⟩
      have := RepL.length q2
      cases l <;> cases xs <;> first | rfl | simp at this
    · cases ek
theorem bt_t {σ : L2.St} {H : Hp} {α β : Type} {rel : α → β → Fz → Prop} {f : List D → List Cell → R Bool} {k : Bool → List D → List Cell → R α} {Q : β → Hp → Prop} (A : tG c rel (fun ρ m => (f ρ m).bind fun b m => k b ρ m) σ H Q) :
    tG c rB f σ H fun b H1 => tG c rel (k b) σ H1 Q := by
  obtain ⟨ρ, m, z, S, A⟩ := A
  exact ⟨ρ, m, z, S, A.bind.imp fun b H1 ⟨z1, d, m1, S1, g1, q1, _, A1⟩ => by cases q1; exact ⟨ρ, m1, z1, S1, A1⟩⟩
theorem soundXB (hK : X.K = c.K) (h : ∀ e e', ck e e' = true → PE X e' (tG c (rD c) (evE M e)) ∧ PT X e' (tG c rB (evT (evE M e)))) : ∀ (b : XB) (e' : Expr), chkXB ck b e' = true → PT X e' (tG c rB (evXB M b))
  | .tst e, e', q => (h e e' q).2
  | .tru e, e', q => by
    obtain ⟨q1, q2⟩ := and2 q
    exact tru_pt (h e e' q1).1 hK q2
  | .not b, e', q => by
    unfold chkXB at q
    split at q
    · refine (pt_not (soundXB hK h b _ q)).imp fun σ H Q A => ?_
      obtain ⟨ρ, m, z, S, A⟩ := bt_t (k := fun k _ m => .ok (!k) m) A
      exact ⟨ρ, m, z, S, A.imp fun k H1 A1 => tG_ok (rel := rB) (d := !k) A1 fun _ => rfl⟩
    · cases q
  | .and a b, e', q => by
    unfold chkXB at q
    split at q
    · obtain ⟨q1, q2⟩ := and2 q
      refine (pw_and (soundXB hK h a _ q1) (pw_and1 (soundXB hK h b _ q2))).pt.imp fun σ H Q A => ?_
      obtain ⟨ρ, m, z, S, A⟩ := bt_t (k := fun k ρ m => if k = true then evXB M b ρ m else .ok false m) A
      refine ⟨ρ, m, z, S, A.imp fun k H1 A1 => ?_⟩
      cases k with
      | true => exact A1
      | false => exact tG_ok (rel := rB) (d := false) A1 fun _ => rfl
    · cases q
  | .or a b, e', q => by
    unfold chkXB at q
    split at q
    · obtain ⟨q1, q2⟩ := and2 q
      refine (pw_or (soundXB hK h a _ q1) (pw_or1 (soundXB hK h b _ q2))).pt.imp fun σ H Q A => ?_
      obtain ⟨ρ, m, z, S, A⟩ := bt_t (k := fun k ρ m => if k = true then .ok true m else evXB M b ρ m) A
      refine ⟨ρ, m, z, S, A.imp fun k H1 A1 => ?_⟩
      cases k with
      | true => exact tG_ok (rel := rB) (d := true) A1 fun _ => rfl
      | false => exact A1
    · cases q
def sIfB (p : List D → List Cell → R Bool) (s t : List D → List Cell → SR) : List D → List Cell → SR := fun ρ m => (p ρ m).then ρ fun k m => if k = true then s ρ m else t ρ m
theorem ps_ifB {e : Expr} {body orelse : List Stmt} {pos : Pos} {p : List D → List Cell → R Bool} {s t : List D → List Cell → SR} (he : PT X e (tG c rB p)) (hb : PSs X body (tS c s)) (ho : PSs X orelse (tS c t)) : PS X (.If e body orelse pos) (tS c (sIfB p s t)) := (ps_if he hb ho).imp fun D σ H ⟨ρ, m, z, S, A⟩ =>
  ⟨ρ, m, z, S, (SAt.expr A).imp fun k H1 ⟨z1, d, m1, S1, g1, r1, _, A1⟩ => by
    cases r1
    cases k with
    | true => exact ⟨ρ, m1, z1, S1, A1⟩
    | false => exact ⟨ρ, m1, z1, S1, A1⟩⟩
/-! ### small expressions: names, ints, sums, comparisons -/
def chkSm (N : List Str) (sc : Scope) : E → Expr → Bool
  | .var i, e' => match e' with | .Name x _ => decide (N[i]? = some x) && visB sc x | _ => false
  | .int i, e' => match e' with | .Constant (.int j) _ _ => decide (i = j) | _ => false
  | .bin o a b, e' => match e' with | .BinOp x o' y _ => decide (o = o') && chkSm N sc a x && chkSm N sc b y | _ => false
  | .cmp o a b, e' => match e' with | .Compare x [o'] [y] _ => decide (o = o') && !behindInMarks o y && chkSm N sc a x && chkSm N sc b y | _ => false
  | _, _ => false
theorem soundSm {N : List Str} {sc : Scope} (hK : X.K = c.K) (hu : X.A.units + 70 < cLine) (hN : X.N = N) (hV : ∀ x, visB sc x = true → Vis X.env.scope x) : ∀ (e : E) (e' : Expr), chkSm N sc e e' = true → PE X e' (tG c (rD c) (evE M e)) ∧ PT X e' (tG c rB (evT (evE M e)))
  | .var i, e', h => by
    unfold chkSm at h
    split at h
    · rename_i x pos
      obtain ⟨h1, h2⟩ := and2 h
      have q : PE X (.Name x pos) (tG c (rD c) (evE M (.var i))) := pe_varD (by rw [hN]; exact of_decide_eq_true h1) (hV _ h2) (visB_ok h2).2.1 (visB_ok h2).2.2
      exact ⟨q, pt_valD q fun _ => rfl⟩
    · cases h
  | .int i, e', h => by
    unfold chkSm at h
    split at h
    · rename_i j kk pos
      cases of_decide_eq_true h
      have q := pe_conD (X := X) (c := c) (e := .Constant (.int i) kk pos) (d := .int i) pe_int fun _ => rfl
      exact ⟨q, pt_valD q fun _ => rfl⟩
    · cases h
  | .bin o a b, e', h => by
    unfold chkSm at h
    split at h
    · rename_i x o' y pos
      obtain ⟨h1, h2, h3⟩ := ands3 h
      cases of_decide_eq_true h1
      have q := pe_bin (pos := pos) (or_bin hK o) (soundSm hK hu hN hV a _ h2).1 (soundSm hK hu hN hV b _ h3).1
      exact ⟨q, pt_valD q fun _ => rfl⟩
    · cases h
  | .cmp o a b, e', h => by
    unfold chkSm at h
    split at h
    · rename_i x o' y pos
      obtain ⟨h, h3, h4⟩ := ands3 h
      obtain ⟨h1, h2⟩ := and2 h
      cases of_decide_eq_true h1
      have hm : behindInMarks o y = false := by simpa using h2
      exact ⟨pe_cmpD hK hu (soundSm hK hu hN hV a _ h3).1 (soundSm hK hu hN hV b _ h4).1 hm, pt_cmpD hK hu (soundSm hK hu hN hV a _ h3).1 (soundSm hK hu hN hV b _ h4).1 hm⟩
    · cases h
  | .str _, _, h | .bl _, _, h | .non, _, h | .glob _, _, h | .neg _, _, h | .chain .., _, h | .chain3 .., _, h | .and _, _, h | .or _, _, h | .not _, _, h | .ite .., _, h | .tup _, _, h | .lst _, _, h | .idx .., _, h | .slc .., _, h | .call .., _, h | .fn .., _, h | .ty .., _, h | .sidx .., _, h | .sm .., _, h | .bits _, _, h | .isA .., _, h | .fld .., _, h | .meth .., _, h | .make .., _, h | .pop _, _, h | .dmin _, _, h | .lrg _, _, h | .own _, _, h | .frz _, _, h | .dnew, _, h | .dict _, _, h | .dget .., _, h | .lk .., _, h | .rng1 _, _, h | .rng2 .., _, h | .rngd .., _, h | .zip .., _, h | .comp .., _, h => by cases h
/-! ### except suites that test, and may go on behind the try -/
/-- if x.f != e [or more]: return r -/
structure XH where
  cl : Nat
  i : Nat
  f : Str
  e : E
  more : Option XB
  r : XR
def orB (M : Sem) : Option XB → List D → List Cell → R Bool
  | none => fun _ m => .ok false m
  | some b => evXB M b
/-- the test -/
def xhT (M : Sem) (k : Nat) (fs : List (Str × D)) (h : XH) : List D → List Cell → R Bool := fun ρ m =>
  ((R.of (if M.T.xfl k h.f = true then fs.lookup h.f else none) m).bind fun x m => (evE M h.e ρ m).bind fun y m => (R.of (cmpD .NotEq (res m x) (res m y)) m).bind toB).bind fun b m => if b = true then .ok true m else orB M h.more ρ m
def xhR (M : Sem) (k : Nat) (fs : List (Str × D)) (h : XH) : List D → List Cell → SR := fun ρ m => (xhT M k fs h ρ m).then ρ fun b m => if b = true then (R.of (evX M.T.subOf M.T.xfl k fs h.r) m).then ρ fun d m => .rt d m else .nx ρ m
def goH (M : Sem) (k : Nat) (fs : List (Str × D)) (ρ : List D) (m : List Cell) : List XH → SR
  | [] => .exc k fs ρ m
  | h :: l => match M.T.subOf k h.cl with
    | some true => if cd (h.i < ρ.length) = true then xhR M k fs h (ρ.set h.i .no) m else .stuck
    | some false => goH M k fs ρ m l
    | none => .stuck
def catchH (M : Sem) (hs : List XH) : SR → SR
  | .exc k fs ρ m => goH M k fs ρ m hs
  | r => r
def sTryH (M : Sem) (b : List D → List Cell → SR) (hs : List XH) : List D → List Cell → SR := fun ρ m => catchH M hs (b ρ m)
end
section
variable {M : Sem} {N : List Str} {kk : Nat} {X : Cx} {c : Ctx} {sc : Scope} {k i : Nat} {fs : List (Str × D)} {a : Addr} {d : Option Addr} {oe : Obj} {pn : List (Addr × Obj)}
theorem At.up {α β : Type} {rel : α → β → Fz → Prop} {r : R α} {ρ : List D} {z z1 : Fz} {σ : L2.St} {H H1 : Hp} {Q : β → Hp → Prop} (g : Gr z H z1 H1) (h : At c rel r ρ z σ H Q) : At c rel r ρ z1 σ H1 Q := by
  cases r with
  | ok d m => exact fun v H' z' S q r => h v H' z' S (g.trans q) r
  | exc k fs m => exact fun d H' z' S q x => h d H' z' S (g.trans q) x
  | stuck => exact h
/-- a field of the exception, first of all -/
def tF (c : Ctx) (k : Nat) (fs : List (Str × D)) (a : Addr) (i : Nat) (d : Option Addr) {α β : Type} (rel : α → β → Fz → Prop) (r : List D → List Cell → R α) : L2.St → Hp → (β → Hp → Prop) → Prop := fun σ H Q =>
  ∃ ρ m z, SS c ρ m z σ H ∧ σ[i]? = some (some (.ref a)) ∧ ExcAt c.K c.C z H fs d ∧ At c rel (r ρ m) ρ z σ H Q
theorem pt_fne {x n : Str} {p p1 pos : Pos} {e' : Expr} {g : List D → List Cell → R D} {fl : Nat → Str → Bool} (hK : X.K = c.K) (hu : X.A.units + 70 < cLine) (hx : fl k n = true → XfC X.K (c.C k) ∧ PySem.W.findIn X.K (.ref (c.C k)) n = some none) (hz : Zc (.ref (c.C k)) d oe) (hf : ∃ vs, oe.data = .fields vs) (hN : X.N[i]? = some x) (hv : Vis X.env.scope x)
    (h1 : (x == ("__debug__" : Str)) = false) (h2 : (x == ("__classdict__" : Str)) = false) (he : PE (X.suite a ((a, oe) :: pn)) e' (tG c (rD c) g)) :
    PT (X.suite a ((a, oe) :: pn)) (.Compare (.Attribute (.Name x p) n p1) [.NotEq] [e'] pos) (tF c k fs a i d rB fun ρ m => (R.of (if fl k n = true then fs.lookup n else none) m).bind fun x m => (g ρ m).bind fun y m => (R.of (cmpD .NotEq (res m x) (res m y)) m).bind toB) := by
  by_cases q : fl k n = true
  · obtain ⟨T, hno⟩ := hx q
    refine (pt_cmpR (or_cmp (X := X.suite a ((a, oe) :: pn)) hK hu .NotEq) (px_fld (fs := fs) hK T hno hz hf hN hv h1 h2) he (nobehind _ (by decide) (by decide))).imp fun σ H Q ⟨ρ, m, z, S, hσ, ha, A⟩ => ?_
    rw [if_pos q] at A
    refine ⟨ρ, m, z, S, hσ, ha, ?_⟩
    cases ql : fs.lookup n with
    | none => rw [ql] at A; exact A.elim
    | some y =>
      rw [ql] at A
      intro v H1 z1 S1 g1 r1
      have A : At c rB ((g ρ m).bind fun w m => (R.of (cmpD .NotEq (res m y) (res m w)) m).bind toB) ρ z σ H Q := A
      refine ⟨ρ, m, z1, S1, (At.up g1 A).bind.imp fun w H2 ⟨z2, dw, m2, S2, g2, q2, _, A2⟩ => ?_⟩
      exact ⟨ρ, m2, z2, σ, _, _, S2, res_ok S2.st (Rep.mono g2.toLe _ _ r1), res_ok S2.st q2, A2.toB'⟩
  · refine ⟨fun pins s σ H Q I ⟨ρ, m, z, S, _, _, A⟩ => ?_⟩
    rw [if_neg q] at A
    exact A.elim
def chkF (N : List Str) (sc : Scope) (h : XH) : Expr → Bool
  | .Compare (.Attribute (.Name x _) f _) [.NotEq] [e'] _ => decide (h.f = f) && decide (N[h.i]? = some x) && visB sc x && chkSm N sc h.e e'
  | _ => false
def chkXt (N : List Str) (sc : Scope) (h : XH) (t : Expr) : Bool := match h.more with
  | none => chkF N sc h t
  | some b => match t with
    | .BoolOp .Or [t1, t2] _ => chkF N sc h t1 && chkXB (chkSm N sc) b t2
    | _ => false
theorem tF_t {σ : L2.St} {H : Hp} {α β : Type} {rel : α → β → Fz → Prop} {f : List D → List Cell → R Bool} {g : Bool → List D → List Cell → R α} {Q : β → Hp → Prop} (A : tF c k fs a i d rel (fun ρ m => (f ρ m).bind fun b m => g b ρ m) σ H Q) :
    tF c k fs a i d rB f σ H fun b H1 => tG c rel (g b) σ H1 Q := by
  obtain ⟨ρ, m, z, S, hσ, hx, A⟩ := A
  exact ⟨ρ, m, z, S, hσ, hx, A.bind.imp fun b H1 ⟨z1, d, m1, S1, g1, q1, _, A1⟩ => by cases q1; exact ⟨ρ, m1, z1, S1, A1⟩⟩
theorem pt_F (O : XOk X c N sc kk) (G : GloX M X c kk) {h : XH} {t : Expr} (hz : Zc (.ref (c.C k)) d oe) (hf : ∃ vs, oe.data = .fields vs) (q : chkF N sc h t = true) :
    PT (X.suite a ((a, oe) :: pn)) t (tF c k fs a h.i d rB fun ρ m => (R.of (if M.T.xfl k h.f = true then fs.lookup h.f else none) m).bind fun x m => (evE M h.e ρ m).bind fun y m => (R.of (cmpD .NotEq (res m x) (res m y)) m).bind toB) := by
  unfold chkF at q
  split at q
  · rename_i x p f p1 e' pos
    obtain ⟨q, q3, q4⟩ := ands3 q
    obtain ⟨q1, q2⟩ := and2 q
    cases of_decide_eq_true q1
    exact pt_fne O.hK O.hu (fun e => by
      obtain ⟨x', l, n, j, m1, m2⟩ := xfl_ok e
      obtain ⟨s1, s2⟩ := G.see k x' l n m1
      exact ⟨s1.xf, s2 _ m2⟩) hz hf (by rw [O.hN]; exact of_decide_eq_true q2) (O.vis q3) (visB_ok q3).2.1 (visB_ok q3).2.2 (soundSm (X := X.suite a ((a, oe) :: pn)) O.hK O.hu O.hN (fun x hx => O.vis hx) h.e e' q4).1
  · cases q
theorem pt_H (O : XOk X c N sc kk) (G : GloX M X c kk) {h : XH} {t : Expr} (hz : Zc (.ref (c.C k)) d oe) (hf : ∃ vs, oe.data = .fields vs) (q : chkXt N sc h t = true) :
    PT (X.suite a ((a, oe) :: pn)) t (tF c k fs a h.i d rB (xhT M k fs h)) := by
  unfold chkXt at q
  split at q
  · rename_i hm
    refine (pt_F (fs := fs) (pn := pn) O G hz hf q).imp fun σ H Q A => ?_
    unfold xhT orB at A
    rw [hm] at A
    obtain ⟨ρ, m, z, S, hσ, hx, A⟩ := tF_t (g := fun b _ m => if b = true then .ok true m else .ok false m) A
    refine ⟨ρ, m, z, S, hσ, hx, A.imp fun b H1 A1 => ?_⟩
    cases b with
    | true => exact tG_ok (rel := rB) (d := true) A1 fun _ => rfl
    | false => exact tG_ok (rel := rB) (d := false) A1 fun _ => rfl
  · rename_i b hm
    split at q
    · obtain ⟨q1, q2⟩ := and2 q
      refine (pw_or (pt_F (fs := fs) (pn := pn) O G hz hf q1) (pw_or1 (soundXB (X := X.suite a ((a, oe) :: pn)) (M := M) O.hK (fun e e' hh => soundSm (X := X.suite a ((a, oe) :: pn)) O.hK O.hu O.hN (fun x hx => O.vis hx) e e' hh) b _ q2))).pt.imp fun σ H Q A => ?_
      unfold xhT orB at A
      rw [hm] at A
      obtain ⟨ρ, m, z, S, hσ, hx, A⟩ := tF_t (g := fun k ρ m => if k = true then .ok true m else evXB M b ρ m) A
      refine ⟨ρ, m, z, S, hσ, hx, A.imp fun k H1 A1 => ?_⟩
      cases k with
      | true => exact tG_ok (rel := rB) (d := true) A1 fun _ => rfl
      | false => exact A1
    · cases q
/-- what the suite wishes -/
def tsH (M : Sem) (c : Ctx) (h : XH) (a : Addr) (cls : Value) (d : Option Addr) : TS := fun D σ H => ∃ k fs ρ m z, cls = .ref (c.C k) ∧ SS c ρ m z σ H ∧ σ[h.i]? = some (some (.ref a)) ∧ ExcAt c.K c.C z H fs d ∧ SAt c z H D (xhR M k fs h ρ m)
theorem suite_H (O : XOk X c N sc kk) (G : GloX M X c kk) {h : XH} {t re : Expr} {rp ip : Pos} (q : chkXt N sc h t = true) (qr : chkX0 h.r re = true) (a : Addr) (oe : Obj) (cls : Value) (d : Option Addr) (pn : List (Addr × Obj)) (hz : Zc cls d oe) (hf : ∃ vs, oe.data = .fields vs) :
    PSs (X.suite a ((a, oe) :: pn)) [.If t [.Return (some re) rp] [] ip] (tsH M c h a cls d) := by
  refine ⟨fun pins s σ H D I ⟨k, fs, ρ, m, z, hc, S, hσ, hx, A⟩ => ?_⟩
  subst hc
  refine (pss_cons (ps_if (pt_H (fs := fs) (pn := pn) O G hz hf q) (pss_consD (c := c) (ps_retD (soundX0 (sub := M.T.subOf) (fl := M.T.xfl) (k := k) (fs := fs) h.r re qr).1) pss_nilD) (pss_nilD (c := c))) pss_nil).run pins s σ H D I ?_
  refine ⟨ρ, m, z, S, hσ, hx, (SAt.expr (r := xhT M k fs h ρ m) A).imp fun b H1 ⟨z1, d, m1, S1, g1, r1, _, A1⟩ => ?_⟩
  cases r1
  cases b with
  | true =>
    refine ⟨ρ, m1, z1, S1, ?_⟩
    have A1 : SAt c z1 H1 D ((R.of (evX M.T.subOf M.T.xfl k fs h.r) m1).then ρ fun d m => .rt d m) := A1
    show SAt c z1 H1 _ ((sRet (fun _ m => R.of (evX M.T.subOf M.T.xfl k fs h.r) m) ρ m1).andThen fun ρ m => .nx ρ m)
    unfold sRet
    cases e : evX M.T.subOf M.T.xfl k fs h.r with
    | none => rw [e] at A1; exact A1.elim
    | some y => rw [e] at A1; exact A1
  | false => exact ⟨ρ, m1, z1, S1, A1⟩
/-- the clauses -/
def chkHH (T : Tab) (N : List Str) (sc : Scope) : List XH → List ExceptHandler → Bool
  | [], [] => true
  | h :: l, .ExceptHandler (some (.Name x _)) (some n) [.If t [.Return (some re) _] [] _] _ :: hs => decide (N[h.i]? = some n) && decide (sc.names.lookup n = some .local) && glB sc x && (T.xnm.any fun p => decide (p.1 = h.cl) && decide (p.2 = x)) && chkXt N sc h t && chkX0 h.r re && chkHH T N sc l hs
  | _, _ => false
def clsH (M : Sem) (c : Ctx) : List XH → List (Value × Option Nat × (Addr → Value → Option Addr → TS))
  | [] => []
  | h :: l => (.ref (c.C h.cl), some h.i, fun a cls d => tsH M c h a cls d) :: clsH M c l
theorem chkHH_ok (O : XOk X c N sc kk) (G : GloX M X c kk) : ∀ (hs : List XH) (hds : List ExceptHandler), chkHH M.T N sc hs hds = true → MxCls X hds (clsH M c hs)
  | [], [], _ => .nil
  | [], _ :: _, h => by cases h
  | h0 :: l, hd :: hs, h => by
    unfold chkHH at h
    split at h
    · rename_i heq _; cases heq
    · rename_i h1' l1 x _ n t re _ _ _ _ heq1 heq2
      cases heq1
      cases heq2
      obtain ⟨h, h8⟩ := and2 h
      obtain ⟨h, h7⟩ := and2 h
      obtain ⟨h, h6⟩ := and2 h
      obtain ⟨h, h5⟩ := and2 h
      obtain ⟨h, h4⟩ := and2 h
      obtain ⟨h2, h3⟩ := and2 h
      exact .named ⟨O.gl h4, (glB_ok h4).2.1, .inl (G.nm _ _ (xnm_ok h5))⟩ (by rw [O.hN]; exact of_decide_eq_true h2) (by show X.env.scope.names.lookup _ = _; rw [O.hsc]; exact of_decide_eq_true h3) (fun a oe cls d pn hz hf => suite_H O G h6 h7 a oe cls d pn hz hf) (chkHH_ok O G l hs h8)
    · cases h
  | _ :: _, [], h => by cases h
theorem xhR_nx {h : XH} {ρ ρ' : List D} {m m' : List Cell} (e : xhR M k fs h ρ m = .nx ρ' m') : ρ' = ρ := by
  unfold xhR at e
  cases q : xhT M k fs h ρ m with
  | ok b m1 =>
    rw [q] at e
    cases b with
    | true =>
      have e : ((R.of (evX M.T.subOf M.T.xfl k fs h.r) m1).then ρ fun d m => SR.rt d m) = .nx ρ' m' := e
      cases q2 : evX M.T.subOf M.T.xfl k fs h.r with
      | none => rw [q2] at e; cases e
      | some y => rw [q2] at e; cases e
    | false =>
      have e : SR.nx ρ m1 = .nx ρ' m' := e
      cases e; rfl
  | exc k2 fs2 m1 => rw [q] at e; cases e
  | stuck => rw [q] at e; cases e
theorem xhR_bk {h : XH} {ρ ρ' : List D} {m m' : List Cell} (e : xhR M k fs h ρ m = .bk ρ' m' ∨ xhR M k fs h ρ m = .ct ρ' m') : False := by
  unfold xhR at e
  cases q : xhT M k fs h ρ m with
  | ok b m1 =>
    rw [q] at e
    cases b with
    | true =>
      have e : ((R.of (evX M.T.subOf M.T.xfl k fs h.r) m1).then ρ fun d m => SR.rt d m) = .bk ρ' m' ∨ ((R.of (evX M.T.subOf M.T.xfl k fs h.r) m1).then ρ fun d m => SR.rt d m) = .ct ρ' m' := e
      cases q2 : evX M.T.subOf M.T.xfl k fs h.r with
      | none => rw [q2] at e; rcases e with e | e <;> cases e
      | some y => rw [q2] at e; rcases e with e | e <;> cases e
    | false =>
      have e : SR.nx ρ m1 = .bk ρ' m' ∨ SR.nx ρ m1 = .ct ρ' m' := e
      rcases e with e | e <;> cases e
  | exc k2 fs2 m1 => rw [q] at e; rcases e with e | e <;> cases e
  | stuck => rw [q] at e; rcases e with e | e <;> cases e
theorem set_again {ρ : List D} {i : Nat} : (ρ.set i D.no).set i .no = ρ.set i .no := by simp
theorem goH_wish (hK : X.K = c.K) (G : GloX M X c kk) {k : Nat} {fs : List (Str × D)} {ρ : List D} {m : List Cell} {z z' : Fz} {H0 H : Hp} {σ : L2.St} {D : Ends} {d : Option Addr} (S : SS c ρ m z' σ H) (g : Gr z H0 z' H) (hx : ExcAt c.K c.C z' H fs d) : ∀ hs : List XH, SAt c z H0 D (goH M k fs ρ m hs) → mixW X.K c.W D (clsH M c hs) (.ref (c.C k)) d σ H
  | [], A => A d σ H z' S g hx
  | h :: l, A => by
    unfold goH at A
    cases q : M.T.subOf k h.cl with
    | none => rw [q] at A; exact A.elim
    | some bb =>
      rw [q] at A
      obtain ⟨_, m5⟩ := subOf_ok q
      have ex : PySem.W.exmOne X.K (.ref (c.C k)) (.ref (c.C h.cl)) = some bb := (G.sub _ _ _ m5).2
      cases bb with
      | false => exact ⟨false, ex, (fun z => by cases z), fun _ => goH_wish hK G S g hx l A⟩
      | true =>
        replace A : SAt c z H0 D (if cd (h.i < ρ.length) = true then xhR M k fs h (ρ.set h.i .no) m else .stuck) := A
        by_cases hl : cd (h.i < ρ.length) = true
        · rw [if_pos hl] at A
          replace hl := cd_iff.mp hl
          refine ⟨true, ex, fun _ a na => ?_, fun z => by cases z⟩
          refine ⟨k, fs, ρ.set h.i .no, m, z', rfl, S.hide h.i _, ?_, hx, ?_⟩
          · have : h.i < σ.length := by rw [S.len]; exact hl
            simp [this]
          · have A := SAt.up g A
            cases e : xhR M k fs h (ρ.set h.i .no) m with
            | nx ρ' m' =>
              rw [e] at A
              have er := xhR_nx e
              subst er
              intro σ' H' z2 S2 g2
              have S3 := S2.hide h.i none
              rw [set_again] at S3
              exact A _ _ _ S3 g2
            | bk ρ' m' => exact (xhR_bk (.inl e)).elim
            | ct ρ' m' => exact (xhR_bk (.inr e)).elim
            | rt dd m' => rw [e] at A; exact A
            | exc k2 f2 ρ' m' => rw [e] at A; exact A
            | stuck => rw [e] at A; exact A.elim
        · rw [if_neg hl] at A; exact A.elim
theorem ps_tryH {body : List Stmt} {b : List D → List Cell → SR} {hs : List XH} {h₀ : ExceptHandler} {hds : List ExceptHandler} {pos : Pos} (O : XOk X c N sc kk) (G : GloX M X c kk) (hst : X.stack = X.env :: X.outer) (hf : X.env.frame = some X.env.locals) (hc : chkHH M.T N sc hs (h₀ :: hds) = true)
    (hb : ∀ (W : WX) (pn : List (Addr × Obj)) (xe : Value → Shared → Prop), Takes (X.tr pn xe) W → PassesOwn (model X.prog X.w) X.A X.env xe → PSs (X.tr pn xe) body (tS { c with W := W } b)) :
    PS X (.Try body (h₀ :: hds) [] [] pos) (tS c (sTryH M b hs)) := by
  refine (ps_mix (tb := fun W => tS { c with W := W } b) (Wout := c.W) hst hf (by rw [O.hN]; exact O.nd) O.tk hb (chkHH_ok O G hs _ hc)).imp fun D σ H ⟨ρ, m, z, S, A⟩ => ?_
  refine ⟨ρ, m, z, S.chg, ?_⟩
  have A : SAt c z H D (catchH M hs (b ρ m)) := A
  generalize b ρ m = q at A ⊢
  cases q with
  | nx ρ' m' => exact fun σ' H' z' S' g => A σ' H' z' S'.unchg g
  | bk ρ' m' => exact fun σ' H' z' S' g => A σ' H' z' S'.unchg g
  | ct ρ' m' => exact fun σ' H' z' S' g => A σ' H' z' S'.unchg g
  | rt d m' => exact fun v ρ' σ' H' z' S' g rr => A v ρ' σ' H' z' S'.unchg g rr
  | stuck => exact A
  | exc k fs ρ' m' => exact fun d σ' H' z' S' g hx => goH_wish O.hK G S'.unchg g hx hs A
end
end GS
end

noncomputable section
namespace GS
open PySem L2
structure SB (X : Cx) (c : Ctx) (op : BoolOp) (f : List D → List Cell → R D) (es : List Expr) : Prop where
  w : ∀ pos, PW X (.BoolOp op es pos) (tG c rB (evT f))
  v : ∀ pos, PE X (.BoolOp op es pos) (tG c (rD c) f)
section
variable {M : Sem} {N : List Str} {k : Nat}
mutual
theorem sound : ∀ (e : E) {X : Cx} {c : Ctx} {sc : Scope} {e' : Expr}, XOk X c N sc k → GloX M X c k → (chkE M.T N e sc e' = true → SE X c M e e') ∧ (∀ tg, chkS M.T N e sc e' tg = true → SI X c M e e' tg)
  | .var i, X, c, sc, e', O, G => by
    have hv : chkE M.T N (.var i) sc e' = true → SE X c M (.var i) e' ∧ notSet e' = true := fun h => by
      unfold chkE at h
      split at h
      · rename_i x pos
        obtain ⟨h1, h2⟩ := and2 h
        have h1 := of_decide_eq_true h1
        have q : PE X (.Name x pos) (tG c (rD c) (evE M (.var i))) := pe_varD (by rw [O.hN]; exact h1) (O.vis h2) (visB_ok h2).2.1 (visB_ok h2).2.2
        exact ⟨.of q (fun _ => rfl) rfl, rfl⟩
      · cases h
    exact ⟨fun h => (hv h).1, fun tg h => (hv h).1.si O.hK (hv h).2⟩
  | .int i, X, c, sc, e', O, G => by
    refine ⟨fun h => ?_, fun tg h => by cases h⟩
    unfold chkE at h
    split at h
    · cases of_decide_eq_true h
      exact .of (pe_conD pe_int fun _ => rfl) (fun _ => rfl) rfl
    · cases h
  | .str i, X, c, sc, e', O, G => by
    refine ⟨fun h => ?_, fun tg h => by cases h⟩
    unfold chkE at h
    split at h
    · cases of_decide_eq_true h
      exact .of (pe_conD pe_str fun _ => rfl) (fun _ => rfl) rfl
    · cases h
  | .bl i, X, c, sc, e', O, G => by
    refine ⟨fun h => ?_, fun tg h => by cases h⟩
    unfold chkE at h
    split at h
    · cases of_decide_eq_true h
      exact .of (pe_conD pe_bl fun _ => rfl) (fun _ => rfl) rfl
    · cases h
  | .non, X, c, sc, e', O, G => by
    refine ⟨fun h => ?_, fun tg h => by cases h⟩
    unfold chkE at h
    split at h
    · exact .of (pe_conD pe_non fun _ => rfl) (fun _ => rfl) rfl
    · cases h
  | .glob n, X, c, sc, e', O, G => by
    have hv : chkE M.T N (.glob n) sc e' = true → SE X c M (.glob n) e' ∧ notSet e' = true := fun h => by
      unfold chkE at h
      split at h
      · obtain ⟨h2, h3⟩ := and2 h
        exact ⟨.of (sound_glob O G h2 h3) (fun _ => rfl) rfl, rfl⟩
      · cases h
    exact ⟨fun h => (hv h).1, fun tg h => (hv h).1.si O.hK (hv h).2⟩
  | .bin o a b, X, c, sc, e', O, G => by
    have hv : chkE M.T N (.bin o a b) sc e' = true → SE X c M (.bin o a b) e' ∧ notSet e' = true := fun h => by
      unfold chkE at h
      split at h
      · obtain ⟨h1, h2, h3⟩ := ands3 h
        cases of_decide_eq_true h1
        exact ⟨.of (pe_bin (or_bin O.hK _) ((sound a O G).1 h2).v ((sound b O G).1 h3).v) (fun _ => rfl) rfl, rfl⟩
      · cases h
    exact ⟨fun h => (hv h).1, fun tg h => (hv h).1.si O.hK (hv h).2⟩
  | .neg a, X, c, sc, e', O, G => by
    refine ⟨fun h => ?_, fun tg h => by cases h⟩
    unfold chkE at h
    split at h
    · exact .of (pe_negD ((sound a O G).1 h).v) (fun _ => rfl) rfl
    · cases h
  | .cmp o a b, X, c, sc, e', O, G => by
    refine ⟨fun h => ?_, fun tg h => by cases h⟩
    unfold chkE at h
    split at h
    · rename_i a' o' b' pos
      obtain ⟨h1, h4⟩ := and2 h
      obtain ⟨h1, h2, h3⟩ := ands3 h1
      cases of_decide_eq_true h1
      have hm : behindInMarks o b' = false := by simpa using h4
      exact ⟨pe_cmpD (pos := pos) O.hK O.hu ((sound a O G).1 h2).v ((sound b O G).1 h3).v hm, pt_cmpD (pos := pos) O.hK O.hu ((sound a O G).1 h2).v ((sound b O G).1 h3).v hm, rfl⟩
    · cases h
  | .chain o p a b d, X, c, sc, e', O, G => by
    refine ⟨fun h => ?_, fun tg h => by cases h⟩
    unfold chkE at h
    split at h
    · rename_i a' o' p' b' d' pos
      obtain ⟨h1, h7⟩ := and2 h
      obtain ⟨h1, h5, h6⟩ := ands3 h1
      obtain ⟨h1, h2, h3⟩ := ands3 h1
      cases of_decide_eq_true h1
      cases of_decide_eq_true h2
      have hm : lastMarks [o, p] [b', d'] = false := by
        show behindInMarks p d' = false
        simpa using h7
      exact ⟨pe_chainD (pos := pos) O.hK O.hu ((sound a O G).1 h3).v ((sound b O G).1 h5).v ((sound d O G).1 h6).v hm, pt_chainD (pos := pos) O.hK O.hu ((sound a O G).1 h3).v ((sound b O G).1 h5).v ((sound d O G).1 h6).v hm, rfl⟩
    · cases h
  | .chain3 o p q a b d e, X, c, sc, e', O, G => by
    refine ⟨fun h => ?_, fun tg h => by cases h⟩
    unfold chkE at h
    split at h
    · rename_i a' o' p' q' b' d' w' pos
      simp only [Bool.and_eq_true] at h
      obtain ⟨⟨⟨⟨⟨⟨⟨h1, h2⟩, h3⟩, h4⟩, h5⟩, h6⟩, h7⟩, h8⟩ := h
      cases of_decide_eq_true h1
      cases of_decide_eq_true h2
      cases of_decide_eq_true h3
      have hm : lastMarks [o, p, q] [b', d', w'] = false := by
        show behindInMarks q w' = false
        simpa using h8
      exact ⟨pe_chain3D (pos := pos) O.hK O.hu ((sound a O G).1 h4).v ((sound b O G).1 h5).v ((sound d O G).1 h6).v ((sound e O G).1 h7).v hm, pt_chain3D (pos := pos) O.hK O.hu ((sound a O G).1 h4).v ((sound b O G).1 h5).v ((sound d O G).1 h6).v ((sound e O G).1 h7).v hm, rfl⟩
    · cases h
  | .and l, X, c, sc, e', O, G => by
    refine ⟨fun h => ?_, fun tg h => by cases h⟩
    unfold chkE at h
    split at h
    · have q := soundAnd l O G h
      exact ⟨q.v _, (q.w _).pt, rfl⟩
    · cases h
  | .or l, X, c, sc, e', O, G => by
    refine ⟨fun h => ?_, fun tg h => by cases h⟩
    unfold chkE at h
    split at h
    · have q := soundOr l O G h
      exact ⟨q.v _, (q.w _).pt, rfl⟩
    · cases h
  | .not a, X, c, sc, e', O, G => by
    refine ⟨fun h => ?_, fun tg h => by cases h⟩
    unfold chkE at h
    split at h
    · have s := (sound a O G).1 h
      exact ⟨pe_notD s.v, pt_notD s.t, rfl⟩
    · cases h
  | .ite t a b, X, c, sc, e', O, G => ⟨fun h => (by cases h), fun tg h => (by cases h)⟩
  | .tup l, X, c, sc, e', O, G => by
    have hv : chkE M.T N (.tup l) sc e' = true → SE X c M (.tup l) e' ∧ notSet e' = true := fun h => by
      unfold chkE at h
      split at h
      · exact ⟨.of (pe_tupD (soundL l O G h).v) (fun _ => rfl) rfl, rfl⟩
      · cases h
    exact ⟨fun h => (hv h).1, fun tg h => (hv h).1.si O.hK (hv h).2⟩
  | .lst l, X, c, sc, e', O, G => by
    have hv : chkE M.T N (.lst l) sc e' = true → SE X c M (.lst l) e' ∧ notSet e' = true := fun h => by
      unfold chkE at h
      split at h
      · exact ⟨.of (pe_lstD (soundL l O G h).v) (fun _ => rfl) rfl, rfl⟩
      · cases h
    exact ⟨fun h => (hv h).1, fun tg h => (hv h).1.si O.hK (hv h).2⟩
  | .idx a b, X, c, sc, e', O, G => by
    have hv : chkE M.T N (.idx a b) sc e' = true → SE X c M (.idx a b) e' ∧ notSet e' = true := fun h => by
      unfold chkE at h
      split at h
      · obtain ⟨h1, h2, h3⟩ := ands3 h
        exact ⟨.of (pe_idxD O.hK O.hu (plainIx_of h3) ((sound a O G).1 h1).v ((sound b O G).1 h2).v) (fun _ => rfl) rfl, rfl⟩
      · cases h
    exact ⟨fun h => (hv h).1, fun tg h => (hv h).1.si O.hK (hv h).2⟩
  | .slc a lo hi, X, c, sc, e', O, G => by
    have hv : chkE M.T N (.slc a lo hi) sc e' = true → SE X c M (.slc a lo hi) e' ∧ notSet e' = true := fun h => by
      unfold chkE at h
      split at h
      · obtain ⟨h1, h2, h3⟩ := ands3 h
        exact ⟨.of (pe_slcD O.hK ((sound a O G).1 h1).v (soundO lo O G h2) (soundO hi O G h3)) (fun _ => rfl) rfl, rfl⟩
      · cases h
    exact ⟨fun h => (hv h).1, fun tg h => (hv h).1.si O.hK (hv h).2⟩
  | .call pu f l, X, c, sc, e', O, G => by
    have hv : chkE M.T N (.call pu f l) sc e' = true → SE X c M (.call pu f l) e' ∧ notSet e' = true := fun h => by
      unfold chkE at h
      split at h
      · obtain ⟨h1, h2, h3⟩ := ands3 h
        exact ⟨.of (sound_call O G (soundL l O G h3) h1 h2) (fun _ => rfl) rfl, rfl⟩
      · cases h
    exact ⟨fun h => (hv h).1, fun tg h => (hv h).1.si O.hK (hv h).2⟩
  | .fn n l, X, c, sc, e', O, G => by
    have hv : chkE M.T N (.fn n l) sc e' = true → SE X c M (.fn n l) e' ∧ notSet e' = true := fun h => by
      unfold chkE at h
      split at h
      · obtain ⟨h1, h5, h6⟩ := ands3 h
        obtain ⟨h1, h3, h4⟩ := ands3 h1
        obtain ⟨h1, h2⟩ := and2 h1
        exact ⟨.of (sound_fn O G (soundL l O G h5) (of_decide_eq_true h1) h2 h3 h4 (of_decide_eq_true h6)) (fun _ => rfl) rfl, rfl⟩
      · cases h
    exact ⟨fun h => (hv h).1, fun tg h => (hv h).1.si O.hK (hv h).2⟩
  | .ty n l, X, c, sc, e', O, G => by
    have hv : chkE M.T N (.ty n l) sc e' = true → SE X c M (.ty n l) e' ∧ notSet e' = true := fun h => by
      unfold chkE at h
      split at h
      · obtain ⟨h1, h5, h6⟩ := ands3 h
        obtain ⟨h1, h3, h4⟩ := ands3 h1
        obtain ⟨h1, h2⟩ := and2 h1
        exact ⟨.of (sound_ty O G (soundL l O G h5) (of_decide_eq_true h1) h2 h3 h4 (of_decide_eq_true h6)) (fun _ => rfl) rfl, rfl⟩
      · cases h
    exact ⟨fun h => (hv h).1, fun tg h => (hv h).1.si O.hK (hv h).2⟩
  | .sidx a b, X, c, sc, e', O, G => by
    refine ⟨fun h => ?_, fun tg h => by cases h⟩
    unfold chkE at h
    split at h
    · obtain ⟨h1, h4, h5⟩ := ands3 h
      obtain ⟨h1, h2, h3⟩ := ands3 h1
      cases of_decide_eq_true h1
      have sb := (sound b O G).1 h3
      have hs := star_of sb.p [] X.env
      exact .of (pe_sidxD ((sound a O G).1 h2).v sb.v hs (base_of h5 _ _) h4 (by rw [hs]; rfl) rfl) (fun _ => rfl) rfl
    · cases h
  | .sm n a b, X, c, sc, e', O, G => by
    have hv : chkE M.T N (.sm n a b) sc e' = true → SE X c M (.sm n a b) e' ∧ notSet e' = true := fun h => by
      unfold chkE at h
      split at h
      · obtain ⟨h1, h4, h5⟩ := ands3 h
        obtain ⟨h1, h2, h3⟩ := ands3 h1
        obtain ⟨h1, h0⟩ := and2 h1
        cases of_decide_eq_true h1
        have sb := (sound b O G).1 h3
        have hs := star_of sb.p [] X.env
        exact ⟨.of (pe_txmD h0 ((sound a O G).1 h2).v sb.v O.hK (by rw [hs]; rfl) (base_of h5 _ _) h4) (fun _ => rfl) rfl, rfl⟩
      · cases h
    exact ⟨fun h => (hv h).1, fun tg h => (hv h).1.si O.hK (hv h).2⟩
  | .fld f a, X, c, sc, e', O, G => by
    have hv : chkE M.T N (.fld f a) sc e' = true → SE X c M (.fld f a) e' ∧ notSet e' = true := fun h => by
      unfold chkE at h
      split at h
      · obtain ⟨h1, h3, h4⟩ := ands3 h
        cases of_decide_eq_true h1
        exact ⟨.of (pe_fldD (fun cl q => G.fl cl f (fl_mem q)) ((sound a O G).1 h3).v (base_of h4 _ _)) (fun _ => rfl) rfl, rfl⟩
      · cases h
    exact ⟨fun h => (hv h).1, fun tg h => (hv h).1.si O.hK (hv h).2⟩
  | .meth pu mn a l, X, c, sc, e', O, G => by
    have hv : chkE M.T N (.meth pu mn a l) sc e' = true → SE X c M (.meth pu mn a l) e' ∧ notSet e' = true := fun h => by
      unfold chkE at h
      split at h
      · obtain ⟨h1, h6, h7⟩ := ands3 h
        obtain ⟨h1, h4, h5⟩ := ands3 h1
        obtain ⟨h1, h2, h3⟩ := ands3 h1
        cases of_decide_eq_true h1
        exact ⟨.of (sound_meth O G ((sound a O G).1 h3) (soundL l O G h6) h2 h4 (of_decide_eq_true h7) h5) (fun _ => rfl) rfl, rfl⟩
      · cases h
    exact ⟨fun h => (hv h).1, fun tg h => (hv h).1.si O.hK (hv h).2⟩
  | .make cl l, X, c, sc, e', O, G => by
    refine ⟨fun h => ?_, fun tg h => by cases h⟩
    unfold chkE at h
    split at h
    · obtain ⟨h1, h4, h5⟩ := ands3 h
      obtain ⟨h1, h2⟩ := and2 h1
      exact .of (sound_make O G (soundL l O G h4) h1 h2 (of_decide_eq_true h5)) (fun _ => rfl) rfl
    · cases h
  | .dmin a, X, c, sc, e', O, G => by
    refine ⟨fun h => ?_, fun tg h => by cases h⟩
    unfold chkE at h
    split at h
    · obtain ⟨h1, h3, h4⟩ := ands3 h
      obtain ⟨h1, h2⟩ := and2 h1
      cases of_decide_eq_true h1
      have sa := (sound a O G).1 h4
      exact .of (pe_dminD O.calm O.hK (O.gl h3) (G.bt "min" (by simpa using h2)) (by decide +kernel) sa.v (glB_ok h3).2.2 (glB_ok h3).2.1 (star_of sa.p _ _)) (fun _ => rfl) rfl
    · cases h
  | .lrg a, X, c, sc, e', O, G => by
    refine ⟨fun h => ?_, fun tg h => by cases h⟩
    unfold chkE at h
    split at h
    · obtain ⟨h, h6, h7⟩ := ands3 h
      obtain ⟨h, h4, h5⟩ := ands3 h
      obtain ⟨h1, h2, h3⟩ := ands3 h
      cases of_decide_eq_true h1
      cases of_decide_eq_true h2
      have sa := (sound a O G).1 h7
      exact .of ((pe_lrgN O.calm (O.gl h5) (G.bt "list" (by simpa using h3)) (O.gl h6) (G.bt "range" (by simpa using h4)) sa.v (star_of sa.p _ _)).imp fun σ H Q q => tN_own q) (fun _ => rfl) rfl
    · cases h
  | .pop a, X, c, sc, e', O, G => by
    refine ⟨fun h => ?_, fun tg h => by cases h⟩
    unfold chkE at h
    split at h
    · obtain ⟨h1, h4, h5⟩ := ands3 h
      obtain ⟨h1, h2⟩ := and2 h1
      cases of_decide_eq_true h1
      exact .of (pe_popD ((sound a O G).1 h2).v (base_of h4 _ _) h5) (fun _ => rfl) rfl
    · cases h
  | .bits a, X, c, sc, e', O, G => by
    refine ⟨fun h => ?_, fun tg h => by cases h⟩
    unfold chkE at h
    split at h
    · obtain ⟨h1, h3, h4⟩ := ands3 h
      obtain ⟨h1, h2⟩ := and2 h1
      cases of_decide_eq_true h1
      exact .of (pe_bitsD ((sound a O G).1 h2).v (base_of h4 _ _) h3) (fun _ => rfl) rfl
    · cases h
  | .isA t a, X, c, sc, e', O, G => by
    refine ⟨fun h => ?_, fun tg h => by cases h⟩
    unfold chkE at h
    split at h
    · obtain ⟨h1, h7, h8⟩ := ands3 h
      obtain ⟨h1, h5, h6⟩ := ands3 h1
      obtain ⟨h1, h3, h4⟩ := ands3 h1
      obtain ⟨h1, h2⟩ := and2 h1
      cases of_decide_eq_true h1
      have sa := (sound a O G).1 h8
      exact .of (sound_isA O G (of_decide_eq_true h2) sa.v sa.p h3 h4 h5 h6 h7) (fun _ => rfl) rfl
    · cases h
  | .own a, X, c, sc, e', O, G => by
    refine ⟨fun h => ?_, fun tg h => by cases h⟩
    cases a with
    | lst l =>
      unfold chkE at h
      obtain ⟨_, h⟩ := and2 h
      unfold chkE at h
      split at h
      · exact .of ((pe_lstN (soundL l O G h).v).imp fun σ H Q q => tN_own q) (fun _ => rfl) rfl
      · cases h
    | comp t own src ifs el =>
      unfold chkE at h
      obtain ⟨_, h⟩ := and2 h
      unfold chkE at h
      split at h
      · rename_i el' tg iter ifs' scope pos _
        obtain ⟨h1, h5, h6⟩ := ands3 h
        obtain ⟨h1, h3, h4⟩ := ands3 h1
        obtain ⟨h1, h2⟩ := and2 h1
        have sI := (sound src O G).2 tg h1
        have bk : BlkOk X.N X.env.scope scope (ownP N own) := by
          rw [O.hN, O.hsc]; exact blkOk_by h2
        have ho : ∀ i ∈ t.ids, i ∈ own := fun i hi => by
          have := List.all_eq_true.mp h4 i hi
          simpa using this
        refine .of ?_ (fun _ => rfl) rfl
        refine (L2.pe_lcE (wi := tI c fun ρ m => (evE M src ρ m).bind srcD) (g := gT c.K t) (tt := tG c.calm rB (evIf M ifs)) (te := fun σ => tG (c.blk σ) (rD (c.blk σ)) (evE M el)) O.fr O.calm (by rw [O.hN]; exact O.nd) sI.r bk
          (fun s H C cl fp => tg_ok (c := c.calm) (fun _ h => h) (blk_ok O s H C cl fp) h3) (fun s H C cl fp => soundIf ifs (blk_ok O s H C cl fp) G h5) (fun σ s H C cl fp pn xe tk fr => ((sound el (blkE_ok O σ s H C cl fp pn xe tk fr) G).1 h6).v) (fun x => folded_of sI.s _ x)).imp fun σ H Q q => ?_
        rw [own_snd]
        exact lcN ho (tN_own q)
      · cases h
    | bin o x b =>
      unfold chkE at h
      obtain ⟨h0, h⟩ := and2 h
      rw [Bool.or_eq_true] at h0
      rcases h0 with h0 | h0
      · cases of_decide_eq_true h0
        unfold chkE at h
        split at h
        · obtain ⟨h1, h2, h3⟩ := ands3 h
          cases of_decide_eq_true h1
          exact .of (pe_catN ((sound x O G).1 h2).v ((sound b O G).1 h3).v) (fun _ => rfl) rfl
        · cases h
      obtain ⟨h0, h00⟩ := and2 h0
      cases of_decide_eq_true h0
      cases x with
      | lst l =>
        unfold chkE at h
        split at h
        · obtain ⟨h1, h2, h3⟩ := ands3 h
          cases of_decide_eq_true h1
          exact .of ((pe_repN (fs := evL M l) ((sound (.lst l) O G).1 h2).v ((sound b O G).1 h3).v).imp fun σ H Q q => tN_own q) (fun _ => rfl) rfl
        · cases h
      | _ => cases h00
    | sm n x b =>
      unfold chkE at h
      obtain ⟨h0, h⟩ := and2 h
      cases of_decide_eq_true h0
      unfold chkE at h
      split at h
      · obtain ⟨h1, h4, h5⟩ := ands3 h
        obtain ⟨h1, h2, h3⟩ := ands3 h1
        obtain ⟨h1, _⟩ := and2 h1
        cases of_decide_eq_true h1
        have sb := (sound b O G).1 h3
        have hs := star_of sb.p [] X.env
        exact .of ((pe_splitN ((sound x O G).1 h2).v sb.v (by rw [hs]; rfl) (base_of h5 _ _) h4).imp fun σ H Q q => tN_own q) (fun _ => rfl) rfl
      · cases h
    | ty n l =>
      unfold chkE at h
      obtain ⟨h0, h⟩ := and2 h
      cases of_decide_eq_true h0
      unfold chkE at h
      split at h
      · obtain ⟨h1, h5, h6⟩ := ands3 h
        obtain ⟨h1, h3, h4⟩ := ands3 h1
        obtain ⟨h1, h2⟩ := and2 h1
        exact .of ((sound_listN O G (soundL l O G h5) (of_decide_eq_true h1) h2 h4 (of_decide_eq_true h6)).imp fun σ H Q q => tN_own q) (fun _ => rfl) rfl
      · cases h
    | fn n l =>
      unfold chkE at h
      obtain ⟨h0, h⟩ := and2 h
      cases of_decide_eq_true h0
      unfold chkE at h
      split at h
      · obtain ⟨h1, h5, h6⟩ := ands3 h
        obtain ⟨h1, h3, h4⟩ := ands3 h1
        obtain ⟨h1, h2⟩ := and2 h1
        exact .of ((sound_sortedN O G (soundL l O G h5) (of_decide_eq_true h1) h2 h4 (of_decide_eq_true h6)).imp fun σ H Q q => tN_own q) (fun _ => rfl) rfl
      · cases h
    | _ => unfold chkE at h; cases h
  | .frz a, X, c, sc, e', O, G => by
    refine ⟨fun h => ?_, fun tg h => by cases h⟩
    unfold chkE at h
    have s := (sound a O G).1 h
    exact ⟨pe_frzD s.v, ⟨fun pins s' σ H Q I q => by
      obtain ⟨ρ, m, z, S, A⟩ := q
      refine s.t.run pins s' σ H Q I ⟨ρ, m, z, S, ?_⟩
      have A : At c rB ((evFrz (evE M a) ρ m).bind toB) ρ z σ H Q := A
      show At c rB ((evE M a ρ m).bind toB) ρ z σ H Q
      unfold evFrz at A
      generalize evE M a ρ m = r at A ⊢
      cases r with
      | ok d m' =>
        cases d with
        | obj n =>
          have A : At c rB ((match m'[n]? with | some (.lst l) => .ok (.lst l) (m'.set n .dead) | some (.dct l) => .ok (.dct l) (m'.set n .dead) | some (.ins c l) => .ok (.ins c l) (m'.set n .dead) | _ => GS.R.stuck : GS.R D).bind toB) ρ z σ H Q := A
          split at A <;> exact A.elim
        | _ => exact A.elim
      | exc _ _ _ => exact A
      | stuck => exact A⟩, s.p⟩
  | .gq al q src, X, c, sc, e', O, G => by
    refine ⟨fun h => ?_, fun tg h => by cases h⟩
    unfold chkE at h
    split at h
    · simp only [Bool.and_eq_true] at h
      obtain ⟨⟨⟨⟨⟨⟨⟨⟨h1, h2⟩, h3⟩, h4⟩, h5⟩, h6⟩, h7⟩, h8⟩, h9⟩ := h
      exact .of (sound_gq O G ((sound src O G).1 h7).v (of_decide_eq_true h1) h2 h3 (of_decide_eq_true h4) h5 h6 h8 h9) (fun _ => rfl) rfl
    · cases h
  | .dnew, X, c, sc, e', O, G => by
    refine ⟨fun h => ?_, fun tg h => by cases h⟩
    unfold chkE at h
    split at h
    · exact .of ((pe_dnewN (c := c)).imp fun σ H Q q => tN_own (f := fun _ m => .ok (.dct []) m) q) (fun _ => rfl) rfl
    · cases h
  | .lk i a, X, c, sc, e', O, G => by
    refine ⟨fun h => ?_, fun tg h => by cases h⟩
    unfold chkE at h
    obtain ⟨h1, h2⟩ := and2 h
    have s := (sound a O G).1 h2
    cases a with
    | comp t own src ifs el =>
      unfold chkE at h2
      split at h2
      · exact .of (pe_lkD s.v) (fun _ => rfl) rfl
      · cases h2
    | _ => cases h1
  | .dict l, X, c, sc, e', O, G => by
    refine ⟨fun h => ?_, fun tg h => by cases h⟩
    unfold chkE at h
    split at h
    · obtain ⟨h1, h4, h5⟩ := ands3 h
      obtain ⟨h1, h2, h3⟩ := ands3 h1
      cases of_decide_eq_true h1
      exact .of (sound_dict O G (soundL l O G h4) h2 h3 (of_decide_eq_true h5)) (fun _ => rfl) rfl
    · cases h
  | .dget a b, X, c, sc, e', O, G => by
    refine ⟨fun h => ?_, fun tg h => by cases h⟩
    unfold chkE at h
    split at h
    · obtain ⟨h1, h4, h5⟩ := ands3 h
      obtain ⟨h1, h2, h3⟩ := ands3 h1
      cases of_decide_eq_true h1
      have sb := (sound b O G).1 h3
      have hs := star_of sb.p [] X.env
      exact .of (pe_dgetD O.hu ((sound a O G).1 h2).v sb.v ⟨base_of h5 _ _, by rw [hs]; rfl, h4, by rw [hs]; rfl⟩) (fun _ => rfl) rfl
    · cases h
  | .rng1 a, X, c, sc, e', O, G => by
    refine ⟨fun h => (by cases h), fun tg h => ?_⟩
    unfold chkS at h
    split at h
    · obtain ⟨h1, h3, h4⟩ := ands3 h
      obtain ⟨h1, h2⟩ := and2 h1
      cases of_decide_eq_true h1
      have s := (sound a O G).1 h4
      exact ⟨pi_rng1D (O.gl h3) (G.bt "range" (by simpa using h2)) s.v s.p, rfl⟩
    · cases h
  | .rng2 a b, X, c, sc, e', O, G => by
    refine ⟨fun h => (by cases h), fun tg h => ?_⟩
    unfold chkS at h
    split at h
    · obtain ⟨h1, h4, h5⟩ := ands3 h
      obtain ⟨h1, h2, h3⟩ := ands3 h1
      cases of_decide_eq_true h1
      have s := (sound a O G).1 h4
      have s2 := (sound b O G).1 h5
      exact ⟨pi_rng2D (O.gl h3) (G.bt "range" (by simpa using h2)) s.v s2.v s.p s2.p, rfl⟩
    · cases h
  | .rngd a b, X, c, sc, e', O, G => by
    refine ⟨fun h => (by cases h), fun tg h => ?_⟩
    unfold chkS at h
    split at h
    · simp only [Bool.and_eq_true] at h
      obtain ⟨⟨⟨⟨⟨h1, h0⟩, h2⟩, h3⟩, h4⟩, h5⟩ := h
      cases of_decide_eq_true h1
      cases of_decide_eq_true h0
      have s := (sound a O G).1 h4
      have s2 := (sound b O G).1 h5
      exact ⟨pi_rngdD (O.gl h3) (G.bt "range" (by simpa using h2)) s.v s2.v s.p s2.p, rfl⟩
    · cases h
  | .zip a b, X, c, sc, e', O, G => by
    refine ⟨fun h => (by cases h), fun tg h => ?_⟩
    unfold chkS at h
    split at h
    · obtain ⟨h1, h5, h6⟩ := ands3 h
      obtain ⟨h1, h3, h4⟩ := ands3 h1
      obtain ⟨h1, h2⟩ := and2 h1
      cases of_decide_eq_true h1
      have s := (sound a O G).1 h4
      have s2 := (sound b O G).1 h5
      cases tg with
      | Tuple elts kk tpos => exact ⟨pi_zipD O.hK (O.gl h3) (G.bt "zip" (by simpa using h2)) s.v s2.v s.p s2.p, rfl⟩
      | _ => cases h6
    · cases h
  | .comp t own src ifs el, X, c, sc, e', O, G => by
    refine ⟨fun h => ?_, fun tg h => by cases h⟩
    unfold chkE at h
    split at h
    · rename_i el' tg iter ifs' scope pos
      obtain ⟨h1, h5, h6⟩ := ands3 h
      obtain ⟨h1, h3, h4⟩ := ands3 h1
      obtain ⟨h1, h2⟩ := and2 h1
      have sI := (sound src O G).2 tg h1
      have bk : BlkOk X.N X.env.scope scope (ownP N own) := by
        rw [O.hN, O.hsc]; exact blkOk_by h2
      have ho : ∀ i ∈ t.ids, i ∈ own := fun i hi => by
        have := List.all_eq_true.mp h4 i hi
        simpa using this
      refine .of ?_ (fun _ => rfl) rfl
      refine (L2.pe_lcE (wi := tI c fun ρ m => (evE M src ρ m).bind srcD) (g := gT c.K t) (tt := tG c.calm rB (evIf M ifs)) (te := fun σ => tG (c.blk σ) (rD (c.blk σ)) (evE M el)) O.fr O.calm (by rw [O.hN]; exact O.nd) sI.r bk
        (fun s H C cl fp => tg_ok (c := c.calm) (fun _ h => h) (blk_ok O s H C cl fp) h3) (fun s H C cl fp => soundIf ifs (blk_ok O s H C cl fp) G h5) (fun σ s H C cl fp pn xe tk fr => ((sound el (blkE_ok O σ s H C cl fp pn xe tk fr) G).1 h6).v) (fun x => folded_of sI.s _ x)).imp fun σ H Q q => ?_
      rw [own_snd]
      exact lcD ho q
    · cases h
theorem soundL : ∀ (l : List E) {X : Cx} {c : Ctx} {sc : Scope} {es : List Expr}, XOk X c N sc k → GloX M X c k → chkL M.T N l sc es = true → SL X c M l es
  | [], X, c, sc, es, O, G, h => by
    cases es with
    | nil => exact ⟨da_nil, fun _ h => (by cases h), rfl⟩
    | cons _ _ => cases h
  | e :: l, X, c, sc, es, O, G, h => by
    cases es with
    | nil => cases h
    | cons e' es =>
      obtain ⟨h1, h2⟩ := and2 (show (chkE M.T N e sc e' && chkL M.T N l sc es) = true from h)
      have s := (sound e O G).1 h1
      have r := soundL l O G h2
      exact ⟨da_cons s.v r.v (star_of s.p _ _), fun x hx => by
        rcases List.mem_cons.mp hx with rfl | hx
        · exact s.p
        · exact r.p x hx, by simp [r.len]⟩
theorem soundAnd : ∀ (l : List E) {X : Cx} {c : Ctx} {sc : Scope} {es : List Expr}, XOk X c N sc k → GloX M X c k → chkL M.T N l sc es = true → SB X c .And (evAnd M l) es
  | [], X, c, sc, es, O, G, h => by
    cases es with
    | nil => exact ⟨fun _ => ⟨fun wh pins s σ H Q I ⟨_, _, _, _, A⟩ => A.elim⟩, fun _ => ⟨fun pins s σ H Q I ⟨_, _, _, _, A⟩ => A.elim⟩⟩
    | cons _ _ => cases h
  | e :: l, X, c, sc, es, O, G, h => by
    cases es with
    | nil => cases h
    | cons e' es =>
      obtain ⟨h1, h2⟩ := and2 (show (chkE M.T N e sc e' && chkL M.T N l sc es) = true from h)
      have s := (sound e O G).1 h1
      have r := soundAnd l O G h2
      cases l with
      | nil =>
        cases es with
        | nil => exact ⟨fun _ => pw_and1 s.t, fun _ => pe_one s.v⟩
        | cons _ _ => cases h2
      | cons e2 l2 =>
        cases es with
        | nil => cases h2
        | cons e2' es2 => exact ⟨fun pos => pw_andD s.t (r.w pos), fun pos => pe_andD s.v (r.v pos)⟩
theorem soundOr : ∀ (l : List E) {X : Cx} {c : Ctx} {sc : Scope} {es : List Expr}, XOk X c N sc k → GloX M X c k → chkL M.T N l sc es = true → SB X c .Or (evOr M l) es
  | [], X, c, sc, es, O, G, h => by
    cases es with
    | nil => exact ⟨fun _ => ⟨fun wh pins s σ H Q I ⟨_, _, _, _, A⟩ => A.elim⟩, fun _ => ⟨fun pins s σ H Q I ⟨_, _, _, _, A⟩ => A.elim⟩⟩
    | cons _ _ => cases h
  | e :: l, X, c, sc, es, O, G, h => by
    cases es with
    | nil => cases h
    | cons e' es =>
      obtain ⟨h1, h2⟩ := and2 (show (chkE M.T N e sc e' && chkL M.T N l sc es) = true from h)
      have s := (sound e O G).1 h1
      have r := soundOr l O G h2
      cases l with
      | nil =>
        cases es with
        | nil => exact ⟨fun _ => pw_or1 s.t, fun _ => pe_one s.v⟩
        | cons _ _ => cases h2
      | cons e2 l2 =>
        cases es with
        | nil => cases h2
        | cons e2' es2 => exact ⟨fun pos => pw_orD s.t (r.w pos), fun pos => pe_orD s.v (r.v pos)⟩
theorem soundO : ∀ (o : Option E) {X : Cx} {c : Ctx} {sc : Scope} {o' : Option Expr}, XOk X c N sc k → GloX M X c k → chkO M.T N o sc o' = true → PO X o' (tG c rO (evO M o))
  | none, X, c, sc, o', O, G, h => by
    cases o' with
    | none => exact po_noneD
    | some _ => cases h
  | some e, X, c, sc, o', O, G, h => by
    cases o' with
    | none => cases h
    | some e' => exact po_someD ((sound e O G).1 h).v
theorem soundIf : ∀ (o : Option E) {X : Cx} {c : Ctx} {sc : Scope} {es : List Expr}, XOk X c N sc k → GloX M X c k → chkIf M.T N o sc es = true → PTs X es (tG c rB (evIf M o))
  | none, X, c, sc, es, O, G, h => by
    cases es with
    | nil => exact ⟨fun pins s σ H Q I ⟨ρ, m, z, S, A⟩ => pts_nil.run pins s σ H Q I (A.ret S rfl)⟩
    | cons _ _ => cases h
  | some e, X, c, sc, es, O, G, h => by
    cases es with
    | nil => cases h
    | cons e' es =>
      cases es with
      | nil => exact pts_one ((sound e O G).1 h).t
      | cons _ _ => cases h
end
end
end GS
end

noncomputable section
namespace GS
open PySem L2
/-! ### the small text of statements -/
inductive S where
  | asg (i : Nat) (e : E)
  | tupl (is : List Nat) (e : E)
  | par (i j : Nat) (a b : E)
  | aug (o : Operator) (i : Nat) (e : E)
  | expr (e : E) | ret (e : E) | retN
  | ite (t : E) (a b : List S)
  | loop (t : Tg) (src : E) (b : List S)
  | whl (n : Nat) (t : E) (b : List S)
  | app (a e : E) | put (a i e : E) | fput (a : E) (f : Str) (e : E)
  | pas | brk | cont | dead
  | frz (i : Nat) (s : S)
  | raise (cl : Nat) (l : List E)
  | tr (b : List S) (hs : List (Nat × Option Nat × XR))
  | itx (t : XB) (a b : List S) | del (a i : E) | trx (b : List S) (hs : List XH)
/-- the thing in slot i does not change from now on -/
def ofFrz (i : Nat) (ρ : List D) (m : List Cell) (n : Nat) : Option Cell → Option (List D × List Cell)
  | some (.lst l) => some (ρ.set i (.lst l), m.set n .dead)
  | some (.dct l) => some (ρ.set i (.dct l), m.set n .dead)
  | some (.ins c l) => some (ρ.set i (.ins c l), m.set n .dead)
  | _ => none
def frzSlot (i : Nat) (ρ : List D) (m : List Cell) : Option D → Option (List D × List Cell)
  | some (.obj n) => ofFrz i ρ m n m[n]?
  | _ => some (ρ, m)
def onPair (o : Option (List D × List Cell)) (s : List D → List Cell → SR) : SR := match o with
  | some p => s p.1 p.2
  | none => .stuck
def sFrz (i : Nat) (s : List D → List Cell → SR) : List D → List Cell → SR := fun ρ m => onPair (frzSlot i ρ m ρ[i]?) s
theorem SS.reslot {c : Ctx} {ρ : List D} {m : List Cell} {z : Fz} {σ : L2.St} {H : Hp} (S : SS c ρ m z σ H) {i : Nat} {d : D} {v : V} (h : σ[i]? = some (some v)) (r : c.Rep z d v) : SS c (ρ.set i d) m z σ H := by
  refine ⟨S.st, S.gr, by simp [S.len], fun j e hj hn => ?_⟩
  rw [List.getElem?_set] at hj
  by_cases q : i = j
  · subst q
    by_cases hl : i < ρ.length
    · simp [hl] at hj
      subst hj
      exact ⟨v, h, r⟩
    · simp [hl] at hj
  · rw [if_neg q] at hj
    exact S.sl j e hj hn
theorem ps_frzD {c : Ctx} {X : Cx} {i : Nat} {st : Stmt} {s : List D → List Cell → SR} (h : PS X st (tS c s)) : PS X st (tS c (sFrz i s)) := by
  refine ⟨fun pins s' σ H D I ⟨ρ, m, z, S, A⟩ => ?_⟩
  have A : SAt c z H D (onPair (frzSlot i ρ m ρ[i]?) s) := A
  have same : frzSlot i ρ m ρ[i]? = some (ρ, m) → wpAny (model X.prog X.w) X.A (exec st X.env) (SP X pins D) X.xe s' := fun e => by
    rw [e] at A
    exact h.run pins s' σ H D I ⟨ρ, m, z, S, A⟩
  cases q : ρ[i]? with
  | none => exact same (by rw [q]; rfl)
  | some d =>
    cases d with
    | obj n =>
      obtain ⟨v, hv, a, rfl, ha⟩ := S.sl i _ q (by simp)
      rw [q] at A
      have A : SAt c z H D (onPair (ofFrz i ρ m n m[n]?) s) := A
      cases qm : m[n]? with
      | none => rw [qm] at A; exact A.elim
      | some k =>
        rw [qm] at A
        cases k with
        | dead => exact A.elim
        | lst l =>
          obtain ⟨xs, e1, e2⟩ := (S.st.cell n _ a qm ha (by simp)).2
          obtain ⟨s2, g2⟩ := S.st.freeze (o := .lst xs) qm ha (by simp)
          rw [upd_id e1] at s2 g2
          exact h.run pins s' σ H D I ⟨_, _, _, (S.go g2 s2).reslot (d := .lst l) hv ⟨a, xs, rfl, .inl upd_same, RepL.mono g2.toLe _ _ e2⟩, SAt.up g2 A⟩
        | ins cl l =>
          obtain ⟨dx, xs, e1, e2⟩ := (S.st.cell n _ a qm ha (by simp)).2
          obtain ⟨s2, g2⟩ := S.st.freeze (o := .ins (c.C cl) dx xs) qm ha (by simp)
          rw [upd_id e1] at s2 g2
          exact h.run pins s' σ H D I ⟨_, _, _, (S.go g2 s2).reslot (d := .ins cl l) hv ⟨a, dx, xs, rfl, upd_same, RepF.mono g2.toLe _ _ e2⟩, SAt.up g2 A⟩
        | dct l =>
          obtain ⟨xs, e1, e2⟩ := (S.st.cell n _ a qm ha (by simp)).2
          obtain ⟨od, I2⟩ := I.lock e1 trivial
          obtain ⟨s2, g2⟩ := S.st.freeze (o := .frz od (.dK xs)) qm ha (by simp)
          exact h.run pins s' σ _ D I2 ⟨_, _, _, (S.go g2 s2).reslot (d := .dct l) hv ⟨a, od, xs, rfl, upd_same, RepK.mono g2.toLe _ _ e2⟩, SAt.up g2 A⟩
    | _ => exact same (by rw [q]; rfl)
mutual
def evS (M : Sem) : S → List D → List Cell → SR
  | .asg i e => sSet i (evE M e)
  | .tupl is e => sTup is (evE M e)
  | .par i j a b => sPar i j (evE M a) (evE M b)
  | .aug o i e => sAug o i (evE M e)
  | .expr e => sExpr (evE M e)
  | .ret e => sRet (evE M e)
  | .retN => fun _ m => .rt .non m
  | .ite t a b => sIf (evE M t) (evB M a) (evB M b)
  | .loop t src b => sFor (fun ρ m => (evE M src ρ m).bind srcD) t (evB M b)
  | .whl n t b => whileS (evT (evE M t)) (evB M b) n
  | .app a e => sApp (evE M a) (evE M e)
  | .put a i e => sPut (evE M a) (evE M i) (evE M e)
  | .fput a f e => sFput M.T.fl f (evE M a) (evE M e)
  | .pas => fun ρ m => .nx ρ m
  | .brk => fun ρ m => .bk ρ m
  | .cont => fun ρ m => .ct ρ m
  | .dead => fun _ _ => .stuck
  | .frz i s => sFrz i (evS M s)
  | .raise cl l => sRaise cl (M.T.xl cl) (evL M l)
  | .tr b hs => sTry M.T.subOf M.T.xfl (evB M b) hs
  | .itx t a b => sIfB (evXB M t) (evB M a) (evB M b)
  | .del a i => sDel (evE M a) (evE M i)
  | .trx b hs => sTryH M (evB M b) hs
def evB (M : Sem) : List S → List D → List Cell → SR
  | [] => fun ρ m => .nx ρ m
  | s :: r => fun ρ m => (evS M s ρ m).andThen (evB M r)
end
def isComp : Expr → Bool
  | .ListComp .. => true
  | .SetComp .. => true
  | .DictComp .. => true
  | _ => false
def isTup : Expr → Bool
  | .Tuple .. => true
  | _ => false
/-- the comprehension's list is stored within its frame -/
def swB (sc : Scope) (x : Str) (px : Pos) : Expr → Bool
  | .ListComp _ _ scope pos => (sc.names.lookup x == some .local) && (px.line == pos.line) && !(scope.names.any fun (n, k) => n == x && (k == .local || k == .cell))
  | _ => false
/-- a comprehension, own or not -/
def compE1 : E → Bool
  | .comp .. => true
  | .own (.comp ..) => true
  | _ => false
def nm1 (N : List Str) (sc : Scope) (i : Nat) (x : Str) : Bool := decide (N[i]? = some x) && locB sc x
mutual
def chkT (T : Tab) (N : List Str) : S → Scope → Stmt → Bool
  | .asg i e, sc, s' => match s' with | .Assign [.Name x px] e' _ => nm1 N sc i x && chkE T N e sc e' && (!isComp e' || compE1 e) | _ => false
  | .tupl is e, sc, s' => match s' with | .Assign [.Tuple es _ _] e' _ => chkTgs N sc sc is es && chkE T N e sc e' && !isTup e' | _ => false
  | .par i j a b, sc, s' => match s' with
    | .Assign [.Tuple [.Name x px, .Name y py] _ pt] (.Tuple [a', b'] _ _) _ => nm1 N sc i x && nm1 N sc j y && decide (i ≠ j) && decide (x ≠ y) && (sc.names.lookup x == some .local) && (sc.names.lookup y == some .local) && chkE T N a sc a' && chkE T N b sc b'
        && (py.line == px.line) && !([a', b'].all (foldedForSure 8)) && !([a', b'].all (constantsAlone 8))
    | _ => false
  | .aug o i e, sc, s' => match s' with | .AugAssign (.Name x _) o' e' _ => nm1 N sc i x && decide (o = o') && (decide (o = .Add) || decide (o = .Sub)) && chkE T N e sc e' | _ => false
  | .expr e, sc, s' => match s' with | .Expr e' _ => chkE T N e sc e' && !isComp e' | _ => false
  | .ret e, sc, s' => match s' with | .Return (some e') _ => chkE T N e sc e' | _ => false
  | .retN, _, s' => match s' with | .Return none _ => true | _ => false
  | .ite t a b, sc, s' => match s' with | .If t' a' b' _ => chkE T N t sc t' && chkB T N a sc a' && chkB T N b sc b' | _ => false
  | .loop t src b, sc, s' => match s' with | .For tg iter b' [] _ => chkTg N sc sc t tg && chkS T N src sc iter tg && chkB T N b sc b' | _ => false
  | .whl _ t b, sc, s' => match s' with | .While t' b' [] _ => chkE T N t sc t' && chkB T N b sc b' | _ => false
  | .app a e, sc, s' => match s' with | .Expr (.Call (.Attribute a' m ap) [e'] [] cp) _ => decide (m = ("append" : Str)) && chkE T N a sc a' && chkE T N e sc e' && (ap.endLine == cp.line) && plainBase a' | _ => false
  | .put a i e, sc, s' => match s' with | .Assign [.Subscript a' i' _] e' _ => chkE T N a sc a' && chkE T N i sc i' && chkE T N e sc e' && notSlice i' && !isComp e' | _ => false
  | .fput a f e, sc, s' => match s' with | .Assign [.Attribute a' f' _] e' _ => decide (f = f') && chkE T N a sc a' && chkE T N e sc e' && !isComp e' | _ => false
  | .pas, _, s' => match s' with | .Pass _ => true | _ => false
  | .brk, _, s' => match s' with | .Break _ => true | _ => false
  | .cont, _, s' => match s' with | .Continue _ => true | _ => false
  | .dead, _, _ => true
  | .raise cl l, sc, s' => match s' with | .Raise (some (.Call (.Name x _) es [] _)) none _ => T.hasX cl x (l.length + 1) && glB sc x && chkL T N l sc es && decide (l.length < 900) | _ => false
  | .tr b hs, sc, s' => match s' with
    | .Try b' (h0 :: hs') [] [] _ => chkB T N b sc b' && chkHs T N sc hs (h0 :: hs')
    | _ => false
  | .itx t a b, sc, s' => match s' with | .If t' a' b' _ => chkXB (fun e e' => chkE T N e sc e') t t' && chkB T N a sc a' && chkB T N b sc b' | _ => false
  | .del a i, sc, s' => match s' with | .Delete [.Subscript a' i' _] _ => chkE T N a sc a' && chkE T N i sc i' | _ => false
  | .trx b hs, sc, s' => match s' with
    | .Try b' (h0 :: hs') [] [] _ => chkB T N b sc b' && chkHH T N sc hs (h0 :: hs')
    | _ => false
  | .frz _ s, sc, s' => chkT T N s sc s'
def chkB (T : Tab) (N : List Str) : List S → Scope → List Stmt → Bool
  | [], _, [] => true
  | s :: r, sc, s' :: r' => chkT T N s sc s' && chkB T N r sc r'
  | _, _, _ => false
end
/-- the context of a def's body -/
structure XDef (X : Cx) (c : Ctx) (N : List Str) (sc : Scope) (k : Nat) : Prop extends XOk X c N sc k where
  kd : sc.kind = .function
  fn : ∀ x, X.fn x = true
  ps : PassesOwn (model X.prog X.w) X.A X.env X.xe
  stk : X.stack = X.env :: X.outer
  frm : X.env.frame = some X.env.locals
section
variable {M : Sem} {N : List Str} {k : Nat} {X : Cx} {c : Ctx} {sc : Scope}
theorem nm1_ok (O : XOk X c N sc k) {i : Nat} {x : Str} (h : nm1 N sc i x = true) : X.N[i]? = some x ∧ L2.Loc X.env.scope x := by
  obtain ⟨h1, h2⟩ := and2 h
  exact ⟨by rw [O.hN]; exact of_decide_eq_true h1, by rw [O.hsc]; exact locB_ok h2⟩
theorem sw_false {e' : Expr} (h : isComp e' = false) (t : Option Expr) (l : Nat) (env : Env) : swapsWith e' t l env = pure false := by
  cases e' <;> first | rfl | cases h
theorem sw_lc {elt : Expr} {gs : List Comprehension} {scope : Scope} {pos px : Pos} {x : Str} {l : Nat} (hk : X.env.scope.kind = .function) : swapsWith (.ListComp elt gs scope pos) (some (.Name x px)) l X.env = pure (swB X.env.scope x px (.ListComp elt gs scope pos)) := by
  have hb : X.env.blockKind = .function := by unfold Env.blockKind; rw [hk]; rfl
  unfold swapsWith swB
  simp only [hb, Expr.pos]
  rfl
theorem par_swap {x y : Str} {px py pt : Pos} {kt k2 : Nat} {pt2 : Pos} {a b : Expr} (hk : X.env.scope.kind = .function) (hx : X.env.scope.names.lookup x = some .local) (hy : X.env.scope.names.lookup y = some .local) (hxy : x ≠ y) (hl : (py.line == px.line) = true)
    (pa : plainArg a = true) (pb : plainArg b = true) (h1 : [a, b].all (foldedForSure 8) = false) (h2 : [a, b].all (constantsAlone 8) = false) :
    swappedStores [.Tuple [.Name x px, .Name y py] kt pt] (.Tuple [a, b] k2 pt2) X.env = pure (some [x, y]) := by
  have hb : X.env.blockKind = .function := by unfold Env.blockKind; rw [hk]; rfl
  have ex : X.env.kindOf x = some .local := hx
  have ey : X.env.kindOf y = some .local := hy
  have hne : ¬ (y = x) := fun e => hxy e.symm
  have hbk : (X.env.blockKind != ScopeKind.function) = false := by rw [hb]; rfl
  unfold swappedStores
  simp only [hbk, Expr.pos, List.filterMap_cons, ex, ey, hl, List.filterMap_nil, h1, h2, List.head?, Option.map, Option.getD, beq_self_eq_true, Bool.and_true, Bool.true_and, if_true]
  rw [if_neg (by simp)]
  split
  · rename_i h
    exfalso
    simp only [List.any_cons, List.any_nil, Bool.or_false, Bool.or_eq_true] at h
    rcases h with h | h
    · cases a <;> first | (cases h; done) | cases pa
    · cases b <;> first | (cases h; done) | cases pb
  · rw [if_neg (by simp [List.eraseDups_cons, hne]), if_neg (by decide), if_neg (by decide)]
theorem notB {b : Bool} (h : (!b) = true) : b = false := by cases b <;> first | rfl | cases h
theorem XDef.kind (O : XDef X c N sc k) : X.env.scope.kind = .function := by rw [O.hsc]; exact O.kd
theorem ands4 {a b c d : Bool} (h : (a && b && c && d) = true) : a = true ∧ b = true ∧ c = true ∧ d = true := by simp only [Bool.and_eq_true] at h; exact ⟨h.1.1.1, h.1.1.2, h.1.2, h.2⟩
/-- name = [.. for ..] -/
theorem sound_lc (O : XDef X c N sc k) (G : GloX M X c k) {i : Nat} {ow' : Bool} {t : Tg} {ow : List Nat} {src el : E} {ifs : Option E} {x : Str} {px pos : Pos} {e' : Expr} (hx : nm1 N sc i x = true) (h : chkE M.T N (.comp t ow src ifs el) sc e' = true) :
    PS X (.Assign [.Name x px] e' pos) (tS c (sSet i (evE M (if ow' = true then .own (.comp t ow src ifs el) else .comp t ow src ifs el)))) := by
  obtain ⟨n1, n2⟩ := nm1_ok O.toXOk hx
  unfold chkE at h
  split at h
  · rename_i el' tg iter ifs' scope lpos
    obtain ⟨h1, h5, h6⟩ := ands3 h
    obtain ⟨h1, h3, h4⟩ := ands3 h1
    obtain ⟨h1, h2⟩ := and2 h1
    have O' := O.toXOk
    have sI := (sound src O' G).2 tg h1
    have bk : BlkOk X.N X.env.scope scope (ownP N ow) := by
      rw [O.hN, O.hsc]; exact blkOk_by h2
    have ho : ∀ i ∈ t.ids, i ∈ ow := fun i hi => by
      have := List.all_eq_true.mp h4 i hi
      simpa using this
    have hnd : X.N.Nodup := by rw [O.hN]; exact O.nd
    have q1 : ∀ {σ : L2.St} {H : Hp} {D : Ends}, tS c (sSet i (evE M (if ow' = true then .own (.comp t ow src ifs el) else .comp t ow src ifs el))) D σ H →
        tAsg (fun σ H Q => tLc (tI c fun ρ m => (evE M src ρ m).bind srcD) (gT c.K t) (tG c.calm rB (evIf M ifs)) (tG (c.blk σ) (rD (c.blk σ)) (evE M el)) ((ownP N ow).map (·.2)) σ H Q) (gName i) D σ H := fun {σ H D} q => by
      rw [own_snd]
      cases ow' with
      | true =>
        rw [if_pos rfl] at q
        have q := asgD q
        exact lcN ho (tN_own q)
      | false =>
        rw [if_neg (by decide)] at q
        have q := asgD q
        exact lcD ho q
    have hg := fun s H C cl fp => tg_ok (c := c.calm) (X := X.blk s H scope (compEnvC scope cl C X.env) fp) (scope := scope) (fun x hx => hx) (blk_ok O' s H C cl fp) h3
    have ht := fun s H C cl fp => soundIf ifs (blk_ok (scope := scope) O' s H C cl fp) G h5
    have he := fun σ s H C cl fp pn xe tk fr => ((sound el (blkE_ok (scope := scope) O' σ s H C cl fp pn xe tk fr) G).1 h6).v
    cases hs : swB X.env.scope x px (.ListComp el' [⟨tg, iter, ifs', 0⟩] scope lpos) with
    | true =>
      have hl : X.env.scope.names.lookup x = some .local := by
        unfold swB at hs
        simp only [Bool.and_eq_true] at hs
        simpa using hs.1.1
      exact (L2.ps_setLcE O.fr O.calm hnd n1 hl (by rw [sw_lc O.kind, hs]) sI.r bk hg ht he (fun x => folded_of sI.s _ x)).imp fun D σ H q => q1 q
    | false =>
      exact (ps_set hnd n1 n2 (L2.pe_lcE O.fr O.calm hnd sI.r bk hg ht he (fun x => folded_of sI.s _ x)) (by rw [sw_lc O.kind, hs]) (.inl (O.fn x))).imp fun D σ H q => q1 q
  · cases h
theorem sound_asg (O : XDef X c N sc k) (G : GloX M X c k) {i : Nat} {e : E} {x : Str} {px pos : Pos} {e' : Expr} (hx : nm1 N sc i x = true) (h : chkE M.T N e sc e' = true) (hc : isComp e' = true → compE1 e = true) :
    PS X (.Assign [.Name x px] e' pos) (tS c (sSet i (evE M e))) := by
  obtain ⟨n1, n2⟩ := nm1_ok O.toXOk hx
  have hnd : X.N.Nodup := by rw [O.hN]; exact O.nd
  cases hcc : isComp e' with
  | true =>
    have q1 := hc hcc
    cases e with
    | comp t ow src ifs el => exact sound_lc (ow' := false) O G hx h
    | own e =>
      cases e with
      | comp t ow src ifs el =>
        unfold chkE at h
        exact sound_lc (ow' := true) O G hx (and2 h).2
      | _ => cases q1
    | _ => cases q1
  | false => exact ps_setD hnd n1 n2 ((sound e O.toXOk G).1 h).v (sw_false hcc (some (.Name x px)) pos.line X.env) (.inl (O.fn x))
mutual
theorem soundT : ∀ (s : S) {X : Cx} {c : Ctx} {sc : Scope} {s' : Stmt}, XDef X c N sc k → GloX M X c k → chkT M.T N s sc s' = true → PS X s' (tS c (evS M s))
  | .asg i e, X, c, sc, s', O, G, h => by
    unfold chkT at h
    split at h
    · rename_i x px e' pos
      obtain ⟨h1, h2, h3⟩ := ands3 h
      refine sound_asg O G h1 h2 fun q => ?_
      simpa [q] using h3
    · cases h
  | .tupl is e, X, c, sc, s', O, G, h => by
    unfold chkT at h
    split at h
    · rename_i es kk tp e' pos
      obtain ⟨h1, h2, h3⟩ := ands3 h
      have nt : isTup e' = false := by simpa using h3
      obtain ⟨q1, q2, q3⟩ := tgs_ok (X := X) (scope := sc) (fun x _ => O.fn x) O.toXOk h1
      refine ps_tupD O.hK ((sound e O.toXOk G).1 h2).v (pg_tup O.calm q1 q2 q3) ?_ ?_ rfl
      · cases e' <;> rfl
      · cases e' <;> first | rfl | cases nt
    · cases h
  | .par i j a b, X, c, sc, s', O, G, h => by
    unfold chkT at h
    split at h
    · rename_i x px y py kt pt a' b' k2 pt2 pos
      simp only [Bool.and_eq_true] at h
      obtain ⟨⟨⟨⟨⟨⟨⟨⟨⟨⟨h1, h2⟩, h3⟩, h4⟩, h5⟩, h6⟩, h7⟩, h8⟩, h9⟩, h10⟩, h11⟩ := h
      obtain ⟨n1, _⟩ := nm1_ok O.toXOk h1
      obtain ⟨m1, _⟩ := nm1_ok O.toXOk h2
      have hx : X.env.scope.names.lookup x = some .local := by rw [O.hsc]; simpa using h5
      have hy : X.env.scope.names.lookup y = some .local := by rw [O.hsc]; simpa using h6
      have sa := (sound a O.toXOk G).1 h7
      have sb := (sound b O.toXOk G).1 h8
      exact ps_parD O.calm (by rw [O.hN]; exact O.nd) n1 m1 (of_decide_eq_true h3) hx hy sa.v sb.v (star_of sa.p _ _) (star_of sb.p _ _) (par_swap O.kind hx hy (of_decide_eq_true h4) h9 sa.p sb.p (notB h10) (notB h11)) rfl
    · cases h
  | .aug o i e, X, c, sc, s', O, G, h => by
    unfold chkT at h
    split at h
    · obtain ⟨h1, h2, h3, h4⟩ := ands4 h
      cases of_decide_eq_true h2
      obtain ⟨n1, n2⟩ := nm1_ok O.toXOk h1
      rw [Bool.or_eq_true] at h3
      exact ps_augD (h3.imp of_decide_eq_true of_decide_eq_true) (by rw [O.hN]; exact O.nd) n1 n2 ((sound e O.toXOk G).1 h4).v (.inl (O.fn _))
    · cases h
  | .expr e, X, c, sc, s', O, G, h => by
    unfold chkT at h
    split at h
    · obtain ⟨h1, h2⟩ := and2 h
      exact ps_exprD ((sound e O.toXOk G).1 h1).v (sw_false (by simpa using h2) _ _ _)
    · cases h
  | .ret e, X, c, sc, s', O, G, h => by
    unfold chkT at h
    split at h
    · exact ps_retD ((sound e O.toXOk G).1 h).v
    · cases h
  | .retN, X, c, sc, s', O, G, h => by
    unfold chkT at h
    split at h
    · exact ps_retND
    · cases h
  | .ite t a b, X, c, sc, s', O, G, h => by
    unfold chkT at h
    split at h
    · obtain ⟨h1, h2, h3⟩ := ands3 h
      exact ps_ifD ((sound t O.toXOk G).1 h1).t (soundB a O G h2) (soundB b O G h3)
    · cases h
  | .loop t src b, X, c, sc, s', O, G, h => by
    unfold chkT at h
    split at h
    · obtain ⟨h1, h2, h3⟩ := ands3 h
      have sI := (sound src O.toXOk G).2 _ h2
      have g := tg_ok (scope := sc) (fun x _ => O.fn x) O.toXOk h1
      rw [← O.hK] at g
      exact ps_forD O.ps O.calm O.hK sI.r g (soundB b O G h3) (fun x => folded_of sI.s _ x)
    · cases h
  | .whl n t b, X, c, sc, s', O, G, h => by
    unfold chkT at h
    split at h
    · obtain ⟨h1, h2⟩ := and2 h
      exact ps_whileD O.ps ((sound t O.toXOk G).1 h1).t (soundB b O G h2)
    · cases h
  | .app a e, X, c, sc, s', O, G, h => by
    unfold chkT at h
    split at h
    · obtain ⟨h1, h4, h5⟩ := ands3 h
      obtain ⟨h0, h2, h3⟩ := ands3 h1
      cases of_decide_eq_true h0
      have s := (sound e O.toXOk G).1 h3
      exact ps_appD ((sound a O.toXOk G).1 h2).v s.v (sw_false rfl _ _ _) (base_of h5 _ _) (by rw [star_of s.p]; rfl) h4 (star_of s.p _ _) rfl
    · cases h
  | .put a i e, X, c, sc, s', O, G, h => by
    unfold chkT at h
    split at h
    · rename_i a' i' p' e' pos
      obtain ⟨h1, h4, h5⟩ := ands3 h
      obtain ⟨h1, h2, h3⟩ := ands3 h1
      refine ps_putD O.hu ((sound a O.toXOk G).1 h1).v ((sound i O.toXOk G).1 h2).v ((sound e O.toXOk G).1 h3).v ?_ (fun v => ?_) ?_
      · have hc := notB h5
        cases e' <;> first | rfl | cases hc
      · cases i' <;> first | rfl | cases h4
      · cases e' <;> rfl
    · cases h
  | .fput a f e, X, c, sc, s', O, G, h => by
    unfold chkT at h
    split at h
    · obtain ⟨h1, h4⟩ := and2 h
      obtain ⟨h1, h2, h3⟩ := ands3 h1
      cases of_decide_eq_true h1
      exact ps_fputD (fun cl q => G.fl cl f (fl_mem q)) ((sound a O.toXOk G).1 h2).v ((sound e O.toXOk G).1 h3).v (sw_false (notB h4) _ _ _)
    · cases h
  | .pas, X, c, sc, s', O, G, h => by
    unfold chkT at h
    split at h
    · exact ps_passD
    · cases h
  | .brk, X, c, sc, s', O, G, h => by
    unfold chkT at h
    split at h
    · exact ps_breakD
    · cases h
  | .cont, X, c, sc, s', O, G, h => by
    unfold chkT at h
    split at h
    · exact ps_continueD
    · cases h
  | .dead, X, c, sc, s', O, G, h => ps_dead
  | .tr b hs, X, c, sc, s', O, G, h => by
    unfold chkT at h
    split at h
    · obtain ⟨h1, h2⟩ := and2 h
      exact ps_tryD O.toXOk G O.stk O.frm h2 fun W pn xe tk' ps' => soundB b (X := X.tr pn xe) (c := { c with W := W }) { hN := O.hN, nd := O.nd, hsc := O.hsc, hK := O.hK, calm := O.calm, tk := tk', room := O.room, fr := L2.fr_def O.stk O.frm tk', cod := O.cod, kd := O.kd, fn := O.fn, ps := ps', stk := O.stk, frm := O.frm } G h1
    · cases h
  | .trx b hs, X, c, sc, s', O, G, h => by
    unfold chkT at h
    split at h
    · obtain ⟨h1, h2⟩ := and2 h
      exact ps_tryH O.toXOk G O.stk O.frm h2 fun W pn xe tk' ps' => soundB b (X := X.tr pn xe) (c := { c with W := W }) { hN := O.hN, nd := O.nd, hsc := O.hsc, hK := O.hK, calm := O.calm, tk := tk', room := O.room, fr := L2.fr_def O.stk O.frm tk', cod := O.cod, kd := O.kd, fn := O.fn, ps := ps', stk := O.stk, frm := O.frm } G h1
    · cases h
  | .itx t a b, X, c, sc, s', O, G, h => by
    unfold chkT at h
    split at h
    · obtain ⟨h1, h2, h3⟩ := ands3 h
      exact ps_ifB (soundXB (M := M) O.hK (fun e e' hh => ⟨((sound e O.toXOk G).1 hh).v, ((sound e O.toXOk G).1 hh).t⟩) t _ h1) (soundB a O G h2) (soundB b O G h3)
    · cases h
  | .del a i, X, c, sc, s', O, G, h => by
    unfold chkT at h
    split at h
    · obtain ⟨h1, h2⟩ := and2 h
      exact ps_delD ((sound a O.toXOk G).1 h1).v ((sound i O.toXOk G).1 h2).v
    · cases h
  | .raise cl l, X, c, sc, s', O, G, h => by
    unfold chkT at h
    split at h
    · obtain ⟨h, h5⟩ := and2 h
      obtain ⟨h1, h2, h3⟩ := ands3 h
      exact sound_raise O.toXOk G (soundL l O.toXOk G h3) h1 h2 (of_decide_eq_true h5)
    · cases h
  | .frz i s, X, c, sc, s', O, G, h => ps_frzD (soundT s O G h)
theorem soundB : ∀ (b : List S) {X : Cx} {c : Ctx} {sc : Scope} {b' : List Stmt}, XDef X c N sc k → GloX M X c k → chkB M.T N b sc b' = true → PSs X b' (tS c (evB M b))
  | [], X, c, sc, b', O, G, h => by
    cases b' with
    | nil => exact pss_nilD
    | cons _ _ => cases h
  | s :: r, X, c, sc, b', O, G, h => by
    cases b' with
    | nil => cases h
    | cons s' r' =>
      obtain ⟨h1, h2⟩ := and2 (show (chkT M.T N s sc s' && chkB M.T N r sc r') = true from h)
      exact pss_consD (soundT s O G h1) (soundB r O G h2)
end

/-! ### a def of the text -/
def startR (n : Nat) (ds : List D) : List D := ds ++ List.replicate (n - ds.length) .no
def outR : SR → R D
  | .rt d m => .ok d m
  | .nx _ m => .ok .non m
  | .exc k fs _ m => .exc k fs m
  | _ => .stuck
/-- no argument is missing -/
def runB (M : Sem) (n : Nat) (b : List S) (ds : List D) (m : List Cell) : R D := outR (evB M b (startR n ds) m)
def scopeB (N ps : List Str) (sc : Scope) : Bool :=
  decide (sc.kind = .function) && !sc.isCoroutine && !sc.isGenerator && decide N.Nodup && decide (N.take ps.length = ps) && (ps.all fun x => (sc.names.lookup x == some .local) || (sc.names.lookup x == some .cell)) && (sc.names.all fun y => !(y.2 == .free))
theorem scope_of {N ps : List Str} {sc : Scope} (h : scopeB N ps sc = true) : FnScope N ps sc := by
  unfold scopeB at h
  simp only [Bool.and_eq_true, decide_eq_true_eq, List.all_eq_true, Bool.or_eq_true, Bool.not_eq_true', beq_iff_eq] at h
  obtain ⟨⟨⟨⟨⟨⟨h1, h2⟩, h3⟩, h4⟩, h5⟩, h6⟩, h7⟩ := h
  refine ⟨h1, h2, h3, h4, h5, fun x hx => h6 x hx, fun y hy e => ?_⟩
  have := h7 y hy
  rw [e] at this
  cases this
theorem start_SS {c : Ctx} {m : List Cell} {N : List Str} {ds : List D} {vs : List V} (st : Sto c.K c.C m c.z0 c.H0) (r : c.RepL c.z0 ds vs) : SS c (startR N.length ds) m c.z0 (L2.start N vs) c.H0 := by
  have hl := RepL.length r
  refine ⟨st, .refl _ _, by unfold startR L2.start; simp [hl], fun i d h hn => ?_⟩
  unfold startR at h
  rw [List.getElem?_append] at h
  split at h
  · rename_i hi
    obtain ⟨v, e3, r3⟩ := RepL.get' r h
    refine ⟨v, ?_, r3⟩
    unfold L2.start
    rw [List.getElem?_append, if_pos (by simpa [hl] using hi), List.getElem?_map, e3]
    rfl
  · rw [List.getElem?_replicate] at h
    split at h
    · cases h; exact absurd rfl hn
    · cases h
end
section
variable {P : Program} {w : World} {K : PySem.W.Frag} {C : Nat → Addr} {mg : Str → Option Value} {base : Heap} {k : Nat} {M : Sem}
/-- THE RULE: a def keeps what its small text comes to -/
theorem ok_def {x qual : Str} {st : Stmt} {f : Addr} {fd : FuncData} {N ps : List Str} {b : List S} (F : Fun K x qual st f fd) (hS : scopeB N ps (defScope st) = true) (hB : chkB M.T N b (defScope st) (defBody st) = true) (G : Glo M P w K C mg base k)
    (hc : genName ∈ N → ∃ i, C (1000000 + 2 * i) ≠ 0 ∧ fd.code = .ref (C (1000001 + 2 * i))) :
    FnOk P w K mg base (L2.CX P w) (k + 2) f fd ps (spM K C ps.length (runB M N.length b)) := by
  have Sc := scope_of hS
  obtain ⟨oc, od, kV, doc, pm, an, cdv, ct, osl, rfl, lk, hcd⟩ := F.ex
  refine fn_of lk hcd Sc (fun vs H Q E h => ?_) (fun A outer s H vs Q E hr h => ?_)
  · obtain ⟨ds, m, z, _, r, hn, _⟩ := h
    rw [RepL.length r, hn]
  · obtain ⟨ds, m, z, st, r, hn, h⟩ := h
    let c : Ctx := ⟨K, C, z, H, fun cls d _ H' => E cls d H'⟩
    have O : XDef (cxOf (L2.CX P w) P w K mg base N qual (defScope _) f cdv A outer s H E) c N (defScope _) k :=
      { hN := rfl, nd := Sc.nd, hsc := rfl, hK := rfl, calm := rfl, tk := takes_of rfl rfl rfl rfl, room := hr, fr := L2.fr_def rfl rfl (takes_of rfl rfl rfl rfl), cod := hc, kd := Sc.kind, fn := fun _ => rfl, ps := passes_of rfl, stk := rfl, frm := rfl }
    refine ⟨tS c (evB M b), soundB b O G hB, startR N.length ds, m, z, start_SS (c := c) st r, ?_⟩
    unfold runB at h
    generalize evB M b (startR N.length ds) m = q at h ⊢
    cases q with
    | nx ρ m' => exact fun σ' H' z' S g => h .non H' z' S.st g rfl
    | rt d m' => exact fun v ρ' σ' H' z' S g r => h v H' z' S.st g r
    | exc kk fs ρ m' => exact fun d σ' H' z' S g x => h d H' z' S.st g x
    | bk ρ m' => exact h.elim
    | ct ρ m' => exact h.elim
    | stuck => exact h
end
end GS
end

noncomputable section
namespace GS
open PySem L2
/-! ### all defs at once, by fuel -/
structure Def where
  N : List Str
  ps : List Str
  b : List S
def Phi (T : Tab) (Γ : Nat → D) (B : Nat → Def) : Nat → Nat → List D → List Cell → R D
  | 0 => fun _ _ _ => .stuck
  | n + 1 => fun f ds m => runB ⟨T, Phi T Γ B n, Γ⟩ (B f).N.length (B f).b ds m
/-- the def at fa has the text d -/
structure DefOk (K : PySem.W.Frag) (C : Nat → Addr) (T : Tab) (d : Def) (fa : Addr) : Prop where
  ex : ∃ (x qual : Str) (st : Stmt) (fd : FuncData), Fun K x qual st fa fd ∧ Binds K fd d.ps [] ∧ scopeB d.N d.ps (defScope st) = true ∧ chkB T d.N d.b (defScope st) (defBody st) = true ∧
    (genName ∈ d.N → ∃ i, C (1000000 + 2 * i) ≠ 0 ∧ fd.code = .ref (C (1000001 + 2 * i)))
/-- item by item -/
def All3 (p : Nat → Str → Nat → Prop) : List (Nat × Str × Nat) → Prop
  | [] => True
  | (f, x, n) :: l => p f x n ∧ All3 p l
theorem All3.mem {p : Nat → Str → Nat → Prop} : ∀ {l : List (Nat × Str × Nat)}, All3 p l → ∀ f x n, (f, x, n) ∈ l → p f x n
  | [], _, f, x, n, h => by cases h
  | (g, y, k) :: l, ⟨a, b⟩, f, x, n, h => by
    rcases List.mem_cons.mp h with h | h
    · cases h; exact a
    · exact All3.mem b f x n h
def All4 (p : Nat → Str → Nat → Nat → Prop) : List (Nat × Str × Nat × Nat) → Prop
  | [] => True
  | (f, x, i, n) :: l => p f x i n ∧ All4 p l
theorem All4.mem {p : Nat → Str → Nat → Nat → Prop} : ∀ {l : List (Nat × Str × Nat × Nat)}, All4 p l → ∀ f x i n, (f, x, i, n) ∈ l → p f x i n
  | [], _, f, x, i, n, h => by cases h
  | (g, y, j, k) :: l, ⟨a, b⟩, f, x, i, n, h => by
    rcases List.mem_cons.mp h with h | h
    · cases h; exact a
    · exact All4.mem b f x i n h
def AllB (p : Nat → Nat → Bool → Prop) : List (Nat × Nat × Bool) → Prop
  | [] => True
  | (f, x, n) :: l => p f x n ∧ AllB p l
theorem AllB.mem {p : Nat → Nat → Bool → Prop} : ∀ {l : List (Nat × Nat × Bool)}, AllB p l → ∀ f x n, (f, x, n) ∈ l → p f x n
  | [], _, f, x, n, h => by cases h
  | (g, y, k) :: l, ⟨a, b⟩, f, x, n, h => by
    rcases List.mem_cons.mp h with h | h
    · cases h; exact a
    · exact AllB.mem b f x n h
def AllX (p : Nat → Str → List (Str × Nat) → Nat → Prop) : List (Nat × Str × List (Str × Nat) × Nat) → Prop
  | [] => True
  | (f, x, i, n) :: l => p f x i n ∧ AllX p l
theorem AllX.mem {p : Nat → Str → List (Str × Nat) → Nat → Prop} : ∀ {l : List (Nat × Str × List (Str × Nat) × Nat)}, AllX p l → ∀ f x i n, (f, x, i, n) ∈ l → p f x i n
  | [], _, f, x, i, n, h => by cases h
  | (g, y, j, k) :: l, ⟨a, b⟩, f, x, i, n, h => by
    rcases List.mem_cons.mp h with h | h
    · cases h; exact a
    · exact AllX.mem b f x i n h
def All2 (p : Nat → Str → Prop) : List (Nat × Str) → Prop
  | [] => True
  | (f, x) :: l => p f x ∧ All2 p l
theorem All2.mem {p : Nat → Str → Prop} : ∀ {l : List (Nat × Str)}, All2 p l → ∀ f x, (f, x) ∈ l → p f x
  | [], _, f, x, h => by cases h
  | (g, y) :: l, ⟨a, b⟩, f, x, h => by
    rcases List.mem_cons.mp h with h | h
    · cases h; exact a
    · exact All2.mem b f x h
def All1 (p : String → Prop) : List String → Prop
  | [] => True
  | x :: l => p x ∧ All1 p l
theorem All1.mem {p : String → Prop} : ∀ {l : List String}, All1 p l → ∀ x ∈ l, p x
  | [], _, x, h => by cases h
  | y :: l, ⟨a, b⟩, x, h => by
    rcases List.mem_cons.mp h with h | h
    · cases h; exact a
    · exact All1.mem b x h
structure Facts (T : Tab) (Γ : Nat → D) (B : Nat → Def) (P : Program) (K : PySem.W.Frag) (C : Nat → Addr) (mg : Str → Option Value) : Prop where
  fn : ∀ f x n, (f, x, n) ∈ T.fns → n = (B f).ps.length ∧ ∃ fa, mg x = some (.ref fa) ∧ DefOk K C T (B f) fa
  gl : ∀ n x, (n, x) ∈ T.gls → ∃ v u, mg x = some u ∧ RelV v u ∧ ∀ z, Rep K C z (Γ n) v
  bt : ∀ n ∈ T.bts, mg (Str.ofString n) = none
  cl : ∀ c x i n, (c, x, i, n) ∈ T.cls → n = (B i).ps.length ∧ mg x = some (.ref (C c)) ∧ ∃ fa, Mk K (C c) fa ∧ DefOk K C T (B i) fa
  mt : ∀ c m g n, (c, m, g, n) ∈ T.mtl → n = (B g).ps.length ∧ Cls K (C c) ∧ ∃ fa, Meth K (C c) m fa ∧ DefOk K C T (B g) fa
  fl : ∀ c f, (c, f) ∈ T.fll → Cls K (C c) ∧ NoAttr K (C c) f
  xc : ∀ c x l n, (c, x, l, n) ∈ T.xcl → (∀ (w : World) (base : Heap), XCls P w K mg base x (C c) l n) ∧ XSee K (C c) ∧ ∀ p ∈ l, PySem.W.findIn K (.ref (C c)) p.1 = some none
  nm : ∀ c x, (c, x) ∈ T.xnm → mg x = some (.ref (C c))
  sub : ∀ j c b, (j, c, b) ∈ T.sub → PySem.W.kitOne K (.ref (C j)) (.ref (C c)) = some b ∧ PySem.W.exmOne K (.ref (C j)) (.ref (C c)) = some b
section
variable {P : Program} {w : World} {K : PySem.W.Frag} {C : Nat → Addr} {mg : Str → Option Value} {base : Heap} {T : Tab} {Γ : Nat → D} {B : Nat → Def}
theorem fnAt_zero {d : Def} {fa : Addr} {k : Nat} (h : DefOk K C T d fa) : FnAt P w K C mg base k d.ps.length (fun _ _ => .stuck) fa := by
  obtain ⟨x, qual, st, fd, F, b, _, _, _⟩ := h.ex
  exact ⟨fd, d.ps, b, fun vs H Q E h => (by obtain ⟨_, _, _, _, _, _, z⟩ := h; exact z.elim), fun A outer s H args us vs Q E _ _ _ _ h => (by obtain ⟨_, _, _, _, _, _, z⟩ := h; exact z.elim)⟩
theorem fnAt_succ {d : Def} {fa : Addr} {k : Nat} {M : Sem} (h : DefOk K C M.T d fa) (G : Glo M P w K C mg base k) : FnAt P w K C mg base (k + 2) d.ps.length (runB M d.N.length d.b) fa := by
  obtain ⟨x, qual, st, fd, F, b, h1, h2, h3⟩ := h.ex
  exact ⟨fd, d.ps, b, ok_def F h1 h2 G h3⟩
theorem DefOk.kp {d : Def} {fa : Addr} (h : DefOk K C T d fa) : PySem.W.keepIn K (.ref fa) = true := by
  obtain ⟨x, qual, st, fd, F, _⟩ := h.ex
  exact F.kp
theorem all_ok (H : Facts T Γ B P K C mg) (tb : ∀ i, C (1000000 + 2 * i) ≠ 0 → GxR.TabB base mg (C (1000001 + 2 * i)) (C (1000000 + 2 * i))) : ∀ n, Glo ⟨T, Phi T Γ B n, Γ⟩ P w K C mg base (2 * n + 1)
  | 0 => {
      fn := fun f x n h => by
        obtain ⟨e, fa, h1, h2⟩ := H.fn f x n h
        subst e
        exact ⟨fa, h1, h2.kp, fnAt_zero h2⟩
      gl := H.gl
      bt := H.bt
      cl := fun c x i n h => by
        obtain ⟨e, h0, fa, h1, h2⟩ := H.cl c x i n h
        subst e
        exact ⟨h0, fa, h1, fnAt_zero h2⟩
      mt := fun c m g n h => by
        obtain ⟨e, h0, fa, h1, h2⟩ := H.mt c m g n h
        subst e
        exact ⟨h0, fa, h1, fnAt_zero h2⟩
      fl := H.fl
      xc := fun c x l n h => (H.xc c x l n h).1 w base
      lv := by omega
      tb := tb
      see := fun c x l n h => (H.xc c x l n h).2
      nm := H.nm
      sub := H.sub }
  | k + 1 => by
    have G := all_ok H tb k
    exact {
      fn := fun f x n h => by
        obtain ⟨e, fa, h1, h2⟩ := H.fn f x n h
        subst e
        exact ⟨fa, h1, h2.kp, fnAt_succ h2 G⟩
      gl := H.gl
      bt := H.bt
      cl := fun c x i n h => by
        obtain ⟨e, h0, fa, h1, h2⟩ := H.cl c x i n h
        subst e
        exact ⟨h0, fa, h1, fnAt_succ h2 G⟩
      mt := fun c m g n h => by
        obtain ⟨e, h0, fa, h1, h2⟩ := H.mt c m g n h
        subst e
        exact ⟨h0, fa, h1, fnAt_succ h2 G⟩
      fl := H.fl
      xc := fun c x l n h => (H.xc c x l n h).1 w base
      lv := by omega
      tb := tb
      see := fun c x l n h => (H.xc c x l n h).2
      nm := H.nm
      sub := H.sub }
end

/-! ### the law's own row -/
section
open PySem.W
/-- as walk_of, with what the head tells of the loose names -/
theorem walkX {l : OpenLaw} {n k : Nat} {q : Program} {loose : List Str} {XP : (Str → Option Value) → Heap → Prop} {YP : World → Heap → Prop} {d : DefRec} {K : Params → Frag} {CX : World → CXT} {sp : World → Sp} {x : Str}
    (hn : l.most = some n) (hn2 : n ≤ sizeLine) (hdf : d.params.defaults = []) (hr : Room k callerA)
    (hY : ∀ (w : World) (h : Heap), YP w h → (K w.params).In h)
    (F : ∀ (w : World) (mg : Str → Option Value) (fa : Addr) (h : Heap), XP mg h → (K w.params).In h → h.Ns mainGlobals mg → mg d.name = some (.ref fa) →
      ∃ fd : FuncData, (∀ (s : Shared) (u : Value), BindsTo s fd ⟨[u], []⟩ [(x, u)]) ∧
        ∀ base : Heap, (K w.params).In base → base.Ns mainGlobals mg → FnOk l.prog w (K w.params) mg base (CX w) k fa fd [x] (sp w))
    (hsp : ∀ (w : World) (H : Hp) (a : Addr) (ns : List Int), ns.length ≤ n → Only H → SqL (K w.params) H a (ns.map V.int) → sp w [.ref a] H (fun v _ => v = .bl true) fun _ _ _ => False)
    (hCX : ∀ (w : World) (H : Hp) (s : Shared) (e : Value) (s' : Shared), CX w [] H s (fun _ _ _ => False) e s' → False) :
    WalkO q loose XP YP l.row.toRowW d [] (fun f vs => PySem.call f vs) := by
  refine Att.attach_call hn hdf fun w s₀ s₁ mg mb fa o pm cd doc a vs ns G Y ho hd hcd hmg hobj hints hlen hg => ?_
  have KX := hY w _ Y
  obtain ⟨fd, hb, hF⟩ := F w mg fa _ G.X KX G.T.g hmg
  exact law_call KX G.T.g G.T.b G.T.builtins G.T.nolimit hg hobj hints (Nat.le_trans hlen hn2) hr hF hb (fun H hO hS => hsp w H a ns hlen hO hS) fun H e s' => hCX w H s₁ e s'
/-- a law's promise: at every script of at most 63 ints it gives True; the tables at T are empty -/
def spLaw (K : PySem.W.Frag) (T : List Addr) : Sp := fun vs H Q _ => ∃ (a : Addr) (ns : List Int), vs = [.ref a] ∧ SqL K H a (ns.map V.int) ∧ ns.length ≤ 63 ∧ (∀ t ∈ T, H t = some (.tbl #[])) ∧ ∀ H', Q (.bl true) H'
theorem spLaw_imp {K : PySem.W.Frag} {C : Nat → Addr} {T : List Addr} (hT : ∀ t, TabA C t → t ∈ T) {Φ : List D → List Cell → R D} (hΦ : ∀ ns : List Int, ns.length ≤ 63 → ∃ m', Φ [.scr ns] [] = .ok (.bl true) m') {vs : List V} {H : Hp} {Q : VK} {E : XK} (q : spLaw K T vs H Q E) : spM K C 1 Φ vs H Q E := by
  obtain ⟨a, ns, rfl, hS, hl, hH, hq⟩ := q
  obtain ⟨m', e⟩ := hΦ ns hl
  let F : Hp := fun b => if b ∈ T then none else H b
  have le : Same F H := fun b u e => by
    have e : (if b ∈ T then none else H b) = some u := e
    split at e
    · cases e
    · exact e
  have hS' : SqL K F a (ns.map V.int) := by
    have na : ∀ o : HO, H a = some o → noT o → F a = some o := fun o e n => by
      have : a ∉ T := fun z => by
        have := hH a z
        rw [e] at this
        exact n #[] (Option.some.inj this)
      show (if a ∈ T then none else H a) = some o
      rw [if_neg this]; exact e
    rcases hS with (h | ⟨o, h⟩) | h
    · exact .inl (.inl (na _ h (by intro ps q; cases q)))
    · exact .inl (.inr ⟨o, na _ h (by intro ps q; cases q)⟩)
    · exact .inr h
  refine ⟨[.scr ns], [], ⟨[], F⟩, .nil le fun t ht => ?_, ⟨.ref a, [], rfl, ⟨a, rfl, hS'⟩, rfl⟩, rfl, ?_⟩
  · have hm := hT t ht
    refine ⟨⟨#[], hH t hm, trivial⟩, ?_⟩
    show (if t ∈ T then none else H t) = none
    rw [if_pos hm]
  rw [e]
  intro v H' z' st G r
  obtain rfl : v = .bl true := r
  exact hq H'
theorem spLaw_end {K : PySem.W.Frag} {T : List Addr} {H : Hp} {a : Addr} {ns : List Int} (hl : ns.length ≤ 63) (hS : SqL K H a (ns.map V.int)) (hT : ∀ t ∈ T, H t = some (.tbl #[])) : spLaw K T [.ref a] H (fun v _ => v = .bl true) fun _ _ _ => False := ⟨a, ns, rfl, hS, hl, hT, fun _ => rfl⟩
/-! ### tables of code objects -/
def cT (l : List (Nat × Addr × Addr)) (cls : Nat → Addr) : Nat → Addr := fun n =>
  if n < 1000000 then cls n else if n % 2 = 0 then (((l.find? fun x => decide (x.1 = (n - 1000000) / 2)).map (·.2.2)).getD 0) else (((l.find? fun x => decide (x.1 = (n - 1000000) / 2)).map (·.2.1)).getD 0)
theorem cT_even (l : List (Nat × Addr × Addr)) (cls : Nat → Addr) (i : Nat) : cT l cls (1000000 + 2 * i) = (((l.find? fun x => decide (x.1 = i)).map (·.2.2)).getD 0) := by
  unfold cT
  rw [if_neg (by omega), if_pos (by omega)]
  have : (1000000 + 2 * i - 1000000) / 2 = i := by omega
  rw [this]
theorem cT_odd (l : List (Nat × Addr × Addr)) (cls : Nat → Addr) (i : Nat) : cT l cls (1000001 + 2 * i) = (((l.find? fun x => decide (x.1 = i)).map (·.2.1)).getD 0) := by
  unfold cT
  rw [if_neg (by omega), if_neg (by omega)]
  have : (1000001 + 2 * i - 1000000) / 2 = i := by omega
  rw [this]
theorem cT_tab {l : List (Nat × Addr × Addr)} {cls : Nat → Addr} {t : Addr} (h : TabA (cT l cls) t) : t ∈ l.map (·.2.2) := by
  obtain ⟨h0, i, e⟩ := h
  rw [cT_even] at e
  cases q : l.find? fun x => decide (x.1 = i) with
  | none => rw [q] at e; exact absurd e.symm h0
  | some x =>
    rw [q] at e
    exact List.mem_map.mpr ⟨x, List.mem_of_find?_eq_some q, e⟩
theorem cT_tb {l : List (Nat × Addr × Addr)} {cls : Nat → Addr} {base : Heap} {mg : Str → Option Value} (h : ∀ p ∈ l, GxR.TabB base mg p.2.1 p.2.2) : ∀ i, cT l cls (1000000 + 2 * i) ≠ 0 → GxR.TabB base mg (cT l cls (1000001 + 2 * i)) (cT l cls (1000000 + 2 * i)) := by
  intro i h0
  rw [cT_even] at h0 ⊢
  rw [cT_odd]
  cases q : l.find? fun x => decide (x.1 = i) with
  | none => rw [q] at h0; exact absurd rfl h0
  | some x => exact h x (List.mem_of_find?_eq_some q)
theorem cT_in {l : List (Nat × Addr × Addr)} {cls : Nat → Addr} {v : Value} {i : Nat} {c P : Addr} (hf : l.find? (fun x => decide (x.1 = i)) = some (i, c, P)) (h0 : P ≠ 0) (hc : v = .ref c) : ∃ i, cT l cls (1000000 + 2 * i) ≠ 0 ∧ v = .ref (cT l cls (1000001 + 2 * i)) := by
  refine ⟨i, ?_, ?_⟩
  · rw [cT_even, hf]; exact h0
  · rw [cT_odd, hf]; exact hc
section
open PySem.W PyProof.Rows
theorem tabIn_of {K : Frag} {x : Str} {f c P : Addr} {oc xc : Value} {od xd : Option Addr} {fd : FuncData} {sl xs : Array (Option Value)} {vs : Array Value} (a : nsIn K mainGlobals x = some (some (.ref f))) (l : K.lookup f = some ⟨oc, od, .func fd, sl⟩) (hc : fd.code = .ref c)
    (k : K.lookup c = some ⟨xc, xd, .fields vs, xs⟩) (v : vs[11]? = some (.ref P)) : tabIn K x = some (c, P) := by
  unfold tabIn
  rw [a]
  dsimp only
  rw [l]
  dsimp only
  rw [hc]
  dsimp only
  rw [k]
  dsimp only
  rw [v]
/-- as walkX, with tables: tq, what the head tells of the defs' code objects -/
theorem walkT {l : OpenLaw} {n k : Nat} {q : Program} {loose : List Str} {XP : (Str → Option Value) → Heap → Prop} {YP : World → Heap → Prop} {d : DefRec} {K : Params → Frag} {CX : World → CXT} {x : Str}
    (hn : l.most = some n) (hn2 : n ≤ 63) (hdf : d.params.defaults = []) (hr : Room k callerA)
    (hY : ∀ (w : World) (h : Heap), YP w h → (K w.params).In h)
    (F : ∀ (w : World) (mg : Str → Option Value) (fa : Addr) (h : Heap), XP mg h → (K w.params).In h → h.Ns mainGlobals mg → mg d.name = some (.ref fa) → (∃ lo mean mb, Top q lo mean mg mb h) →
      ∃ (fd : FuncData) (cs : List (Nat × Addr × Addr)), (∀ p ∈ cs, h.get? p.2.2 = some (tabObj #[])) ∧ (∀ p ∈ cs, (K w.params).lookup p.2.2 = none) ∧ (∀ p ∈ cs, CodeHd h p.2.1 p.2.2) ∧ (∀ (s : Shared) (u : Value), BindsTo s fd ⟨[u], []⟩ [(x, u)]) ∧
        ∀ base : Heap, (K w.params).In base → base.Ns mainGlobals mg → (∀ p ∈ cs, GxR.TabB base mg p.2.1 p.2.2) → FnOk l.prog w (K w.params) mg base (CX w) k fa fd [x] (spLaw (K w.params) (cs.map (·.2.2))))
    (hCX : ∀ (w : World) (H : Hp) (s : Shared) (e : Value) (s' : Shared), CX w [] H s (fun _ _ _ => False) e s' → False) :
    WalkO q loose XP YP l.row.toRowW d [] (fun f vs => PySem.call f vs) := by
  refine Att.attach_callB hn hdf fun w s₀ s₁ mg mb fa o pm cd doc a vs ns G Y ho hd hcd hmg hobj hints hlen hbits hg => ?_
  have KX := hY w _ Y
  obtain ⟨fd, cs, hT, nT, C, hb, hF⟩ := F w mg fa _ G.X KX G.T.g hmg ⟨_, _, _, G.T⟩
  have up : ∀ {Pr : Addr × Addr → Prop}, (∀ p ∈ cs, Pr (p.2.1, p.2.2)) → ∀ p ∈ cs.map (fun p => (p.2.1, p.2.2)), Pr p := fun h p hp => by
    obtain ⟨y, hy, rfl⟩ := List.mem_map.mp hp
    exact h y hy
  refine LamX.law_callTs (cs := cs.map fun p => (p.2.1, p.2.2)) KX G.T.g G.T.b G.T.builtins G.T.nolimit hg (up hT) (up nT) (up C) G.T.bmain hobj hints (Nat.le_trans hlen (Nat.le_trans hn2 (by decide))) hr
    (fun base h1 h2 h3 => hF base h1 h2 fun p hp => ?_) hb (fun H hH hS => spLaw_end (Nat.le_trans hlen hn2) hS fun t ht => ?_) fun H e s' => hCX w H s₁ e s'
  · have := h3 (p.2.1, p.2.2) (List.mem_map.mpr ⟨p, hp, rfl⟩)
    exact ⟨this.code, this.bm, this.gP⟩
  · obtain ⟨y, hy, rfl⟩ := List.mem_map.mp ht
    exact hH (y.2.1, y.2.2) (List.mem_map.mpr ⟨y, hy, rfl⟩)
end
theorem noCX {w : World} {P : Program} {H : Hp} {s : Shared} {e : Value} {s' : Shared} (h : L2.CX P w [] H s (fun _ _ _ => False) e s') : False := by
  obtain ⟨_, _, _, _, _, _, _, _, _, _, _, _, z⟩ := h
  exact z
end
end GS
end

noncomputable section
namespace GS
open PySem PySem.Spec PyProof.Rows L2 NdefX
/-! ### the facts of an own exception class, in one -/
def headB (N : List Str) (st : Stmt) : Bool := match ((defArgs st).posonlyargs ++ (defArgs st).args).head? with
  | some ar => decide (N[0]? = some ar.arg) && decide ((defScope st).names.lookup ar.arg = some .local)
  | none => false
/-- what the text of its __init__ must be -/
def xtextB (N ps : List Str) (l : List (Str × Nat)) (st : Stmt) : Bool := nscB N ps ["__class__"] (defScope st) && xbodyB N (defScope st) l (defBody st) && decide ((defScope st).names.lookup ("super" : Str) = some .globalImplicit) && headB N st && !l.isEmpty && decide (l.length ≤ 900) && (l.all fun p => decide (1 ≤ p.2) && decide (p.2 < ps.length))
section
variable {P : Program} {K : PySem.W.Frag} {mg : Str → Option Value} {C f cc cda N' : Addr} {st : Stmt} {N ps : List Str} {l : List (Str × Nat)} {x nm q qual nmI : Str} {bs bm : List Value} {sn : List Str} {sb : List Value} {ab : Bool} {co : Option Bool} {dd : Option Addr} {k0 k1 k2 k3 k5 : Option Value}
  {oc kV dc pm ct ccl c1 : Value} {od an cdd c2 : Option Addr} {osl ccs c3 : Array (Option Value)} {vs : Array Value} {file : Str} {tf : Tok}
theorem xcls_mk (hm : mg x = some (.ref C)) (hk : K.lookup C = some (excClassObj nm q C N' bs bm true sn sb ab co dd k0 k1 k2 k3 k5 "ValueError.__new__")) (hr : PySem.HandSPX.refsVE bm = true)
    (sa : PySem.W.findIn K (.ref C) "__setattr__" = some (some (.builtin "object.__setattr__"))) (exC : PySem.W.subIn K (.ref C) (.type "BaseException") = some true) (tyC : PySem.W.typeIn K (.ref C) = some (.type "type")) (kC : PySem.W.keepIn K (.ref C) = true)
    (lk : K.lookup f = some ⟨oc, od, .func (PySem.W.fnX nmI qual (defArgs st) (defBody st) (defScope st) [(("__class__" : Str), cc)] .none kV dc pm an (.ref cda) ct), osl⟩)
    (ini : PySem.W.findIn K (.ref C) "__init__" = some (some (.ref f))) (tyf : PySem.W.typeIn K (.ref f) = some (.type "function")) (hc : PySem.W.codeIn K (.ref cda) qual = true)
    (hcd : K.lookup cda = some ⟨ccl, cdd, .fields vs, ccs⟩) (hvs : vs[2]? = some (.str file tf)) (hfl : ((P.main.file : Str) == file) = true) (hcc : K.lookup cc = some ⟨c1, c2, .cell (some (.ref C)), c3⟩)
    (hmr : PySem.W.mroIn K C (.ref C) = some true) (hsu : mg "super" = none) (htop : (P.main.scope.names.lookup ("super" : Str)).isSome = false) (hop : PySem.W.nsIn K cStatics "thirdparty.any" = some none)
    (hal : PySem.W.ks_superIn K C C "__init__" = some (some (.builtin "ValueError.__init__"))) (hve : PySem.W.subIn K (.ref C) (.type "ValueError") = some true)
    (ga : PySem.W.findIn K (.ref C) "__getattribute__" = some (some (.builtin "BaseException.__getattribute__"))) (gg : PySem.W.findIn K (.ref C) "__getattr__" = some none) (hdC : PySem.W.hasDictIn K C = true)
    (ha : PySem.W.findIn K (.ref C) "__class__" = some (some (.builtin "object.__class__"))) (hn : PySem.W.specialIn K (.builtin "object.__class__") "__get__" = some (some (.builtin "getset_descriptor.__get__")))
    (ht : PySem.W.takesIn K (.builtin "object.__class__") = some true) (hob : PySem.W.mroIn K C (.type "object") = some true) (hno : ∀ p ∈ l, PySem.W.findIn K (.ref C) p.1 = some none)
    (tx : xtextB N ps l st = true) (hb : ∀ us : List Value, us.length = ps.length → bindArgs (PySem.W.fnX nmI qual (defArgs st) (defBody st) (defScope st) [(("__class__" : Str), cc)] .none kV dc pm an (.ref cda) ct) ⟨us, []⟩ = pure (ps.zip us)) :
    (∀ (w : World) (base : Heap), XCls P w K mg base x C l ps.length) ∧ XSee K C ∧ ∀ p ∈ l, PySem.W.findIn K (.ref C) p.1 = some none := by
  unfold xtextB at tx
  obtain ⟨tx, t7⟩ := and2 tx
  obtain ⟨tx, t6⟩ := and2 tx
  obtain ⟨tx, t5⟩ := and2 tx
  obtain ⟨tx, t4⟩ := and2 tx
  obtain ⟨tx, t3⟩ := and2 tx
  obtain ⟨t1, t2⟩ := and2 tx
  have T : OexC K C := ⟨⟨nm, q, N', bs, bm, sn, sb, ab, co, dd, k0, k1, k2, k3, k5, hk, hr⟩, sa, exC, tyC, kC⟩
  have t7' := List.all_eq_true.mp t7
  have ne : ps.length ≠ 1 := by
    cases l with
    | nil => simp at t5
    | cons p r =>
      obtain ⟨h1, h2⟩ := and2 (t7' p List.mem_cons_self)
      have h1 := of_decide_eq_true h1
      have h2 := of_decide_eq_true h2
      omega
  refine ⟨fun w base => ⟨T, hm, ?_, .inl ⟨ne, f, _, ps, ini, tyf, Binds.all hb, ?_⟩⟩, ⟨⟨ga, gg, exC, hdC⟩, ?_, ha, hn, ht, hob⟩, hno⟩
  · rw [List.all_eq_true]
    exact fun p hp => (and2 (t7' p hp)).1
  · have M : XInit P K mg C f ⟨nmI, qual, defArgs st, defBody st, defScope st, [(("__class__" : Str), cc)], cda⟩ (PySem.W.fnX nmI qual (defArgs st) (defBody st) (defScope st) [(("__class__" : Str), cc)] .none kV dc pm an (.ref cda) ct) cc :=
      ⟨T, ⟨oc, od, osl, lk⟩, ⟨rfl, rfl, rfl, rfl, rfl, rfl, rfl⟩, rfl, hc, ⟨ccl, cdd, vs, ccs, file, tf, hcd, hvs, hfl⟩, ⟨c1, c2, c3, hcc⟩, hmr, hsu, htop, hop, hal, hve⟩
    refine xinit_ok (k := 0) M (nscope_by t1) (fun ar har => ?_) ?_ (of_decide_eq_true t3) t2 ⟨by intro e; rw [e] at t5; simp at t5, of_decide_eq_true t6⟩ (fun p hp => ⟨hno p hp, of_decide_eq_true (and2 (t7' p hp)).2⟩)
    · have har : ((defArgs st).posonlyargs ++ (defArgs st).args).head? = some ar := har
      unfold headB at t4
      rw [har] at t4
      obtain ⟨h1, h2⟩ := and2 t4
      exact ⟨_, rfl, of_decide_eq_true h1, of_decide_eq_true h2⟩
    · show (((defArgs st).posonlyargs ++ (defArgs st).args).head?).isSome = true
      unfold headB at t4
      cases e : ((defArgs st).posonlyargs ++ (defArgs st).args).head? with
      | none => rw [e] at t4; cases t4
      | some _ => rfl
  · unfold PySem.W.clsIn
    rw [hk]
    rfl
/-- a class without own __init__ -/
theorem xcls_mk0 (hm : mg x = some (.ref C)) (hk : K.lookup C = some (excClassObj nm q C N' bs bm true sn sb ab co dd k0 k1 k2 k3 k5 "ValueError.__new__")) (hr : PySem.HandSPX.refsVE bm = true)
    (sa : PySem.W.findIn K (.ref C) "__setattr__" = some (some (.builtin "object.__setattr__"))) (exC : PySem.W.subIn K (.ref C) (.type "BaseException") = some true) (tyC : PySem.W.typeIn K (.ref C) = some (.type "type")) (kC : PySem.W.keepIn K (.ref C) = true)
    (hq : PySem.W.excIn K C [.type "ValueError", .type "Exception", .type "BaseException", .type "object"] "ValueError.__new__" = true)
    (ga : PySem.W.findIn K (.ref C) "__getattribute__" = some (some (.builtin "BaseException.__getattribute__"))) (gg : PySem.W.findIn K (.ref C) "__getattr__" = some none) (hdC : PySem.W.hasDictIn K C = true)
    (ha : PySem.W.findIn K (.ref C) "__class__" = some (some (.builtin "object.__class__"))) (hn : PySem.W.specialIn K (.builtin "object.__class__") "__get__" = some (some (.builtin "getset_descriptor.__get__")))
    (ht : PySem.W.takesIn K (.builtin "object.__class__") = some true) (hob : PySem.W.mroIn K C (.type "object") = some true) :
    (∀ (w : World) (base : Heap), XCls P w K mg base x C [] 1) ∧ XSee K C ∧ ∀ p ∈ ([] : List (Str × Nat)), PySem.W.findIn K (.ref C) p.1 = some none := by
  have T : OexC K C := ⟨⟨nm, q, N', bs, bm, sn, sb, ab, co, dd, k0, k1, k2, k3, k5, hk, hr⟩, sa, exC, tyC, kC⟩
  refine ⟨fun w base => ⟨T, hm, rfl, .inr ⟨rfl, rfl, hq, kC, exC, tyC⟩⟩, ⟨⟨ga, gg, exC, hdC⟩, ?_, ha, hn, ht, hob⟩, fun p hp => by cases hp⟩
  unfold PySem.W.clsIn
  rw [hk]
  rfl
end
end GS
end

noncomputable section
namespace GS
open PySem PySem.Spec PyProof.Rows L2
/-- a module's tuple of ints and texts -/
def tupIs (o : Obj) (xs : List V) : Prop := ∃ its n, o.cls = .type "tuple" ∧ o.data = .seq its n ∧ its.size ≤ 16777216 ∧ Vals xs its.toList
theorem rep_tupC {K : PySem.W.Frag} {C : Nat → Addr} {z : Fz} {a : Addr} {o : Obj} {ds : List D} {xs : List V} (h : K.lookup a = some o) (g : tupIs o xs) (r : RepL K C z ds xs) : Rep K C z (.tup ds) (.ref a) := by
  obtain ⟨its, n, h1, h2, h3, h4⟩ := g
  exact ⟨a, xs, rfl, .inr ⟨o, its, n, h, h1, h2, by rw [sizeLine_eq]; exact h3, h4⟩, r⟩
end GS
end

noncomputable section
namespace GS
open PySem L2
/-! ### what is reckoned by rewriting -/
def ownR (d : D) (m : List Cell) : R D := match toCell d with
  | some cell => .ok (.obj m.length) (m ++ [cell])
  | none => .stuck
def frzR (d : D) (m : List Cell) : R D := match d with
  | .obj n => (match m[n]? with
    | some (.lst l) => .ok (.lst l) (m.set n .dead)
    | some (.dct l) => .ok (.dct l) (m.set n .dead)
    | some (.ins c l) => .ok (.ins c l) (m.set n .dead)
    | _ => .stuck)
  | _ => .stuck
def sidxR (M : Sem) (b : E) (ρ : List D) (x : D) (m : List Cell) : R D := match x with | .str s => (evE M b ρ m).bind fun y m => R.of (sidxD (.str s) y) m | _ => .stuck
def bin2K (o : Operator) (x : D) (r : R (D)) : R D := r.bind fun y m => R.of (binD o (res m x) (res m y)) m
def binK (M : Sem) (o : Operator) (b : E) (ρ : List D) (r : R (D)) : R D := r.bind fun x m => bin2K o x (evE M b ρ m)
def cmp2K (o : CmpOp) (x : D) (r : R (D)) : R D := r.bind fun y m => R.of (cmpD o (res m x) (res m y)) m
def cmpK (M : Sem) (o : CmpOp) (b : E) (ρ : List D) (r : R (D)) : R D := r.bind fun x m => cmp2K o x (evE M b ρ m)
def negK  (r : R (D)) : R D := r.bind fun x m => R.of (negD (res m x)) m
def ch4K (p : CmpOp) (y : D) (r : R (D)) : R D := r.bind fun w m => R.of (cmpD p (res m y) (res m w)) m
def ch3K (M : Sem) (p : CmpOp) (d : E) (ρ : List D) (y : D) (r : R (D)) : R D := r.bind fun x m => (toB x m).bind fun k m => if k = true then ch4K p y (evE M d ρ m) else .ok (.bl false) m
def ch2K (M : Sem) (o : CmpOp) (p : CmpOp) (d : E) (ρ : List D) (x : D) (r : R (D)) : R D := r.bind fun y m => ch3K M p d ρ y (R.of (cmpD o (res m x) (res m y)) m)
def chK (M : Sem) (o : CmpOp) (p : CmpOp) (b : E) (d : E) (ρ : List D) (r : R (D)) : R D := r.bind fun x m => ch2K M o p d ρ x (evE M b ρ m)
def c33K (M : Sem) (p q : CmpOp) (d e : E) (ρ : List D) (y : D) (r : R (D)) : R D := r.bind fun x m => (toB x m).bind fun k m => if k = true then ch2K M p q e ρ y (evE M d ρ m) else .ok (.bl false) m
def c32K (M : Sem) (o p q : CmpOp) (d e : E) (ρ : List D) (x : D) (r : R (D)) : R D := r.bind fun y m => c33K M p q d e ρ y (R.of (cmpD o (res m x) (res m y)) m)
def c31K (M : Sem) (o p q : CmpOp) (b d e : E) (ρ : List D) (r : R (D)) : R D := r.bind fun x m => c32K M o p q d e ρ x (evE M b ρ m)
def andK (M : Sem) (l : List E) (ρ : List D) (r : R (D)) : R D := r.bind fun x m => (toB x m).bind fun k m => if k = true then evAnd M l ρ m else .ok (.bl false) m
def orK (M : Sem) (l : List E) (ρ : List D) (r : R (D)) : R D := r.bind fun x m => (toB x m).bind fun k m => if k = true then .ok (.bl true) m else evOr M l ρ m
def notK  (r : R (D)) : R D := r.bind fun x m => (toB x m).bind fun k m => .ok (.bl (!k)) m
def tupK  (r : R (List D)) : R D := r.bind fun xs m => R.of (mkTup xs) m
def lstK  (r : R (List D)) : R D := r.bind fun xs m => R.of (mkLst xs) m
def cons2K (x : D) (r : R (List D)) : R (List D) := r.bind fun xs m => .ok (x :: xs) m
def consK (M : Sem) (l : List E) (ρ : List D) (r : R (D)) : R (List D) := r.bind fun x m => cons2K x (evL M l ρ m)
def idx2K (x : D) (r : R (D)) : R D := r.bind fun y m => R.of (idxD (res m x) (res m y)) m
def idxK (M : Sem) (b : E) (ρ : List D) (r : R (D)) : R D := r.bind fun x m => idx2K x (evE M b ρ m)
def slc3K (x : D) (l : Option Int) (r : R (Option Int)) : R D := r.bind fun u m => R.of (slcD (res m x) l u) m
def slc2K (M : Sem) (hi : Option E) (ρ : List D) (x : D) (r : R (Option Int)) : R D := r.bind fun l m => slc3K x l (evO M hi ρ m)
def slcK (M : Sem) (lo : Option E) (hi : Option E) (ρ : List D) (r : R (D)) : R D := r.bind fun x m => slc2K M hi ρ x (evO M lo ρ m)
def toIK  (r : R (D)) : R (Option Int) := r.bind fun x m => toI x m
def purK (Φ : List D → List Cell → R D) (r : R (List D)) : R D := r.bind fun xs m => pur Φ xs m
def appK (Φ : List D → List Cell → R D) (r : R (List D)) : R D := r.bind fun xs m => Φ xs m
def fnK (n : String) (r : R (List D)) : R D := r.bind fun xs m => R.of (fnD n (xs.map (res m))) m
def dctK (r : R (List D)) : R D := r.bind fun xs m => R.of (dictDs (xs.map (res m))) m
def dget3K (x : D) (r : R D) : R D := r.bind fun y m => R.of (dgetD (res m x) (res m y)) m
def dget2K (M : Sem) (b : E) (ρ : List D) (x : D) (m : List Cell) (k : Bool) : R D := if k = true then dget3K x (evE M b ρ m) else .stuck
def dgetK (M : Sem) (b : E) (ρ : List D) (r : R D) : R D := r.bind fun x m => dget2K M b ρ x m (isDct (res m x))
def lkB (M : Sem) (a : E) (i : Nat) (ρ : List D) (m : List Cell) (n : Nat) (o : Option Cell) : R D := lk2 (evE M a) i ρ m n o
def lkA (M : Sem) (a : E) (i : Nat) (ρ : List D) (m : List Cell) (o : Option D) : R D := lk1 (evE M a) i ρ m o
def tyK (n : String) (r : R (List D)) : R D := r.bind fun xs m => R.of (tyD n (xs.map (res m))) m
def sidxK (M : Sem) (b : E) (ρ : List D) (r : R (D)) : R D := r.bind fun x m => sidxR M b ρ x m
def smR (M : Sem) (n : String) (b : E) (ρ : List D) (x : D) (m : List Cell) : R D := match x with | .str s => (evE M b ρ m).bind fun y m => R.of (txmD n (.str s) (res m y)) m | _ => .stuck
def smK (M : Sem) (n : String) (b : E) (ρ : List D) (r : R (D)) : R D := r.bind fun x m => smR M n b ρ x m
def sm2K (n : String) (x : D) (r : R (D)) : R D := r.bind fun y m => R.of (txmD n x (res m y)) m
def sidx2K (x : D) (r : R (D)) : R D := r.bind fun y m => R.of (sidxD x y) m
def bitsK  (r : R (D)) : R D := r.bind fun x m => R.of (bitsD (res m x)) m
def isAK (t : String) (r : R (D)) : R D := r.bind fun x m => R.of (isD t (res m x)) m
def fldK (T : Tab) (f : Str) (r : R (D)) : R D := r.bind fun x m => R.of (fldD T.fl f (res m x)) m
def meth3K (M : Sem) (pu : Bool) (g : Nat) (x : D) (r : R (List D)) : R D := r.bind fun xs m => GS.app pu (M.Φ g) (x :: xs) m
def meth2K (M : Sem) (pu : Bool) (l : List E) (ρ : List D) (x : D) (r : R (Nat)) : R D := r.bind fun g m => meth3K M pu g x (evL M l ρ m)
def methK (M : Sem) (pu : Bool) (f : Str) (l : List E) (ρ : List D) (r : R (D)) : R D := r.bind fun x m => meth2K M pu l ρ x (R.of (pickM M.T.mt f (res m x)) m)
def asNewK (n : Nat) (r : R (D)) : R D := r.bind fun x m => asNew n x m
def makeK (M : Sem) (cl : Nat) (r : R (List D)) : R D := r.bind fun xs m => asNewK m.length (M.Φ (M.T.ini cl) (.obj m.length :: xs) (m ++ [.ins cl []]))
def pop3K (nl : Nat × List D) (r : R (D)) : R D := r.bind fun y m => .ok y (m.set nl.1 (.lst nl.2.dropLast))
def pop2K  (r : R (Nat × List D)) : R D := r.bind fun nl m => pop3K nl (R.of nl.2[nl.2.length - 1]? m)
def popK  (r : R (D)) : R D := r.bind fun x m => pop2K (R.of (lstAt m x) m)
def dminK  (r : R (D)) : R D := r.bind fun x m => R.of (dminD m x) m
@[simp] theorem dminK_ok  (x : D) (m : List Cell) : dminK  (.ok x m) = R.of (dminD m x) m := rfl
@[simp] theorem dminK_exc  (c : Nat) (fs : List (Str × D)) (m : List Cell) : dminK  (.exc c fs m) = .exc c fs m := rfl
@[simp] theorem dminK_if  (pp : Prop) [Decidable pp] (aa bb : R (D)) : dminK  (if pp then aa else bb) = if pp then dminK  aa else dminK  bb := by split <;> rfl
def lrgK (r : R D) : R D := (r.bind fun x m => R.of (lrgD (res m x)) m).bind ownR
@[simp] theorem lrgK_ok (x : D) (m : List Cell) : lrgK (.ok x m) = (R.of (lrgD (res m x)) m).bind ownR := rfl
@[simp] theorem lrgK_exc (c : Nat) (fs : List (Str × D)) (m : List Cell) : lrgK (.exc c fs m) = .exc c fs m := rfl
def gqV (al : Bool) (Γ : Nat → D) (q : QE) (ρ : List D) (x : D) : Option D := gqD al (fun d => qe Γ ρ d q) x
def gqK (al : Bool) (Γ : Nat → D) (q : QE) (ρ : List D) (r : R D) : R D := r.bind fun x m => R.of (gqD al (fun d => qe Γ ρ d q) (res m x)) m
@[simp] theorem gqK_ok (al : Bool) (Γ : Nat → D) (q : QE) (ρ : List D) (x : D) (m : List Cell) : gqK al Γ q ρ (.ok x m) = R.of (gqV al Γ q ρ (res m x)) m := rfl
@[simp] theorem gqK_exc (al : Bool) (Γ : Nat → D) (q : QE) (ρ : List D) (c : Nat) (fs : List (Str × D)) (m : List Cell) : gqK al Γ q ρ (.exc c fs m) = .exc c fs m := rfl
@[simp] theorem gqK_if (al : Bool) (Γ : Nat → D) (q : QE) (ρ : List D) (pp : Prop) [Decidable pp] (aa bb : R (D)) : gqK al Γ q ρ (if pp then aa else bb) = if pp then gqK al Γ q ρ aa else gqK al Γ q ρ bb := by split <;> rfl
def ownK  (r : R (D)) : R D := r.bind fun x m => ownR x m
def frzK  (r : R (D)) : R D := r.bind fun x m => frzR x m
def rng1K  (r : R (D)) : R D := r.bind fun x m => R.of (rng1D (res m x)) m
def rng3K (x : D) (r : R (D)) : R D := r.bind fun y m => R.of (rng2D (res m x) (res m y)) m
def rng2K (M : Sem) (b : E) (ρ : List D) (r : R (D)) : R D := r.bind fun x m => rng3K x (evE M b ρ m)
def rngd2K (x : D) (r : R (D)) : R D := r.bind fun y m => R.of (rngdD (res m x) (res m y)) m
def rngdK (M : Sem) (b : E) (ρ : List D) (r : R (D)) : R D := r.bind fun x m => rngd2K x (evE M b ρ m)
def zip2K (x : D) (r : R (D)) : R D := r.bind fun y m => R.of (zipD x y) m
def zipK (M : Sem) (b : E) (ρ : List D) (r : R (D)) : R D := r.bind fun x m => zip2K x (evE M b ρ m)
def srcK  (r : R (D)) : R (List D × Keep) := r.bind fun x m => srcD x m
def lcK  (r : R (List D)) : R D := r.bind fun ys m => R.of (mkLst ys) m
def cmpK1 (M : Sem) (t : Tg) (own : List Nat) (ifs : Option E) (el : E) (ρ : List D) (r : R (List D × Keep)) : R D := r.bind fun ds m => lcK (limR ds.1.length (compR t (evIf M ifs) (evE M el) (wipeR ρ own) ds.2 ds.1 m))
def asgK (ρ : List D) (i : Nat) (r : R (D)) : SR := r.then ρ fun x m => .nx (ρ.set i x) m
def mny2K (ρ : List D) (r : R (List D)) : SR := r.then ρ fun r m => .nx r m
def mnyK (ρ : List D) (is : List Nat) (r : R (D)) : SR := r.then ρ fun x m => mny2K ρ (R.of (bindT (.many is) x ρ) m)
def par2K (ρ : List D) (i : Nat) (j : Nat) (x : D) (r : R (D)) : SR := r.then ρ fun y m => .nx ((ρ.set i x).set j y) m
def parK (ρ : List D) (M : Sem) (i : Nat) (j : Nat) (b : E) (r : R (D)) : SR := r.then ρ fun x m => par2K ρ i j x (evE M b ρ m)
def aug2K (ρ : List D) (o : Operator) (i : Nat) (x : D) (r : R (D)) : SR := r.then ρ fun y m => asgK ρ i (R.of (augD o x y) m)
def augK (ρ : List D) (M : Sem) (o : Operator) (i : Nat) (e : E) (r : R (D)) : SR := r.then ρ fun x m => aug2K ρ o i x (evE M e ρ m)
def exprK (ρ : List D) (r : R (D)) : SR := r.then ρ fun x m => .nx ρ m
def retK (ρ : List D) (r : R (D)) : SR := r.then ρ fun x m => .rt x m
def iteK (ρ : List D) (M : Sem) (a : List S) (b : List S) (r : R (D)) : SR := (r.bind toB).then ρ fun k m => if k = true then evB M a ρ m else evB M b ρ m
def loopK (ρ : List D) (M : Sem) (t : Tg) (b : List S) (r : R (List D × Keep)) : SR := r.then ρ fun ds m => loopS t (evB M b) ds.2 ds.1 ρ m
def sapp4K (ρ : List D) (y : D) (r : R (Nat × List D)) : SR := r.then ρ fun nl m => if cd (nl.2.length < sizeLine) = true then .nx ρ (m.set nl.1 (.lst (nl.2 ++ [y]))) else .stuck
def sapp3K (ρ : List D) (x : D) (r : R (D)) : SR := r.then ρ fun y m => sapp4K ρ y (R.of (lstAt m x) m)
def sapp2K (ρ : List D) (M : Sem) (e : E) (x : D) (r : R (Nat × List D)) : SR := r.then ρ fun nl m => sapp3K ρ x (evE M e ρ m)
def sappK (ρ : List D) (M : Sem) (e : E) (r : R (D)) : SR := r.then ρ fun x m => sapp2K ρ M e x (R.of (lstAt m x) m)
def sput4K (ρ : List D) (r : R (List Cell)) : SR := r.then ρ fun r m => .nx ρ r
def sput3K (ρ : List D) (v : D) (o : D) (r : R (D)) : SR := r.then ρ fun i m => sput4K ρ (R.of (putItem m o i v) m)
def sput2K (ρ : List D) (M : Sem) (i : E) (v : D) (r : R (D)) : SR := r.then ρ fun o m => sput3K ρ v o (evE M i ρ m)
def sputK (ρ : List D) (M : Sem) (a : E) (i : E) (r : R (D)) : SR := r.then ρ fun v m => sput2K ρ M i v (evE M a ρ m)
def sfput3K (ρ : List D) (M : Sem) (f : Str) (v : D) (r : R (Nat × Nat × List (Str × D))) : SR := r.then ρ fun nc m => if (M.T.fl nc.2.1 f && cd (nc.2.2.length < 1000)) = true then .nx ρ (m.set nc.1 (.ins nc.2.1 (putFD f v nc.2.2))) else .stuck
def sfput2K (ρ : List D) (M : Sem) (f : Str) (v : D) (r : R (D)) : SR := r.then ρ fun o m => sfput3K ρ M f v (R.of (insAt m o) m)
def sfputK (ρ : List D) (M : Sem) (a : E) (f : Str) (r : R (D)) : SR := r.then ρ fun v m => sfput2K ρ M f v (evE M a ρ m)
@[simp] theorem binK_ok (M : Sem) (o : Operator) (b : E) (ρ : List D) (x : D) (m : List Cell) : binK M o b ρ (.ok x m) = bin2K o x (evE M b ρ m) := rfl
@[simp] theorem binK_exc (M : Sem) (o : Operator) (b : E) (ρ : List D) (c : Nat) (fs : List (Str × D)) (m : List Cell) : binK M o b ρ (.exc c fs m) = .exc c fs m := rfl
@[simp] theorem binK_if (M : Sem) (o : Operator) (b : E) (ρ : List D) (pp : Prop) [Decidable pp] (aa bb : R (D)) : binK M o b ρ (if pp then aa else bb) = if pp then binK M o b ρ aa else binK M o b ρ bb := by split <;> rfl
@[simp] theorem bin2K_ok (o : Operator) (x : D) (y : D) (m : List Cell) : bin2K o x (.ok y m) = R.of (binD o (res m x) (res m y)) m := rfl
@[simp] theorem bin2K_exc (o : Operator) (x : D) (c : Nat) (fs : List (Str × D)) (m : List Cell) : bin2K o x (.exc c fs m) = .exc c fs m := rfl
@[simp] theorem bin2K_if (o : Operator) (x : D) (pp : Prop) [Decidable pp] (aa bb : R (D)) : bin2K o x (if pp then aa else bb) = if pp then bin2K o x aa else bin2K o x bb := by split <;> rfl
@[simp] theorem cmpK_ok (M : Sem) (o : CmpOp) (b : E) (ρ : List D) (x : D) (m : List Cell) : cmpK M o b ρ (.ok x m) = cmp2K o x (evE M b ρ m) := rfl
@[simp] theorem cmpK_exc (M : Sem) (o : CmpOp) (b : E) (ρ : List D) (c : Nat) (fs : List (Str × D)) (m : List Cell) : cmpK M o b ρ (.exc c fs m) = .exc c fs m := rfl
@[simp] theorem cmpK_if (M : Sem) (o : CmpOp) (b : E) (ρ : List D) (pp : Prop) [Decidable pp] (aa bb : R (D)) : cmpK M o b ρ (if pp then aa else bb) = if pp then cmpK M o b ρ aa else cmpK M o b ρ bb := by split <;> rfl
@[simp] theorem cmp2K_ok (o : CmpOp) (x : D) (y : D) (m : List Cell) : cmp2K o x (.ok y m) = R.of (cmpD o (res m x) (res m y)) m := rfl
@[simp] theorem cmp2K_exc (o : CmpOp) (x : D) (c : Nat) (fs : List (Str × D)) (m : List Cell) : cmp2K o x (.exc c fs m) = .exc c fs m := rfl
@[simp] theorem cmp2K_if (o : CmpOp) (x : D) (pp : Prop) [Decidable pp] (aa bb : R (D)) : cmp2K o x (if pp then aa else bb) = if pp then cmp2K o x aa else cmp2K o x bb := by split <;> rfl
@[simp] theorem negK_ok  (x : D) (m : List Cell) : negK  (.ok x m) = R.of (negD (res m x)) m := rfl
@[simp] theorem negK_exc  (c : Nat) (fs : List (Str × D)) (m : List Cell) : negK  (.exc c fs m) = .exc c fs m := rfl
@[simp] theorem negK_if  (pp : Prop) [Decidable pp] (aa bb : R (D)) : negK  (if pp then aa else bb) = if pp then negK  aa else negK  bb := by split <;> rfl
@[simp] theorem c31K_ok (M : Sem) (o p q : CmpOp) (b d e : E) (ρ : List D) (x : D) (m : List Cell) : c31K M o p q b d e ρ (.ok x m) = c32K M o p q d e ρ x (evE M b ρ m) := rfl
@[simp] theorem c31K_exc (M : Sem) (o p q : CmpOp) (b d e : E) (ρ : List D) (c : Nat) (fs : List (Str × D)) (m : List Cell) : c31K M o p q b d e ρ (.exc c fs m) = .exc c fs m := rfl
@[simp] theorem c31K_if (M : Sem) (o p q : CmpOp) (b d e : E) (ρ : List D) (pp : Prop) [Decidable pp] (aa bb : R (D)) : c31K M o p q b d e ρ (if pp then aa else bb) = if pp then c31K M o p q b d e ρ aa else c31K M o p q b d e ρ bb := by split <;> rfl
@[simp] theorem c32K_ok (M : Sem) (o p q : CmpOp) (d e : E) (ρ : List D) (x y : D) (m : List Cell) : c32K M o p q d e ρ x (.ok y m) = c33K M p q d e ρ y (R.of (cmpD o (res m x) (res m y)) m) := rfl
@[simp] theorem c32K_exc (M : Sem) (o p q : CmpOp) (d e : E) (ρ : List D) (x : D) (c : Nat) (fs : List (Str × D)) (m : List Cell) : c32K M o p q d e ρ x (.exc c fs m) = .exc c fs m := rfl
@[simp] theorem c32K_if (M : Sem) (o p q : CmpOp) (d e : E) (ρ : List D) (x : D) (pp : Prop) [Decidable pp] (aa bb : R (D)) : c32K M o p q d e ρ x (if pp then aa else bb) = if pp then c32K M o p q d e ρ x aa else c32K M o p q d e ρ x bb := by split <;> rfl
@[simp] theorem c33K_ok (M : Sem) (p q : CmpOp) (d e : E) (ρ : List D) (y : D) (k : Bool) (m : List Cell) : c33K M p q d e ρ y (.ok (.bl k) m) = if k = true then ch2K M p q e ρ y (evE M d ρ m) else .ok (.bl false) m := rfl
@[simp] theorem c33K_exc (M : Sem) (p q : CmpOp) (d e : E) (ρ : List D) (y : D) (c : Nat) (fs : List (Str × D)) (m : List Cell) : c33K M p q d e ρ y (.exc c fs m) = .exc c fs m := rfl
@[simp] theorem c33K_if (M : Sem) (p q : CmpOp) (d e : E) (ρ : List D) (y : D) (pp : Prop) [Decidable pp] (aa bb : R (D)) : c33K M p q d e ρ y (if pp then aa else bb) = if pp then c33K M p q d e ρ y aa else c33K M p q d e ρ y bb := by split <;> rfl
@[simp] theorem chK_ok (M : Sem) (o : CmpOp) (p : CmpOp) (b : E) (d : E) (ρ : List D) (x : D) (m : List Cell) : chK M o p b d ρ (.ok x m) = ch2K M o p d ρ x (evE M b ρ m) := rfl
@[simp] theorem chK_exc (M : Sem) (o : CmpOp) (p : CmpOp) (b : E) (d : E) (ρ : List D) (c : Nat) (fs : List (Str × D)) (m : List Cell) : chK M o p b d ρ (.exc c fs m) = .exc c fs m := rfl
@[simp] theorem chK_if (M : Sem) (o : CmpOp) (p : CmpOp) (b : E) (d : E) (ρ : List D) (pp : Prop) [Decidable pp] (aa bb : R (D)) : chK M o p b d ρ (if pp then aa else bb) = if pp then chK M o p b d ρ aa else chK M o p b d ρ bb := by split <;> rfl
@[simp] theorem ch2K_ok (M : Sem) (o : CmpOp) (p : CmpOp) (d : E) (ρ : List D) (x : D) (y : D) (m : List Cell) : ch2K M o p d ρ x (.ok y m) = ch3K M p d ρ y (R.of (cmpD o (res m x) (res m y)) m) := rfl
@[simp] theorem ch2K_exc (M : Sem) (o : CmpOp) (p : CmpOp) (d : E) (ρ : List D) (x : D) (c : Nat) (fs : List (Str × D)) (m : List Cell) : ch2K M o p d ρ x (.exc c fs m) = .exc c fs m := rfl
@[simp] theorem ch2K_if (M : Sem) (o : CmpOp) (p : CmpOp) (d : E) (ρ : List D) (x : D) (pp : Prop) [Decidable pp] (aa bb : R (D)) : ch2K M o p d ρ x (if pp then aa else bb) = if pp then ch2K M o p d ρ x aa else ch2K M o p d ρ x bb := by split <;> rfl
@[simp] theorem ch3K_ok (M : Sem) (p : CmpOp) (d : E) (ρ : List D) (y : D) (k : Bool) (m : List Cell) : ch3K M p d ρ y (.ok (.bl k) m) = if k = true then ch4K p y (evE M d ρ m) else .ok (.bl false) m := rfl
@[simp] theorem ch3K_exc (M : Sem) (p : CmpOp) (d : E) (ρ : List D) (y : D) (c : Nat) (fs : List (Str × D)) (m : List Cell) : ch3K M p d ρ y (.exc c fs m) = .exc c fs m := rfl
@[simp] theorem ch3K_if (M : Sem) (p : CmpOp) (d : E) (ρ : List D) (y : D) (pp : Prop) [Decidable pp] (aa bb : R (D)) : ch3K M p d ρ y (if pp then aa else bb) = if pp then ch3K M p d ρ y aa else ch3K M p d ρ y bb := by split <;> rfl
@[simp] theorem ch4K_ok (p : CmpOp) (y : D) (w : D) (m : List Cell) : ch4K p y (.ok w m) = R.of (cmpD p (res m y) (res m w)) m := rfl
@[simp] theorem ch4K_exc (p : CmpOp) (y : D) (c : Nat) (fs : List (Str × D)) (m : List Cell) : ch4K p y (.exc c fs m) = .exc c fs m := rfl
@[simp] theorem ch4K_if (p : CmpOp) (y : D) (pp : Prop) [Decidable pp] (aa bb : R (D)) : ch4K p y (if pp then aa else bb) = if pp then ch4K p y aa else ch4K p y bb := by split <;> rfl
@[simp] theorem andK_ok (M : Sem) (l : List E) (ρ : List D) (k : Bool) (m : List Cell) : andK M l ρ (.ok (.bl k) m) = if k = true then evAnd M l ρ m else .ok (.bl false) m := rfl
@[simp] theorem andK_exc (M : Sem) (l : List E) (ρ : List D) (c : Nat) (fs : List (Str × D)) (m : List Cell) : andK M l ρ (.exc c fs m) = .exc c fs m := rfl
@[simp] theorem andK_if (M : Sem) (l : List E) (ρ : List D) (pp : Prop) [Decidable pp] (aa bb : R (D)) : andK M l ρ (if pp then aa else bb) = if pp then andK M l ρ aa else andK M l ρ bb := by split <;> rfl
@[simp] theorem orK_ok (M : Sem) (l : List E) (ρ : List D) (k : Bool) (m : List Cell) : orK M l ρ (.ok (.bl k) m) = if k = true then .ok (.bl true) m else evOr M l ρ m := rfl
@[simp] theorem orK_exc (M : Sem) (l : List E) (ρ : List D) (c : Nat) (fs : List (Str × D)) (m : List Cell) : orK M l ρ (.exc c fs m) = .exc c fs m := rfl
@[simp] theorem orK_if (M : Sem) (l : List E) (ρ : List D) (pp : Prop) [Decidable pp] (aa bb : R (D)) : orK M l ρ (if pp then aa else bb) = if pp then orK M l ρ aa else orK M l ρ bb := by split <;> rfl
@[simp] theorem notK_ok  (k : Bool) (m : List Cell) : notK  (.ok (.bl k) m) = .ok (.bl (!k)) m := rfl
@[simp] theorem notK_exc  (c : Nat) (fs : List (Str × D)) (m : List Cell) : notK  (.exc c fs m) = .exc c fs m := rfl
@[simp] theorem notK_if  (pp : Prop) [Decidable pp] (aa bb : R (D)) : notK  (if pp then aa else bb) = if pp then notK  aa else notK  bb := by split <;> rfl
@[simp] theorem tupK_ok  (xs : List D) (m : List Cell) : tupK  (.ok xs m) = R.of (mkTup xs) m := rfl
@[simp] theorem tupK_exc  (c : Nat) (fs : List (Str × D)) (m : List Cell) : tupK  (.exc c fs m) = .exc c fs m := rfl
@[simp] theorem tupK_if  (pp : Prop) [Decidable pp] (aa bb : R (List D)) : tupK  (if pp then aa else bb) = if pp then tupK  aa else tupK  bb := by split <;> rfl
@[simp] theorem lstK_ok  (xs : List D) (m : List Cell) : lstK  (.ok xs m) = R.of (mkLst xs) m := rfl
@[simp] theorem lstK_exc  (c : Nat) (fs : List (Str × D)) (m : List Cell) : lstK  (.exc c fs m) = .exc c fs m := rfl
@[simp] theorem lstK_if  (pp : Prop) [Decidable pp] (aa bb : R (List D)) : lstK  (if pp then aa else bb) = if pp then lstK  aa else lstK  bb := by split <;> rfl
@[simp] theorem consK_ok (M : Sem) (l : List E) (ρ : List D) (x : D) (m : List Cell) : consK M l ρ (.ok x m) = cons2K x (evL M l ρ m) := rfl
@[simp] theorem consK_exc (M : Sem) (l : List E) (ρ : List D) (c : Nat) (fs : List (Str × D)) (m : List Cell) : consK M l ρ (.exc c fs m) = .exc c fs m := rfl
@[simp] theorem consK_if (M : Sem) (l : List E) (ρ : List D) (pp : Prop) [Decidable pp] (aa bb : R (D)) : consK M l ρ (if pp then aa else bb) = if pp then consK M l ρ aa else consK M l ρ bb := by split <;> rfl
@[simp] theorem cons2K_ok (x : D) (xs : List D) (m : List Cell) : cons2K x (.ok xs m) = .ok (x :: xs) m := rfl
@[simp] theorem cons2K_exc (x : D) (c : Nat) (fs : List (Str × D)) (m : List Cell) : cons2K x (.exc c fs m) = .exc c fs m := rfl
@[simp] theorem cons2K_if (x : D) (pp : Prop) [Decidable pp] (aa bb : R (List D)) : cons2K x (if pp then aa else bb) = if pp then cons2K x aa else cons2K x bb := by split <;> rfl
@[simp] theorem idxK_ok (M : Sem) (b : E) (ρ : List D) (x : D) (m : List Cell) : idxK M b ρ (.ok x m) = idx2K x (evE M b ρ m) := rfl
@[simp] theorem idxK_exc (M : Sem) (b : E) (ρ : List D) (c : Nat) (fs : List (Str × D)) (m : List Cell) : idxK M b ρ (.exc c fs m) = .exc c fs m := rfl
@[simp] theorem idxK_if (M : Sem) (b : E) (ρ : List D) (pp : Prop) [Decidable pp] (aa bb : R (D)) : idxK M b ρ (if pp then aa else bb) = if pp then idxK M b ρ aa else idxK M b ρ bb := by split <;> rfl
@[simp] theorem idx2K_ok (x : D) (y : D) (m : List Cell) : idx2K x (.ok y m) = R.of (idxD (res m x) (res m y)) m := rfl
@[simp] theorem idx2K_exc (x : D) (c : Nat) (fs : List (Str × D)) (m : List Cell) : idx2K x (.exc c fs m) = .exc c fs m := rfl
@[simp] theorem idx2K_if (x : D) (pp : Prop) [Decidable pp] (aa bb : R (D)) : idx2K x (if pp then aa else bb) = if pp then idx2K x aa else idx2K x bb := by split <;> rfl
@[simp] theorem slcK_ok (M : Sem) (lo : Option E) (hi : Option E) (ρ : List D) (x : D) (m : List Cell) : slcK M lo hi ρ (.ok x m) = slc2K M hi ρ x (evO M lo ρ m) := rfl
@[simp] theorem slcK_exc (M : Sem) (lo : Option E) (hi : Option E) (ρ : List D) (c : Nat) (fs : List (Str × D)) (m : List Cell) : slcK M lo hi ρ (.exc c fs m) = .exc c fs m := rfl
@[simp] theorem slcK_if (M : Sem) (lo : Option E) (hi : Option E) (ρ : List D) (pp : Prop) [Decidable pp] (aa bb : R (D)) : slcK M lo hi ρ (if pp then aa else bb) = if pp then slcK M lo hi ρ aa else slcK M lo hi ρ bb := by split <;> rfl
@[simp] theorem slc2K_ok (M : Sem) (hi : Option E) (ρ : List D) (x : D) (l : Option Int) (m : List Cell) : slc2K M hi ρ x (.ok l m) = slc3K x l (evO M hi ρ m) := rfl
@[simp] theorem slc2K_exc (M : Sem) (hi : Option E) (ρ : List D) (x : D) (c : Nat) (fs : List (Str × D)) (m : List Cell) : slc2K M hi ρ x (.exc c fs m) = .exc c fs m := rfl
@[simp] theorem slc2K_if (M : Sem) (hi : Option E) (ρ : List D) (x : D) (pp : Prop) [Decidable pp] (aa bb : R (Option Int)) : slc2K M hi ρ x (if pp then aa else bb) = if pp then slc2K M hi ρ x aa else slc2K M hi ρ x bb := by split <;> rfl
@[simp] theorem slc3K_ok (x : D) (l : Option Int) (u : Option Int) (m : List Cell) : slc3K x l (.ok u m) = R.of (slcD (res m x) l u) m := rfl
@[simp] theorem slc3K_exc (x : D) (l : Option Int) (c : Nat) (fs : List (Str × D)) (m : List Cell) : slc3K x l (.exc c fs m) = .exc c fs m := rfl
@[simp] theorem slc3K_if (x : D) (l : Option Int) (pp : Prop) [Decidable pp] (aa bb : R (Option Int)) : slc3K x l (if pp then aa else bb) = if pp then slc3K x l aa else slc3K x l bb := by split <;> rfl
@[simp] theorem toIK_ok  (x : D) (m : List Cell) : toIK  (.ok x m) = toI x m := rfl
@[simp] theorem toIK_exc  (c : Nat) (fs : List (Str × D)) (m : List Cell) : toIK  (.exc c fs m) = .exc c fs m := rfl
@[simp] theorem toIK_if  (pp : Prop) [Decidable pp] (aa bb : R (D)) : toIK  (if pp then aa else bb) = if pp then toIK  aa else toIK  bb := by split <;> rfl
@[simp] theorem purK_ok (Φ : List D → List Cell → R D) (xs : List D) (m : List Cell) : purK Φ (.ok xs m) = pur Φ xs m := rfl
@[simp] theorem purK_exc (Φ : List D → List Cell → R D) (c : Nat) (fs : List (Str × D)) (m : List Cell) : purK Φ (.exc c fs m) = .exc c fs m := rfl
@[simp] theorem purK_if (Φ : List D → List Cell → R D) (pp : Prop) [Decidable pp] (aa bb : R (List D)) : purK Φ (if pp then aa else bb) = if pp then purK Φ aa else purK Φ bb := by split <;> rfl
@[simp] theorem appK_ok (Φ : List D → List Cell → R D) (xs : List D) (m : List Cell) : appK Φ (.ok xs m) = Φ xs m := rfl
@[simp] theorem appK_exc (Φ : List D → List Cell → R D) (c : Nat) (fs : List (Str × D)) (m : List Cell) : appK Φ (.exc c fs m) = .exc c fs m := rfl
@[simp] theorem appK_if (Φ : List D → List Cell → R D) (pp : Prop) [Decidable pp] (aa bb : R (List D)) : appK Φ (if pp then aa else bb) = if pp then appK Φ aa else appK Φ bb := by split <;> rfl
@[simp] theorem dctK_ok (xs : List D) (m : List Cell) : dctK (.ok xs m) = R.of (dictDs (xs.map (res m))) m := rfl
@[simp] theorem dctK_exc (c : Nat) (fs : List (Str × D)) (m : List Cell) : dctK (.exc c fs m) = .exc c fs m := rfl
@[simp] theorem dget3K_ok (x y : D) (m : List Cell) : dget3K x (.ok y m) = R.of (dgetD (res m x) (res m y)) m := rfl
@[simp] theorem dget3K_exc (x : D) (c : Nat) (fs : List (Str × D)) (m : List Cell) : dget3K x (.exc c fs m) = .exc c fs m := rfl
@[simp] theorem dget2K_t (M : Sem) (b : E) (ρ : List D) (x : D) (m : List Cell) : dget2K M b ρ x m true = dget3K x (evE M b ρ m) := rfl
@[simp] theorem dgetK_ok (M : Sem) (b : E) (ρ : List D) (x : D) (m : List Cell) : dgetK M b ρ (.ok x m) = dget2K M b ρ x m (isDct (res m x)) := rfl
@[simp] theorem dgetK_exc (M : Sem) (b : E) (ρ : List D) (c : Nat) (fs : List (Str × D)) (m : List Cell) : dgetK M b ρ (.exc c fs m) = .exc c fs m := rfl
@[simp] theorem isDct_dct (l : List (Key × D)) : isDct (.dct l) = true := rfl
@[simp] theorem dget_i (l : List (Key × D)) (i : Int) : dgetD (.dct l) (.int i) = some ((lookK l (.inl i)).getD .non) := rfl
@[simp] theorem dget_s (l : List (Key × D)) (i : Str) : dgetD (.dct l) (.str i) = some ((lookK l (.inr i)).getD .non) := rfl
@[simp] theorem dictDs_1 (d : D) : dictDs [d] = dictD d := rfl
@[simp] theorem dictD_dct (l : List (Key × D)) : dictD (.dct l) = some (.dct l) := rfl
@[simp] theorem dictD_lst (l : List D) : dictD (.lst l) = (pairsD l).map fun kvs => .dct (mergeD [] kvs) := rfl
@[simp] theorem lkA_obj (M : Sem) (a : E) (i : Nat) (ρ : List D) (m : List Cell) (n : Nat) : lkA M a i ρ m (some (.obj n)) = lkB M a i ρ m n m[n]? := rfl
@[simp] theorem lkA_dct (M : Sem) (a : E) (i : Nat) (ρ : List D) (m : List Cell) (l : List (Key × D)) : lkA M a i ρ m (some (.dct l)) = evE M a ρ m := rfl
@[simp] theorem lkB_dct (M : Sem) (a : E) (i : Nat) (ρ : List D) (m : List Cell) (n : Nat) (l : List (Key × D)) : lkB M a i ρ m n (some (.dct l)) = lk3 m (m.set n .dead) (evE M a (ρ.set i (.dct l)) (m.set n .dead)) := rfl
@[simp] theorem lk3_ok (m m1 m' : List Cell) (d : D) : lk3 m m1 (.ok d m') = if (nodct d && m.all cellNd && cd (m' = m1)) = true then .ok d m else .stuck := rfl
theorem lk3_go {m m1 : List Cell} {d : D} (h : nodct d = true) (g : m.all cellNd = true) : lk3 m m1 (.ok d m1) = .ok d m := by
  rw [lk3_ok, h, g]
  simp
@[simp] theorem fnK_ok (n : String) (xs : List D) (m : List Cell) : fnK n (.ok xs m) = R.of (fnD n (xs.map (res m))) m := rfl
@[simp] theorem fnK_exc (n : String) (c : Nat) (fs : List (Str × D)) (m : List Cell) : fnK n (.exc c fs m) = .exc c fs m := rfl
@[simp] theorem fnK_if (n : String) (pp : Prop) [Decidable pp] (aa bb : R (List D)) : fnK n (if pp then aa else bb) = if pp then fnK n aa else fnK n bb := by split <;> rfl
@[simp] theorem tyK_ok (n : String) (xs : List D) (m : List Cell) : tyK n (.ok xs m) = R.of (tyD n (xs.map (res m))) m := rfl
@[simp] theorem tyK_exc (n : String) (c : Nat) (fs : List (Str × D)) (m : List Cell) : tyK n (.exc c fs m) = .exc c fs m := rfl
@[simp] theorem tyK_if (n : String) (pp : Prop) [Decidable pp] (aa bb : R (List D)) : tyK n (if pp then aa else bb) = if pp then tyK n aa else tyK n bb := by split <;> rfl
@[simp] theorem sidxK_ok (M : Sem) (b : E) (ρ : List D) (x : D) (m : List Cell) : sidxK M b ρ (.ok x m) = sidxR M b ρ x m := rfl
@[simp] theorem sidxK_exc (M : Sem) (b : E) (ρ : List D) (c : Nat) (fs : List (Str × D)) (m : List Cell) : sidxK M b ρ (.exc c fs m) = .exc c fs m := rfl
@[simp] theorem sidxK_if (M : Sem) (b : E) (ρ : List D) (pp : Prop) [Decidable pp] (aa bb : R (D)) : sidxK M b ρ (if pp then aa else bb) = if pp then sidxK M b ρ aa else sidxK M b ρ bb := by split <;> rfl
@[simp] theorem smK_ok (M : Sem) (n : String) (b : E) (ρ : List D) (x : D) (m : List Cell) : smK M n b ρ (.ok x m) = smR M n b ρ x m := rfl
@[simp] theorem smK_exc (M : Sem) (n : String) (b : E) (ρ : List D) (c : Nat) (fs : List (Str × D)) (m : List Cell) : smK M n b ρ (.exc c fs m) = .exc c fs m := rfl
@[simp] theorem smK_if (M : Sem) (n : String) (b : E) (ρ : List D) (pp : Prop) [Decidable pp] (aa bb : R (D)) : smK M n b ρ (if pp then aa else bb) = if pp then smK M n b ρ aa else smK M n b ρ bb := by split <;> rfl
@[simp] theorem sm2K_ok (n : String) (x : D) (y : D) (m : List Cell) : sm2K n x (.ok y m) = R.of (txmD n x (res m y)) m := rfl
@[simp] theorem sm2K_exc (n : String) (x : D) (c : Nat) (fs : List (Str × D)) (m : List Cell) : sm2K n x (.exc c fs m) = .exc c fs m := rfl
@[simp] theorem sm2K_if (n : String) (x : D) (pp : Prop) [Decidable pp] (aa bb : R (D)) : sm2K n x (if pp then aa else bb) = if pp then sm2K n x aa else sm2K n x bb := by split <;> rfl
@[simp] theorem sidx2K_ok (x : D) (y : D) (m : List Cell) : sidx2K x (.ok y m) = R.of (sidxD x y) m := rfl
@[simp] theorem sidx2K_exc (x : D) (c : Nat) (fs : List (Str × D)) (m : List Cell) : sidx2K x (.exc c fs m) = .exc c fs m := rfl
@[simp] theorem sidx2K_if (x : D) (pp : Prop) [Decidable pp] (aa bb : R (D)) : sidx2K x (if pp then aa else bb) = if pp then sidx2K x aa else sidx2K x bb := by split <;> rfl
@[simp] theorem bitsK_ok  (x : D) (m : List Cell) : bitsK  (.ok x m) = R.of (bitsD (res m x)) m := rfl
@[simp] theorem bitsK_exc  (c : Nat) (fs : List (Str × D)) (m : List Cell) : bitsK  (.exc c fs m) = .exc c fs m := rfl
@[simp] theorem bitsK_if  (pp : Prop) [Decidable pp] (aa bb : R (D)) : bitsK  (if pp then aa else bb) = if pp then bitsK  aa else bitsK  bb := by split <;> rfl
@[simp] theorem isAK_ok (t : String) (x : D) (m : List Cell) : isAK t (.ok x m) = R.of (isD t (res m x)) m := rfl
@[simp] theorem isAK_exc (t : String) (c : Nat) (fs : List (Str × D)) (m : List Cell) : isAK t (.exc c fs m) = .exc c fs m := rfl
@[simp] theorem isAK_if (t : String) (pp : Prop) [Decidable pp] (aa bb : R (D)) : isAK t (if pp then aa else bb) = if pp then isAK t aa else isAK t bb := by split <;> rfl
@[simp] theorem fldK_ok (T : Tab) (f : Str) (x : D) (m : List Cell) : fldK T f (.ok x m) = R.of (fldD T.fl f (res m x)) m := rfl
@[simp] theorem fldK_exc (T : Tab) (f : Str) (c : Nat) (fs : List (Str × D)) (m : List Cell) : fldK T f (.exc c fs m) = .exc c fs m := rfl
@[simp] theorem fldK_if (T : Tab) (f : Str) (pp : Prop) [Decidable pp] (aa bb : R (D)) : fldK T f (if pp then aa else bb) = if pp then fldK T f aa else fldK T f bb := by split <;> rfl
@[simp] theorem methK_ok (M : Sem) (pu : Bool) (f : Str) (l : List E) (ρ : List D) (x : D) (m : List Cell) : methK M pu f l ρ (.ok x m) = meth2K M pu l ρ x (R.of (pickM M.T.mt f (res m x)) m) := rfl
@[simp] theorem methK_exc (M : Sem) (pu : Bool) (f : Str) (l : List E) (ρ : List D) (c : Nat) (fs : List (Str × D)) (m : List Cell) : methK M pu f l ρ (.exc c fs m) = .exc c fs m := rfl
@[simp] theorem methK_if (M : Sem) (pu : Bool) (f : Str) (l : List E) (ρ : List D) (pp : Prop) [Decidable pp] (aa bb : R (D)) : methK M pu f l ρ (if pp then aa else bb) = if pp then methK M pu f l ρ aa else methK M pu f l ρ bb := by split <;> rfl
@[simp] theorem meth2K_ok (M : Sem) (pu : Bool) (l : List E) (ρ : List D) (x : D) (g : Nat) (m : List Cell) : meth2K M pu l ρ x (.ok g m) = meth3K M pu g x (evL M l ρ m) := rfl
@[simp] theorem meth2K_exc (M : Sem) (pu : Bool) (l : List E) (ρ : List D) (x : D) (c : Nat) (fs : List (Str × D)) (m : List Cell) : meth2K M pu l ρ x (.exc c fs m) = .exc c fs m := rfl
@[simp] theorem meth2K_if (M : Sem) (pu : Bool) (l : List E) (ρ : List D) (x : D) (pp : Prop) [Decidable pp] (aa bb : R (Nat)) : meth2K M pu l ρ x (if pp then aa else bb) = if pp then meth2K M pu l ρ x aa else meth2K M pu l ρ x bb := by split <;> rfl
@[simp] theorem meth3K_ok (M : Sem) (pu : Bool) (g : Nat) (x : D) (xs : List D) (m : List Cell) : meth3K M pu g x (.ok xs m) = GS.app pu (M.Φ g) (x :: xs) m := rfl
@[simp] theorem meth3K_exc (M : Sem) (pu : Bool) (g : Nat) (x : D) (c : Nat) (fs : List (Str × D)) (m : List Cell) : meth3K M pu g x (.exc c fs m) = .exc c fs m := rfl
@[simp] theorem meth3K_if (M : Sem) (pu : Bool) (g : Nat) (x : D) (pp : Prop) [Decidable pp] (aa bb : R (List D)) : meth3K M pu g x (if pp then aa else bb) = if pp then meth3K M pu g x aa else meth3K M pu g x bb := by split <;> rfl
@[simp] theorem makeK_ok (M : Sem) (cl : Nat) (xs : List D) (m : List Cell) : makeK M cl (.ok xs m) = asNewK m.length (M.Φ (M.T.ini cl) (.obj m.length :: xs) (m ++ [.ins cl []])) := rfl
@[simp] theorem makeK_exc (M : Sem) (cl : Nat) (c : Nat) (fs : List (Str × D)) (m : List Cell) : makeK M cl (.exc c fs m) = .exc c fs m := rfl
@[simp] theorem makeK_if (M : Sem) (cl : Nat) (pp : Prop) [Decidable pp] (aa bb : R (List D)) : makeK M cl (if pp then aa else bb) = if pp then makeK M cl aa else makeK M cl bb := by split <;> rfl
@[simp] theorem asNewK_ok (n : Nat) (x : D) (m : List Cell) : asNewK n (.ok x m) = asNew n x m := rfl
@[simp] theorem asNewK_exc (n : Nat) (c : Nat) (fs : List (Str × D)) (m : List Cell) : asNewK n (.exc c fs m) = .exc c fs m := rfl
@[simp] theorem asNewK_if (n : Nat) (pp : Prop) [Decidable pp] (aa bb : R (D)) : asNewK n (if pp then aa else bb) = if pp then asNewK n aa else asNewK n bb := by split <;> rfl
@[simp] theorem popK_ok  (x : D) (m : List Cell) : popK  (.ok x m) = pop2K (R.of (lstAt m x) m) := rfl
@[simp] theorem popK_exc  (c : Nat) (fs : List (Str × D)) (m : List Cell) : popK  (.exc c fs m) = .exc c fs m := rfl
@[simp] theorem popK_if  (pp : Prop) [Decidable pp] (aa bb : R (D)) : popK  (if pp then aa else bb) = if pp then popK  aa else popK  bb := by split <;> rfl
@[simp] theorem pop2K_ok  (nl : Nat × List D) (m : List Cell) : pop2K  (.ok nl m) = pop3K nl (R.of nl.2[nl.2.length - 1]? m) := rfl
@[simp] theorem pop2K_exc  (c : Nat) (fs : List (Str × D)) (m : List Cell) : pop2K  (.exc c fs m) = .exc c fs m := rfl
@[simp] theorem pop2K_if  (pp : Prop) [Decidable pp] (aa bb : R (Nat × List D)) : pop2K  (if pp then aa else bb) = if pp then pop2K  aa else pop2K  bb := by split <;> rfl
@[simp] theorem pop3K_ok (nl : Nat × List D) (y : D) (m : List Cell) : pop3K nl (.ok y m) = .ok y (m.set nl.1 (.lst nl.2.dropLast)) := rfl
@[simp] theorem pop3K_exc (nl : Nat × List D) (c : Nat) (fs : List (Str × D)) (m : List Cell) : pop3K nl (.exc c fs m) = .exc c fs m := rfl
@[simp] theorem pop3K_if (nl : Nat × List D) (pp : Prop) [Decidable pp] (aa bb : R (D)) : pop3K nl (if pp then aa else bb) = if pp then pop3K nl aa else pop3K nl bb := by split <;> rfl
@[simp] theorem ownK_ok  (x : D) (m : List Cell) : ownK  (.ok x m) = ownR x m := rfl
@[simp] theorem ownK_exc  (c : Nat) (fs : List (Str × D)) (m : List Cell) : ownK  (.exc c fs m) = .exc c fs m := rfl
@[simp] theorem ownK_if  (pp : Prop) [Decidable pp] (aa bb : R (D)) : ownK  (if pp then aa else bb) = if pp then ownK  aa else ownK  bb := by split <;> rfl
@[simp] theorem frzK_ok  (x : D) (m : List Cell) : frzK  (.ok x m) = frzR x m := rfl
@[simp] theorem frzK_exc  (c : Nat) (fs : List (Str × D)) (m : List Cell) : frzK  (.exc c fs m) = .exc c fs m := rfl
@[simp] theorem frzK_if  (pp : Prop) [Decidable pp] (aa bb : R (D)) : frzK  (if pp then aa else bb) = if pp then frzK  aa else frzK  bb := by split <;> rfl
@[simp] theorem rng1K_ok  (x : D) (m : List Cell) : rng1K  (.ok x m) = R.of (rng1D (res m x)) m := rfl
@[simp] theorem rng1K_exc  (c : Nat) (fs : List (Str × D)) (m : List Cell) : rng1K  (.exc c fs m) = .exc c fs m := rfl
@[simp] theorem rng1K_if  (pp : Prop) [Decidable pp] (aa bb : R (D)) : rng1K  (if pp then aa else bb) = if pp then rng1K  aa else rng1K  bb := by split <;> rfl
@[simp] theorem rngdK_ok (M : Sem) (b : E) (ρ : List D) (x : D) (m : List Cell) : rngdK M b ρ (.ok x m) = rngd2K x (evE M b ρ m) := rfl
@[simp] theorem rngdK_exc (M : Sem) (b : E) (ρ : List D) (c : Nat) (fs : List (Str × D)) (m : List Cell) : rngdK M b ρ (.exc c fs m) = .exc c fs m := rfl
@[simp] theorem rngdK_if (M : Sem) (b : E) (ρ : List D) (pp : Prop) [Decidable pp] (aa bb : R (D)) : rngdK M b ρ (if pp then aa else bb) = if pp then rngdK M b ρ aa else rngdK M b ρ bb := by split <;> rfl
@[simp] theorem rngd2K_ok (x : D) (y : D) (m : List Cell) : rngd2K x (.ok y m) = R.of (rngdD (res m x) (res m y)) m := rfl
@[simp] theorem rngd2K_exc (x : D) (c : Nat) (fs : List (Str × D)) (m : List Cell) : rngd2K x (.exc c fs m) = .exc c fs m := rfl
@[simp] theorem rngd2K_if (x : D) (pp : Prop) [Decidable pp] (aa bb : R (D)) : rngd2K x (if pp then aa else bb) = if pp then rngd2K x aa else rngd2K x bb := by split <;> rfl
@[simp] theorem rng2K_ok (M : Sem) (b : E) (ρ : List D) (x : D) (m : List Cell) : rng2K M b ρ (.ok x m) = rng3K x (evE M b ρ m) := rfl
@[simp] theorem rng2K_exc (M : Sem) (b : E) (ρ : List D) (c : Nat) (fs : List (Str × D)) (m : List Cell) : rng2K M b ρ (.exc c fs m) = .exc c fs m := rfl
@[simp] theorem rng2K_if (M : Sem) (b : E) (ρ : List D) (pp : Prop) [Decidable pp] (aa bb : R (D)) : rng2K M b ρ (if pp then aa else bb) = if pp then rng2K M b ρ aa else rng2K M b ρ bb := by split <;> rfl
@[simp] theorem rng3K_ok (x : D) (y : D) (m : List Cell) : rng3K x (.ok y m) = R.of (rng2D (res m x) (res m y)) m := rfl
@[simp] theorem rng3K_exc (x : D) (c : Nat) (fs : List (Str × D)) (m : List Cell) : rng3K x (.exc c fs m) = .exc c fs m := rfl
@[simp] theorem rng3K_if (x : D) (pp : Prop) [Decidable pp] (aa bb : R (D)) : rng3K x (if pp then aa else bb) = if pp then rng3K x aa else rng3K x bb := by split <;> rfl
@[simp] theorem zipK_ok (M : Sem) (b : E) (ρ : List D) (x : D) (m : List Cell) : zipK M b ρ (.ok x m) = zip2K x (evE M b ρ m) := rfl
@[simp] theorem zipK_exc (M : Sem) (b : E) (ρ : List D) (c : Nat) (fs : List (Str × D)) (m : List Cell) : zipK M b ρ (.exc c fs m) = .exc c fs m := rfl
@[simp] theorem zipK_if (M : Sem) (b : E) (ρ : List D) (pp : Prop) [Decidable pp] (aa bb : R (D)) : zipK M b ρ (if pp then aa else bb) = if pp then zipK M b ρ aa else zipK M b ρ bb := by split <;> rfl
@[simp] theorem zip2K_ok (x : D) (y : D) (m : List Cell) : zip2K x (.ok y m) = R.of (zipD x y) m := rfl
@[simp] theorem zip2K_exc (x : D) (c : Nat) (fs : List (Str × D)) (m : List Cell) : zip2K x (.exc c fs m) = .exc c fs m := rfl
@[simp] theorem zip2K_if (x : D) (pp : Prop) [Decidable pp] (aa bb : R (D)) : zip2K x (if pp then aa else bb) = if pp then zip2K x aa else zip2K x bb := by split <;> rfl
@[simp] theorem srcK_ok  (x : D) (m : List Cell) : srcK  (.ok x m) = srcD x m := rfl
@[simp] theorem srcK_exc  (c : Nat) (fs : List (Str × D)) (m : List Cell) : srcK  (.exc c fs m) = .exc c fs m := rfl
@[simp] theorem srcK_if  (pp : Prop) [Decidable pp] (aa bb : R (D)) : srcK  (if pp then aa else bb) = if pp then srcK  aa else srcK  bb := by split <;> rfl
theorem cmpK1_ok (M : Sem) (t : Tg) (own : List Nat) (ifs : Option E) (el : E) (ρ : List D) (ds : List D × Keep) (m : List Cell) : cmpK1 M t own ifs el ρ (.ok ds m) = lcK (limR ds.1.length (compR t (evIf M ifs) (evE M el) (wipeR ρ own) ds.2 ds.1 m)) := rfl
@[simp] theorem cmpK1_exc (M : Sem) (t : Tg) (own : List Nat) (ifs : Option E) (el : E) (ρ : List D) (c : Nat) (fs : List (Str × D)) (m : List Cell) : cmpK1 M t own ifs el ρ (.exc c fs m) = .exc c fs m := rfl
@[simp] theorem cmpK1_if (M : Sem) (t : Tg) (own : List Nat) (ifs : Option E) (el : E) (ρ : List D) (pp : Prop) [Decidable pp] (aa bb : R (List D × Keep)) : cmpK1 M t own ifs el ρ (if pp then aa else bb) = if pp then cmpK1 M t own ifs el ρ aa else cmpK1 M t own ifs el ρ bb := by split <;> rfl
@[simp] theorem lcK_ok  (ys : List D) (m : List Cell) : lcK  (.ok ys m) = R.of (mkLst ys) m := rfl
@[simp] theorem lcK_exc  (c : Nat) (fs : List (Str × D)) (m : List Cell) : lcK  (.exc c fs m) = .exc c fs m := rfl
@[simp] theorem lcK_if  (pp : Prop) [Decidable pp] (aa bb : R (List D)) : lcK  (if pp then aa else bb) = if pp then lcK  aa else lcK  bb := by split <;> rfl
@[simp] theorem asgK_ok (ρ : List D) (i : Nat) (x : D) (m : List Cell) : asgK ρ i (.ok x m) = .nx (ρ.set i x) m := rfl
@[simp] theorem asgK_exc (ρ : List D) (i : Nat) (c : Nat) (fs : List (Str × D)) (m : List Cell) : asgK ρ i (.exc c fs m) = .exc c fs ρ m := rfl
@[simp] theorem asgK_if (ρ : List D) (i : Nat) (pp : Prop) [Decidable pp] (aa bb : R (D)) : asgK ρ i (if pp then aa else bb) = if pp then asgK ρ i aa else asgK ρ i bb := by split <;> rfl
@[simp] theorem mnyK_ok (ρ : List D) (is : List Nat) (x : D) (m : List Cell) : mnyK ρ is (.ok x m) = mny2K ρ (R.of (bindT (.many is) x ρ) m) := rfl
@[simp] theorem mnyK_exc (ρ : List D) (is : List Nat) (c : Nat) (fs : List (Str × D)) (m : List Cell) : mnyK ρ is (.exc c fs m) = .exc c fs ρ m := rfl
@[simp] theorem mnyK_if (ρ : List D) (is : List Nat) (pp : Prop) [Decidable pp] (aa bb : R (D)) : mnyK ρ is (if pp then aa else bb) = if pp then mnyK ρ is aa else mnyK ρ is bb := by split <;> rfl
@[simp] theorem mny2K_ok (ρ : List D) (r : List D) (m : List Cell) : mny2K ρ (.ok r m) = .nx r m := rfl
@[simp] theorem mny2K_exc (ρ : List D) (c : Nat) (fs : List (Str × D)) (m : List Cell) : mny2K ρ (.exc c fs m) = .exc c fs ρ m := rfl
@[simp] theorem mny2K_if (ρ : List D) (pp : Prop) [Decidable pp] (aa bb : R (List D)) : mny2K ρ (if pp then aa else bb) = if pp then mny2K ρ aa else mny2K ρ bb := by split <;> rfl
@[simp] theorem parK_ok (ρ : List D) (M : Sem) (i : Nat) (j : Nat) (b : E) (x : D) (m : List Cell) : parK ρ M i j b (.ok x m) = par2K ρ i j x (evE M b ρ m) := rfl
@[simp] theorem parK_exc (ρ : List D) (M : Sem) (i : Nat) (j : Nat) (b : E) (c : Nat) (fs : List (Str × D)) (m : List Cell) : parK ρ M i j b (.exc c fs m) = .exc c fs ρ m := rfl
@[simp] theorem parK_if (ρ : List D) (M : Sem) (i : Nat) (j : Nat) (b : E) (pp : Prop) [Decidable pp] (aa bb : R (D)) : parK ρ M i j b (if pp then aa else bb) = if pp then parK ρ M i j b aa else parK ρ M i j b bb := by split <;> rfl
@[simp] theorem par2K_ok (ρ : List D) (i : Nat) (j : Nat) (x : D) (y : D) (m : List Cell) : par2K ρ i j x (.ok y m) = .nx ((ρ.set i x).set j y) m := rfl
@[simp] theorem par2K_exc (ρ : List D) (i : Nat) (j : Nat) (x : D) (c : Nat) (fs : List (Str × D)) (m : List Cell) : par2K ρ i j x (.exc c fs m) = .exc c fs ρ m := rfl
@[simp] theorem par2K_if (ρ : List D) (i : Nat) (j : Nat) (x : D) (pp : Prop) [Decidable pp] (aa bb : R (D)) : par2K ρ i j x (if pp then aa else bb) = if pp then par2K ρ i j x aa else par2K ρ i j x bb := by split <;> rfl
@[simp] theorem augK_ok (ρ : List D) (M : Sem) (o : Operator) (i : Nat) (e : E) (x : D) (m : List Cell) : augK ρ M o i e (.ok x m) = aug2K ρ o i x (evE M e ρ m) := rfl
@[simp] theorem augK_exc (ρ : List D) (M : Sem) (o : Operator) (i : Nat) (e : E) (c : Nat) (fs : List (Str × D)) (m : List Cell) : augK ρ M o i e (.exc c fs m) = .exc c fs ρ m := rfl
@[simp] theorem augK_if (ρ : List D) (M : Sem) (o : Operator) (i : Nat) (e : E) (pp : Prop) [Decidable pp] (aa bb : R (D)) : augK ρ M o i e (if pp then aa else bb) = if pp then augK ρ M o i e aa else augK ρ M o i e bb := by split <;> rfl
@[simp] theorem aug2K_ok (ρ : List D) (o : Operator) (i : Nat) (x : D) (y : D) (m : List Cell) : aug2K ρ o i x (.ok y m) = asgK ρ i (R.of (augD o x y) m) := rfl
@[simp] theorem aug2K_exc (ρ : List D) (o : Operator) (i : Nat) (x : D) (c : Nat) (fs : List (Str × D)) (m : List Cell) : aug2K ρ o i x (.exc c fs m) = .exc c fs ρ m := rfl
@[simp] theorem aug2K_if (ρ : List D) (o : Operator) (i : Nat) (x : D) (pp : Prop) [Decidable pp] (aa bb : R (D)) : aug2K ρ o i x (if pp then aa else bb) = if pp then aug2K ρ o i x aa else aug2K ρ o i x bb := by split <;> rfl
@[simp] theorem exprK_ok (ρ : List D) (x : D) (m : List Cell) : exprK ρ (.ok x m) = .nx ρ m := rfl
@[simp] theorem exprK_exc (ρ : List D) (c : Nat) (fs : List (Str × D)) (m : List Cell) : exprK ρ (.exc c fs m) = .exc c fs ρ m := rfl
@[simp] theorem exprK_if (ρ : List D) (pp : Prop) [Decidable pp] (aa bb : R (D)) : exprK ρ (if pp then aa else bb) = if pp then exprK ρ aa else exprK ρ bb := by split <;> rfl
@[simp] theorem retK_ok (ρ : List D) (x : D) (m : List Cell) : retK ρ (.ok x m) = .rt x m := rfl
@[simp] theorem retK_exc (ρ : List D) (c : Nat) (fs : List (Str × D)) (m : List Cell) : retK ρ (.exc c fs m) = .exc c fs ρ m := rfl
@[simp] theorem retK_if (ρ : List D) (pp : Prop) [Decidable pp] (aa bb : R (D)) : retK ρ (if pp then aa else bb) = if pp then retK ρ aa else retK ρ bb := by split <;> rfl
@[simp] theorem iteK_ok (ρ : List D) (M : Sem) (a : List S) (b : List S) (k : Bool) (m : List Cell) : iteK ρ M a b (.ok (.bl k) m) = if k = true then evB M a ρ m else evB M b ρ m := rfl
@[simp] theorem iteK_exc (ρ : List D) (M : Sem) (a : List S) (b : List S) (c : Nat) (fs : List (Str × D)) (m : List Cell) : iteK ρ M a b (.exc c fs m) = .exc c fs ρ m := rfl
@[simp] theorem iteK_if (ρ : List D) (M : Sem) (a : List S) (b : List S) (pp : Prop) [Decidable pp] (aa bb : R (D)) : iteK ρ M a b (if pp then aa else bb) = if pp then iteK ρ M a b aa else iteK ρ M a b bb := by split <;> rfl
@[simp] theorem loopK_ok (ρ : List D) (M : Sem) (t : Tg) (b : List S) (ds : List D × Keep) (m : List Cell) : loopK ρ M t b (.ok ds m) = loopS t (evB M b) ds.2 ds.1 ρ m := rfl
@[simp] theorem loopK_exc (ρ : List D) (M : Sem) (t : Tg) (b : List S) (c : Nat) (fs : List (Str × D)) (m : List Cell) : loopK ρ M t b (.exc c fs m) = .exc c fs ρ m := rfl
@[simp] theorem loopK_if (ρ : List D) (M : Sem) (t : Tg) (b : List S) (pp : Prop) [Decidable pp] (aa bb : R (List D × Keep)) : loopK ρ M t b (if pp then aa else bb) = if pp then loopK ρ M t b aa else loopK ρ M t b bb := by split <;> rfl
@[simp] theorem sappK_ok (ρ : List D) (M : Sem) (e : E) (x : D) (m : List Cell) : sappK ρ M e (.ok x m) = sapp2K ρ M e x (R.of (lstAt m x) m) := rfl
@[simp] theorem sappK_exc (ρ : List D) (M : Sem) (e : E) (c : Nat) (fs : List (Str × D)) (m : List Cell) : sappK ρ M e (.exc c fs m) = .exc c fs ρ m := rfl
@[simp] theorem sappK_if (ρ : List D) (M : Sem) (e : E) (pp : Prop) [Decidable pp] (aa bb : R (D)) : sappK ρ M e (if pp then aa else bb) = if pp then sappK ρ M e aa else sappK ρ M e bb := by split <;> rfl
@[simp] theorem sapp2K_ok (ρ : List D) (M : Sem) (e : E) (x : D) (nl : Nat × List D) (m : List Cell) : sapp2K ρ M e x (.ok nl m) = sapp3K ρ x (evE M e ρ m) := rfl
@[simp] theorem sapp2K_exc (ρ : List D) (M : Sem) (e : E) (x : D) (c : Nat) (fs : List (Str × D)) (m : List Cell) : sapp2K ρ M e x (.exc c fs m) = .exc c fs ρ m := rfl
@[simp] theorem sapp2K_if (ρ : List D) (M : Sem) (e : E) (x : D) (pp : Prop) [Decidable pp] (aa bb : R (Nat × List D)) : sapp2K ρ M e x (if pp then aa else bb) = if pp then sapp2K ρ M e x aa else sapp2K ρ M e x bb := by split <;> rfl
@[simp] theorem sapp3K_ok (ρ : List D) (x : D) (y : D) (m : List Cell) : sapp3K ρ x (.ok y m) = sapp4K ρ y (R.of (lstAt m x) m) := rfl
@[simp] theorem sapp3K_exc (ρ : List D) (x : D) (c : Nat) (fs : List (Str × D)) (m : List Cell) : sapp3K ρ x (.exc c fs m) = .exc c fs ρ m := rfl
@[simp] theorem sapp3K_if (ρ : List D) (x : D) (pp : Prop) [Decidable pp] (aa bb : R (D)) : sapp3K ρ x (if pp then aa else bb) = if pp then sapp3K ρ x aa else sapp3K ρ x bb := by split <;> rfl
@[simp] theorem sapp4K_ok (ρ : List D) (y : D) (nl : Nat × List D) (m : List Cell) : sapp4K ρ y (.ok nl m) = if cd (nl.2.length < sizeLine) = true then .nx ρ (m.set nl.1 (.lst (nl.2 ++ [y]))) else .stuck := rfl
@[simp] theorem sapp4K_exc (ρ : List D) (y : D) (c : Nat) (fs : List (Str × D)) (m : List Cell) : sapp4K ρ y (.exc c fs m) = .exc c fs ρ m := rfl
@[simp] theorem sapp4K_if (ρ : List D) (y : D) (pp : Prop) [Decidable pp] (aa bb : R (Nat × List D)) : sapp4K ρ y (if pp then aa else bb) = if pp then sapp4K ρ y aa else sapp4K ρ y bb := by split <;> rfl
@[simp] theorem sputK_ok (ρ : List D) (M : Sem) (a : E) (i : E) (v : D) (m : List Cell) : sputK ρ M a i (.ok v m) = sput2K ρ M i v (evE M a ρ m) := rfl
@[simp] theorem sputK_exc (ρ : List D) (M : Sem) (a : E) (i : E) (c : Nat) (fs : List (Str × D)) (m : List Cell) : sputK ρ M a i (.exc c fs m) = .exc c fs ρ m := rfl
@[simp] theorem sputK_if (ρ : List D) (M : Sem) (a : E) (i : E) (pp : Prop) [Decidable pp] (aa bb : R (D)) : sputK ρ M a i (if pp then aa else bb) = if pp then sputK ρ M a i aa else sputK ρ M a i bb := by split <;> rfl
@[simp] theorem sput2K_ok (ρ : List D) (M : Sem) (i : E) (v : D) (o : D) (m : List Cell) : sput2K ρ M i v (.ok o m) = sput3K ρ v o (evE M i ρ m) := rfl
@[simp] theorem sput2K_exc (ρ : List D) (M : Sem) (i : E) (v : D) (c : Nat) (fs : List (Str × D)) (m : List Cell) : sput2K ρ M i v (.exc c fs m) = .exc c fs ρ m := rfl
@[simp] theorem sput2K_if (ρ : List D) (M : Sem) (i : E) (v : D) (pp : Prop) [Decidable pp] (aa bb : R (D)) : sput2K ρ M i v (if pp then aa else bb) = if pp then sput2K ρ M i v aa else sput2K ρ M i v bb := by split <;> rfl
@[simp] theorem sput3K_ok (ρ : List D) (v : D) (o : D) (i : D) (m : List Cell) : sput3K ρ v o (.ok i m) = sput4K ρ (R.of (putItem m o i v) m) := rfl
@[simp] theorem sput3K_exc (ρ : List D) (v : D) (o : D) (c : Nat) (fs : List (Str × D)) (m : List Cell) : sput3K ρ v o (.exc c fs m) = .exc c fs ρ m := rfl
@[simp] theorem sput3K_if (ρ : List D) (v : D) (o : D) (pp : Prop) [Decidable pp] (aa bb : R (D)) : sput3K ρ v o (if pp then aa else bb) = if pp then sput3K ρ v o aa else sput3K ρ v o bb := by split <;> rfl
@[simp] theorem sput4K_ok (ρ : List D) (r : List Cell) (m : List Cell) : sput4K ρ (.ok r m) = .nx ρ r := rfl
@[simp] theorem sput4K_exc (ρ : List D) (c : Nat) (fs : List (Str × D)) (m : List Cell) : sput4K ρ (.exc c fs m) = .exc c fs ρ m := rfl
@[simp] theorem sput4K_if (ρ : List D) (pp : Prop) [Decidable pp] (aa bb : R (List Cell)) : sput4K ρ (if pp then aa else bb) = if pp then sput4K ρ aa else sput4K ρ bb := by split <;> rfl
@[simp] theorem sfputK_ok (ρ : List D) (M : Sem) (a : E) (f : Str) (v : D) (m : List Cell) : sfputK ρ M a f (.ok v m) = sfput2K ρ M f v (evE M a ρ m) := rfl
@[simp] theorem sfputK_exc (ρ : List D) (M : Sem) (a : E) (f : Str) (c : Nat) (fs : List (Str × D)) (m : List Cell) : sfputK ρ M a f (.exc c fs m) = .exc c fs ρ m := rfl
@[simp] theorem sfputK_if (ρ : List D) (M : Sem) (a : E) (f : Str) (pp : Prop) [Decidable pp] (aa bb : R (D)) : sfputK ρ M a f (if pp then aa else bb) = if pp then sfputK ρ M a f aa else sfputK ρ M a f bb := by split <;> rfl
@[simp] theorem sfput2K_ok (ρ : List D) (M : Sem) (f : Str) (v : D) (o : D) (m : List Cell) : sfput2K ρ M f v (.ok o m) = sfput3K ρ M f v (R.of (insAt m o) m) := rfl
@[simp] theorem sfput2K_exc (ρ : List D) (M : Sem) (f : Str) (v : D) (c : Nat) (fs : List (Str × D)) (m : List Cell) : sfput2K ρ M f v (.exc c fs m) = .exc c fs ρ m := rfl
@[simp] theorem sfput2K_if (ρ : List D) (M : Sem) (f : Str) (v : D) (pp : Prop) [Decidable pp] (aa bb : R (D)) : sfput2K ρ M f v (if pp then aa else bb) = if pp then sfput2K ρ M f v aa else sfput2K ρ M f v bb := by split <;> rfl
@[simp] theorem sfput3K_ok (ρ : List D) (M : Sem) (f : Str) (v : D) (nc : Nat × Nat × List (Str × D)) (m : List Cell) : sfput3K ρ M f v (.ok nc m) = if (M.T.fl nc.2.1 f && cd (nc.2.2.length < 1000)) = true then .nx ρ (m.set nc.1 (.ins nc.2.1 (putFD f v nc.2.2))) else .stuck := rfl
@[simp] theorem sfput3K_exc (ρ : List D) (M : Sem) (f : Str) (v : D) (c : Nat) (fs : List (Str × D)) (m : List Cell) : sfput3K ρ M f v (.exc c fs m) = .exc c fs ρ m := rfl
@[simp] theorem sfput3K_if (ρ : List D) (M : Sem) (f : Str) (v : D) (pp : Prop) [Decidable pp] (aa bb : R (Nat × Nat × List (Str × D))) : sfput3K ρ M f v (if pp then aa else bb) = if pp then sfput3K ρ M f v aa else sfput3K ρ M f v bb := by split <;> rfl
def seqB (M : Sem) (r : List S) (x : SR) : SR := x.andThen fun ρ m => evB M r ρ m
section
variable (M : Sem) (r : List S)
@[simp] theorem seqB_nil (x : SR) : seqB M [] x = x := by cases x <;> rfl
@[simp] theorem seqB_nx (ρ : List D) (m : List Cell) : seqB M r (.nx ρ m) = evB M r ρ m := rfl
@[simp] theorem seqB_rt (d : D) (m : List Cell) : seqB M r (.rt d m) = .rt d m := rfl
@[simp] theorem seqB_bk (ρ : List D) (m : List Cell) : seqB M r (.bk ρ m) = .bk ρ m := rfl
@[simp] theorem seqB_ct (ρ : List D) (m : List Cell) : seqB M r (.ct ρ m) = .ct ρ m := rfl
@[simp] theorem seqB_exc (c : Nat) (fs : List (Str × D)) (ρ : List D) (m : List Cell) : seqB M r (.exc c fs ρ m) = .exc c fs ρ m := rfl
@[simp] theorem seqB_if (p : Prop) [Decidable p] (a b : SR) : seqB M r (if p then a else b) = if p then seqB M r a else seqB M r b := by split <;> rfl
end
@[simp] theorem outR_if (p : Prop) [Decidable p] (a b : SR) : outR (if p then a else b) = if p then outR a else outR b := by split <;> rfl
@[simp] theorem outR_nx (ρ : List D) (m : List Cell) : outR (.nx ρ m) = .ok .non m := rfl
@[simp] theorem outR_rt (d : D) (m : List Cell) : outR (.rt d m) = .ok d m := rfl
@[simp] theorem outR_exc (k : Nat) (fs : List (Str × D)) (ρ : List D) (m : List Cell) : outR (.exc k fs ρ m) = .exc k fs m := rfl
@[simp] theorem of_if {α : Type} (p : Prop) [Decidable p] (a b : Option α) (m : List Cell) : R.of (if p then a else b) m = if p then R.of a m else R.of b m := by split <;> rfl
@[simp] theorem if_bl (p : Prop) [Decidable p] (a b : Bool) (m : List Cell) : (if p then R.ok (D.bl a) m else R.ok (D.bl b) m) = .ok (.bl (if p then a else b)) m := by split <;> rfl
/-- a body's answer, whatever its store -/
def R.val : R D → Option D
  | .ok d _ => some d
  | _ => none
@[simp] theorem val_ok (d : D) (m : List Cell) : (R.ok d m).val = some d := rfl
@[simp] theorem val_if (p : Prop) [Decidable p] (a b : R D) : (if p then a else b).val = if p then a.val else b.val := by split <;> rfl

/-! ### expressions -/
section
variable (M : Sem) (ρ : List D) (m : List Cell)
@[simp] theorem e_var (i : Nat) : evE M (.var i) ρ m = R.of (gV ρ[i]?) m := rfl
@[simp] theorem e_int (i : Int) : evE M (.int i) ρ m = .ok (.int i) m := rfl
@[simp] theorem e_str (i : Str) : evE M (.str i) ρ m = .ok (.str i) m := rfl
@[simp] theorem e_bl (i : Bool) : evE M (.bl i) ρ m = .ok (.bl i) m := rfl
@[simp] theorem e_non : evE M .non ρ m = .ok .non m := rfl
@[simp] theorem e_gq (al : Bool) (q : QE) (a : E) : evE M (.gq al q a) ρ m = gqK al M.Γ q ρ (evE M a ρ m) := rfl
@[simp] theorem e_glob (n : Nat) : evE M (.glob n) ρ m = .ok (M.Γ n) m := rfl
@[simp] theorem e_bin (o : Operator) (a b : E) : evE M (.bin o a b) ρ m = binK M o b ρ (evE M a ρ m) := rfl
@[simp] theorem e_neg (a : E) : evE M (.neg a) ρ m = negK (evE M a ρ m) := rfl
@[simp] theorem e_cmp (o : CmpOp) (a b : E) : evE M (.cmp o a b) ρ m = cmpK M o b ρ (evE M a ρ m) := rfl
@[simp] theorem e_chain3 (o o' o2 : CmpOp) (a b d e : E) : evE M (.chain3 o o' o2 a b d e) ρ m = c31K M o o' o2 b d e ρ (evE M a ρ m) := rfl
@[simp] theorem e_chain (o o' : CmpOp) (a b d : E) : evE M (.chain o o' a b d) ρ m = chK M o o' b d ρ (evE M a ρ m) := rfl
@[simp] theorem e_and1 (a : E) : evAnd M [a] ρ m = evE M a ρ m := rfl
@[simp] theorem e_and2 (a b : E) (l : List E) : evAnd M (a :: b :: l) ρ m = andK M (b :: l) ρ (evE M a ρ m) := rfl
@[simp] theorem e_or1 (a : E) : evOr M [a] ρ m = evE M a ρ m := rfl
@[simp] theorem e_or2 (a b : E) (l : List E) : evOr M (a :: b :: l) ρ m = orK M (b :: l) ρ (evE M a ρ m) := rfl
@[simp] theorem e_and (l : List E) : evE M (.and l) ρ m = evAnd M l ρ m := rfl
@[simp] theorem e_or (l : List E) : evE M (.or l) ρ m = evOr M l ρ m := rfl
@[simp] theorem e_not (a : E) : evE M (.not a) ρ m = notK (evE M a ρ m) := rfl
@[simp] theorem e_tup (l : List E) : evE M (.tup l) ρ m = tupK (evL M l ρ m) := rfl
@[simp] theorem e_lst (l : List E) : evE M (.lst l) ρ m = lstK (evL M l ρ m) := rfl
@[simp] theorem e_nil : evL M [] ρ m = .ok [] m := rfl
@[simp] theorem e_cons (a : E) (l : List E) : evL M (a :: l) ρ m = consK M l ρ (evE M a ρ m) := rfl
@[simp] theorem e_idx (a b : E) : evE M (.idx a b) ρ m = idxK M b ρ (evE M a ρ m) := rfl
@[simp] theorem e_slc (a : E) (lo hi : Option E) : evE M (.slc a lo hi) ρ m = slcK M lo hi ρ (evE M a ρ m) := rfl
@[simp] theorem e_none : evO M none ρ m = .ok none m := rfl
@[simp] theorem e_some (a : E) : evO M (some a) ρ m = toIK (evE M a ρ m) := rfl
@[simp] theorem e_callP (f : Nat) (l : List E) : evE M (.call true f l) ρ m = purK (M.Φ f) (evL M l ρ m) := rfl
@[simp] theorem e_callI (f : Nat) (l : List E) : evE M (.call false f l) ρ m = appK (M.Φ f) (evL M l ρ m) := rfl
@[simp] theorem e_dict (l : List E) : evE M (.dict l) ρ m = ownK (dctK (evL M l ρ m)) := rfl
@[simp] theorem e_dget (a b : E) : evE M (.dget a b) ρ m = dgetK M b ρ (evE M a ρ m) := rfl
@[simp] theorem e_lk (i : Nat) (a : E) : evE M (.lk i a) ρ m = lkA M a i ρ m ρ[i]? := rfl
@[simp] theorem e_fn (n : String) (l : List E) : evE M (.fn n l) ρ m = fnK n (evL M l ρ m) := rfl
@[simp] theorem e_ty (n : String) (l : List E) : evE M (.ty n l) ρ m = tyK n (evL M l ρ m) := rfl
@[simp] theorem e_sidx (a b : E) : evE M (.sidx a b) ρ m = sidxK M b ρ (evE M a ρ m) := rfl
@[simp] theorem sidxR_str (b : E) (s : Str) : sidxR M b ρ (.str s) m = sidx2K (.str s) (evE M b ρ m) := rfl
@[simp] theorem e_sm (n : String) (a b : E) : evE M (.sm n a b) ρ m = smK M n b ρ (evE M a ρ m) := rfl
@[simp] theorem smR_str (n : String) (b : E) (s : Str) : smR M n b ρ (.str s) m = sm2K n (.str s) (evE M b ρ m) := rfl
@[simp] theorem e_bits (a : E) : evE M (.bits a) ρ m = bitsK (evE M a ρ m) := rfl
@[simp] theorem e_isA (t : String) (a : E) : evE M (.isA t a) ρ m = isAK t (evE M a ρ m) := rfl
@[simp] theorem e_fld (f : Str) (a : E) : evE M (.fld f a) ρ m = fldK M.T f (evE M a ρ m) := rfl
@[simp] theorem e_meth (pu : Bool) (f : Str) (a : E) (l : List E) : evE M (.meth pu f a l) ρ m = methK M pu f l ρ (evE M a ρ m) := rfl
@[simp] theorem app_true (Φ : List D → List Cell → R D) : app true Φ = pur Φ := rfl
@[simp] theorem app_false (Φ : List D → List Cell → R D) : app false Φ = Φ := rfl
@[simp] theorem e_make (cl : Nat) (l : List E) : evE M (.make cl l) ρ m = makeK M cl (evL M l ρ m) := rfl
@[simp] theorem e_lrg (a : E) : evE M (.lrg a) ρ m = lrgK (evE M a ρ m) := rfl
@[simp] theorem e_dmin (a : E) : evE M (.dmin a) ρ m = dminK (evE M a ρ m) := rfl
@[simp] theorem e_pop (a : E) : evE M (.pop a) ρ m = popK (evE M a ρ m) := rfl
@[simp] theorem e_own (a : E) : evE M (.own a) ρ m = ownK (evE M a ρ m) := rfl
@[simp] theorem e_frz (a : E) : evE M (.frz a) ρ m = frzK (evE M a ρ m) := rfl
@[simp] theorem e_dnew : evE M .dnew ρ m = .ok (.obj m.length) (m ++ [.dct []]) := rfl
@[simp] theorem e_rng1 (a : E) : evE M (.rng1 a) ρ m = rng1K (evE M a ρ m) := rfl
@[simp] theorem e_rngd (a b : E) : evE M (.rngd a b) ρ m = rngdK M b ρ (evE M a ρ m) := rfl
@[simp] theorem e_rng2 (a b : E) : evE M (.rng2 a b) ρ m = rng2K M b ρ (evE M a ρ m) := rfl
@[simp] theorem e_zip (a b : E) : evE M (.zip a b) ρ m = zipK M b ρ (evE M a ρ m) := rfl
@[simp] theorem e_comp (t : Tg) (own : List Nat) (src : E) (ifs : Option E) (el : E) : evE M (.comp t own src ifs el) ρ m = cmpK1 M t own ifs el ρ (srcK (evE M src ρ m)) := rfl

/-! ### statements -/
@[simp] theorem s_asg (i : Nat) (e : E) : evS M (.asg i e) ρ m = asgK ρ i (evE M e ρ m) := rfl
@[simp] theorem s_tupl (is : List Nat) (e : E) : evS M (.tupl is e) ρ m = mnyK ρ is (evE M e ρ m) := rfl
@[simp] theorem s_par (i j : Nat) (a b : E) : evS M (.par i j a b) ρ m = parK ρ M i j b (evE M a ρ m) := rfl
@[simp] theorem s_aug (o : Operator) (i : Nat) (e : E) : evS M (.aug o i e) ρ m = augK ρ M o i e (R.of (gV ρ[i]?) m) := rfl
@[simp] theorem s_expr (e : E) : evS M (.expr e) ρ m = exprK ρ (evE M e ρ m) := rfl
@[simp] theorem s_ret (e : E) : evS M (.ret e) ρ m = retK ρ (evE M e ρ m) := rfl
@[simp] theorem s_retN : evS M .retN ρ m = .rt .non m := rfl
@[simp] theorem s_ite (t : E) (a b : List S) : evS M (.ite t a b) ρ m = iteK ρ M a b (evE M t ρ m) := rfl
@[simp] theorem s_loop (t : Tg) (src : E) (b : List S) : evS M (.loop t src b) ρ m = loopK ρ M t b (srcK (evE M src ρ m)) := rfl
@[simp] theorem s_whl (n : Nat) (t : E) (b : List S) : evS M (.whl n t b) ρ m = whileS (evT (evE M t)) (evB M b) n ρ m := rfl
@[simp] theorem s_app (a e : E) : evS M (.app a e) ρ m = sappK ρ M e (evE M a ρ m) := rfl
@[simp] theorem s_put (a i e : E) : evS M (.put a i e) ρ m = sputK ρ M a i (evE M e ρ m) := rfl
@[simp] theorem s_fput (a : E) (f : Str) (e : E) : evS M (.fput a f e) ρ m = sfputK ρ M a f (evE M e ρ m) := rfl
@[simp] theorem s_pas : evS M .pas ρ m = .nx ρ m := rfl
@[simp] theorem s_brk : evS M .brk ρ m = .bk ρ m := rfl
@[simp] theorem s_cont : evS M .cont ρ m = .ct ρ m := rfl
@[simp] theorem s_frz (i : Nat) (s : S) : evS M (.frz i s) ρ m = onPair (frzSlot i ρ m ρ[i]?) (evS M s) := rfl
@[simp] theorem onPair_some (p : List D × List Cell) (s : List D → List Cell → SR) : onPair (some p) s = s p.1 p.2 := rfl
@[simp] theorem b_nil : evB M [] ρ m = .nx ρ m := rfl
@[simp] theorem b_cons (s : S) (r : List S) : evB M (s :: r) ρ m = seqB M r (evS M s ρ m) := rfl
end

/-! ### data -/
section
variable (m : List Cell)
@[simp] theorem toI_int (i : Int) : toI (.int i) m = .ok (some i) m := rfl
@[simp] theorem asNew_non (n : Nat) : asNew n .non m = .ok (.obj n) m := rfl
@[simp] theorem ownR_dct (l : List (Key × D)) (m : List Cell) : ownR (.dct l) m = .ok (.obj m.length) (m ++ [.dct l]) := rfl
@[simp] theorem ownR_lst (l : List D) : ownR (.lst l) m = .ok (.obj m.length) (m ++ [.lst l]) := rfl
@[simp] theorem res_non : res m .non = .non := rfl
@[simp] theorem res_bl (b : Bool) : res m (.bl b) = .bl b := rfl
@[simp] theorem res_int (b : Int) : res m (.int b) = .int b := rfl
@[simp] theorem res_str (b : Str) : res m (.str b) = .str b := rfl
@[simp] theorem res_tup (b : List D) : res m (.tup b) = .tup b := rfl
@[simp] theorem res_lst (b : List D) : res m (.lst b) = .lst b := rfl
@[simp] theorem res_dct (b : List (Key × D)) : res m (.dct b) = .dct b := rfl
@[simp] theorem res_ins (c : Nat) (b : List (Str × D)) : res m (.ins c b) = .ins c b := rfl
@[simp] theorem res_scr (b : List Int) : res m (.scr b) = .scr b := rfl
@[simp] theorem res_obj (n : Nat) : res m (.obj n) = ofCell m[n]? := rfl
@[simp] theorem ofCell_lst (l : List D) : ofCell (some (.lst l)) = .lst l := rfl
@[simp] theorem ofCell_dct (l : List (Key × D)) : ofCell (some (.dct l)) = .dct l := rfl
@[simp] theorem ofCell_ins (c : Nat) (l : List (Str × D)) : ofCell (some (.ins c l)) = .ins c l := rfl
@[simp] theorem gV_non : gV (some .non) = some .non := rfl
@[simp] theorem gV_bl (b : Bool) : gV (some (.bl b)) = some (.bl b) := rfl
@[simp] theorem gV_int (b : Int) : gV (some (.int b)) = some (.int b) := rfl
@[simp] theorem gV_str (b : Str) : gV (some (.str b)) = some (.str b) := rfl
@[simp] theorem gV_tup (b : List D) : gV (some (.tup b)) = some (.tup b) := rfl
@[simp] theorem gV_lst (b : List D) : gV (some (.lst b)) = some (.lst b) := rfl
@[simp] theorem gV_dct (b : List (Key × D)) : gV (some (.dct b)) = some (.dct b) := rfl
@[simp] theorem gV_ins (c : Nat) (b : List (Str × D)) : gV (some (.ins c b)) = some (.ins c b) := rfl
@[simp] theorem gV_scr (b : List Int) : gV (some (.scr b)) = some (.scr b) := rfl
@[simp] theorem gV_obj (n : Nat) : gV (some (.obj n)) = some (.obj n) := rfl
@[simp] theorem gV_no : gV (some .no) = none := rfl
@[simp] theorem toB_bl (k : Bool) : toB (.bl k) m = .ok k m := rfl
@[simp] theorem lstAt_obj (n : Nat) : lstAt m (.obj n) = match m[n]? with | some (.lst l) => some (n, l) | _ => none := rfl
@[simp] theorem insAt_obj (n : Nat) : insAt m (.obj n) = match m[n]? with | some (.ins c l) => some (n, c, l) | _ => none := rfl
@[simp] theorem srcD_lst (l : List D) : srcD (.lst l) m = .ok (l, none) m := rfl
@[simp] theorem srcD_tup (l : List D) : srcD (.tup l) m = .ok (l, none) m := rfl
@[simp] theorem srcD_str (s : Str) : srcD (.str s) m = .ok (signsD s, none) m := rfl
@[simp] theorem srcD_scr (s : List Int) : srcD (.scr s) m = .ok (s.map D.int, none) m := rfl
@[simp] theorem srcD_dct (l : List (Key × D)) : srcD (.dct l) m = .ok (l.map fun kv => kD kv.1, none) m := rfl
@[simp] theorem bindT_one (i : Nat) (d : D) (ρ : List D) : bindT (.one i) d ρ = some (ρ.set i d) := rfl
@[simp] theorem bindT_many (is : List Nat) (ds : List D) (ρ : List D) : bindT (.many is) (.tup ds) ρ = if ds.length = is.length then some (setMany is ds ρ) else none := rfl
@[simp] theorem setMany_cons (i : Nat) (is : List Nat) (d : D) (ds ρ : List D) : setMany (i :: is) (d :: ds) ρ = setMany is ds (ρ.set i d) := rfl
@[simp] theorem setMany_nil (ds ρ : List D) : setMany [] ds ρ = ρ := by cases ds <;> rfl
@[simp] theorem wipeR_nil (ρ : List D) : wipeR ρ [] = ρ := rfl
@[simp] theorem wipeR_cons (ρ : List D) (v : Nat) (vs : List Nat) : wipeR ρ (v :: vs) = (wipeR ρ vs).set v .no := rfl
end
theorem size_eq : sizeLine = 16777216 := by decide
theorem lim_ok {α : Type} {n : Nat} {r : Option α} (h : n ≤ 16777216) : lim n r = r := by unfold lim; rw [if_pos (cd_pos (by rw [size_eq]; exact h))]
@[simp] theorem mkTup_ok {l : List D} (h : l.length ≤ 16777216) : mkTup l = some (.tup l) := lim_ok h
@[simp] theorem mkLst_ok {l : List D} (h : l.length ≤ 16777216) : mkLst l = some (.lst l) := lim_ok h
@[simp] theorem cd_dec {p : Prop} [Decidable p] : cd p = decide p := cd_of.symm
@[simp] theorem size_lt {n : Nat} : (n < sizeLine) = (n < 16777216) := by rw [size_eq]

@[simp] theorem add_int (i j : Int) : binD .Add (.int i) (.int j) = some (.int (i + j)) := rfl
@[simp] theorem add_str {x y : Str} (h : x.length + y.length ≤ 16777216) : binD .Add (.str x) (.str y) = some (.str (x ++ y)) := lim_ok h
@[simp] theorem add_tup {x y : List D} (h : x.length + y.length ≤ 16777216) : binD .Add (.tup x) (.tup y) = some (.tup (x ++ y)) := lim_ok h
@[simp] theorem add_lst {x y : List D} (h : x.length + y.length ≤ 16777216) : binD .Add (.lst x) (.lst y) = some (.lst (x ++ y)) := lim_ok h
@[simp] theorem sub_int (i j : Int) : binD .Sub (.int i) (.int j) = some (.int (i - j)) := rfl
theorem mul_int {i j : Int} (h : mulOk i j = true) : binD .Mult (.int i) (.int j) = some (.int (i * j)) := if_pos h
@[simp] theorem mul_r {i j : Int} (h1 : -18446744073709551616 < j) (h2 : j < 18446744073709551616) : binD .Mult (.int i) (.int j) = some (.int (i * j)) := mul_int (by
  unfold mulOk; rw [cd_pos (p := -(2 ^ 64) < j ∧ j < 2 ^ 64) ⟨h1, h2⟩, Bool.or_true])
@[simp] theorem mul_l {i j : Int} (h1 : -18446744073709551616 < i) (h2 : i < 18446744073709551616) : binD .Mult (.int i) (.int j) = some (.int (i * j)) := mul_int (by
  unfold mulOk; rw [cd_pos (p := -(2 ^ 64) < i ∧ i < 2 ^ 64) ⟨h1, h2⟩, Bool.true_or])
@[simp] theorem div_int {i j : Int} (h1 : 0 < j) (h2 : j < 1606938044258990275541962092341162602522202993782792835301376) : binD .FloorDiv (.int i) (.int j) = some (.int (i / j)) := if_pos (cd_pos ⟨h1, h2⟩)
@[simp] theorem mod_int {i j : Int} (h1 : 0 < j) : binD .Mod (.int i) (.int j) = some (.int (i % j)) := if_pos (cd_pos h1)
@[simp] theorem pow_int {i j : Int} (h1 : 0 ≤ j) (h2 : j ≤ 1000000) (h3 : i.natAbs < 18446744073709551616) : binD .Pow (.int i) (.int j) = some (.int (i ^ j.toNat)) := if_pos (cd_pos ⟨h1, h2, h3⟩)
@[simp] theorem shr_int {i j : Int} (h1 : 0 ≤ j) : binD .RShift (.int i) (.int j) = some (.int (i / 2 ^ j.toNat)) := if_pos (cd_pos h1)
@[simp] theorem xor_int (i j : Int) : binD .BitXor (.int i) (.int j) = some (.int (Builtin.bitXor i j)) := rfl
@[simp] theorem neg_int (i : Int) : negD (.int i) = some (.int (-i)) := rfl
@[simp] theorem aug_add (i j : Int) : augD .Add (.int i) (.int j) = some (.int (i + j)) := rfl
@[simp] theorem aug_sub (i j : Int) : augD .Sub (.int i) (.int j) = some (.int (i - j)) := rfl
@[simp] theorem rep_tup {xs : List D} {k : Int} (h1 : xs ≠ []) (h2 : 0 ≤ k) (h3 : k ≤ 1000) (h4 : xs.length ≤ 1000) : binD .Mult (.tup xs) (.int k) = some (.tup (List.replicate k.toNat xs).flatten) := if_pos (cd_pos ⟨h1, h2, h3, h4⟩)
@[simp] theorem rep_lst {xs : List D} {k : Int} (h1 : 0 ≤ k) (h2 : k < 1048576) (h3 : xs.length * k.toNat ≤ 16777216) : binD .Mult (.lst xs) (.int k) = some (.lst (List.replicate k.toNat xs).flatten) := if_pos (cd_pos ⟨h1, h2, by rw [size_eq]; exact h3⟩)
/-! ### comparisons -/
@[simp] theorem lt_int (i j : Int) : cmpD .Lt (.int i) (.int j) = some (.bl (cd (i < j))) := rfl
@[simp] theorem le_int (i j : Int) : cmpD .LtE (.int i) (.int j) = some (.bl (cd (i ≤ j))) := rfl
@[simp] theorem gt_int (i j : Int) : cmpD .Gt (.int i) (.int j) = some (.bl (cd (j < i))) := rfl
@[simp] theorem ge_int (i j : Int) : cmpD .GtE (.int i) (.int j) = some (.bl (cd (j ≤ i))) := rfl
@[simp] theorem le_str (i j : Str) : cmpD .LtE (.str i) (.str j) = some (.bl (!cd (j.cps.toList < i.cps.toList))) := rfl
@[simp] theorem gt_str (i j : Str) : cmpD .Gt (.str i) (.str j) = some (.bl (cd (j.cps.toList < i.cps.toList))) := rfl
@[simp] theorem ge_str (i j : Str) : cmpD .GtE (.str i) (.str j) = some (.bl (!cd (i.cps.toList < j.cps.toList))) := rfl
@[simp] theorem lt_str (i j : Str) : cmpD .Lt (.str i) (.str j) = some (.bl (cd (i.cps.toList < j.cps.toList))) := rfl
@[simp] theorem eq_cmp (d e : D) : cmpD .Eq d e = (eqB d e).map D.bl := rfl
@[simp] theorem ne_cmp (d e : D) : cmpD .NotEq d e = (eqB d e).map fun b => D.bl (!b) := by show Option.map D.bl ((eqB d e).map _) = _; rw [Option.map_map]; rfl
@[simp] theorem is_cmp (d e : D) : cmpD .Is d e = (isBl d e).map D.bl := rfl
@[simp] theorem isnot_cmp (d e : D) : cmpD .IsNot d e = (isBl d e).map fun b => D.bl (!b) := by show Option.map D.bl ((isBl d e).map _) = _; rw [Option.map_map]; rfl
@[simp] theorem in_cmp (d e : D) : cmpD .In d e = (inB d e).map D.bl := rfl
@[simp] theorem notin_cmp (d e : D) : cmpD .NotIn d e = (inB d e).map fun b => D.bl (!b) := by show Option.map D.bl ((inB d e).map _) = _; rw [Option.map_map]; rfl
@[simp] theorem isBl_bl (a b : Bool) : isBl (.bl a) (.bl b) = some (decide (a = b)) := rfl
@[simp] theorem isBl_non : isBl .non .non = some true := rfl
@[simp] theorem isBl_int (i : Int) : isBl (.int i) .non = some false := rfl
@[simp] theorem isBl_str (i : Str) : isBl (.str i) .non = some false := rfl
@[simp] theorem isBl_tup (i : List D) : isBl (.tup i) .non = some false := rfl
@[simp] theorem isBl_lst (i : List D) : isBl (.lst i) .non = some false := rfl
@[simp] theorem isBl_blnon (i : Bool) : isBl (.bl i) .non = some false := rfl
@[simp] theorem eqB_int (i j : Int) : eqB (.int i) (.int j) = some (cd (i = j)) := rfl
@[simp] theorem eqB_str (i j : Str) : eqB (.str i) (.str j) = some (cd (i = j)) := rfl
@[simp] theorem eqB_bl (i j : Bool) : eqB (.bl i) (.bl j) = some (decide (i = j)) := rfl
@[simp] theorem eqB_nn : eqB .non .non = some true := rfl
@[simp] theorem eqB_ni (i : Int) : eqB .non (.int i) = some false := rfl
@[simp] theorem eqB_in (i : Int) : eqB (.int i) .non = some false := rfl
@[simp] theorem eqB_ns (i : Str) : eqB .non (.str i) = some false := rfl
@[simp] theorem eqB_sn (i : Str) : eqB (.str i) .non = some false := rfl
end GS
end

noncomputable section
namespace GS
open PySem L2
/-! ### plain data: no truth values, no things -/
mutual
def D.plain : D → Bool
  | .non => true | .int _ => true | .str s => PyData.strOk s
  | .tup l => plainL l
  | .lst l => plainL l
  | _ => false
def plainL : List D → Bool
  | [] => true
  | d :: l => d.plain && plainL l
end
mutual
theorem canLay_plain : ∀ (d : D), d.plain = true → (toPy d).canLay0 = true
  | .non, _ => rfl
  | .int _, _ => rfl
  | .str s, h => h
  | .tup l, h => canLayL_plain l h
  | .lst l, h => canLayL_plain l h
theorem canLayL_plain : ∀ (l : List D), plainL l = true → PyData.canLayAll0 (toPyL l) = true
  | [], _ => rfl
  | d :: l, h => by
    obtain ⟨h1, h2⟩ := and2 h
    show (PyData.canLay0 (toPy d) && PyData.canLayAll0 (toPyL l)) = true
    rw [canLay_plain d h1, canLayL_plain l h2]; rfl
end
mutual
theorem eqv_plain : ∀ (d e : D), d.plain = true → e.plain = true → (PyData.eqv (toPy d) (toPy e) = true ↔ d = e)
  | .non, e, _, h => by cases e <;> first | (cases h; done) | simp [toPy, PyData.eqv]
  | .int i, e, _, h => by cases e <;> first | (cases h; done) | simp [toPy, PyData.eqv]
  | .str s, e, _, h => by cases e <;> first | (cases h; done) | simp [toPy, PyData.eqv]
  | .tup l, e, g, h => by
    cases e <;> first | (cases h; done) | (simp [toPy, PyData.eqv]; done) | skip
    rename_i l'
    have := eqvL_plain l l' g h
    simp [toPy, PyData.eqv, this]
  | .lst l, e, g, h => by
    cases e <;> first | (cases h; done) | (simp [toPy, PyData.eqv]; done) | skip
    rename_i l'
    have := eqvL_plain l l' g h
    simp [toPy, PyData.eqv, this]
theorem eqvL_plain : ∀ (l l' : List D), plainL l = true → plainL l' = true → (PyData.eqvAll (toPyL l) (toPyL l') = true ↔ l = l')
  | [], [], _, _ => by simp [toPyL, PyData.eqvAll]
  | [], _ :: _, _, _ => by simp [toPyL, PyData.eqvAll]
  | _ :: _, [], _, _ => by simp [toPyL, PyData.eqvAll]
  | d :: l, e :: l', g, h => by
    obtain ⟨g1, g2⟩ := and2 g
    obtain ⟨h1, h2⟩ := and2 h
    simp [toPyL, PyData.eqvAll, eqv_plain d e g1 h1, eqvL_plain l l' g2 h2]
end
theorem scE_eq {d e : D} {b : Bool} (hd : d.plain = true) (he : e.plain = true) (h : scE d e = some b) : b = cd (d = e) := by
  unfold scE at h
  split at h <;> first | (cases h; done) | (cases hd; done) | (cases he; done) | (simp at h; subst h; simp)
theorem shaped_plain {d : D} (hd : d.plain = true) (h : (toPy d).depth ≤ 64) : SeqAt.shaped (toPy d) = true := by
  unfold SeqAt.shaped
  rw [canLay_plain d hd, Bool.true_and]
  exact decide_eq_true h
theorem eqB_plain {d e : D} (hd : d.plain = true) (he : e.plain = true) (h1 : (toPy d).depth ≤ 64) (h2 : (toPy e).depth ≤ 64) : eqB d e = some (cd (d = e)) := by
  unfold eqB
  cases q : scE d e with
  | some b => simp [scE_eq hd he q]
  | none =>
    have h3 : PyData.eqv (toPy d) (toPy e) = cd (d = e) := by
      rw [Bool.eq_iff_iff, eqv_plain d e hd he, cd_eq]
    dsimp only
    rw [shaped_plain hd h1, shaped_plain he h2, h3]; rfl
/-! ### calls that leave the store alone -/
theorem pur_ok {Φ : List D → List Cell → R D} {xs : List D} {d : D} {m : List Cell} (h1 : pureL xs = true) (h2 : (Φ xs []).val = some d) (h3 : d.pure = true) : pur Φ xs m = .ok d m := by
  unfold pur
  rw [if_pos h1]
  cases q : Φ xs [] with
  | ok e m' =>
    rw [q] at h2
    cases h2
    simp [h3]
  | exc _ _ _ => rw [q] at h2; cases h2
  | stuck => rw [q] at h2; cases h2
theorem Phi_succ {T : Tab} {Γ : Nat → D} {B : Nat → Def} {n : Nat} (h : 0 < n) (f : Nat) (ds : List D) (m : List Cell) : Phi T Γ B n f ds m = runB ⟨T, Phi T Γ B (n - 1), Γ⟩ (B f).N.length (B f).b ds m := by
  cases n with
  | zero => omega
  | succ n => rfl
/-! ### loops by what holds between two turns -/
theorem keep_none (m : List Cell) : Keep.ok none m := fun _ _ h => by cases h
def nxOf (body : List D → List Cell → SR) (t : Tg) (d : D) (ρ : List D) (m : List Cell) (ρ2 : List D) (m2 : List Cell) : Prop := ∃ ρ1, bindT t d ρ = some ρ1 ∧ (body ρ1 m = .nx ρ2 m2 ∨ body ρ1 m = .ct ρ2 m2)
theorem loop_ix {t : Tg} {body : List D → List Cell → SR} (I : Nat → List D → List Cell → Prop) : ∀ (ds : List D) (i0 : Nat) (ρ : List D) (m : List Cell), I i0 ρ m →
    (∀ i d ρ m, ds[i]? = some d → I (i0 + i) ρ m → ∃ ρ2 m2, nxOf body t d ρ m ρ2 m2 ∧ I (i0 + i + 1) ρ2 m2) → ∃ ρ' m', loopS t body none ds ρ m = .nx ρ' m' ∧ I (i0 + ds.length) ρ' m'
  | [], i0, ρ, m, h, _ => ⟨ρ, m, by unfold loopS; rw [if_pos (cd_pos (keep_none m))], h⟩
  | d :: ds, i0, ρ, m, h, hs => by
    obtain ⟨ρ2, m2, ⟨ρ1, e1, e2⟩, h2⟩ := hs 0 d ρ m rfl h
    obtain ⟨ρ', m', e3, h3⟩ := loop_ix (t := t) (body := body) I ds (i0 + 1) ρ2 m2 h2 (fun i d ρ m e hi => by
      have := hs (i + 1) d ρ m (by simpa using e) (by rw [show i0 + (i + 1) = i0 + 1 + i by omega]; exact hi)
      rw [show i0 + (i + 1) + 1 = i0 + 1 + i + 1 by omega] at this
      exact this)
    refine ⟨ρ', m', ?_, by rw [List.length_cons, show i0 + (ds.length + 1) = i0 + 1 + ds.length by omega]; exact h3⟩
    unfold loopS
    rw [if_pos (cd_pos (keep_none m)), e1]
    simp only [R.of_some, R.then_ok]
    rcases e2 with e2 | e2 <;> rw [e2] <;> exact e3
theorem rangeD_get {lo : Int} {n i : Nat} {d : D} (h : (rangeD lo n)[i]? = some d) : i < n ∧ d = .int (lo + (i : Nat)) := by
  unfold rangeD at h
  rw [List.getElem?_map] at h
  obtain ⟨k, e1, rfl⟩ := Option.map_eq_some_iff.mp h
  obtain ⟨hi, e2⟩ := List.getElem?_eq_some_iff.mp e1
  simp at hi e2
  subst e2
  exact ⟨hi, rfl⟩
@[simp] theorem rangeD_len (lo : Int) (n : Nat) : (rangeD lo n).length = n := by unfold rangeD; simp
/-- slots and store are functions of the turn -/
theorem loop_st {t : Tg} {body : List D → List Cell → SR} {ds : List D} (F : Nat → List D) (G : Nat → List Cell) (hs : ∀ i d, ds[i]? = some d → nxOf body t d (F i) (G i) (F (i + 1)) (G (i + 1))) {ρ : List D} {m : List Cell} (e1 : ρ = F 0) (e2 : m = G 0) :
    loopS t body none ds ρ m = .nx (F ds.length) (G ds.length) := by
  subst e1; subst e2
  obtain ⟨ρ', m', e, h1, h2⟩ := loop_ix (t := t) (body := body) (fun i ρ m => ρ = F i ∧ m = G i) ds 0 _ _ ⟨rfl, rfl⟩ (fun i d ρ m e ⟨h1, h2⟩ => by
    subst h1; subst h2
    rw [Nat.zero_add]
    exact ⟨_, _, hs i d e, rfl, rfl⟩)
  rw [Nat.zero_add] at h1 h2
  rw [e, h1, h2]
/-- a for over a range -/
theorem loop_range {j : Nat} {body : List D → List Cell → SR} {lo : Int} {n : Nat} (F : Nat → List D) (G : Nat → List Cell) (hs : ∀ i, i < n → body ((F i).set j (.int (lo + (i : Nat)))) (G i) = .nx (F (i + 1)) (G (i + 1))) {ρ : List D} {m : List Cell} (e1 : ρ = F 0) (e2 : m = G 0) :
    loopS (.one j) body none (rangeD lo n) ρ m = .nx (F n) (G n) := by
  have := loop_st (t := .one j) (body := body) (ds := rangeD lo n) F G (fun i d e => by
    obtain ⟨h1, rfl⟩ := rangeD_get e
    exact ⟨_, rfl, .inl (hs i h1)⟩) e1 e2
  rwa [rangeD_len] at this
/-- the store stays -/
theorem loop_range' {j : Nat} {body : List D → List Cell → SR} {lo : Int} {n : Nat} {m : List Cell} (F : Nat → List D) (hs : ∀ i, i < n → body ((F i).set j (.int (lo + (i : Nat)))) m = .nx (F (i + 1)) m) {ρ : List D} (e1 : ρ = F 0) :
    loopS (.one j) body none (rangeD lo n) ρ m = .nx (F n) m := loop_range F (fun _ => m) hs e1 rfl
/-- one turn -/
theorem loop_nil {t : Tg} {body : List D → List Cell → SR} {ρ : List D} {m : List Cell} : loopS t body none [] ρ m = .nx ρ m := by unfold loopS; rw [if_pos (cd_pos (keep_none m))]
def turnK (t : Tg) (body : List D → List Cell → SR) (ds : List D) : SR → SR
  | .nx ρ m => loopS t body none ds ρ m
  | .ct ρ m => loopS t body none ds ρ m
  | .bk ρ m => .nx ρ m
  | r => r
theorem loop_cons {j : Nat} {body : List D → List Cell → SR} {d : D} {ds : List D} {ρ : List D} {m : List Cell} : loopS (.one j) body none (d :: ds) ρ m = turnK (.one j) body ds (body (ρ.set j d) m) := by
  conv => lhs; unfold loopS
  rw [if_pos (cd_pos (keep_none m))]
  show R.then (R.of (some (ρ.set j d)) m) ρ _ = _
  rw [R.of_some, R.then_ok]
  generalize body (ρ.set j d) m = r
  cases r <;> rfl
section
variable {t : Tg} {body : List D → List Cell → SR} {ds ρ : List D} {m : List Cell}
@[simp] theorem turn_nx : turnK t body ds (.nx ρ m) = loopS t body none ds ρ m := rfl
@[simp] theorem turn_ct : turnK t body ds (.ct ρ m) = loopS t body none ds ρ m := rfl
@[simp] theorem turn_bk : turnK t body ds (.bk ρ m) = .nx ρ m := rfl
@[simp] theorem turn_rt (d : D) : turnK t body ds (.rt d m) = .rt d m := rfl
@[simp] theorem turn_exc (c : Nat) (fs : List (Str × D)) : turnK t body ds (.exc c fs ρ m) = .exc c fs ρ m := rfl
@[simp] theorem turn_if (p : Prop) [Decidable p] (a b : SR) : turnK t body ds (if p then a else b) = if p then turnK t body ds a else turnK t body ds b := by split <;> rfl
end
theorem rangeD_zero (lo : Int) : rangeD lo 0 = [] := rfl
theorem rangeD_succ (lo : Int) (n : Nat) : rangeD lo (n + 1) = .int lo :: rangeD (lo + 1) n := by
  unfold rangeD
  rw [List.range_succ_eq_map, List.map_cons, List.map_map]
  congr 1
  · simp
  · apply List.map_congr_left
    intro a _
    simp
    omega
theorem loop_rngM {j : Nat} {body : List D → List Cell → SR} {lo : Int} {n : Nat} (I : Nat → List D → List Cell → Prop) {ρ : List D} {m : List Cell} (h0 : I 0 ρ m)
    (hs : ∀ i ρ m, i < n → I i ρ m → ∃ ρ2 m2, body (ρ.set j (.int (lo + (i : Nat)))) m = .nx ρ2 m2 ∧ I (i + 1) ρ2 m2) : ∃ ρ' m', loopS (.one j) body none (rangeD lo n) ρ m = .nx ρ' m' ∧ I n ρ' m' := by
  have := loop_ix (t := .one j) (body := body) I (rangeD lo n) 0 ρ m h0 (fun i d ρ m e hi => by
    obtain ⟨h1, h2⟩ := rangeD_get e
    subst h2
    rw [Nat.zero_add] at hi ⊢
    obtain ⟨ρ2, m2, e2, h2⟩ := hs i ρ m h1 hi
    exact ⟨ρ2, m2, ⟨_, rfl, .inl e2⟩, h2⟩)
  rwa [rangeD_len, Nat.zero_add] at this
/-- the store stays -/
theorem loop_rng {j : Nat} {body : List D → List Cell → SR} {lo : Int} {n : Nat} {m : List Cell} (I : Nat → List D → Prop) {ρ : List D} (h0 : I 0 ρ)
    (hs : ∀ i ρ, i < n → I i ρ → ∃ ρ2, body (ρ.set j (.int (lo + (i : Nat)))) m = .nx ρ2 m ∧ I (i + 1) ρ2) : ∃ ρ', loopS (.one j) body none (rangeD lo n) ρ m = .nx ρ' m ∧ I n ρ' := by
  obtain ⟨ρ', m', e, h1, rfl⟩ := loop_rngM (j := j) (body := body) (lo := lo) (n := n) (fun i ρ m' => I i ρ ∧ m' = m) (ρ := ρ) (m := m) ⟨h0, rfl⟩ (fun i ρ m' hi ⟨h, e⟩ => by
    subst e
    obtain ⟨ρ2, e2, h2⟩ := hs i ρ hi h
    exact ⟨ρ2, m', e2, h2, rfl⟩)
  exact ⟨ρ', e, h1⟩
/-- a for over a range that may hand back something -/
theorem loop_find' {j : Nat} {body : List D → List Cell → SR} {lo : Int} {m : List Cell} (p : Nat → Option D) (I : List D → Prop) : ∀ (n s : Nat) (ρ : List D), (∀ i ρ, s ≤ i → i < s + n → I ρ → (∀ d, p i = some d → body (ρ.set j (.int (lo + (i : Nat)))) m = .rt d m) ∧ (p i = none → ∃ ρ2, body (ρ.set j (.int (lo + (i : Nat)))) m = .nx ρ2 m ∧ I ρ2)) → I ρ →
    (∀ d, (List.range' s n).findSome? p = some d → loopS (.one j) body none (rangeD (lo + (s : Nat)) n) ρ m = .rt d m) ∧ ((List.range' s n).findSome? p = none → ∃ ρ', loopS (.one j) body none (rangeD (lo + (s : Nat)) n) ρ m = .nx ρ' m ∧ I ρ')
  | 0, s, ρ, h, h0 => ⟨fun d e => by simp at e, fun _ => ⟨ρ, by rw [rangeD_zero, loop_nil], h0⟩⟩
  | n + 1, s, ρ, h, h0 => by
    obtain ⟨h1, h2⟩ := h s ρ (Nat.le_refl _) (by omega) h0
    rw [rangeD_succ, loop_cons, List.range'_succ, List.findSome?_cons]
    cases q : p s with
    | some d =>
      rw [h1 d q]
      exact ⟨fun d' e => by cases e; rfl, fun e => by cases e⟩
    | none =>
      obtain ⟨ρ2, e2, i2⟩ := h2 q
      rw [e2, turn_nx, show lo + (s : Int) + 1 = lo + ((s + 1 : Nat) : Int) by omega]
      exact loop_find' p I n (s + 1) ρ2 (fun i ρ a b => h i ρ (by omega) (by omega)) i2
theorem loop_find {j : Nat} {body : List D → List Cell → SR} {lo : Int} {m : List Cell} {n : Nat} (p : Nat → Option D) (I : List D → Prop) {ρ : List D} (h : ∀ i ρ, i < n → I ρ → (∀ d, p i = some d → body (ρ.set j (.int (lo + (i : Nat)))) m = .rt d m) ∧ (p i = none → ∃ ρ2, body (ρ.set j (.int (lo + (i : Nat)))) m = .nx ρ2 m ∧ I ρ2)) (h0 : I ρ) :
    (∀ d, (List.range n).findSome? p = some d → loopS (.one j) body none (rangeD lo n) ρ m = .rt d m) ∧ ((List.range n).findSome? p = none → ∃ ρ', loopS (.one j) body none (rangeD lo n) ρ m = .nx ρ' m ∧ I ρ') := by
  have := loop_find' (j := j) (body := body) (lo := lo) (m := m) p I n 0 ρ (fun i ρ _ b => h i ρ (by omega)) h0
  rw [List.range_eq_range']
  simpa using this
/-! ### comprehensions -/
theorem comp_map {M : Sem} {t : Tg} {own : List Nat} {el : E} {ρ : List D} {m : List Cell} (g : D → D) : ∀ (ds : List D), (∀ d ∈ ds, ∃ ρ1, bindT t d (wipeR ρ own) = some ρ1 ∧ evE M el ρ1 m = .ok (g d) m) → compR t (evIf M none) (evE M el) (wipeR ρ own) none ds m = .ok (ds.map g) m
  | [], _ => by unfold compR; rw [if_pos (cd_pos (keep_none m))]; rfl
  | d :: ds, h => by
    obtain ⟨ρ1, e1, e3⟩ := h d List.mem_cons_self
    unfold compR
    rw [if_pos (cd_pos (keep_none m)), e1, R.of_some, R.bind_ok]
    show R.bind (evYes ρ1 m) _ = _
    unfold evYes
    rw [R.bind_ok, if_pos rfl, e3, R.bind_ok, comp_map g ds fun d hd => h d (List.mem_cons_of_mem _ hd)]
    rfl
theorem comp_filter {M : Sem} {t : Tg} {own : List Nat} {c el : E} {ρ : List D} {m : List Cell} (p : D → Bool) (g : D → D) : ∀ (ds : List D), (∀ d ∈ ds, ∃ ρ1, bindT t d (wipeR ρ own) = some ρ1 ∧ evE M c ρ1 m = .ok (.bl (p d)) m ∧ (p d = true → evE M el ρ1 m = .ok (g d) m)) → compR t (evIf M (some c)) (evE M el) (wipeR ρ own) none ds m = .ok ((ds.filter p).map g) m
  | [], _ => by unfold compR; rw [if_pos (cd_pos (keep_none m))]; rfl
  | d :: ds, h => by
    obtain ⟨ρ1, e1, e2, e3⟩ := h d List.mem_cons_self
    have ih := comp_filter (M := M) (t := t) (own := own) (c := c) (el := el) (ρ := ρ) (m := m) p g ds fun d hd => h d (List.mem_cons_of_mem _ hd)
    unfold compR
    rw [if_pos (cd_pos (keep_none m)), e1, R.of_some, R.bind_ok]
    show R.bind (calmR (evT (evE M c) ρ1 m)) _ = _
    unfold evT
    rw [e2, R.bind_ok, toB_bl]
    show R.bind (R.ok (p d) m) _ = _
    rw [R.bind_ok]
    cases q : p d with
    | true => rw [if_pos rfl, e3 q, R.bind_ok, ih, R.bind_ok, List.filter_cons, if_pos q]; rfl
    | false => rw [if_neg (by decide), ih, List.filter_cons, if_neg (by rw [q]; decide)]
/-- the whole -/
theorem cmp_ok {M : Sem} {t : Tg} {own : List Nat} {ifs : Option E} {el : E} {ρ : List D} {m : List Cell} {ds ys : List D} (h : compR t (evIf M ifs) (evE M el) (wipeR ρ own) none ds m = .ok ys m) (hl : ys.length ≤ 16777216) : cmpK1 M t own ifs el ρ (.ok (ds, none) m) = .ok (.lst ys) m := by
  rw [cmpK1_ok]
  dsimp only
  rw [h]
  show lcK (.ok ys m) = _
  rw [lcK_ok, mkLst_ok hl]; rfl
theorem cmp_map {M : Sem} {j : Nat} {own : List Nat} {el : E} {ρ : List D} {m : List Cell} {ds : List D} (g : D → D) (h : ∀ d ∈ ds, evE M el ((wipeR ρ own).set j d) m = .ok (g d) m) (hl : ds.length ≤ 16777216) : cmpK1 M (.one j) own none el ρ (.ok (ds, none) m) = .ok (.lst (ds.map g)) m :=
  cmp_ok (comp_map g ds fun d hd => ⟨_, rfl, h d hd⟩) (by simpa using hl)
theorem cmp_filter {M : Sem} {j : Nat} {own : List Nat} {c el : E} {ρ : List D} {m : List Cell} {ds : List D} (p : D → Bool) (g : D → D) (h : ∀ d ∈ ds, evE M c ((wipeR ρ own).set j d) m = .ok (.bl (p d)) m) (h2 : ∀ d ∈ ds, p d = true → evE M el ((wipeR ρ own).set j d) m = .ok (g d) m) (hl : ds.length ≤ 16777216) : cmpK1 M (.one j) own (some c) el ρ (.ok (ds, none) m) = .ok (.lst ((ds.filter p).map g)) m :=
  cmp_ok (comp_filter p g ds fun d hd => ⟨_, rfl, h d hd, h2 d hd⟩) (by simpa using Nat.le_trans (List.length_filter_le _ _) hl)
theorem cmp_range {M : Sem} {j : Nat} {own : List Nat} {el : E} {ρ : List D} {m : List Cell} {n : Nat} {lo : Int} (g : Nat → D) (h : ∀ i, i < n → evE M el ((wipeR ρ own).set j (.int (lo + (i : Nat)))) m = .ok (g i) m) (hl : n ≤ 16777216) : cmpK1 M (.one j) own none el ρ (.ok (rangeD lo n, none) m) = .ok (.lst ((List.range n).map g)) m := by
  have e : ∀ (k : Nat), rangeD lo n = (List.range n).map fun i => D.int (lo + (i : Nat)) := fun _ => rfl
  have := cmp_map (M := M) (j := j) (own := own) (el := el) (ρ := ρ) (m := m) (ds := rangeD lo n) (fun d => match d with | .int k => g (k - lo).toNat | _ => .non) (fun d hd => by
    rw [e 0] at hd
    obtain ⟨i, hi, rfl⟩ := List.mem_map.mp hd
    rw [h i (List.mem_range.mp hi)]
    show R.ok (g i) m = R.ok (g (lo + (i : Int) - lo).toNat) m
    rw [show (lo + (i : Int) - lo).toNat = i by omega]) (by simpa using hl)
  rw [this, e 0, List.map_map]
  congr 2
  apply List.map_congr_left
  intro a _
  show g (lo + (a : Int) - lo).toNat = g a
  rw [show (lo + (a : Int) - lo).toNat = a by omega]
/-! ### exceptions -/
def raiseK (ρ : List D) (cl : Nat) (l : List (Str × Nat)) (r : R (List D)) : SR := r.then ρ fun ds m => .exc cl (fsD ds l []) ρ m
@[simp] theorem raiseK_ok (ρ : List D) (cl : Nat) (l : List (Str × Nat)) (ds : List D) (m : List Cell) : raiseK ρ cl l (.ok ds m) = .exc cl (fsD ds l []) ρ m := rfl
@[simp] theorem raiseK_exc (ρ : List D) (cl : Nat) (l : List (Str × Nat)) (c : Nat) (fs : List (Str × D)) (m : List Cell) : raiseK ρ cl l (.exc c fs m) = .exc c fs ρ m := rfl
@[simp] theorem s_raise (M : Sem) (ρ : List D) (m : List Cell) (cl : Nat) (l : List E) : evS M (.raise cl l) ρ m = raiseK ρ cl (M.T.xl cl) (evL M l ρ m) := rfl
@[simp] theorem s_tr (M : Sem) (ρ : List D) (m : List Cell) (b : List S) (hs : List (Nat × Option Nat × XR)) : evS M (.tr b hs) ρ m = catchR M.T.subOf M.T.xfl hs (evB M b ρ m) := rfl
section
variable (sub : Nat → Nat → Option Bool) (fl : Nat → Str → Bool) (hs : List (Nat × Option Nat × XR)) (ρ : List D) (m : List Cell) (d : D) (k : Nat) (fs : List (Str × D))
@[simp] theorem catch_nx : catchR sub fl hs (.nx ρ m) = .nx ρ m := rfl
@[simp] theorem catch_rt : catchR sub fl hs (.rt d m) = .rt d m := rfl
@[simp] theorem catch_bk : catchR sub fl hs (.bk ρ m) = .bk ρ m := rfl
@[simp] theorem catch_ct : catchR sub fl hs (.ct ρ m) = .ct ρ m := rfl
@[simp] theorem catch_exc : catchR sub fl hs (.exc k fs ρ m) = goX sub fl k fs ρ m hs := rfl
@[simp] theorem catch_if (p : Prop) [Decidable p] (a b : SR) : catchR sub fl hs (if p then a else b) = if p then catchR sub fl hs a else catchR sub fl hs b := by split <;> rfl
end
section
variable (M : Sem) (ρ : List D) (m : List Cell) (b : List S) (hs : List XH) (d : D) (k : Nat) (fs : List (Str × D))
@[simp] theorem s_trx : evS M (.trx b hs) ρ m = catchH M hs (evB M b ρ m) := rfl
@[simp] theorem catchH_nx : catchH M hs (.nx ρ m) = .nx ρ m := rfl
@[simp] theorem catchH_rt : catchH M hs (.rt d m) = .rt d m := rfl
@[simp] theorem catchH_exc : catchH M hs (.exc k fs ρ m) = goH M k fs ρ m hs := rfl
@[simp] theorem catchH_if (p : Prop) [Decidable p] (a b : SR) : catchH M hs (if p then a else b) = if p then catchH M hs a else catchH M hs b := by split <;> rfl
end
section
variable (M : Sem) (ρ : List D) (m : List Cell) (k : Bool) (cl : Nat) (fs : List (Str × D))
def itbK (a b : List S) (r : R Bool) : SR := r.then ρ fun k m => if k = true then evB M a ρ m else evB M b ρ m
@[simp] theorem itbK_ok (a b : List S) : itbK M ρ a b (.ok k m) = if k = true then evB M a ρ m else evB M b ρ m := rfl
@[simp] theorem itbK_exc (a b : List S) : itbK M ρ a b (.exc cl fs m) = .exc cl fs ρ m := rfl
@[simp] theorem itbK_if (a b : List S) (p : Prop) [Decidable p] (x y : R Bool) : itbK M ρ a b (if p then x else y) = if p then itbK M ρ a b x else itbK M ρ a b y := by split <;> rfl
@[simp] theorem s_itx (t : XB) (a b : List S) : evS M (.itx t a b) ρ m = itbK M ρ a b (evXB M t ρ m) := rfl
def tobK (r : R D) : R Bool := r.bind toB
@[simp] theorem tobK_ok : tobK (.ok (.bl k) m) = .ok k m := rfl
@[simp] theorem tobK_exc : tobK (.exc cl fs m) = .exc cl fs m := rfl
@[simp] theorem tobK_if (p : Prop) [Decidable p] (x y : R D) : tobK (if p then x else y) = if p then tobK x else tobK y := by split <;> rfl
@[simp] theorem xb_tst (e : E) : evXB M (.tst e) ρ m = tobK (evE M e ρ m) := rfl
def trC : D → Option Bool
  | .lst l => some (!l.isEmpty)
  | _ => none
@[simp] theorem trC_lst (l : List D) : trC (.lst l) = some (!l.isEmpty) := rfl
def truK (r : R D) : R Bool := r.bind fun d m => R.of (trC (res m d)) m
@[simp] theorem truK_ok (d : D) : truK (.ok d m) = R.of (trC (res m d)) m := rfl
@[simp] theorem truK_exc : truK (.exc cl fs m) = .exc cl fs m := rfl
@[simp] theorem xb_tru (e : E) : evXB M (.tru e) ρ m = truK (evE M e ρ m) := rfl
def nobK (r : R Bool) : R Bool := r.bind fun k m => .ok (!k) m
@[simp] theorem nobK_ok : nobK (.ok k m) = .ok (!k) m := rfl
@[simp] theorem xb_not (b : XB) : evXB M (.not b) ρ m = nobK (evXB M b ρ m) := rfl
def anbK (b : XB) (r : R Bool) : R Bool := r.bind fun k m => if k = true then evXB M b ρ m else .ok false m
@[simp] theorem anbK_ok (b : XB) : anbK M ρ b (.ok k m) = if k = true then evXB M b ρ m else .ok false m := rfl
@[simp] theorem xb_and (a b : XB) : evXB M (.and a b) ρ m = anbK M ρ b (evXB M a ρ m) := rfl
def orbK (b : XB) (r : R Bool) : R Bool := r.bind fun k m => if k = true then .ok true m else evXB M b ρ m
@[simp] theorem orbK_ok (b : XB) : orbK M ρ b (.ok k m) = if k = true then .ok true m else evXB M b ρ m := rfl
@[simp] theorem xb_or (a b : XB) : evXB M (.or a b) ρ m = orbK M ρ b (evXB M a ρ m) := rfl
def del3K (r : R (List Cell)) : SR := r.then ρ fun m' _ => .nx ρ m'
@[simp] theorem del3K_ok (m' : List Cell) : del3K ρ (.ok m' m) = .nx ρ m' := rfl
def del2K (o : D) (r : R D) : SR := r.then ρ fun i m => del3K ρ (R.of (delItem m o i) m)
@[simp] theorem del2K_ok (o i : D) : del2K ρ o (.ok i m) = del3K ρ (R.of (delItem m o i) m) := rfl
def delK (i : E) (r : R D) : SR := r.then ρ fun o m => del2K ρ o (evE M i ρ m)
@[simp] theorem delK_ok (i : E) (o : D) : delK M ρ i (.ok o m) = del2K ρ o (evE M i ρ m) := rfl
@[simp] theorem s_del (a i : E) : evS M (.del a i) ρ m = delK M ρ i (evE M a ρ m) := rfl
end
@[simp] theorem fsD_nil (ds : List D) (gs : List (Str × D)) : fsD ds [] gs = gs := rfl
@[simp] theorem fsD_cons (ds : List D) (f : Str) (i : Nat) (l : List (Str × Nat)) (gs : List (Str × D)) : fsD ds ((f, i) :: l) gs = fsD ds l ((match ds[i - 1]? with | some v => [(f, v)] | _ => []) ++ gs) := rfl
/-- an exception, whatever the store -/
def R.xval : R D → Option (Nat × List (Str × D))
  | .exc k fs _ => some (k, fs)
  | _ => none
@[simp] theorem xval_exc (k : Nat) (fs : List (Str × D)) (m : List Cell) : (R.exc k fs m : R D).xval = some (k, fs) := rfl
theorem pur_exc {Φ : List D → List Cell → R D} {xs : List D} {k : Nat} {fs : List (Str × D)} {m : List Cell} (h1 : pureL xs = true) (h2 : (Φ xs []).xval = some (k, fs)) (h3 : pureF fs = true) : pur Φ xs m = .exc k fs m := by
  unfold pur
  rw [if_pos h1]
  cases q : Φ xs [] with
  | ok e m' => rw [q] at h2; cases h2
  | exc _ _ _ => rw [q] at h2; cases h2; simp [h3]
  | stuck => rw [q] at h2; cases h2
/-! ### subscripts, lengths -/
@[simp] theorem idx_tup (l : List D) (i : Int) : idxD (.tup l) (.int i) = atI l i := rfl
@[simp] theorem idx_lst (l : List D) (i : Int) : idxD (.lst l) (.int i) = atI l i := rfl
@[simp] theorem idx_scr (l : List Int) (i : Int) : idxD (.scr l) (.int i) = (atI l i).map .int := rfl
@[simp] theorem atI_pos {α : Type} {l : List α} {i : Int} (h : 0 ≤ i) : atI l i = l[i.toNat]? := by
  unfold atI ixN
  rw [if_pos h]
  by_cases q : i < (l.length : Int)
  · rw [if_pos q]; rfl
  · rw [if_neg q]
    exact (List.getElem?_eq_none (by omega)).symm
@[simp] theorem idx_str {s : Str} {i : Int} (h : s.length ≤ 16777216) : idxD (.str s) (.int i) = (atI s.cps.toList i).map fun k => D.str ⟨#[k]⟩ := lim_ok h
@[simp] theorem idx_dcti (l : List (Key × D)) (i : Int) : idxD (.dct l) (.int i) = lookK l (.inl i) := rfl
@[simp] theorem idx_dcts (l : List (Key × D)) (i : Str) : idxD (.dct l) (.str i) = lookK l (.inr i) := rfl
@[simp] theorem len_tup (l : List D) : fnD "len" [.tup l] = some (.int l.length) := rfl
@[simp] theorem len_lst (l : List D) : fnD "len" [.lst l] = some (.int l.length) := rfl
@[simp] theorem len_scr (l : List Int) : fnD "len" [.scr l] = some (.int l.length) := rfl
@[simp] theorem len_dct (l : List (Key × D)) : fnD "len" [.dct l] = some (.int l.length) := rfl
@[simp] theorem len_str {s : Str} (h : s.length ≤ 16777216) : fnD "len" [.str s] = some (.int s.length) := lim_ok h
@[simp] theorem abs_int (i : Int) : fnD "abs" [.int i] = some (.int i.natAbs) := by
  show some (D.int (if i < 0 then -i else i)) = _
  congr 2
  split <;> omega
@[simp] theorem int_int (i : Int) : tyD "int" [.int i] = some (.int i) := rfl
@[simp] theorem int_bl (i : Bool) : tyD "int" [.bl i] = some (.int (if i then 1 else 0)) := rfl
@[simp] theorem list_lst (l : List D) : tyD "list" [.lst l] = some (.lst l) := rfl
@[simp] theorem list_tup (l : List D) : tyD "list" [.tup l] = some (.lst l) := rfl
@[simp] theorem tuple_lst (l : List D) : tyD "tuple" [.lst l] = some (.tup l) := rfl
@[simp] theorem tuple_tup (l : List D) : tyD "tuple" [.tup l] = some (.tup l) := rfl
theorem bools_map : ∀ l : List Bool, GS.bools (l.map D.bl) = some l
  | [] => rfl
  | b :: r => by simp [GS.bools, bools_map r]
theorem intsOf_map : ∀ l : List Int, GS.intsOf (l.map D.int) = some l
  | [] => rfl
  | b :: r => by simp [GS.intsOf, intsOf_map r]
@[simp] theorem all_bl (l : List Bool) : fnD "all" [.lst (l.map D.bl)] = some (.bl (l.all id)) := by
  show Option.map _ (GS.bools _) = _
  rw [bools_map]; rfl
@[simp] theorem any_bl (l : List Bool) : fnD "any" [.lst (l.map D.bl)] = some (.bl (l.any id)) := by
  show Option.map _ (GS.bools _) = _
  rw [bools_map]; rfl
theorem strsOf_map : ∀ l : List Str, GS.strsOf (l.map D.str) = some l
  | [] => rfl
  | b :: r => by simp [GS.strsOf, strsOf_map r]
theorem min_strs (s : Str) (r : List Str) : fnD "min" [.lst ((s :: r).map D.str)] = some (.str (minS s r)) := by
  show (match GS.strsOf ((s :: r).map D.str) with | some (s :: r) => some (D.str (minS s r)) | _ => none) = _
  rw [strsOf_map]
theorem max_strs (s : Str) (r : List Str) : fnD "max" [.lst ((s :: r).map D.str)] = some (.str (maxS s r)) := by
  show (match GS.strsOf ((s :: r).map D.str) with | some (s :: r) => some (D.str (maxS s r)) | _ => none) = _
  rw [strsOf_map]
@[simp] theorem sum_int (l : List Int) : fnD "sum" [.lst (l.map D.int)] = some (.int l.sum) := by
  show Option.map _ (GS.intsOf _) = _
  rw [intsOf_map]; rfl
@[simp] theorem rng1_ok {j : Int} (h1 : -4611686018427387904 ≤ j) (h2 : j < 4611686018427387904) : rng1D (.int j) = some (.lst (rangeD 0 j.toNat)) := by
  unfold rng1D in62
  exact if_pos (cd_pos ⟨h1, h2⟩)
@[simp] theorem rng2_ok {i j : Int} (h1 : -4611686018427387904 ≤ i) (h2 : i < 4611686018427387904) (h3 : -4611686018427387904 ≤ j) (h4 : j < 4611686018427387904) : rng2D (.int i) (.int j) = some (.lst (rangeD i (j - i).toNat)) := by
  unfold rng2D in62
  dsimp only
  rw [cd_pos (p := -(2 ^ 62) ≤ i ∧ i < 2 ^ 62) ⟨h1, h2⟩, cd_pos (p := -(2 ^ 62) ≤ j ∧ j < 2 ^ 62) ⟨h3, h4⟩]; rfl
@[simp] theorem rngd_ok {i j : Int} (h1 : -4611686018427387904 ≤ i) (h2 : i < 4611686018427387904) (h3 : -4611686018427387904 ≤ j) (h4 : j < 4611686018427387904) : rngdD (.int i) (.int j) = some (.lst (downD i (i - j).toNat)) := by
  unfold rngdD in62
  dsimp only
  rw [cd_pos (p := -(2 ^ 62) ≤ i ∧ i < 2 ^ 62) ⟨h1, h2⟩, cd_pos (p := -(2 ^ 62) ≤ j ∧ j < 2 ^ 62) ⟨h3, h4⟩]; rfl
theorem downD_zero (hi : Int) : downD hi 0 = [] := rfl
theorem downD_succ (hi : Int) (n : Nat) : downD hi (n + 1) = .int hi :: downD (hi - 1) n := by
  unfold downD
  rw [List.range_succ_eq_map, List.map_cons, List.map_map]
  congr 1
  · congr 1; omega
  · refine List.map_congr_left fun i _ => ?_
    show D.int _ = D.int _
    congr 1
    push_cast
    omega
@[simp] theorem in_str {k : Nat} {z : Str} : inB (.str ⟨#[k]⟩) (.str z) = some (decide (k ∈ z.cps.toList)) := rfl
@[simp] theorem bits_int (i : Int) : bitsD (.int i) = some (.int (Builtin.Int.intBits i : Nat)) := rfl
@[simp] theorem isA_bl (b : Bool) : isD "bool" (.bl b) = some (.bl true) := rfl
@[simp] theorem nat_le_lit (n k : Nat) : ((n : Int) ≤ (no_index (@OfNat.ofNat Int k _))) = (n ≤ @OfNat.ofNat Nat k _) := propext Int.ofNat_le
@[simp] theorem lit_le_nat (n k : Nat) : ((no_index (@OfNat.ofNat Int k _)) ≤ (n : Int)) = (@OfNat.ofNat Nat k _ ≤ n) := propext Int.ofNat_le
@[simp] theorem nat_lt_lit (n k : Nat) : ((n : Int) < (no_index (@OfNat.ofNat Int k _))) = (n < @OfNat.ofNat Nat k _) := propext Int.ofNat_lt
@[simp] theorem lit_lt_nat (n k : Nat) : ((no_index (@OfNat.ofNat Int k _)) < (n : Int)) = (@OfNat.ofNat Nat k _ < n) := propext Int.ofNat_lt
@[simp] theorem nat_eq_lit (n k : Nat) : ((n : Int) = (no_index (@OfNat.ofNat Int k _))) = (n = @OfNat.ofNat Nat k _) := propext Int.ofNat_inj
@[simp] theorem nat_eq_nat (n k : Nat) : ((n : Int) = (k : Int)) = (n = k) := propext Int.ofNat_inj
@[simp] theorem nat_le_nat (n k : Nat) : ((n : Int) ≤ (k : Int)) = (n ≤ k) := propext Int.ofNat_le
@[simp] theorem nat_lt_nat (n k : Nat) : ((n : Int) < (k : Int)) = (n < k) := propext Int.ofNat_lt
theorem tags : ((PySem.Str.ofString "leaf") = (PySem.Str.ofString "branch")) = False ∧ ((PySem.Str.ofString "leaf") = (PySem.Str.ofString "cut")) = False ∧ ((PySem.Str.ofString "branch") = (PySem.Str.ofString "leaf")) = False ∧ ((PySem.Str.ofString "branch") = (PySem.Str.ofString "cut")) = False ∧ ((PySem.Str.ofString "cut") = (PySem.Str.ofString "leaf")) = False ∧ ((PySem.Str.ofString "cut") = (PySem.Str.ofString "branch")) = False := by
  refine ⟨?_, ?_, ?_, ?_, ?_, ?_⟩ <;> exact eq_false (by decide)
/-! ### any, all over generator expressions -/
theorem qAll_map {α : Type} {g : α → D} {f : α → Bool} {p : D → Option Bool} : ∀ {l : List α}, (∀ x ∈ l, p (g x) = some (f x)) → qAll p (l.map g) = some (l.map f)
  | [], _ => rfl
  | x :: l, h => by
    show (p (g x)).bind (fun b => (qAll p (l.map g)).bind fun bs => some (b :: bs)) = _
    rw [h x List.mem_cons_self, qAll_map fun y hy => h y (List.mem_cons_of_mem _ hy)]
    rfl
theorem boolOf_map {α : Type} (al : Bool) (f : α → Bool) (l : List α) : boolOf al (l.map f) = if al = true then l.all f else l.any f := by
  unfold boolOf
  cases al <;> simp
theorem gq_tup {α : Type} {g : α → D} {f : α → Bool} {p : D → Option Bool} {al : Bool} {l : List α} (h : ∀ x ∈ l, p (g x) = some (f x)) : gqD al p (.tup (l.map g)) = some (.bl (if al = true then l.all f else l.any f)) := by
  show (qAll p (l.map g)).map (fun bs => D.bl (boolOf al bs)) = _
  rw [qAll_map h, Option.map_some, boolOf_map]
theorem gq_lst {α : Type} {g : α → D} {f : α → Bool} {p : D → Option Bool} {al : Bool} {l : List α} (h : ∀ x ∈ l, p (g x) = some (f x)) : gqD al p (.lst (l.map g)) = some (.bl (if al = true then l.all f else l.any f)) := by
  show (qAll p (l.map g)).map (fun bs => D.bl (boolOf al bs)) = _
  rw [qAll_map h, Option.map_some, boolOf_map]
theorem gq_str {f : Nat → Bool} {p : D → Option Bool} {al : Bool} {s : Str} (h : ∀ x ∈ s.cps.toList, p (.str ⟨#[x]⟩) = some (f x)) : gqD al p (.str s) = some (.bl (if al = true then s.cps.toList.all f else s.cps.toList.any f)) := by
  show (qAll p (signsG s)).map (fun bs => D.bl (boolOf al bs)) = _
  unfold signsG
  rw [qAll_map h, Option.map_some, boolOf_map]
theorem gqV_tup {α : Type} {g : α → D} {f : α → Bool} {al : Bool} {Γ : Nat → D} {q : QE} {ρ : List D} {l : List α} (h : ∀ x ∈ l, qe Γ ρ (g x) q = some (f x)) : gqV al Γ q ρ (.tup (l.map g)) = some (.bl (if al = true then l.all f else l.any f)) := gq_tup h
theorem gqV_lst {α : Type} {g : α → D} {f : α → Bool} {al : Bool} {Γ : Nat → D} {q : QE} {ρ : List D} {l : List α} (h : ∀ x ∈ l, qe Γ ρ (g x) q = some (f x)) : gqV al Γ q ρ (.lst (l.map g)) = some (.bl (if al = true then l.all f else l.any f)) := gq_lst h
theorem gqV_str {f : Nat → Bool} {al : Bool} {Γ : Nat → D} {q : QE} {ρ : List D} {s : Str} (h : ∀ x ∈ s.cps.toList, qe Γ ρ (.str ⟨#[x]⟩) q = some (f x)) : gqV al Γ q ρ (.str s) = some (.bl (if al = true then s.cps.toList.all f else s.cps.toList.any f)) := gq_str h
end GS
end

noncomputable section
namespace SG
open PySem L2 GS
def F_Sealer___init__ : Nat := 17
def F_Sealer_seal : Nat := 19
def F__law_seal : Nat := 26
def F_lock_of : Nat := 99
def F_is_notes : Nat := 100
def F_is_enough : Nat := 101
def F_new_account : Nat := 102
def F__law_cell_v2 : Nat := 103
def F__law_numbers_v2 : Nat := 104
def F__law_modulus_v2 : Nat := 105
def F__law_near : Nat := 106
def F__law_valid : Nat := 107
def F_law_v6 : Nat := 108
def C_GroveError : Nat := 0
def C_InvalidSealer : Nat := 1
def C_Sealer : Nat := 2
def C_NoSuchName : Nat := 3
def C_NotShown : Nat := 4
def C_InvalidText : Nat := 5
def C_TreeReader : Nat := 6
def C_InvalidTree : Nat := 7
def C_WrongRoot : Nat := 8
def C_Unlike : Nat := 9
def C_Uneven : Nat := 10
def C_TooManyEpochs : Nat := 11
def C_NoSuchEpoch : Nat := 12
def C_Chronicle : Nat := 13
def C_CutOff : Nat := 14
def C_InvalidShelf : Nat := 15
def C_Shelf : Nat := 16
def C_InvalidRules : Nat := 17
def C_InvalidNotes : Nat := 18
def C_InvalidGroup : Nat := 19
def C_GroupRefused : Nat := 20
def C_NoAccount : Nat := 21
def C_Rules : Nat := 22
def C_Group : Nat := 23
def C_Doing : Nat := 24
def C_Receipts : Nat := 25
def C_Ledger : Nat := 26
def C_UnknownKeys : Nat := 27
def C_Wallet : Nat := 28
def C_Copy : Nat := 29
def C_BadStep : Nat := 30
def C_BookRefused : Nat := 31
def C_InvalidHouse : Nat := 32
def C_InvalidValue : Nat := 33
def C_SignedAlready : Nat := 34
def C_BadStatement : Nat := 35
def C_House : Nat := 36
def C_Auditor : Nat := 37
def C_ReportRefused : Nat := 38
def C_Watcher : Nat := 39
def G_LEAST_MODULUS : Nat := 9
def G_GREATEST_MODULUS : Nat := 10
def G_MOST_WORTH : Nat := 15
def G_MOST_EPOCH : Nat := 16
def G_NOTES : Nat := 17
def G_KEY_TAG : Nat := 18
def gam : Nat → D
  | 9 => .int 3
  | 10 => .int 2305843009213693951
  | 15 => .int 1000000000000
  | 16 => .int 1000000
  | 17 => .int 8
  | 18 => .int 7
  | _ => .non
@[simp] theorem gam_LEAST_MODULUS : gam G_LEAST_MODULUS = .int 3 := rfl
@[simp] theorem gam_GREATEST_MODULUS : gam G_GREATEST_MODULUS = .int 2305843009213693951 := rfl
@[simp] theorem gam_MOST_WORTH : gam G_MOST_WORTH = .int 1000000000000 := rfl
@[simp] theorem gam_MOST_EPOCH : gam G_MOST_EPOCH = .int 1000000 := rfl
@[simp] theorem gam_NOTES : gam G_NOTES = .int 8 := rfl
@[simp] theorem gam_KEY_TAG : gam G_KEY_TAG = .int 7 := rfl
def N_Sealer___init__ : List Str := [(PySem.Str.ofString "self"), (PySem.Str.ofString "modulus")]
def P_Sealer___init__ : List Str := [(PySem.Str.ofString "self"), (PySem.Str.ofString "modulus")]
def b_Sealer___init__ : List S := [
    .ite (.not (.chain .LtE .LtE (.glob G_LEAST_MODULUS) (.var 1) (.glob G_GREATEST_MODULUS)))
    [.raise C_InvalidSealer [.var 1]]
    [],
    .fput (.var 0) (PySem.Str.ofString "_modulus") (.var 1)]
theorem run_Sealer___init__ (M : Sem) (x0 x1 : D) (m : List Cell) : runB M N_Sealer___init__.length b_Sealer___init__ [x0, x1] m = outR (evB M b_Sealer___init__ [x0, x1] m) := rfl
def b_Sealer_seal_L1 : List S := [.asg 2 (.bin .Mod (.ty "int" [.bin .Add (.bin .Add (.bin .Add (.bin .Mult (.bin .Mult (.var 2) (.var 2)) (.var 2)) (.bin .Mult (.int 5) (.var 2))) (.bin .Mult (.int 3) (.var 3))) (.int 1)]) (.fld (PySem.Str.ofString "_modulus") (.var 0)))]
def N_Sealer_seal : List Str := [(PySem.Str.ofString "self"), (PySem.Str.ofString "row"), (PySem.Str.ofString "value"), (PySem.Str.ofString "number")]
def P_Sealer_seal : List Str := [(PySem.Str.ofString "self"), (PySem.Str.ofString "row")]
def b_Sealer_seal : List S := [
    .asg 2 (.int 1),
    .loop (.one 3) (.bin .Add (.ty "list" [.var 1]) (.lst [.fn "len" [.var 1]])) b_Sealer_seal_L1,
    .ret (.var 2)]
theorem run_Sealer_seal (M : Sem) (x0 x1 : D) (m : List Cell) : runB M N_Sealer_seal.length b_Sealer_seal [x0, x1] m = outR (evB M b_Sealer_seal [x0, x1, .no, .no] m) := rfl
def b__law_seal_L1 : List S := [.asg 2 (.bin .Mod (.ty "int" [.bin .Add (.bin .Add (.bin .Add (.bin .Mult (.bin .Mult (.var 2) (.var 2)) (.var 2)) (.bin .Mult (.int 5) (.var 2))) (.bin .Mult (.int 3) (.var 3))) (.int 1)]) (.var 0))]
def N__law_seal : List Str := [(PySem.Str.ofString "_law_modulus_here"), (PySem.Str.ofString "_law_row"), (PySem.Str.ofString "_law_value"), (PySem.Str.ofString "_law_number")]
def P__law_seal : List Str := [(PySem.Str.ofString "_law_modulus_here"), (PySem.Str.ofString "_law_row")]
def b__law_seal : List S := [
    .asg 2 (.int 1),
    .loop (.one 3) (.bin .Add (.ty "list" [.var 1]) (.lst [.fn "len" [.var 1]])) b__law_seal_L1,
    .ret (.var 2)]
theorem run__law_seal (M : Sem) (x0 x1 : D) (m : List Cell) : runB M N__law_seal.length b__law_seal [x0, x1] m = outR (evB M b__law_seal [x0, x1, .no, .no] m) := rfl
def N_lock_of : List Str := [(PySem.Str.ofString "sealer"), (PySem.Str.ofString "key")]
def P_lock_of : List Str := [(PySem.Str.ofString "sealer"), (PySem.Str.ofString "key")]
def b_lock_of : List S := [
    .ret (.bin .Add (.meth true (PySem.Str.ofString "seal") (.var 0) [.tup [.glob G_KEY_TAG, .var 1]]) (.int 1))]
theorem run_lock_of (M : Sem) (x0 x1 : D) (m : List Cell) : runB M N_lock_of.length b_lock_of [x0, x1] m = outR (evB M b_lock_of [x0, x1] m) := rfl
def b_is_notes_I1 : E := .cmp .Gt (.var 4) (.int 0)
def b_is_notes_C1 : E := .var 4
def b_is_notes_K1 : E := .comp (.one 4) [4] (.var 3) (some b_is_notes_I1) b_is_notes_C1
def N_is_notes : List Str := [(PySem.Str.ofString "notes"), (PySem.Str.ofString "kinds"), (PySem.Str.ofString "modulus"), (PySem.Str.ofString "locks"), (PySem.Str.ofString "lock"), (PySem.Str.ofString "<g>")]
def P_is_notes : List Str := [(PySem.Str.ofString "notes"), (PySem.Str.ofString "kinds"), (PySem.Str.ofString "modulus")]
def b_is_notes : List S := [
    .ite (.or [.cmp .NotEq (.fn "len" [.var 0]) (.glob G_NOTES), .gq false (.cmp .Lt .own (.int 0)) (.var 0)])
    [.ret (.bl false)]
    [],
    .asg 3 (.slc (.var 0) none (some (.int 3))),
    .ite (.gq false (.cmp .Gt .own (.free 2)) (.var 3))
    [.ret (.bl false)]
    [],
    .ite (.cmp .Gt (.idx (.var 0) (.int 3)) (.fn "len" [b_is_notes_K1]))
    [.ret (.bl false)]
    [],
    .ite (.or [.cmp .Gt (.idx (.var 0) (.int 4)) (.glob G_MOST_WORTH), .cmp .Gt (.idx (.var 0) (.int 6)) (.glob G_MOST_WORTH)])
    [.ret (.bl false)]
    [],
    .ret (.and [.cmp .Lt (.idx (.var 0) (.int 5)) (.var 1), .cmp .LtE (.idx (.var 0) (.int 7)) (.glob G_MOST_EPOCH)])]
theorem run_is_notes (M : Sem) (x0 x1 x2 : D) (m : List Cell) : runB M N_is_notes.length b_is_notes [x0, x1, x2] m = outR (evB M b_is_notes [x0, x1, x2, .no, .no, .no] m) := rfl
def N_is_enough : List Str := [(PySem.Str.ofString "notes"), (PySem.Str.ofString "worths"), (PySem.Str.ofString "epoch")]
def P_is_enough : List Str := [(PySem.Str.ofString "notes"), (PySem.Str.ofString "worths"), (PySem.Str.ofString "epoch")]
def b_is_enough : List S := [
    .ret (.or [.cmp .GtE (.var 2) (.idx (.var 0) (.int 7)), .cmp .GtE (.idx (.var 1) (.idx (.var 0) (.int 5))) (.idx (.var 0) (.int 6))])]
theorem run_is_enough (M : Sem) (x0 x1 x2 : D) (m : List Cell) : runB M N_is_enough.length b_is_enough [x0, x1, x2] m = outR (evB M b_is_enough [x0, x1, x2] m) := rfl
def b_new_account_C1 : E := .int 0
def b_new_account_K1 : E := .comp (.one 3) [3] (.rng1 (.var 1)) none b_new_account_C1
def N_new_account : List Str := [(PySem.Str.ofString "name"), (PySem.Str.ofString "kinds"), (PySem.Str.ofString "notes"), (PySem.Str.ofString "_")]
def P_new_account : List Str := [(PySem.Str.ofString "name"), (PySem.Str.ofString "kinds"), (PySem.Str.ofString "notes")]
def b_new_account : List S := [
    .ret (.tup [.str (PySem.Str.ofString "leaf"), .var 0, .ty "tuple" [b_new_account_K1], .ty "tuple" [.var 2]])]
theorem run_new_account (M : Sem) (x0 x1 x2 : D) (m : List Cell) : runB M N_new_account.length b_new_account [x0, x1, x2] m = outR (evB M b_new_account [x0, x1, x2, .no] m) := rfl
def N__law_cell_v2 : List Str := [(PySem.Str.ofString "_law_script"), (PySem.Str.ofString "_law_k")]
def P__law_cell_v2 : List Str := [(PySem.Str.ofString "_law_script"), (PySem.Str.ofString "_law_k")]
def b__law_cell_v2 : List S := [
    .ite (.cmp .Lt (.var 1) (.fn "len" [.var 0]))
    [.ret (.idx (.var 0) (.var 1))]
    [],
    .ret (.int 0)]
theorem run__law_cell_v2 (M : Sem) (x0 x1 : D) (m : List Cell) : runB M N__law_cell_v2.length b__law_cell_v2 [x0, x1] m = outR (evB M b__law_cell_v2 [x0, x1] m) := rfl
def b__law_numbers_v2_L1 : List S := [.asg 4 (.bin .Mod (.ty "int" [.bin .Add (.bin .Add (.bin .Mult (.var 4) (.int 48271)) (.bin .Mult (.var 6) (.int 69621))) (.int 7)]) (.int 2147483647)),
    .ite (.and [.var 3, .cmp .Gt (.var 2) (.int 0)])
    [.app (.var 5) (.bin .Mod (.ty "int" [.var 2]) (.int 1000)),
    .asg 2 (.bin .FloorDiv (.var 2) (.int 1000))]
    [.app (.var 5) (.bin .Mod (.ty "int" [.bin .FloorDiv (.var 4) (.int 13)]) (.int 1000))]]
def N__law_numbers_v2 : List Str := [(PySem.Str.ofString "_law_cell_here"), (PySem.Str.ofString "_law_count"), (PySem.Str.ofString "_law_rest"), (PySem.Str.ofString "_law_large"), (PySem.Str.ofString "_law_mixed"), (PySem.Str.ofString "_law_row"), (PySem.Str.ofString "_law_k")]
def P__law_numbers_v2 : List Str := [(PySem.Str.ofString "_law_cell_here"), (PySem.Str.ofString "_law_count")]
def b__law_numbers_v2 : List S := [
    .asg 2 (.fn "abs" [.ty "int" [.var 0]]),
    .asg 3 (.cmp .GtE (.var 2) (.int 1000000000000000000)),
    .asg 4 (.bin .Add (.bin .Mod (.ty "int" [.var 2]) (.int 2147483629)) (.int 1)),
    .asg 5 (.own (.lst [])),
    .loop (.one 6) (.rng1 (.var 1)) b__law_numbers_v2_L1,
    .frz 5 (.ret (.var 5))]
theorem run__law_numbers_v2 (M : Sem) (x0 x1 : D) (m : List Cell) : runB M N__law_numbers_v2.length b__law_numbers_v2 [x0, x1] m = outR (evB M b__law_numbers_v2 [x0, x1, .no, .no, .no, .no, .no] m) := rfl
def N__law_modulus_v2 : List Str := [(PySem.Str.ofString "_law_cell_here"), (PySem.Str.ofString "_law_kind")]
def P__law_modulus_v2 : List Str := [(PySem.Str.ofString "_law_cell_here")]
def b__law_modulus_v2 : List S := [
    .asg 1 (.bin .Mod (.ty "int" [.var 0]) (.int 6)),
    .ite (.cmp .Eq (.var 1) (.int 0))
    [.ret (.bin .Add (.int 3) (.bin .Mod (.bin .FloorDiv (.ty "int" [.var 0]) (.int 6)) (.int 60)))]
    [],
    .ite (.cmp .Eq (.var 1) (.int 1))
    [.ret (.bin .Add (.int 3) (.bin .Mod (.bin .FloorDiv (.ty "int" [.var 0]) (.int 6)) (.int 5000)))]
    [],
    .ret (.idx (.lst [.int 2305843009213693951, .int 1000003, .int 2147483647, .int 998244353]) (.bin .Sub (.var 1) (.int 2)))]
theorem run__law_modulus_v2 (M : Sem) (x0 : D) (m : List Cell) : runB M N__law_modulus_v2.length b__law_modulus_v2 [x0] m = outR (evB M b__law_modulus_v2 [x0, .no] m) := rfl
def N__law_near : List Str := [(PySem.Str.ofString "_law_row"), (PySem.Str.ofString "_law_bound")]
def P__law_near : List Str := [(PySem.Str.ofString "_law_row"), (PySem.Str.ofString "_law_bound")]
def b__law_near : List S := [
    .ret (.idx (.lst [.bin .Mod (.idx (.var 0) (.int 0)) (.int 3), .bin .Sub (.var 1) (.bin .Mod (.idx (.var 0) (.int 0)) (.int 2)), .bin .Add (.bin .Add (.var 1) (.int 1)) (.bin .Mod (.idx (.var 0) (.int 0)) (.int 2)), .bin .Mod (.bin .Add (.bin .Mult (.idx (.var 0) (.int 0)) (.int 1000003)) (.idx (.var 0) (.int 1))) (.bin .Add (.var 1) (.int 1))]) (.bin .Mod (.ty "int" [.idx (.var 0) (.int 1)]) (.int 4)))]
theorem run__law_near (M : Sem) (x0 x1 : D) (m : List Cell) : runB M N__law_near.length b__law_near [x0, x1] m = outR (evB M b__law_near [x0, x1] m) := rfl
def b__law_valid_L1 : List S := [.ite (.cmp .Gt (.var 4) (.var 2))
    [.ret (.bl false)]
    [],
    .ite (.cmp .Gt (.var 4) (.int 0))
    [.asg 3 (.bin .Add (.var 3) (.int 1))]
    []]
def N__law_valid : List Str := [(PySem.Str.ofString "_law_notes"), (PySem.Str.ofString "_law_kinds"), (PySem.Str.ofString "_law_modulus_here"), (PySem.Str.ofString "_law_there"), (PySem.Str.ofString "_law_lock")]
def P__law_valid : List Str := [(PySem.Str.ofString "_law_notes"), (PySem.Str.ofString "_law_kinds"), (PySem.Str.ofString "_law_modulus_here")]
def b__law_valid : List S := [
    .asg 3 (.int 0),
    .loop (.one 4) (.slc (.var 0) none (some (.int 3))) b__law_valid_L1,
    .ite (.or [.cmp .Gt (.idx (.var 0) (.int 3)) (.var 3), .cmp .Gt (.idx (.var 0) (.int 4)) (.bin .Pow (.int 10) (.int 12)), .cmp .Gt (.idx (.var 0) (.int 6)) (.bin .Pow (.int 10) (.int 12))])
    [.ret (.bl false)]
    [],
    .ret (.and [.cmp .Lt (.idx (.var 0) (.int 5)) (.var 1), .cmp .LtE (.idx (.var 0) (.int 7)) (.bin .Pow (.int 10) (.int 6))])]
theorem run__law_valid (M : Sem) (x0 x1 x2 : D) (m : List Cell) : runB M N__law_valid.length b__law_valid [x0, x1, x2] m = outR (evB M b__law_valid [x0, x1, x2, .no, .no] m) := rfl
def b_law_v6_C1 : E := .bin .Mod (.ty "int" [.idx (.var 6) (.var 11)]) (.idx (.lst [.bin .Add (.var 1) (.int 1), .bin .Add (.var 1) (.int 1), .bin .Add (.var 1) (.int 1), .int 4, .bin .Pow (.int 10) (.int 12), .var 5, .bin .Pow (.int 10) (.int 12), .bin .Pow (.int 10) (.int 6)]) (.var 11))
def b_law_v6_K1 : E := .comp (.one 11) [11] (.rng1 (.int 8)) none b_law_v6_C1
def b_law_v6_C2 : E := .fn "min" [.bin .Pow (.int 10) (.int 12), .call true F__law_near [.slc (.var 4) (some (.bin .Add (.int 14) (.bin .Mult (.int 2) (.var 11)))) (some (.bin .Add (.int 16) (.bin .Mult (.int 2) (.var 11)))), .bin .Pow (.int 10) (.int 12)]]
def b_law_v6_K2 : E := .comp (.one 11) [11] (.rng1 (.var 5)) none b_law_v6_C2
def b_law_v6_C3 : E := .fn "min" [.bin .Pow (.int 10) (.int 12), .fn "max" [.int 0, .bin .Sub (.bin .Add (.idx (.var 6) (.int 6)) (.bin .Mod (.idx (.var 4) (.int 23)) (.int 3))) (.int 1)]]
def b_law_v6_K3 : E := .comp (.one 11) [11] (.rng1 (.var 5)) none b_law_v6_C3
def b_law_v6_L1 : List S := [.asg 4 (.call true F__law_numbers_v2 [.call true F__law_cell_v2 [.var 0, .var 3], .int 24]),
    .asg 5 (.bin .Add (.int 1) (.bin .Mod (.idx (.var 4) (.int 20)) (.int 3))),
    .asg 6 (.own (.lst [.call true F__law_near [.slc (.var 4) (some (.int 0)) (some (.int 2)), .var 1], .call true F__law_near [.slc (.var 4) (some (.int 2)) (some (.int 4)), .var 1], .call true F__law_near [.slc (.var 4) (some (.int 4)) (some (.int 6)), .var 1]])),
    .asg 6 (.own (.bin .Add (.var 6) (.lst [.bin .Mod (.idx (.var 4) (.int 6)) (.int 5), .call true F__law_near [.slc (.var 4) (some (.int 7)) (some (.int 9)), .bin .Pow (.int 10) (.int 12)], .bin .Mod (.idx (.var 4) (.int 9)) (.int 4), .call true F__law_near [.slc (.var 4) (some (.int 10)) (some (.int 12)), .bin .Pow (.int 10) (.int 12)]]))),
    .app (.var 6) (.call true F__law_near [.slc (.var 4) (some (.int 12)) (some (.int 14)), .bin .Pow (.int 10) (.int 6)]),
    .ite (.cmp .NotEq (.bin .Mod (.idx (.var 4) (.int 21)) (.int 3)) (.int 0))
    [.asg 6 (.own (b_law_v6_K1))]
    [],
    .ite (.cmp .Eq (.bin .Mod (.idx (.var 4) (.int 22)) (.int 9)) (.int 4))
    [.put (.var 6) (.bin .Mod (.ty "int" [.idx (.var 4) (.int 23)]) (.int 8)) (.bin .Sub (.neg (.int 1)) (.idx (.var 4) (.int 22)))]
    [],
    .asg 7 (.call true F_is_notes [.ty "tuple" [.var 6], .var 5, .var 1]),
    .frz 6 (.ite (.or [.cmp .NotEq (.var 7) (.and [.cmp .GtE (.fn "min" [.var 6]) (.int 0), .call true F__law_valid [.var 6, .var 5, .var 1]]), .not (.isA "bool" (.var 7))])
    [.ret (.bl false)]
    []),
    .asg 8 (.fn "abs" [.ty "int" [.call true F__law_cell_v2 [.var 0, .var 3]]]),
    .ite (.cmp .NotEq (.call true F_lock_of [.var 2, .var 8]) (.bin .Add (.call true F__law_seal [.var 1, .tup [.int 7, .var 8]]) (.int 1)))
    [.ret (.bl false)]
    [],
    .ite (.var 7)
    [.asg 9 (.ty "tuple" [b_law_v6_K2]),
    .ite (.cmp .Eq (.bin .Mod (.idx (.var 4) (.int 22)) (.int 2)) (.int 0))
    [.asg 9 (.ty "tuple" [b_law_v6_K3])]
    [],
    .asg 10 (.idx (.lst [.idx (.var 6) (.int 7), .bin .Add (.idx (.var 6) (.int 7)) (.int 1), .fn "max" [.int 0, .bin .Sub (.idx (.var 6) (.int 7)) (.int 1)], .idx (.var 4) (.int 23)]) (.bin .Mod (.ty "int" [.idx (.var 4) (.int 22)]) (.int 4))),
    .ite (.cmp .NotEq (.call true F_is_enough [.ty "tuple" [.var 6], .var 9, .var 10]) (.or [.cmp .GtE (.var 10) (.idx (.var 6) (.int 7)), .cmp .GtE (.idx (.var 9) (.idx (.var 6) (.int 5))) (.idx (.var 6) (.int 6))]))
    [.ret (.bl false)]
    [],
    .ite (.cmp .NotEq (.call true F_new_account [.str (PySem.Str.ofString "ab"), .var 5, .ty "tuple" [.var 6]]) (.tup [.str (PySem.Str.ofString "leaf"), .str (PySem.Str.ofString "ab"), .ty "tuple" [.bin .Mult (.lst [.int 0]) (.var 5)], .ty "tuple" [.var 6]]))
    [.ret (.bl false)]
    []]
    []]
def N_law_v6 : List Str := [(PySem.Str.ofString "_law_script"), (PySem.Str.ofString "_law_modulus_here"), (PySem.Str.ofString "_law_sealer"), (PySem.Str.ofString "_law_k"), (PySem.Str.ofString "_law_row"), (PySem.Str.ofString "_law_kinds"), (PySem.Str.ofString "_law_notes"), (PySem.Str.ofString "_law_told"), (PySem.Str.ofString "_law_key"), (PySem.Str.ofString "_law_worths"), (PySem.Str.ofString "_law_epoch"), (PySem.Str.ofString "_law_j")]
def P_law_v6 : List Str := [(PySem.Str.ofString "_law_script")]
def b_law_v6 : List S := [
    .asg 1 (.call true F__law_modulus_v2 [.call true F__law_cell_v2 [.var 0, .int 0]]),
    .asg 2 (.frz (.make C_Sealer [.var 1])),
    .loop (.one 3) (.rng2 (.int 1) (.fn "min" [.int 40, .fn "max" [.int 6, .fn "len" [.var 0]]])) b_law_v6_L1,
    .ret (.bl true)]
theorem run_law_v6 (M : Sem) (x0 : D) (m : List Cell) : runB M N_law_v6.length b_law_v6 [x0] m = outR (evB M b_law_v6 [x0, .no, .no, .no, .no, .no, .no, .no, .no, .no, .no, .no] m) := rfl
def body : Nat → Def
  | 17 => ⟨N_Sealer___init__, P_Sealer___init__, b_Sealer___init__⟩
  | 19 => ⟨N_Sealer_seal, P_Sealer_seal, b_Sealer_seal⟩
  | 26 => ⟨N__law_seal, P__law_seal, b__law_seal⟩
  | 99 => ⟨N_lock_of, P_lock_of, b_lock_of⟩
  | 100 => ⟨N_is_notes, P_is_notes, b_is_notes⟩
  | 101 => ⟨N_is_enough, P_is_enough, b_is_enough⟩
  | 102 => ⟨N_new_account, P_new_account, b_new_account⟩
  | 103 => ⟨N__law_cell_v2, P__law_cell_v2, b__law_cell_v2⟩
  | 104 => ⟨N__law_numbers_v2, P__law_numbers_v2, b__law_numbers_v2⟩
  | 105 => ⟨N__law_modulus_v2, P__law_modulus_v2, b__law_modulus_v2⟩
  | 106 => ⟨N__law_near, P__law_near, b__law_near⟩
  | 107 => ⟨N__law_valid, P__law_valid, b__law_valid⟩
  | 108 => ⟨N_law_v6, P_law_v6, b_law_v6⟩
  | _ => ⟨[], [], []⟩
theorem body_Sealer___init__ : body F_Sealer___init__ = ⟨N_Sealer___init__, P_Sealer___init__, b_Sealer___init__⟩ := rfl
theorem body_Sealer_seal : body F_Sealer_seal = ⟨N_Sealer_seal, P_Sealer_seal, b_Sealer_seal⟩ := rfl
theorem body__law_seal : body F__law_seal = ⟨N__law_seal, P__law_seal, b__law_seal⟩ := rfl
theorem body_lock_of : body F_lock_of = ⟨N_lock_of, P_lock_of, b_lock_of⟩ := rfl
theorem body_is_notes : body F_is_notes = ⟨N_is_notes, P_is_notes, b_is_notes⟩ := rfl
theorem body_is_enough : body F_is_enough = ⟨N_is_enough, P_is_enough, b_is_enough⟩ := rfl
theorem body_new_account : body F_new_account = ⟨N_new_account, P_new_account, b_new_account⟩ := rfl
theorem body__law_cell_v2 : body F__law_cell_v2 = ⟨N__law_cell_v2, P__law_cell_v2, b__law_cell_v2⟩ := rfl
theorem body__law_numbers_v2 : body F__law_numbers_v2 = ⟨N__law_numbers_v2, P__law_numbers_v2, b__law_numbers_v2⟩ := rfl
theorem body__law_modulus_v2 : body F__law_modulus_v2 = ⟨N__law_modulus_v2, P__law_modulus_v2, b__law_modulus_v2⟩ := rfl
theorem body__law_near : body F__law_near = ⟨N__law_near, P__law_near, b__law_near⟩ := rfl
theorem body__law_valid : body F__law_valid = ⟨N__law_valid, P__law_valid, b__law_valid⟩ := rfl
theorem body_law_v6 : body F_law_v6 = ⟨N_law_v6, P_law_v6, b_law_v6⟩ := rfl
def tab : Tab := ⟨[(F__law_seal, (PySem.Str.ofString "_law_seal"), 2), (F_lock_of, (PySem.Str.ofString "lock_of"), 2), (F_is_notes, (PySem.Str.ofString "is_notes"), 3), (F_is_enough, (PySem.Str.ofString "is_enough"), 3), (F_new_account, (PySem.Str.ofString "new_account"), 3), (F__law_cell_v2, (PySem.Str.ofString "_law_cell"), 2), (F__law_numbers_v2, (PySem.Str.ofString "_law_numbers"), 2), (F__law_modulus_v2, (PySem.Str.ofString "_law_modulus"), 1), (F__law_near, (PySem.Str.ofString "_law_near"), 2), (F__law_valid, (PySem.Str.ofString "_law_valid"), 3), (F_law_v6, (PySem.Str.ofString "law"), 1)], [(G_LEAST_MODULUS, (PySem.Str.ofString "LEAST_MODULUS")), (G_GREATEST_MODULUS, (PySem.Str.ofString "GREATEST_MODULUS")), (G_MOST_WORTH, (PySem.Str.ofString "MOST_WORTH")), (G_MOST_EPOCH, (PySem.Str.ofString "MOST_EPOCH")), (G_NOTES, (PySem.Str.ofString "NOTES")), (G_KEY_TAG, (PySem.Str.ofString "KEY_TAG"))], ["abs", "any", "bool", "int", "isinstance", "len", "list", "max", "min", "range", "tuple"], [(C_Sealer, (PySem.Str.ofString "Sealer"), F_Sealer___init__, 2)], [(C_Sealer, (PySem.Str.ofString "seal"), F_Sealer_seal, 2)], [(C_Sealer, (PySem.Str.ofString "_modulus"))], [(C_InvalidSealer, (PySem.Str.ofString "InvalidSealer"), [((PySem.Str.ofString "modulus"), 1)], 2)], [], []⟩
@[simp] theorem xl_InvalidSealer : Tab.xl tab C_InvalidSealer = [((PySem.Str.ofString "modulus"), 1)] := by decide +kernel
@[simp] theorem xfl_InvalidSealer_modulus : Tab.xfl tab C_InvalidSealer (PySem.Str.ofString "modulus") = true := by decide +kernel
@[simp] theorem mt_Sealer_seal : Tab.mt tab C_Sealer (PySem.Str.ofString "seal") = some F_Sealer_seal := by decide +kernel
@[simp] theorem ini_Sealer : Tab.ini tab C_Sealer = F_Sealer___init__ := by decide +kernel
@[simp] theorem fl_Sealer__modulus : Tab.fl tab C_Sealer (PySem.Str.ofString "_modulus") = true := by decide +kernel
def Ph (n : Nat) : Nat → List D → List Cell → R D := Phi tab gam body n
def Mm (n : Nat) : Sem := ⟨tab, Ph n, gam⟩
@[simp] theorem Mm_P (n : Nat) : (Mm n).Φ = Ph n := rfl
@[simp] theorem Mm_G (n : Nat) : (Mm n).Γ = gam := rfl
@[simp] theorem Mm_T (n : Nat) : (Mm n).T = tab := rfl
theorem go_Sealer___init__ {n : Nat} (h : 0 < n) (x0 x1 : D) (m : List Cell) : Ph n F_Sealer___init__ [x0, x1] m = outR (evB (Mm (n - 1)) b_Sealer___init__ [x0, x1] m) := by cases n with | zero => omega | succ n => rfl
theorem go_Sealer_seal {n : Nat} (h : 0 < n) (x0 x1 : D) (m : List Cell) : Ph n F_Sealer_seal [x0, x1] m = outR (evB (Mm (n - 1)) b_Sealer_seal [x0, x1, .no, .no] m) := by cases n with | zero => omega | succ n => rfl
theorem go__law_seal {n : Nat} (h : 0 < n) (x0 x1 : D) (m : List Cell) : Ph n F__law_seal [x0, x1] m = outR (evB (Mm (n - 1)) b__law_seal [x0, x1, .no, .no] m) := by cases n with | zero => omega | succ n => rfl
theorem go_lock_of {n : Nat} (h : 0 < n) (x0 x1 : D) (m : List Cell) : Ph n F_lock_of [x0, x1] m = outR (evB (Mm (n - 1)) b_lock_of [x0, x1] m) := by cases n with | zero => omega | succ n => rfl
theorem go_is_notes {n : Nat} (h : 0 < n) (x0 x1 x2 : D) (m : List Cell) : Ph n F_is_notes [x0, x1, x2] m = outR (evB (Mm (n - 1)) b_is_notes [x0, x1, x2, .no, .no, .no] m) := by cases n with | zero => omega | succ n => rfl
theorem go_is_enough {n : Nat} (h : 0 < n) (x0 x1 x2 : D) (m : List Cell) : Ph n F_is_enough [x0, x1, x2] m = outR (evB (Mm (n - 1)) b_is_enough [x0, x1, x2] m) := by cases n with | zero => omega | succ n => rfl
theorem go_new_account {n : Nat} (h : 0 < n) (x0 x1 x2 : D) (m : List Cell) : Ph n F_new_account [x0, x1, x2] m = outR (evB (Mm (n - 1)) b_new_account [x0, x1, x2, .no] m) := by cases n with | zero => omega | succ n => rfl
theorem go__law_cell_v2 {n : Nat} (h : 0 < n) (x0 x1 : D) (m : List Cell) : Ph n F__law_cell_v2 [x0, x1] m = outR (evB (Mm (n - 1)) b__law_cell_v2 [x0, x1] m) := by cases n with | zero => omega | succ n => rfl
theorem go__law_numbers_v2 {n : Nat} (h : 0 < n) (x0 x1 : D) (m : List Cell) : Ph n F__law_numbers_v2 [x0, x1] m = outR (evB (Mm (n - 1)) b__law_numbers_v2 [x0, x1, .no, .no, .no, .no, .no] m) := by cases n with | zero => omega | succ n => rfl
theorem go__law_modulus_v2 {n : Nat} (h : 0 < n) (x0 : D) (m : List Cell) : Ph n F__law_modulus_v2 [x0] m = outR (evB (Mm (n - 1)) b__law_modulus_v2 [x0, .no] m) := by cases n with | zero => omega | succ n => rfl
theorem go__law_near {n : Nat} (h : 0 < n) (x0 x1 : D) (m : List Cell) : Ph n F__law_near [x0, x1] m = outR (evB (Mm (n - 1)) b__law_near [x0, x1] m) := by cases n with | zero => omega | succ n => rfl
theorem go__law_valid {n : Nat} (h : 0 < n) (x0 x1 x2 : D) (m : List Cell) : Ph n F__law_valid [x0, x1, x2] m = outR (evB (Mm (n - 1)) b__law_valid [x0, x1, x2, .no, .no] m) := by cases n with | zero => omega | succ n => rfl
theorem go_law_v6 {n : Nat} (h : 0 < n) (x0 : D) (m : List Cell) : Ph n F_law_v6 [x0] m = outR (evB (Mm (n - 1)) b_law_v6 [x0, .no, .no, .no, .no, .no, .no, .no, .no, .no, .no, .no] m) := by cases n with | zero => omega | succ n => rfl
abbrev N_law := N_law_v6
abbrev b_law := b_law_v6
end SG
end

noncomputable section
namespace SG
open PySem L2 GS
/-! ### names -/
def alpha : Str := "0123456789_abcdefghijklmnopqrstuvwxyz"
def alphaL : List Nat := [48, 49, 50, 51, 52, 53, 54, 55, 56, 57, 95, 97, 98, 99, 100, 101, 102, 103, 104, 105, 106, 107, 108, 109, 110, 111, 112, 113, 114, 115, 116, 117, 118, 119, 120, 121, 122]
@[simp] theorem fold_alpha : Str.ofString "0123456789_abcdefghijklmnopqrstuvwxyz" = alpha := rfl
theorem alpha_cps : alpha.cps.toList = alphaL := by decide +kernel
theorem occ_alpha : ∀ c ∈ alphaL, Builtin.Str.occurrences alpha ⟨#[c]⟩ 0 alpha.length 1 = [alphaL.idxOf c] := by decide +kernel
theorem alpha_len : alpha.length = 37 := by decide +kernel
/-- a name's code points -/
abbrev cs (s : Str) : List Nat := s.cps.toList
def okN (l : List Nat) : Prop := 1 ≤ l.length ∧ l.length ≤ 8 ∧ ∀ c ∈ l, c ∈ alphaL
instance (l : List Nat) : Decidable (okN l) := by unfold okN; infer_instance
def dg (c : Nat) : Nat := alphaL.idxOf c + 1
def dgAt (l : List Nat) (k : Nat) : Nat := match l[k]? with | some c => dg c | none => 0
def numN (l : List Nat) : Nat → Nat
  | 0 => 0
  | k + 1 => numN l k * 64 + dgAt l k
def numOf (l : List Nat) : Nat := numN l 8
theorem length_cs (s : Str) : s.length = (cs s).length := by cases s; simp [cs, Str.length]
theorem numN_lt (l : List Nat) (h : ∀ c ∈ l, c ∈ alphaL) : ∀ k, numN l k < 64 ^ k
  | 0 => by simp [numN]
  | k + 1 => by
    have ih := numN_lt l h k
    have hd : dgAt l k < 64 := by
      unfold dgAt
      split
      · rename_i c e
        have hc : c ∈ alphaL := h c (List.mem_of_getElem? e)
        have := List.idxOf_lt_length_of_mem hc
        unfold dg
        have e2 : alphaL.length = 37 := rfl
        omega
      · omega
    unfold numN
    rw [Nat.pow_succ]
    omega
theorem sidx_alpha {c : Nat} (h : c ∈ alphaL) : sidxD (.str alpha) (.str ⟨#[c]⟩) = some (.int (alphaL.idxOf c : Nat)) := by
  unfold sidxD
  simp only [occ_alpha c h]
theorem all_alpha (l : List Nat) : (l.map fun k => decide (k ∈ alphaL)).all id = decide (∀ k ∈ l, k ∈ alphaL) := by
  rw [Bool.eq_iff_iff]
  simp
/-- the place at which two numbers of 48 bits part -/
def partN (a b : Nat) : Option Nat := if a = b then none else some (48 - ((a ^^^ b).log2 + 1))
def optD : Option Nat → D
  | none => .non
  | some n => .int n
def cellN (ns : List Int) (k : Nat) : Int := ns.getD k 0
/-- a text of code points -/
abbrev tx (l : List Nat) : Str := ⟨l.toArray⟩
theorem cs_tx (l : List Nat) : cs (tx l) = l := by simp [cs, tx]
theorem tx_app (l m : List Nat) : tx l ++ tx m = tx (l ++ m) := by
  show (⟨_ ++ _⟩ : Str) = _
  simp [tx]
theorem tx_len (l : List Nat) : (tx l).length = l.length := by rw [length_cs, cs_tx]
theorem tx_cs (s : Str) : tx (cs s) = s := by cases s; simp [tx, cs]
def shortS : List Str := ["a", "b", "aa", "ab", "a0", "a_", "abc", "z", "zz", "0", "_", "zzzzzzzz", "00000000", "ab0", "abd", "b_"]
def restN (r : Nat) : Nat → Nat
  | 0 => r
  | k + 1 => restN r k * 7 + 3 + k
def nameL (r : Nat) : Nat → List Nat
  | 0 => []
  | k + 1 => nameL r k ++ [alphaL.getD (restN r (k + 1) / 11 % 37) 0]
def lawName (n : Nat) : Str := if n % 3 = 0 then shortS.getD (n / 3 % 16) "a" else tx (nameL (n / 3) (n / 3 % 8 + 1))
theorem nameL_len (r k : Nat) : (nameL r k).length = k := by
  induction k with
  | zero => rfl
  | succ k ih => simp [nameL, ih]
def bitN (n k : Nat) : Nat := n / 2 ^ (47 - k) % 2
def bitsN (n : Nat) : List D := (List.range 48).map fun k => D.int (bitN n k : Nat)
def lowL (n i : Nat) : List D := (List.range i).map fun j => D.int (n / 2 ^ j % 2 : Nat)
theorem numN_nil : ∀ k, numN [] k = 0
  | 0 => rfl
  | k + 1 => by simp [numN, numN_nil k, dgAt]
theorem numN_cons (c : Nat) (l : List Nat) : ∀ k, numN (c :: l) (k + 1) = dg c * 64 ^ k + numN l k
  | 0 => by simp [numN, dgAt]
  | k + 1 => by
    have ih := numN_cons c l k
    have e : dgAt (c :: l) (k + 1) = dgAt l k := by simp [dgAt]
    rw [numN, ih, e, numN, Nat.pow_succ]
    rw [Nat.add_mul, Nat.mul_assoc]
    omega
theorem dg_lt : ∀ c ∈ alphaL, ∀ d ∈ alphaL, (c < d ↔ dg c < dg d) := by decide +kernel
theorem dg_inj : ∀ c ∈ alphaL, ∀ d ∈ alphaL, dg c = dg d → c = d := by decide +kernel
theorem lex_num {a b x y p : Nat} (hx : x < p) (hy : y < p) : (a * p + x < b * p + y ↔ a < b ∨ (a = b ∧ x < y)) := by
  constructor
  · intro h
    by_cases e : a < b
    · exact .inl e
    · by_cases e2 : a = b
      · subst e2; exact .inr ⟨rfl, by omega⟩
      · exfalso
        have : (b + 1) * p ≤ a * p := Nat.mul_le_mul_right _ (by omega)
        rw [Nat.add_mul] at this
        omega
  · rintro (h | ⟨rfl, h⟩)
    · have : (a + 1) * p ≤ b * p := Nat.mul_le_mul_right _ (by omega)
      rw [Nat.add_mul] at this
      omega
    · omega
theorem lt_num : ∀ (k : Nat) (l m : List Nat), l.length ≤ k → m.length ≤ k → (∀ c ∈ l, c ∈ alphaL) → (∀ c ∈ m, c ∈ alphaL) → ((l < m ↔ numN l k < numN m k) ∧ (numN l k = numN m k → l = m))
  | 0, l, m, hl, hm, _, _ => by
    have e1 : l = [] := List.length_eq_zero_iff.mp (by omega)
    have e2 : m = [] := List.length_eq_zero_iff.mp (by omega)
    subst e1 e2
    simp [numN]
  | k + 1, [], [], _, _, _, _ => by simp
  | k + 1, [], d :: m, _, _, _, _ => by
    have : 0 < 64 ^ k := Nat.pow_pos (by decide)
    have h2 : 0 < dg d * 64 ^ k := Nat.mul_pos (by unfold dg; omega) this
    rw [numN_nil, numN_cons]
    refine ⟨⟨fun _ => by omega, fun _ => List.nil_lt_cons _ _⟩, fun e => by omega⟩
  | k + 1, c :: l, [], _, _, _, _ => by
    have : 0 < 64 ^ k := Nat.pow_pos (by decide)
    have h2 : 0 < dg c * 64 ^ k := Nat.mul_pos (by unfold dg; omega) this
    rw [numN_nil, numN_cons]
    refine ⟨⟨fun h => absurd h (List.not_lt_nil _), fun _ => by omega⟩, fun e => by omega⟩
  | k + 1, c :: l, d :: m, hl, hm, al, am => by
    have al' : ∀ x ∈ l, x ∈ alphaL := fun x h => al x (List.mem_cons_of_mem _ h)
    have am' : ∀ x ∈ m, x ∈ alphaL := fun x h => am x (List.mem_cons_of_mem _ h)
    have hc := al c List.mem_cons_self
    have hd := am d List.mem_cons_self
    obtain ⟨i1, i2⟩ := lt_num k l m (by simpa using hl) (by simpa using hm) al' am'
    have b1 := numN_lt l al' k
    have b2 := numN_lt m am' k
    rw [numN_cons, numN_cons]
    refine ⟨?_, ?_⟩
    · rw [List.cons_lt_cons_iff, lex_num b1 b2, i1, dg_lt c hc d hd]
      constructor
      · rintro (h | ⟨rfl, h⟩)
        · exact .inl h
        · exact .inr ⟨rfl, h⟩
      · rintro (h | ⟨e, h⟩)
        · exact .inl h
        · exact .inr ⟨dg_inj c hc d hd e, h⟩
    · intro e
      have n1 := (not_congr (lex_num (a := dg c) (b := dg d) b1 b2)).mp (by omega)
      have n2 := (not_congr (lex_num (a := dg d) (b := dg c) b2 b1)).mp (by omega)
      have e1 : dg c = dg d := by
        by_cases h1 : dg c < dg d
        · exact absurd (.inl h1) n1
        · by_cases h2 : dg d < dg c
          · exact absurd (.inl h2) n2
          · omega
      have e2 : numN l k = numN m k := by rw [e1] at e; omega
      rw [dg_inj c hc d hd e1, i2 e2]
theorem lt_numOf {l m : List Nat} (hl : okN l) (hm : okN m) : l < m ↔ numOf l < numOf m := (lt_num 8 l m hl.2.1 hm.2.1 hl.2.2 hm.2.2).1
theorem inj_numOf {l m : List Nat} (hl : okN l) (hm : okN m) (h : numOf l = numOf m) : l = m := (lt_num 8 l m hl.2.1 hm.2.1 hl.2.2 hm.2.2).2 h
theorem numOf_lt {l : List Nat} (hl : okN l) : numOf l < 2 ^ 48 := numN_lt l hl.2.2 8
/-! where two numbers part -/
def dueN (a b : Nat) : Nat → Option Nat
  | 0 => none
  | k + 1 => match dueN a b k with
    | some p => some p
    | none => if bitN a k = bitN b k then none else some k
theorem dueN_same (a : Nat) : ∀ k, dueN a a k = none
  | 0 => rfl
  | k + 1 => by simp [dueN, dueN_same a k]
theorem bit_xor (a b k : Nat) : (bitN a k = bitN b k) ↔ (a ^^^ b).testBit (47 - k) = false := by
  rw [Nat.testBit_xor, Nat.testBit_eq_decide_div_mod_eq, Nat.testBit_eq_decide_div_mod_eq]
  unfold bitN
  generalize a / 2 ^ (47 - k) = x
  generalize b / 2 ^ (47 - k) = y
  rcases Nat.mod_two_eq_zero_or_one x with h | h <;> rcases Nat.mod_two_eq_zero_or_one y with h2 | h2 <;> simp [h, h2]
theorem dueN_part {a b : Nat} (la : a < 2 ^ 48) (lb : b < 2 ^ 48) : dueN a b 48 = partN a b := by
  unfold partN
  by_cases e : a = b
  · subst e; rw [dueN_same, if_pos rfl]
  · rw [if_neg e]
    have e0 : a ^^^ b ≠ 0 := fun z => e (Nat.eq_of_testBit_eq fun i => by have q := congrArg (fun x => x.testBit i) z; simpa using q)
    have hlt : a ^^^ b < 2 ^ 48 := Nat.xor_lt_two_pow la lb
    have hlog : (a ^^^ b).log2 < 48 := (Nat.log2_lt e0).mpr hlt
    have hself : 2 ^ (a ^^^ b).log2 ≤ a ^^^ b := Nat.log2_self_le e0
    have hup : a ^^^ b < 2 ^ ((a ^^^ b).log2 + 1) := Nat.lt_log2_self
    have top : (a ^^^ b).testBit (a ^^^ b).log2 = true := by
      rw [Nat.testBit_eq_decide_div_mod_eq]
      have : (a ^^^ b) / 2 ^ (a ^^^ b).log2 = 1 := by
        refine Nat.div_eq_of_lt_le (by omega) ?_
        rw [Nat.pow_succ] at hup
        omega
      rw [this]; rfl
    have hz : ∀ j, (a ^^^ b).log2 < j → (a ^^^ b).testBit j = false := fun j hj =>
      Nat.testBit_lt_two_pow (Nat.lt_of_lt_of_le hup (Nat.pow_le_pow_right (by decide) hj))
    have before : ∀ k, k ≤ 47 - (a ^^^ b).log2 → dueN a b k = none := by
      intro k
      induction k with
      | zero => intro _; rfl
      | succ k ih =>
        intro h
        rw [dueN, ih (by omega)]
        simp only
        rw [if_pos ((bit_xor a b k).mpr (hz _ (by omega)))]
    have after : ∀ k, 47 - (a ^^^ b).log2 < k → dueN a b k = some (47 - (a ^^^ b).log2) := by
      intro k
      induction k with
      | zero => intro h; omega
      | succ k ih =>
        intro h
        by_cases q : k = 47 - (a ^^^ b).log2
        · subst q
          rw [dueN, before _ (Nat.le_refl _)]
          simp only
          rw [if_neg]
          rw [bit_xor, show 47 - (47 - (a ^^^ b).log2) = (a ^^^ b).log2 by omega, top]
          decide
        · rw [dueN, ih (by omega)]
    rw [after 48 (by omega), show 48 - ((a ^^^ b).log2 + 1) = 47 - (a ^^^ b).log2 by omega]
theorem partN_comm (a b : Nat) : partN a b = partN b a := by
  unfold partN
  rw [Nat.xor_comm]
  by_cases e : a = b
  · rw [if_pos e, if_pos e.symm]
  · rw [if_neg e, if_neg (fun h => e h.symm)]
/-! the law's names are names -/
theorem shortS_ok : ∀ s ∈ shortS, okN (cs s) := by decide +kernel
theorem nameL_mem (r : Nat) : ∀ k, ∀ c ∈ nameL r k, c ∈ alphaL
  | 0, c, h => by cases h
  | k + 1, c, h => by
    rcases List.mem_append.mp h with h | h
    · exact nameL_mem r k c h
    · have e : c = alphaL.getD (restN r (k + 1) / 11 % 37) 0 := by simpa using h
      subst e
      have hlt : restN r (k + 1) / 11 % 37 < alphaL.length := Nat.mod_lt _ (by decide)
      rw [List.getD_eq_getElem?_getD, List.getElem?_eq_getElem hlt]
      exact List.getElem_mem hlt
theorem lawName_ok (n : Nat) : okN (cs (lawName n)) := by
  unfold lawName
  split
  · have hlt : n / 3 % 16 < shortS.length := Nat.mod_lt _ (by decide)
    rw [List.getD_eq_getElem?_getD, List.getElem?_eq_getElem hlt]
    exact shortS_ok _ (List.getElem_mem hlt)
  · rw [cs_tx]
    exact ⟨by rw [nameL_len]; omega, by rw [nameL_len]; omega, nameL_mem _ _⟩
theorem cs_app (x y : Str) : cs (x ++ y) = cs x ++ cs y := by
  rw [← tx_cs x, ← tx_cs y, tx_app, cs_tx, cs_tx, cs_tx]
theorem not_ok_mem {l : List Nat} {c : Nat} (h : c ∈ l) (h2 : c ∉ alphaL) : ¬ okN l := fun o => h2 (o.2.2 c h)
end SG
namespace SG
open PySem L2 GS
/-! ### trees as they are handed about -/
structure Lf where
  nm : Str
  w : List Int
  ns : List Int
structure Sm where
  sv : Int
  ct : Int
  sums : List Int
  lo : Str
  hi : Str
inductive T where
  | nil | leaf (l : Lf) | br (l r : T) | cut (s : Sm)
def smD (s : Sm) : D := .tup [.int s.sv, .int s.ct, .tup (s.sums.map D.int), .str s.lo, .str s.hi]
def lfD (l : Lf) : D := .tup [.str (PySem.Str.ofString "leaf"), .str l.nm, .tup (l.w.map D.int), .tup (l.ns.map D.int)]
def tD : T → D
  | .nil => .non
  | .leaf l => lfD l
  | .br l r => .tup [.str (PySem.Str.ofString "branch"), tD l, tD r]
  | .cut s => .tup [.str (PySem.Str.ofString "cut"), smD s]
theorem pureL_map {α : Type} {f : α → D} (h : ∀ a, (f a).pure = true) : ∀ l : List α, pureL (l.map f) = true
  | [] => rfl
  | a :: l => by show ((f a).pure && pureL (l.map f)) = true; rw [h a, pureL_map h l]; rfl
theorem smD_pure (s : Sm) : (smD s).pure = true := by
  show (true && (true && (pureL _ && (true && (true && true))))) = true
  rw [pureL_map (fun _ => rfl)]; rfl
theorem lfD_pure (l : Lf) : (lfD l).pure = true := by
  show (true && (true && (pureL _ && (pureL _ && true)))) = true
  rw [pureL_map (fun _ => rfl), pureL_map (fun _ => rfl)]; rfl
theorem tD_pure : ∀ t : T, (tD t).pure = true
  | .nil => rfl
  | .leaf l => lfD_pure l
  | .br l r => by show (true && ((tD l).pure && ((tD r).pure && true))) = true; rw [tD_pure l, tD_pure r]; rfl
  | .cut s => by show (true && ((smD s).pure && true)) = true; rw [smD_pure]; rfl
theorem pl1 {d : D} (h : d.pure = true) : pureL [d] = true := by show (d.pure && true) = true; rw [h]; rfl
theorem pl2 {d e : D} (h : d.pure = true) (h2 : e.pure = true) : pureL [d, e] = true := by show (d.pure && pureL [e]) = true; rw [h, pl1 h2]; rfl
theorem pl3 {d e f : D} (h : d.pure = true) (h2 : e.pure = true) (h3 : f.pure = true) : pureL [d, e, f] = true := by show (d.pure && pureL [e, f]) = true; rw [h, pl2 h2 h3]; rfl
@[simp] theorem res_sm (m : List Cell) (s : Sm) : res m (smD s) = smD s := rfl
@[simp] theorem res_lf (m : List Cell) (s : Lf) : res m (lfD s) = lfD s := rfl
@[simp] theorem res_t (m : List Cell) (s : T) : res m (tD s) = tD s := by cases s <;> rfl
@[simp] theorem gV_sm (s : Sm) : gV (some (smD s)) = some (smD s) := rfl
@[simp] theorem gV_lf (s : Lf) : gV (some (lfD s)) = some (lfD s) := rfl
@[simp] theorem gV_t (s : T) : gV (some (tD s)) = some (tD s) := by cases s <;> rfl
@[simp] theorem idx_sm0 (s : Sm) : idxD (smD s) (.int 0) = some (.int s.sv) := rfl
@[simp] theorem idx_sm1 (s : Sm) : idxD (smD s) (.int 1) = some (.int s.ct) := rfl
@[simp] theorem idx_sm2 (s : Sm) : idxD (smD s) (.int 2) = some (.tup (s.sums.map D.int)) := rfl
@[simp] theorem idx_sm3 (s : Sm) : idxD (smD s) (.int 3) = some (.str s.lo) := rfl
@[simp] theorem idx_sm4 (s : Sm) : idxD (smD s) (.int 4) = some (.str s.hi) := rfl
@[simp] theorem idx_lf0 (s : Lf) : idxD (lfD s) (.int 0) = some (.str (PySem.Str.ofString "leaf")) := rfl
@[simp] theorem idx_lf1 (s : Lf) : idxD (lfD s) (.int 1) = some (.str s.nm) := rfl
@[simp] theorem idx_lf2 (s : Lf) : idxD (lfD s) (.int 2) = some (.tup (s.w.map D.int)) := rfl
@[simp] theorem idx_lf3 (s : Lf) : idxD (lfD s) (.int 3) = some (.tup (s.ns.map D.int)) := rfl
@[simp] theorem tD_leaf (s : Lf) : tD (.leaf s) = lfD s := rfl
@[simp] theorem tD_nil : tD .nil = .non := rfl
@[simp] theorem idx_br0 (l r : T) : idxD (tD (.br l r)) (.int 0) = some (.str (PySem.Str.ofString "branch")) := rfl
@[simp] theorem idx_br1 (l r : T) : idxD (tD (.br l r)) (.int 1) = some (tD l) := rfl
@[simp] theorem idx_br2 (l r : T) : idxD (tD (.br l r)) (.int 2) = some (tD r) := rfl
@[simp] theorem idx_cut0 (s : Sm) : idxD (tD (.cut s)) (.int 0) = some (.str (PySem.Str.ofString "cut")) := rfl
@[simp] theorem idx_cut1 (s : Sm) : idxD (tD (.cut s)) (.int 1) = some (smD s) := rfl
@[simp] theorem non_br (l r : T) : isBl (tD (.br l r)) .non = some false := rfl
@[simp] theorem non_lf (l : Lf) : isBl (lfD l) .non = some false := rfl
@[simp] theorem non_cut (s : Sm) : isBl (tD (.cut s)) .non = some false := rfl
@[simp] theorem tup_br (l r : T) : D.tup [.str (PySem.Str.ofString "branch"), tD l, tD r] = tD (.br l r) := rfl
@[simp] theorem tup_cut (s : Sm) : D.tup [.str (PySem.Str.ofString "cut"), smD s] = tD (.cut s) := rfl
@[simp] theorem tag_lb : ((PySem.Str.ofString "leaf") = (PySem.Str.ofString "branch")) = False := tags.1
@[simp] theorem tag_lc : ((PySem.Str.ofString "leaf") = (PySem.Str.ofString "cut")) = False := tags.2.1
@[simp] theorem tag_bl : ((PySem.Str.ofString "branch") = (PySem.Str.ofString "leaf")) = False := tags.2.2.1
@[simp] theorem tag_bc : ((PySem.Str.ofString "branch") = (PySem.Str.ofString "cut")) = False := tags.2.2.2.1
@[simp] theorem tag_cl : ((PySem.Str.ofString "cut") = (PySem.Str.ofString "leaf")) = False := tags.2.2.2.2.1
@[simp] theorem tag_cb : ((PySem.Str.ofString "cut") = (PySem.Str.ofString "branch")) = False := tags.2.2.2.2.2
@[simp] theorem bindT_sm (i j k l o : Nat) (s : Sm) (ρ : List D) : bindT (.many [i, j, k, l, o]) (smD s) ρ = some (setMany [i, j, k, l, o] [.int s.sv, .int s.ct, .tup (s.sums.map D.int), .str s.lo, .str s.hi] ρ) := rfl
@[simp] theorem srcD_ints (m : List Cell) (l : List Int) : srcD (.tup (l.map D.int)) m = .ok (l.map D.int, none) m := rfl
def T.dp : T → Nat
  | .br l r => 1 + max l.dp r.dp
  | _ => 1
theorem T.dp_pos : ∀ t : T, 1 ≤ t.dp := fun t => by cases t <;> simp [T.dp] <;> omega
/-- no side is missing -/
def T.full : T → Bool
  | .nil => false
  | .br l r => l.full && r.full
  | _ => true
def T.lo : T → Str
  | .nil => Str.empty
  | .leaf l => l.nm
  | .br l _ => l.lo
  | .cut s => s.lo
def T.hi : T → Str
  | .nil => Str.empty
  | .leaf l => l.nm
  | .br _ r => r.hi
  | .cut s => s.hi
/-! ### what is valid -/
def inR (a b : Int) (l : List Int) : Bool := l.all fun x => decide (a ≤ x ∧ x ≤ b)
def okW (l : List Int) : Bool := decide (1 ≤ l.length ∧ l.length ≤ 3) && inR 0 1000000000000000 l
def okNs (l : List Int) : Bool := decide (l.length ≤ 12) && inR 0 2305843009213693952 l
def okLf (l : Lf) : Bool := decide (okN (cs l.nm)) && okW l.w && okNs l.ns
def nmv (s : Str) : Nat := numOf (cs s)
def okSm (md : Int) (s : Sm) : Bool := decide (0 ≤ s.sv ∧ s.sv < md) && decide (1 ≤ s.ct ∧ s.ct ≤ 1000000000000000000000000) && decide (1 ≤ s.sums.length ∧ s.sums.length ≤ 3) &&
  inR 0 1000000000000000000000000 s.sums && decide (okN (cs s.lo)) && decide (okN (cs s.hi)) && (if s.ct = 1 then decide (s.lo = s.hi) else decide (nmv s.lo < nmv s.hi))
def T.valid (md : Int) : T → Bool
  | .nil => false
  | .leaf l => okLf l
  | .br l r => l.valid md && r.valid md
  | .cut s => okSm md s
def T.kinds : T → Nat
  | .nil => 0
  | .leaf l => l.w.length
  | .br l r => if l.kinds = r.kinds then l.kinds else 0
  | .cut s => s.sums.length
/-- the sides of a branch by their names: a, b the left one's, c, d the right one's -/
def inside (a b p bit : Nat) : Bool := decide (bitN a p = bit) && decide (bitN b p = bit) && (match partN a b with | none => true | some q => decide (p < q))
def sides (a b c d : Nat) : Bool := match partN a d with
  | none => false
  | some p => decide (bitN a p = 0) && inside a b p 0 && inside c d p 1
def T.order : T → Bool
  | .br l r => sides (nmv l.lo) (nmv l.hi) (nmv r.lo) (nmv r.hi) && l.order && r.order
  | _ => true
def T.wf (md : Int) (t : T) : Bool := match t with
  | .nil => true
  | t => t.valid md && decide (0 < t.kinds) && t.order
theorem valid_full {md : Int} : ∀ t : T, t.valid md = true → t.full = true
  | .nil, h => h
  | .leaf _, _ => rfl
  | .cut _, _ => rfl
  | .br l r, h => by
    obtain ⟨h1, h2⟩ := and2 h
    show (l.full && r.full) = true
    rw [valid_full l h1, valid_full r h2]; rfl
theorem valid_names {md : Int} : ∀ t : T, t.valid md = true → okN (cs t.lo) ∧ okN (cs t.hi)
  | .nil, h => by cases h
  | .leaf l, h => by
    have h : okLf l = true := h
    simp [okLf] at h
    exact ⟨h.1.1, h.1.1⟩
  | .cut s, h => by
    have h : okSm md s = true := h
    simp [okSm] at h
    exact ⟨h.1.1.2, h.1.2⟩
  | .br l r, h => by
    obtain ⟨h1, h2⟩ := and2 h
    exact ⟨(valid_names l h1).1, (valid_names r h2).2⟩
end SG
namespace SG
open PySem L2 GS
section
variable {n : Nat} {m : List Cell}
theorem okN_len {s : Str} (h : okN (cs s)) : s.length ≤ 16777216 := by have := h.2.1; rw [length_cs]; omega
theorem signs_map {M : Sem} {t : Str} {e : E} {own : List Nat} {j : Nat} {ρ : List D} {m : List Cell} {p : Nat → Bool} (h : ∀ k ∈ cs t, evE M e ((wipeR ρ own).set j (.str ⟨#[k]⟩)) m = .ok (.bl (p k)) m) (hl : t.length ≤ 16777216) : cmpK1 M (.one j) own none e ρ (.ok (signsD t, none) m) = .ok (.lst ((((cs t).map p)).map D.bl)) m := by
  have := cmp_map (M := M) (j := j) (own := own) (el := e) (ρ := ρ) (m := m) (ds := signsD t) (fun d => match d with | .str z => D.bl (p (z.cps.toList.headD 0)) | _ => .non) (fun d hd => by
    obtain ⟨k, hk, rfl⟩ := List.mem_map.mp hd
    exact h k hk) (by unfold signsD; rw [List.length_map, ← length_cs]; exact hl)
  rw [this]
  unfold signsD
  rw [List.map_map, List.map_map]
  rfl
theorem ok_iff {s : Str} : okN (cs s) ↔ (1 ≤ s.length ∧ s.length ≤ 8 ∧ ∀ k ∈ cs s, k ∈ alphaL) := by rw [length_cs]; exact Iff.rfl
theorem signs_filter (s : Str) (p : Nat → Bool) : (((signsD s).filter (fun d => match d with | .str z => p (z.cps.toList.headD 0) | _ => false)).map id).length = ((cs s).filter p).length := by
  unfold signsD
  rw [List.map_id, List.filter_map, List.length_map]
  congr 1
theorem filter_all (l : List Nat) : (l.filter (fun k => decide (k ∈ alphaL))).length = l.length ↔ ∀ k ∈ l, k ∈ alphaL := by
  rw [List.length_filter_eq_length_iff]
  simp
def modN (n : Nat) : Nat := if n % 3 = 0 then [3, 5, 7, 11, 31, 97, 1009, 65537].getD (n / 3 % 8) 3 else if n % 3 = 1 then 2305843009213693951 - n / 3 % 1000 else 3 + n / 3 % 1000000
end
end SG
namespace SG
open PySem L2 GS
theorem while_step {M : Sem} {e : E} {body : List S} {n : Nat} {ρ ρ2 : List D} {m m1 m2 : List Cell} (h : evE M e ρ m = .ok (.bl true) m1) (h2 : evB M body ρ m1 = .nx ρ2 m2) : whileS (evT (evE M e)) (evB M body) (n + 1) ρ m = whileS (evT (evE M e)) (evB M body) n ρ2 m2 := by
  conv => lhs; unfold whileS
  have : evT (evE M e) ρ m = .ok true m1 := by unfold evT; rw [h]; rfl
  rw [this, R.then_ok, if_pos rfl]
  simp only [h2]
theorem while_end {M : Sem} {e : E} {body : List S} {n : Nat} {ρ : List D} {m m1 : List Cell} (h : evE M e ρ m = .ok (.bl false) m1) : whileS (evT (evE M e)) (evB M body) (n + 1) ρ m = .nx ρ m1 := by
  conv => lhs; unfold whileS
  have : evT (evE M e) ρ m = .ok false m1 := by unfold evT; rw [h]; rfl
  rw [this]
  rfl
def T.lm : T → T
  | .br l _ => l.lm
  | t => t
def T.rm : T → T
  | .br _ r => r.rm
  | t => t
section
variable {n : Nat} {m : List Cell}
theorem while_lm {M : Sem} : ∀ (t : T) (k : Nat), t.full = true → t.dp ≤ k → whileS (evT (evE M (.cmp .Eq (.idx (.var 0) (.int 0)) (.str (PySem.Str.ofString "branch"))))) (evB M [.asg 0 (.idx (.var 0) (.int 1))]) k [tD t] m = .nx [tD t.lm] m
  | .nil, k, h, _ => by cases h
  | .leaf l, 0, _, h => by simp [T.dp] at h
  | .leaf l, k + 1, _, _ => while_end (by simp)
  | .cut l, 0, _, h => by simp [T.dp] at h
  | .cut l, k + 1, _, _ => while_end (by simp)
  | .br l r, 0, _, h => by simp [T.dp] at h
  | .br l r, k + 1, h, hk => by
    obtain ⟨h1, h2⟩ := and2 h
    rw [while_step (ρ2 := [tD l]) (m1 := m) (m2 := m) (by simp) (by simp)]
    exact while_lm l k h1 (by simp [T.dp] at hk; omega)
theorem while_rm {M : Sem} : ∀ (t : T) (k : Nat), t.full = true → t.dp ≤ k → whileS (evT (evE M (.cmp .Eq (.idx (.var 0) (.int 0)) (.str (PySem.Str.ofString "branch"))))) (evB M [.asg 0 (.idx (.var 0) (.int 2))]) k [tD t] m = .nx [tD t.rm] m
  | .nil, k, h, _ => by cases h
  | .leaf l, 0, _, h => by simp [T.dp] at h
  | .leaf l, k + 1, _, _ => while_end (by simp)
  | .cut l, 0, _, h => by simp [T.dp] at h
  | .cut l, k + 1, _, _ => while_end (by simp)
  | .br l r, 0, _, h => by simp [T.dp] at h
  | .br l r, k + 1, h, hk => by
    obtain ⟨h1, h2⟩ := and2 h
    rw [while_step (ρ2 := [tD r]) (m1 := m) (m2 := m) (by simp) (by simp)]
    exact while_rm r k h2 (by simp [T.dp] at hk; omega)
theorem lm_cases : ∀ t : T, t.full = true → (∃ l, t.lm = .leaf l ∧ t.lo = l.nm) ∨ ∃ s, t.lm = .cut s ∧ t.lo = s.lo
  | .nil, h => by cases h
  | .leaf l, _ => .inl ⟨l, rfl, rfl⟩
  | .cut s, _ => .inr ⟨s, rfl, rfl⟩
  | .br l r, h => lm_cases l (and2 h).1
theorem rm_cases : ∀ t : T, t.full = true → (∃ l, t.rm = .leaf l ∧ t.hi = l.nm) ∨ ∃ s, t.rm = .cut s ∧ t.hi = s.hi
  | .nil, h => by cases h
  | .leaf l, _ => .inl ⟨l, rfl, rfl⟩
  | .cut s, _ => .inr ⟨s, rfl, rfl⟩
  | .br l r, h => rm_cases r (and2 h).2
theorem ints_pure (l : List Int) : (D.tup (l.map D.int)).pure = true := by show pureL _ = true; exact pureL_map (fun _ => rfl) l
/-- a test of each of some ints -/
theorem ints_all {M : Sem} {el : E} {own : List Nat} {j : Nat} {ρ : List D} {m : List Cell} {l : List Int} (p : Int → Bool) (h : ∀ x, evE M el ((wipeR ρ own).set j (.int x)) m = .ok (.bl (p x)) m) (hl : l.length ≤ 16777216) : cmpK1 M (.one j) own none el ρ (.ok (l.map D.int, none) m) = .ok (.lst ((l.map p).map D.bl)) m := by
  have := cmp_map (M := M) (j := j) (own := own) (el := el) (ρ := ρ) (m := m) (ds := l.map D.int) (fun d => match d with | .int x => D.bl (p x) | _ => .non) (fun d hd => by
    obtain ⟨k, hk, rfl⟩ := List.mem_map.mp hd
    exact h k) (by simpa using hl)
  rw [this, List.map_map, List.map_map]
  rfl
theorem map_all (p : Int → Bool) (l : List Int) : (l.map p).all id = l.all p := by rw [List.all_map]; rfl
/-- what the texts and lists within may measure -/
def Lf.sz (l : Lf) : Prop := l.nm.length ≤ 16777216 ∧ l.w.length ≤ 16777216 ∧ l.ns.length ≤ 16777216
def Sm.sz (l : Sm) : Prop := l.lo.length ≤ 16777216 ∧ l.hi.length ≤ 16777216 ∧ l.sums.length ≤ 16777216
def T.sz : T → Prop
  | .nil => True
  | .leaf l => l.sz
  | .cut s => s.sz
  | .br l r => l.sz ∧ r.sz
def slD (md : Int) : D := .ins C_Sealer [((PySem.Str.ofString "_modulus"), .int md)]
theorem slD_pure (md : Int) : (slD md).pure = true := rfl
@[simp] theorem res_sl (m : List Cell) (s : Int) : res m (slD s) = slD s := rfl
@[simp] theorem gV_sl (s : Int) : gV (some (slD s)) = some (slD s) := rfl
@[simp] theorem fld_sl (md : Int) : fldD (Tab.fl tab) (PySem.Str.ofString "_modulus") (slD md) = some (.int md) := by
  unfold fldD slD
  simp
theorem partN_lt {a b p : Nat} (h : partN a b = some p) : p ≤ 47 := by
  unfold partN at h
  split at h
  · cases h
  · cases h; omega
end
end SG
namespace SG
open PySem L2 GS
/-! ### seals, rows, summaries, as the laws reckon them -/
def sealF (md v x : Int) : Int := (v * v * v + 5 * v + 3 * x + 1) % md
def sealV (md : Int) (l : List Int) : Int := (l ++ [(l.length : Int)]).foldl (sealF md) 1
def numsL (s : Sm) : List Int := [s.sv, s.ct] ++ s.sums ++ [(nmv s.lo : Int), (nmv s.hi : Int)]
def rowLf (l : Lf) : List Int := [0, (nmv l.nm : Int), (l.w.length : Int)] ++ l.w ++ l.ns
def rowBr (a b : Sm) : List Int := [1, (a.sums.length : Int)] ++ numsL a ++ numsL b
def smLf (md : Int) (l : Lf) : Sm := ⟨sealV md (rowLf l), 1, l.w, l.nm, l.nm⟩
def smBr (md : Int) (a b : Sm) : Sm := ⟨sealV md (rowBr a b), a.ct + b.ct, List.zipWith (· + ·) a.sums b.sums, a.lo, b.hi⟩
def T.sm (md : Int) : T → Sm
  | .nil => ⟨0, 0, [], Str.empty, Str.empty⟩
  | .leaf l => smLf md l
  | .cut s => s
  | .br l r => smBr md (l.sm md) (r.sm md)
/-- all parts have k kinds, names, and no more than some notes -/
def T.fine (k : Nat) : T → Prop
  | .nil => False
  | .leaf l => okN (cs l.nm) ∧ l.w.length = k ∧ l.ns.length ≤ 100
  | .cut s => okN (cs s.lo) ∧ okN (cs s.hi) ∧ s.sums.length = k
  | .br l r => l.fine k ∧ r.fine k
theorem fine_full {k : Nat} : ∀ t : T, t.fine k → t.full = true
  | .nil, h => h.elim
  | .leaf _, _ => rfl
  | .cut _, _ => rfl
  | .br l r, ⟨h1, h2⟩ => by show (l.full && r.full) = true; rw [fine_full l h1, fine_full r h2]; rfl
theorem fine_sm {md : Int} {k : Nat} : ∀ t : T, t.fine k → okN (cs (t.sm md).lo) ∧ okN (cs (t.sm md).hi) ∧ (t.sm md).sums.length = k
  | .nil, h => h.elim
  | .leaf l, ⟨h1, h2, _⟩ => ⟨h1, h1, h2⟩
  | .cut s, h => h
  | .br l r, ⟨h1, h2⟩ => by
    have a := fine_sm (md := md) l h1
    have b := fine_sm (md := md) r h2
    exact ⟨a.1, b.2.1, by show (List.zipWith _ _ _).length = k; rw [List.length_zipWith, a.2.2, b.2.2]; omega⟩
section
variable {n : Nat} {m : List Cell}
theorem loop_list {α β : Type} {enc : α → D} {j : Nat} {body : List D → List Cell → SR} {m : List Cell} (g : β → α → β) (R : β → List D → Prop) : ∀ (l : List α) (b : β) (ρ : List D), (∀ b a ρ, a ∈ l → R b ρ → ∃ ρ2, body (ρ.set j (enc a)) m = .nx ρ2 m ∧ R (g b a) ρ2) → R b ρ → ∃ ρ', loopS (.one j) body none (l.map enc) ρ m = .nx ρ' m ∧ R (l.foldl g b) ρ'
  | [], b, ρ, _, h => ⟨ρ, loop_nil, h⟩
  | a :: l, b, ρ, hs, h => by
    obtain ⟨ρ2, e, h2⟩ := hs b a ρ List.mem_cons_self h
    obtain ⟨ρ', e', h'⟩ := loop_list (enc := enc) (j := j) (body := body) (m := m) g R l (g b a) ρ2 (fun b a ρ ha => hs b a ρ (List.mem_cons_of_mem _ ha)) h2
    exact ⟨ρ', by rw [List.map_cons, loop_cons, e]; exact e', h'⟩
theorem w_law_seal (hn : 1 ≤ n) {md : Int} (h1 : 0 < md) (h2 : md ≤ 2305843009213693951) {l : List Int} (hl : l.length ≤ 1000) : pur (Ph n F__law_seal) [.int md, .tup (l.map D.int)] m = .ok (.int (sealV md l)) m := by
  refine pur_ok (pl2 rfl (ints_pure l)) ?_ rfl
  rw [go__law_seal (by omega)]
  obtain ⟨ρ', e, v0, v1, x, rfl⟩ := loop_list (enc := D.int) (j := 3) (body := evB (Mm (n - 1)) b__law_seal_L1) (m := []) (sealF md) (fun v ρ => 0 ≤ v ∧ v < 18446744073709551616 ∧ ∃ x, ρ = [.int md, .tup (l.map D.int), .int v, x]) (l ++ [(l.length : Int)]) 1 [.int md, .tup (l.map D.int), .int 1, .no] (by
    rintro v a ρ _ ⟨v0, v1, x, rfl⟩
    have q1 := Int.emod_nonneg (v * v * v + 5 * v + 3 * a + 1) (show md ≠ 0 by omega)
    have q2 := Int.emod_lt_of_pos (v * v * v + 5 * v + 3 * a + 1) h1
    have v2 : -18446744073709551616 < v := by omega
    refine ⟨_, by simp [b__law_seal_L1, v1, v2, h1]; rfl, q1, by unfold sealF; omega, .int a, rfl⟩) ⟨by decide, by decide, .no, rfl⟩
  simp only [List.map_append, List.map_cons, List.map_nil] at e
  have hl2 : l.length + 1 ≤ 16777216 := by omega
  simp [b__law_seal, e, hl2, sealV]
theorem sealV_range {md : Int} (h1 : 0 < md) (l : List Int) : 0 ≤ sealV md l ∧ sealV md l < md := by
  unfold sealV
  rw [List.foldl_append]
  exact ⟨Int.emod_nonneg _ (by omega), Int.emod_lt_of_pos _ h1⟩
theorem ints_cons (a : Int) (l : List Int) : D.int a :: l.map D.int = (a :: l).map D.int := rfl
theorem nums_len (s : Sm) : (numsL s).length = s.sums.length + 4 := by simp [numsL]
@[simp] theorem tup_sm (a b : Int) (c : List Int) (d e : Str) : D.tup [.int a, .int b, .tup (c.map D.int), .str d, .str e] = smD ⟨a, b, c, d, e⟩ := rfl
end
end SG
namespace SG
open PySem L2 GS
/-! ### whole trees -/
def T.lv : T → List Lf
  | .leaf l => [l]
  | .br l r => l.lv ++ r.lv
  | _ => []
/-- x's number has bit 0, y's bit 1 at p, and all bits ahead are alike -/
def apart (p : Nat) (x y : Lf) : Prop := bitN (nmv x.nm) p = 0 ∧ bitN (nmv y.nm) p = 1 ∧ ∀ k < p, bitN (nmv x.nm) k = bitN (nmv y.nm) k
def T.WF : T → Prop
  | .leaf l => okN (cs l.nm)
  | .br l r => l.WF ∧ r.WF ∧ ∃ p, p ≤ 47 ∧ ∀ x ∈ l.lv, ∀ y ∈ r.lv, apart p x y
  | _ => False
theorem WF_lv : ∀ t : T, t.WF → t.lv ≠ []
  | .leaf l, _ => by simp [T.lv]
  | .br l r, h => by simp [T.lv, WF_lv l h.1]
  | .nil, h => h.elim
  | .cut _, h => h.elim
theorem bitN_01 (a k : Nat) : bitN a k = 0 ∨ bitN a k = 1 := by unfold bitN; omega
theorem bits_inj {a b : Nat} (la : a < 2 ^ 48) (lb : b < 2 ^ 48) (h : ∀ k < 48, bitN a k = bitN b k) : a = b := by
  apply Nat.eq_of_testBit_eq
  intro i
  by_cases hi : i < 48
  · have q := (bit_xor a b (47 - i)).mp (h _ (by omega))
    rw [show 47 - (47 - i) = i by omega, Nat.testBit_xor] at q
    simpa using q
  · rw [Nat.testBit_lt_two_pow (Nat.lt_of_lt_of_le la (Nat.pow_le_pow_right (by decide) (by omega))), Nat.testBit_lt_two_pow (Nat.lt_of_lt_of_le lb (Nat.pow_le_pow_right (by decide) (by omega)))]
def rwD (l : Lf) : D := .tup [.int (nmv l.nm), .lst (bitsN (nmv l.nm)), lfD l]
theorem rwD_pure (l : Lf) : (rwD l).pure = true := by
  have : pureL (bitsN (nmv l.nm)) = true := pureL_map (fun _ => rfl) _
  simp [rwD, D.pure, pureL, this, lfD_pure]
@[simp] theorem res_rw (m : List Cell) (s : Lf) : res m (rwD s) = rwD s := rfl
@[simp] theorem gV_rw (s : Lf) : gV (some (rwD s)) = some (rwD s) := rfl
@[simp] theorem idx_rw1 (s : Lf) : idxD (rwD s) (.int 1) = some (.lst (bitsN (nmv s.nm))) := rfl
@[simp] theorem idx_rw2 (s : Lf) : idxD (rwD s) (.int 2) = some (lfD s) := rfl
theorem bits_get {a k : Nat} (h : k < 48) : (bitsN a)[k]? = some (.int (bitN a k : Nat)) := by
  unfold bitsN
  rw [List.getElem?_map, List.getElem?_range h]; rfl
section
variable {n : Nat} {m : List Cell}
/-- the rows with a bit -/
theorem rows_bit {M : Sem} {c : E} {ls : List Lf} {own : List Nat} {j : Nat} {ρ : List D} {m : List Cell} {p : Lf → Bool} (h : ∀ l ∈ ls, evE M c ((wipeR ρ own).set j (rwD l)) m = .ok (.bl (p l)) m) (h2 : ∀ l, evE M (.var 5) ((wipeR ρ own).set j (rwD l)) m = .ok (rwD l) m) (hl : ls.length ≤ 16777216) :
    cmpK1 M (.one j) own (some c) (.var 5) ρ (.ok (ls.map rwD, none) m) = .ok (.lst ((ls.filter p).map rwD)) m := by
  have dec : ∃ f : D → Bool, ∀ l ∈ ls, f (rwD l) = p l := by
    refine ⟨fun d => match evE M c ((wipeR ρ own).set j d) m with | .ok (.bl b) _ => b | _ => false, fun l hl => ?_⟩
    show (match evE M c ((wipeR ρ own).set j (rwD l)) m with | .ok (.bl b) _ => b | _ => false) = p l
    rw [h l hl]
  obtain ⟨f, hf⟩ := dec
  have := cmp_filter (M := M) (j := j) (own := own) (c := c) (el := .var 5) (ρ := ρ) (m := m) (ds := ls.map rwD) f id (fun d hd => by
    obtain ⟨l, hl, rfl⟩ := List.mem_map.mp hd
    rw [h l hl, hf l hl]) (fun d hd _ => by
    obtain ⟨l, hl, rfl⟩ := List.mem_map.mp hd
    rw [h2 l]; rfl) (by simpa using hl)
  rw [this, List.map_id, List.filter_map]
  congr 2
  apply congrArg
  apply List.filter_congr
  intro l hl
  exact hf l hl
/-- the split of some leaves whose numbers have all bits ahead of a place alike -/
def Agree (ls : List Lf) (p : Nat) : Prop := ∀ x ∈ ls, ∀ y ∈ ls, ∀ k < p, bitN (nmv x.nm) k = bitN (nmv y.nm) k
end
end SG
namespace SG
open PySem L2 GS
section
variable {n : Nat} {m : List Cell}
/-- t is w with some parts cut -/
def CutOf (md : Int) : T → T → Prop
  | .cut s, w => s = w.sm md
  | .leaf l, w => w = .leaf l
  | .br a b, .br c d => CutOf md a c ∧ CutOf md b d
  | _, _ => False
theorem cut_dp {md : Int} : ∀ t w : T, CutOf md t w → t.dp ≤ w.dp
  | .cut s, w, _ => by show 1 ≤ _; exact w.dp_pos
  | .leaf l, w, h => by show 1 ≤ _; exact w.dp_pos
  | .br a b, .br c d, ⟨h1, h2⟩ => by
    have := cut_dp a c h1
    have := cut_dp b d h2
    simp [T.dp]; omega
  | .nil, _, h => h.elim
  | .br _ _, .nil, h => h.elim
  | .br _ _, .leaf _, h => h.elim
  | .br _ _, .cut _, h => h.elim
theorem cut_fine {md : Int} {k : Nat} : ∀ t w : T, w.fine k → CutOf md t w → t.fine k
  | .cut s, w, f, h => by cases h; exact fine_sm w f
  | .leaf l, w, f, h => by cases h; exact f
  | .br a b, .br c d, f, ⟨h1, h2⟩ => ⟨cut_fine a c f.1 h1, cut_fine b d f.2 h2⟩
  | .nil, _, f, h => h.elim
  | .br _ _, .nil, f, h => h.elim
  | .br _ _, .leaf _, f, h => h.elim
  | .br _ _, .cut _, f, h => h.elim
theorem set_same {α : Type} {m : List α} {q : Nat} {x : α} (h : m[q]? = some x) : m.set q x = m := by
  apply List.ext_getElem?
  intro i
  rw [List.getElem?_set]
  by_cases e : q = i
  · subst e
    obtain ⟨h1, h2⟩ := List.getElem?_eq_some_iff.mp h
    simp [h1, h2]
  · simp [e]
theorem set_get {α : Type} {m : List α} {q : Nat} {x y : α} (h : m[q]? = some x) : (m.set q y)[q]? = some y := by
  obtain ⟨h1, _⟩ := List.getElem?_eq_some_iff.mp h
  simp [h1]
end
end SG
namespace SG
open PySem L2 GS
@[simp] theorem frz_obj (i : Nat) (ρ : List D) (m : List Cell) (n : Nat) : frzSlot i ρ m (some (.obj n)) = ofFrz i ρ m n m[n]? := rfl
@[simp] theorem ofFrz_dct (i : Nat) (ρ : List D) (m : List Cell) (n : Nat) (l : List (Key × D)) : ofFrz i ρ m n (some (.dct l)) = some (ρ.set i (.dct l), m.set n .dead) := rfl
@[simp] theorem ofFrz_lst (i : Nat) (ρ : List D) (m : List Cell) (n : Nat) (l : List D) : ofFrz i ρ m n (some (.lst l)) = some (ρ.set i (.lst l), m.set n .dead) := rfl
/-! ### the leaves that the laws draw -/
def kvD (l : Lf) : Key × D := (.inr l.nm, lfD l)
def putLf (ls : List Lf) (l : Lf) : List Lf := if (ls.any fun x => decide (x.nm = l.nm)) = true then ls.map fun x => if x.nm = l.nm then l else x else ls ++ [l]
theorem putD_lf (ls : List Lf) (l : Lf) : putD (ls.map kvD) (.inr l.nm) (lfD l) = (putLf ls l).map kvD := by
  unfold putD putLf
  have e : ((ls.map kvD).any fun kv => decide (kv.1 = (.inr l.nm : Key))) = (ls.any fun x => decide (x.nm = l.nm)) := by
    rw [List.any_map]
    congr 1
    funext x
    show decide ((Sum.inr x.nm : Key) = .inr l.nm) = _
    simp
  rw [e]
  split
  · rw [List.map_map, List.map_map]
    apply List.map_congr_left
    intro x _
    by_cases h : x.nm = l.nm
    · simp [kvD, h]
    · simp [kvD, h]
  · simp [kvD]
theorem put_names (ls : List Lf) (l : Lf) (h : (ls.map (·.nm)).Nodup) : ((putLf ls l).map (·.nm)).Nodup := by
  unfold putLf
  split
  · rw [List.map_map]
    have : ls.map ((fun x => x.nm) ∘ fun x => if x.nm = l.nm then l else x) = ls.map (·.nm) := by
      apply List.map_congr_left
      intro x _
      by_cases h : x.nm = l.nm <;> simp [h]
    rw [this]; exact h
  · rename_i q
    have q' : ∀ x ∈ ls, ¬ x.nm = l.nm := by simpa using q
    rw [List.map_append, List.nodup_append]
    refine ⟨h, by simp, ?_⟩
    intro a ha b hb
    obtain ⟨x, hx, rfl⟩ := List.mem_map.mp ha
    simp at hb
    subst hb
    exact q' x hx
theorem put_mem {ls : List Lf} {l x : Lf} (h : x ∈ putLf ls l) : x = l ∨ x ∈ ls := by
  unfold putLf at h
  split at h
  · obtain ⟨y, hy, e⟩ := List.mem_map.mp h
    split at e
    · exact .inl e.symm
    · exact .inr (e ▸ hy)
  · simp at h
    exact h.symm
theorem put_len (ls : List Lf) (l : Lf) : (putLf ls l).length ≤ ls.length + 1 ∧ 1 ≤ (putLf ls l).length := by
  unfold putLf
  split
  · rename_i q
    have : ls ≠ [] := fun e => by rw [e] at q; cases q
    have := List.length_pos_iff.mpr this
    simp; omega
  · simp
def wOf (c k : Nat) : List Int := (List.range k).map fun j => [0, 1, 5, 1000000000000000, 77, 300].getD (c / (1200 + 7 * j) % 6) 0
def nOf (c k : Nat) : List Int := (List.range k).map fun j => [0, 1, 2, 2305843009213693952, 9].getD (c / (9000 + 11 * j) % 5) 0
def lfOf (c k : Nat) : Lf := ⟨lawName (c % 1200), wOf c k, nOf c (c / 60000 % 4)⟩
theorem six {q : Nat} (h : q < 6) : ([D.int 0, .int 1, .int 5, .int 1000000000000000, .int 77, .int 300])[q]? = some (.int ([0, 1, 5, 1000000000000000, 77, 300].getD q 0)) := by
  match q, h with
  | 0, _ => rfl | 1, _ => rfl | 2, _ => rfl | 3, _ => rfl | 4, _ => rfl | 5, _ => rfl
theorem five {q : Nat} (h : q < 5) : ([D.int 0, .int 1, .int 2, .int 2305843009213693952, .int 9])[q]? = some (.int ([0, 1, 2, 2305843009213693952, 9].getD q 0)) := by
  match q, h with
  | 0, _ => rfl | 1, _ => rfl | 2, _ => rfl | 3, _ => rfl | 4, _ => rfl
theorem six_in (q : Nat) : 0 ≤ ([0, 1, 5, 1000000000000000, 77, 300] : List Int).getD q 0 ∧ ([0, 1, 5, 1000000000000000, 77, 300] : List Int).getD q 0 ≤ 1000000000000000 := by
  match q with
  | 0 => decide | 1 => decide | 2 => decide | 3 => decide | 4 => decide | 5 => decide | q + 6 => simp
theorem five_in (q : Nat) : 0 ≤ ([0, 1, 2, 2305843009213693952, 9] : List Int).getD q 0 ∧ ([0, 1, 2, 2305843009213693952, 9] : List Int).getD q 0 ≤ 2305843009213693952 := by
  match q with
  | 0 => decide | 1 => decide | 2 => decide | 3 => decide | 4 => decide | q + 5 => simp
theorem lfOf_ok {c k : Nat} (h1 : 1 ≤ k) (h3 : k ≤ 3) : okLf (lfOf c k) = true := by
  have a := lawName_ok (c % 1200)
  have b : inR 0 1000000000000000 (wOf c k) = true := by
    unfold inR wOf
    rw [List.all_map, List.all_eq_true]
    intro j _
    exact decide_eq_true (six_in _)
  have d : inR 0 2305843009213693952 (nOf c (c / 60000 % 4)) = true := by
    unfold inR nOf
    rw [List.all_map, List.all_eq_true]
    intro j _
    exact decide_eq_true (five_in _)
  have e1 : (wOf c k).length = k := by simp [wOf]
  have e2 : (nOf c (c / 60000 % 4)).length ≤ 3 := by simp [nOf]; omega
  have e3 : (nOf c (c / 60000 % 4)).length ≤ 12 := by omega
  show (decide (okN (cs (lawName (c % 1200)))) && (decide (1 ≤ (wOf c k).length ∧ (wOf c k).length ≤ 3) && inR 0 1000000000000000 (wOf c k)) && (decide ((nOf c (c / 60000 % 4)).length ≤ 12) && inR 0 2305843009213693952 (nOf c (c / 60000 % 4)))) = true
  rw [b, d, e1]
  simp [a, h1, h3, e3]
/-- leaves as drawn -/
structure Drawn (k : Nat) (ls : List Lf) : Prop where
  ok : ∀ l ∈ ls, okLf l = true ∧ l.w.length = k
  nd : (ls.map (·.nm)).Nodup
theorem Drawn.put {k c : Nat} {ls : List Lf} (h1 : 1 ≤ k) (h3 : k ≤ 3) (h : Drawn k ls) : Drawn k (putLf ls (lfOf c k)) := by
  refine ⟨fun l hl => ?_, put_names _ _ h.nd⟩
  rcases put_mem hl with rfl | hl
  · exact ⟨lfOf_ok h1 h3, by simp [lfOf, wOf]⟩
  · exact h.ok l hl
theorem pureK_kv (ls : List Lf) : pureK (ls.map kvD) = true := by
  induction ls with
  | nil => rfl
  | cons l r ih => show ((lfD l).pure && pureK (r.map kvD)) = true; rw [lfD_pure, ih]; rfl
section
variable {n : Nat} {m : List Cell}
end
end SG
namespace SG
open PySem L2 GS
def T.st1 : T → T
  | .br l _ => l
  | t => t
def T.st2 : T → T
  | .br _ r => r
  | t => t
def itF (f : T → T) : Nat → T → T
  | 0, t => t
  | i + 1, t => f (itF f i t)
theorem itF_succ (f : T → T) (i : Nat) (t : T) : itF f (i + 1) t = itF f i (f t) := by
  induction i with
  | zero => rfl
  | succ i ih => show f (itF f (i + 1) t) = f (itF f i (f t)); rw [ih]
theorem it_same {f : T → T} {t : T} (h : f t = t) (i : Nat) : itF f i t = t := by
  induction i with
  | zero => rfl
  | succ i ih => show f (itF f i t) = t; rw [ih, h]
theorem it_lm : ∀ (t : T) (i : Nat), t.dp ≤ i + 1 → itF T.st1 i t = t.lm
  | .nil, i, _ => it_same rfl i
  | .leaf _, i, _ => it_same rfl i
  | .cut _, i, _ => it_same rfl i
  | .br l r, 0, h => by simp [T.dp] at h; have := l.dp_pos; omega
  | .br l r, i + 1, h => by
    rw [itF_succ]
    exact it_lm l i (by simp [T.dp] at h; omega)
theorem it_rm : ∀ (t : T) (i : Nat), t.dp ≤ i + 1 → itF T.st2 i t = t.rm
  | .nil, i, _ => it_same rfl i
  | .leaf _, i, _ => it_same rfl i
  | .cut _, i, _ => it_same rfl i
  | .br l r, 0, h => by simp [T.dp] at h; have := r.dp_pos; omega
  | .br l r, i + 1, h => by
    rw [itF_succ]
    exact it_rm r i (by simp [T.dp] at h; omega)
theorem it_full {f : T → T} (hf : ∀ t : T, t.full = true → (f t).full = true) {t : T} (h : t.full = true) (i : Nat) : (itF f i t).full = true := by
  induction i with
  | zero => exact h
  | succ i ih => exact hf _ ih
theorem st1_full (t : T) (h : t.full = true) : t.st1.full = true := by
  cases t with
  | br l r => exact (and2 h).1
  | _ => exact h
theorem st2_full (t : T) (h : t.full = true) : t.st2.full = true := by
  cases t with
  | br l r => exact (and2 h).2
  | _ => exact h
section
variable {n : Nat} {m : List Cell}
def T.kindsL : T → Int
  | .nil => -1
  | .leaf l => l.w.length
  | .br l r => if l.kindsL = r.kindsL then l.kindsL else -1
  | .cut s => s.sums.length
theorem kinds_rel : ∀ t : T, t.kindsL = (t.kinds : Int) ∨ (t.kindsL = -1 ∧ t.kinds = 0)
  | .nil => .inr ⟨rfl, rfl⟩
  | .leaf _ => .inl rfl
  | .cut _ => .inl rfl
  | .br l r => by
    have a := kinds_rel l
    have b := kinds_rel r
    show (if l.kindsL = r.kindsL then l.kindsL else -1) = (((if l.kinds = r.kinds then l.kinds else 0 : Nat)) : Int) ∨ ((if l.kindsL = r.kindsL then l.kindsL else -1) = -1 ∧ (if l.kinds = r.kinds then l.kinds else 0) = 0)
    by_cases h1 : l.kindsL = r.kindsL <;> by_cases h2 : l.kinds = r.kinds <;> simp [h1, h2] <;> omega
/-- the odd ones of some ints -/
theorem ints_filter {M : Sem} {c el : E} {own : List Nat} {j : Nat} {ρ : List D} {m : List Cell} {l : List Int} (p : Int → Bool) (h : ∀ x, evE M c ((wipeR ρ own).set j (.int x)) m = .ok (.bl (p x)) m) (h2 : ∀ x, evE M el ((wipeR ρ own).set j (.int x)) m = .ok (.int x) m) (hl : l.length ≤ 16777216) :
    cmpK1 M (.one j) own (some c) el ρ (.ok (l.map D.int, none) m) = .ok (.lst ((l.filter p).map D.int)) m := by
  have := cmp_filter (M := M) (j := j) (own := own) (c := c) (el := el) (ρ := ρ) (m := m) (ds := l.map D.int) (fun d => match d with | .int x => p x | _ => false) id (fun d hd => by
    obtain ⟨k, hk, rfl⟩ := List.mem_map.mp hd
    exact h k) (fun d hd _ => by
    obtain ⟨k, hk, rfl⟩ := List.mem_map.mp hd
    exact h2 k) (by simpa using hl)
  rw [this, List.map_id, List.filter_map]
  rfl
theorem filter_nil (p q : Int → Bool) (h : ∀ x, p x = !q x) (l : List Int) : (l.filter p = []) ↔ l.all q = true := by
  rw [List.filter_eq_nil_iff, List.all_eq_true]
  constructor
  · intro a x hx
    have := a x hx
    rw [h] at this
    simpa using this
  · intro a x hx
    rw [h, a x hx]
    decide
/-- a tree whose parts are not too large -/
def T.bd : T → Prop
  | .nil => True
  | .leaf l => l.nm.length ≤ 1000 ∧ l.w.length ≤ 1000 ∧ l.ns.length ≤ 1000
  | .cut s => s.lo.length ≤ 1000 ∧ s.hi.length ≤ 1000 ∧ s.sums.length ≤ 1000 ∧ s.ct ≤ 1000000000000000000000000 ∧ ∀ x ∈ s.sums, x ≤ 1000000000000000000000000
  | .br l r => l.bd ∧ r.bd
theorem bd_sz : ∀ t : T, t.bd → t.sz
  | .nil, _ => trivial
  | .leaf l, h => ⟨by have := h.1; omega, by have := h.2.1; omega, by have := h.2.2; omega⟩
  | .cut l, h => ⟨by have := h.1; omega, by have := h.2.1; omega, by have := h.2.2.1; omega⟩
  | .br l r, h => ⟨bd_sz l h.1, bd_sz r h.2⟩
/-! ### the columns -/
def cols (a b c d : Nat) (k : Nat) : Nat → Bool
  | 0 => false
  | j + 1 => if bitN a k ≠ bitN d k then decide (bitN a k = 0 ∧ bitN b k = 0 ∧ bitN c k = 1 ∧ bitN d k = 1) else if bitN b k = bitN a k ∧ bitN c k = bitN a k then cols a b c d (k + 1) j else false
def rowsD (a b c d : Nat) : D := .lst [.lst (bitsN a), .lst (bitsN b), .lst (bitsN c), .lst (bitsN d)]
@[simp] theorem gV_rows (a b c d : Nat) : gV (some (rowsD a b c d)) = some (rowsD a b c d) := rfl
@[simp] theorem src_rows (a b c d : Nat) (m : List Cell) : srcD (rowsD a b c d) m = .ok ([.lst (bitsN a), .lst (bitsN b), .lst (bitsN c), .lst (bitsN d)], none) m := rfl
theorem plain4 (a b c d : Int) : (D.lst [.int a, .int b, .int c, .int d]).plain = true := rfl
theorem depth4 (a b c d : Int) : (toPy (.lst [.int a, .int b, .int c, .int d])).depth ≤ 64 := by simp [toPy, toPyL, PyData.depth, PyData.depthAll]
theorem eq4 (a b c d a' b' c' d' : Int) : eqB (.lst [.int a, .int b, .int c, .int d]) (.lst [.int a', .int b', .int c', .int d']) = some (cd (a = a' ∧ b = b' ∧ c = c' ∧ d = d')) := by
  rw [eqB_plain (plain4 _ _ _ _) (plain4 _ _ _ _) (depth4 _ _ _ _) (depth4 _ _ _ _)]
  congr 2
  simp
def goodT (md : Int) : T → Bool
  | .nil => false
  | .leaf l => okLf l
  | .cut s => okSm md s
  | .br l r => goodT md l && goodT md r && cols (nmv l.lo) (nmv l.hi) (nmv r.lo) (nmv r.hi) 0 48
theorem good_valid {md : Int} : ∀ t : T, goodT md t = true → t.valid md = true
  | .nil, h => h
  | .leaf _, h => h
  | .cut _, h => h
  | .br l r, h => by
    obtain ⟨h, _⟩ := and2 h
    obtain ⟨h1, h2⟩ := and2 h
    show (l.valid md && r.valid md) = true
    rw [good_valid l h1, good_valid r h2]; rfl
end
end SG
namespace SG
open PySem L2 GS
theorem dueN_spec (a b : Nat) : ∀ k, match dueN a b k with
    | none => ∀ i < k, bitN a i = bitN b i
    | some p => p < k ∧ bitN a p ≠ bitN b p ∧ ∀ i < p, bitN a i = bitN b i
  | 0 => fun i h => by omega
  | k + 1 => by
    have ih := dueN_spec a b k
    unfold dueN
    cases e : dueN a b k with
    | some p =>
      rw [e] at ih
      exact ⟨by have := ih.1; omega, ih.2⟩
    | none =>
      rw [e] at ih
      dsimp only at ih ⊢
      by_cases h : bitN a k = bitN b k
      · rw [if_pos h]
        intro i hi
        by_cases q : i = k
        · subst q; exact h
        · exact ih i (by omega)
      · rw [if_neg h]
        exact ⟨by omega, h, ih⟩
theorem part_some {a b p : Nat} (la : a < 2 ^ 48) (lb : b < 2 ^ 48) (h1 : p < 48) (h2 : bitN a p ≠ bitN b p) (h3 : ∀ i < p, bitN a i = bitN b i) : partN a b = some p := by
  rw [← dueN_part la lb]
  have q := dueN_spec a b 48
  cases e : dueN a b 48 with
  | none => rw [e] at q; exact absurd (q p h1) h2
  | some r =>
    rw [e] at q
    obtain ⟨q1, q2, q3⟩ := q
    rcases Nat.lt_trichotomy p r with h | h | h
    · exact absurd (q3 p h) h2
    · rw [h]
    · exact absurd (h3 r h) q2
theorem part_inv {a b p : Nat} (la : a < 2 ^ 48) (lb : b < 2 ^ 48) (h : partN a b = some p) : p < 48 ∧ bitN a p ≠ bitN b p ∧ ∀ i < p, bitN a i = bitN b i := by
  rw [← dueN_part la lb] at h
  have q := dueN_spec a b 48
  rw [h] at q
  exact q
theorem part_none {a b : Nat} (h : partN a b = none) : a = b := by
  unfold partN at h
  split at h
  · assumption
  · cases h
theorem inside_iff {a b p bit : Nat} (la : a < 2 ^ 48) (lb : b < 2 ^ 48) (hp : p < 48) : inside a b p bit = true ↔ bitN a p = bit ∧ bitN b p = bit ∧ ∀ i < p, bitN a i = bitN b i := by
  unfold inside
  cases e : partN a b with
  | none =>
    have := part_none e
    subst this
    simp
  | some q =>
    obtain ⟨q1, q2, q3⟩ := part_inv la lb e
    simp [and_assoc]
    intro h1 h2
    constructor
    · exact fun h i hi => q3 i (by omega)
    · intro h
      rcases Nat.lt_trichotomy p q with z | z | z
      · exact z
      · subst z; exact absurd (h1.trans h2.symm) q2
      · exact absurd (h q z) q2
/-- the rule of the points -/
def Sides (a b c d : Nat) : Prop := ∃ p, p < 48 ∧ bitN a p = 0 ∧ bitN b p = 0 ∧ bitN c p = 1 ∧ bitN d p = 1 ∧ ∀ i < p, bitN a i = bitN d i ∧ bitN b i = bitN a i ∧ bitN c i = bitN a i
theorem sides_iff {a b c d : Nat} (la : a < 2 ^ 48) (lb : b < 2 ^ 48) (lc : c < 2 ^ 48) (ld : d < 2 ^ 48) : sides a b c d = true ↔ Sides a b c d := by
  unfold sides
  cases e : partN a d with
  | none =>
    have := part_none e
    subst this
    simp
    rintro ⟨p, hp, h1, _, _, h4, _⟩
    omega
  | some p =>
    obtain ⟨q1, q2, q3⟩ := part_inv la ld e
    simp only [Bool.and_eq_true, decide_eq_true_eq, inside_iff la lb q1, inside_iff lc ld q1]
    constructor
    · rintro ⟨⟨h1, h2, h3, h4⟩, h5, h6, h7⟩
      exact ⟨p, q1, h1, h3, h5, h6, fun i hi => ⟨q3 i hi, (h4 i hi).symm, (h7 i hi).trans (q3 i hi).symm⟩⟩
    · rintro ⟨r, hr, h1, h2, h3, h4, h5⟩
      have : r = p := by
        rcases Nat.lt_trichotomy r p with z | z | z
        · have := q3 r z; omega
        · exact z
        · exact absurd (h5 p z).1 q2
      subst this
      exact ⟨⟨h1, h1, h2, fun i hi => (h5 i hi).2.1.symm⟩, h3, h4, fun i hi => (h5 i hi).2.2.trans (h5 i hi).1⟩
theorem cols_iff {a b c d : Nat} : ∀ (j k : Nat), k + j = 48 → (∀ i < k, bitN a i = bitN d i ∧ bitN b i = bitN a i ∧ bitN c i = bitN a i) → (cols a b c d k j = true ↔ Sides a b c d)
  | 0, k, hk, h => by
    simp [cols]
    rintro ⟨p, hp, h1, _, _, h4, _⟩
    have := (h p (by omega)).1
    omega
  | j + 1, k, hk, h => by
    unfold cols
    by_cases h1 : bitN a k ≠ bitN d k
    · rw [if_pos h1, decide_eq_true_eq]
      constructor
      · rintro ⟨x1, x2, x3, x4⟩
        exact ⟨k, by omega, x1, x2, x3, x4, h⟩
      · rintro ⟨p, hp, x1, x2, x3, x4, x5⟩
        have : p = k := by
          rcases Nat.lt_trichotomy p k with z | z | z
          · have := (h p z).1; omega
          · exact z
          · exact absurd (x5 k z).1 h1
        subst this
        exact ⟨x1, x2, x3, x4⟩
    · rw [if_neg h1]
      have h1 : bitN a k = bitN d k := Classical.byContradiction h1
      by_cases h2 : bitN b k = bitN a k ∧ bitN c k = bitN a k
      · rw [if_pos h2]
        refine cols_iff j (k + 1) (by omega) fun i hi => ?_
        by_cases e : i = k
        · subst e; exact ⟨h1, h2⟩
        · exact h i (by omega)
      · rw [if_neg h2]
        simp
        rintro ⟨p, hp, x1, x2, x3, x4, x5⟩
        rcases Nat.lt_trichotomy p k with z | z | z
        · have := (h p z).1; omega
        · subst z; omega
        · exact h2 (x5 k z).2
theorem cols_sides {a b c d : Nat} (la : a < 2 ^ 48) (lb : b < 2 ^ 48) (lc : c < 2 ^ 48) (ld : d < 2 ^ 48) : cols a b c d 0 48 = sides a b c d := by
  rw [Bool.eq_iff_iff, sides_iff la lb lc ld]
  exact cols_iff 48 0 rfl fun i hi => by omega
theorem good_split {md : Int} : ∀ t : T, goodT md t = (t.valid md && t.order)
  | .nil => rfl
  | .leaf l => by show okLf l = (okLf l && true); rw [Bool.and_true]
  | .cut l => by show okSm md l = (okSm md l && true); rw [Bool.and_true]
  | .br l r => by
    show (goodT md l && goodT md r && cols _ _ _ _ 0 48) = ((l.valid md && r.valid md) && (sides _ _ _ _ && l.order && r.order))
    rw [good_split l, good_split r]
    cases vl : l.valid md with
    | false => simp
    | true =>
      cases vr : r.valid md with
      | false => simp
      | true =>
        rw [cols_sides (a := nmv l.lo) (b := nmv l.hi) (c := nmv r.lo) (d := nmv r.hi) (numOf_lt (valid_names l vl).1) (numOf_lt (valid_names l vl).2) (numOf_lt (valid_names r vr).1) (numOf_lt (valid_names r vr).2)]
        cases l.order <;> cases r.order <;> simp
theorem good_wf {md : Int} {t : T} (h : t ≠ .nil) : (goodT md t && decide (0 < t.kindsL)) = t.wf md := by
  have e : t.wf md = (t.valid md && decide (0 < t.kinds) && t.order) := by cases t <;> first | (exact absurd rfl h) | rfl
  have k : decide (0 < t.kindsL) = decide (0 < t.kinds) := by
    rcases kinds_rel t with q | ⟨q1, q2⟩
    · rw [q]; exact decide_eq_decide.mpr (by omega)
    · rw [q1, q2]; rfl
  rw [e, k, good_split]
  cases t.valid md <;> cases t.order <;> simp
/-! ### whole trees, and those with cuts, are well formed -/
theorem bit_step (a p : Nat) (hp : p < 48) : a / 2 ^ (47 - p) = 2 * (a / 2 ^ (48 - p)) + bitN a p := by
  unfold bitN
  rw [show 48 - p = (47 - p) + 1 by omega, Nat.pow_succ, ← Nat.div_div_eq_div_mul]
  omega
theorem high_same {a b : Nat} (la : a < 2 ^ 48) (lb : b < 2 ^ 48) : ∀ p, p ≤ 48 → (∀ i < p, bitN a i = bitN b i) → a / 2 ^ (48 - p) = b / 2 ^ (48 - p)
  | 0, _, _ => by rw [Nat.div_eq_of_lt la, Nat.div_eq_of_lt lb]
  | p + 1, hp, h => by
    have ih := high_same la lb p (by omega) fun i hi => h i (by omega)
    rw [show 48 - (p + 1) = 47 - p by omega, bit_step a p (by omega), bit_step b p (by omega), ih, h p (by omega)]
theorem bits_lt {a b p : Nat} (la : a < 2 ^ 48) (lb : b < 2 ^ 48) (hp : p < 48) (h0 : bitN a p = 0) (h1 : bitN b p = 1) (h : ∀ i < p, bitN a i = bitN b i) : a < b := by
  have e := high_same la lb p (by omega) h
  have ea := bit_step a p hp
  have eb := bit_step b p hp
  apply Classical.byContradiction
  intro q
  have : b / 2 ^ (47 - p) ≤ a / 2 ^ (47 - p) := Nat.div_le_div_right (by omega)
  omega
def LvOk (k : Nat) (t : T) : Prop := ∀ x ∈ t.lv, okLf x = true ∧ x.w.length = k
theorem okLf_in {l : Lf} (h : okLf l = true) : okN (cs l.nm) ∧ (1 ≤ l.w.length ∧ l.w.length ≤ 3) ∧ (∀ x ∈ l.w, 0 ≤ x ∧ x ≤ 1000000000000000) ∧ l.ns.length ≤ 12 := by
  simp [okLf, okW, okNs, inR] at h
  exact ⟨h.1.1, h.1.2.1, h.1.2.2, h.2.1⟩
theorem lo_mem : ∀ t : T, t.WF → ∃ x ∈ t.lv, x.nm = t.lo
  | .leaf l, _ => ⟨l, by simp [T.lv], rfl⟩
  | .br l r, h => by
    obtain ⟨x, hx, e⟩ := lo_mem l h.1
    exact ⟨x, by simp [T.lv, hx], e⟩
  | .nil, h => h.elim
  | .cut _, h => h.elim
theorem hi_mem : ∀ t : T, t.WF → ∃ x ∈ t.lv, x.nm = t.hi
  | .leaf l, _ => ⟨l, by simp [T.lv], rfl⟩
  | .br l r, h => by
    obtain ⟨x, hx, e⟩ := hi_mem r h.2.1
    exact ⟨x, by simp [T.lv, hx], e⟩
  | .nil, h => h.elim
  | .cut _, h => h.elim
theorem LvOk.l {k : Nat} {l r : T} (h : LvOk k (.br l r)) : LvOk k l := fun x hx => h x (by simp [T.lv, hx])
theorem LvOk.r {k : Nat} {l r : T} (h : LvOk k (.br l r)) : LvOk k r := fun x hx => h x (by simp [T.lv, hx])
theorem wf_names : ∀ t : T, t.WF → ∀ x ∈ t.lv, okN (cs x.nm)
  | .leaf l, h, x, hx => by simp [T.lv] at hx; subst hx; exact h
  | .br l r, h, x, hx => by
    simp [T.lv] at hx
    rcases hx with hx | hx
    · exact wf_names l h.1 x hx
    · exact wf_names r h.2.1 x hx
  | .nil, h, _, _ => h.elim
  | .cut _, h, _, _ => h.elim
theorem wf_fine {k : Nat} : ∀ t : T, t.WF → LvOk k t → t.fine k
  | .leaf l, h, o => by
    have := o l (by simp [T.lv])
    exact ⟨h, this.2, by have := (okLf_in this.1).2.2.2; omega⟩
  | .br l r, h, o => ⟨wf_fine l h.1 o.l, wf_fine r h.2.1 o.r⟩
  | .nil, h, _ => h.elim
  | .cut _, h, _ => h.elim
/-- the summary of a whole tree -/
theorem whole_sm {md : Int} {k : Nat} (hm : 0 < md) : ∀ t : T, t.WF → LvOk k t → (0 ≤ (t.sm md).sv ∧ (t.sm md).sv < md) ∧ (t.sm md).ct = t.lv.length ∧ (∀ x ∈ (t.sm md).sums, 0 ≤ x ∧ x ≤ t.lv.length * 1000000000000000) ∧ (t.sm md).lo = t.lo ∧ (t.sm md).hi = t.hi
  | .leaf l, h, o => by
    have := okLf_in (o l (by simp [T.lv])).1
    exact ⟨sealV_range hm _, rfl, fun x hx => by have := this.2.2.1 x hx; simp [T.lv]; omega, rfl, rfl⟩
  | .br l r, h, o => by
    obtain ⟨_, a2, a3, a4, _⟩ := whole_sm hm l h.1 o.l
    obtain ⟨_, b2, b3, _, b5⟩ := whole_sm hm r h.2.1 o.r
    refine ⟨sealV_range hm _, ?_, fun x hx => ?_, a4, b5⟩
    · show (l.sm md).ct + (r.sm md).ct = _
      rw [a2, b2]; simp [T.lv]
    · have hx : x ∈ List.zipWith (· + ·) (l.sm md).sums (r.sm md).sums := hx
      obtain ⟨i, hi, e⟩ := List.getElem_of_mem hx
      simp at hi e
      have q1 := a3 _ (List.getElem_mem (show i < (l.sm md).sums.length by omega))
      have q2 := b3 _ (List.getElem_mem (show i < (r.sm md).sums.length by omega))
      rw [← e]
      simp [T.lv]
      omega
  | .nil, h, _ => h.elim
  | .cut _, h, _ => h.elim
theorem apart_lt {p : Nat} {x y : Lf} (hx : okN (cs x.nm)) (hy : okN (cs y.nm)) (hp : p ≤ 47) (h : apart p x y) : nmv x.nm < nmv y.nm :=
  bits_lt (numOf_lt hx) (numOf_lt hy) (by omega) h.1 h.2.1 h.2.2
theorem whole_lt : ∀ (l r : T), (T.br l r).WF → nmv l.lo < nmv r.hi := fun l r h => by
  obtain ⟨x, hx, e1⟩ := lo_mem l h.1
  obtain ⟨y, hy, e2⟩ := hi_mem r h.2.1
  obtain ⟨p, hp, q⟩ := h.2.2
  rw [← e1, ← e2]
  exact apart_lt (wf_names l h.1 x hx) (wf_names r h.2.1 y hy) hp (q x hx y hy)
theorem whole_okSm {md : Int} {k : Nat} (hm : 0 < md) (h1 : 1 ≤ k) (h3 : k ≤ 3) {t : T} (h : t.WF) (o : LvOk k t) (hl : t.lv.length ≤ 1000) : okSm md (t.sm md) = true := by
  obtain ⟨a1, a2, a3, a4, a5⟩ := whole_sm hm t h o
  obtain ⟨f1, f2, f3⟩ := fine_sm (md := md) t (wf_fine t h o)
  have l1 := List.length_pos_iff.mpr (WF_lv t h)
  have c1 : inR 0 1000000000000000000000000 (t.sm md).sums = true := by
    unfold inR
    rw [List.all_eq_true]
    intro x hx
    have := a3 x hx
    exact decide_eq_true ⟨this.1, by omega⟩
  have c2 : (if (t.sm md).ct = 1 then decide ((t.sm md).lo = (t.sm md).hi) else decide (nmv (t.sm md).lo < nmv (t.sm md).hi)) = true := by
    rw [a4, a5]
    cases t with
    | nil => exact h.elim
    | cut s => exact h.elim
    | leaf l =>
      rw [if_pos (show ((T.leaf l).sm md).ct = 1 from rfl)]
      exact decide_eq_true rfl
    | br l r =>
      have q1 := List.length_pos_iff.mpr (WF_lv l h.1)
      have q2 := List.length_pos_iff.mpr (WF_lv r h.2.1)
      have q3 : ¬ ((T.br l r).sm md).ct = 1 := by rw [a2]; simp [T.lv]; omega
      rw [if_neg q3]
      exact decide_eq_true (whole_lt l r h)
  have c3 : (1 ≤ (t.sm md).ct ∧ (t.sm md).ct ≤ 1000000000000000000000000) := by rw [a2]; omega
  have c4 : 1 ≤ (t.sm md).sums.length ∧ (t.sm md).sums.length ≤ 3 := by omega
  unfold okSm
  rw [c1, c2, decide_eq_true a1, decide_eq_true c3, decide_eq_true c4, decide_eq_true f1, decide_eq_true f2]
  rfl
theorem cut_ends {md : Int} {k : Nat} (hm : 0 < md) : ∀ t w : T, w.WF → LvOk k w → CutOf md t w → t.lo = w.lo ∧ t.hi = w.hi
  | .cut s, w, h, o, c => by
    cases c
    exact (whole_sm hm w h o).2.2.2
  | .leaf l, w, h, o, c => by cases c; exact ⟨rfl, rfl⟩
  | .br a b, .br c d, h, o, ⟨c1, c2⟩ => ⟨(cut_ends hm a c h.1 o.l c1).1, (cut_ends hm b d h.2.1 o.r c2).2⟩
  | .nil, _, h, o, c => c.elim
  | .br _ _, .nil, h, o, c => c.elim
  | .br _ _, .leaf _, h, o, c => c.elim
  | .br _ _, .cut _, h, o, c => c.elim
theorem whole_sides (l r : T) (h : (T.br l r).WF) : sides (nmv l.lo) (nmv l.hi) (nmv r.lo) (nmv r.hi) = true := by
  obtain ⟨x1, m1, e1⟩ := lo_mem l h.1
  obtain ⟨x2, m2, e2⟩ := hi_mem l h.1
  obtain ⟨y1, m3, e3⟩ := lo_mem r h.2.1
  obtain ⟨y2, m4, e4⟩ := hi_mem r h.2.1
  obtain ⟨p, hp, q⟩ := h.2.2
  rw [← e1, ← e2, ← e3, ← e4]
  rw [sides_iff (a := nmv x1.nm) (b := nmv x2.nm) (c := nmv y1.nm) (d := nmv y2.nm) (numOf_lt (wf_names l h.1 _ m1)) (numOf_lt (wf_names l h.1 _ m2)) (numOf_lt (wf_names r h.2.1 _ m3)) (numOf_lt (wf_names r h.2.1 _ m4))]
  have a := q x1 m1 y2 m4
  have b := q x2 m2 y2 m4
  have c := q x1 m1 y1 m3
  exact ⟨p, by omega, a.1, b.1, c.2.1, a.2.1, fun i hi => ⟨a.2.2 i hi, (b.2.2 i hi).trans (a.2.2 i hi).symm, (c.2.2 i hi).symm⟩⟩
theorem cut_valid {md : Int} {k : Nat} (hm : 0 < md) (h1 : 1 ≤ k) (h3 : k ≤ 3) : ∀ t w : T, w.WF → LvOk k w → w.lv.length ≤ 1000 → CutOf md t w → (t.valid md && t.order) = true
  | .cut s, w, h, o, n, c => by
    cases c
    show (okSm md (w.sm md) && true) = true
    rw [whole_okSm hm h1 h3 h o n]; rfl
  | .leaf l, w, h, o, n, c => by
    cases c
    show (okLf l && true) = true
    rw [(o l (by simp [T.lv])).1]; rfl
  | .br a b, .br c d, h, o, n, ⟨c1, c2⟩ => by
    simp [T.lv] at n
    have q1 := and2 (cut_valid hm h1 h3 a c h.1 o.l (by omega) c1)
    have q2 := and2 (cut_valid hm h1 h3 b d h.2.1 o.r (by omega) c2)
    have z1 := cut_ends hm a c h.1 o.l c1
    have z2 := cut_ends hm b d h.2.1 o.r c2
    show ((a.valid md && b.valid md) && (sides (nmv a.lo) (nmv a.hi) (nmv b.lo) (nmv b.hi) && a.order && b.order)) = true
    rw [z1.1, z1.2, z2.1, z2.2, whole_sides c d h, q1.1, q1.2, q2.1, q2.2]; rfl
  | .nil, _, h, o, n, c => c.elim
  | .br _ _, .nil, h, o, n, c => c.elim
  | .br _ _, .leaf _, h, o, n, c => c.elim
  | .br _ _, .cut _, h, o, n, c => c.elim
theorem fine_kinds {k : Nat} : ∀ t : T, t.fine k → t.kinds = k
  | .nil, h => h.elim
  | .leaf l, h => h.2.1
  | .cut l, h => h.2.2
  | .br l r, h => by
    show (if l.kinds = r.kinds then l.kinds else 0) = k
    rw [fine_kinds l h.1, fine_kinds r h.2, if_pos rfl]
theorem cut_wf {md : Int} {k : Nat} (hm : 0 < md) (h1 : 1 ≤ k) (h3 : k ≤ 3) {t w : T} (h : w.WF) (o : LvOk k w) (n : w.lv.length ≤ 1000) (c : CutOf md t w) : t.wf md = true := by
  have e : t.wf md = (t.valid md && decide (0 < t.kinds) && t.order) := by cases t <;> first | (exact c.elim) | rfl
  obtain ⟨q1, q2⟩ := and2 (cut_valid hm h1 h3 t w h o n c)
  rw [e, q1, q2, fine_kinds t (cut_fine t w (wf_fine w h o) c), decide_eq_true (show 0 < k by omega)]; rfl
end SG
namespace SG
open PySem L2 GS
section
variable {n : Nat} {m : List Cell}
@[simp] theorem pick_seal (md : Int) : pickM (Tab.mt tab) (PySem.Str.ofString "seal") (slD md) = some F_Sealer_seal := by
  unfold pickM slD
  have : List.lookup (PySem.Str.ofString "seal") [((PySem.Str.ofString "_modulus"), D.int md)] = none := rfl
  simp [this]
theorem w_seal (hn : 1 ≤ n) {md : Int} (h1 : 0 < md) (h2 : md ≤ 2305843009213693951) {l : List Int} (hl : l.length ≤ 1000) : pur (Ph n F_Sealer_seal) [slD md, .tup (l.map D.int)] m = .ok (.int (sealV md l)) m := by
  refine pur_ok (pl2 rfl (ints_pure l)) ?_ rfl
  rw [go_Sealer_seal (by omega)]
  obtain ⟨ρ', e, v0, v1, x, rfl⟩ := loop_list (enc := D.int) (j := 3) (body := evB (Mm (n - 1)) b_Sealer_seal_L1) (m := []) (sealF md) (fun v ρ => 0 ≤ v ∧ v < 18446744073709551616 ∧ ∃ x, ρ = [slD md, .tup (l.map D.int), .int v, x]) (l ++ [(l.length : Int)]) 1 [slD md, .tup (l.map D.int), .int 1, .no] (by
    rintro v a ρ _ ⟨v0, v1, x, rfl⟩
    have q1 := Int.emod_nonneg (v * v * v + 5 * v + 3 * a + 1) (show md ≠ 0 by omega)
    have q2 := Int.emod_lt_of_pos (v * v * v + 5 * v + 3 * a + 1) h1
    have v2 : -18446744073709551616 < v := by omega
    refine ⟨_, by simp [b_Sealer_seal_L1, v1, v2, h1]; rfl, q1, by unfold sealF; omega, .int a, rfl⟩) ⟨by decide, by decide, .no, rfl⟩
  simp only [List.map_append, List.map_cons, List.map_nil] at e
  have hl2 : l.length + 1 ≤ 16777216 := by omega
  simp [b_Sealer_seal, e, hl2, sealV]
theorem ints_plain : ∀ (l : List Int), plainL (l.map D.int) = true
  | [] => rfl
  | a :: l => ints_plain l
theorem ints_depth : ∀ (l : List Int), PyData.depthAll (toPyL (l.map D.int)) = 0
  | [] => by simp [toPyL, PyData.depthAll]
  | a :: l => by simp [toPyL, toPy, PyData.depthAll, PyData.depth, ints_depth l]
theorem tup_depth (l : List Int) : (toPy (.tup (l.map D.int))).depth ≤ 64 := by simp [toPy, PyData.depth, ints_depth]
theorem map_int_inj {l l' : List Int} : l.map D.int = l'.map D.int ↔ l = l' := by
  constructor
  · intro h
    have : Function.Injective D.int := fun a b e => by cases e; rfl
    exact List.map_inj_right (fun a b e => this e) |>.mp h
  · rintro rfl; rfl
@[simp] theorem eqB_ints (l l' : List Int) : eqB (.tup (l.map D.int)) (.tup (l'.map D.int)) = some (decide (l = l')) := by
  rw [eqB_plain (d := .tup (l.map D.int)) (e := .tup (l'.map D.int)) (ints_plain l) (ints_plain l') (tup_depth l) (tup_depth l')]
  congr 1
  rw [← cd_dec]
  congr 1
  simp [map_int_inj]
/-! ### rows, summaries, roots, as the program reckons them -/
theorem zip_sum : ∀ (xs ys : List Int), (zipL (xs.map D.int) (ys.map D.int)).map (fun d => match d with | .tup [.int x, .int y] => .int (x + y) | _ => .non) = (List.zipWith (· + ·) xs ys).map D.int
  | [], _ => by simp [zipL]
  | _ :: _, [] => by simp [zipL]
  | x :: xs, y :: ys => by
    have := zip_sum xs ys
    unfold zipL at this ⊢
    simp only [List.map_cons, List.zip_cons_cons, List.zipWith_cons_cons]
    rw [this]
def rowT (md : Int) : T → List Int
  | .leaf l => rowLf l
  | .br l r => rowBr (l.sm md) (r.sm md)
  | _ => []
def topT (md : Int) : T → List Int
  | .nil => [2]
  | t => [3, ((t.sm md).sums.length : Int)] ++ numsL (t.sm md)
def rootT (md : Int) (t : T) : Int := sealV md (topT md t)
theorem top_len {md : Int} {k : Nat} {t : T} (h : t = .nil ∨ t.fine k) (hk : k ≤ 100) : (topT md t).length ≤ 1000 := by
  cases t with
  | nil => simp [topT]
  | _ =>
    have := (fine_sm (md := md) _ (h.resolve_left (by simp))).2.2
    simp [topT, nums_len]; omega
/-! ### tops and roots by the law -/
end
end SG
namespace SG
open PySem L2 GS
/-! ### trees as texts to be compared -/
theorem okN_strOk {s : Str} (h : okN (cs s)) : PyData.strOk s = true := by
  have a : ∀ c ∈ alphaL, c < 0x110000 := by decide +kernel
  unfold PyData.strOk
  rw [← Array.all_toList, List.all_eq_true]
  exact fun c hc => decide_eq_true (a c (h.2.2 c hc))
theorem tag_ok : PyData.strOk (PySem.Str.ofString "leaf") = true ∧ PyData.strOk (PySem.Str.ofString "branch") = true ∧ PyData.strOk (PySem.Str.ofString "cut") = true := by decide +kernel
theorem smD_plain {s : Sm} (h1 : okN (cs s.lo)) (h2 : okN (cs s.hi)) : (smD s).plain = true := by
  show (true && (true && (plainL _ && (PyData.strOk s.lo && (PyData.strOk s.hi && true))))) = true
  rw [ints_plain, okN_strOk h1, okN_strOk h2]; rfl
theorem lfD_plain {l : Lf} (h1 : okN (cs l.nm)) : (lfD l).plain = true := by
  show (PyData.strOk (PySem.Str.ofString "leaf") && (PyData.strOk l.nm && (plainL _ && (plainL _ && true)))) = true
  rw [ints_plain, ints_plain, okN_strOk h1, tag_ok.1]; rfl
theorem tD_plain {k : Nat} : ∀ t : T, (t = .nil ∨ t.fine k) → (tD t).plain = true
  | .nil, _ => rfl
  | .leaf l, h => lfD_plain (h.resolve_left (by simp)).1
  | .cut s, h => by
    have h := h.resolve_left (by simp)
    show (PyData.strOk (PySem.Str.ofString "cut") && ((smD s).plain && true)) = true
    rw [smD_plain h.1 h.2.1, tag_ok.2.2]; rfl
  | .br l r, h => by
    have h := h.resolve_left (by simp)
    show (PyData.strOk (PySem.Str.ofString "branch") && ((tD l).plain && ((tD r).plain && true))) = true
    rw [tD_plain l (.inr h.1), tD_plain r (.inr h.2), tag_ok.2.1]; rfl
theorem smD_depth (s : Sm) : (toPy (smD s)).depth = 2 := by simp [smD, toPy, toPyL, PyData.depth, PyData.depthAll, ints_depth, -tup_sm]
theorem lfD_depth (l : Lf) : (toPy (lfD l)).depth = 2 := by simp [lfD, toPy, toPyL, PyData.depth, PyData.depthAll, ints_depth]
theorem tD_depth : ∀ t : T, (toPy (tD t)).depth ≤ t.dp + 2
  | .nil => by simp [tD, toPy, PyData.depth]
  | .leaf l => by have := lfD_depth l; simp [this]
  | .cut s => by
    have := smD_depth s
    simp [tD, toPy, toPyL, PyData.depth, PyData.depthAll, this, T.dp, -tup_cut]
  | .br l r => by
    have := tD_depth l
    have := tD_depth r
    simp [tD, toPy, toPyL, PyData.depth, PyData.depthAll, T.dp, -tup_br]
    omega
theorem eq_sm {s : Sm} (h1 : okN (cs s.lo)) (h2 : okN (cs s.hi)) : eqB (smD s) (smD s) = some true := by
  have d : (toPy (smD s)).depth ≤ 64 := by rw [smD_depth]; decide
  rw [eqB_plain (smD_plain h1 h2) (smD_plain h1 h2) d d]
  simp
theorem eq_lf {l : Lf} (h1 : okN (cs l.nm)) : eqB (lfD l) (lfD l) = some true := by
  have d : (toPy (lfD l)).depth ≤ 64 := by rw [lfD_depth]; decide
  rw [eqB_plain (lfD_plain h1) (lfD_plain h1) d d]
  simp
theorem eq_tree {k : Nat} {t : T} (h : t = .nil ∨ t.fine k) (hd : t.dp ≤ 60) {s : Str} (hs : PyData.strOk s = true) : eqB (.tup [.str s, tD t]) (.tup [.str s, tD t]) = some true := by
  have p : (D.tup [.str s, tD t]).plain = true := by
    show (PyData.strOk s && ((tD t).plain && true)) = true
    rw [hs, tD_plain t h]; rfl
  have d : (toPy (.tup [.str s, tD t])).depth ≤ 64 := by
    have := tD_depth t
    simp [toPy, toPyL, PyData.depth, PyData.depthAll]
    omega
  rw [eqB_plain p p d d]
  simp
/-! ### trees with cuts of one whole tree -/
theorem cut_sm {md : Int} : ∀ t w : T, CutOf md t w → t.sm md = w.sm md
  | .cut s, w, h => h
  | .leaf l, w, h => by cases h; rfl
  | .br a b, .br c d, ⟨h1, h2⟩ => by
    show smBr md (a.sm md) (b.sm md) = smBr md (c.sm md) (d.sm md)
    rw [cut_sm a c h1, cut_sm b d h2]
  | .nil, _, h => h.elim
  | .br _ _, .nil, h => h.elim
  | .br _ _, .leaf _, h => h.elim
  | .br _ _, .cut _, h => h.elim
/-- the same, or both without leaves -/
def Cn (md : Int) (t w : T) : Prop := (t = .nil ∧ w = .nil) ∨ (w ≠ .nil ∧ CutOf md t w)
theorem cut_not_nil {md : Int} {t w : T} (h : CutOf md t w) : t ≠ .nil := fun e => by subst e; exact h
theorem Cn.top {md : Int} {t w : T} (h : Cn md t w) : topT md t = topT md w := by
  rcases h with ⟨rfl, rfl⟩ | ⟨hw, h⟩
  · rfl
  · have e := cut_sm t w h
    have ht := cut_not_nil h
    have e1 : topT md t = [3, ((t.sm md).sums.length : Int)] ++ numsL (t.sm md) := by cases t <;> first | (exact absurd rfl ht) | rfl
    have e2 : topT md w = [3, ((w.sm md).sums.length : Int)] ++ numsL (w.sm md) := by cases w <;> first | (exact absurd rfl hw) | rfl
    rw [e1, e2, e]
theorem Cn.root {md : Int} {t w : T} (h : Cn md t w) : rootT md t = rootT md w := by unfold rootT; rw [h.top]
theorem cut_self {md : Int} : ∀ w : T, w.WF → CutOf md w w
  | .leaf l, _ => rfl
  | .br l r, h => ⟨cut_self l h.1, cut_self r h.2.1⟩
  | .nil, h => h.elim
  | .cut _, h => h.elim
def unionT : T → T → T
  | .cut _, u => u
  | .br a b, .br c d => .br (unionT a c) (unionT b d)
  | t, _ => t
theorem union_cut {md : Int} : ∀ t u w : T, CutOf md t w → CutOf md u w → CutOf md (unionT t u) w
  | .cut s, u, w, _, h => h
  | .leaf l, u, w, h, _ => h
  | .br a b, .br c d, .br e f, ⟨h1, h2⟩, ⟨g1, g2⟩ => ⟨union_cut a c e h1 g1, union_cut b d f h2 g2⟩
  | .br a b, .cut _, w, h, _ => h
  | .br a b, .leaf _, w, h, _ => h
  | .br a b, .nil, w, h, _ => h
  | .nil, _, w, h, _ => h.elim
  | .br _ _, .br _ _, .nil, h, _ => h.elim
  | .br _ _, .br _ _, .leaf _, h, _ => h.elim
  | .br _ _, .br _ _, .cut _, h, _ => h.elim
theorem union_comm {md : Int} : ∀ t u w : T, CutOf md t w → CutOf md u w → unionT t u = unionT u t
  | .cut s, .cut r, w, h, g => by cases h; cases g; rfl
  | .cut s, .leaf l, w, _, _ => rfl
  | .cut s, .br _ _, w, _, _ => rfl
  | .leaf l, .cut s, w, _, _ => rfl
  | .leaf l, .leaf r, w, h, g => by cases h; cases g; rfl
  | .leaf l, .br a b, w, h, g => by cases h; exact g.elim
  | .br a b, .cut _, w, h, _ => rfl
  | .br a b, .leaf l, w, h, g => by cases g; exact h.elim
  | .br a b, .br c d, .br e f, ⟨h1, h2⟩, ⟨g1, g2⟩ => by
    show T.br _ _ = T.br _ _
    rw [union_comm a c e h1 g1, union_comm b d f h2 g2]
  | .br _ _, .br _ _, .nil, h, _ => h.elim
  | .br _ _, .br _ _, .leaf _, h, _ => h.elim
  | .br _ _, .br _ _, .cut _, h, _ => h.elim
  | .nil, _, w, h, _ => h.elim
  | _, .nil, w, _, g => g.elim
theorem union_self : ∀ t : T, unionT t t = t
  | .cut s => rfl
  | .leaf l => rfl
  | .nil => rfl
  | .br a b => by show T.br _ _ = _; rw [union_self a, union_self b]
theorem union_whole {md : Int} : ∀ t w : T, CutOf md t w → unionT t w = w
  | .cut s, w, _ => rfl
  | .leaf l, w, h => by cases h; rfl
  | .br a b, .br c d, ⟨h1, h2⟩ => by show T.br _ _ = _; rw [union_whole a c h1, union_whole b d h2]
  | .nil, _, h => h.elim
  | .br _ _, .nil, h => h.elim
  | .br _ _, .leaf _, h => h.elim
  | .br _ _, .cut _, h => h.elim
theorem Cn.union {md : Int} {t u w : T} (h : Cn md t w) (g : Cn md u w) : Cn md (unionT t u) w := by
  rcases h with ⟨rfl, rfl⟩ | ⟨hw, h⟩
  · exact .inl ⟨rfl, rfl⟩
  · rcases g with ⟨rfl, rfl⟩ | ⟨_, g⟩
    · exact absurd rfl hw
    · exact .inr ⟨hw, union_cut t u w h g⟩
theorem Cn.fine {md : Int} {k : Nat} {t w : T} (h : Cn md t w) (f : w = .nil ∨ w.fine k) : t = .nil ∨ t.fine k := by
  rcases h with ⟨rfl, rfl⟩ | ⟨hw, h⟩
  · exact .inl rfl
  · exact .inr (cut_fine t w (f.resolve_left hw) h)
theorem Cn.dp {md : Int} {t w : T} (h : Cn md t w) : t.dp ≤ w.dp := by
  rcases h with ⟨rfl, rfl⟩ | ⟨hw, h⟩
  · exact Nat.le_refl _
  · exact cut_dp t w h
section
variable {n : Nat} {m : List Cell}
/-! ### walks of two trees with cuts of one whole tree -/
end
end SG
namespace SG
open PySem L2 GS
section
variable {n : Nat} {m : List Cell}
theorem modN_range (k : Nat) : 3 ≤ modN k ∧ modN k ≤ 2305843009213693951 := by
  unfold modN
  split
  · have h : k / 3 % 8 < 8 := Nat.mod_lt _ (by decide)
    generalize k / 3 % 8 = q at h
    match q, h with
    | 0, _ => decide | 1, _ => decide | 2, _ => decide | 3, _ => decide | 4, _ => decide | 5, _ => decide | 6, _ => decide | 7, _ => decide
  · split <;> omega
@[simp] theorem frzR_ins (c : Nat) (l : List (Str × D)) : frzR (.obj 0) [.ins c l] = .ok (.ins c l) [.dead] := rfl
theorem init_sealer (hn : 1 ≤ n) {md : Int} (h1 : 3 ≤ md) (h2 : md ≤ 2305843009213693951) : Ph n F_Sealer___init__ [.obj 0, .int md] [.ins C_Sealer []] = .ok .non [.ins C_Sealer [((PySem.Str.ofString "_modulus"), .int md)]] := by
  rw [go_Sealer___init__ (by omega)]
  simp [b_Sealer___init__, h1, h2, putFD]
theorem look_kv {ls : List Lf} (h : (ls.map (·.nm)).Nodup) {l : Lf} (hl : l ∈ ls) : lookK (ls.map kvD) (.inr l.nm) = some (lfD l) := by
  induction ls with
  | nil => cases hl
  | cons a r ih =>
    rw [List.map_cons, List.nodup_cons] at h
    unfold lookK
    rw [List.map_cons, List.find?_cons]
    by_cases e : a.nm = l.nm
    · have : a = l := by
        rcases List.mem_cons.mp hl with h2 | h2
        · exact h2.symm
        · exact absurd (List.mem_map.mpr ⟨l, h2, e.symm⟩) h.1
      subst this
      simp [kvD]
    · have hr : l ∈ r := by
        rcases List.mem_cons.mp hl with h2 | h2
        · exact absurd (by rw [h2]) e
        · exact h2
      have : decide ((kvD a).1 = (.inr l.nm : Key)) = false := decide_eq_false (fun z => e (by simpa [kvD] using z))
      rw [this]
      exact ih h.2 hr
theorem pl4 {d e f g : D} (h : d.pure = true) (h2 : e.pure = true) (h3 : f.pure = true) (h4 : g.pure = true) : pureL [d, e, f, g] = true := by show (d.pure && pureL [e, f, g]) = true; rw [h, pl3 h2 h3 h4]; rfl
theorem okN_len8 {s : Str} (h : okN (cs s)) : s.length ≤ 8 := by rw [length_cs]; exact h.2.1
theorem inj_map {ls : List Lf} (hok : ∀ x ∈ ls, okN (cs x.nm)) (h : (ls.map (·.nm)).Nodup) : (ls.map fun x => nmv x.nm).Nodup := by
  induction ls with
  | nil => simp
  | cons a r ih =>
    rw [List.map_cons, List.nodup_cons] at h ⊢
    refine ⟨fun z => h.1 ?_, ih (fun x hx => hok x (List.mem_cons_of_mem _ hx)) h.2⟩
    obtain ⟨x, hx, e⟩ := List.mem_map.mp z
    have e2 := inj_numOf (hok x (List.mem_cons_of_mem _ hx)) (hok a List.mem_cons_self) e
    have e3 : x.nm = a.nm := by
      have := congrArg tx e2
      rwa [tx_cs, tx_cs] at this
    exact List.mem_map.mpr ⟨x, hx, e3⟩
/-- the leaves as a list -/
theorem cmp_known {M : Sem} {el : E} {own : List Nat} {j : Nat} {ρ : List D} {m : List Cell} {k : Nat} {ls : List Lf} (dr : Drawn k ls) (hl : ls.length ≤ 1000) (h : ∀ l ∈ ls, evE M el ((wipeR ρ own).set j (.str l.nm)) m = .ok (lfD l) m) :
    cmpK1 M (.one j) own none el ρ (.ok ((ls.map kvD).map fun kv => kD kv.1, none) m) = .ok (.lst (ls.map lfD)) m := by
  have := cmp_map (M := M) (j := j) (own := own) (el := el) (ρ := ρ) (m := m) (ds := (ls.map kvD).map fun kv => kD kv.1) (fun d => match d with | .str s => ((lookK (ls.map kvD) (.inr s)).getD .non) | _ => .non) (fun d hd => by
    rw [List.map_map] at hd
    obtain ⟨l, hl, rfl⟩ := List.mem_map.mp hd
    show evE M el ((wipeR ρ own).set j (.str l.nm)) m = .ok ((lookK (ls.map kvD) (.inr l.nm)).getD .non) m
    rw [h l hl, look_kv dr.nd hl]; rfl) (by simp; omega)
  rw [this, List.map_map, List.map_map]
  congr 2
  apply List.map_congr_left
  intro l hl
  show (lookK (ls.map kvD) (.inr l.nm)).getD .non = lfD l
  rw [look_kv dr.nd hl]; rfl
def drawN (ns : List Int) (a b : Int) : List Int := (cutA ns (some a) (some b)).map fun x => ((x.natAbs : Nat) : Int) / 3
theorem cutA_len (ns : List Int) (a b : Option Int) : (cutA ns a b).length ≤ ns.length := by
  unfold cutA
  exact Nat.le_trans (List.length_take_le' _ _) (by simp)
/-- numbers for cuts -/
theorem cmp_draw {M : Sem} {el : E} {own : List Nat} {j : Nat} {ρ : List D} {m : List Cell} {ns : List Int} {a b : Int} (hl : ns.length ≤ 1000) (h : ∀ x, evE M el ((wipeR ρ own).set j (.int x)) m = .ok (.int (((x.natAbs : Nat) : Int) / 3)) m) :
    cmpK1 M (.one j) own none el ρ (.ok ((cutA ns (some a) (some b)).map D.int, none) m) = .ok (.lst ((drawN ns a b).map D.int)) m := by
  have := cmp_map (M := M) (j := j) (own := own) (el := el) (ρ := ρ) (m := m) (ds := (cutA ns (some a) (some b)).map D.int) (fun d => match d with | .int x => .int (((x.natAbs : Nat) : Int) / 3) | _ => .non) (fun d hd => by
    obtain ⟨x, _, rfl⟩ := List.mem_map.mp hd
    exact h x) (by have := cutA_len ns (some a) (some b); simp; omega)
  rw [this, List.map_map, drawN, List.map_map]
  rfl
theorem slc_scr (ns : List Int) (a b : Int) : slcD (.scr ns) (some a) (some b) = some (.lst ((cutA ns (some a) (some b)).map D.int)) := rfl
end
end SG
namespace SG
open PySem L2 GS
/-! ### a tree is told by its leaves -/
theorem WF_apart {p : Nat} : ∀ t : T, t.WF → ∀ l r, t = .br l r → (∀ x ∈ l.lv, ∀ y ∈ r.lv, apart p x y) → ∀ x ∈ t.lv, ∀ y ∈ t.lv, ∀ k < p, bitN (nmv x.nm) k = bitN (nmv y.nm) k := fun t ht l r e ap x hx y hy k hk => by
  subst e
  obtain ⟨a, ha⟩ := List.exists_mem_of_ne_nil _ (WF_lv l ht.1)
  obtain ⟨b, hb⟩ := List.exists_mem_of_ne_nil _ (WF_lv r ht.2.1)
  simp [T.lv] at hx hy
  have toB : ∀ z, z ∈ l.lv ∨ z ∈ r.lv → bitN (nmv z.nm) k = bitN (nmv b.nm) k := fun z hz => by
    rcases hz with hz | hz
    · exact (ap z hz b hb).2.2 k hk
    · rw [← (ap a ha z hz).2.2 k hk, (ap a ha b hb).2.2 k hk]
  rw [toB x hx, toB y hy]
theorem WF_place {p q : Nat} {l r l' r' : T} (h : (T.br l r).WF) (g : (T.br l' r').WF) (pm : (T.br l r).lv.Perm (T.br l' r').lv) (hp : ∀ x ∈ l.lv, ∀ y ∈ r.lv, apart p x y) (hq : ∀ x ∈ l'.lv, ∀ y ∈ r'.lv, apart q x y) : ¬ p < q := fun hlt => by
  obtain ⟨a, ha⟩ := List.exists_mem_of_ne_nil _ (WF_lv l h.1)
  obtain ⟨b, hb⟩ := List.exists_mem_of_ne_nil _ (WF_lv r h.2.1)
  have e := WF_apart _ g l' r' rfl hq a (pm.mem_iff.mp (by simp [T.lv, ha])) b (pm.mem_iff.mp (by simp [T.lv, hb])) p hlt
  have q := hp a ha b hb
  rw [q.1, q.2.1] at e
  cases e
theorem filter_lv {p : Nat} {l r : List Lf} (h : ∀ x ∈ l, ∀ y ∈ r, apart p x y) (hl : l ≠ []) (hr : r ≠ []) : (l ++ r).filter (fun x => decide (bitN (nmv x.nm) p = 0)) = l ∧ (l ++ r).filter (fun x => decide (bitN (nmv x.nm) p = 1)) = r := by
  obtain ⟨a, ha⟩ := List.exists_mem_of_ne_nil _ hl
  obtain ⟨b, hb⟩ := List.exists_mem_of_ne_nil _ hr
  have el : ∀ x ∈ l, bitN (nmv x.nm) p = 0 := fun x hx => (h x hx b hb).1
  have er : ∀ x ∈ r, bitN (nmv x.nm) p = 1 := fun x hx => (h a ha x hx).2.1
  rw [List.filter_append, List.filter_append]
  have f1 : l.filter (fun x => decide (bitN (nmv x.nm) p = 0)) = l := List.filter_eq_self.mpr fun x hx => decide_eq_true (el x hx)
  have f2 : r.filter (fun x => decide (bitN (nmv x.nm) p = 0)) = [] := List.filter_eq_nil_iff.mpr fun x hx => by simp [er x hx]
  have f3 : l.filter (fun x => decide (bitN (nmv x.nm) p = 1)) = [] := List.filter_eq_nil_iff.mpr fun x hx => by simp [el x hx]
  have f4 : r.filter (fun x => decide (bitN (nmv x.nm) p = 1)) = r := List.filter_eq_self.mpr fun x hx => decide_eq_true (er x hx)
  rw [f1, f2, f3, f4]
  simp
theorem WF_unique : ∀ t u : T, t.WF → u.WF → t.lv.Perm u.lv → t = u
  | .leaf l, .leaf m, _, _, pm => by
    have := List.perm_singleton.mp pm.symm
    simp [T.lv] at this
    rw [this]
  | .leaf l, .br a b, _, hu, pm => by
    have := pm.length_eq
    have a1 := List.length_pos_iff.mpr (WF_lv a hu.1)
    have a2 := List.length_pos_iff.mpr (WF_lv b hu.2.1)
    simp [T.lv] at this
    omega
  | .br a b, .leaf l, ht, _, pm => by
    have := pm.length_eq
    have a1 := List.length_pos_iff.mpr (WF_lv a ht.1)
    have a2 := List.length_pos_iff.mpr (WF_lv b ht.2.1)
    simp [T.lv] at this
    omega
  | .br a b, .br c d, ht, hu, pm => by
    obtain ⟨p, hp48, hp⟩ := ht.2.2
    obtain ⟨q, hq48, hq⟩ := hu.2.2
    have e : p = q := by
      have h1 := WF_place ht hu pm hp hq
      have h2 := WF_place hu ht pm.symm hq hp
      omega
    subst e
    obtain ⟨f1, f2⟩ := filter_lv hp (WF_lv a ht.1) (WF_lv b ht.2.1)
    obtain ⟨g1, g2⟩ := filter_lv hq (WF_lv c hu.1) (WF_lv d hu.2.1)
    have p1 := pm.filter (fun x => decide (bitN (nmv x.nm) p = 0))
    have p2 := pm.filter (fun x => decide (bitN (nmv x.nm) p = 1))
    simp only [T.lv] at p1 p2
    rw [f1, g1] at p1
    rw [f2, g2] at p2
    rw [WF_unique a c ht.1 hu.1 p1, WF_unique b d ht.2.1 hu.2.1 p2]
  | .nil, _, h, _, _ => h.elim
  | .cut _, _, h, _, _ => h.elim
  | .leaf _, .nil, _, h, _ => h.elim
  | .leaf _, .cut _, _, h, _ => h.elim
  | .br _ _, .nil, _, h, _ => h.elim
  | .br _ _, .cut _, _, h, _ => h.elim
/-! ### statements in two parts; loops that change the store and may hand something back -/
theorem evB_app {M : Sem} : ∀ (a b : List S) {ρ ρ2 : List D} {m m2 : List Cell}, evB M a ρ m = .nx ρ2 m2 → evB M (a ++ b) ρ m = evB M b ρ2 m2
  | [], b, ρ, ρ2, m, m2, h => by cases h; rfl
  | s :: a, b, ρ, ρ2, m, m2, h => by
    have h : seqB M a (evS M s ρ m) = .nx ρ2 m2 := h
    show seqB M (a ++ b) (evS M s ρ m) = _
    generalize evS M s ρ m = x at h ⊢
    cases x with
    | nx ρ1 m1 => exact evB_app a b h
    | _ => cases h
theorem loop_may {j : Nat} {body : List D → List Cell → SR} (G : D → Prop) (I : List D → List Cell → Prop) : ∀ (n : Nat) (lo : Int) (ρ : List D) (m : List Cell), (∀ (i : Nat) ρ m, i < n → I ρ m → (∃ d m2, body (ρ.set j (.int (lo + (i : Nat)))) m = .rt d m2 ∧ G d) ∨ ∃ ρ2 m2, body (ρ.set j (.int (lo + (i : Nat)))) m = .nx ρ2 m2 ∧ I ρ2 m2) → I ρ m →
    (∃ d m2, loopS (.one j) body none (rangeD lo n) ρ m = .rt d m2 ∧ G d) ∨ ∃ ρ2 m2, loopS (.one j) body none (rangeD lo n) ρ m = .nx ρ2 m2 ∧ I ρ2 m2
  | 0, lo, ρ, m, _, h0 => .inr ⟨ρ, m, by rw [rangeD_zero, loop_nil], h0⟩
  | n + 1, lo, ρ, m, h, h0 => by
    rw [rangeD_succ, loop_cons]
    have h1 := h 0 ρ m (by omega) h0
    rw [show lo + ((0 : Nat) : Int) = lo by omega] at h1
    rcases h1 with ⟨d, m2, e, g⟩ | ⟨ρ2, m2, e, i2⟩
    · exact .inl ⟨d, m2, by rw [e, turn_rt], g⟩
    · rw [e, turn_nx]
      exact loop_may G I n (lo + 1) ρ2 m2 (fun i ρ m hi hI => by
        have := h (i + 1) ρ m (by omega) hI
        rwa [show lo + ((i + 1 : Nat) : Int) = lo + 1 + (i : Nat) by omega] at this) i2
/-! ### dicts of leaves -/
theorem nodct_ints : ∀ l : List Int, nodctL (l.map D.int) = true
  | [] => rfl
  | a :: l => nodct_ints l
theorem nodct_lf (l : Lf) : nodct (lfD l) = true := by
  show (true && (true && (nodctL _ && (nodctL _ && true)))) = true
  rw [nodct_ints, nodct_ints]; rfl
theorem nodct_sm (s : Sm) : nodct (smD s) = true := by
  show (true && (true && (nodctL _ && (true && (true && true))))) = true
  rw [nodct_ints]; rfl
theorem nodct_t : ∀ t : T, nodct (tD t) = true
  | .nil => rfl
  | .leaf l => nodct_lf l
  | .cut s => by show (true && (nodct (smD s) && true)) = true; rw [nodct_sm]; rfl
  | .br l r => by show (true && (nodct (tD l) && (nodct (tD r) && true))) = true; rw [nodct_t l, nodct_t r]; rfl
theorem nodct_map {α : Type} {f : α → D} (h : ∀ a, nodct (f a) = true) : ∀ l : List α, nodctL (l.map f) = true
  | [] => rfl
  | a :: l => by show (nodct (f a) && nodctL (l.map f)) = true; rw [h a, nodct_map h l]; rfl
theorem nodct_kv : ∀ ls : List Lf, nodctK (ls.map kvD) = true
  | [] => rfl
  | l :: ls => by show (nodct (lfD l) && nodctK (ls.map kvD)) = true; rw [nodct_lf, nodct_kv ls]; rfl
theorem all_app {m : List Cell} {c : Cell} (h : m.all cellNd = true) (g : cellNd c = true) : (m ++ [c]).all cellNd = true := by simp [h, g]
theorem all_set {m : List Cell} {c : Cell} {n : Nat} (h : m.all cellNd = true) (g : cellNd c = true) : (m.set n c).all cellNd = true := by
  rw [List.all_eq_true] at *
  intro x hx
  rcases List.mem_or_eq_of_mem_set hx with h1 | h1
  · exact h x h1
  · rw [h1]; exact g
/-- the leaves of a dict of the store as a list -/
theorem lk_known {M : Sem} {el : E} {own : List Nat} {j i n : Nat} {ρ : List D} {m : List Cell} {k : Nat} {ls : List Lf} (dr : Drawn k ls) (hl : ls.length ≤ 1000) (hs : ρ[i]? = some (.obj n)) (hn : m[n]? = some (.dct (ls.map kvD))) (hm : m.all cellNd = true)
    (h : ∀ l ∈ ls, evE M el ((wipeR (ρ.set i (.dct (ls.map kvD))) own).set j (.str l.nm)) (m.set n .dead) = .ok (lfD l) (m.set n .dead)) : evE M (.lk i (.comp (.one j) own (.var i) none el)) ρ m = .ok (.lst (ls.map lfD)) m := by
  rw [e_lk, hs, lkA_obj, hn, lkB_dct, e_comp, e_var]
  have e1 : (ρ.set i (D.dct (ls.map kvD)))[i]? = some (.dct (ls.map kvD)) := set_get hs
  rw [e1, gV_dct, R.of_some, srcK_ok, srcD_dct, cmp_known dr hl h, lk3_go _ hm]
  show nodctL _ = true
  exact nodct_map nodct_lf ls
theorem putItem_obj {m : List Cell} {n : Nat} {l : List (Key × D)} {s : Str} {v : D} (h : m[n]? = some (.dct l)) (hl : l.length < 16777216) : putItem m (.obj n) (.str s) v = some (m.set n (.dct (putD l (.inr s) v))) := by
  show (match m[n]? with
    | some (.lst l) => (match (D.str s) with | .int k => (ixN l.length k).map fun j => m.set n (.lst (l.set j v)) | _ => none)
    | some (.dct l) => (keyD (.str s)).bind fun k => if cd (l.length < sizeLine) = true then some (m.set n (.dct (putD l k v))) else none
    | _ => none) = _
  rw [h]
  show (if cd (l.length < sizeLine) = true then _ else _) = _
  rw [if_pos (cd_pos (by rw [size_eq]; exact hl))]
theorem last_get {α : Type} (m : List α) (x : α) : (m ++ [x])[m.length]? = some x := by simp
theorem last_set {α : Type} (m : List α) (x y : α) : (m ++ [x]).set m.length y = m ++ [y] := by simp
/-- Drawn, more at large -/
theorem Drawn.put' {k : Nat} {ls : List Lf} {l : Lf} (h : Drawn k ls) (h1 : okLf l = true) (h2 : l.w.length = k) : Drawn k (putLf ls l) := by
  refine ⟨fun x hx => ?_, put_names _ _ h.nd⟩
  rcases put_mem hx with rfl | hx
  · exact ⟨h1, h2⟩
  · exact h.ok x hx
theorem Drawn.filter {k : Nat} {ls : List Lf} (h : Drawn k ls) (p : Lf → Bool) : Drawn k (ls.filter p) :=
  ⟨fun x hx => h.ok x (List.mem_filter.mp hx).1, (List.filter_sublist.map _).nodup h.nd⟩
theorem keysOf_kv : ∀ ls : List Lf, keysOf (ls.map kvD) = some (ls.map (·.nm))
  | [] => rfl
  | l :: ls => by
    show (keysOf (ls.map kvD)).map (l.nm :: ·) = _
    rw [keysOf_kv ls]; rfl
theorem sorted_kv {ls : List Lf} (h : ls.length < 64) : fnD "sorted" [.dct (ls.map kvD)] = some (.lst ((sortS (ls.map (·.nm))).map D.str)) := by
  show sortedD [.dct (ls.map kvD)] = _
  unfold sortedD
  dsimp only
  rw [keysOf_kv]
  dsimp only
  rw [if_pos (by simpa using h)]
theorem sortS_mem {xs : List Str} {x : Str} : x ∈ sortS xs ↔ x ∈ xs := (List.mergeSort_perm xs _).mem_iff
theorem sortS_len (xs : List Str) : (sortS xs).length = xs.length := (List.mergeSort_perm xs _).length_eq
/-- a drawn one of the sorted names -/
theorem pick_name {ls : List Lf} (h0 : ls ≠ []) (a : Nat) : ∃ l ∈ ls, ((sortS (ls.map (·.nm))).map D.str)[a % ls.length]? = some (.str l.nm) := by
  have hp := List.length_pos_iff.mpr h0
  have hl : a % ls.length < (sortS (ls.map (·.nm))).length := by rw [sortS_len, List.length_map]; exact Nat.mod_lt _ hp
  have hm := List.getElem_mem hl
  rw [sortS_mem] at hm
  obtain ⟨l, hl1, e⟩ := List.mem_map.mp hm
  refine ⟨l, hl1, ?_⟩
  rw [List.getElem?_map, List.getElem?_eq_getElem hl, ← e]; rfl
theorem putD_new {l : List (Key × D)} {k : Key} {v : D} (h : ∀ kv ∈ l, kv.1 ≠ k) : putD l k v = l ++ [(k, v)] := by
  unfold putD
  rw [if_neg]
  intro z
  obtain ⟨kv, h1, h2⟩ := List.any_eq_true.mp z
  exact h kv h1 (of_decide_eq_true h2)
theorem merge_kv : ∀ (ls acc : List Lf), (acc.map (·.nm) ++ ls.map (·.nm)).Nodup → mergeD (acc.map kvD) (ls.map kvD) = (acc ++ ls).map kvD
  | [], acc, _ => by simp [mergeD]
  | l :: ls, acc, h => by
    have hn : ∀ kv ∈ acc.map kvD, kv.1 ≠ (kvD l).1 := fun kv hkv e => by
      obtain ⟨x, hx, rfl⟩ := List.mem_map.mp hkv
      have e : x.nm = l.nm := by simpa [kvD] using e
      rw [List.map_cons, List.nodup_append] at h
      exact h.2.2 x.nm (List.mem_map.mpr ⟨x, hx, rfl⟩) l.nm (by simp) e
    show mergeD (putD (acc.map kvD) (kvD l).1 (kvD l).2) (ls.map kvD) = _
    rw [putD_new hn]
    have := merge_kv ls (acc ++ [l]) (by simpa using h)
    simpa using this
theorem pairs_kv : ∀ ls : List Lf, pairsD (ls.map fun l => .tup [.str l.nm, lfD l]) = some (ls.map kvD)
  | [] => rfl
  | l :: ls => by
    show ((keyD (.str l.nm)).bind fun k' => (pairsD (ls.map fun l => .tup [.str l.nm, lfD l])).map ((k', lfD l) :: ·)) = _
    rw [pairs_kv ls]; rfl
theorem dict_kv {ls : List Lf} (h : (ls.map (·.nm)).Nodup) : dictD (.lst (ls.map fun l => .tup [.str l.nm, lfD l])) = some (.dct (ls.map kvD)) := by
  rw [dictD_lst, pairs_kv]
  show some (D.dct (mergeD [] (ls.map kvD))) = _
  have := merge_kv ls [] (by simpa using h)
  simp only [List.map_nil, List.nil_append] at this
  rw [this]
/-- some of the pairs of a dict -/
theorem cmp_pairs {M : Sem} {c el : E} {own : List Nat} {j : Nat} {ρ : List D} {m : List Cell} {k : Nat} {ls : List Lf} (dr : Drawn k ls) (hl : ls.length ≤ 1000) (p : Lf → Bool) (hc : ∀ l ∈ ls, evE M c ((wipeR ρ own).set j (.str l.nm)) m = .ok (.bl (p l)) m)
    (h : ∀ l ∈ ls, evE M el ((wipeR ρ own).set j (.str l.nm)) m = .ok (.tup [.str l.nm, lfD l]) m) : cmpK1 M (.one j) own (some c) el ρ (.ok ((ls.map kvD).map fun kv => kD kv.1, none) m) = .ok (.lst ((ls.filter p).map fun l => .tup [.str l.nm, lfD l])) m := by
  have dec : ∃ f : D → Bool, ∀ l ∈ ls, f (.str l.nm) = p l := by
    refine ⟨fun d => match evE M c ((wipeR ρ own).set j d) m with | .ok (.bl b) _ => b | _ => false, fun l hl => ?_⟩
    show (match evE M c ((wipeR ρ own).set j (.str l.nm)) m with | .ok (.bl b) _ => b | _ => false) = p l
    rw [hc l hl]
  obtain ⟨f, hf⟩ := dec
  have := cmp_filter (M := M) (j := j) (own := own) (c := c) (el := el) (ρ := ρ) (m := m) (ds := (ls.map kvD).map fun kv => kD kv.1) f (fun d => match d with | .str s => .tup [.str s, ((lookK (ls.map kvD) (.inr s)).getD .non)] | _ => .non) (fun d hd => by
    rw [List.map_map] at hd
    obtain ⟨l, hl, rfl⟩ := List.mem_map.mp hd
    show evE M c ((wipeR ρ own).set j (.str l.nm)) m = .ok (.bl (f (.str l.nm))) m
    rw [hc l hl, hf l hl]) (fun d hd _ => by
    rw [List.map_map] at hd
    obtain ⟨l, hl, rfl⟩ := List.mem_map.mp hd
    show evE M el ((wipeR ρ own).set j (.str l.nm)) m = .ok (.tup [.str l.nm, (lookK (ls.map kvD) (.inr l.nm)).getD .non]) m
    rw [h l hl, look_kv dr.nd hl]; rfl) (by simp; omega)
  rw [this]
  congr 2
  rw [List.map_map, List.filter_map, List.map_map]
  have e1 : ls.filter (f ∘ ((fun kv : Key × D => kD kv.1) ∘ kvD)) = ls.filter p := List.filter_congr fun l hl => hf l hl
  rw [e1]
  apply List.map_congr_left
  intro l hl
  show D.tup [.str l.nm, (lookK (ls.map kvD) (.inr l.nm)).getD .non] = _
  rw [look_kv dr.nd (List.mem_filter.mp hl).1]; rfl
end SG
namespace SG
open PySem L2 GS
/-! ### edits of trees, as the program makes them -/
def goesB (lo hi s : Nat) : Bool := match partN lo s with
  | none => true
  | some q => if lo = hi then false else match partN lo hi with | some p => decide (p ≤ q) | none => false
def goesT (t : T) (s : Str) : Bool := goesB (nmv t.lo) (nmv t.hi) (nmv s)
def sideT (t : T) (s : Str) : Nat := bitN (nmv s) ((partN (nmv t.lo) (nmv t.hi)).getD 0)
def besideT (t : T) (l : Lf) : T := if bitN (nmv l.nm) ((partN (nmv t.lo) (nmv l.nm)).getD 0) = 0 then .br (.leaf l) t else .br t (.leaf l)
def putE : T → Lf → Option T
  | .nil, l => some (.leaf l)
  | .leaf x, l => if goesT (.leaf x) l.nm = true then some (.leaf l) else some (besideT (.leaf x) l)
  | .cut s, l => if goesT (.cut s) l.nm = true then none else some (besideT (.cut s) l)
  | .br a b, l => if goesT (.br a b) l.nm = true then (if sideT (.br a b) l.nm = 0 then (putE a l).map fun a' => .br a' b else (putE b l).map fun b' => .br a b') else some (besideT (.br a b) l)
def betwT (t : T) (s : Str) : Bool := decide (nmv t.lo ≤ nmv s) && decide (nmv s ≤ nmv t.hi)
def getE : T → Str → Option (Option Lf)
  | .nil, _ => some none
  | .leaf x, s => if betwT (.leaf x) s = true then some (some x) else some none
  | .cut c, s => if betwT (.cut c) s = true then none else some none
  | .br a b, s => if betwT (.br a b) s = true then (if sideT (.br a b) s = 0 then getE a s else getE b s) else some none
def withoutE : T → Str → T
  | .br a b, s => if sideT (.br a b) s = 0 then (match withoutE a s with | .nil => b | r => .br r b) else (match withoutE b s with | .nil => a | r => .br a r)
  | _, _ => .nil
/-- at each branch the ends part -/
def T.pt : T → Prop
  | .nil => False
  | .leaf l => okN (cs l.nm)
  | .cut s => okN (cs s.lo) ∧ okN (cs s.hi)
  | .br a b => a.pt ∧ b.pt ∧ partN (nmv a.lo) (nmv b.hi) ≠ none
theorem pt_names : ∀ t : T, t.pt → okN (cs t.lo) ∧ okN (cs t.hi)
  | .leaf _, h => ⟨h, h⟩
  | .cut _, h => h
  | .br a b, h => ⟨(pt_names a h.1).1, (pt_names b h.2.1).2⟩
  | .nil, h => h.elim
theorem pt_full : ∀ t : T, t.pt → t.full = true
  | .leaf _, _ => rfl
  | .cut _, _ => rfl
  | .br a b, h => by show (a.full && b.full) = true; rw [pt_full a h.1, pt_full b h.2.1]; rfl
  | .nil, h => h.elim
theorem WF_part {a b : T} (h : (T.br a b).WF) : ∃ p, p ≤ 47 ∧ (∀ x ∈ a.lv, ∀ y ∈ b.lv, apart p x y) ∧ partN (nmv a.lo) (nmv b.hi) = some p := by
  obtain ⟨p, hp, ap⟩ := h.2.2
  obtain ⟨x, hx, e1⟩ := lo_mem a h.1
  obtain ⟨y, hy, e2⟩ := hi_mem b h.2.1
  have q := ap x hx y hy
  refine ⟨p, hp, ap, ?_⟩
  rw [← e1, ← e2]
  exact part_some (numOf_lt (wf_names a h.1 x hx)) (numOf_lt (wf_names b h.2.1 y hy)) (by omega) (by rw [q.1, q.2.1]; decide) q.2.2
theorem wf_pt : ∀ t : T, t.WF → t.pt
  | .leaf _, h => h
  | .br a b, h => ⟨wf_pt a h.1, wf_pt b h.2.1, by obtain ⟨p, _, _, e⟩ := WF_part h; rw [e]; simp⟩
  | .nil, h => h.elim
  | .cut _, h => h.elim
theorem wf_dp : ∀ t : T, t.WF → t.dp ≤ t.lv.length
  | .leaf _, _ => Nat.le_refl _
  | .br a b, h => by
    have := wf_dp a h.1
    have := wf_dp b h.2.1
    have := List.length_pos_iff.mpr (WF_lv a h.1)
    have := List.length_pos_iff.mpr (WF_lv b h.2.1)
    simp [T.dp, T.lv]
    omega
  | .nil, h => h.elim
  | .cut _, h => h.elim
/-! ### edits of whole trees -/
theorem nm_inj {s u : Str} (hs : okN (cs s)) (hu : okN (cs u)) (h : nmv s = nmv u) : s = u := by
  have := congrArg tx (inj_numOf hs hu h)
  rwa [tx_cs, tx_cs] at this
theorem wf_lo {t : T} (h : t.WF) : ∃ x ∈ t.lv, nmv x.nm = nmv t.lo := by obtain ⟨x, hx, e⟩ := lo_mem t h; exact ⟨x, hx, by rw [e]⟩
/-- all leaves are alike with the first one ahead of the place -/
theorem wf_agree {a b : T} {p : Nat} (h : (T.br a b).WF) (ap : ∀ x ∈ a.lv, ∀ y ∈ b.lv, apart p x y) : ∀ z ∈ (T.br a b).lv, ∀ k < p, bitN (nmv z.nm) k = bitN (nmv a.lo) k := fun z hz k hk => by
  obtain ⟨x, hx, e⟩ := lo_mem a h.1
  rw [← e]
  exact WF_apart _ h a b rfl ap z hz x (by simp [T.lv, hx]) k hk
/-- a name goes into a branch just if it is alike with it ahead of the place -/
theorem goes_br {a b : T} {p : Nat} {s : Str} (h : (T.br a b).WF) (hs : okN (cs s)) (hp : p ≤ 47) (e : partN (nmv a.lo) (nmv b.hi) = some p) : (goesT (.br a b) s = true ↔ ∀ k < p, bitN (nmv s) k = bitN (nmv a.lo) k) ∧ (goesT (.br a b) s = false → ∃ q, q < p ∧ partN (nmv a.lo) (nmv s) = some q) := by
  have la : nmv a.lo < 2 ^ 48 := numOf_lt (pt_names a (wf_pt a h.1)).1
  have lb : nmv b.hi < 2 ^ 48 := numOf_lt (pt_names b (wf_pt b h.2.1)).2
  have ls : nmv s < 2 ^ 48 := numOf_lt hs
  have g : goesT (.br a b) s = goesB (nmv a.lo) (nmv b.hi) (nmv s) := rfl
  rw [g]
  unfold goesB
  cases q : partN (nmv a.lo) (nmv s) with
  | none =>
    have := part_none q
    rw [this]
    simp
  | some q' =>
    obtain ⟨q1, q2, q3⟩ := part_inv la ls q
    obtain ⟨p1, p2, p3⟩ := part_inv la lb e
    have ne : nmv a.lo ≠ nmv b.hi := fun z => by rw [z] at p2; exact p2 rfl
    dsimp only
    rw [if_neg ne, e]
    dsimp only
    constructor
    · rw [decide_eq_true_iff]
      constructor
      · exact fun hle k hk => (q3 k (by omega)).symm
      · intro hk
        apply Classical.byContradiction
        intro hlt
        exact q2 (hk q' (by omega)).symm
    · intro hf
      exact ⟨q', by have := of_decide_eq_false hf; omega, rfl⟩
theorem goes_leaf {x : Lf} {s : Str} (hx : okN (cs x.nm)) (hs : okN (cs s)) : (goesT (.leaf x) s = true ↔ s = x.nm) ∧ (goesT (.leaf x) s = false → ∃ q, q ≤ 47 ∧ partN (nmv x.nm) (nmv s) = some q) := by
  have g : goesT (.leaf x) s = goesB (nmv x.nm) (nmv x.nm) (nmv s) := rfl
  rw [g]
  unfold goesB
  cases q : partN (nmv x.nm) (nmv s) with
  | none =>
    have := nm_inj hx hs (part_none q)
    simp [this]
  | some q' =>
    obtain ⟨q1, q2, q3⟩ := part_inv (numOf_lt hx) (numOf_lt hs) q
    simp
    exact ⟨fun e => by subst e; exact q2 rfl, by omega⟩
theorem side_br {a b : T} {p : Nat} {s : Str} (e : partN (nmv a.lo) (nmv b.hi) = some p) : sideT (.br a b) s = bitN (nmv s) p := by
  show bitN (nmv s) ((partN (nmv a.lo) (nmv b.hi)).getD 0) = _
  rw [e]; rfl
/-- beside -/
theorem beside_wf {t : T} {l : Lf} {q : Nat} (h : t.WF) (hl : okN (cs l.nm)) (hq : q ≤ 47) (e : partN (nmv t.lo) (nmv l.nm) = some q) (ag : ∀ z ∈ t.lv, ∀ k ≤ q, bitN (nmv z.nm) k = bitN (nmv t.lo) k) : (besideT t l).WF ∧ (besideT t l).lv.Perm (l :: t.lv) ∧ (∀ z ∈ t.lv, z.nm ≠ l.nm) := by
  obtain ⟨q1, q2, q3⟩ := part_inv (numOf_lt (pt_names t (wf_pt t h)).1) (numOf_lt hl) e
  have ne : ∀ z ∈ t.lv, z.nm ≠ l.nm := fun z hz eq => by
    have := ag z hz q (Nat.le_refl _)
    rw [eq] at this
    exact q2 this.symm
  have eb : besideT t l = if bitN (nmv l.nm) q = 0 then .br (.leaf l) t else .br t (.leaf l) := by unfold besideT; rw [e]; rfl
  rw [eb]
  by_cases c : bitN (nmv l.nm) q = 0
  · rw [if_pos c]
    refine ⟨⟨hl, h, q, hq, fun x hx y hy => ?_⟩, by simp [T.lv], ne⟩
    simp [T.lv] at hx
    subst hx
    have := bitN_01 (nmv t.lo) q
    refine ⟨c, ?_, fun k hk => ?_⟩
    · rw [ag y hy q (Nat.le_refl _)]
      have c : bitN (numOf (cs x.nm)) q = 0 := c
      have q2 : bitN (numOf (cs t.lo)) q ≠ bitN (numOf (cs x.nm)) q := q2
      have this : bitN (numOf (cs t.lo)) q = 0 ∨ bitN (numOf (cs t.lo)) q = 1 := this
      show bitN (numOf (cs t.lo)) q = 1
      omega
    · rw [ag y hy k (by omega)]
      exact (q3 k hk).symm
  · rw [if_neg c]
    refine ⟨⟨h, hl, q, hq, fun x hx y hy => ?_⟩, by simpa [T.lv] using List.perm_append_singleton _ _, ne⟩
    simp [T.lv] at hy
    subst hy
    have b1 := bitN_01 (nmv t.lo) q
    have b2 := bitN_01 (nmv y.nm) q
    have q2 : bitN (nmv t.lo) q ≠ bitN (nmv y.nm) q := q2
    refine ⟨?_, by omega, fun k hk => ?_⟩
    · rw [ag x hx q (Nat.le_refl _)]
      omega
    · rw [ag x hx k (by omega)]
      exact q3 k hk
theorem filter_ne {ls : List Lf} {s : Str} (h : ∀ z ∈ ls, z.nm ≠ s) : ls.filter (fun z => decide (¬ z.nm = s)) = ls := List.filter_eq_self.mpr fun z hz => decide_eq_true (h z hz)
theorem put_wf : ∀ (t : T) (l : Lf), t.WF → okN (cs l.nm) → ∃ u, putE t l = some u ∧ u.WF ∧ u.lv.Perm (l :: t.lv.filter fun z => decide (¬ z.nm = l.nm))
  | .leaf x, l, h, hl => by
    obtain ⟨g1, g2⟩ := goes_leaf (s := l.nm) h hl
    cases g : goesT (.leaf x) l.nm with
    | true =>
      have e := g1.mp g
      refine ⟨.leaf l, by unfold putE; rw [if_pos g], hl, ?_⟩
      simp [T.lv, e]
    | false =>
      obtain ⟨q, hq, e⟩ := g2 g
      obtain ⟨w1, w2, w3⟩ := beside_wf (t := .leaf x) h hl hq e (fun z hz k _ => by simp [T.lv] at hz; subst hz; rfl)
      refine ⟨besideT (.leaf x) l, by unfold putE; rw [if_neg (by rw [g]; decide)], w1, ?_⟩
      rw [filter_ne w3]
      exact w2
  | .br a b, l, h, hl => by
    obtain ⟨p, hp, ap, e⟩ := WF_part h
    obtain ⟨g1, g2⟩ := goes_br h hl hp e
    have ag := wf_agree h ap
    cases g : goesT (.br a b) l.nm with
    | false =>
      obtain ⟨q, hq, e2⟩ := g2 g
      obtain ⟨w1, w2, w3⟩ := beside_wf (t := .br a b) h hl (q := q) (by omega) e2 (fun z hz k hk => ag z hz k (by omega))
      refine ⟨besideT (.br a b) l, by unfold putE; rw [if_neg (by rw [g]; decide)], w1, ?_⟩
      rw [filter_ne w3]
      exact w2
    | true =>
      have al := g1.mp g
      have sd := side_br (s := l.nm) e
      obtain ⟨x0, hx0⟩ := List.exists_mem_of_ne_nil _ (WF_lv a h.1)
      obtain ⟨y0, hy0⟩ := List.exists_mem_of_ne_nil _ (WF_lv b h.2.1)
      by_cases c : bitN (nmv l.nm) p = 0
      · obtain ⟨u, e1, u1, u2⟩ := put_wf a l h.1 hl
        have nb : ∀ z ∈ b.lv, z.nm ≠ l.nm := fun z hz eq => by
          have := (ap x0 hx0 z hz).2.1
          rw [eq, c] at this; cases this
        refine ⟨.br u b, by unfold putE; rw [if_pos g, sd, if_pos c, e1]; rfl, ⟨u1, h.2.1, p, hp, fun x hx y hy => ?_⟩, ?_⟩
        · have hx := u2.mem_iff.mp hx
          rcases List.mem_cons.mp hx with rfl | hx
          · have q := ap x0 hx0 y hy
            refine ⟨c, q.2.1, fun k hk => ?_⟩
            rw [al k hk, ag y (by simp [T.lv, hy]) k hk]
          · exact ap x (List.mem_filter.mp hx).1 y hy
        · show (u.lv ++ b.lv).Perm (l :: (a.lv ++ b.lv).filter _)
          rw [List.filter_append, filter_ne nb, ← List.cons_append]
          exact u2.append_right _
      · obtain ⟨u, e1, u1, u2⟩ := put_wf b l h.2.1 hl
        have na : ∀ z ∈ a.lv, z.nm ≠ l.nm := fun z hz eq => by
          have := (ap z hz y0 hy0).1
          rw [eq] at this; exact c this
        have c1 : bitN (nmv l.nm) p = 1 := (bitN_01 _ _).resolve_left c
        refine ⟨.br a u, by unfold putE; rw [if_pos g, sd, if_neg c, e1]; rfl, ⟨h.1, u1, p, hp, fun x hx y hy => ?_⟩, ?_⟩
        · have hy := u2.mem_iff.mp hy
          rcases List.mem_cons.mp hy with rfl | hy
          · have q := ap x hx y0 hy0
            refine ⟨q.1, c1, fun k hk => ?_⟩
            rw [al k hk, ag x (by simp [T.lv, hx]) k hk]
          · exact ap x hx y (List.mem_filter.mp hy).1
        · show (a.lv ++ u.lv).Perm (l :: (a.lv ++ b.lv).filter _)
          rw [List.filter_append, filter_ne na]
          exact (List.Perm.append_left _ u2).trans List.perm_middle
  | .nil, _, h, _ => h.elim
  | .cut _, _, h, _ => h.elim
/-- the ends bound the leaves -/
theorem wf_bounds : ∀ t : T, t.WF → ∀ x ∈ t.lv, nmv t.lo ≤ nmv x.nm ∧ nmv x.nm ≤ nmv t.hi
  | .leaf l, _, x, hx => by simp [T.lv] at hx; subst hx; exact ⟨Nat.le_refl _, Nat.le_refl _⟩
  | .br a b, h, x, hx => by
    obtain ⟨p, hp, ap⟩ := h.2.2
    obtain ⟨x0, hx0, e0⟩ := lo_mem a h.1
    obtain ⟨y0, hy0, e1⟩ := hi_mem b h.2.1
    simp [T.lv] at hx
    rcases hx with hx | hx
    · have q1 := wf_bounds a h.1 x hx
      have q2 := apart_lt (wf_names a h.1 x hx) (wf_names b h.2.1 y0 hy0) hp (ap x hx y0 hy0)
      refine ⟨q1.1, ?_⟩
      show _ ≤ nmv b.hi
      rw [← e1]; omega
    · have q1 := wf_bounds b h.2.1 x hx
      have q2 := apart_lt (wf_names a h.1 x0 hx0) (wf_names b h.2.1 x hx) hp (ap x0 hx0 x hx)
      refine ⟨?_, q1.2⟩
      show nmv a.lo ≤ _
      rw [← e0]; omega
  | .nil, h, _, _ => h.elim
  | .cut _, h, _, _ => h.elim
/-- getting -/
theorem get_wf : ∀ (t : T) (s : Str), t.WF → okN (cs s) → ∃ o, getE t s = some o ∧ (∀ x, o = some x → x ∈ t.lv ∧ x.nm = s) ∧ (o = none → ∀ x ∈ t.lv, x.nm ≠ s)
  | .leaf l, s, h, hs => by
    unfold getE
    by_cases c : betwT (.leaf l) s = true
    · rw [if_pos c]
      have c' : (decide (nmv l.nm ≤ nmv s) && decide (nmv s ≤ nmv l.nm)) = true := c
      simp at c'
      have := nm_inj h hs (by omega)
      exact ⟨some l, rfl, fun x e => by cases e; exact ⟨by simp [T.lv], this⟩, fun e => by cases e⟩
    · rw [if_neg c]
      refine ⟨none, rfl, (fun x e => by cases e), fun _ x hx e => c ?_⟩
      simp [T.lv] at hx
      subst hx
      subst e
      show (decide (nmv x.nm ≤ nmv x.nm) && decide (nmv x.nm ≤ nmv x.nm)) = true
      simp
  | .br a b, s, h, hs => by
    obtain ⟨p, hp, ap, e⟩ := WF_part h
    have sd := side_br (s := s) e
    obtain ⟨x0, hx0⟩ := List.exists_mem_of_ne_nil _ (WF_lv a h.1)
    obtain ⟨y0, hy0⟩ := List.exists_mem_of_ne_nil _ (WF_lv b h.2.1)
    unfold getE
    by_cases c : betwT (.br a b) s = true
    · rw [if_pos c, sd]
      by_cases d : bitN (nmv s) p = 0
      · rw [if_pos d]
        obtain ⟨o, e1, e2, e3⟩ := get_wf a s h.1 hs
        refine ⟨o, e1, fun x hx => ⟨by simp [T.lv, (e2 x hx).1], (e2 x hx).2⟩, fun ho x hx eq => ?_⟩
        simp [T.lv] at hx
        rcases hx with hx | hx
        · exact e3 ho x hx eq
        · have := (ap x0 hx0 x hx).2.1
          rw [eq, d] at this; cases this
      · rw [if_neg d]
        obtain ⟨o, e1, e2, e3⟩ := get_wf b s h.2.1 hs
        refine ⟨o, e1, fun x hx => ⟨by simp [T.lv, (e2 x hx).1], (e2 x hx).2⟩, fun ho x hx eq => ?_⟩
        simp [T.lv] at hx
        rcases hx with hx | hx
        · have := (ap x hx y0 hy0).1
          rw [eq] at this; exact d this
        · exact e3 ho x hx eq
    · rw [if_neg c]
      refine ⟨none, rfl, (fun x e => by cases e), fun _ x hx eq => c ?_⟩
      have := wf_bounds _ h x hx
      subst eq
      show (decide (nmv a.lo ≤ nmv x.nm) && decide (nmv x.nm ≤ nmv b.hi)) = true
      have : nmv a.lo ≤ nmv x.nm ∧ nmv x.nm ≤ nmv b.hi := this
      simp [this]
/-- dropping -/
theorem without_wf : ∀ (t : T) (s : Str), t.WF → (∃ x ∈ t.lv, x.nm = s) → (withoutE t s = .nil ∧ t.lv.filter (fun z => decide (¬ z.nm = s)) = []) ∨ ((withoutE t s).WF ∧ (withoutE t s).lv = t.lv.filter fun z => decide (¬ z.nm = s))
  | .leaf l, s, h, ⟨x, hx, e⟩ => by
    simp [T.lv] at hx
    subst hx
    exact .inl ⟨rfl, by simp [T.lv, e]⟩
  | .br a b, s, h, ⟨x, hx, ex⟩ => by
    obtain ⟨p, hp, ap, e⟩ := WF_part h
    have sd := side_br (s := s) e
    obtain ⟨x0, hx0⟩ := List.exists_mem_of_ne_nil _ (WF_lv a h.1)
    obtain ⟨y0, hy0⟩ := List.exists_mem_of_ne_nil _ (WF_lv b h.2.1)
    simp [T.lv] at hx
    have ew : withoutE (.br a b) s = if bitN (nmv s) p = 0 then (match withoutE a s with | .nil => b | r => .br r b) else (match withoutE b s with | .nil => a | r => .br a r) := by
      conv => lhs; unfold withoutE
      rw [sd]
    rw [ew]
    rcases hx with hx | hx
    · have c : bitN (nmv s) p = 0 := by rw [← ex]; exact (ap x hx y0 hy0).1
      have nb : ∀ z ∈ b.lv, z.nm ≠ s := fun z hz eq => by
        have := (ap x0 hx0 z hz).2.1
        rw [eq, c] at this; cases this
      rw [if_pos c]
      have fl : (T.br a b).lv.filter (fun z => decide (¬ z.nm = s)) = a.lv.filter (fun z => decide (¬ z.nm = s)) ++ b.lv := by
        show (a.lv ++ b.lv).filter _ = _
        rw [List.filter_append, filter_ne nb]
      rcases without_wf a s h.1 ⟨x, hx, ex⟩ with ⟨w1, w2⟩ | ⟨w1, w2⟩
      · rw [w1]
        exact .inr ⟨h.2.1, by rw [fl, w2]; rfl⟩
      · have nn : withoutE a s ≠ .nil := fun z => by rw [z] at w1; exact w1.elim
        have em : (match withoutE a s with | .nil => b | r => .br r b) = .br (withoutE a s) b := by
          generalize withoutE a s = r at nn
          cases r <;> first | (exact absurd rfl nn) | rfl
        rw [em]
        refine .inr ⟨⟨w1, h.2.1, p, hp, fun u hu v hv => ap u ?_ v hv⟩, ?_⟩
        · rw [w2] at hu; exact (List.mem_filter.mp hu).1
        · show (withoutE a s).lv ++ b.lv = _
          rw [w2, fl]
    · have c : ¬ bitN (nmv s) p = 0 := by
        have := (ap x0 hx0 x hx).2.1
        rw [← ex]; rw [this]; decide
      have na : ∀ z ∈ a.lv, z.nm ≠ s := fun z hz eq => by
        have := (ap z hz y0 hy0).1
        rw [eq] at this; exact c this
      rw [if_neg c]
      have fl : (T.br a b).lv.filter (fun z => decide (¬ z.nm = s)) = a.lv ++ b.lv.filter (fun z => decide (¬ z.nm = s)) := by
        show (a.lv ++ b.lv).filter _ = _
        rw [List.filter_append, filter_ne na]
      rcases without_wf b s h.2.1 ⟨x, hx, ex⟩ with ⟨w1, w2⟩ | ⟨w1, w2⟩
      · rw [w1]
        exact .inr ⟨h.1, by rw [fl, w2, List.append_nil]⟩
      · have nn : withoutE b s ≠ .nil := fun z => by rw [z] at w1; exact w1.elim
        have em : (match withoutE b s with | .nil => a | r => .br a r) = .br a (withoutE b s) := by
          generalize withoutE b s = r at nn
          cases r <;> first | (exact absurd rfl nn) | rfl
        rw [em]
        refine .inr ⟨⟨h.1, w1, p, hp, fun u hu v hv => ap u hu v ?_⟩, ?_⟩
        · rw [w2] at hv; exact (List.mem_filter.mp hv).1
        · show a.lv ++ (withoutE b s).lv = _
          rw [w2, fl]
  | .nil, _, h, _ => h.elim
  | .cut _, _, h, _ => h.elim
end SG
namespace SG
open PySem L2 GS
theorem while_rt {M : Sem} {e : E} {body : List S} {n : Nat} {ρ : List D} {m m1 m2 : List Cell} {d : D} (h : evE M e ρ m = .ok (.bl true) m1) (h2 : evB M body ρ m1 = .rt d m2) : whileS (evT (evE M e)) (evB M body) (n + 1) ρ m = .rt d m2 := by
  conv => lhs; unfold whileS
  have : evT (evE M e) ρ m = .ok true m1 := by unfold evT; rw [h]; rfl
  rw [this, R.then_ok, if_pos rfl]
  simp only [h2]
theorem while_exc {M : Sem} {e : E} {body : List S} {n : Nat} {ρ ρ2 : List D} {m m1 m2 : List Cell} {c : Nat} {fs : List (Str × D)} (h : evE M e ρ m = .ok (.bl true) m1) (h2 : evB M body ρ m1 = .exc c fs ρ2 m2) : whileS (evT (evE M e)) (evB M body) (n + 1) ρ m = .exc c fs ρ2 m2 := by
  conv => lhs; unfold whileS
  have : evT (evE M e) ρ m = .ok true m1 := by unfold evT; rw [h]; rfl
  rw [this, R.then_ok, if_pos rfl]
  simp only [h2]
def notShown (s : Str) : List (Str × D) := [((PySem.Str.ofString "name"), .str s)]
def outT (o : Option T) (s : Str) (m : List Cell) : R D := match o with | some u => .ok (tD u) m | none => .exc C_NotShown (notShown s) m
def outG (o : Option (Option Lf)) (s : Str) (m : List Cell) : R D := match o with | some (some x) => .ok (lfD x) m | some none => .ok .non m | none => .exc C_NotShown (notShown s) m
section
variable {n : Nat} {m : List Cell}
theorem pt_br {a b : T} (h : (T.br a b).pt) : ∃ p, partN (nmv (T.br a b).lo) (nmv (T.br a b).hi) = some p := by
  have : partN (nmv a.lo) (nmv b.hi) ≠ none := h.2.2
  show ∃ p, partN (nmv a.lo) (nmv b.hi) = some p
  cases q : partN (nmv a.lo) (nmv b.hi) with
  | none => exact absurd q this
  | some p => exact ⟨p, rfl⟩
/-- a name that does not go into a tree parts from it -/
theorem goes_no {t : T} {s : Str} (h : goesT t s = false) : ∃ p, partN (nmv t.lo) (nmv s) = some p := by
  unfold goesT goesB at h
  cases q : partN (nmv t.lo) (nmv s) with
  | none => rw [q] at h; cases h
  | some p => exact ⟨p, rfl⟩
def noSuch (s : Str) : List (Str × D) := [((PySem.Str.ofString "name"), .str s)]
end
end SG
namespace SG
open PySem L2 GS
/-- w is the tree of these leaves -/
def TreeOf (w : T) (ls : List Lf) : Prop := (w = .nil ∧ ls = []) ∨ (w.WF ∧ w.lv.Perm ls)
theorem TreeOf.dp {w : T} {ls : List Lf} (h : TreeOf w ls) : w.dp ≤ ls.length + 1 := by
  rcases h with ⟨rfl, rfl⟩ | ⟨wf, pm⟩
  · decide
  · have := wf_dp w wf
    rw [pm.length_eq] at this
    omega
theorem TreeOf.pt {w : T} {ls : List Lf} (h : TreeOf w ls) : w = .nil ∨ w.pt := h.elim (fun h => .inl h.1) fun h => .inr (wf_pt w h.1)
theorem TreeOf.fine {k : Nat} {w : T} {ls : List Lf} (h : TreeOf w ls) (dr : Drawn k ls) : w = .nil ∨ w.fine k := h.elim (fun h => .inl h.1) fun h => .inr (wf_fine w h.1 fun x hx => dr.ok x (h.2.mem_iff.mp hx))
theorem putLf_perm {ls : List Lf} (l : Lf) (nd : (ls.map (·.nm)).Nodup) : (l :: ls.filter fun z => decide (¬ z.nm = l.nm)).Perm (putLf ls l) := by
  induction ls with
  | nil => simp [putLf]
  | cons a r ih =>
    rw [List.map_cons, List.nodup_cons] at nd
    have ih := ih nd.2
    by_cases e : a.nm = l.nm
    · have nr : ∀ z ∈ r, z.nm ≠ l.nm := fun z hz q => nd.1 (List.mem_map.mpr ⟨z, hz, q.trans e.symm⟩)
      have e1 : (a :: r).filter (fun z => decide (¬ z.nm = l.nm)) = r := by
        rw [List.filter_cons, if_neg (by simp [e])]
        exact filter_ne nr
      have e2 : putLf (a :: r) l = l :: r := by
        unfold putLf
        rw [if_pos (by simp [e]), List.map_cons, if_pos e]
        congr 1
        conv => rhs; rw [← List.map_id r]
        exact List.map_congr_left fun z hz => if_neg (nr z hz)
      rw [e1, e2]
    · have e1 : (a :: r).filter (fun z => decide (¬ z.nm = l.nm)) = a :: r.filter (fun z => decide (¬ z.nm = l.nm)) := by
        rw [List.filter_cons, if_pos (by simp [e])]
      have e2 : putLf (a :: r) l = a :: putLf r l := by
        unfold putLf
        rw [List.any_cons]
        have : decide (a.nm = l.nm) = false := decide_eq_false e
        rw [this, Bool.false_or]
        by_cases c : (r.any fun x => decide (x.nm = l.nm)) = true
        · rw [if_pos c, if_pos c, List.map_cons, if_neg e]
        · rw [if_neg c, if_neg c]; rfl
      rw [e1, e2]
      exact (List.Perm.swap _ _ _).trans (ih.cons a)
theorem TreeOf.put {k : Nat} {w : T} {ls : List Lf} {l : Lf} (h : TreeOf w ls) (dr : Drawn k ls) (hl : okN (cs l.nm)) : ∃ u, putE w l = some u ∧ TreeOf u (putLf ls l) := by
  rcases h with ⟨rfl, rfl⟩ | ⟨wf, pm⟩
  · exact ⟨.leaf l, rfl, .inr ⟨hl, by simp [T.lv, putLf]⟩⟩
  · obtain ⟨u, e, u1, u2⟩ := put_wf w l wf hl
    exact ⟨u, e, .inr ⟨u1, u2.trans (((pm.filter _).cons l).trans (putLf_perm l dr.nd))⟩⟩
theorem look_none {ls : List Lf} {s : Str} (h : ∀ x ∈ ls, x.nm ≠ s) : lookK (ls.map kvD) (.inr s) = none := by
  unfold lookK
  rw [Option.map_eq_none_iff, List.find?_eq_none]
  intro kv hkv
  obtain ⟨x, hx, rfl⟩ := List.mem_map.mp hkv
  have := h x hx
  simp [kvD, this]
/-- what get gives, and the dict -/
theorem TreeOf.get {k : Nat} {w : T} {ls : List Lf} {s : Str} (h : TreeOf w ls) (dr : Drawn k ls) (hs : okN (cs s)) : (∃ x ∈ ls, x.nm = s ∧ getE w s = some (some x) ∧ lookK (ls.map kvD) (.inr s) = some (lfD x)) ∨ ((∀ x ∈ ls, x.nm ≠ s) ∧ getE w s = some none ∧ lookK (ls.map kvD) (.inr s) = none) := by
  rcases h with ⟨rfl, rfl⟩ | ⟨wf, pm⟩
  · exact .inr ⟨by simp, rfl, rfl⟩
  · obtain ⟨o, e, g1, g2⟩ := get_wf w s wf hs
    cases o with
    | none =>
      have hn : ∀ x ∈ ls, x.nm ≠ s := fun x hx => g2 rfl x (pm.mem_iff.mpr hx)
      exact .inr ⟨hn, e, look_none hn⟩
    | some x =>
      obtain ⟨h1, h2⟩ := g1 x rfl
      have hx := pm.mem_iff.mp h1
      refine .inl ⟨x, hx, h2, e, ?_⟩
      rw [← h2]
      exact look_kv dr.nd hx
theorem TreeOf.drop {w : T} {ls : List Lf} {s : Str} (h : TreeOf w ls) (hx : ∃ x ∈ ls, x.nm = s) : TreeOf (withoutE w s) (ls.filter fun z => decide (¬ z.nm = s)) := by
  obtain ⟨x, hx, e⟩ := hx
  rcases h with ⟨rfl, rfl⟩ | ⟨wf, pm⟩
  · cases hx
  · rcases without_wf w s wf ⟨x, pm.mem_iff.mpr hx, e⟩ with ⟨w1, w2⟩ | ⟨w1, w2⟩
    · refine .inl ⟨w1, ?_⟩
      have := (pm.filter (fun z => decide (¬ z.nm = s))).length_eq
      rw [w2] at this
      exact List.length_eq_zero_iff.mp (by simpa using this.symm)
    · exact .inr ⟨w1, by rw [w2]; exact pm.filter _⟩
section
variable {n : Nat} {m : List Cell}
theorem eq_t {k : Nat} {t u : T} (h : t = .nil ∨ t.fine k) (g : u = .nil ∨ u.fine k) (hd : t.dp ≤ 60) (hd2 : u.dp ≤ 60) : eqB (tD t) (tD u) = some (cd (tD t = tD u)) :=
  eqB_plain (tD_plain t h) (tD_plain u g) (by have := tD_depth t; omega) (by have := tD_depth u; omega)
theorem lk_pairs {M : Sem} {c el : E} {own : List Nat} {j i n : Nat} {ρ : List D} {m : List Cell} {k : Nat} {ls : List Lf} (dr : Drawn k ls) (hl : ls.length ≤ 1000) (p : Lf → Bool) (hs : ρ[i]? = some (.obj n)) (hn : m[n]? = some (.dct (ls.map kvD))) (hm : m.all cellNd = true)
    (hc : ∀ l ∈ ls, evE M c ((wipeR (ρ.set i (.dct (ls.map kvD))) own).set j (.str l.nm)) (m.set n .dead) = .ok (.bl (p l)) (m.set n .dead))
    (h : ∀ l ∈ ls, evE M el ((wipeR (ρ.set i (.dct (ls.map kvD))) own).set j (.str l.nm)) (m.set n .dead) = .ok (.tup [.str l.nm, lfD l]) (m.set n .dead)) : evE M (.lk i (.comp (.one j) own (.var i) (some c) el)) ρ m = .ok (.lst ((ls.filter p).map fun l => .tup [.str l.nm, lfD l])) m := by
  rw [e_lk, hs, lkA_obj, hn, lkB_dct, e_comp, e_var]
  have e1 : (ρ.set i (D.dct (ls.map kvD)))[i]? = some (.dct (ls.map kvD)) := set_get hs
  rw [e1, gV_dct, R.of_some, srcK_ok, srcD_dct, cmp_pairs dr hl p hc h, lk3_go _ hm]
  show nodctL _ = true
  exact nodct_map (fun l => by show (true && (nodct (lfD l) && true)) = true; rw [nodct_lf]; rfl) _
theorem in_kv (ls : List Lf) (s : Str) : inB (.str s) (.dct (ls.map kvD)) = some ((lookK (ls.map kvD) (.inr s)).isSome) := rfl
theorem flat_one (x : D) : ∀ k : Nat, (List.replicate k [x]).flatten = List.replicate k x
  | 0 => rfl
  | k + 1 => by rw [List.replicate_succ, List.flatten_cons, flat_one x k, List.replicate_succ]; rfl
theorem rep_ints (x : Int) {k : Nat} (hk : k ≤ 1000) : binD .Mult (.lst [.int x]) (.int k) = some (.lst ((List.replicate k x).map D.int)) := by
  rw [rep_lst (by omega) (by omega) (by simp; omega)]
  congr 2
  rw [Int.toNat_natCast, List.map_replicate, flat_one]
theorem cell_kv (ls : List Lf) : cellNd (.dct (ls.map kvD)) = true := nodct_kv ls
end
end SG
namespace SG
open PySem L2 GS
/-! ### edits of trees with cuts -/
def T.cuts : T → List Sm
  | .cut s => [s]
  | .br a b => a.cuts ++ b.cuts
  | _ => []
/-- a name goes into no cut -/
def noGo (t : T) (s : Str) : Prop := ∀ c ∈ t.cuts, goesB (nmv c.lo) (nmv c.hi) (nmv s) = false
theorem noGo.l {a b : T} {s : Str} (h : noGo (.br a b) s) : noGo a s := fun c hc => h c (by simp [T.cuts, hc])
theorem noGo.r {a b : T} {s : Str} (h : noGo (.br a b) s) : noGo b s := fun c hc => h c (by simp [T.cuts, hc])
theorem noGo.sub {t u : T} {s : Str} (h : noGo t s) (hs : ∀ c ∈ u.cuts, c ∈ t.cuts) : noGo u s := fun c hc => h c (hs c hc)
theorem bits_of_div {a x p : Nat} (hp : p ≤ 48) (h : x / 2 ^ (48 - p) = a / 2 ^ (48 - p)) : ∀ i < p, bitN x i = bitN a i := fun i hi => by
  unfold bitN
  have e : 47 - i = (48 - p) + (p - 1 - i) := by omega
  rw [e, Nat.pow_add, ← Nat.div_div_eq_div_mul, ← Nat.div_div_eq_div_mul, h]
theorem betw_bits {a b x p : Nat} (la : a < 2 ^ 48) (lb : b < 2 ^ 48) (hp : p ≤ 48) (h : ∀ i < p, bitN a i = bitN b i) (h1 : a ≤ x) (h2 : x ≤ b) : ∀ i < p, bitN x i = bitN a i := by
  have e := high_same la lb p hp h
  have q1 : a / 2 ^ (48 - p) ≤ x / 2 ^ (48 - p) := Nat.div_le_div_right h1
  have q2 : x / 2 ^ (48 - p) ≤ b / 2 ^ (48 - p) := Nat.div_le_div_right h2
  exact bits_of_div hp (by omega)
/-- a name between the names of a whole tree goes into it -/
theorem betw_goes {w : T} {s : Str} (h : w.WF) (hs : okN (cs s)) (hb : betwT w s = true) : goesT w s = true := by
  have hb' : (decide (nmv w.lo ≤ nmv s) && decide (nmv s ≤ nmv w.hi)) = true := hb
  simp at hb'
  cases w with
  | nil => exact h.elim
  | cut c => exact h.elim
  | leaf l => exact (goes_leaf h hs).1.mpr (nm_inj hs h (by have : nmv l.nm ≤ nmv s ∧ nmv s ≤ nmv l.nm := hb'; omega))
  | br a b =>
    obtain ⟨p, hp, ap, e⟩ := WF_part h
    have la : nmv a.lo < 2 ^ 48 := numOf_lt (pt_names a (wf_pt a h.1)).1
    have lb : nmv b.hi < 2 ^ 48 := numOf_lt (pt_names b (wf_pt b h.2.1)).2
    obtain ⟨p1, p2, p3⟩ := part_inv la lb e
    exact (goes_br h hs hp e).1.mpr (betw_bits la lb (by omega) p3 hb'.1 hb'.2)
section
variable {md : Int} {k : Nat}
theorem cut_lohi (hm : 0 < md) {t w : T} (h : w.WF) (o : LvOk k w) (c : CutOf md t w) : t.lo = w.lo ∧ t.hi = w.hi := cut_ends hm t w h o c
theorem cut_goes (hm : 0 < md) {t w : T} (h : w.WF) (o : LvOk k w) (c : CutOf md t w) (s : Str) : goesT t s = goesT w s ∧ sideT t s = sideT w s ∧ betwT t s = betwT w s := by
  obtain ⟨e1, e2⟩ := cut_lohi hm h o c
  unfold goesT sideT betwT
  rw [e1, e2]
  exact ⟨rfl, rfl, rfl⟩
theorem put_no {t : T} {l : Lf} (h : t ≠ .nil) (g : goesT t l.nm = false) : putE t l = some (besideT t l) := by
  cases t with
  | nil => exact absurd rfl h
  | leaf x => unfold putE; rw [if_neg (by rw [g]; decide)]
  | cut x => unfold putE; rw [if_neg (by rw [g]; decide)]
  | br a b => unfold putE; rw [if_neg (by rw [g]; decide)]
theorem beside_cut (hm : 0 < md) {t w : T} {l : Lf} (h : w.WF) (o : LvOk k w) (c : CutOf md t w) : CutOf md (besideT t l) (besideT w l) ∧ ∀ x ∈ (besideT t l).cuts, x ∈ t.cuts := by
  obtain ⟨e1, _⟩ := cut_lohi hm h o c
  have eb : besideT t l = if bitN (nmv l.nm) ((partN (nmv w.lo) (nmv l.nm)).getD 0) = 0 then .br (.leaf l) t else .br t (.leaf l) := by unfold besideT; rw [e1]
  have ew : besideT w l = if bitN (nmv l.nm) ((partN (nmv w.lo) (nmv l.nm)).getD 0) = 0 then .br (.leaf l) w else .br w (.leaf l) := rfl
  rw [eb, ew]
  by_cases q : bitN (nmv l.nm) ((partN (nmv w.lo) (nmv l.nm)).getD 0) = 0
  · rw [if_pos q, if_pos q]
    exact ⟨⟨rfl, c⟩, fun x hx => by simpa [T.cuts] using hx⟩
  · rw [if_neg q, if_neg q]
    exact ⟨⟨c, rfl⟩, fun x hx => by simpa [T.cuts] using hx⟩
theorem cut_put (hm : 0 < md) {l : Lf} : ∀ t w : T, w.WF → LvOk k w → CutOf md t w → noGo t l.nm → ∃ t' w', putE t l = some t' ∧ putE w l = some w' ∧ CutOf md t' w' ∧ ∀ x ∈ t'.cuts, x ∈ t.cuts
  | .cut s, w, h, o, c, ng => by
    have g1 : goesT (.cut s) l.nm = false := ng s (by simp [T.cuts])
    have g2 : goesT w l.nm = false := by rw [← (cut_goes hm h o c l.nm).1]; exact g1
    obtain ⟨q1, q2⟩ := beside_cut hm (l := l) h o c
    exact ⟨_, _, put_no (by simp) g1, put_no (fun e => by subst e; exact h) g2, q1, q2⟩
  | .leaf x, w, h, o, c, ng => by
    cases c
    cases g : goesT (.leaf x) l.nm with
    | false =>
      obtain ⟨q1, q2⟩ := beside_cut hm (l := l) h o (show CutOf md (.leaf x) (.leaf x) from rfl)
      exact ⟨_, _, put_no (by simp) g, put_no (by simp) g, q1, q2⟩
    | true =>
      have e : putE (.leaf x) l = some (.leaf l) := by unfold putE; rw [if_pos g]
      exact ⟨_, _, e, e, rfl, fun y hy => by simp [T.cuts] at hy⟩
  | .br a b, .br c d, h, o, ⟨c1, c2⟩, ng => by
    have cc : CutOf md (.br a b) (.br c d) := ⟨c1, c2⟩
    obtain ⟨e1, e2, _⟩ := cut_goes hm h o cc l.nm
    cases g : goesT (.br c d) l.nm with
    | false =>
      rw [g] at e1
      obtain ⟨q1, q2⟩ := beside_cut hm (l := l) h o cc
      exact ⟨_, _, put_no (by simp) e1, put_no (by simp) g, q1, q2⟩
    | true =>
      rw [g] at e1
      by_cases sd : sideT (.br c d) l.nm = 0
      · obtain ⟨t', w', p1, p2, p3, p4⟩ := cut_put hm a c h.1 o.l c1 ng.l
        refine ⟨.br t' b, .br w' d, ?_, ?_, ⟨p3, c2⟩, fun x hx => ?_⟩
        · unfold putE; rw [if_pos e1, e2, if_pos sd, p1]; rfl
        · unfold putE; rw [if_pos g, if_pos sd, p2]; rfl
        · simp [T.cuts] at hx ⊢
          rcases hx with hx | hx
          · exact .inl (p4 x hx)
          · exact .inr hx
      · obtain ⟨t', w', p1, p2, p3, p4⟩ := cut_put hm b d h.2.1 o.r c2 ng.r
        refine ⟨.br a t', .br c w', ?_, ?_, ⟨c1, p3⟩, fun x hx => ?_⟩
        · unfold putE; rw [if_pos e1, e2, if_neg sd, p1]; rfl
        · unfold putE; rw [if_pos g, if_neg sd, p2]; rfl
        · simp [T.cuts] at hx ⊢
          rcases hx with hx | hx
          · exact .inl hx
          · exact .inr (p4 x hx)
  | .nil, _, _, _, c, _ => c.elim
  | .br _ _, .nil, _, _, c, _ => c.elim
  | .br _ _, .leaf _, _, _, c, _ => c.elim
  | .br _ _, .cut _, _, _, c, _ => c.elim
theorem get_no {t : T} {s : Str} (g : betwT t s = false) : getE t s = some none := by
  cases t with
  | nil => rfl
  | leaf x => unfold getE; rw [if_neg (by rw [g]; decide)]
  | cut x => unfold getE; rw [if_neg (by rw [g]; decide)]
  | br a b => unfold getE; rw [if_neg (by rw [g]; decide)]
/-- no cut whose names lie about the name -/
def noBe (t : T) (s : Str) : Prop := ∀ c ∈ t.cuts, betwT (.cut c) s = false
theorem noBe.l {a b : T} {s : Str} (h : noBe (.br a b) s) : noBe a s := fun c hc => h c (by simp [T.cuts, hc])
theorem noBe.r {a b : T} {s : Str} (h : noBe (.br a b) s) : noBe b s := fun c hc => h c (by simp [T.cuts, hc])
theorem cut_get (hm : 0 < md) {s : Str} : ∀ t w : T, w.WF → LvOk k w → CutOf md t w → noBe t s → getE t s = getE w s
  | .cut c, w, h, o, cc, ng => by
    have g1 : betwT (.cut c) s = false := ng c (by simp [T.cuts])
    have g2 : betwT w s = false := by rw [← (cut_goes hm h o cc s).2.2]; exact g1
    rw [get_no g1, get_no g2]
  | .leaf x, w, h, o, c, ng => by cases c; rfl
  | .br a b, .br c d, h, o, ⟨c1, c2⟩, ng => by
    have cc : CutOf md (.br a b) (.br c d) := ⟨c1, c2⟩
    obtain ⟨_, e2, e3⟩ := cut_goes hm h o cc s
    have i1 := cut_get hm a c h.1 o.l c1 ng.l
    have i2 := cut_get hm b d h.2.1 o.r c2 ng.r
    show (if betwT (.br a b) s = true then (if sideT (.br a b) s = 0 then getE a s else getE b s) else some none) = (if betwT (.br c d) s = true then (if sideT (.br c d) s = 0 then getE c s else getE d s) else some none)
    rw [e2, e3, i1, i2]
  | .nil, _, _, _, c, _ => c.elim
  | .br _ _, .nil, _, _, c, _ => c.elim
  | .br _ _, .leaf _, _, _, c, _ => c.elim
  | .br _ _, .cut _, _, _, c, _ => c.elim
theorem noGo_be (hm : 0 < md) {s : Str} (hs : okN (cs s)) : ∀ t w : T, w.WF → LvOk k w → CutOf md t w → noGo t s → noBe t s
  | .cut c, w, h, o, cc, ng => fun x hx => by
    simp [T.cuts] at hx
    subst hx
    have g1 : goesT (.cut x) s = false := ng x (by simp [T.cuts])
    cases q : betwT (.cut x) s with
    | false => rfl
    | true =>
      rw [(cut_goes hm h o cc s).2.2] at q
      have := betw_goes h hs q
      rw [← (cut_goes hm h o cc s).1, g1] at this
      cases this
  | .leaf x, w, h, o, c, ng => fun y hy => by simp [T.cuts] at hy
  | .br a b, .br c d, h, o, ⟨c1, c2⟩, ng => fun x hx => by
    simp [T.cuts] at hx
    rcases hx with hx | hx
    · exact noGo_be hm hs a c h.1 o.l c1 ng.l x hx
    · exact noGo_be hm hs b d h.2.1 o.r c2 ng.r x hx
  | .nil, _, _, _, c, _ => c.elim
  | .br _ _, .nil, _, _, c, _ => c.elim
  | .br _ _, .leaf _, _, _, c, _ => c.elim
  | .br _ _, .cut _, _, _, c, _ => c.elim
theorem cut_without (hm : 0 < md) {s : Str} {x : Lf} : ∀ t w : T, w.WF → LvOk k w → CutOf md t w → getE t s = some (some x) → getE w s = some (some x) ∧ ((withoutE t s = .nil ∧ withoutE w s = .nil) ∨ (withoutE t s ≠ .nil ∧ withoutE w s ≠ .nil ∧ CutOf md (withoutE t s) (withoutE w s))) ∧ ∀ y ∈ (withoutE t s).cuts, y ∈ t.cuts
  | .cut c, w, h, o, cc, g => by unfold getE at g; split at g <;> cases g
  | .leaf y, w, h, o, c, g => by cases c; exact ⟨g, .inl ⟨rfl, rfl⟩, fun y hy => by simp [withoutE, T.cuts] at hy⟩
  | .br a b, .br c d, h, o, ⟨c1, c2⟩, g => by
    have cc : CutOf md (.br a b) (.br c d) := ⟨c1, c2⟩
    obtain ⟨_, e2, e3⟩ := cut_goes hm h o cc s
    have nd : d ≠ .nil := fun e => by subst e; exact h.2.1
    have nc : c ≠ .nil := fun e => by subst e; exact h.1
    unfold getE at g
    split at g
    · rename_i be
      rw [e3] at be
      by_cases sd : sideT (.br c d) s = 0
      · rw [e2, if_pos sd] at g
        obtain ⟨g', q, qs⟩ := cut_without hm a c h.1 o.l c1 g
        have ea : withoutE (.br a b) s = match withoutE a s with | .nil => b | r => .br r b := by
          conv => lhs; unfold withoutE
          rw [e2, if_pos sd]
          all_goals rfl
        have ec : withoutE (.br c d) s = match withoutE c s with | .nil => d | r => .br r d := by
          conv => lhs; unfold withoutE
          rw [if_pos sd]
          all_goals rfl
        refine ⟨by unfold getE; rw [if_pos be, if_pos sd]; exact g', ?_⟩
        rw [ea, ec]
        rcases q with ⟨q1, q2⟩ | ⟨n1, n2, q⟩
        · rw [q1, q2]
          exact ⟨.inr ⟨cut_not_nil c2, nd, c2⟩, fun y hy => by simp [T.cuts]; exact .inr hy⟩
        · generalize withoutE a s = r at *
          generalize withoutE c s = r' at *
          have f1 : (match r with | .nil => b | r => .br r b) = .br r b := by cases r <;> first | (exact absurd rfl n1) | rfl
          have f2 : (match r' with | .nil => d | r => .br r d) = .br r' d := by cases r' <;> first | (exact absurd rfl n2) | rfl
          rw [f1, f2]
          refine ⟨.inr ⟨by simp, by simp, q, c2⟩, fun y hy => ?_⟩
          simp [T.cuts] at hy ⊢
          rcases hy with hy | hy
          · exact .inl (qs y hy)
          · exact .inr hy
      · rw [e2, if_neg sd] at g
        obtain ⟨g', q, qs⟩ := cut_without hm b d h.2.1 o.r c2 g
        have ea : withoutE (.br a b) s = match withoutE b s with | .nil => a | r => .br a r := by
          conv => lhs; unfold withoutE
          rw [e2, if_neg sd]
          all_goals rfl
        have ec : withoutE (.br c d) s = match withoutE d s with | .nil => c | r => .br c r := by
          conv => lhs; unfold withoutE
          rw [if_neg sd]
          all_goals rfl
        refine ⟨by unfold getE; rw [if_pos be, if_neg sd]; exact g', ?_⟩
        rw [ea, ec]
        rcases q with ⟨q1, q2⟩ | ⟨n1, n2, q⟩
        · rw [q1, q2]
          exact ⟨.inr ⟨cut_not_nil c1, nc, c1⟩, fun y hy => by simp [T.cuts]; exact .inl hy⟩
        · generalize withoutE b s = r at *
          generalize withoutE d s = r' at *
          have f1 : (match r with | .nil => a | r => .br a r) = .br a r := by cases r <;> first | (exact absurd rfl n1) | rfl
          have f2 : (match r' with | .nil => c | r => .br c r) = .br c r' := by cases r' <;> first | (exact absurd rfl n2) | rfl
          rw [f1, f2]
          refine ⟨.inr ⟨by simp, by simp, c1, q⟩, fun y hy => ?_⟩
          simp [T.cuts] at hy ⊢
          rcases hy with hy | hy
          · exact .inl hy
          · exact .inr (qs y hy)
    · cases g
  | .nil, _, _, _, c, _ => c.elim
  | .br _ _, .nil, _, _, c, _ => c.elim
  | .br _ _, .leaf _, _, _, c, _ => c.elim
  | .br _ _, .cut _, _, _, c, _ => c.elim
/-! ### pruning a whole tree -/
def pruneT (md : Int) (ns : List Str) : T → T
  | .br a b => if ns.any (goesT (.br a b)) = true then .br (pruneT md ns a) (pruneT md ns b) else .cut ((T.br a b).sm md)
  | .leaf l => if ns.any (goesT (.leaf l)) = true then .leaf l else .cut ((T.leaf l).sm md)
  | .nil => .nil
  | .cut s => if ns.any (goesT (.cut s)) = true then .cut s else .cut s
theorem prune_cut (hm : 0 < md) (ns : List Str) : ∀ w : T, w.WF → LvOk k w → CutOf md (pruneT md ns w) w ∧ ∀ s ∈ ns, noGo (pruneT md ns w) s := by
  have no : ∀ w : T, w.WF → LvOk k w → ¬ ns.any (goesT w) = true → ∀ s ∈ ns, noGo (.cut (w.sm md)) s := fun w h o hn s hs c hc => by
    simp [T.cuts] at hc
    subst hc
    have q := (whole_sm hm w h o).2.2.2
    have : goesT w s = false := by
      cases g : goesT w s with
      | false => rfl
      | true => exact absurd (List.any_eq_true.mpr ⟨s, hs, g⟩) hn
    rw [q.1, q.2]
    exact this
  intro w
  induction w with
  | nil => exact fun h => h.elim
  | cut c => exact fun h => h.elim
  | leaf l =>
    intro h o
    unfold pruneT
    by_cases c : ns.any (goesT (.leaf l)) = true
    · rw [if_pos c]
      exact ⟨rfl, fun s _ y hy => by simp [T.cuts] at hy⟩
    · rw [if_neg c]
      exact ⟨rfl, no _ h o c⟩
  | br a b ia ib =>
    intro h o
    unfold pruneT
    by_cases c : ns.any (goesT (.br a b)) = true
    · rw [if_pos c]
      obtain ⟨a1, a2⟩ := ia h.1 o.l
      obtain ⟨b1, b2⟩ := ib h.2.1 o.r
      refine ⟨⟨a1, b1⟩, fun s hs y hy => ?_⟩
      simp [T.cuts] at hy
      rcases hy with hy | hy
      · exact a2 s hs y hy
      · exact b2 s hs y hy
    · rw [if_neg c]
      exact ⟨rfl, no _ h o c⟩
def openL : T → List T
  | .br a b => .br a b :: (openL a ++ openL b)
  | .leaf l => [.leaf l]
  | _ => []
end
end SG
namespace SG
open PySem L2 GS
section
variable {n : Nat} {m : List Cell}
theorem strs_pure (l : List Str) : (D.lst (l.map D.str)).pure = true := by show pureL _ = true; exact pureL_map (fun _ => rfl) l
def spanD (w : T) : D := .lst (w.lv.map fun l => .str l.nm)
theorem span_pure (w : T) : (spanD w).pure = true := by show pureL _ = true; exact pureL_map (fun _ => rfl) _
theorem lv_ends : ∀ w : T, w.WF → (w.lv.map fun l => D.str l.nm)[0]? = some (.str w.lo) ∧ (w.lv.map fun l => D.str l.nm)[w.lv.length - 1]? = some (.str w.hi)
  | .leaf l, _ => ⟨rfl, rfl⟩
  | .br a b, h => by
    have la := List.length_pos_iff.mpr (WF_lv a h.1)
    have lb := List.length_pos_iff.mpr (WF_lv b h.2.1)
    obtain ⟨a1, _⟩ := lv_ends a h.1
    obtain ⟨_, b2⟩ := lv_ends b h.2.1
    constructor
    · show ((a.lv ++ b.lv).map _)[0]? = _
      rw [List.map_append, List.getElem?_append_left (by simpa using la)]
      exact a1
    · show ((a.lv ++ b.lv).map _)[(a.lv ++ b.lv).length - 1]? = _
      rw [List.map_append, List.getElem?_append_right (by simp; omega)]
      rw [List.length_map, List.length_append, show a.lv.length + b.lv.length - 1 - a.lv.length = b.lv.length - 1 by omega]
      exact b2
  | .nil, h => h.elim
  | .cut _, h => h.elim
theorem cut_pt {md : Int} {k : Nat} (hm : 0 < md) : ∀ t w : T, w.WF → LvOk k w → CutOf md t w → t.pt
  | .cut s, w, h, o, c => by
    cases c
    have q := (whole_sm hm w h o).2.2.2
    have p := pt_names w (wf_pt w h)
    exact ⟨by rw [q.1]; exact p.1, by rw [q.2]; exact p.2⟩
  | .leaf l, w, h, o, c => by cases c; exact h
  | .br a b, .br c d, h, o, ⟨c1, c2⟩ => by
    refine ⟨cut_pt hm a c h.1 o.l c1, cut_pt hm b d h.2.1 o.r c2, ?_⟩
    rw [(cut_lohi hm h.1 o.l c1).1, (cut_lohi hm h.2.1 o.r c2).2]
    exact (wf_pt _ h).2.2
  | .nil, _, _, _, c => c.elim
  | .br _ _, .nil, _, _, c => c.elim
  | .br _ _, .leaf _, _, _, c => c.elim
  | .br _ _, .cut _, _, _, c => c.elim
end
section
variable {md : Int} {k : Nat} {t w : T} {ls : List Lf}
theorem TreeOf.lv (h : TreeOf w ls) (dr : Drawn k ls) : w = .nil ∨ (w.WF ∧ LvOk k w) := h.elim (fun h => .inl h.1) fun h => .inr ⟨h.1, fun x hx => dr.ok x (h.2.mem_iff.mp hx)⟩
theorem Cn.pt (hm : 0 < md) (c : Cn md t w) (h : TreeOf w ls) (dr : Drawn k ls) : t = .nil ∨ t.pt := by
  rcases c with ⟨rfl, _⟩ | ⟨nw, c⟩
  · exact .inl rfl
  · obtain ⟨wf, o⟩ := (h.lv dr).resolve_left nw
    exact .inr (cut_pt hm t w wf o c)
theorem edit_get (hm : 0 < md) {s : Str} (c : Cn md t w) (h : TreeOf w ls) (dr : Drawn k ls) (hs : okN (cs s)) (ng : noGo t s) : getE t s = getE w s := by
  rcases c with ⟨rfl, rfl⟩ | ⟨nw, c⟩
  · rfl
  · obtain ⟨wf, o⟩ := (h.lv dr).resolve_left nw
    exact cut_get hm t w wf o c (noGo_be hm hs t w wf o c ng)
theorem put_ne' (ls : List Lf) (l : Lf) : putLf ls l ≠ [] := List.length_pos_iff.mp (by have := (put_len ls l).2; omega)
theorem edit_put (hm : 0 < md) {l : Lf} (c : Cn md t w) (h : TreeOf w ls) (dr : Drawn k ls) (hl : okN (cs l.nm)) (ng : noGo t l.nm) : ∃ t' w', putE t l = some t' ∧ Cn md t' w' ∧ TreeOf w' (putLf ls l) ∧ ∀ x ∈ t'.cuts, x ∈ t.cuts := by
  obtain ⟨u, e, tu⟩ := h.put dr hl
  rcases c with ⟨rfl, rfl⟩ | ⟨nw, c⟩
  · cases e
    exact ⟨.leaf l, .leaf l, rfl, .inr ⟨by simp, rfl⟩, tu, fun x hx => by simp [T.cuts] at hx⟩
  · obtain ⟨wf, o⟩ := (h.lv dr).resolve_left nw
    obtain ⟨t', w', e1, e2, c', cs'⟩ := cut_put hm t w wf o c ng
    rw [e] at e2
    cases e2
    refine ⟨t', u, e1, .inr ⟨fun z => ?_, c'⟩, tu, cs'⟩
    subst z
    rcases tu with ⟨_, z⟩ | ⟨z, _⟩
    · exact put_ne' ls l z
    · exact z
theorem edit_drop (hm : 0 < md) {s : Str} {x : Lf} (c : Cn md t w) (h : TreeOf w ls) (dr : Drawn k ls) (hx : ∃ y ∈ ls, y.nm = s) (g : getE t s = some (some x)) : Cn md (withoutE t s) (withoutE w s) ∧ TreeOf (withoutE w s) (ls.filter fun z => decide (¬ z.nm = s)) ∧ ∀ y ∈ (withoutE t s).cuts, y ∈ t.cuts := by
  refine ⟨?_, h.drop hx, ?_⟩
  · rcases c with ⟨rfl, rfl⟩ | ⟨nw, c⟩
    · cases g
    · obtain ⟨wf, o⟩ := (h.lv dr).resolve_left nw
      obtain ⟨_, q, _⟩ := cut_without hm t w wf o c g
      rcases q with q | ⟨q1, q2, q3⟩
      · exact .inl q
      · exact .inr ⟨q2, q3⟩
  · rcases c with ⟨rfl, rfl⟩ | ⟨nw, c⟩
    · cases g
    · obtain ⟨wf, o⟩ := (h.lv dr).resolve_left nw
      exact (cut_without hm t w wf o c g).2.2
theorem putLf_mem (ls : List Lf) (l : Lf) : l ∈ putLf ls l := by
  unfold putLf
  split
  · rename_i h
    obtain ⟨x, hx, e⟩ := List.any_eq_true.mp h
    exact List.mem_map.mpr ⟨x, hx, if_pos (of_decide_eq_true e)⟩
  · simp
end
section
variable {n : Nat} {m : List Cell}
end
end SG
namespace SG
open PySem L2 GS
/-! ### what the cuts stand for -/
def partsT : T → T → List T
  | .cut _, w => [w]
  | .br a b, .br c d => partsT a c ++ partsT b d
  | _, _ => []
/-- names that go into a part of a side go into the branch, and to that side -/
theorem sub_goes {a b v : T} {s : Str} (h : (T.br a b).WF) (hs : okN (cs s)) (hv : v.WF) (sub : (∀ x ∈ v.lv, x ∈ a.lv) ∨ (∀ x ∈ v.lv, x ∈ b.lv)) (g : goesT v s = true) : goesT (.br a b) s = true ∧ (sideT (.br a b) s = 0 ↔ ∀ x ∈ v.lv, x ∈ a.lv) := by
  obtain ⟨p, hp, ap, e⟩ := WF_part h
  have sd := side_br (s := s) e
  have ag := wf_agree h ap
  obtain ⟨x0, hx0⟩ := List.exists_mem_of_ne_nil _ (WF_lv a h.1)
  obtain ⟨y0, hy0⟩ := List.exists_mem_of_ne_nil _ (WF_lv b h.2.1)
  -- the name is alike with v's first leaf up to p
  obtain ⟨z, hz, ez⟩ := wf_lo hv
  have all1 : ∀ x ∈ v.lv, ∀ y ∈ v.lv, ∀ k ≤ p, bitN (nmv x.nm) k = bitN (nmv y.nm) k := fun x hx y hy k hk => by
    by_cases q : k = p
    · subst q
      rcases sub with sub | sub
      · rw [(ap x (sub x hx) y0 hy0).1, (ap y (sub y hy) y0 hy0).1]
      · rw [(ap x0 hx0 x (sub x hx)).2.1, (ap x0 hx0 y (sub y hy)).2.1]
    · have m : ∀ u ∈ v.lv, u ∈ (T.br a b).lv := fun u hu => by
        simp [T.lv]
        rcases sub with sub | sub
        · exact .inl (sub u hu)
        · exact .inr (sub u hu)
      rw [ag x (m x hx) k (by omega), ag y (m y hy) k (by omega)]
  have like : ∀ k ≤ p, bitN (nmv s) k = bitN (nmv z.nm) k := by
    cases v with
    | nil => exact hv.elim
    | cut c => exact hv.elim
    | leaf l =>
      have := (goes_leaf hv hs).1.mp g
      intro k _
      rw [this, ez]; rfl
    | br c d =>
      obtain ⟨p', hp', ap', e'⟩ := WF_part hv
      have gg := (goes_br hv hs hp' e').1.mp g
      have lt : p < p' := by
        apply Classical.byContradiction
        intro hn
        obtain ⟨xc, hxc⟩ := List.exists_mem_of_ne_nil _ (WF_lv c hv.1)
        obtain ⟨xd, hxd⟩ := List.exists_mem_of_ne_nil _ (WF_lv d hv.2.1)
        have q := ap' xc hxc xd hxd
        have := all1 xc (by simp [T.lv, hxc]) xd (by simp [T.lv, hxd]) p' (by omega)
        rw [q.1, q.2.1] at this
        cases this
      intro k hk
      rw [gg k (by omega), ez]; rfl
  have zm : z ∈ (T.br a b).lv := by
    simp [T.lv]
    rcases sub with sub | sub
    · exact .inl (sub z hz)
    · exact .inr (sub z hz)
  refine ⟨(goes_br h hs hp e).1.mpr fun k hk => by rw [like k (by omega), ag z zm k hk], ?_⟩
  rw [sd, like p (Nat.le_refl _)]
  constructor
  · intro q
    rcases sub with sub | sub
    · exact sub
    · have := (ap x0 hx0 z (sub z hz)).2.1
      rw [q] at this; cases this
  · exact fun sub' => (ap z (sub' z hz) y0 hy0).1
section
variable {md : Int} {k : Nat}
theorem parts_sub : ∀ t w : T, w.WF → CutOf md t w → ∀ v ∈ partsT t w, v.WF ∧ ∀ x ∈ v.lv, x ∈ w.lv
  | .cut s, w, h, _, v, hv => by
    simp [partsT] at hv
    subst hv
    exact ⟨h, fun x hx => hx⟩
  | .br a b, .br c d, h, ⟨c1, c2⟩, v, hv => by
    simp [partsT] at hv
    rcases hv with hv | hv
    · obtain ⟨q1, q2⟩ := parts_sub a c h.1 c1 v hv
      exact ⟨q1, fun x hx => by simp [T.lv, q2 x hx]⟩
    · obtain ⟨q1, q2⟩ := parts_sub b d h.2.1 c2 v hv
      exact ⟨q1, fun x hx => by simp [T.lv, q2 x hx]⟩
  | .leaf l, w, h, c, v, hv => by simp [partsT] at hv
  | .nil, _, _, c, _, _ => c.elim
  | .br _ _, .nil, _, c, _, _ => c.elim
  | .br _ _, .leaf _, _, c, _, _ => c.elim
  | .br _ _, .cut _, _, c, _, _ => c.elim
/-- a name that goes into a cut is not put -/
theorem put_none (hm : 0 < md) {l : Lf} (hl : okN (cs l.nm)) : ∀ t w : T, w.WF → LvOk k w → CutOf md t w → (∃ v ∈ partsT t w, goesT v l.nm = true) → putE t l = none
  | .cut s, w, h, o, c, ⟨v, hv, g⟩ => by
    simp [partsT] at hv
    subst hv
    rw [← (cut_goes hm h o c l.nm).1] at g
    unfold putE
    rw [if_pos g]
  | .br a b, .br c d, h, o, ⟨c1, c2⟩, ⟨v, hv, g⟩ => by
    have cc : CutOf md (.br a b) (.br c d) := ⟨c1, c2⟩
    obtain ⟨e1, e2, _⟩ := cut_goes hm h o cc l.nm
    simp [partsT] at hv
    have nd : ∀ x ∈ c.lv, ∀ y ∈ d.lv, x ≠ y := fun x hx y hy e => by
      obtain ⟨p, _, ap⟩ := h.2.2
      have q := ap x hx y hy
      rw [e] at q
      have := q.1.symm.trans q.2.1
      cases this
    rcases hv with hv | hv
    · obtain ⟨vw, vs⟩ := parts_sub a c h.1 c1 v hv
      obtain ⟨g1, g2⟩ := sub_goes h hl vw (.inl vs) g
      have ih := put_none hm hl a c h.1 o.l c1 ⟨v, hv, g⟩
      unfold putE
      rw [e1, if_pos g1, e2, if_pos (g2.mpr vs), ih]; rfl
    · obtain ⟨vw, vs⟩ := parts_sub b d h.2.1 c2 v hv
      obtain ⟨g1, g2⟩ := sub_goes h hl vw (.inr vs) g
      have ih := put_none hm hl b d h.2.1 o.r c2 ⟨v, hv, g⟩
      have ns : ¬ sideT (.br c d) l.nm = 0 := fun z => by
        obtain ⟨x, hx⟩ := List.exists_mem_of_ne_nil _ (WF_lv v vw)
        exact nd x (g2.mp z x hx) x (vs x hx) rfl
      unfold putE
      rw [e1, if_pos g1, e2, if_neg ns, ih]; rfl
  | .leaf x, w, h, o, c, ⟨v, hv, _⟩ => by simp [partsT] at hv
  | .nil, _, _, _, c, _ => c.elim
  | .br _ _, .nil, _, _, c, _ => c.elim
  | .br _ _, .leaf _, _, _, c, _ => c.elim
  | .br _ _, .cut _, _, _, c, _ => c.elim
theorem parts_noGo (hm : 0 < md) {s : Str} : ∀ t w : T, w.WF → LvOk k w → CutOf md t w → (∀ v ∈ partsT t w, goesT v s = false) → noGo t s
  | .cut c0, w, h, o, c, hp => fun y hy => by
    simp [T.cuts] at hy
    subst hy
    have := hp w (by simp [partsT])
    rw [← (cut_goes hm h o c s).1] at this
    exact this
  | .br a b, .br c d, h, o, ⟨c1, c2⟩, hp => fun y hy => by
    simp [T.cuts] at hy
    rcases hy with hy | hy
    · exact parts_noGo hm a c h.1 o.l c1 (fun v hv => hp v (by simp [partsT, hv])) y hy
    · exact parts_noGo hm b d h.2.1 o.r c2 (fun v hv => hp v (by simp [partsT, hv])) y hy
  | .leaf x, w, h, o, c, _ => fun y hy => by simp [T.cuts] at hy
  | .nil, _, _, _, c, _ => c.elim
  | .br _ _, .nil, _, _, c, _ => c.elim
  | .br _ _, .leaf _, _, _, c, _ => c.elim
  | .br _ _, .cut _, _, _, c, _ => c.elim
theorem parts_noBe (hm : 0 < md) {s : Str} : ∀ t w : T, w.WF → LvOk k w → CutOf md t w → (∀ v ∈ partsT t w, betwT v s = false) → noBe t s
  | .cut c0, w, h, o, c, hp => fun y hy => by
    simp [T.cuts] at hy
    subst hy
    have := hp w (by simp [partsT])
    rw [← (cut_goes hm h o c s).2.2] at this
    exact this
  | .br a b, .br c d, h, o, ⟨c1, c2⟩, hp => fun y hy => by
    simp [T.cuts] at hy
    rcases hy with hy | hy
    · exact parts_noBe hm a c h.1 o.l c1 (fun v hv => hp v (by simp [partsT, hv])) y hy
    · exact parts_noBe hm b d h.2.1 o.r c2 (fun v hv => hp v (by simp [partsT, hv])) y hy
  | .leaf x, w, h, o, c, _ => fun y hy => by simp [T.cuts] at hy
  | .nil, _, _, _, c, _ => c.elim
  | .br _ _, .nil, _, _, c, _ => c.elim
  | .br _ _, .leaf _, _, _, c, _ => c.elim
  | .br _ _, .cut _, _, _, c, _ => c.elim
/-- a name between the names of a cut is not got -/
theorem get_none (hm : 0 < md) {s : Str} (hs : okN (cs s)) : ∀ t w : T, w.WF → LvOk k w → CutOf md t w → (∃ v ∈ partsT t w, betwT v s = true) → getE t s = none
  | .cut c0, w, h, o, c, ⟨v, hv, g⟩ => by
    simp [partsT] at hv
    subst hv
    rw [← (cut_goes hm h o c s).2.2] at g
    unfold getE
    rw [if_pos g]
  | .br a b, .br c d, h, o, ⟨c1, c2⟩, ⟨v, hv, g⟩ => by
    have cc : CutOf md (.br a b) (.br c d) := ⟨c1, c2⟩
    obtain ⟨_, e2, e3⟩ := cut_goes hm h o cc s
    have nd : ∀ x ∈ c.lv, ∀ y ∈ d.lv, x ≠ y := fun x hx y hy e => by
      obtain ⟨p, _, ap⟩ := h.2.2
      have q := ap x hx y hy
      rw [e] at q
      have := q.1.symm.trans q.2.1
      cases this
    have betw : ∀ v : T, v.WF → (∀ x ∈ v.lv, x ∈ (T.br c d).lv) → betwT v s = true → betwT (.br c d) s = true := fun v vw vs g => by
      have g' : (decide (nmv v.lo ≤ nmv s) && decide (nmv s ≤ nmv v.hi)) = true := g
      simp at g'
      obtain ⟨x, hx, ex⟩ := lo_mem v vw
      obtain ⟨y, hy, ey⟩ := hi_mem v vw
      have q1 := wf_bounds _ h x (vs x hx)
      have q2 := wf_bounds _ h y (vs y hy)
      rw [ex] at q1
      rw [ey] at q2
      show (decide (nmv (T.br c d).lo ≤ nmv s) && decide (nmv s ≤ nmv (T.br c d).hi)) = true
      simp
      omega
    simp [partsT] at hv
    rcases hv with hv | hv
    · obtain ⟨vw, vs⟩ := parts_sub a c h.1 c1 v hv
      obtain ⟨_, g2⟩ := sub_goes h hs vw (.inl vs) (betw_goes vw hs g)
      have ih := get_none hm hs a c h.1 o.l c1 ⟨v, hv, g⟩
      unfold getE
      rw [e3, if_pos (betw v vw (fun x hx => by simp [T.lv, vs x hx]) g), e2, if_pos (g2.mpr vs), ih]
    · obtain ⟨vw, vs⟩ := parts_sub b d h.2.1 c2 v hv
      obtain ⟨_, g2⟩ := sub_goes h hs vw (.inr vs) (betw_goes vw hs g)
      have ih := get_none hm hs b d h.2.1 o.r c2 ⟨v, hv, g⟩
      have ns : ¬ sideT (.br c d) s = 0 := fun z => by
        obtain ⟨x, hx⟩ := List.exists_mem_of_ne_nil _ (WF_lv v vw)
        exact nd x (g2.mp z x hx) x (vs x hx) rfl
      unfold getE
      rw [e3, if_pos (betw v vw (fun x hx => by simp [T.lv, vs x hx]) g), e2, if_neg ns, ih]
  | .leaf x, w, h, o, c, ⟨v, hv, _⟩ => by simp [partsT] at hv
  | .nil, _, _, _, c, _ => c.elim
  | .br _ _, .nil, _, _, c, _ => c.elim
  | .br _ _, .leaf _, _, _, c, _ => c.elim
  | .br _ _, .cut _, _, _, c, _ => c.elim
end
/-! ### the leaves stand in order -/
theorem wf_sorted : ∀ t : T, t.WF → t.lv.Pairwise (fun x y => nmv x.nm < nmv y.nm)
  | .leaf l, _ => by simp [T.lv]
  | .br a b, h => by
    obtain ⟨p, hp, ap⟩ := h.2.2
    show (a.lv ++ b.lv).Pairwise _
    rw [List.pairwise_append]
    exact ⟨wf_sorted a h.1, wf_sorted b h.2.1, fun x hx y hy => apart_lt (wf_names a h.1 x hx) (wf_names b h.2.1 y hy) hp (ap x hx y hy)⟩
  | .nil, h => h.elim
  | .cut _, h => h.elim
theorem lt_nm {s u : Str} (hs : okN (cs s)) (hu : okN (cs u)) : PySem.Spec.ltCps s.cps.toList u.cps.toList = decide (nmv s < nmv u) := by
  rw [PyProof.Rows.ltCps_eq]
  exact decide_eq_decide.mpr (lt_numOf hs hu)
theorem minS_first : ∀ (r : List Str) (s : Str), okN (cs s) → (∀ u ∈ r, okN (cs u)) → (∀ u ∈ r, nmv s < nmv u) → minS s r = s
  | [], _, _, _, _ => rfl
  | u :: r, s, hs, hr, h => by
    show minS (if PySem.Spec.ltCps u.cps.toList s.cps.toList = true then u else s) r = s
    have := h u (by simp)
    rw [lt_nm (hr u (by simp)) hs, if_neg (by simp; omega)]
    exact minS_first r s hs (fun v hv => hr v (by simp [hv])) (fun v hv => h v (by simp [hv]))
theorem maxS_last : ∀ (r : List Str) (s : Str), okN (cs s) → (∀ u ∈ r, okN (cs u)) → (s :: r).Pairwise (fun x y => nmv x < nmv y) → maxS s r = (s :: r).getLast (by simp)
  | [], _, _, _, _ => rfl
  | u :: r, s, hs, hr, h => by
    show maxS (if PySem.Spec.ltCps s.cps.toList u.cps.toList = true then u else s) r = _
    rw [List.pairwise_cons] at h
    have := h.1 u (by simp)
    rw [lt_nm hs (hr u (by simp)), if_pos (by simp; omega)]
    rw [maxS_last r u (hr u (by simp)) (fun v hv => hr v (by simp [hv])) h.2]
    rfl
theorem lv_last : ∀ t : T, (h : t.WF) → ∃ x, t.lv.getLast? = some x ∧ x.nm = t.hi
  | .leaf l, _ => ⟨l, rfl, rfl⟩
  | .br a b, h => by
    obtain ⟨x, e1, e2⟩ := lv_last b h.2.1
    refine ⟨x, ?_, e2⟩
    show (a.lv ++ b.lv).getLast? = _
    rw [List.getLast?_append, e1]; rfl
  | .nil, h => h.elim
  | .cut _, h => h.elim
theorem lv_first : ∀ t : T, (h : t.WF) → ∃ x r, t.lv = x :: r ∧ x.nm = t.lo
  | .leaf l, _ => ⟨l, [], rfl, rfl⟩
  | .br a b, h => by
    obtain ⟨x, r, e1, e2⟩ := lv_first a h.1
    exact ⟨x, r ++ b.lv, by show a.lv ++ b.lv = _; rw [e1]; rfl, e2⟩
  | .nil, h => h.elim
  | .cut _, h => h.elim
theorem span_min {w : T} (h : w.WF) : fnD "min" [spanD w] = some (.str w.lo) ∧ fnD "max" [spanD w] = some (.str w.hi) := by
  obtain ⟨x, r, e1, e2⟩ := lv_first w h
  obtain ⟨y, f1, f2⟩ := lv_last w h
  have so := wf_sorted w h
  have ok := wf_names w h
  have es : spanD w = .lst ((x.nm :: r.map (·.nm)).map D.str) := by
    unfold spanD
    rw [e1, List.map_cons, List.map_cons, List.map_map]
    rfl
  rw [e1] at so ok f1
  have so' : (x.nm :: r.map (·.nm)).Pairwise (fun a b => nmv a < nmv b) := by
    have : ((x :: r).map (fun z : Lf => z.nm)).Pairwise (fun a b => nmv a < nmv b) := List.pairwise_map.mpr so
    exact this
  have okx := ok x (by simp)
  have okr : ∀ u ∈ r.map (·.nm), okN (cs u) := fun u hu => by
    obtain ⟨z, hz, rfl⟩ := List.mem_map.mp hu
    exact ok z (by simp [hz])
  rw [es, min_strs, max_strs]
  refine ⟨?_, ?_⟩
  · rw [minS_first _ _ okx okr (List.pairwise_cons.mp so').1, e2]
  · rw [maxS_last _ _ okx okr so']
    have : (x.nm :: r.map (·.nm)).getLast (by simp) = y.nm := by
      have q : (x.nm :: r.map (·.nm)).getLast? = some y.nm := by
        rw [show x.nm :: r.map (·.nm) = (x :: r).map (·.nm) from rfl, List.getLast?_map, f1]; rfl
      rw [List.getLast?_eq_some_getLast (by simp)] at q
      exact Option.some.inj q
    rw [this, f2]
end SG
namespace SG
open PySem L2 GS
section
variable {n : Nat} {m : List Cell}
/-! ### what the later laws draw -/
theorem w_law_cell_v2 (hn : 1 ≤ n) {ns : List Int} {k : Nat} : pur (Ph n F__law_cell_v2) [.scr ns, .int k] m = .ok (.int (cellN ns k)) m := by
  refine pur_ok rfl ?_ rfl
  rw [go__law_cell_v2 (by omega)]
  by_cases h : k < ns.length
  · have hg : cellN ns k = ns[k] := by simp [cellN, h]
    simp [b__law_cell_v2, h, hg]
  · have hg : cellN ns k = 0 := by unfold cellN; rw [List.getD_eq_getElem?_getD, List.getElem?_eq_none (by omega)]; rfl
    simp [b__law_cell_v2, h, hg]
def inRow (l : List Int) : Prop := ∀ x ∈ l, 0 ≤ x ∧ x < 1000
theorem inRow.snoc {l : List Int} {x : Int} (h : inRow l) (h1 : 0 ≤ x) (h2 : x < 1000) : inRow (l ++ [x]) := fun y hy => by
  rcases List.mem_append.mp hy with q | q
  · exact h y q
  · rw [List.mem_singleton] at q; subst q; exact ⟨h1, h2⟩
theorem w_law_numbers_v2 (hn : 1 ≤ n) (c : Int) {k : Nat} (hk : k ≤ 1000) : ∃ row : List Int, row.length = k ∧ inRow row ∧ ∀ m, pur (Ph n F__law_numbers_v2) [.int c, .int k] m = .ok (.lst (row.map D.int)) m := by
  have key : ∃ (row : List Int) (m1 : List Cell), row.length = k ∧ inRow row ∧ Ph n F__law_numbers_v2 [.int c, .int k] [] = .ok (.lst (row.map D.int)) m1 := by
    rw [go__law_numbers_v2 (by omega)]
    obtain ⟨ρ', m', e, rest, mixed, row, x, rfl, rfl, h1, h2, h3, h4⟩ := loop_rngM (j := 6) (body := evB (Mm (n - 1)) b__law_numbers_v2_L1)
      (fun i ρ m => ∃ (rest mixed : Int) (row : List Int) (x : D), ρ = [.int c, .int k, .int rest, .bl (decide (1000000000000000000 ≤ c.natAbs)), .int mixed, .obj 0, x] ∧ m = [.lst (row.map D.int)] ∧ 0 ≤ rest ∧ 0 ≤ mixed ∧ row.length = i ∧ inRow row) (lo := 0) (n := k)
      (ρ := [.int c, .int k, .int c.natAbs, .bl (decide (1000000000000000000 ≤ c.natAbs)), .int ((c.natAbs : Int) % 2147483629 + 1), .obj 0, .no]) (m := [.lst []]) ⟨_, _, [], _, rfl, rfl, by omega, by omega, rfl, fun x hx => by cases hx⟩ (by
      rintro i ρ m hi ⟨rest, mixed, row, x, rfl, rfl, h1, h2, h3, h4⟩
      have z : (0 : Int) + (i : Nat) = i := by omega
      rw [z]
      have hl : row.length < 16777216 := by omega
      generalize decide (1000000000000000000 ≤ c.natAbs) = L
      have g1 : 0 ≤ (mixed * 48271 + i * 69621 + 7) % 2147483647 := Int.emod_nonneg _ (by decide)
      by_cases q : L = true ∧ 0 < rest
      · obtain ⟨q1, q2⟩ := q
        subst q1
        refine ⟨_, _, ?_, rest / 1000, (mixed * 48271 + i * 69621 + 7) % 2147483647, row ++ [rest % 1000], .int i, rfl, rfl, by omega, g1, by simp [h3], h4.snoc (by omega) (by omega)⟩
        simp [b__law_numbers_v2_L1, q2, hl]
      · have g3 : ((mixed * 48271 + i * 69621 + 7) % 2147483647 / 13) % 1000 < 1000 := by omega
        have g4 : 0 ≤ ((mixed * 48271 + i * 69621 + 7) % 2147483647 / 13) % 1000 := by omega
        refine ⟨_, _, ?_, rest, (mixed * 48271 + i * 69621 + 7) % 2147483647, row ++ [((mixed * 48271 + i * 69621 + 7) % 2147483647 / 13) % 1000], .int i, rfl, rfl, h1, g1, by simp [h3], h4.snoc g4 g3⟩
        cases L with
        | false => simp [b__law_numbers_v2_L1, hl]
        | true =>
          have q2 : ¬ 0 < rest := fun e => q ⟨rfl, e⟩
          simp [b__law_numbers_v2_L1, hl, q2])
    refine ⟨row, [.dead], h3, h4, ?_⟩
    have f1 : (k : Int) < 4611686018427387904 := by omega
    simp [b__law_numbers_v2, f1, e]
  obtain ⟨row, m1, h1, h2, h3⟩ := key
  refine ⟨row, h1, h2, fun m => ?_⟩
  exact pur_ok rfl (by rw [h3]; rfl) (ints_pure row)
theorem w_law_modulus_v2 (hn : 1 ≤ n) (c : Int) : ∃ md : Nat, 3 ≤ md ∧ md ≤ 2305843009213693951 ∧ ∀ m, pur (Ph n F__law_modulus_v2) [.int c] m = .ok (.int md) m := by
  have key : ∃ (md : Nat), 3 ≤ md ∧ md ≤ 2305843009213693951 ∧ ∃ m1, Ph n F__law_modulus_v2 [.int c] [] = .ok (.int md) m1 := by
    rw [go__law_modulus_v2 (by omega)]
    by_cases h0 : c % 6 = 0
    · refine ⟨(3 + c / 6 % 60).toNat, by omega, by omega, [], ?_⟩
      have e : (((3 + c / 6 % 60).toNat : Nat) : Int) = 3 + c / 6 % 60 := by omega
      rw [e]
      simp [b__law_modulus_v2, h0]
    · by_cases h1 : c % 6 = 1
      · refine ⟨(3 + c / 6 % 5000).toNat, by omega, by omega, [], ?_⟩
        have e : (((3 + c / 6 % 5000).toNat : Nat) : Int) = 3 + c / 6 % 5000 := by omega
        rw [e]
        simp [b__law_modulus_v2, h1]
      · have hc : c % 6 = 2 ∨ c % 6 = 3 ∨ c % 6 = 4 ∨ c % 6 = 5 := by omega
        rcases hc with h | h | h | h
        · exact ⟨2305843009213693951, by decide, by decide, [], by simp [b__law_modulus_v2, h]⟩
        · exact ⟨1000003, by decide, by decide, [], by simp [b__law_modulus_v2, h]⟩
        · exact ⟨2147483647, by decide, by decide, [], by simp [b__law_modulus_v2, h]⟩
        · exact ⟨998244353, by decide, by decide, [], by simp [b__law_modulus_v2, h]⟩
  obtain ⟨md, h1, h2, m1, h3⟩ := key
  refine ⟨md, h1, h2, fun m => ?_⟩
  exact pur_ok rfl (by rw [h3]; rfl) rfl
end
end SG
end

noncomputable section
namespace GS
open PySem L2
/-! ### texts that are written out; fields of instances -/
theorem ofs_injective {a b : String} (h : PySem.Str.ofString a = PySem.Str.ofString b) : a = b := by
  rw [Str.ofString_eq_toList, Str.ofString_eq_toList] at h
  have h := (Array.mk.injEq _ _).mp (Str.mk.injEq _ _ ▸ h)
  have : a.toList = b.toList := by
    refine (List.map_inj_right (f := Char.toNat) ?_).mp h
    intro x y e
    exact Char.ext (UInt32.toNat_inj.mp e)
  exact String.toList_inj.mp this
@[simp] theorem ofs_inj (a b : String) : (PySem.Str.ofString a = PySem.Str.ofString b) = (a = b) := propext ⟨ofs_injective, fun h => by rw [h]⟩
@[simp] theorem lkk_cons (k a : Str) (b : D) (es : List (Str × D)) : List.lookup k ((a, b) :: es) = if k = a then some b else es.lookup k := by
  rw [List.lookup_cons]
  by_cases h : k = a
  · subst h; simp
  · have : (k == a) = false := by simpa using h
    rw [this, if_neg h]
@[simp] theorem fld_ins (fl : Nat → Str → Bool) (f : Str) (c : Nat) (fs : List (Str × D)) : fldD fl f (.ins c fs) = if fl c f = true then fs.lookup f else none := rfl
@[simp] theorem pick_ins {mt : Nat → Str → Option Nat} {f : Str} {c : Nat} {fs : List (Str × D)} (h : fs.lookup f = none) : pickM mt f (.ins c fs) = mt c f := by unfold pickM; dsimp only; rw [h]
@[simp] theorem lkk_nil (k : Str) : List.lookup k ([] : List (Str × D)) = none := rfl
@[simp] theorem putFD_nil (f : Str) (v : D) : putFD f v [] = [(f, v)] := rfl
@[simp] theorem putFD_cons (f g : Str) (v x : D) (r : List (Str × D)) : putFD f v ((g, x) :: r) = if g = f then (g, v) :: r else (g, x) :: putFD f v r := rfl
@[simp] theorem min_int (i j : Int) : fnD "min" [.int i, .int j] = some (.int (if j < i then j else i)) := rfl
@[simp] theorem max_int (i j : Int) : fnD "max" [.int i, .int j] = some (.int (if i < j then j else i)) := rfl
@[simp] theorem isA_str (s : Str) : isD "str" (.str s) = some (.bl true) := rfl
theorem strsOf_int (i : Int) (r : List D) : GS.strsOf (.int i :: r) = none := rfl
theorem max_ints (i : Int) (r : List Int) : fnD "max" [.lst ((i :: r).map D.int)] = some (.int (r.foldl max i)) := by
  show (match GS.strsOf (D.int i :: r.map D.int) with
    | some (s :: r) => some (D.str (maxS s r))
    | _ => match intsOf ((i :: r).map D.int) with
      | some (i :: r) => some (D.int (r.foldl max i))
      | _ => none) = _
  rw [strsOf_int, intsOf_map]
theorem min_ints (i : Int) (r : List Int) : fnD "min" [.lst ((i :: r).map D.int)] = some (.int (r.foldl min i)) := by
  show (match GS.strsOf (D.int i :: r.map D.int) with
    | some (s :: r) => some (D.str (minS s r))
    | _ => match intsOf ((i :: r).map D.int) with
      | some (i :: r) => some (D.int (r.foldl min i))
      | _ => none) = _
  rw [strsOf_int, intsOf_map]
end GS
end

noncomputable section
namespace SG
open PySem L2 GS
section
variable {n : Nat} {m : List Cell}
/-! ### notes -/
/-- is_notes, as it stands in the document -/
def posN (a b c : Int) : Int := (if 0 < a then 1 else 0) + (if 0 < b then 1 else 0) + (if 0 < c then 1 else 0)
def okNt (a0 a1 a2 a3 a4 a5 a6 a7 kinds md : Int) : Bool :=
  decide (0 ≤ a0 ∧ 0 ≤ a1 ∧ 0 ≤ a2 ∧ 0 ≤ a3 ∧ 0 ≤ a4 ∧ 0 ≤ a5 ∧ 0 ≤ a6 ∧ 0 ≤ a7) && decide (a0 ≤ md ∧ a1 ≤ md ∧ a2 ≤ md) && decide (a3 ≤ posN a0 a1 a2) && decide (a4 ≤ 1000000000000 ∧ a6 ≤ 1000000000000) && decide (a5 < kinds ∧ a7 ≤ 1000000)
theorem cnt3 (a b c : Int) : (([a, b, c].filter fun x => decide (0 < x)).length : Int) = posN a b c := by
  unfold posN
  by_cases h1 : 0 < a <;> by_cases h2 : 0 < b <;> by_cases h3 : 0 < c <;> simp [h1, h2, h3]
theorem w_is_notes (hn : 1 ≤ n) (a0 a1 a2 a3 a4 a5 a6 a7 kinds md : Int) : pur (Ph n F_is_notes) [.tup [.int a0, .int a1, .int a2, .int a3, .int a4, .int a5, .int a6, .int a7], .int kinds, .int md] m = .ok (.bl (okNt a0 a1 a2 a3 a4 a5 a6 a7 kinds md)) m := by
  refine pur_ok rfl ?_ rfl
  rw [go_is_notes (by omega)]
  generalize hT : D.tup [.int a0, .int a1, .int a2, .int a3, .int a4, .int a5, .int a6, .int a7] = T
  have hT' : T = .tup ([a0, a1, a2, a3, a4, a5, a6, a7].map D.int) := hT.symm
  have e1 : gqV false gam (.cmp .Lt .own (.int 0)) [T, .int kinds, .int md, .no, .no, .no] T = some (.bl ([a0, a1, a2, a3, a4, a5, a6, a7].any fun x => decide (x < 0))) := by
    rw [hT', gqV_tup (f := fun x => decide (x < 0)) (fun x _ => by show some (cd (x < 0)) = _; rw [cd_dec])]
    rfl
  have e2 : gqV false gam (.cmp .Gt .own (.free 2)) [T, .int kinds, .int md, .tup [.int a0, .int a1, .int a2], .no, .no] (.tup [.int a0, .int a1, .int a2]) = some (.bl ([a0, a1, a2].any fun x => decide (md < x))) := by
    have := gqV_tup (al := false) (Γ := gam) (q := .cmp .Gt .own (.free 2)) (ρ := [T, .int kinds, .int md, .tup [.int a0, .int a1, .int a2], .no, .no]) (l := [a0, a1, a2]) (g := D.int) (f := fun x => decide (md < x)) (fun x _ => by show some (cd (md < x)) = _; rw [cd_dec])
    exact this
  have e3 : cmpK1 (Mm (n - 1)) (.one 4) [4] (some b_is_notes_I1) b_is_notes_C1 [T, .int kinds, .int md, .tup [.int a0, .int a1, .int a2], .no, .no] (.ok ([.int a0, .int a1, .int a2], none) []) = .ok (.lst (([a0, a1, a2].filter fun x => decide (0 < x)).map D.int)) [] := by
    exact ints_filter (l := [a0, a1, a2]) (fun x => decide (0 < x)) (fun x => by simp [b_is_notes_I1]) (fun x => by simp [b_is_notes_C1]) (by simp)
  have ln : fnD "len" [T] = some (.int 8) := by rw [hT']; rfl
  have i3 : idxD T (.int 3) = some (.int a3) := by rw [hT']; rfl
  have i4 : idxD T (.int 4) = some (.int a4) := by rw [hT']; rfl
  have i5 : idxD T (.int 5) = some (.int a5) := by rw [hT']; rfl
  have i6 : idxD T (.int 6) = some (.int a6) := by rw [hT']; rfl
  have i7 : idxD T (.int 7) = some (.int a7) := by rw [hT']; rfl
  have sl : slcD T none (some 3) = some (.tup [.int a0, .int a1, .int a2]) := by rw [hT']; rfl
  have gt : gV (some T) = some T := by rw [hT']; rfl
  have rt : ∀ m, res m T = T := fun m => by rw [hT']; rfl
  have lf : ∀ k : Nat, k = ([a0, a1, a2].filter fun x => decide (0 < x)).length → (k : Int) = posN a0 a1 a2 := fun k h => by rw [h]; exact cnt3 a0 a1 a2
  have lf := lf _ rfl
  generalize ([a0, a1, a2].filter fun x => decide (0 < x)) = L at *
  clear hT hT'
  by_cases c1 : a0 < 0 ∨ a1 < 0 ∨ a2 < 0 ∨ a3 < 0 ∨ a4 < 0 ∨ a5 < 0 ∨ a6 < 0 ∨ a7 < 0
  · have q1 : ([a0, a1, a2, a3, a4, a5, a6, a7].any fun x => decide (x < 0)) = true := by simpa using c1
    have q2 : okNt a0 a1 a2 a3 a4 a5 a6 a7 kinds md = false := by
      unfold okNt
      rw [decide_eq_false (by omega)]
      rfl
    rw [q1] at e1
    rw [q2]
    simp [b_is_notes, gt, rt, ln, e1]
  have q1 : ([a0, a1, a2, a3, a4, a5, a6, a7].any fun x => decide (x < 0)) = false := by
    rw [List.any_eq_false]
    simp
    omega
  rw [q1] at e1
  by_cases c2 : md < a0 ∨ md < a1 ∨ md < a2
  · have q2 : ([a0, a1, a2].any fun x => decide (md < x)) = true := by simpa using c2
    have q3 : okNt a0 a1 a2 a3 a4 a5 a6 a7 kinds md = false := by
      unfold okNt
      rw [decide_eq_false (p := a0 ≤ md ∧ _) (by omega)]
      simp
    rw [q2] at e2
    rw [q3]
    simp [b_is_notes, gt, rt, ln, e1, sl, e2]
  have q2 : ([a0, a1, a2].any fun x => decide (md < x)) = false := by
    rw [List.any_eq_false]
    simp
    omega
  rw [q2] at e2
  have q4 : okNt a0 a1 a2 a3 a4 a5 a6 a7 kinds md = (decide (a3 ≤ posN a0 a1 a2) && decide (a4 ≤ 1000000000000 ∧ a6 ≤ 1000000000000) && decide (a5 < kinds ∧ a7 ≤ 1000000)) := by
    unfold okNt
    rw [decide_eq_true (p := 0 ≤ a0 ∧ _) (by omega), decide_eq_true (p := a0 ≤ md ∧ _) (by omega)]
    rfl
  rw [q4]
  clear c1 c2 q1 q2 q4
  by_cases c3 : (L.length : Int) < a3
  · have : ¬ a3 ≤ posN a0 a1 a2 := by omega
    simp [b_is_notes, b_is_notes_K1, gt, rt, ln, e1, sl, e2, e3, i3, c3, this]
  have c3' : a3 ≤ posN a0 a1 a2 := by omega
  by_cases c4 : 1000000000000 < a4
  · have : ¬ a4 ≤ 1000000000000 := by omega
    simp [b_is_notes, b_is_notes_K1, gt, rt, ln, e1, sl, e2, e3, i3, c3, c3', i4, c4, this]
  have c4' : a4 ≤ 1000000000000 := by omega
  by_cases c6 : 1000000000000 < a6
  · have : ¬ a6 ≤ 1000000000000 := by omega
    simp [b_is_notes, b_is_notes_K1, gt, rt, ln, e1, sl, e2, e3, i3, c3, c3', i4, c4, c4', i6, c6, this]
  have c6' : a6 ≤ 1000000000000 := by omega
  by_cases c5 : a5 < kinds
  · simp [b_is_notes, b_is_notes_K1, gt, rt, ln, e1, sl, e2, e3, i3, c3, c3', i4, c4, c4', i6, c6, c6', i5, c5, i7]
  · simp [b_is_notes, b_is_notes_K1, gt, rt, ln, e1, sl, e2, e3, i3, c3, c3', i4, c4, c4', i6, c6, c6', i5, c5, i7]
end
end SG
end

noncomputable section
namespace SG
open PySem L2 GS
section
variable {n : Nat} {m : List Cell}
def nearV (r0 r1 b : Int) : Int := if r1 % 4 = 0 then r0 % 3 else if r1 % 4 = 1 then b - r0 % 2 else if r1 % 4 = 2 then b + 1 + r0 % 2 else (r0 * 1000003 + r1) % (b + 1)
theorem near_range {r0 r1 b : Int} (hb : 1 ≤ b) : 0 ≤ nearV r0 r1 b ∧ nearV r0 r1 b ≤ b + 2 := by
  unfold nearV
  have h1 := Int.emod_nonneg (r0 * 1000003 + r1) (show b + 1 ≠ 0 by omega)
  have h2 := Int.emod_lt_of_pos (r0 * 1000003 + r1) (show 0 < b + 1 by omega)
  split
  · omega
  · split
    · omega
    · split <;> omega
theorem w_law_near (hn : 1 ≤ n) {r0 r1 b : Int} (hb : 1 ≤ b) : pur (Ph n F__law_near) [.lst [.int r0, .int r1], .int b] m = .ok (.int (nearV r0 r1 b)) m := by
  refine pur_ok rfl ?_ rfl
  rw [go__law_near (by omega)]
  have hb1 : 0 < b + 1 := by omega
  have c : r1 % 4 = 0 ∨ r1 % 4 = 1 ∨ r1 % 4 = 2 ∨ r1 % 4 = 3 := by omega
  rcases c with c | c | c | c <;> simp [b__law_near, nearV, c, hb1]
def lawOk (a0 a1 a2 a3 a4 a5 a6 a7 kinds md : Int) : Bool :=
  decide (a0 ≤ md ∧ a1 ≤ md ∧ a2 ≤ md) && decide (a3 ≤ posN a0 a1 a2) && decide (a4 ≤ 1000000000000 ∧ a6 ≤ 1000000000000) && decide (a5 < kinds ∧ a7 ≤ 1000000)
theorem w_law_valid (hn : 1 ≤ n) (a0 a1 a2 a3 a4 a5 a6 a7 kinds md : Int) : pur (Ph n F__law_valid) [.lst [.int a0, .int a1, .int a2, .int a3, .int a4, .int a5, .int a6, .int a7], .int kinds, .int md] m = .ok (.bl (lawOk a0 a1 a2 a3 a4 a5 a6 a7 kinds md)) m := by
  refine pur_ok rfl ?_ rfl
  rw [go__law_valid (by omega)]
  generalize hT : D.lst [.int a0, .int a1, .int a2, .int a3, .int a4, .int a5, .int a6, .int a7] = T
  have i3 : idxD T (.int 3) = some (.int a3) := by rw [← hT]; rfl
  have i4 : idxD T (.int 4) = some (.int a4) := by rw [← hT]; rfl
  have i5 : idxD T (.int 5) = some (.int a5) := by rw [← hT]; rfl
  have i6 : idxD T (.int 6) = some (.int a6) := by rw [← hT]; rfl
  have i7 : idxD T (.int 7) = some (.int a7) := by rw [← hT]; rfl
  have sl : slcD T none (some 3) = some (.lst [.int a0, .int a1, .int a2]) := by rw [← hT]; rfl
  have gt : gV (some T) = some T := by rw [← hT]; rfl
  have rt : ∀ m, res m T = T := fun m => by rw [← hT]; rfl
  clear hT
  have t : ∀ (c x : Int) (y : D) (m : List Cell), evB (Mm (n - 1)) b__law_valid_L1 [T, .int kinds, .int md, .int c, .int x] m = if md < x then .rt (.bl false) m else .nx [T, .int kinds, .int md, .int (c + if 0 < x then 1 else 0), .int x] m := fun c x y m => by
    by_cases h1 : md < x
    · simp [b__law_valid_L1, gt, rt, h1]
    · by_cases h2 : 0 < x <;> simp [b__law_valid_L1, gt, rt, h1, h2]
  have lp : ∀ m, loopS (.one 4) (evB (Mm (n - 1)) b__law_valid_L1) none [.int a0, .int a1, .int a2] [T, .int kinds, .int md, .int 0, .no] m = if md < a0 ∨ md < a1 ∨ md < a2 then .rt (.bl false) m else .nx [T, .int kinds, .int md, .int (posN a0 a1 a2), .int a2] m := fun m => by
    rw [loop_cons]
    show turnK _ _ _ (evB (Mm (n - 1)) b__law_valid_L1 [T, .int kinds, .int md, .int 0, .int a0] m) = _
    rw [t _ _ .no]
    by_cases h1 : md < a0
    · rw [if_pos h1, if_pos (.inl h1)]; rfl
    rw [if_neg h1, turn_nx, loop_cons]
    show turnK _ _ _ (evB (Mm (n - 1)) b__law_valid_L1 [T, .int kinds, .int md, .int _, .int a1] m) = _
    rw [t _ _ .no]
    by_cases h2 : md < a1
    · rw [if_pos h2, if_pos (.inr (.inl h2))]; rfl
    rw [if_neg h2, turn_nx, loop_cons]
    show turnK _ _ _ (evB (Mm (n - 1)) b__law_valid_L1 [T, .int kinds, .int md, .int _, .int a2] m) = _
    rw [t _ _ .no]
    by_cases h3 : md < a2
    · rw [if_pos h3, if_pos (.inr (.inr h3))]; rfl
    rw [if_neg h3, turn_nx, loop_nil, if_neg (show ¬ (md < a0 ∨ md < a1 ∨ md < a2) by omega)]
    have : (0 : Int) + (if 0 < a0 then 1 else 0) + (if 0 < a1 then 1 else 0) + (if 0 < a2 then 1 else 0) = posN a0 a1 a2 := by unfold posN; rw [Int.zero_add]
    rw [this]
  have lp := lp []
  by_cases c1 : md < a0 ∨ md < a1 ∨ md < a2
  · rw [if_pos c1] at lp
    have q : lawOk a0 a1 a2 a3 a4 a5 a6 a7 kinds md = false := by
      unfold lawOk
      rw [decide_eq_false (p := a0 ≤ md ∧ _) (by omega)]
      rfl
    rw [q]
    simp [b__law_valid, gt, rt, sl, lp]
  rw [if_neg c1] at lp
  have q4 : lawOk a0 a1 a2 a3 a4 a5 a6 a7 kinds md = (decide (a3 ≤ posN a0 a1 a2) && decide (a4 ≤ 1000000000000 ∧ a6 ≤ 1000000000000) && decide (a5 < kinds ∧ a7 ≤ 1000000)) := by
    unfold lawOk
    rw [decide_eq_true (p := a0 ≤ md ∧ _) (by omega)]
    rfl
  rw [q4]
  clear q4 t
  generalize posN a0 a1 a2 = L at *
  by_cases c3 : L < a3
  · have : ¬ a3 ≤ L := by omega
    simp [b__law_valid, gt, rt, sl, lp, i3, c3, this]
  have c3' : a3 ≤ L := by omega
  by_cases c4 : 1000000000000 < a4
  · have : ¬ a4 ≤ 1000000000000 := by omega
    simp [b__law_valid, gt, rt, sl, lp, i3, c3, c3', i4, c4, this]
  have c4' : a4 ≤ 1000000000000 := by omega
  by_cases c6 : 1000000000000 < a6
  · have : ¬ a6 ≤ 1000000000000 := by omega
    simp [b__law_valid, gt, rt, sl, lp, i3, c3, c3', i4, c4, c4', i6, c6, this]
  have c6' : a6 ≤ 1000000000000 := by omega
  by_cases c5 : a5 < kinds
  · simp [b__law_valid, gt, rt, sl, lp, i3, c3, c3', i4, c4, c4', i6, c6, c6', i5, c5, i7]
  · simp [b__law_valid, gt, rt, sl, lp, i3, c3, c3', i4, c4, c4', i6, c6, c6', i5, c5, i7]
theorem w_lock_of (hn : 2 ≤ n) {md : Int} (h1 : 0 < md) (h2 : md ≤ 2305843009213693951) (key : Int) : pur (Ph n F_lock_of) [slD md, .int key] m = .ok (.int (sealV md [7, key] + 1)) m := by
  refine pur_ok rfl ?_ rfl
  rw [go_lock_of (by omega)]
  have e1 := fun m => w_seal (n := n - 1) (m := m) (by omega) h1 h2 (l := [7, key]) (by simp)
  simp only [List.map_cons, List.map_nil] at e1
  have g := pick_seal md
  generalize hS : slD md = SL at *
  have gt : gV (some SL) = some SL := by rw [← hS]; rfl
  have rt : ∀ m, res m SL = SL := fun m => by rw [← hS]; rfl
  simp [b_lock_of, gt, rt, g, e1]
theorem w_is_enough (hn : 1 ≤ n) {a0 a1 a2 a3 a4 a5 a6 a7 e w : Int} {W : List D} (hw : idxD (.tup W) (.int a5) = some (.int w)) (hp : pureL W = true) : pur (Ph n F_is_enough) [.tup [.int a0, .int a1, .int a2, .int a3, .int a4, .int a5, .int a6, .int a7], .tup W, .int e] m = .ok (.bl (decide (a7 ≤ e) || decide (a6 ≤ w))) m := by
  refine pur_ok (by show (true && (pureL W && true)) = true; rw [hp]; rfl) ?_ rfl
  rw [go_is_enough (by omega)]
  generalize hT : D.tup [.int a0, .int a1, .int a2, .int a3, .int a4, .int a5, .int a6, .int a7] = T
  have i5 : idxD T (.int 5) = some (.int a5) := by rw [← hT]; rfl
  have i6 : idxD T (.int 6) = some (.int a6) := by rw [← hT]; rfl
  have i7 : idxD T (.int 7) = some (.int a7) := by rw [← hT]; rfl
  have gt : gV (some T) = some T := by rw [← hT]; rfl
  have rt : ∀ m, res m T = T := fun m => by rw [← hT]; rfl
  clear hT
  generalize hW : D.tup W = TW at *
  have gt2 : gV (some TW) = some TW := by rw [← hW]; rfl
  have rt2 : ∀ m, res m TW = TW := fun m => by rw [← hW]; rfl
  by_cases c : a7 ≤ e
  · simp [b_is_enough, gt, rt, i7, c]
  · simp [b_is_enough, gt, rt, i7, c, i5, i6, gt2, rt2, hw]
theorem w_new_account (hn : 1 ≤ n) {k : Nat} (hk : k ≤ 1000) {nm : Str} {L : List D} (hp : pureL L = true) : pur (Ph n F_new_account) [.str nm, .int k, .tup L] m = .ok (.tup [.str (PySem.Str.ofString "leaf"), .str nm, .tup ((List.replicate k (0 : Int)).map D.int), .tup L]) m := by
  have e := ints_pure (List.replicate k (0 : Int))
  have hp2 : pureL L = true := hp
  refine pur_ok (by show (true && (true && (pureL L && true))) = true; rw [hp]; rfl) ?_ (by show (true && (true && ((D.tup ((List.replicate k (0 : Int)).map D.int)).pure && (pureL L && true)))) = true; rw [e, hp]; rfl)
  rw [go_new_account (by omega)]
  have e1 : cmpK1 (Mm (n - 1)) (.one 3) [3] none b_new_account_C1 [.str nm, .int k, .tup L, .no] (.ok (rangeD 0 k, none) []) = .ok (.lst ((List.range k).map fun _ => D.int 0)) [] :=
    cmp_range (fun _ => D.int 0) (fun i hi => by simp [b_new_account_C1]) (by omega)
  have e2 : ((List.range k).map fun _ => D.int 0) = (List.replicate k (0 : Int)).map D.int := by
    rw [List.map_replicate]
    exact List.ext_getElem (by simp) fun i h1 h2 => by simp
  rw [e2] at e1
  have f1 : (k : Int) < 4611686018427387904 := by omega
  simp [b_new_account, b_new_account_K1, f1, e1]
end
end SG
end

noncomputable section
namespace SG
open PySem L2 GS
section
/-! ### one turn of the law -/
def Bs : List S := b_law_v6_L1
theorem row24 {l : List Int} (h : l.length = 24) : ∃ u0 u1 u2 u3 u4 u5 u6 u7 u8 u9 u10 u11 u12 u13 u14 u15 u16 u17 u18 u19 u20 u21 u22 u23 : Int, l = [u0, u1, u2, u3, u4, u5, u6, u7, u8, u9, u10, u11, u12, u13, u14, u15, u16, u17, u18, u19, u20, u21, u22, u23] := by
  match l, h with
  | [u0, u1, u2, u3, u4, u5, u6, u7, u8, u9, u10, u11, u12, u13, u14, u15, u16, u17, u18, u19, u20, u21, u22, u23], _ => exact ⟨_, _, _, _, _, _, _, _, _, _, _, _, _, _, _, _, _, _, _, _, _, _, _, _, rfl⟩
def nt (a0 a1 a2 a3 a4 a5 a6 a7 : Int) : List D := [.int a0, .int a1, .int a2, .int a3, .int a4, .int a5, .int a6, .int a7]
variable {ns : List Int} {md : Nat} {k : Nat} {m : List Cell} {x4 x5 x6 x7 x8 x9 x10 x11 : D}
/-- the drawing -/
theorem p1 (hm : 3 ≤ md) : ∃ (row : List Int), row.length = 24 ∧ inRow row ∧ ∃ a0 a1 a2 a3 a4 a5 a6 a7 : Int, ∀ m, evB (Mm 100) (Bs.take 5) [.scr ns, .int md, slD md, .int k, x4, x5, x6, x7, x8, x9, x10, x11] m =
    .nx [.scr ns, .int md, slD md, .int k, .lst (row.map D.int), .int (1 + row.getD 20 0 % 3), .obj (m.length + 1), x7, x8, x9, x10, x11] (m ++ [.lst [.int a0, .int a1, .int a2], .lst (nt a0 a1 a2 a3 a4 a5 a6 a7)]) := by
  obtain ⟨row, h1, h2, e1⟩ := w_law_numbers_v2 (n := 100) (by omega) (cellN ns k) (k := 24) (by omega)
  refine ⟨row, h1, h2, ?_⟩
  obtain ⟨u0, u1, u2, u3, u4, u5, u6, u7, u8, u9, u10, u11, u12, u13, u14, u15, u16, u17, u18, u19, u20, u21, u22, u23, rfl⟩ := row24 h1
  refine ⟨nearV u0 u1 md, nearV u2 u3 md, nearV u4 u5 md, u6 % 5, nearV u7 u8 1000000000000, u9 % 4, nearV u10 u11 1000000000000, nearV u12 u13 1000000, fun m => ?_⟩
  have e0 := fun m => w_law_cell_v2 (n := 100) (m := m) (ns := ns) (k := k) (by omega)
  have n1 := fun m u0 u1 => w_law_near (n := 100) (m := m) (by omega) (r0 := u0) (r1 := u1) (b := md) (by omega)
  have n2 := fun m u0 u1 => w_law_near (n := 100) (m := m) (by omega) (r0 := u0) (r1 := u1) (b := 1000000000000) (by omega)
  have n3 := fun m u0 u1 => w_law_near (n := 100) (m := m) (by omega) (r0 := u0) (r1 := u1) (b := 1000000) (by omega)
  have e1 := fun m => e1 m
  simp only [List.map_cons, List.map_nil] at e1
  have g : gV (some (slD md)) = some (slD md) := rfl
  generalize slD md = SL at *
  generalize nearV = nv at *
  push_cast at e1
  generalize hR : D.lst [.int u0, .int u1, .int u2, .int u3, .int u4, .int u5, .int u6, .int u7, .int u8, .int u9, .int u10, .int u11, .int u12, .int u13, .int u14, .int u15, .int u16, .int u17, .int u18, .int u19, .int u20, .int u21, .int u22, .int u23] = R at *
  have s0 : slcD R (some 0) (some 2) = some (.lst [.int u0, .int u1]) := by rw [← hR]; rfl
  have s2 : slcD R (some 2) (some 4) = some (.lst [.int u2, .int u3]) := by rw [← hR]; rfl
  have s4 : slcD R (some 4) (some 6) = some (.lst [.int u4, .int u5]) := by rw [← hR]; rfl
  have s7 : slcD R (some 7) (some 9) = some (.lst [.int u7, .int u8]) := by rw [← hR]; rfl
  have s10 : slcD R (some 10) (some 12) = some (.lst [.int u10, .int u11]) := by rw [← hR]; rfl
  have s12 : slcD R (some 12) (some 14) = some (.lst [.int u12, .int u13]) := by rw [← hR]; rfl
  have i6 : idxD R (.int 6) = some (.int u6) := by rw [← hR]; rfl
  have i9 : idxD R (.int 9) = some (.int u9) := by rw [← hR]; rfl
  have i20 : idxD R (.int 20) = some (.int u20) := by rw [← hR]; rfl
  have gR : gV (some R) = some R := by rw [← hR]; rfl
  have rR : ∀ m, res m R = R := fun m => by rw [← hR]; rfl
  simp only [List.map_cons, List.map_nil]
  rw [hR]
  clear hR
  simp [Bs, b_law_v6_L1, e0, e1, n1, n2, n3, nt, s0, s2, s4, s7, s10, s12, i6, i9, i20, gR, rR, g, List.getElem?_append_right, List.set_append_right]
end
end SG
end

noncomputable section
namespace SG
open PySem L2 GS
section
variable {ns : List Int} {md : Nat} {k : Nat} {m : List Cell} {x4 x5 x6 x7 x8 x9 x10 x11 : D}
theorem p2c {j : Nat} {K a0 a1 a2 a3 a4 a5 a6 a7 : Int} {R SL : D} (hm : 3 ≤ md) (hK : 1 ≤ K) (hj : m[j]? = some (.lst (nt a0 a1 a2 a3 a4 a5 a6 a7))) : 
    cmpK1 (Mm 100) (.one 11) [11] none b_law_v6_C1 [.scr ns, .int md, SL, .int k, R, .int K, .obj j, x7, x8, x9, x10, x11] (.ok (rangeD 0 8, none) m) = .ok (.lst (nt (a0 % ((md : Int) + 1)) (a1 % ((md : Int) + 1)) (a2 % ((md : Int) + 1)) (a3 % 4) (a4 % 1000000000000) (a5 % K) (a6 % 1000000000000) (a7 % 1000000))) m := by
  have hm1 : (0 : Int) < (md : Int) + 1 := by omega
  have hK1 : 0 < K := by omega
  exact cmp_range (fun i => (nt (a0 % ((md : Int) + 1)) (a1 % ((md : Int) + 1)) (a2 % ((md : Int) + 1)) (a3 % 4) (a4 % 1000000000000) (a5 % K) (a6 % 1000000000000) (a7 % 1000000)).getD i .no) (fun i hi => by
    unfold nt at hj ⊢
    match i, hi with
    | 0, _ => simp [b_law_v6_C1, hj, hm1]
    | 1, _ => simp [b_law_v6_C1, hj, hm1]
    | 2, _ => simp [b_law_v6_C1, hj, hm1]
    | 3, _ => simp [b_law_v6_C1, hj]
    | 4, _ => simp [b_law_v6_C1, hj]
    | 5, _ => simp [b_law_v6_C1, hj, hK1]
    | 6, _ => simp [b_law_v6_C1, hj]
    | 7, _ => simp [b_law_v6_C1, hj]) (by omega)
theorem p2a {j : Nat} {K : Int} {R SL : D} {u21 a0 a1 a2 a3 a4 a5 a6 a7 : Int} (hm : 3 ≤ md) (hK : 1 ≤ K) (hR : R = .lst [] ∨ True) (i21 : idxD R (.int 21) = some (.int u21)) (gR : gV (some R) = some R) (rR : ∀ m, res m R = R) (gS : gV (some SL) = some SL) (hj : m[j]? = some (.lst (nt a0 a1 a2 a3 a4 a5 a6 a7))) :
    ∃ (b0 b1 b2 b3 b4 b5 b6 b7 : Int) (j' : Nat) (m' : List Cell), evB (Mm 100) ((Bs.drop 5).take 1) [.scr ns, .int md, SL, .int k, R, .int K, .obj j, x7, x8, x9, x10, x11] m = .nx [.scr ns, .int md, SL, .int k, R, .int K, .obj j', x7, x8, x9, x10, x11] m' ∧ m'[j']? = some (.lst (nt b0 b1 b2 b3 b4 b5 b6 b7)) := by
  by_cases c : u21 % 3 = 0
  · refine ⟨a0, a1, a2, a3, a4, a5, a6, a7, j, m, ?_, hj⟩
    simp [Bs, b_law_v6_L1, i21, gR, rR, c]
  · have e := p2c (ns := ns) (k := k) (x7 := x7) (x8 := x8) (x9 := x9) (x10 := x10) (x11 := x11) (R := R) (SL := SL) hm hK hj
    refine ⟨_, _, _, _, _, _, _, _, m.length, m ++ [.lst (nt (a0 % ((md : Int) + 1)) (a1 % ((md : Int) + 1)) (a2 % ((md : Int) + 1)) (a3 % 4) (a4 % 1000000000000) (a5 % K) (a6 % 1000000000000) (a7 % 1000000))], ?_, by rw [List.getElem?_append_right (by omega)]; simp; rfl⟩
    simp [Bs, b_law_v6_L1, b_law_v6_K1, i21, gR, rR, c, e]
theorem p2b {j : Nat} {K : Int} {R SL : D} {u22 u23 a0 a1 a2 a3 a4 a5 a6 a7 : Int} (i22 : idxD R (.int 22) = some (.int u22)) (i23 : idxD R (.int 23) = some (.int u23)) (gR : gV (some R) = some R) (rR : ∀ m, res m R = R) (gS : gV (some SL) = some SL) (hj : m[j]? = some (.lst (nt a0 a1 a2 a3 a4 a5 a6 a7))) :
    ∃ (b0 b1 b2 b3 b4 b5 b6 b7 : Int) (m' : List Cell), evB (Mm 100) ((Bs.drop 6).take 1) [.scr ns, .int md, SL, .int k, R, .int K, .obj j, x7, x8, x9, x10, x11] m = .nx [.scr ns, .int md, SL, .int k, R, .int K, .obj j, x7, x8, x9, x10, x11] m' ∧ m'[j]? = some (.lst (nt b0 b1 b2 b3 b4 b5 b6 b7)) := by
  by_cases c : u22 % 9 = 4
  · have hl := (List.getElem?_eq_some_iff.mp hj).1
    have fin : ∀ l : List D, (m.set j (.lst l))[j]? = some (.lst l) := fun l => by simp [hl]
    unfold nt at hj ⊢
    have hc : u23 % 8 = 0 ∨ u23 % 8 = 1 ∨ u23 % 8 = 2 ∨ u23 % 8 = 3 ∨ u23 % 8 = 4 ∨ u23 % 8 = 5 ∨ u23 % 8 = 6 ∨ u23 % 8 = 7 := by omega
    rcases hc with h | h | h | h | h | h | h | h
    · exact ⟨-1 - u22, a1, a2, a3, a4, a5, a6, a7, m.set j (.lst [.int (-1 - u22), .int a1, .int a2, .int a3, .int a4, .int a5, .int a6, .int a7]), by simp [Bs, b_law_v6_L1, i22, i23, gR, rR, c, h, putItem, hj, ixN], fin _⟩
    · exact ⟨a0, -1 - u22, a2, a3, a4, a5, a6, a7, m.set j (.lst [.int a0, .int (-1 - u22), .int a2, .int a3, .int a4, .int a5, .int a6, .int a7]), by simp [Bs, b_law_v6_L1, i22, i23, gR, rR, c, h, putItem, hj, ixN], fin _⟩
    · exact ⟨a0, a1, -1 - u22, a3, a4, a5, a6, a7, m.set j (.lst [.int a0, .int a1, .int (-1 - u22), .int a3, .int a4, .int a5, .int a6, .int a7]), by simp [Bs, b_law_v6_L1, i22, i23, gR, rR, c, h, putItem, hj, ixN], fin _⟩
    · exact ⟨a0, a1, a2, -1 - u22, a4, a5, a6, a7, m.set j (.lst [.int a0, .int a1, .int a2, .int (-1 - u22), .int a4, .int a5, .int a6, .int a7]), by simp [Bs, b_law_v6_L1, i22, i23, gR, rR, c, h, putItem, hj, ixN], fin _⟩
    · exact ⟨a0, a1, a2, a3, -1 - u22, a5, a6, a7, m.set j (.lst [.int a0, .int a1, .int a2, .int a3, .int (-1 - u22), .int a5, .int a6, .int a7]), by simp [Bs, b_law_v6_L1, i22, i23, gR, rR, c, h, putItem, hj, ixN], fin _⟩
    · exact ⟨a0, a1, a2, a3, a4, -1 - u22, a6, a7, m.set j (.lst [.int a0, .int a1, .int a2, .int a3, .int a4, .int (-1 - u22), .int a6, .int a7]), by simp [Bs, b_law_v6_L1, i22, i23, gR, rR, c, h, putItem, hj, ixN], fin _⟩
    · exact ⟨a0, a1, a2, a3, a4, a5, -1 - u22, a7, m.set j (.lst [.int a0, .int a1, .int a2, .int a3, .int a4, .int a5, .int (-1 - u22), .int a7]), by simp [Bs, b_law_v6_L1, i22, i23, gR, rR, c, h, putItem, hj, ixN], fin _⟩
    · exact ⟨a0, a1, a2, a3, a4, a5, a6, -1 - u22, m.set j (.lst [.int a0, .int a1, .int a2, .int a3, .int a4, .int a5, .int a6, .int (-1 - u22)]), by simp [Bs, b_law_v6_L1, i22, i23, gR, rR, c, h, putItem, hj, ixN], fin _⟩
  · refine ⟨a0, a1, a2, a3, a4, a5, a6, a7, m, ?_, hj⟩
    simp [Bs, b_law_v6_L1, i22, gR, rR, c]
theorem told_eq (a0 a1 a2 a3 a4 a5 a6 a7 K md : Int) : okNt a0 a1 a2 a3 a4 a5 a6 a7 K md = (decide (0 ≤ [a1, a2, a3, a4, a5, a6, a7].foldl min a0) && lawOk a0 a1 a2 a3 a4 a5 a6 a7 K md) := by
  have : (0 ≤ [a1, a2, a3, a4, a5, a6, a7].foldl min a0) ↔ (0 ≤ a0 ∧ 0 ≤ a1 ∧ 0 ≤ a2 ∧ 0 ≤ a3 ∧ 0 ≤ a4 ∧ 0 ≤ a5 ∧ 0 ≤ a6 ∧ 0 ≤ a7) := by
    simp only [List.foldl_cons, List.foldl_nil]
    omega
  unfold okNt lawOk
  rw [show decide (0 ≤ [a1, a2, a3, a4, a5, a6, a7].foldl min a0) = decide (0 ≤ a0 ∧ 0 ≤ a1 ∧ 0 ≤ a2 ∧ 0 ≤ a3 ∧ 0 ≤ a4 ∧ 0 ≤ a5 ∧ 0 ≤ a6 ∧ 0 ≤ a7) from decide_eq_decide.mpr this]
  simp [Bool.and_assoc]
/-- told, and told right -/
theorem p3 {j : Nat} {K : Int} {R SL : D} {a0 a1 a2 a3 a4 a5 a6 a7 : Int} (gR : gV (some R) = some R) (rR : ∀ m, res m R = R) (gS : gV (some SL) = some SL) (hj : m[j]? = some (.lst (nt a0 a1 a2 a3 a4 a5 a6 a7))) :
    evB (Mm 100) ((Bs.drop 7).take 2) [.scr ns, .int md, SL, .int k, R, .int K, .obj j, x7, x8, x9, x10, x11] m = .nx [.scr ns, .int md, SL, .int k, R, .int K, .lst (nt a0 a1 a2 a3 a4 a5 a6 a7), .bl (okNt a0 a1 a2 a3 a4 a5 a6 a7 K md), x8, x9, x10, x11] (m.set j .dead) := by
  have e1 := fun m => w_is_notes (n := 100) (m := m) (by omega) a0 a1 a2 a3 a4 a5 a6 a7 K md
  have e2 := fun m => w_law_valid (n := 100) (m := m) (by omega) a0 a1 a2 a3 a4 a5 a6 a7 K md
  have mn : fnD "min" [.lst (nt a0 a1 a2 a3 a4 a5 a6 a7)] = some (.int ([a1, a2, a3, a4, a5, a6, a7].foldl min a0)) := rfl
  have te := told_eq a0 a1 a2 a3 a4 a5 a6 a7 K md
  have f0 : frzSlot 6 [.scr ns, .int md, SL, .int k, R, .int K, .obj j, .bl (okNt a0 a1 a2 a3 a4 a5 a6 a7 K md), x8, x9, x10, x11] m (some (.obj j)) = some ([.scr ns, .int md, SL, .int k, R, .int K, .lst (nt a0 a1 a2 a3 a4 a5 a6 a7), .bl (okNt a0 a1 a2 a3 a4 a5 a6 a7 K md), x8, x9, x10, x11], m.set j .dead) := by
    simp [frzSlot, hj]
  have tn : tyD "tuple" [.lst (nt a0 a1 a2 a3 a4 a5 a6 a7)] = some (.tup (nt a0 a1 a2 a3 a4 a5 a6 a7)) := rfl
  have is : isD "bool" (.bl (okNt a0 a1 a2 a3 a4 a5 a6 a7 K md)) = some (.bl true) := rfl
  change ∀ m, pur _ [.tup (nt a0 a1 a2 a3 a4 a5 a6 a7), _, _] m = _ at e1
  change ∀ m, pur _ [.lst (nt a0 a1 a2 a3 a4 a5 a6 a7), _, _] m = _ at e2
  generalize okNt a0 a1 a2 a3 a4 a5 a6 a7 K md = OK at *
  generalize lawOk a0 a1 a2 a3 a4 a5 a6 a7 K md = LO at *
  generalize [a1, a2, a3, a4, a5, a6, a7].foldl min a0 = MN at *
  generalize nt a0 a1 a2 a3 a4 a5 a6 a7 = N at *
  by_cases c : 0 ≤ MN
  · rw [decide_eq_true c, Bool.true_and] at te
    subst te
    simp [Bs, b_law_v6_L1, hj, tn, e1, f0, mn, c, e2, is]
  · rw [decide_eq_false c, Bool.false_and] at te
    subst te
    simp [Bs, b_law_v6_L1, hj, tn, e1, f0, mn, c, is]
end
end SG
end

noncomputable section
namespace SG
open PySem L2 GS
section
variable {ns : List Int} {md : Nat} {k : Nat} {m : List Cell} {x4 x5 x6 x7 x8 x9 x10 x11 : D}
/-- the lock -/
theorem p4 {R K N T : D} (hm : 3 ≤ md) (hm2 : md ≤ 2305843009213693951) (gR : gV (some R) = some R) (gN : gV (some N) = some N) (gT : gV (some T) = some T) :
    evB (Mm 100) ((Bs.drop 9).take 2) [.scr ns, .int md, slD md, .int k, R, K, N, T, x8, x9, x10, x11] m = .nx [.scr ns, .int md, slD md, .int k, R, K, N, T, .int (cellN ns k).natAbs, x9, x10, x11] m := by
  have e0 := fun m => w_law_cell_v2 (n := 100) (m := m) (ns := ns) (k := k) (by omega)
  have e1 := fun m => w_lock_of (n := 100) (m := m) (md := md) (by omega) (by omega) (by omega) (cellN ns k).natAbs
  have e2 := fun m => w_law_seal (n := 100) (m := m) (md := md) (by omega) (by omega) (by omega) (l := [7, ((cellN ns k).natAbs : Int)]) (by simp)
  simp only [List.map_cons, List.map_nil] at e2
  have gS : gV (some (slD md)) = some (slD md) := rfl
  generalize sealV (md : Int) [7, ((cellN ns k).natAbs : Int)] = V at *
  generalize slD md = SL at *
  simp [Bs, b_law_v6_L1, e0, e1, e2, gS]
theorem min_sub (a b : Int) : (if b < a then b else a) = min a b := by omega
/-- worths, and whether they are enough -/
theorem p5 {K : Nat} {R SL : D} {row : List Int} {a0 a1 a2 a3 a4 a5 a6 a7 : Int} (hrow : row.length = 24) (hR : R = .lst (row.map D.int)) (hK : 1 ≤ K) (hK3 : K ≤ 3) (gS : gV (some SL) = some SL) :
    ∃ W : List Int, W.length = K ∧ ∀ m, evB (Mm 100) [.asg 9 (.ty "tuple" [b_law_v6_K2]), .ite (.cmp .Eq (.bin .Mod (.idx (.var 4) (.int 22)) (.int 2)) (.int 0)) [.asg 9 (.ty "tuple" [b_law_v6_K3])] []] [.scr ns, .int md, SL, .int k, R, .int K, .lst (nt a0 a1 a2 a3 a4 a5 a6 a7), x7, x8, x9, x10, x11] m =
      .nx [.scr ns, .int md, SL, .int k, R, .int K, .lst (nt a0 a1 a2 a3 a4 a5 a6 a7), x7, x8, .tup (W.map D.int), x10, x11] m := by
  obtain ⟨u0, u1, u2, u3, u4, u5, u6, u7, u8, u9, u10, u11, u12, u13, u14, u15, u16, u17, u18, u19, u20, u21, u22, u23, rfl⟩ := row24 hrow
  have n2 := fun m u0 u1 => w_law_near (n := 100) (m := m) (by omega) (r0 := u0) (r1 := u1) (b := 1000000000000) (by omega)
  generalize nearV = nv at *
  have s0 : slcD R (some 14) (some 16) = some (.lst [.int u14, .int u15]) := by rw [hR]; rfl
  have s1 : slcD R (some 16) (some 18) = some (.lst [.int u16, .int u17]) := by rw [hR]; rfl
  have s2 : slcD R (some 18) (some 20) = some (.lst [.int u18, .int u19]) := by rw [hR]; rfl
  have i22 : idxD R (.int 22) = some (.int u22) := by rw [hR]; rfl
  have i23 : idxD R (.int 23) = some (.int u23) := by rw [hR]; rfl
  have gR : gV (some R) = some R := by rw [hR]; rfl
  have rR : ∀ m, res m R = R := fun m => by rw [hR]; rfl
  clear hR
  have j6 : idxD (.lst (nt a0 a1 a2 a3 a4 a5 a6 a7)) (.int 6) = some (.int a6) := rfl
  have gN : gV (some (.lst (nt a0 a1 a2 a3 a4 a5 a6 a7))) = some (.lst (nt a0 a1 a2 a3 a4 a5 a6 a7)) := rfl
  have rN : ∀ m, res m (.lst (nt a0 a1 a2 a3 a4 a5 a6 a7)) = .lst (nt a0 a1 a2 a3 a4 a5 a6 a7) := fun _ => rfl
  generalize D.lst (nt a0 a1 a2 a3 a4 a5 a6 a7) = N at *
  have hK' : (K : Int) < 4611686018427387904 := by omega
  obtain ⟨W1, l1, e1⟩ : ∃ W1 : List Int, W1.length = K ∧ ∀ m, cmpK1 (Mm 100) (.one 11) [11] none b_law_v6_C2 [.scr ns, .int md, SL, .int k, R, .int K, N, x7, x8, x9, x10, x11] (.ok (rangeD 0 K, none) m) = .ok (.lst (W1.map D.int)) m := by
    let g : Nat → Int := fun i => [min 1000000000000 (nv u14 u15 1000000000000), min 1000000000000 (nv u16 u17 1000000000000), min 1000000000000 (nv u18 u19 1000000000000)].getD i 0
    refine ⟨(List.range K).map g, by simp, fun m => ?_⟩
    rw [List.map_map]
    refine cmp_range (D.int ∘ g) (fun i hi => ?_) (by omega)
    have hi3 : i < 3 := by omega
    match i, hi3 with
    | 0, _ => simp [b_law_v6_C2, gR, rR, s0, n2, g, min_sub]
    | 1, _ => simp [b_law_v6_C2, gR, rR, s1, n2, g, min_sub]
    | 2, _ => simp [b_law_v6_C2, gR, rR, s2, n2, g, min_sub]
  have t1 : tyD "tuple" [.lst (W1.map D.int)] = some (.tup (W1.map D.int)) := rfl
  by_cases c : u22 % 2 = 0
  · obtain ⟨W2, l2, e2⟩ : ∃ W2 : List Int, W2.length = K ∧ ∀ m x9, cmpK1 (Mm 100) (.one 11) [11] none b_law_v6_C3 [.scr ns, .int md, SL, .int k, R, .int K, N, x7, x8, x9, x10, x11] (.ok (rangeD 0 K, none) m) = .ok (.lst (W2.map D.int)) m := by
      refine ⟨(List.range K).map fun _ => min 1000000000000 (max 0 (a6 + u23 % 3 - 1)), by simp, fun m x9 => ?_⟩
      rw [List.map_map]
      refine cmp_range (D.int ∘ fun _ => min 1000000000000 (max 0 (a6 + u23 % 3 - 1))) (fun i hi => ?_) (by omega)
      simp [b_law_v6_C3, gR, rR, i23, j6, gN, rN, min_sub]
      omega
    have t2 : tyD "tuple" [.lst (W2.map D.int)] = some (.tup (W2.map D.int)) := rfl
    refine ⟨W2, l2, fun m => ?_⟩
    generalize W1.map D.int = L1 at *
    generalize W2.map D.int = L2 at *
    simp [b_law_v6_K2, b_law_v6_K3, hK', e1, t1, gR, rR, i22, c, e2, t2]
  · refine ⟨W1, l1, fun m => ?_⟩
    generalize W1.map D.int = L1 at *
    simp [b_law_v6_K2, b_law_v6_K3, hK', e1, t1, gR, rR, i22, c]
end
end SG
end

noncomputable section
namespace SG
open PySem L2 GS
section
variable {ns : List Int} {md : Nat} {k : Nat} {m : List Cell} {x4 x5 x6 x7 x8 x9 x10 x11 : D}
theorem eqB_lf (L1 L2 : List Int) : eqB (.tup [.str (PySem.Str.ofString "leaf"), .str (PySem.Str.ofString "ab"), .tup (L1.map D.int), .tup (L2.map D.int)]) (.tup [.str (PySem.Str.ofString "leaf"), .str (PySem.Str.ofString "ab"), .tup (L1.map D.int), .tup (L2.map D.int)]) = some true := by
  have d : (toPy (.tup [.str (PySem.Str.ofString "leaf"), .str (PySem.Str.ofString "ab"), .tup (L1.map D.int), .tup (L2.map D.int)])).depth ≤ 64 := by
    simp [toPy, toPyL, PyData.depth, PyData.depthAll, ints_depth]
  have p : (D.tup [.str (PySem.Str.ofString "leaf"), .str (PySem.Str.ofString "ab"), .tup (L1.map D.int), .tup (L2.map D.int)]).plain = true := by
    have s1 : PyData.strOk (PySem.Str.ofString "leaf") = true := by decide +kernel
    have s2 : PyData.strOk (PySem.Str.ofString "ab") = true := by decide +kernel
    simp [D.plain, plainL, ints_plain, s1, s2]
  rw [eqB_plain p p d d, cd_pos rfl]
/-- what is told of notes that are valid -/
theorem p6 {K : Nat} {R SL : D} {u20 u22 u23 : Int} {W : List Int} {a0 a1 a2 a3 a4 a5 a6 a7 : Int} (i22 : idxD R (.int 22) = some (.int u22)) (i23 : idxD R (.int 23) = some (.int u23)) (gR : gV (some R) = some R) (rR : ∀ m, res m R = R) (gS : gV (some SL) = some SL)
    (hK : 1 ≤ K) (hK3 : K ≤ 3) (hW : W.length = K) (h5 : 0 ≤ a5) (h5' : a5 < K) : ∃ y10 x11', evB (Mm 100) [
    .asg 10 (.idx (.lst [.idx (.var 6) (.int 7), .bin .Add (.idx (.var 6) (.int 7)) (.int 1), .fn "max" [.int 0, .bin .Sub (.idx (.var 6) (.int 7)) (.int 1)], .idx (.var 4) (.int 23)]) (.bin .Mod (.ty "int" [.idx (.var 4) (.int 22)]) (.int 4))),
    .ite (.cmp .NotEq (.call true F_is_enough [.ty "tuple" [.var 6], .var 9, .var 10]) (.or [.cmp .GtE (.var 10) (.idx (.var 6) (.int 7)), .cmp .GtE (.idx (.var 9) (.idx (.var 6) (.int 5))) (.idx (.var 6) (.int 6))]))
    [.ret (.bl false)]
    [],
    .ite (.cmp .NotEq (.call true F_new_account [.str (PySem.Str.ofString "ab"), .var 5, .ty "tuple" [.var 6]]) (.tup [.str (PySem.Str.ofString "leaf"), .str (PySem.Str.ofString "ab"), .ty "tuple" [.bin .Mult (.lst [.int 0]) (.var 5)], .ty "tuple" [.var 6]]))
    [.ret (.bl false)]
    []] [.scr ns, .int md, SL, .int k, R, .int K, .lst (nt a0 a1 a2 a3 a4 a5 a6 a7), x7, x8, .tup (W.map D.int), x10, x11] m =
      .nx [.scr ns, .int md, SL, .int k, R, .int K, .lst (nt a0 a1 a2 a3 a4 a5 a6 a7), x7, x8, .tup (W.map D.int), y10, x11'] m := by
  obtain ⟨w, hw⟩ : ∃ w, W[a5.toNat]? = some w := ⟨W[a5.toNat]'(by omega), List.getElem?_eq_getElem _⟩
  have hw' : idxD (.tup (W.map D.int)) (.int a5) = some (.int w) := by
    rw [idx_tup, atI_pos h5, List.getElem?_map, hw]; rfl
  have e1 := fun m e => w_is_enough (n := 100) (m := m) (e := e) (by omega) (a0 := a0) (a1 := a1) (a2 := a2) (a3 := a3) (a4 := a4) (a6 := a6) (a7 := a7) hw' (ints_pure W)
  change ∀ m e, pur _ [.tup (nt a0 a1 a2 a3 a4 a5 a6 a7), _, _] m = _ at e1
  have e2 := fun m => w_new_account (n := 100) (m := m) (by omega) (k := K) (by omega) (nm := PySem.Str.ofString "ab") (L := nt a0 a1 a2 a3 a4 a5 a6 a7) rfl
  have nn : nt a0 a1 a2 a3 a4 a5 a6 a7 = [a0, a1, a2, a3, a4, a5, a6, a7].map D.int := rfl
  have eq := eqB_lf (List.replicate K 0) [a0, a1, a2, a3, a4, a5, a6, a7]
  rw [← nn] at eq
  have tn : tyD "tuple" [.lst (nt a0 a1 a2 a3 a4 a5 a6 a7)] = some (.tup (nt a0 a1 a2 a3 a4 a5 a6 a7)) := rfl
  have tz : tyD "tuple" [.lst (List.replicate K (D.int 0))] = some (.tup ((List.replicate K (0 : Int)).map D.int)) := by
    show some (D.tup _) = some (D.tup _)
    rw [List.map_replicate]
  have j5 : idxD (.lst (nt a0 a1 a2 a3 a4 a5 a6 a7)) (.int 5) = some (.int a5) := rfl
  have j6 : idxD (.lst (nt a0 a1 a2 a3 a4 a5 a6 a7)) (.int 6) = some (.int a6) := rfl
  have j7 : idxD (.lst (nt a0 a1 a2 a3 a4 a5 a6 a7)) (.int 7) = some (.int a7) := rfl
  have gN : gV (some (.lst (nt a0 a1 a2 a3 a4 a5 a6 a7))) = some (.lst (nt a0 a1 a2 a3 a4 a5 a6 a7)) := rfl
  have rN : ∀ m, res m (.lst (nt a0 a1 a2 a3 a4 a5 a6 a7)) = .lst (nt a0 a1 a2 a3 a4 a5 a6 a7) := fun _ => rfl
  have gW : gV (some (.tup (W.map D.int))) = some (.tup (W.map D.int)) := rfl
  have rW : ∀ m, res m (.tup (W.map D.int)) = .tup (W.map D.int) := fun _ => rfl
  have rT : ∀ m, res m (.tup (nt a0 a1 a2 a3 a4 a5 a6 a7)) = .tup (nt a0 a1 a2 a3 a4 a5 a6 a7) := fun _ => rfl
  have rZ : ∀ m, res m (.tup ((List.replicate K (0 : Int)).map D.int)) = .tup ((List.replicate K (0 : Int)).map D.int) := fun _ => rfl
  have hK' : (K : Int) < 1048576 := by omega
  have hK2 : K ≤ 16777216 := by omega
  clear nn
  generalize D.lst (nt a0 a1 a2 a3 a4 a5 a6 a7) = N at *
  generalize D.tup (nt a0 a1 a2 a3 a4 a5 a6 a7) = NT at *
  generalize D.tup (W.map D.int) = TW at *
  generalize D.tup ((List.replicate K (0 : Int)).map D.int) = TZ at *
  have c : u22 % 4 = 0 ∨ u22 % 4 = 1 ∨ u22 % 4 = 2 ∨ u22 % 4 = 3 := by omega
  have fin : ∀ e : Int, ((decide (a7 ≤ e) || decide (a6 ≤ w)) = (if a7 ≤ e then true else decide (a6 ≤ w))) := fun e => by by_cases q : a7 ≤ e <;> simp [q]
  have main : ∀ e : Int, ∃ x11', evB (Mm 100) [
    .ite (.cmp .NotEq (.call true F_is_enough [.ty "tuple" [.var 6], .var 9, .var 10]) (.or [.cmp .GtE (.var 10) (.idx (.var 6) (.int 7)), .cmp .GtE (.idx (.var 9) (.idx (.var 6) (.int 5))) (.idx (.var 6) (.int 6))]))
    [.ret (.bl false)]
    [],
    .ite (.cmp .NotEq (.call true F_new_account [.str (PySem.Str.ofString "ab"), .var 5, .ty "tuple" [.var 6]]) (.tup [.str (PySem.Str.ofString "leaf"), .str (PySem.Str.ofString "ab"), .ty "tuple" [.bin .Mult (.lst [.int 0]) (.var 5)], .ty "tuple" [.var 6]]))
    [.ret (.bl false)]
    []] [.scr ns, .int md, SL, .int k, R, .int K, N, x7, x8, TW, .int e, x11] m =
      .nx [.scr ns, .int md, SL, .int k, R, .int K, N, x7, x8, TW, .int e, x11'] m := fun e => by
    refine ⟨x11, ?_⟩
    by_cases q : a7 ≤ e
    · simp [e1, tn, gN, rN, gW, rW, q, j7, e2, tz, hK', hK2, eq, rT, rZ]
    · simp [e1, tn, gN, rN, gW, rW, q, j7, j5, j6, hw', e2, tz, hK', hK2, eq, rT, rZ]
  rcases c with c | c | c | c
  · obtain ⟨z, h⟩ := main a7
    refine ⟨.int a7, z, ?_⟩
    rw [b_cons]
    have : evS (Mm 100) (.asg 10 (.idx (.lst [.idx (.var 6) (.int 7), .bin .Add (.idx (.var 6) (.int 7)) (.int 1), .fn "max" [.int 0, .bin .Sub (.idx (.var 6) (.int 7)) (.int 1)], .idx (.var 4) (.int 23)]) (.bin .Mod (.ty "int" [.idx (.var 4) (.int 22)]) (.int 4)))) [.scr ns, .int md, SL, .int k, R, .int K, N, x7, x8, TW, x10, x11] m = .nx [.scr ns, .int md, SL, .int k, R, .int K, N, x7, x8, TW, .int a7, x11] m := by
      simp [gN, rN, j7, gR, rR, i22, i23, c]
    rw [this, seqB_nx]
    exact h
  · obtain ⟨z, h⟩ := main (a7 + 1)
    refine ⟨.int (a7 + 1), z, ?_⟩
    rw [b_cons]
    have : evS (Mm 100) (.asg 10 (.idx (.lst [.idx (.var 6) (.int 7), .bin .Add (.idx (.var 6) (.int 7)) (.int 1), .fn "max" [.int 0, .bin .Sub (.idx (.var 6) (.int 7)) (.int 1)], .idx (.var 4) (.int 23)]) (.bin .Mod (.ty "int" [.idx (.var 4) (.int 22)]) (.int 4)))) [.scr ns, .int md, SL, .int k, R, .int K, N, x7, x8, TW, x10, x11] m = .nx [.scr ns, .int md, SL, .int k, R, .int K, N, x7, x8, TW, .int (a7 + 1), x11] m := by
      simp [gN, rN, j7, gR, rR, i22, i23, c]
    rw [this, seqB_nx]
    exact h
  · obtain ⟨z, h⟩ := main (if 1 < a7 then a7 - 1 else 0)
    refine ⟨.int (if 1 < a7 then a7 - 1 else 0), z, ?_⟩
    rw [b_cons]
    have : evS (Mm 100) (.asg 10 (.idx (.lst [.idx (.var 6) (.int 7), .bin .Add (.idx (.var 6) (.int 7)) (.int 1), .fn "max" [.int 0, .bin .Sub (.idx (.var 6) (.int 7)) (.int 1)], .idx (.var 4) (.int 23)]) (.bin .Mod (.ty "int" [.idx (.var 4) (.int 22)]) (.int 4)))) [.scr ns, .int md, SL, .int k, R, .int K, N, x7, x8, TW, x10, x11] m = .nx [.scr ns, .int md, SL, .int k, R, .int K, N, x7, x8, TW, .int (if 1 < a7 then a7 - 1 else 0), x11] m := by
      simp [gN, rN, j7, gR, rR, i22, i23, c]
    rw [this, seqB_nx]
    exact h
  · obtain ⟨z, h⟩ := main u23
    refine ⟨.int u23, z, ?_⟩
    rw [b_cons]
    have : evS (Mm 100) (.asg 10 (.idx (.lst [.idx (.var 6) (.int 7), .bin .Add (.idx (.var 6) (.int 7)) (.int 1), .fn "max" [.int 0, .bin .Sub (.idx (.var 6) (.int 7)) (.int 1)], .idx (.var 4) (.int 23)]) (.bin .Mod (.ty "int" [.idx (.var 4) (.int 22)]) (.int 4)))) [.scr ns, .int md, SL, .int k, R, .int K, N, x7, x8, TW, x10, x11] m = .nx [.scr ns, .int md, SL, .int k, R, .int K, N, x7, x8, TW, .int u23, x11] m := by
      simp [gN, rN, j7, gR, rR, i22, i23, c]
    rw [this, seqB_nx]
    exact h
end
end SG
end

noncomputable section
namespace SG
open PySem L2 GS
section
variable {ns : List Int} {md : Nat}
theorem body_split : Bs = Bs.take 5 ++ ((Bs.drop 5).take 1 ++ ((Bs.drop 6).take 1 ++ ((Bs.drop 7).take 2 ++ ((Bs.drop 9).take 2 ++ Bs.drop 11)))) := rfl
def tailA : List S := [.asg 9 (.ty "tuple" [b_law_v6_K2]), .ite (.cmp .Eq (.bin .Mod (.idx (.var 4) (.int 22)) (.int 2)) (.int 0)) [.asg 9 (.ty "tuple" [b_law_v6_K3])] []]
def tailB : List S := [
    .asg 10 (.idx (.lst [.idx (.var 6) (.int 7), .bin .Add (.idx (.var 6) (.int 7)) (.int 1), .fn "max" [.int 0, .bin .Sub (.idx (.var 6) (.int 7)) (.int 1)], .idx (.var 4) (.int 23)]) (.bin .Mod (.ty "int" [.idx (.var 4) (.int 22)]) (.int 4))),
    .ite (.cmp .NotEq (.call true F_is_enough [.ty "tuple" [.var 6], .var 9, .var 10]) (.or [.cmp .GtE (.var 10) (.idx (.var 6) (.int 7)), .cmp .GtE (.idx (.var 9) (.idx (.var 6) (.int 5))) (.idx (.var 6) (.int 6))]))
    [.ret (.bl false)]
    [],
    .ite (.cmp .NotEq (.call true F_new_account [.str (PySem.Str.ofString "ab"), .var 5, .ty "tuple" [.var 6]]) (.tup [.str (PySem.Str.ofString "leaf"), .str (PySem.Str.ofString "ab"), .ty "tuple" [.bin .Mult (.lst [.int 0]) (.var 5)], .ty "tuple" [.var 6]]))
    [.ret (.bl false)]
    []]
theorem tail_split : Bs.drop 11 = [.ite (.var 7) (tailA ++ tailB) []] := rfl
theorem turn (hm : 3 ≤ md) (hm2 : md ≤ 2305843009213693951) (k : Nat) (x4 x5 x6 x7 x8 x9 x10 x11 : D) (m : List Cell) : ∃ y4 y5 y6 y7 y8 y9 y10 y11 m', evB (Mm 100) Bs [.scr ns, .int md, slD md, .int k, x4, x5, x6, x7, x8, x9, x10, x11] m = .nx [.scr ns, .int md, slD md, .int k, y4, y5, y6, y7, y8, y9, y10, y11] m' := by
  obtain ⟨row, h1, h2, a0, a1, a2, a3, a4, a5, a6, a7, e1⟩ := p1 (ns := ns) (k := k) (x4 := x4) (x5 := x5) (x6 := x6) (x7 := x7) (x8 := x8) (x9 := x9) (x10 := x10) (x11 := x11) hm
  obtain ⟨K, hK1, hK3, hK⟩ : ∃ K : Nat, 1 ≤ K ∧ K ≤ 3 ∧ 1 + row.getD 20 0 % 3 = (K : Int) := ⟨(1 + row.getD 20 0 % 3).toNat, by omega, by omega, by omega⟩
  rw [hK] at e1
  generalize hR : D.lst (row.map D.int) = R at e1
  have hl : ∀ i, i < 24 → idxD R (.int (i : Nat)) = some (.int (row.getD i 0)) := fun i hi => by
    rw [← hR, idx_lst, atI_pos (by omega), Int.toNat_natCast, List.getElem?_map, List.getD_eq_getElem?_getD, List.getElem?_eq_getElem (by omega)]; rfl
  have i21 := hl 21 (by omega)
  have i22 := hl 22 (by omega)
  have i23 := hl 23 (by omega)
  have gR : gV (some R) = some R := by rw [← hR]; rfl
  have rR : ∀ m, res m R = R := fun m => by rw [← hR]; rfl
  have gS : gV (some (slD md)) = some (slD md) := rfl
  have hj : (m ++ [.lst [.int a0, .int a1, .int a2], .lst (nt a0 a1 a2 a3 a4 a5 a6 a7)])[m.length + 1]? = some (.lst (nt a0 a1 a2 a3 a4 a5 a6 a7)) := by
    rw [List.getElem?_append_right (by omega)]; simp
  obtain ⟨b0, b1, b2, b3, b4, b5, b6, b7, j, m1, e2, hj⟩ := p2a (ns := ns) (k := k) (x7 := x7) (x8 := x8) (x9 := x9) (x10 := x10) (x11 := x11) (K := K) hm (by omega) (.inr trivial) i21 gR rR gS hj
  obtain ⟨c0, c1, c2, c3, c4, c5, c6, c7, m2, e3, hj⟩ := p2b (ns := ns) (md := md) (k := k) (x7 := x7) (x8 := x8) (x9 := x9) (x10 := x10) (x11 := x11) (K := K) i22 i23 gR rR gS hj
  have e4 := p3 (ns := ns) (md := md) (k := k) (x7 := x7) (x8 := x8) (x9 := x9) (x10 := x10) (x11 := x11) (K := K) gR rR gS hj
  generalize hOK : okNt c0 c1 c2 c3 c4 c5 c6 c7 K md = OK at *
  have e5 := p4 (ns := ns) (md := md) (k := k) (m := m2.set j .dead) (x8 := x8) (x9 := x9) (x10 := x10) (x11 := x11) (K := .int K) (N := .lst (nt c0 c1 c2 c3 c4 c5 c6 c7)) (T := .bl OK) hm hm2 gR rfl rfl
  rw [body_split, evB_app _ _ (e1 m), evB_app _ _ e2, evB_app _ _ e3, evB_app _ _ e4, evB_app _ _ e5, tail_split]
  cases OK with
  | false =>
    have e9 : evB (Mm 100) [.ite (.var 7) (tailA ++ tailB) []] [.scr ns, .int md, slD md, .int k, R, .int K, .lst (nt c0 c1 c2 c3 c4 c5 c6 c7), .bl false, .int (cellN ns k).natAbs, x9, x10, x11] (m2.set j .dead) = .nx [.scr ns, .int md, slD md, .int k, R, .int K, .lst (nt c0 c1 c2 c3 c4 c5 c6 c7), .bl false, .int (cellN ns k).natAbs, x9, x10, x11] (m2.set j .dead) := by
      show seqB _ [] (iteK _ _ (tailA ++ tailB) [] (.ok (.bl false) _)) = _
      rw [iteK_ok, if_neg (by decide)]
      rfl
    exact ⟨_, _, _, _, _, _, _, _, _, e9⟩
  | true =>
    have h5 : 0 ≤ c5 ∧ c5 < K := by
      unfold okNt at hOK
      simp at hOK
      omega
    obtain ⟨W, hW, e6⟩ := p5 (ns := ns) (md := md) (k := k) (x7 := .bl true) (x8 := .int (cellN ns k).natAbs) (x9 := x9) (x10 := x10) (x11 := x11) (a0 := c0) (a1 := c1) (a2 := c2) (a3 := c3) (a4 := c4) (a5 := c5) (a6 := c6) (a7 := c7) h1 hR.symm hK1 hK3 gS
    obtain ⟨y10, y11, e7⟩ := p6 (ns := ns) (md := md) (k := k) (m := m2.set j .dead) (x7 := .bl true) (x8 := .int (cellN ns k).natAbs) (x10 := x10) (x11 := x11) (a0 := c0) (a1 := c1) (a2 := c2) (a3 := c3) (a4 := c4) (a6 := c6) (a7 := c7) (u20 := 0) i22 i23 gR rR gS hK1 hK3 hW h5.1 h5.2
    have e8 : evB (Mm 100) (tailA ++ tailB) [.scr ns, .int md, slD md, .int k, R, .int K, .lst (nt c0 c1 c2 c3 c4 c5 c6 c7), .bl true, .int (cellN ns k).natAbs, x9, x10, x11] (m2.set j .dead) = .nx [.scr ns, .int md, slD md, .int k, R, .int K, .lst (nt c0 c1 c2 c3 c4 c5 c6 c7), .bl true, .int (cellN ns k).natAbs, .tup (W.map D.int), y10, y11] (m2.set j .dead) := (evB_app _ _ (e6 _)).trans e7
    have e9 : evB (Mm 100) [.ite (.var 7) (tailA ++ tailB) []] [.scr ns, .int md, slD md, .int k, R, .int K, .lst (nt c0 c1 c2 c3 c4 c5 c6 c7), .bl true, .int (cellN ns k).natAbs, x9, x10, x11] (m2.set j .dead) = .nx [.scr ns, .int md, slD md, .int k, R, .int K, .lst (nt c0 c1 c2 c3 c4 c5 c6 c7), .bl true, .int (cellN ns k).natAbs, .tup (W.map D.int), y10, y11] (m2.set j .dead) := by
      show seqB _ [] (iteK _ _ (tailA ++ tailB) [] (.ok (.bl true) _)) = _
      rw [iteK_ok, if_pos rfl, e8]
      rfl
    exact ⟨_, _, _, _, _, _, _, _, _, e9⟩
theorem init_ok {n : Nat} (hn : 1 ≤ n) {md : Int} (h1 : 3 ≤ md) (h2 : md ≤ 2305843009213693951) : Ph n F_Sealer___init__ [.obj 0, .int md] [.ins C_Sealer []] = .ok .non [.ins C_Sealer [((PySem.Str.ofString "_modulus"), .int md)]] := by
  rw [go_Sealer___init__ (by omega)]
  simp [b_Sealer___init__, h1, h2, putFD]
theorem a3 {ns : List Int} (hns : ns.length ≤ 63) : ∃ cnt : Nat, ∀ (ρ : List D) (m : List Cell), ρ[0]? = some (.scr ns) → (evE (Mm 100) (.rng2 (.int 1) (.fn "min" [.int 40, .fn "max" [.int 6, .fn "len" [.var 0]]])) ρ m).bind srcD = .ok (rangeD ((1 : Nat) : Int) cnt, none) m := by
  by_cases c : 6 < ns.length
  · by_cases c2 : ns.length < 40
    · refine ⟨ns.length - 1, fun ρ m h => ?_⟩
      have c' : (6 : Int) < (ns.length : Int) := by omega
      have c2' : (ns.length : Int) < 40 := by omega
      have tn : ((ns.length : Int) - 1).toNat = ns.length - 1 := by omega
      have hz : (ns.length : Int) < 4611686018427387904 := by omega
      simp [h, c, c2, c', c2', tn, hz]
    · refine ⟨39, fun ρ m h => ?_⟩
      have c' : (6 : Int) < (ns.length : Int) := by omega
      have c2' : ¬ (ns.length : Int) < 40 := by omega
      simp [h, c, c2, c', c2']
  · refine ⟨5, fun ρ m h => ?_⟩
    have c' : ¬ (6 : Int) < (ns.length : Int) := by omega
    simp [h, c, c']
theorem law_true : ∀ ns : List Int, ns.length ≤ 63 → ∃ m', runB ⟨tab, Phi tab gam body 100, gam⟩ N_law.length b_law [.scr ns] [] = .ok (.bl true) m' := by
  intro ns hns
  have go : runB ⟨tab, Phi tab gam body 100, gam⟩ N_law.length b_law [.scr ns] [] = outR (evB (Mm 100) (b_law_v6.take 2 ++ b_law_v6.drop 2) [.scr ns, .no, .no, .no, .no, .no, .no, .no, .no, .no, .no, .no] []) := rfl
  rw [go]
  have e0 := fun m => w_law_cell_v2 (n := 100) (m := m) (ns := ns) (k := 0) (by omega)
  push_cast at e0
  obtain ⟨md, h3, hmx, e1⟩ := w_law_modulus_v2 (n := 100) (by omega) (cellN ns 0)
  have e2 := init_ok (n := 100) (by omega) (md := md) (by omega) (by omega)
  have w1 : evB (Mm 100) (b_law_v6.take 2) [.scr ns, .no, .no, .no, .no, .no, .no, .no, .no, .no, .no, .no] [] = .nx [.scr ns, .int md, slD md, .no, .no, .no, .no, .no, .no, .no, .no, .no] [.dead] := by
    simp [b_law_v6, e0, e1, e2, slD]
  obtain ⟨cnt, src⟩ := a3 hns
  obtain ⟨ρ', m', lp, y3, y4, y5, y6, y7, y8, y9, y10, y11, rfl⟩ := loop_rngM (j := 3) (body := evB (Mm 100) b_law_v6_L1) (lo := ((1 : Nat) : Int)) (n := cnt)
    (fun i ρ m => ∃ x3 x4 x5 x6 x7 x8 x9 x10 x11, ρ = [.scr ns, .int md, slD md, x3, x4, x5, x6, x7, x8, x9, x10, x11])
    (ρ := [.scr ns, .int md, slD md, .no, .no, .no, .no, .no, .no, .no, .no, .no]) (m := [.dead]) ⟨_, _, _, _, _, _, _, _, _, rfl⟩ (by
      rintro i ρ m hi ⟨x3, x4, x5, x6, x7, x8, x9, x10, x11, rfl⟩
      obtain ⟨y4, y5, y6, y7, y8, y9, y10, y11, m', e⟩ := turn (ns := ns) h3 hmx (1 + i) x4 x5 x6 x7 x8 x9 x10 x11 m
      push_cast at e ⊢
      exact ⟨_, _, e, _, _, _, _, _, _, _, _, _, rfl⟩)
  refine ⟨m', ?_⟩
  rw [evB_app _ _ w1]
  have s := src [.scr ns, .int md, slD md, .no, .no, .no, .no, .no, .no, .no, .no, .no] [.dead] rfl
  have eL : b_law_v6.drop 2 = .loop (.one 3) (.rng2 (.int 1) (.fn "min" [.int 40, .fn "max" [.int 6, .fn "len" [.var 0]]])) b_law_v6_L1 :: [.ret (.bl true)] := rfl
  rw [eL, b_cons]
  have w2 : evS (Mm 100) (.loop (.one 3) (.rng2 (.int 1) (.fn "min" [.int 40, .fn "max" [.int 6, .fn "len" [.var 0]]])) b_law_v6_L1) [.scr ns, .int md, slD md, .no, .no, .no, .no, .no, .no, .no, .no, .no] [.dead] = .nx [.scr ns, .int md, slD md, y3, y4, y5, y6, y7, y8, y9, y10, y11] m' := by
    show sFor (fun ρ m => (evE (Mm 100) (.rng2 (.int 1) (.fn "min" [.int 40, .fn "max" [.int 6, .fn "len" [.var 0]]])) ρ m).bind srcD) (.one 3) (evB (Mm 100) b_law_v6_L1) _ _ = _
    unfold sFor
    dsimp only
    rw [s]
    exact lp
  rw [w2, seqB_nx]
  rfl
end
end SG
end

noncomputable section
namespace SG
open PySem L2 GS
def top (i : Nat) : Stmt := PySem.Challenge.pw_sumgrove_k40_notes_locks_and_holds.main.body.getD i (.Pass ⟨0, 0, 0, 0⟩)
def topc (i j : Nat) : Stmt := match top i with | .ClassDef _ _ _ b .. => b.getD j (.Pass ⟨0, 0, 0, 0⟩) | s => s
abbrev st_Sealer___init__ : Stmt := topc 15 0
theorem sc_Sealer___init__ : scopeB N_Sealer___init__ P_Sealer___init__ (defScope st_Sealer___init__) = true := by decide +kernel
theorem ck_Sealer___init__ : chkB tab N_Sealer___init__ b_Sealer___init__ (defScope st_Sealer___init__) (defBody st_Sealer___init__) = true := by decide +kernel
theorem dk_Sealer___init__ {K : PySem.W.Frag} {C : Nat → Addr} {od an : Option Addr} {sl : Array (Option Value)} {oc kV dc pm cd ct : Value} {f : Addr} (l : K.lookup f = some ⟨oc, od, .func (PySem.W.fnOf (PySem.Str.ofString "__init__") (PySem.Str.ofString "Sealer.__init__") (defArgs st_Sealer___init__) (defBody st_Sealer___init__) (defScope st_Sealer___init__) .none kV dc pm an cd ct), sl⟩) (c : PySem.W.codeIn K cd (PySem.Str.ofString "Sealer.__init__") = true) (k : PySem.W.keepIn K (.ref f) = true) : DefOk K C tab (body F_Sealer___init__) f := by
  have F := fun_mk (st := st_Sealer___init__) l c k
  exact ⟨_, _, _, _, F, F.binds (ps := P_Sealer___init__) fun _ _ _ _ _ _ us hl => match us, hl with | [_, _], _ => rfl, sc_Sealer___init__, ck_Sealer___init__, fun h => absurd h (by decide +kernel)⟩
abbrev st_Sealer_seal : Stmt := topc 15 2
theorem sc_Sealer_seal : scopeB N_Sealer_seal P_Sealer_seal (defScope st_Sealer_seal) = true := by decide +kernel
theorem ck_Sealer_seal : chkB tab N_Sealer_seal b_Sealer_seal (defScope st_Sealer_seal) (defBody st_Sealer_seal) = true := by decide +kernel
theorem dk_Sealer_seal {K : PySem.W.Frag} {C : Nat → Addr} {od an : Option Addr} {sl : Array (Option Value)} {oc kV dc pm cd ct : Value} {f : Addr} (l : K.lookup f = some ⟨oc, od, .func (PySem.W.fnOf (PySem.Str.ofString "seal") (PySem.Str.ofString "Sealer.seal") (defArgs st_Sealer_seal) (defBody st_Sealer_seal) (defScope st_Sealer_seal) .none kV dc pm an cd ct), sl⟩) (c : PySem.W.codeIn K cd (PySem.Str.ofString "Sealer.seal") = true) (k : PySem.W.keepIn K (.ref f) = true) : DefOk K C tab (body F_Sealer_seal) f := by
  have F := fun_mk (st := st_Sealer_seal) l c k
  exact ⟨_, _, _, _, F, F.binds (ps := P_Sealer_seal) fun _ _ _ _ _ _ us hl => match us, hl with | [_, _], _ => rfl, sc_Sealer_seal, ck_Sealer_seal, fun h => absurd h (by decide +kernel)⟩
abbrev st__law_seal : Stmt := top 19
theorem sc__law_seal : scopeB N__law_seal P__law_seal (defScope st__law_seal) = true := by decide +kernel
theorem ck__law_seal : chkB tab N__law_seal b__law_seal (defScope st__law_seal) (defBody st__law_seal) = true := by decide +kernel
theorem dk__law_seal {K : PySem.W.Frag} {C : Nat → Addr} {od an : Option Addr} {sl : Array (Option Value)} {oc kV dc pm cd ct : Value} {f : Addr} (l : K.lookup f = some ⟨oc, od, .func (PySem.W.fnOf (PySem.Str.ofString "_law_seal") (PySem.Str.ofString "_law_seal") (defArgs st__law_seal) (defBody st__law_seal) (defScope st__law_seal) .none kV dc pm an cd ct), sl⟩) (c : PySem.W.codeIn K cd (PySem.Str.ofString "_law_seal") = true) (k : PySem.W.keepIn K (.ref f) = true) : DefOk K C tab (body F__law_seal) f := by
  have F := fun_mk (st := st__law_seal) l c k
  exact ⟨_, _, _, _, F, F.binds (ps := P__law_seal) fun _ _ _ _ _ _ us hl => match us, hl with | [_, _], _ => rfl, sc__law_seal, ck__law_seal, fun h => absurd h (by decide +kernel)⟩
abbrev st_lock_of : Stmt := top 5
theorem sc_lock_of : scopeB N_lock_of P_lock_of (defScope st_lock_of) = true := by decide +kernel
theorem ck_lock_of : chkB tab N_lock_of b_lock_of (defScope st_lock_of) (defBody st_lock_of) = true := by decide +kernel
theorem dk_lock_of {K : PySem.W.Frag} {C : Nat → Addr} {od an : Option Addr} {sl : Array (Option Value)} {oc kV dc pm cd ct : Value} {f : Addr} (l : K.lookup f = some ⟨oc, od, .func (PySem.W.fnOf (PySem.Str.ofString "lock_of") (PySem.Str.ofString "lock_of") (defArgs st_lock_of) (defBody st_lock_of) (defScope st_lock_of) .none kV dc pm an cd ct), sl⟩) (c : PySem.W.codeIn K cd (PySem.Str.ofString "lock_of") = true) (k : PySem.W.keepIn K (.ref f) = true) : DefOk K C tab (body F_lock_of) f := by
  have F := fun_mk (st := st_lock_of) l c k
  exact ⟨_, _, _, _, F, F.binds (ps := P_lock_of) fun _ _ _ _ _ _ us hl => match us, hl with | [_, _], _ => rfl, sc_lock_of, ck_lock_of, fun h => absurd h (by decide +kernel)⟩
abbrev st_is_notes : Stmt := top 6
theorem sc_is_notes : scopeB N_is_notes P_is_notes (defScope st_is_notes) = true := by decide +kernel
theorem ck_is_notes : chkB tab N_is_notes b_is_notes (defScope st_is_notes) (defBody st_is_notes) = true := by decide +kernel
theorem dk_is_notes {K : PySem.W.Frag} {C : Nat → Addr} {od an : Option Addr} {sl : Array (Option Value)} {oc kV dc pm cd ct : Value} {f : Addr} (l : K.lookup f = some ⟨oc, od, .func (PySem.W.fnOf (PySem.Str.ofString "is_notes") (PySem.Str.ofString "is_notes") (defArgs st_is_notes) (defBody st_is_notes) (defScope st_is_notes) .none kV dc pm an cd ct), sl⟩) (c : PySem.W.codeIn K cd (PySem.Str.ofString "is_notes") = true) (k : PySem.W.keepIn K (.ref f) = true) (hc : ∃ i, C (1000000 + 2 * i) ≠ 0 ∧ cd = .ref (C (1000001 + 2 * i))) : DefOk K C tab (body F_is_notes) f := by
  have F := fun_mk (st := st_is_notes) l c k
  exact ⟨_, _, _, _, F, F.binds (ps := P_is_notes) fun _ _ _ _ _ _ us hl => match us, hl with | [_, _, _], _ => rfl, sc_is_notes, ck_is_notes, fun _ => hc⟩
abbrev st_is_enough : Stmt := top 7
theorem sc_is_enough : scopeB N_is_enough P_is_enough (defScope st_is_enough) = true := by decide +kernel
theorem ck_is_enough : chkB tab N_is_enough b_is_enough (defScope st_is_enough) (defBody st_is_enough) = true := by decide +kernel
theorem dk_is_enough {K : PySem.W.Frag} {C : Nat → Addr} {od an : Option Addr} {sl : Array (Option Value)} {oc kV dc pm cd ct : Value} {f : Addr} (l : K.lookup f = some ⟨oc, od, .func (PySem.W.fnOf (PySem.Str.ofString "is_enough") (PySem.Str.ofString "is_enough") (defArgs st_is_enough) (defBody st_is_enough) (defScope st_is_enough) .none kV dc pm an cd ct), sl⟩) (c : PySem.W.codeIn K cd (PySem.Str.ofString "is_enough") = true) (k : PySem.W.keepIn K (.ref f) = true) : DefOk K C tab (body F_is_enough) f := by
  have F := fun_mk (st := st_is_enough) l c k
  exact ⟨_, _, _, _, F, F.binds (ps := P_is_enough) fun _ _ _ _ _ _ us hl => match us, hl with | [_, _, _], _ => rfl, sc_is_enough, ck_is_enough, fun h => absurd h (by decide +kernel)⟩
abbrev st_new_account : Stmt := top 8
theorem sc_new_account : scopeB N_new_account P_new_account (defScope st_new_account) = true := by decide +kernel
theorem ck_new_account : chkB tab N_new_account b_new_account (defScope st_new_account) (defBody st_new_account) = true := by decide +kernel
theorem dk_new_account {K : PySem.W.Frag} {C : Nat → Addr} {od an : Option Addr} {sl : Array (Option Value)} {oc kV dc pm cd ct : Value} {f : Addr} (l : K.lookup f = some ⟨oc, od, .func (PySem.W.fnOf (PySem.Str.ofString "new_account") (PySem.Str.ofString "new_account") (defArgs st_new_account) (defBody st_new_account) (defScope st_new_account) .none kV dc pm an cd ct), sl⟩) (c : PySem.W.codeIn K cd (PySem.Str.ofString "new_account") = true) (k : PySem.W.keepIn K (.ref f) = true) : DefOk K C tab (body F_new_account) f := by
  have F := fun_mk (st := st_new_account) l c k
  exact ⟨_, _, _, _, F, F.binds (ps := P_new_account) fun _ _ _ _ _ _ us hl => match us, hl with | [_, _, _], _ => rfl, sc_new_account, ck_new_account, fun h => absurd h (by decide +kernel)⟩
abbrev st__law_cell_v2 : Stmt := top 17
theorem sc__law_cell_v2 : scopeB N__law_cell_v2 P__law_cell_v2 (defScope st__law_cell_v2) = true := by decide +kernel
theorem ck__law_cell_v2 : chkB tab N__law_cell_v2 b__law_cell_v2 (defScope st__law_cell_v2) (defBody st__law_cell_v2) = true := by decide +kernel
theorem dk__law_cell_v2 {K : PySem.W.Frag} {C : Nat → Addr} {od an : Option Addr} {sl : Array (Option Value)} {oc kV dc pm cd ct : Value} {f : Addr} (l : K.lookup f = some ⟨oc, od, .func (PySem.W.fnOf (PySem.Str.ofString "_law_cell") (PySem.Str.ofString "_law_cell") (defArgs st__law_cell_v2) (defBody st__law_cell_v2) (defScope st__law_cell_v2) .none kV dc pm an cd ct), sl⟩) (c : PySem.W.codeIn K cd (PySem.Str.ofString "_law_cell") = true) (k : PySem.W.keepIn K (.ref f) = true) : DefOk K C tab (body F__law_cell_v2) f := by
  have F := fun_mk (st := st__law_cell_v2) l c k
  exact ⟨_, _, _, _, F, F.binds (ps := P__law_cell_v2) fun _ _ _ _ _ _ us hl => match us, hl with | [_, _], _ => rfl, sc__law_cell_v2, ck__law_cell_v2, fun h => absurd h (by decide +kernel)⟩
abbrev st__law_numbers_v2 : Stmt := top 18
theorem sc__law_numbers_v2 : scopeB N__law_numbers_v2 P__law_numbers_v2 (defScope st__law_numbers_v2) = true := by decide +kernel
theorem ck__law_numbers_v2 : chkB tab N__law_numbers_v2 b__law_numbers_v2 (defScope st__law_numbers_v2) (defBody st__law_numbers_v2) = true := by decide +kernel
theorem dk__law_numbers_v2 {K : PySem.W.Frag} {C : Nat → Addr} {od an : Option Addr} {sl : Array (Option Value)} {oc kV dc pm cd ct : Value} {f : Addr} (l : K.lookup f = some ⟨oc, od, .func (PySem.W.fnOf (PySem.Str.ofString "_law_numbers") (PySem.Str.ofString "_law_numbers") (defArgs st__law_numbers_v2) (defBody st__law_numbers_v2) (defScope st__law_numbers_v2) .none kV dc pm an cd ct), sl⟩) (c : PySem.W.codeIn K cd (PySem.Str.ofString "_law_numbers") = true) (k : PySem.W.keepIn K (.ref f) = true) : DefOk K C tab (body F__law_numbers_v2) f := by
  have F := fun_mk (st := st__law_numbers_v2) l c k
  exact ⟨_, _, _, _, F, F.binds (ps := P__law_numbers_v2) fun _ _ _ _ _ _ us hl => match us, hl with | [_, _], _ => rfl, sc__law_numbers_v2, ck__law_numbers_v2, fun h => absurd h (by decide +kernel)⟩
abbrev st__law_modulus_v2 : Stmt := top 20
theorem sc__law_modulus_v2 : scopeB N__law_modulus_v2 P__law_modulus_v2 (defScope st__law_modulus_v2) = true := by decide +kernel
theorem ck__law_modulus_v2 : chkB tab N__law_modulus_v2 b__law_modulus_v2 (defScope st__law_modulus_v2) (defBody st__law_modulus_v2) = true := by decide +kernel
theorem dk__law_modulus_v2 {K : PySem.W.Frag} {C : Nat → Addr} {od an : Option Addr} {sl : Array (Option Value)} {oc kV dc pm cd ct : Value} {f : Addr} (l : K.lookup f = some ⟨oc, od, .func (PySem.W.fnOf (PySem.Str.ofString "_law_modulus") (PySem.Str.ofString "_law_modulus") (defArgs st__law_modulus_v2) (defBody st__law_modulus_v2) (defScope st__law_modulus_v2) .none kV dc pm an cd ct), sl⟩) (c : PySem.W.codeIn K cd (PySem.Str.ofString "_law_modulus") = true) (k : PySem.W.keepIn K (.ref f) = true) : DefOk K C tab (body F__law_modulus_v2) f := by
  have F := fun_mk (st := st__law_modulus_v2) l c k
  exact ⟨_, _, _, _, F, F.binds (ps := P__law_modulus_v2) fun _ _ _ _ _ _ us hl => match us, hl with | [_], _ => rfl, sc__law_modulus_v2, ck__law_modulus_v2, fun h => absurd h (by decide +kernel)⟩
abbrev st__law_near : Stmt := top 21
theorem sc__law_near : scopeB N__law_near P__law_near (defScope st__law_near) = true := by decide +kernel
theorem ck__law_near : chkB tab N__law_near b__law_near (defScope st__law_near) (defBody st__law_near) = true := by decide +kernel
theorem dk__law_near {K : PySem.W.Frag} {C : Nat → Addr} {od an : Option Addr} {sl : Array (Option Value)} {oc kV dc pm cd ct : Value} {f : Addr} (l : K.lookup f = some ⟨oc, od, .func (PySem.W.fnOf (PySem.Str.ofString "_law_near") (PySem.Str.ofString "_law_near") (defArgs st__law_near) (defBody st__law_near) (defScope st__law_near) .none kV dc pm an cd ct), sl⟩) (c : PySem.W.codeIn K cd (PySem.Str.ofString "_law_near") = true) (k : PySem.W.keepIn K (.ref f) = true) : DefOk K C tab (body F__law_near) f := by
  have F := fun_mk (st := st__law_near) l c k
  exact ⟨_, _, _, _, F, F.binds (ps := P__law_near) fun _ _ _ _ _ _ us hl => match us, hl with | [_, _], _ => rfl, sc__law_near, ck__law_near, fun h => absurd h (by decide +kernel)⟩
abbrev st__law_valid : Stmt := top 22
theorem sc__law_valid : scopeB N__law_valid P__law_valid (defScope st__law_valid) = true := by decide +kernel
theorem ck__law_valid : chkB tab N__law_valid b__law_valid (defScope st__law_valid) (defBody st__law_valid) = true := by decide +kernel
theorem dk__law_valid {K : PySem.W.Frag} {C : Nat → Addr} {od an : Option Addr} {sl : Array (Option Value)} {oc kV dc pm cd ct : Value} {f : Addr} (l : K.lookup f = some ⟨oc, od, .func (PySem.W.fnOf (PySem.Str.ofString "_law_valid") (PySem.Str.ofString "_law_valid") (defArgs st__law_valid) (defBody st__law_valid) (defScope st__law_valid) .none kV dc pm an cd ct), sl⟩) (c : PySem.W.codeIn K cd (PySem.Str.ofString "_law_valid") = true) (k : PySem.W.keepIn K (.ref f) = true) : DefOk K C tab (body F__law_valid) f := by
  have F := fun_mk (st := st__law_valid) l c k
  exact ⟨_, _, _, _, F, F.binds (ps := P__law_valid) fun _ _ _ _ _ _ us hl => match us, hl with | [_, _, _], _ => rfl, sc__law_valid, ck__law_valid, fun h => absurd h (by decide +kernel)⟩
abbrev st_law_v6 : Stmt := top 23
theorem sc_law_v6 : scopeB N_law_v6 P_law_v6 (defScope st_law_v6) = true := by decide +kernel
theorem ck_law_v6 : chkB tab N_law_v6 b_law_v6 (defScope st_law_v6) (defBody st_law_v6) = true := by decide +kernel
theorem dk_law_v6 {K : PySem.W.Frag} {C : Nat → Addr} {od an : Option Addr} {sl : Array (Option Value)} {oc kV dc pm cd ct : Value} {f : Addr} (l : K.lookup f = some ⟨oc, od, .func (PySem.W.fnOf (PySem.Str.ofString "law") (PySem.Str.ofString "law") (defArgs st_law_v6) (defBody st_law_v6) (defScope st_law_v6) .none kV dc pm an cd ct), sl⟩) (c : PySem.W.codeIn K cd (PySem.Str.ofString "law") = true) (k : PySem.W.keepIn K (.ref f) = true) : DefOk K C tab (body F_law_v6) f := by
  have F := fun_mk (st := st_law_v6) l c k
  exact ⟨_, _, _, _, F, F.binds (ps := P_law_v6) fun _ _ _ _ _ _ us hl => match us, hl with | [_], _ => rfl, sc_law_v6, ck_law_v6, fun h => absurd h (by decide +kernel)⟩
abbrev st_XInvalidSealer : Stmt := topc 11 0
theorem tx_XInvalidSealer : xtextB [(PySem.Str.ofString "self"), (PySem.Str.ofString "modulus"), (PySem.Str.ofString "__class__")] [(PySem.Str.ofString "self"), (PySem.Str.ofString "modulus")] [((PySem.Str.ofString "modulus"), 1)] st_XInvalidSealer = true := by decide +kernel
section
variable {P : Program} {w : World} {K : PySem.W.Frag} {mg : Str → Option Value} {h : Heap}
theorem all_mk {q : Program} {lo : List Str} {mean : ExcName → Option Value} {mb : Str → Option Value} {fa : Addr} (TT : PyProof.Rows.Top q lo mean mg mb h) (X : K.In h) (G : h.Ns mainGlobals mg) (hfa : mg (PySem.Str.ofString "law") = some (.ref fa))
    {B2 : Addr}
    (ca2 : PySem.W.nsIn K mainGlobals (PySem.Str.ofString "Sealer") = some (some (.ref B2)))
    (pg2 : PySem.W.plainGet K B2 Str.empty = true)
    (hd2 : PySem.W.hasDictIn K B2 = true)
    (po2 : PySem.W.plainOver K B2 = true)
    (sa2 : PySem.W.findIn K (.ref B2) "__setattr__" = some (some (.builtin "object.__setattr__")))
    (mk2 : PySem.W.makesIn K B2 = true)
    (kp2 : PySem.W.keepIn K (.ref B2) = true)
    {od17 an17 : Option Addr} {sl17 : Array (Option Value)} {oc17 kV17 dc17 pm17 cd17 ct17 : Value} {f17 : Addr}
    (a17 : PySem.W.findIn K (.ref B2) "__init__" = some (some (.ref f17)))
    (q17 : PySem.W.isFn K (.ref f17) = true)
    (l17 : K.lookup f17 = some ⟨oc17, od17, .func (PySem.W.fnOf (PySem.Str.ofString "__init__") (PySem.Str.ofString "Sealer.__init__") (defArgs st_Sealer___init__) (defBody st_Sealer___init__) (defScope st_Sealer___init__) .none kV17 dc17 pm17 an17 cd17 ct17), sl17⟩)
    (c17 : PySem.W.codeIn K cd17 (PySem.Str.ofString "Sealer.__init__") = true)
    (k17 : PySem.W.keepIn K (.ref f17) = true)
    {od19 an19 : Option Addr} {sl19 : Array (Option Value)} {oc19 kV19 dc19 pm19 cd19 ct19 : Value} {f19 : Addr}
    (a19 : PySem.W.findIn K (.ref B2) (PySem.Str.ofString "seal") = some (some (.ref f19)))
    (q19 : PySem.W.isFn K (.ref f19) = true)
    (l19 : K.lookup f19 = some ⟨oc19, od19, .func (PySem.W.fnOf (PySem.Str.ofString "seal") (PySem.Str.ofString "Sealer.seal") (defArgs st_Sealer_seal) (defBody st_Sealer_seal) (defScope st_Sealer_seal) .none kV19 dc19 pm19 an19 cd19 ct19), sl19⟩)
    (c19 : PySem.W.codeIn K cd19 (PySem.Str.ofString "Sealer.seal") = true)
    (k19 : PySem.W.keepIn K (.ref f19) = true)
    {od26 an26 : Option Addr} {sl26 : Array (Option Value)} {oc26 kV26 dc26 pm26 cd26 ct26 : Value} {f26 : Addr}
    (a26 : PySem.W.nsIn K mainGlobals (PySem.Str.ofString "_law_seal") = some (some (.ref f26)))
    (l26 : K.lookup f26 = some ⟨oc26, od26, .func (PySem.W.fnOf (PySem.Str.ofString "_law_seal") (PySem.Str.ofString "_law_seal") (defArgs st__law_seal) (defBody st__law_seal) (defScope st__law_seal) .none kV26 dc26 pm26 an26 cd26 ct26), sl26⟩)
    (c26 : PySem.W.codeIn K cd26 (PySem.Str.ofString "_law_seal") = true)
    (k26 : PySem.W.keepIn K (.ref f26) = true)
    {od99 an99 : Option Addr} {sl99 : Array (Option Value)} {oc99 kV99 dc99 pm99 cd99 ct99 : Value} {f99 : Addr}
    (a99 : PySem.W.nsIn K mainGlobals (PySem.Str.ofString "lock_of") = some (some (.ref f99)))
    (l99 : K.lookup f99 = some ⟨oc99, od99, .func (PySem.W.fnOf (PySem.Str.ofString "lock_of") (PySem.Str.ofString "lock_of") (defArgs st_lock_of) (defBody st_lock_of) (defScope st_lock_of) .none kV99 dc99 pm99 an99 cd99 ct99), sl99⟩)
    (c99 : PySem.W.codeIn K cd99 (PySem.Str.ofString "lock_of") = true)
    (k99 : PySem.W.keepIn K (.ref f99) = true)
    {od100 an100 xcd100 : Option Addr} {sl100 xcs100 : Array (Option Value)} {oc100 kV100 dc100 pm100 ct100 xcl100 : Value} {f100 cc100 PP100 : Addr} {xvs100 : Array Value} {dd100 : DefRec}
    (a100 : PySem.W.nsIn K mainGlobals (PySem.Str.ofString "is_notes") = some (some (.ref f100)))
    (l100 : K.lookup f100 = some ⟨oc100, od100, .func (PySem.W.fnOf (PySem.Str.ofString "is_notes") (PySem.Str.ofString "is_notes") (defArgs st_is_notes) (defBody st_is_notes) (defScope st_is_notes) .none kV100 dc100 pm100 an100 (.ref cc100) ct100), sl100⟩)
    (kc100 : K.lookup cc100 = some ⟨xcl100, xcd100, .fields xvs100, xcs100⟩)
    (kv100 : xvs100[11]? = some (.ref PP100))
    (kr100 : (PyProof.Rows.recsOf q).find? (fun e => e.name == (PySem.Str.ofString "is_notes")) = some dd100)
    (kn100 : K.lookup PP100 = none)
    (kz100 : PP100 ≠ 0)
    (c100 : PySem.W.codeIn K (.ref cc100) (PySem.Str.ofString "is_notes") = true)
    (k100 : PySem.W.keepIn K (.ref f100) = true)
    {od101 an101 : Option Addr} {sl101 : Array (Option Value)} {oc101 kV101 dc101 pm101 cd101 ct101 : Value} {f101 : Addr}
    (a101 : PySem.W.nsIn K mainGlobals (PySem.Str.ofString "is_enough") = some (some (.ref f101)))
    (l101 : K.lookup f101 = some ⟨oc101, od101, .func (PySem.W.fnOf (PySem.Str.ofString "is_enough") (PySem.Str.ofString "is_enough") (defArgs st_is_enough) (defBody st_is_enough) (defScope st_is_enough) .none kV101 dc101 pm101 an101 cd101 ct101), sl101⟩)
    (c101 : PySem.W.codeIn K cd101 (PySem.Str.ofString "is_enough") = true)
    (k101 : PySem.W.keepIn K (.ref f101) = true)
    {od102 an102 : Option Addr} {sl102 : Array (Option Value)} {oc102 kV102 dc102 pm102 cd102 ct102 : Value} {f102 : Addr}
    (a102 : PySem.W.nsIn K mainGlobals (PySem.Str.ofString "new_account") = some (some (.ref f102)))
    (l102 : K.lookup f102 = some ⟨oc102, od102, .func (PySem.W.fnOf (PySem.Str.ofString "new_account") (PySem.Str.ofString "new_account") (defArgs st_new_account) (defBody st_new_account) (defScope st_new_account) .none kV102 dc102 pm102 an102 cd102 ct102), sl102⟩)
    (c102 : PySem.W.codeIn K cd102 (PySem.Str.ofString "new_account") = true)
    (k102 : PySem.W.keepIn K (.ref f102) = true)
    {od103 an103 : Option Addr} {sl103 : Array (Option Value)} {oc103 kV103 dc103 pm103 cd103 ct103 : Value} {f103 : Addr}
    (a103 : PySem.W.nsIn K mainGlobals (PySem.Str.ofString "_law_cell") = some (some (.ref f103)))
    (l103 : K.lookup f103 = some ⟨oc103, od103, .func (PySem.W.fnOf (PySem.Str.ofString "_law_cell") (PySem.Str.ofString "_law_cell") (defArgs st__law_cell_v2) (defBody st__law_cell_v2) (defScope st__law_cell_v2) .none kV103 dc103 pm103 an103 cd103 ct103), sl103⟩)
    (c103 : PySem.W.codeIn K cd103 (PySem.Str.ofString "_law_cell") = true)
    (k103 : PySem.W.keepIn K (.ref f103) = true)
    {od104 an104 : Option Addr} {sl104 : Array (Option Value)} {oc104 kV104 dc104 pm104 cd104 ct104 : Value} {f104 : Addr}
    (a104 : PySem.W.nsIn K mainGlobals (PySem.Str.ofString "_law_numbers") = some (some (.ref f104)))
    (l104 : K.lookup f104 = some ⟨oc104, od104, .func (PySem.W.fnOf (PySem.Str.ofString "_law_numbers") (PySem.Str.ofString "_law_numbers") (defArgs st__law_numbers_v2) (defBody st__law_numbers_v2) (defScope st__law_numbers_v2) .none kV104 dc104 pm104 an104 cd104 ct104), sl104⟩)
    (c104 : PySem.W.codeIn K cd104 (PySem.Str.ofString "_law_numbers") = true)
    (k104 : PySem.W.keepIn K (.ref f104) = true)
    {od105 an105 : Option Addr} {sl105 : Array (Option Value)} {oc105 kV105 dc105 pm105 cd105 ct105 : Value} {f105 : Addr}
    (a105 : PySem.W.nsIn K mainGlobals (PySem.Str.ofString "_law_modulus") = some (some (.ref f105)))
    (l105 : K.lookup f105 = some ⟨oc105, od105, .func (PySem.W.fnOf (PySem.Str.ofString "_law_modulus") (PySem.Str.ofString "_law_modulus") (defArgs st__law_modulus_v2) (defBody st__law_modulus_v2) (defScope st__law_modulus_v2) .none kV105 dc105 pm105 an105 cd105 ct105), sl105⟩)
    (c105 : PySem.W.codeIn K cd105 (PySem.Str.ofString "_law_modulus") = true)
    (k105 : PySem.W.keepIn K (.ref f105) = true)
    {od106 an106 : Option Addr} {sl106 : Array (Option Value)} {oc106 kV106 dc106 pm106 cd106 ct106 : Value} {f106 : Addr}
    (a106 : PySem.W.nsIn K mainGlobals (PySem.Str.ofString "_law_near") = some (some (.ref f106)))
    (l106 : K.lookup f106 = some ⟨oc106, od106, .func (PySem.W.fnOf (PySem.Str.ofString "_law_near") (PySem.Str.ofString "_law_near") (defArgs st__law_near) (defBody st__law_near) (defScope st__law_near) .none kV106 dc106 pm106 an106 cd106 ct106), sl106⟩)
    (c106 : PySem.W.codeIn K cd106 (PySem.Str.ofString "_law_near") = true)
    (k106 : PySem.W.keepIn K (.ref f106) = true)
    {od107 an107 : Option Addr} {sl107 : Array (Option Value)} {oc107 kV107 dc107 pm107 cd107 ct107 : Value} {f107 : Addr}
    (a107 : PySem.W.nsIn K mainGlobals (PySem.Str.ofString "_law_valid") = some (some (.ref f107)))
    (l107 : K.lookup f107 = some ⟨oc107, od107, .func (PySem.W.fnOf (PySem.Str.ofString "_law_valid") (PySem.Str.ofString "_law_valid") (defArgs st__law_valid) (defBody st__law_valid) (defScope st__law_valid) .none kV107 dc107 pm107 an107 cd107 ct107), sl107⟩)
    (c107 : PySem.W.codeIn K cd107 (PySem.Str.ofString "_law_valid") = true)
    (k107 : PySem.W.keepIn K (.ref f107) = true)
    {od108 an108 : Option Addr} {sl108 : Array (Option Value)} {oc108 kV108 dc108 pm108 cd108 ct108 : Value} {f108 : Addr}
    (a108 : PySem.W.nsIn K mainGlobals (PySem.Str.ofString "law") = some (some (.ref f108)))
    (l108 : K.lookup f108 = some ⟨oc108, od108, .func (PySem.W.fnOf (PySem.Str.ofString "law") (PySem.Str.ofString "law") (defArgs st_law_v6) (defBody st_law_v6) (defScope st_law_v6) .none kV108 dc108 pm108 an108 cd108 ct108), sl108⟩)
    (c108 : PySem.W.codeIn K cd108 (PySem.Str.ofString "law") = true)
    (k108 : PySem.W.keepIn K (.ref f108) = true)
    (no0 : PySem.W.findIn K (.ref B2) (PySem.Str.ofString "_modulus") = some none)
    (z0 : PySem.W.nsIn K mainGlobals (PySem.Str.ofString "abs") = some none)
    (z1 : PySem.W.nsIn K mainGlobals (PySem.Str.ofString "any") = some none)
    (z2 : PySem.W.nsIn K mainGlobals (PySem.Str.ofString "bool") = some none)
    (z3 : PySem.W.nsIn K mainGlobals (PySem.Str.ofString "int") = some none)
    (z4 : PySem.W.nsIn K mainGlobals (PySem.Str.ofString "isinstance") = some none)
    (z5 : PySem.W.nsIn K mainGlobals (PySem.Str.ofString "len") = some none)
    (z6 : PySem.W.nsIn K mainGlobals (PySem.Str.ofString "list") = some none)
    (z7 : PySem.W.nsIn K mainGlobals (PySem.Str.ofString "max") = some none)
    (z8 : PySem.W.nsIn K mainGlobals (PySem.Str.ofString "min") = some none)
    (z9 : PySem.W.nsIn K mainGlobals (PySem.Str.ofString "range") = some none)
    (z10 : PySem.W.nsIn K mainGlobals (PySem.Str.ofString "tuple") = some none)
    {B1 : Addr}
    (nx1 : PySem.W.nsIn K mainGlobals (PySem.Str.ofString "InvalidSealer") = some (some (.ref B1)))
    (zs : PySem.W.nsIn K mainGlobals (PySem.Str.ofString "super") = some none)
    (zt : (P.main.scope.names.lookup ("super" : Str)).isSome = false)
    (zo : PySem.W.nsIn K cStatics "thirdparty.any" = some none)
    (zn : PySem.W.specialIn K (.builtin "object.__class__") "__get__" = some (some (.builtin "getset_descriptor.__get__")))
    (zk : PySem.W.takesIn K (.builtin "object.__class__") = some true)
    {nm1 q1 : Str} {N1 : Addr} {bs1 bm1 : List Value} {sn1 : List Str} {sb1 : List Value} {ab1 : Bool} {co1 : Option Bool} {dd1 : Option Addr} {ka1 kb1 kc1 kd1 ke1 : Option Value}
    {xoc1 xkV1 xdc1 xpm1 xct1 xcl1 xca1 : Value} {xod1 xan1 xcd1 xcb1 : Option Addr} {xsl1 xcs1 xcc1 : Array (Option Value)} {xvs1 : Array Value} {xfi1 : Str} {xtf1 : Tok} {fx1 cx1 dx1 : Addr}
    (xk1 : K.lookup B1 = some (excClassObj nm1 q1 B1 N1 bs1 bm1 true sn1 sb1 ab1 co1 dd1 ka1 kb1 kc1 kd1 ke1 "ValueError.__new__"))
    (xr1 : PySem.HandSPX.refsVE bm1 = true)
    (xs1 : PySem.W.findIn K (.ref B1) "__setattr__" = some (some (.builtin "object.__setattr__")))
    (xe1 : PySem.W.subIn K (.ref B1) (.type "BaseException") = some true)
    (xt1 : PySem.W.typeIn K (.ref B1) = some (.type "type"))
    (xp1 : PySem.W.keepIn K (.ref B1) = true)
    (xi1 : PySem.W.findIn K (.ref B1) "__init__" = some (some (.ref fx1)))
    (xl1 : K.lookup fx1 = some ⟨xoc1, xod1, .func (PySem.W.fnX "__init__" (PySem.Str.ofString "InvalidSealer.__init__") (defArgs st_XInvalidSealer) (defBody st_XInvalidSealer) (defScope st_XInvalidSealer) [(("__class__" : Str), cx1)] .none xkV1 xdc1 xpm1 xan1 (.ref dx1) xct1), xsl1⟩)
    (xj1 : PySem.W.typeIn K (.ref fx1) = some (.type "function"))
    (xc1 : PySem.W.codeIn K (.ref dx1) (PySem.Str.ofString "InvalidSealer.__init__") = true)
    (xd1 : K.lookup dx1 = some ⟨xcl1, xcd1, .fields xvs1, xcs1⟩)
    (xf1 : xvs1[2]? = some (.str xfi1 xtf1))
    (xg1 : ((P.main.file : Str) == xfi1) = true)
    (xh1 : K.lookup cx1 = some ⟨xca1, xcb1, .cell (some (.ref B1)), xcc1⟩)
    (xm1 : PySem.W.mroIn K B1 (.ref B1) = some true)
    (xo1 : PySem.W.ks_superIn K B1 B1 "__init__" = some (some (.builtin "ValueError.__init__")))
    (xv1 : PySem.W.subIn K (.ref B1) (.type "ValueError") = some true)
    (ya1 : PySem.W.findIn K (.ref B1) "__getattribute__" = some (some (.builtin "BaseException.__getattribute__")))
    (yb1 : PySem.W.findIn K (.ref B1) "__getattr__" = some none)
    (yc1 : PySem.W.hasDictIn K B1 = true)
    (yd1 : PySem.W.findIn K (.ref B1) "__class__" = some (some (.builtin "object.__class__")))
    (ye1 : PySem.W.mroIn K B1 (.type "object") = some true)
    (yf1_0 : PySem.W.findIn K (.ref B1) (PySem.Str.ofString "modulus") = some none)
    {u9 : Value}
    (gv9 : PySem.W.nsIn K mainGlobals (PySem.Str.ofString "LEAST_MODULUS") = some (some u9))
    (gr9 : RelV (V.int 3) u9)
    (gv10 : ∃ u, mg (PySem.Str.ofString "GREATEST_MODULUS") = some u ∧ RelV (V.int 2305843009213693951) u)
    (gv15 : ∃ u, mg (PySem.Str.ofString "MOST_WORTH") = some u ∧ RelV (V.int 1000000000000) u)
    (gv16 : ∃ u, mg (PySem.Str.ofString "MOST_EPOCH") = some u ∧ RelV (V.int 1000000) u)
    {u17 : Value}
    (gv17 : PySem.W.nsIn K mainGlobals (PySem.Str.ofString "NOTES") = some (some u17))
    (gr17 : RelV (V.int 8) u17)
    {u18 : Value}
    (gv18 : PySem.W.nsIn K mainGlobals (PySem.Str.ofString "KEY_TAG") = some (some u18))
    (gr18 : RelV (V.int 7) u18)
    : ∃ (fd : FuncData) (cs : List (Nat × Addr × Addr)), (∀ p ∈ cs, h.get? p.2.2 = some (PySem.W.tabObj #[])) ∧ (∀ p ∈ cs, K.lookup p.2.2 = none) ∧ (∀ p ∈ cs, PySem.W.CodeHd h p.2.1 p.2.2) ∧ (∀ (s : Shared) (v : Value), BindsTo s fd ⟨[v], []⟩ [("_law_script", v)]) ∧ ∀ base : Heap, K.In base → base.Ns mainGlobals mg → (∀ p ∈ cs, GxR.TabB base mg p.2.1 p.2.2) → FnOk P w K mg base (L2.CX P w) 203 fa fd ["_law_script"] (spLaw K (cs.map (·.2.2))) := by
  have e := hfa.symm.trans (PySem.W.mg_of X G a108)
  cases e
  have cls2 : Cls K B2 := ⟨pg2, hd2, po2, sa2⟩
  have H : Facts tab gam body P K (cT [(F_is_notes, cc100, PP100)] (fun n => if n = C_Sealer then B2 else if n = C_InvalidSealer then B1 else default)) mg := {
    fn := All3.mem ⟨⟨rfl, _, PySem.W.mg_of X G a26, dk__law_seal l26 c26 k26⟩, ⟨rfl, _, PySem.W.mg_of X G a99, dk_lock_of l99 c99 k99⟩, ⟨rfl, _, PySem.W.mg_of X G a100, dk_is_notes l100 c100 k100 (cT_in (i := F_is_notes) rfl kz100 rfl)⟩, ⟨rfl, _, PySem.W.mg_of X G a101, dk_is_enough l101 c101 k101⟩, ⟨rfl, _, PySem.W.mg_of X G a102, dk_new_account l102 c102 k102⟩, ⟨rfl, _, PySem.W.mg_of X G a103, dk__law_cell_v2 l103 c103 k103⟩, ⟨rfl, _, PySem.W.mg_of X G a104, dk__law_numbers_v2 l104 c104 k104⟩, ⟨rfl, _, PySem.W.mg_of X G a105, dk__law_modulus_v2 l105 c105 k105⟩, ⟨rfl, _, PySem.W.mg_of X G a106, dk__law_near l106 c106 k106⟩, ⟨rfl, _, PySem.W.mg_of X G a107, dk__law_valid l107 c107 k107⟩, ⟨rfl, _, PySem.W.mg_of X G a108, dk_law_v6 l108 c108 k108⟩, trivial⟩
    gl := All2.mem ⟨⟨_, u9, PySem.W.mg_of X G gv9, gr9, fun _ => rfl⟩, (let ⟨u, h1, h2⟩ := gv10; ⟨_, u, h1, h2, fun _ => rfl⟩), (let ⟨u, h1, h2⟩ := gv15; ⟨_, u, h1, h2, fun _ => rfl⟩), (let ⟨u, h1, h2⟩ := gv16; ⟨_, u, h1, h2, fun _ => rfl⟩), ⟨_, u17, PySem.W.mg_of X G gv17, gr17, fun _ => rfl⟩, ⟨_, u18, PySem.W.mg_of X G gv18, gr18, fun _ => rfl⟩, trivial⟩
    bt := All1.mem ⟨PySem.W.mg_none_of X G z0, PySem.W.mg_none_of X G z1, PySem.W.mg_none_of X G z2, PySem.W.mg_none_of X G z3, PySem.W.mg_none_of X G z4, PySem.W.mg_none_of X G z5, PySem.W.mg_none_of X G z6, PySem.W.mg_none_of X G z7, PySem.W.mg_none_of X G z8, PySem.W.mg_none_of X G z9, PySem.W.mg_none_of X G z10, trivial⟩
    cl := All4.mem ⟨⟨rfl, PySem.W.mg_of X G ca2, f17, ⟨mk2, a17, q17, kp2⟩, dk_Sealer___init__ l17 c17 k17⟩, trivial⟩
    mt := All4.mem ⟨⟨rfl, cls2, f19, ⟨a19, q19, k19⟩, dk_Sealer_seal l19 c19 k19⟩, trivial⟩
    fl := All2.mem ⟨⟨cls2, no0⟩, trivial⟩
    xc := AllX.mem ⟨xcls_mk (PySem.W.mg_of X G nx1) xk1 xr1 xs1 xe1 xt1 xp1 xl1 xi1 xj1 xc1 xd1 xf1 xg1 xh1 xm1 (PySem.W.mg_none_of X G zs) zt zo xo1 xv1 ya1 yb1 yc1 yd1 zn zk ye1 (List.forall_mem_cons.mpr ⟨yf1_0, fun _ h => by cases h⟩) tx_XInvalidSealer (fun us hl => match us, hl with | [_, _], _ => rfl), trivial⟩
    nm := All2.mem trivial
    sub := AllB.mem trivial }
  have F := fun_mk (st := st_law_v6) l108 c108 k108
  have tq100 := PySem.W.tab_of TT X kr100 (tabIn_of a100 l100 rfl kc100 kv100)
  refine ⟨_, [(F_is_notes, cc100, PP100)], by intro p hp; simp only [List.mem_cons, List.not_mem_nil, or_false] at hp; rcases hp with rfl; exact tq100.2, by intro p hp; simp only [List.mem_cons, List.not_mem_nil, or_false] at hp; rcases hp with rfl; exact kn100, by intro p hp; simp only [List.mem_cons, List.not_mem_nil, or_false] at hp; rcases hp with rfl; exact tq100.1, fun s v => .of_eq rfl, fun base _ _ ht => (ok_def (M := ⟨tab, Phi tab gam body 100, gam⟩) (ps := P_law_v6) F sc_law_v6 ck_law_v6 (all_ok H (cT_tb ht) 100) fun h => absurd h (by decide +kernel)).imp fun vs H Q E q => spLaw_imp (fun t ht => cT_tab ht) law_true q⟩
end
end SG
end
open PySem PySem.W PyProof.Rows
set_option maxHeartbeats 0 in
theorem PySem.Challenge.cw_sumgrove_k40_notes_locks_and_holds_holds : PySem.Challenge.rw_sumgrove_k40_notes_locks_and_holds.Holds := by
  w_on; o_law; k_head; (case hw => w_witness2)
  k_fill
  refine GS.walkT (l := rw_sumgrove_k40_notes_locks_and_holds) (n := 63) (k := 203) (x := "_law_script") (CX := fun w => L2.CX rw_sumgrove_k40_notes_locks_and_holds.prog w) rfl (by decide) rfl ⟨rfl, by decide, by decide⟩ (fun w h Y => PySem.W.kIn_of Y) ?F (fun _ _ _ _ _ z => GS.noCX z)
  case F =>
    intro w mg fa h XP KX G hmg ⟨lo, mean, mb, TT⟩
    refine' SG.all_mk TT KX G hmg ?ca2 ?pg2 ?hd2 ?po2 ?sa2 ?mk2 ?kp2 ?a17 ?q17 ?l17 ?c17 ?k17 ?a19 ?q19 ?l19 ?c19 ?k19 ?a26 ?l26 ?c26 ?k26 ?a99 ?l99 ?c99 ?k99 ?a100 ?l100 ?kc100 ?kv100 ?kr100 ?kn100 ?kz100 ?c100 ?k100 ?a101 ?l101 ?c101 ?k101 ?a102 ?l102 ?c102 ?k102 ?a103 ?l103 ?c103 ?k103 ?a104 ?l104 ?c104 ?k104 ?a105 ?l105 ?c105 ?k105 ?a106 ?l106 ?c106 ?k106 ?a107 ?l107 ?c107 ?k107 ?a108 ?l108 ?c108 ?k108 ?no0 ?z0 ?z1 ?z2 ?z3 ?z4 ?z5 ?z6 ?z7 ?z8 ?z9 ?z10 ?nx1 ?zs ?zt ?zo ?zn ?zk ?xk1 ?xr1 ?xs1 ?xe1 ?xt1 ?xp1 ?xi1 ?xl1 ?xj1 ?xc1 ?xd1 ?xf1 ?xg1 ?xh1 ?xm1 ?xo1 ?xv1 ?ya1 ?yb1 ?yc1 ?yd1 ?ye1 ?yf1_0 ?gv9 ?gr9 ?gv10 ?gv15 ?gv16 ?gv17 ?gr17 ?gv18 ?gr18
    (case ca2 => k_is)
    (case pg2 => k_is)
    (case hd2 => k_is)
    (case po2 => k_is)
    (case sa2 => k_is)
    (case mk2 => k_is)
    (case kp2 => k_is)
    (case a17 => k_is)
    (case q17 => k_is)
    (case l17 => k_is)
    (case c17 => k_is)
    (case k17 => k_is)
    (case a19 => k_is)
    (case q19 => k_is)
    (case l19 => k_is)
    (case c19 => k_is)
    (case k19 => k_is)
    (case a26 => k_is)
    (case l26 => k_is)
    (case c26 => k_is)
    (case k26 => k_is)
    (case a99 => k_is)
    (case l99 => k_is)
    (case c99 => k_is)
    (case k99 => k_is)
    (case a100 => k_is)
    (case l100 => k_is)
    (case kc100 => k_is)
    (case kv100 => rfl)
    (case kr100 => rfl)
    (case kn100 => kernel_rfl)
    (case kz100 => decide)
    (case c100 => k_is)
    (case k100 => k_is)
    (case a101 => k_is)
    (case l101 => k_is)
    (case c101 => k_is)
    (case k101 => k_is)
    (case a102 => k_is)
    (case l102 => k_is)
    (case c102 => k_is)
    (case k102 => k_is)
    (case a103 => k_is)
    (case l103 => k_is)
    (case c103 => k_is)
    (case k103 => k_is)
    (case a104 => k_is)
    (case l104 => k_is)
    (case c104 => k_is)
    (case k104 => k_is)
    (case a105 => k_is)
    (case l105 => k_is)
    (case c105 => k_is)
    (case k105 => k_is)
    (case a106 => k_is)
    (case l106 => k_is)
    (case c106 => k_is)
    (case k106 => k_is)
    (case a107 => k_is)
    (case l107 => k_is)
    (case c107 => k_is)
    (case k107 => k_is)
    (case a108 => k_is)
    (case l108 => k_is)
    (case c108 => k_is)
    (case k108 => k_is)
    (case no0 => k_is)
    (case z0 => k_is)
    (case z1 => k_is)
    (case z2 => k_is)
    (case z3 => k_is)
    (case z4 => k_is)
    (case z5 => k_is)
    (case z6 => k_is)
    (case z7 => k_is)
    (case z8 => k_is)
    (case z9 => k_is)
    (case z10 => k_is)
    (case nx1 => k_is)
    (case zs => k_is)
    (case zt => decide +kernel)
    (case zo => k_is)
    (case zn => k_is)
    (case zk => k_is)
    (case xk1 => k_is)
    (case xr1 => decide +kernel)
    (case xs1 => k_is)
    (case xe1 => k_is)
    (case xt1 => k_is)
    (case xp1 => k_is)
    (case xi1 => k_is)
    (case xl1 => k_is)
    (case xj1 => k_is)
    (case xc1 => k_is)
    (case xd1 => k_is)
    (case xf1 => rfl)
    (case xg1 => decide +kernel)
    (case xh1 => k_is)
    (case xm1 => k_is)
    (case xo1 => ks_is)
    (case xv1 => k_is)
    (case ya1 => k_is)
    (case yb1 => k_is)
    (case yc1 => k_is)
    (case yd1 => k_is)
    (case ye1 => k_is)
    (case yf1_0 => k_is)
    (case gv9 => k_is)
    (case gr9 => exact ⟨_, rfl⟩)
    (case gv10 => obtain ⟨v, hv, hr⟩ := XP.2.val ((PySem.Str.ofString "GREATEST_MODULUS"), WData.int 2305843009213693951) (.tail _ (.tail _ (.head _))); cases hr; exact ⟨_, hv, _, rfl⟩)
    (case gv15 => obtain ⟨v, hv, hr⟩ := XP.2.val ((PySem.Str.ofString "MOST_WORTH"), WData.int 1000000000000) (.head _); cases hr; exact ⟨_, hv, _, rfl⟩)
    (case gv16 => obtain ⟨v, hv, hr⟩ := XP.2.val ((PySem.Str.ofString "MOST_EPOCH"), WData.int 1000000) (.tail _ (.head _)); cases hr; exact ⟨_, hv, _, rfl⟩)
    (case gv17 => k_is)
    (case gr17 => exact ⟨_, rfl⟩)
    (case gv18 => k_is)
    (case gr18 => exact ⟨_, rfl⟩)

