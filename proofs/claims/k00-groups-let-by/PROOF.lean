import PyProof.Rows.All
import Wide.All
import OpenK.AllK
import Wide.FinOn
import HandS.ForMost
import HandS.ForExc
import HandS.Wide
import HandS.Codes
import HandS.Conv
import HandS.IsInst
import HandS.ExcIs
import HandS.SlotsOwn
import HandS.TryMany
import HandS.Deep
import HandS.SortInts
import HandS.TupAny
import HandS.Iter
import HandS.SortRule
import KE.SortCalls
import KE.DatumOrd
import KE.SortData
import PySem.Challenge.RW_stepsvanish_k00_groups_let_by
set_option Elab.async false
set_option linter.all false
set_option maxRecDepth 100000
set_option maxHeartbeats 4000000
namespace Z
open PySem PySem.Spec PyProof.Rows L2

/-! ### states: what stands still, all, the drawing lists -/
structure S where
  st : Hp
  hp : Hp
  bg : Addr → Prop

def Ex (H H' : Hp) : Prop := ∀ a o, H a = some o → H' a = some o
theorem Ex.refl (H : Hp) : Ex H H := fun _ _ h => h
theorem Ex.trans {H H1 H2 : Hp} (a : Ex H H1) (b : Ex H1 H2) : Ex H H2 := fun x o h => b x o (a x o h)
theorem Ex.new {H : Hp} {p : Addr} {o : HO} (h : H p = none) : Ex H (upd H p o) := fun a u e => by
  rw [upd_ne (ne_of_none e h)]
  exact e
theorem ex_rd {H H' : Hp} {a : Addr} {u : HO} (e : Ex H H') (h : Rd H a u) : Rd H' a u := by
  rcases h with h | ⟨o, h⟩
  · exact Or.inl (e a _ h)
  · exact Or.inr ⟨o, e a _ h⟩
theorem ex_l {K : PySem.W.Frag} {H H' : Hp} {a : Addr} {xs : List V} (e : Ex H H') (h : SqL K H a xs) : SqL K H' a xs := by
  rcases h with h | h
  · exact Or.inl (ex_rd e h)
  · exact Or.inr h
theorem ex_t {K : PySem.W.Frag} {H H' : Hp} {a : Addr} {xs : List V} (e : Ex H H') (h : SqT K H a xs) : SqT K H' a xs := by
  rcases h with h | h
  · exact Or.inl (ex_rd e h)
  · exact Or.inr h
theorem sqL_of {K : PySem.W.Frag} {H : Hp} {a : Addr} {xs : List V} (h : H a = some (.lst xs)) : SqL K H a xs := Or.inl (Or.inl h)
theorem sqT_of {K : PySem.W.Frag} {H : Hp} {a : Addr} {xs : List V} (h : H a = some (.tup xs)) : SqT K H a xs := Or.inl (Or.inl h)

structure Sok (s : S) : Prop where
  sub : Ex s.st s.hp
  bag : ∀ a, s.bg a → s.st a = none ∧ ∃ i j, s.hp a = some (.lst [.int i, .int j])

/-- s grew to t; X: what was changed otherwise -/
structure Gx (X : Addr → Prop) (s t : S) : Prop where
  ok : Sok t
  st : Ex s.st t.st
  hp : ∀ a o, ¬ X a → ¬ s.bg a → s.hp a = some o → t.hp a = some o
  bg : ∀ a, s.bg a → t.bg a
  fr : ∀ a, ¬ X a → s.hp a ≠ none → (s.st a = none → t.st a = none) ∧ (t.bg a → s.bg a)
  al : ∀ a, s.hp a ≠ none → t.hp a ≠ none
abbrev No : Addr → Prop := fun _ => False
abbrev Gr := Gx No
theorem Gx.refl {X : Addr → Prop} {s : S} (h : Sok s) : Gx X s s := ⟨h, Ex.refl _, fun _ _ _ _ e => e, fun _ e => e, fun _ _ _ => ⟨fun e => e, fun e => e⟩, fun _ e => e⟩
theorem Gx.trans {X : Addr → Prop} {s t u : S} (a : Gx X s t) (b : Gx X t u) : Gx X s u where
  ok := b.ok
  st := a.st.trans b.st
  hp := fun p o hx hb e => b.hp p o hx (fun z => hb ((a.fr p hx (by rw [e]; exact fun z => nomatch z)).2 z)) (a.hp p o hx hb e)
  bg := fun p e => b.bg p (a.bg p e)
  fr := fun p hx e => ⟨fun z => (b.fr p hx (a.al p e)).1 ((a.fr p hx e).1 z), fun z => (a.fr p hx e).2 ((b.fr p hx (a.al p e)).2 z)⟩
  al := fun p e => b.al p (a.al p e)
theorem Gx.mono {X X' : Addr → Prop} {s t : S} (h : ∀ a, X a → X' a) (a : Gx X s t) : Gx X' s t :=
  ⟨a.ok, a.st, fun p o hx => a.hp p o (fun z => hx (h p z)), a.bg, fun p hx => a.fr p (fun z => hx (h p z)), a.al⟩
theorem Gx.of_gr {X : Addr → Prop} {s t : S} (a : Gr s t) : Gx X s t := a.mono fun _ z => z.elim
theorem Gx.cut {X : Addr → Prop} {s t : S} (a : Gx X s t) (h : ∀ p, X p → s.hp p = none) : Gr s t := by
  refine ⟨a.ok, a.st, fun p o _ hb e => a.hp p o (fun z => ?_) hb e, a.bg, fun p _ e => a.fr p (fun z => ?_) e, a.al⟩
  · rw [h p z] at e
    cases e
  · exact e (h p z)
/-- what was changed is new since s0 -/
theorem Gr.gx {X : Addr → Prop} {s0 s t : S} (a : Gr s0 s) (b : Gx X s t) (h : ∀ p, X p → s0.hp p = none) : Gr s0 t :=
  (Gx.trans (Gx.of_gr (X := X) a) b).cut h

/-! ### what a value stands for -/
structure Rep (α : Type) where
  is : S → V → α → Prop
  fp : Addr → Prop
  up : ∀ {X : Addr → Prop} {s t : S} {v : V} {d : α}, Gx X s t → (∀ a, fp a → ¬ X a) → is s v d → is t v d
structure SRep (α : Type) where
  is : Hp → V → α → Prop
  up : ∀ {H H' : Hp} {v : V} {d : α}, Ex H H' → is H v d → is H' v d
abbrev SRep.r {α : Type} (r : SRep α) : Rep α := ⟨fun s => r.is s.st, fun _ => False, fun g _ h => r.up g.st h⟩
theorem Rep.u {α : Type} {r : Rep α} {s t : S} {v : V} {d : α} (g : Gr s t) (h : r.is s v d) : r.is t v d := r.up g (fun _ _ z => z) h
theorem Rep.ux {α : Type} {r : Rep α} {X : Addr → Prop} {s t : S} {v : V} {d : α} (g : Gx X s t) (hx : ∀ a, r.fp a → ¬ X a) (h : r.is s v d) : r.is t v d := r.up g hx h
theorem SRep.ux {α : Type} {r : SRep α} {X : Addr → Prop} {s t : S} {v : V} {d : α} (g : Gx X s t) (h : r.r.is s v d) : r.r.is t v d := r.up g.st h

def sI : SRep Int := ⟨fun _ v d => v = .int d, fun _ h => h⟩
def sB : SRep Bool := ⟨fun _ v d => v = .bl d, fun _ h => h⟩
def sU : SRep Unit := ⟨fun _ v _ => v = .non, fun _ h => h⟩
def sS : SRep Str := ⟨fun _ v d => v = .str d, fun _ h => h⟩
theorem Paired.up {α β : Type} {F G : α → β → Prop} (f : ∀ a b, F a b → G a b) {l : List α} {m : List β} (h : Paired F l m) : Paired G l m := Paired.mono f h
/-- a list of the run's own; a list that may be locked -/
def sL {α : Type} (r : SRep α) : SRep (List α) :=
  ⟨fun H v d => ∃ p xs, v = .ref p ∧ H p = some (.lst xs) ∧ Paired (r.is H) xs d, fun e h => by
    obtain ⟨p, xs, h1, h2, h3⟩ := h
    exact ⟨p, xs, h1, e _ _ h2, Paired.mono (fun _ _ => r.up e) h3⟩⟩
def sF (K : PySem.W.Frag) {α : Type} (r : SRep α) : SRep (List α) :=
  ⟨fun H v d => ∃ p xs, v = .ref p ∧ SqL K H p xs ∧ Paired (r.is H) xs d, fun e h => by
    obtain ⟨p, xs, h1, h2, h3⟩ := h
    exact ⟨p, xs, h1, ex_l e h2, Paired.mono (fun _ _ => r.up e) h3⟩⟩
def sT (K : PySem.W.Frag) {α : Type} (r : SRep α) : SRep (List α) :=
  ⟨fun H v d => ∃ p xs, v = .ref p ∧ SqT K H p xs ∧ Paired (r.is H) xs d, fun e h => by
    obtain ⟨p, xs, h1, h2, h3⟩ := h
    exact ⟨p, xs, h1, ex_t e h2, Paired.mono (fun _ _ => r.up e) h3⟩⟩
/-- a pair, a triple -/
def sP (K : PySem.W.Frag) {α β : Type} (r : SRep α) (q : SRep β) : SRep (α × β) :=
  ⟨fun H v d => ∃ p x y, v = .ref p ∧ SqT K H p [x, y] ∧ r.is H x d.1 ∧ q.is H y d.2, fun e h => by
    obtain ⟨p, x, y, h1, h2, h3, h4⟩ := h
    exact ⟨p, x, y, h1, ex_t e h2, r.up e h3, q.up e h4⟩⟩
def sP3 (K : PySem.W.Frag) {α β γ : Type} (r : SRep α) (q : SRep β) (z : SRep γ) : SRep (α × β × γ) :=
  ⟨fun H v d => ∃ p x y w, v = .ref p ∧ SqT K H p [x, y, w] ∧ r.is H x d.1 ∧ q.is H y d.2.1 ∧ z.is H w d.2.2, fun e h => by
    obtain ⟨p, x, y, w, h1, h2, h3, h4, h5⟩ := h
    exact ⟨p, x, y, w, h1, ex_t e h2, r.up e h3, q.up e h4, z.up e h5⟩⟩
/-- a drawing list -/
def rG : Rep Unit := ⟨fun s v _ => ∃ p, v = .ref p ∧ s.bg p, fun _ => False, fun g _ h => by
  obtain ⟨p, h1, h2⟩ := h
  exact ⟨p, h1, g.bg p h2⟩⟩
/-- a list of this def's own, made since s0 -/
def oL (s0 : S) {α : Type} (r : SRep α) (p : Addr) : Rep (List α) :=
  ⟨fun s v d => v = .ref p ∧ s0.hp p = none ∧ s.st p = none ∧ ¬ s.bg p ∧ ∃ xs, s.hp p = some (.lst xs) ∧ Paired (r.is s.st) xs d, fun a => a = p, fun {X s t v d} g hx h => by
    obtain ⟨h1, h2, h3, h4, xs, h5, h6⟩ := h
    have nx : ¬ X p := hx p rfl
    have ne : s.hp p ≠ none := by
      rw [h5]
      exact fun z => nomatch z
    exact ⟨h1, h2, (g.fr p nx ne).1 h3, fun z => h4 ((g.fr p nx ne).2 z), xs, g.hp p _ nx h4 h5, Paired.mono (fun _ _ => r.up g.st) h6⟩⟩

/-! ### what is looked at and not kept: the heap as it stood at the def's entry -/
open Classical in
noncomputable def old (s : S) : Hp := fun a => if s.bg a then none else s.hp a
theorem old_some {s : S} {a : Addr} {o : HO} (h : old s a = some o) : ¬ s.bg a ∧ s.hp a = some o := by
  unfold old at h
  by_cases hb : s.bg a
  · rw [if_pos hb] at h
    cases h
  · rw [if_neg hb] at h
    exact ⟨hb, h⟩
theorem old_of {s : S} {a : Addr} {o : HO} (hb : ¬ s.bg a) (h : s.hp a = some o) : old s a = some o := by
  unfold old
  rw [if_neg hb]
  exact h
theorem old_ex {s t : S} (g : Gr s t) : Ex (old s) t.hp := fun a o h => by
  obtain ⟨h1, h2⟩ := old_some h
  exact g.hp a o (fun z => z) h1 h2
theorem old_old {s t : S} (g : Gr s t) : Ex (old s) (old t) := fun a o h => by
  obtain ⟨h1, h2⟩ := old_some h
  exact old_of (fun z => h1 ((g.fr a (fun z => z) (by rw [h2]; exact fun z => nomatch z)).2 z)) (g.hp a o (fun z => z) h1 h2)
theorem st_old {s : S} (ok : Sok s) : Ex s.st (old s) := fun a o h => old_of (fun z => by rw [(ok.bag a z).1] at h; cases h) (ok.sub a o h)
def bR (s0 : S) {α : Type} (r : SRep α) : Rep α := ⟨fun _ v d => r.is (old s0) v d, fun _ => False, fun _ _ h => h⟩
theorem gr_of_gx {X : Addr → Prop} {s t : S} (g : Gx X s t) (h : ∀ a, ¬ X a) : Gr s t := g.mono fun a z => h a z
def bP {α : Type} (r : SRep α) : Rep α := ⟨fun s v d => r.is (old s) v d, fun _ => True, fun g hx h => r.up (old_old (gr_of_gx g fun a => hx a trivial)) h⟩

/-! ### the mirrors' monad -/
abbrev Exn := Str
abbrev M (ε α : Type) := (α → Prop) → (ε → Prop) → Prop
def ret {α : Type} (a : α) : M ε α := fun Q _ => Q a
def bd {α β : Type} (m : M ε α) (f : α → M ε β) : M ε β := fun Q E => m (fun a => f a Q E) E
/-- where ways come together -/
def jn {α β : Type} (m : M ε α) (f : α → M ε β) : M ε β := bd m f
def thr {α ε : Type} (e : ε) : M ε α := fun _ E => E e
def req (p : Prop) : M ε Unit := fun Q _ => p ∧ Q ()
def pick (n : Int) : M ε Int := fun Q _ => 0 < n ∧ ∀ r, 0 ≤ r → r < n → Q r
def ix {α : Type} (xs : List α) (i : Int) : M ε α := fun Q _ => ∃ v, atI xs i = some v ∧ Q v
def dv (a b : Int) : M ε Int := fun Q _ => (b ≠ 0 ∧ b.natAbs.log2 < 9000) ∧ Q (a.fdiv b)
def md (a b : Int) : M ε Int := fun Q _ => b ≠ 0 ∧ Q (a.fmod b)
def ml (a b : Int) : M ε Int := fun Q _ => CMulW a b ∧ Q (a * b)
def pw (a b : Int) : M ε Int := fun Q _ => CPow a b ∧ Q (a ^ b.toNat)
def put {α : Type} (xs : List α) (i : Int) (v : α) : M ε (List α) := fun Q _ => ∃ j, ixN xs.length i = some j ∧ Q (xs.set j v)
def app {α : Type} (xs : List α) (v : α) : M ε (List α) := fun Q _ => xs.length < 100000 ∧ Q (xs ++ [v])
def cat {α : Type} (xs ys : List α) : M ε (List α) := fun Q _ => xs.length + ys.length ≤ 100000 ∧ Q (xs ++ ys)
def rgs (a b : Int) : List Int := (List.range (b - a).toNat).map fun i => a + (i : Nat)
/-- range(a, b) that is walked -/
def rng (a b : Int) : M ε (List Int) := fun Q _ => (-(2 ^ 62) ≤ a ∧ a < 2 ^ 62 ∧ -(2 ^ 62) ≤ b ∧ b < 2 ^ 62) ∧ Q (rgs a b)
inductive Ctl (α β : Type) | nx (a : α) | rt (b : β)
def forS {α A : Type} (xs : List α) (a : A) (body : α → A → M ε A) : M ε A := match xs with
  | [] => ret a
  | x :: xs => bd (body x a) fun a' => forS xs a' body
def onC {A R γ : Type} (f : A → M ε γ) (g : R → M ε γ) : Ctl A R → M ε γ
  | .nx a => f a
  | .rt r => g r
def forC {α A R : Type} (xs : List α) (a : A) (body : α → A → M ε (Ctl A R)) : M ε (Ctl A R) := match xs with
  | [] => ret (.nx a)
  | x :: xs => bd (body x a) (onC (fun a' => forC xs a' body) fun r => ret (.rt r))
def whN {A : Type} (c : A → M ε Bool) (b : A → M ε A) : Nat → A → M ε A
  | 0, _ => fun _ _ => False
  | n + 1, a => bd (c a) fun t => if t = true then bd (b a) (whN c b n) else ret a
def wh {A : Type} (c : A → M ε Bool) (b : A → M ε A) (a : A) : M ε A := fun Q E => ∃ n, whN c b n a Q E
def mapM' {α β : Type} (f : α → M ε β) : List α → M ε (List β)
  | [] => ret []
  | x :: xs => bd (f x) fun y => bd (mapM' f xs) fun ys => ret (y :: ys)
def mapIf {α β : Type} (c : α → M ε Bool) (f : α → M ε β) : List α → M ε (List β)
  | [] => ret []
  | x :: xs => bd (c x) fun b => if b = true then bd (f x) fun y => bd (mapIf c f xs) fun ys => ret (y :: ys) else mapIf c f xs

/-! ### judgements -/
/-- how an exception is told: by its class's name -/
def cv (mg : Str → Option Value) (e : Exn) : Value := (mg e).getD .none
structure Cn (ε : Type) where
  s0 : S
  Em : ε → Prop
def Ev (C : Cn ε) (te : TE) (σ : L2.St) (s : S) {α : Type} (r : Rep α) (m : M ε α) : Prop :=
  ∀ t, Gr s t → Gr C.s0 t → ∀ Qm, m Qm C.Em → ∀ Q : VK, (∀ d v u, Qm d → Gr t u → r.is u v d → Q v u.hp) → te σ t.hp Q
/-- a new list -/
def EvN (C : Cn ε) (te : TE) (σ : L2.St) (s : S) {α : Type} (r : SRep α) (m : M ε (List α)) : Prop :=
  ∀ t, Gr s t → Gr C.s0 t → ∀ Qm, m Qm C.Em → ∀ Q : VK, (∀ d p u, Qm d → Gr t u → t.hp p = none → (oL C.s0 r p).is u (.ref p) d → Q (.ref p) u.hp) → te σ t.hp Q
def EvT (C : Cn ε) (tt : TT) (σ : L2.St) (s : S) (m : M ε Bool) : Prop :=
  ∀ t, Gr s t → Gr C.s0 t → ∀ Qm, m Qm C.Em → ∀ Q : Bool → Hp → Prop, (∀ d u, Qm d → Gr t u → Q d u.hp) → tt σ t.hp Q
structure ARep (A : Type) where
  is : S → List V → A → Prop
  up : ∀ {s t : S} {vs : List V} {a : A}, Gr s t → is s vs a → is t vs a
def aN : ARep Unit := ⟨fun _ vs _ => vs = [], fun _ h => h⟩
def aC {α A : Type} (r : Rep α) (ar : ARep A) : ARep (α × A) := ⟨fun s vs a => ∃ v ws, vs = v :: ws ∧ r.is s v a.1 ∧ ar.is s ws a.2, fun g h => by
  obtain ⟨v, ws, h1, h2, h3⟩ := h
  exact ⟨v, ws, h1, Rep.u g h2, ar.up g h3⟩⟩
def EvA (C : Cn ε) (ta : TA) (σ : L2.St) (s : S) {A : Type} (ar : ARep A) (m : M ε A) : Prop :=
  ∀ t, Gr s t → Gr C.s0 t → ∀ Qm, m Qm C.Em → ∀ Q : List V → Hp → Prop, (∀ a vs u, Qm a → Gr t u → ar.is u vs a → Q vs u.hp) → ta σ t.hp Q
def noE : Empty → Prop := fun e => nomatch e
/-- a def's promise: it lets nothing out | it may raise -/
def sp0 {A β : Type} (ar : ARep A) (f : A → M Empty β) (rr : S → Rep β) : Sp := fun vs H Q _ =>
  ∃ s a Qm, s.hp = H ∧ Sok s ∧ ar.is s vs a ∧ f a Qm noE ∧ (∀ d v u, Qm d → Gr s u → (rr s).is u v d → Q v u.hp)
/-- a call of a def that lets nothing out -/
def lft {ε α : Type} (m : M Empty α) : M ε α := fun Q _ => m Q noE
/-- a list that is new behind s -/
def nL {α : Type} (r : SRep α) (s : S) : Rep (List α) := ⟨fun u v d => ∃ p, v = .ref p ∧ (oL s r p).is u v d, fun _ => True, fun {X s' t v d} g hx h => by
  obtain ⟨p, h1, h2⟩ := h
  exact ⟨p, h1, (oL s r p).up g (fun a _ => hx a trivial) h2⟩⟩

section
variable {ε : Type} {C : Cn ε} {K : PySem.W.Frag} {σ : L2.St} {s : S} {α β γ A : Type}
theorem Ev.mono {te : TE} {r : Rep α} {m : M ε α} {s' : S} (g : Gr s s') (h : Ev C te σ s r m) : Ev C te σ s' r m := fun t g' => h t (g.trans g')
theorem ev_var {i : Nat} {v : V} {r : Rep α} {d : α} (h : r.is s v d) (hi : σ[i]? = some (some v) := by rfl) : Ev C (tVar i) σ s r (ret d) := fun t g _ _ hm _ k => ⟨v, hi, k d v t hm (Gx.refl g.ok) (Rep.u g h)⟩
theorem ev_int {i : Int} : Ev C (tC (.int i)) σ s sI.r (ret i) := fun t g _ _ hm _ k => k i _ t hm (Gx.refl g.ok) rfl
theorem ev_bl {i : Bool} : Ev C (tC (.bl i)) σ s sB.r (ret i) := fun t g _ _ hm _ k => k i _ t hm (Gx.refl g.ok) rfl
theorem ev_str {i : Str} : Ev C (tC (.str i)) σ s sS.r (ret i) := fun t g _ _ hm _ k => k i _ t hm (Gx.refl g.ok) rfl
theorem ev_non : Ev C (tC .non) σ s sU.r (ret ()) := fun t g _ _ hm _ k => k () _ t hm (Gx.refl g.ok) rfl
/-- two operands -/
theorem ev_2 {r : R2} {ta tb : TE} {ra : SRep α} {rb : Rep β} {rc : Rep γ} {ma : M ε α} {mb : M ε β} {f : α → β → M ε γ} (ha : Ev C ta σ s ra.r ma) (hb : Ev C tb σ s rb mb)
    (hr : ∀ a b x y u, Gr C.s0 u → ra.is u.st x a → rb.is u y b → ∀ Qm, f a b Qm C.Em → ∀ Q : VK, (∀ d v w, Qm d → Gr u w → rc.is w v d → Q v w.hp) → r x y u.hp Q) :
    Ev C (tOp r ta tb) σ s rc (bd ma fun a => bd mb fun b => f a b) := fun t g g0 Qm hm Q k =>
  ha t g g0 _ hm _ fun a x u qa gu hx => hb u (g.trans gu) (g0.trans gu) _ qa _ fun b y w qb gw hy =>
    hr a b x y w ((g0.trans gu).trans gw) (ra.up gw.st hx) hy _ qb Q fun d v z qd gz hz => k d v z qd ((gu.trans gw).trans gz) hz
theorem ev_1 {r : V → Hp → VK → Prop} {ta : TE} {ra : Rep α} {rc : Rep γ} {ma : M ε α} {f : α → M ε γ} (ha : Ev C ta σ s ra ma)
    (hr : ∀ a x u, Gr C.s0 u → ra.is u x a → ∀ Qm, f a Qm C.Em → ∀ Q : VK, (∀ d v w, Qm d → Gr u w → rc.is w v d → Q v w.hp) → r x u.hp Q) :
    Ev C (tUn r ta) σ s rc (bd ma fun a => f a) := fun t g g0 Qm hm Q k =>
  ha t g g0 _ hm _ fun a x u qa gu hx => hr a x u (g0.trans gu) hx _ qa Q fun d v z qd gz hz => k d v z qd (gu.trans gz) hz
theorem ev_I0 {g : Int → Int → V} {f : Int → Int → γ} {r : SRep γ} {ta tb : TE} {ma mb : M ε Int} (hg : ∀ H i j, r.is H (g i j) (f i j)) (ha : Ev C ta σ s sI.r ma) (hb : Ev C tb σ s sI.r mb) :
    Ev C (tOp (rI0 g) ta tb) σ s r.r (bd ma fun a => bd mb fun b => ret (f a b)) := ev_2 ha hb fun a b x y u g0 hx hy Qm hm Q k => ⟨a, b, hx, hy, k _ _ u hm (Gx.refl g0.ok) (hg _ _ _)⟩
theorem ev_IC {P : Int → Int → Prop} {g : Int → Int → V} {f : Int → Int → γ} {r : SRep γ} {ta tb : TE} {ma mb : M ε Int} (hg : ∀ H i j, r.is H (g i j) (f i j)) (ha : Ev C ta σ s sI.r ma) (hb : Ev C tb σ s sI.r mb) :
    Ev C (tOp (rI P g) ta tb) σ s r.r (bd ma fun a => bd mb fun b => fun Q _ => P a b ∧ Q (f a b)) := ev_2 ha hb fun a b x y u g0 hx hy Qm hm Q k => ⟨a, b, hx, hy, hm.1, k _ _ u hm.2 (Gx.refl g0.ok) (hg _ _ _)⟩
variable {ta tb : TE} {ma mb : M ε Int}
theorem ev_add (ha : Ev C ta σ s sI.r ma) (hb : Ev C tb σ s sI.r mb) : Ev C (tOp (rI0 fun i j => .int (i + j)) ta tb) σ s sI.r (bd ma fun a => bd mb fun b => ret (a + b)) := ev_I0 (fun _ _ _ => rfl) ha hb
theorem ev_sub (ha : Ev C ta σ s sI.r ma) (hb : Ev C tb σ s sI.r mb) : Ev C (tOp (rI0 fun i j => .int (i - j)) ta tb) σ s sI.r (bd ma fun a => bd mb fun b => ret (a - b)) := ev_I0 (fun _ _ _ => rfl) ha hb
theorem ev_lt (ha : Ev C ta σ s sI.r ma) (hb : Ev C tb σ s sI.r mb) : Ev C (tOp (rI0 fun i j => .bl (decide (i < j))) ta tb) σ s sB.r (bd ma fun a => bd mb fun b => ret (decide (a < b))) := ev_I0 (fun _ _ _ => rfl) ha hb
theorem ev_le (ha : Ev C ta σ s sI.r ma) (hb : Ev C tb σ s sI.r mb) : Ev C (tOp (rI0 fun i j => .bl (decide (i ≤ j))) ta tb) σ s sB.r (bd ma fun a => bd mb fun b => ret (decide (a ≤ b))) := ev_I0 (fun _ _ _ => rfl) ha hb
theorem ev_gt (ha : Ev C ta σ s sI.r ma) (hb : Ev C tb σ s sI.r mb) : Ev C (tOp (rI0 fun i j => .bl (decide (j < i))) ta tb) σ s sB.r (bd ma fun a => bd mb fun b => ret (decide (b < a))) := ev_I0 (fun _ _ _ => rfl) ha hb
theorem ev_ge (ha : Ev C ta σ s sI.r ma) (hb : Ev C tb σ s sI.r mb) : Ev C (tOp (rI0 fun i j => .bl (decide (j ≤ i))) ta tb) σ s sB.r (bd ma fun a => bd mb fun b => ret (decide (b ≤ a))) := ev_I0 (fun _ _ _ => rfl) ha hb
theorem ev_mul (ha : Ev C ta σ s sI.r ma) (hb : Ev C tb σ s sI.r mb) : Ev C (tOp (rI CMulW fun i j => .int (i * j)) ta tb) σ s sI.r (bd ma fun a => bd mb fun b => ml a b) := ev_IC (fun _ _ _ => rfl) ha hb
theorem ev_pow (ha : Ev C ta σ s sI.r ma) (hb : Ev C tb σ s sI.r mb) : Ev C (tOp (rI CPow fun i j => .int (i ^ j.toNat)) ta tb) σ s sI.r (bd ma fun a => bd mb fun b => pw a b) := ev_IC (fun _ _ _ => rfl) ha hb
theorem ev_mod (ha : Ev C ta σ s sI.r ma) (hb : Ev C tb σ s sI.r mb) : Ev C (tOp (rI (fun _ j => j ≠ 0) fun i j => .int (i.fmod j)) ta tb) σ s sI.r (bd ma fun a => bd mb fun b => md a b) := ev_IC (fun _ _ _ => rfl) ha hb
/-- // by a divisor of any sign -/
def CDivG (_ j : Int) : Prop := j ≠ 0 ∧ j.natAbs.log2 < 9000
theorem op_fdivG {X : Cx} : OpR X (binaryOp .FloorDiv) (rI CDivG fun i j => .int (i.fdiv j)) := opI fun i j _ _ _ _ _ hc q => floordiv_int hc.1 q (.inl (PyProof.noPylong_of_log2 hc.2))
theorem ev_div (ha : Ev C ta σ s sI.r ma) (hb : Ev C tb σ s sI.r mb) : Ev C (tOp (rI CDivG fun i j => .int (i.fdiv j)) ta tb) σ s sI.r (bd ma fun a => bd mb fun b => dv a b) := ev_IC (fun _ _ _ => rfl) ha hb
theorem ev_neg (ha : Ev C ta σ s sI.r ma) : Ev C (tUn (rU fun i => .int (-i)) ta) σ s sI.r (bd ma fun a => ret (-a)) := ev_1 ha fun a x u g0 hx Qm hm Q k => ⟨a, hx, k _ _ u hm (Gx.refl g0.ok) rfl⟩
theorem ev_eqI (ha : Ev C ta σ s sI.r ma) (hb : Ev C tb σ s sI.r mb) : Ev C (tOp rEq ta tb) σ s sB.r (bd ma fun a => bd mb fun b => ret (decide (a = b))) := ev_2 ha hb fun a b x y u g0 hx hy Qm hm Q k => by
  cases (show x = .int a from hx)
  cases (show y = .int b from hy)
  exact ⟨rfl, k _ _ u hm (Gx.refl g0.ok) (by rw [dec_int, Bool.beq_eq_decide_eq]; rfl)⟩
theorem ev_neI (ha : Ev C ta σ s sI.r ma) (hb : Ev C tb σ s sI.r mb) : Ev C (tOp rNe ta tb) σ s sB.r (bd ma fun a => bd mb fun b => ret (!decide (a = b))) := ev_2 ha hb fun a b x y u g0 hx hy Qm hm Q k => by
  cases (show x = .int a from hx)
  cases (show y = .int b from hy)
  exact ⟨rfl, k _ _ u hm (Gx.refl g0.ok) (by rw [dec_int, Bool.beq_eq_decide_eq]; rfl)⟩
theorem ev_eqB {ma mb : M ε Bool} (ha : Ev C ta σ s sB.r ma) (hb : Ev C tb σ s sB.r mb) : Ev C (tOp rEq ta tb) σ s sB.r (bd ma fun a => bd mb fun b => ret (a == b)) := ev_2 ha hb fun a b x y u g0 hx hy Qm hm Q k => by
  cases (show x = .bl a from hx)
  cases (show y = .bl b from hy)
  exact ⟨rfl, k _ _ u hm (Gx.refl g0.ok) (by rw [dec_bl]; rfl)⟩
theorem ev_neB {ma mb : M ε Bool} (ha : Ev C ta σ s sB.r ma) (hb : Ev C tb σ s sB.r mb) : Ev C (tOp rNe ta tb) σ s sB.r (bd ma fun a => bd mb fun b => ret (!(a == b))) := ev_2 ha hb fun a b x y u g0 hx hy Qm hm Q k => by
  cases (show x = .bl a from hx)
  cases (show y = .bl b from hy)
  exact ⟨rfl, k _ _ u hm (Gx.refl g0.ok) (by rw [dec_bl]; rfl)⟩
/-! lists that are read -/
/-- a value that is read as a list (a tuple) of r's -/
structure RdL (K : PySem.W.Frag) (s0 : S) (rp : Rep (List α)) (re : Rep α) : Prop where
  rd : ∀ {s v d}, Gr s0 s → rp.is s v d → ∃ p xs, v = .ref p ∧ SqL K s.hp p xs ∧ Paired (re.is s) xs d
structure RdT (K : PySem.W.Frag) (s0 : S) (rp : Rep (List α)) (re : Rep α) : Prop where
  rd : ∀ {s v d}, Gr s0 s → rp.is s v d → ∃ p xs, v = .ref p ∧ SqT K s.hp p xs ∧ Paired (re.is s) xs d
variable {s0 : S}
theorem rd_st {r : SRep α} : RdL K s0 (sL r).r r.r := ⟨fun g h => by
  obtain ⟨p, xs, h1, h2, h3⟩ := h
  exact ⟨p, xs, h1, sqL_of (g.ok.sub _ _ h2), h3⟩⟩
theorem rd_scr {r : SRep α} : RdL K s0 (sF K r).r r.r := ⟨fun g h => by
  obtain ⟨p, xs, h1, h2, h3⟩ := h
  exact ⟨p, xs, h1, ex_l g.ok.sub h2, h3⟩⟩
theorem rd_own {r : SRep α} {s1 : S} {p : Addr} : RdL K s0 (oL s1 r p) r.r := ⟨fun _ h => by
  obtain ⟨h1, _, _, _, xs, h5, h6⟩ := h
  exact ⟨p, xs, h1, sqL_of h5, h6⟩⟩
theorem rd_bor {r : SRep α} : RdL K s0 (bR s0 (sL r)) (bR s0 r) := ⟨fun g h => by
  obtain ⟨p, xs, h1, h2, h3⟩ := h
  exact ⟨p, xs, h1, sqL_of (old_ex g _ _ h2), h3⟩⟩
theorem rd_borF {r : SRep α} : RdL K s0 (bR s0 (sF K r)) (bR s0 r) := ⟨fun g h => by
  obtain ⟨p, xs, h1, h2, h3⟩ := h
  exact ⟨p, xs, h1, ex_l (old_ex g) h2, h3⟩⟩
theorem rd_tup {r : SRep α} : RdT K s0 (sT K r).r r.r := ⟨fun g h => by
  obtain ⟨p, xs, h1, h2, h3⟩ := h
  exact ⟨p, xs, h1, ex_t g.ok.sub h2, h3⟩⟩
theorem rd_borT {r : SRep α} : RdT K s0 (bR s0 (sT K r)) (bR s0 r) := ⟨fun g h => by
  obtain ⟨p, xs, h1, h2, h3⟩ := h
  exact ⟨p, xs, h1, ex_t (old_ex g) h2, h3⟩⟩
/-- what may be kept -/
def Dry (r : SRep α) : Prop := ∀ H H' v d, r.is H v d → r.is H' v d
theorem dry_I : Dry sI := fun _ _ _ _ h => h
theorem dry_B : Dry sB := fun _ _ _ _ h => h
theorem dry_U : Dry sU := fun _ _ _ _ h => h
theorem dry_S : Dry sS := fun _ _ _ _ h => h
structure Sta (s0 : S) (rp : Rep α) (r : SRep α) : Prop where
  st : ∀ {s v d}, Gr s0 s → rp.is s v d → r.is s.st v d
theorem sta_st {r : SRep α} : Sta s0 r.r r := ⟨fun _ h => h⟩
theorem sta_bor {r : SRep α} (h : Dry r) : Sta s0 (bR s0 r) r := ⟨fun _ e => h _ _ _ _ e⟩
theorem Sta.paired {rp : Rep α} {r : SRep α} (h : Sta s0 rp r) {s : S} (g : Gr s0 s) {xs : List V} {ds : List α} (p : Paired (rp.is s) xs ds) : Paired (r.is s.st) xs ds := Paired.mono (fun _ _ => h.st g) p
/-- a list of the run's own, as it stands -/
structure RdS (s0 : S) (rp : Rep (List α)) (r : SRep α) : Prop where
  rd : ∀ {s v d}, Gr s0 s → rp.is s v d → ∃ p xs, v = .ref p ∧ s.hp p = some (.lst xs) ∧ Paired (r.is s.st) xs d
theorem rs_st {r : SRep α} : RdS s0 (sL r).r r := ⟨fun g h => by
  obtain ⟨p, xs, h1, h2, h3⟩ := h
  exact ⟨p, xs, h1, g.ok.sub _ _ h2, h3⟩⟩
theorem rs_own {r : SRep α} {s1 : S} {p : Addr} : RdS s0 (oL s1 r p) r := ⟨fun _ h => by
  obtain ⟨h1, _, _, _, xs, h5, h6⟩ := h
  exact ⟨p, xs, h1, h5, h6⟩⟩
theorem rs_bor {r : SRep α} (d : Dry r) : RdS s0 (bR s0 (sL r)) r := ⟨fun g h => by
  obtain ⟨p, xs, h1, h2, h3⟩ := h
  exact ⟨p, xs, h1, old_ex g _ _ h2, Paired.mono (fun _ _ e => d _ _ _ _ e) h3⟩⟩
theorem paired_get {F : V → α → Prop} : ∀ {xs : List V} {ds : List α}, Paired F xs ds → ∀ {i : Nat} {d : α}, ds[i]? = some d → ∃ x, xs[i]? = some x ∧ F x d
  | _, _, .nil, _, _, h => by simp at h
  | _, _, .cons f _, 0, _, h => by
    simp at h
    subst h
    exact ⟨_, rfl, f⟩
  | _, _, .cons _ t, i + 1, _, h => by
    simp at h
    obtain ⟨x, h1, h2⟩ := paired_get t h
    exact ⟨x, by simpa using h1, h2⟩
theorem paired_at {F : V → α → Prop} {xs : List V} {ds : List α} (h : Paired F xs ds) {i : Int} {d : α} (e : atI ds i = some d) : ∃ x, atI xs i = some x ∧ F x d := by
  unfold atI at e ⊢
  rw [h.length]
  cases q : ixN ds.length i with
  | none =>
    rw [q] at e
    cases e
  | some j =>
    rw [q] at e
    exact paired_get h e
theorem paired_set {F : V → α → Prop} {v : V} {d : α} (f : F v d) : ∀ {xs : List V} {ds : List α}, Paired F xs ds → ∀ (j : Nat), Paired F (xs.set j v) (ds.set j d)
  | _, _, .nil, _ => .nil
  | _, _, .cons _ t, 0 => .cons f t
  | _, _, .cons g t, j + 1 => .cons g (paired_set f t j)
theorem paired_app {F : V → α → Prop} : ∀ {xs ys : List V} {ds es : List α}, Paired F xs ds → Paired F ys es → Paired F (xs ++ ys) (ds ++ es)
  | _, _, _, _, .nil, h => h
  | _, _, _, _, .cons f t, h => .cons f (paired_app t h)
theorem ev_ixL {tl ti : TE} {rp : Rep (List α)} {re : Rep α} {ml' : M ε (List α)} {mi : M ε Int} (rd : RdL K C.s0 rp re) (hl : Ev C tl σ s rp ml') (hi : Ev C ti σ s sI.r mi) :
    Ev C (tOp (rIxL K) tl ti) σ s re (bd ml' fun l => bd mi fun i => ix l i) := fun t g g0 Qm hm Q k =>
  hl t g g0 _ hm _ fun l x u ql gu hx => hi u (g.trans gu) (g0.trans gu) _ ql _ fun i y w qi gw hy => by
    obtain ⟨v, e, qv⟩ := qi
    obtain ⟨p, xs, e1, e2, e3⟩ := rd.rd ((g0.trans gu).trans gw) (Rep.u gw hx)
    obtain ⟨x', f1, f2⟩ := paired_at e3 e
    exact ⟨p, xs, i, x', e1, hy, e2, f1, k v x' w qv (gu.trans gw) f2⟩
theorem ev_ixT {tl ti : TE} {rp : Rep (List α)} {re : Rep α} {ml' : M ε (List α)} {mi : M ε Int} (rd : RdT K C.s0 rp re) (hl : Ev C tl σ s rp ml') (hi : Ev C ti σ s sI.r mi) :
    Ev C (tOp (rIxT K) tl ti) σ s re (bd ml' fun l => bd mi fun i => ix l i) := fun t g g0 Qm hm Q k =>
  hl t g g0 _ hm _ fun l x u ql gu hx => hi u (g.trans gu) (g0.trans gu) _ ql _ fun i y w qi gw hy => by
    obtain ⟨v, e, qv⟩ := qi
    obtain ⟨p, xs, e1, e2, e3⟩ := rd.rd ((g0.trans gu).trans gw) (Rep.u gw hx)
    obtain ⟨x', f1, f2⟩ := paired_at e3 e
    exact ⟨p, xs, i, x', e1, hy, e2, f1, k v x' w qv (gu.trans gw) f2⟩
/-- a place of a pair, of a triple -/
structure RdP (K : PySem.W.Frag) (s0 : S) {β : Type} (rp : Rep (α × β)) (ra : Rep α) (rb : Rep β) : Prop where
  rd : ∀ {s v d}, Gr s0 s → rp.is s v d → ∃ p x y, v = .ref p ∧ SqT K s.hp p [x, y] ∧ ra.is s x d.1 ∧ rb.is s y d.2
theorem rd_pair {r : SRep α} {q : SRep β} : RdP K s0 (sP K r q).r r.r q.r := ⟨fun g h => by
  obtain ⟨p, x, y, h1, h2, h3⟩ := h
  exact ⟨p, x, y, h1, ex_t g.ok.sub h2, h3⟩⟩
theorem rd_pairB {r : SRep α} {q : SRep β} : RdP K s0 (bR s0 (sP K r q)) (bR s0 r) (bR s0 q) := ⟨fun g h => by
  obtain ⟨p, x, y, h1, h2, h3⟩ := h
  exact ⟨p, x, y, h1, ex_t (old_ex g) h2, h3⟩⟩
theorem ev_p0 {tl : TE} {rp : Rep (α × β)} {ra : Rep α} {rb : Rep β} {m : M ε (α × β)} (rd : RdP K C.s0 rp ra rb) (hl : Ev C tl σ s rp m) : Ev C (tOp (rIxT K) tl (tC (.int 0))) σ s ra (bd m fun d => ret d.1) := fun t g g0 Qm hm Q k =>
  hl t g g0 _ hm _ fun d x u qd gu hx => by
    obtain ⟨p, a, b, e1, e2, e3, e4⟩ := rd.rd (g0.trans gu) hx
    exact ⟨p, [a, b], 0, a, e1, rfl, e2, rfl, k _ _ u qd gu e3⟩
theorem ev_p1 {tl : TE} {rp : Rep (α × β)} {ra : Rep α} {rb : Rep β} {m : M ε (α × β)} (rd : RdP K C.s0 rp ra rb) (hl : Ev C tl σ s rp m) : Ev C (tOp (rIxT K) tl (tC (.int 1))) σ s rb (bd m fun d => ret d.2) := fun t g g0 Qm hm Q k =>
  hl t g g0 _ hm _ fun d x u qd gu hx => by
    obtain ⟨p, a, b, e1, e2, e3, e4⟩ := rd.rd (g0.trans gu) hx
    exact ⟨p, [a, b], 1, b, e1, rfl, e2, rfl, k _ _ u qd gu e4⟩
theorem ev_lenL {tl : TE} {rp : Rep (List α)} {r : Rep α} {m : M ε (List α)} (rd : RdL K C.s0 rp r) (hl : Ev C tl σ s rp m) :
    Ev C (tCB (fun xs H Q => ∃ p ys, xs = [.ref p] ∧ (SqL K H p ys ∨ SqT K H p ys) ∧ Q (.int ys.length) H) (tCons tl tNil)) σ s sI.r (bd m fun l => ret (l.length : Int)) := fun t g g0 Qm hm Q k =>
  hl t g g0 _ hm _ fun l x u ql gu hx => by
    obtain ⟨p, xs, e1, e2, e3⟩ := rd.rd (g0.trans gu) hx
    refine ⟨p, xs, by rw [e1], .inl e2, ?_⟩
    rw [e3.length]
    exact k _ _ u ql gu rfl
theorem ev_lenT {tl : TE} {rp : Rep (List α)} {r : Rep α} {m : M ε (List α)} (rd : RdT K C.s0 rp r) (hl : Ev C tl σ s rp m) :
    Ev C (tCB (fun xs H Q => ∃ p ys, xs = [.ref p] ∧ (SqL K H p ys ∨ SqT K H p ys) ∧ Q (.int ys.length) H) (tCons tl tNil)) σ s sI.r (bd m fun l => ret (l.length : Int)) := fun t g g0 Qm hm Q k =>
  hl t g g0 _ hm _ fun l x u ql gu hx => by
    obtain ⟨p, xs, e1, e2, e3⟩ := rd.rd (g0.trans gu) hx
    refine ⟨p, xs, by rw [e1], .inr e2, ?_⟩
    rw [e3.length]
    exact k _ _ u ql gu rfl
/-! tests -/
theorem et_test {te : TE} {m : M ε Bool} (h : Ev C te σ s sB.r m) : EvT C (tTest te) σ s m := fun t g g0 Qm hm Q k => h t g g0 Qm hm _ fun d v u qd gu hv => ⟨d, hv, k d u qd gu⟩
theorem et_B {te : TE} {m : M ε Bool} (h : Ev C te σ s sB.r m) : EvT C (tB te) σ s m := fun t g g0 Qm hm Q k => h t g g0 Qm hm _ fun d v u qd gu hv => ⟨d, hv, k d u qd gu⟩
theorem et_and {t1 t2 : TT} {m1 m2 : M ε Bool} (h1 : EvT C t1 σ s m1) (h2 : EvT C t2 σ s m2) : EvT C (tAnd t1 t2) σ s (bd m1 fun b => if b = true then m2 else ret false) := fun t g g0 Qm hm Q k =>
  h1 t g g0 _ hm _ fun b u qb gu => by
    cases b with
    | true => exact h2 u (g.trans gu) (g0.trans gu) _ qb _ fun d w qd gw => k d w qd (gu.trans gw)
    | false => exact k _ u qb gu
theorem et_or {t1 t2 : TT} {m1 m2 : M ε Bool} (h1 : EvT C t1 σ s m1) (h2 : EvT C t2 σ s m2) : EvT C (tOr t1 t2) σ s (bd m1 fun b => if b = true then ret true else m2) := fun t g g0 Qm hm Q k =>
  h1 t g g0 _ hm _ fun b u qb gu => by
    cases b with
    | false => exact h2 u (g.trans gu) (g0.trans gu) _ qb _ fun d w qd gw => k d w qd (gu.trans gw)
    | true => exact k _ u qb gu
theorem et_not {t1 : TT} {m1 : M ε Bool} (h1 : EvT C t1 σ s m1) : EvT C (tNot t1) σ s (bd m1 fun b => ret (!b)) := fun t g g0 Qm hm Q k =>
  h1 t g g0 _ hm _ fun b u qb gu => k _ u qb gu
theorem ev_andV {t1 t2 : TE} {m1 m2 : M ε Bool} (h1 : Ev C t1 σ s sB.r m1) (h2 : Ev C t2 σ s sB.r m2) : Ev C (tAndV t1 t2) σ s sB.r (bd m1 fun b => if b = true then m2 else ret false) := fun t g g0 Qm hm Q k =>
  h1 t g g0 _ hm _ fun b x u qb gu hx => ⟨b, hx, by
    cases b with
    | true => exact h2 u (g.trans gu) (g0.trans gu) _ qb _ fun d v w qd gw => k d v w qd (gu.trans gw)
    | false => exact k _ _ u qb gu rfl⟩
theorem ev_orV {t1 t2 : TE} {m1 m2 : M ε Bool} (h1 : Ev C t1 σ s sB.r m1) (h2 : Ev C t2 σ s sB.r m2) : Ev C (tOrV t1 t2) σ s sB.r (bd m1 fun b => if b = true then ret true else m2) := fun t g g0 Qm hm Q k =>
  h1 t g g0 _ hm _ fun b x u qb gu hx => ⟨b, hx, by
    cases b with
    | false => exact h2 u (g.trans gu) (g0.trans gu) _ qb _ fun d v w qd gw => k d v w qd (gu.trans gw)
    | true => exact k _ _ u qb gu rfl⟩
theorem ev_notV {t1 : TE} {m1 : M ε Bool} (h1 : Ev C t1 σ s sB.r m1) : Ev C (tNotV t1) σ s sB.r (bd m1 fun b => ret (!b)) := fun t g g0 Qm hm Q k =>
  h1 t g g0 _ hm _ fun b x u qb gu hx => ⟨b, hx, k _ _ u qb gu rfl⟩
theorem ev_if {tt : TT} {t1 t2 : TE} {r : Rep α} {m : M ε Bool} {m1 m2 : M ε α} (h : EvT C tt σ s m) (h1 : Ev C t1 σ s r m1) (h2 : Ev C t2 σ s r m2) : Ev C (tIf tt t1 t2) σ s r (bd m fun b => if b = true then m1 else m2) := fun t g g0 Qm hm Q k =>
  h t g g0 _ hm _ fun b u qb gu => by
    cases b with
    | true => exact h1 u (g.trans gu) (g0.trans gu) _ qb _ fun d v w qd gw => k d v w qd (gu.trans gw)
    | false => exact h2 u (g.trans gu) (g0.trans gu) _ qb _ fun d v w qd gw => k d v w qd (gu.trans gw)
/-! another view of a value -/
structure Sees (s0 : S) (ra rb : Rep α) : Prop where
  of : ∀ {s v d}, Gr s0 s → ra.is s v d → rb.is s v d
theorem ev_as {te : TE} {ra rb : Rep α} {m : M ε α} (c : Sees C.s0 ra rb) (h : Ev C te σ s ra m) : Ev C te σ s rb m := fun t g g0 Qm hm Q k =>
  h t g g0 Qm hm Q fun d v u qd gu hv => k d v u qd gu (c.of (g0.trans gu) hv)
theorem see_bor {r : SRep α} : Sees s0 r.r (bP r) := ⟨fun g h => r.up (st_old g.ok) h⟩
theorem see_borB {r : SRep α} : Sees s0 (bR s0 r) (bP r) := ⟨fun g h => r.up (old_old g) h⟩
theorem see_own {r : SRep α} {s1 : S} {p : Addr} : Sees s0 (oL s1 r p) (bP (sL r)) := ⟨fun g h => by
  obtain ⟨h1, _, _, h4, xs, h5, h6⟩ := h
  exact ⟨p, xs, h1, old_of h4 h5, Paired.mono (fun _ _ => r.up (st_old g.ok)) h6⟩⟩
theorem see_dry {r : SRep α} (h : Dry r) : Sees s0 (bR s0 r) r.r := ⟨fun _ e => h _ _ _ _ e⟩
/-! arguments, calls -/
theorem ea_nil : EvA C tNil σ s aN (ret ()) := fun t g _ _ hm _ k => k () [] t hm (Gx.refl g.ok) rfl
theorem ea_cons {te : TE} {tr : TA} {r : Rep α} {ar : ARep A} {m : M ε α} {ms : M ε A} (h : Ev C te σ s r m) (hr : EvA C tr σ s ar ms) : EvA C (tCons te tr) σ s (aC r ar) (bd m fun a => bd ms fun as => ret (a, as)) := fun t g g0 Qm hm Q k =>
  h t g g0 _ hm _ fun a x u qa gu hx => hr u (g.trans gu) (g0.trans gu) _ qa _ fun as xs w qs gw hs => k (a, as) (x :: xs) w qs (gu.trans gw) ⟨x, xs, rfl, Rep.u gw hx, hs⟩
theorem ev_call {ta : TA} {ar : ARep A} {ma : M ε A} {f : A → M Empty β} {rr : Rep β} (h : EvA C ta σ s ar ma) : Ev C (tCall (sp0 ar f fun _ => rr) [] E0 ta) σ s rr (bd ma fun a => lft (f a)) := fun t g g0 Qm hm Q k =>
  h t g g0 _ hm _ fun a vs u qa gu hv => ⟨u, a, Qm, rfl, gu.ok, by rw [List.append_nil]; exact hv, qa, fun d v w qd gw hw => k d v w qd (gu.trans gw) hw⟩
theorem oL_base {s0 s1 : S} {r : SRep α} {p : Addr} {u : S} {v : V} {d : List α} (g : Gr s0 s1) (h : (oL s1 r p).is u v d) : (oL s0 r p).is u v d := by
  obtain ⟨h1, h2, h3⟩ := h
  refine ⟨h1, ?_, h3⟩
  cases q : s0.hp p with
  | none => rfl
  | some o => exact absurd h2 (g.al p (by rw [q]; exact fun z => nomatch z))
theorem evn_call {ta : TA} {ar : ARep A} {ma : M ε A} {f : A → M Empty (List β)} {r : SRep β} (h : EvA C ta σ s ar ma) : EvN C (tCall (sp0 ar f fun z => nL r z) [] E0 ta) σ s r (bd ma fun a => lft (f a)) := fun t g g0 Qm hm Q k =>
  h t g g0 _ hm _ fun a vs u qa gu hv => ⟨u, a, Qm, rfl, gu.ok, by rw [List.append_nil]; exact hv, qa, fun d v w qd gw hw => by
    obtain ⟨p, rfl, h1⟩ := hw
    have h2 := h1.2.1
    have h3 : t.hp p = none := by
      cases q : t.hp p with
      | none => rfl
      | some o => exact absurd h2 (gu.al p (by rw [q]; exact fun z => nomatch z))
    exact k d p w qd (gu.trans gw) h3 (oL_base (g0.trans gu) h1)⟩
/-- a new list that nobody changes any more -/
def frz (s : S) (p : Addr) (xs : List V) : S := ⟨upd s.st p (.lst xs), s.hp, s.bg⟩
theorem frz_gx {p : Addr} {xs : List V} (ok : Sok s) (h1 : s.st p = none) (h2 : ¬ s.bg p) (h3 : s.hp p = some (.lst xs)) : Gx (fun a => a = p) s (frz s p xs) where
  ok := ⟨fun a o e => by
      by_cases h : a = p
      · subst h
        have e' : upd s.st a (.lst xs) a = some o := e
        rw [upd_same] at e'
        cases e'
        exact h3
      · have e' : upd s.st p (.lst xs) a = some o := e
        rw [upd_ne h] at e'
        exact ok.sub a o e', fun a e => by
      have hne : a ≠ p := fun z => h2 (z ▸ e)
      refine ⟨?_, (ok.bag a e).2⟩
      show upd s.st p (.lst xs) a = none
      rw [upd_ne hne]
      exact (ok.bag a e).1⟩
  st := Ex.new h1
  hp := fun _ _ _ _ e => e
  bg := fun _ e => e
  fr := fun a hx _ => ⟨fun z => by
    show upd s.st p (.lst xs) a = none
    rw [upd_ne hx]
    exact z, fun z => z⟩
  al := fun _ e => e
theorem evn_ev {te : TE} {r : SRep α} {m : M ε (List α)} (h : EvN C te σ s r m) : Ev C te σ s (sL r).r m := fun t g g0 Qm hm Q k =>
  h t g g0 _ hm _ fun d p u qd gu hp ho => by
    obtain ⟨_, h2, h3, h4, xs, h5, h6⟩ := ho
    have gf := frz_gx gu.ok h3 h4 h5
    refine k d (.ref p) (frz u p xs) qd (Gr.gx gu gf (fun q e => ?_)) ⟨p, xs, rfl, upd_same, Paired.mono (fun _ _ => r.up gf.st) h6⟩
    cases e
    exact hp
end
end Z

namespace Z
open PySem PySem.Spec PyProof.Rows L2
section
variable {ε : Type} {C : Cn ε} {K : PySem.W.Frag} {σ : L2.St} {s : S} {α β γ A R : Type} {D : Ends}
/-! ### new objects -/
def mk (s : S) (p : Addr) (o : HO) : S := ⟨upd s.st p o, upd s.hp p o, s.bg⟩
/-- a new object that nobody changes -/
theorem mk_gr {p : Addr} {o : HO} (ok : Sok s) (h : s.hp p = none) : Gr s (mk s p o) where
  ok := ⟨fun a u e => by
    by_cases hh : a = p
    · subst hh
      have e' : upd s.st a o a = some u := e
      rw [upd_same] at e'
      cases e'
      exact upd_same
    · have e' : upd s.st p o a = some u := e
      rw [upd_ne hh] at e'
      show upd s.hp p o a = some u
      rw [upd_ne hh]
      exact ok.sub a u e', fun a e => by
    obtain ⟨e1, i, j, e2⟩ := ok.bag a e
    have hne : a ≠ p := fun z => by
      rw [z, h] at e2
      cases e2
    refine ⟨?_, i, j, ?_⟩
    · show upd s.st p o a = none
      rw [upd_ne hne]
      exact e1
    · show upd s.hp p o a = _
      rw [upd_ne hne]
      exact e2⟩
  st := Ex.new (by
    cases q : s.st p with
    | none => rfl
    | some u => rw [ok.sub p u q] at h; cases h)
  hp := fun a u _ _ e => Ex.new h a u e
  bg := fun _ e => e
  fr := fun a _ e => ⟨fun z => by
    show upd s.st p o a = none
    rw [upd_ne (fun z => e (by rw [z]; exact h))]
    exact z, fun z => z⟩
  al := fun a e => by
    show upd s.hp p o a ≠ none
    by_cases hh : a = p
    · subst hh
      rw [upd_same]
      exact fun z => nomatch z
    · rw [upd_ne hh]
      exact e
theorem mk_st {p : Addr} {o : HO} : (mk s p o).st p = some o := upd_same
theorem st_none {p : Addr} (ok : Sok s) (h : s.hp p = none) : s.st p = none := by
  cases q : s.st p with
  | none => rfl
  | some u => rw [ok.sub p u q] at h; cases h
theorem bg_not {p : Addr} (ok : Sok s) (h : s.hp p = none) : ¬ s.bg p := fun z => by
  obtain ⟨_, i, j, e⟩ := ok.bag p z
  rw [h] at e
  cases e
/-- a new object of one's own | one's own object changed -/
def wr (s : S) (p : Addr) (o : HO) : S := ⟨s.st, upd s.hp p o, s.bg⟩
theorem wr_gx {p : Addr} {o : HO} (ok : Sok s) (h : s.st p = none) (hb : ¬ s.bg p) : Gx (fun a => a = p) s (wr s p o) where
  ok := ⟨fun a u e => by
    have hne : a ≠ p := fun z => by
      have e' : s.st a = some u := e
      rw [z, h] at e'
      cases e'
    show upd s.hp p o a = some u
    rw [upd_ne hne]
    exact ok.sub a u e, fun a e => by
    obtain ⟨e1, i, j, e2⟩ := ok.bag a e
    have hne : a ≠ p := fun z => hb (z ▸ e)
    refine ⟨e1, i, j, ?_⟩
    show upd s.hp p o a = _
    rw [upd_ne hne]
    exact e2⟩
  st := Ex.refl _
  hp := fun a u hx _ e => by
    show upd s.hp p o a = some u
    rw [upd_ne hx]
    exact e
  bg := fun _ e => e
  fr := fun _ _ _ => ⟨fun z => z, fun z => z⟩
  al := fun a e => by
    show upd s.hp p o a ≠ none
    by_cases hh : a = p
    · subst hh
      rw [upd_same]
      exact fun z => nomatch z
    · rw [upd_ne hh]
      exact e
theorem new_gr {p : Addr} {o : HO} (ok : Sok s) (h : s.hp p = none) : Gr s (wr s p o) := (wr_gx ok (st_none ok h) (bg_not ok h)).cut fun a e => by
  cases e
  exact h
theorem new_own {s0 : S} {r : SRep α} {p : Addr} {xs : List V} {ds : List α} (G : Gr s0 s) (h : s.hp p = none) (hp : Paired (r.is s.st) xs ds) : (oL s0 r p).is (wr s p (.lst xs)) (.ref p) ds := by
  refine ⟨rfl, ?_, st_none (s := s) G.ok h, bg_not (s := s) G.ok h, xs, upd_same, hp⟩
  cases q : s0.hp p with
  | none => rfl
  | some o => exact absurd h (G.al p (by rw [q]; exact fun z => nomatch z))
theorem oL_ne {s0 : S} {r : SRep α} {p q : Addr} {v : V} {d : List α} (h : (oL s0 r p).is s v d) (hq : s.hp q = none) : p ≠ q := fun z => by
  obtain ⟨_, _, _, _, xs, e, _⟩ := h
  rw [z, hq] at e
  cases e
/-- one's own list changed -/
theorem own_wr {s0 : S} {r : SRep α} {p : Addr} {v : V} {d e : List α} {xs : List V} (G : Gr s0 s) (h : (oL s0 r p).is s v d) (hp : Paired (r.is s.st) xs e) :
    (oL s0 r p).is (wr s p (.lst xs)) v e ∧ Gr s0 (wr s p (.lst xs)) ∧ Gx (fun a => a = p) s (wr s p (.lst xs)) := by
  obtain ⟨h1, h2, h3, h4, ys, h5, h6⟩ := h
  have g := wr_gx (o := .lst xs) G.ok h3 h4
  refine ⟨⟨h1, h2, h3, h4, xs, upd_same, hp⟩, Gr.gx G g fun a e => ?_, g⟩
  cases e
  exact h2
/-- one's own list kept as it is from now on -/
theorem own_frz {s0 : S} {r : SRep α} {p : Addr} {v : V} {d : List α} (G : Gr s0 s) (h : (oL s0 r p).is s v d) :
    ∃ t, t.hp = s.hp ∧ Gr s0 t ∧ Gx (fun a => a = p) s t ∧ (sL r).r.is t v d := by
  obtain ⟨h1, h2, h3, h4, xs, h5, h6⟩ := h
  have g := frz_gx G.ok h3 h4 h5
  refine ⟨frz s p xs, rfl, Gr.gx G g fun a e => ?_, g, p, xs, h1, upd_same, Paired.mono (fun _ _ => r.up g.st) h6⟩
  cases e
  exact h2

/-! ### displays, list(..), tuple(..), + and * of lists -/
def EvLs (C : Cn ε) (ta : TA) (σ : L2.St) (s : S) {α : Type} (r : SRep α) (m : M ε (List α)) (n : Nat) : Prop :=
  ∀ t, Gr s t → Gr C.s0 t → ∀ Qm, m Qm C.Em → ∀ Q : List V → Hp → Prop, (∀ ds vs u, Qm ds → Gr t u → ds.length = n → Paired (r.is u.st) vs ds → Q vs u.hp) → ta σ t.hp Q
theorem el_nil {r : SRep α} : EvLs C tNil σ s r (ret []) 0 := fun t g _ _ hm _ k => k [] [] t hm (Gx.refl g.ok) rfl .nil
theorem el_cons {te : TE} {tr : TA} {r : SRep α} {m : M ε α} {ms : M ε (List α)} {n : Nat} (h : Ev C te σ s r.r m) (hr : EvLs C tr σ s r ms n) : EvLs C (tCons te tr) σ s r (bd m fun a => bd ms fun as => ret (a :: as)) (n + 1) := fun t g g0 Qm hm Q k =>
  h t g g0 _ hm _ fun a x u qa gu hx => hr u (g.trans gu) (g0.trans gu) _ qa _ fun as xs w qs gw hl hs => k (a :: as) (x :: xs) w qs (gu.trans gw) (by rw [List.length_cons, hl]) (.cons (r.up gw.st hx) hs)
theorem sizeLine_100000 {n : Nat} (h : n ≤ 100000) : n ≤ sizeLine := Nat.le_trans h (by decide)
theorem evn_lst {ta : TA} {r : SRep α} {m : M ε (List α)} {n : Nat} (h : EvLs C ta σ s r m n) (hn : n ≤ 100000) : EvN C (tLst ta) σ s r m := fun t g g0 Qm hm Q k =>
  h t g g0 _ hm _ fun ds vs u qd gu hl hp => ⟨by rw [hp.length, hl]; exact sizeLine_100000 hn, fun p hp0 =>
    k ds p (wr u p (.lst vs)) qd (gu.trans (new_gr gu.ok hp0)) (by
      cases q : t.hp p with
      | none => rfl
      | some o => exact absurd hp0 (gu.al p (by rw [q]; exact fun z => nomatch z))) (new_own (g0.trans gu) hp0 hp)⟩
theorem ev_lst {ta : TA} {r : SRep α} {m : M ε (List α)} {n : Nat} (h : EvLs C ta σ s r m n) (hn : n ≤ 100000) : Ev C (tLst ta) σ s (sL r).r m := evn_ev (evn_lst h hn)
theorem mk_tup {p : Addr} {xs : List V} : SqT K (mk s p (.tup xs)).st p xs := sqT_of mk_st
theorem ev_tup {ta : TA} {r : SRep α} {m : M ε (List α)} {n : Nat} (h : EvLs C ta σ s r m n) (hn : n ≤ 100000) : Ev C (tTup ta) σ s (sT K r).r m := fun t g g0 Qm hm Q k =>
  h t g g0 _ hm _ fun ds vs u qd gu hl hp => ⟨by rw [hp.length, hl]; exact sizeLine_100000 hn, fun p hp0 => by
    have gm := mk_gr (o := .tup vs) gu.ok hp0
    exact k ds (.ref p) (mk u p (.tup vs)) qd (gu.trans gm) ⟨p, vs, rfl, mk_tup, Paired.mono (fun _ _ => r.up gm.st) hp⟩⟩
theorem ev_pair {t1 t2 : TE} {r : SRep α} {q : SRep β} {m1 : M ε α} {m2 : M ε β} (h1 : Ev C t1 σ s r.r m1) (h2 : Ev C t2 σ s q.r m2) : Ev C (tTup (tCons t1 (tCons t2 tNil))) σ s (sP K r q).r (bd m1 fun a => bd m2 fun b => ret (a, b)) := fun t g g0 Qm hm Q k =>
  h1 t g g0 _ hm _ fun a x u qa gu hx => h2 u (g.trans gu) (g0.trans gu) _ qa _ fun b y w qb gw hy => ⟨by show 2 ≤ sizeLine; decide, fun p hp0 => by
    have gm := mk_gr (o := .tup [x, y]) gw.ok hp0
    exact k (a, b) (.ref p) (mk w p (.tup [x, y])) qb ((gu.trans gw).trans gm) ⟨p, x, y, rfl, mk_tup, r.up (Ex.trans gw.st gm.st) hx, q.up gm.st hy⟩⟩
theorem ev_trip {t1 t2 t3 : TE} {r : SRep α} {q : SRep β} {z : SRep γ} {m1 : M ε α} {m2 : M ε β} {m3 : M ε γ} (h1 : Ev C t1 σ s r.r m1) (h2 : Ev C t2 σ s q.r m2) (h3 : Ev C t3 σ s z.r m3) : Ev C (tTup (tCons t1 (tCons t2 (tCons t3 tNil)))) σ s (sP3 K r q z).r (bd m1 fun a => bd m2 fun b => bd m3 fun c => ret (a, b, c)) := fun t g g0 Qm hm Q k =>
  h1 t g g0 _ hm _ fun a x u qa gu hx => h2 u (g.trans gu) (g0.trans gu) _ qa _ fun b y w qb gw hy => h3 w ((g.trans gu).trans gw) ((g0.trans gu).trans gw) _ qb _ fun c y3 w3 qc gw3 hy3 => ⟨by show 3 ≤ sizeLine; decide, fun p hp0 => by
    have gm := mk_gr (o := .tup [x, y, y3]) gw3.ok hp0
    exact k (a, b, c) (.ref p) (mk w3 p (.tup [x, y, y3])) qc (((gu.trans gw).trans gw3).trans gm) ⟨p, x, y, y3, rfl, mk_tup, r.up (Ex.trans (Ex.trans gw.st gw3.st) gm.st) hx, q.up (Ex.trans gw3.st gm.st) hy, z.up gm.st hy3⟩⟩
theorem hp_back {t u : S} {p : Addr} (g : Gr t u) (h : u.hp p = none) : t.hp p = none := by
  cases q : t.hp p with
  | none => rfl
  | some o => exact absurd h (g.al p (by rw [q]; exact fun z => nomatch z))
abbrev rListOf (K : PySem.W.Frag) : List V → Hp → VK → Prop := fun xs H Q => ∃ p ys, xs = [.ref p] ∧ (SqL K H p ys ∨ SqT K H p ys) ∧ ∀ l, H l = none → Q (.ref l) (upd H l (.lst ys))
abbrev rTupleOf (K : PySem.W.Frag) : List V → Hp → VK → Prop := fun xs H Q => ∃ p ys, xs = [.ref p] ∧ ((SqL K H p ys ∧ ∀ l, H l = none → Q (.ref l) (upd H l (.tup ys))) ∨ (SqT K H p ys ∧ Q (.ref p) H))
theorem evn_listL {tl : TE} {rp : Rep (List α)} {re : Rep α} {r : SRep α} {m : M ε (List α)} (rd : RdL K C.s0 rp re) (sta : Sta C.s0 re r) (h : Ev C tl σ s rp m) : EvN C (tCB (rListOf K) (tCons tl tNil)) σ s r m := fun t g g0 Qm hm Q k =>
  h t g g0 _ hm _ fun d x u qd gu hx => by
    obtain ⟨p, xs, e1, e2, e3⟩ := rd.rd (g0.trans gu) hx
    exact ⟨p, xs, by rw [e1], .inl e2, fun l hl => k d l (wr u l (.lst xs)) qd (gu.trans (new_gr gu.ok hl)) (hp_back gu hl) (new_own (g0.trans gu) hl (sta.paired (g0.trans gu) e3))⟩
theorem evn_listT {tl : TE} {rp : Rep (List α)} {re : Rep α} {r : SRep α} {m : M ε (List α)} (rd : RdT K C.s0 rp re) (sta : Sta C.s0 re r) (h : Ev C tl σ s rp m) : EvN C (tCB (rListOf K) (tCons tl tNil)) σ s r m := fun t g g0 Qm hm Q k =>
  h t g g0 _ hm _ fun d x u qd gu hx => by
    obtain ⟨p, xs, e1, e2, e3⟩ := rd.rd (g0.trans gu) hx
    exact ⟨p, xs, by rw [e1], .inr e2, fun l hl => k d l (wr u l (.lst xs)) qd (gu.trans (new_gr gu.ok hl)) (hp_back gu hl) (new_own (g0.trans gu) hl (sta.paired (g0.trans gu) e3))⟩
theorem ev_tupleL {tl : TE} {rp : Rep (List α)} {re : Rep α} {r : SRep α} {m : M ε (List α)} (rd : RdL K C.s0 rp re) (sta : Sta C.s0 re r) (h : Ev C tl σ s rp m) : Ev C (tCB (rTupleOf K) (tCons tl tNil)) σ s (sT K r).r m := fun t g g0 Qm hm Q k =>
  h t g g0 _ hm _ fun d x u qd gu hx => by
    obtain ⟨p, xs, e1, e2, e3⟩ := rd.rd (g0.trans gu) hx
    refine ⟨p, xs, by rw [e1], .inl ⟨e2, fun l hl => ?_⟩⟩
    have gm := mk_gr (o := .tup xs) gu.ok hl
    exact k d (.ref l) (mk u l (.tup xs)) qd (gu.trans gm) ⟨l, xs, rfl, mk_tup, Paired.mono (fun _ _ => r.up gm.st) (sta.paired (g0.trans gu) e3)⟩
theorem ev_tupleT {tl : TE} {r : SRep α} {m : M ε (List α)} (h : Ev C tl σ s (sT K r).r m) : Ev C (tCB (rTupleOf K) (tCons tl tNil)) σ s (sT K r).r m := fun t g g0 Qm hm Q k =>
  h t g g0 _ hm _ fun d x u qd gu hx => by
    obtain ⟨p, xs, e1, e2, e3⟩ := hx
    exact ⟨p, xs, by rw [e1], .inr ⟨ex_t gu.ok.sub e2, by rw [← e1]; exact k d x u qd gu ⟨p, xs, e1, e2, e3⟩⟩⟩
theorem evn_cat {ta tb : TE} {rp rq : Rep (List α)} {r : SRep α} {m1 m2 : M ε (List α)} (ra : RdS C.s0 rp r) (rb : RdS C.s0 rq r) (h1 : Ev C ta σ s rp m1) (h2 : Ev C tb σ s rq m2) : EvN C (tOp rCat ta tb) σ s r (bd m1 fun a => bd m2 fun b => cat a b) := fun t g g0 Qm hm Q k =>
  h1 t g g0 _ hm _ fun a x u qa gu hx => h2 u (g.trans gu) (g0.trans gu) _ qa _ fun b y w qb gw hy => by
    obtain ⟨p, xs, e1, e2, e3⟩ := ra.rd ((g0.trans gu).trans gw) (Rep.u gw hx)
    obtain ⟨q, ys, f1, f2, f3⟩ := rb.rd ((g0.trans gu).trans gw) hy
    refine ⟨p, q, xs, ys, e1, f1, e2, f2, by rw [e3.length, f3.length]; exact sizeLine_100000 qb.1, fun l hl => ?_⟩
    exact k (a ++ b) l (wr w l (.lst (xs ++ ys))) qb.2 ((gu.trans gw).trans (new_gr gw.ok hl)) (hp_back gu (hp_back gw hl)) (new_own ((g0.trans gu).trans gw) hl (paired_app e3 f3))
/-- n times a list -/
def reps (xs : List α) (n : Int) : M ε (List α) := fun Q _ => (-(2 ^ 63) ≤ n ∧ n < 2 ^ 63 ∧ xs.length * n.toNat ≤ 100000) ∧ Q (List.replicate n.toNat xs).flatten
theorem paired_rep {F : V → α → Prop} {xs : List V} {ds : List α} (h : Paired F xs ds) : ∀ k : Nat, Paired F (List.replicate k xs).flatten (List.replicate k ds).flatten
  | 0 => .nil
  | k + 1 => by
    rw [List.replicate_succ, List.replicate_succ, List.flatten_cons, List.flatten_cons]
    exact paired_app h (paired_rep h k)
theorem evn_rep {ta tb : TE} {rp : Rep (List α)} {r : SRep α} {m1 : M ε (List α)} {m2 : M ε Int} (ra : RdS C.s0 rp r) (h1 : Ev C ta σ s rp m1) (h2 : Ev C tb σ s sI.r m2) : EvN C (tOp rRep ta tb) σ s r (bd m1 fun a => bd m2 fun b => reps a b) := fun t g g0 Qm hm Q k =>
  h1 t g g0 _ hm _ fun a x u qa gu hx => h2 u (g.trans gu) (g0.trans gu) _ qa _ fun b y w qb gw hy => by
    obtain ⟨p, xs, e1, e2, e3⟩ := ra.rd ((g0.trans gu).trans gw) (Rep.u gw hx)
    refine ⟨p, b, xs, e1, hy, e2, qb.1.1, qb.1.2.1, by rw [e3.length]; exact sizeLine_100000 qb.1.2.2, fun l hl => ?_⟩
    exact k _ l (wr w l (.lst (List.replicate b.toNat xs).flatten)) qb.2 ((gu.trans gw).trans (new_gr gw.ok hl)) (hp_back gu (hp_back gw hl)) (new_own ((g0.trans gu).trans gw) hl (paired_rep e3 _))
/-- list(range(a, b)) -/
def lrg (a b : Int) : M ε (List Int) := fun Q _ => (-100000 ≤ a ∧ a ≤ 100000 ∧ -100000 ≤ b ∧ b ≤ 100000) ∧ Q (rgs a b)
theorem paired_rgs (H : Hp) (a b : Int) : Paired (sI.is H) (rgV a b) (rgs a b) := by
  unfold rgV rgs
  generalize List.range (b - a).toNat = l
  induction l with
  | nil => exact .nil
  | cons x l ih => exact .cons rfl ih
theorem rgOk_100000 {a b : Int} (h : -100000 ≤ a ∧ a ≤ 100000 ∧ -100000 ≤ b ∧ b ≤ 100000) : RgOk a b := ⟨by omega, by omega, by omega, by omega, by omega⟩
theorem evn_lrg1 {ta : TE} {m : M ε Int} (h : Ev C ta σ s sI.r m) : EvN C (tLstRg (tRg1 ta)) σ s sI (bd m fun b => lrg 0 b) := fun t g g0 Qm hm Q k =>
  h t g g0 _ hm _ fun b x u qb gu hx => ⟨b, hx, rgOk_100000 qb.1, fun l hl => k _ l (wr u l (.lst (rgV 0 b))) qb.2 (gu.trans (new_gr gu.ok hl)) (hp_back gu hl) (new_own (g0.trans gu) hl (paired_rgs _ _ _))⟩
theorem evn_lrg2 {ta tb : TE} {m1 m2 : M ε Int} (h1 : Ev C ta σ s sI.r m1) (h2 : Ev C tb σ s sI.r m2) : EvN C (tLstRg (tRg2 ta tb)) σ s sI (bd m1 fun a => bd m2 fun b => lrg a b) := fun t g g0 Qm hm Q k =>
  h1 t g g0 _ hm _ fun a x u qa gu hx => h2 u (g.trans gu) (g0.trans gu) _ qa _ fun b y w qb gw hy => ⟨a, b, hx, hy, rgOk_100000 qb.1, fun l hl => k _ l (wr w l (.lst (rgV a b))) qb.2 ((gu.trans gw).trans (new_gr gw.ok hl)) (hp_back gu (hp_back gw hl)) (new_own ((g0.trans gu).trans gw) hl (paired_rgs _ _ _))⟩
/-! ### statements -/
variable {Qm : γ → Prop}
theorem seq {t u : TS} {H : Hp} (h : t { D with nx := u D } σ H) : tSeq t u D σ H := h
theorem s_set {i : Nat} {σf : V → L2.St} {te : TE} {tr : TS} {r : Rep α} {m : M ε α} {k : α → M ε γ} (h : Ev C te σ s r m) (hm : bd m k Qm C.Em) (G : Gr C.s0 s) (hσ : ∀ v, σ.set i (some v) = σf v)
    (next : ∀ d v t, Gr s t → r.is t v d → k d Qm C.Em → tr D (σf v) t.hp) : tSeq (tAsg te (gName i)) tr D σ s.hp := h s (Gx.refl G.ok) G _ hm _ fun d v u qd gu hv => by
  show tr D (σ.set i (some v)) u.hp
  rw [hσ]
  exact next d v u gu hv qd
theorem s_setN {i : Nat} {σf : V → L2.St} {te : TE} {tr : TS} {r : SRep α} {m : M ε (List α)} {k : List α → M ε γ} (h : EvN C te σ s r m) (hm : bd m k Qm C.Em) (G : Gr C.s0 s) (hσ : ∀ v, σ.set i (some v) = σf v)
    (next : ∀ d p t, Gr s t → s.hp p = none → (oL C.s0 r p).is t (.ref p) d → k d Qm C.Em → tr D (σf (.ref p)) t.hp) : tSeq (tAsg te (gName i)) tr D σ s.hp := h s (Gx.refl G.ok) G _ hm _ fun d p u qd gu hp hv => by
  show tr D (σ.set i (some (.ref p))) u.hp
  rw [hσ]
  exact next d p u gu hp hv qd
theorem s_drop {te : TE} {tr : TS} {r : Rep α} {m : M ε α} {k : α → M ε γ} (h : Ev C te σ s r m) (hm : bd m k Qm C.Em) (G : Gr C.s0 s) (next : ∀ d t, Gr s t → k d Qm C.Em → tr D σ t.hp) : tSeq (tDrop te) tr D σ s.hp :=
  h s (Gx.refl G.ok) G _ hm _ fun d v u qd gu hv => next d u gu qd
theorem s_ret {te : TE} {tr : TS} {r : Rep α} {m : M ε α} {Qm : α → Prop} (h : Ev C te σ s r m) (hm : m Qm C.Em) (G : Gr C.s0 s) (fin : ∀ d v u, Qm d → Gr C.s0 u → r.is u v d → D.rt v u.hp) : tSeq (tRet te) tr D σ s.hp :=
  h s (Gx.refl G.ok) G _ hm _ fun d v u qd gu hv => fin d v u qd (G.trans gu) hv
theorem s_retN {te : TE} {tr : TS} {r : SRep α} {m : M ε (List α)} {Qm : List α → Prop} (h : EvN C te σ s r m) (hm : m Qm C.Em) (G : Gr C.s0 s) (fin : ∀ d p u, Qm d → Gr C.s0 u → (oL C.s0 r p).is u (.ref p) d → D.rt (.ref p) u.hp) : tSeq (tRet te) tr D σ s.hp :=
  h s (Gx.refl G.ok) G _ hm _ fun d p u qd gu hp hv => fin d p u qd (G.trans gu) hv
/-- both ways end within | the first one does -/
theorem s_if {tt : TT} {tu tw tr : TS} {m : M ε Bool} {m1 m2 : M ε γ} (h : EvT C tt σ s m) (hm : bd m (fun b => if b = true then m1 else m2) Qm C.Em) (G : Gr C.s0 s)
    (yes : ∀ t, Gr s t → m1 Qm C.Em → tu { D with nx := tr D } σ t.hp) (no : ∀ t, Gr s t → m2 Qm C.Em → tw { D with nx := tr D } σ t.hp) : tSeq (tIfS tt tu tw) tr D σ s.hp := h s (Gx.refl G.ok) G _ hm _ fun b u qb gu => by
  cases b with
  | true => exact yes u gu qb
  | false => exact no u gu qb
theorem s_if1 {tt : TT} {tu tr : TS} {m : M ε Bool} {m1 m2 : M ε γ} (h : EvT C tt σ s m) (hm : bd m (fun b => if b = true then m1 else m2) Qm C.Em) (G : Gr C.s0 s)
    (yes : ∀ t, Gr s t → m1 Qm C.Em → tu { D with nx := tr D } σ t.hp) (no : ∀ t, Gr s t → m2 Qm C.Em → tr D σ t.hp) : tSeq (tIfS tt tu tNext) tr D σ s.hp := h s (Gx.refl G.ok) G _ hm _ fun b u qb gu => by
  cases b with
  | true => exact yes u gu qb
  | false => exact no u gu qb
/-- the ways of an if come together -/
theorem s_ifj {A : Type} {tt : TT} {tu tw tr : TS} {m : M ε Bool} {m1 m2 : M ε A} {k : A → M ε γ} (I : A → L2.St → S → Prop) (h : EvT C tt σ s m) (hm : jn (bd m fun b => if b = true then m1 else m2) k Qm C.Em) (G : Gr C.s0 s)
    (yes : ∀ t, Gr s t → ∀ Qb : A → Prop, m1 Qb C.Em → tu { D with nx := fun σ2 H2 => ∃ a s2, s2.hp = H2 ∧ Qb a ∧ I a σ2 s2 } σ t.hp)
    (no : ∀ t, Gr s t → ∀ Qb : A → Prop, m2 Qb C.Em → tw { D with nx := fun σ2 H2 => ∃ a s2, s2.hp = H2 ∧ Qb a ∧ I a σ2 s2 } σ t.hp)
    (next : ∀ a σ2 s2, I a σ2 s2 → k a Qm C.Em → tr D σ2 s2.hp) : C8.tCut (tIfS tt tu tw) tr D σ s.hp := by
  refine ⟨fun σ2 H2 => ∃ a s2, s2.hp = H2 ∧ k a Qm C.Em ∧ I a σ2 s2, h s (Gx.refl G.ok) G _ hm _ fun b u qb gu => ?_, fun σ2 H2 hq => ?_⟩
  · cases b with
    | true => exact yes u gu _ qb
    | false => exact no u gu _ qb
  · obtain ⟨a, s2, e, qk, hI⟩ := hq
    subst e
    exact next a σ2 s2 hI qk
/-- .. one of which may hand back -/
theorem s_ifc {A : Type} {tt : TT} {tu tw tr : TS} {m : M ε Bool} {m1 m2 : M ε (Ctl A R)} {kn : A → M ε γ} {kr : R → M ε γ} (I : A → L2.St → S → Prop) (h : EvT C tt σ s m) (hm : jn (bd m fun b => if b = true then m1 else m2) (onC kn kr) Qm C.Em) (G : Gr C.s0 s)
    (yes : ∀ t, Gr s t → ∀ Qb : Ctl A R → Prop, (∀ d, Qb (.rt d) → kr d Qm C.Em) → m1 Qb C.Em → tu { D with nx := fun σ2 H2 => ∃ a s2, s2.hp = H2 ∧ Qb (.nx a) ∧ I a σ2 s2 } σ t.hp)
    (no : ∀ t, Gr s t → ∀ Qb : Ctl A R → Prop, (∀ d, Qb (.rt d) → kr d Qm C.Em) → m2 Qb C.Em → tw { D with nx := fun σ2 H2 => ∃ a s2, s2.hp = H2 ∧ Qb (.nx a) ∧ I a σ2 s2 } σ t.hp)
    (next : ∀ a σ2 s2, I a σ2 s2 → kn a Qm C.Em → tr D σ2 s2.hp) : C8.tCut (tIfS tt tu tw) tr D σ s.hp := by
  refine ⟨fun σ2 H2 => ∃ a s2, s2.hp = H2 ∧ kn a Qm C.Em ∧ I a σ2 s2, h s (Gx.refl G.ok) G _ hm _ fun b u qb gu => ?_, fun σ2 H2 hq => ?_⟩
  · cases b with
    | true => exact yes u gu (fun c => onC kn kr c Qm C.Em) (fun _ q => q) qb
    | false => exact no u gu (fun c => onC kn kr c Qm C.Em) (fun _ q => q) qb
  · obtain ⟨a, s2, e, qk, hI⟩ := hq
    subst e
    exact next a σ2 s2 hI qk
/-- p.append(e), xs[i] = e: one's own list -/
theorem s_app {p : Addr} {v : V} {ta te : TE} {tr : TS} {r : SRep α} {ds : List α} {m : M ε α} {k : List α → M ε γ} (hp : (oL C.s0 r p).is s v ds) (ha : Ev C ta σ s (oL C.s0 r p) (ret ds)) (h : Ev C te σ s r.r m) (hm : bd (bd m fun d => app ds d) k Qm C.Em) (G : Gr C.s0 s)
    (next : ∀ es t, Gx (fun a => a = p) s t → Gr C.s0 t → (oL C.s0 r p).is t v es → k es Qm C.Em → tr D σ t.hp) : tSeq (tDrop (tBM K "list" rAppend ta (tCons te tNil))) tr D σ s.hp :=
  ha s (Gx.refl G.ok) G (fun d => d = ds) rfl _ fun d1 x u e1 gu hx => by
    subst e1
    obtain ⟨h1, h2, h3, h4, xs, h5, h6⟩ := hx
    refine ⟨by rw [h1]; exact Or.inl ⟨rfl, xs, sqL_of h5⟩, h u gu (G.trans gu) _ hm _ fun d y w qd gw hy => ?_⟩
    have hw := Rep.u (gu.trans gw) hp
    have hxs : w.hp p = some (.lst xs) := gw.hp p _ (fun z => z) h4 h5
    have h6' : Paired (r.is w.st) xs d1 := Paired.mono (fun _ _ => r.up gw.st) h6
    obtain ⟨o1, o2, o3⟩ := own_wr (xs := xs ++ [y]) ((G.trans gu).trans gw) hw (paired_app h6' (.cons hy .nil))
    refine ⟨p, xs, y, h1, rfl, hxs, Nat.lt_of_lt_of_le (by rw [h6'.length]; exact qd.1) (by decide : 100000 ≤ sizeLine), ?_⟩
    exact next _ (wr w p (.lst (xs ++ [y]))) (Gx.trans (Gx.of_gr (gu.trans gw)) o3) o2 o1 qd.2
theorem ixN_of {n : Nat} {i : Int} {j : Nat} (h : ixN n i = some j) : j < n := (ixN_seq h).2.1
theorem s_put {p : Addr} {v : V} {ta ti te : TE} {tr : TS} {r : SRep α} {ds : List α} {m : M ε α} {mi : M ε Int} {k : List α → M ε γ} (hp : (oL C.s0 r p).is s v ds) (ha : Ev C ta σ s (oL C.s0 r p) (ret ds)) (h : Ev C te σ s r.r m) (hi : Ev C ti σ s sI.r mi) (hm : bd (bd m fun d => bd mi fun i => put ds i d) k Qm C.Em) (G : Gr C.s0 s)
    (next : ∀ es t, Gx (fun a => a = p) s t → Gr C.s0 t → (oL C.s0 r p).is t v es → k es Qm C.Em → tr D σ t.hp) : tSeq (tAsg te (gSub ta ti rSetL)) tr D σ s.hp :=
  h s (Gx.refl G.ok) G _ hm _ fun d y u qd gu hy => ha u gu (G.trans gu) (fun d => d = ds) rfl _ fun d1 x w e1 gw hx => by
    subst e1
    refine hi w (gu.trans gw) ((G.trans gu).trans gw) _ qd _ fun i z x2 qi gx hz => ?_
    obtain ⟨j, ej, qj⟩ := qi
    have hw := Rep.u ((gu.trans gw).trans gx) hp
    have hw' := hw
    obtain ⟨h1, h2, h3, h4, xs, h5, h6⟩ := hw'
    obtain ⟨o1, o2, o3⟩ := own_wr (xs := xs.set j y) (((G.trans gu).trans gw).trans gx) hw (paired_set (r.up (Ex.trans gw.st gx.st) hy) h6 j)
    refine ⟨p, xs, i, j, hx.1, hz, h5, by rw [h6.length]; exact ej, ?_⟩
    exact next _ (wr x2 p (.lst (xs.set j y))) (Gx.trans (Gx.of_gr ((gu.trans gw).trans gx)) o3) o2 o1 qj
theorem gname_do {i : Nat} {v : V} {σ' : L2.St} {H : Hp} {Q : L2.St → Hp → Prop} (h : σ.set i (some v) = σ') (q : Q σ' H) : gName i v σ H Q := by
  show Q (σ.set i (some v)) H
  rw [h]
  exact q
/-! ### what is walked, while X may be changed -/
def Goes (J : It) (u : S) (X : Addr → Prop) {α : Type} (re : Rep α) (ds : List α) : Prop :=
  ∀ i (w : S), Gx X u w → (∀ d, ds[i]? = some d → J.go i w.hp ∧ ∀ x H', J.yld i w.hp x H' → H' = w.hp ∧ re.is w x d) ∧ (ds.length ≤ i → J.stop i w.hp)
def EvI (C : Cn ε) (wi : TI) (σ : L2.St) (s : S) (X : Addr → Prop) {α : Type} (re : Rep α) (m : M ε (List α)) : Prop :=
  ∀ t, Gr s t → Gr C.s0 t → ∀ Qm, m Qm C.Em → ∀ R : It → Hp → Prop, (∀ ds J u, Qm ds → Gr t u → Goes J u X re ds → R J u.hp) → wi σ t.hp R
variable {X : Addr → Prop}
/-- nothing of C's entry is changed -/
def NewX (s0 : S) (X : Addr → Prop) : Prop := ∀ a, X a → s0.hp a = none
theorem newx_no {s0 : S} : NewX s0 No := fun _ z => z.elim
theorem newx_1 {s0 : S} {p : Addr} (h : s0.hp p = none) : NewX s0 (fun a => a = p) := fun a z => z ▸ h
theorem newx_or {s0 : S} {X Y : Addr → Prop} (h1 : NewX s0 X) (h2 : NewX s0 Y) : NewX s0 (fun a => X a ∨ Y a) := fun a z => z.elim (h1 a) (h2 a)
theorem ei_list {tl : TE} {rp : Rep (List α)} {re : Rep α} {m : M ε (List α)} (rd : RdL K C.s0 rp re) (hX : NewX C.s0 X) (hf : ∀ a, rp.fp a → ¬ X a) (h : Ev C tl σ s rp m) : EvI C (iList K tl) σ s X re m := fun t g g0 Qm hm Q k =>
  h t g g0 _ hm _ fun d x u qd gu hx => by
    obtain ⟨p, xs, e1, e2, e3⟩ := rd.rd (g0.trans gu) hx
    refine ⟨p, e1, ⟨xs, e2⟩, k d (Itl K p) u qd gu fun i w gx => ?_⟩
    obtain ⟨p', xs', f1, h1, h3⟩ := rd.rd (Gr.gx (g0.trans gu) gx hX) (Rep.ux gx hf hx)
    cases e1.symm.trans f1
    refine ⟨fun y hy => ?_, fun hl => ⟨xs', h1, by rw [h3.length]; exact hl⟩⟩
    obtain ⟨z, f1, f2⟩ := paired_get h3 hy
    exact ⟨⟨xs', z, h1, f1⟩, fun x' H' ⟨e, f⟩ => ⟨e, by rw [Option.some.inj ((f xs' h1).symm.trans f1)]; exact f2⟩⟩
theorem ei_tup {tl : TE} {rp : Rep (List α)} {re : Rep α} {m : M ε (List α)} (rd : RdT K C.s0 rp re) (hX : NewX C.s0 X) (hf : ∀ a, rp.fp a → ¬ X a) (h : Ev C tl σ s rp m) : EvI C (iTup K tl) σ s X re m := fun t g g0 Qm hm Q k =>
  h t g g0 _ hm _ fun d x u qd gu hx => by
    obtain ⟨p, xs, e1, e2, e3⟩ := rd.rd (g0.trans gu) hx
    refine ⟨p, e1, ⟨xs, e2⟩, k d (Itt K p) u qd gu fun i w gx => ?_⟩
    obtain ⟨p', xs', f1, h1, h3⟩ := rd.rd (Gr.gx (g0.trans gu) gx hX) (Rep.ux gx hf hx)
    cases e1.symm.trans f1
    refine ⟨fun y hy => ?_, fun hl => ⟨xs', h1, by rw [h3.length]; exact hl⟩⟩
    obtain ⟨z, f1, f2⟩ := paired_get h3 hy
    exact ⟨⟨xs', z, h1, f1⟩, fun x' H' ⟨e, f⟩ => ⟨e, by rw [Option.some.inj ((f xs' h1).symm.trans f1)]; exact f2⟩⟩
theorem rgs_length (a b : Int) : (rgs a b).length = (b - a).toNat := by
  unfold rgs
  rw [List.length_map, List.length_range]
theorem rgs_get {a b : Int} {i : Nat} {d : Int} (h : (rgs a b)[i]? = some d) : d = a + (i : Int) ∧ i < (b - a).toNat := by
  have hi : i < (rgs a b).length := (List.getElem?_eq_some_iff.mp h).1
  rw [rgs_length] at hi
  unfold rgs at h
  rw [List.getElem?_map, List.getElem?_range hi] at h
  simp at h
  exact ⟨h.symm, hi⟩
theorem goes_rng {u : S} {a b : Int} {n : Nat} (hn : n = (b - a).toNat) : Goes (Itr a n) u X sI.r (rgs a b) := fun i w gx => by
  subst hn
  refine ⟨fun d hd => ?_, fun hl => by rw [rgs_length] at hl; exact hl⟩
  obtain ⟨e1, e2⟩ := rgs_get hd
  exact ⟨e2, fun x H' ⟨e, f⟩ => ⟨e, by rw [f, e1]; rfl⟩⟩
theorem ei_rng1 {ta : TE} {m : M ε Int} (h : Ev C ta σ s sI.r m) : EvI C (iRng1 (tCons ta tNil)) σ s X sI.r (bd m fun b => rng 0 b) := fun t g g0 Qm hm Q k =>
  h t g g0 _ hm _ fun b x u qb gu hx => ⟨b, by rw [(show x = .int b from hx)], qb.1.2.2.1, qb.1.2.2.2, k _ _ u qb.2 gu (goes_rng (by omega))⟩
theorem ei_rng2 {ta tb : TE} {m1 m2 : M ε Int} (h1 : Ev C ta σ s sI.r m1) (h2 : Ev C tb σ s sI.r m2) : EvI C (iRng2 (tCons ta (tCons tb tNil))) σ s X sI.r (bd m1 fun a => bd m2 fun b => rng a b) := fun t g g0 Qm hm Q k =>
  h1 t g g0 _ hm _ fun a x u qa gu hx => h2 u (g.trans gu) (g0.trans gu) _ qa _ fun b y w qb gw hy =>
    ⟨a, b, by rw [(show x = .int a from hx), (show y = .int b from hy)], ⟨qb.1.1, qb.1.2.1, qb.1.2.2.1, qb.1.2.2.2⟩, k _ _ w qb.2 (gu.trans gw) (goes_rng rfl)⟩
/-! ### loops -/
theorem drop_some {ds : List α} {i : Nat} {d : α} (h : ds[i]? = some d) : ds.drop i = d :: ds.drop (i + 1) := by
  obtain ⟨h1, h2⟩ := List.getElem?_eq_some_iff.mp h
  rw [List.drop_eq_getElem_cons h1, h2]
theorem s_for {A : Type} {wi : TI} {g : TG} {tb tr : TS} {re : Rep α} {mi : M ε (List α)} {a0 : A} {body : α → A → M ε A} {k : A → M ε γ} (I : S → A → L2.St → S → Prop)
    (hi : EvI C wi σ s X re mi) (hm : bd mi (fun ds => bd (forS ds a0 body) k) Qm C.Em) (G : Gr C.s0 s) (hI : ∀ u a σ' s', I u a σ' s' → Gx X u s') (h0 : ∀ u, Gr s u → I u a0 σ u)
    (turn : ∀ u x v a σ' s', Gr s u → I u a σ' s' → re.is s' v x → ∀ Qb : A → Prop, body x a Qb C.Em → g v σ' s'.hp fun σ2 H2 => tb { D with nx := fun σ3 H3 => ∃ a' s3, s3.hp = H3 ∧ Qb a' ∧ I u a' σ3 s3, ct := fun σ3 H3 => ∃ a' s3, s3.hp = H3 ∧ Qb a' ∧ I u a' σ3 s3, bk := tr D } σ2 H2)
    (after : ∀ u a σ' s', Gr s u → I u a σ' s' → k a Qm C.Em → tr D σ' s'.hp) : tSeq (tFor wi g tb) tr D σ s.hp := hi s (Gx.refl G.ok) G _ hm _ fun ds J u qd gu go => by
  refine ⟨fun i m σ' H' => m = ds.length - i ∧ i ≤ ds.length ∧ ∃ a s', s'.hp = H' ∧ I u a σ' s' ∧ forS (ds.drop i) a body (fun a => k a Qm C.Em) C.Em, ⟨ds.length, by simp, Nat.zero_le _, a0, u, rfl, h0 u gu, by rw [List.drop_zero]; exact qd⟩, fun i m σ' H' hw => ?_⟩
  obtain ⟨rfl, hl, a, s', rfl, hi', hf⟩ := hw
  obtain ⟨g1, g2⟩ := go i s' (hI u a σ' s' hi')
  cases hd : ds[i]? with
  | none =>
    have hl' : ds.length ≤ i := List.getElem?_eq_none_iff.mp hd
    refine .inl ⟨g2 hl', after u a σ' s' gu hi' ?_⟩
    rw [List.drop_of_length_le hl'] at hf
    exact hf
  | some d =>
    obtain ⟨g3, g4⟩ := g1 d hd
    have hlt : i < ds.length := (List.getElem?_eq_some_iff.mp hd).1
    rw [drop_some hd] at hf
    refine .inr ⟨g3, fun σ3 H3 => ∃ a' s3, s3.hp = H3 ∧ forS (ds.drop (i + 1)) a' body (fun a => k a Qm C.Em) C.Em ∧ I u a' σ3 s3, fun σ3 H3 hN => ?_, fun x H' hy => ?_⟩
    · obtain ⟨a', s3, e1, e2, e3⟩ := hN
      exact ⟨ds.length - (i + 1), by omega, rfl, hlt, a', s3, e1, e3, e2⟩
    · obtain ⟨rfl, hx⟩ := g4 x H' hy
      exact turn u d x a σ' s' gu hi' hx _ hf
theorem s_forc {A : Type} {wi : TI} {g : TG} {tb tr : TS} {re : Rep α} {mi : M ε (List α)} {a0 : A} {body : α → A → M ε (Ctl A R)} {kn : A → M ε γ} {kr : R → M ε γ} (I : S → A → L2.St → S → Prop)
    (hi : EvI C wi σ s X re mi) (hm : bd mi (fun ds => bd (forC ds a0 body) (onC kn kr)) Qm C.Em) (G : Gr C.s0 s) (hI : ∀ u a σ' s', I u a σ' s' → Gx X u s') (h0 : ∀ u, Gr s u → I u a0 σ u)
    (turn : ∀ u x v a σ' s', Gr s u → I u a σ' s' → re.is s' v x → ∀ Qb : Ctl A R → Prop, (∀ d, Qb (.rt d) → kr d Qm C.Em) → body x a Qb C.Em → g v σ' s'.hp fun σ2 H2 => tb { D with nx := fun σ3 H3 => ∃ a' s3, s3.hp = H3 ∧ Qb (.nx a') ∧ I u a' σ3 s3, ct := fun σ3 H3 => ∃ a' s3, s3.hp = H3 ∧ Qb (.nx a') ∧ I u a' σ3 s3, bk := tr D } σ2 H2)
    (after : ∀ u a σ' s', Gr s u → I u a σ' s' → kn a Qm C.Em → tr D σ' s'.hp) : tSeq (tFor wi g tb) tr D σ s.hp := hi s (Gx.refl G.ok) G _ hm _ fun ds J u qd gu go => by
  refine ⟨fun i m σ' H' => m = ds.length - i ∧ i ≤ ds.length ∧ ∃ a s', s'.hp = H' ∧ I u a σ' s' ∧ forC (ds.drop i) a body (fun a => onC kn kr a Qm C.Em) C.Em, ⟨ds.length, by simp, Nat.zero_le _, a0, u, rfl, h0 u gu, by rw [List.drop_zero]; exact qd⟩, fun i m σ' H' hw => ?_⟩
  obtain ⟨rfl, hl, a, s', rfl, hi', hf⟩ := hw
  obtain ⟨g1, g2⟩ := go i s' (hI u a σ' s' hi')
  cases hd : ds[i]? with
  | none =>
    have hl' : ds.length ≤ i := List.getElem?_eq_none_iff.mp hd
    refine .inl ⟨g2 hl', after u a σ' s' gu hi' ?_⟩
    rw [List.drop_of_length_le hl'] at hf
    exact hf
  | some d =>
    obtain ⟨g3, g4⟩ := g1 d hd
    have hlt : i < ds.length := (List.getElem?_eq_some_iff.mp hd).1
    rw [drop_some hd] at hf
    refine .inr ⟨g3, fun σ3 H3 => ∃ a' s3, s3.hp = H3 ∧ forC (ds.drop (i + 1)) a' body (fun a => onC kn kr a Qm C.Em) C.Em ∧ I u a' σ3 s3, fun σ3 H3 hN => ?_, fun x H' hy => ?_⟩
    · obtain ⟨a', s3, e1, e2, e3⟩ := hN
      exact ⟨ds.length - (i + 1), by omega, rfl, hlt, a', s3, e1, e3, e2⟩
    · obtain ⟨rfl, hx⟩ := g4 x H' hy
      refine turn u d x a σ' s' gu hi' hx (fun c => onC (fun a' => forC (ds.drop (i + 1)) a' body) (fun r => ret (.rt r)) c (fun a => onC kn kr a Qm C.Em) C.Em) (fun d q => q) hf
theorem s_while {A : Type} {tt : TT} {tb tr : TS} {a0 : A} {cm : A → M ε Bool} {bm : A → M ε A} {k : A → M ε γ} (I : A → L2.St → S → Prop)
    (hm : bd (wh cm bm a0) k Qm C.Em) (hI : ∀ a σ' s', I a σ' s' → Gr C.s0 s') (h0 : I a0 σ s) (test : ∀ a σ' s', I a σ' s' → EvT C tt σ' s' (cm a))
    (turn : ∀ a σ' s' t, I a σ' s' → Gr s' t → ∀ Qb : A → Prop, bm a Qb C.Em → tb { D with nx := fun σ3 H3 => ∃ a' s3, s3.hp = H3 ∧ Qb a' ∧ I a' σ3 s3, ct := fun σ3 H3 => ∃ a' s3, s3.hp = H3 ∧ Qb a' ∧ I a' σ3 s3, bk := tr D } σ' t.hp)
    (after : ∀ a σ' s' t, I a σ' s' → Gr s' t → k a Qm C.Em → tr D σ' t.hp) : tSeq (tWhile tt tb) tr D σ s.hp := by
  obtain ⟨n0, hn0⟩ := hm
  refine ⟨fun m σ' H' => ∃ a s', s'.hp = H' ∧ I a σ' s' ∧ whN cm bm m a (fun a => k a Qm C.Em) C.Em, ⟨n0, a0, s, rfl, h0, hn0⟩, fun m σ' H' hw => ?_⟩
  obtain ⟨a, s', rfl, hi, hf⟩ := hw
  cases m with
  | zero => exact hf.elim
  | succ m =>
    refine test a σ' s' hi s' (Gx.refl (hI a σ' s' hi).ok) (hI a σ' s' hi) _ hf _ fun b u qb gu => ?_
    cases b with
    | true =>
      refine ⟨fun σ3 H3 => ∃ a' s3, s3.hp = H3 ∧ whN cm bm m a' (fun a => k a Qm C.Em) C.Em ∧ I a' σ3 s3, fun σ3 H3 hN => ?_, turn a σ' s' u hi gu _ qb⟩
      obtain ⟨a', s3, e1, e2, e3⟩ := hN
      exact ⟨m, Nat.lt_succ_self m, a', s3, e1, e3, e2⟩
    | false => exact after a σ' s' u hi gu qb
/-! ### comprehensions -/
def lim (n : Nat) : M ε Unit := req (n ≤ 100000)
theorem mapM_run {ε : Type} {f : α → M ε β} {Q : List β → Prop} {E : ε → Prop} {x : α} {xs : List α} {acc : List β} (h : mapM' f (x :: xs) (fun ys => Q (acc ++ ys)) E) : f x (fun y => mapM' f xs (fun ys => Q ((acc ++ [y]) ++ ys)) E) E := by
  have e : (fun y => mapM' f xs (fun ys => Q ((acc ++ [y]) ++ ys)) E) = (fun y => (bd (mapM' f xs) fun ys => ret (y :: ys)) (fun ys => Q (acc ++ ys)) E) := by
    funext y
    show _ = mapM' f xs (fun ys => Q (acc ++ (y :: ys))) E
    congr 1
    funext ys
    rw [List.append_assoc]
    rfl
  rw [e]
  exact h
/-- [te for g in wi] -/
theorem evn_lc {wi : TI} {j : Nat} {te : TE} {vs : List Nat} {σf : V → L2.St} {re : Rep α} {q : SRep β} {mi : M ε (List α)} {f : α → M ε β} (hi : EvI C wi σ s No re mi) (h1 : ∀ v, (wipe σ vs).set j (some v) = σf v) (h2 : ∀ v, wipe (σf v) vs = wipe σ vs)
    (he : ∀ x v t, Gr s t → Gr C.s0 t → re.is t v x → Ev C te (σf v) t q.r (f x)) : EvN C (tLc wi (gName j) tYes te vs) σ s q (bd mi fun ds => bd (lim ds.length) fun _ => mapM' f ds) := fun t g g0 Qm hm Q k =>
  hi t g g0 _ hm _ fun ds J u qd gu go D hD => by
    obtain ⟨hlim, qd⟩ := qd
    refine ⟨fun i m H' => m = ds.length - i ∧ i ≤ ds.length ∧ ∃ w acc ys, w.hp = H' ∧ Gr u w ∧ w.st D = none ∧ ¬ w.bg D ∧ w.hp D = some (.lst acc) ∧ Paired (q.is w.st) acc ys ∧ ys.length = i ∧ mapM' f (ds.drop i) (fun zs => Qm (ys ++ zs)) C.Em,
      ⟨ds.length, by simp, Nat.zero_le _, wr u D (.lst []), [], [], rfl, new_gr gu.ok hD, st_none (s := u) gu.ok hD, bg_not (s := u) gu.ok hD, upd_same, .nil, rfl, by rw [List.drop_zero]; exact qd⟩, fun i m H' hw => ?_⟩
    obtain ⟨rfl, hl, w, acc, ys, rfl, gw, w1, w2, w3, w4, w5, hf⟩ := hw
    have gw0 := (g0.trans gu).trans gw
    obtain ⟨g1, g2⟩ := go i w gw
    cases hd : ds[i]? with
    | none =>
      have hl' : ds.length ≤ i := List.getElem?_eq_none_iff.mp hd
      rw [List.drop_of_length_le hl'] at hf
      refine .inl ⟨g2 hl', k ys D w (by have hf' : Qm (ys ++ []) := hf; rw [List.append_nil] at hf'; exact hf') (gu.trans gw) (hp_back gu hD) ⟨rfl, ?_, w1, w2, acc, w3, w4⟩⟩
      exact hp_back (g0.trans gu) hD
    | some d =>
      obtain ⟨g3, g4⟩ := g1 d hd
      have hlt : i < ds.length := (List.getElem?_eq_some_iff.mp hd).1
      rw [drop_some hd] at hf
      have hf := mapM_run hf
      refine .inr ⟨g3, fun H3 => ∃ m', m' < ds.length - i ∧ (m' = ds.length - (i + 1) ∧ i + 1 ≤ ds.length ∧ ∃ w acc ys, w.hp = H3 ∧ Gr u w ∧ w.st D = none ∧ ¬ w.bg D ∧ w.hp D = some (.lst acc) ∧ Paired (q.is w.st) acc ys ∧ ys.length = i + 1 ∧ mapM' f (ds.drop (i + 1)) (fun zs => Qm (ys ++ zs)) C.Em), fun H3 hN => hN, fun x H' hy => ?_⟩
      obtain ⟨rfl, hx⟩ := g4 x H' hy
      refine gname_do (h1 x) ⟨h2 x, ?_⟩
      dsimp only [tYes]
      rw [if_pos rfl]
      refine he d x w (g.trans (gu.trans gw)) gw0 hx w (Gx.refl gw.ok) gw0 _ hf _ fun y v z qy gz hv => ?_
      have z3 : z.hp D = some (.lst acc) := gz.hp D _ (fun e => e) w2 w3
      have ne : w.hp D ≠ none := by rw [w3]; exact fun e => nomatch e
      have z1 := (gz.fr D (fun e => e) ne).1 w1
      have z2 : ¬ z.bg D := fun e => w2 ((gz.fr D (fun e => e) ne).2 e)
      have gx := wr_gx (o := .lst (acc ++ [v])) gz.ok z1 z2
      refine ⟨acc, z3, Nat.lt_of_lt_of_le (show acc.length < 100000 by rw [w4.length, w5]; omega) (by decide : 100000 ≤ sizeLine), ds.length - (i + 1), by omega, rfl, hlt, wr z D (.lst (acc ++ [v])), acc ++ [v], ys ++ [y], rfl,
        Gr.gx (gw.trans gz) gx (fun a e => by cases e; exact hD), z1, z2, upd_same, paired_app (Paired.mono (fun _ _ => q.up gz.st) w4) (.cons hv .nil), by rw [List.length_append, w5]; rfl, qy⟩
theorem mapIf_run {ε : Type} {c : α → M ε Bool} {f : α → M ε β} {Q : List β → Prop} {E : ε → Prop} {x : α} {xs : List α} {acc : List β} (h : mapIf c f (x :: xs) (fun ys => Q (acc ++ ys)) E) : c x (fun b => if b = true then f x (fun y => mapIf c f xs (fun ys => Q ((acc ++ [y]) ++ ys)) E) E else mapIf c f xs (fun ys => Q (acc ++ ys)) E) E := by
  have e : (fun b => if b = true then f x (fun y => mapIf c f xs (fun ys => Q ((acc ++ [y]) ++ ys)) E) E else mapIf c f xs (fun ys => Q (acc ++ ys)) E) = (fun b : Bool => (if b = true then bd (f x) fun y => bd (mapIf c f xs) fun ys => ret (y :: ys) else mapIf c f xs) (fun ys => Q (acc ++ ys)) E) := by
    funext b
    cases b with
    | false => rfl
    | true =>
      show f x (fun y => mapIf c f xs (fun ys => Q ((acc ++ [y]) ++ ys)) E) E = f x (fun y => mapIf c f xs (fun ys => Q (acc ++ (y :: ys))) E) E
      congr 1
      funext y
      congr 1
      funext ys
      rw [List.append_assoc]
      rfl
  rw [e]
  exact h
/-- [te for g in wi if tt] -/
theorem evn_lcIf {wi : TI} {j : Nat} {tt : TT} {te : TE} {vs : List Nat} {σf : V → L2.St} {re : Rep α} {q : SRep β} {mi : M ε (List α)} {c : α → M ε Bool} {f : α → M ε β} (hi : EvI C wi σ s No re mi) (h1 : ∀ v, (wipe σ vs).set j (some v) = σf v) (h2 : ∀ v, wipe (σf v) vs = wipe σ vs)
    (hc : ∀ x v t, Gr s t → Gr C.s0 t → re.is t v x → EvT C tt (σf v) t (c x)) (he : ∀ x v t, Gr s t → Gr C.s0 t → re.is t v x → Ev C te (σf v) t q.r (f x)) : EvN C (tLc wi (gName j) tt te vs) σ s q (bd mi fun ds => bd (lim ds.length) fun _ => mapIf c f ds) := fun t g g0 Qm hm Q k =>
  hi t g g0 _ hm _ fun ds J u qd gu go D hD => by
    obtain ⟨hlim, qd⟩ := qd
    refine ⟨fun i m H' => m = ds.length - i ∧ i ≤ ds.length ∧ ∃ w acc ys, w.hp = H' ∧ Gr u w ∧ w.st D = none ∧ ¬ w.bg D ∧ w.hp D = some (.lst acc) ∧ Paired (q.is w.st) acc ys ∧ ys.length ≤ i ∧ mapIf c f (ds.drop i) (fun zs => Qm (ys ++ zs)) C.Em,
      ⟨ds.length, by simp, Nat.zero_le _, wr u D (.lst []), [], [], rfl, new_gr gu.ok hD, st_none (s := u) gu.ok hD, bg_not (s := u) gu.ok hD, upd_same, .nil, Nat.le_refl _, by rw [List.drop_zero]; exact qd⟩, fun i m H' hw => ?_⟩
    obtain ⟨rfl, hl, w, acc, ys, rfl, gw, w1, w2, w3, w4, w5, hf⟩ := hw
    have gw0 := (g0.trans gu).trans gw
    obtain ⟨g1, g2⟩ := go i w gw
    cases hd : ds[i]? with
    | none =>
      have hl' : ds.length ≤ i := List.getElem?_eq_none_iff.mp hd
      rw [List.drop_of_length_le hl'] at hf
      refine .inl ⟨g2 hl', k ys D w (by have hf' : Qm (ys ++ []) := hf; rw [List.append_nil] at hf'; exact hf') (gu.trans gw) (hp_back gu hD) ⟨rfl, ?_, w1, w2, acc, w3, w4⟩⟩
      exact hp_back (g0.trans gu) hD
    | some d =>
      obtain ⟨g3, g4⟩ := g1 d hd
      have hlt : i < ds.length := (List.getElem?_eq_some_iff.mp hd).1
      rw [drop_some hd] at hf
      have hf := mapIf_run hf
      refine .inr ⟨g3, fun H3 => ∃ m', m' < ds.length - i ∧ (m' = ds.length - (i + 1) ∧ i + 1 ≤ ds.length ∧ ∃ w acc ys, w.hp = H3 ∧ Gr u w ∧ w.st D = none ∧ ¬ w.bg D ∧ w.hp D = some (.lst acc) ∧ Paired (q.is w.st) acc ys ∧ ys.length ≤ i + 1 ∧ mapIf c f (ds.drop (i + 1)) (fun zs => Qm (ys ++ zs)) C.Em), fun H3 hN => hN, fun x H' hy => ?_⟩
      obtain ⟨rfl, hx⟩ := g4 x H' hy
      refine gname_do (h1 x) ⟨h2 x, ?_⟩
      refine hc d x w (g.trans (gu.trans gw)) gw0 hx w (Gx.refl gw.ok) gw0 _ hf _ fun b z0 qb gz0 => ?_
      have ne : w.hp D ≠ none := by rw [w3]; exact fun e => nomatch e
      have y3 : z0.hp D = some (.lst acc) := gz0.hp D _ (fun e => e) w2 w3
      have y1 := (gz0.fr D (fun e => e) ne).1 w1
      have y2 : ¬ z0.bg D := fun e => w2 ((gz0.fr D (fun e => e) ne).2 e)
      cases b with
      | false =>
        show ∃ m', _
        exact ⟨ds.length - (i + 1), by omega, rfl, hlt, z0, acc, ys, rfl, gw.trans gz0, y1, y2, y3, Paired.mono (fun _ _ => q.up gz0.st) w4, by omega, qb⟩
      | true =>
        rw [if_pos rfl]
        have qb : f d _ _ := qb
        refine he d x w (g.trans (gu.trans gw)) gw0 hx z0 gz0 (gw0.trans gz0) _ qb _ fun y v z qy gz hv => ?_
        have ne0 : z0.hp D ≠ none := by rw [y3]; exact fun e => nomatch e
        have z3 : z.hp D = some (.lst acc) := gz.hp D _ (fun e => e) y2 y3
        have z1 := (gz.fr D (fun e => e) ne0).1 y1
        have z2 : ¬ z.bg D := fun e => y2 ((gz.fr D (fun e => e) ne0).2 e)
        have gx := wr_gx (o := .lst (acc ++ [v])) gz.ok z1 z2
        refine ⟨acc, z3, Nat.lt_of_lt_of_le (show acc.length < 100000 by have hll := w4.length; have : ds.length ≤ 100000 := hlim; omega) (by decide : 100000 ≤ sizeLine), ds.length - (i + 1), by omega, rfl, hlt, wr z D (.lst (acc ++ [v])), acc ++ [v], ys ++ [y], rfl,
          Gr.gx ((gw.trans gz0).trans gz) gx (fun a e => by cases e; exact hD), z1, z2, upd_same, paired_app (Paired.mono (fun _ _ => q.up (Ex.trans gz0.st gz.st)) w4) (.cons hv .nil), by rw [List.length_append]; show ys.length + 1 ≤ i + 1; omega, qy⟩
end
end Z
namespace Z
open PySem PySem.Spec PyProof.Rows L2
theorem et_exact {ε : Type} {C : Cn ε} {σ : L2.St} {s : S} {tt : TT} {m m' : M ε Bool} (h : EvT C tt σ s m) (e : m = m') : EvT C tt σ s m' := e ▸ h
/-! ### what may be changed since s -/
theorem Gx.gx' {X Y : Addr → Prop} {s t u : S} (a : Gx X s t) (b : Gx Y t u) (h : ∀ p, Y p → X p ∨ s.hp p = none) : Gx X s u where
  ok := b.ok
  st := a.st.trans b.st
  hp := fun p o hx hb e => b.hp p o (fun z => (h p z).elim hx fun n => by rw [n] at e; cases e) (fun z => hb ((a.fr p hx (by rw [e]; exact fun z => nomatch z)).2 z)) (a.hp p o hx hb e)
  bg := fun p e => b.bg p (a.bg p e)
  fr := fun p hx e => ⟨fun z => (b.fr p (fun w => (h p w).elim hx e) (a.al p e)).1 ((a.fr p hx e).1 z), fun z => (a.fr p hx e).2 ((b.fr p (fun w => (h p w).elim hx e) (a.al p e)).2 z)⟩
  al := fun p e => b.al p (a.al p e)
theorem gx_back {X : Addr → Prop} {s t : S} {p : Addr} (g : Gx X s t) (h : t.hp p = none) : s.hp p = none := by
  cases q : s.hp p with
  | none => rfl
  | some o => exact absurd h (g.al p (by rw [q]; exact fun z => nomatch z))
theorem own_al {α : Type} {s0 s : S} {r : SRep α} {p : Addr} {v : V} {d : List α} (h : (oL s0 r p).is s v d) : ∀ a, a = p → s.hp a ≠ none := fun a e => by
  obtain ⟨_, _, _, _, xs, h5, _⟩ := h
  rw [e, h5]
  exact fun z => nomatch z
theorem own_nw {α : Type} {s0 s : S} {r : SRep α} {p : Addr} {v : V} {d : List α} (h : (oL s0 r p).is s v d) : NewX s0 (fun a => a = p) := newx_1 h.2.1
end Z

namespace Z
open PySem PySem.Spec PyProof.Rows L2
/-! ### a def -/
section
variable {P : Program} {w : World} {K : PySem.W.Frag} {mg : Str → Option Value} {base : Heap}
theorem fn0 {x qual : Str} {st : Stmt} {f : Addr} {fd : FuncData} {N ps : List Str} {k : Nat} {A β : Type} {ar : ARep A} {fm : A → M Empty β} {rr : S → Rep β} (F : Fun K x qual st f fd) (Sc : FnScope N ps (defScope st))
    (hl : ∀ s vs a, ar.is s vs a → vs.length = ps.length)
    (body : ∀ (cdv : Value) (A' : Around) (outer : List Env) (sh : Shared) (E : XK), Room k (A'.deeper (envOfC qual (defScope st) sh.heap.objs.size f cdv)) →
      ∀ (C : Cn Empty) (a : A) (vs : List V) (Qm : β → Prop), Sok C.s0 → ar.is C.s0 vs a → fm a Qm C.Em → ∃ t, PSs (cxOf CX0 P w K mg base N qual (defScope st) f cdv A' outer sh C.s0.hp E).nox (defBody st) t ∧
        ∀ Q : VK, (∀ d v u, Qm d → Gr C.s0 u → (rr C.s0).is u v d → Q v u.hp) → t { nx := fun _ H' => Q .non H', rt := Q } (start N vs) C.s0.hp) : FnOk P w K mg base CX0 (k + 1) f fd ps (sp0 ar fm rr) := by
  refine F.ok Sc (fun vs H Q E h => ?_) (fun cdv A' outer sh H vs Q E hr h => ?_)
  · obtain ⟨s, a, Qm, _, _, h, _⟩ := h
    exact hl s vs a h
  · obtain ⟨s, a, Qm, rfl, ok, ha, hm, hQ⟩ := h
    obtain ⟨t, h1, h2⟩ := body cdv A' outer sh E hr ⟨s, noE⟩ a vs Qm ok ha hm
    exact ⟨t, h1, h2 Q hQ⟩
/-- a def that may be called -/
structure Cal (P : Program) (w : World) (K : PySem.W.Frag) (mg : Str → Option Value) (base : Heap) (CX : CXT) (k : Nat) (x : Str) (ps : List Str) (sp : Sp) (f : Addr) (fd : FuncData) : Prop where
  ok : FnOk P w K mg base CX k f fd ps sp
  gm : mg x = some (.ref f)
  kp : PySem.W.keepIn K (.ref f) = true
  bn : Binds K fd ps []
end
section
variable {ε : Type} {C : Cn ε} {K : PySem.W.Frag} {σ : L2.St} {s : S} {α β γ A R : Type} {D : Ends}
/-- a new drawing list -/
theorem gr_bag {p : Addr} {i j : Int} (ok : Sok s) (h1 : s.st p = none) (h3 : s.hp p = some (.lst [.int i, .int j])) : Gx (fun a => a = p) s ⟨s.st, s.hp, fun a => a = p ∨ s.bg a⟩ where
  ok := ⟨ok.sub, fun a e => by
    rcases e with rfl | e
    · exact ⟨h1, i, j, h3⟩
    · exact ok.bag a e⟩
  st := Ex.refl _
  hp := fun _ _ _ _ e => e
  bg := fun _ e => Or.inr e
  fr := fun a hx _ => ⟨fun z => z, fun z => z.resolve_left hx⟩
  al := fun _ e => e
theorem paired_ints {H : Hp} : ∀ {xs : List V} {ns : List Int}, Paired (sI.is H) xs ns → xs = ns.map V.int
  | _, _, .nil => rfl
  | _, _, .cons f t => by rw [List.map_cons, ← paired_ints t, (show _ = V.int _ from f)]
theorem ints_paired (H : Hp) : ∀ ns : List Int, Paired (sI.is H) (ns.map V.int) ns
  | [] => .nil
  | _ :: ns => .cons rfl (ints_paired H ns)
theorem paired_bls {H : Hp} : ∀ {xs : List V} {ns : List Bool}, Paired (sB.is H) xs ns → xs = ns.map V.bl
  | _, _, .nil => rfl
  | _, _, .cons f t => by rw [List.map_cons, ← paired_bls t, (show _ = V.bl _ from f)]
/-- [a, b] handed back as a drawing list -/
theorem ev_bag {te : TE} {m : M ε (List Int)} (h : EvN C te σ s sI m) : Ev C te σ s rG (bd m fun l => bd (req (l.length = 2)) fun _ => ret ()) := fun t g g0 Qm hm Q k =>
  h t g g0 _ hm _ fun d p u qd gu hp ho => by
    obtain ⟨h1, h2, h3, h4, xs, h5, h6⟩ := ho
    obtain ⟨hd, qd⟩ := qd
    have e := paired_ints h6
    obtain ⟨i, j, rfl⟩ : ∃ i j, d = [i, j] := by
      match d, hd with
      | [i, j], _ => exact ⟨i, j, rfl⟩
    subst e
    have gb := gr_bag gu.ok h3 h5
    exact k () (.ref p) ⟨u.st, u.hp, fun a => a = p ∨ u.bg a⟩ qd (gu.gx gb fun a e => by cases e; exact hp) ⟨p, rfl, Or.inl rfl⟩
/-! ### built-ins by values -/
abbrev rAbs : List V → Hp → VK → Prop := fun xs H Q => ∃ i, xs = [.int i] ∧ Q (.int (if i < 0 then -i else i)) H
theorem ev_abs {te : TE} {m : M ε Int} (h : Ev C te σ s sI.r m) : Ev C (tCB rAbs (tCons te tNil)) σ s sI.r (bd m fun a => ret (if a < 0 then -a else a)) := fun t g g0 Qm hm Q k =>
  h t g g0 _ hm _ fun d x u qd gu hx => ⟨d, by rw [(show x = .int d from hx)], k _ _ u qd gu rfl⟩
theorem ev_intI {te : TE} {m : M ε Int} (h : Ev C te σ s sI.r m) : Ev C (tCB (fun xs H Q => (∃ i, xs = [.int i] ∧ Q (.int i) H) ∨ ∃ k, xs = [.bl k] ∧ Q (.int (if k then 1 else 0)) H) (tCons te tNil)) σ s sI.r m := fun t g g0 Qm hm Q k =>
  h t g g0 _ hm _ fun d x u qd gu hx => .inl ⟨d, by rw [(show x = .int d from hx)], k _ _ u qd gu rfl⟩
theorem ev_intB {te : TE} {m : M ε Bool} (h : Ev C te σ s sB.r m) : Ev C (tCB (fun xs H Q => (∃ i, xs = [.int i] ∧ Q (.int i) H) ∨ ∃ k, xs = [.bl k] ∧ Q (.int (if k then 1 else 0)) H) (tCons te tNil)) σ s sI.r (bd m fun b => ret (if b then 1 else 0)) := fun t g g0 Qm hm Q k =>
  h t g g0 _ hm _ fun d x u qd gu hx => .inr ⟨d, by rw [(show x = .bl d from hx)], k _ _ u qd gu rfl⟩
theorem ev_min2 {ta tb : TE} {ma mb : M ε Int} (ha : Ev C ta σ s sI.r ma) (hb : Ev C tb σ s sI.r mb) : Ev C (tCB (fun xs H Q => ∃ i j, xs = [.int i, .int j] ∧ Q (.int (if j < i then j else i)) H) (tCons ta (tCons tb tNil))) σ s sI.r (bd ma fun a => bd mb fun b => ret (if b < a then b else a)) := fun t g g0 Qm hm Q k =>
  ha t g g0 _ hm _ fun a x u qa gu hx => hb u (g.trans gu) (g0.trans gu) _ qa _ fun b y w qb gw hy => ⟨a, b, by rw [(show x = .int a from hx), (show y = .int b from hy)], k _ _ w qb (gu.trans gw) rfl⟩
theorem ev_max2 {ta tb : TE} {ma mb : M ε Int} (ha : Ev C ta σ s sI.r ma) (hb : Ev C tb σ s sI.r mb) : Ev C (tCB (fun xs H Q => ∃ i j, xs = [.int i, .int j] ∧ Q (.int (if j > i then j else i)) H) (tCons ta (tCons tb tNil))) σ s sI.r (bd ma fun a => bd mb fun b => ret (if b > a then b else a)) := fun t g g0 Qm hm Q k =>
  ha t g g0 _ hm _ fun a x u qa gu hx => hb u (g.trans gu) (g0.trans gu) _ qa _ fun b y w qb gw hy => ⟨a, b, by rw [(show x = .int a from hx), (show y = .int b from hy)], k _ _ w qb (gu.trans gw) rfl⟩
theorem ev_all {te : TE} {rp : Rep (List Bool)} {rb : Rep Bool} {m : M ε (List Bool)} (rd : RdL K C.s0 rp rb) (sta : Sta C.s0 rb sB) (h : Ev C te σ s rp m) : Ev C (tCB (rAll K) (tCons te tNil)) σ s sB.r (bd m fun l => ret (l.all id)) := fun t g g0 Qm hm Q k =>
  h t g g0 _ hm _ fun d x u qd gu hx => by
    obtain ⟨p, xs, e1, e2, e3⟩ := rd.rd (g0.trans gu) hx
    rw [paired_bls (sta.paired (g0.trans gu) e3)] at e2
    exact ⟨p, d, by rw [e1], e2, k _ _ u qd gu rfl⟩
theorem ev_any {te : TE} {rp : Rep (List Bool)} {rb : Rep Bool} {m : M ε (List Bool)} (rd : RdL K C.s0 rp rb) (sta : Sta C.s0 rb sB) (h : Ev C te σ s rp m) : Ev C (tCB (rAny K) (tCons te tNil)) σ s sB.r (bd m fun l => ret (l.any id)) := fun t g g0 Qm hm Q k =>
  h t g g0 _ hm _ fun d x u qd gu hx => by
    obtain ⟨p, xs, e1, e2, e3⟩ := rd.rd (g0.trans gu) hx
    rw [paired_bls (sta.paired (g0.trans gu) e3)] at e2
    exact ⟨p, d, by rw [e1], e2, k _ _ u qd gu rfl⟩
theorem ev_sum {te : TE} {rp : Rep (List Int)} {rb : Rep Int} {m : M ε (List Int)} (rd : RdL K C.s0 rp rb) (sta : Sta C.s0 rb sI) (h : Ev C te σ s rp m) : Ev C (tCB (rSum K) (tCons te tNil)) σ s sI.r (bd m fun l => ret l.sum) := fun t g g0 Qm hm Q k =>
  h t g g0 _ hm _ fun d x u qd gu hx => by
    obtain ⟨p, xs, e1, e2, e3⟩ := rd.rd (g0.trans gu) hx
    rw [paired_ints (sta.paired (g0.trans gu) e3)] at e2
    exact ⟨p, d, by rw [e1], e2, k _ _ u qd gu rfl⟩
/-! ### isinstance with a built-in class -/
/-- what a value's type is -/
def OfTy (K : PySem.W.Frag) (s0 : S) (r : Rep α) (T : String) : Prop := ∀ s v d, Gr s0 s → r.is s v d → TyX K s.hp v (.type T)
def TyS (K : PySem.W.Frag) (r : SRep α) (T : String) : Prop := ∀ H H' v d, Ex H H' → r.is H v d → TyX K H' v (.type T)
variable {s0 : S}
theorem oty_st {r : SRep α} {T : String} (h : TyS K r T) : OfTy K s0 r.r T := fun s v d g e => h _ _ v d g.ok.sub e
theorem oty_bor {r : SRep α} {T : String} (h : TyS K r T) : OfTy K s0 (bR s0 r) T := fun s v d g e => h _ _ v d (old_ex g) e
theorem tys_I : TyS K sI "int" := fun _ _ v d _ h => by
  cases (show v = .int d from h)
  exact .base (.int d)
theorem tys_B : TyS K sB "bool" := fun _ _ v d _ h => by
  cases (show v = .bl d from h)
  exact .base (.bl d)
theorem tys_S : TyS K sS "str" := fun _ _ v d _ h => by
  cases (show v = .str d from h)
  exact .base (.str d)
theorem tys_U : TyS K sU "NoneType" := fun _ _ v d _ h => by
  cases (show v = .non from h)
  exact .base .non
theorem tys_L {r : SRep α} : TyS K (sL r) "list" := fun _ _ v d e h => by
  obtain ⟨p, xs, rfl, h2, h3⟩ := h
  exact .base (.lst (e _ _ h2))
theorem oty_own {s1 : S} {r : SRep α} {p : Addr} : OfTy K s0 (oL s1 r p) "list" := fun s v d ok h => by
  obtain ⟨rfl, _, _, _, xs, h5, h6⟩ := h
  exact .base (.lst h5)
abbrev rIs (K : PySem.W.Frag) := rIsi K
theorem ev_isi {te : TE} {r : Rep α} {m : M ε α} {T U : String} {b : Bool} (ho : OfTy K C.s0 r T) (hk : kitB T U = some b) (h : Ev C te σ s r m) : Ev C (tCB (rIsi K) (tCons te (tCons (tC (.ty U)) tNil))) σ s sB.r (bd m fun _ => ret b) := fun t g g0 Qm hm Q k =>
  h t g g0 _ hm _ fun d x u qd gu hx => ⟨x, .ty U, .type T, .type U, b, rfl, .ty U, ho u x d (g0.trans gu) hx, kit_ty hk, k _ _ u qd gu rfl⟩
theorem kt_tup {H : Hp} {p : Addr} {xs : List V} (h : SqT K H p xs) : TyX K H (.ref p) (.type "tuple") := by
  rcases h with (h | ⟨o, h⟩) | ⟨o, its, n, h1, h2, _⟩
  · exact .base (.tup h)
  · exact .fTuple h
  · exact .kTuple h1 h2
theorem tys_T {r : SRep α} : TyS K (sT K r) "tuple" := fun _ _ v d e h => by
  obtain ⟨p, xs, rfl, h2, h3⟩ := h
  exact kt_tup (ex_t e h2)
theorem tys_P {r : SRep α} {q : SRep β} : TyS K (sP K r q) "tuple" := fun _ _ v d e h => by
  obtain ⟨p, x, y, rfl, h2, h3⟩ := h
  exact kt_tup (ex_t e h2)
theorem tys_P3 {r : SRep α} {q : SRep β} {z : SRep γ} : TyS K (sP3 K r q z) "tuple" := fun _ _ v d e h => by
  obtain ⟨p, x, y, w, rfl, h2, h3⟩ := h
  exact kt_tup (ex_t e h2)
theorem ev_lenP {tl : TE} {rp : Rep (α × β)} {ra : Rep α} {rb : Rep β} {m : M ε (α × β)} (rd : RdP K C.s0 rp ra rb) (hl : Ev C tl σ s rp m) :
    Ev C (tCB (fun xs H Q => ∃ p ys, xs = [.ref p] ∧ (SqL K H p ys ∨ SqT K H p ys) ∧ Q (.int ys.length) H) (tCons tl tNil)) σ s sI.r (bd m fun _ => ret (2 : Int)) := fun t g g0 Qm hm Q k =>
  hl t g g0 _ hm _ fun l x u ql gu hx => by
    obtain ⟨p, a, b, e1, e2, e3⟩ := rd.rd (g0.trans gu) hx
    exact ⟨p, [a, b], by rw [e1], .inr e2, k _ _ u ql gu rfl⟩
/-- a drawing list changed -/
theorem bag_gr {p : Addr} {i j : Int} (ok : Sok s) (h : s.bg p) : Gr s (wr s p (.lst [.int i, .int j])) where
  ok := ⟨fun a u e => by
    have hne : a ≠ p := fun z => by
      have e' : s.st a = some u := e
      rw [z, (ok.bag p h).1] at e'
      cases e'
    show upd s.hp p _ a = some u
    rw [upd_ne hne]
    exact ok.sub a u e, fun a e => by
    obtain ⟨e1, i', j', e2⟩ := ok.bag a e
    refine ⟨e1, ?_⟩
    by_cases hh : a = p
    · subst hh
      exact ⟨i, j, upd_same⟩
    · refine ⟨i', j', ?_⟩
      show upd s.hp p _ a = _
      rw [upd_ne hh]
      exact e2⟩
  st := Ex.refl _
  hp := fun a u _ hb e => by
    show upd s.hp p _ a = some u
    rw [upd_ne (fun z => hb (by rw [z]; exact h))]
    exact e
  bg := fun _ e => e
  fr := fun _ _ _ => ⟨fun z => z, fun z => z⟩
  al := fun a e => by
    show upd s.hp p _ a ≠ none
    by_cases hh : a = p
    · subst hh
      rw [upd_same]
      exact fun z => nomatch z
    · rw [upd_ne hh]
      exact e
/-! ### == of data -/
structure Enc (K : PySem.W.Frag) {α : Type} (r : SRep α) [DecidableEq α] where
  enc : α → PyData
  dp : ∀ {H v d}, r.is H v d → Dp K H v (enc d)
  lay : ∀ d, (enc d).canLay0 = true
  n : Nat
  dep : ∀ d, (enc d).depth ≤ n
  eqv : ∀ a b, PyData.eqv (enc a) (enc b) = decide (a = b)
theorem dpAll_of {H : Hp} {r : SRep α} {enc : α → PyData} (h : ∀ {v d}, r.is H v d → Dp K H v (enc d)) : ∀ {xs : List V} {ds : List α}, Paired (r.is H) xs ds → DpAll K H xs (ds.map enc)
  | _, _, .nil => .nil
  | _, _, .cons f t => .cons (h f) (dpAll_of h t)
theorem layAll_of {enc : α → PyData} (h : ∀ d, (enc d).canLay0 = true) : ∀ ds : List α, PyData.canLayAll0 (ds.map enc) = true
  | [] => by simp [PyData.canLayAll0]
  | d :: ds => by simp [PyData.canLayAll0, h d, layAll_of h ds]
theorem depAll_of {enc : α → PyData} {n : Nat} (h : ∀ d, (enc d).depth ≤ n) : ∀ ds : List α, PyData.depthAll (ds.map enc) ≤ n
  | [] => by simp [PyData.depthAll]
  | d :: ds => by
    have h1 := h d
    have h2 := depAll_of h ds
    simp only [List.map_cons, PyData.depthAll]
    omega
theorem eqvAll_of [DecidableEq α] {enc : α → PyData} (h : ∀ a b, PyData.eqv (enc a) (enc b) = decide (a = b)) : ∀ xs ys : List α, PyData.eqvAll (xs.map enc) (ys.map enc) = decide (xs = ys)
  | [], [] => by simp [PyData.eqvAll]
  | [], _ :: _ => by simp [PyData.eqvAll]
  | _ :: _, [] => by simp [PyData.eqvAll]
  | x :: xs, y :: ys => by
    simp only [List.map_cons, PyData.eqvAll, h, eqvAll_of h xs ys]
    by_cases e : x = y <;> by_cases e2 : xs = ys <;> simp [e, e2]
def enc_I : Enc K sI := ⟨.int, fun {H v d} h => by
  cases (show v = .int d from h)
  exact .int d, fun _ => by simp [PyData.canLay0], 0, fun _ => by simp [PyData.depth], fun a b => by simp only [PyData.eqv]; exact Bool.beq_eq_decide_eq a b⟩
def enc_B : Enc K sB := ⟨.bool, fun {H v d} h => by
  cases (show v = .bl d from h)
  exact .bl d, fun _ => by simp [PyData.canLay0], 0, fun _ => by simp [PyData.depth], fun a b => by simp only [PyData.eqv]; exact Bool.beq_eq_decide_eq a b⟩
def enc_L {r : SRep α} [DecidableEq α] (e : Enc K r) : Enc K (sL r) := ⟨fun l => .list (l.map e.enc), fun {H v d} h => by
  obtain ⟨p, xs, rfl, h2, h3⟩ := h
  exact .lst (sqL_of h2) (dpAll_of (fun q => e.dp q) h3), fun l => by simp only [PyData.canLay0]; exact layAll_of e.lay l, e.n + 1, fun l => by
  have := depAll_of e.dep l
  simp only [PyData.depth]
  omega, fun a b => by simp only [PyData.eqv]; exact eqvAll_of e.eqv a b⟩
def enc_T {r : SRep α} [DecidableEq α] (e : Enc K r) : Enc K (sT K r) := ⟨fun l => .tuple (l.map e.enc), fun {H v d} h => by
  obtain ⟨p, xs, rfl, h2, h3⟩ := h
  exact .tup h2 (dpAll_of (fun q => e.dp q) h3), fun l => by simp only [PyData.canLay0]; exact layAll_of e.lay l, e.n + 1, fun l => by
  have := depAll_of e.dep l
  simp only [PyData.depth]
  omega, fun a b => by simp only [PyData.eqv]; exact eqvAll_of e.eqv a b⟩
def enc_P {r : SRep α} {q : SRep β} [DecidableEq α] [DecidableEq β] (e : Enc K r) (f : Enc K q) : Enc K (sP K r q) := ⟨fun d => .tuple [e.enc d.1, f.enc d.2], fun {H v d} h => by
  obtain ⟨p, x, y, rfl, h2, h3, h4⟩ := h
  exact .tup h2 (.cons (e.dp h3) (.cons (f.dp h4) .nil)), fun d => by simp [PyData.canLay0, PyData.canLayAll0, e.lay, f.lay], max e.n f.n + 1, fun d => by
  have h1 := e.dep d.1
  have h2 := f.dep d.2
  simp only [PyData.depth, PyData.depthAll]
  omega, fun a b => by
  simp only [PyData.eqv, PyData.eqvAll, e.eqv, f.eqv]
  obtain ⟨a1, a2⟩ := a
  obtain ⟨b1, b2⟩ := b
  by_cases h1 : a1 = b1 <;> by_cases h2 : a2 = b2 <;> simp [h1, h2]⟩
/-- a value that is data -/
def DpR [DecidableEq α] (K : PySem.W.Frag) (s0 : S) (rp : Rep α) (enc : α → PyData) : Prop := ∀ s v d, Gr s0 s → rp.is s v d → Dp K s.hp v (enc d)
theorem dpr_st {r : SRep α} [DecidableEq α] (e : Enc K r) : DpR K s0 r.r e.enc := fun s v d g h => e.dp (r.up g.ok.sub h)
theorem dpr_bor {r : SRep α} [DecidableEq α] (e : Enc K r) : DpR K s0 (bR s0 r) e.enc := fun s v d g h => e.dp (r.up (old_ex g) h)
theorem dpr_own {r : SRep α} [DecidableEq α] (e : Enc K r) {s1 : S} {p : Addr} : DpR K s0 (oL s1 r p) (enc_L e).enc := fun s v d g h => by
  obtain ⟨rfl, _, _, _, xs, h5, h6⟩ := h
  exact .lst (sqL_of h5) (dpAll_of (fun q => e.dp q) (Paired.mono (fun _ _ => r.up g.ok.sub) h6))
theorem shaped_of {r : SRep α} [DecidableEq α] (e : Enc K r) (hn : e.n ≤ 64) (d : α) : SeqAt.shaped (e.enc d) = true := by
  unfold SeqAt.shaped
  rw [e.lay d, Bool.true_and]
  exact decide_eq_true (Nat.le_trans (e.dep d) hn)
theorem ev_eqD {ta tb : TE} {ra rb : Rep α} {r : SRep α} [DecidableEq α] (e : Enc K r) {ma mb : M ε α} (da : DpR K C.s0 ra e.enc) (db : DpR K C.s0 rb e.enc) (hn : e.n ≤ 64) (ha : Ev C ta σ s ra ma) (hb : Ev C tb σ s rb mb) :
    Ev C (tOp (rEqD K) ta tb) σ s sB.r (bd ma fun a => bd mb fun b => ret (decide (a = b))) := fun t g g0 Qm hm Q k =>
  ha t g g0 _ hm _ fun a x u qa gu hx => hb u (g.trans gu) (g0.trans gu) _ qa _ fun b y w qb gw hy =>
    ⟨e.enc a, e.enc b, da w x a ((g0.trans gu).trans gw) (Rep.u gw hx), db w y b ((g0.trans gu).trans gw) hy, shaped_of e hn a, shaped_of e hn b, by rw [e.eqv]; exact k _ _ w qb (gu.trans gw) rfl⟩
theorem ev_neD {ta tb : TE} {ra rb : Rep α} {r : SRep α} [DecidableEq α] (e : Enc K r) {ma mb : M ε α} (da : DpR K C.s0 ra e.enc) (db : DpR K C.s0 rb e.enc) (hn : e.n ≤ 64) (ha : Ev C ta σ s ra ma) (hb : Ev C tb σ s rb mb) :
    Ev C (tOp (rNeD K) ta tb) σ s sB.r (bd ma fun a => bd mb fun b => ret (!decide (a = b))) := fun t g g0 Qm hm Q k =>
  ha t g g0 _ hm _ fun a x u qa gu hx => hb u (g.trans gu) (g0.trans gu) _ qa _ fun b y w qb gw hy =>
    ⟨e.enc a, e.enc b, da w x a ((g0.trans gu).trans gw) (Rep.u gw hx), db w y b ((g0.trans gu).trans gw) hy, shaped_of e hn a, shaped_of e hn b, by rw [e.eqv]; exact k _ _ w qb (gu.trans gw) rfl⟩
/-! ### in, index, sorted of ints -/
theorem inV_ints (x : Int) : ∀ ns : List Int, inV (.int x) (ns.map V.int) = decide (x ∈ ns)
  | [] => by simp [inV]
  | n :: ns => by
    have ih := inV_ints x ns
    unfold inV at ih ⊢
    rw [List.map_cons, List.any_cons, ih]
    by_cases h : n = x
    · subst h
      simp [eqV]
    · have h' : ¬ x = n := fun z => h z.symm
      simp [eqV, h, h']
theorem flat_ints : ∀ ns : List Int, (ns.map V.int).all flatV = true
  | [] => rfl
  | n :: ns => by simp [flatV]
theorem ev_inL {ta tb : TE} {rp : Rep (List Int)} {re : Rep Int} {ma : M ε Int} {mb : M ε (List Int)} (rd : RdL K C.s0 rp re) (sta : Sta C.s0 re sI) (ha : Ev C ta σ s sI.r ma) (hb : Ev C tb σ s rp mb) :
    Ev C (tOp (rIn K false) ta tb) σ s sB.r (bd ma fun a => bd mb fun b => ret (decide (a ∈ b))) := fun t g g0 Qm hm Q k =>
  ha t g g0 _ hm _ fun a x u qa gu hx => hb u (g.trans gu) (g0.trans gu) _ qa _ fun b y w qb gw hy => by
    obtain ⟨p, xs, e1, e2, e3⟩ := rd.rd ((g0.trans gu).trans gw) hy
    have e := paired_ints (sta.paired ((g0.trans gu).trans gw) e3)
    subst e
    cases (show x = .int a from hx)
    refine ⟨p, b.map V.int, e1, .inl e2, rfl, flat_ints b, ?_⟩
    rw [inV_ints]
    exact k _ _ w qb (gu.trans gw) rfl
theorem ev_niL {ta tb : TE} {rp : Rep (List Int)} {re : Rep Int} {ma : M ε Int} {mb : M ε (List Int)} (rd : RdL K C.s0 rp re) (sta : Sta C.s0 re sI) (ha : Ev C ta σ s sI.r ma) (hb : Ev C tb σ s rp mb) :
    Ev C (tOp (rIn K true) ta tb) σ s sB.r (bd ma fun a => bd mb fun b => ret (!decide (a ∈ b))) := fun t g g0 Qm hm Q k =>
  ha t g g0 _ hm _ fun a x u qa gu hx => hb u (g.trans gu) (g0.trans gu) _ qa _ fun b y w qb gw hy => by
    obtain ⟨p, xs, e1, e2, e3⟩ := rd.rd ((g0.trans gu).trans gw) hy
    have e := paired_ints (sta.paired ((g0.trans gu).trans gw) e3)
    subst e
    cases (show x = .int a from hx)
    refine ⟨p, b.map V.int, e1, .inl e2, rfl, flat_ints b, ?_⟩
    rw [inV_ints]
    exact k _ _ w qb (gu.trans gw) rfl
end
end Z

namespace Z
open PySem PySem.Spec PyProof.Rows L2
/-! ### calls of methods and classes, what is raised wished for at the slots -/
section
variable {X : Cx} {CX : CXT} {k : Nat} {f Cl : Addr} {fd : FuncData} {ps : List Str} {sp : Sp} {E : L2.St → XK} {x m : Str} {p pos apos : Pos} {e o : Expr} {es : List Expr} {ta : TE} {t : TA}
def tMtS (Cl : Addr) (m : Str) (sp : Sp) (E : L2.St → XK) (ta : TE) (t : TA) : TE := fun σ H Q => ta σ H fun x H1 => ∃ a dx fs, x = .ref a ∧ H1 a = some (.ins Cl dx fs) ∧ fs.lookup m = none ∧
  t σ H1 fun vs H2 => sp (x :: vs) H2 Q (E σ)
def tMkS (Cl : Addr) (sp : Sp) (E : L2.St → XK) (t : TA) : TE := fun σ H Q => t σ H fun vs H1 => ∀ x dx, H1 x = none → H1 dx = none → dx ≠ x →
  sp (.ref x :: vs) (upd (upd H1 dx (.own x)) x (.ins Cl dx [])) (fun v H2 => v = .non ∧ Q (.ref x) H2) (E σ)
theorem pe_mtS {pl : Sem Bool} (he : PE X o ta) (c : Cls X.K Cl) (hm : Meth X.K Cl m f) (F : FnOk X.prog X.w X.K X.mg X.base CX k f fd ps sp) (hr : Room k X.A) (hb : Binds X.K fd ps []) (hx : ∀ σ, PassesAt CX X σ (E σ)) (ha : PA X (e :: es) t)
    (hst : starEach (e :: es) X.env = (false, eval e X.env) :: starEach es X.env := by rfl) (hpl : (backTo pos (starEach es X.env)).any (·.1) = false := by rfl)
    (ht : eval (.Call (.Attribute o m apos) (e :: es) [] pos) X.env = (do
      let ov ← eval o X.env
      standAt apos.atName
      let (f, first) ← holding [ov] (getMethod ov m pl)
      callWith pos f first (backTo pos (starEach (e :: es) X.env)) (backToKw pos (keywordEach [] X.env))) := by rfl) :
    PE X (.Call (.Attribute o m apos) (e :: es) [] pos) (tMtS Cl m sp E ta t) := ⟨fun pins s σ H Q I h => by
  refine PySem.W.methodCall_KW (pl := pl) (thn (he.run pins s σ H _ I h) ?_) ht
  rintro u s1 ⟨x, H1, I1, rx, a, dx, fs, ex, ea, l, q⟩
  subst ex
  obtain rfl : u = Value.ref a := rx
  refine getmeth_ok I1 ea c hm l (PySem.W.callWith_K (first := [.ref a]) (h₀ := X.base) I.ok.mod.kin hm.kp (thn (ha.run pos pins s1 σ H1 _ I1 q) ?_) hst hpl)
  rintro us s2 ⟨vs, H2, I2, r, q2⟩
  exact ⟨I2.kIn, run_fnS (us := .ref a :: us) (vs := .ref a :: vs) F hr hb (hx σ) I2 (.cons rfl r) q2⟩⟩
theorem pe_mt0S {pl : Sem Bool} (he : PE X o ta) (c : Cls X.K Cl) (hm : Meth X.K Cl m f) (F : FnOk X.prog X.w X.K X.mg X.base CX k f fd ps sp) (hr : Room k X.A) (hb : Binds X.K fd ps []) (hx : ∀ σ, PassesAt CX X σ (E σ))
    (ht : eval (.Call (.Attribute o m apos) [] [] pos) X.env = (do
      let ov ← eval o X.env
      standAt apos.atName
      let (f, first) ← holding [ov] (getMethod ov m pl)
      callWith pos f first (backTo pos (starEach [] X.env)) (backToKw pos (keywordEach [] X.env))) := by rfl) :
    PE X (.Call (.Attribute o m apos) [] [] pos) (tMtS Cl m sp E ta tNil) := ⟨fun pins s σ H Q I h => by
  refine PySem.W.methodCall_KW (pl := pl) (thn (he.run pins s σ H _ I h) ?_) ht
  rintro u s1 ⟨x, H1, I1, rx, a, dx, fs, ex, ea, l, q⟩
  subst ex
  obtain rfl : u = Value.ref a := rx
  refine getmeth_ok I1 ea c hm l (PySem.W.callWith_K0 (first := [.ref a]) I1.kIn hm.kp ?_)
  exact run_fnS (us := [.ref a]) (vs := [.ref a]) F hr hb (hx σ) I1 (.cons rfl .nil) q⟩
theorem run_mkS {pins : List (Addr × Obj)} {σ : L2.St} {H : Hp} {s : Shared} {Q : VK} {E1 : XK} {us : List Value} {vs : List V} (M : Mk X.K Cl f) (F : FnOk X.prog X.w X.K X.mg X.base CX k f fd ps sp) (hr : Room (k + 1) X.A) (hb : Binds X.K fd ps [])
    (hx : PassesAt CX X σ E1) (I : Inv X pins σ H s) (r : Vals vs us)
    (h : ∀ x dx, H x = none → H dx = none → dx ≠ x → sp (.ref x :: vs) (upd (upd H dx (.own x)) x (.ins Cl dx [])) (fun v H2 => v = .non ∧ Q (.ref x) H2) E1) : wpAny (model X.prog X.w) X.A (call (.ref Cl) us) (EP X pins σ Q) X.xe s := by
  obtain ⟨n, hn⟩ : ∃ n, s.heap.objs.size = n := ⟨_, rfl⟩
  have q := h (n + 1) n (I.hok.fresh (by rw [hn]; exact Nat.le_succ n)) (I.hok.fresh (by rw [hn]; exact Nat.le_refl n)) (Nat.ne_of_lt (Nat.lt_succ_self n))
  have I2 := Inv.made (C := Cl) I
  rw [hn] at I2
  have r2 : Vals (V.ref (n + 1) :: vs) (Value.ref (n + 1) :: us) := .cons rfl r
  have hl : (Value.ref (n + 1) :: us).length = ps.length := by
    have e1 := r2.length
    have e2 := F.len _ _ _ _ q
    omega
  have b := hb _ (Value.ref (n + 1) :: us) I2.kIn (by rw [List.append_nil]; exact hl)
  rw [List.append_nil] at b
  refine wpAny_call (make_map (f := f) I.kIn M.makes M.init (beq_iff_eq.mp M.fn) ?_)
  rw [hn]
  refine codeAny_mono (F.run _ X.stack _ _ ⟨Value.ref (n + 1) :: us, []⟩ (Value.ref (n + 1) :: us) _ _ E1 (hr.make Cl us []) (I2.env0.make Cl us []) b r2 q) ?_
  rintro (e | fl) s' z
  · exact hx pins _ _ e s' I2 z
  · cases fl with
    | ret u =>
      obtain ⟨v, H', I3, rv, ev, q3⟩ := I2.after z
      subst ev
      exact ⟨rv, V.ref (n + 1), H', I3, rfl, q3⟩
    | next => exact z.elim
    | brk => exact z.elim
    | cont => exact z.elim
theorem pe_mkS (M : Mk X.K Cl f) (F : FnOk X.prog X.w X.K X.mg X.base CX k f fd ps sp) (hr : Room (k + 1) X.A) (hg : Gl X x) (hm : X.mg x = some (.ref Cl)) (hb : Binds X.K fd ps []) (hx : ∀ σ, PassesAt CX X σ (E σ))
    (ha : PA X (e :: es) t) (hdb : (x == ("__debug__" : Str)) = false := by decide) (he : starEach (e :: es) X.env = (false, eval e X.env) :: starEach es X.env := by rfl) (hpl : (backTo pos (starEach es X.env)).any (·.1) = false := by rfl) :
    PE X (.Call (.Name x p) (e :: es) [] pos) (tMkS Cl sp E t) := ⟨fun pins s σ H Q I h => by
  refine wpAny_Call_Name_kw (ld_glob I hg hm (PySem.W.callWith_K (h₀ := X.base) I.ok.mod.kin M.kp (thn (ha.run pos pins s σ H _ I h) ?_) he hpl) hdb)
  rintro us s1 ⟨vs, H1, I1, r, q⟩
  exact ⟨I1.kIn, run_mkS M F hr hb (hx σ) I1 r q⟩⟩
/-- where nothing is let out the callee lets nothing out | .. may raise, but does not -/
theorem pat0 {X : Cx} {E : L2.St → XK} : ∀ σ : L2.St, PassesAt CX0 X σ (E σ) := fun _ _ _ _ _ _ _ h => h.elim
theorem patL {X : Cx} : ∀ σ : L2.St, PassesAt (L2.CX X.prog X.w) X σ E0 := fun _ pins _ _ _ _ I h => passL pins _ _ _ _ _ I h
end
/-! ### one's own thing -/
section
variable {ε : Type} {C : Cn ε} {K : PySem.W.Frag} {σ : L2.St} {s t : S} {α β γ A R : Type} {D : Ends} {s0 : S} {x : Addr} {o : HO}
structure Own1 (s0 : S) (x : Addr) (o : HO) (s : S) : Prop where
  new : s0.hp x = none
  st : s.st x = none
  bg : ¬ s.bg x
  hp : s.hp x = some o
theorem Own1.up {X : Addr → Prop} (g : Gx X s t) (hx : ¬ X x) (h : Own1 s0 x o s) : Own1 s0 x o t := by
  have ne : s.hp x ≠ none := by rw [h.hp]; exact fun z => nomatch z
  exact ⟨h.new, (g.fr x hx ne).1 h.st, fun z => h.bg ((g.fr x hx ne).2 z), g.hp x _ hx h.bg h.hp⟩
theorem Own1.u (g : Gr s t) (h : Own1 s0 x o s) : Own1 s0 x o t := h.up g fun z => z
theorem Own1.wr {o' : HO} (G : Gr s0 s) (h : Own1 s0 x o s) : Own1 s0 x o' (Z.wr s x o') ∧ Gr s0 (Z.wr s x o') ∧ Gx (fun a => a = x) s (Z.wr s x o') := by
  have g := wr_gx (o := o') G.ok h.st h.bg
  refine ⟨⟨h.new, h.st, h.bg, upd_same⟩, Gr.gx G g fun a e => ?_, g⟩
  cases e
  exact h.new
def frzO (s : S) (p : Addr) (o : HO) : S := ⟨upd s.st p o, s.hp, s.bg⟩
theorem frzO_gx {p : Addr} (ok : Sok s) (h1 : s.st p = none) (h2 : ¬ s.bg p) (h3 : s.hp p = some o) : Gx (fun a => a = p) s (frzO s p o) where
  ok := ⟨fun a u e => by
      by_cases h : a = p
      · subst h
        have e' : upd s.st a o a = some u := e
        rw [upd_same] at e'
        cases e'
        exact h3
      · have e' : upd s.st p o a = some u := e
        rw [upd_ne h] at e'
        exact ok.sub a u e', fun a e => by
      have hne : a ≠ p := fun z => h2 (z ▸ e)
      refine ⟨?_, (ok.bag a e).2⟩
      show upd s.st p o a = none
      rw [upd_ne hne]
      exact (ok.bag a e).1⟩
  st := Ex.new h1
  hp := fun _ _ _ _ e => e
  bg := fun _ e => e
  fr := fun a hx _ => ⟨fun z => by
    show upd s.st p o a = none
    rw [upd_ne hx]
    exact z, fun z => z⟩
  al := fun _ e => e
theorem Own1.frz (G : Gr s0 s) (h : Own1 s0 x o s) : ∃ t, t.hp = s.hp ∧ Gr s0 t ∧ Gx (fun a => a = x) s t ∧ t.st x = some o := by
  have g := frzO_gx G.ok h.st h.bg h.hp
  refine ⟨frzO s x o, rfl, Gr.gx G g fun a e => ?_, g, upd_same⟩
  cases e
  exact h.new
/-! ### objects -/
/-- what an object of r is: an instance of the class at Cl whose attributes are those named -/
def IsObj (r : SRep α) (Cl : Addr) (ns : List Str) : Prop := ∀ H v d, r.is H v d → ∃ a dx fs, v = .ref a ∧ H a = some (.ins Cl dx fs) ∧ fs.map (·.1) = ns
def IsFld (r : SRep α) (Cl : Addr) (f : Str) (q : SRep β) (g : α → β) : Prop := ∀ H v d, r.is H v d → ∃ a dx fs w, v = .ref a ∧ H a = some (.ins Cl dx fs) ∧ fs.lookup f = some w ∧ q.is H w (g d)
theorem lookup_none {m : Str} : ∀ {fs : List (Str × V)}, m ∉ fs.map (·.1) → fs.lookup m = none
  | [], _ => rfl
  | (x, v) :: fs, h => by
    rw [List.map_cons, List.mem_cons, not_or] at h
    rw [List.lookup_cons]
    have : (m == x) = false := beq_eq_false_iff_ne.mpr h.1
    rw [this]
    exact lookup_none h.2
theorem ev_fld {Cl : Addr} {f : Str} {te : TE} {r : SRep α} {q : SRep β} {g : α → β} {m : M ε α} (hf : IsFld r Cl f q g) (cl : Cls K Cl) (na : NoAttr K Cl f) (h : Ev C te σ s r.r m) : Ev C (tFld K te f) σ s q.r (bd m fun d => ret (g d)) := fun t g1 g0 Qm hm Q k =>
  h t g1 g0 _ hm _ fun d x u qd gu hx => by
    obtain ⟨a, dx, fs, w, e1, e2, e3, e4⟩ := hf _ _ _ hx
    exact ⟨a, Cl, dx, fs, w, e1, gu.ok.sub _ _ e2, cl, na, e3, k _ w u qd gu e4⟩
/-- a def that may raise: its promise, an __init__'s -/
def spX {ε A β : Type} (cvf : ε → Value) (ar : ARep A) (f : A → M ε β) (rr : S → Rep β) : Sp := fun vs H Q E =>
  ∃ s a Qm Em, s.hp = H ∧ Sok s ∧ ar.is s vs a ∧ f a Qm Em ∧ (∀ d v u, Qm d → Gr s u → (rr s).is u v d → Q v u.hp) ∧ (∀ e u, Em e → Gr s u → E (cvf e) none u.hp)
def spI {ε A β : Type} (cvf : ε → Value) (Cl : Addr) (ar : ARep A) (f : A → M ε β) (r : SRep β) : Sp := fun vs H Q E =>
  ∃ s x dx ws a Qm Em, vs = .ref x :: ws ∧ H = upd (upd s.hp dx (.own x)) x (.ins Cl dx []) ∧ s.hp x = none ∧ s.hp dx = none ∧ dx ≠ x ∧ Sok s ∧ ar.is s ws a ∧ f a Qm Em ∧ (∀ d u, Qm d → Gr s u → r.r.is u (.ref x) d → Q .non u.hp) ∧ (∀ e u, Em e → Gr s u → E (cvf e) none u.hp)
/-- a call of a def that may raise where nothing is let out -/
def nox {ε δ α : Type} (m : M ε α) : M δ α := fun Q _ => m Q (fun _ => False)
/-- what E is at these slots -/
theorem ev_callX {ta : TA} {ar : ARep A} {ma : M ε A} {f : A → M ε β} {rr : Rep β} {E : L2.St → XK} {cvf : ε → Value} (hE : ∀ e u, C.Em e → Gr C.s0 u → E σ (cvf e) none u.hp) (h : EvA C ta σ s ar ma) : Ev C (tCallS (spX cvf ar f fun _ => rr) E ta) σ s rr (bd ma f) := fun t g g0 Qm hm Q k =>
  h t g g0 _ hm _ fun a vs u qa gu hv => ⟨u, a, Qm, C.Em, rfl, gu.ok, hv, qa, fun d v w qd gw hw => k d v w qd (gu.trans gw) hw, fun e w qe gw => hE e w qe ((g0.trans gu).trans gw)⟩
theorem ev_callN {δ : Type} {cvf : δ → Value} {ta : TA} {ar : ARep A} {ma : M ε A} {f : A → M δ β} {rr : Rep β} (h : EvA C ta σ s ar ma) : Ev C (tCallS (spX cvf ar f fun _ => rr) (fun _ => E0) ta) σ s rr (bd ma fun a => nox (f a)) := fun t g g0 Qm hm Q k =>
  h t g g0 _ hm _ fun a vs u qa gu hv => ⟨u, a, Qm, _, rfl, gu.ok, hv, qa, fun d v w qd gw hw => k d v w qd (gu.trans gw) hw, fun e w qe _ => qe.elim⟩
theorem ev_call0 {ta : TA} {ar : ARep A} {ma : M ε A} {f : A → M Empty β} {rr : Rep β} {E : L2.St → XK} (h : EvA C ta σ s ar ma) : Ev C (tCallS (sp0 ar f fun _ => rr) E ta) σ s rr (bd ma fun a => lft (f a)) := fun t g g0 Qm hm Q k =>
  h t g g0 _ hm _ fun a vs u qa gu hv => ⟨u, a, Qm, rfl, gu.ok, hv, qa, fun d v w qd gw hw => k d v w qd (gu.trans gw) hw⟩
theorem nL_new {t u w : S} {r : SRep β} {v : V} {d : List β} (g0 : Gr C.s0 t) (gu : Gr t u) (hw : (nL r u).is w v d) : ∃ p, v = .ref p ∧ t.hp p = none ∧ (oL C.s0 r p).is w (.ref p) d := by
  obtain ⟨p, rfl, h1⟩ := hw
  exact ⟨p, rfl, hp_back gu h1.2.1, oL_base (g0.trans gu) h1⟩
theorem evn_callX {ta : TA} {ar : ARep A} {ma : M ε A} {f : A → M ε (List β)} {r : SRep β} {E : L2.St → XK} {cvf : ε → Value} (hE : ∀ e u, C.Em e → Gr C.s0 u → E σ (cvf e) none u.hp) (h : EvA C ta σ s ar ma) : EvN C (tCallS (spX cvf ar f fun z => nL r z) E ta) σ s r (bd ma f) := fun t g g0 Qm hm Q k =>
  h t g g0 _ hm _ fun a vs u qa gu hv => ⟨u, a, Qm, C.Em, rfl, gu.ok, hv, qa, fun d v w qd gw hw => by
    obtain ⟨p, rfl, h3, h1⟩ := nL_new g0 gu hw
    exact k d p w qd (gu.trans gw) h3 h1, fun e w qe gw => hE e w qe ((g0.trans gu).trans gw)⟩
theorem evn_callN {δ : Type} {cvf : δ → Value} {ta : TA} {ar : ARep A} {ma : M ε A} {f : A → M δ (List β)} {r : SRep β} (h : EvA C ta σ s ar ma) : EvN C (tCallS (spX cvf ar f fun z => nL r z) (fun _ => E0) ta) σ s r (bd ma fun a => nox (f a)) := fun t g g0 Qm hm Q k =>
  h t g g0 _ hm _ fun a vs u qa gu hv => ⟨u, a, Qm, _, rfl, gu.ok, hv, qa, fun d v w qd gw hw => by
    obtain ⟨p, rfl, h3, h1⟩ := nL_new g0 gu hw
    exact k d p w qd (gu.trans gw) h3 h1, fun e w qe _ => qe.elim⟩
theorem evn_call0 {ta : TA} {ar : ARep A} {ma : M ε A} {f : A → M Empty (List β)} {r : SRep β} {E : L2.St → XK} (h : EvA C ta σ s ar ma) : EvN C (tCallS (sp0 ar f fun z => nL r z) E ta) σ s r (bd ma fun a => lft (f a)) := fun t g g0 Qm hm Q k =>
  h t g g0 _ hm _ fun a vs u qa gu hv => ⟨u, a, Qm, rfl, gu.ok, hv, qa, fun d v w qd gw hw => by
    obtain ⟨p, rfl, h3, h1⟩ := nL_new g0 gu hw
    exact k d p w qd (gu.trans gw) h3 h1⟩
/-! methods -/
/-- the object, then the arguments, as one list of arguments -/
theorem mt_run {Cl : Addr} {m : Str} {sp : Sp} {E : L2.St → XK} {te : TE} {ta : TA} {r : SRep α} {ns : List Str} {ar : ARep A} {mo : M ε α} {ma : M ε A} (ho : IsObj r Cl ns) (hn : m ∉ ns) (h : Ev C te σ s r.r mo) (ha : EvA C ta σ s ar ma)
    {t : S} (g : Gr s t) (g0 : Gr C.s0 t) {Qm : α × A → Prop} (hm : bd mo (fun o => bd ma fun a => ret (o, a)) Qm C.Em) {Q : VK} (k : ∀ o a vs u, Qm (o, a) → Gr t u → (aC r.r ar).is u vs (o, a) → sp vs u.hp Q (E σ)) : tMtS Cl m sp E te ta σ t.hp Q :=
  h t g g0 _ hm _ fun o x u qo gu hx => by
    obtain ⟨a, dx, fs, e1, e2, e3⟩ := ho _ _ _ hx
    refine ⟨a, dx, fs, e1, gu.ok.sub _ _ e2, lookup_none (by rw [e3]; exact hn), ?_⟩
    exact ha u (g.trans gu) (g0.trans gu) _ qo _ fun as vs w qs gw hs => k o as (x :: vs) w qs (gu.trans gw) ⟨x, vs, rfl, r.up gw.st hx, hs⟩
variable {Cl : Addr} {m : Str} {E : L2.St → XK} {te : TE} {ta : TA} {r : SRep α} {ns : List Str} {ar : ARep A} {mo : M ε α} {ma : M ε A}
theorem ev_mtX {f : α × A → M ε β} {rr : Rep β} {cvf : ε → Value} (hE : ∀ e u, C.Em e → Gr C.s0 u → E σ (cvf e) none u.hp) (ho : IsObj r Cl ns) (hn : m ∉ ns) (h : Ev C te σ s r.r mo) (ha : EvA C ta σ s ar ma) : Ev C (tMtS Cl m (spX cvf (aC r.r ar) f fun _ => rr) E te ta) σ s rr (bd mo fun o => bd ma fun a => f (o, a)) := fun t g g0 Qm hm Q k =>
  mt_run ho hn h ha g g0 (Qm := fun z => f z Qm C.Em) hm fun o a vs u qa gu hv => ⟨u, (o, a), Qm, C.Em, rfl, gu.ok, hv, qa, fun d v w qd gw hw => k d v w qd (gu.trans gw) hw, fun e w qe gw => hE e w qe ((g0.trans gu).trans gw)⟩
theorem ev_mtN {δ : Type} {cvf : δ → Value} {f : α × A → M δ β} {rr : Rep β} (ho : IsObj r Cl ns) (hn : m ∉ ns) (h : Ev C te σ s r.r mo) (ha : EvA C ta σ s ar ma) : Ev C (tMtS Cl m (spX cvf (aC r.r ar) f fun _ => rr) (fun _ => E0) te ta) σ s rr (bd mo fun o => bd ma fun a => nox (f (o, a))) := fun t g g0 Qm hm Q k =>
  mt_run ho hn h ha g g0 (Qm := fun z => f z Qm fun _ => False) hm fun o a vs u qa gu hv => ⟨u, (o, a), Qm, _, rfl, gu.ok, hv, qa, fun d v w qd gw hw => k d v w qd (gu.trans gw) hw, fun e w qe _ => qe.elim⟩
theorem ev_mt0 {f : α × A → M Empty β} {rr : Rep β} (ho : IsObj r Cl ns) (hn : m ∉ ns) (h : Ev C te σ s r.r mo) (ha : EvA C ta σ s ar ma) : Ev C (tMtS Cl m (sp0 (aC r.r ar) f fun _ => rr) E te ta) σ s rr (bd mo fun o => bd ma fun a => lft (f (o, a))) := fun t g g0 Qm hm Q k =>
  mt_run ho hn h ha g g0 (Qm := fun z => f z Qm noE) hm fun o a vs u qa gu hv => ⟨u, (o, a), Qm, rfl, gu.ok, hv, qa, fun d v w qd gw hw => k d v w qd (gu.trans gw) hw⟩
theorem evn_mtX {f : α × A → M ε (List β)} {q : SRep β} {cvf : ε → Value} (hE : ∀ e u, C.Em e → Gr C.s0 u → E σ (cvf e) none u.hp) (ho : IsObj r Cl ns) (hn : m ∉ ns) (h : Ev C te σ s r.r mo) (ha : EvA C ta σ s ar ma) : EvN C (tMtS Cl m (spX cvf (aC r.r ar) f fun z => nL q z) E te ta) σ s q (bd mo fun o => bd ma fun a => f (o, a)) := fun t g g0 Qm hm Q k =>
  mt_run ho hn h ha g g0 (Qm := fun z => f z Qm C.Em) hm fun o a vs u qa gu hv => ⟨u, (o, a), Qm, C.Em, rfl, gu.ok, hv, qa, fun d v w qd gw hw => by
    obtain ⟨p, rfl, h3, h1⟩ := nL_new g0 gu hw
    exact k d p w qd (gu.trans gw) h3 h1, fun e w qe gw => hE e w qe ((g0.trans gu).trans gw)⟩
theorem evn_mtN {δ : Type} {cvf : δ → Value} {f : α × A → M δ (List β)} {q : SRep β} (ho : IsObj r Cl ns) (hn : m ∉ ns) (h : Ev C te σ s r.r mo) (ha : EvA C ta σ s ar ma) : EvN C (tMtS Cl m (spX cvf (aC r.r ar) f fun z => nL q z) (fun _ => E0) te ta) σ s q (bd mo fun o => bd ma fun a => nox (f (o, a))) := fun t g g0 Qm hm Q k =>
  mt_run ho hn h ha g g0 (Qm := fun z => f z Qm fun _ => False) hm fun o a vs u qa gu hv => ⟨u, (o, a), Qm, _, rfl, gu.ok, hv, qa, fun d v w qd gw hw => by
    obtain ⟨p, rfl, h3, h1⟩ := nL_new g0 gu hw
    exact k d p w qd (gu.trans gw) h3 h1, fun e w qe _ => qe.elim⟩
theorem evn_mt0 {f : α × A → M Empty (List β)} {q : SRep β} (ho : IsObj r Cl ns) (hn : m ∉ ns) (h : Ev C te σ s r.r mo) (ha : EvA C ta σ s ar ma) : EvN C (tMtS Cl m (sp0 (aC r.r ar) f fun z => nL q z) E te ta) σ s q (bd mo fun o => bd ma fun a => lft (f (o, a))) := fun t g g0 Qm hm Q k =>
  mt_run ho hn h ha g g0 (Qm := fun z => f z Qm noE) hm fun o a vs u qa gu hv => ⟨u, (o, a), Qm, rfl, gu.ok, hv, qa, fun d v w qd gw hw => by
    obtain ⟨p, rfl, h3, h1⟩ := nL_new g0 gu hw
    exact k d p w qd (gu.trans gw) h3 h1⟩
/-! new objects -/
theorem ev_mkX {f : A → M ε β} {q : SRep β} {cvf : ε → Value} (hE : ∀ e u, C.Em e → Gr C.s0 u → E σ (cvf e) none u.hp) (ha : EvA C ta σ s ar ma) : Ev C (tMkS Cl (spI cvf Cl ar f q) E ta) σ s q.r (bd ma f) := fun t g g0 Qm hm Q k =>
  ha t g g0 _ hm _ fun a vs u qa gu hv x dx h1 h2 h3 => ⟨u, x, dx, vs, a, Qm, C.Em, rfl, rfl, h1, h2, h3, gu.ok, hv, qa, fun d w qd gw hw => ⟨rfl, k d _ w qd (gu.trans gw) hw⟩, fun e w qe gw => hE e w qe ((g0.trans gu).trans gw)⟩
theorem ev_mkN {δ : Type} {cvf : δ → Value} {f : A → M δ β} {q : SRep β} (ha : EvA C ta σ s ar ma) : Ev C (tMkS Cl (spI cvf Cl ar f q) (fun _ => E0) ta) σ s q.r (bd ma fun a => nox (f a)) := fun t g g0 Qm hm Q k =>
  ha t g g0 _ hm _ fun a vs u qa gu hv x dx h1 h2 h3 => ⟨u, x, dx, vs, a, Qm, _, rfl, rfl, h1, h2, h3, gu.ok, hv, qa, fun d w qd gw hw => ⟨rfl, k d _ w qd (gu.trans gw) hw⟩, fun e w qe _ => qe.elim⟩
/-- self.f = e in an __init__ -/
theorem s_fld {i : Nat} {x dx : Addr} {f : Str} {fs fs' : List (Str × V)} {tv : TE} {tr : TS} {q : SRep β} {mv : M ε β} {k : β → M ε γ} {Qm : γ → Prop} (h : Ev C tv σ s q.r mv) (hm : bd mv k Qm C.Em) (G : Gr C.s0 s) (ho : Own1 C.s0 x (.ins Cl dx fs) s) (cl : Cls K Cl) (na : NoAttr K Cl f)
    (hi : σ[i]? = some (some (.ref x))) (hl : fs.length < 1000) (hf : ∀ v, putF f v fs = fs' ++ [(f, v)])
    (next : ∀ d v t, Gx (fun a => a = x) s t → Gr C.s0 t → Own1 C.s0 x (.ins Cl dx (fs' ++ [(f, v)])) t → q.r.is t v d → k d Qm C.Em → tr D σ t.hp) : tSeq (sFld K (tVar i) tv f) tr D σ s.hp :=
  h s (Gx.refl G.ok) G _ hm _ fun d v u qd gu hv => by
    have ho1 := ho.u gu
    obtain ⟨o1, o2, o3⟩ := Own1.wr (o' := .ins Cl dx (fs' ++ [(f, v)])) (G.trans gu) ho1
    refine ⟨.ref x, hi, x, Cl, dx, fs, rfl, ho1.hp, cl, na, hl, ?_⟩
    rw [hf]
    exact next d v (Z.wr u x (.ins Cl dx (fs' ++ [(f, v)]))) (Gx.trans (Gx.of_gr gu) o3) o2 o1 (q.up o3.st hv) qd
/-! ### raising -/
end
/-! ### a def that may raise -/
section
variable {P : Program} {w : World} {K : PySem.W.Frag} {mg : Str → Option Value} {base : Heap}
theorem fnX {ε : Type} {cvf : ε → Value} {x qual : Str} {st : Stmt} {f : Addr} {fd : FuncData} {N ps : List Str} {k : Nat} {A β : Type} {ar : ARep A} {fm : A → M ε β} {rr : S → Rep β} (F : Fun K x qual st f fd) (Sc : FnScope N ps (defScope st))
    (hl : ∀ s vs a, ar.is s vs a → vs.length = ps.length)
    (body : ∀ (cdv : Value) (A' : Around) (outer : List Env) (sh : Shared), Room k (A'.deeper (envOfC qual (defScope st) sh.heap.objs.size f cdv)) →
      ∀ (C : Cn ε) (E : XK) (a : A) (vs : List V) (Qm : β → Prop), Sok C.s0 → ar.is C.s0 vs a → fm a Qm C.Em → ∃ t, PSs (cxOf (L2.CX P w) P w K mg base N qual (defScope st) f cdv A' outer sh C.s0.hp E) (defBody st) t ∧
        ∀ Q : VK, (∀ e u, C.Em e → Gr C.s0 u → E (cvf e) none u.hp) → (∀ d v u, Qm d → Gr C.s0 u → (rr C.s0).is u v d → Q v u.hp) → t { nx := fun _ H' => Q .non H', rt := Q } (start N vs) C.s0.hp) : FnOk P w K mg base (L2.CX P w) (k + 1) f fd ps (spX cvf ar fm rr) := by
  refine F.okX Sc (fun vs H Q E h => ?_) (fun cdv A' outer sh H vs Q E hr h => ?_)
  · obtain ⟨s, a, Qm, Em, _, _, h, _⟩ := h
    exact hl s vs a h
  · obtain ⟨s, a, Qm, Em, rfl, ok, ha, hm, hQ, hE⟩ := h
    obtain ⟨t, h1, h2⟩ := body cdv A' outer sh hr ⟨s, Em⟩ E a vs Qm ok ha hm
    exact ⟨t, h1, h2 Q hE hQ⟩
theorem fnI {ε : Type} {cvf : ε → Value} {Cl : Addr} {x qual : Str} {st : Stmt} {f : Addr} {fd : FuncData} {N ps : List Str} {k : Nat} {A β : Type} {ar : ARep A} {fm : A → M ε β} {r : SRep β} (F : Fun K x qual st f fd) (Sc : FnScope N ps (defScope st))
    (hl : ∀ s vs a, ar.is s vs a → vs.length + 1 = ps.length)
    (body : ∀ (cdv : Value) (A' : Around) (outer : List Env) (sh : Shared) (H0 : Hp), Room k (A'.deeper (envOfC qual (defScope st) sh.heap.objs.size f cdv)) →
      ∀ (C : Cn ε) (E : XK) (s1 : S) (x dx : Addr) (a : A) (vs : List V) (Qm : β → Prop), s1.hp = H0 → Gr C.s0 s1 → Own1 C.s0 x (.ins Cl dx []) s1 → ar.is C.s0 vs a → fm a Qm C.Em → ∃ t, PSs (cxOf (L2.CX P w) P w K mg base N qual (defScope st) f cdv A' outer sh H0 E) (defBody st) t ∧
        ∀ Q : VK, (∀ e u, C.Em e → Gr C.s0 u → E (cvf e) none u.hp) → (∀ d u, Qm d → Gr C.s0 u → r.r.is u (.ref x) d → Q .non u.hp) → t { nx := fun _ H' => Q .non H', rt := Q } (start N (.ref x :: vs)) s1.hp) : FnOk P w K mg base (L2.CX P w) (k + 1) f fd ps (spI cvf Cl ar fm r) := by
  refine F.okX Sc (fun vs H Q E h => ?_) (fun cdv A' outer sh H vs Q E hr h => ?_)
  · obtain ⟨s, x, dx, ws, a, Qm, Em, rfl, _, _, _, _, _, h, _⟩ := h
    exact hl s ws a h
  · obtain ⟨s, x, dx, ws, a, Qm, Em, rfl, rfl, h1, h2, h3, ok, ha, hm, hQ, hE⟩ := h
    have g1 := new_gr (o := .own x) ok h2
    have h1' : (wr s dx (.own x)).hp x = none := by
      show upd s.hp dx (.own x) x = none
      rw [upd_ne h3.symm]
      exact h1
    have g2 := g1.trans (new_gr (o := .ins Cl dx []) g1.ok h1')
    obtain ⟨t, z1, z2⟩ := body cdv A' outer sh _ hr ⟨s, Em⟩ E (wr (wr s dx (.own x)) x (.ins Cl dx [])) x dx a ws Qm rfl g2 ⟨h1, st_none (s := s) ok h1, bg_not (s := s) ok h1, upd_same⟩ ha hm
    exact ⟨t, z1, z2 Q hE hQ⟩
end
/-- methods, classes that may be called -/
structure CalM (P : Program) (w : World) (K : PySem.W.Frag) (mg : Str → Option Value) (base : Heap) (CX : CXT) (k : Nat) (Cl : Addr) (m : Str) (ps : List Str) (sp : Sp) (f : Addr) (fd : FuncData) : Prop where
  ok : FnOk P w K mg base CX k f fd ps sp
  mt : Meth K Cl m f
  bn : Binds K fd ps []
structure CalI (P : Program) (w : World) (K : PySem.W.Frag) (mg : Str → Option Value) (base : Heap) (CX : CXT) (k : Nat) (x : Str) (Cl : Addr) (ps : List Str) (sp : Sp) (f : Addr) (fd : FuncData) : Prop where
  ok : FnOk P w K mg base CX k f fd ps sp
  kk : Mk K Cl f
  gm : mg x = some (.ref Cl)
  bn : Binds K fd ps []
end Z

namespace Z
open PySem PySem.Spec PyProof.Rows L2
/-! ### a list of one's own lists -/
section
variable {α β γ : Type}
theorem paired_mem {F : Addr → β → Prop} {G : Addr → β → Prop} : ∀ {qs : List Addr} {ds : List β}, Paired F qs ds → (∀ q, q ∈ qs → ∀ b, F q b → G q b) → Paired G qs ds
  | _, _, .nil, _ => .nil
  | _, _, .cons f t, h => .cons (h _ List.mem_cons_self _ f) (paired_mem t fun q hq => h q (List.mem_cons_of_mem _ hq))
theorem paired_upd {F G : Addr → β → Prop} {x : Addr} {y : β} : ∀ {qs : List Addr} {ds : List β}, Paired F qs ds → qs.Nodup → ∀ {k : Nat}, qs[k]? = some x → (∀ q b, q ≠ x → F q b → G q b) → G x y → Paired G qs (ds.set k y)
  | _, _, .nil, _, k, h, _, _ => by simp at h
  | q :: qs, _, .cons f t, nd, 0, h, hk, hy => by
    simp at h
    subst h
    rw [List.nodup_cons] at nd
    exact .cons hy (paired_mem t fun q hq b fb => hk q b (fun e => nd.1 (e ▸ hq)) fb)
  | q :: qs, _, .cons f t, nd, k + 1, h, hk, hy => by
    rw [List.nodup_cons] at nd
    have h' : qs[k]? = some x := by simpa using h
    exact .cons (hk q _ (fun e => nd.1 (e ▸ List.mem_of_getElem? h')) f) (paired_upd t nd.2 h' hk hy)
theorem paired_map {F : Addr → β → Prop} {G : V → β → Prop} (h : ∀ q b, F q b → G (.ref q) b) : ∀ {qs : List Addr} {ds : List β}, Paired F qs ds → Paired G (qs.map V.ref) ds
  | _, _, .nil => .nil
  | _, _, .cons f t => .cons (h _ _ f) (paired_map h t)
theorem paired_getN {F : Addr → β → Prop} : ∀ {qs : List Addr} {ds : List β}, Paired F qs ds → ∀ {i : Nat} {d : β}, ds[i]? = some d → ∃ q, qs[i]? = some q ∧ F q d
  | _, _, .nil, _, _, h => by simp at h
  | _, _, .cons f _, 0, _, h => by
    simp at h
    subst h
    exact ⟨_, rfl, f⟩
  | _, _, .cons _ t, i + 1, _, h => by
    simp at h
    obtain ⟨x, h1, h2⟩ := paired_getN t h
    exact ⟨x, by simpa using h1, h2⟩
theorem paired_len {F : Addr → β → Prop} : ∀ {qs : List Addr} {ds : List β}, Paired F qs ds → qs.length = ds.length
  | _, _, .nil => rfl
  | _, _, .cons _ t => by rw [List.length_cons, List.length_cons, paired_len t]
theorem paired_dropLast {F : Addr → β → Prop} : ∀ {qs : List Addr} {ds : List β}, Paired F qs ds → Paired F qs.dropLast ds.dropLast
  | _, _, .nil => .nil
  | [_], _, .cons f .nil => .nil
  | _ :: _ :: _, _, .cons f (.cons g t) => .cons f (paired_dropLast (.cons g t))
theorem paired_appN {F : Addr → β → Prop} : ∀ {xs ys : List Addr} {ds es : List β}, Paired F xs ds → Paired F ys es → Paired F (xs ++ ys) (ds ++ es)
  | _, _, _, _, .nil, h => h
  | _, _, _, _, .cons f t, h => .cons f (paired_appN t h)
def oM (s0 : S) (r : SRep α) (p : Addr) (qs : List Addr) : Rep (List (List α)) :=
  ⟨fun s v d => v = .ref p ∧ s0.hp p = none ∧ s.st p = none ∧ ¬ s.bg p ∧ s.hp p = some (.lst (qs.map V.ref)) ∧ p ∉ qs ∧ qs.Nodup ∧ Paired (fun q row => (oL s0 r q).is s (.ref q) row) qs d, fun a => a = p ∨ a ∈ qs, fun {X s t v d} g hx h => by
    obtain ⟨h1, h2, h3, h4, h5, h6, h7, h8⟩ := h
    have nx : ¬ X p := hx p (.inl rfl)
    have ne : s.hp p ≠ none := by
      rw [h5]
      exact fun z => nomatch z
    exact ⟨h1, h2, (g.fr p nx ne).1 h3, fun z => h4 ((g.fr p nx ne).2 z), g.hp p _ nx h4 h5, h6, h7, paired_mem h8 fun q hq b hb => (oL s0 r q).up g (fun a e => by rw [(show a = q from e)]; exact hx q (.inr hq)) hb⟩⟩
/-- one of its lists -/
def rowR (s0 : S) (r : SRep α) (qs : List Addr) : Rep (List α) :=
  ⟨fun s v d => ∃ q, v = .ref q ∧ q ∈ qs ∧ (oL s0 r q).is s (.ref q) d, fun a => a ∈ qs, fun {X s t v d} g hx h => by
    obtain ⟨q, h1, h2, h3⟩ := h
    exact ⟨q, h1, h2, (oL s0 r q).up g (fun a e => by rw [(show a = q from e)]; exact hx q h2) h3⟩⟩
end
section
variable {ε : Type} {C : Cn ε} {K : PySem.W.Frag} {σ : L2.St} {s : S} {α β γ A R : Type} {D : Ends} {s0 s1 : S} {r : SRep α} {p : Addr} {qs : List Addr}
theorem rd_mat : RdL K s0 (oM s1 r p qs) (rowR s1 r qs) := ⟨fun g h => by
  obtain ⟨h1, h2, h3, h4, h5, h6, h7, h8⟩ := h
  exact ⟨p, _, h1, sqL_of h5, paired_map (fun q b hb => hb) (paired_mem h8 fun q hq b hb => ⟨q, rfl, hq, hb⟩)⟩⟩
theorem rd_row : RdL K s0 (rowR s1 r qs) r.r := ⟨fun g h => by
  obtain ⟨q, rfl, _, h1, _, _, _, xs, h5, h6⟩ := h
  exact ⟨q, xs, rfl, sqL_of h5, h6⟩⟩
theorem rs_row : RdS s0 (rowR s1 r qs) r := ⟨fun g h => by
  obtain ⟨q, rfl, _, h1, _, _, _, xs, h5, h6⟩ := h
  exact ⟨q, xs, rfl, h5, h6⟩⟩
theorem see_mat : Sees s0 (oM s1 r p qs) (bP (sL (sL r))) := ⟨fun {s v d} g h => by
  obtain ⟨h1, h2, h3, h4, h5, h6, h7, h8⟩ := h
  refine ⟨p, _, h1, old_of h4 h5, paired_map (F := fun q row => (oL s1 r q).is s (.ref q) row) (fun q b hb => ?_) h8⟩
  obtain ⟨_, _, _, e4, xs, e5, e6⟩ := hb
  exact ⟨q, xs, rfl, old_of e4 e5, Paired.mono (fun _ _ => r.up (st_old g.ok)) e6⟩⟩
theorem see_row : Sees s0 (rowR s1 r qs) (bP (sL r)) := ⟨fun {s v d} g h => by
  obtain ⟨q, rfl, _, h1, _, _, e4, xs, e5, e6⟩ := h
  exact ⟨q, xs, rfl, old_of e4 e5, Paired.mono (fun _ _ => r.up (st_old g.ok)) e6⟩⟩
theorem oty_mat : OfTy K s0 (oM s1 r p qs) "list" := fun s v d g h => by
  obtain ⟨rfl, h2, h3, h4, h5, h6⟩ := h
  exact .base (.lst h5)
theorem oty_row : OfTy K s0 (rowR s1 r qs) "list" := fun s v d g h => by
  obtain ⟨q, rfl, _, h1, _, _, e4, xs, e5, e6⟩ := h
  exact .base (.lst e5)
theorem dpr_mat [DecidableEq α] (e : Enc K r) : DpR K s0 (oM s1 r p qs) (enc_L (enc_L e)).enc := fun s v d g h => by
  obtain ⟨w, xs, rfl, h2, h3⟩ := see_mat.of g h
  exact .lst (sqL_of (old_some h2).2) (dpAll_of (r := sL r) (enc := (enc_L e).enc) (fun {v d} q => (enc_L e).dp q) (Paired.mono (fun _ _ q => (sL r).up (fun a o z => (old_some z).2) q) h3))
theorem dpr_row [DecidableEq α] (e : Enc K r) : DpR K s0 (rowR s1 r qs) (enc_L e).enc := fun s v d g h => by
  obtain ⟨q, rfl, _, h⟩ := h
  exact dpr_own e s _ d g h
/-- a row changed -/
theorem mat_wr {v : V} {d : List (List α)} {row : List α} {xs : List V} {k : Nat} {q : Addr} (G : Gr s0 s) (h : (oM s0 r p qs).is s v d) (hk : qs[k]? = some q) (hp : Paired (r.is s.st) xs row) :
    (oM s0 r p qs).is (wr s q (.lst xs)) v (d.set k row) ∧ Gr s0 (wr s q (.lst xs)) ∧ Gx (fun a => a = p ∨ a ∈ qs) s (wr s q (.lst xs)) := by
  obtain ⟨h1, h2, h3, h4, h5, h6, h7, h8⟩ := h
  have hq := List.mem_of_getElem? hk
  obtain ⟨row0, hrow⟩ : ∃ row0, d[k]? = some row0 := by
    have := paired_len h8
    have hlt := (List.getElem?_eq_some_iff.mp hk).1
    exact ⟨d[k]'(by omega), List.getElem?_eq_getElem _⟩
  obtain ⟨q', e1, e2⟩ := paired_getN h8 hrow
  cases hk.symm.trans e1
  have e2' := e2
  obtain ⟨_, z2, z3, z4, ys, z5, z6⟩ := e2'
  have g := wr_gx (o := .lst xs) G.ok z3 z4
  have hpq : p ≠ q := fun e => h6 (e ▸ hq)
  have up : ∀ q' b, q' ≠ q → (oL s0 r q').is s (.ref q') b → (oL s0 r q').is (wr s q (.lst xs)) (.ref q') b := fun q' b ne hb => (oL s0 r q').up g (fun a e z => ne (e.symm.trans z)) hb
  refine ⟨⟨h1, h2, h3, h4, ?_, h6, h7, paired_upd h8 h7 hk up ⟨rfl, z2, z3, z4, xs, upd_same, hp⟩⟩, Gr.gx G g fun a e => ?_, g.mono fun a e => .inr (by rw [(show a = q from e)]; exact hq)⟩
  · show upd s.hp q _ p = _
    rw [upd_ne hpq]
    exact h5
  · cases e
    exact z2
/-- the list of the rows changed: another list of rows in its place -/
theorem mat_rows {v : V} {d e : List (List α)} {qs' : List Addr} (G : Gr s0 s) (h : (oM s0 r p qs).is s v d) (hn : p ∉ qs') (nd : qs'.Nodup) (hp : Paired (fun q row => (oL s0 r q).is s (.ref q) row) qs' e) :
    (oM s0 r p qs').is (wr s p (.lst (qs'.map V.ref))) v e ∧ Gr s0 (wr s p (.lst (qs'.map V.ref))) ∧ Gx (fun a => a = p ∨ a ∈ qs) s (wr s p (.lst (qs'.map V.ref))) := by
  obtain ⟨h1, h2, h3, h4, h5, h6, h7, h8⟩ := h
  have g := wr_gx (o := .lst (qs'.map V.ref)) G.ok h3 h4
  refine ⟨⟨h1, h2, h3, h4, upd_same, hn, nd, paired_mem hp fun q hq b hb => (oL s0 r q).up g (fun a e z => hn ?_) hb⟩, Gr.gx G g fun a e => ?_, g.mono fun a e => .inl e⟩
  · have e1 : a = q := e
    have e2 : a = p := z
    rw [← e2, e1]
    exact hq
  · cases e
    exact h2
/-- kept as it is from now on -/
theorem rows_frz : ∀ {qs : List Addr} {d : List (List α)} {s : S}, Gr s0 s → qs.Nodup → Paired (fun q row => (oL s0 r q).is s (.ref q) row) qs d →
    ∃ t, t.hp = s.hp ∧ Gr s0 t ∧ Gx (fun a => a ∈ qs) s t ∧ Paired (fun q row => (sL r).r.is t (.ref q) row) qs d
  | _, _, s, G, _, .nil => ⟨s, rfl, G, Gx.refl G.ok, .nil⟩
  | q :: qs, _, s, G, nd, .cons f t => by
    rw [List.nodup_cons] at nd
    obtain ⟨t1, e1, G1, g1, f1⟩ := own_frz G f
    have t' := paired_mem t fun q' hq b (hb : (oL s0 r q').is s (.ref q') b) => (oL s0 r q').up g1 (fun a e z => nd.1 (by rw [← (show a = q from z), (show a = q' from e)]; exact hq)) hb
    obtain ⟨t2, e2, G2, g2, f2⟩ := rows_frz G1 nd.2 t'
    exact ⟨t2, e2.trans e1, G2, (g1.mono fun a e => by rw [(show a = q from e)]; exact List.mem_cons_self).trans (g2.mono fun a e => List.mem_cons_of_mem _ e), .cons ((sL r).up g2.st f1) f2⟩
theorem mat_frz {v : V} {d : List (List α)} (G : Gr s0 s) (h : (oM s0 r p qs).is s v d) : ∃ t, t.hp = s.hp ∧ Gr s0 t ∧ Gx (fun a => a = p ∨ a ∈ qs) s t ∧ (sL (sL r)).r.is t v d := by
  obtain ⟨h1, h2, h3, h4, h5, h6, h7, h8⟩ := h
  obtain ⟨t, e1, G1, g1, f1⟩ := rows_frz G h7 h8
  have ne : s.hp p ≠ none := by rw [h5]; exact fun z => nomatch z
  have t3 := (g1.fr p h6 ne).1 h3
  have t4 : ¬ t.bg p := fun z => h4 ((g1.fr p h6 ne).2 z)
  have t5 := g1.hp p _ h6 h4 h5
  have gf := frz_gx G1.ok t3 t4 t5
  refine ⟨frz t p (qs.map V.ref), e1, Gr.gx G1 gf fun a e => ?_, (g1.mono fun a e => .inr e).trans (gf.mono fun a e => .inl e), p, qs.map V.ref, h1, upd_same, paired_map (fun q b hb => hb) (paired_mem f1 fun q hq b hb => (sL r).up gf.st hb)⟩
  cases e
  exact h2
/-- a new list of new lists -/
def EvM (C : Cn ε) (te : TE) (σ : L2.St) (s : S) {α : Type} (r : SRep α) (m : M ε (List (List α))) : Prop :=
  ∀ t, Gr s t → Gr C.s0 t → ∀ Qm, m Qm C.Em → ∀ Q : VK, (∀ d p qs u, Qm d → Gr t u → (∀ a, a = p ∨ a ∈ qs → t.hp a = none) → (oM C.s0 r p qs).is u (.ref p) d → Q (.ref p) u.hp) → te σ t.hp Q
theorem evm_evn {te : TE} {r : SRep α} {m : M ε (List (List α))} (h : EvM C te σ s r m) : Ev C te σ s (sL (sL r)).r m := fun t g g0 Qm hm Q k =>
  h t g g0 _ hm _ fun d p qs u qd gu hn ho => by
    obtain ⟨z, e1, G1, g1, f1⟩ := mat_frz (g0.trans gu) ho
    rw [← e1]
    exact k d (.ref p) z qd (gu.gx g1 hn) f1
/-- [te for g in wi], each item a new list -/
theorem evm_lc {wi : TI} {j : Nat} {te : TE} {vs : List Nat} {σf : V → L2.St} {re : Rep α} {q : SRep β} {mi : M ε (List α)} {f : α → M ε (List β)} (hi : EvI C wi σ s No re mi) (h1 : ∀ v, (wipe σ vs).set j (some v) = σf v) (h2 : ∀ v, wipe (σf v) vs = wipe σ vs)
    (he : ∀ x v t, Gr s t → Gr C.s0 t → re.is t v x → EvN C te (σf v) t q (f x)) : EvM C (tLc wi (gName j) tYes te vs) σ s q (bd mi fun ds => bd (lim ds.length) fun _ => mapM' f ds) := fun t g g0 Qm hm Q k =>
  hi t g g0 _ hm _ fun ds J u qd gu go D hD => by
    obtain ⟨hlim, qd⟩ := qd
    refine ⟨fun i m H' => m = ds.length - i ∧ i ≤ ds.length ∧ ∃ w qs ys, w.hp = H' ∧ Gr u w ∧ w.st D = none ∧ ¬ w.bg D ∧ w.hp D = some (.lst (qs.map V.ref)) ∧ D ∉ qs ∧ qs.Nodup ∧ (∀ a, a ∈ qs → u.hp a = none) ∧ Paired (fun a row => (oL C.s0 q a).is w (.ref a) row) qs ys ∧ ys.length = i ∧ mapM' f (ds.drop i) (fun zs => Qm (ys ++ zs)) C.Em,
      ⟨ds.length, by simp, Nat.zero_le _, wr u D (.lst []), [], [], rfl, new_gr gu.ok hD, st_none (s := u) gu.ok hD, bg_not (s := u) gu.ok hD, upd_same, by simp, by simp, by simp, .nil, rfl, by rw [List.drop_zero]; exact qd⟩, fun i m H' hw => ?_⟩
    obtain ⟨rfl, hl, w, qs, ys, rfl, gw, w1, w2, w3, w6, w7, w8, w4, w5, hf⟩ := hw
    have gw0 := (g0.trans gu).trans gw
    obtain ⟨g1, g2⟩ := go i w gw
    cases hd : ds[i]? with
    | none =>
      have hl' : ds.length ≤ i := List.getElem?_eq_none_iff.mp hd
      rw [List.drop_of_length_le hl'] at hf
      refine .inl ⟨g2 hl', k ys D qs w (by have hf' : Qm (ys ++ []) := hf; rw [List.append_nil] at hf'; exact hf') (gu.trans gw) (fun a ha => hp_back gu (show u.hp a = none from by
        rcases ha with e | e
        · rw [e]; exact hD
        · exact w8 a e)) ⟨rfl, ?_, w1, w2, w3, w6, w7, w4⟩⟩
      exact hp_back (g0.trans gu) hD
    | some d =>
      obtain ⟨g3, g4⟩ := g1 d hd
      have hlt : i < ds.length := (List.getElem?_eq_some_iff.mp hd).1
      rw [drop_some hd] at hf
      have hf := mapM_run hf
      refine .inr ⟨g3, fun H3 => ∃ m', m' < ds.length - i ∧ (m' = ds.length - (i + 1) ∧ i + 1 ≤ ds.length ∧ ∃ w qs ys, w.hp = H3 ∧ Gr u w ∧ w.st D = none ∧ ¬ w.bg D ∧ w.hp D = some (.lst (qs.map V.ref)) ∧ D ∉ qs ∧ qs.Nodup ∧ (∀ a, a ∈ qs → u.hp a = none) ∧ Paired (fun a row => (oL C.s0 q a).is w (.ref a) row) qs ys ∧ ys.length = i + 1 ∧ mapM' f (ds.drop (i + 1)) (fun zs => Qm (ys ++ zs)) C.Em), fun H3 hN => hN, fun x H' hy => ?_⟩
      obtain ⟨rfl, hx⟩ := g4 x H' hy
      refine gname_do (h1 x) ⟨h2 x, ?_⟩
      dsimp only [tYes]
      rw [if_pos rfl]
      refine he d x w (g.trans (gu.trans gw)) gw0 hx w (Gx.refl gw.ok) gw0 _ hf _ fun y a z qy gz ha hv => ?_
      have z3 : z.hp D = some (.lst (qs.map V.ref)) := gz.hp D _ (fun e => e) w2 w3
      have ne : w.hp D ≠ none := by rw [w3]; exact fun e => nomatch e
      have z1 := (gz.fr D (fun e => e) ne).1 w1
      have z2 : ¬ z.bg D := fun e => w2 ((gz.fr D (fun e => e) ne).2 e)
      have aD : a ≠ D := fun e => ne (by rw [← e]; exact ha)
      have anq : a ∉ qs := fun hm => by
        obtain ⟨n, hn⟩ := List.getElem?_of_mem hm
        obtain ⟨row, hrow⟩ : ∃ row, ys[n]? = some row := by
          have := paired_len w4
          have hlt := (List.getElem?_eq_some_iff.mp hn).1
          exact ⟨ys[n]'(by omega), List.getElem?_eq_getElem _⟩
        obtain ⟨a', e1, _, _, _, _, xs, e5, _⟩ := paired_getN w4 hrow
        cases hn.symm.trans e1
        rw [ha] at e5
        cases e5
      have gx := wr_gx (o := .lst (qs.map V.ref ++ [.ref a])) gz.ok z1 z2
      have lift : ∀ a' row, a' ≠ D → (oL C.s0 q a').is z (.ref a') row → (oL C.s0 q a').is (wr z D (.lst (qs.map V.ref ++ [.ref a]))) (.ref a') row := fun a' row ne' h' => (oL C.s0 q a').up gx (fun b e e' => ne' (by rw [← (show b = a' from e)]; exact e')) h'
      refine ⟨qs.map V.ref, z3, Nat.lt_of_lt_of_le (show (qs.map V.ref).length < 100000 by rw [List.length_map, paired_len w4, w5]; have : ds.length ≤ 100000 := hlim; omega) (by decide : 100000 ≤ sizeLine), ds.length - (i + 1), by omega, rfl, hlt, wr z D (.lst (qs.map V.ref ++ [.ref a])), qs ++ [a], ys ++ [y], rfl,
        Gr.gx (gw.trans gz) gx (fun a e => by cases e; exact hD), z1, z2, ?_, ?_, ?_, ?_, ?_, by rw [List.length_append, w5]; rfl, qy⟩
      · show upd z.hp D _ D = _
        rw [upd_same, List.map_append]
        rfl
      · rw [List.mem_append, not_or]
        exact ⟨w6, fun h => aD (show D = a from by simpa using h).symm⟩
      · rw [List.nodup_append]
        refine ⟨w7, by simp, fun b hb c hc => ?_⟩
        have : c = a := by simpa using hc
        subst this
        exact fun e => anq (e ▸ hb)
      · intro b hb
        rw [List.mem_append] at hb
        rcases hb with hb | hb
        · exact w8 b hb
        · have : b = a := by simpa using hb
          subst this
          exact hp_back gw ha
      · refine paired_appN (paired_mem w4 fun a' ha' row hr => lift a' row (fun e => w6 (e ▸ ha')) (Rep.u gz hr)) (.cons (lift a y aD hv) .nil)
/-! statements -/
variable {Qm : γ → Prop}
theorem s_setM {i : Nat} {σf : V → L2.St} {te : TE} {tr : TS} {r : SRep α} {m : M ε (List (List α))} {k : List (List α) → M ε γ} (h : EvM C te σ s r m) (hm : bd m k Qm C.Em) (G : Gr C.s0 s) (hσ : ∀ v, σ.set i (some v) = σf v)
    (next : ∀ d p qs t, Gr s t → (∀ a, a = p ∨ a ∈ qs → s.hp a = none) → (oM C.s0 r p qs).is t (.ref p) d → k d Qm C.Em → tr D (σf (.ref p)) t.hp) : tSeq (tAsg te (gName i)) tr D σ s.hp := h s (Gx.refl G.ok) G _ hm _ fun d p qs u qd gu hp hv => by
  show tr D (σ.set i (some (.ref p))) u.hp
  rw [hσ]
  exact next d p qs u gu hp hv qd
def rowAt {ε : Type} (ds : List (List α)) (i : Int) : M ε (Nat × List α) := fun Q _ => ∃ k row, ixN ds.length i = some k ∧ ds[k]? = some row ∧ Q (k, row)
theorem at_row {d : List (List α)} {v : V} (h : (oM s0 r p qs).is s v d) {i : Int} {k : Nat} {row : List α} (e1 : ixN d.length i = some k) (e2 : d[k]? = some row) : ∃ q, qs[k]? = some q ∧ atI (qs.map V.ref) i = some (.ref q) ∧ (oL s0 r q).is s (.ref q) row := by
  obtain ⟨h1, h2, h3, h4, h5, h6, h7, h8⟩ := h
  obtain ⟨q, f1, f2⟩ := paired_getN h8 e2
  refine ⟨q, f1, ?_, f2⟩
  unfold atI
  rw [List.length_map, paired_len h8, e1]
  show (qs.map V.ref)[k]? = _
  rw [List.getElem?_map, f1]
  rfl
/-- m[i][j] = e -/
theorem s_put2 {v : V} {ta ti tj te : TE} {tr : TS} {r : SRep α} {ds : List (List α)} {m : M ε α} {mi mj : M ε Int} {k : List (List α) → M ε γ}     (hp : (oM C.s0 r p qs).is s v ds) (ha : Ev C ta σ s (oM C.s0 r p qs) (ret ds)) (h : Ev C te σ s r.r m) (hi : Ev C ti σ s sI.r mi) (hj : Ev C tj σ s sI.r mj) (hm : bd (bd m fun e => bd mi fun i => bd (rowAt ds i) fun w => bd mj fun j => bd (put w.2 j e) fun row => ret (ds.set w.1 row)) k Qm C.Em) (G : Gr C.s0 s)
    (next : ∀ es t, Gx (fun a => a = p ∨ a ∈ qs) s t → Gr C.s0 t → (oM C.s0 r p qs).is t v es → k es Qm C.Em → tr D σ t.hp) : tSeq (tAsg te (gSub (tOp (rIxL K) ta ti) tj rSetL)) tr D σ s.hp :=
  h s (Gx.refl G.ok) G _ hm _ fun d y u qd gu hy => ha u gu (G.trans gu) (fun d => d = ds) rfl _ fun d1 x w e1 gw hx => by
    subst e1
    refine hi w (gu.trans gw) ((G.trans gu).trans gw) _ qd _ fun i z x2 qi gx hz => ?_
    obtain ⟨n, row, e1, e2, qi⟩ := qi
    have hx2 := Rep.u gx hx
    obtain ⟨q, f1, f2, f3⟩ := at_row hx2 e1 e2
    obtain ⟨h1, h2, h3, h4, h5, h6, h7, h8⟩ := hx2
    refine ⟨p, _, i, .ref q, h1, hz, sqL_of h5, f2, ?_⟩
    refine hj x2 ((gu.trans gw).trans gx) (((G.trans gu).trans gw).trans gx) _ qi _ fun j z3 x3 qj gx3 hz3 => ?_
    obtain ⟨l, ej, qj⟩ := qj
    have g5 := ((gu.trans gw).trans gx).trans gx3
    obtain ⟨_, _, _, _, xs, r5, r6⟩ := Rep.u gx3 f3
    obtain ⟨o1, o2, o3⟩ := mat_wr (xs := xs.set l y) (row := row.set l d) (G.trans g5) (Rep.u g5 hp) f1 (paired_set (r.up (Ex.trans (Ex.trans gw.st gx.st) gx3.st) hy) r6 l)
    refine ⟨q, xs, j, l, rfl, hz3, r5, by rw [r6.length]; exact ej, ?_⟩
    exact next _ _ (Gx.trans (Gx.of_gr g5) o3) o2 o1 qj
/-- m[i].append(e) -/
theorem s_app2 {v : V} {ta ti te : TE} {tr : TS} {r : SRep α} {ds : List (List α)} {m : M ε α} {mi : M ε Int} {k : List (List α) → M ε γ}     (hp : (oM C.s0 r p qs).is s v ds) (ha : Ev C ta σ s (oM C.s0 r p qs) (ret ds)) (h : Ev C te σ s r.r m) (hi : Ev C ti σ s sI.r mi) (hm : bd (bd mi fun i => bd (rowAt ds i) fun w => bd m fun e => bd (app w.2 e) fun row => ret (ds.set w.1 row)) k Qm C.Em) (G : Gr C.s0 s)
    (next : ∀ es t, Gx (fun a => a = p ∨ a ∈ qs) s t → Gr C.s0 t → (oM C.s0 r p qs).is t v es → k es Qm C.Em → tr D σ t.hp) : tSeq (tDrop (tBM K "list" rAppend (tOp (rIxL K) ta ti) (tCons te tNil))) tr D σ s.hp :=
  ha s (Gx.refl G.ok) G (fun d => d = ds) rfl _ fun d1 x w e1 gw hx => by
    subst e1
    refine hi w gw (G.trans gw) _ hm _ fun i z x2 qi gx hz => ?_
    obtain ⟨n, row, e1, e2, qi⟩ := qi
    have hx2 := Rep.u gx hx
    obtain ⟨q, f1, f2, f3⟩ := at_row hx2 e1 e2
    obtain ⟨h1, h2, h3, h4, h5, h6, h7, h8⟩ := hx2
    refine ⟨p, _, i, .ref q, h1, hz, sqL_of h5, f2, ?_⟩
    have f3' := f3
    obtain ⟨_, _, _, r4, xs, r5, r6⟩ := f3'
    refine ⟨Or.inl ⟨rfl, xs, sqL_of r5⟩, h x2 (gw.trans gx) ((G.trans gw).trans gx) _ qi _ fun d y x3 qd gx3 hy => ?_⟩
    have g5 := (gw.trans gx).trans gx3
    have r5' : x3.hp q = some (.lst xs) := gx3.hp q _ (fun z => z) r4 r5
    have r6' : Paired (r.is x3.st) xs row := Paired.mono (fun _ _ => r.up gx3.st) r6
    obtain ⟨o1, o2, o3⟩ := mat_wr (xs := xs ++ [y]) (row := row ++ [d]) (G.trans g5) (Rep.u g5 hp) f1 (paired_app r6' (.cons hy .nil))
    refine ⟨q, xs, y, rfl, rfl, r5', Nat.lt_of_lt_of_le (by rw [r6.length]; exact qd.1) (by decide : 100000 ≤ sizeLine), ?_⟩
    exact next _ _ (Gx.trans (Gx.of_gr g5) o3) o2 o1 qd.2
def dropL {ε : Type} (xs : List α) : M ε (List α) := fun Q _ => xs ≠ [] ∧ Q xs.dropLast
theorem last_some {xs : List V} (h : xs ≠ []) : ∃ y, xs[xs.length - 1]? = some y := ⟨xs[xs.length - 1]'(by have := List.length_pos_iff.mpr h; omega), List.getElem?_eq_getElem _⟩
theorem paired_dropV {F : V → α → Prop} : ∀ {xs : List V} {ds : List α}, Paired F xs ds → Paired F xs.dropLast ds.dropLast
  | _, _, .nil => .nil
  | [_], _, .cons f .nil => .nil
  | _ :: _ :: _, _, .cons f (.cons g t) => .cons f (paired_dropV (.cons g t))
/-- m[i].pop() -/
theorem s_pop2 {v : V} {ta ti : TE} {tr : TS} {r : SRep α} {ds : List (List α)} {mi : M ε Int} {k : List (List α) → M ε γ}     (hp : (oM C.s0 r p qs).is s v ds) (ha : Ev C ta σ s (oM C.s0 r p qs) (ret ds)) (hi : Ev C ti σ s sI.r mi) (hm : bd (bd mi fun i => bd (rowAt ds i) fun w => bd (dropL w.2) fun row => ret (ds.set w.1 row)) k Qm C.Em) (G : Gr C.s0 s)
    (next : ∀ es t, Gx (fun a => a = p ∨ a ∈ qs) s t → Gr C.s0 t → (oM C.s0 r p qs).is t v es → k es Qm C.Em → tr D σ t.hp) : tSeq (tDrop (tBM K "list" rPop (tOp (rIxL K) ta ti) tNil)) tr D σ s.hp :=
  ha s (Gx.refl G.ok) G (fun d => d = ds) rfl _ fun d1 x w e1 gw hx => by
    subst e1
    refine hi w gw (G.trans gw) _ hm _ fun i z x2 qi gx hz => ?_
    obtain ⟨n, row, e1, e2, hne, qi⟩ := qi
    have hx2 := Rep.u gx hx
    obtain ⟨q, f1, f2, f3⟩ := at_row hx2 e1 e2
    have hx2' := hx2
    obtain ⟨h1, h2, h3, h4, h5, h6, h7, h8⟩ := hx2'
    refine ⟨p, _, i, .ref q, h1, hz, sqL_of h5, f2, ?_⟩
    obtain ⟨_, _, _, r4, xs, r5, r6⟩ := f3
    have xne : xs ≠ [] := fun e => by
      subst e
      cases r6
      exact hne rfl
    obtain ⟨y, hy⟩ := last_some xne
    obtain ⟨o1, o2, o3⟩ := mat_wr (xs := xs.dropLast) (row := row.dropLast) ((G.trans gw).trans gx) (Rep.u (gw.trans gx) hp) f1 (paired_dropV r6)
    exact ⟨Or.inl ⟨rfl, xs, sqL_of r5⟩, q, xs, y, rfl, rfl, r5, hy, next _ _ (Gx.trans (Gx.of_gr (gw.trans gx)) o3) o2 o1 qi⟩
/-- m.pop() -/
theorem s_popM {v : V} {ta : TE} {tr : TS} {r : SRep α} {ds : List (List α)} {k : List (List α) → M ε γ} (hp : (oM C.s0 r p qs).is s v ds) (ha : Ev C ta σ s (oM C.s0 r p qs) (ret ds)) (hm : bd (dropL ds) k Qm C.Em) (G : Gr C.s0 s)
    (next : ∀ es qs' t, (∀ a, a ∈ qs' → a ∈ qs) → Gx (fun a => a = p ∨ a ∈ qs) s t → Gr C.s0 t → (oM C.s0 r p qs').is t v es → k es Qm C.Em → tr D σ t.hp) : tSeq (tDrop (tBM K "list" rPop ta tNil)) tr D σ s.hp :=
  ha s (Gx.refl G.ok) G (fun d => d = ds) rfl _ fun d1 x w e1 gw hx => by
    subst e1
    have hx' := hx
    obtain ⟨h1, h2, h3, h4, h5, h6, h7, h8⟩ := hx'
    have ne : qs.map V.ref ≠ [] := fun e => by
      cases qs with
      | nil =>
        cases h8
        exact hm.1 rfl
      | cons a b => cases e
    obtain ⟨y, hy⟩ := last_some ne
    have sub : ∀ a, a ∈ qs.dropLast → a ∈ qs := fun a ha => List.dropLast_subset _ ha
    obtain ⟨o1, o2, o3⟩ := mat_rows (qs' := qs.dropLast) (G.trans gw) (Rep.u gw hp) (fun z => h6 (sub _ z)) (List.Nodup.sublist (List.dropLast_sublist _) h7) (paired_dropLast h8)
    have em : (qs.map V.ref).dropLast = qs.dropLast.map V.ref := by rw [List.map_dropLast]
    refine ⟨by rw [h1]; exact Or.inl ⟨rfl, _, sqL_of h5⟩, p, qs.map V.ref, y, h1, rfl, h5, hy, ?_⟩
    rw [em]
    exact next _ _ _ sub (Gx.trans (Gx.of_gr gw) o3) o2 o1 hm.2
end
end Z
namespace Z
open PySem PySem.Spec PyProof.Rows L2
theorem mat_al {α : Type} {s0 s : S} {r : SRep α} {p : Addr} {qs : List Addr} {v : V} {d : List (List α)} (h : (oM s0 r p qs).is s v d) : ∀ a, a = p ∨ a ∈ qs → s.hp a ≠ none := fun a e => by
  obtain ⟨h1, h2, h3, h4, h5, h6, h7, h8⟩ := h
  rcases e with e | e
  · rw [e, h5]
    exact fun z => nomatch z
  · obtain ⟨n, hn⟩ := List.getElem?_of_mem e
    obtain ⟨row, hrow⟩ : ∃ row, d[n]? = some row := by
      have := paired_len h8
      have hlt := (List.getElem?_eq_some_iff.mp hn).1
      exact ⟨d[n]'(by omega), List.getElem?_eq_getElem _⟩
    obtain ⟨a', e1, e2⟩ := paired_getN h8 hrow
    cases hn.symm.trans e1
    exact own_al e2 a rfl
theorem mat_nw {α : Type} {s0 s : S} {r : SRep α} {p : Addr} {qs : List Addr} {v : V} {d : List (List α)} (h : (oM s0 r p qs).is s v d) : NewX s0 (fun a => a = p ∨ a ∈ qs) := fun a e => by
  obtain ⟨h1, h2, h3, h4, h5, h6, h7, h8⟩ := h
  rcases e with e | e
  · rw [e]
    exact h2
  · obtain ⟨n, hn⟩ := List.getElem?_of_mem e
    obtain ⟨row, hrow⟩ : ∃ row, d[n]? = some row := by
      have := paired_len h8
      have hlt := (List.getElem?_eq_some_iff.mp hn).1
      exact ⟨d[n]'(by omega), List.getElem?_eq_getElem _⟩
    obtain ⟨a', e1, e2⟩ := paired_getN h8 hrow
    cases hn.symm.trans e1
    exact e2.2.1
end Z

namespace Z
open PySem PySem.Spec PyProof.Rows L2
/-! ### a def that changes its first parameter, a list -/
section
open Classical in
/-- s without p -/
noncomputable def hide (s : S) (p : Addr) : S := ⟨s.st, fun a => if a = p then none else s.hp a, s.bg⟩
theorem hide_ne {s : S} {p a : Addr} (h : a ≠ p) : (hide s p).hp a = s.hp a := by
  show (if a = p then none else s.hp a) = _
  rw [if_neg h]
theorem hide_eq {s : S} {p : Addr} : (hide s p).hp p = none := by
  show (if p = p then none else s.hp p) = _
  rw [if_pos rfl]
theorem hide_some {s : S} {p a : Addr} {o : HO} (h : (hide s p).hp a = some o) : a ≠ p ∧ s.hp a = some o := by
  have ne : a ≠ p := fun e => by
    rw [e, hide_eq] at h
    cases h
  rw [hide_ne ne] at h
  exact ⟨ne, h⟩
theorem hide_ok {s : S} {p : Addr} (ok : Sok s) (h1 : s.st p = none) (h2 : ¬ s.bg p) : Sok (hide s p) where
  sub := fun a o e => by
    have ne : a ≠ p := fun z => by
      have e' : s.st a = some o := e
      rw [z, h1] at e'
      cases e'
    rw [hide_ne ne]
    exact ok.sub a o e
  bag := fun a e => by
    obtain ⟨e1, i, j, e2⟩ := ok.bag a e
    have ne : a ≠ p := fun z => h2 (z ▸ e)
    exact ⟨e1, i, j, by rw [hide_ne ne]; exact e2⟩
theorem hide_gr {s : S} {p : Addr} (ok : Sok s) : Gr (hide s p) s where
  ok := ok
  st := Ex.refl _
  hp := fun a o _ _ e => (hide_some e).2
  bg := fun _ e => e
  fr := fun _ _ _ => ⟨fun z => z, fun z => z⟩
  al := fun a e => by
    cases h : (hide s p).hp a with
    | none => exact absurd h e
    | some o =>
      rw [(hide_some h).2]
      exact fun z => nomatch z
theorem hide_back {s u : S} {p : Addr} (ok : Sok s) (h : u.hp p ≠ none) (g : Gr (hide s p) u) : Gx (fun a => a = p) s u where
  ok := g.ok
  st := g.st
  hp := fun a o hx hb e => g.hp a o (fun z => z) hb (by rw [hide_ne hx]; exact e)
  bg := g.bg
  fr := fun a hx e => g.fr a (fun z => z) (by rw [hide_ne hx]; exact e)
  al := fun a e => by
    by_cases ha : a = p
    · rw [ha]
      exact h
    · exact g.al a (by rw [hide_ne ha]; exact e)
/-- looked at beside the changed p -/
def bX (p : Addr) {α : Type} (r : SRep α) : Rep α := ⟨fun s v d => r.is (old (hide s p)) v d, fun _ => True, fun {X s t v d} g hx h => by
  have g' := gr_of_gx g fun a => hx a trivial
  refine r.up (fun a o e => ?_) h
  obtain ⟨e1, e2⟩ := old_some e
  obtain ⟨e3, e4⟩ := hide_some e2
  have e5 := old_old g' a o (old_of e1 e4)
  obtain ⟨e6, e7⟩ := old_some e5
  exact old_of (s := hide t p) e6 (by rw [hide_ne e3]; exact e7)⟩
variable {α β γ : Type} {s0 : S} {p : Addr}
theorem seex_val {r : SRep α} {q : SRep β} {v1 : V} {d1 : List β} {s : S} (G : Gr s0 s) (h : (oL s0 q p).is s v1 d1) : Sees s r.r (bX p r) := ⟨fun {t v d} g e => by
  have hp := Rep.u g h
  refine r.up (fun a o z => ?_) e
  have z' := st_old g.ok a o z
  obtain ⟨e1, e2⟩ := old_some z'
  exact old_of (s := hide t p) e1 (by rw [hide_ne (fun w => by rw [w, hp.2.2.1] at z; cases z)]; exact e2)⟩
theorem seex_bor {r : SRep α} {q : SRep β} {v1 : V} {d1 : List β} {s : S} (G : Gr s0 s) (h : (oL s0 q p).is s v1 d1) : Sees s (bR s0 r) (bX p r) := ⟨fun {t v d} g e => by
  have hp := Rep.u g h
  refine r.up (fun a o z => ?_) e
  obtain ⟨e1, e2⟩ := old_some (old_old (G.trans g) a o z)
  exact old_of (s := hide t p) e1 (by rw [hide_ne (fun w => by rw [w] at z; have := (old_some z).2; rw [hp.2.1] at this; cases this)]; exact e2)⟩
theorem seex_own {r : SRep α} {q : SRep β} {v1 : V} {d1 : List β} {s : S} {a1 : Addr} (G : Gr s0 s) (h : (oL s0 q p).is s v1 d1) (ne : a1 ≠ p) : Sees s (oL s0 r a1) (bX p (sL r)) := ⟨fun {t v d} g e => by
  have hp := Rep.u g h
  obtain ⟨h1, h2, h3, h4, xs, h5, h6⟩ := e
  refine ⟨a1, xs, h1, old_of (s := hide t p) h4 (by rw [hide_ne ne]; exact h5), Paired.mono (fun _ _ => r.up fun a o z => ?_) h6⟩
  obtain ⟨e1, e2⟩ := old_some (st_old g.ok a o z)
  exact old_of (s := hide t p) e1 (by rw [hide_ne (fun w => by rw [w, hp.2.2.1] at z; cases z)]; exact e2)⟩
/-- its promise -/
def spM {A β : Type} (r : SRep β) (ar : ARep A) (f : List β → A → M Empty (List β)) : Sp := fun vs H Q _ =>
  ∃ s p ws d a Qm, vs = .ref p :: ws ∧ s.hp = H ∧ Sok s ∧ s.st p = none ∧ ¬ s.bg p ∧ (∃ xs, s.hp p = some (.lst xs) ∧ Paired (r.is s.st) xs d) ∧ ar.is (hide s p) ws a ∧ f d a Qm noE ∧ (∀ e u, Qm e → Gr (hide s p) u → (oL (hide s p) r p).is u (.ref p) e → Q .non u.hp)
end
section
variable {P : Program} {w : World} {K : PySem.W.Frag} {mg : Str → Option Value} {base : Heap}
theorem fnM {x qual : Str} {st : Stmt} {f : Addr} {fd : FuncData} {N ps : List Str} {k : Nat} {A β : Type} {r : SRep β} {ar : ARep A} {fm : List β → A → M Empty (List β)} (F : Fun K x qual st f fd) (Sc : FnScope N ps (defScope st))
    (hl : ∀ s vs a, ar.is s vs a → vs.length + 1 = ps.length)
    (body : ∀ (cdv : Value) (A' : Around) (outer : List Env) (sh : Shared) (E : XK) (H0 : Hp), Room k (A'.deeper (envOfC qual (defScope st) sh.heap.objs.size f cdv)) →
      ∀ (C : Cn Empty) (s1 : S) (p : Addr) (d : List β) (a : A) (vs : List V) (Qm : List β → Prop), s1.hp = H0 → Gr C.s0 s1 → (oL C.s0 r p).is s1 (.ref p) d → ar.is C.s0 vs a → fm d a Qm C.Em → ∃ t, PSs (cxOf CX0 P w K mg base N qual (defScope st) f cdv A' outer sh H0 E).nox (defBody st) t ∧
        ∀ Q : VK, (∀ e u, Qm e → Gr C.s0 u → (oL C.s0 r p).is u (.ref p) e → Q .non u.hp) → t { nx := fun _ H' => Q .non H', rt := Q } (start N (.ref p :: vs)) s1.hp) : FnOk P w K mg base CX0 (k + 1) f fd ps (spM r ar fm) := by
  refine F.ok Sc (fun vs H Q E h => ?_) (fun cdv A' outer sh H vs Q E hr h => ?_)
  · obtain ⟨s, p, ws, d, a, Qm, rfl, _, _, _, _, _, h, _⟩ := h
    exact hl _ ws a h
  · obtain ⟨s, p, ws, d, a, Qm, rfl, rfl, ok, h1, h2, ⟨xs, h3, h4⟩, ha, hm, hQ⟩ := h
    obtain ⟨t, z1, z2⟩ := body cdv A' outer sh E _ hr ⟨hide s p, noE⟩ s p d a ws Qm rfl (hide_gr ok) ⟨rfl, hide_eq, h1, h2, xs, h3, h4⟩ ha hm
    exact ⟨t, z1, z2 Q hQ⟩
end
section
variable {ε : Type} {C : Cn ε} {K : PySem.W.Frag} {σ : L2.St} {s : S} {α β γ A R : Type} {D : Ends} {Qm : γ → Prop}
/-- f(xs, ..) that changes xs; ar' says of the arguments what they are beside p -/
theorem s_mcall {p : Addr} {v : V} {i : Nat} {ta : TA} {tr : TS} {E : L2.St → XK} {r : SRep β} {ar ar' : ARep A} {ds : List β} {f : List β → A → M Empty (List β)} {ma : M ε A} {k : List β → M ε γ} (hp : (oL C.s0 r p).is s v ds) (hi : σ[i]? = some (some v)) (h : EvA C ta σ s ar' ma)
    (hx : ∀ u vs a, ar'.is u vs a → ar.is (hide u p) vs a) (hm : bd (bd ma fun a => lft (f ds a)) k Qm C.Em) (G : Gr C.s0 s) (next : ∀ es t, Gx (fun a => a = p) s t → Gr C.s0 t → (oL C.s0 r p).is t v es → k es Qm C.Em → tr D σ t.hp) : tSeq (tDrop (tCallS (spM r ar f) E (tCons (tVar i) ta))) tr D σ s.hp := by
  refine ⟨v, hi, h s (Gx.refl G.ok) G _ hm _ fun a vs u qa gu hv => ?_⟩
  have hp' := Rep.u gu hp
  obtain ⟨h1, h2, h3, h4, xs, h5, h6⟩ := hp'
  refine ⟨u, p, vs, ds, a, _, by rw [h1], rfl, gu.ok, h3, h4, ⟨xs, h5, h6⟩, hx u vs a hv, qa, fun e w qe gw hw => ?_⟩
  obtain ⟨o1, o2, o3, o4, ys, o5, o6⟩ := hw
  have gb := hide_back gu.ok (by rw [o5]; exact fun z => nomatch z) gw
  exact next e w (Gx.trans (Gx.of_gr gu) gb) (Gr.gx (G.trans gu) gb fun a e => by rw [(show a = p from e)]; exact h2) ⟨h1, h2, o3, o4, ys, o5, o6⟩ qe
/-! ### try .. except X as e .. -/
def tryM {δ : Type} (m : M δ α) (h : δ → M ε α) : M ε α := fun Q E => m Q fun e => h e Q E
structure Hd where
  c : Value
  i : Nat
  ts : Addr → Value → Option Addr → TS
def wAsM (K : PySem.W.Frag) (Wout : WX) (D : Ends) : List Hd → WX
  | [] => Wout
  | ⟨c, i, ts⟩ :: r => fun cls d σ H => ∃ b, PySem.W.exmOne K cls c = some b ∧ (b = true → ∀ a, H a = none → ts a cls d { nx := fun σ' H' => D.nx (σ'.set i none) H', rt := D.rt, bk := fun σ' H' => D.bk (σ'.set i none) H', ct := fun σ' H' => D.ct (σ'.set i none) H' } (σ.set i (some (.ref a))) H) ∧ (b = false → wAsM K Wout D r cls d σ H)
inductive HdsA (X : Cx) : List ExceptHandler → List Hd → Prop
  | nil : HdsA X [] []
  | cons {x n : Str} {c : Value} {i : Nat} {ts : Addr → Value → Option Addr → TS} {b₀ : Stmt} {suite : List Stmt} {np pos' : Pos} {hds : List ExceptHandler} {l : List Hd} (hN : X.N.Nodup) (hi : X.N[i]? = some n) (hln : X.env.kindOf n = some .local) (hc : Names X x c)
      (hsu : ∀ (a : Addr) (oe : Obj) (cls : Value) (d : Option Addr) (pn : List (Addr × Obj)), Zc cls d oe → (∃ vs, oe.data = .fields vs) → PSs (X.suite a ((a, oe) :: pn)) (b₀ :: suite) (ts a cls d)) (r : HdsA X hds l) :
      HdsA X (.ExceptHandler (some (.Name x np)) (some n) (b₀ :: suite) pos' :: hds) (⟨c, i, ts⟩ :: l)
def tTry (tb : WX → TS) (W : Ends → WX) : TS := fun D σ H => tb (W D) D σ H
theorem ps_try_asM {X : Cx} {body : List Stmt} {h₀ : ExceptHandler} {hds : List ExceptHandler} {l : List Hd} {pos : Pos} {tb : WX → TS} {Wout : WX} (hs : X.stack = X.env :: X.outer) (hf : X.env.frame = some X.env.locals) (tk : Takes X Wout)
    (hb : ∀ (W : WX) (pn : List (Addr × Obj)) (xe : Value → Shared → Prop), Takes (X.tr pn xe) W → PassesOwn (model X.prog X.w) X.A X.env xe → PSs (X.tr pn xe) body (tb W))
    (hh : HdsA X (h₀ :: hds) l) : PS X (.Try body (h₀ :: hds) [] [] pos) (tTry tb fun D => wAsM X.K Wout D l) := by
  refine ⟨fun pins s σ H D I h => ?_⟩
  have ok := I.ok
  have hfr : X.A.frames = some (X.env :: X.outer) := by rw [ok.frames, hs]
  refine wpAny_Try_except ?_
  refine wpAny_mono ((hb (wAsM X.K Wout D l) (X.pn ++ pins) (fun e s₁ => wpAny (model X.prog X.w) X.A (noteFrame e X.env) (fun _ s₂ => wpAny (model X.prog X.w) X.A (setFlight e none) (fun _ s₃ =>
    wpAny (model X.prog X.w) X.A (handleBy e X.env (h₀ :: hds)) (SP X pins D) X.xe s₃) X.xe s₂) X.xe s₁) (fun u s' xx => ?_) PassesOwn.looking).run [] s σ H D (I.toTry _) h) (fun f s1 hsp => ?_) (fun e s1 he => he)
  · obtain ⟨a, B, sI, pins', σ', H', cls, d, rfl, J', nb, up, sky, na, os, ag, w⟩ := xx
    have J : Inv X pins σ' H' sI := J'.ofTry ok
    have sky' : Sky B (X.env :: X.outer) a (Zc cls d) X.env.locals s'.heap := by rw [← hs]; exact sky
    show wpAny (model X.prog X.w) X.A (noteFrame (.ref a) X.env) _ _ _
    refine Sky.land Zc.steady hfr hf sky' fun h3 fl3 up3 => ?_
    have J3 : Inv X pins σ' H' { s' with heap := h3 } := J.landed nb fl3.1 (up.trans up3) os ag
    obtain ⟨oe3, vs3, he3, hz3, hd3⟩ := fl3.there
    have notFr : ∀ {h : Heap} {o : Obj} {vs : Array Value}, h.FunFrames B (X.env :: X.outer) → h.get? a = some o → o.data = .fields vs → a ∉ frs (X.env :: X.outer) := fun {h o vs} ff e dd hm => by
      obtain ⟨_, o', e', hnf⟩ := ff.mem hm
      rw [e] at e'; cases e'
      exact hnf _ dd
    have nfr := notFr fl3.2.2.1 he3 hd3
    have nL : a ≠ X.env.locals := fun z => nfr (List.mem_filterMap.mpr ⟨X.env, List.mem_cons_self, by rw [hf, z]⟩)
    have nF : a ∉ X.fs := fun hm => by
      obtain ⟨e, he, q⟩ := List.mem_filterMap.mp hm
      exact nfr (List.mem_filterMap.mpr ⟨e, List.mem_cons_of_mem _ he, q⟩)
    have S3 := J3.suite he3 hd3 na nL nF
    have go : ∀ {hds' : List ExceptHandler} {l' : List Hd}, HdsA X hds' l' → wAsM X.K Wout D l' cls d σ' H' →
        wpAny (model X.prog X.w) X.A (handleBy (.ref a) X.env hds') (SP X pins D) X.xe { s' with heap := h3 } := by
      intro hds' l' hk
      induction hk with
      | nil =>
        intro w
        refine wpAny_handleBy_nil ?_
        obtain ⟨k1, k2, k3, oe, vs, T, oT, ts', he, hz, hd, h1, hr⟩ := id fl3
        unfold PySem.passOn
        refine wpAny_bind (wpAny_field he hd h1 ?_)
        rw [if_neg (show ¬ ((Value.ref T == Value.none) = true) from by simp)]
        have fin : wpAny (model X.prog X.w) X.A (setFlight (.ref a) X.env.frame) (fun _ s4 => wpAny (model X.prog X.w) X.A (throw (.ref a) : Sem Flow) (SP X pins D) X.xe s4) X.xe { s' with heap := h3 } := by
          rw [hf]
          refine HandSPX.setFlight_upZ fl3 fun h4 hh4 up4 => wpAny_throw (tk _ _ ?_)
          exact ⟨a, B, sI, pins, σ', H', cls, d, rfl, J, nb, (up.trans up3).trans up4, .inr (.inr (by rw [hs]; exact hh4)), na, os, ag, w⟩
        first
          | exact wpAny_bind (wpAny_pure (wpAny_bind fin))
          | exact wpAny_bind fin
      | @cons x n c i ts b₀ suite np pos' hds2 l2 hN hi hln hc hsu r ih =>
        intro w
        obtain ⟨b, hb1, hyes, hno⟩ := w
        have hloc : Loc X.env.scope n := .inl hln
        refine wpAny_handleBy_cons (codeAny_handlers_test ?_) (by intro q; cases q)
        have LT : PySem.W.Looks (model X.prog X.w) h3 (typeOf (.ref a)) cls := fun A Q E s k q => wpAny_typeOf_ref (k _ _ he3) (by rw [hz3.1]; exact q)
        have LM := PySem.W.exm_one (M := model X.prog X.w) (J3.kIn) LT hb1
        have test : ∀ {Q : Value → Shared → Prop} {E : Value → Shared → Prop}, Q c { s' with heap := h3 } → wpAny (model X.prog X.w) (X.A.mark (some (.ref a))) (eval (.Name x np) X.env) Q E { s' with heap := h3 } := fun {Q E} q => by
          obtain ⟨hg, hdbg, hm | ⟨hm, hv, hnn⟩⟩ := hc
          · exact ld_glob (X := X.suite a ((a, oe3) :: (X.pn ++ pins))) S3 hg hm q hdbg
          · exact ld_blt (X := X.suite a ((a, oe3) :: (X.pn ++ pins))) S3 hg hm hv q hnn hdbg
        refine test (LM.here ?_)
        cases b with
        | true =>
          refine codeAny_handlers_suite_as ?_
          refine HandSPX.lands_againZ fl3 fun h4 fl4 up4 => ?_
          have J4 : Inv X pins σ' H' { s' with heap := h4 } := J.landed nb fl4.1 ((up.trans up3).trans up4) os ag
          obtain ⟨oe4, vs4, he4, hz4, hd4⟩ := fl4.there
          have S4 := J4.suite he4 hd4 na nL nF
          refine store_ok (X := X.suite a ((a, oe4) :: (X.pn ++ pins))) (v := .ref a) S4 hN hi hloc rfl (fun s5 S5 => ?_) (.inr hln)
          refine wpAny_mono ((hsu a oe4 cls d (X.pn ++ pins) hz4 ⟨_, hd4⟩).run [] s5 _ H' _ S5 (hyes rfl a na)) (fun f s6 hsp => ?_) (fun _ _ z => False.elim z)
          have end_ : ∀ {σ6 : L2.St} {H6 : Hp} {Q : Shared → Prop}, Inv (X.suite a ((a, oe4) :: (X.pn ++ pins))) [] σ6 H6 s6 → (∀ s7, Inv X pins (σ6.set i none) H6 s7 → Q s7) →
              wpAny (model X.prog X.w) X.A (do bindName X.env n .none; unbindBehindTheSuite X.env n pos') (fun _ s7 => Q s7) X.xe s6 := fun {σ6 H6 Q} S6 hq => gone_ok (S6.unsuite ok) hN hi hln hq
          cases f with
          | next =>
            obtain ⟨σ6, H6, S6, q6⟩ := hsp
            exact end_ S6 fun s7 J7 => ⟨_, _, J7, q6⟩
          | brk =>
            obtain ⟨σ6, H6, S6, q6⟩ := hsp
            exact end_ S6 fun s7 J7 => ⟨_, _, J7, q6⟩
          | cont =>
            obtain ⟨σ6, H6, S6, q6⟩ := hsp
            exact end_ S6 fun s7 J7 => ⟨_, _, J7, q6⟩
          | ret u =>
            obtain ⟨v6, σ6, H6, S6, r6, q6⟩ := hsp
            exact end_ S6 fun s7 J7 => ⟨_, _, _, J7, r6, q6⟩
        | false => exact ih (hno rfl)
    exact go hh w
  · cases f with
    | next =>
      obtain ⟨σ', H', J', q⟩ := hsp
      exact wpAny_execs_nil ⟨σ', H', J'.ofTry ok, q⟩
    | brk =>
      obtain ⟨σ', H', J', q⟩ := hsp
      exact ⟨σ', H', J'.ofTry ok, q⟩
    | cont =>
      obtain ⟨σ', H', J', q⟩ := hsp
      exact ⟨σ', H', J'.ofTry ok, q⟩
    | ret u =>
      obtain ⟨v, σ', H', J', r, q⟩ := hsp
      exact ⟨v, σ', H', J'.ofTry ok, r, q⟩
/-- the ways through a try come together -/
theorem s_try {δ : Type} {tb : WX → TS} {W : Ends → WX} {tr : TS} {cvf : δ → Value} {m : M δ (Ctl A R)} {mh : δ → M ε (Ctl A R)} {kn : A → M ε γ} {kr : R → M ε γ} (I : A → L2.St → S → Prop) (Ps : L2.St → Prop) (hm : bd (tryM m mh) (onC kn kr) Qm C.Em)
    (hand : ∀ Qb : Ctl A R → Prop, (∀ d, Qb (.rt d) → kr d Qm C.Em) → ∀ σ' e u, Ps σ' → mh e Qb C.Em → Gr s u → W { D with nx := fun σ2 H2 => ∃ a s2, s2.hp = H2 ∧ Qb (.nx a) ∧ I a σ2 s2 } (cvf e) none σ' u.hp)
    (body : ∀ (Qb : Ctl A R → Prop) (C1 : Cn δ) (W1 : WX), C1.s0 = s → (∀ d, Qb (.rt d) → kr d Qm C.Em) → m Qb C1.Em →
      (∀ σ' e u, Ps σ' → C1.Em e → Gr C1.s0 u → W1 (cvf e) none σ' u.hp) → tb W1 { D with nx := fun σ2 H2 => ∃ a s2, s2.hp = H2 ∧ Qb (.nx a) ∧ I a σ2 s2 } σ s.hp)
    (next : ∀ a σ2 s2, I a σ2 s2 → kn a Qm C.Em → tr D σ2 s2.hp) : C8.tCut (tTry tb W) tr D σ s.hp := by
  refine ⟨fun σ2 H2 => ∃ a s2, s2.hp = H2 ∧ kn a Qm C.Em ∧ I a σ2 s2, ?_, fun σ2 H2 hq => ?_⟩
  · exact body (fun c => onC kn kr c Qm C.Em) ⟨s, fun e => mh e (fun c => onC kn kr c Qm C.Em) C.Em⟩ _ rfl (fun _ q => q) hm (hand (fun c => onC kn kr c Qm C.Em) fun _ q => q)
  obtain ⟨a, s2, e, qk, hI⟩ := hq
  subst e
  exact next a σ2 s2 hI qk
theorem hd_yes {c : Bool} {m1 m2 : M ε α} {Q : α → Prop} {E : ε → Prop} (h : (if c = true then m1 else m2) Q E) (e : c = true) : m1 Q E := by
  rw [if_pos e] at h
  exact h
theorem hd_no {c : Bool} {m1 m2 : M ε α} {Q : α → Prop} {E : ε → Prop} (h : (if c = true then m1 else m2) Q E) (e : c = false) : m2 Q E := by
  rw [if_neg (by rw [e]; exact Bool.false_ne_true)] at h
  exact h
/-- no way goes here -/
def nev : M ε α := fun _ _ => False
/-! isinstance of the caught one -/
def rIsX (K : PySem.W.Frag) (cls : Value) (d : Option Addr) (a : Addr) : List V → Hp → VK → Prop := fun xs H Q => ∃ D, cls = .ref D ∧ d = none ∧ ExcC K D ∧ rIsE K D a xs H Q
theorem call_isX {X : Cx} {a : Addr} {cls : Value} {d : Option Addr} {oe : Obj} {pn : List (Addr × Obj)} (hz : Zc cls d oe) (hf : ∃ vs, oe.data = .fields vs) : CallR (X.suite a ((a, oe) :: pn)) (.builtin "isinstance") (rIsX X.K cls d a) := by
  intro pins s σ H xs us Q I r h
  obtain ⟨D, rfl, rfl, hC, h⟩ := h
  exact call_isE hC hz hf pins s σ H xs us Q I r h
/-! ### == by an own __eq__ -/
def rOwnO (K : PySem.W.Frag) (Cl : Addr) (sp : Sp) : R2 := fun x y H Q => ∃ a dx fs b C' dy gs, x = .ref a ∧ y = .ref b ∧ H a = some (.ins Cl dx fs) ∧ H b = some (.ins C' dy gs) ∧ PySem.W.notFirst K Cl (.ref C') = true ∧ sp [x, y] H Q E0
theorem op_ownE {X : Cx} {Cl f : Addr} {fd : FuncData} {ps : List Str} {sp : Sp} {k : Nat} (F : FnOk X.prog X.w X.K X.mg X.base CX0 k f fd ps sp) (hs : PySem.W.findIn X.K (.ref Cl) "__eq__" = some (some (.ref f))) (hf : PySem.W.isFn X.K (.ref f) = true) (hr : Room k X.A) (hb : Binds X.K fd ps []) :
    OpR X (compareOp .Eq) (rOwnO X.K Cl sp) := by
  intro pins s σ H x y v u Q I rx ry h
  obtain ⟨a, dx, fs, b, C', dy, gs, rfl, rfl, ha, hb', hn, q⟩ := h
  cases (show v = Value.ref a from rx)
  cases (show u = Value.ref b from ry)
  obtain ⟨mA, J, _⟩ := ins_get I.hok ha
  obtain ⟨mB, J', _⟩ := ins_get I.hok hb'
  obtain ⟨od, J, _⟩ := J.look
  obtain ⟨od', J', _⟩ := J'.look
  obtain ⟨m, hF⟩ := I.fr
  show wpAny _ _ (richCompare .Eq (.ref a) (.ref b)) _ _ _
  refine PySem.W.cmp_K (op := .Eq) (tb := .ref C') hr.units0 hF I.ok.mod.kin J J'.type hn hs hf ?_
  refine wpAny_mono (run_fnS (E := fun _ => E0) (us := [.ref a, .ref b]) (vs := [.ref a, .ref b]) F hr hb (show PassesAt CX0 X σ E0 from fun _ _ _ _ _ _ h => h.elim) I (.cons rfl (.cons rfl .nil)) q) (fun w s' z => ?_) fun _ _ x => x
  obtain ⟨z', H', I', rz, qz⟩ := z
  exact SlX.cmpback rz ⟨z', H', I', rz, qz⟩
end
end Z

namespace Z
open PySem PySem.Spec PyProof.Rows L2
section
variable {ε : Type} {C : Cn ε} {K : PySem.W.Frag} {σ : L2.St} {s : S} {α β γ A R : Type} {D : Ends} {Qm : γ → Prop} {X : Addr → Prop}
/-! ### taking an item out of one's own list -/
def outAt {ε : Type} (xs : List α) (i : Int) : M ε (α × List α) := fun Q _ => (-(2 ^ 63) ≤ i ∧ i < 2 ^ 63) ∧ ∃ k y, seqIndex? i xs.length = some k ∧ xs[k]? = some y ∧ Q (y, xs.eraseIdx k)
theorem paired_erase {F : V → α → Prop} : ∀ {xs : List V} {ds : List α}, Paired F xs ds → ∀ (j : Nat), Paired F (xs.eraseIdx j) (ds.eraseIdx j)
  | _, _, .nil, _ => .nil
  | _, _, .cons f t, 0 => t
  | _, _, .cons g t, j + 1 => .cons g (paired_erase t j)
/-- xs.pop() -/
theorem s_pop0 {p : Addr} {v : V} {ta : TE} {tr : TS} {r : SRep α} {ds : List α} {k : List α → M ε γ} (hp : (oL C.s0 r p).is s v ds) (ha : Ev C ta σ s (oL C.s0 r p) (ret ds)) (hm : bd (dropL ds) k Qm C.Em) (G : Gr C.s0 s)
    (next : ∀ es t, Gx (fun a => a = p) s t → Gr C.s0 t → (oL C.s0 r p).is t v es → k es Qm C.Em → tr D σ t.hp) : tSeq (tDrop (tBM K "list" rPop ta tNil)) tr D σ s.hp :=
  ha s (Gx.refl G.ok) G (fun d => d = ds) rfl _ fun d1 x w e1 gw hx => by
    subst e1
    have hx' := hx
    obtain ⟨h1, h2, h3, h4, xs, h5, h6⟩ := hx'
    have ne : xs ≠ [] := fun e => by
      subst e
      cases h6
      exact hm.1 rfl
    obtain ⟨y, hy⟩ := last_some ne
    obtain ⟨o1, o2, o3⟩ := own_wr (xs := xs.dropLast) (G.trans gw) (Rep.u gw hp) (paired_dropV h6)
    exact ⟨by rw [h1]; exact Or.inl ⟨rfl, _, sqL_of h5⟩, p, xs, y, h1, rfl, h5, hy, next _ _ (Gx.trans (Gx.of_gr gw) o3) o2 o1 hm.2⟩
/-- xs.pop(i) -/
theorem s_popAt0 {p : Addr} {v : V} {ta ti : TE} {tr : TS} {r : SRep α} {ds : List α} {mi : M ε Int} {k : List α → M ε γ} (hp : (oL C.s0 r p).is s v ds) (ha : Ev C ta σ s (oL C.s0 r p) (ret ds)) (hi : Ev C ti σ s sI.r mi) (hm : bd (bd mi fun i => bd (outAt ds i) fun w => ret w.2) k Qm C.Em) (G : Gr C.s0 s)
    (next : ∀ es t, Gx (fun a => a = p) s t → Gr C.s0 t → (oL C.s0 r p).is t v es → k es Qm C.Em → tr D σ t.hp) : tSeq (tDrop (tBM K "list" rPopAt ta (tCons ti tNil))) tr D σ s.hp :=
  ha s (Gx.refl G.ok) G (fun d => d = ds) rfl _ fun d1 x w e1 gw hx => by
    subst e1
    have hx' := hx
    obtain ⟨h1, h2, h3, h4, xs, h5, h6⟩ := hx'
    refine ⟨by rw [h1]; exact Or.inl ⟨rfl, _, sqL_of h5⟩, hi w gw (G.trans gw) _ hm _ fun i z x2 qi gx hz => ?_⟩
    obtain ⟨⟨b1, b2⟩, n, y, e1, e2, qi⟩ := qi
    obtain ⟨_, _, _, _, xs2, j5, j6⟩ := Rep.u gx hx
    obtain ⟨x', f1, f2⟩ := paired_get j6 e2
    obtain ⟨o1, o2, o3⟩ := own_wr (xs := xs2.eraseIdx n) ((G.trans gw).trans gx) (Rep.u (gw.trans gx) hp) (paired_erase j6 n)
    exact ⟨p, xs2, i, n, x', h1, by rw [(show z = .int i from hz)], j5, b1, b2, by rw [j6.length]; exact e1, f1, next _ _ (Gx.trans (Gx.of_gr (gw.trans gx)) o3) o2 o1 qi⟩
/-- ys.append(xs.pop(i)) -/
theorem s_appPop {p q : Addr} {v v' : V} {ta tb ti : TE} {tr : TS} {r : SRep α} {ds es : List α} {mi : M ε Int} {k : List α × List α → M ε γ} (hpq : p ≠ q) (hp : (oL C.s0 r p).is s v ds) (hq : (oL C.s0 r q).is s v' es)
    (hb : Ev C tb σ s (oL C.s0 r q) (ret es)) (ha : Ev C ta σ s (oL C.s0 r p) (ret ds)) (hi : Ev C ti σ s sI.r mi) (hm : bd (bd mi fun i => bd (outAt ds i) fun w => bd (app es w.1) fun es' => ret (es', w.2)) k Qm C.Em) (G : Gr C.s0 s)
    (next : ∀ d t, Gx (fun a => a = q ∨ a = p) s t → Gr C.s0 t → (oL C.s0 r p).is t v d.2 → (oL C.s0 r q).is t v' d.1 → k d Qm C.Em → tr D σ t.hp) : tSeq (tDrop (tBM K "list" rAppend tb (tCons (tBM K "list" rPopAt ta (tCons ti tNil)) tNil))) tr D σ s.hp :=
  hb s (Gx.refl G.ok) G (fun d => d = es) rfl _ fun d0 x0 w0 e0 gw0 hx0 => by
    subst e0
    have hx0' := hx0
    obtain ⟨a1, a2, a3, a4, ys, a5, a6⟩ := hx0'
    refine ⟨by rw [a1]; exact Or.inl ⟨rfl, _, sqL_of a5⟩, ?_⟩
    refine ha w0 gw0 (G.trans gw0) (fun d => d = ds) rfl _ fun d1 x w e1 gw hx => ?_
    subst e1
    have hx' := hx
    obtain ⟨h1, h2, h3, h4, xs, h5, h6⟩ := hx'
    refine ⟨by rw [h1]; exact Or.inl ⟨rfl, _, sqL_of h5⟩, hi w (gw0.trans gw) ((G.trans gw0).trans gw) _ hm _ fun i z x2 qi gx hz => ?_⟩
    obtain ⟨⟨b1, b2⟩, n, y, e1, e2, hl, qi⟩ := qi
    have g3 := (gw0.trans gw).trans gx
    have G3 := G.trans g3
    obtain ⟨_, _, _, _, xs2, j5, j6⟩ := Rep.u gx hx
    obtain ⟨x', f1, f2⟩ := paired_get j6 e2
    obtain ⟨o1, o2, o3⟩ := own_wr (xs := xs2.eraseIdx n) G3 (Rep.u g3 hp) (paired_erase j6 n)
    have hq3 := (oL C.s0 r q).up o3 (fun a e z => hpq (z.symm.trans e)) (Rep.u g3 hq)
    have hq3' := hq3
    obtain ⟨_, _, _, _, zs, k5, k6⟩ := hq3'
    obtain ⟨u1, u2, u3⟩ := own_wr (xs := zs ++ [x']) o2 hq3 (paired_app k6 (.cons (r.up o3.st f2) .nil))
    refine ⟨p, xs2, i, n, x', h1, by rw [(show z = .int i from hz)], j5, b1, b2, by rw [j6.length]; exact e1, f1, q, zs, x', a1, rfl, k5, Nat.lt_of_lt_of_le (by rw [k6.length]; exact hl) (by decide : 100000 ≤ sizeLine), ?_⟩
    refine next (_, _) _ (Gx.trans (Gx.trans (Gx.of_gr g3) (o3.mono fun a e => .inr e)) (u3.mono fun a e => .inl e)) u2 ((oL C.s0 r p).up u3 (fun a e z => hpq (e.symm.trans z)) o1) u1 qi
/-- m.append([..]) -/
theorem s_appM {p : Addr} {qs : List Addr} {v : V} {ta te : TE} {tr : TS} {r : SRep α} {ds : List (List α)} {m : M ε (List α)} {k : List (List α) → M ε γ} (hp : (oM C.s0 r p qs).is s v ds) (ha : Ev C ta σ s (oM C.s0 r p qs) (ret ds)) (h : EvN C te σ s r m) (hm : bd (bd m fun d => app ds d) k Qm C.Em) (G : Gr C.s0 s)
    (next : ∀ es qs' t, (∀ a, a ∈ qs' → a ∈ qs ∨ s.hp a = none) → Gx (fun a => a = p ∨ a ∈ qs) s t → Gr C.s0 t → (oM C.s0 r p qs').is t v es → k es Qm C.Em → tr D σ t.hp) : tSeq (tDrop (tBM K "list" rAppend ta (tCons te tNil))) tr D σ s.hp :=
  ha s (Gx.refl G.ok) G (fun d => d = ds) rfl _ fun d1 x u e1 gu hx => by
    subst e1
    obtain ⟨h1, h2, h3, h4, h5, h6⟩ := hx
    refine ⟨by rw [h1]; exact Or.inl ⟨rfl, _, sqL_of h5⟩, h u gu (G.trans gu) _ hm _ fun d a w qd gw han ho => ?_⟩
    have g3 := gu.trans gw
    have hw := Rep.u g3 hp
    have hw' := hw
    obtain ⟨_, _, _, _, k5, k6, k7, k8⟩ := hw'
    have anp : p ≠ a := fun e => by
      rw [← e, h5] at han
      cases han
    have up8 := (Rep.u gu hp).2.2.2.2.2.2.2
    have anq : a ∉ qs := fun hm' => by
      obtain ⟨n, hn⟩ := List.getElem?_of_mem hm'
      obtain ⟨row, hrow⟩ : ∃ row, d1[n]? = some row := by
        have := paired_len up8
        have hlt := (List.getElem?_eq_some_iff.mp hn).1
        exact ⟨d1[n]'(by omega), List.getElem?_eq_getElem _⟩
      obtain ⟨a', e1, _, _, _, _, xs, e5, _⟩ := paired_getN up8 hrow
      cases hn.symm.trans e1
      rw [han] at e5
      cases e5
    have em : qs.map V.ref ++ [V.ref a] = (qs ++ [a]).map V.ref := by rw [List.map_append]; rfl
    obtain ⟨o1, o2, o3⟩ := mat_rows (e := d1 ++ [d]) (qs' := qs ++ [a]) (G.trans g3) hw (by rw [List.mem_append, not_or]; exact ⟨k6, fun e => anp (show p = a from by simpa using e)⟩) (by
      rw [List.nodup_append]
      refine ⟨k7, by simp, fun b hb c hc => ?_⟩
      have : c = a := by simpa using hc
      subst this
      exact fun e => anq (e ▸ hb)) (paired_appN k8 (.cons ho .nil))
    refine ⟨p, qs.map V.ref, .ref a, h1, rfl, k5, Nat.lt_of_lt_of_le (by rw [List.length_map, paired_len k8]; exact qd.1) (by decide : 100000 ≤ sizeLine), ?_⟩
    rw [em]
    exact next _ (qs ++ [a]) _ (fun b hb => by
      rw [List.mem_append] at hb
      rcases hb with hb | hb
      · exact .inl hb
      · have : b = a := by simpa using hb
        subst this
        exact .inr (hp_back gu han)) (Gx.trans (Gx.of_gr g3) o3) o2 o1 qd.2
/-! ### chains, index, in -/
theorem ev_chain {r r' : R2} {ta tb tc : TE} {f f' : Int → Int → Bool} {ma mb mc : M ε Int} (hr : r = rI0 fun i j => .bl (f i j)) (hr' : r' = rI0 fun i j => .bl (f' i j)) (ha : Ev C ta σ s sI.r ma) (hb : Ev C tb σ s sI.r mb) (hc : Ev C tc σ s sI.r mc) :
    Ev C (tChain r r' ta tb tc) σ s sB.r (bd ma fun a => bd mb fun b => if f a b = true then bd mc fun c => ret (f' b c) else ret false) := fun t g g0 Qm hm Q k =>
  ha t g g0 _ hm _ fun a x u qa gu hx => hb u (g.trans gu) (g0.trans gu) _ qa _ fun b y w qb gw hy => by
    subst hr hr'
    have qb : (if f a b = true then bd mc fun c => ret (f' b c) else ret false : M ε Bool) Qm C.Em := qb
    refine ⟨a, b, hx, hy, f a b, rfl, ?_⟩
    cases hf : f a b with
    | false =>
      rw [if_neg Bool.false_ne_true]
      rw [hf, if_neg Bool.false_ne_true] at qb
      exact k _ _ w qb (gu.trans gw) rfl
    | true =>
      rw [if_pos rfl]
      rw [hf, if_pos rfl] at qb
      exact hc w ((g.trans gu).trans gw) ((g0.trans gu).trans gw) _ qb _ fun c z x qc gx hz => ⟨b, c, hy, hz, k _ _ x qc ((gu.trans gw).trans gx) rfl⟩
def idx {ε : Type} (xs : List α) (v : α) : M ε Int := fun Q _ => ∃ j : Nat, xs[j]? = some v ∧ (∀ m : Nat, m < j → xs[m]? ≠ some v) ∧ Q (j : Int)
/-- x in xs -/
def memD [DecidableEq α] (a : α) (xs : List α) : Bool := decide (a ∈ xs)
theorem memD_iff [DecidableEq α] {a : α} {xs : List α} : memD a xs = true ↔ a ∈ xs := by unfold memD; exact decide_eq_true_iff
theorem memD_eq [DecidableEq α] {a : α} {xs : List α} : memD a xs = decide (a ∈ xs) := rfl
theorem mem_any [DecidableEq α] {r : SRep α} (e : Enc K r) (d : α) : ∀ ds : List α, ((ds.map e.enc).any fun z => PyData.eqv z (e.enc d)) = memD d ds
  | [] => by simp [memD]
  | x :: ds => by
    rw [List.map_cons, List.any_cons, mem_any e d ds, e.eqv]
    unfold memD
    by_cases h : x = d
    · subst h
      simp
    · have h' : ¬ d = x := fun z => h z.symm
      simp [h, h']
theorem ev_inD {ta tb : TE} {ra : Rep α} {rb : Rep (List α)} {r : SRep α} [DecidableEq α] (e : Enc K r) {ma : M ε α} {mb : M ε (List α)} (da : DpR K C.s0 ra e.enc) (db : DpR K C.s0 rb (enc_L e).enc) (hn : (enc_L e).n ≤ 64) (ha : Ev C ta σ s ra ma) (hb : Ev C tb σ s rb mb) :
    Ev C (tOp (rInD K) ta tb) σ s sB.r (bd ma fun a => bd mb fun b => ret (memD a b)) := fun t g g0 Qm hm Q k =>
  ha t g g0 _ hm _ fun a x u qa gu hx => hb u (g.trans gu) (g0.trans gu) _ qa _ fun b y w qb gw hy => by
    have h1 : e.n ≤ 64 := Nat.le_trans (Nat.le_succ _) hn
    refine ⟨e.enc a, b.map e.enc, da w x a ((g0.trans gu).trans gw) (Rep.u gw hx), db w y b ((g0.trans gu).trans gw) hy, shaped_of e h1 a, shaped_of (enc_L e) hn b, ?_⟩
    rw [mem_any]
    exact k _ _ w qb (gu.trans gw) rfl
theorem ev_niD {ta tb : TE} {ra : Rep α} {rb : Rep (List α)} {r : SRep α} [DecidableEq α] (e : Enc K r) {ma : M ε α} {mb : M ε (List α)} (da : DpR K C.s0 ra e.enc) (db : DpR K C.s0 rb (enc_L e).enc) (hn : (enc_L e).n ≤ 64) (ha : Ev C ta σ s ra ma) (hb : Ev C tb σ s rb mb) :
    Ev C (tOp (rNotInD K) ta tb) σ s sB.r (bd ma fun a => bd mb fun b => ret (!memD a b)) := fun t g g0 Qm hm Q k =>
  ha t g g0 _ hm _ fun a x u qa gu hx => hb u (g.trans gu) (g0.trans gu) _ qa _ fun b y w qb gw hy => by
    have h1 : e.n ≤ 64 := Nat.le_trans (Nat.le_succ _) hn
    refine ⟨e.enc a, b.map e.enc, da w x a ((g0.trans gu).trans gw) (Rep.u gw hx), db w y b ((g0.trans gu).trans gw) hy, shaped_of e h1 a, shaped_of (enc_L e) hn b, ?_⟩
    rw [mem_any]
    exact k _ _ w qb (gu.trans gw) rfl
theorem ev_idx {ta tb : TE} {ra : Rep α} {rb : Rep (List α)} {re : Rep α} {r : SRep α} [DecidableEq α] (e : Enc K r) {ma : M ε α} {mb : M ε (List α)} (rd : RdL K C.s0 rb re) (da : DpR K C.s0 ra e.enc) (db : DpR K C.s0 rb (enc_L e).enc) (hn : (enc_L e).n ≤ 64) (hb : Ev C tb σ s rb mb) (ha : Ev C ta σ s ra ma) :
    Ev C (tBM K "list" (rIndexD K) tb (tCons ta tNil)) σ s sI.r (bd mb fun b => bd ma fun a => idx b a) := fun t g g0 Qm hm Q k =>
  hb t g g0 _ hm _ fun b y u qb gu hy => by
    obtain ⟨p, xs, e1, e2, e3⟩ := rd.rd (g0.trans gu) hy
    refine ⟨by rw [e1]; exact Or.inl ⟨rfl, xs, e2⟩, ha u (g.trans gu) (g0.trans gu) _ qb _ fun a x w qa gw hx => ?_⟩
    have h1 : e.n ≤ 64 := Nat.le_trans (Nat.le_succ _) hn
    obtain ⟨j, hj, hno, qj⟩ := qa
    have hd := db w y b ((g0.trans gu).trans gw) (Rep.u gw hy)
    rw [e1] at hd
    refine ⟨p, x, e.enc a, b.map e.enc, j, e.enc a, e1, rfl, hd, da w x a ((g0.trans gu).trans gw) hx, shaped_of (enc_L e) hn b, shaped_of e h1 a, ?_, ?_, fun m z hm' hz => ?_, k _ _ w qj (gu.trans gw) rfl⟩
    · rw [List.getElem?_map, hj]
      rfl
    · rw [e.eqv]
      simp
    · rw [List.getElem?_map] at hz
      cases hb' : b[m]? with
      | none =>
        rw [hb'] at hz
        cases hz
      | some c =>
        rw [hb'] at hz
        cases hz
        rw [e.eqv]
        refine decide_eq_false fun z => hno m hm' ?_
        rw [hb', z]
/-! ### two names at once -/
theorem s_par {i j : Nat} {σf : V → V → L2.St} {t1 t2 : TE} {tr : TS} {r1 : Rep α} {r2 : Rep β} {m1 : M ε α} {m2 : M ε β} {k : α × β → M ε γ} (h1 : Ev C t1 σ s r1 m1) (h2 : Ev C t2 σ s r2 m2) (hm : bd (bd m1 fun a => bd m2 fun b => ret (a, b)) k Qm C.Em) (G : Gr C.s0 s)
    (hσ : ∀ v w, (σ.set i (some v)).set j (some w) = σf v w) (next : ∀ d v w t, Gr s t → r1.is t v d.1 → r2.is t w d.2 → k d Qm C.Em → tr D (σf v w) t.hp) : tSeq (tPar i j (tCons t1 (tCons t2 tNil))) tr D σ s.hp :=
  h1 s (Gx.refl G.ok) G _ hm _ fun a x u qa gu hx => h2 u gu (G.trans gu) _ qa _ fun b y w qb gw hy => ⟨x, y, rfl, by
    rw [hσ]
    exact next (a, b) x y w (gu.trans gw) (Rep.u gw hx) hy qb⟩
theorem s_un2 {i j : Nat} {σf : V → V → L2.St} {te : TE} {tr : TS} {rp : Rep (α × β)} {ra : Rep α} {rb : Rep β} {m : M ε (α × β)} {k : α × β → M ε γ} (rd : RdP K C.s0 rp ra rb) (h : Ev C te σ s rp m) (hm : bd m k Qm C.Em) (G : Gr C.s0 s)
    (hσ : ∀ v w, (σ.set i (some v)).set j (some w) = σf v w) (next : ∀ d v w t, Gr s t → ra.is t v d.1 → rb.is t w d.2 → k d Qm C.Em → tr D (σf v w) t.hp) : tSeq (tAsg te (gTup K 2 (gCons (gName i) (gCons (gName j) gNil)))) tr D σ s.hp :=
  h s (Gx.refl G.ok) G _ hm _ fun d x u qd gu hx => by
    obtain ⟨p, a, b, e1, e2, e3, e4⟩ := rd.rd (G.trans gu) hx
    refine ⟨p, [a, b], e1, e2, rfl, a, [b], rfl, b, [], rfl, rfl, ?_⟩
    show tr D ((σ.set i (some a)).set j (some b)) u.hp
    rw [hσ]
    exact next d a b u gu e3 e4 qd
theorem s_un3 {i j l : Nat} {σf : V → V → V → L2.St} {te : TE} {tr : TS} {ra : SRep α} {rb : SRep β} {rc : SRep A} {m : M ε (α × β × A)} {k : α × β × A → M ε γ} (h : Ev C te σ s (sP3 K ra rb rc).r m) (hm : bd m k Qm C.Em) (G : Gr C.s0 s)
    (hσ : ∀ v w z, ((σ.set i (some v)).set j (some w)).set l (some z) = σf v w z) (next : ∀ d v w z t, Gr s t → ra.r.is t v d.1 → rb.r.is t w d.2.1 → rc.r.is t z d.2.2 → k d Qm C.Em → tr D (σf v w z) t.hp) : tSeq (tAsg te (gTup K 3 (gCons (gName i) (gCons (gName j) (gCons (gName l) gNil))))) tr D σ s.hp :=
  h s (Gx.refl G.ok) G _ hm _ fun d x u qd gu hx => by
    obtain ⟨p, a, b, c, e1, e2, e3, e4, e5⟩ := hx
    refine ⟨p, [a, b, c], e1, ex_t gu.ok.sub e2, rfl, a, [b, c], rfl, b, [c], rfl, c, [], rfl, rfl, ?_⟩
    show tr D (((σ.set i (some a)).set j (some b)).set l (some c)) u.hp
    rw [hσ]
    exact next d a b c u gu e3 e4 e5 qd
/-! ### one of two kinds -/
def sE (r : SRep α) (q : SRep β) : SRep (α ⊕ β) := ⟨fun H v d => match d with
  | .inl a => r.is H v a
  | .inr b => q.is H v b, fun {H H' v d} e h => by
    cases d with
    | inl a => exact r.up e h
    | inr b => exact q.up e h⟩
def getl {ε : Type} (x : α ⊕ β) : M ε α := fun Q _ => ∃ a, x = .inl a ∧ Q a
def getr {ε : Type} (x : α ⊕ β) : M ε β := fun Q _ => ∃ a, x = .inr a ∧ Q a
theorem ev_inl {te : TE} {r : SRep α} {q : SRep β} {m : M ε α} (h : Ev C te σ s r.r m) : Ev C te σ s (sE r q).r (bd m fun x => ret (.inl x)) := fun t g g0 Qm hm Q k => h t g g0 _ hm _ fun d v u qd gu hv => k _ v u qd gu hv
theorem ev_inr {te : TE} {r : SRep α} {q : SRep β} {m : M ε β} (h : Ev C te σ s q.r m) : Ev C te σ s (sE r q).r (bd m fun x => ret (.inr x)) := fun t g g0 Qm hm Q k => h t g g0 _ hm _ fun d v u qd gu hv => k _ v u qd gu hv
theorem ev_getl {te : TE} {r : SRep α} {q : SRep β} {m : M ε (α ⊕ β)} (h : Ev C te σ s (sE r q).r m) : Ev C te σ s r.r (bd m getl) := fun t g g0 Qm hm Q k => h t g g0 _ hm _ fun d v u qd gu hv => by
  obtain ⟨a, rfl, qa⟩ := qd
  exact k a v u qa gu hv
theorem ev_getr {te : TE} {r : SRep α} {q : SRep β} {m : M ε (α ⊕ β)} (h : Ev C te σ s (sE r q).r m) : Ev C te σ s q.r (bd m getr) := fun t g g0 Qm hm Q k => h t g g0 _ hm _ fun d v u qd gu hv => by
  obtain ⟨a, rfl, qa⟩ := qd
  exact k a v u qa gu hv
/-! ### built-ins over lists -/
def srtI {ε : Type} (xs : List Int) : M ε (List Int) := fun Q _ => ∀ ys : List Int, ys.Perm xs → ys.Pairwise (· ≤ ·) → Q ys
theorem evn_sorted {te : TE} {rp : Rep (List Int)} {rb : Rep Int} {m : M ε (List Int)} (rd : RdL K C.s0 rp rb) (sta : Sta C.s0 rb sI) (h : Ev C te σ s rp m) : EvN C (tCB (rSortedI K) (tCons te tNil)) σ s sI (bd m srtI) := fun t g g0 Qm hm Q k =>
  h t g g0 _ hm _ fun d x u qd gu hx => by
    obtain ⟨p, xs, e1, e2, e3⟩ := rd.rd (g0.trans gu) hx
    rw [paired_ints (sta.paired (g0.trans gu) e3)] at e2
    exact ⟨p, d, by rw [e1], e2, fun ys l h1 h2 hl => k ys l (wr u l (.lst (ys.map V.int))) (qd ys h1 h2) (gu.trans (new_gr gu.ok hl)) (hp_back gu hl) (new_own (g0.trans gu) hl (ints_paired _ ys))⟩
def mnL {ε : Type} (xs : List Int) : M ε Int := fun Q _ => 0 < xs.length ∧ ∀ m, m ∈ xs → (∀ y, y ∈ xs → m ≤ y) → Q m
def mxL {ε : Type} (xs : List Int) : M ε Int := fun Q _ => 0 < xs.length ∧ ∀ m, m ∈ xs → (∀ y, y ∈ xs → y ≤ m) → Q m
theorem ev_minL {te : TE} {rp : Rep (List Int)} {rb : Rep Int} {m : M ε (List Int)} (rd : RdL K C.s0 rp rb) (sta : Sta C.s0 rb sI) (h : Ev C te σ s rp m) : Ev C (tCB (rMin K) (tCons te tNil)) σ s sI.r (bd m mnL) := fun t g g0 Qm hm Q k =>
  h t g g0 _ hm _ fun d x u qd gu hx => by
    obtain ⟨p, xs, e1, e2, e3⟩ := rd.rd (g0.trans gu) hx
    rw [paired_ints (sta.paired (g0.trans gu) e3)] at e2
    exact ⟨p, d, by rw [e1], e2, qd.1, fun m h1 h2 => k _ _ u (qd.2 m h1 h2) gu rfl⟩
theorem ev_maxL {te : TE} {rp : Rep (List Int)} {rb : Rep Int} {m : M ε (List Int)} (rd : RdL K C.s0 rp rb) (sta : Sta C.s0 rb sI) (h : Ev C te σ s rp m) : Ev C (tCB (rMax K) (tCons te tNil)) σ s sI.r (bd m mxL) := fun t g g0 Qm hm Q k =>
  h t g g0 _ hm _ fun d x u qd gu hx => by
    obtain ⟨p, xs, e1, e2, e3⟩ := rd.rd (g0.trans gu) hx
    rw [paired_ints (sta.paired (g0.trans gu) e3)] at e2
    exact ⟨p, d, by rw [e1], e2, qd.1, fun m h1 h2 => k _ _ u (qd.2 m h1 h2) gu rfl⟩
/-! ### slices -/
def cutA (xs : List α) (lo hi : Option Int) : List α := (xs.drop (HT.sIx xs.length 0 lo)).take (HT.sIx xs.length xs.length hi - HT.sIx xs.length 0 lo)
theorem paired_drop {F : V → α → Prop} : ∀ {xs : List V} {ds : List α}, Paired F xs ds → ∀ (j : Nat), Paired F (xs.drop j) (ds.drop j)
  | _, _, .nil, j => by
    rw [List.drop_nil, List.drop_nil]
    exact .nil
  | _, _, .cons f t, 0 => .cons f t
  | _, _, .cons g t, j + 1 => paired_drop t j
theorem paired_take {F : V → α → Prop} : ∀ {xs : List V} {ds : List α}, Paired F xs ds → ∀ (j : Nat), Paired F (xs.take j) (ds.take j)
  | _, _, .nil, j => by
    rw [List.take_nil, List.take_nil]
    exact .nil
  | _, _, .cons f t, 0 => .nil
  | _, _, .cons g t, j + 1 => .cons g (paired_take t j)
theorem paired_cut {F : V → α → Prop} {xs : List V} {ds : List α} (h : Paired F xs ds) (lo hi : Option Int) : Paired F (cutV xs lo hi) (cutA ds lo hi) := by
  unfold cutV cutA
  rw [h.length]
  exact paired_take (paired_drop h _) _
def EvO (C : Cn ε) (to : TO) (σ : L2.St) (s : S) (m : M ε (Option Int)) : Prop :=
  ∀ t, Gr s t → Gr C.s0 t → ∀ Qm, m Qm C.Em → ∀ Q : Option Int → Hp → Prop, (∀ d u, Qm d → Gr t u → Q d u.hp) → to σ t.hp Q
theorem eo_none : EvO C tNoPart σ s (ret none) := fun t g _ _ hm _ k => k none t hm (Gx.refl g.ok)
theorem eo_some {te : TE} {m : M ε Int} (h : Ev C te σ s sI.r m) : EvO C (tPart te) σ s (bd m fun i => ret (some i)) := fun t g g0 Qm hm Q k => h t g g0 _ hm _ fun d v u qd gu hv => ⟨d, hv, k _ u qd gu⟩
theorem evn_slL {te : TE} {tl th : TO} {rp : Rep (List α)} {re : Rep α} {r : SRep α} {m : M ε (List α)} {ml' mh : M ε (Option Int)} (rd : RdL K C.s0 rp re) (sta : Sta C.s0 re r) (h : Ev C te σ s rp m) (hl : EvO C tl σ s ml') (hh : EvO C th σ s mh) :
    EvN C (tSl (rSlL K) te tl th) σ s r (bd m fun xs => bd ml' fun lo => bd mh fun hi => ret (cutA xs lo hi)) := fun t g g0 Qm hm Q k =>
  h t g g0 _ hm _ fun d x u qd gu hx => hl u (g.trans gu) (g0.trans gu) _ qd _ fun lo w ql gw => hh w ((g.trans gu).trans gw) ((g0.trans gu).trans gw) _ ql _ fun hi y qh gy => by
    have g3 := (gu.trans gw).trans gy
    obtain ⟨p, xs, e1, e2, e3⟩ := rd.rd (g0.trans g3) (Rep.u (gw.trans gy) hx)
    exact ⟨p, xs, e1, e2, fun l hl => k _ l (wr y l (.lst (cutV xs lo hi))) qh (g3.trans (new_gr gy.ok hl)) (hp_back g3 hl) (new_own (g0.trans g3) hl (paired_cut (sta.paired (g0.trans g3) e3) lo hi))⟩
theorem ev_slT {te : TE} {tl th : TO} {r : SRep α} {m : M ε (List α)} {ml' mh : M ε (Option Int)} (h : Ev C te σ s (sT K r).r m) (hl : EvO C tl σ s ml') (hh : EvO C th σ s mh) :
    Ev C (tSl (rSlA K) te tl th) σ s (sT K r).r (bd m fun xs => bd ml' fun lo => bd mh fun hi => ret (cutA xs lo hi)) := fun t g g0 Qm hm Q k =>
  h t g g0 _ hm _ fun d x u qd gu hx => hl u (g.trans gu) (g0.trans gu) _ qd _ fun lo w ql gw => hh w ((g.trans gu).trans gw) ((g0.trans gu).trans gw) _ ql _ fun hi y qh gy => by
    have g3 := (gu.trans gw).trans gy
    have hx' := Rep.u (gw.trans gy) hx
    obtain ⟨p, xs, e1, e2, e3⟩ := hx'
    refine ⟨p, xs, e1, ex_t gy.ok.sub e2, fun hw => ?_, fun _ l hl => ?_⟩
    · have e : cutA d lo hi = d := by
        unfold cutA
        rw [← e3.length, hw.1, hw.2, e3.length]
        simp
      rw [← e1]
      exact k _ x y qh g3 (by rw [e]; exact ⟨p, xs, e1, e2, e3⟩)
    · have gm := mk_gr (o := .tup (cutV xs lo hi)) gy.ok hl
      exact k _ (.ref l) (mk y l (.tup (cutV xs lo hi))) qh (g3.trans gm) ⟨l, _, rfl, mk_tup, Paired.mono (fun _ _ => r.up gm.st) (paired_cut e3 lo hi)⟩
/-! ### range(a, b, -1) -/
def rgd (a b : Int) : List Int := (List.range (a - b).toNat).map fun i => a - (i : Nat)
def rngd {ε : Type} (a b : Int) : M ε (List Int) := fun Q _ => (-(2 ^ 62) ≤ a ∧ a < 2 ^ 62 ∧ -(2 ^ 62) ≤ b ∧ b < 2 ^ 62) ∧ Q (rgd a b)
theorem ei_rngd {ta tb : TE} {m1 m2 : M ε Int} (h1 : Ev C ta σ s sI.r m1) (h2 : Ev C tb σ s sI.r m2) : EvI C (iRng3 (tCons ta (tCons tb (tCons (tUn (rU fun i => .int (-i)) (tC (.int 1))) tNil)))) σ s X sI.r (bd m1 fun a => bd m2 fun b => rngd a b) := fun t g g0 Qm hm Q k =>
  h1 t g g0 _ hm _ fun a x u qa gu hx => h2 u (g.trans gu) (g0.trans gu) _ qa _ fun b y w qb gw hy => ⟨1, rfl, a, b, -1, (a - b).toNat, by rw [(show x = .int a from hx), (show y = .int b from hy)], RgC.neg qb.1.1 qb.1.2.1 qb.1.2.2.1 qb.1.2.2.2, k _ _ w qb.2 (gu.trans gw) fun i z gz => by
    have hlen : (rgd a b).length = (a - b).toNat := by unfold rgd; rw [List.length_map, List.length_range]
    refine ⟨fun d hd => ?_, fun hl => by rw [hlen] at hl; exact hl⟩
    have hi : i < (rgd a b).length := (List.getElem?_eq_some_iff.mp hd).1
    rw [hlen] at hi
    unfold rgd at hd
    rw [List.getElem?_map, List.getElem?_range hi] at hd
    simp at hd
    exact ⟨hi, fun x' H' ⟨e, f⟩ => ⟨e, by rw [f, ← hd]; show V.int (a + (i : Int) * (-1)) = V.int (a - i); congr 1; omega⟩⟩⟩
/-! ### objects -/
theorem ev_eqO {ta tb : TE} {r : SRep α} {Cl : Addr} {ns : List Str} {f : α → α → M Empty Bool} {ma mb : M ε α} (ho : IsObj r Cl ns) (ha : Ev C ta σ s r.r ma) (hb : Ev C tb σ s r.r mb) :
    Ev C (tOp (rOwnO K Cl (sp0 (aC r.r (aC r.r aN)) (fun a => f a.1 a.2.1) fun _ => sB.r)) ta tb) σ s sB.r (bd ma fun a => bd mb fun b => lft (f a b)) := fun t g g0 Qm hm Q k =>
  ha t g g0 _ hm _ fun a x u qa gu hx => hb u (g.trans gu) (g0.trans gu) _ qa _ fun b y w qb gw hy => by
    have hx' := Rep.u gw hx
    obtain ⟨p, dx, fs, e1, e2, _⟩ := ho _ _ _ hx'
    obtain ⟨q, dy, gs, f1, f2, _⟩ := ho _ _ _ hy
    refine ⟨p, dx, fs, q, Cl, dy, gs, e1, f1, gw.ok.sub _ _ e2, gw.ok.sub _ _ f2, by simp [PySem.W.notFirst], w, (a, b, ()), Qm, rfl, gw.ok, ⟨x, _, rfl, hx', y, _, rfl, hy, rfl⟩, qb, fun d v z qd gz hz => k d v z qd ((gu.trans gw).trans gz) hz⟩
def OfV (K : PySem.W.Frag) (s0 : S) (r : Rep α) (t : Value) : Prop := ∀ s v d, Gr s0 s → r.is s v d → TyX K s.hp v t
theorem ev_isiV {te : TE} {r : Rep α} {m : M ε α} {t : Value} {u : V} {uv : Value} {b : Bool} (ho : OfV K C.s0 r t) (hc : ClsV u uv) (hk : PySem.W.kitOne K t uv = some b) (h : Ev C te σ s r m) : Ev C (tCB (rIsi K) (tCons te (tCons (tC u) tNil))) σ s sB.r (bd m fun _ => ret b) := fun t' g g0 Qm hm Q k =>
  h t' g g0 _ hm _ fun d x w qd gw hx => ⟨x, u, t, uv, b, rfl, hc, ho w x d (g0.trans gw) hx, hk, k _ _ w qd gw rfl⟩
theorem ev_eqS {ta tb : TE} {ma mb : M ε Str} (ha : Ev C ta σ s sS.r ma) (hb : Ev C tb σ s sS.r mb) : Ev C (tOp rEq ta tb) σ s sB.r (bd ma fun a => bd mb fun b => ret (decide (a = b))) := ev_2 ha hb fun a b x y u g0 hx hy Qm hm Q k => by
  cases (show x = .str a from hx)
  cases (show y = .str b from hy)
  exact ⟨rfl, k _ _ u hm (Gx.refl g0.ok) (by simp [sB])⟩
theorem ev_neS {ta tb : TE} {ma mb : M ε Str} (ha : Ev C ta σ s sS.r ma) (hb : Ev C tb σ s sS.r mb) : Ev C (tOp rNe ta tb) σ s sB.r (bd ma fun a => bd mb fun b => ret (!decide (a = b))) := ev_2 ha hb fun a b x y u g0 hx hy Qm hm Q k => by
  cases (show x = .str a from hx)
  cases (show y = .str b from hy)
  exact ⟨rfl, k _ _ u hm (Gx.refl g0.ok) (by simp [sB])⟩
/-! isinstance of a caught one, of an object -/
theorem ev_isX {i : Nat} {a : Addr} {cls : Value} {d : Option Addr} {c : V} {cv : Value} {b : Bool} (hd : d = none) (ec : ∃ D, cls = .ref D ∧ ExcC K D) (hc : ClsV c cv) (hk : ∀ D, cls = .ref D → PySem.W.kitOne K (.ref D) cv = some b) (hi : σ[i]? = some (some (.ref a)) := by rfl) :
    Ev C (tCB (rIsX K cls d a) (tCons (tVar i) (tCons (tC c) tNil))) σ s sB.r (ret b) := fun t g g0 Qm hm Q k => by
  obtain ⟨D, e1, e2⟩ := ec
  exact ⟨.ref a, hi, D, e1, hd, e2, c, cv, b, rfl, fun u r => hc.eq r, hk D e1, k _ _ t hm (Gx.refl g.ok) rfl⟩
/-- what isinstance asks of an instance's class -/
structure OvC (K : PySem.W.Frag) (Cl : Addr) : Prop where
  ha : PySem.W.findIn K (.ref Cl) "__class__" = some (some (.builtin "object.__class__"))
  hn : PySem.W.specialIn K (.builtin "object.__class__") "__get__" = some (some (.builtin "getset_descriptor.__get__"))
  ht : PySem.W.takesIn K (.builtin "object.__class__") = some true
  hm : PySem.W.mroIn K Cl (.type "object") = some true
theorem ofv_ins {s0 : S} {r : SRep α} {Cl : Addr} {ns : List Str} (ho : IsObj r Cl ns) (cl : Cls K Cl) (ov : OvC K Cl) : OfV K s0 r.r (.ref Cl) := fun s v d g h => by
  obtain ⟨a, dx, fs, rfl, e2, _⟩ := ho _ _ _ h
  exact .base (.ins (g.ok.sub _ _ e2) cl ov.ha ov.hn ov.ht ov.hm)
theorem self_al {s0 : S} {x : Addr} {o : HO} (h : Own1 s0 x o s) : ∀ a, a = x → s.hp a ≠ none := fun a e => by
  rw [e, h.hp]
  exact fun z => nomatch z
theorem self_nw {s0 : S} {x : Addr} {o : HO} (h : Own1 s0 x o s) : NewX s0 (fun a => a = x) := newx_1 h.new
theorem hu65 {k : Nat} {A' : Around} (hr : Room k A') : A'.units + 65 < cLine := by have := hr.un; omega
end
end Z

namespace Z
open PySem PySem.Spec PyProof.Rows L2
/-! ### sorted of data, of any number -/
section
open PySem.W in
def rSortedV (K : PySem.W.Frag) : List V → Hp → VK → Prop := fun vs H Q => ∃ (a : Addr) (xs : List V) (ds : List PyData), vs = [V.ref a] ∧ SqL K H a xs ∧ DpAll K H xs ds ∧ AllAlike ds ∧ Sortable ds ∧ (∀ d, d ∈ ds → d.depth ≤ 64) ∧
  ∀ (zs : List (V × PyData)) (p : Addr), zs.Perm (xs.zip ds) → zs.Pairwise (fun a b => dataLt b.2 a.2 = false) → H p = none → Q (.ref p) (upd H p (.lst (zs.map Prod.fst)))
open PySem.W in
theorem each_of {K : PySem.W.Frag} {X : Cx} {pins : List (Addr × Obj)} {σ : L2.St} {H : Hp} {s : Shared} (I : Inv X pins σ H s) : ∀ {xs : List V} {us : List Value} {ds : List PyData}, Vals xs us → DpAll X.K H xs ds →
    EachIs (fun u d => ∃ as, Reads s.heap u d as) us ds ∧ EachIs (fun u (b : V × PyData) => RelV b.1 u) us (xs.zip ds) ∧ EachIs (fun u (b : V × PyData) => (∃ as, Reads s.heap u b.2 as) ∧ b.2 ∈ ds) us (xs.zip ds)
  | _, _, _, .nil, .nil => ⟨.nil, .nil, .nil⟩
  | _, _, _, .cons r rr, .cons d dd => by
    obtain ⟨h1, h2, h3⟩ := each_of (K := K) I rr dd
    obtain ⟨as, hr⟩ := Dp.reads I _ _ _ d r
    exact ⟨.cons ⟨as, hr⟩ h1, .cons r h2, .cons ⟨⟨as, hr⟩, List.mem_cons_self⟩ (h3.mono fun _ _ q => ⟨q.1, List.mem_cons_of_mem _ q.2⟩)⟩
theorem vals_each {us : List Value} {zs : List (V × PyData)} (h : PySem.W.EachIs (fun u (b : V × PyData) => RelV b.1 u) us zs) : Vals (zs.map Prod.fst) us := by
  induction h with
  | nil => exact .nil
  | cons h _ ih => exact .cons h ih
open PySem.W in
theorem cr_sortedV {X : Cx} (hu : X.A.units + 70 < cLine) : CallR X (.builtin "sorted") (rSortedV X.K) := by
  intro pins s σ H vs us Q I r h
  obtain ⟨a, xs, ds, rfl, hs, hd, hal, hso, hdep, q⟩ := h
  obtain ⟨its, rv, hl, hz⟩ := I.list hs
  obtain ⟨u, rfl, ru⟩ := vals1 r
  obtain rfl : u = Value.ref a := ru
  obtain ⟨e1, e2, e3⟩ := each_of (K := X.K) I rv hd
  have kp : ∀ b o, s.heap.get? b = some o → (sortingHeap (copyHeap s.heap its) (s.heap.objs.size + 1) its).get? b = some o := fun b o e => sortingHeap_old (Nat.ne_of_lt (Nat.lt_succ_of_lt (Heap.lt_size e))) (copyHeap_old e)
  have hlen : its.length ≤ sizeLine := by rw [← rv.length]; exact hz
  refine sorted_vals (κ := dataKind (sortingHeap (copyHeap s.heap its) (s.heap.objs.size + 1) its) ds) hl.isList (SortsAt.data (s := { s with heap := sortingHeap (copyHeap s.heap its) (s.heap.objs.size + 1) its }) (e1.mono fun u d ⟨as, hr⟩ => ⟨as, PyProof.Rows.Reads.keeps kp hr⟩) hal hso fun d hm => ?_) hlen ?_
  · have := hdep d hm
    show X.A.units + 1 + 1 + d.depth < cLine
    omega
  · have ez := sortVals_each (κ := dataKind (sortingHeap (copyHeap s.heap its) (s.heap.objs.size + 1) its) ds) (rev := false) (fun b : V × PyData => keyToks b.2) e2 (e3.mono fun u b ⟨⟨as, hr⟩, hm⟩ => dataKind_some hal hm (PyProof.Rows.Reads.keeps kp hr))
    have hv := vals_each ez
    obtain ⟨n, hn⟩ := PyProof.Rows.sortedAll_at s.heap its (sortVals (dataKind (sortingHeap (copyHeap s.heap its) (s.heap.objs.size + 1) its) ds) false its its).toArray
    have tot := sortLe_total (dataKind (sortingHeap (copyHeap s.heap its) (s.heap.objs.size + 1) its) ds).toKeyOrd false (fun b : V × PyData => keyToks b.2)
    have hperm := List.mergeSort_perm (xs.zip ds) (sortLe (dataKind (sortingHeap (copyHeap s.heap its) (s.heap.objs.size + 1) its) ds).toKeyOrd false (fun b : V × PyData => keyToks b.2))
    have hpw := List.pairwise_mergeSort (le := sortLe (dataKind (sortingHeap (copyHeap s.heap its) (s.heap.objs.size + 1) its) ds).toKeyOrd false (fun b : V × PyData => keyToks b.2)) (fun a b c => tot.trans a b c) (fun a b => by simpa using tot.total a b) (xs.zip ds)
    refine ⟨.ref (s.heap.objs.size + 1), upd H (s.heap.objs.size + 1) (.lst _), I.laid (t' := s.toks) (fun b o e => PyProof.Rows.sortedAll_old e) (Nat.le_succ _) ⟨?_, _, n, hv, hn⟩, rfl, q _ _ hperm (hpw.imp fun {a b} z => ?_) (I.hok.fresh (Nat.le_succ _))⟩
    · rw [hv.length, sortVals_length false rfl]
      exact hlen
    · have z' : (!(dataKind (sortingHeap (copyHeap s.heap its) (s.heap.objs.size + 1) its) ds).toKeyOrd.blt (keyToks b.2) (keyToks a.2)) = true := z
      rw [Bool.not_eq_true'] at z'
      exact z'
variable {ε α : Type} {C : Cn ε} {K : PySem.W.Frag} {σ : L2.St} {s : S}
theorem dpAll_list {F : V → α → Prop} {H : Hp} {enc : α → PyData} (h : ∀ v d, F v d → Dp K H v (enc d)) : ∀ {xs : List V} {ds : List α}, Paired F xs ds → DpAll K H xs (ds.map enc)
  | _, _, .nil => .nil
  | _, _, .cons f t => .cons (h _ _ f) (dpAll_list h t)
theorem paired_zs {F : V → α → Prop} {G : V → PyData → Prop} {enc : α → PyData} : ∀ {xs : List V} {ds : List α}, Paired F xs ds → ∀ {zs : List (V × PyData)}, (∀ z, z ∈ zs → z ∈ xs.zip (ds.map enc)) → ∃ es : List α, zs.map Prod.snd = es.map enc ∧ Paired F (zs.map Prod.fst) es
  | xs, ds, hp, [], _ => ⟨[], rfl, .nil⟩
  | xs, ds, hp, z :: zs, hz => by
    obtain ⟨es, h1, h2⟩ := paired_zs (G := G) hp (zs := zs) fun y hy => hz y (List.mem_cons_of_mem _ hy)
    have hm := hz z List.mem_cons_self
    obtain ⟨i, hi⟩ := List.getElem?_of_mem hm
    rw [List.getElem?_zip_eq_some] at hi
    obtain ⟨a1, a2⟩ := hi
    rw [List.getElem?_map] at a2
    cases hd : ds[i]? with
    | none => rw [hd] at a2; cases a2
    | some d =>
      rw [hd] at a2
      obtain ⟨x, b1, b2⟩ := paired_get hp hd
      rw [a1] at b1
      cases b1
      refine ⟨d :: es, ?_, .cons b2 h2⟩
      rw [List.map_cons, List.map_cons, h1]
      congr 1
      exact (Option.some.inj a2).symm
/-- sorted, data as enc says -/
def srtE {ε : Type} (enc : α → PyData) (xs : List α) : M ε (List α) := fun Q _ => (PySem.W.AllAlike (xs.map enc) ∧ PySem.W.Sortable (xs.map enc)) ∧ ∀ ys : List α, (ys.map enc).Perm (xs.map enc) → ys.Pairwise (fun a b => PySem.W.dataLt (enc b) (enc a) = false) → Q ys
theorem evn_sortedE {te : TE} {rp : Rep (List α)} {re : Rep α} {r : SRep α} [DecidableEq α] (e : Enc K r) (hn : e.n ≤ 64) {m : M ε (List α)} (rd : RdL K C.s0 rp re) (sta : Sta C.s0 re r) (h : Ev C te σ s rp m) : EvN C (tCB (rSortedV K) (tCons te tNil)) σ s r (bd m (srtE e.enc)) := fun t g g0 Qm hm Q k =>
  h t g g0 _ hm _ fun d x u qd gu hx => by
    obtain ⟨p, xs, e1, e2, e3⟩ := rd.rd (g0.trans gu) hx
    have e4 := sta.paired (g0.trans gu) e3
    refine ⟨p, xs, d.map e.enc, by rw [e1], e2, dpAll_list (fun v d hv => e.dp (r.up gu.ok.sub hv)) e4, qd.1.1, qd.1.2, fun y hy => ?_, fun zs l h1 h2 hl => ?_⟩
    · obtain ⟨z, _, rfl⟩ := List.mem_map.mp hy
      exact Nat.le_trans (e.dep z) hn
    · obtain ⟨es, f1, f2⟩ := paired_zs (G := fun _ _ => True) (enc := e.enc) e4 (zs := zs) fun z hz => h1.mem_iff.mp hz
      have hp : (es.map e.enc).Perm (d.map e.enc) := by
        rw [← f1]
        have := h1.map Prod.snd
        rw [List.map_snd_zip (by rw [List.length_map, e4.length]; exact Nat.le_refl _)] at this
        exact this
      have hs : es.Pairwise (fun a b => PySem.W.dataLt (e.enc b) (e.enc a) = false) := by
        have : (zs.map Prod.snd).Pairwise (fun a b => PySem.W.dataLt b a = false) := List.pairwise_map.mpr h2
        rw [f1] at this
        exact List.pairwise_map.mp this
      exact k es l (wr u l (.lst (zs.map Prod.fst))) (qd.2 es hp hs) (gu.trans (new_gr gu.ok hl)) (hp_back gu hl) (new_own (g0.trans gu) hl f2)
end
end Z

namespace Z
open PySem PySem.Spec PyProof.Rows L2
/-! ### the rules with the text's part named: within comprehensions and suites the context is another one -/
section
variable {X : Cx} (K : PySem.W.Frag) (h : X.K = K)
include h
theorem k_ixL : IxR X (rIxL K) := h ▸ ix_list
theorem k_ixT : IxR X (rIxT K) := h ▸ ix_tup
theorem k_len : CallR X (.builtin "len") (fun xs H Q => ∃ p ys, xs = [.ref p] ∧ (SqL K H p ys ∨ SqT K H p ys) ∧ Q (.int ys.length) H) := h ▸ call_len_seq
theorem k_list : CallR X (.type "list") (rListOf K) := h ▸ call_list_of
theorem k_tuple : CallR X (.type "tuple") (rTupleOf K) := h ▸ call_tuple_of
theorem k_isi : CallR X (.builtin "isinstance") (rIsi K) := h ▸ call_isi
theorem k_sum (hc : X.calm = true) : CallR X (.builtin "sum") (rSum K) := h ▸ cr_sum hc
theorem k_all (hc : X.calm = true) : CallR X (.builtin "all") (rAll K) := h ▸ cr_all hc
theorem k_any (hc : X.calm = true) : CallR X (.builtin "any") (rAny K) := h ▸ cr_any hc
theorem k_min (hc : X.calm = true) : CallR X (.builtin "min") (rMin K) := h ▸ cr_min hc
theorem k_max (hc : X.calm = true) : CallR X (.builtin "max") (rMax K) := h ▸ cr_max hc
theorem k_sortedI : CallR X (.builtin "sorted") (rSortedI K) := h ▸ cr_sortedI
theorem k_sortedV (hu : X.A.units + 70 < cLine) : CallR X (.builtin "sorted") (rSortedV K) := h ▸ cr_sortedV hu
theorem k_eqD (hu : X.A.units + 64 < cLine) : OpR X (compareOp .Eq) (rEqD K) := h ▸ op_eqD hu
theorem k_neD (hu : X.A.units + 64 < cLine) : OpR X (compareOp .NotEq) (rNeD K) := h ▸ op_neD hu
theorem k_inD (hu : X.A.units + 65 < cLine) : OpR X (compareOp .In) (rInD K) := h ▸ op_inD hu
theorem k_niD (hu : X.A.units + 65 < cLine) : OpR X (compareOp .NotIn) (rNotInD K) := h ▸ op_notInD hu
theorem k_idx (hu : X.A.units + 65 < cLine) : MtR X "list.index" (rIndexD K) := h ▸ mt_indexD hu
theorem k_slL : SlR X (rSlL K) := h ▸ sl_list
theorem k_slT : SlR X (rSlA K) := h ▸ sl_tupA
theorem k_fld {e : Expr} {f : Str} {ta : TE} {pos : Pos} (he : PE X e ta) (hb : attributeBase e f X.env (eval e X.env) = eval e X.env) : PE X (.Attribute e f pos) (tFld K ta f) := h ▸ pe_fld he hb
theorem k_piL {tg l : Expr} {tl : TE} (hl : PE X l tl) : PI X tg l (iList K tl) := h ▸ pi_list hl
theorem k_piT {tg l : Expr} {tl : TE} (hl : PE X l tl) : PI X tg l (iTup K tl) := h ▸ pi_tup hl
theorem k_bm {o e : Expr} {es : List Expr} {to : TE} {t : TA} {name : Str} {apos cpos : Pos} {T id : String} {r : V → List V → Hp → VK → Prop} (pa : PlainAttrs T) (slot : Slot T name id) (hty : typeOf (.builtin id) = pure (.type "method_descriptor")) (hm : MtR X id r) (ho : PE X o to) (ha : PA X (e :: es) t)
    (hbase : attributeBase o name X.env (eval o X.env) = eval o X.env := by rfl)
    (hfew : ((backTo cpos (starEach (e :: es) X.env)).all (fun x => !x.1) && (backToKw cpos (keywordEach [] X.env)).all (fun x => x.1.isSome)
      && decide ((e :: es).length + ([] : List Keyword).length + (if ([] : List Keyword).isEmpty then 0 else 1) < 30)) = true := by rfl)
    (hline : (apos.endLine == cpos.line) = true := by rfl) (hs : starEach (e :: es) X.env = (false, eval e X.env) :: starEach es X.env := by rfl) (hplain : (backTo cpos (starEach es X.env)).any (·.1) = false := by rfl) :
    PE X (.Call (.Attribute o name apos) (e :: es) [] cpos) (tBM K T r to t) := h ▸ pe_bm pa slot hty hm ho ha hbase hfew hline hs hplain
theorem k_bm0 {o : Expr} {to : TE} {name : Str} {apos cpos : Pos} {T id : String} {r : V → List V → Hp → VK → Prop} (pa : PlainAttrs T) (slot : Slot T name id) (hty : typeOf (.builtin id) = pure (.type "method_descriptor")) (hm : MtR X id r) (ho : PE X o to)
    (hbase : attributeBase o name X.env (eval o X.env) = eval o X.env := by rfl) (hline : (apos.endLine == cpos.line) = true := by rfl) : PE X (.Call (.Attribute o name apos) [] [] cpos) (tBM0 K T r to) := h ▸ pe_bm0 pa slot hty hm ho hbase hline
theorem k_tup {es : List Expr} {k : Nat} {t : TGs} {n : Nat} {pos : Pos} (hc : X.calm = true) (hh : PGs X es t) (hn : (assignEach es X.env).length = n := by rfl) (hst : (assignEach es X.env).findIdx? (·.1) = none := by rfl) : PG X (.Tuple es k pos) (gTup K n t) := h ▸ pg_tup hc hh hn hst
theorem k_isX {a : Addr} {cls : Value} {d : Option Addr} {oe : Obj} {pn : List (Addr × Obj)} (hz : Zc cls d oe) (hf : ∃ vs, oe.data = .fields vs) : CallR (X.suite a ((a, oe) :: pn)) (.builtin "isinstance") (rIsX K cls d a) := h ▸ call_isX hz hf
theorem k_ownE {Cl f : Addr} {fd : FuncData} {ps : List Str} {sp : Sp} {k : Nat} (F : FnOk X.prog X.w X.K X.mg X.base CX0 k f fd ps sp) (hs : PySem.W.findIn X.K (.ref Cl) "__eq__" = some (some (.ref f))) (hf : PySem.W.isFn X.K (.ref f) = true) (hr : Room k X.A) (hb : Binds X.K fd ps []) :
    OpR X (compareOp .Eq) (rOwnO K Cl sp) := h ▸ op_ownE F hs hf hr hb
end
theorem hu70 {k : Nat} {A' : Around} (hr : Room k A') : A'.units + 70 < cLine := by have := hr.un; omega
theorem patLP {P : Program} {w : World} {X : Cx} (h1 : X.prog = P) (h2 : X.w = w) : ∀ σ : L2.St, PassesAt (L2.CX P w) X σ E0 := by
  subst h1 h2
  exact patL
/-! what isinstance answers, by the classes' own rows -/
theorem kit_self {K : PySem.W.Frag} {C : Addr} : PySem.W.kitOne K (.ref C) (.ref C) = some true := by
  unfold PySem.W.kitOne
  rw [if_pos (by simp)]
theorem kit_own {K : PySem.W.Frag} {D C : Addr} {b : Bool} (hd : PySem.W.hasDictIn K C = true) (ht : PySem.W.typeIn K (.ref C) = some (.type "type")) (hc : PySem.W.subIn K (.ref C) (.ref C) = some true) (h : PySem.W.subIn K (.ref D) (.ref C) = some b) : PySem.W.kitOne K (.ref D) (.ref C) = some b := by
  by_cases e : D = C
  · subst e
    rw [hc] at h
    rw [← h]
    exact kit_self
  · unfold PySem.W.kitOne
    rw [if_neg (by simpa using e)]
    obtain ⟨cd, hcd, _⟩ := PySem.W.any_some hd
    unfold PySem.W.kitCls
    show (if ((PySem.W.clsIn K C).isSome && PySem.W.typeIn K (.ref C) == some (.type "type")) = true then PySem.W.subIn K (.ref D) (.ref C) else none) = some b
    rw [if_pos (by rw [hcd, ht]; rfl)]
    exact h
theorem kit_bt {K : PySem.W.Frag} {D : Addr} {T : String} {b : Bool} (hm : PySem.W.kitMeta T = true) (h : PySem.W.subIn K (.ref D) (.type T) = some b) : PySem.W.kitOne K (.ref D) (.type T) = some b := by
  unfold PySem.W.kitOne
  rw [if_neg (by simp)]
  unfold PySem.W.kitCls
  show (if PySem.W.kitMeta T = true then PySem.W.subIn K (.ref D) (.type T) else none) = some b
  rw [if_pos hm]
  exact h
end Z

namespace Z
/-! ### reckoning with the mirrors -/
section
variable {ε α β γ A R : Type} {E : ε → Prop}
theorem forS_inv {xs : List α} {a0 : A} {body : α → A → M ε A} {Q : A → Prop} (J : Nat → A → Prop) (h0 : J 0 a0)
    (hs : ∀ i x a (R : A → Prop), xs[i]? = some x → J i a → (∀ a', J (i + 1) a' → R a') → body x a R E) (hq : ∀ a, J xs.length a → Q a) : forS xs a0 body Q E := by
  induction xs generalizing a0 J with
  | nil => exact hq a0 h0
  | cons x xs ih =>
    refine hs 0 x a0 _ rfl h0 fun a' ha' => ?_
    exact ih (fun i => J (i + 1)) ha' (fun i x a R hx => hs (i + 1) x a R (by simpa using hx)) hq
theorem forC_inv {xs : List α} {a0 : A} {body : α → A → M ε (Ctl A R)} {Q : Ctl A R → Prop} (J : Nat → A → Prop) (h0 : J 0 a0)
    (hs : ∀ i x a (T : Ctl A R → Prop), xs[i]? = some x → J i a → (∀ a', J (i + 1) a' → T (.nx a')) → (∀ r, Q (.rt r) → T (.rt r)) → body x a T E) (hq : ∀ a, J xs.length a → Q (.nx a)) : forC xs a0 body Q E := by
  induction xs generalizing a0 J with
  | nil => exact hq a0 h0
  | cons x xs ih =>
    refine hs 0 x a0 _ rfl h0 (fun a' ha' => ?_) fun r hr => hr
    exact ih (fun i => J (i + 1)) ha' (fun i x a T hx => hs (i + 1) x a T (by simpa using hx)) hq
theorem wh_inv {a0 : A} {c : A → M ε Bool} {b : A → M ε A} {Q : A → Prop} (J : A → Prop) (μ : A → Nat) (h0 : J a0)
    (step : ∀ a, J a → ∀ T : A → Prop, (∀ a', J a' → μ a' < μ a → T a') → c a (fun t => (t = true → b a T E) ∧ (t = false → Q a)) E) : wh c b a0 Q E := by
  have key : ∀ n a, J a → μ a < n → whN c b n a Q E := by
    intro n
    induction n with
    | zero => intro a _ h; omega
    | succ n ih =>
      intro a ha hn
      have h := step a ha (fun a' => whN c b n a' Q E) (fun a' ha' hlt => ih a' ha' (by omega))
      have e : (fun t => (t = true → b a (fun a' => whN c b n a' Q E) E) ∧ (t = false → Q a)) = fun t : Bool => (if t = true then bd (b a) (whN c b n) else ret a) Q E := by
        funext t
        refine propext ?_
        cases t with
        | true => exact ⟨fun z => z.1 rfl, fun z => ⟨fun _ => z, fun z => by cases z⟩⟩
        | false => exact ⟨fun z => z.2 rfl, fun z => ⟨(fun z => by cases z), fun _ => z⟩⟩
      rw [e] at h
      exact h
  exact ⟨μ a0 + 1, key _ a0 h0 (Nat.lt_succ_self _)⟩
theorem ite_M {p : Prop} [Decidable p] {m1 m2 : M ε α} {Q : α → Prop} (h1 : p → m1 Q E) (h2 : ¬ p → m2 Q E) : (if p then m1 else m2) Q E := by
  by_cases h : p
  · rw [if_pos h]; exact h1 h
  · rw [if_neg h]; exact h2 h
theorem iteB_M {p : Prop} [Decidable p] {m1 m2 : M ε α} {Q : α → Prop} (h1 : p → m1 Q E) (h2 : ¬ p → m2 Q E) : (if decide p = true then m1 else m2) Q E := by
  by_cases h : p
  · rw [if_pos (decide_eq_true h)]; exact h1 h
  · rw [if_neg (by simp [h])]; exact h2 h
theorem iteN_M {p : Prop} [Decidable p] {m1 m2 : M ε α} {Q : α → Prop} (h1 : ¬ p → m1 Q E) (h2 : p → m2 Q E) : (if (!decide p) = true then m1 else m2) Q E := by
  by_cases h : p
  · rw [if_neg (by simp [h])]; exact h2 h
  · rw [if_pos (by simp [h])]; exact h1 h
theorem iteb_M {b : Bool} {m1 m2 : M ε α} {Q : α → Prop} (h1 : b = true → m1 Q E) (h2 : b = false → m2 Q E) : (if b = true then m1 else m2) Q E := by
  cases b with
  | true => exact h1 rfl
  | false => exact h2 rfl
theorem itenb_M {b : Bool} {m1 m2 : M ε α} {Q : α → Prop} (h1 : b = false → m1 Q E) (h2 : b = true → m2 Q E) : (if (!b) = true then m1 else m2) Q E := by
  cases b with
  | true => exact h2 rfl
  | false => exact h1 rfl
/-! the single steps -/
theorem dv_M {a b : Int} {Q : Int → Prop} (hb : 0 < b) (hl : b.natAbs.log2 < 9000) (h : Q (a / b)) : dv (ε := ε) a b Q E := by
  refine ⟨⟨by omega, hl⟩, ?_⟩
  rw [Int.fdiv_eq_ediv_of_nonneg a (by omega)]
  exact h
theorem md_M {a b : Int} {Q : Int → Prop} (hb : 0 < b) (h : Q (a % b)) : md (ε := ε) a b Q E := by
  refine ⟨by omega, ?_⟩
  rw [Int.fmod_eq_emod_of_nonneg a (by omega)]
  exact h
theorem log2_lt {n k : Nat} (hk : 0 < k) (h : n < 2 ^ k) : n.log2 < k := by
  by_cases h0 : n = 0
  · subst h0; simpa using hk
  · exact (Nat.log2_lt h0).mpr h
theorem ml_M {a b : Int} {Q : Int → Prop} (k l : Nat) (hk : 0 < k) (hl : 0 < l) (hkl : k + l ≤ 1000000) (ha : a.natAbs < 2 ^ k) (hb : b.natAbs < 2 ^ l) (h : Q (a * b)) : ml (ε := ε) a b Q E := by
  refine ⟨?_, h⟩
  have h1 := log2_lt hk ha
  have h2 := log2_lt hl hb
  unfold L2.CMulW
  omega
theorem app_M {xs : List α} {v : α} {Q : List α → Prop} (hn : xs.length < 100000) (h : Q (xs ++ [v])) : app (ε := ε) xs v Q E := ⟨hn, h⟩
end
end Z
namespace Z
section
variable {ε α β γ A R : Type} {E : ε → Prop}
theorem bd_a {m : M ε α} {f : α → M ε β} {Q : β → Prop} : bd m f Q E = m (fun a => f a Q E) E := rfl
theorem ret_a {a : α} {Q : α → Prop} : (ret a : M ε α) Q E = Q a := rfl
theorem lft_a {m : M Empty α} {Q : α → Prop} : (lft m : M ε α) Q E = m Q noE := rfl
theorem onC_n {f : A → M ε γ} {g : R → M ε γ} {a : A} : onC f g (.nx a) = f a := rfl
theorem onC_r {f : A → M ε γ} {g : R → M ε γ} {a : R} : onC f g (.rt a) = g a := rfl
theorem ite_a {c : Prop} [Decidable c] {m1 m2 : M ε α} {Q : α → Prop} : (if c then m1 else m2) Q E = if c then m1 Q E else m2 Q E := by
  by_cases h : c
  · rw [if_pos h, if_pos h]
  · rw [if_neg h, if_neg h]
theorem ite_P {c A B : Prop} [Decidable c] (h1 : c → A) (h2 : ¬ c → B) : if c then A else B := by
  by_cases h : c
  · rw [if_pos h]; exact h1 h
  · rw [if_neg h]; exact h2 h
theorem req_a {p : Prop} {Q : Unit → Prop} : (req p : M ε Unit) Q E = (p ∧ Q ()) := rfl
end
end Z
namespace Z
open L2
section
variable {ε δ α β γ A R : Type} {E : ε → Prop}
theorem nox_a {m : M δ α} {Q : α → Prop} : (nox m : M ε α) Q E = m Q (fun _ => False) := rfl
theorem thr_a {e : ε} {Q : α → Prop} : (thr e : M ε α) Q E = E e := rfl
theorem tryM_a {m : M δ α} {h : δ → M ε α} {Q : α → Prop} : tryM m h Q E = m Q (fun e => h e Q E) := rfl
/-- a search: the first bad one ends it with False -/
theorem forC_all {xs : List α} {body : α → Unit → M ε (Ctl Unit Bool)} {Q : Ctl Unit Bool → Prop} (p : α → Prop) (hs : ∀ x, x ∈ xs → ∀ T : Ctl Unit Bool → Prop, (p x → T (.nx ())) → (¬ p x → T (.rt false)) → body x () T E)
    (h1 : (∀ x, x ∈ xs → p x) → Q (.nx ())) (h2 : (∃ x, x ∈ xs ∧ ¬ p x) → Q (.rt false)) : forC xs () body Q E := by
  induction xs with
  | nil => exact h1 fun x hx => by cases hx
  | cons x xs ih =>
    refine hs x List.mem_cons_self _ (fun hp => ?_) fun hp => h2 ⟨x, List.mem_cons_self, hp⟩
    refine ih (fun y hy => hs y (List.mem_cons_of_mem _ hy)) (fun hall => h1 fun y hy => ?_) fun ⟨y, hy, hn⟩ => h2 ⟨y, List.mem_cons_of_mem _ hy, hn⟩
    rcases List.mem_cons.mp hy with rfl | hy
    · exact hp
    · exact hall y hy
/-- a loop without a state -/
theorem forS_unit {xs : List α} {body : α → Unit → M ε Unit} {Q : Unit → Prop} (hs : ∀ x, x ∈ xs → ∀ T : Unit → Prop, T () → body x () T E) (h : Q ()) : forS xs () body Q E := by
  induction xs with
  | nil => exact h
  | cons x xs ih => exact hs x List.mem_cons_self _ (ih fun y hy => hs y (List.mem_cons_of_mem _ hy))
theorem mapM_M {xs : List α} {f : α → M ε β} {Q : List β → Prop} (g : α → β) (hs : ∀ x, x ∈ xs → ∀ T : β → Prop, T (g x) → f x T E) (h : Q (xs.map g)) : mapM' f xs Q E := by
  induction xs generalizing Q with
  | nil => exact h
  | cons x xs ih => exact hs x List.mem_cons_self _ (ih (fun y hy => hs y (List.mem_cons_of_mem _ hy)) h)
/-- item by item, whatever each one is -/
theorem mapM_rel {xs : List α} {f : α → M ε β} {Q : List β → Prop} (P : α → β → Prop) (hs : ∀ x, x ∈ xs → ∀ T : β → Prop, (∀ y, P x y → T y) → f x T E) (h : ∀ ys : List β, ys.length = xs.length → (∀ (i : Nat) (x : α) (y : β), xs[i]? = some x → ys[i]? = some y → P x y) → Q ys) : mapM' f xs Q E := by
  induction xs generalizing Q with
  | nil => exact h [] rfl fun i x y hx => by simp at hx
  | cons x xs ih =>
    refine hs x List.mem_cons_self _ fun y hy => ih (fun z hz => hs z (List.mem_cons_of_mem _ hz)) fun ys hl hp => h (y :: ys) (by simp [hl]) fun i a b ha hb => ?_
    cases i with
    | zero =>
      simp at ha hb
      subst ha hb
      exact hy
    | succ i => exact hp i a b (by simpa using ha) (by simpa using hb)
theorem mapIf_M {xs : List α} {c : α → M ε Bool} {f : α → M ε β} {Q : List β → Prop} (p : α → Bool) (g : α → β) (hc : ∀ x, x ∈ xs → ∀ T : Bool → Prop, T (p x) → c x T E) (hs : ∀ x, x ∈ xs → p x = true → ∀ T : β → Prop, T (g x) → f x T E) (h : Q ((xs.filter p).map g)) : mapIf c f xs Q E := by
  induction xs generalizing Q with
  | nil => exact h
  | cons x xs ih =>
    refine hc x List.mem_cons_self _ ?_
    cases hp : p x with
    | true =>
      rw [if_pos rfl]
      rw [List.filter_cons_of_pos hp] at h
      exact hs x List.mem_cons_self hp _ (ih (fun y hy => hc y (List.mem_cons_of_mem _ hy)) (fun y hy => hs y (List.mem_cons_of_mem _ hy)) h)
    | false =>
      rw [if_neg Bool.false_ne_true]
      rw [List.filter_cons_of_neg (by rw [hp]; exact Bool.false_ne_true)] at h
      exact ih (fun y hy => hc y (List.mem_cons_of_mem _ hy)) (fun y hy => hs y (List.mem_cons_of_mem _ hy)) h
theorem atI_nat {xs : List α} {i : Int} {v : α} (h0 : 0 ≤ i) (h : xs[i.toNat]? = some v) : L2.atI xs i = some v := by
  have hl : i.toNat < xs.length := (List.getElem?_eq_some_iff.mp h).1
  have e : L2.ixN xs.length i = some i.toNat := by
    unfold L2.ixN
    rw [if_pos h0, if_pos (by omega)]
  unfold L2.atI
  rw [e]
  exact h
theorem ix_M {xs : List α} {i : Int} {v : α} {Q : α → Prop} (h0 : 0 ≤ i) (h : xs[i.toNat]? = some v) (q : Q v) : ix xs i Q E := ⟨v, atI_nat h0 h, q⟩
theorem put_M {xs : List α} {i : Int} {v : α} {Q : List α → Prop} (h0 : 0 ≤ i) (h : i < xs.length) (q : Q (xs.set i.toNat v)) : put xs i v Q E := by
  refine ⟨i.toNat, ?_, q⟩
  unfold L2.ixN
  rw [if_pos h0, if_pos h]
theorem rng_M {a b : Int} {Q : List Int → Prop} (h : -(2 ^ 62) ≤ a ∧ a < 2 ^ 62 ∧ -(2 ^ 62) ≤ b ∧ b < 2 ^ 62) (q : Q (rgs a b)) : rng a b Q E := ⟨h, q⟩
theorem mem_rgs {a b x : Int} : x ∈ rgs a b ↔ a ≤ x ∧ x < b := by
  unfold rgs
  rw [List.mem_map]
  constructor
  · rintro ⟨i, hi, rfl⟩
    rw [List.mem_range] at hi
    omega
  · intro h
    refine ⟨(x - a).toNat, ?_, by omega⟩
    rw [List.mem_range]
    omega
/-- the first place -/
theorem idx_M [BEq α] [LawfulBEq α] {xs : List α} {v : α} {Q : Int → Prop} (h : v ∈ xs) (q : Q (xs.idxOf v : Nat)) : idx xs v Q E := by
  refine ⟨xs.idxOf v, ?_, fun m hm hx => ?_, q⟩
  · have hl := List.idxOf_lt_length_of_mem h
    rw [List.getElem?_eq_getElem hl, List.getElem_idxOf hl]
  · have hlt : m < xs.length := (List.getElem?_eq_some_iff.mp hx).1
    have hv := (List.getElem?_eq_some_iff.mp hx).2
    have := List.not_of_lt_findIdx (p := fun a => a == v) (xs := xs) (i := m) (by simpa [List.idxOf] using hm)
    simp [hv] at this
/-! where ways come together -/
theorem jn_a {m : M ε α} {f : α → M ε β} {Q : β → Prop} : jn m f Q E = m (fun a => f a Q E) E := rfl
theorem jn_M {m : M ε α} {f : α → M ε β} {Q : β → Prop} (P : α → Prop) (h : ∀ T : α → Prop, (∀ a, P a → T a) → m T E) (hk : ∀ a, P a → f a Q E) : jn m f Q E := h _ hk
/-- .. and it is one and the same -/
theorem jn_1 {m : M ε α} {f : α → M ε β} {Q : β → Prop} (a : α) (h : ∀ T : α → Prop, T a → m T E) (hk : f a Q E) : jn m f Q E := h _ hk
end
end Z

namespace Z
/-! ### sets as ascending lists -/
theorem nodup_le {α : Type} [DecidableEq α] : ∀ {l m : List α}, l.Nodup → (∀ x, x ∈ l → x ∈ m) → l.length ≤ m.length
  | [], _, _, _ => Nat.zero_le _
  | a :: l, m, h, hs => by
    have hm : a ∈ m := hs a List.mem_cons_self
    have h1 := nodup_le (l := l) (m := m.erase a) (List.nodup_cons.mp h).2 (fun x hx => (List.mem_erase_of_ne (by rintro rfl; exact (List.nodup_cons.mp h).1 hx)).mpr (hs x (List.mem_cons_of_mem _ hx)))
    rw [List.length_erase_of_mem hm] at h1
    have : 0 < m.length := List.length_pos_of_mem hm
    rw [List.length_cons]
    omega
/-- a full list holds all -/
theorem nodup_full {α : Type} [DecidableEq α] {l m : List α} (h : l.Nodup) (hs : ∀ x, x ∈ l → x ∈ m) (hl : m.length ≤ l.length) : ∀ x, x ∈ m → x ∈ l := fun x hx => by
  by_cases hn : x ∈ l
  · exact hn
  · have := nodup_le (l := x :: l) (m := m) (List.nodup_cons.mpr ⟨hn, h⟩) (fun y hy => by
      rcases List.mem_cons.mp hy with rfl | hy
      · exact hx
      · exact hs y hy)
    rw [List.length_cons] at this
    omega
structure IsSet (r : List Int) (p : Int → Prop) : Prop where
  asc : r.Pairwise (· < ·)
  mem : ∀ x, x ∈ r ↔ p x
theorem asc_ext : ∀ {r s : List Int}, r.Pairwise (· < ·) → s.Pairwise (· < ·) → (∀ x, x ∈ r ↔ x ∈ s) → r = s
  | [], [], _, _, _ => rfl
  | [], b :: s, _, _, h => absurd ((h b).mpr List.mem_cons_self) (by simp)
  | a :: r, [], _, _, h => absurd ((h a).mp List.mem_cons_self) (by simp)
  | a :: r, b :: s, h1, h2, h => by
    rw [List.pairwise_cons] at h1 h2
    have e : a = b := by
      rcases List.mem_cons.mp ((h a).mp List.mem_cons_self) with e | ha
      · exact e
      · rcases List.mem_cons.mp ((h b).mpr List.mem_cons_self) with e | hb
        · exact e.symm
        · have := h1.1 b hb
          have := h2.1 a ha
          omega
    subst e
    rw [asc_ext h1.2 h2.2 fun x => ?_]
    have hx := h x
    rw [List.mem_cons, List.mem_cons] at hx
    constructor
    · intro m
      rcases hx.mp (.inr m) with rfl | m'
      · exact absurd (h1.1 x m) (by omega)
      · exact m'
    · intro m
      rcases hx.mpr (.inr m) with rfl | m'
      · exact absurd (h2.1 x m) (by omega)
      · exact m'
theorem IsSet.eq {r s : List Int} {p : Int → Prop} (h1 : IsSet r p) (h2 : IsSet s p) : r = s := asc_ext h1.asc h2.asc fun x => (h1.mem x).trans (h2.mem x).symm
theorem asc_of_sorted : ∀ {r : List Int}, r.Pairwise (· ≤ ·) → r.Nodup → r.Pairwise (· < ·)
  | [], _, _ => .nil
  | a :: r, h1, h2 => by
    rw [List.pairwise_cons] at h1
    rw [List.nodup_cons] at h2
    refine List.pairwise_cons.mpr ⟨fun b hb => ?_, asc_of_sorted h1.2 h2.2⟩
    have := h1.1 b hb
    have : a ≠ b := fun e => h2.1 (e ▸ hb)
    omega
theorem IsSet.of_perm {r s : List Int} {p : Int → Prop} (hp : r.Perm s) (ho : r.Pairwise (· ≤ ·)) (hn : s.Nodup) (hm : ∀ x, x ∈ s ↔ p x) : IsSet r p :=
  ⟨asc_of_sorted ho (hp.nodup_iff.mpr hn), fun x => hp.mem_iff.trans (hm x)⟩
theorem IsSet.nodup {r : List Int} {p : Int → Prop} (h : IsSet r p) : r.Nodup := h.asc.imp fun {a b} hab => by omega
theorem IsSet.congr {r : List Int} {p q : Int → Prop} (h : IsSet r p) (e : ∀ x, p x ↔ q x) : IsSet r q := ⟨h.asc, fun x => (h.mem x).trans (e x)⟩
end Z
namespace Z
/-! ### groups on 0, .., n - 1 -/
abbrev Rn (n : Nat) (x : Int) : Prop := 0 ≤ x ∧ x < (n : Int)
structure Grp (n : Nat) (m : Int → Int → Int) : Prop where
  pos : 0 < n
  cl : ∀ {x y}, Rn n x → Rn n y → Rn n (m x y)
  i1 : ∀ {x}, Rn n x → m 0 x = x
  i2 : ∀ {x}, Rn n x → m x 0 = x
  iv : ∀ {x}, Rn n x → ∃ y, Rn n y ∧ m x y = 0
  as : ∀ {x y z}, Rn n x → Rn n y → Rn n z → m (m x y) z = m x (m y z)
section
variable {n : Nat} {m : Int → Int → Int}
theorem Grp.r0 (g : Grp n m) : Rn n 0 := ⟨by omega, by have := g.pos; omega⟩
theorem Grp.comm_inv (g : Grp n m) {x y : Int} (hx : Rn n x) (hy : Rn n y) (h : m x y = 0) : m y x = 0 := by
  obtain ⟨z, hz, e⟩ := g.iv hy
  have : x = z := by
    have h1 := g.as hx hy hz
    rw [h, e, g.i1 hz, g.i2 hx] at h1
    exact h1.symm
  rw [this, e]
theorem Grp.canL (g : Grp n m) {a x y : Int} (ha : Rn n a) (hx : Rn n x) (hy : Rn n y) (h : m a x = m a y) : x = y := by
  obtain ⟨b, hb, e⟩ := g.iv ha
  have e' := g.comm_inv ha hb e
  have h1 := g.as hb ha hx
  have h2 := g.as hb ha hy
  rw [e', g.i1 hx] at h1
  rw [e', g.i1 hy, ← h, ← h1] at h2
  exact h2.symm
theorem Grp.canR (g : Grp n m) {a x y : Int} (ha : Rn n a) (hx : Rn n x) (hy : Rn n y) (h : m x a = m y a) : x = y := by
  obtain ⟨b, hb, e⟩ := g.iv ha
  have h1 := g.as hx ha hb
  have h2 := g.as hy ha hb
  rw [e, g.i2 hx] at h1
  rw [e, g.i2 hy, ← h, h1] at h2
  exact h2
/-- the powers, from the right -/
def pow (m : Int → Int → Int) (x : Int) : Nat → Int
  | 0 => 0
  | k + 1 => m (pow m x k) x
theorem Grp.pwR (g : Grp n m) {x : Int} (hx : Rn n x) : ∀ k, Rn n (pow m x k)
  | 0 => g.r0
  | k + 1 => g.cl (g.pwR hx k) hx
theorem Grp.pw_add (g : Grp n m) {x : Int} (hx : Rn n x) (i : Nat) : ∀ j, pow m x (i + j) = m (pow m x i) (pow m x j)
  | 0 => (g.i2 (g.pwR hx i)).symm
  | j + 1 => by
    show m (pow m x (i + j)) x = m (pow m x i) (m (pow m x j) x)
    rw [g.pw_add hx i j, g.as (g.pwR hx i) (g.pwR hx j) hx]
theorem Grp.pw_left (g : Grp n m) {x : Int} (hx : Rn n x) (k : Nat) : m x (pow m x k) = pow m x (k + 1) := by
  have h := g.pw_add hx 1 k
  have e : pow m x 1 = x := g.i1 hx
  rw [e, Nat.add_comm] at h
  exact h.symm
def els (n : Nat) : List Int := (List.range n).map fun (i : Nat) => (i : Int)
theorem mem_els {n : Nat} {x : Int} : x ∈ els n ↔ Rn n x := by
  unfold els
  rw [List.mem_map]
  constructor
  · rintro ⟨i, hi, rfl⟩
    rw [List.mem_range] at hi
    exact ⟨by omega, by omega⟩
  · rintro ⟨h1, h2⟩
    exact ⟨x.toNat, List.mem_range.mpr (by omega), by omega⟩
theorem els_length (n : Nat) : (els n).length = n := by
  unfold els
  rw [List.length_map, List.length_range]
theorem els_nodup (n : Nat) : (els n).Nodup := by
  unfold els
  refine List.Pairwise.map _ (fun a b h => ?_) List.nodup_range
  omega
theorem pigeon (f : Nat → Int) (hf : ∀ i, i ≤ n → Rn n (f i)) : ∃ i j, i < j ∧ j ≤ n ∧ f i = f j := by
  by_cases h : ∃ i j, i < j ∧ j ≤ n ∧ f i = f j
  · exact h
  · exfalso
    have hn : ((List.range (n + 1)).map f).Nodup := by
      refine List.Pairwise.map (R := fun i j => i < j ∧ j ≤ n) f (fun i j hij e => h ⟨i, j, hij.1, hij.2, e⟩) ?_
      have hp : (List.range (n + 1)).Pairwise (· < ·) := List.pairwise_lt_range
      refine List.Pairwise.imp_of_mem (fun {a b} _ hb hab => ⟨hab, ?_⟩) hp
      rw [List.mem_range] at hb
      omega
    have := nodup_le hn (m := els n) (fun x hx => by
      rw [List.mem_map] at hx
      obtain ⟨i, hi, rfl⟩ := hx
      rw [List.mem_range] at hi
      exact mem_els.mpr (hf i (by omega)))
    rw [List.length_map, List.length_range, els_length] at this
    omega
theorem Grp.some_pow (g : Grp n m) {x : Int} (hx : Rn n x) : ∃ k, 0 < k ∧ k ≤ n ∧ pow m x k = 0 := by
  obtain ⟨i, j, h1, h2, h3⟩ := pigeon (n := n) (pow m x) fun i _ => g.pwR hx i
  refine ⟨j - i, by omega, by omega, ?_⟩
  have e := g.pw_add hx i (j - i)
  rw [show i + (j - i) = j by omega, ← h3] at e
  exact (g.canL (g.pwR hx i) (g.pwR hx (j - i)) g.r0 (by rw [← e, g.i2 (g.pwR hx i)])).symm ▸ rfl
/-- k is x's order -/
structure IsOrd (m : Int → Int → Int) (x : Int) (k : Nat) : Prop where
  pos : 0 < k
  one : pow m x k = 0
  least : ∀ j, 0 < j → j < k → pow m x j ≠ 0
theorem IsOrd.eq {x : Int} {k l : Nat} (h1 : IsOrd m x k) (h2 : IsOrd m x l) : k = l := by
  rcases Nat.lt_trichotomy k l with h | h | h
  · exact absurd h1.one (h2.least k h1.pos h)
  · exact h
  · exact absurd h2.one (h1.least l h2.pos h)
theorem Grp.has_ord (g : Grp n m) {x : Int} (hx : Rn n x) : ∃ k, IsOrd m x k ∧ k ≤ n := by
  obtain ⟨k, h1, h2, h3⟩ := g.some_pow hx
  have key : ∀ b k, k ≤ b → 0 < k → pow m x k = 0 → ∃ l, IsOrd m x l ∧ l ≤ k := by
    intro b
    induction b with
    | zero => intro k h1 h2; omega
    | succ b ih =>
      intro k h1 h2 h3
      by_cases h : ∃ j, 0 < j ∧ j < k ∧ pow m x j = 0
      · obtain ⟨j, j1, j2, j3⟩ := h
        obtain ⟨l, l1, l2⟩ := ih j (by omega) j1 j3
        exact ⟨l, l1, by omega⟩
      · exact ⟨k, ⟨h2, h3, fun j j1 j2 j3 => h ⟨j, j1, j2, j3⟩⟩, Nat.le_refl _⟩
  obtain ⟨l, l1, l2⟩ := key k k (Nat.le_refl _) h1 h3
  exact ⟨l, l1, by omega⟩
theorem Grp.pw_ord_mul (g : Grp n m) {x : Int} (hx : Rn n x) {k : Nat} (h : pow m x k = 0) : ∀ q, pow m x (k * q) = 0
  | 0 => rfl
  | q + 1 => by rw [Nat.mul_succ, g.pw_add hx, g.pw_ord_mul hx h q, h, g.i1 g.r0]
theorem Grp.pw_mod (g : Grp n m) {x : Int} (hx : Rn n x) {k : Nat} (h : IsOrd m x k) (e : Nat) : pow m x (e % k) = pow m x e := by
  have := Nat.div_add_mod e k
  conv => rhs; rw [← this, g.pw_add hx, g.pw_ord_mul hx h.one, g.i1 (g.pwR hx _)]
theorem Grp.pw_eq_iff (g : Grp n m) {x : Int} (hx : Rn n x) {k : Nat} (h : IsOrd m x k) (e : Nat) : pow m x e = 0 ↔ k ∣ e := by
  rw [← g.pw_mod hx h e]
  constructor
  · intro h0
    by_cases hz : e % k = 0
    · exact Nat.dvd_of_mod_eq_zero hz
    · exact absurd h0 (h.least _ (by omega) (Nat.mod_lt _ h.pos))
  · intro hd
    rw [Nat.mod_eq_zero_of_dvd hd]
    rfl
theorem Grp.pw_inv (g : Grp n m) {x y : Int} (hx : Rn n x) (hy : Rn n y) (h : m x y = 0) : ∀ k, m (pow m x k) (pow m y k) = 0
  | 0 => g.i1 g.r0
  | k + 1 => by
    show m (m (pow m x k) x) (pow m y (k + 1)) = 0
    rw [← g.pw_left hy k, g.as (g.pwR hx k) hx (g.cl hy (g.pwR hy k)), ← g.as hx hy (g.pwR hy k), h, g.i1 (g.pwR hy k)]
    exact g.pw_inv hx hy h k
/-- what is reached from 0 by multiplying by ms from the right -/
inductive Cl (m : Int → Int → Int) (ms : List Int) : Int → Prop
  | z : Cl m ms 0
  | s {x a : Int} : Cl m ms x → a ∈ ms → Cl m ms (m x a)
theorem Cl.r (g : Grp n m) {ms : List Int} (hm : ∀ a, a ∈ ms → Rn n a) {x : Int} (h : Cl m ms x) : Rn n x := by
  induction h with
  | z => exact g.r0
  | s _ ha ih => exact g.cl ih (hm _ ha)
theorem Cl.mul (g : Grp n m) {ms : List Int} (hm : ∀ a, a ∈ ms → Rn n a) {x y : Int} (h : Cl m ms x) (h' : Cl m ms y) : Cl m ms (m x y) := by
  induction h' with
  | z => rw [g.i2 (h.r g hm)]; exact h
  | s hy ha ih =>
    rw [← g.as (h.r g hm) (hy.r g hm) (hm _ ha)]
    exact .s ih ha
theorem Cl.gen (g : Grp n m) {ms : List Int} (hm : ∀ a, a ∈ ms → Rn n a) {a : Int} (h : a ∈ ms) : Cl m ms a := by
  have := Cl.s (m := m) (ms := ms) .z h
  rw [g.i1 (hm a h)] at this
  exact this
theorem Cl.mono {ms ms' : List Int} (hs : ∀ a, a ∈ ms → a ∈ ms') {x : Int} (h : Cl m ms x) : Cl m ms' x := by
  induction h with
  | z => exact .z
  | s _ ha ih => exact .s ih (hs _ ha)
theorem Cl.pw (g : Grp n m) {ms : List Int} (hm : ∀ a, a ∈ ms → Rn n a) {x : Int} (h : Cl m ms x) : ∀ k, Cl m ms (pow m x k)
  | 0 => .z
  | k + 1 => Cl.mul g hm (Cl.pw g hm h k) h
theorem Cl.inv (g : Grp n m) {ms : List Int} (hm : ∀ a, a ∈ ms → Rn n a) {x y : Int} (h : Cl m ms x) (hy : Rn n y) (e : m x y = 0) : Cl m ms y := by
  have hx := h.r g hm
  obtain ⟨k, hk, _⟩ := g.has_ord hx
  have hp := hk.pos
  obtain ⟨j, rfl⟩ : ∃ j, k = j + 1 := ⟨k - 1, by omega⟩
  have h1 : m x (pow m x j) = 0 := by rw [g.pw_left hx]; exact hk.one
  rw [g.canL hx hy (g.pwR hx j) (by rw [e, h1])]
  exact Cl.pw g hm h j
open Classical in
noncomputable def genStep (m : Int → Int → Int) (f : List Int) (x : Int) : List Int := if Cl m f x then f else f ++ [x]
noncomputable def gens (n : Nat) (m : Int → Int → Int) : List Int := ((List.range (n - 1)).map fun (i : Nat) => (1 : Int) + (i : Int)).foldl (genStep m) []
end
end Z
namespace Z
/-! ### metacyclic groups times cyclic ones -/
section
variable {n m k r s : Int}
def enc3 (m k a b c : Int) : Int := (a * m + b) * k + c
theorem enc3_dec {x : Int} (hm : 0 < m) (hk : 0 < k) : enc3 m k (x / (m * k)) (x / k % m) (x % k) = x := by
  unfold enc3
  have h1 : x / (m * k) = x / k / m := by rw [Int.mul_comm, Int.ediv_ediv_of_nonneg (by omega)]
  have h2 := Int.mul_ediv_add_emod (x / k) m
  have h3 := Int.mul_ediv_add_emod x k
  rw [h1]
  grind
theorem enc3_c {a b c : Int} (h0 : 0 ≤ c) (h : c < k) : enc3 m k a b c % k = c := by
  unfold enc3
  rw [Int.add_comm, Int.add_mul_emod_self_right, Int.emod_eq_of_lt h0 h]
theorem enc3_k {a b c : Int} (h0 : 0 ≤ c) (h : c < k) : enc3 m k a b c / k = a * m + b := by
  unfold enc3
  rw [Int.add_comm, Int.add_mul_ediv_right _ _ (by omega), Int.ediv_eq_zero_of_lt h0 h]
  omega
theorem enc3_b {a b c : Int} (h0 : 0 ≤ c) (h : c < k) (b0 : 0 ≤ b) (hb : b < m) : enc3 m k a b c / k % m = b := by
  rw [enc3_k h0 h, Int.add_comm, Int.add_mul_emod_self_right, Int.emod_eq_of_lt b0 hb]
theorem enc3_a {a b c : Int} (h0 : 0 ≤ c) (h : c < k) (b0 : 0 ≤ b) (hb : b < m) : enc3 m k a b c / (m * k) = a := by
  rw [Int.mul_comm, ← Int.ediv_ediv_of_nonneg (by omega), enc3_k h0 h, Int.add_comm, Int.add_mul_ediv_right _ _ (by omega), Int.ediv_eq_zero_of_lt b0 hb]
  omega
theorem enc3_r {a b c : Int} (hn : 0 < n) (hm : 0 < m) (hk : 0 < k) (a0 : 0 ≤ a) (ha : a < n) (b0 : 0 ≤ b) (hb : b < m) (c0 : 0 ≤ c) (hc : c < k) : 0 ≤ enc3 m k a b c ∧ enc3 m k a b c < n * m * k := by
  unfold enc3
  have h1 : 0 ≤ a * m := Int.mul_nonneg a0 (by omega)
  have h2 : a * m + b < n * m := by
    have : (a + 1) * m ≤ n * m := Int.mul_le_mul_of_nonneg_right (by omega) (by omega)
    rw [Int.add_mul] at this
    omega
  have h3 : 0 ≤ (a * m + b) * k := Int.mul_nonneg (by omega) (by omega)
  have h4 : (a * m + b + 1) * k ≤ n * m * k := Int.mul_le_mul_of_nonneg_right (by omega) (by omega)
  rw [Int.add_mul] at h4
  omega
/-- the first part, before it is reduced -/
def preA (m k n r s x y : Int) : Int := x / (m * k) + (r ^ (x / k % m).toNat % n) * (y / (m * k)) + (if m ≤ x / k % m + y / k % m then s else 0)
def mm (n m k r s x y : Int) : Int := enc3 m k (preA m k n r s x y % n) ((x / k % m + y / k % m) % m) ((x + y) % k)
theorem pow_carry (hm : 0 < m) (hn : 0 < n) (hr : (r ^ m.toNat - 1) % n = 0) {b c : Int} (b0 : 0 ≤ b) (hb : b < m) (c0 : 0 ≤ c) (hc : c < m) :
    n ∣ (r ^ b.toNat % n) * (r ^ c.toNat % n) - r ^ ((b + c) % m).toNat % n := by
  have e1 : n ∣ r ^ b.toNat * r ^ c.toNat - r ^ ((b + c) % m).toNat := by
    rw [← Int.pow_add]
    by_cases h : b + c < m
    · rw [Int.emod_eq_of_lt (by omega) h, show (b + c).toNat = b.toNat + c.toNat by omega]
      exact ⟨0, by omega⟩
    · have h2 : (b + c) % m = b + c - m := by
        rw [← Int.sub_emod_right, Int.emod_eq_of_lt (by omega) (by omega)]
      rw [h2, show b.toNat + c.toNat = m.toNat + (b + c - m).toNat by omega, Int.pow_add]
      obtain ⟨u, hu⟩ := Int.dvd_of_emod_eq_zero hr
      exact ⟨u * r ^ (b + c - m).toNat, by grind⟩
  obtain ⟨u, hu⟩ := e1
  have h1 := Int.mul_ediv_add_emod (r ^ b.toNat) n
  have h2 := Int.mul_ediv_add_emod (r ^ c.toNat) n
  have h3 := Int.mul_ediv_add_emod (r ^ ((b + c) % m).toNat) n
  refine ⟨u - (r ^ b.toNat / n) * r ^ c.toNat - (r ^ b.toNat % n) * (r ^ c.toNat / n) + r ^ ((b + c) % m).toNat / n, ?_⟩
  generalize r ^ b.toNat = B at *
  generalize r ^ c.toNat = C at *
  generalize r ^ ((b + c) % m).toNat = D at *
  generalize B % n = B1 at *
  generalize C % n = C1 at *
  generalize D % n = D1 at *
  generalize B / n = B2 at *
  generalize C / n = C2 at *
  generalize D / n = D2 at *
  subst h1 h2 h3
  grind
theorem pow_s (hn : 0 < n) (hs : ((r - 1) * s) % n = 0) : ∀ b : Nat, n ∣ (r ^ b % n) * s - s := fun b => by
  have e1 : n ∣ r ^ b * s - s := by
    obtain ⟨u, hu⟩ := Int.dvd_of_emod_eq_zero hs
    induction b with
    | zero => exact ⟨0, by simp⟩
    | succ b ih =>
      obtain ⟨v, hv⟩ := ih
      rw [Int.pow_succ]
      exact ⟨v + r ^ b * u, by grind⟩
  obtain ⟨u, hu⟩ := e1
  have h1 := Int.mul_ediv_add_emod (r ^ b) n
  exact ⟨u - (r ^ b / n) * s, by grind⟩
theorem emod_of_dvd {n x y : Int} (h : n ∣ x - y) : x % n = y % n := Int.emod_eq_emod_iff_emod_sub_eq_zero.mpr (Int.emod_eq_zero_of_dvd h)
theorem add_emod3 (x y z k : Int) : (x % k + y + z) % k = (x + y + z) % k := emod_of_dvd ⟨-(x / k), by
  have := Int.mul_ediv_add_emod x k
  grind⟩
/-- who carries -/
theorem carry3 (hm : 0 < m) {a b c : Int} (a0 : 0 ≤ a) (ha : a < m) (b0 : 0 ≤ b) (hb : b < m) (c0 : 0 ≤ c) (hc : c < m) (s : Int) :
    (if m ≤ a + b then s else 0) + (if m ≤ (a + b) % m + c then s else 0) = (if m ≤ b + c then s else 0) + (if m ≤ a + (b + c) % m then s else 0) := by
  have e1 : (a + b) % m = if m ≤ a + b then a + b - m else a + b := by
    split
    · rw [← Int.sub_emod_right, Int.emod_eq_of_lt (by omega) (by omega)]
    · rw [Int.emod_eq_of_lt (by omega) (by omega)]
  have e2 : (b + c) % m = if m ≤ b + c then b + c - m else b + c := by
    split
    · rw [← Int.sub_emod_right, Int.emod_eq_of_lt (by omega) (by omega)]
    · rw [Int.emod_eq_of_lt (by omega) (by omega)]
  rw [e1, e2]
  split <;> split <;> split <;> split <;> first | omega | (simp only [*, if_true, if_false] at *; omega)
theorem mm_grp (hn : 0 < n) (hm : 0 < m) (hk : 0 < k) (hr : (r ^ m.toNat - 1) % n = 0) (hs : ((r - 1) * s) % n = 0) : Grp (n * m * k).toNat (mm n m k r s) := by
  have hp : 0 < n * m * k := Int.mul_pos (Int.mul_pos hn hm) hk
  have hR : ∀ x, Rn (n * m * k).toNat x ↔ 0 ≤ x ∧ x < n * m * k := fun x => by
    unfold Rn
    rw [Int.toNat_of_nonneg (by omega)]
  have ha : ∀ x, Rn (n * m * k).toNat x → 0 ≤ x / (m * k) ∧ x / (m * k) < n := fun x hx => by
    rw [hR] at hx
    have hmk : 0 < m * k := Int.mul_pos hm hk
    exact ⟨Int.ediv_nonneg hx.1 (by omega), Int.ediv_lt_of_lt_mul hmk (by rw [← Int.mul_assoc]; exact hx.2)⟩
  have hb : ∀ x : Int, 0 ≤ x / k % m ∧ x / k % m < m := fun x => ⟨Int.emod_nonneg _ (by omega), Int.emod_lt_of_pos _ hm⟩
  have hc : ∀ x : Int, 0 ≤ x % k ∧ x % k < k := fun x => ⟨Int.emod_nonneg _ (by omega), Int.emod_lt_of_pos _ hk⟩
  have hM : ∀ x y : Int, 0 ≤ x % n ∧ x % n < n := fun x y => ⟨Int.emod_nonneg _ (by omega), Int.emod_lt_of_pos _ hn⟩
  have hb2 : ∀ x y : Int, 0 ≤ (x / k % m + y / k % m) % m ∧ (x / k % m + y / k % m) % m < m := fun x y => ⟨Int.emod_nonneg _ (by omega), Int.emod_lt_of_pos _ hm⟩
  have A : ∀ x y, mm n m k r s x y / (m * k) = preA m k n r s x y % n := fun x y => enc3_a (hc _).1 (hc _).2 (hb2 x y).1 (hb2 x y).2
  have B : ∀ x y, mm n m k r s x y / k % m = (x / k % m + y / k % m) % m := fun x y => enc3_b (hc _).1 (hc _).2 (hb2 x y).1 (hb2 x y).2
  have C : ∀ x y, mm n m k r s x y % k = (x + y) % k := fun x y => enc3_c (hc _).1 (hc _).2
  refine ⟨by omega, fun {x y} _ _ => ?_, fun {x} hx => ?_, fun {x} hx => ?_, fun {x} hx => ?_, fun {x y z} hx hy hz => ?_⟩
  · rw [hR]
    exact enc3_r hn hm hk (hM _ 0).1 (hM _ 0).2 (hb2 x y).1 (hb2 x y).2 (hc _).1 (hc _).2
  · have h1 := ha x hx
    have h2 := hb x
    have e : preA m k n r s 0 x % n = x / (m * k) := by
      unfold preA
      rw [Int.zero_ediv, Int.zero_ediv, Int.zero_emod, if_neg (by omega)]
      have : n ∣ (0 + (r ^ (0 : Int).toNat % n) * (x / (m * k)) + 0) - x / (m * k) := by
        have := Int.mul_ediv_add_emod 1 n
        exact ⟨-(1 / n) * (x / (m * k)), by simp; grind⟩
      rw [emod_of_dvd this, Int.emod_eq_of_lt h1.1 h1.2]
    unfold mm
    rw [e, Int.zero_ediv, Int.zero_emod, Int.zero_add, Int.zero_add, Int.emod_eq_of_lt h2.1 h2.2]
    exact enc3_dec hm hk
  · have h1 := ha x hx
    have h2 := hb x
    have e : preA m k n r s x 0 % n = x / (m * k) := by
      unfold preA
      rw [Int.zero_ediv, Int.zero_ediv, Int.zero_emod, if_neg (by omega), Int.mul_zero, Int.add_zero, Int.add_zero, Int.emod_eq_of_lt h1.1 h1.2]
    unfold mm
    rw [e, Int.zero_ediv, Int.zero_emod, Int.add_zero, Int.add_zero, Int.emod_eq_of_lt h2.1 h2.2]
    exact enc3_dec hm hk
  · have h1 := ha x hx
    have h2 := hb x
    have h3 := hc x
    obtain ⟨b', hb', hb0, hbm⟩ : ∃ b', b' = (m - x / k % m) % m ∧ 0 ≤ b' ∧ b' < m := ⟨_, rfl, Int.emod_nonneg _ (by omega), Int.emod_lt_of_pos _ hm⟩
    obtain ⟨c', hc', hc0, hck⟩ : ∃ c', c' = (k - x % k) % k ∧ 0 ≤ c' ∧ c' < k := ⟨_, rfl, Int.emod_nonneg _ (by omega), Int.emod_lt_of_pos _ hk⟩
    obtain ⟨w, hw⟩ : ∃ w, w = x / (m * k) + (if m ≤ x / k % m + b' then s else 0) := ⟨_, rfl⟩
    obtain ⟨a', ha', ha0, han⟩ : ∃ a', a' = (-(r ^ b'.toNat % n) * w) % n ∧ 0 ≤ a' ∧ a' < n := ⟨_, rfl, Int.emod_nonneg _ (by omega), Int.emod_lt_of_pos _ hn⟩
    refine ⟨enc3 m k a' b' c', (hR _).mpr (enc3_r hn hm hk ha0 han hb0 hbm hc0 hck), ?_⟩
    have hbb : (x / k % m + b') % m = 0 := by
      rw [hb']
      by_cases hz : x / k % m = 0
      · rw [hz]; simp
      · rw [Int.emod_eq_of_lt (a := m - x / k % m) (by omega) (by omega), show x / k % m + (m - x / k % m) = m by omega, Int.emod_self]
    have hcc : (x + enc3 m k a' b' c') % k = 0 := by
      rw [Int.add_emod, enc3_c hc0 hck, hc']
      by_cases hz : x % k = 0
      · rw [hz]; simp
      · rw [Int.emod_eq_of_lt (a := k - x % k) (by omega) (by omega), show x % k + (k - x % k) = k by omega, Int.emod_self]
    have hA : preA m k n r s x (enc3 m k a' b' c') % n = 0 := by
      unfold preA
      rw [enc3_a hc0 hck hb0 hbm, enc3_b hc0 hck hb0 hbm]
      have p := pow_carry hm hn hr h2.1 h2.2 hb0 hbm
      rw [hbb] at p
      have : n ∣ x / (m * k) + (r ^ (x / k % m).toNat % n) * a' + (if m ≤ x / k % m + b' then s else 0) - 0 := by
        obtain ⟨u, hu⟩ := p
        have q := Int.mul_ediv_add_emod (-(r ^ b'.toNat % n) * w) n
        rw [← ha'] at q
        have q1 := Int.mul_ediv_add_emod 1 n
        have e0 : r ^ (0 : Int).toNat = 1 := by simp
        rw [e0] at hu
        refine ⟨-(r ^ (x / k % m).toNat % n) * ((-(r ^ b'.toNat % n) * w) / n) - u * w + (1 / n) * w, ?_⟩
        have e1 : x / (m * k) + (r ^ (x / k % m).toNat % n) * a' + (if m ≤ x / k % m + b' then s else 0) - 0 = w + (r ^ (x / k % m).toNat % n) * a' := by rw [hw]; omega
        rw [e1]
        generalize (-(r ^ b'.toNat % n) * w) / n = Z at *
        generalize r ^ (x / k % m).toNat % n = X at *
        generalize r ^ b'.toNat % n = Y at *
        generalize 1 % n = V at *
        generalize 1 / n = U at *
        grind
      rw [emod_of_dvd this, Int.zero_emod]
    unfold mm
    rw [hA, enc3_b hc0 hck hb0 hbm, hbb, hcc]
    unfold enc3
    simp
  · have hx1 := ha x hx
    have hy1 := ha y hy
    have hz1 := ha z hz
    have hbx := hb x
    have hby := hb y
    have hbz := hb z
    have eb : (mm n m k r s x y / k % m + z / k % m) % m = (x / k % m + mm n m k r s y z / k % m) % m := by
      rw [B, B, Int.emod_add_emod, Int.add_assoc]
      exact (Int.add_emod_emod ..).symm
    have ec : (mm n m k r s x y + z) % k = (x + mm n m k r s y z) % k := by
      rw [Int.add_emod, C, ← Int.add_emod, Int.add_emod x, C, ← Int.add_emod, Int.add_assoc]
    have ea : preA m k n r s (mm n m k r s x y) z % n = preA m k n r s x (mm n m k r s y z) % n := by
      refine emod_of_dvd ?_
      have p := pow_carry hm hn hr hbx.1 hbx.2 hby.1 hby.2
      have q := pow_s (n := n) (r := r) (s := s) hn hs (x / k % m).toNat
      have cy := carry3 hm hbx.1 hbx.2 hby.1 hby.2 hbz.1 hbz.2
      obtain ⟨u, hu⟩ := p
      obtain ⟨v, hv⟩ := q
      have d1 := Int.mul_ediv_add_emod (preA m k n r s x y) n
      have d2 := Int.mul_ediv_add_emod (preA m k n r s y z) n
      have f1 : preA m k n r s (mm n m k r s x y) z = preA m k n r s x y % n + (r ^ ((x / k % m + y / k % m) % m).toNat % n) * (z / (m * k)) + (if m ≤ (x / k % m + y / k % m) % m + z / k % m then s else 0) := by
        rw [preA, A, B]
      have f2 : preA m k n r s x (mm n m k r s y z) = x / (m * k) + (r ^ (x / k % m).toNat % n) * (preA m k n r s y z % n) + (if m ≤ x / k % m + (y / k % m + z / k % m) % m then s else 0) := by
        rw [preA, A, B]
      rw [f1, f2]
      have g1 : preA m k n r s x y = x / (m * k) + (r ^ (x / k % m).toNat % n) * (y / (m * k)) + (if m ≤ x / k % m + y / k % m then s else 0) := rfl
      have g2 : preA m k n r s y z = y / (m * k) + (r ^ (y / k % m).toNat % n) * (z / (m * k)) + (if m ≤ y / k % m + z / k % m then s else 0) := rfl
      have c1 := cy s
      -- the carries of y and z as c * s
      obtain ⟨c, hcc⟩ : ∃ c : Int, (if m ≤ y / k % m + z / k % m then s else 0) = c * s := by
        split
        · exact ⟨1, by omega⟩
        · exact ⟨0, by omega⟩
      rw [hcc] at g2 c1
      generalize preA m k n r s x y = PX at *
      generalize preA m k n r s y z = PY at *
      generalize (if m ≤ x / k % m + y / k % m then s else 0) = s1 at *
      generalize (if m ≤ (x / k % m + y / k % m) % m + z / k % m then s else 0) = s2 at *
      generalize (if m ≤ x / k % m + (y / k % m + z / k % m) % m then s else 0) = s3 at *
      generalize r ^ ((x / k % m + y / k % m) % m).toNat % n = W at *
      generalize r ^ (x / k % m).toNat % n = X at *
      generalize r ^ (y / k % m).toNat % n = Y at *
      generalize x / (m * k) = a1 at *
      generalize y / (m * k) = a2 at *
      generalize z / (m * k) = a3 at *
      generalize PX % n = RX at *
      generalize PY % n = RY at *
      generalize PX / n = DX at *
      generalize PY / n = DY at *
      clear A B C hR ha hb hc hM hb2 hx hy hz eb ec cy f1 f2 hx1 hy1 hz1 hbx hby hbz hcc
      refine ⟨-DX + X * DY - u * a3 - c * v, ?_⟩
      have : s1 + s2 - s3 = c * s := by omega
      have e : RX = PX - n * DX := by omega
      have e' : RY = PY - n * DY := by omega
      subst e e'
      have hs3 : s3 = s1 + s2 - c * s := by omega
      subst hs3 g1 g2
      grind
    rw [mm, ea, eb, ec, ← mm]
end
end Z
namespace Z
/-! ### closure in any set -/
inductive ClA {α : Type} (op : α → α → α) (e : α) (ms : List α) : α → Prop
  | z : ClA op e ms e
  | s {x a : α} : ClA op e ms x → a ∈ ms → ClA op e ms (op x a)
structure BfA {α : Type} (op : α → α → α) (e : α) (ms r : List α) : Prop where
  nd : r.Nodup
  cl : ∀ x, x ∈ r → ClA op e ms x
  z : e ∈ r
def DnA {α : Type} (op : α → α → α) (ms r : List α) (k : Nat) : Prop := ∀ i x, i < k → r[i]? = some x → ∀ a, a ∈ ms → op x a ∈ r
section
variable {α : Type} {op : α → α → α} {e : α} {ms r : List α}
theorem BfA.start : BfA op e ms [e] := ⟨by simp, fun x hx => by
  rw [List.mem_singleton] at hx
  rw [hx]
  exact .z, by simp⟩
theorem BfA.add {x a : α} (b : BfA op e ms r) (hx : x ∈ r) (ha : a ∈ ms) (hn : op x a ∉ r) : BfA op e ms (r ++ [op x a]) := ⟨by
  rw [List.nodup_append]
  exact ⟨b.nd, by simp, fun y hy z hz => by
    rw [List.mem_singleton] at hz
    rintro rfl
    exact hn (hz ▸ hy)⟩, fun y hy => by
  rcases List.mem_append.mp hy with hy | hy
  · exact b.cl y hy
  · rw [List.mem_singleton] at hy
    rw [hy]
    exact .s (b.cl x hx) ha, List.mem_append.mpr (.inl b.z)⟩
theorem DnA.app {f : List α} {k : Nat} (h : DnA op ms r k) (hk : k ≤ r.length) : DnA op ms (r ++ f) k := fun i x hi hx a ha => by
  rw [List.getElem?_append_left (by omega)] at hx
  exact List.mem_append.mpr (.inl (h i x hi hx a ha))
theorem BfA.done (b : BfA op e ms r) (d : DnA op ms r r.length) (x : α) : x ∈ r ↔ ClA op e ms x := by
  refine ⟨b.cl x, fun h => ?_⟩
  induction h with
  | z => exact b.z
  | s _ ha ih =>
    obtain ⟨i, hi⟩ := List.getElem?_of_mem ih
    exact d i _ (List.getElem?_eq_some_iff.mp hi).1 hi _ ha
/-- closed under products, where P is kept -/
theorem ClA.mul {P : α → Prop} (as : ∀ x y z, P x → P y → P z → op (op x y) z = op x (op y z)) (i2 : ∀ x, P x → op x e = x) (hcl : ∀ x, ClA op e ms x → P x) (hm : ∀ a, a ∈ ms → P a) {x y : α} (h : ClA op e ms x) (h' : ClA op e ms y) : ClA op e ms (op x y) := by
  induction h' with
  | z => rw [i2 x (hcl x h)]; exact h
  | s hy ha ih =>
    rw [← as _ _ _ (hcl _ h) (hcl _ hy) (hm _ ha)]
    exact .s ih ha
theorem ClA.keep {P : α → Prop} (he : P e) (hm : ∀ a, a ∈ ms → P a) (cl : ∀ x y, P x → P y → P (op x y)) {x : α} (h : ClA op e ms x) : P x := by
  induction h with
  | z => exact he
  | s _ ha ih => exact cl _ _ ih (hm _ ha)
/-- a finite list closed under a product that may be shortened from the left: its table is a group's -/
theorem grp_idx [BEq α] [LawfulBEq α] {l : List α} (nd : l.Nodup) (h0 : l[0]? = some e) (cl : ∀ p q, p ∈ l → q ∈ l → op p q ∈ l) (i1 : ∀ p, p ∈ l → op e p = p) (i2 : ∀ p, p ∈ l → op p e = p)
    (can : ∀ p q q', p ∈ l → q ∈ l → q' ∈ l → op p q = op p q' → q = q') (as : ∀ x y z, x ∈ l → y ∈ l → z ∈ l → op (op x y) z = op x (op y z)) :
    Grp l.length (fun x y => (l.idxOf (op (l.getD x.toNat e) (l.getD y.toNat e)) : Nat)) := by
  classical
  have hl : 0 < l.length := (List.getElem?_eq_some_iff.mp h0).1
  have he : e ∈ l := List.mem_of_getElem? h0
  have g : ∀ x, Rn l.length x → l.getD x.toNat e ∈ l ∧ l[x.toNat]? = some (l.getD x.toNat e) := fun x hx => by
    have h : l[x.toNat]? = some (l.getD x.toNat e) := by
      rw [List.getD_eq_getElem?_getD, List.getElem?_eq_getElem (by have := hx.1; have := hx.2; omega)]
      rfl
    exact ⟨List.mem_of_getElem? h, h⟩
  have gi : ∀ p, p ∈ l → l.getD ((l.idxOf p : Nat) : Int).toNat e = p := fun p hp => by
    have h := List.idxOf_lt_length_of_mem hp
    rw [Int.toNat_natCast, List.getD_eq_getElem?_getD, List.getElem?_eq_getElem h, List.getElem_idxOf h]
    rfl
  have ig : ∀ x, Rn l.length x → (l.idxOf (l.getD x.toNat e) : Int) = x := fun x hx => by
    have h := (g x hx).2
    obtain ⟨h1, h2⟩ := List.getElem?_eq_some_iff.mp h
    rw [← h2, nd.idxOf_getElem]
    have := hx.1
    omega
  have ri : ∀ p, p ∈ l → Rn l.length (l.idxOf p : Nat) := fun p hp => by
    have h := List.idxOf_lt_length_of_mem hp
    exact ⟨by omega, by omega⟩
  have g0 : l.getD (0 : Int).toNat e = e := by
    show l.getD 0 e = e
    rw [List.getD_eq_getElem?_getD, h0]
    rfl
  refine ⟨hl, fun {x y} hx hy => ri _ (cl _ _ (g x hx).1 (g y hy).1), fun {x} hx => ?_, fun {x} hx => ?_, fun {x} hx => ?_, fun {x y z} hx hy hz => ?_⟩
  · rw [g0, i1 _ (g x hx).1, ig x hx]
  · rw [g0, i2 _ (g x hx).1, ig x hx]
  · have hx' := (g x hx).1
    generalize l.getD x.toNat e = p at *
    have : (l.map (op p)).Nodup := by
      have : l.Pairwise fun a b => a ∈ l ∧ b ∈ l ∧ a ≠ b := List.Pairwise.imp_of_mem (fun {a b} ha hb hab => ⟨ha, hb, hab⟩) nd
      exact List.Pairwise.map _ (fun a b h e' => h.2.2 (can p a b hx' h.1 h.2.1 e')) this
    have full := nodup_full this (m := l) (fun y hy => by
      rw [List.mem_map] at hy
      obtain ⟨q, hq, rfl⟩ := hy
      exact cl _ _ hx' hq) (by rw [List.length_map]; exact Nat.le_refl _) e he
    rw [List.mem_map] at full
    obtain ⟨q, hq, eq⟩ := full
    refine ⟨(l.idxOf q : Nat), ri q hq, ?_⟩
    rw [gi q hq, eq, ← g0, ig 0 ⟨by omega, by omega⟩]
  · have hx' := (g x hx).1
    have hy' := (g y hy).1
    have hz' := (g z hz).1
    show ((l.idxOf (op (l.getD ((l.idxOf (op (l.getD x.toNat e) (l.getD y.toNat e)) : Nat) : Int).toNat e) (l.getD z.toNat e)) : Nat) : Int) = (l.idxOf (op (l.getD x.toNat e) (l.getD ((l.idxOf (op (l.getD y.toNat e) (l.getD z.toNat e)) : Nat) : Int).toNat e)) : Nat)
    rw [gi _ (cl _ _ hx' hy'), gi _ (cl _ _ hy' hz'), as _ _ _ hx' hy' hz']
end
theorem erase_perm {α : Type} : ∀ (l : List α) (k : Nat) (h : k < l.length), (l[k] :: l.eraseIdx k).Perm l
  | a :: l, 0, _ => List.Perm.refl _
  | a :: l, k + 1, h => by
    have ih := erase_perm l k (by simpa using h)
    simp only [List.getElem_cons_succ, List.eraseIdx_cons_succ]
    exact (List.Perm.swap a _ _).trans (ih.cons a)
/-! ### renaming -/
theorem inj_surj {n : Nat} {σ : Int → Int} (hσ : ∀ x, Rn n x → Rn n (σ x)) (inj : ∀ x y, Rn n x → Rn n y → σ x = σ y → x = y) {y : Int} (hy : Rn n y) : ∃ x, Rn n x ∧ σ x = y := by
  have nd : ((els n).map σ).Nodup := by
    have : (els n).Pairwise fun a b => a ∈ els n ∧ b ∈ els n ∧ a ≠ b := List.Pairwise.imp_of_mem (fun {a b} ha hb hab => ⟨ha, hb, hab⟩) (els_nodup n)
    exact List.Pairwise.map _ (fun a b h e' => h.2.2 (inj a b (mem_els.mp h.1) (mem_els.mp h.2.1) e')) this
  have := nodup_full nd (m := els n) (fun z hz => by
    rw [List.mem_map] at hz
    obtain ⟨x, hx, rfl⟩ := hz
    exact mem_els.mpr (hσ x (mem_els.mp hx))) (by rw [List.length_map]; exact Nat.le_refl _) y (mem_els.mpr hy)
  rw [List.mem_map] at this
  obtain ⟨x, hx, e⟩ := this
  exact ⟨x, mem_els.mp hx, e⟩
theorem Grp.rename {n : Nat} {m m' : Int → Int → Int} (g : Grp n m) {σ : Int → Int} (hσ : ∀ x, Rn n x → Rn n (σ x)) (inj : ∀ x y, Rn n x → Rn n y → σ x = σ y → x = y) (s0 : σ 0 = 0)
    (h : ∀ x y, Rn n x → Rn n y → m' (σ x) (σ y) = σ (m x y)) : Grp n m' := by
  have su : ∀ y, Rn n y → ∃ x, Rn n x ∧ σ x = y := fun y hy => inj_surj hσ inj hy
  refine ⟨g.pos, fun {x y} hx hy => ?_, fun {x} hx => ?_, fun {x} hx => ?_, fun {x} hx => ?_, fun {x y z} hx hy hz => ?_⟩
  · obtain ⟨a, ha, rfl⟩ := su x hx
    obtain ⟨b, hb, rfl⟩ := su y hy
    rw [h a b ha hb]
    exact hσ _ (g.cl ha hb)
  · obtain ⟨a, ha, rfl⟩ := su x hx
    have := h 0 a g.r0 ha
    rw [s0, g.i1 ha] at this
    exact this
  · obtain ⟨a, ha, rfl⟩ := su x hx
    have := h a 0 ha g.r0
    rw [s0, g.i2 ha] at this
    exact this
  · obtain ⟨a, ha, rfl⟩ := su x hx
    obtain ⟨b, hb, e⟩ := g.iv ha
    exact ⟨σ b, hσ b hb, by rw [h a b ha hb, e, s0]⟩
  · obtain ⟨a, ha, rfl⟩ := su x hx
    obtain ⟨b, hb, rfl⟩ := su y hy
    obtain ⟨c, hc, rfl⟩ := su z hz
    rw [h a b ha hb, h _ c (g.cl ha hb) hc, h b c hb hc, h a _ ha (g.cl hb hc), g.as ha hb hc]
/-! ### permutations of n points as lists -/
structure PN (n : Nat) (p : List Int) : Prop where
  len : p.length = n
  rg : ∀ v, v ∈ p → Rn n v
  nd : p.Nodup
def pa (p : List Int) (i : Int) : Int := p.getD i.toNat 0
def comp (p q : List Int) : List Int := p.map (pa q)
section
variable {n : Nat} {p q r : List Int}
theorem PN.get (h : PN n p) {i : Int} (hi : Rn n i) : p[i.toNat]? = some (pa p i) := by
  unfold pa
  rw [List.getD_eq_getElem?_getD, List.getElem?_eq_getElem (by have := hi.1; have := hi.2; have := h.len; omega)]
  rfl
theorem PN.rn (h : PN n p) {i : Int} (hi : Rn n i) : Rn n (pa p i) := h.rg _ (List.mem_of_getElem? (h.get hi))
theorem PN.inj (h : PN n p) {i j : Int} (hi : Rn n i) (hj : Rn n j) (e : pa p i = pa p j) : i = j := by
  have h1 := h.get hi
  have h2 := h.get hj
  rw [e] at h1
  obtain ⟨a1, a2⟩ := List.getElem?_eq_some_iff.mp h1
  obtain ⟨b1, b2⟩ := List.getElem?_eq_some_iff.mp h2
  have k1 := h.nd.idxOf_getElem _ a1
  have k2 := h.nd.idxOf_getElem _ b1
  rw [a2] at k1
  rw [b2] at k2
  have := hi.1
  have := hj.1
  omega
theorem PN.surj (h : PN n p) {j : Int} (hj : Rn n j) : ∃ i, Rn n i ∧ pa p i = j := inj_surj (fun _ hi => h.rn hi) (fun _ _ hi hj e => h.inj hi hj e) hj
theorem PN.eq (h : PN n p) (h' : PN n q) (e : ∀ i, Rn n i → pa p i = pa q i) : p = q := by
  apply List.ext_getElem?
  intro i
  by_cases hi : i < n
  · have hr : Rn n (i : Int) := ⟨by omega, by omega⟩
    have h1 := h.get hr
    have h2 := h'.get hr
    rw [Int.toNat_natCast] at h1 h2
    rw [h1, h2, e _ hr]
  · rw [List.getElem?_eq_none (by rw [h.len]; omega), List.getElem?_eq_none (by rw [h'.len]; omega)]
theorem comp_pa (h : PN n p) {i : Int} (hi : Rn n i) : pa (comp p q) i = pa q (pa p i) := by
  have h1 := h.get hi
  have : (comp p q)[i.toNat]? = some (pa q (pa p i)) := by
    unfold comp
    rw [List.getElem?_map, h1]
    rfl
  show (comp p q).getD i.toNat 0 = _
  rw [List.getD_eq_getElem?_getD, this]
  rfl
theorem comp_PN (h : PN n p) (h' : PN n q) : PN n (comp p q) := ⟨by unfold comp; rw [List.length_map, h.len], fun v hv => by
  unfold comp at hv
  rw [List.mem_map] at hv
  obtain ⟨i, hi, rfl⟩ := hv
  exact h'.rn (h.rg i hi), by
  have : p.Pairwise fun a b => a ∈ p ∧ b ∈ p ∧ a ≠ b := List.Pairwise.imp_of_mem (fun {a b} ha hb hab => ⟨ha, hb, hab⟩) h.nd
  exact List.Pairwise.map _ (fun a b z e => z.2.2 (h'.inj (h.rg a z.1) (h.rg b z.2.1) e)) this⟩
theorem els_PN (n : Nat) : PN n (els n) := ⟨els_length n, fun v hv => mem_els.mp hv, els_nodup n⟩
theorem els_get' {n i : Nat} (h : i < n) : (els n)[i]? = some (i : Int) := by
  unfold els
  rw [List.getElem?_map, List.getElem?_range h]
  rfl
theorem els_pa {i : Int} (hi : Rn n i) : pa (els n) i = i := by
  have := (els_PN n).get hi
  rw [els_get' (by have := hi.1; have := hi.2; omega)] at this
  have := Option.some.inj this
  have := hi.1
  omega
theorem comp_as (h : PN n p) (h' : PN n q) (h'' : PN n r) : comp (comp p q) r = comp p (comp q r) :=
  (comp_PN (comp_PN h h') h'').eq (comp_PN h (comp_PN h' h'')) fun i hi => by rw [comp_pa (comp_PN h h') hi, comp_pa h hi, comp_pa h hi, comp_pa h' (h.rn hi)]
theorem comp_i1 (h : PN n p) : comp (els n) p = p := (comp_PN (els_PN n) h).eq h fun i hi => by rw [comp_pa (els_PN n) hi, els_pa hi]
theorem comp_i2 (h : PN n p) : comp p (els n) = p := (comp_PN h (els_PN n)).eq h fun i hi => by rw [comp_pa h hi, els_pa (h.rn hi)]
theorem comp_can (h : PN n p) (h' : PN n q) (h'' : PN n r) (e : comp p q = comp p r) : q = r := h'.eq h'' fun i hi => by
  obtain ⟨j, hj, rfl⟩ := h.surj hi
  rw [← comp_pa h hj, ← comp_pa h hj, e]
end
def perms4 : List (List Int) := [[0, 1, 2, 3], [0, 1, 3, 2], [0, 2, 1, 3], [0, 2, 3, 1], [0, 3, 1, 2], [0, 3, 2, 1], [1, 0, 2, 3], [1, 0, 3, 2], [1, 2, 0, 3], [1, 2, 3, 0], [1, 3, 0, 2], [1, 3, 2, 0], [2, 0, 1, 3], [2, 0, 3, 1], [2, 1, 0, 3], [2, 1, 3, 0], [2, 3, 0, 1], [2, 3, 1, 0], [3, 0, 1, 2], [3, 0, 2, 1], [3, 1, 0, 2], [3, 1, 2, 0], [3, 2, 0, 1], [3, 2, 1, 0]]
theorem mem_perms4 {p : List Int} (h : PN 4 p) : p ∈ perms4 := by
  obtain ⟨hl, hr, hn⟩ := h
  match p, hl with
  | [a, b, c, d], _ =>
    have key : ∀ a, a ∈ [(0 : Int), 1, 2, 3] → ∀ b, b ∈ [(0 : Int), 1, 2, 3] → ∀ c, c ∈ [(0 : Int), 1, 2, 3] → ∀ d, d ∈ [(0 : Int), 1, 2, 3] → [a, b, c, d].Nodup → [a, b, c, d] ∈ perms4 := by decide +kernel
    have f : ∀ v, v ∈ [a, b, c, d] → v ∈ [(0 : Int), 1, 2, 3] := fun v hv => by
      obtain ⟨h1, h2⟩ := hr v hv
      simp only [List.mem_cons, List.not_mem_nil, or_false]
      omega
    exact key a (f a (by simp)) b (f b (by simp)) c (f c (by simp)) d (f d (by simp)) hn
end Z

namespace Z
open PySem PySem.Spec PyProof.Rows L2
section
variable {ε : Type} {E : ε → Prop}
/-! ### tables -/
def row (t : List (List Int)) (x : Int) : List Int := t.getD x.toNat []
def ent (t : List (List Int)) (x y : Int) : Int := (row t x).getD y.toNat 0
structure Sq (t : List (List Int)) : Prop where
  len : ∀ r, r ∈ t → r.length = t.length
  rg : ∀ r, r ∈ t → ∀ e, e ∈ r → 0 ≤ e ∧ e < t.length
theorem row_get {t : List (List Int)} {x : Int} (h0 : 0 ≤ x) (h : x < t.length) : t[x.toNat]? = some (row t x) := by
  have hl : x.toNat < t.length := by omega
  unfold row
  rw [List.getD_eq_getElem?_getD, List.getElem?_eq_getElem hl]
  rfl
theorem row_of {t : List (List Int)} {i : Nat} {r : List Int} (h : t[i]? = some r) : row t (i : Int) = r := by
  unfold row
  rw [List.getD_eq_getElem?_getD, Int.toNat_natCast, h]
  rfl
theorem row_mem {t : List (List Int)} {x : Int} (h0 : 0 ≤ x) (h : x < t.length) : row t x ∈ t := List.mem_of_getElem? (row_get h0 h)
theorem ent_get {t : List (List Int)} {x y : Int} (h0 : 0 ≤ y) (h : y < (row t x).length) : (row t x)[y.toNat]? = some (ent t x y) := by
  have hl : y.toNat < (row t x).length := by omega
  unfold ent
  rw [List.getD_eq_getElem?_getD, List.getElem?_eq_getElem hl]
  rfl
theorem Sq.rlen {t : List (List Int)} (s : Sq t) {x : Int} (h : Rn t.length x) : (row t x).length = t.length := s.len _ (row_mem h.1 h.2)
theorem Sq.erg {t : List (List Int)} (s : Sq t) {x y : Int} (hx : Rn t.length x) (hy : Rn t.length y) : Rn t.length (ent t x y) := by
  have hl := s.rlen hx
  exact s.rg _ (row_mem hx.1 hx.2) _ (List.mem_of_getElem? (ent_get hy.1 (by rw [hl]; exact hy.2)))
theorem ix_row {t : List (List Int)} {x : Int} {Q : List Int → Prop} (h : Rn t.length x) (q : Q (row t x)) : ix t x Q E := ix_M h.1 (row_get h.1 h.2) q
theorem ix_ent {t : List (List Int)} {x y : Int} {Q : Int → Prop} (h0 : 0 ≤ y) (h : y < (row t x).length) (q : Q (ent t x y)) : ix (row t x) y Q E := ix_M h0 (ent_get h0 h) q
theorem Sq.ix1 {t : List (List Int)} (s : Sq t) {x y : Int} {Q : Int → Prop} (hx : Rn t.length x) (hy : Rn t.length y) (q : Q (ent t x y)) : ix (row t x) y Q E := ix_ent hy.1 (by rw [s.rlen hx]; exact hy.2) q
theorem Sq.ix2 {t : List (List Int)} (s : Sq t) {x y : Int} {Q : Int → Prop} (hx : Rn t.length x) (hy : Rn t.length y) (q : Q (ent t x y)) : ix t x (fun r => ix r y Q E) E :=
  ix_row hx (s.ix1 hx hy q)
theorem rgs_els (n : Nat) : rgs 0 (n : Int) = els n := by
  unfold rgs els
  rw [show ((n : Int) - 0).toNat = n by omega]
  exact List.map_congr_left fun a _ => by omega
theorem els_get {n i : Nat} (h : i < n) : (els n)[i]? = some (i : Int) := by
  unfold els
  rw [List.getElem?_map, List.getElem?_range h]
  rfl
/-- a row as its entries -/
theorem row_eq {t : List (List Int)} (s : Sq t) {x : Int} (hx : Rn t.length x) : row t x = (els t.length).map (ent t x) := by
  apply List.ext_getElem?
  intro i
  have hl := s.rlen hx
  by_cases hi : i < t.length
  · have h1 := ent_get (t := t) (x := x) (y := (i : Int)) (by omega) (by rw [hl]; omega)
    rw [List.getElem?_map, els_get hi]
    simpa using h1
  · rw [List.getElem?_eq_none (by omega), List.getElem?_eq_none (by rw [List.length_map, els_length]; omega)]
theorem tab_eq {t : List (List Int)} (s : Sq t) : t = (els t.length).map fun x => (els t.length).map (ent t x) := by
  apply List.ext_getElem?
  intro i
  by_cases hi : i < t.length
  · have h := row_get (t := t) (x := (i : Int)) (by omega) (by omega)
    rw [Int.toNat_natCast, row_eq s (x := (i : Int)) ⟨by omega, by omega⟩] at h
    rw [h, List.getElem?_map, els_get hi]
    rfl
  · rw [List.getElem?_eq_none (by omega), List.getElem?_eq_none (by rw [List.length_map, els_length]; omega)]
/-- a table made of its entries -/
def tab (n : Nat) (m : Int → Int → Int) : List (List Int) := (els n).map fun x => (els n).map (m x)
theorem tab_len {n : Nat} {m : Int → Int → Int} : (tab n m).length = n := by
  unfold tab
  rw [List.length_map, els_length]
theorem tab_ent {n : Nat} {m : Int → Int → Int} {x y : Int} (hx : Rn n x) (hy : Rn n y) : ent (tab n m) x y = m x y := by
  have h1 : (tab n m)[x.toNat]? = some ((els n).map (m x)) := by
    unfold tab
    rw [List.getElem?_map, els_get (by omega)]
    simp only [Option.map_some, Int.toNat_of_nonneg hx.1]
  have h2 : row (tab n m) x = (els n).map (m x) := by
    unfold row
    rw [List.getD_eq_getElem?_getD, h1]
    rfl
  unfold ent
  rw [h2, List.getD_eq_getElem?_getD, List.getElem?_map, els_get (by omega)]
  simp only [Option.map_some, Int.toNat_of_nonneg hy.1, Option.getD_some]
theorem tab_sq {n : Nat} {m : Int → Int → Int} (h : ∀ {x y}, Rn n x → Rn n y → Rn n (m x y)) : Sq (tab n m) := by
  refine ⟨fun r hr => ?_, fun r hr e he => ?_⟩
  · rw [tab_len]
    unfold tab at hr
    rw [List.mem_map] at hr
    obtain ⟨x, _, rfl⟩ := hr
    rw [List.length_map, els_length]
  · rw [tab_len]
    unfold tab at hr
    rw [List.mem_map] at hr
    obtain ⟨x, hx, rfl⟩ := hr
    rw [List.mem_map] at he
    obtain ⟨y, hy, rfl⟩ := he
    exact h (mem_els.mp hx) (mem_els.mp hy)
/-- a group's table -/
structure Vt (t : List (List Int)) : Prop where
  sq : Sq t
  g : Grp t.length (ent t)
theorem Grp.congr {n : Nat} {m m' : Int → Int → Int} (g : Grp n m) (h : ∀ {x y}, Rn n x → Rn n y → m' x y = m x y) : Grp n m' where
  pos := g.pos
  cl := fun hx hy => by rw [h hx hy]; exact g.cl hx hy
  i1 := fun hx => by rw [h g.r0 hx]; exact g.i1 hx
  i2 := fun hx => by rw [h hx g.r0]; exact g.i2 hx
  iv := fun hx => by
    obtain ⟨y, hy, e⟩ := g.iv hx
    exact ⟨y, hy, by rw [h hx hy]; exact e⟩
  as := fun hx hy hz => by rw [h hx hy, h (g.cl hx hy) hz, h hy hz, h hx (g.cl hy hz)]; exact g.as hx hy hz
theorem vt_tab {n : Nat} {m : Int → Int → Int} (g : Grp n m) : Vt (tab n m) := ⟨tab_sq g.cl, by rw [tab_len]; exact g.congr fun hx hy => tab_ent hx hy⟩
def IdT (t : List (List Int)) : Prop := ∀ x : Int, Rn t.length x → ent t 0 x = x ∧ ent t x 0 = x
def AsT (t : List (List Int)) : Prop := ∀ x y z : Int, Rn t.length x → Rn t.length y → Rn t.length z → ent t (ent t x y) z = ent t x (ent t y z)
def InT (t : List (List Int)) : Prop := ∀ r, r ∈ t → (0 : Int) ∈ r
theorem vt_of {t : List (List Int)} (sq : Sq t) (hp : 0 < t.length) (id : IdT t) (inv : InT t) (as : AsT t) : Vt t := ⟨sq, hp, fun hx hy => sq.erg hx hy, fun hx => (id _ hx).1, fun hx => (id _ hx).2, fun {x} hx => by
  have h := inv _ (row_mem hx.1 hx.2)
  rw [row_eq sq hx, List.mem_map] at h
  obtain ⟨y, hy, e⟩ := h
  exact ⟨y, mem_els.mp hy, e⟩, fun hx hy hz => as _ _ _ hx hy hz⟩
theorem Vt.id {t : List (List Int)} (v : Vt t) : IdT t := fun _ hx => ⟨v.g.i1 hx, v.g.i2 hx⟩
theorem Vt.as {t : List (List Int)} (v : Vt t) : AsT t := fun _ _ _ hx hy hz => v.g.as hx hy hz
theorem Vt.pos {t : List (List Int)} (v : Vt t) : 0 < t.length := v.g.pos
theorem Vt.inv {t : List (List Int)} (v : Vt t) : InT t := fun r hr => by
  obtain ⟨i, hi⟩ := List.getElem?_of_mem hr
  have hlt := (List.getElem?_eq_some_iff.mp hi).1
  have hx : Rn t.length (i : Int) := ⟨by omega, by omega⟩
  rw [← row_of hi, row_eq v.sq hx, List.mem_map]
  obtain ⟨y, hy, e⟩ := v.g.iv hx
  exact ⟨y, mem_els.mpr hy, e⟩
theorem sq_iff {t : List (List Int)} : Sq t ↔ ∀ r, r ∈ t → r.length = t.length ∧ ∀ e, e ∈ r → 0 ≤ e ∧ e < t.length := ⟨fun s r hr => ⟨s.len r hr, s.rg r hr⟩, fun h => ⟨fun r hr => (h r hr).1, fun r hr => (h r hr).2⟩⟩
/-- the inverse that the row tells -/
def ivt (t : List (List Int)) (x : Int) : Int := ((row t x).idxOf 0 : Nat)
theorem Vt.inv_spec {t : List (List Int)} (v : Vt t) {x : Int} (hx : Rn t.length x) : Rn t.length (ivt t x) ∧ ent t x (ivt t x) = 0 := by
  have hm := v.inv _ (row_mem hx.1 hx.2)
  have hl := List.idxOf_lt_length_of_mem hm
  have hr := v.sq.rlen hx
  refine ⟨⟨by unfold ivt; omega, by unfold ivt; omega⟩, ?_⟩
  have h1 := ent_get (t := t) (x := x) (y := ivt t x) (by unfold ivt; omega) (by unfold ivt; omega)
  have h2 : (row t x)[(ivt t x).toNat]? = some 0 := by
    unfold ivt
    rw [Int.toNat_natCast, List.getElem?_eq_getElem hl, List.getElem_idxOf hl]
  rw [h1] at h2
  exact Option.some.inj h2
end
theorem ml_s {ε : Type} {E : ε → Prop} {a b : Int} {Q : Int → Prop} (ha : a.natAbs < 2 ^ 64) (hb : b.natAbs < 2 ^ 64) (h : Q (a * b)) : ml (ε := ε) a b Q E := ml_M 64 64 (by decide) (by decide) (by decide) ha hb h
theorem dv_s {ε : Type} {E : ε → Prop} {a b : Int} {Q : Int → Prop} (hb : 0 < b) (hl : b < 2 ^ 1000) (h : Q (a / b)) : dv (ε := ε) a b Q E := dv_M hb (by
  have := log2_lt (n := b.natAbs) (k := 1000) (by decide) (by omega)
  omega) h
/-! ### closure, step by step -/
structure Bf (m : Int → Int → Int) (ms r : List Int) : Prop where
  nd : r.Nodup
  cl : ∀ x, x ∈ r → Cl m ms x
  z : (0 : Int) ∈ r
def Dn (m : Int → Int → Int) (ms r : List Int) (k : Nat) : Prop := ∀ i x, i < k → r[i]? = some x → ∀ a, a ∈ ms → m x a ∈ r
theorem Bf.start {m : Int → Int → Int} {ms : List Int} : Bf m ms [0] := ⟨by simp, fun x hx => by
  rw [List.mem_singleton] at hx
  rw [hx]
  exact .z, by simp⟩
theorem Bf.add {m : Int → Int → Int} {ms r : List Int} {x a : Int} (b : Bf m ms r) (hx : x ∈ r) (ha : a ∈ ms) (hn : m x a ∉ r) : Bf m ms (r ++ [m x a]) := ⟨by
  rw [List.nodup_append]
  exact ⟨b.nd, by simp, fun y hy z hz => by
    rw [List.mem_singleton] at hz
    rintro rfl
    exact hn (hz ▸ hy)⟩, fun y hy => by
  rcases List.mem_append.mp hy with hy | hy
  · exact b.cl y hy
  · rw [List.mem_singleton] at hy
    rw [hy]
    exact .s (b.cl x hx) ha, List.mem_append.mpr (.inl b.z)⟩
theorem Dn.app {m : Int → Int → Int} {ms r e : List Int} {k : Nat} (h : Dn m ms r k) (hk : k ≤ r.length) : Dn m ms (r ++ e) k := fun i x hi hx a ha => by
  rw [List.getElem?_append_left (by omega)] at hx
  exact List.mem_append.mpr (.inl (h i x hi hx a ha))
theorem Bf.done {m : Int → Int → Int} {ms r : List Int} (b : Bf m ms r) (d : Dn m ms r r.length) (x : Int) : x ∈ r ↔ Cl m ms x := by
  refine ⟨b.cl x, fun h => ?_⟩
  induction h with
  | z => exact b.z
  | s _ ha ih =>
    obtain ⟨i, hi⟩ := List.getElem?_of_mem ih
    exact d i _ (List.getElem?_eq_some_iff.mp hi).1 hi _ ha
theorem Bf.len {n : Nat} {m : Int → Int → Int} {ms r : List Int} (b : Bf m ms r) (g : Grp n m) (hm : ∀ a, a ∈ ms → Rn n a) : r.length ≤ n := by
  have := nodup_le b.nd (m := els n) fun x hx => mem_els.mpr ((b.cl x hx).r g hm)
  rw [els_length] at this
  exact this
/-- a search: the first bad one raises -/
theorem forS_all {ε α : Type} {E : ε → Prop} {xs : List α} {body : α → Unit → M ε Unit} {Q : Unit → Prop} {B : Prop} (p : α → Prop) (hs : ∀ x, x ∈ xs → ∀ T : Unit → Prop, (p x → T ()) → (¬ p x → B) → body x () T E)
    (h1 : (∀ x, x ∈ xs → p x) → Q ()) (h2 : (∃ x, x ∈ xs ∧ ¬ p x) → B) : forS xs () body Q E := by
  induction xs with
  | nil => exact h1 fun x hx => by cases hx
  | cons x xs ih =>
    refine hs x List.mem_cons_self _ (fun hp => ?_) fun hp => h2 ⟨x, List.mem_cons_self, hp⟩
    refine ih (fun y hy => hs y (List.mem_cons_of_mem _ hy)) (fun hall => h1 fun y hy => ?_) fun ⟨y, hy, hn⟩ => h2 ⟨y, List.mem_cons_of_mem _ hy, hn⟩
    rcases List.mem_cons.mp hy with rfl | hy
    · exact hp
    · exact hall y hy
theorem srt_M {ε : Type} {E : ε → Prop} {xs : List Int} {Q : List Int → Prop} {p : Int → Prop} (hn : xs.Nodup) (hm : ∀ x, x ∈ xs ↔ p x) (h : ∀ r, IsSet r p → Q r) : srtI xs Q E := fun ys h1 h2 => h ys (.of_perm h1 h2 hn hm)
end Z

namespace Z
open PySem PySem.Spec PyProof.Rows L2
open PySem.W (Datum DatumOrd listLt)
section
variable {ε : Type} {E : ε → Prop}
theorem toD_inj {α : Type} [DecidableEq α] [Datum α] {a b : α} (h : Datum.toD a = Datum.toD b) : a = b := by
  have h1 := Datum.eqv a b
  rw [← h, Datum.eqv a a, decide_eq_true rfl] at h1
  exact of_decide_eq_true h1.symm
theorem perm_of_map {α β : Type} {f : α → β} (hf : ∀ a b, f a = f b → a = b) {xs ys : List α} (h : (ys.map f).Perm (xs.map f)) : ys.Perm xs := by
  classical
  cases xs with
  | nil =>
    have := h.length_eq
    rw [List.length_map, List.length_map, List.length_nil] at this
    rw [List.length_eq_zero_iff.mp this]
  | cons a xs =>
    let g : β → α := fun d => if hd : ∃ x, f x = d then Classical.choose hd else a
    have hg : ∀ x, g (f x) = x := fun x => by
      have hd : ∃ y, f y = f x := ⟨x, rfl⟩
      show (if hd : ∃ y, f y = f x then Classical.choose hd else a) = x
      rw [dif_pos hd]
      exact hf _ _ (Classical.choose_spec hd)
    have h2 := h.map g
    rw [List.map_map, List.map_map, show g ∘ f = id from funext hg, List.map_id, List.map_id] at h2
    exact h2
/-- sorted, where the order is a Lean one -/
theorem srtD_M {α : Type} [DecidableEq α] [DatumOrd α] {enc : α → PyData} (he : enc = Datum.toD) (hs : ∀ a : α, (Datum.toD a) ≠ .none ∧ ∀ xs, (Datum.toD a) ≠ .tuple xs) {xs : List α} {Q : List α → Prop} (h : ∀ ys : List α, ys.Perm xs → ys.Pairwise (fun a b => DatumOrd.lt b a = false) → Q ys) : srtE enc xs Q E := by
  subst he
  refine ⟨⟨PySem.W.AllAlike.of DatumOrd.alike, .inr fun d hd => ?_⟩, fun ys h1 h2 => h ys (perm_of_map (fun _ _ => toD_inj) h1) (h2.imp fun {a b} z => by rw [← DatumOrd.lt_eq]; exact z)⟩
  obtain ⟨a, _, rfl⟩ := List.mem_map.mp hd
  exact hs a
theorem srtLL_M {xs : List (List Int)} {Q : List (List Int) → Prop} (h : ∀ ys : List (List Int), ys.Perm xs → ys.Pairwise (fun a b => listLt b a = false) → Q ys) : srtE (fun l => PyData.list (List.map PyData.int l)) xs Q E :=
  srtD_M (α := List Int) rfl (fun a => ⟨(fun e => by cases e), (fun xs e => by cases e)⟩) h
end
end Z

namespace K00
open PySem PySem.Spec PyProof.Rows L2 Z
inductive Ek | InvalidElement | InvalidGroup | LimitExceeded
deriving DecidableEq
def sub_InvalidElement : Ek → Bool
  | .InvalidElement => true
  | .InvalidGroup => false
  | .LimitExceeded => false
def sub_InvalidGroup : Ek → Bool
  | .InvalidElement => false
  | .InvalidGroup => true
  | .LimitExceeded => false
def sub_LimitExceeded : Ek → Bool
  | .InvalidElement => false
  | .InvalidGroup => false
  | .LimitExceeded => true
def sub_StepError : Ek → Bool
  | .InvalidElement => true
  | .InvalidGroup => true
  | .LimitExceeded => true
def sub_ValueError : Ek → Bool
  | .InvalidElement => true
  | .InvalidGroup => true
  | .LimitExceeded => true
structure C_Group where
  f_order : Int
  f_rows : (List (List Int))
  f_inverses : (List Int)
deriving DecidableEq
@[irreducible] def Mi.has_identity (table : (List (List Int))) : M Empty Bool :=
 (bd (ret ((table).length : Int)) fun size =>
 (bd (ret table) fun l41 => (bd (forC l41 () (fun row _ =>
 (bd (ret (!decide (((row).length : Int) = size))) fun b12 => if b12 = true then
 (bd (ret false) fun d => ret (.rt d))
 else
 (bd (ret row) fun l24 => (bd (forC l24 () (fun entry _ =>
 (bd (bd (bd (ret (0 : Int)) fun a => bd (ret entry) fun b => if decide (a ≤ b) = true then bd (ret size) fun c => ret (decide (b < c)) else ret false) fun x19 => (ret (!x19))) fun b23 => if b23 = true then
 (bd (ret false) fun d => ret (.rt d))
 else
 (ret (.nx ()))))) (onC (fun _ =>
 (ret (.nx ()))) (fun d => ret (.rt d)))))))) (onC (fun _ =>
 (bd (rng 0 size) fun l40 => (bd (forC l40 () (fun x _ =>
 (bd (bd (bd (bd (ix table (0 : Int)) fun x31 => (ix x31 x)) fun x32 => (ret (!decide (x32 = x)))) fun b35 => if b35 = true then ret true else (bd (bd (ix table x) fun x33 => (ix x33 (0 : Int))) fun x34 => (ret (!decide (x34 = x))))) fun b39 => if b39 = true then
 (bd (ret false) fun d => ret (.rt d))
 else
 (ret (.nx ()))))) (onC (fun _ =>
 (ret (decide ((0 : Int) < size)))) (fun d => ret d))))) (fun d => ret d)))))

@[irreducible] def Mi.is_associative (table : (List (List Int))) : M Empty Bool :=
 (bd (ret table) fun l25 => (bd (forC l25 () (fun row _ =>
 (bd (rng 0 ((table).length : Int)) fun l24 => (bd (forC l24 () (fun y _ =>
 (bd (bd (bd (ix table y) fun l16 => bd (lim (l16).length) fun _ => mapM' (fun z_13 => (ix row z_13)) l16) fun x18 => (bd (bd (ix row y) fun x17 => (ix table x17)) fun x19 => (ret (!decide (x18 = x19))))) fun b23 => if b23 = true then
 (bd (ret false) fun d => ret (.rt d))
 else
 (ret (.nx ()))))) (onC (fun _ =>
 (ret (.nx ()))) (fun d => ret (.rt d))))))) (onC (fun _ =>
 (ret true)) (fun d => ret d))))

@[irreducible] def Mi.Group___init__ (table : (List (List Int))) : M Ek C_Group :=
 (bd (ret (decide ((32 : Int) < ((table).length : Int)))) fun b4 => if b4 = true then
 (thr .LimitExceeded)
 else
 (bd (bd (lft (Mi.has_identity table)) fun x5 => (ret (!x5))) fun b9 => if b9 = true then
 (thr .InvalidGroup)
 else
 (bd (ret table) fun l39 => (bd (forS l39 () (fun row _ =>
 (bd (ret (!memD (0 : Int) row)) fun b19 => if b19 = true then
 (thr .InvalidGroup)
 else
 (ret ())))) (fun _ =>
 (bd (bd (lft (Mi.is_associative table)) fun x20 => (ret (!x20))) fun b24 => if b24 = true then
 (thr .InvalidGroup)
 else
 (bd (ret ((table).length : Int)) fun d_order =>
 (bd (bd (ret table) fun l30 => bd (lim (l30).length) fun _ => mapM' (fun row_27 => (ret row_27)) l30) fun d_rows =>
 (bd (bd (ret table) fun l36 => bd (lim (l36).length) fun _ => mapM' (fun row_33 => (idx row_33 (0 : Int))) l36) fun d_inverses =>
 (ret (C_Group.mk d_order d_rows d_inverses)))))))))))

@[irreducible] def Mi.Group___eq__ (self : C_Group) (other : C_Group) : M Empty Bool :=
 (bd (ret true) fun b1 => if b1 = true then (ret (decide ((self).f_rows = (other).f_rows))) else ret false)

@[irreducible] def Mi.Group_check (self : C_Group) (element : Int) : M Ek Unit :=
 (bd (bd (bd (ret (0 : Int)) fun a => bd (ret element) fun b => if decide (a ≤ b) = true then bd (ret (self).f_order) fun c => ret (decide (b < c)) else ret false) fun x1 => (ret (!x1))) fun b5 => if b5 = true then
 (thr .InvalidElement)
 else
 (ret ()))

@[irreducible] def Mi.Group_multiply (self : C_Group) (left : Int) (right : Int) : M Ek Int :=
 (bd (Mi.Group_check self left) fun _ =>
 (bd (Mi.Group_check self right) fun _ =>
 (bd (ix (self).f_rows left) fun x5 => (ix x5 right))))

@[irreducible] def Mi.Group_inverse (self : C_Group) (element : Int) : M Ek Int :=
 (bd (Mi.Group_check self element) fun _ =>
 (ix (self).f_inverses element))

@[irreducible] def Mi.Group_order_of (self : C_Group) (element : Int) : M Ek Int :=
 (bd (Mi.Group_check self element) fun _ =>
 (bd (ret (1 : Int)) fun exponent =>
 (bd (ret element) fun current =>
 (bd (wh (fun (exponent, current) => (ret (!decide (current = (0 : Int))))) (fun (exponent, current) =>
 (bd (bd (ix (self).f_rows current) fun x12 => (ix x12 element)) fun current =>
 (bd (ret (exponent + (1 : Int))) fun exponent =>
 (ret (exponent, current))))) (exponent, current)) fun (exponent, current) =>
 (ret exponent)))))

@[irreducible] def Mi.Group_power (self : C_Group) (element : Int) (exponent : Int) : M Ek Int :=
 (bd (ret (0 : Int)) fun current =>
 (bd (bd (bd (Mi.Group_order_of self element) fun x3 => (md exponent x3)) fun x4 => (rng 0 x4)) fun l14 => (bd (forS l14 current (fun _ current =>
 (bd (bd (ix (self).f_rows current) fun x11 => (ix x11 element)) fun current =>
 (ret current)))) (fun current =>
 (ret current)))))

@[irreducible] def Mi.Group_generated (self : C_Group) (members : (List Int)) : M Ek (List Int) :=
 (bd (ret members) fun l56 => (bd (forS l56 () (fun element _ =>
 (bd (Mi.Group_check self element) fun _ =>
 (ret ())))) (fun _ =>
 (bd (ret [(0 : Int)]) fun reached =>
 (bd (bd (rng 0 (self).f_order) fun l16 => bd (lim (l16).length) fun _ => mapM' (fun place_13 => (ret (decide (place_13 = (0 : Int))))) l16) fun known =>
 (bd (ret (0 : Int)) fun at' =>
 (bd (wh (fun (reached, known, at') => (ret (decide (at' < ((reached).length : Int))))) (fun (reached, known, at') =>
 (bd (ret members) fun l55 => (bd (forS l55 (reached, known) (fun element (reached, known) =>
 (bd (bd (bd (ix reached at') fun x34 => (ix (self).f_rows x34)) fun x35 => (ix x35 element)) fun product =>
 (jn (bd (bd (ix known product) fun x38 => (ret (!x38))) fun b42 => if b42 = true then
 (bd (bd (ret true) fun x47 => bd (ret product) fun x48 => put known x48 x47) fun known =>
 (bd (bd (ret product) fun x51 => app reached x51) fun reached =>
 (ret (reached, known))))
 else
 (ret (reached, known))) (fun (reached, known) =>
 (ret (reached, known))))))) (fun (reached, known) =>
 (bd (ret (at' + (1 : Int))) fun at' =>
 (ret (reached, known, at'))))))) (reached, known, at')) fun (reached, known, at') =>
 (srtI reached))))))))

@[irreducible] def Mi.Group_generators (self : C_Group) : M Ek (List Int) :=
 (bd (ret []) fun found =>
 (bd (ret [(0 : Int)]) fun reached =>
 (bd (rng (1 : Int) (self).f_order) fun l25 => (bd (forS l25 (found, reached) (fun element (found, reached) =>
 (jn (bd (ret (!memD element reached)) fun b16 => if b16 = true then
 (bd (bd (ret element) fun x21 => app found x21) fun found =>
 (bd (Mi.Group_generated self found) fun reached =>
 (ret (found, reached))))
 else
 (ret (found, reached))) (fun (found, reached) =>
 (ret (found, reached)))))) (fun (found, reached) =>
 (ret found))))))

@[irreducible] def Mi.Group_is_commutative (self : C_Group) : M Empty Bool :=
 (bd (rng 0 (self).f_order) fun l22 => (bd (forC l22 () (fun x _ =>
 (bd (rng 0 x) fun l21 => (bd (forC l21 () (fun y _ =>
 (bd (bd (bd (ix (self).f_rows x) fun x13 => (ix x13 y)) fun x15 => (bd (bd (ix (self).f_rows y) fun x14 => (ix x14 x)) fun x16 => (ret (!decide (x15 = x16))))) fun b20 => if b20 = true then
 (bd (ret false) fun d => ret (.rt d))
 else
 (ret (.nx ()))))) (onC (fun _ =>
 (ret (.nx ()))) (fun d => ret (.rt d))))))) (onC (fun _ =>
 (ret true)) (fun d => ret d))))

@[irreducible] def Mi._law_bag (script : (List Int)) (k : Int) : M Empty Unit :=
 (bd (ret (0 : Int)) fun cell =>
 (jn (bd (ret (decide (k < ((script).length : Int)))) fun b6 => if b6 = true then
 (bd (ix script k) fun cell =>
 (ret cell))
 else
 (ret cell)) (fun cell =>
 (bd (bd (pw (10 : Int) (18 : Int)) fun x12 => (ret (decide (x12 ≤ (if cell < 0 then -cell else cell))))) fun b16 => if b16 = true then
 (bd (bd (md (if cell < 0 then -cell else cell) (2147483629 : Int)) fun x17 => (ret [(if cell < 0 then -cell else cell), x17])) fun l => bd (req (l.length = 2)) fun _ => ret ())
 else
 (bd (bd (bd (bd (ml cell (48271 : Int)) fun x18 => (bd (ml (907 : Int) (k + (1 : Int))) fun x19 => (ret (x18 + x19)))) fun x20 => (md x20 (2147483647 : Int))) fun x21 => (ret [(0 : Int), x21])) fun l => bd (req (l.length = 2)) fun _ => ret ())))))

def Mi._law_take (_ : Unit) (size : Int) : M Empty Int := fun Q _ => (0 < size ∧ size.natAbs.log2 < 9000) ∧ ∀ r : Int, 0 ≤ r → r < size → Q r

@[irreducible] def Mi._law_power (base : Int) (times : Int) (modulus : Int) : M Empty Int :=
 (bd (md (1 : Int) modulus) fun result =>
 (bd (rng 0 times) fun l12 => (bd (forS l12 result (fun step result =>
 (bd (bd (ml result base) fun x9 => (md x9 modulus)) fun result =>
 (ret result)))) (fun result =>
 (ret result)))))

@[irreducible] def Mi._law_metacyclic (bag : Unit) (limit : Int) : M Empty (List (List Int)) :=
 (bd (bd (lft (Mi._law_take () limit)) fun x1 => (ret ((1 : Int) + x1))) fun n =>
 (bd (bd (bd (dv limit n) fun x4 => (lft (Mi._law_take () x4))) fun x5 => (ret ((1 : Int) + x5))) fun m =>
 (jn (bd (bd (ret (decide ((5 : Int) < limit))) fun b9 => if b9 = true then (bd (lft (Mi._law_take () (2 : Int))) fun x8 => (ret (decide (x8 = (1 : Int))))) else ret false) fun b13 => if b13 = true then
 (bd (bd (bd (bd (dv limit (2 : Int)) fun x19 => (ret (x19 - (2 : Int)))) fun x20 => (lft (Mi._law_take () x20))) fun x21 => (ret ((3 : Int) + x21))) fun n =>
 (bd (ret (2 : Int)) fun m =>
 (ret (n, m))))
 else
 (ret (n, m))) (fun (n, m) =>
 (bd (bd (bd (bd (ml n m) fun x27 => (dv limit x27)) fun x28 => (lft (Mi._law_take () x28))) fun x29 => (ret ((1 : Int) + x29))) fun k =>
 (bd (ret []) fun pairs =>
 (bd (rng (1 : Int) (n + (1 : Int))) fun l165 => (bd (forS l165 pairs (fun r pairs =>
 (bd (rng 0 n) fun l63 => (bd (forS l63 pairs (fun s pairs =>
 (jn (bd (bd (bd (lft (Mi._law_power r m n)) fun x48 => (bd (md (1 : Int) n) fun x49 => (ret (decide (x48 = x49))))) fun b52 => if b52 = true then (bd (bd (ml (r - (1 : Int)) s) fun x50 => (md x50 n)) fun x51 => (ret (decide (x51 = (0 : Int))))) else ret false) fun b56 => if b56 = true then
 (bd (bd (ret (r, s)) fun x61 => app pairs x61) fun pairs =>
 (ret pairs))
 else
 (ret pairs)) (fun pairs =>
 (ret pairs))))) (fun pairs =>
 (ret pairs)))))) (fun pairs =>
 (bd (bd (ret pairs) fun l67 => bd (lim (l67).length) fun _ => mapIf (fun pair_64 => (ret (decide ((1 : Int) < (pair_64).1)))) (fun pair_64 => (ret pair_64)) l67) fun twisted =>
 (jn (bd (bd (ret (decide ((0 : Int) < ((twisted).length : Int)))) fun b80 => if b80 = true then (bd (lft (Mi._law_take () (4 : Int))) fun x79 => (ret (decide ((0 : Int) < x79)))) else ret false) fun b84 => if b84 = true then
 (bd (ret twisted) fun pairs =>
 (ret pairs))
 else
 (ret pairs)) (fun pairs =>
 (bd (bd (lft (Mi._law_take () ((pairs).length : Int))) fun x90 => (ix pairs x90)) fun pair =>
 (bd (ret []) fun table =>
 (bd (bd (bd (ml n m) fun x97 => (ml x97 k)) fun x98 => (rng 0 x98)) fun l164 => (bd (forS l164 table (fun x table =>
 (bd (bd (bd (dv x k) fun x105 => (md x105 m)) fun x106 => (lft (Mi._law_power (pair).1 x106 n))) fun turn =>
 (bd (ret []) fun row =>
 (bd (bd (bd (ml n m) fun x113 => (ml x113 k)) fun x114 => (rng 0 x114)) fun l160 => (bd (forS l160 row (fun y row =>
 (bd (bd (bd (ml m k) fun x121 => (dv x x121)) fun x124 => (bd (bd (bd (ml m k) fun x122 => (dv y x122)) fun x123 => (ml turn x123)) fun x125 => (ret (x124 + x125)))) fun a =>
 (bd (bd (bd (dv x k) fun x128 => (md x128 m)) fun x130 => (bd (bd (dv y k) fun x129 => (md x129 m)) fun x131 => (ret (x130 + x131)))) fun b =>
 (jn (bd (ret (decide (m ≤ b))) fun b137 => if b137 = true then
 (bd (ret (a + (pair).2)) fun a =>
 (ret a))
 else
 (ret a)) (fun a =>
 (bd (bd (bd (bd (bd (bd (md a n) fun x145 => (ml x145 m)) fun x146 => (bd (md b m) fun x147 => (ret (x146 + x147)))) fun x148 => (ml x148 k)) fun x149 => (bd (md (x + y) k) fun x150 => (ret (x149 + x150)))) fun x151 => app row x151) fun row =>
 (ret row)))))))) (fun row =>
 (bd (bd (ret row) fun x159 => app table x159) fun table =>
 (ret table))))))))) (fun table =>
 (ret table))))))))))))))))))

@[irreducible] def Mi._law_permutations (bag : Unit) : M Empty (List (List Int)) :=
 (bd (ret []) fun makers =>
 (bd (rng 0 (2 : Int)) fun l121 => (bd (forS l121 makers (fun k makers =>
 (bd (ret [(0 : Int), (1 : Int), (2 : Int), (3 : Int)]) fun left =>
 (bd (ret []) fun row =>
 (bd (rng 0 (4 : Int)) fun l36 => (bd (forS l36 (left, row) (fun j (left, row) =>
 (bd (bd (lft (Mi._law_take () ((left).length : Int))) fun i => bd (outAt left i) fun w => bd (app row w.1) fun es => ret (es, w.2)) fun (row, left) =>
 (ret (left, row))))) (fun (left, row) =>
 (bd (bd (ret row) fun x35 => app makers x35) fun makers =>
 (ret makers))))))))) (fun makers =>
 (bd (ret [[(0 : Int), (1 : Int), (2 : Int), (3 : Int)]]) fun found =>
 (bd (rng 0 (24 : Int)) fun l120 => (bd (forS l120 found (fun at' found =>
 (jn (bd (ret (decide (at' < ((found).length : Int)))) fun b50 => if b50 = true then
 (bd (ret makers) fun l88 => (bd (forS l88 found (fun maker found =>
 (bd (bd (ix found at') fun l62 => bd (lim (l62).length) fun _ => mapM' (fun point_59 => (ix maker point_59)) l62) fun row =>
 (jn (bd (ret (!memD row found)) fun b81 => if b81 = true then
 (bd (bd (ret row) fun x86 => app found x86) fun found =>
 (ret found))
 else
 (ret found)) (fun found =>
 (ret found)))))) (fun found =>
 (ret found))))
 else
 (ret found)) (fun found =>
 (ret found))))) (fun found =>
 (bd (srtE (fun l => PyData.list (List.map PyData.int l)) found) fun found =>
 (bd (ret []) fun table =>
 (bd (ret found) fun l119 => (bd (forS l119 table (fun p table =>
 (bd (bd (bd (ret found) fun l114 => bd (lim (l114).length) fun _ => mapM' (fun q_106 => (bd (bd (ret p) fun l112 => bd (lim (l112).length) fun _ => mapM' (fun point_109 => (ix q_106 point_109)) l112) fun x113 => (idx found x113))) l114) fun x115 => app table x115) fun table =>
 (ret table)))) (fun table =>
 (ret table))))))))))))))

@[irreducible] def Mi._law_renamed (bag : Unit) (table : (List (List Int))) : M Empty (List (List Int)) :=
 (bd (ret ((table).length : Int)) fun size =>
 (bd (lrg 0 size) fun names =>
 (bd (rngd (size - (1 : Int)) (1 : Int)) fun l56 => (bd (forS l56 names (fun x names =>
 (bd (bd (lft (Mi._law_take () x)) fun x13 => (ret ((1 : Int) + x13))) fun y =>
 (bd (ix names x) fun kept =>
 (bd (bd (ix names y) fun x21 => bd (ret x) fun x22 => put names x22 x21) fun names =>
 (bd (bd (ret kept) fun x25 => bd (ret y) fun x26 => put names x26 x25) fun names =>
 (ret names))))))) (fun names =>
 (bd (bd (rng 0 size) fun l30 => bd (lim (l30).length) fun _ => mapM' (fun x_27 => (reps [(0 : Int)] size)) l30) fun result =>
 (bd (rng 0 size) fun l55 => (bd (forS l55 result (fun x result =>
 (bd (rng 0 size) fun l51 => (bd (forS l51 result (fun y result =>
 (bd (bd (bd (bd (ix table x) fun x49 => (ix x49 y)) fun x50 => (ix names x50)) fun e => bd (ix names x) fun i => bd (rowAt result i) fun w => bd (ix names y) fun j => bd (put w.2 j e) fun row => ret (result.set w.1 row)) fun result =>
 (ret result)))) (fun result =>
 (ret result)))))) (fun result =>
 (ret result))))))))))

@[irreducible] def Mi._law_table (bag : Unit) (limit : Int) : M Empty (List (List Int)) :=
 (bd (lft (Mi._law_metacyclic () limit)) fun table =>
 (jn (bd (bd (lft (Mi._law_take () (4 : Int))) fun x3 => (ret (decide (x3 = (1 : Int))))) fun b7 => if b7 = true then
 (bd (lft (Mi._law_permutations ())) fun other =>
 (jn (bd (ret (decide (((other).length : Int) ≤ limit))) fun b15 => if b15 = true then
 (bd (ret other) fun table =>
 (ret table))
 else
 (ret table)) (fun table =>
 (ret table))))
 else
 (ret table)) (fun table =>
 (jn (bd (bd (lft (Mi._law_take () (2 : Int))) fun x22 => (ret (decide (x22 = (1 : Int))))) fun b26 => if b26 = true then
 (bd (lft (Mi._law_renamed () table)) fun table =>
 (ret table))
 else
 (ret table)) (fun table =>
 (ret table))))))

@[irreducible] def Mi._law_spoilt (bag : Unit) (table : (List (List Int))) : M Empty (List (List Int)) :=
 (bd (ret ((table).length : Int)) fun size =>
 (bd (lft (Mi._law_take () (12 : Int))) fun kind =>
 (bd (bd (ret table) fun l8 => bd (lim (l8).length) fun _ => mapM' (fun row_5 => (ret row_5)) l8) fun result =>
 (bd (lft (Mi._law_take () size)) fun x =>
 (bd (lft (Mi._law_take () size)) fun y =>
 (jn (bd (bd (ret (decide (kind = (0 : Int)))) fun b17 => if b17 = true then ret true else (ret (decide (kind = (1 : Int))))) fun b21 => if b21 = true then
 (bd (bd (lft (Mi._law_take () size)) fun e => bd (ret x) fun i => bd (rowAt result i) fun w => bd (ret y) fun j => bd (put w.2 j e) fun row => ret (result.set w.1 row)) fun result =>
 (ret result))
 else
 (ret result)) (fun result =>
 (jn (bd (ret (decide (kind = (2 : Int)))) fun b30 => if b30 = true then
 (bd (bd (bd (lft (Mi._law_take () (2 : Int))) fun x35 => (ix [(-(1 : Int)), size] x35)) fun e => bd (ret x) fun i => bd (rowAt result i) fun w => bd (ret y) fun j => bd (put w.2 j e) fun row => ret (result.set w.1 row)) fun result =>
 (ret result))
 else
 (ret result)) (fun result =>
 (jn (bd (ret (decide (kind = (3 : Int)))) fun b40 => if b40 = true then
 (bd (bd (ret x) fun i => bd (rowAt result i) fun w => bd (lft (Mi._law_take () size)) fun e => bd (app w.2 e) fun row => ret (result.set w.1 row)) fun result =>
 (ret result))
 else
 (ret result)) (fun result =>
 (jn (bd (ret (decide (kind = (4 : Int)))) fun b49 => if b49 = true then
 (bd (bd (ret x) fun i => bd (rowAt result i) fun w => bd (dropL w.2) fun row => ret (result.set w.1 row)) fun result =>
 (ret result))
 else
 (ret result)) (fun result =>
 (jn (bd (ret (decide (kind = (5 : Int)))) fun b58 => if b58 = true then
 (bd (dropL result) fun result =>
 (ret result))
 else
 (ret result)) (fun result =>
 (jn (bd (ret (decide (kind = (6 : Int)))) fun b70 => if b70 = true then
 (bd (bd (lft (Mi._law_take () (4 : Int))) fun x74 => (ret ((33 : Int) + x74))) fun size =>
 (bd (lft (Mi._law_take () (2 : Int))) fun shift =>
 (bd (bd (rng 0 size) fun l86 => bd (lim (l86).length) fun _ => mapM' (fun a_79 => (bd (rng 0 size) fun l85 => bd (lim (l85).length) fun _ => mapM' (fun b_82 => (md ((a_79 + b_82) + shift) size)) l85)) l86) fun result =>
 (ret result))))
 else
 (ret result)) (fun result =>
 (ret result))))))))))))))))))

@[irreducible] def Mi._law_valid (table : (List (List Int))) : M Empty Bool :=
 (bd (ret ((table).length : Int)) fun size =>
 (bd (ret table) fun l76 => (bd (forC l76 () (fun row _ =>
 (bd (ret (!decide (((row).length : Int) = size))) fun b12 => if b12 = true then
 (bd (ret false) fun d => ret (.rt d))
 else
 (bd (ret row) fun l24 => (bd (forC l24 () (fun entry _ =>
 (bd (bd (ret (decide (entry < (0 : Int)))) fun b19 => if b19 = true then ret true else (ret (decide (size ≤ entry)))) fun b23 => if b23 = true then
 (bd (ret false) fun d => ret (.rt d))
 else
 (ret (.nx ()))))) (onC (fun _ =>
 (ret (.nx ()))) (fun d => ret (.rt d)))))))) (onC (fun _ =>
 (bd (rng 0 size) fun l75 => (bd (forC l75 () (fun x _ =>
 (bd (bd (bd (bd (ix table (0 : Int)) fun x31 => (ix x31 x)) fun x32 => (ret (!decide (x32 = x)))) fun b37 => if b37 = true then ret true else (bd (bd (bd (ix table x) fun x33 => (ix x33 (0 : Int))) fun x34 => (ret (!decide (x34 = x)))) fun b36 => if b36 = true then ret true else (bd (ix table x) fun x35 => (ret (!memD (0 : Int) x35))))) fun b41 => if b41 = true then
 (bd (ret false) fun d => ret (.rt d))
 else
 (ret (.nx ()))))) (onC (fun _ =>
 (bd (rng 0 size) fun l74 => (bd (forC l74 () (fun x _ =>
 (bd (rng 0 size) fun l73 => (bd (forC l73 () (fun y _ =>
 (bd (rng 0 size) fun l72 => (bd (forC l72 () (fun z _ =>
 (bd (bd (bd (bd (bd (ix table x) fun x60 => (ix x60 y)) fun x61 => (ix table x61)) fun x62 => (ix x62 z)) fun x66 => (bd (bd (ix table x) fun x64 => (bd (bd (ix table y) fun x63 => (ix x63 z)) fun x65 => (ix x64 x65))) fun x67 => (ret (!decide (x66 = x67))))) fun b71 => if b71 = true then
 (bd (ret false) fun d => ret (.rt d))
 else
 (ret (.nx ()))))) (onC (fun _ =>
 (ret (.nx ()))) (fun d => ret (.rt d))))))) (onC (fun _ =>
 (ret (.nx ()))) (fun d => ret (.rt d))))))) (onC (fun _ =>
 (ret (decide ((0 : Int) < size)))) (fun d => ret d))))) (fun d => ret d))))) (fun d => ret d)))))

@[irreducible] def Mi._law_made (table : (List (List Int))) : M Empty (Str × (C_Group ⊕ Bool)) :=
 (bd (tryM ((bd (bd (bd (Mi.Group___init__ table) fun x20 => (ret (Sum.inl x20))) fun x21 => (ret ((PySem.Str.ofString "made"), x21))) fun d => ret (.rt d)) : M Ek (Ctl Unit (Str × (C_Group ⊕ Bool)))) (fun e => (if sub_LimitExceeded e = true then
 (bd (bd (bd (bd (ret (sub_StepError e)) fun b6 => if b6 = true then (bd (ret (sub_ValueError e)) fun b5 => if b5 = true then (ret (!(sub_InvalidGroup e))) else ret false) else ret false) fun x8 => (ret (Sum.inr x8))) fun x9 => (ret ((PySem.Str.ofString "limit"), x9))) fun d => ret (.rt d))
 else (if sub_InvalidGroup e = true then
 (bd (bd (bd (bd (ret (sub_StepError e)) fun b10 => if b10 = true then (ret (sub_ValueError e)) else ret false) fun x12 => (ret (Sum.inr x12))) fun x13 => (ret ((PySem.Str.ofString "invalid"), x13))) fun d => ret (.rt d))
 else (fun _ _ => False))))) (onC (fun _ =>
 nev) (fun d => ret d)))

@[irreducible] def Mi._law_is_integer (told : Int) : M Empty Bool :=
 (bd (ret true) fun b1 => if b1 = true then (ret (!false)) else ret false)

@[irreducible] def Mi._law_closed (table : (List (List Int))) (members : (List Int)) : M Empty (List Int) :=
 (bd (ret [(0 : Int)]) fun reached =>
 (bd (rng 0 ((table).length : Int)) fun l40 => (bd (forS l40 reached (fun at' reached =>
 (jn (bd (ret (decide (at' < ((reached).length : Int)))) fun b14 => if b14 = true then
 (bd (ret members) fun l38 => (bd (forS l38 reached (fun member reached =>
 (jn (bd (bd (bd (bd (ix reached at') fun x23 => (ix table x23)) fun x24 => (ix x24 member)) fun x25 => (ret (!memD x25 reached))) fun b29 => if b29 = true then
 (bd (bd (bd (bd (ix reached at') fun x34 => (ix table x34)) fun x35 => (ix x35 member)) fun x36 => app reached x36) fun reached =>
 (ret reached))
 else
 (ret reached)) (fun reached =>
 (ret reached))))) (fun reached =>
 (ret reached))))
 else
 (ret reached)) (fun reached =>
 (ret reached))))) (fun reached =>
 (srtI reached)))))

@[irreducible] def Mi._law_order (table : (List (List Int))) (x : Int) : M Empty Int :=
 (bd (ret (1 : Int)) fun count =>
 (bd (ret x) fun current =>
 (bd (rng 0 ((table).length : Int)) fun l24 => (bd (forS l24 (count, current) (fun k (count, current) =>
 (jn (bd (ret (!decide (current = (0 : Int)))) fun b14 => if b14 = true then
 (bd (bd (ix table current) fun x18 => (ix x18 x)) fun current =>
 (bd (ret (count + (1 : Int))) fun count =>
 (ret (count, current))))
 else
 (ret (count, current))) (fun (count, current) =>
 (ret (count, current)))))) (fun (count, current) =>
 (ret count))))))

@[irreducible] def Mi._law_many (table : (List (List Int))) (x : Int) (times : Int) : M Empty Int :=
 (bd (ret (0 : Int)) fun current =>
 (bd (rng 0 times) fun l12 => (bd (forS l12 current (fun k current =>
 (bd (bd (ix table current) fun x9 => (ix x9 x)) fun current =>
 (ret current)))) (fun current =>
 (ret current)))))

@[irreducible] def Mi._law_generators (table : (List (List Int))) : M Empty (List Int) :=
 (bd (ret []) fun found =>
 (bd (rng (1 : Int) ((table).length : Int)) fun l22 => (bd (forS l22 found (fun x found =>
 (jn (bd (bd (lft (Mi._law_closed table found)) fun x11 => (ret (!memD x x11))) fun b15 => if b15 = true then
 (bd (bd (ret x) fun x20 => app found x20) fun found =>
 (ret found))
 else
 (ret found)) (fun found =>
 (ret found))))) (fun found =>
 (ret found)))))

@[irreducible] def Mi._law_refused (group : C_Group) (which : Int) (bad : Int) : M Empty Bool :=
 (bd (tryM ((jn (bd (ret (decide (which = (0 : Int)))) fun b14 => if b14 = true then
 (bd (Mi.Group_multiply group bad (0 : Int)) fun _ =>
 (ret ()))
 else
 (ret ())) (fun _ =>
 (jn (bd (ret (decide (which = (1 : Int)))) fun b23 => if b23 = true then
 (bd (Mi.Group_multiply group (0 : Int) bad) fun _ =>
 (ret ()))
 else
 (ret ())) (fun _ =>
 (jn (bd (ret (decide (which = (2 : Int)))) fun b32 => if b32 = true then
 (bd (Mi.Group_inverse group bad) fun _ =>
 (ret ()))
 else
 (ret ())) (fun _ =>
 (jn (bd (ret (decide (which = (3 : Int)))) fun b41 => if b41 = true then
 (bd (Mi.Group_power group bad (0 : Int)) fun _ =>
 (ret ()))
 else
 (ret ())) (fun _ =>
 (jn (bd (ret (decide (which = (4 : Int)))) fun b50 => if b50 = true then
 (bd (Mi.Group_order_of group bad) fun _ =>
 (ret ()))
 else
 (ret ())) (fun _ =>
 (jn (bd (ret (decide (which = (5 : Int)))) fun b59 => if b59 = true then
 (bd (Mi.Group_generated group [(0 : Int), bad]) fun _ =>
 (ret ()))
 else
 (ret ())) (fun _ =>
 (lft (ret (.nx ()))))))))))))))) : M Ek (Ctl Unit Bool)) (fun e => (if sub_InvalidElement e = true then
 (bd (bd (ret (sub_StepError e)) fun b5 => if b5 = true then (ret (!(sub_InvalidGroup e))) else ret false) fun d => ret (.rt d))
 else (fun _ _ => False)))) (onC (fun _ =>
 (ret false)) (fun d => ret d)))

@[irreducible] def Mi._law_plain (group : C_Group) (table : (List (List Int))) : M Empty Bool :=
 (bd (ret ((table).length : Int)) fun size =>
 (bd (bd (bd (lft (Mi._law_is_integer (group).f_order)) fun x3 => (ret (!x3))) fun b4 => if b4 = true then ret true else (ret (!decide ((group).f_order = size)))) fun b8 => if b8 = true then
 (ret false)
 else
 (bd (bd (ret (!true)) fun b9 => if b9 = true then ret true else (ret (!true))) fun b13 => if b13 = true then
 (ret false)
 else
 (bd (bd (bd (bd (ret (group).f_rows) fun l17 => bd (lim (l17).length) fun _ => mapM' (fun row_14 => (ret true)) l17) fun x18 => (ret ((x18).all id))) fun x19 => (ret (!x19))) fun b23 => if b23 = true then
 (ret false)
 else
 (bd (bd (bd (ret (group).f_rows) fun l27 => bd (lim (l27).length) fun _ => mapM' (fun row_24 => (ret row_24)) l27) fun x28 => (ret (!decide (x28 = table)))) fun b32 => if b32 = true then
 (ret false)
 else
 (bd (bd (ret table) fun l36 => bd (lim (l36).length) fun _ => mapM' (fun row_33 => (idx row_33 (0 : Int))) l36) fun x37 => (ret (decide ((group).f_inverses = x37)))))))))

@[irreducible] def Mi._law_methods (group : C_Group) (table : (List (List Int))) (bag : Unit) : M Empty Bool :=
 (bd (ret ((table).length : Int)) fun size =>
 (bd (lft (Mi._law_take () size)) fun x =>
 (bd (lft (Mi._law_take () size)) fun y =>
 (bd (lft (Mi._law_order table x)) fun order =>
 (bd (bd (ix table x) fun x9 => (idx x9 (0 : Int))) fun inverse =>
 (bd (lft (Mi._law_take () (40 : Int))) fun exponent =>
 (bd (bd (bd (nox (Mi.Group_multiply group x y)) fun x15 => (bd (bd (ix table x) fun x14 => (ix x14 y)) fun x16 => (ret (!decide (x15 = x16))))) fun b20 => if b20 = true then ret true else (bd (nox (Mi.Group_multiply group y x)) fun x18 => (bd (bd (ix table y) fun x17 => (ix x17 x)) fun x19 => (ret (!decide (x18 = x19)))))) fun b24 => if b24 = true then
 (ret false)
 else
 (bd (bd (bd (nox (Mi.Group_inverse group x)) fun x25 => (ret (!decide (x25 = inverse)))) fun b30 => if b30 = true then ret true else (bd (bd (nox (Mi.Group_order_of group x)) fun x26 => (ret (!decide (x26 = order)))) fun b29 => if b29 = true then ret true else (bd (bd (nox (Mi.Group_order_of group x)) fun x27 => (lft (Mi._law_is_integer x27))) fun x28 => (ret (!x28))))) fun b34 => if b34 = true then
 (ret false)
 else
 (bd (bd (nox (Mi.Group_power group x exponent)) fun x35 => (bd (lft (Mi._law_many table x exponent)) fun x36 => (ret (!decide (x35 = x36))))) fun b40 => if b40 = true then
 (ret false)
 else
 (bd (bd (nox (Mi.Group_power group x (-exponent))) fun x41 => (bd (lft (Mi._law_many table inverse exponent)) fun x42 => (ret (!decide (x41 = x42))))) fun b46 => if b46 = true then
 (ret false)
 else
 (bd (bd (bd (bd (bd (pw (10 : Int) (30 : Int)) fun x49 => (ml x49 order)) fun x50 => (ret (x50 + exponent))) fun x51 => (nox (Mi.Group_power group x x51))) fun x52 => (bd (lft (Mi._law_many table x exponent)) fun x53 => (ret (!decide (x52 = x53))))) fun b57 => if b57 = true then
 (ret false)
 else
 (bd (bd (bd (lft (Mi._law_take () (4 : Int))) fun x58 => (rng 0 x58)) fun l62 => bd (lim (l62).length) fun _ => mapM' (fun k_59 => (lft (Mi._law_take () size))) l62) fun members =>
 (bd (ret members) fun handed =>
 (bd (nox (Mi.Group_generated group handed)) fun told =>
 (bd (bd (ret (!decide (handed = members))) fun b73 => if b73 = true then ret true else (bd (ret (!true)) fun b72 => if b72 = true then ret true else (bd (lft (Mi._law_closed table members)) fun x71 => (ret (!decide (told = x71)))))) fun b77 => if b77 = true then
 (ret false)
 else
 (bd (bd (ret (0 : Int)) fun x80 => app told x80) fun told =>
 (bd (bd (nox (Mi.Group_generated group handed)) fun x81 => (bd (lft (Mi._law_closed table members)) fun x82 => (ret (!decide (x81 = x82))))) fun b86 => if b86 = true then
 (ret false)
 else
 (bd (nox (Mi.Group_generators group)) fun told =>
 (bd (bd (ret (!true)) fun b92 => if b92 = true then ret true else (bd (lft (Mi._law_generators table)) fun x91 => (ret (!decide (told = x91))))) fun b96 => if b96 = true then
 (ret false)
 else
 (bd (bd (ret (0 : Int)) fun x99 => app told x99) fun told =>
 (bd (bd (nox (Mi.Group_generators group)) fun x100 => (bd (lft (Mi._law_generators table)) fun x101 => (ret (!decide (x100 = x101))))) fun b105 => if b105 = true then
 (ret false)
 else
 (ret true))))))))))))))))))))))

@[irreducible] def Mi.law (script : (List Int)) : M Empty Bool :=
 (bd (lft (Mi._law_bag script (0 : Int))) fun bag =>
 (bd (ret (8 : Int)) fun limit =>
 (jn (bd (bd (lft (Mi._law_take () (8 : Int))) fun x5 => (ret (decide (x5 = (1 : Int))))) fun b9 => if b9 = true then
 (bd (ret (12 : Int)) fun limit =>
 (ret limit))
 else
 (ret limit)) (fun limit =>
 (bd (bd (lft (Mi._law_bag script (1 : Int))) fun x15 => (bd (lft (Mi._law_table () limit)) fun x16 => (lft (Mi._law_spoilt x15 x16)))) fun table =>
 (bd (bd (ret table) fun l22 => bd (lim (l22).length) fun _ => mapM' (fun row_19 => (ret row_19)) l22) fun handed =>
 (bd (lft (Mi._law_made handed)) fun told =>
 (bd (ret (!decide (handed = table))) fun b32 => if b32 = true then
 (ret false)
 else
 (bd (ret (decide ((32 : Int) < ((table).length : Int)))) fun b36 => if b36 = true then
 (bd (ret (decide ((told).1 = (PySem.Str.ofString "limit")))) fun b37 => if b37 = true then (getr (told).2) else ret false)
 else
 (bd (bd (lft (Mi._law_valid table)) fun x38 => (ret (!x38))) fun b42 => if b42 = true then
 (bd (ret (decide ((told).1 = (PySem.Str.ofString "invalid")))) fun b43 => if b43 = true then (getr (told).2) else ret false)
 else
 (bd (ret (!decide ((told).1 = (PySem.Str.ofString "made")))) fun b47 => if b47 = true then
 (ret false)
 else
 (bd (getl (told).2) fun group =>
 (bd (bd (ret (0 : Int)) fun i => bd (rowAt handed i) fun w => bd (ret (0 : Int)) fun e => bd (app w.2 e) fun row => ret (handed.set w.1 row)) fun handed =>
 (bd (bd (ret []) fun x56 => app handed x56) fun handed =>
 (bd (bd (bd (lft (Mi._law_plain group table)) fun x57 => (ret (!x57))) fun b60 => if b60 = true then ret true else (bd (bd (lft (Mi._law_bag script (2 : Int))) fun x58 => (lft (Mi._law_methods group table x58))) fun x59 => (ret (!x59)))) fun b64 => if b64 = true then
 (ret false)
 else
 (bd (ret ((table).length : Int)) fun size =>
 (bd (bd (bd (bd (ml size size) fun x67 => (rng 0 x67)) fun l79 => bd (lim (l79).length) fun _ => mapM' (fun k_68 => (bd (bd (bd (dv k_68 size) fun x71 => (ix table x71)) fun x72 => (bd (md k_68 size) fun x73 => (ix x72 x73))) fun x77 => (bd (bd (bd (md k_68 size) fun x74 => (ix table x74)) fun x75 => (bd (dv k_68 size) fun x76 => (ix x75 x76))) fun x78 => (ret (decide (x77 = x78)))))) l79) fun x80 => (ret ((x80).all id))) fun commutes =>
 (bd (bd (bd (bd (lft (Mi.Group_is_commutative group)) fun x83 => (ret true)) fun x84 => (ret (!x84))) fun b86 => if b86 = true then ret true else (bd (lft (Mi.Group_is_commutative group)) fun x85 => (ret (!(x85 == commutes))))) fun b90 => if b90 = true then
 (ret false)
 else
 (bd (bd (bd (bd (nox (Mi.Group___init__ table)) fun x91 => (lft (Mi.Group___eq__ group x91))) fun x92 => (ret (!x92))) fun b95 => if b95 = true then ret true else (bd (bd (nox (Mi.Group___init__ [[(0 : Int)]])) fun x93 => (lft (Mi.Group___eq__ group x93))) fun x94 => (ret (!(x94 == (decide (size = (1 : Int)))))))) fun b99 => if b99 = true then
 (ret false)
 else
 (bd (rng 0 (6 : Int)) fun l113 => (bd (forC l113 () (fun which _ =>
 (bd (bd (bd (lft (Mi._law_refused group which (-(1 : Int)))) fun x106 => (ret (!x106))) fun b108 => if b108 = true then ret true else (bd (lft (Mi._law_refused group which size)) fun x107 => (ret (!x107)))) fun b112 => if b112 = true then
 (bd (ret false) fun d => ret (.rt d))
 else
 (ret (.nx ()))))) (onC (fun _ =>
 (ret true)) (fun d => ret d)))))))))))))))))))))))

end K00

namespace K00
open PySem PySem.Spec PyProof.Rows L2 Z
def topS (i : Nat) : Stmt := PySem.Challenge.pw_stepsvanish_k00_groups_let_by.main.body.getD i (.Pass ⟨0, 0, 0, 0⟩)
def memS (i j : Nat) : Stmt := match topS i with
  | .ClassDef _ _ _ body _ _ _ _ _ _ _ => body.getD j (.Pass ⟨0, 0, 0, 0⟩)
  | s => s
structure Ad where
  a0 : Addr
  a_StepError : Addr
  a_InvalidGroup : Addr
  a_InvalidElement : Addr
  a_LimitExceeded : Addr
  a_Group : Addr
def cvf (A : Ad) : Ek → Value
  | .InvalidElement => .ref A.a_InvalidElement
  | .InvalidGroup => .ref A.a_InvalidGroup
  | .LimitExceeded => .ref A.a_LimitExceeded
def r_Group (K : PySem.W.Frag) (A : Ad) : SRep C_Group := ⟨fun H v d => ∃ p dx w0 w1 w2, v = .ref p ∧ H p = some (.ins A.a_Group dx [("order", w0), ("rows", w1), ("inverses", w2)]) ∧ sI.is H w0 d.f_order ∧ (sT K (sT K sI)).is H w1 d.f_rows ∧ (sT K sI).is H w2 d.f_inverses, fun e h => by
  obtain ⟨p, dx, w0, w1, w2, z1, z2, h0, h1, h2⟩ := h
  exact ⟨p, dx, w0, w1, w2, z1, e _ _ z2, sI.up e h0, (sT K (sT K sI)).up e h1, (sT K sI).up e h2⟩⟩
theorem io_Group {K : PySem.W.Frag} {A : Ad} : IsObj (r_Group K A) A.a_Group ["order", "rows", "inverses"] := fun H v d h => by
  obtain ⟨p, dx, w0, w1, w2, z1, z2, _⟩ := h
  exact ⟨p, dx, _, z1, z2, rfl⟩
theorem if_Group_order {K : PySem.W.Frag} {A : Ad} : IsFld (r_Group K A) A.a_Group "order" sI (fun d => d.f_order) := fun H v d h => by
  obtain ⟨p, dx, w0, w1, w2, z1, z2, h0, h1, h2⟩ := h
  exact ⟨p, dx, _, w0, z1, z2, rfl, h0⟩
theorem if_Group_rows {K : PySem.W.Frag} {A : Ad} : IsFld (r_Group K A) A.a_Group "rows" (sT K (sT K sI)) (fun d => d.f_rows) := fun H v d h => by
  obtain ⟨p, dx, w0, w1, w2, z1, z2, h0, h1, h2⟩ := h
  exact ⟨p, dx, _, w1, z1, z2, rfl, h1⟩
theorem if_Group_inverses {K : PySem.W.Frag} {A : Ad} : IsFld (r_Group K A) A.a_Group "inverses" (sT K sI) (fun d => d.f_inverses) := fun H v d h => by
  obtain ⟨p, dx, w0, w1, w2, z1, z2, h0, h1, h2⟩ := h
  exact ⟨p, dx, _, w2, z1, z2, rfl, h2⟩
structure Mo (K : PySem.W.Frag) (mg : Str → Option Value) (A : Ad) : Prop where
  a0 : True
  g_StepError : mg "StepError" = some (.ref A.a_StepError)
  g_InvalidGroup : mg "InvalidGroup" = some (.ref A.a_InvalidGroup)
  g_InvalidElement : mg "InvalidElement" = some (.ref A.a_InvalidElement)
  g_LimitExceeded : mg "LimitExceeded" = some (.ref A.a_LimitExceeded)
  g_Group : mg "Group" = some (.ref A.a_Group)
  k_GROUP_LIMIT : ∃ t, mg "GROUP_LIMIT" = some (.int 32 t)
  ex_InvalidElement : PySem.W.excIn K A.a_InvalidElement [.type "ValueError", .type "Exception", .type "BaseException", .type "object"] "ValueError.__new__" = true
  kp_InvalidElement : PySem.W.keepIn K (.ref A.a_InvalidElement) = true
  bs_InvalidElement : PySem.W.subIn K (.ref A.a_InvalidElement) (.type "BaseException") = some true
  ty_InvalidElement : PySem.W.typeIn K (.ref A.a_InvalidElement) = some (.type "type")
  ex_InvalidGroup : PySem.W.excIn K A.a_InvalidGroup [.type "ValueError", .type "Exception", .type "BaseException", .type "object"] "ValueError.__new__" = true
  kp_InvalidGroup : PySem.W.keepIn K (.ref A.a_InvalidGroup) = true
  bs_InvalidGroup : PySem.W.subIn K (.ref A.a_InvalidGroup) (.type "BaseException") = some true
  ty_InvalidGroup : PySem.W.typeIn K (.ref A.a_InvalidGroup) = some (.type "type")
  ex_LimitExceeded : PySem.W.excIn K A.a_LimitExceeded [.type "ValueError", .type "Exception", .type "BaseException", .type "object"] "ValueError.__new__" = true
  kp_LimitExceeded : PySem.W.keepIn K (.ref A.a_LimitExceeded) = true
  bs_LimitExceeded : PySem.W.subIn K (.ref A.a_LimitExceeded) (.type "BaseException") = some true
  ty_LimitExceeded : PySem.W.typeIn K (.ref A.a_LimitExceeded) = some (.type "type")
  xm_InvalidElement : ∀ e, PySem.W.exmOne K (cvf A e) (.ref A.a_InvalidElement) = some (sub_InvalidElement e)
  xm_InvalidGroup : ∀ e, PySem.W.exmOne K (cvf A e) (.ref A.a_InvalidGroup) = some (sub_InvalidGroup e)
  xm_LimitExceeded : ∀ e, PySem.W.exmOne K (cvf A e) (.ref A.a_LimitExceeded) = some (sub_LimitExceeded e)
  ec : ∀ e, ∃ D, cvf A e = .ref D ∧ ExcC K D
  ki_InvalidGroup : ∀ e D, cvf A e = .ref D → PySem.W.kitOne K (.ref D) (.ref A.a_InvalidGroup) = some (sub_InvalidGroup e)
  ki_StepError : ∀ e D, cvf A e = .ref D → PySem.W.kitOne K (.ref D) (.ref A.a_StepError) = some (sub_StepError e)
  ki_ValueError : ∀ e D, cvf A e = .ref D → PySem.W.kitOne K (.ref D) (.type "ValueError") = some (sub_ValueError e)
  cl_Group : Cls K A.a_Group
  na_Group_order : NoAttr K A.a_Group "order"
  na_Group_rows : NoAttr K A.a_Group "rows"
  na_Group_inverses : NoAttr K A.a_Group "inverses"
  ov_Group : OvC K A.a_Group
  ii_Group_Group : PySem.W.kitOne K (.ref A.a_Group) (.ref A.a_Group) = some true
theorem ov_Group {K : PySem.W.Frag} {mg : Str → Option Value} {A : Ad} (T : Mo K mg A) {s0 : S} : OfV K s0 (r_Group K A).r (.ref A.a_Group) := ofv_ins io_Group T.cl_Group T.ov_Group
abbrev st_has_identity : Stmt := topS 7
abbrev N_has_identity : List Str := ["table", "size", "row", "entry", "x"]
theorem sc_has_identity : FnScope N_has_identity ["table"] (defScope st_has_identity) := ⟨rfl, rfl, rfl, by decide +kernel, rfl, by decide +kernel, by decide +kernel⟩
abbrev sp_has_identity (K : PySem.W.Frag) (A : Ad) : Sp := sp0 (aC (bP (sL (sL sI))) aN) (fun a => Mi.has_identity a.1) (fun _ => sB.r)
theorem ok_has_identity {P : Program} {w : World} {K : PySem.W.Frag} {mg : Str → Option Value} {base : Heap} {A : Ad} (T : Mo K mg A) {f : Addr} {fd : FuncData} (F : Fun K "has_identity" "has_identity" st_has_identity f fd) (m_len : mg "len" = none) (m_range : mg "range" = none) :
    FnOk P w K mg base CX0 2 f fd ["table"] (sp_has_identity K A) := by
  refine fn0 F sc_has_identity (fun s vs a h => ?_) (fun cdv A9 outer sh EX hr C a vs Qm ok ha hm => ?_)
  · obtain ⟨v0, w0, rfl, _, h⟩ := h; cases h; rfl
  · obtain ⟨table, _⟩ := a
    obtain ⟨v_table, w_table, rfl, f_table, ha⟩ := ha
    cases ha
    have f_table : (bR C.s0 (sL (sL sI))).is C.s0 v_table table := f_table
    have G : Gr C.s0 C.s0 := Gx.refl ok
    unfold Mi.has_identity at hm
    try dsimp only at hm
    refine ⟨_, (pss_cons (ps_set (i := 1) sc_has_identity.nd rfl (.inl rfl) (pe_callB (k_len K rfl) (by rfl) m_len PySem.boot_len (pa_cons (pv 0) pa_nil))) (pss_cons (ps_for PassesOwn.never rfl (k_piL K rfl (pv 0)) (pg_name (i := 2) sc_has_identity.nd rfl (.inl rfl)) (pss_cons (ps_if (pt_cmpR op_ne (pe_callB (k_len K rfl) (by rfl) m_len PySem.boot_len (pa_cons (pv 2) pa_nil)) (pv 1) (nomark _)) (pss_cons (ps_ret pe_bl) pss_nil) pss_nil) (pss_cons (ps_for PassesOwn.never rfl (k_piL K rfl (pv 2)) (pg_name (i := 3) sc_has_identity.nd rfl (.inl rfl)) (pss_cons (ps_if (pt_not (pt_chain op_le op_lt pe_int (pv 3) (pv 1))) (pss_cons (ps_ret pe_bl) pss_nil) pss_nil) pss_nil)) pss_nil))) (pss_cons (ps_for PassesOwn.never rfl (pi_range1 (by rfl) m_range (pa_cons (pv 1) pa_nil)) (pg_name (i := 4) sc_has_identity.nd rfl (.inl rfl)) (pss_cons (ps_if (PW.pt (pw_or (pt_cmpR op_ne (pe_ix (k_ixL K rfl) (pe_ix (k_ixL K rfl) (pv 0) pe_int (fun _ _ => rfl)) (pv 4) (fun _ _ => rfl)) (pv 4) (nomark _)) (pw_or1 (pt_cmpR op_ne (pe_ix (k_ixL K rfl) (pe_ix (k_ixL K rfl) (pv 0) (pv 4) (fun _ _ => rfl)) pe_int (fun _ _ => rfl)) (pv 4) (nomark _))))) (pss_cons (ps_ret pe_bl) pss_nil) pss_nil) pss_nil)) (pss_cons (ps_ret (pe_cmpR op_gt (pv 1) pe_int (nomark _))) pss_nil)))), fun Q hQ => ?_⟩
    refine s_set (σ := [some v_table, none, none, none, none]) (s := C.s0) (σf := fun v => [some v_table, some v, none, none, none]) (ev_lenL rd_bor (ev_var (r := (bR C.s0 (sL (sL sI)))) (d := table) f_table)) hm G (fun _ => rfl) fun size v_size s2 g1 f_size hm => ?_
    have G := Gx.trans G g1
    obtain rfl : v_size = V.int size := f_size
    refine s_forc (σ := [some v_table, some (.int size), none, none, none]) (s := s2) (X := No) (fun u3 (a : Unit) σ' s' => Gr C.s0 s' ∧ Gx No u3 s' ∧ ∃ y_row, ∃ y_entry, σ' = [some v_table, some (.int size), y_row, y_entry, none]) (ei_list rd_bor newx_no (fun _ z _ => z.elim) (ev_var (r := (bR C.s0 (sL (sL sI)))) (d := table) f_table)) hm G (fun _ _ _ _ h => h.2.1) (fun u3 gu4 => ⟨(Gx.trans G gu4), (Gx.refl gu4.ok), none, none, rfl⟩) (fun u3 row v_row a σ' s7 gu4 hI hx Qb5 hrt6 hm => ?_) (fun u3 a σ' s8 gu4 hI hm => ?_)
    · obtain ⟨G, E, y_row, y_entry, rfl⟩ := hI
      have f_row := hx
      refine gname_do (σ' := [some v_table, some (.int size), some v_row, y_entry, none]) rfl ?_
      refine s_if1 (σ := [some v_table, some (.int size), some v_row, y_entry, none]) (s := s7) (et_test (ev_neI (ev_lenL rd_bor (ev_var (r := (bR C.s0 (sL sI))) (d := row) f_row)) (ev_var (r := sI.r) (d := size) rfl))) hm G (fun s10 g9 hm => ?_) (fun s11 g9 hm => ?_)
      · have G := Gx.trans G g9
        have E := Gx.trans E (Gx.of_gr g9)
        exact s_ret (σ := [some v_table, some (.int size), some v_row, y_entry, none]) (s := s10) (Qm := fun d => Qb5 (.rt d)) ev_bl hm G fun d v u qd g hv => hQ d v u ((fun d q => (fun _ q => q) d (hrt6 d q)) d qd) g hv
      have G := Gx.trans G g9
      have E := Gx.trans E (Gx.of_gr g9)
      refine s_forc (σ := [some v_table, some (.int size), some v_row, y_entry, none]) (s := s11) (X := No) (fun u13 (a : Unit) σ' s' => Gr C.s0 s' ∧ Gx No u13 s' ∧ ∃ y_entry, σ' = [some v_table, some (.int size), some v_row, y_entry, none]) (ei_list rd_bor newx_no (fun _ z _ => z.elim) (ev_var (r := (bR C.s0 (sL sI))) (d := row) f_row)) hm G (fun _ _ _ _ h => h.2.1) (fun u13 gu14 => ⟨(Gx.trans G gu14), (Gx.refl gu14.ok), y_entry, rfl⟩) (fun u13 entry v_entry a σ' s17 gu14 hI hx Qb15 hrt16 hm => ?_) (fun u13 a σ' s18 gu14 hI hm => ?_)
      · obtain ⟨G, E, y_entry, rfl⟩ := hI
        obtain rfl : v_entry = V.int entry := hx
        refine gname_do (σ' := [some v_table, some (.int size), some v_row, some (.int entry), none]) rfl ?_
        refine s_if1 (σ := [some v_table, some (.int size), some v_row, some (.int entry), none]) (s := s17) (et_not (et_test (ev_chain (f := (fun i j => decide (i ≤ j))) (f' := (fun i j => decide (i < j))) rfl rfl ev_int (ev_var (r := sI.r) (d := entry) rfl) (ev_var (r := sI.r) (d := size) rfl)))) hm G (fun s21 g20 hm => ?_) (fun s22 g20 hm => ?_)
        · have G := Gx.trans G g20
          have E := Gx.trans E (Gx.of_gr g20)
          exact s_ret (σ := [some v_table, some (.int size), some v_row, some (.int entry), none]) (s := s21) (Qm := fun d => Qb15 (.rt d)) ev_bl hm G fun d v u qd g hv => hQ d v u ((fun d q => (fun d q => (fun _ q => q) d (hrt6 d q)) d (hrt16 d q)) d qd) g hv
        have G := Gx.trans G g20
        have E := Gx.trans E (Gx.of_gr g20)
        exact ⟨(), _, rfl, hm, ⟨G, E, some (.int entry), rfl⟩⟩
      have E0 := Gx.trans E (Gx.of_gr gu14)
      obtain ⟨G, E, y_entry, rfl⟩ := hI
      have E := Gx.gx' E0 E (fun a z => (z : False).elim)
      exact ⟨(), _, rfl, hm, ⟨G, E, some v_row, y_entry, rfl⟩⟩
    obtain ⟨G, E, y_row, y_entry, rfl⟩ := hI
    refine s_forc (σ := [some v_table, some (.int size), y_row, y_entry, none]) (s := s8) (X := No) (fun u25 (a : Unit) σ' s' => Gr C.s0 s' ∧ Gx No u25 s' ∧ ∃ y_x, σ' = [some v_table, some (.int size), y_row, y_entry, y_x]) (ei_rng1 (ev_var (r := sI.r) (d := size) rfl)) hm G (fun _ _ _ _ h => h.2.1) (fun u25 gu26 => ⟨(Gx.trans G gu26), (Gx.refl gu26.ok), none, rfl⟩) (fun u25 x v_x a σ' s29 gu26 hI hx Qb27 hrt28 hm => ?_) (fun u25 a σ' s30 gu26 hI hm => ?_)
    · obtain ⟨G, E, y_x, rfl⟩ := hI
      obtain rfl : v_x = V.int x := hx
      refine gname_do (σ' := [some v_table, some (.int size), y_row, y_entry, some (.int x)]) rfl ?_
      refine s_if1 (σ := [some v_table, some (.int size), y_row, y_entry, some (.int x)]) (s := s29) (et_or (et_test (ev_neI (ev_as (see_dry dry_I) (ev_ixL rd_bor (ev_ixL rd_bor (ev_var (r := (bR C.s0 (sL (sL sI)))) (d := table) f_table) ev_int) (ev_var (r := sI.r) (d := x) rfl))) (ev_var (r := sI.r) (d := x) rfl))) (et_test (ev_neI (ev_as (see_dry dry_I) (ev_ixL rd_bor (ev_ixL rd_bor (ev_var (r := (bR C.s0 (sL (sL sI)))) (d := table) f_table) (ev_var (r := sI.r) (d := x) rfl)) ev_int)) (ev_var (r := sI.r) (d := x) rfl)))) hm G (fun s37 g36 hm => ?_) (fun s38 g36 hm => ?_)
      · have G := Gx.trans G g36
        have E := Gx.trans E (Gx.of_gr g36)
        exact s_ret (σ := [some v_table, some (.int size), y_row, y_entry, some (.int x)]) (s := s37) (Qm := fun d => Qb27 (.rt d)) ev_bl hm G fun d v u qd g hv => hQ d v u ((fun d q => (fun _ q => q) d (hrt28 d q)) d qd) g hv
      have G := Gx.trans G g36
      have E := Gx.trans E (Gx.of_gr g36)
      exact ⟨(), _, rfl, hm, ⟨G, E, some (.int x), rfl⟩⟩
    obtain ⟨G, E, y_x, rfl⟩ := hI
    exact s_ret (σ := [some v_table, some (.int size), y_row, y_entry, y_x]) (s := s30) (ev_gt (ev_var (r := sI.r) (d := size) rfl) ev_int) hm G fun d v u qd g hv => hQ d v u ((fun _ q => q) d qd) g hv

abbrev st_is_associative : Stmt := topS 8
abbrev N_is_associative : List Str := ["table", "row", "y", "z"]
theorem sc_is_associative : FnScope N_is_associative ["table"] (defScope st_is_associative) := ⟨rfl, rfl, rfl, by decide +kernel, rfl, by decide +kernel, by decide +kernel⟩
abbrev sp_is_associative (K : PySem.W.Frag) (A : Ad) : Sp := sp0 (aC (bP (sL (sL sI))) aN) (fun a => Mi.is_associative a.1) (fun _ => sB.r)
theorem ok_is_associative {P : Program} {w : World} {K : PySem.W.Frag} {mg : Str → Option Value} {base : Heap} {A : Ad} (T : Mo K mg A) {f : Addr} {fd : FuncData} (F : Fun K "is_associative" "is_associative" st_is_associative f fd) (m_len : mg "len" = none) (m_list : mg "list" = none) (m_range : mg "range" = none) :
    FnOk P w K mg base CX0 2 f fd ["table"] (sp_is_associative K A) := by
  refine fn0 F sc_is_associative (fun s vs a h => ?_) (fun cdv A9 outer sh EX hr C a vs Qm ok ha hm => ?_)
  · obtain ⟨v0, w0, rfl, _, h⟩ := h; cases h; rfl
  · obtain ⟨table, _⟩ := a
    obtain ⟨v_table, w_table, rfl, f_table, ha⟩ := ha
    cases ha
    have f_table : (bR C.s0 (sL (sL sI))).is C.s0 v_table table := f_table
    have G : Gr C.s0 C.s0 := Gx.refl ok
    unfold Mi.is_associative at hm
    try dsimp only at hm
    refine ⟨_, (pss_cons (ps_for PassesOwn.never rfl (k_piL K rfl (pv 0)) (pg_name (i := 1) sc_is_associative.nd rfl (.inr rfl)) (pss_cons (ps_for PassesOwn.never rfl (pi_range1 (by rfl) m_range (pa_cons (pe_callB (k_len K rfl) (by rfl) m_len PySem.boot_len (pa_cons (pv 0) pa_nil)) pa_nil)) (pg_name (i := 2) sc_is_associative.nd rfl (.inl rfl)) (pss_cons (ps_if (pt_cmpR (k_neD K rfl hr.units) (pe_lc (own := [("z", 3)]) (g := gName 3) (tt := tYes) rfl sc_is_associative.nd (k_piL K rfl (pe_ix (k_ixL K rfl) (pv 0) (pv 2) (fun _ _ => rfl))) (blkOk_by (own := [("z", 3)]) (N := N_is_associative) (sc := defScope st_is_associative) (by decide +kernel)) (fun _ _ _ _ _ => pg_name (i := 3) sc_is_associative.nd rfl (Or.inl rfl))  (fun _ _ _ _ _ => pts_nil) (fun _ _ _ _ _ => (pe_ix (k_ixL K rfl) (pv 1) (pv 3) (fun _ _ => rfl)))) (pe_callTy (k_list K rfl) (by rfl) m_list (by decide +kernel) (pa_cons (pe_ix (k_ixL K rfl) (pv 0) (pe_ix (k_ixL K rfl) (pv 1) (pv 2) (fun _ _ => rfl)) (fun _ _ => rfl)) pa_nil)) (nomark _)) (pss_cons (ps_ret pe_bl) pss_nil) pss_nil) pss_nil)) pss_nil)) (pss_cons (ps_ret pe_bl) pss_nil)), fun Q hQ => ?_⟩
    refine s_forc (σ := [some v_table, none, none, none]) (s := C.s0) (X := No) (fun u1 (a : Unit) σ' s' => Gr C.s0 s' ∧ Gx No u1 s' ∧ ∃ y_row, ∃ y_y, ∃ y_z, σ' = [some v_table, y_row, y_y, y_z]) (ei_list rd_bor newx_no (fun _ z _ => z.elim) (ev_var (r := (bR C.s0 (sL (sL sI)))) (d := table) f_table)) hm G (fun _ _ _ _ h => h.2.1) (fun u1 gu2 => ⟨(Gx.trans G gu2), (Gx.refl gu2.ok), none, none, none, rfl⟩) (fun u1 row v_row a σ' s5 gu2 hI hx Qb3 hrt4 hm => ?_) (fun u1 a σ' s6 gu2 hI hm => ?_)
    · obtain ⟨G, E, y_row, y_y, y_z, rfl⟩ := hI
      have f_row := hx
      refine gname_do (σ' := [some v_table, some v_row, y_y, y_z]) rfl ?_
      refine s_forc (σ := [some v_table, some v_row, y_y, y_z]) (s := s5) (X := No) (fun u7 (a : Unit) σ' s' => Gr C.s0 s' ∧ Gx No u7 s' ∧ ∃ y_y, ∃ y_z, σ' = [some v_table, some v_row, y_y, y_z]) (ei_rng1 (ev_lenL rd_bor (ev_var (r := (bR C.s0 (sL (sL sI)))) (d := table) f_table))) hm G (fun _ _ _ _ h => h.2.1) (fun u7 gu8 => ⟨(Gx.trans G gu8), (Gx.refl gu8.ok), y_y, y_z, rfl⟩) (fun u7 y v_y a σ' s11 gu8 hI hx Qb9 hrt10 hm => ?_) (fun u7 a σ' s12 gu8 hI hm => ?_)
      · obtain ⟨G, E, y_y, y_z, rfl⟩ := hI
        obtain rfl : v_y = V.int y := hx
        refine gname_do (σ' := [some v_table, some v_row, some (.int y), y_z]) rfl ?_
        refine s_if1 (σ := [some v_table, some v_row, some (.int y), y_z]) (s := s11) (et_test (ev_neD (enc_L enc_I) (dpr_st (enc_L enc_I)) (dpr_st (enc_L enc_I)) (Nat.le_of_ble_eq_true rfl) (evn_ev (evn_lc (σf := fun v => [some v_table, some v_row, some (.int y), some v]) (ei_list rd_bor newx_no (fun _ z _ => z.elim) (ev_ixL rd_bor (ev_var (r := (bR C.s0 (sL (sL sI)))) (d := table) f_table) (ev_var (r := sI.r) (d := y) rfl))) (fun _ => rfl) (fun _ => rfl) (fun z_13 v_z_13 t gc14 g015 f_z_13 => (ev_as (see_dry dry_I) (ev_ixL rd_bor (ev_var (r := (bR C.s0 (sL sI))) (d := row) f_row) (ev_var (r := sI.r) (d := z_13) f_z_13)))))) (evn_ev (evn_listL rd_bor (sta_bor dry_I) (ev_ixL rd_bor (ev_var (r := (bR C.s0 (sL (sL sI)))) (d := table) f_table) (ev_as (see_dry dry_I) (ev_ixL rd_bor (ev_var (r := (bR C.s0 (sL sI))) (d := row) f_row) (ev_var (r := sI.r) (d := y) rfl)))))))) hm G (fun s21 g20 hm => ?_) (fun s22 g20 hm => ?_)
        · have G := Gx.trans G g20
          have E := Gx.trans E (Gx.of_gr g20)
          exact s_ret (σ := [some v_table, some v_row, some (.int y), y_z]) (s := s21) (Qm := fun d => Qb9 (.rt d)) ev_bl hm G fun d v u qd g hv => hQ d v u ((fun d q => (fun d q => (fun _ q => q) d (hrt4 d q)) d (hrt10 d q)) d qd) g hv
        have G := Gx.trans G g20
        have E := Gx.trans E (Gx.of_gr g20)
        exact ⟨(), _, rfl, hm, ⟨G, E, some (.int y), y_z, rfl⟩⟩
      have E0 := Gx.trans E (Gx.of_gr gu8)
      obtain ⟨G, E, y_y, y_z, rfl⟩ := hI
      have E := Gx.gx' E0 E (fun a z => (z : False).elim)
      exact ⟨(), _, rfl, hm, ⟨G, E, some v_row, y_y, y_z, rfl⟩⟩
    obtain ⟨G, E, y_row, y_y, y_z, rfl⟩ := hI
    exact s_ret (σ := [some v_table, y_row, y_y, y_z]) (s := s6) ev_bl hm G fun d v u qd g hv => hQ d v u ((fun _ q => q) d qd) g hv

abbrev st_Group___init__ : Stmt := memS 9 0
abbrev N_Group___init__ : List Str := ["self", "table", "row"]
theorem sc_Group___init__ : FnScope N_Group___init__ ["self", "table"] (defScope st_Group___init__) := ⟨rfl, rfl, rfl, by decide +kernel, rfl, by decide +kernel, by decide +kernel⟩
abbrev sp_Group___init__ (K : PySem.W.Frag) (A : Ad) : Sp := spI (cvf A) A.a_Group (aC (bP (sL (sL sI))) aN) (fun a => Mi.Group___init__ a.1) (r_Group K A)
theorem ok_Group___init__ {P : Program} {w : World} {K : PySem.W.Frag} {mg : Str → Option Value} {base : Heap} {A : Ad} (T : Mo K mg A) {f : Addr} {fd : FuncData} (F : Fun K "__init__" "Group.__init__" st_Group___init__ f fd)
    {f_has_identity : Addr} {fd_has_identity : FuncData} (c_has_identity : Cal P w K mg base CX0 2 "has_identity" ["table"] (sp_has_identity K A) f_has_identity fd_has_identity)
    {f_is_associative : Addr} {fd_is_associative : FuncData} (c_is_associative : Cal P w K mg base CX0 2 "is_associative" ["table"] (sp_is_associative K A) f_is_associative fd_is_associative) (m_len : mg "len" = none) (m_list : mg "list" = none) (m_tuple : mg "tuple" = none) :
    FnOk P w K mg base (L2.CX P w) 3 f fd ["self", "table"] (sp_Group___init__ K A) := by
  refine fnI F sc_Group___init__ (fun s vs a h => ?_) (fun cdv A9 outer sh H0 hr C EX s1 xs dx a vs Qm eh G ho ha hm => ?_)
  · obtain ⟨v0, w0, rfl, _, h⟩ := h; cases h; rfl
  · obtain ⟨table, _⟩ := a
    obtain ⟨v_table, w_table, rfl, f_table, ha⟩ := ha
    cases ha
    have f_table : (bR C.s0 (sL (sL sI))).is C.s0 v_table table := f_table
    subst eh
    unfold Mi.Group___init__ at hm
    try dsimp only at hm
    refine ⟨_, (pss_cons (ps_if (pt_cmpR op_gt (pe_callB (k_len K rfl) (by rfl) m_len PySem.boot_len (pa_cons (pv 1) pa_nil)) (pe_glob (v := .int 32) rfl T.k_GROUP_LIMIT.choose_spec ⟨_, rfl⟩) (nomark _)) (pss_cons (ps_raise rfl (takes_of rfl rfl rfl rfl) (pmk_own PySem.F.excBase_ValueError T.ex_LimitExceeded T.g_LimitExceeded T.kp_LimitExceeded (raises_own T.bs_LimitExceeded T.ty_LimitExceeded) rfl)) pss_nil) pss_nil) (pss_cons (ps_if (pt_not (pt_val (pe_callS (E := fun _ => E0) c_has_identity.ok hr (by rfl) c_has_identity.gm c_has_identity.kp c_has_identity.bn pat0 (pa_cons (pv 1) pa_nil)))) (pss_cons (ps_raise rfl (takes_of rfl rfl rfl rfl) (pmk_own PySem.F.excBase_ValueError T.ex_InvalidGroup T.g_InvalidGroup T.kp_InvalidGroup (raises_own T.bs_InvalidGroup T.ty_InvalidGroup) rfl)) pss_nil) pss_nil) (pss_cons (ps_for (passes_of rfl) rfl (k_piL K rfl (pv 1)) (pg_name (i := 2) sc_Group___init__.nd rfl (.inl rfl)) (pss_cons (ps_if (pt_cmpR (k_niD K rfl (hu65 hr)) pe_int (pv 2) rfl) (pss_cons (ps_raise rfl (takes_of rfl rfl rfl rfl) (pmk_own PySem.F.excBase_ValueError T.ex_InvalidGroup T.g_InvalidGroup T.kp_InvalidGroup (raises_own T.bs_InvalidGroup T.ty_InvalidGroup) rfl)) pss_nil) pss_nil) pss_nil)) (pss_cons (ps_if (pt_not (pt_val (pe_callS (E := fun _ => E0) c_is_associative.ok hr (by rfl) c_is_associative.gm c_is_associative.kp c_is_associative.bn pat0 (pa_cons (pv 1) pa_nil)))) (pss_cons (ps_raise rfl (takes_of rfl rfl rfl rfl) (pmk_own PySem.F.excBase_ValueError T.ex_InvalidGroup T.g_InvalidGroup T.kp_InvalidGroup (raises_own T.bs_InvalidGroup T.ty_InvalidGroup) rfl)) pss_nil) pss_nil) (pss_cons (ps_fld (pv 0) (pe_callB (k_len K rfl) (by rfl) m_len PySem.boot_len (pa_cons (pv 1) pa_nil)) rfl) (pss_cons (ps_fld (pv 0) (pe_callTy (k_tuple K rfl) (by rfl) m_tuple (by decide +kernel) (pa_cons (pe_lc (own := [("row", 2)]) (g := gName 2) (tt := tYes) rfl sc_Group___init__.nd (k_piL K rfl (pv 1)) (blkOk_by (own := [("row", 2)]) (N := N_Group___init__) (sc := defScope st_Group___init__) (by decide +kernel)) (fun _ _ _ _ _ => pg_name (i := 2) sc_Group___init__.nd rfl (Or.inl rfl))  (fun _ _ _ _ _ => pts_nil) (fun _ _ _ _ _ => (pe_callTy (k_tuple K rfl) (by rfl) m_tuple (by decide +kernel) (pa_cons (pv 2) pa_nil)))) pa_nil)) rfl) (pss_cons (ps_fld (pv 0) (pe_callTy (k_tuple K rfl) (by rfl) m_tuple (by decide +kernel) (pa_cons (pe_lc (own := [("row", 2)]) (g := gName 2) (tt := tYes) rfl sc_Group___init__.nd (k_piL K rfl (pv 1)) (blkOk_by (own := [("row", 2)]) (N := N_Group___init__) (sc := defScope st_Group___init__) (by decide +kernel)) (fun _ _ _ _ _ => pg_name (i := 2) sc_Group___init__.nd rfl (Or.inl rfl))  (fun _ _ _ _ _ => pts_nil) (fun _ _ _ _ _ => (k_bm K rfl PySem.F.plainAttrs_list PySem.F.slot_list_index PySem.F.type_list_index (k_idx K rfl (hu65 hr)) (pe_callTy (k_list K rfl) (by rfl) m_list (by decide +kernel) (pa_cons (pv 2) pa_nil)) (pa_cons pe_int pa_nil)))) pa_nil)) rfl) pss_nil))))))), fun Q hE hQ => ?_⟩
    refine s_if1 (σ := [some (.ref xs), some v_table, none]) (s := s1) (et_test (ev_gt (ev_lenL rd_bor (ev_var (r := (bR C.s0 (sL (sL sI)))) (d := table) f_table)) ev_int)) hm G (fun s2 g1 hm => ?_) (fun s3 g1 hm => ?_)
    · have G := Gx.trans G g1
      have ho := Own1.u g1 ho
      exact hE .LimitExceeded _ hm G
    have G := Gx.trans G g1
    have ho := Own1.u g1 ho
    refine s_if1 (σ := [some (.ref xs), some v_table, none]) (s := s3) (et_not (et_B (ev_call0 (E := fun _ => E0) (ea_cons (ev_as see_borB (ev_var (r := (bR C.s0 (sL (sL sI)))) (d := table) f_table)) ea_nil)))) hm G (fun s7 g6 hm => ?_) (fun s8 g6 hm => ?_)
    · have G := Gx.trans G g6
      have ho := Own1.u g6 ho
      exact hE .InvalidGroup _ hm G
    have G := Gx.trans G g6
    have ho := Own1.u g6 ho
    refine s_for (σ := [some (.ref xs), some v_table, none]) (s := s8) (X := No) (fun u10 (a : Unit) σ' s' => Gr C.s0 s' ∧ Gx No u10 s' ∧ ∃ y_row, σ' = [some (.ref xs), some v_table, y_row]) (ei_list rd_bor newx_no (fun _ z _ => z.elim) (ev_var (r := (bR C.s0 (sL (sL sI)))) (d := table) f_table)) hm G (fun _ _ _ _ h => h.2.1) (fun u10 gu11 => ⟨(Gx.trans G gu11), (Gx.refl gu11.ok), none, rfl⟩) (fun u10 row v_row a σ' s14 gu11 hI hx Qb12 hm => ?_) (fun u10 a σ' s15 gu11 hI hm => ?_)
    · have ho := Own1.u gu11 ho
      obtain ⟨G, E, y_row, rfl⟩ := hI
      have ho := Own1.u E ho
      have f_row := hx
      refine gname_do (σ' := [some (.ref xs), some v_table, some v_row]) rfl ?_
      refine s_if1 (σ := [some (.ref xs), some v_table, some v_row]) (s := s14) (et_test (ev_niD enc_I (dpr_st enc_I) (dpr_bor (enc_L enc_I)) (Nat.le_of_ble_eq_true rfl) ev_int (ev_var (r := (bR C.s0 (sL sI))) (d := row) f_row))) hm G (fun s17 g16 hm => ?_) (fun s18 g16 hm => ?_)
      · have G := Gx.trans G g16
        have E := Gx.trans E (Gx.of_gr g16)
        have ho := Own1.u g16 ho
        exact hE .InvalidGroup _ hm G
      have G := Gx.trans G g16
      have E := Gx.trans E (Gx.of_gr g16)
      have ho := Own1.u g16 ho
      exact ⟨(), _, rfl, hm, ⟨G, E, some v_row, rfl⟩⟩
    have ho := Own1.u gu11 ho
    obtain ⟨G, E, y_row, rfl⟩ := hI
    have ho := Own1.u E ho
    refine s_if1 (σ := [some (.ref xs), some v_table, y_row]) (s := s15) (et_not (et_B (ev_call0 (E := fun _ => E0) (ea_cons (ev_as see_borB (ev_var (r := (bR C.s0 (sL (sL sI)))) (d := table) f_table)) ea_nil)))) hm G (fun s22 g21 hm => ?_) (fun s23 g21 hm => ?_)
    · have G := Gx.trans G g21
      have ho := Own1.u g21 ho
      exact hE .InvalidGroup _ hm G
    have G := Gx.trans G g21
    have ho := Own1.u g21 ho
    refine s_fld (σ := [some (.ref xs), some v_table, y_row]) (s := s23) (x := xs) (dx := dx) (fs := []) (fs' := []) (ev_lenL rd_bor (ev_var (r := (bR C.s0 (sL (sL sI)))) (d := table) f_table)) hm G ho T.cl_Group T.na_Group_order rfl (Nat.le_of_ble_eq_true rfl) (fun _ => rfl) fun d_order w_order s25 g26 G ho ff_order hm => ?_
    refine s_fld (σ := [some (.ref xs), some v_table, y_row]) (s := s25) (x := xs) (dx := dx) (fs := [("order", w_order)]) (fs' := [("order", w_order)]) (ev_tupleL rd_st sta_st (evn_ev (evn_lc (σf := fun v => [some (.ref xs), some v_table, some v]) (ei_list rd_bor newx_no (fun _ z _ => z.elim) (ev_var (r := (bR C.s0 (sL (sL sI)))) (d := table) f_table)) (fun _ => rfl) (fun _ => rfl) (fun row_27 v_row_27 t gc28 g029 f_row_27 => (ev_tupleL rd_bor (sta_bor dry_I) (ev_var (r := (bR C.s0 (sL sI))) (d := row_27) f_row_27)))))) hm G ho T.cl_Group T.na_Group_rows rfl (Nat.le_of_ble_eq_true rfl) (fun _ => rfl) fun d_rows w_rows s31 g32 G ho ff_rows hm => ?_
    have ff_order := SRep.ux g32 ff_order
    refine s_fld (σ := [some (.ref xs), some v_table, y_row]) (s := s31) (x := xs) (dx := dx) (fs := [("order", w_order), ("rows", w_rows)]) (fs' := [("order", w_order), ("rows", w_rows)]) (ev_tupleL rd_st sta_st (evn_ev (evn_lc (σf := fun v => [some (.ref xs), some v_table, some v]) (ei_list rd_bor newx_no (fun _ z _ => z.elim) (ev_var (r := (bR C.s0 (sL (sL sI)))) (d := table) f_table)) (fun _ => rfl) (fun _ => rfl) (fun row_33 v_row_33 t gc34 g035 f_row_33 => (ev_idx enc_I rd_st (dpr_st enc_I) (dpr_st (enc_L enc_I)) (Nat.le_of_ble_eq_true rfl) (evn_ev (evn_listL rd_bor (sta_bor dry_I) (ev_var (r := (bR C.s0 (sL sI))) (d := row_33) f_row_33))) ev_int))))) hm G ho T.cl_Group T.na_Group_inverses rfl (Nat.le_of_ble_eq_true rfl) (fun _ => rfl) fun d_inverses w_inverses s37 g38 G ho ff_inverses hm => ?_
    have ff_order := SRep.ux g38 ff_order
    have ff_rows := SRep.ux g38 ff_rows
    obtain ⟨z9, ez, Gz, gz, hz9⟩ := Own1.frz G ho
    rw [← ez]
    have ff_order := SRep.ux gz ff_order
    have ff_rows := SRep.ux gz ff_rows
    have ff_inverses := SRep.ux gz ff_inverses
    exact hQ _ _ hm Gz ⟨xs, dx, w_order, w_rows, w_inverses, rfl, hz9, ff_order, ff_rows, ff_inverses⟩

abbrev st_Group___eq__ : Stmt := memS 9 1
abbrev N_Group___eq__ : List Str := ["self", "other"]
theorem sc_Group___eq__ : FnScope N_Group___eq__ ["self", "other"] (defScope st_Group___eq__) := ⟨rfl, rfl, rfl, by decide +kernel, rfl, by decide +kernel, by decide +kernel⟩
abbrev sp_Group___eq__ (K : PySem.W.Frag) (A : Ad) : Sp := sp0 (aC (r_Group K A).r (aC (r_Group K A).r aN)) (fun a => Mi.Group___eq__ a.1 a.2.1) (fun _ => sB.r)
theorem ok_Group___eq__ {P : Program} {w : World} {K : PySem.W.Frag} {mg : Str → Option Value} {base : Heap} {A : Ad} (T : Mo K mg A) {f : Addr} {fd : FuncData} (F : Fun K "__eq__" "Group.__eq__" st_Group___eq__ f fd) (m_isinstance : mg "isinstance" = none) :
    FnOk P w K mg base CX0 1 f fd ["self", "other"] (sp_Group___eq__ K A) := by
  refine fn0 F sc_Group___eq__ (fun s vs a h => ?_) (fun cdv A9 outer sh EX hr C a vs Qm ok ha hm => ?_)
  · obtain ⟨v0, w0, rfl, _, h⟩ := h; obtain ⟨v1, w1, rfl, _, h⟩ := h; cases h; rfl
  · obtain ⟨self, other, _⟩ := a
    obtain ⟨v_self, w_self, rfl, f_self, ha⟩ := ha
    obtain ⟨v_other, w_other, rfl, f_other, ha⟩ := ha
    cases ha
    have G : Gr C.s0 C.s0 := Gx.refl ok
    unfold Mi.Group___eq__ at hm
    try dsimp only at hm
    refine ⟨_, (pss_cons (ps_ret (pe_and (pe_callB (k_isi K rfl) (by rfl) m_isinstance (by decide +kernel) (pa_cons (pv 1) (pa_cons (pe_glob (v := .ref A.a_Group) (by rfl) T.g_Group rfl) pa_nil))) (pe_one (pe_cmpR (k_eqD K rfl hr.units) (k_fld K rfl (pv 0) rfl) (k_fld K rfl (pv 1) rfl) (nomark _))))) pss_nil), fun Q hQ => ?_⟩
    exact s_ret (σ := [some v_self, some v_other]) (s := C.s0) (ev_andV (ev_isiV (b := true) (ov_Group T) (.own A.a_Group) T.ii_Group_Group (ev_var f_other)) (ev_eqD (enc_T (enc_T enc_I)) (dpr_st (enc_T (enc_T enc_I))) (dpr_st (enc_T (enc_T enc_I))) (Nat.le_of_ble_eq_true rfl) (ev_fld if_Group_rows T.cl_Group T.na_Group_rows (ev_var f_self)) (ev_fld if_Group_rows T.cl_Group T.na_Group_rows (ev_var f_other)))) hm G fun d v u qd g hv => hQ d v u ((fun _ q => q) d qd) g hv

abbrev st_Group_check : Stmt := memS 9 2
abbrev N_Group_check : List Str := ["self", "element"]
theorem sc_Group_check : FnScope N_Group_check ["self", "element"] (defScope st_Group_check) := ⟨rfl, rfl, rfl, by decide +kernel, rfl, by decide +kernel, by decide +kernel⟩
abbrev sp_Group_check (K : PySem.W.Frag) (A : Ad) : Sp := spX (cvf A) (aC (r_Group K A).r (aC sI.r aN)) (fun a => Mi.Group_check a.1 a.2.1) (fun _ => sU.r)
theorem ok_Group_check {P : Program} {w : World} {K : PySem.W.Frag} {mg : Str → Option Value} {base : Heap} {A : Ad} (T : Mo K mg A) {f : Addr} {fd : FuncData} (F : Fun K "check" "Group.check" st_Group_check f fd) :
    FnOk P w K mg base (L2.CX P w) 1 f fd ["self", "element"] (sp_Group_check K A) := by
  refine fnX F sc_Group_check (fun s vs a h => ?_) (fun cdv A9 outer sh hr C EX a vs Qm ok ha hm => ?_)
  · obtain ⟨v0, w0, rfl, _, h⟩ := h; obtain ⟨v1, w1, rfl, _, h⟩ := h; cases h; rfl
  · obtain ⟨self, element, _⟩ := a
    obtain ⟨v_self, w_self, rfl, f_self, ha⟩ := ha
    obtain ⟨v_element, w_element, rfl, f_element, ha⟩ := ha
    cases ha
    obtain rfl : v_element = V.int element := f_element
    have G : Gr C.s0 C.s0 := Gx.refl ok
    unfold Mi.Group_check at hm
    try dsimp only at hm
    refine ⟨_, (pss_cons (ps_if (pt_not (pt_chain op_le op_lt pe_int (pv 1) (k_fld K rfl (pv 0) rfl))) (pss_cons (ps_raise rfl (takes_of rfl rfl rfl rfl) (pmk_own PySem.F.excBase_ValueError T.ex_InvalidElement T.g_InvalidElement T.kp_InvalidElement (raises_own T.bs_InvalidElement T.ty_InvalidElement) rfl)) pss_nil) pss_nil) pss_nil), fun Q hE hQ => ?_⟩
    refine s_if1 (σ := [some v_self, some (.int element)]) (s := C.s0) (et_not (et_test (ev_chain (f := (fun i j => decide (i ≤ j))) (f' := (fun i j => decide (i < j))) rfl rfl ev_int (ev_var (r := sI.r) (d := element) rfl) (ev_fld if_Group_order T.cl_Group T.na_Group_order (ev_var f_self))))) hm G (fun s3 g2 hm => ?_) (fun s4 g2 hm => ?_)
    · have G := Gx.trans G g2
      exact hE .InvalidElement _ hm G
    have G := Gx.trans G g2
    exact hQ () .non _ ((fun _ q => q) () hm) G rfl

abbrev st_Group_multiply : Stmt := memS 9 3
abbrev N_Group_multiply : List Str := ["self", "left", "right"]
theorem sc_Group_multiply : FnScope N_Group_multiply ["self", "left", "right"] (defScope st_Group_multiply) := ⟨rfl, rfl, rfl, by decide +kernel, rfl, by decide +kernel, by decide +kernel⟩
abbrev sp_Group_multiply (K : PySem.W.Frag) (A : Ad) : Sp := spX (cvf A) (aC (r_Group K A).r (aC sI.r (aC sI.r aN))) (fun a => Mi.Group_multiply a.1 a.2.1 a.2.2.1) (fun _ => sI.r)
theorem ok_Group_multiply {P : Program} {w : World} {K : PySem.W.Frag} {mg : Str → Option Value} {base : Heap} {A : Ad} (T : Mo K mg A) {f : Addr} {fd : FuncData} (F : Fun K "multiply" "Group.multiply" st_Group_multiply f fd)
    {f_Group_check : Addr} {fd_Group_check : FuncData} (c_Group_check : CalM P w K mg base (L2.CX P w) 1 A.a_Group "check" ["self", "element"] (sp_Group_check K A) f_Group_check fd_Group_check) :
    FnOk P w K mg base (L2.CX P w) 2 f fd ["self", "left", "right"] (sp_Group_multiply K A) := by
  refine fnX F sc_Group_multiply (fun s vs a h => ?_) (fun cdv A9 outer sh hr C EX a vs Qm ok ha hm => ?_)
  · obtain ⟨v0, w0, rfl, _, h⟩ := h; obtain ⟨v1, w1, rfl, _, h⟩ := h; obtain ⟨v2, w2, rfl, _, h⟩ := h; cases h; rfl
  · obtain ⟨self, left, right, _⟩ := a
    obtain ⟨v_self, w_self, rfl, f_self, ha⟩ := ha
    obtain ⟨v_left, w_left, rfl, f_left, ha⟩ := ha
    obtain ⟨v_right, w_right, rfl, f_right, ha⟩ := ha
    cases ha
    obtain rfl : v_left = V.int left := f_left
    obtain rfl : v_right = V.int right := f_right
    have G : Gr C.s0 C.s0 := Gx.refl ok
    unfold Mi.Group_multiply at hm
    try dsimp only at hm
    refine ⟨_, (pss_cons (ps_expr (pe_mtS (E := WE (fun cls d _ H => EX cls d H)) (pv 0) T.cl_Group c_Group_check.mt c_Group_check.ok hr c_Group_check.bn (fun σ => passAt (takes_of rfl rfl rfl rfl) σ) (pa_cons (pv 1) pa_nil))) (pss_cons (ps_expr (pe_mtS (E := WE (fun cls d _ H => EX cls d H)) (pv 0) T.cl_Group c_Group_check.mt c_Group_check.ok hr c_Group_check.bn (fun σ => passAt (takes_of rfl rfl rfl rfl) σ) (pa_cons (pv 2) pa_nil))) (pss_cons (ps_ret (pe_ix (k_ixT K rfl) (pe_ix (k_ixT K rfl) (k_fld K rfl (pv 0) rfl) (pv 1) (fun _ _ => rfl)) (pv 2) (fun _ _ => rfl))) pss_nil))), fun Q hE hQ => ?_⟩
    refine s_drop (σ := [some v_self, some (.int left), some (.int right)]) (s := C.s0) (ev_mtX (E := WE (fun cls d _ H => EX cls d H)) hE io_Group (by decide) (ev_var f_self) (ea_cons (ev_var (r := sI.r) (d := left) rfl) ea_nil)) hm G fun _ s1 g2 hm => ?_
    have G := Gx.trans G g2
    have f_self := Rep.u g2 f_self
    refine s_drop (σ := [some v_self, some (.int left), some (.int right)]) (s := s1) (ev_mtX (E := WE (fun cls d _ H => EX cls d H)) hE io_Group (by decide) (ev_var f_self) (ea_cons (ev_var (r := sI.r) (d := right) rfl) ea_nil)) hm G fun _ s3 g4 hm => ?_
    have G := Gx.trans G g4
    have f_self := Rep.u g4 f_self
    exact s_ret (σ := [some v_self, some (.int left), some (.int right)]) (s := s3) (ev_ixT rd_tup (ev_ixT rd_tup (ev_fld if_Group_rows T.cl_Group T.na_Group_rows (ev_var f_self)) (ev_var (r := sI.r) (d := left) rfl)) (ev_var (r := sI.r) (d := right) rfl)) hm G fun d v u qd g hv => hQ d v u ((fun _ q => q) d qd) g hv

abbrev st_Group_inverse : Stmt := memS 9 4
abbrev N_Group_inverse : List Str := ["self", "element"]
theorem sc_Group_inverse : FnScope N_Group_inverse ["self", "element"] (defScope st_Group_inverse) := ⟨rfl, rfl, rfl, by decide +kernel, rfl, by decide +kernel, by decide +kernel⟩
abbrev sp_Group_inverse (K : PySem.W.Frag) (A : Ad) : Sp := spX (cvf A) (aC (r_Group K A).r (aC sI.r aN)) (fun a => Mi.Group_inverse a.1 a.2.1) (fun _ => sI.r)
theorem ok_Group_inverse {P : Program} {w : World} {K : PySem.W.Frag} {mg : Str → Option Value} {base : Heap} {A : Ad} (T : Mo K mg A) {f : Addr} {fd : FuncData} (F : Fun K "inverse" "Group.inverse" st_Group_inverse f fd)
    {f_Group_check : Addr} {fd_Group_check : FuncData} (c_Group_check : CalM P w K mg base (L2.CX P w) 1 A.a_Group "check" ["self", "element"] (sp_Group_check K A) f_Group_check fd_Group_check) :
    FnOk P w K mg base (L2.CX P w) 2 f fd ["self", "element"] (sp_Group_inverse K A) := by
  refine fnX F sc_Group_inverse (fun s vs a h => ?_) (fun cdv A9 outer sh hr C EX a vs Qm ok ha hm => ?_)
  · obtain ⟨v0, w0, rfl, _, h⟩ := h; obtain ⟨v1, w1, rfl, _, h⟩ := h; cases h; rfl
  · obtain ⟨self, element, _⟩ := a
    obtain ⟨v_self, w_self, rfl, f_self, ha⟩ := ha
    obtain ⟨v_element, w_element, rfl, f_element, ha⟩ := ha
    cases ha
    obtain rfl : v_element = V.int element := f_element
    have G : Gr C.s0 C.s0 := Gx.refl ok
    unfold Mi.Group_inverse at hm
    try dsimp only at hm
    refine ⟨_, (pss_cons (ps_expr (pe_mtS (E := WE (fun cls d _ H => EX cls d H)) (pv 0) T.cl_Group c_Group_check.mt c_Group_check.ok hr c_Group_check.bn (fun σ => passAt (takes_of rfl rfl rfl rfl) σ) (pa_cons (pv 1) pa_nil))) (pss_cons (ps_ret (pe_ix (k_ixT K rfl) (k_fld K rfl (pv 0) rfl) (pv 1) (fun _ _ => rfl))) pss_nil)), fun Q hE hQ => ?_⟩
    refine s_drop (σ := [some v_self, some (.int element)]) (s := C.s0) (ev_mtX (E := WE (fun cls d _ H => EX cls d H)) hE io_Group (by decide) (ev_var f_self) (ea_cons (ev_var (r := sI.r) (d := element) rfl) ea_nil)) hm G fun _ s1 g2 hm => ?_
    have G := Gx.trans G g2
    have f_self := Rep.u g2 f_self
    exact s_ret (σ := [some v_self, some (.int element)]) (s := s1) (ev_ixT rd_tup (ev_fld if_Group_inverses T.cl_Group T.na_Group_inverses (ev_var f_self)) (ev_var (r := sI.r) (d := element) rfl)) hm G fun d v u qd g hv => hQ d v u ((fun _ q => q) d qd) g hv

abbrev st_Group_order_of : Stmt := memS 9 5
abbrev N_Group_order_of : List Str := ["self", "element", "exponent", "current"]
theorem sc_Group_order_of : FnScope N_Group_order_of ["self", "element"] (defScope st_Group_order_of) := ⟨rfl, rfl, rfl, by decide +kernel, rfl, by decide +kernel, by decide +kernel⟩
abbrev sp_Group_order_of (K : PySem.W.Frag) (A : Ad) : Sp := spX (cvf A) (aC (r_Group K A).r (aC sI.r aN)) (fun a => Mi.Group_order_of a.1 a.2.1) (fun _ => sI.r)
theorem ok_Group_order_of {P : Program} {w : World} {K : PySem.W.Frag} {mg : Str → Option Value} {base : Heap} {A : Ad} (T : Mo K mg A) {f : Addr} {fd : FuncData} (F : Fun K "order_of" "Group.order_of" st_Group_order_of f fd)
    {f_Group_check : Addr} {fd_Group_check : FuncData} (c_Group_check : CalM P w K mg base (L2.CX P w) 1 A.a_Group "check" ["self", "element"] (sp_Group_check K A) f_Group_check fd_Group_check) :
    FnOk P w K mg base (L2.CX P w) 2 f fd ["self", "element"] (sp_Group_order_of K A) := by
  refine fnX F sc_Group_order_of (fun s vs a h => ?_) (fun cdv A9 outer sh hr C EX a vs Qm ok ha hm => ?_)
  · obtain ⟨v0, w0, rfl, _, h⟩ := h; obtain ⟨v1, w1, rfl, _, h⟩ := h; cases h; rfl
  · obtain ⟨self, element, _⟩ := a
    obtain ⟨v_self, w_self, rfl, f_self, ha⟩ := ha
    obtain ⟨v_element, w_element, rfl, f_element, ha⟩ := ha
    cases ha
    obtain rfl : v_element = V.int element := f_element
    have G : Gr C.s0 C.s0 := Gx.refl ok
    unfold Mi.Group_order_of at hm
    try dsimp only at hm
    refine ⟨_, (pss_cons (ps_expr (pe_mtS (E := WE (fun cls d _ H => EX cls d H)) (pv 0) T.cl_Group c_Group_check.mt c_Group_check.ok hr c_Group_check.bn (fun σ => passAt (takes_of rfl rfl rfl rfl) σ) (pa_cons (pv 1) pa_nil))) (pss_cons (ps_set (i := 2) sc_Group_order_of.nd rfl (.inl rfl) pe_int) (pss_cons (ps_set (i := 3) sc_Group_order_of.nd rfl (.inl rfl) (pv 1)) (pss_cons (ps_while (passes_of rfl) (pt_cmpR op_ne (pv 3) pe_int (nomark _)) (pss_cons (ps_set (i := 3) sc_Group_order_of.nd rfl (.inl rfl) (pe_ix (k_ixT K rfl) (pe_ix (k_ixT K rfl) (k_fld K rfl (pv 0) rfl) (pv 3) (fun _ _ => rfl)) (pv 1) (fun _ _ => rfl))) (pss_cons (ps_set (i := 2) sc_Group_order_of.nd rfl (.inl rfl) (pe_op op_add (pv 2) pe_int)) pss_nil))) (pss_cons (ps_ret (pv 2)) pss_nil))))), fun Q hE hQ => ?_⟩
    refine s_drop (σ := [some v_self, some (.int element), none, none]) (s := C.s0) (ev_mtX (E := WE (fun cls d _ H => EX cls d H)) hE io_Group (by decide) (ev_var f_self) (ea_cons (ev_var (r := sI.r) (d := element) rfl) ea_nil)) hm G fun _ s1 g2 hm => ?_
    have G := Gx.trans G g2
    have f_self := Rep.u g2 f_self
    refine s_set (σ := [some v_self, some (.int element), none, none]) (s := s1) (σf := fun v => [some v_self, some (.int element), some v, none]) ev_int hm G (fun _ => rfl) fun exponent v_exponent s4 g3 f_exponent hm => ?_
    have G := Gx.trans G g3
    have f_self := Rep.u g3 f_self
    obtain rfl : v_exponent = V.int exponent := f_exponent
    refine s_set (σ := [some v_self, some (.int element), some (.int exponent), none]) (s := s4) (σf := fun v => [some v_self, some (.int element), some (.int exponent), some v]) (ev_var (r := sI.r) (d := element) rfl) hm G (fun _ => rfl) fun current v_current s6 g5 f_current hm => ?_
    have G := Gx.trans G g5
    have f_self := Rep.u g5 f_self
    obtain rfl : v_current = V.int current := f_current
    refine s_while (σ := [some v_self, some (.int element), some (.int exponent), some (.int current)]) (s := s6) (fun (a : (Int × Int)) σ' s' => Gr C.s0 s' ∧ Gx No s6 s' ∧ σ' = [some v_self, some (.int element), some (.int a.1), some (.int a.2)]) hm (fun _ _ _ h => h.1) ⟨G, (Gx.refl G.ok), rfl⟩ (fun a σ' s7 hI => ?_) (fun a σ' s8 s9 hI g Qb hm => ?_) (fun a σ' s10 s11 hI g hm => ?_)
    · obtain ⟨exponent, current⟩ := a
      obtain ⟨G, E, rfl⟩ := hI
      have f_self := Rep.u E f_self
      exact et_exact (σ := [some v_self, some (.int element), some (.int exponent), some (.int current)]) (s := s7) (et_test (ev_neI (ev_var (r := sI.r) (d := current) rfl) ev_int)) rfl
    · obtain ⟨exponent, current⟩ := a
      obtain ⟨G, E, rfl⟩ := hI
      have f_self := Rep.u E f_self
      have G := Gx.trans G g
      have E := Gx.trans E (Gx.of_gr g)
      have f_self := Rep.u g f_self
      refine s_set (σ := [some v_self, some (.int element), some (.int exponent), some (.int current)]) (s := s9) (σf := fun v => [some v_self, some (.int element), some (.int exponent), some v]) (ev_ixT rd_tup (ev_ixT rd_tup (ev_fld if_Group_rows T.cl_Group T.na_Group_rows (ev_var f_self)) (ev_var (r := sI.r) (d := current) rfl)) (ev_var (r := sI.r) (d := element) rfl)) hm G (fun _ => rfl) fun current v_current s14 g13 f_current hm => ?_
      have G := Gx.trans G g13
      have E := Gx.trans E (Gx.of_gr g13)
      have f_self := Rep.u g13 f_self
      obtain rfl : v_current = V.int current := f_current
      refine s_set (σ := [some v_self, some (.int element), some (.int exponent), some (.int current)]) (s := s14) (σf := fun v => [some v_self, some (.int element), some v, some (.int current)]) (ev_add (ev_var (r := sI.r) (d := exponent) rfl) ev_int) hm G (fun _ => rfl) fun exponent v_exponent s16 g15 f_exponent hm => ?_
      have G := Gx.trans G g15
      have E := Gx.trans E (Gx.of_gr g15)
      have f_self := Rep.u g15 f_self
      obtain rfl : v_exponent = V.int exponent := f_exponent
      exact ⟨(exponent, current), _, rfl, hm, ⟨G, E, rfl⟩⟩
    obtain ⟨exponent, current⟩ := a
    obtain ⟨G, E, rfl⟩ := hI
    have G := Gx.trans G g
    have E := Gx.trans E (Gx.of_gr g)
    exact s_ret (σ := [some v_self, some (.int element), some (.int exponent), some (.int current)]) (s := s11) (ev_var (r := sI.r) (d := exponent) rfl) hm G fun d v u qd g hv => hQ d v u ((fun _ q => q) d qd) g hv

abbrev st_Group_power : Stmt := memS 9 6
abbrev N_Group_power : List Str := ["self", "element", "exponent", "current", "_"]
theorem sc_Group_power : FnScope N_Group_power ["self", "element", "exponent"] (defScope st_Group_power) := ⟨rfl, rfl, rfl, by decide +kernel, rfl, by decide +kernel, by decide +kernel⟩
abbrev sp_Group_power (K : PySem.W.Frag) (A : Ad) : Sp := spX (cvf A) (aC (r_Group K A).r (aC sI.r (aC sI.r aN))) (fun a => Mi.Group_power a.1 a.2.1 a.2.2.1) (fun _ => sI.r)
theorem ok_Group_power {P : Program} {w : World} {K : PySem.W.Frag} {mg : Str → Option Value} {base : Heap} {A : Ad} (T : Mo K mg A) {f : Addr} {fd : FuncData} (F : Fun K "power" "Group.power" st_Group_power f fd)
    {f_Group_order_of : Addr} {fd_Group_order_of : FuncData} (c_Group_order_of : CalM P w K mg base (L2.CX P w) 2 A.a_Group "order_of" ["self", "element"] (sp_Group_order_of K A) f_Group_order_of fd_Group_order_of) (m_range : mg "range" = none) :
    FnOk P w K mg base (L2.CX P w) 3 f fd ["self", "element", "exponent"] (sp_Group_power K A) := by
  refine fnX F sc_Group_power (fun s vs a h => ?_) (fun cdv A9 outer sh hr C EX a vs Qm ok ha hm => ?_)
  · obtain ⟨v0, w0, rfl, _, h⟩ := h; obtain ⟨v1, w1, rfl, _, h⟩ := h; obtain ⟨v2, w2, rfl, _, h⟩ := h; cases h; rfl
  · obtain ⟨self, element, exponent, _⟩ := a
    obtain ⟨v_self, w_self, rfl, f_self, ha⟩ := ha
    obtain ⟨v_element, w_element, rfl, f_element, ha⟩ := ha
    obtain ⟨v_exponent, w_exponent, rfl, f_exponent, ha⟩ := ha
    cases ha
    obtain rfl : v_element = V.int element := f_element
    obtain rfl : v_exponent = V.int exponent := f_exponent
    have G : Gr C.s0 C.s0 := Gx.refl ok
    unfold Mi.Group_power at hm
    try dsimp only at hm
    refine ⟨_, (pss_cons (ps_set (i := 3) sc_Group_power.nd rfl (.inl rfl) pe_int) (pss_cons (ps_for (passes_of rfl) rfl (pi_range1 (by rfl) m_range (pa_cons (pe_op op_modN (pv 2) (pe_mtS (E := WE (fun cls d _ H => EX cls d H)) (pv 0) T.cl_Group c_Group_order_of.mt c_Group_order_of.ok hr c_Group_order_of.bn (fun σ => passAt (takes_of rfl rfl rfl rfl) σ) (pa_cons (pv 1) pa_nil))) pa_nil)) (pg_name (i := 4) sc_Group_power.nd rfl (.inl rfl)) (pss_cons (ps_set (i := 3) sc_Group_power.nd rfl (.inl rfl) (pe_ix (k_ixT K rfl) (pe_ix (k_ixT K rfl) (k_fld K rfl (pv 0) rfl) (pv 3) (fun _ _ => rfl)) (pv 1) (fun _ _ => rfl))) pss_nil)) (pss_cons (ps_ret (pv 3)) pss_nil))), fun Q hE hQ => ?_⟩
    refine s_set (σ := [some v_self, some (.int element), some (.int exponent), none, none]) (s := C.s0) (σf := fun v => [some v_self, some (.int element), some (.int exponent), some v, none]) ev_int hm G (fun _ => rfl) fun current v_current s2 g1 f_current hm => ?_
    have G := Gx.trans G g1
    have f_self := Rep.u g1 f_self
    obtain rfl : v_current = V.int current := f_current
    refine s_for (σ := [some v_self, some (.int element), some (.int exponent), some (.int current), none]) (s := s2) (X := No) (fun u5 (a : (Int)) σ' s' => Gr C.s0 s' ∧ Gx No u5 s' ∧ ∃ y__, σ' = [some v_self, some (.int element), some (.int exponent), some (.int a), y__]) (ei_rng1 (ev_mod (ev_var (r := sI.r) (d := exponent) rfl) (ev_mtX (E := WE (fun cls d _ H => EX cls d H)) hE io_Group (by decide) (ev_var f_self) (ea_cons (ev_var (r := sI.r) (d := element) rfl) ea_nil)))) hm G (fun _ _ _ _ h => h.2.1) (fun u5 gu6 => ⟨(Gx.trans G gu6), (Gx.refl gu6.ok), none, rfl⟩) (fun u5 _ v__ a σ' s9 gu6 hI hx Qb7 hm => ?_) (fun u5 a σ' s10 gu6 hI hm => ?_)
    · have f_self := Rep.u gu6 f_self
      obtain ⟨current, ea⟩ : ∃ z, z = a := ⟨a, rfl⟩
      subst ea
      obtain ⟨G, E, y__, rfl⟩ := hI
      have f_self := Rep.u E f_self
      obtain rfl : v__ = V.int _ := hx
      refine gname_do (σ' := [some v_self, some (.int element), some (.int exponent), some (.int current), some (.int _)]) rfl ?_
      refine s_set (σ := [some v_self, some (.int element), some (.int exponent), some (.int current), some (.int _)]) (s := s9) (σf := fun v => [some v_self, some (.int element), some (.int exponent), some v, some (.int _)]) (ev_ixT rd_tup (ev_ixT rd_tup (ev_fld if_Group_rows T.cl_Group T.na_Group_rows (ev_var f_self)) (ev_var (r := sI.r) (d := current) rfl)) (ev_var (r := sI.r) (d := element) rfl)) hm G (fun _ => rfl) fun current v_current s13 g12 f_current hm => ?_
      have G := Gx.trans G g12
      have E := Gx.trans E (Gx.of_gr g12)
      have f_self := Rep.u g12 f_self
      obtain rfl : v_current = V.int current := f_current
      exact ⟨current, _, rfl, hm, ⟨G, E, some (.int _), rfl⟩⟩
    have f_self := Rep.u gu6 f_self
    obtain ⟨current, ea⟩ : ∃ z, z = a := ⟨a, rfl⟩
    subst ea
    obtain ⟨G, E, y__, rfl⟩ := hI
    exact s_ret (σ := [some v_self, some (.int element), some (.int exponent), some (.int current), y__]) (s := s10) (ev_var (r := sI.r) (d := current) rfl) hm G fun d v u qd g hv => hQ d v u ((fun _ q => q) d qd) g hv

abbrev st_Group_generated : Stmt := memS 9 7
abbrev N_Group_generated : List Str := ["self", "members", "element", "reached", "known", "place", "at", "product"]
theorem sc_Group_generated : FnScope N_Group_generated ["self", "members"] (defScope st_Group_generated) := ⟨rfl, rfl, rfl, by decide +kernel, rfl, by decide +kernel, by decide +kernel⟩
abbrev sp_Group_generated (K : PySem.W.Frag) (A : Ad) : Sp := spX (cvf A) (aC (r_Group K A).r (aC (bP (sL sI)) aN)) (fun a => Mi.Group_generated a.1 a.2.1) (fun z => nL sI z)
theorem ok_Group_generated {P : Program} {w : World} {K : PySem.W.Frag} {mg : Str → Option Value} {base : Heap} {A : Ad} (T : Mo K mg A) {f : Addr} {fd : FuncData} (F : Fun K "generated" "Group.generated" st_Group_generated f fd)
    {f_Group_check : Addr} {fd_Group_check : FuncData} (c_Group_check : CalM P w K mg base (L2.CX P w) 1 A.a_Group "check" ["self", "element"] (sp_Group_check K A) f_Group_check fd_Group_check) (m_len : mg "len" = none) (m_range : mg "range" = none) (m_sorted : mg "sorted" = none) :
    FnOk P w K mg base (L2.CX P w) 2 f fd ["self", "members"] (sp_Group_generated K A) := by
  refine fnX F sc_Group_generated (fun s vs a h => ?_) (fun cdv A9 outer sh hr C EX a vs Qm ok ha hm => ?_)
  · obtain ⟨v0, w0, rfl, _, h⟩ := h; obtain ⟨v1, w1, rfl, _, h⟩ := h; cases h; rfl
  · obtain ⟨self, members, _⟩ := a
    obtain ⟨v_self, w_self, rfl, f_self, ha⟩ := ha
    obtain ⟨v_members, w_members, rfl, f_members, ha⟩ := ha
    cases ha
    have f_members : (bR C.s0 (sL sI)).is C.s0 v_members members := f_members
    have G : Gr C.s0 C.s0 := Gx.refl ok
    unfold Mi.Group_generated at hm
    try dsimp only at hm
    refine ⟨_, (pss_cons (ps_for (passes_of rfl) rfl (k_piL K rfl (pv 1)) (pg_name (i := 2) sc_Group_generated.nd rfl (.inl rfl)) (pss_cons (ps_expr (pe_mtS (E := WE (fun cls d _ H => EX cls d H)) (pv 0) T.cl_Group c_Group_check.mt c_Group_check.ok hr c_Group_check.bn (fun σ => passAt (takes_of rfl rfl rfl rfl) σ) (pa_cons (pv 2) pa_nil))) pss_nil)) (pss_cons (ps_set (i := 3) sc_Group_generated.nd rfl (.inl rfl) (pe_lst (pa_cons pe_int pa_nil))) (pss_cons (ps_setLc (i := 4) (own := [("place", 5)]) (g := gName 5) (tt := tYes) rfl sc_Group_generated.nd rfl rfl (sw_true rfl rfl rfl (by decide +kernel)) (pi_range1 (by rfl) m_range (pa_cons (k_fld K rfl (pv 0) rfl) pa_nil)) (blkOk_by (own := [("place", 5)]) (N := N_Group_generated) (sc := defScope st_Group_generated) (by decide +kernel)) (fun _ _ _ _ _ => pg_name (i := 5) sc_Group_generated.nd rfl (Or.inl rfl))  (fun _ _ _ _ _ => pts_nil) (fun _ _ _ _ _ => (pe_cmpR op_eq (pv 5) pe_int (nomark _)))) (pss_cons (ps_set (i := 6) sc_Group_generated.nd rfl (.inl rfl) pe_int) (pss_cons (ps_while (passes_of rfl) (pt_cmpR op_lt (pv 6) (pe_callB (k_len K rfl) (by rfl) m_len PySem.boot_len (pa_cons (pv 3) pa_nil)) (nomark _)) (pss_cons (ps_for (passes_of rfl) rfl (k_piL K rfl (pv 1)) (pg_name (i := 2) sc_Group_generated.nd rfl (.inl rfl)) (pss_cons (ps_set (i := 7) sc_Group_generated.nd rfl (.inl rfl) (pe_ix (k_ixT K rfl) (pe_ix (k_ixT K rfl) (k_fld K rfl (pv 0) rfl) (pe_ix (k_ixL K rfl) (pv 3) (pv 6) (fun _ _ => rfl)) (fun _ _ => rfl)) (pv 2) (fun _ _ => rfl))) (C8.pss_cut (ps_if (pt_not (pt_val (pe_ix (k_ixL K rfl) (pv 4) (pv 7) (fun _ _ => rfl)))) (pss_cons (ps_asg pe_bl (pg_sub (pv 4) (pv 7) set_list)) (pss_cons (ps_expr (k_bm K rfl PySem.F.plainAttrs_list PySem.F.slot_list_append PySem.F.type_list_append mt_append (pv 3) (pa_cons (pv 7) pa_nil))) pss_nil)) pss_nil) pss_nil))) (pss_cons (ps_set (i := 6) sc_Group_generated.nd rfl (.inl rfl) (pe_op op_add (pv 6) pe_int)) pss_nil))) (pss_cons (ps_ret (pe_callB (k_sortedI K rfl) (by rfl) m_sorted (by decide +kernel) (pa_cons (pv 3) pa_nil))) pss_nil)))))), fun Q hE hQ => ?_⟩
    refine s_for (σ := [some v_self, some v_members, none, none, none, none, none, none]) (s := C.s0) (X := No) (fun u1 (a : Unit) σ' s' => Gr C.s0 s' ∧ Gx No u1 s' ∧ ∃ y_element, σ' = [some v_self, some v_members, y_element, none, none, none, none, none]) (ei_list rd_bor newx_no (fun _ z _ => z.elim) (ev_var (r := (bR C.s0 (sL sI))) (d := members) f_members)) hm G (fun _ _ _ _ h => h.2.1) (fun u1 gu2 => ⟨(Gx.trans G gu2), (Gx.refl gu2.ok), none, rfl⟩) (fun u1 element v_element a σ' s5 gu2 hI hx Qb3 hm => ?_) (fun u1 a σ' s6 gu2 hI hm => ?_)
    · have f_self := Rep.u gu2 f_self
      obtain ⟨G, E, y_element, rfl⟩ := hI
      have f_self := Rep.u E f_self
      obtain rfl : v_element = V.int element := hx
      refine gname_do (σ' := [some v_self, some v_members, some (.int element), none, none, none, none, none]) rfl ?_
      refine s_drop (σ := [some v_self, some v_members, some (.int element), none, none, none, none, none]) (s := s5) (ev_mtX (E := WE (fun cls d _ H => EX cls d H)) hE io_Group (by decide) (ev_var f_self) (ea_cons (ev_var (r := sI.r) (d := element) rfl) ea_nil)) hm G fun _ s7 g8 hm => ?_
      have G := Gx.trans G g8
      have E := Gx.trans E (Gx.of_gr g8)
      have f_self := Rep.u g8 f_self
      exact ⟨(), _, rfl, hm, ⟨G, E, some (.int element), rfl⟩⟩
    have f_self := Rep.u gu2 f_self
    obtain ⟨G, E, y_element, rfl⟩ := hI
    have f_self := Rep.u E f_self
    refine s_setN (σ := [some v_self, some v_members, y_element, none, none, none, none, none]) (s := s6) (σf := fun v => [some v_self, some v_members, y_element, some v, none, none, none, none]) (evn_lst (el_cons ev_int (el_nil (r := sI))) (by decide)) hm G (fun _ => rfl) fun reached p_reached11 s10 g9 hn12 f_reached hm => ?_
    have hn12 : ∀ a, a = p_reached11 → _ := fun a e => (show s6.hp a = none from by rw [e]; exact hn12)
    have G := Gx.trans G g9
    have f_self := Rep.u g9 f_self
    refine s_setN (σ := [some v_self, some v_members, y_element, some (.ref p_reached11), none, none, none, none]) (s := s10) (σf := fun v => [some v_self, some v_members, y_element, some (.ref p_reached11), some v, none, none, none]) (evn_lc (σf := fun v => [some v_self, some v_members, y_element, some (.ref p_reached11), none, some v, none, none]) (ei_rng1 (ev_fld if_Group_order T.cl_Group T.na_Group_order (ev_var f_self))) (fun _ => rfl) (fun _ => rfl) (fun place_13 v_place_13 t gc14 g015 f_place_13 => (ev_eqI (ev_var (r := sI.r) (d := place_13) f_place_13) ev_int))) hm G (fun _ => rfl) fun known p_known19 s18 g17 hn20 f_known hm => ?_
    have hn20 : ∀ a, a = p_known19 → _ := fun a e => (show s10.hp a = none from by rw [e]; exact hn20)
    have dj_p_reached11_p_known19 : ∀ a, a = p_reached11 → a = p_known19 → False := fun a e z => own_al f_reached a e (hn20 a z)
    have G := Gx.trans G g17
    have f_self := Rep.u g17 f_self
    have f_reached := Rep.u g17 f_reached
    refine s_set (σ := [some v_self, some v_members, y_element, some (.ref p_reached11), some (.ref p_known19), none, none, none]) (s := s18) (σf := fun v => [some v_self, some v_members, y_element, some (.ref p_reached11), some (.ref p_known19), none, some v, none]) ev_int hm G (fun _ => rfl) fun at' v_at' s22 g21 f_at' hm => ?_
    have G := Gx.trans G g21
    have f_self := Rep.u g21 f_self
    have f_reached := Rep.u g21 f_reached
    have f_known := Rep.u g21 f_known
    obtain rfl : v_at' = V.int at' := f_at'
    refine s_while (σ := [some v_self, some v_members, y_element, some (.ref p_reached11), some (.ref p_known19), none, some (.int at'), none]) (s := s22) (fun (a : ((List Int) × (List Bool) × Int)) σ' s' => Gr C.s0 s' ∧ Gx (fun a => a = p_reached11 ∨ (a = p_known19)) s22 s' ∧ ∃ y_element, ∃ y_product, σ' = [some v_self, some v_members, y_element, some (.ref p_reached11), some (.ref p_known19), none, some (.int a.2.2), y_product] ∧ (oL C.s0 sI p_reached11).is s' (.ref p_reached11) a.1 ∧ (oL C.s0 sB p_known19).is s' (.ref p_known19) a.2.1) hm (fun _ _ _ h => h.1) ⟨G, (Gx.refl G.ok), y_element, none, rfl, f_reached, f_known⟩ (fun a σ' s23 hI => ?_) (fun a σ' s24 s25 hI g Qb hm => ?_) (fun a σ' s26 s27 hI g hm => ?_)
    · obtain ⟨reached, known, at'⟩ := a
      obtain ⟨G, E, y_element, y_product, rfl, f_reached, f_known⟩ := hI
      have f_self := SRep.ux E f_self
      exact et_exact (σ := [some v_self, some v_members, y_element, some (.ref p_reached11), some (.ref p_known19), none, some (.int at'), y_product]) (s := s23) (et_test (ev_lt (ev_var (r := sI.r) (d := at') rfl) (ev_lenL rd_own (ev_var f_reached)))) rfl
    · obtain ⟨reached, known, at'⟩ := a
      obtain ⟨G, E, y_element, y_product, rfl, f_reached, f_known⟩ := hI
      have f_self := SRep.ux E f_self
      have hm_p_reached11 : ∀ a, a = p_reached11 → (fun a => a = p_reached11 ∨ (a = p_known19)) a ∨ s22.hp a = none := fun a z => .inl (.inl z)
      have hm_p_known19 : ∀ a, a = p_known19 → (fun a => a = p_reached11 ∨ (a = p_known19)) a ∨ s22.hp a = none := fun a z => .inl (.inr z)
      have G := Gx.trans G g
      have E := Gx.trans E (Gx.of_gr g)
      have f_self := Rep.u g f_self
      have f_reached := Rep.u g f_reached
      have f_known := Rep.u g f_known
      refine s_for (σ := [some v_self, some v_members, y_element, some (.ref p_reached11), some (.ref p_known19), none, some (.int at'), y_product]) (s := s25) (X := (fun a => a = p_reached11 ∨ (a = p_known19))) (fun u28 (a : ((List Int) × (List Bool))) σ' s' => Gr C.s0 s' ∧ Gx (fun a => a = p_reached11 ∨ (a = p_known19)) u28 s' ∧ ∃ y_element, ∃ y_product, σ' = [some v_self, some v_members, y_element, some (.ref p_reached11), some (.ref p_known19), none, some (.int at'), y_product] ∧ (oL C.s0 sI p_reached11).is s' (.ref p_reached11) a.1 ∧ (oL C.s0 sB p_known19).is s' (.ref p_known19) a.2) (ei_list rd_bor (newx_or (own_nw f_reached) (own_nw f_known)) (fun _ z _ => z.elim) (ev_var (r := (bR C.s0 (sL sI))) (d := members) f_members)) hm G (fun _ _ _ _ h => h.2.1) (fun u28 gu29 => ⟨(Gx.trans G gu29), (Gx.refl gu29.ok), y_element, y_product, rfl, (Rep.u gu29 f_reached), (Rep.u gu29 f_known)⟩) (fun u28 element v_element a σ' s32 gu29 hI hx Qb30 hm => ?_) (fun u28 a σ' s33 gu29 hI hm => ?_)
      · have f_self := Rep.u gu29 f_self
        have f_reached := Rep.u gu29 f_reached
        have f_known := Rep.u gu29 f_known
        obtain ⟨reached, known⟩ := a
        obtain ⟨G, E, y_element, y_product, rfl, f_reached, f_known⟩ := hI
        have f_self := SRep.ux E f_self
        have hm_p_reached11 : ∀ a, a = p_reached11 → (fun a => a = p_reached11 ∨ (a = p_known19)) a ∨ u28.hp a = none := fun a z => .inl (.inl z)
        have hm_p_known19 : ∀ a, a = p_known19 → (fun a => a = p_reached11 ∨ (a = p_known19)) a ∨ u28.hp a = none := fun a z => .inl (.inr z)
        obtain rfl : v_element = V.int element := hx
        refine gname_do (σ' := [some v_self, some v_members, some (.int element), some (.ref p_reached11), some (.ref p_known19), none, some (.int at'), y_product]) rfl ?_
        refine s_set (σ := [some v_self, some v_members, some (.int element), some (.ref p_reached11), some (.ref p_known19), none, some (.int at'), y_product]) (s := s32) (σf := fun v => [some v_self, some v_members, some (.int element), some (.ref p_reached11), some (.ref p_known19), none, some (.int at'), some v]) (ev_ixT rd_tup (ev_ixT rd_tup (ev_fld if_Group_rows T.cl_Group T.na_Group_rows (ev_var f_self)) (ev_ixL rd_own (ev_var f_reached) (ev_var (r := sI.r) (d := at') rfl))) (ev_var (r := sI.r) (d := element) rfl)) hm G (fun _ => rfl) fun product v_product s37 g36 f_product hm => ?_
        have G := Gx.trans G g36
        have E := Gx.trans E (Gx.of_gr g36)
        have f_self := Rep.u g36 f_self
        have f_reached := Rep.u g36 f_reached
        have f_known := Rep.u g36 f_known
        obtain rfl : v_product = V.int product := f_product
        refine s_ifj (σ := [some v_self, some v_members, some (.int element), some (.ref p_reached11), some (.ref p_known19), none, some (.int at'), some (.int product)]) (s := s37) (fun (a : ((List Int) × (List Bool))) σ' s' => Gr C.s0 s' ∧ Gx (fun a => a = p_reached11 ∨ (a = p_known19)) s37 s' ∧ σ' = [some v_self, some v_members, some (.int element), some (.ref p_reached11), some (.ref p_known19), none, some (.int at'), some (.int product)] ∧ (oL C.s0 sI p_reached11).is s' (.ref p_reached11) a.1 ∧ (oL C.s0 sB p_known19).is s' (.ref p_known19) a.2) (et_not (et_B (ev_ixL rd_own (ev_var f_known) (ev_var (r := sI.r) (d := product) rfl)))) hm G (fun s40 g39 Qb43 hm => ?_) (fun s41 g39 Qb43 hm => ?_) (fun a σ' s52 hI hm => ?_)
        · have G := Gx.trans G g39
          have E : Gx (fun a => a = p_reached11 ∨ (a = p_known19)) s37 _ := Gx.of_gr g39
          have hm_p_reached11 : ∀ a, a = p_reached11 → (fun a => a = p_reached11 ∨ (a = p_known19)) a ∨ s37.hp a = none := fun a z => .inl (.inl z)
          have hm_p_known19 : ∀ a, a = p_known19 → (fun a => a = p_reached11 ∨ (a = p_known19)) a ∨ s37.hp a = none := fun a z => .inl (.inr z)
          have f_self := Rep.u g39 f_self
          have f_reached := Rep.u g39 f_reached
          have f_known := Rep.u g39 f_known
          refine s_put (σ := [some v_self, some v_members, some (.int element), some (.ref p_reached11), some (.ref p_known19), none, some (.int at'), some (.int product)]) (s := s40) f_known (ev_var f_known) ev_bl (ev_var (r := sI.r) (d := product) rfl) hm G fun known s45 g46 G f_known hm => ?_
          have E := Gx.gx' E g46 (fun a z => (fun z => hm_p_known19 a z) z)
          have f_self := SRep.ux g46 f_self
          have f_reached := Rep.ux g46 (fun a e z => (fun z => dj_p_reached11_p_known19 a e z) z) f_reached
          refine s_app (σ := [some v_self, some v_members, some (.int element), some (.ref p_reached11), some (.ref p_known19), none, some (.int at'), some (.int product)]) (s := s45) f_reached (ev_var f_reached) (ev_var (r := sI.r) (d := product) rfl) hm G fun reached s49 g50 G f_reached hm => ?_
          have E := Gx.gx' E g50 (fun a z => (fun z => hm_p_reached11 a z) z)
          have f_self := SRep.ux g50 f_self
          have f_known := Rep.ux g50 (fun a e z => (fun z => dj_p_reached11_p_known19 a z e) z) f_known
          exact ⟨(reached, known), _, rfl, hm, ⟨G, E, rfl, f_reached, f_known⟩⟩
        · have G := Gx.trans G g39
          have E : Gx (fun a => a = p_reached11 ∨ (a = p_known19)) s37 _ := Gx.of_gr g39
          have hm_p_reached11 : ∀ a, a = p_reached11 → (fun a => a = p_reached11 ∨ (a = p_known19)) a ∨ s37.hp a = none := fun a z => .inl (.inl z)
          have hm_p_known19 : ∀ a, a = p_known19 → (fun a => a = p_reached11 ∨ (a = p_known19)) a ∨ s37.hp a = none := fun a z => .inl (.inr z)
          have f_self := Rep.u g39 f_self
          have f_reached := Rep.u g39 f_reached
          have f_known := Rep.u g39 f_known
          exact ⟨(reached, known), _, rfl, hm, ⟨G, E, rfl, f_reached, f_known⟩⟩
        have E0 := E
        obtain ⟨reached, known⟩ := a
        obtain ⟨G, E, rfl, f_reached, f_known⟩ := hI
        have f_self := SRep.ux E f_self
        have E := Gx.gx' E0 E (fun a z => (fun z => Or.elim z (fun z => hm_p_reached11 a z) (fun z => hm_p_known19 a z)) z)
        exact ⟨(reached, known), _, rfl, hm, ⟨G, E, some (.int element), some (.int product), rfl, f_reached, f_known⟩⟩
      have f_self := Rep.u gu29 f_self
      have f_reached := Rep.u gu29 f_reached
      have f_known := Rep.u gu29 f_known
      have E0 := Gx.trans E (Gx.of_gr gu29)
      obtain ⟨reached, known⟩ := a
      obtain ⟨G, E, y_element, y_product, rfl, f_reached, f_known⟩ := hI
      have f_self := SRep.ux E f_self
      have E := Gx.gx' E0 E (fun a z => (fun z => Or.elim z (fun z => hm_p_reached11 a z) (fun z => hm_p_known19 a z)) z)
      refine s_set (σ := [some v_self, some v_members, y_element, some (.ref p_reached11), some (.ref p_known19), none, some (.int at'), y_product]) (s := s33) (σf := fun v => [some v_self, some v_members, y_element, some (.ref p_reached11), some (.ref p_known19), none, some v, y_product]) (ev_add (ev_var (r := sI.r) (d := at') rfl) ev_int) hm G (fun _ => rfl) fun at' v_at' s54 g53 f_at' hm => ?_
      have G := Gx.trans G g53
      have E := Gx.trans E (Gx.of_gr g53)
      have f_self := Rep.u g53 f_self
      have f_reached := Rep.u g53 f_reached
      have f_known := Rep.u g53 f_known
      obtain rfl : v_at' = V.int at' := f_at'
      exact ⟨(reached, known, at'), _, rfl, hm, ⟨G, E, y_element, y_product, rfl, f_reached, f_known⟩⟩
    obtain ⟨reached, known, at'⟩ := a
    obtain ⟨G, E, y_element, y_product, rfl, f_reached, f_known⟩ := hI
    have G := Gx.trans G g
    have E := Gx.trans E (Gx.of_gr g)
    have f_reached := Rep.u g f_reached
    exact s_retN (σ := [some v_self, some v_members, y_element, some (.ref p_reached11), some (.ref p_known19), none, some (.int at'), y_product]) (s := s27) (evn_sorted rd_own sta_st (ev_var f_reached)) hm G fun d p u qd g hv => hQ d (.ref p) u ((fun _ q => q) d qd) g ⟨p, rfl, hv⟩

abbrev st_Group_generators : Stmt := memS 9 8
abbrev N_Group_generators : List Str := ["self", "found", "reached", "element"]
theorem sc_Group_generators : FnScope N_Group_generators ["self"] (defScope st_Group_generators) := ⟨rfl, rfl, rfl, by decide +kernel, rfl, by decide +kernel, by decide +kernel⟩
abbrev sp_Group_generators (K : PySem.W.Frag) (A : Ad) : Sp := spX (cvf A) (aC (r_Group K A).r aN) (fun a => Mi.Group_generators a.1) (fun z => nL sI z)
theorem ok_Group_generators {P : Program} {w : World} {K : PySem.W.Frag} {mg : Str → Option Value} {base : Heap} {A : Ad} (T : Mo K mg A) {f : Addr} {fd : FuncData} (F : Fun K "generators" "Group.generators" st_Group_generators f fd)
    {f_Group_generated : Addr} {fd_Group_generated : FuncData} (c_Group_generated : CalM P w K mg base (L2.CX P w) 2 A.a_Group "generated" ["self", "members"] (sp_Group_generated K A) f_Group_generated fd_Group_generated) (m_range : mg "range" = none) :
    FnOk P w K mg base (L2.CX P w) 3 f fd ["self"] (sp_Group_generators K A) := by
  refine fnX F sc_Group_generators (fun s vs a h => ?_) (fun cdv A9 outer sh hr C EX a vs Qm ok ha hm => ?_)
  · obtain ⟨v0, w0, rfl, _, h⟩ := h; cases h; rfl
  · obtain ⟨self, _⟩ := a
    obtain ⟨v_self, w_self, rfl, f_self, ha⟩ := ha
    cases ha
    have G : Gr C.s0 C.s0 := Gx.refl ok
    unfold Mi.Group_generators at hm
    try dsimp only at hm
    refine ⟨_, (pss_cons (ps_set (i := 1) sc_Group_generators.nd rfl (.inl rfl) (pe_lst pa_nil)) (pss_cons (ps_set (i := 2) sc_Group_generators.nd rfl (.inl rfl) (pe_lst (pa_cons pe_int pa_nil))) (pss_cons (ps_for (passes_of rfl) rfl (pi_range2 (by rfl) m_range (pa_cons pe_int (pa_cons (k_fld K rfl (pv 0) rfl) pa_nil))) (pg_name (i := 3) sc_Group_generators.nd rfl (.inl rfl)) (C8.pss_cut (ps_if (pt_cmpR (k_niD K rfl (hu65 hr)) (pv 3) (pv 2) rfl) (pss_cons (ps_expr (k_bm K rfl PySem.F.plainAttrs_list PySem.F.slot_list_append PySem.F.type_list_append mt_append (pv 1) (pa_cons (pv 3) pa_nil))) (pss_cons (ps_set (i := 2) sc_Group_generators.nd rfl (.inl rfl) (pe_mtS (E := WE (fun cls d _ H => EX cls d H)) (pv 0) T.cl_Group c_Group_generated.mt c_Group_generated.ok hr c_Group_generated.bn (fun σ => passAt (takes_of rfl rfl rfl rfl) σ) (pa_cons (pv 1) pa_nil))) pss_nil)) pss_nil) pss_nil)) (pss_cons (ps_ret (pv 1)) pss_nil)))), fun Q hE hQ => ?_⟩
    refine s_setN (σ := [some v_self, none, none, none]) (s := C.s0) (σf := fun v => [some v_self, some v, none, none]) (evn_lst (el_nil (r := sI)) (by decide)) hm G (fun _ => rfl) fun found p_found3 s2 g1 hn4 f_found hm => ?_
    have hn4 : ∀ a, a = p_found3 → _ := fun a e => (show C.s0.hp a = none from by rw [e]; exact hn4)
    have G := Gx.trans G g1
    have f_self := Rep.u g1 f_self
    refine s_set (σ := [some v_self, some (.ref p_found3), none, none]) (s := s2) (σf := fun v => [some v_self, some (.ref p_found3), some v, none]) (evn_ev (evn_lst (el_cons ev_int (el_nil (r := sI))) (by decide))) hm G (fun _ => rfl) fun reached v_reached s6 g5 f_reached hm => ?_
    have G := Gx.trans G g5
    have f_self := Rep.u g5 f_self
    have f_found := Rep.u g5 f_found
    refine s_for (σ := [some v_self, some (.ref p_found3), some v_reached, none]) (s := s6) (X := (fun a => a = p_found3)) (fun u7 (a : ((List Int) × (List Int))) σ' s' => Gr C.s0 s' ∧ Gx (fun a => a = p_found3) u7 s' ∧ ∃ v_reached, ∃ y_element, σ' = [some v_self, some (.ref p_found3), some v_reached, y_element] ∧ (oL C.s0 sI p_found3).is s' (.ref p_found3) a.1 ∧ (sL sI).r.is s' v_reached a.2) (ei_rng2 ev_int (ev_fld if_Group_order T.cl_Group T.na_Group_order (ev_var f_self))) hm G (fun _ _ _ _ h => h.2.1) (fun u7 gu8 => ⟨(Gx.trans G gu8), (Gx.refl gu8.ok), v_reached, none, rfl, (Rep.u gu8 f_found), (Rep.u gu8 f_reached)⟩) (fun u7 element v_element a σ' s11 gu8 hI hx Qb9 hm => ?_) (fun u7 a σ' s12 gu8 hI hm => ?_)
    · have f_self := Rep.u gu8 f_self
      have f_found := Rep.u gu8 f_found
      have f_reached := Rep.u gu8 f_reached
      obtain ⟨found, reached⟩ := a
      obtain ⟨G, E, v_reached, y_element, rfl, f_found, f_reached⟩ := hI
      have f_self := SRep.ux E f_self
      have hm_p_found3 : ∀ a, a = p_found3 → (fun a => a = p_found3) a ∨ u7.hp a = none := fun a z => .inl z
      obtain rfl : v_element = V.int element := hx
      refine gname_do (σ' := [some v_self, some (.ref p_found3), some v_reached, some (.int element)]) rfl ?_
      refine s_ifj (σ := [some v_self, some (.ref p_found3), some v_reached, some (.int element)]) (s := s11) (fun (a : ((List Int) × (List Int))) σ' s' => Gr C.s0 s' ∧ Gx (fun a => a = p_found3) s11 s' ∧ ∃ v_reached, σ' = [some v_self, some (.ref p_found3), some v_reached, some (.int element)] ∧ (oL C.s0 sI p_found3).is s' (.ref p_found3) a.1 ∧ (sL sI).r.is s' v_reached a.2) (et_test (ev_niD enc_I (dpr_st enc_I) (dpr_st (enc_L enc_I)) (Nat.le_of_ble_eq_true rfl) (ev_var (r := sI.r) (d := element) rfl) (ev_var f_reached))) hm G (fun s14 g13 Qb17 hm => ?_) (fun s15 g13 Qb17 hm => ?_) (fun a σ' s24 hI hm => ?_)
      · have G := Gx.trans G g13
        have E : Gx (fun a => a = p_found3) s11 _ := Gx.of_gr g13
        have hm_p_found3 : ∀ a, a = p_found3 → (fun a => a = p_found3) a ∨ s11.hp a = none := fun a z => .inl z
        have f_self := Rep.u g13 f_self
        have f_found := Rep.u g13 f_found
        have f_reached := Rep.u g13 f_reached
        refine s_app (σ := [some v_self, some (.ref p_found3), some v_reached, some (.int element)]) (s := s14) f_found (ev_var f_found) (ev_var (r := sI.r) (d := element) rfl) hm G fun found s19 g20 G f_found hm => ?_
        have E := Gx.gx' E g20 (fun a z => (fun z => hm_p_found3 a z) z)
        have f_self := SRep.ux g20 f_self
        refine s_set (σ := [some v_self, some (.ref p_found3), some v_reached, some (.int element)]) (s := s19) (σf := fun v => [some v_self, some (.ref p_found3), some v, some (.int element)]) (evn_ev (evn_mtX (E := WE (fun cls d _ H => EX cls d H)) hE io_Group (by decide) (ev_var f_self) (ea_cons (ev_as see_own (ev_var f_found)) ea_nil))) hm G (fun _ => rfl) fun reached v_reached s23 g22 f_reached hm => ?_
        have G := Gx.trans G g22
        have E := Gx.trans E (Gx.of_gr g22)
        have f_self := Rep.u g22 f_self
        have f_found := Rep.u g22 f_found
        exact ⟨(found, reached), _, rfl, hm, ⟨G, E, v_reached, rfl, f_found, f_reached⟩⟩
      · have G := Gx.trans G g13
        have E : Gx (fun a => a = p_found3) s11 _ := Gx.of_gr g13
        have hm_p_found3 : ∀ a, a = p_found3 → (fun a => a = p_found3) a ∨ s11.hp a = none := fun a z => .inl z
        have f_self := Rep.u g13 f_self
        have f_found := Rep.u g13 f_found
        have f_reached := Rep.u g13 f_reached
        exact ⟨(found, reached), _, rfl, hm, ⟨G, E, v_reached, rfl, f_found, f_reached⟩⟩
      have E0 := E
      obtain ⟨found, reached⟩ := a
      obtain ⟨G, E, v_reached, rfl, f_found, f_reached⟩ := hI
      have f_self := SRep.ux E f_self
      have E := Gx.gx' E0 E (fun a z => (fun z => hm_p_found3 a z) z)
      exact ⟨(found, reached), _, rfl, hm, ⟨G, E, v_reached, some (.int element), rfl, f_found, f_reached⟩⟩
    have f_self := Rep.u gu8 f_self
    have f_found := Rep.u gu8 f_found
    have f_reached := Rep.u gu8 f_reached
    obtain ⟨found, reached⟩ := a
    obtain ⟨G, E, v_reached, y_element, rfl, f_found, f_reached⟩ := hI
    exact s_ret (σ := [some v_self, some (.ref p_found3), some v_reached, y_element]) (s := s12) (ev_var f_found) hm G fun d v u qd g hv => hQ d v u ((fun _ q => q) d qd) g ⟨_, hv.1, hv⟩

abbrev st_Group_is_commutative : Stmt := memS 9 9
abbrev N_Group_is_commutative : List Str := ["self", "x", "y"]
theorem sc_Group_is_commutative : FnScope N_Group_is_commutative ["self"] (defScope st_Group_is_commutative) := ⟨rfl, rfl, rfl, by decide +kernel, rfl, by decide +kernel, by decide +kernel⟩
abbrev sp_Group_is_commutative (K : PySem.W.Frag) (A : Ad) : Sp := sp0 (aC (r_Group K A).r aN) (fun a => Mi.Group_is_commutative a.1) (fun _ => sB.r)
theorem ok_Group_is_commutative {P : Program} {w : World} {K : PySem.W.Frag} {mg : Str → Option Value} {base : Heap} {A : Ad} (T : Mo K mg A) {f : Addr} {fd : FuncData} (F : Fun K "is_commutative" "Group.is_commutative" st_Group_is_commutative f fd) (m_range : mg "range" = none) :
    FnOk P w K mg base CX0 2 f fd ["self"] (sp_Group_is_commutative K A) := by
  refine fn0 F sc_Group_is_commutative (fun s vs a h => ?_) (fun cdv A9 outer sh EX hr C a vs Qm ok ha hm => ?_)
  · obtain ⟨v0, w0, rfl, _, h⟩ := h; cases h; rfl
  · obtain ⟨self, _⟩ := a
    obtain ⟨v_self, w_self, rfl, f_self, ha⟩ := ha
    cases ha
    have G : Gr C.s0 C.s0 := Gx.refl ok
    unfold Mi.Group_is_commutative at hm
    try dsimp only at hm
    refine ⟨_, (pss_cons (ps_for PassesOwn.never rfl (pi_range1 (by rfl) m_range (pa_cons (k_fld K rfl (pv 0) rfl) pa_nil)) (pg_name (i := 1) sc_Group_is_commutative.nd rfl (.inl rfl)) (pss_cons (ps_for PassesOwn.never rfl (pi_range1 (by rfl) m_range (pa_cons (pv 1) pa_nil)) (pg_name (i := 2) sc_Group_is_commutative.nd rfl (.inl rfl)) (pss_cons (ps_if (pt_cmpR op_ne (pe_ix (k_ixT K rfl) (pe_ix (k_ixT K rfl) (k_fld K rfl (pv 0) rfl) (pv 1) (fun _ _ => rfl)) (pv 2) (fun _ _ => rfl)) (pe_ix (k_ixT K rfl) (pe_ix (k_ixT K rfl) (k_fld K rfl (pv 0) rfl) (pv 2) (fun _ _ => rfl)) (pv 1) (fun _ _ => rfl)) (nomark _)) (pss_cons (ps_ret pe_bl) pss_nil) pss_nil) pss_nil)) pss_nil)) (pss_cons (ps_ret pe_bl) pss_nil)), fun Q hQ => ?_⟩
    refine s_forc (σ := [some v_self, none, none]) (s := C.s0) (X := No) (fun u1 (a : Unit) σ' s' => Gr C.s0 s' ∧ Gx No u1 s' ∧ ∃ y_x, ∃ y_y, σ' = [some v_self, y_x, y_y]) (ei_rng1 (ev_fld if_Group_order T.cl_Group T.na_Group_order (ev_var f_self))) hm G (fun _ _ _ _ h => h.2.1) (fun u1 gu2 => ⟨(Gx.trans G gu2), (Gx.refl gu2.ok), none, none, rfl⟩) (fun u1 x v_x a σ' s5 gu2 hI hx Qb3 hrt4 hm => ?_) (fun u1 a σ' s6 gu2 hI hm => ?_)
    · have f_self := Rep.u gu2 f_self
      obtain ⟨G, E, y_x, y_y, rfl⟩ := hI
      have f_self := Rep.u E f_self
      obtain rfl : v_x = V.int x := hx
      refine gname_do (σ' := [some v_self, some (.int x), y_y]) rfl ?_
      refine s_forc (σ := [some v_self, some (.int x), y_y]) (s := s5) (X := No) (fun u7 (a : Unit) σ' s' => Gr C.s0 s' ∧ Gx No u7 s' ∧ ∃ y_y, σ' = [some v_self, some (.int x), y_y]) (ei_rng1 (ev_var (r := sI.r) (d := x) rfl)) hm G (fun _ _ _ _ h => h.2.1) (fun u7 gu8 => ⟨(Gx.trans G gu8), (Gx.refl gu8.ok), y_y, rfl⟩) (fun u7 y v_y a σ' s11 gu8 hI hx Qb9 hrt10 hm => ?_) (fun u7 a σ' s12 gu8 hI hm => ?_)
      · have f_self := Rep.u gu8 f_self
        obtain ⟨G, E, y_y, rfl⟩ := hI
        have f_self := Rep.u E f_self
        obtain rfl : v_y = V.int y := hx
        refine gname_do (σ' := [some v_self, some (.int x), some (.int y)]) rfl ?_
        refine s_if1 (σ := [some v_self, some (.int x), some (.int y)]) (s := s11) (et_test (ev_neI (ev_ixT rd_tup (ev_ixT rd_tup (ev_fld if_Group_rows T.cl_Group T.na_Group_rows (ev_var f_self)) (ev_var (r := sI.r) (d := x) rfl)) (ev_var (r := sI.r) (d := y) rfl)) (ev_ixT rd_tup (ev_ixT rd_tup (ev_fld if_Group_rows T.cl_Group T.na_Group_rows (ev_var f_self)) (ev_var (r := sI.r) (d := y) rfl)) (ev_var (r := sI.r) (d := x) rfl)))) hm G (fun s18 g17 hm => ?_) (fun s19 g17 hm => ?_)
        · have G := Gx.trans G g17
          have E := Gx.trans E (Gx.of_gr g17)
          exact s_ret (σ := [some v_self, some (.int x), some (.int y)]) (s := s18) (Qm := fun d => Qb9 (.rt d)) ev_bl hm G fun d v u qd g hv => hQ d v u ((fun d q => (fun d q => (fun _ q => q) d (hrt4 d q)) d (hrt10 d q)) d qd) g hv
        have G := Gx.trans G g17
        have E := Gx.trans E (Gx.of_gr g17)
        have f_self := Rep.u g17 f_self
        exact ⟨(), _, rfl, hm, ⟨G, E, some (.int y), rfl⟩⟩
      have f_self := Rep.u gu8 f_self
      have E0 := Gx.trans E (Gx.of_gr gu8)
      obtain ⟨G, E, y_y, rfl⟩ := hI
      have f_self := Rep.u E f_self
      have E := Gx.gx' E0 E (fun a z => (z : False).elim)
      exact ⟨(), _, rfl, hm, ⟨G, E, some (.int x), y_y, rfl⟩⟩
    have f_self := Rep.u gu2 f_self
    obtain ⟨G, E, y_x, y_y, rfl⟩ := hI
    exact s_ret (σ := [some v_self, y_x, y_y]) (s := s6) ev_bl hm G fun d v u qd g hv => hQ d v u ((fun _ q => q) d qd) g hv

abbrev st__law_bag : Stmt := topS 11
abbrev N__law_bag : List Str := ["script", "k", "cell"]
theorem sc__law_bag : FnScope N__law_bag ["script", "k"] (defScope st__law_bag) := ⟨rfl, rfl, rfl, by decide +kernel, rfl, by decide +kernel, by decide +kernel⟩
abbrev sp__law_bag (K : PySem.W.Frag) (A : Ad) : Sp := sp0 (aC (bP (sF K sI)) (aC sI.r aN)) (fun a => Mi._law_bag a.1 a.2.1) (fun _ => rG)
theorem ok__law_bag {P : Program} {w : World} {K : PySem.W.Frag} {mg : Str → Option Value} {base : Heap} {A : Ad} (T : Mo K mg A) {f : Addr} {fd : FuncData} (F : Fun K "_law_bag" "_law_bag" st__law_bag f fd) (m_abs : mg "abs" = none) (m_int : mg "int" = none) (m_len : mg "len" = none) :
    FnOk P w K mg base CX0 1 f fd ["script", "k"] (sp__law_bag K A) := by
  refine fn0 F sc__law_bag (fun s vs a h => ?_) (fun cdv A9 outer sh EX hr C a vs Qm ok ha hm => ?_)
  · obtain ⟨v0, w0, rfl, _, h⟩ := h; obtain ⟨v1, w1, rfl, _, h⟩ := h; cases h; rfl
  · obtain ⟨script, k, _⟩ := a
    obtain ⟨v_script, w_script, rfl, f_script, ha⟩ := ha
    obtain ⟨v_k, w_k, rfl, f_k, ha⟩ := ha
    cases ha
    have f_script : (bR C.s0 (sF K sI)).is C.s0 v_script script := f_script
    obtain rfl : v_k = V.int k := f_k
    have G : Gr C.s0 C.s0 := Gx.refl ok
    unfold Mi._law_bag at hm
    try dsimp only at hm
    refine ⟨_, (pss_cons (ps_set (i := 2) sc__law_bag.nd rfl (.inl rfl) pe_int) (C8.pss_cut (ps_if (pt_cmpR op_lt (pv 1) (pe_callB (k_len K rfl) (by rfl) m_len PySem.boot_len (pa_cons (pv 0) pa_nil)) (nomark _)) (pss_cons (ps_set (i := 2) sc__law_bag.nd rfl (.inl rfl) (pe_ix (k_ixL K rfl) (pv 0) (pv 1) (fun _ _ => rfl))) pss_nil) pss_nil) (pss_cons (ps_if (pt_cmpR op_ge (pe_callB call_abs (by rfl) m_abs (by decide +kernel) (pa_cons (pv 2) pa_nil)) (pe_op op_pow pe_int pe_int) (nomark _)) (pss_cons (ps_ret (pe_lst (pa_cons (pe_callB call_abs (by rfl) m_abs (by decide +kernel) (pa_cons (pv 2) pa_nil)) (pa_cons (pe_op op_modN (pe_callTy call_int1 (by rfl) m_int (by decide +kernel) (pa_cons (pe_callB call_abs (by rfl) m_abs (by decide +kernel) (pa_cons (pv 2) pa_nil)) pa_nil)) pe_int) pa_nil)))) pss_nil) pss_nil) (pss_cons (ps_ret (pe_lst (pa_cons pe_int (pa_cons (pe_op op_modN (pe_callTy call_int1 (by rfl) m_int (by decide +kernel) (pa_cons (pe_op op_add (pe_op op_mulW (pv 2) pe_int) (pe_op op_mulW pe_int (pe_op op_add (pv 1) pe_int))) pa_nil)) pe_int) pa_nil)))) pss_nil)))), fun Q hQ => ?_⟩
    refine s_set (σ := [some v_script, some (.int k), none]) (s := C.s0) (σf := fun v => [some v_script, some (.int k), some v]) ev_int hm G (fun _ => rfl) fun cell v_cell s2 g1 f_cell hm => ?_
    have G := Gx.trans G g1
    obtain rfl : v_cell = V.int cell := f_cell
    refine s_ifj (σ := [some v_script, some (.int k), some (.int cell)]) (s := s2) (fun (a : (Int)) σ' s' => Gr C.s0 s' ∧ Gx No s2 s' ∧ σ' = [some v_script, some (.int k), some (.int a)]) (et_test (ev_lt (ev_var (r := sI.r) (d := k) rfl) (ev_lenL rd_borF (ev_var (r := (bR C.s0 (sF K sI))) (d := script) f_script)))) hm G (fun s4 g3 Qb7 hm => ?_) (fun s5 g3 Qb7 hm => ?_) (fun a σ' s11 hI hm => ?_)
    · have G := Gx.trans G g3
      have E : Gx No s2 _ := Gx.of_gr g3
      refine s_set (σ := [some v_script, some (.int k), some (.int cell)]) (s := s4) (σf := fun v => [some v_script, some (.int k), some v]) (ev_as (see_dry dry_I) (ev_ixL rd_borF (ev_var (r := (bR C.s0 (sF K sI))) (d := script) f_script) (ev_var (r := sI.r) (d := k) rfl))) hm G (fun _ => rfl) fun cell v_cell s10 g9 f_cell hm => ?_
      have G := Gx.trans G g9
      have E := Gx.trans E (Gx.of_gr g9)
      obtain rfl : v_cell = V.int cell := f_cell
      exact ⟨cell, _, rfl, hm, ⟨G, E, rfl⟩⟩
    · have G := Gx.trans G g3
      have E : Gx No s2 _ := Gx.of_gr g3
      exact ⟨cell, _, rfl, hm, ⟨G, E, rfl⟩⟩
    obtain ⟨cell, ea⟩ : ∃ z, z = a := ⟨a, rfl⟩
    subst ea
    obtain ⟨G, E, rfl⟩ := hI
    refine s_if1 (σ := [some v_script, some (.int k), some (.int cell)]) (s := s11) (et_test (ev_ge (ev_abs (ev_var (r := sI.r) (d := cell) rfl)) (ev_pow ev_int ev_int))) hm G (fun s14 g13 hm => ?_) (fun s15 g13 hm => ?_)
    · have G := Gx.trans G g13
      exact s_ret (σ := [some v_script, some (.int k), some (.int cell)]) (s := s14) (ev_bag (evn_lst (el_cons (ev_abs (ev_var (r := sI.r) (d := cell) rfl)) (el_cons (ev_mod (ev_intI (ev_abs (ev_var (r := sI.r) (d := cell) rfl))) ev_int) (el_nil (r := sI)))) (by decide))) hm G fun d v u qd g hv => hQ d v u ((fun _ q => q) d qd) g hv
    have G := Gx.trans G g13
    exact s_ret (σ := [some v_script, some (.int k), some (.int cell)]) (s := s15) (ev_bag (evn_lst (el_cons ev_int (el_cons (ev_mod (ev_intI (ev_add (ev_mul (ev_var (r := sI.r) (d := cell) rfl) ev_int) (ev_mul ev_int (ev_add (ev_var (r := sI.r) (d := k) rfl) ev_int)))) ev_int) (el_nil (r := sI)))) (by decide))) hm G fun d v u qd g hv => hQ d v u ((fun _ q => q) d qd) g hv

abbrev st__law_take : Stmt := topS 12
abbrev N__law_take : List Str := ["bag", "size", "digit"]
theorem sc__law_take : FnScope N__law_take ["bag", "size"] (defScope st__law_take) := ⟨rfl, rfl, rfl, by decide +kernel, rfl, by decide +kernel, by decide +kernel⟩
abbrev sp__law_take (K : PySem.W.Frag) (A : Ad) : Sp := sp0 (aC rG (aC sI.r aN)) (fun a => Mi._law_take a.1 a.2.1) (fun _ => sI.r)
theorem ok__law_take {P : Program} {w : World} {K : PySem.W.Frag} {mg : Str → Option Value} {base : Heap} {A : Ad} (T : Mo K mg A) {f : Addr} {fd : FuncData} (F : Fun K "_law_take" "_law_take" st__law_take f fd) (m_int : mg "int" = none) : FnOk P w K mg base CX0 1 f fd ["bag", "size"] (sp__law_take K A) := by
  refine fn0 F sc__law_take (fun s vs a h => ?_) (fun cdv A9 outer sh E0 hr C a vs Qm ok ha hm => ?_)
  · obtain ⟨v0, w0, rfl, _, h⟩ := h; obtain ⟨v1, w1, rfl, _, h⟩ := h; cases h; rfl
  · obtain ⟨_, size, _⟩ := a
    obtain ⟨v_bag, w_bag, rfl, ⟨p, rfl, hb⟩, ha⟩ := ha
    obtain ⟨v_size, w_size, rfl, f_size, ha⟩ := ha
    cases ha
    obtain rfl : v_size = V.int size := f_size
    obtain ⟨hst, i, j, hh⟩ := ok.bag p hb
    obtain ⟨⟨h0, h1⟩, hq⟩ := hm
    have h0 : 0 < size := h0
    have fin : ∀ (r : Int) (u : S), 0 ≤ r → r < size → Gr C.s0 u → ∀ Q : VK, (∀ d v u, Qm d → Gr C.s0 u → sI.r.is u v d → Q v u.hp) → Q (.int r) u.hp := fun r u hr0 hr1 g Q hQ => hQ r _ u (hq r hr0 hr1) g rfl
    have sq : ∀ (u : S) (x y : Int), u.hp p = some (.lst [.int x, .int y]) → SqL K u.hp p [.int x, .int y] := fun u x y e => sqL_of e
    refine ⟨_, (pss_cons (ps_if (pt_cmpR op_ge (pe_ix ix_list (pv 0) pe_int (fun _ _ => rfl)) (pv 1) (nomark _))
      (pss_cons (ps_set (i := 2) sc__law_take.nd rfl (.inl rfl) (pe_op op_modN (pe_callTy call_int1 (by rfl) m_int (by decide +kernel) (pa_cons (pe_ix ix_list (pv 0) pe_int (fun _ _ => rfl)) pa_nil)) (pv 1)))
        (pss_cons (ps_asg (pe_op op_fdivG (pe_ix ix_list (pv 0) pe_int (fun _ _ => rfl)) (pv 1)) (pg_sub (pv 0) pe_int set_list)) (pss_cons (ps_ret (pv 2)) pss_nil))) pss_nil)
      (pss_cons (ps_asg (pe_op op_modN (pe_callTy call_int1 (by rfl) m_int (by decide +kernel) (pa_cons (pe_op op_add (pe_op op_mul (pe_ix ix_list (pv 0) pe_int (fun _ _ => rfl)) pe_int) pe_int) pa_nil)) pe_int) (pg_sub (pv 0) pe_int set_list))
      (pss_cons (ps_asg (pe_op op_modN (pe_callTy call_int1 (by rfl) m_int (by decide +kernel) (pa_cons (pe_op op_add (pe_op op_mul (pe_ix ix_list (pv 0) pe_int (fun _ _ => rfl)) pe_int) pe_int) pa_nil)) pe_int) (pg_sub (pv 0) pe_int set_list))
      (pss_cons (ps_ret (pe_op op_modN (pe_callTy call_int1 (by rfl) m_int (by decide +kernel) (pa_cons (pe_op op_fdivG (pe_ix ix_list (pv 0) pe_int (fun _ _ => rfl)) pe_int) pa_nil)) (pv 1))) pss_nil)))), fun Q hQ => ?_⟩
    refine ⟨.ref p, rfl, p, _, 0, .int i, rfl, rfl, sq _ _ _ hh, rfl, .int size, rfl, i, size, rfl, rfl, _, rfl, ite2 (fun e => ?_) (fun e => ?_)⟩
    · refine ⟨.ref p, rfl, p, _, 0, .int i, rfl, rfl, sq _ _ _ hh, rfl, .inl ⟨i, rfl, .int size, rfl, i, size, rfl, rfl, by omega, ?_⟩⟩
      refine ⟨.ref p, rfl, p, _, 0, .int i, rfl, rfl, sq _ _ _ hh, rfl, .int size, rfl, i, size, rfl, rfl, ⟨by omega, h1⟩, .ref p, rfl, p, _, 0, 0, rfl, rfl, hh, rfl, .int (i.fmod size), rfl, ?_⟩
      exact fin _ (wr C.s0 p _) (Int.fmod_nonneg_of_pos _ h0) (Int.fmod_lt_of_pos _ h0) (bag_gr ok hb) Q hQ
    · have m1 : ((48271 : Int) < 2 ^ 64) := by decide
      refine ⟨.ref p, rfl, p, _, 1, .int j, rfl, rfl, sq _ _ _ hh, rfl, j, 48271, rfl, rfl, .inr ⟨by decide, by decide⟩, _, 11, rfl, rfl, .inl ⟨_, rfl, _, 2147483647, rfl, rfl, (by show (2147483647 : Int) ≠ 0; decide), .ref p, rfl, p, _, 1, 1, rfl, rfl, hh, rfl, ?_⟩⟩
      have g1 := bag_gr (i := i) (j := (j * 48271 + 11).fmod 2147483647) ok hb
      have hb1 := g1.bg p hb
      have hh1 : (wr C.s0 p (.lst [.int i, .int ((j * 48271 + 11).fmod 2147483647)])).hp p = some (.lst [.int i, .int ((j * 48271 + 11).fmod 2147483647)]) := upd_same
      refine ⟨.ref p, rfl, p, _, 1, .int ((j * 48271 + 11).fmod 2147483647), rfl, rfl, sq _ _ _ hh1, rfl, _, 69621, rfl, rfl, .inr ⟨by decide, by decide⟩, _, 1013, rfl, rfl, .inl ⟨_, rfl, _, 2147483629, rfl, rfl, (by show (2147483629 : Int) ≠ 0; decide), .ref p, rfl, p, _, 1, 1, rfl, rfl, hh1, rfl, ?_⟩⟩
      have g2 := bag_gr (i := i) (j := (((j * 48271 + 11).fmod 2147483647) * 69621 + 1013).fmod 2147483629) g1.ok hb1
      refine ⟨.ref p, rfl, p, _, 1, .int ((((j * 48271 + 11).fmod 2147483647) * 69621 + 1013).fmod 2147483629), rfl, rfl, sqL_of upd_same, rfl, _, 8, rfl, rfl, ⟨by decide, by decide +kernel⟩, .inl ⟨_, rfl, .int size, rfl, _, size, rfl, rfl, by omega, ?_⟩⟩
      exact fin _ (wr (wr C.s0 p _) p _) (Int.fmod_nonneg_of_pos _ h0) (Int.fmod_lt_of_pos _ h0) (g1.trans g2) Q hQ

abbrev st__law_power : Stmt := topS 13
abbrev N__law_power : List Str := ["base", "times", "modulus", "result", "step"]
theorem sc__law_power : FnScope N__law_power ["base", "times", "modulus"] (defScope st__law_power) := ⟨rfl, rfl, rfl, by decide +kernel, rfl, by decide +kernel, by decide +kernel⟩
abbrev sp__law_power (K : PySem.W.Frag) (A : Ad) : Sp := sp0 (aC sI.r (aC sI.r (aC sI.r aN))) (fun a => Mi._law_power a.1 a.2.1 a.2.2.1) (fun _ => sI.r)
theorem ok__law_power {P : Program} {w : World} {K : PySem.W.Frag} {mg : Str → Option Value} {base : Heap} {A : Ad} (T : Mo K mg A) {f : Addr} {fd : FuncData} (F : Fun K "_law_power" "_law_power" st__law_power f fd) (m_int : mg "int" = none) (m_range : mg "range" = none) :
    FnOk P w K mg base CX0 1 f fd ["base", "times", "modulus"] (sp__law_power K A) := by
  refine fn0 F sc__law_power (fun s vs a h => ?_) (fun cdv A9 outer sh EX hr C a vs Qm ok ha hm => ?_)
  · obtain ⟨v0, w0, rfl, _, h⟩ := h; obtain ⟨v1, w1, rfl, _, h⟩ := h; obtain ⟨v2, w2, rfl, _, h⟩ := h; cases h; rfl
  · obtain ⟨base, times, modulus, _⟩ := a
    obtain ⟨v_base, w_base, rfl, f_base, ha⟩ := ha
    obtain ⟨v_times, w_times, rfl, f_times, ha⟩ := ha
    obtain ⟨v_modulus, w_modulus, rfl, f_modulus, ha⟩ := ha
    cases ha
    obtain rfl : v_base = V.int base := f_base
    obtain rfl : v_times = V.int times := f_times
    obtain rfl : v_modulus = V.int modulus := f_modulus
    have G : Gr C.s0 C.s0 := Gx.refl ok
    unfold Mi._law_power at hm
    try dsimp only at hm
    refine ⟨_, (pss_cons (ps_set (i := 3) sc__law_power.nd rfl (.inl rfl) (pe_op op_modN (pe_callTy call_int1 (by rfl) m_int (by decide +kernel) (pa_cons pe_int pa_nil)) (pv 2))) (pss_cons (ps_for PassesOwn.never rfl (pi_range1 (by rfl) m_range (pa_cons (pv 1) pa_nil)) (pg_name (i := 4) sc__law_power.nd rfl (.inl rfl)) (pss_cons (ps_set (i := 3) sc__law_power.nd rfl (.inl rfl) (pe_op op_modN (pe_callTy call_int1 (by rfl) m_int (by decide +kernel) (pa_cons (pe_op op_mulW (pv 3) (pv 0)) pa_nil)) (pv 2))) pss_nil)) (pss_cons (ps_ret (pv 3)) pss_nil))), fun Q hQ => ?_⟩
    refine s_set (σ := [some (.int base), some (.int times), some (.int modulus), none, none]) (s := C.s0) (σf := fun v => [some (.int base), some (.int times), some (.int modulus), some v, none]) (ev_mod (ev_intI ev_int) (ev_var (r := sI.r) (d := modulus) rfl)) hm G (fun _ => rfl) fun result v_result s2 g1 f_result hm => ?_
    have G := Gx.trans G g1
    obtain rfl : v_result = V.int result := f_result
    refine s_for (σ := [some (.int base), some (.int times), some (.int modulus), some (.int result), none]) (s := s2) (X := No) (fun u3 (a : (Int)) σ' s' => Gr C.s0 s' ∧ Gx No u3 s' ∧ ∃ y_step, σ' = [some (.int base), some (.int times), some (.int modulus), some (.int a), y_step]) (ei_rng1 (ev_var (r := sI.r) (d := times) rfl)) hm G (fun _ _ _ _ h => h.2.1) (fun u3 gu4 => ⟨(Gx.trans G gu4), (Gx.refl gu4.ok), none, rfl⟩) (fun u3 step v_step a σ' s7 gu4 hI hx Qb5 hm => ?_) (fun u3 a σ' s8 gu4 hI hm => ?_)
    · obtain ⟨result, ea⟩ : ∃ z, z = a := ⟨a, rfl⟩
      subst ea
      obtain ⟨G, E, y_step, rfl⟩ := hI
      obtain rfl : v_step = V.int step := hx
      refine gname_do (σ' := [some (.int base), some (.int times), some (.int modulus), some (.int result), some (.int step)]) rfl ?_
      refine s_set (σ := [some (.int base), some (.int times), some (.int modulus), some (.int result), some (.int step)]) (s := s7) (σf := fun v => [some (.int base), some (.int times), some (.int modulus), some v, some (.int step)]) (ev_mod (ev_intI (ev_mul (ev_var (r := sI.r) (d := result) rfl) (ev_var (r := sI.r) (d := base) rfl))) (ev_var (r := sI.r) (d := modulus) rfl)) hm G (fun _ => rfl) fun result v_result s11 g10 f_result hm => ?_
      have G := Gx.trans G g10
      have E := Gx.trans E (Gx.of_gr g10)
      obtain rfl : v_result = V.int result := f_result
      exact ⟨result, _, rfl, hm, ⟨G, E, some (.int step), rfl⟩⟩
    obtain ⟨result, ea⟩ : ∃ z, z = a := ⟨a, rfl⟩
    subst ea
    obtain ⟨G, E, y_step, rfl⟩ := hI
    exact s_ret (σ := [some (.int base), some (.int times), some (.int modulus), some (.int result), y_step]) (s := s8) (ev_var (r := sI.r) (d := result) rfl) hm G fun d v u qd g hv => hQ d v u ((fun _ q => q) d qd) g hv

abbrev st__law_metacyclic : Stmt := topS 14
abbrev N__law_metacyclic : List Str := ["bag", "limit", "n", "m", "k", "pairs", "r", "s", "twisted", "pair", "table", "x", "turn", "row", "y", "a", "b"]
theorem sc__law_metacyclic : FnScope N__law_metacyclic ["bag", "limit"] (defScope st__law_metacyclic) := ⟨rfl, rfl, rfl, by decide +kernel, rfl, by decide +kernel, by decide +kernel⟩
abbrev sp__law_metacyclic (K : PySem.W.Frag) (A : Ad) : Sp := sp0 (aC rG (aC sI.r aN)) (fun a => Mi._law_metacyclic a.1 a.2.1) (fun _ => (sL (sL sI)).r)
theorem ok__law_metacyclic {P : Program} {w : World} {K : PySem.W.Frag} {mg : Str → Option Value} {base : Heap} {A : Ad} (T : Mo K mg A) {f : Addr} {fd : FuncData} (F : Fun K "_law_metacyclic" "_law_metacyclic" st__law_metacyclic f fd)
    {f__law_take : Addr} {fd__law_take : FuncData} (c__law_take : Cal P w K mg base CX0 1 "_law_take" ["bag", "size"] (sp__law_take K A) f__law_take fd__law_take)
    {f__law_power : Addr} {fd__law_power : FuncData} (c__law_power : Cal P w K mg base CX0 1 "_law_power" ["base", "times", "modulus"] (sp__law_power K A) f__law_power fd__law_power) (m_int : mg "int" = none) (m_len : mg "len" = none) (m_range : mg "range" = none) :
    FnOk P w K mg base CX0 2 f fd ["bag", "limit"] (sp__law_metacyclic K A) := by
  refine fn0 F sc__law_metacyclic (fun s vs a h => ?_) (fun cdv A9 outer sh EX hr C a vs Qm ok ha hm => ?_)
  · obtain ⟨v0, w0, rfl, _, h⟩ := h; obtain ⟨v1, w1, rfl, _, h⟩ := h; cases h; rfl
  · obtain ⟨bag, limit, _⟩ := a
    obtain ⟨v_bag, w_bag, rfl, f_bag, ha⟩ := ha
    obtain ⟨v_limit, w_limit, rfl, f_limit, ha⟩ := ha
    cases ha
    obtain rfl : v_limit = V.int limit := f_limit
    have G : Gr C.s0 C.s0 := Gx.refl ok
    unfold Mi._law_metacyclic at hm
    try dsimp only at hm
    refine ⟨_, (pss_cons (ps_set (i := 2) sc__law_metacyclic.nd rfl (.inl rfl) (pe_op op_add pe_int (pe_callS (E := fun _ => E0) c__law_take.ok hr (by rfl) c__law_take.gm c__law_take.kp c__law_take.bn pat0 (pa_cons (pv 0) (pa_cons (pv 1) pa_nil))))) (pss_cons (ps_set (i := 3) sc__law_metacyclic.nd rfl (.inl rfl) (pe_op op_add pe_int (pe_callS (E := fun _ => E0) c__law_take.ok hr (by rfl) c__law_take.gm c__law_take.kp c__law_take.bn pat0 (pa_cons (pv 0) (pa_cons (pe_op op_fdivG (pv 1) (pv 2)) pa_nil))))) (C8.pss_cut (ps_if (PW.pt (pw_and (pt_cmpR op_gt (pv 1) pe_int (nomark _)) (pw_and1 (pt_cmpR op_eq (pe_callS (E := fun _ => E0) c__law_take.ok hr (by rfl) c__law_take.gm c__law_take.kp c__law_take.bn pat0 (pa_cons (pv 0) (pa_cons pe_int pa_nil))) pe_int (nomark _))))) (pss_cons (ps_set (i := 2) sc__law_metacyclic.nd rfl (.inl rfl) (pe_op op_add pe_int (pe_callS (E := fun _ => E0) c__law_take.ok hr (by rfl) c__law_take.gm c__law_take.kp c__law_take.bn pat0 (pa_cons (pv 0) (pa_cons (pe_op op_sub (pe_op op_fdivG (pv 1) pe_int) pe_int) pa_nil))))) (pss_cons (ps_set (i := 3) sc__law_metacyclic.nd rfl (.inl rfl) pe_int) pss_nil)) pss_nil) (pss_cons (ps_set (i := 4) sc__law_metacyclic.nd rfl (.inl rfl) (pe_op op_add pe_int (pe_callS (E := fun _ => E0) c__law_take.ok hr (by rfl) c__law_take.gm c__law_take.kp c__law_take.bn pat0 (pa_cons (pv 0) (pa_cons (pe_op op_fdivG (pv 1) (pe_op op_mulW (pv 2) (pv 3))) pa_nil))))) (pss_cons (ps_set (i := 5) sc__law_metacyclic.nd rfl (.inl rfl) (pe_lst pa_nil)) (pss_cons (ps_for PassesOwn.never rfl (pi_range2 (by rfl) m_range (pa_cons pe_int (pa_cons (pe_op op_add (pv 2) pe_int) pa_nil))) (pg_name (i := 6) sc__law_metacyclic.nd rfl (.inl rfl)) (pss_cons (ps_for PassesOwn.never rfl (pi_range1 (by rfl) m_range (pa_cons (pv 2) pa_nil)) (pg_name (i := 7) sc__law_metacyclic.nd rfl (.inl rfl)) (C8.pss_cut (ps_if (PW.pt (pw_and (pt_cmpR op_eq (pe_callS (E := fun _ => E0) c__law_power.ok hr (by rfl) c__law_power.gm c__law_power.kp c__law_power.bn pat0 (pa_cons (pv 6) (pa_cons (pv 3) (pa_cons (pv 2) pa_nil)))) (pe_op op_modN (pe_callTy call_int1 (by rfl) m_int (by decide +kernel) (pa_cons pe_int pa_nil)) (pv 2)) (nomark _)) (pw_and1 (pt_cmpR op_eq (pe_op op_modN (pe_callTy call_int1 (by rfl) m_int (by decide +kernel) (pa_cons (pe_op op_mulW (pe_op op_sub (pv 6) pe_int) (pv 7)) pa_nil)) (pv 2)) pe_int (nomark _))))) (pss_cons (ps_expr (k_bm K rfl PySem.F.plainAttrs_list PySem.F.slot_list_append PySem.F.type_list_append mt_append (pv 5) (pa_cons (pe_tup (pa_cons (pv 6) (pa_cons (pv 7) pa_nil))) pa_nil))) pss_nil) pss_nil) pss_nil)) pss_nil)) (pss_cons (ps_setLc (i := 8) (own := [("pair", 9)]) (g := gName 9) rfl sc__law_metacyclic.nd rfl rfl (sw_true rfl rfl rfl (by decide +kernel)) (k_piL K rfl (pv 5)) (blkOk_by (own := [("pair", 9)]) (N := N__law_metacyclic) (sc := defScope st__law_metacyclic) (by decide +kernel)) (fun _ _ _ _ _ => pg_name (i := 9) sc__law_metacyclic.nd rfl (Or.inl rfl))  (fun _ _ _ _ _ => pts_one (pt_cmpR op_gt (pe_ix (k_ixT K rfl) (pv 9) pe_int (fun _ _ => rfl)) pe_int (nomark _))) (fun _ _ _ _ _ => (pv 9))) (C8.pss_cut (ps_if (PW.pt (pw_and (pt_cmpR op_gt (pe_callB (k_len K rfl) (by rfl) m_len PySem.boot_len (pa_cons (pv 8) pa_nil)) pe_int (nomark _)) (pw_and1 (pt_cmpR op_gt (pe_callS (E := fun _ => E0) c__law_take.ok hr (by rfl) c__law_take.gm c__law_take.kp c__law_take.bn pat0 (pa_cons (pv 0) (pa_cons pe_int pa_nil))) pe_int (nomark _))))) (pss_cons (ps_set (i := 5) sc__law_metacyclic.nd rfl (.inl rfl) (pv 8)) pss_nil) pss_nil) (pss_cons (ps_set (i := 9) sc__law_metacyclic.nd rfl (.inl rfl) (pe_ix (k_ixL K rfl) (pv 5) (pe_callS (E := fun _ => E0) c__law_take.ok hr (by rfl) c__law_take.gm c__law_take.kp c__law_take.bn pat0 (pa_cons (pv 0) (pa_cons (pe_callB (k_len K rfl) (by rfl) m_len PySem.boot_len (pa_cons (pv 5) pa_nil)) pa_nil))) (fun _ _ => rfl))) (pss_cons (ps_set (i := 10) sc__law_metacyclic.nd rfl (.inl rfl) (pe_lst pa_nil)) (pss_cons (ps_for PassesOwn.never rfl (pi_range1 (by rfl) m_range (pa_cons (pe_op op_mulW (pe_op op_mulW (pv 2) (pv 3)) (pv 4)) pa_nil)) (pg_name (i := 11) sc__law_metacyclic.nd rfl (.inl rfl)) (pss_cons (ps_set (i := 12) sc__law_metacyclic.nd rfl (.inl rfl) (pe_callS (E := fun _ => E0) c__law_power.ok hr (by rfl) c__law_power.gm c__law_power.kp c__law_power.bn pat0 (pa_cons (pe_ix (k_ixT K rfl) (pv 9) pe_int (fun _ _ => rfl)) (pa_cons (pe_op op_modN (pe_callTy call_int1 (by rfl) m_int (by decide +kernel) (pa_cons (pe_op op_fdivG (pv 11) (pv 4)) pa_nil)) (pv 3)) (pa_cons (pv 2) pa_nil))))) (pss_cons (ps_set (i := 13) sc__law_metacyclic.nd rfl (.inl rfl) (pe_lst pa_nil)) (pss_cons (ps_for PassesOwn.never rfl (pi_range1 (by rfl) m_range (pa_cons (pe_op op_mulW (pe_op op_mulW (pv 2) (pv 3)) (pv 4)) pa_nil)) (pg_name (i := 14) sc__law_metacyclic.nd rfl (.inl rfl)) (pss_cons (ps_set (i := 15) sc__law_metacyclic.nd rfl (.inl rfl) (pe_op op_add (pe_op op_fdivG (pv 11) (pe_op op_mulW (pv 3) (pv 4))) (pe_op op_mulW (pv 12) (pe_op op_fdivG (pv 14) (pe_op op_mulW (pv 3) (pv 4)))))) (pss_cons (ps_set (i := 16) sc__law_metacyclic.nd rfl (.inl rfl) (pe_op op_add (pe_op op_modN (pe_callTy call_int1 (by rfl) m_int (by decide +kernel) (pa_cons (pe_op op_fdivG (pv 11) (pv 4)) pa_nil)) (pv 3)) (pe_op op_modN (pe_callTy call_int1 (by rfl) m_int (by decide +kernel) (pa_cons (pe_op op_fdivG (pv 14) (pv 4)) pa_nil)) (pv 3)))) (C8.pss_cut (ps_if (pt_cmpR op_ge (pv 16) (pv 3) (nomark _)) (pss_cons (ps_set (i := 15) sc__law_metacyclic.nd rfl (.inl rfl) (pe_op op_add (pv 15) (pe_ix (k_ixT K rfl) (pv 9) pe_int (fun _ _ => rfl)))) pss_nil) pss_nil) (pss_cons (ps_expr (k_bm K rfl PySem.F.plainAttrs_list PySem.F.slot_list_append PySem.F.type_list_append mt_append (pv 13) (pa_cons (pe_op op_add (pe_op op_mulW (pe_op op_add (pe_op op_mulW (pe_op op_modN (pe_callTy call_int1 (by rfl) m_int (by decide +kernel) (pa_cons (pv 15) pa_nil)) (pv 2)) (pv 3)) (pe_op op_modN (pe_callTy call_int1 (by rfl) m_int (by decide +kernel) (pa_cons (pv 16) pa_nil)) (pv 3))) (pv 4)) (pe_op op_modN (pe_callTy call_int1 (by rfl) m_int (by decide +kernel) (pa_cons (pe_op op_add (pv 11) (pv 14)) pa_nil)) (pv 4))) pa_nil))) pss_nil))))) (pss_cons (ps_expr (k_bm K rfl PySem.F.plainAttrs_list PySem.F.slot_list_append PySem.F.type_list_append mt_append (pv 10) (pa_cons (pv 13) pa_nil))) pss_nil))))) (pss_cons (ps_ret (pv 10)) pss_nil)))))))))))), fun Q hQ => ?_⟩
    refine s_set (σ := [some v_bag, some (.int limit), none, none, none, none, none, none, none, none, none, none, none, none, none, none, none]) (s := C.s0) (σf := fun v => [some v_bag, some (.int limit), some v, none, none, none, none, none, none, none, none, none, none, none, none, none, none]) (ev_add ev_int (ev_call0 (E := fun _ => E0) (ea_cons (ev_var (d := ()) f_bag) (ea_cons (ev_var (r := sI.r) (d := limit) rfl) ea_nil)))) hm G (fun _ => rfl) fun n v_n s3 g2 f_n hm => ?_
    have G := Gx.trans G g2
    have f_bag := Rep.u g2 f_bag
    obtain rfl : v_n = V.int n := f_n
    refine s_set (σ := [some v_bag, some (.int limit), some (.int n), none, none, none, none, none, none, none, none, none, none, none, none, none, none]) (s := s3) (σf := fun v => [some v_bag, some (.int limit), some (.int n), some v, none, none, none, none, none, none, none, none, none, none, none, none, none]) (ev_add ev_int (ev_call0 (E := fun _ => E0) (ea_cons (ev_var (d := ()) f_bag) (ea_cons (ev_div (ev_var (r := sI.r) (d := limit) rfl) (ev_var (r := sI.r) (d := n) rfl)) ea_nil)))) hm G (fun _ => rfl) fun m v_m s7 g6 f_m hm => ?_
    have G := Gx.trans G g6
    have f_bag := Rep.u g6 f_bag
    obtain rfl : v_m = V.int m := f_m
    refine s_ifj (σ := [some v_bag, some (.int limit), some (.int n), some (.int m), none, none, none, none, none, none, none, none, none, none, none, none, none]) (s := s7) (fun (a : (Int × Int)) σ' s' => Gr C.s0 s' ∧ Gx No s7 s' ∧ σ' = [some v_bag, some (.int limit), some (.int a.1), some (.int a.2), none, none, none, none, none, none, none, none, none, none, none, none, none]) (et_and (et_test (ev_gt (ev_var (r := sI.r) (d := limit) rfl) ev_int)) (et_test (ev_eqI (ev_call0 (E := fun _ => E0) (ea_cons (ev_var (d := ()) f_bag) (ea_cons ev_int ea_nil))) ev_int))) hm G (fun s11 g10 Qb17 hm => ?_) (fun s12 g10 Qb17 hm => ?_) (fun a σ' s26 hI hm => ?_)
    · have G := Gx.trans G g10
      have E : Gx No s7 _ := Gx.of_gr g10
      have f_bag := Rep.u g10 f_bag
      refine s_set (σ := [some v_bag, some (.int limit), some (.int n), some (.int m), none, none, none, none, none, none, none, none, none, none, none, none, none]) (s := s11) (σf := fun v => [some v_bag, some (.int limit), some v, some (.int m), none, none, none, none, none, none, none, none, none, none, none, none, none]) (ev_add ev_int (ev_call0 (E := fun _ => E0) (ea_cons (ev_var (d := ()) f_bag) (ea_cons (ev_sub (ev_div (ev_var (r := sI.r) (d := limit) rfl) ev_int) ev_int) ea_nil)))) hm G (fun _ => rfl) fun n v_n s23 g22 f_n hm => ?_
      have G := Gx.trans G g22
      have E := Gx.trans E (Gx.of_gr g22)
      have f_bag := Rep.u g22 f_bag
      obtain rfl : v_n = V.int n := f_n
      refine s_set (σ := [some v_bag, some (.int limit), some (.int n), some (.int m), none, none, none, none, none, none, none, none, none, none, none, none, none]) (s := s23) (σf := fun v => [some v_bag, some (.int limit), some (.int n), some v, none, none, none, none, none, none, none, none, none, none, none, none, none]) ev_int hm G (fun _ => rfl) fun m v_m s25 g24 f_m hm => ?_
      have G := Gx.trans G g24
      have E := Gx.trans E (Gx.of_gr g24)
      have f_bag := Rep.u g24 f_bag
      obtain rfl : v_m = V.int m := f_m
      exact ⟨(n, m), _, rfl, hm, ⟨G, E, rfl⟩⟩
    · have G := Gx.trans G g10
      have E : Gx No s7 _ := Gx.of_gr g10
      have f_bag := Rep.u g10 f_bag
      exact ⟨(n, m), _, rfl, hm, ⟨G, E, rfl⟩⟩
    obtain ⟨n, m⟩ := a
    obtain ⟨G, E, rfl⟩ := hI
    have f_bag := Rep.u E f_bag
    refine s_set (σ := [some v_bag, some (.int limit), some (.int n), some (.int m), none, none, none, none, none, none, none, none, none, none, none, none, none]) (s := s26) (σf := fun v => [some v_bag, some (.int limit), some (.int n), some (.int m), some v, none, none, none, none, none, none, none, none, none, none, none, none]) (ev_add ev_int (ev_call0 (E := fun _ => E0) (ea_cons (ev_var (d := ()) f_bag) (ea_cons (ev_div (ev_var (r := sI.r) (d := limit) rfl) (ev_mul (ev_var (r := sI.r) (d := n) rfl) (ev_var (r := sI.r) (d := m) rfl))) ea_nil)))) hm G (fun _ => rfl) fun k v_k s31 g30 f_k hm => ?_
    have G := Gx.trans G g30
    have f_bag := Rep.u g30 f_bag
    obtain rfl : v_k = V.int k := f_k
    refine s_setN (σ := [some v_bag, some (.int limit), some (.int n), some (.int m), some (.int k), none, none, none, none, none, none, none, none, none, none, none, none]) (s := s31) (σf := fun v => [some v_bag, some (.int limit), some (.int n), some (.int m), some (.int k), some v, none, none, none, none, none, none, none, none, none, none, none]) (evn_lst (el_nil (r := (sP K sI sI))) (by decide)) hm G (fun _ => rfl) fun pairs p_pairs34 s33 g32 hn35 f_pairs hm => ?_
    have hn35 : ∀ a, a = p_pairs34 → _ := fun a e => (show s31.hp a = none from by rw [e]; exact hn35)
    have G := Gx.trans G g32
    have f_bag := Rep.u g32 f_bag
    refine s_for (σ := [some v_bag, some (.int limit), some (.int n), some (.int m), some (.int k), some (.ref p_pairs34), none, none, none, none, none, none, none, none, none, none, none]) (s := s33) (X := (fun a => a = p_pairs34)) (fun u36 (a : ((List (Int × Int)))) σ' s' => Gr C.s0 s' ∧ Gx (fun a => a = p_pairs34) u36 s' ∧ ∃ y_r, ∃ y_s, σ' = [some v_bag, some (.int limit), some (.int n), some (.int m), some (.int k), some (.ref p_pairs34), y_r, y_s, none, none, none, none, none, none, none, none, none] ∧ (oL C.s0 (sP K sI sI) p_pairs34).is s' (.ref p_pairs34) a) (ei_rng2 ev_int (ev_add (ev_var (r := sI.r) (d := n) rfl) ev_int)) hm G (fun _ _ _ _ h => h.2.1) (fun u36 gu37 => ⟨(Gx.trans G gu37), (Gx.refl gu37.ok), none, none, rfl, (Rep.u gu37 f_pairs)⟩) (fun u36 r v_r a σ' s40 gu37 hI hx Qb38 hm => ?_) (fun u36 a σ' s41 gu37 hI hm => ?_)
    · have f_bag := Rep.u gu37 f_bag
      have f_pairs := Rep.u gu37 f_pairs
      obtain ⟨pairs, ea⟩ : ∃ z, z = a := ⟨a, rfl⟩
      subst ea
      obtain ⟨G, E, y_r, y_s, rfl, f_pairs⟩ := hI
      have f_bag := Rep.ux E (fun _ (z : False) => z.elim) f_bag
      have hm_p_pairs34 : ∀ a, a = p_pairs34 → (fun a => a = p_pairs34) a ∨ u36.hp a = none := fun a z => .inl z
      obtain rfl : v_r = V.int r := hx
      refine gname_do (σ' := [some v_bag, some (.int limit), some (.int n), some (.int m), some (.int k), some (.ref p_pairs34), some (.int r), y_s, none, none, none, none, none, none, none, none, none]) rfl ?_
      refine s_for (σ := [some v_bag, some (.int limit), some (.int n), some (.int m), some (.int k), some (.ref p_pairs34), some (.int r), y_s, none, none, none, none, none, none, none, none, none]) (s := s40) (X := (fun a => a = p_pairs34)) (fun u42 (a : ((List (Int × Int)))) σ' s' => Gr C.s0 s' ∧ Gx (fun a => a = p_pairs34) u42 s' ∧ ∃ y_s, σ' = [some v_bag, some (.int limit), some (.int n), some (.int m), some (.int k), some (.ref p_pairs34), some (.int r), y_s, none, none, none, none, none, none, none, none, none] ∧ (oL C.s0 (sP K sI sI) p_pairs34).is s' (.ref p_pairs34) a) (ei_rng1 (ev_var (r := sI.r) (d := n) rfl)) hm G (fun _ _ _ _ h => h.2.1) (fun u42 gu43 => ⟨(Gx.trans G gu43), (Gx.refl gu43.ok), y_s, rfl, (Rep.u gu43 f_pairs)⟩) (fun u42 s v_s a σ' s46 gu43 hI hx Qb44 hm => ?_) (fun u42 a σ' s47 gu43 hI hm => ?_)
      · have f_bag := Rep.u gu43 f_bag
        have f_pairs := Rep.u gu43 f_pairs
        obtain ⟨pairs, ea⟩ : ∃ z, z = a := ⟨a, rfl⟩
        subst ea
        obtain ⟨G, E, y_s, rfl, f_pairs⟩ := hI
        have f_bag := Rep.ux E (fun _ (z : False) => z.elim) f_bag
        have hm_p_pairs34 : ∀ a, a = p_pairs34 → (fun a => a = p_pairs34) a ∨ u42.hp a = none := fun a z => .inl z
        obtain rfl : v_s = V.int s := hx
        refine gname_do (σ' := [some v_bag, some (.int limit), some (.int n), some (.int m), some (.int k), some (.ref p_pairs34), some (.int r), some (.int s), none, none, none, none, none, none, none, none, none]) rfl ?_
        refine s_ifj (σ := [some v_bag, some (.int limit), some (.int n), some (.int m), some (.int k), some (.ref p_pairs34), some (.int r), some (.int s), none, none, none, none, none, none, none, none, none]) (s := s46) (fun (a : ((List (Int × Int)))) σ' s' => Gr C.s0 s' ∧ Gx (fun a => a = p_pairs34) s46 s' ∧ σ' = [some v_bag, some (.int limit), some (.int n), some (.int m), some (.int k), some (.ref p_pairs34), some (.int r), some (.int s), none, none, none, none, none, none, none, none, none] ∧ (oL C.s0 (sP K sI sI) p_pairs34).is s' (.ref p_pairs34) a) (et_and (et_test (ev_eqI (ev_call0 (E := fun _ => E0) (ea_cons (ev_var (r := sI.r) (d := r) rfl) (ea_cons (ev_var (r := sI.r) (d := m) rfl) (ea_cons (ev_var (r := sI.r) (d := n) rfl) ea_nil)))) (ev_mod (ev_intI ev_int) (ev_var (r := sI.r) (d := n) rfl)))) (et_test (ev_eqI (ev_mod (ev_intI (ev_mul (ev_sub (ev_var (r := sI.r) (d := r) rfl) ev_int) (ev_var (r := sI.r) (d := s) rfl))) (ev_var (r := sI.r) (d := n) rfl)) ev_int))) hm G (fun s54 g53 Qb57 hm => ?_) (fun s55 g53 Qb57 hm => ?_) (fun a σ' s62 hI hm => ?_)
        · have G := Gx.trans G g53
          have E : Gx (fun a => a = p_pairs34) s46 _ := Gx.of_gr g53
          have hm_p_pairs34 : ∀ a, a = p_pairs34 → (fun a => a = p_pairs34) a ∨ s46.hp a = none := fun a z => .inl z
          have f_bag := Rep.u g53 f_bag
          have f_pairs := Rep.u g53 f_pairs
          refine s_app (σ := [some v_bag, some (.int limit), some (.int n), some (.int m), some (.int k), some (.ref p_pairs34), some (.int r), some (.int s), none, none, none, none, none, none, none, none, none]) (s := s54) f_pairs (ev_var f_pairs) (ev_pair (ev_var (r := sI.r) (d := r) rfl) (ev_var (r := sI.r) (d := s) rfl)) hm G fun pairs s59 g60 G f_pairs hm => ?_
          have E := Gx.gx' E g60 (fun a z => (fun z => hm_p_pairs34 a z) z)
          have f_bag := Rep.ux g60 (fun _ (z : False) => z.elim) f_bag
          exact ⟨pairs, _, rfl, hm, ⟨G, E, rfl, f_pairs⟩⟩
        · have G := Gx.trans G g53
          have E : Gx (fun a => a = p_pairs34) s46 _ := Gx.of_gr g53
          have hm_p_pairs34 : ∀ a, a = p_pairs34 → (fun a => a = p_pairs34) a ∨ s46.hp a = none := fun a z => .inl z
          have f_bag := Rep.u g53 f_bag
          have f_pairs := Rep.u g53 f_pairs
          exact ⟨pairs, _, rfl, hm, ⟨G, E, rfl, f_pairs⟩⟩
        have E0 := E
        obtain ⟨pairs, ea⟩ : ∃ z, z = a := ⟨a, rfl⟩
        subst ea
        obtain ⟨G, E, rfl, f_pairs⟩ := hI
        have f_bag := Rep.ux E (fun _ (z : False) => z.elim) f_bag
        have E := Gx.gx' E0 E (fun a z => (fun z => hm_p_pairs34 a z) z)
        exact ⟨pairs, _, rfl, hm, ⟨G, E, some (.int s), rfl, f_pairs⟩⟩
      have f_bag := Rep.u gu43 f_bag
      have f_pairs := Rep.u gu43 f_pairs
      have E0 := Gx.trans E (Gx.of_gr gu43)
      obtain ⟨pairs, ea⟩ : ∃ z, z = a := ⟨a, rfl⟩
      subst ea
      obtain ⟨G, E, y_s, rfl, f_pairs⟩ := hI
      have f_bag := Rep.ux E (fun _ (z : False) => z.elim) f_bag
      have E := Gx.gx' E0 E (fun a z => (fun z => hm_p_pairs34 a z) z)
      exact ⟨pairs, _, rfl, hm, ⟨G, E, some (.int r), y_s, rfl, f_pairs⟩⟩
    have f_bag := Rep.u gu37 f_bag
    have f_pairs := Rep.u gu37 f_pairs
    obtain ⟨pairs, ea⟩ : ∃ z, z = a := ⟨a, rfl⟩
    subst ea
    obtain ⟨G, E, y_r, y_s, rfl, f_pairs⟩ := hI
    have f_bag := Rep.ux E (fun _ (z : False) => z.elim) f_bag
    refine s_set (σ := [some v_bag, some (.int limit), some (.int n), some (.int m), some (.int k), some (.ref p_pairs34), y_r, y_s, none, none, none, none, none, none, none, none, none]) (s := s41) (σf := fun v => [some v_bag, some (.int limit), some (.int n), some (.int m), some (.int k), some (.ref p_pairs34), y_r, y_s, some v, none, none, none, none, none, none, none, none]) (evn_ev (evn_lcIf (σf := fun v => [some v_bag, some (.int limit), some (.int n), some (.int m), some (.int k), some (.ref p_pairs34), y_r, y_s, none, some v, none, none, none, none, none, none, none]) (ei_list rd_own newx_no (fun a e z => (z : False)) (ev_var f_pairs)) (fun _ => rfl) (fun _ => rfl) (fun pair_64 v_pair_64 t gc65 g066 f_pair_64 => (et_test (ev_gt (ev_p0 rd_pair (ev_var f_pair_64)) ev_int))) (fun pair_64 v_pair_64 t gc65 g066 f_pair_64 => (ev_var f_pair_64)))) hm G (fun _ => rfl) fun twisted v_twisted s69 g68 f_twisted hm => ?_
    have G := Gx.trans G g68
    have f_bag := Rep.u g68 f_bag
    have f_pairs := Rep.u g68 f_pairs
    obtain ⟨s76, eh78, G, g77, f_pairs⟩ := own_frz G f_pairs
    rw [← eh78]
    have f_bag := Rep.ux g77 (fun _ (z : False) => z.elim) f_bag
    have f_twisted := SRep.ux g77 f_twisted
    refine s_ifj (σ := [some v_bag, some (.int limit), some (.int n), some (.int m), some (.int k), some (.ref p_pairs34), y_r, y_s, some v_twisted, none, none, none, none, none, none, none, none]) (s := s76) (fun (a : ((List (Int × Int)))) σ' s' => Gr C.s0 s' ∧ Gx No s76 s' ∧ ∃ v_pairs, σ' = [some v_bag, some (.int limit), some (.int n), some (.int m), some (.int k), some v_pairs, y_r, y_s, some v_twisted, none, none, none, none, none, none, none, none] ∧ (sL (sP K sI sI)).r.is s' v_pairs a) (et_and (et_test (ev_gt (ev_lenL rd_st (ev_var f_twisted)) ev_int)) (et_test (ev_gt (ev_call0 (E := fun _ => E0) (ea_cons (ev_var (d := ()) f_bag) (ea_cons ev_int ea_nil))) ev_int))) hm G (fun s82 g81 Qb85 hm => ?_) (fun s83 g81 Qb85 hm => ?_) (fun a σ' s89 hI hm => ?_)
    · have G := Gx.trans G g81
      have E : Gx No s76 _ := Gx.of_gr g81
      have f_bag := Rep.u g81 f_bag
      have f_pairs := Rep.u g81 f_pairs
      have f_twisted := Rep.u g81 f_twisted
      refine s_set (σ := [some v_bag, some (.int limit), some (.int n), some (.int m), some (.int k), some (.ref p_pairs34), y_r, y_s, some v_twisted, none, none, none, none, none, none, none, none]) (s := s82) (σf := fun v => [some v_bag, some (.int limit), some (.int n), some (.int m), some (.int k), some v, y_r, y_s, some v_twisted, none, none, none, none, none, none, none, none]) (ev_var f_twisted) hm G (fun _ => rfl) fun pairs v_pairs s88 g87 f_pairs hm => ?_
      have G := Gx.trans G g87
      have E := Gx.trans E (Gx.of_gr g87)
      have f_bag := Rep.u g87 f_bag
      exact ⟨pairs, _, rfl, hm, ⟨G, E, v_pairs, rfl, f_pairs⟩⟩
    · have G := Gx.trans G g81
      have E : Gx No s76 _ := Gx.of_gr g81
      have f_bag := Rep.u g81 f_bag
      have f_pairs := Rep.u g81 f_pairs
      exact ⟨pairs, _, rfl, hm, ⟨G, E, (.ref p_pairs34), rfl, f_pairs⟩⟩
    obtain ⟨pairs, ea⟩ : ∃ z, z = a := ⟨a, rfl⟩
    subst ea
    obtain ⟨G, E, v_pairs, rfl, f_pairs⟩ := hI
    have f_bag := Rep.u E f_bag
    refine s_set (σ := [some v_bag, some (.int limit), some (.int n), some (.int m), some (.int k), some v_pairs, y_r, y_s, some v_twisted, none, none, none, none, none, none, none, none]) (s := s89) (σf := fun v => [some v_bag, some (.int limit), some (.int n), some (.int m), some (.int k), some v_pairs, y_r, y_s, some v_twisted, some v, none, none, none, none, none, none, none]) (ev_ixL rd_st (ev_var f_pairs) (ev_call0 (E := fun _ => E0) (ea_cons (ev_var (d := ()) f_bag) (ea_cons (ev_lenL rd_st (ev_var f_pairs)) ea_nil)))) hm G (fun _ => rfl) fun pair v_pair s92 g91 f_pair hm => ?_
    have G := Gx.trans G g91
    refine s_setN (σ := [some v_bag, some (.int limit), some (.int n), some (.int m), some (.int k), some v_pairs, y_r, y_s, some v_twisted, some v_pair, none, none, none, none, none, none, none]) (s := s92) (σf := fun v => [some v_bag, some (.int limit), some (.int n), some (.int m), some (.int k), some v_pairs, y_r, y_s, some v_twisted, some v_pair, some v, none, none, none, none, none, none]) (evn_lst (el_nil (r := (sL sI))) (by decide)) hm G (fun _ => rfl) fun table p_table95 s94 g93 hn96 f_table hm => ?_
    have hn96 : ∀ a, a = p_table95 → _ := fun a e => (show s92.hp a = none from by rw [e]; exact hn96)
    have G := Gx.trans G g93
    have f_pair := Rep.u g93 f_pair
    refine s_for (σ := [some v_bag, some (.int limit), some (.int n), some (.int m), some (.int k), some v_pairs, y_r, y_s, some v_twisted, some v_pair, some (.ref p_table95), none, none, none, none, none, none]) (s := s94) (X := (fun a => a = p_table95)) (fun u99 (a : ((List (List Int)))) σ' s' => Gr C.s0 s' ∧ Gx (fun a => a = p_table95) u99 s' ∧ ∃ y_x, ∃ y_turn, ∃ y_row, ∃ y_y, ∃ y_a, ∃ y_b, σ' = [some v_bag, some (.int limit), some (.int n), some (.int m), some (.int k), some v_pairs, y_r, y_s, some v_twisted, some v_pair, some (.ref p_table95), y_x, y_turn, y_row, y_y, y_a, y_b] ∧ (oL C.s0 (sL sI) p_table95).is s' (.ref p_table95) a) (ei_rng1 (ev_mul (ev_mul (ev_var (r := sI.r) (d := n) rfl) (ev_var (r := sI.r) (d := m) rfl)) (ev_var (r := sI.r) (d := k) rfl))) hm G (fun _ _ _ _ h => h.2.1) (fun u99 gu100 => ⟨(Gx.trans G gu100), (Gx.refl gu100.ok), none, none, none, none, none, none, rfl, (Rep.u gu100 f_table)⟩) (fun u99 x v_x a σ' s103 gu100 hI hx Qb101 hm => ?_) (fun u99 a σ' s104 gu100 hI hm => ?_)
    · have f_pair := Rep.u gu100 f_pair
      have f_table := Rep.u gu100 f_table
      obtain ⟨table, ea⟩ : ∃ z, z = a := ⟨a, rfl⟩
      subst ea
      obtain ⟨G, E, y_x, y_turn, y_row, y_y, y_a, y_b, rfl, f_table⟩ := hI
      have f_pair := SRep.ux E f_pair
      have hm_p_table95 : ∀ a, a = p_table95 → (fun a => a = p_table95) a ∨ u99.hp a = none := fun a z => .inl z
      obtain rfl : v_x = V.int x := hx
      refine gname_do (σ' := [some v_bag, some (.int limit), some (.int n), some (.int m), some (.int k), some v_pairs, y_r, y_s, some v_twisted, some v_pair, some (.ref p_table95), some (.int x), y_turn, y_row, y_y, y_a, y_b]) rfl ?_
      refine s_set (σ := [some v_bag, some (.int limit), some (.int n), some (.int m), some (.int k), some v_pairs, y_r, y_s, some v_twisted, some v_pair, some (.ref p_table95), some (.int x), y_turn, y_row, y_y, y_a, y_b]) (s := s103) (σf := fun v => [some v_bag, some (.int limit), some (.int n), some (.int m), some (.int k), some v_pairs, y_r, y_s, some v_twisted, some v_pair, some (.ref p_table95), some (.int x), some v, y_row, y_y, y_a, y_b]) (ev_call0 (E := fun _ => E0) (ea_cons (ev_p0 rd_pair (ev_var f_pair)) (ea_cons (ev_mod (ev_intI (ev_div (ev_var (r := sI.r) (d := x) rfl) (ev_var (r := sI.r) (d := k) rfl))) (ev_var (r := sI.r) (d := m) rfl)) (ea_cons (ev_var (r := sI.r) (d := n) rfl) ea_nil)))) hm G (fun _ => rfl) fun turn v_turn s108 g107 f_turn hm => ?_
      have G := Gx.trans G g107
      have E := Gx.trans E (Gx.of_gr g107)
      have f_pair := Rep.u g107 f_pair
      have f_table := Rep.u g107 f_table
      obtain rfl : v_turn = V.int turn := f_turn
      refine s_setN (σ := [some v_bag, some (.int limit), some (.int n), some (.int m), some (.int k), some v_pairs, y_r, y_s, some v_twisted, some v_pair, some (.ref p_table95), some (.int x), some (.int turn), y_row, y_y, y_a, y_b]) (s := s108) (σf := fun v => [some v_bag, some (.int limit), some (.int n), some (.int m), some (.int k), some v_pairs, y_r, y_s, some v_twisted, some v_pair, some (.ref p_table95), some (.int x), some (.int turn), some v, y_y, y_a, y_b]) (evn_lst (el_nil (r := sI)) (by decide)) hm G (fun _ => rfl) fun row p_row111 s110 g109 hn112 f_row hm => ?_
      have hn112 : ∀ a, a = p_row111 → _ := fun a e => (show s108.hp a = none from by rw [e]; exact hn112)
      have dj_p_table95_p_row111 : ∀ a, a = p_table95 → a = p_row111 → False := fun a e z => own_al f_table a e (hn112 a z)
      have hm_p_row111 : ∀ a, a = p_row111 → (fun a => a = p_table95) a ∨ u99.hp a = none := fun a z => .inr (gx_back E (hn112 a z))
      have G := Gx.trans G g109
      have E := Gx.trans E (Gx.of_gr g109)
      have f_pair := Rep.u g109 f_pair
      have f_table := Rep.u g109 f_table
      refine s_for (σ := [some v_bag, some (.int limit), some (.int n), some (.int m), some (.int k), some v_pairs, y_r, y_s, some v_twisted, some v_pair, some (.ref p_table95), some (.int x), some (.int turn), some (.ref p_row111), y_y, y_a, y_b]) (s := s110) (X := (fun a => a = p_row111)) (fun u115 (a : ((List Int))) σ' s' => Gr C.s0 s' ∧ Gx (fun a => a = p_row111) u115 s' ∧ ∃ y_y, ∃ y_a, ∃ y_b, σ' = [some v_bag, some (.int limit), some (.int n), some (.int m), some (.int k), some v_pairs, y_r, y_s, some v_twisted, some v_pair, some (.ref p_table95), some (.int x), some (.int turn), some (.ref p_row111), y_y, y_a, y_b] ∧ (oL C.s0 sI p_row111).is s' (.ref p_row111) a) (ei_rng1 (ev_mul (ev_mul (ev_var (r := sI.r) (d := n) rfl) (ev_var (r := sI.r) (d := m) rfl)) (ev_var (r := sI.r) (d := k) rfl))) hm G (fun _ _ _ _ h => h.2.1) (fun u115 gu116 => ⟨(Gx.trans G gu116), (Gx.refl gu116.ok), y_y, y_a, y_b, rfl, (Rep.u gu116 f_row)⟩) (fun u115 y v_y a σ' s119 gu116 hI hx Qb117 hm => ?_) (fun u115 a σ' s120 gu116 hI hm => ?_)
      · have f_pair := Rep.u gu116 f_pair
        have f_table := Rep.u gu116 f_table
        have f_row := Rep.u gu116 f_row
        obtain ⟨row, ea⟩ : ∃ z, z = a := ⟨a, rfl⟩
        subst ea
        obtain ⟨G, E, y_y, y_a, y_b, rfl, f_row⟩ := hI
        have f_pair := SRep.ux E f_pair
        have f_table := Rep.ux E (fun a e z => (fun z => dj_p_table95_p_row111 a e z) z) f_table
        have hm_p_row111 : ∀ a, a = p_row111 → (fun a => a = p_row111) a ∨ u115.hp a = none := fun a z => .inl z
        obtain rfl : v_y = V.int y := hx
        refine gname_do (σ' := [some v_bag, some (.int limit), some (.int n), some (.int m), some (.int k), some v_pairs, y_r, y_s, some v_twisted, some v_pair, some (.ref p_table95), some (.int x), some (.int turn), some (.ref p_row111), some (.int y), y_a, y_b]) rfl ?_
        refine s_set (σ := [some v_bag, some (.int limit), some (.int n), some (.int m), some (.int k), some v_pairs, y_r, y_s, some v_twisted, some v_pair, some (.ref p_table95), some (.int x), some (.int turn), some (.ref p_row111), some (.int y), y_a, y_b]) (s := s119) (σf := fun v => [some v_bag, some (.int limit), some (.int n), some (.int m), some (.int k), some v_pairs, y_r, y_s, some v_twisted, some v_pair, some (.ref p_table95), some (.int x), some (.int turn), some (.ref p_row111), some (.int y), some v, y_b]) (ev_add (ev_div (ev_var (r := sI.r) (d := x) rfl) (ev_mul (ev_var (r := sI.r) (d := m) rfl) (ev_var (r := sI.r) (d := k) rfl))) (ev_mul (ev_var (r := sI.r) (d := turn) rfl) (ev_div (ev_var (r := sI.r) (d := y) rfl) (ev_mul (ev_var (r := sI.r) (d := m) rfl) (ev_var (r := sI.r) (d := k) rfl))))) hm G (fun _ => rfl) fun a v_a s127 g126 f_a hm => ?_
        have G := Gx.trans G g126
        have E := Gx.trans E (Gx.of_gr g126)
        have f_pair := Rep.u g126 f_pair
        have f_table := Rep.u g126 f_table
        have f_row := Rep.u g126 f_row
        obtain rfl : v_a = V.int a := f_a
        refine s_set (σ := [some v_bag, some (.int limit), some (.int n), some (.int m), some (.int k), some v_pairs, y_r, y_s, some v_twisted, some v_pair, some (.ref p_table95), some (.int x), some (.int turn), some (.ref p_row111), some (.int y), some (.int a), y_b]) (s := s127) (σf := fun v => [some v_bag, some (.int limit), some (.int n), some (.int m), some (.int k), some v_pairs, y_r, y_s, some v_twisted, some v_pair, some (.ref p_table95), some (.int x), some (.int turn), some (.ref p_row111), some (.int y), some (.int a), some v]) (ev_add (ev_mod (ev_intI (ev_div (ev_var (r := sI.r) (d := x) rfl) (ev_var (r := sI.r) (d := k) rfl))) (ev_var (r := sI.r) (d := m) rfl)) (ev_mod (ev_intI (ev_div (ev_var (r := sI.r) (d := y) rfl) (ev_var (r := sI.r) (d := k) rfl))) (ev_var (r := sI.r) (d := m) rfl))) hm G (fun _ => rfl) fun b v_b s133 g132 f_b hm => ?_
        have G := Gx.trans G g132
        have E := Gx.trans E (Gx.of_gr g132)
        have f_pair := Rep.u g132 f_pair
        have f_table := Rep.u g132 f_table
        have f_row := Rep.u g132 f_row
        obtain rfl : v_b = V.int b := f_b
        refine s_ifj (σ := [some v_bag, some (.int limit), some (.int n), some (.int m), some (.int k), some v_pairs, y_r, y_s, some v_twisted, some v_pair, some (.ref p_table95), some (.int x), some (.int turn), some (.ref p_row111), some (.int y), some (.int a), some (.int b)]) (s := s133) (fun (a : (Int)) σ' s' => Gr C.s0 s' ∧ Gx No s133 s' ∧ σ' = [some v_bag, some (.int limit), some (.int n), some (.int m), some (.int k), some v_pairs, y_r, y_s, some v_twisted, some v_pair, some (.ref p_table95), some (.int x), some (.int turn), some (.ref p_row111), some (.int y), some (.int a), some (.int b)]) (et_test (ev_ge (ev_var (r := sI.r) (d := b) rfl) (ev_var (r := sI.r) (d := m) rfl))) hm G (fun s135 g134 Qb138 hm => ?_) (fun s136 g134 Qb138 hm => ?_) (fun a σ' s142 hI hm => ?_)
        · have G := Gx.trans G g134
          have E : Gx No s133 _ := Gx.of_gr g134
          have f_pair := Rep.u g134 f_pair
          have f_table := Rep.u g134 f_table
          have f_row := Rep.u g134 f_row
          refine s_set (σ := [some v_bag, some (.int limit), some (.int n), some (.int m), some (.int k), some v_pairs, y_r, y_s, some v_twisted, some v_pair, some (.ref p_table95), some (.int x), some (.int turn), some (.ref p_row111), some (.int y), some (.int a), some (.int b)]) (s := s135) (σf := fun v => [some v_bag, some (.int limit), some (.int n), some (.int m), some (.int k), some v_pairs, y_r, y_s, some v_twisted, some v_pair, some (.ref p_table95), some (.int x), some (.int turn), some (.ref p_row111), some (.int y), some v, some (.int b)]) (ev_add (ev_var (r := sI.r) (d := a) rfl) (ev_p1 rd_pair (ev_var f_pair))) hm G (fun _ => rfl) fun a v_a s141 g140 f_a hm => ?_
          have G := Gx.trans G g140
          have E := Gx.trans E (Gx.of_gr g140)
          have f_pair := Rep.u g140 f_pair
          have f_table := Rep.u g140 f_table
          have f_row := Rep.u g140 f_row
          obtain rfl : v_a = V.int a := f_a
          exact ⟨a, _, rfl, hm, ⟨G, E, rfl⟩⟩
        · have G := Gx.trans G g134
          have E : Gx No s133 _ := Gx.of_gr g134
          have f_pair := Rep.u g134 f_pair
          have f_table := Rep.u g134 f_table
          have f_row := Rep.u g134 f_row
          exact ⟨a, _, rfl, hm, ⟨G, E, rfl⟩⟩
        have E0 := E
        obtain ⟨G, E, rfl⟩ := hI
        have f_pair := Rep.u E f_pair
        have f_table := Rep.u E f_table
        have f_row := Rep.u E f_row
        have E := Gx.gx' E0 E (fun a z => (z : False).elim)
        refine s_app (σ := [some v_bag, some (.int limit), some (.int n), some (.int m), some (.int k), some v_pairs, y_r, y_s, some v_twisted, some v_pair, some (.ref p_table95), some (.int x), some (.int turn), some (.ref p_row111), some (.int y), some (.int a), some (.int b)]) (s := s142) f_row (ev_var f_row) (ev_add (ev_mul (ev_add (ev_mul (ev_mod (ev_intI (ev_var (r := sI.r) (d := a) rfl)) (ev_var (r := sI.r) (d := n) rfl)) (ev_var (r := sI.r) (d := m) rfl)) (ev_mod (ev_intI (ev_var (r := sI.r) (d := b) rfl)) (ev_var (r := sI.r) (d := m) rfl))) (ev_var (r := sI.r) (d := k) rfl)) (ev_mod (ev_intI (ev_add (ev_var (r := sI.r) (d := x) rfl) (ev_var (r := sI.r) (d := y) rfl))) (ev_var (r := sI.r) (d := k) rfl))) hm G fun row s143 g144 G f_row hm => ?_
        have E := Gx.gx' E g144 (fun a z => (fun z => hm_p_row111 a z) z)
        have f_pair := SRep.ux g144 f_pair
        have f_table := Rep.ux g144 (fun a e z => (fun z => dj_p_table95_p_row111 a e z) z) f_table
        exact ⟨row, _, rfl, hm, ⟨G, E, some (.int y), some (.int a), some (.int b), rfl, f_row⟩⟩
      have f_pair := Rep.u gu116 f_pair
      have f_table := Rep.u gu116 f_table
      have f_row := Rep.u gu116 f_row
      have E0 := Gx.trans E (Gx.of_gr gu116)
      obtain ⟨row, ea⟩ : ∃ z, z = a := ⟨a, rfl⟩
      subst ea
      obtain ⟨G, E, y_y, y_a, y_b, rfl, f_row⟩ := hI
      have f_pair := SRep.ux E f_pair
      have f_table := Rep.ux E (fun a e z => (fun z => dj_p_table95_p_row111 a e z) z) f_table
      have E := Gx.gx' E0 E (fun a z => (fun z => hm_p_row111 a z) z)
      obtain ⟨s154, eh156, G, g155, f_row⟩ := own_frz G f_row
      rw [← eh156]
      have E := Gx.gx' E g155 (fun a z => (fun z => hm_p_row111 a z) z)
      have f_pair := SRep.ux g155 f_pair
      have f_table := Rep.ux g155 (fun a e z => (fun z => dj_p_table95_p_row111 a e z) z) f_table
      refine s_app (σ := [some v_bag, some (.int limit), some (.int n), some (.int m), some (.int k), some v_pairs, y_r, y_s, some v_twisted, some v_pair, some (.ref p_table95), some (.int x), some (.int turn), some (.ref p_row111), y_y, y_a, y_b]) (s := s154) f_table (ev_var f_table) (ev_var f_row) hm G fun table s157 g158 G f_table hm => ?_
      have E := Gx.gx' E g158 (fun a z => (fun z => hm_p_table95 a z) z)
      have f_pair := SRep.ux g158 f_pair
      have f_row := SRep.ux g158 f_row
      exact ⟨table, _, rfl, hm, ⟨G, E, some (.int x), some (.int turn), some (.ref p_row111), y_y, y_a, y_b, rfl, f_table⟩⟩
    have f_pair := Rep.u gu100 f_pair
    have f_table := Rep.u gu100 f_table
    obtain ⟨table, ea⟩ : ∃ z, z = a := ⟨a, rfl⟩
    subst ea
    obtain ⟨G, E, y_x, y_turn, y_row, y_y, y_a, y_b, rfl, f_table⟩ := hI
    obtain ⟨s161, eh163, G, g162, f_table⟩ := own_frz G f_table
    rw [← eh163]
    exact s_ret (σ := [some v_bag, some (.int limit), some (.int n), some (.int m), some (.int k), some v_pairs, y_r, y_s, some v_twisted, some v_pair, some (.ref p_table95), y_x, y_turn, y_row, y_y, y_a, y_b]) (s := s161) (ev_var f_table) hm G fun d v u qd g hv => hQ d v u ((fun _ q => q) d qd) g hv

abbrev st__law_permutations : Stmt := topS 15
abbrev N__law_permutations : List Str := ["bag", "makers", "k", "left", "row", "j", "found", "at", "maker", "point", "table", "p", "q"]
theorem sc__law_permutations : FnScope N__law_permutations ["bag"] (defScope st__law_permutations) := ⟨rfl, rfl, rfl, by decide +kernel, rfl, by decide +kernel, by decide +kernel⟩
abbrev sp__law_permutations (K : PySem.W.Frag) (A : Ad) : Sp := sp0 (aC rG aN) (fun a => Mi._law_permutations a.1) (fun _ => (sL (sL sI)).r)
theorem ok__law_permutations {P : Program} {w : World} {K : PySem.W.Frag} {mg : Str → Option Value} {base : Heap} {A : Ad} (T : Mo K mg A) {f : Addr} {fd : FuncData} (F : Fun K "_law_permutations" "_law_permutations" st__law_permutations f fd)
    {f__law_take : Addr} {fd__law_take : FuncData} (c__law_take : Cal P w K mg base CX0 1 "_law_take" ["bag", "size"] (sp__law_take K A) f__law_take fd__law_take) (m_len : mg "len" = none) (m_range : mg "range" = none) (m_sorted : mg "sorted" = none) :
    FnOk P w K mg base CX0 2 f fd ["bag"] (sp__law_permutations K A) := by
  refine fn0 F sc__law_permutations (fun s vs a h => ?_) (fun cdv A9 outer sh EX hr C a vs Qm ok ha hm => ?_)
  · obtain ⟨v0, w0, rfl, _, h⟩ := h; cases h; rfl
  · obtain ⟨bag, _⟩ := a
    obtain ⟨v_bag, w_bag, rfl, f_bag, ha⟩ := ha
    cases ha
    have G : Gr C.s0 C.s0 := Gx.refl ok
    unfold Mi._law_permutations at hm
    try dsimp only at hm
    refine ⟨_, (pss_cons (ps_set (i := 1) sc__law_permutations.nd rfl (.inl rfl) (pe_lst pa_nil)) (pss_cons (ps_for PassesOwn.never rfl (pi_range1 (by rfl) m_range (pa_cons pe_int pa_nil)) (pg_name (i := 2) sc__law_permutations.nd rfl (.inl rfl)) (pss_cons (ps_set (i := 3) sc__law_permutations.nd rfl (.inl rfl) (pe_lst (pa_cons pe_int (pa_cons pe_int (pa_cons pe_int (pa_cons pe_int pa_nil)))))) (pss_cons (ps_set (i := 4) sc__law_permutations.nd rfl (.inl rfl) (pe_lst pa_nil)) (pss_cons (ps_for PassesOwn.never rfl (pi_range1 (by rfl) m_range (pa_cons pe_int pa_nil)) (pg_name (i := 5) sc__law_permutations.nd rfl (.inl rfl)) (pss_cons (ps_expr (k_bm K rfl PySem.F.plainAttrs_list PySem.F.slot_list_append PySem.F.type_list_append mt_append (pv 4) (pa_cons (k_bm K rfl PySem.F.plainAttrs_list PySem.F.slot_list_pop PySem.F.type_list_pop mt_popAt (pv 3) (pa_cons (pe_callS (E := fun _ => E0) c__law_take.ok hr (by rfl) c__law_take.gm c__law_take.kp c__law_take.bn pat0 (pa_cons (pv 0) (pa_cons (pe_callB (k_len K rfl) (by rfl) m_len PySem.boot_len (pa_cons (pv 3) pa_nil)) pa_nil))) pa_nil)) pa_nil))) pss_nil)) (pss_cons (ps_expr (k_bm K rfl PySem.F.plainAttrs_list PySem.F.slot_list_append PySem.F.type_list_append mt_append (pv 1) (pa_cons (pv 4) pa_nil))) pss_nil))))) (pss_cons (ps_set (i := 6) sc__law_permutations.nd rfl (.inr rfl) (pe_lst (pa_cons (pe_lst (pa_cons pe_int (pa_cons pe_int (pa_cons pe_int (pa_cons pe_int pa_nil))))) pa_nil))) (pss_cons (ps_for PassesOwn.never rfl (pi_range1 (by rfl) m_range (pa_cons pe_int pa_nil)) (pg_name (i := 7) sc__law_permutations.nd rfl (.inl rfl)) (C8.pss_cut (ps_if (pt_cmpR op_lt (pv 7) (pe_callB (k_len K rfl) (by rfl) m_len PySem.boot_len (pa_cons (pv 6) pa_nil)) (nomark _)) (pss_cons (ps_for PassesOwn.never rfl (k_piL K rfl (pv 1)) (pg_name (i := 8) sc__law_permutations.nd rfl (.inr rfl)) (pss_cons (ps_setLc (i := 4) (own := [("point", 9)]) (g := gName 9) (tt := tYes) rfl sc__law_permutations.nd rfl rfl (sw_true rfl rfl rfl (by decide +kernel)) (k_piL K rfl (pe_ix (k_ixL K rfl) (pv 6) (pv 7) (fun _ _ => rfl))) (blkOk_by (own := [("point", 9)]) (N := N__law_permutations) (sc := defScope st__law_permutations) (by decide +kernel)) (fun _ _ _ _ _ => pg_name (i := 9) sc__law_permutations.nd rfl (Or.inl rfl))  (fun _ _ _ _ _ => pts_nil) (fun _ _ _ _ _ => (pe_ix (k_ixL K rfl) (pv 8) (pv 9) (fun _ _ => rfl)))) (C8.pss_cut (ps_if (pt_cmpR (k_niD K rfl (hu65 hr)) (pv 4) (pv 6) rfl) (pss_cons (ps_expr (k_bm K rfl PySem.F.plainAttrs_list PySem.F.slot_list_append PySem.F.type_list_append mt_append (pv 6) (pa_cons (pv 4) pa_nil))) pss_nil) pss_nil) pss_nil))) pss_nil) pss_nil) pss_nil)) (pss_cons (ps_set (i := 6) sc__law_permutations.nd rfl (.inr rfl) (pe_callB (k_sortedV K rfl (hu70 hr)) (by rfl) m_sorted (by decide +kernel) (pa_cons (pv 6) pa_nil))) (pss_cons (ps_set (i := 10) sc__law_permutations.nd rfl (.inl rfl) (pe_lst pa_nil)) (pss_cons (ps_for PassesOwn.never rfl (k_piL K rfl (pv 6)) (pg_name (i := 11) sc__law_permutations.nd rfl (.inr rfl)) (pss_cons (ps_expr (k_bm K rfl PySem.F.plainAttrs_list PySem.F.slot_list_append PySem.F.type_list_append mt_append (pv 10) (pa_cons (pe_lc (own := [("q", 12)]) (g := gName 12) (tt := tYes) rfl sc__law_permutations.nd (k_piL K rfl (pv 6)) (blkOk_by (own := [("q", 12)]) (N := N__law_permutations) (sc := defScope st__law_permutations) (by decide +kernel)) (fun _ _ _ _ _ => pg_name (i := 12) sc__law_permutations.nd rfl (Or.inr rfl))  (fun _ _ _ _ _ => pts_nil) (fun _ _ _ _ _ => (k_bm K rfl PySem.F.plainAttrs_list PySem.F.slot_list_index PySem.F.type_list_index (k_idx K rfl (hu65 hr)) (pv 6) (pa_cons (pe_lc (own := [("point", 9)]) (g := gName 9) (tt := tYes) rfl sc__law_permutations.nd (k_piL K rfl (pv 11)) (blkOk_by (own := [("point", 9)]) (N := N__law_permutations) (by rfl)) (fun _ _ _ _ _ => pg_name (i := 9) sc__law_permutations.nd rfl (Or.inl rfl))  (fun _ _ _ _ _ => pts_nil) (fun _ _ _ _ _ => (pe_ix (k_ixL K rfl) (pv 12) (pv 9) (fun _ _ => rfl)))) pa_nil)))) pa_nil))) pss_nil)) (pss_cons (ps_ret (pv 10)) pss_nil)))))))), fun Q hQ => ?_⟩
    refine s_setN (σ := [some v_bag, none, none, none, none, none, none, none, none, none, none, none, none]) (s := C.s0) (σf := fun v => [some v_bag, some v, none, none, none, none, none, none, none, none, none, none, none]) (evn_lst (el_nil (r := (sL sI))) (by decide)) hm G (fun _ => rfl) fun makers p_makers3 s2 g1 hn4 f_makers hm => ?_
    have hn4 : ∀ a, a = p_makers3 → _ := fun a e => (show C.s0.hp a = none from by rw [e]; exact hn4)
    have G := Gx.trans G g1
    have f_bag := Rep.u g1 f_bag
    refine s_for (σ := [some v_bag, some (.ref p_makers3), none, none, none, none, none, none, none, none, none, none, none]) (s := s2) (X := (fun a => a = p_makers3)) (fun u5 (a : ((List (List Int)))) σ' s' => Gr C.s0 s' ∧ Gx (fun a => a = p_makers3) u5 s' ∧ ∃ y_k, ∃ y_left, ∃ y_row, ∃ y_j, σ' = [some v_bag, some (.ref p_makers3), y_k, y_left, y_row, y_j, none, none, none, none, none, none, none] ∧ (oL C.s0 (sL sI) p_makers3).is s' (.ref p_makers3) a) (ei_rng1 ev_int) hm G (fun _ _ _ _ h => h.2.1) (fun u5 gu6 => ⟨(Gx.trans G gu6), (Gx.refl gu6.ok), none, none, none, none, rfl, (Rep.u gu6 f_makers)⟩) (fun u5 k v_k a σ' s9 gu6 hI hx Qb7 hm => ?_) (fun u5 a σ' s10 gu6 hI hm => ?_)
    · have f_bag := Rep.u gu6 f_bag
      have f_makers := Rep.u gu6 f_makers
      obtain ⟨makers, ea⟩ : ∃ z, z = a := ⟨a, rfl⟩
      subst ea
      obtain ⟨G, E, y_k, y_left, y_row, y_j, rfl, f_makers⟩ := hI
      have f_bag := Rep.ux E (fun _ (z : False) => z.elim) f_bag
      have hm_p_makers3 : ∀ a, a = p_makers3 → (fun a => a = p_makers3) a ∨ u5.hp a = none := fun a z => .inl z
      obtain rfl : v_k = V.int k := hx
      refine gname_do (σ' := [some v_bag, some (.ref p_makers3), some (.int k), y_left, y_row, y_j, none, none, none, none, none, none, none]) rfl ?_
      refine s_setN (σ := [some v_bag, some (.ref p_makers3), some (.int k), y_left, y_row, y_j, none, none, none, none, none, none, none]) (s := s9) (σf := fun v => [some v_bag, some (.ref p_makers3), some (.int k), some v, y_row, y_j, none, none, none, none, none, none, none]) (evn_lst (el_cons ev_int (el_cons ev_int (el_cons ev_int (el_cons ev_int (el_nil (r := sI)))))) (by decide)) hm G (fun _ => rfl) fun left p_left13 s12 g11 hn14 f_left hm => ?_
      have hn14 : ∀ a, a = p_left13 → _ := fun a e => (show s9.hp a = none from by rw [e]; exact hn14)
      have dj_p_makers3_p_left13 : ∀ a, a = p_makers3 → a = p_left13 → False := fun a e z => own_al f_makers a e (hn14 a z)
      have hm_p_left13 : ∀ a, a = p_left13 → (fun a => a = p_makers3) a ∨ u5.hp a = none := fun a z => .inr (gx_back E (hn14 a z))
      have G := Gx.trans G g11
      have E := Gx.trans E (Gx.of_gr g11)
      have f_bag := Rep.u g11 f_bag
      have f_makers := Rep.u g11 f_makers
      refine s_setN (σ := [some v_bag, some (.ref p_makers3), some (.int k), some (.ref p_left13), y_row, y_j, none, none, none, none, none, none, none]) (s := s12) (σf := fun v => [some v_bag, some (.ref p_makers3), some (.int k), some (.ref p_left13), some v, y_j, none, none, none, none, none, none, none]) (evn_lst (el_nil (r := sI)) (by decide)) hm G (fun _ => rfl) fun row p_row17 s16 g15 hn18 f_row hm => ?_
      have hn18 : ∀ a, a = p_row17 → _ := fun a e => (show s12.hp a = none from by rw [e]; exact hn18)
      have dj_p_makers3_p_row17 : ∀ a, a = p_makers3 → a = p_row17 → False := fun a e z => own_al f_makers a e (hn18 a z)
      have dj_p_left13_p_row17 : ∀ a, a = p_left13 → a = p_row17 → False := fun a e z => own_al f_left a e (hn18 a z)
      have hm_p_row17 : ∀ a, a = p_row17 → (fun a => a = p_makers3) a ∨ u5.hp a = none := fun a z => .inr (gx_back E (hn18 a z))
      have G := Gx.trans G g15
      have E := Gx.trans E (Gx.of_gr g15)
      have f_bag := Rep.u g15 f_bag
      have f_makers := Rep.u g15 f_makers
      have f_left := Rep.u g15 f_left
      refine s_for (σ := [some v_bag, some (.ref p_makers3), some (.int k), some (.ref p_left13), some (.ref p_row17), y_j, none, none, none, none, none, none, none]) (s := s16) (X := (fun a => a = p_left13 ∨ (a = p_row17))) (fun u19 (a : ((List Int) × (List Int))) σ' s' => Gr C.s0 s' ∧ Gx (fun a => a = p_left13 ∨ (a = p_row17)) u19 s' ∧ ∃ y_j, σ' = [some v_bag, some (.ref p_makers3), some (.int k), some (.ref p_left13), some (.ref p_row17), y_j, none, none, none, none, none, none, none] ∧ (oL C.s0 sI p_left13).is s' (.ref p_left13) a.1 ∧ (oL C.s0 sI p_row17).is s' (.ref p_row17) a.2) (ei_rng1 ev_int) hm G (fun _ _ _ _ h => h.2.1) (fun u19 gu20 => ⟨(Gx.trans G gu20), (Gx.refl gu20.ok), y_j, rfl, (Rep.u gu20 f_left), (Rep.u gu20 f_row)⟩) (fun u19 j v_j a σ' s23 gu20 hI hx Qb21 hm => ?_) (fun u19 a σ' s24 gu20 hI hm => ?_)
      · have f_bag := Rep.u gu20 f_bag
        have f_makers := Rep.u gu20 f_makers
        have f_left := Rep.u gu20 f_left
        have f_row := Rep.u gu20 f_row
        obtain ⟨left, row⟩ := a
        obtain ⟨G, E, y_j, rfl, f_left, f_row⟩ := hI
        have f_bag := Rep.ux E (fun _ (z : False) => z.elim) f_bag
        have f_makers := Rep.ux E (fun a e z => (fun z => Or.elim z (fun z => dj_p_makers3_p_left13 a e z) (fun z => dj_p_makers3_p_row17 a e z)) z) f_makers
        have hm_p_left13 : ∀ a, a = p_left13 → (fun a => a = p_left13 ∨ (a = p_row17)) a ∨ u19.hp a = none := fun a z => .inl (.inl z)
        have hm_p_row17 : ∀ a, a = p_row17 → (fun a => a = p_left13 ∨ (a = p_row17)) a ∨ u19.hp a = none := fun a z => .inl (.inr z)
        obtain rfl : v_j = V.int j := hx
        refine gname_do (σ' := [some v_bag, some (.ref p_makers3), some (.int k), some (.ref p_left13), some (.ref p_row17), some (.int j), none, none, none, none, none, none, none]) rfl ?_
        refine s_appPop (σ := [some v_bag, some (.ref p_makers3), some (.int k), some (.ref p_left13), some (.ref p_row17), some (.int j), none, none, none, none, none, none, none]) (s := s23) (fun z => dj_p_left13_p_row17 p_left13 rfl z) f_left f_row (ev_var f_row) (ev_var f_left) (ev_call0 (E := fun _ => E0) (ea_cons (ev_var (d := ()) f_bag) (ea_cons (ev_lenL rd_own (ev_var f_left)) ea_nil))) hm G fun d27 s25 g26 G f_left f_row hm => ?_
        obtain ⟨row, left⟩ := d27
        have E := Gx.gx' E g26 (fun a z => (fun z => Or.elim z (fun z => hm_p_row17 a z) (fun z => hm_p_left13 a z)) z)
        have f_bag := Rep.ux g26 (fun _ (z : False) => z.elim) f_bag
        have f_makers := Rep.ux g26 (fun a e z => (fun z => Or.elim z (fun z => dj_p_makers3_p_row17 a e z) (fun z => dj_p_makers3_p_left13 a e z)) z) f_makers
        exact ⟨(left, row), _, rfl, hm, ⟨G, E, some (.int j), rfl, f_left, f_row⟩⟩
      have f_bag := Rep.u gu20 f_bag
      have f_makers := Rep.u gu20 f_makers
      have f_left := Rep.u gu20 f_left
      have f_row := Rep.u gu20 f_row
      have E0 := Gx.trans E (Gx.of_gr gu20)
      obtain ⟨left, row⟩ := a
      obtain ⟨G, E, y_j, rfl, f_left, f_row⟩ := hI
      have f_bag := Rep.ux E (fun _ (z : False) => z.elim) f_bag
      have f_makers := Rep.ux E (fun a e z => (fun z => Or.elim z (fun z => dj_p_makers3_p_left13 a e z) (fun z => dj_p_makers3_p_row17 a e z)) z) f_makers
      have E := Gx.gx' E0 E (fun a z => (fun z => Or.elim z (fun z => hm_p_left13 a z) (fun z => hm_p_row17 a z)) z)
      obtain ⟨s30, eh32, G, g31, f_row⟩ := own_frz G f_row
      rw [← eh32]
      have E := Gx.gx' E g31 (fun a z => (fun z => hm_p_row17 a z) z)
      have f_bag := Rep.ux g31 (fun _ (z : False) => z.elim) f_bag
      have f_makers := Rep.ux g31 (fun a e z => (fun z => dj_p_makers3_p_row17 a e z) z) f_makers
      have f_left := Rep.ux g31 (fun a e z => (fun z => dj_p_left13_p_row17 a e z) z) f_left
      refine s_app (σ := [some v_bag, some (.ref p_makers3), some (.int k), some (.ref p_left13), some (.ref p_row17), y_j, none, none, none, none, none, none, none]) (s := s30) f_makers (ev_var f_makers) (ev_var f_row) hm G fun makers s33 g34 G f_makers hm => ?_
      have E := Gx.gx' E g34 (fun a z => (fun z => hm_p_makers3 a z) z)
      have f_bag := Rep.ux g34 (fun _ (z : False) => z.elim) f_bag
      have f_left := Rep.ux g34 (fun a e z => (fun z => dj_p_makers3_p_left13 a z e) z) f_left
      have f_row := SRep.ux g34 f_row
      exact ⟨makers, _, rfl, hm, ⟨G, E, some (.int k), some (.ref p_left13), some (.ref p_row17), y_j, rfl, f_makers⟩⟩
    have f_bag := Rep.u gu6 f_bag
    have f_makers := Rep.u gu6 f_makers
    obtain ⟨makers, ea⟩ : ∃ z, z = a := ⟨a, rfl⟩
    subst ea
    obtain ⟨G, E, y_k, y_left, y_row, y_j, rfl, f_makers⟩ := hI
    refine s_setN (σ := [some v_bag, some (.ref p_makers3), y_k, y_left, y_row, y_j, none, none, none, none, none, none, none]) (s := s10) (σf := fun v => [some v_bag, some (.ref p_makers3), y_k, y_left, y_row, y_j, some v, none, none, none, none, none, none]) (evn_lst (el_cons (evn_ev (evn_lst (el_cons ev_int (el_cons ev_int (el_cons ev_int (el_cons ev_int (el_nil (r := sI)))))) (by decide))) (el_nil (r := (sL sI)))) (by decide)) hm G (fun _ => rfl) fun found p_found39 s38 g37 hn40 f_found hm => ?_
    have hn40 : ∀ a, a = p_found39 → _ := fun a e => (show s10.hp a = none from by rw [e]; exact hn40)
    have dj_p_makers3_p_found39 : ∀ a, a = p_makers3 → a = p_found39 → False := fun a e z => own_al f_makers a e (hn40 a z)
    have G := Gx.trans G g37
    have f_makers := Rep.u g37 f_makers
    refine s_for (σ := [some v_bag, some (.ref p_makers3), y_k, y_left, y_row, y_j, some (.ref p_found39), none, none, none, none, none, none]) (s := s38) (X := (fun a => a = p_found39)) (fun u41 (a : ((List (List Int)))) σ' s' => Gr C.s0 s' ∧ Gx (fun a => a = p_found39) u41 s' ∧ ∃ y_row, ∃ y_at', ∃ y_maker, ∃ y_point, σ' = [some v_bag, some (.ref p_makers3), y_k, y_left, y_row, y_j, some (.ref p_found39), y_at', y_maker, y_point, none, none, none] ∧ (oL C.s0 (sL sI) p_found39).is s' (.ref p_found39) a) (ei_rng1 ev_int) hm G (fun _ _ _ _ h => h.2.1) (fun u41 gu42 => ⟨(Gx.trans G gu42), (Gx.refl gu42.ok), y_row, none, none, none, rfl, (Rep.u gu42 f_found)⟩) (fun u41 at' v_at' a σ' s45 gu42 hI hx Qb43 hm => ?_) (fun u41 a σ' s46 gu42 hI hm => ?_)
    · have f_makers := Rep.u gu42 f_makers
      have f_found := Rep.u gu42 f_found
      obtain ⟨found, ea⟩ : ∃ z, z = a := ⟨a, rfl⟩
      subst ea
      obtain ⟨G, E, y_row, y_at', y_maker, y_point, rfl, f_found⟩ := hI
      have f_makers := Rep.ux E (fun a e z => (fun z => dj_p_makers3_p_found39 a e z) z) f_makers
      have hm_p_found39 : ∀ a, a = p_found39 → (fun a => a = p_found39) a ∨ u41.hp a = none := fun a z => .inl z
      obtain rfl : v_at' = V.int at' := hx
      refine gname_do (σ' := [some v_bag, some (.ref p_makers3), y_k, y_left, y_row, y_j, some (.ref p_found39), some (.int at'), y_maker, y_point, none, none, none]) rfl ?_
      refine s_ifj (σ := [some v_bag, some (.ref p_makers3), y_k, y_left, y_row, y_j, some (.ref p_found39), some (.int at'), y_maker, y_point, none, none, none]) (s := s45) (fun (a : ((List (List Int)))) σ' s' => Gr C.s0 s' ∧ Gx (fun a => a = p_found39) s45 s' ∧ ∃ y_row, ∃ y_maker, ∃ y_point, σ' = [some v_bag, some (.ref p_makers3), y_k, y_left, y_row, y_j, some (.ref p_found39), some (.int at'), y_maker, y_point, none, none, none] ∧ (oL C.s0 (sL sI) p_found39).is s' (.ref p_found39) a) (et_test (ev_lt (ev_var (r := sI.r) (d := at') rfl) (ev_lenL rd_own (ev_var f_found)))) hm G (fun s48 g47 Qb51 hm => ?_) (fun s49 g47 Qb51 hm => ?_) (fun a σ' s89 hI hm => ?_)
      · have G := Gx.trans G g47
        have E : Gx (fun a => a = p_found39) s45 _ := Gx.of_gr g47
        have hm_p_found39 : ∀ a, a = p_found39 → (fun a => a = p_found39) a ∨ s45.hp a = none := fun a z => .inl z
        have f_makers := Rep.u g47 f_makers
        have f_found := Rep.u g47 f_found
        refine s_for (σ := [some v_bag, some (.ref p_makers3), y_k, y_left, y_row, y_j, some (.ref p_found39), some (.int at'), y_maker, y_point, none, none, none]) (s := s48) (X := (fun a => a = p_found39)) (fun u53 (a : ((List (List Int)))) σ' s' => Gr C.s0 s' ∧ Gx (fun a => a = p_found39) u53 s' ∧ ∃ y_row, ∃ y_maker, ∃ y_point, σ' = [some v_bag, some (.ref p_makers3), y_k, y_left, y_row, y_j, some (.ref p_found39), some (.int at'), y_maker, y_point, none, none, none] ∧ (oL C.s0 (sL sI) p_found39).is s' (.ref p_found39) a) (ei_list rd_own (own_nw f_found) (fun a e z => (fun z => dj_p_makers3_p_found39 a e z) z) (ev_var f_makers)) hm G (fun _ _ _ _ h => h.2.1) (fun u53 gu54 => ⟨(Gx.trans G gu54), (Gx.refl gu54.ok), y_row, y_maker, y_point, rfl, (Rep.u gu54 f_found)⟩) (fun u53 maker v_maker a σ' s57 gu54 hI hx Qb55 hm => ?_) (fun u53 a σ' s58 gu54 hI hm => ?_)
        · have f_makers := Rep.u gu54 f_makers
          have f_found := Rep.u gu54 f_found
          obtain ⟨found, ea⟩ : ∃ z, z = a := ⟨a, rfl⟩
          subst ea
          obtain ⟨G, E, y_row, y_maker, y_point, rfl, f_found⟩ := hI
          have f_makers := Rep.ux E (fun a e z => (fun z => dj_p_makers3_p_found39 a e z) z) f_makers
          have hm_p_found39 : ∀ a, a = p_found39 → (fun a => a = p_found39) a ∨ u53.hp a = none := fun a z => .inl z
          have f_maker := hx
          refine gname_do (σ' := [some v_bag, some (.ref p_makers3), y_k, y_left, y_row, y_j, some (.ref p_found39), some (.int at'), some v_maker, y_point, none, none, none]) rfl ?_
          refine s_setN (σ := [some v_bag, some (.ref p_makers3), y_k, y_left, y_row, y_j, some (.ref p_found39), some (.int at'), some v_maker, y_point, none, none, none]) (s := s57) (σf := fun v => [some v_bag, some (.ref p_makers3), y_k, y_left, some v, y_j, some (.ref p_found39), some (.int at'), some v_maker, y_point, none, none, none]) (evn_lc (σf := fun v => [some v_bag, some (.ref p_makers3), y_k, y_left, y_row, y_j, some (.ref p_found39), some (.int at'), some v_maker, some v, none, none, none]) (ei_list rd_st newx_no (fun _ z _ => z.elim) (ev_ixL rd_own (ev_var f_found) (ev_var (r := sI.r) (d := at') rfl))) (fun _ => rfl) (fun _ => rfl) (fun point_59 v_point_59 t gc60 g061 f_point_59 => (ev_ixL rd_st (ev_var (Rep.u gc60 f_maker)) (ev_var (r := sI.r) (d := point_59) f_point_59)))) hm G (fun _ => rfl) fun row p_row65 s64 g63 hn66 f_row hm => ?_
          have hn66 : ∀ a, a = p_row65 → _ := fun a e => (show s57.hp a = none from by rw [e]; exact hn66)
          have dj_p_makers3_p_row65 : ∀ a, a = p_makers3 → a = p_row65 → False := fun a e z => own_al f_makers a e (hn66 a z)
          have dj_p_found39_p_row65 : ∀ a, a = p_found39 → a = p_row65 → False := fun a e z => own_al f_found a e (hn66 a z)
          have hm_p_row65 : ∀ a, a = p_row65 → (fun a => a = p_found39) a ∨ u53.hp a = none := fun a z => .inr (gx_back E (hn66 a z))
          have G := Gx.trans G g63
          have E := Gx.trans E (Gx.of_gr g63)
          have f_makers := Rep.u g63 f_makers
          have f_found := Rep.u g63 f_found
          obtain ⟨s75, eh77, G, g76, f_row⟩ := own_frz G f_row
          rw [← eh77]
          have E := Gx.gx' E g76 (fun a z => (fun z => hm_p_row65 a z) z)
          have f_makers := Rep.ux g76 (fun a e z => (fun z => dj_p_makers3_p_row65 a e z) z) f_makers
          have f_found := Rep.ux g76 (fun a e z => (fun z => dj_p_found39_p_row65 a e z) z) f_found
          refine s_ifj (σ := [some v_bag, some (.ref p_makers3), y_k, y_left, some (.ref p_row65), y_j, some (.ref p_found39), some (.int at'), some v_maker, y_point, none, none, none]) (s := s75) (fun (a : ((List (List Int)))) σ' s' => Gr C.s0 s' ∧ Gx (fun a => a = p_found39) s75 s' ∧ σ' = [some v_bag, some (.ref p_makers3), y_k, y_left, some (.ref p_row65), y_j, some (.ref p_found39), some (.int at'), some v_maker, y_point, none, none, none] ∧ (oL C.s0 (sL sI) p_found39).is s' (.ref p_found39) a) (et_test (ev_niD (enc_L enc_I) (dpr_st (enc_L enc_I)) (dpr_own (enc_L enc_I)) (Nat.le_of_ble_eq_true rfl) (ev_var f_row) (ev_var f_found))) hm G (fun s79 g78 Qb82 hm => ?_) (fun s80 g78 Qb82 hm => ?_) (fun a σ' s87 hI hm => ?_)
          · have G := Gx.trans G g78
            have E : Gx (fun a => a = p_found39) s75 _ := Gx.of_gr g78
            have hm_p_found39 : ∀ a, a = p_found39 → (fun a => a = p_found39) a ∨ s75.hp a = none := fun a z => .inl z
            have f_makers := Rep.u g78 f_makers
            have f_found := Rep.u g78 f_found
            have f_row := Rep.u g78 f_row
            refine s_app (σ := [some v_bag, some (.ref p_makers3), y_k, y_left, some (.ref p_row65), y_j, some (.ref p_found39), some (.int at'), some v_maker, y_point, none, none, none]) (s := s79) f_found (ev_var f_found) (ev_var f_row) hm G fun found s84 g85 G f_found hm => ?_
            have E := Gx.gx' E g85 (fun a z => (fun z => hm_p_found39 a z) z)
            have f_makers := Rep.ux g85 (fun a e z => (fun z => dj_p_makers3_p_found39 a e z) z) f_makers
            exact ⟨found, _, rfl, hm, ⟨G, E, rfl, f_found⟩⟩
          · have G := Gx.trans G g78
            have E : Gx (fun a => a = p_found39) s75 _ := Gx.of_gr g78
            have hm_p_found39 : ∀ a, a = p_found39 → (fun a => a = p_found39) a ∨ s75.hp a = none := fun a z => .inl z
            have f_makers := Rep.u g78 f_makers
            have f_found := Rep.u g78 f_found
            exact ⟨found, _, rfl, hm, ⟨G, E, rfl, f_found⟩⟩
          have E0 := E
          obtain ⟨found, ea⟩ : ∃ z, z = a := ⟨a, rfl⟩
          subst ea
          obtain ⟨G, E, rfl, f_found⟩ := hI
          have f_makers := Rep.ux E (fun a e z => (fun z => dj_p_makers3_p_found39 a e z) z) f_makers
          have E := Gx.gx' E0 E (fun a z => (fun z => hm_p_found39 a z) z)
          exact ⟨found, _, rfl, hm, ⟨G, E, some (.ref p_row65), some v_maker, y_point, rfl, f_found⟩⟩
        have f_makers := Rep.u gu54 f_makers
        have f_found := Rep.u gu54 f_found
        have E0 := Gx.trans E (Gx.of_gr gu54)
        obtain ⟨found, ea⟩ : ∃ z, z = a := ⟨a, rfl⟩
        subst ea
        obtain ⟨G, E, y_row, y_maker, y_point, rfl, f_found⟩ := hI
        have f_makers := Rep.ux E (fun a e z => (fun z => dj_p_makers3_p_found39 a e z) z) f_makers
        have E := Gx.gx' E0 E (fun a z => (fun z => hm_p_found39 a z) z)
        exact ⟨found, _, rfl, hm, ⟨G, E, y_row, y_maker, y_point, rfl, f_found⟩⟩
      · have G := Gx.trans G g47
        have E : Gx (fun a => a = p_found39) s45 _ := Gx.of_gr g47
        have hm_p_found39 : ∀ a, a = p_found39 → (fun a => a = p_found39) a ∨ s45.hp a = none := fun a z => .inl z
        have f_makers := Rep.u g47 f_makers
        have f_found := Rep.u g47 f_found
        exact ⟨found, _, rfl, hm, ⟨G, E, y_row, y_maker, y_point, rfl, f_found⟩⟩
      have E0 := E
      obtain ⟨found, ea⟩ : ∃ z, z = a := ⟨a, rfl⟩
      subst ea
      obtain ⟨G, E, y_row, y_maker, y_point, rfl, f_found⟩ := hI
      have f_makers := Rep.ux E (fun a e z => (fun z => dj_p_makers3_p_found39 a e z) z) f_makers
      have E := Gx.gx' E0 E (fun a z => (fun z => hm_p_found39 a z) z)
      exact ⟨found, _, rfl, hm, ⟨G, E, y_row, some (.int at'), y_maker, y_point, rfl, f_found⟩⟩
    have f_makers := Rep.u gu42 f_makers
    have f_found := Rep.u gu42 f_found
    obtain ⟨found, ea⟩ : ∃ z, z = a := ⟨a, rfl⟩
    subst ea
    obtain ⟨G, E, y_row, y_at', y_maker, y_point, rfl, f_found⟩ := hI
    refine s_setN (σ := [some v_bag, some (.ref p_makers3), y_k, y_left, y_row, y_j, some (.ref p_found39), y_at', y_maker, y_point, none, none, none]) (s := s46) (σf := fun v => [some v_bag, some (.ref p_makers3), y_k, y_left, y_row, y_j, some v, y_at', y_maker, y_point, none, none, none]) (evn_sortedE (enc_L enc_I) (Nat.le_of_ble_eq_true rfl) rd_own sta_st (ev_var f_found)) hm G (fun _ => rfl) fun found p_found92 s91 g90 hn93 f_found hm => ?_
    have hn93 : ∀ a, a = p_found92 → _ := fun a e => (show s46.hp a = none from by rw [e]; exact hn93)
    have G := Gx.trans G g90
    refine s_setN (σ := [some v_bag, some (.ref p_makers3), y_k, y_left, y_row, y_j, some (.ref p_found92), y_at', y_maker, y_point, none, none, none]) (s := s91) (σf := fun v => [some v_bag, some (.ref p_makers3), y_k, y_left, y_row, y_j, some (.ref p_found92), y_at', y_maker, y_point, some v, none, none]) (evn_lst (el_nil (r := (sL sI))) (by decide)) hm G (fun _ => rfl) fun table p_table96 s95 g94 hn97 f_table hm => ?_
    have hn97 : ∀ a, a = p_table96 → _ := fun a e => (show s91.hp a = none from by rw [e]; exact hn97)
    have dj_p_found92_p_table96 : ∀ a, a = p_found92 → a = p_table96 → False := fun a e z => own_al f_found a e (hn97 a z)
    have G := Gx.trans G g94
    have f_found := Rep.u g94 f_found
    refine s_for (σ := [some v_bag, some (.ref p_makers3), y_k, y_left, y_row, y_j, some (.ref p_found92), y_at', y_maker, y_point, some (.ref p_table96), none, none]) (s := s95) (X := (fun a => a = p_table96)) (fun u98 (a : ((List (List Int)))) σ' s' => Gr C.s0 s' ∧ Gx (fun a => a = p_table96) u98 s' ∧ ∃ y_point, ∃ y_p, ∃ y_q, σ' = [some v_bag, some (.ref p_makers3), y_k, y_left, y_row, y_j, some (.ref p_found92), y_at', y_maker, y_point, some (.ref p_table96), y_p, y_q] ∧ (oL C.s0 (sL sI) p_table96).is s' (.ref p_table96) a) (ei_list rd_own (own_nw f_table) (fun a e z => (fun z => dj_p_found92_p_table96 a e z) z) (ev_var f_found)) hm G (fun _ _ _ _ h => h.2.1) (fun u98 gu99 => ⟨(Gx.trans G gu99), (Gx.refl gu99.ok), y_point, none, none, rfl, (Rep.u gu99 f_table)⟩) (fun u98 p v_p a σ' s102 gu99 hI hx Qb100 hm => ?_) (fun u98 a σ' s103 gu99 hI hm => ?_)
    · have f_found := Rep.u gu99 f_found
      have f_table := Rep.u gu99 f_table
      obtain ⟨table, ea⟩ : ∃ z, z = a := ⟨a, rfl⟩
      subst ea
      obtain ⟨G, E, y_point, y_p, y_q, rfl, f_table⟩ := hI
      have f_found := Rep.ux E (fun a e z => (fun z => dj_p_found92_p_table96 a e z) z) f_found
      have hm_p_table96 : ∀ a, a = p_table96 → (fun a => a = p_table96) a ∨ u98.hp a = none := fun a z => .inl z
      have f_p := hx
      refine gname_do (σ' := [some v_bag, some (.ref p_makers3), y_k, y_left, y_row, y_j, some (.ref p_found92), y_at', y_maker, y_point, some (.ref p_table96), some v_p, y_q]) rfl ?_
      refine s_app (σ := [some v_bag, some (.ref p_makers3), y_k, y_left, y_row, y_j, some (.ref p_found92), y_at', y_maker, y_point, some (.ref p_table96), some v_p, y_q]) (s := s102) f_table (ev_var f_table) (evn_ev (evn_lc (σf := fun v => [some v_bag, some (.ref p_makers3), y_k, y_left, y_row, y_j, some (.ref p_found92), y_at', y_maker, y_point, some (.ref p_table96), some v_p, some v]) (ei_list rd_own newx_no (fun a e z => (z : False)) (ev_var f_found)) (fun _ => rfl) (fun _ => rfl) (fun q_106 v_q_106 t gc107 g0108 f_q_106 => (ev_idx (enc_L enc_I) rd_own (dpr_st (enc_L enc_I)) (dpr_own (enc_L enc_I)) (Nat.le_of_ble_eq_true rfl) (ev_var (Rep.u gc107 f_found)) (evn_ev (evn_lc (σf := fun v => [some v_bag, some (.ref p_makers3), y_k, y_left, y_row, y_j, some (.ref p_found92), y_at', y_maker, some v, some (.ref p_table96), some v_p, some v_q_106]) (ei_list rd_st newx_no (fun _ z _ => z.elim) (ev_var (Rep.u gc107 f_p))) (fun _ => rfl) (fun _ => rfl) (fun point_109 v_point_109 t gc110 g0111 f_point_109 => (ev_ixL rd_st (ev_var (Rep.u gc110 f_q_106)) (ev_var (r := sI.r) (d := point_109) f_point_109))))))))) hm G fun table s104 g105 G f_table hm => ?_
      have E := Gx.gx' E g105 (fun a z => (fun z => hm_p_table96 a z) z)
      have f_found := Rep.ux g105 (fun a e z => (fun z => dj_p_found92_p_table96 a e z) z) f_found
      exact ⟨table, _, rfl, hm, ⟨G, E, y_point, some v_p, y_q, rfl, f_table⟩⟩
    have f_found := Rep.u gu99 f_found
    have f_table := Rep.u gu99 f_table
    obtain ⟨table, ea⟩ : ∃ z, z = a := ⟨a, rfl⟩
    subst ea
    obtain ⟨G, E, y_point, y_p, y_q, rfl, f_table⟩ := hI
    obtain ⟨s116, eh118, G, g117, f_table⟩ := own_frz G f_table
    rw [← eh118]
    exact s_ret (σ := [some v_bag, some (.ref p_makers3), y_k, y_left, y_row, y_j, some (.ref p_found92), y_at', y_maker, y_point, some (.ref p_table96), y_p, y_q]) (s := s116) (ev_var f_table) hm G fun d v u qd g hv => hQ d v u ((fun _ q => q) d qd) g hv

abbrev st__law_renamed : Stmt := topS 16
abbrev N__law_renamed : List Str := ["bag", "table", "size", "names", "x", "y", "kept", "result"]
theorem sc__law_renamed : FnScope N__law_renamed ["bag", "table"] (defScope st__law_renamed) := ⟨rfl, rfl, rfl, by decide +kernel, rfl, by decide +kernel, by decide +kernel⟩
abbrev sp__law_renamed (K : PySem.W.Frag) (A : Ad) : Sp := sp0 (aC rG (aC (bP (sL (sL sI))) aN)) (fun a => Mi._law_renamed a.1 a.2.1) (fun _ => (sL (sL sI)).r)
theorem ok__law_renamed {P : Program} {w : World} {K : PySem.W.Frag} {mg : Str → Option Value} {base : Heap} {A : Ad} (T : Mo K mg A) {f : Addr} {fd : FuncData} (F : Fun K "_law_renamed" "_law_renamed" st__law_renamed f fd)
    {f__law_take : Addr} {fd__law_take : FuncData} (c__law_take : Cal P w K mg base CX0 1 "_law_take" ["bag", "size"] (sp__law_take K A) f__law_take fd__law_take) (m_len : mg "len" = none) (m_list : mg "list" = none) (m_range : mg "range" = none) :
    FnOk P w K mg base CX0 2 f fd ["bag", "table"] (sp__law_renamed K A) := by
  refine fn0 F sc__law_renamed (fun s vs a h => ?_) (fun cdv A9 outer sh EX hr C a vs Qm ok ha hm => ?_)
  · obtain ⟨v0, w0, rfl, _, h⟩ := h; obtain ⟨v1, w1, rfl, _, h⟩ := h; cases h; rfl
  · obtain ⟨bag, table, _⟩ := a
    obtain ⟨v_bag, w_bag, rfl, f_bag, ha⟩ := ha
    obtain ⟨v_table, w_table, rfl, f_table, ha⟩ := ha
    cases ha
    have f_table : (bR C.s0 (sL (sL sI))).is C.s0 v_table table := f_table
    have G : Gr C.s0 C.s0 := Gx.refl ok
    unfold Mi._law_renamed at hm
    try dsimp only at hm
    refine ⟨_, (pss_cons (ps_set (i := 2) sc__law_renamed.nd rfl (.inr rfl) (pe_callB (k_len K rfl) (by rfl) m_len PySem.boot_len (pa_cons (pv 1) pa_nil))) (pss_cons (ps_set (i := 3) sc__law_renamed.nd rfl (.inl rfl) (pe_listRg rfl (by rfl) m_list (prg_1 (by rfl) m_range (pv 2)))) (pss_cons (ps_for PassesOwn.never rfl (pi_range3 (by rfl) m_range (pa_cons (pe_op op_sub (pv 2) pe_int) (pa_cons pe_int (pa_cons (pe_un un_neg pe_int) pa_nil)))) (pg_name (i := 4) sc__law_renamed.nd rfl (.inl rfl)) (pss_cons (ps_set (i := 5) sc__law_renamed.nd rfl (.inl rfl) (pe_op op_add pe_int (pe_callS (E := fun _ => E0) c__law_take.ok hr (by rfl) c__law_take.gm c__law_take.kp c__law_take.bn pat0 (pa_cons (pv 0) (pa_cons (pv 4) pa_nil))))) (pss_cons (ps_set (i := 6) sc__law_renamed.nd rfl (.inl rfl) (pe_ix (k_ixL K rfl) (pv 3) (pv 4) (fun _ _ => rfl))) (pss_cons (ps_asg (pe_ix (k_ixL K rfl) (pv 3) (pv 5) (fun _ _ => rfl)) (pg_sub (pv 3) (pv 4) set_list)) (pss_cons (ps_asg (pv 6) (pg_sub (pv 3) (pv 5) set_list)) pss_nil))))) (pss_cons (ps_setLc (i := 7) (own := [("x", 4)]) (g := gName 4) (tt := tYes) rfl sc__law_renamed.nd rfl rfl (sw_true rfl rfl rfl (by decide +kernel)) (pi_range1 (by rfl) m_range (pa_cons (pv 2) pa_nil)) (blkOk_by (own := [("x", 4)]) (N := N__law_renamed) (sc := defScope st__law_renamed) (by decide +kernel)) (fun _ _ _ _ _ => pg_name (i := 4) sc__law_renamed.nd rfl (Or.inl rfl))  (fun _ _ _ _ _ => pts_nil) (fun _ _ _ _ _ => (pe_op op_rep (pe_lst (pa_cons pe_int pa_nil)) (pv 2)))) (pss_cons (ps_for PassesOwn.never rfl (pi_range1 (by rfl) m_range (pa_cons (pv 2) pa_nil)) (pg_name (i := 4) sc__law_renamed.nd rfl (.inl rfl)) (pss_cons (ps_for PassesOwn.never rfl (pi_range1 (by rfl) m_range (pa_cons (pv 2) pa_nil)) (pg_name (i := 5) sc__law_renamed.nd rfl (.inl rfl)) (pss_cons (ps_asg (pe_ix (k_ixL K rfl) (pv 3) (pe_ix (k_ixL K rfl) (pe_ix (k_ixL K rfl) (pv 1) (pv 4) (fun _ _ => rfl)) (pv 5) (fun _ _ => rfl)) (fun _ _ => rfl)) (pg_sub (pe_ix (k_ixL K rfl) (pv 7) (pe_ix (k_ixL K rfl) (pv 3) (pv 4) (fun _ _ => rfl)) (fun _ _ => rfl)) (pe_ix (k_ixL K rfl) (pv 3) (pv 5) (fun _ _ => rfl)) set_list)) pss_nil)) pss_nil)) (pss_cons (ps_ret (pv 7)) pss_nil)))))), fun Q hQ => ?_⟩
    refine s_set (σ := [some v_bag, some v_table, none, none, none, none, none, none]) (s := C.s0) (σf := fun v => [some v_bag, some v_table, some v, none, none, none, none, none]) (ev_lenL rd_bor (ev_var (r := (bR C.s0 (sL (sL sI)))) (d := table) f_table)) hm G (fun _ => rfl) fun size v_size s2 g1 f_size hm => ?_
    have G := Gx.trans G g1
    have f_bag := Rep.u g1 f_bag
    obtain rfl : v_size = V.int size := f_size
    refine s_setN (σ := [some v_bag, some v_table, some (.int size), none, none, none, none, none]) (s := s2) (σf := fun v => [some v_bag, some v_table, some (.int size), some v, none, none, none, none]) (evn_lrg1 (ev_var (r := sI.r) (d := size) rfl)) hm G (fun _ => rfl) fun names p_names5 s4 g3 hn6 f_names hm => ?_
    have hn6 : ∀ a, a = p_names5 → _ := fun a e => (show s2.hp a = none from by rw [e]; exact hn6)
    have G := Gx.trans G g3
    have f_bag := Rep.u g3 f_bag
    refine s_for (σ := [some v_bag, some v_table, some (.int size), some (.ref p_names5), none, none, none, none]) (s := s4) (X := (fun a => a = p_names5)) (fun u7 (a : ((List Int))) σ' s' => Gr C.s0 s' ∧ Gx (fun a => a = p_names5) u7 s' ∧ ∃ y_x, ∃ y_y, ∃ y_kept, σ' = [some v_bag, some v_table, some (.int size), some (.ref p_names5), y_x, y_y, y_kept, none] ∧ (oL C.s0 sI p_names5).is s' (.ref p_names5) a) (ei_rngd (ev_sub (ev_var (r := sI.r) (d := size) rfl) ev_int) ev_int) hm G (fun _ _ _ _ h => h.2.1) (fun u7 gu8 => ⟨(Gx.trans G gu8), (Gx.refl gu8.ok), none, none, none, rfl, (Rep.u gu8 f_names)⟩) (fun u7 x v_x a σ' s11 gu8 hI hx Qb9 hm => ?_) (fun u7 a σ' s12 gu8 hI hm => ?_)
    · have f_bag := Rep.u gu8 f_bag
      have f_names := Rep.u gu8 f_names
      obtain ⟨names, ea⟩ : ∃ z, z = a := ⟨a, rfl⟩
      subst ea
      obtain ⟨G, E, y_x, y_y, y_kept, rfl, f_names⟩ := hI
      have f_bag := Rep.ux E (fun _ (z : False) => z.elim) f_bag
      have hm_p_names5 : ∀ a, a = p_names5 → (fun a => a = p_names5) a ∨ u7.hp a = none := fun a z => .inl z
      obtain rfl : v_x = V.int x := hx
      refine gname_do (σ' := [some v_bag, some v_table, some (.int size), some (.ref p_names5), some (.int x), y_y, y_kept, none]) rfl ?_
      refine s_set (σ := [some v_bag, some v_table, some (.int size), some (.ref p_names5), some (.int x), y_y, y_kept, none]) (s := s11) (σf := fun v => [some v_bag, some v_table, some (.int size), some (.ref p_names5), some (.int x), some v, y_kept, none]) (ev_add ev_int (ev_call0 (E := fun _ => E0) (ea_cons (ev_var (d := ()) f_bag) (ea_cons (ev_var (r := sI.r) (d := x) rfl) ea_nil)))) hm G (fun _ => rfl) fun y v_y s15 g14 f_y hm => ?_
      have G := Gx.trans G g14
      have E := Gx.trans E (Gx.of_gr g14)
      have f_bag := Rep.u g14 f_bag
      have f_names := Rep.u g14 f_names
      obtain rfl : v_y = V.int y := f_y
      refine s_set (σ := [some v_bag, some v_table, some (.int size), some (.ref p_names5), some (.int x), some (.int y), y_kept, none]) (s := s15) (σf := fun v => [some v_bag, some v_table, some (.int size), some (.ref p_names5), some (.int x), some (.int y), some v, none]) (ev_ixL rd_own (ev_var f_names) (ev_var (r := sI.r) (d := x) rfl)) hm G (fun _ => rfl) fun kept v_kept s17 g16 f_kept hm => ?_
      have G := Gx.trans G g16
      have E := Gx.trans E (Gx.of_gr g16)
      have f_bag := Rep.u g16 f_bag
      have f_names := Rep.u g16 f_names
      obtain rfl : v_kept = V.int kept := f_kept
      refine s_put (σ := [some v_bag, some v_table, some (.int size), some (.ref p_names5), some (.int x), some (.int y), some (.int kept), none]) (s := s17) f_names (ev_var f_names) (ev_ixL rd_own (ev_var f_names) (ev_var (r := sI.r) (d := y) rfl)) (ev_var (r := sI.r) (d := x) rfl) hm G fun names s18 g19 G f_names hm => ?_
      have E := Gx.gx' E g19 (fun a z => (fun z => hm_p_names5 a z) z)
      have f_bag := Rep.ux g19 (fun _ (z : False) => z.elim) f_bag
      refine s_put (σ := [some v_bag, some v_table, some (.int size), some (.ref p_names5), some (.int x), some (.int y), some (.int kept), none]) (s := s18) f_names (ev_var f_names) (ev_var (r := sI.r) (d := kept) rfl) (ev_var (r := sI.r) (d := y) rfl) hm G fun names s23 g24 G f_names hm => ?_
      have E := Gx.gx' E g24 (fun a z => (fun z => hm_p_names5 a z) z)
      have f_bag := Rep.ux g24 (fun _ (z : False) => z.elim) f_bag
      exact ⟨names, _, rfl, hm, ⟨G, E, some (.int x), some (.int y), some (.int kept), rfl, f_names⟩⟩
    have f_bag := Rep.u gu8 f_bag
    have f_names := Rep.u gu8 f_names
    obtain ⟨names, ea⟩ : ∃ z, z = a := ⟨a, rfl⟩
    subst ea
    obtain ⟨G, E, y_x, y_y, y_kept, rfl, f_names⟩ := hI
    refine s_setM (σ := [some v_bag, some v_table, some (.int size), some (.ref p_names5), y_x, y_y, y_kept, none]) (s := s12) (σf := fun v => [some v_bag, some v_table, some (.int size), some (.ref p_names5), y_x, y_y, y_kept, some v]) (evm_lc (σf := fun v => [some v_bag, some v_table, some (.int size), some (.ref p_names5), some v, y_y, y_kept, none]) (ei_rng1 (ev_var (r := sI.r) (d := size) rfl)) (fun _ => rfl) (fun _ => rfl) (fun x_27 v_x_27 t gc28 g029 f_x_27 => (evn_rep rs_st (evn_ev (evn_lst (el_cons ev_int (el_nil (r := sI))) (by decide))) (ev_var (r := sI.r) (d := size) rfl)))) hm G (fun _ => rfl) fun result p_result33 q_result34 s32 g31 hn34 f_result hm => ?_
    have dj_p_names5_p_result33 : ∀ a, a = p_names5 → (a = p_result33 ∨ a ∈ q_result34) → False := fun a e z => own_al f_names a e (hn34 a z)
    have G := Gx.trans G g31
    have f_names := Rep.u g31 f_names
    refine s_for (σ := [some v_bag, some v_table, some (.int size), some (.ref p_names5), y_x, y_y, y_kept, some (.ref p_result33)]) (s := s32) (X := (fun a => (a = p_result33 ∨ a ∈ q_result34))) (fun u35 (a : ((List (List Int)))) σ' s' => Gr C.s0 s' ∧ Gx (fun a => (a = p_result33 ∨ a ∈ q_result34)) u35 s' ∧ ∃ y_x, ∃ y_y, σ' = [some v_bag, some v_table, some (.int size), some (.ref p_names5), y_x, y_y, y_kept, some (.ref p_result33)] ∧ (oM C.s0 sI p_result33 q_result34).is s' (.ref p_result33) a) (ei_rng1 (ev_var (r := sI.r) (d := size) rfl)) hm G (fun _ _ _ _ h => h.2.1) (fun u35 gu36 => ⟨(Gx.trans G gu36), (Gx.refl gu36.ok), y_x, y_y, rfl, (Rep.u gu36 f_result)⟩) (fun u35 x v_x a σ' s39 gu36 hI hx Qb37 hm => ?_) (fun u35 a σ' s40 gu36 hI hm => ?_)
    · have f_names := Rep.u gu36 f_names
      have f_result := Rep.u gu36 f_result
      obtain ⟨result, ea⟩ : ∃ z, z = a := ⟨a, rfl⟩
      subst ea
      obtain ⟨G, E, y_x, y_y, rfl, f_result⟩ := hI
      have f_names := Rep.ux E (fun a e z => (fun z => dj_p_names5_p_result33 a e z) z) f_names
      have hm_p_result33 : ∀ a, (a = p_result33 ∨ a ∈ q_result34) → (fun a => (a = p_result33 ∨ a ∈ q_result34)) a ∨ u35.hp a = none := fun a z => .inl z
      obtain rfl : v_x = V.int x := hx
      refine gname_do (σ' := [some v_bag, some v_table, some (.int size), some (.ref p_names5), some (.int x), y_y, y_kept, some (.ref p_result33)]) rfl ?_
      refine s_for (σ := [some v_bag, some v_table, some (.int size), some (.ref p_names5), some (.int x), y_y, y_kept, some (.ref p_result33)]) (s := s39) (X := (fun a => (a = p_result33 ∨ a ∈ q_result34))) (fun u41 (a : ((List (List Int)))) σ' s' => Gr C.s0 s' ∧ Gx (fun a => (a = p_result33 ∨ a ∈ q_result34)) u41 s' ∧ ∃ y_y, σ' = [some v_bag, some v_table, some (.int size), some (.ref p_names5), some (.int x), y_y, y_kept, some (.ref p_result33)] ∧ (oM C.s0 sI p_result33 q_result34).is s' (.ref p_result33) a) (ei_rng1 (ev_var (r := sI.r) (d := size) rfl)) hm G (fun _ _ _ _ h => h.2.1) (fun u41 gu42 => ⟨(Gx.trans G gu42), (Gx.refl gu42.ok), y_y, rfl, (Rep.u gu42 f_result)⟩) (fun u41 y v_y a σ' s45 gu42 hI hx Qb43 hm => ?_) (fun u41 a σ' s46 gu42 hI hm => ?_)
      · have f_names := Rep.u gu42 f_names
        have f_result := Rep.u gu42 f_result
        obtain ⟨result, ea⟩ : ∃ z, z = a := ⟨a, rfl⟩
        subst ea
        obtain ⟨G, E, y_y, rfl, f_result⟩ := hI
        have f_names := Rep.ux E (fun a e z => (fun z => dj_p_names5_p_result33 a e z) z) f_names
        have hm_p_result33 : ∀ a, (a = p_result33 ∨ a ∈ q_result34) → (fun a => (a = p_result33 ∨ a ∈ q_result34)) a ∨ u41.hp a = none := fun a z => .inl z
        obtain rfl : v_y = V.int y := hx
        refine gname_do (σ' := [some v_bag, some v_table, some (.int size), some (.ref p_names5), some (.int x), some (.int y), y_kept, some (.ref p_result33)]) rfl ?_
        refine s_put2 (σ := [some v_bag, some v_table, some (.int size), some (.ref p_names5), some (.int x), some (.int y), y_kept, some (.ref p_result33)]) (s := s45) f_result (ev_var f_result) (ev_ixL rd_own (ev_var f_names) (ev_as (see_dry dry_I) (ev_ixL rd_bor (ev_ixL rd_bor (ev_var (r := (bR C.s0 (sL (sL sI)))) (d := table) f_table) (ev_var (r := sI.r) (d := x) rfl)) (ev_var (r := sI.r) (d := y) rfl)))) (ev_ixL rd_own (ev_var f_names) (ev_var (r := sI.r) (d := x) rfl)) (ev_ixL rd_own (ev_var f_names) (ev_var (r := sI.r) (d := y) rfl)) hm G fun result s47 g48 G f_result hm => ?_
        have E := Gx.gx' E g48 (fun a z => (fun z => hm_p_result33 a z) z)
        have f_names := Rep.ux g48 (fun a e z => (fun z => dj_p_names5_p_result33 a e z) z) f_names
        exact ⟨result, _, rfl, hm, ⟨G, E, some (.int y), rfl, f_result⟩⟩
      have f_names := Rep.u gu42 f_names
      have f_result := Rep.u gu42 f_result
      have E0 := Gx.trans E (Gx.of_gr gu42)
      obtain ⟨result, ea⟩ : ∃ z, z = a := ⟨a, rfl⟩
      subst ea
      obtain ⟨G, E, y_y, rfl, f_result⟩ := hI
      have f_names := Rep.ux E (fun a e z => (fun z => dj_p_names5_p_result33 a e z) z) f_names
      have E := Gx.gx' E0 E (fun a z => (fun z => hm_p_result33 a z) z)
      exact ⟨result, _, rfl, hm, ⟨G, E, some (.int x), y_y, rfl, f_result⟩⟩
    have f_names := Rep.u gu36 f_names
    have f_result := Rep.u gu36 f_result
    obtain ⟨result, ea⟩ : ∃ z, z = a := ⟨a, rfl⟩
    subst ea
    obtain ⟨G, E, y_x, y_y, rfl, f_result⟩ := hI
    obtain ⟨s52, eh54, G, g53, f_result⟩ := mat_frz G f_result
    rw [← eh54]
    exact s_ret (σ := [some v_bag, some v_table, some (.int size), some (.ref p_names5), y_x, y_y, y_kept, some (.ref p_result33)]) (s := s52) (ev_var f_result) hm G fun d v u qd g hv => hQ d v u ((fun _ q => q) d qd) g hv

abbrev st__law_table : Stmt := topS 17
abbrev N__law_table : List Str := ["bag", "limit", "table", "other"]
theorem sc__law_table : FnScope N__law_table ["bag", "limit"] (defScope st__law_table) := ⟨rfl, rfl, rfl, by decide +kernel, rfl, by decide +kernel, by decide +kernel⟩
abbrev sp__law_table (K : PySem.W.Frag) (A : Ad) : Sp := sp0 (aC rG (aC sI.r aN)) (fun a => Mi._law_table a.1 a.2.1) (fun _ => (sL (sL sI)).r)
theorem ok__law_table {P : Program} {w : World} {K : PySem.W.Frag} {mg : Str → Option Value} {base : Heap} {A : Ad} (T : Mo K mg A) {f : Addr} {fd : FuncData} (F : Fun K "_law_table" "_law_table" st__law_table f fd)
    {f__law_metacyclic : Addr} {fd__law_metacyclic : FuncData} (c__law_metacyclic : Cal P w K mg base CX0 2 "_law_metacyclic" ["bag", "limit"] (sp__law_metacyclic K A) f__law_metacyclic fd__law_metacyclic)
    {f__law_take : Addr} {fd__law_take : FuncData} (c__law_take : Cal P w K mg base CX0 1 "_law_take" ["bag", "size"] (sp__law_take K A) f__law_take fd__law_take)
    {f__law_permutations : Addr} {fd__law_permutations : FuncData} (c__law_permutations : Cal P w K mg base CX0 2 "_law_permutations" ["bag"] (sp__law_permutations K A) f__law_permutations fd__law_permutations)
    {f__law_renamed : Addr} {fd__law_renamed : FuncData} (c__law_renamed : Cal P w K mg base CX0 2 "_law_renamed" ["bag", "table"] (sp__law_renamed K A) f__law_renamed fd__law_renamed) (m_len : mg "len" = none) :
    FnOk P w K mg base CX0 3 f fd ["bag", "limit"] (sp__law_table K A) := by
  refine fn0 F sc__law_table (fun s vs a h => ?_) (fun cdv A9 outer sh EX hr C a vs Qm ok ha hm => ?_)
  · obtain ⟨v0, w0, rfl, _, h⟩ := h; obtain ⟨v1, w1, rfl, _, h⟩ := h; cases h; rfl
  · obtain ⟨bag, limit, _⟩ := a
    obtain ⟨v_bag, w_bag, rfl, f_bag, ha⟩ := ha
    obtain ⟨v_limit, w_limit, rfl, f_limit, ha⟩ := ha
    cases ha
    obtain rfl : v_limit = V.int limit := f_limit
    have G : Gr C.s0 C.s0 := Gx.refl ok
    unfold Mi._law_table at hm
    try dsimp only at hm
    refine ⟨_, (pss_cons (ps_set (i := 2) sc__law_table.nd rfl (.inl rfl) (pe_callS (E := fun _ => E0) c__law_metacyclic.ok hr (by rfl) c__law_metacyclic.gm c__law_metacyclic.kp c__law_metacyclic.bn pat0 (pa_cons (pv 0) (pa_cons (pv 1) pa_nil)))) (C8.pss_cut (ps_if (pt_cmpR op_eq (pe_callS (E := fun _ => E0) c__law_take.ok (hr.mono (by decide)) (by rfl) c__law_take.gm c__law_take.kp c__law_take.bn pat0 (pa_cons (pv 0) (pa_cons pe_int pa_nil))) pe_int (nomark _)) (pss_cons (ps_set (i := 3) sc__law_table.nd rfl (.inl rfl) (pe_callS (E := fun _ => E0) c__law_permutations.ok hr (by rfl) c__law_permutations.gm c__law_permutations.kp c__law_permutations.bn pat0 (pa_cons (pv 0) pa_nil))) (C8.pss_cut (ps_if (pt_cmpR op_le (pe_callB (k_len K rfl) (by rfl) m_len PySem.boot_len (pa_cons (pv 3) pa_nil)) (pv 1) (nomark _)) (pss_cons (ps_set (i := 2) sc__law_table.nd rfl (.inl rfl) (pv 3)) pss_nil) pss_nil) pss_nil)) pss_nil) (C8.pss_cut (ps_if (pt_cmpR op_eq (pe_callS (E := fun _ => E0) c__law_take.ok (hr.mono (by decide)) (by rfl) c__law_take.gm c__law_take.kp c__law_take.bn pat0 (pa_cons (pv 0) (pa_cons pe_int pa_nil))) pe_int (nomark _)) (pss_cons (ps_set (i := 2) sc__law_table.nd rfl (.inl rfl) (pe_callS (E := fun _ => E0) c__law_renamed.ok hr (by rfl) c__law_renamed.gm c__law_renamed.kp c__law_renamed.bn pat0 (pa_cons (pv 0) (pa_cons (pv 2) pa_nil)))) pss_nil) pss_nil) (pss_cons (ps_ret (pv 2)) pss_nil)))), fun Q hQ => ?_⟩
    refine s_set (σ := [some v_bag, some (.int limit), none, none]) (s := C.s0) (σf := fun v => [some v_bag, some (.int limit), some v, none]) (ev_call0 (E := fun _ => E0) (ea_cons (ev_var (d := ()) f_bag) (ea_cons (ev_var (r := sI.r) (d := limit) rfl) ea_nil))) hm G (fun _ => rfl) fun table v_table s2 g1 f_table hm => ?_
    have G := Gx.trans G g1
    have f_bag := Rep.u g1 f_bag
    refine s_ifj (σ := [some v_bag, some (.int limit), some v_table, none]) (s := s2) (fun (a : ((List (List Int)))) σ' s' => Gr C.s0 s' ∧ Gx No s2 s' ∧ ∃ v_table, ∃ y_other, σ' = [some v_bag, some (.int limit), some v_table, y_other] ∧ (sL (sL sI)).r.is s' v_table a) (et_test (ev_eqI (ev_call0 (E := fun _ => E0) (ea_cons (ev_var (d := ()) f_bag) (ea_cons ev_int ea_nil))) ev_int)) hm G (fun s5 g4 Qb8 hm => ?_) (fun s6 g4 Qb8 hm => ?_) (fun a σ' s21 hI hm => ?_)
    · have G := Gx.trans G g4
      have E : Gx No s2 _ := Gx.of_gr g4
      have f_bag := Rep.u g4 f_bag
      have f_table := Rep.u g4 f_table
      refine s_set (σ := [some v_bag, some (.int limit), some v_table, none]) (s := s5) (σf := fun v => [some v_bag, some (.int limit), some v_table, some v]) (ev_call0 (E := fun _ => E0) (ea_cons (ev_var (d := ()) f_bag) ea_nil)) hm G (fun _ => rfl) fun other v_other s11 g10 f_other hm => ?_
      have G := Gx.trans G g10
      have E := Gx.trans E (Gx.of_gr g10)
      have f_bag := Rep.u g10 f_bag
      have f_table := Rep.u g10 f_table
      refine s_ifj (σ := [some v_bag, some (.int limit), some v_table, some v_other]) (s := s11) (fun (a : ((List (List Int)))) σ' s' => Gr C.s0 s' ∧ Gx No s11 s' ∧ ∃ v_table, σ' = [some v_bag, some (.int limit), some v_table, some v_other] ∧ (sL (sL sI)).r.is s' v_table a) (et_test (ev_le (ev_lenL rd_st (ev_var f_other)) (ev_var (r := sI.r) (d := limit) rfl))) hm G (fun s13 g12 Qb16 hm => ?_) (fun s14 g12 Qb16 hm => ?_) (fun a σ' s20 hI hm => ?_)
      · have G := Gx.trans G g12
        have E : Gx No s11 _ := Gx.of_gr g12
        have f_bag := Rep.u g12 f_bag
        have f_table := Rep.u g12 f_table
        have f_other := Rep.u g12 f_other
        refine s_set (σ := [some v_bag, some (.int limit), some v_table, some v_other]) (s := s13) (σf := fun v => [some v_bag, some (.int limit), some v, some v_other]) (ev_var f_other) hm G (fun _ => rfl) fun table v_table s19 g18 f_table hm => ?_
        have G := Gx.trans G g18
        have E := Gx.trans E (Gx.of_gr g18)
        have f_bag := Rep.u g18 f_bag
        exact ⟨table, _, rfl, hm, ⟨G, E, v_table, rfl, f_table⟩⟩
      · have G := Gx.trans G g12
        have E : Gx No s11 _ := Gx.of_gr g12
        have f_bag := Rep.u g12 f_bag
        have f_table := Rep.u g12 f_table
        exact ⟨table, _, rfl, hm, ⟨G, E, v_table, rfl, f_table⟩⟩
      have E0 := E
      obtain ⟨table, ea⟩ : ∃ z, z = a := ⟨a, rfl⟩
      subst ea
      obtain ⟨G, E, v_table, rfl, f_table⟩ := hI
      have f_bag := Rep.u E f_bag
      have E := Gx.gx' E0 E (fun a z => (z : False).elim)
      exact ⟨table, _, rfl, hm, ⟨G, E, v_table, some v_other, rfl, f_table⟩⟩
    · have G := Gx.trans G g4
      have E : Gx No s2 _ := Gx.of_gr g4
      have f_bag := Rep.u g4 f_bag
      have f_table := Rep.u g4 f_table
      exact ⟨table, _, rfl, hm, ⟨G, E, v_table, none, rfl, f_table⟩⟩
    obtain ⟨table, ea⟩ : ∃ z, z = a := ⟨a, rfl⟩
    subst ea
    obtain ⟨G, E, v_table, y_other, rfl, f_table⟩ := hI
    have f_bag := Rep.u E f_bag
    refine s_ifj (σ := [some v_bag, some (.int limit), some v_table, y_other]) (s := s21) (fun (a : ((List (List Int)))) σ' s' => Gr C.s0 s' ∧ Gx No s21 s' ∧ ∃ v_table, σ' = [some v_bag, some (.int limit), some v_table, y_other] ∧ (sL (sL sI)).r.is s' v_table a) (et_test (ev_eqI (ev_call0 (E := fun _ => E0) (ea_cons (ev_var (d := ()) f_bag) (ea_cons ev_int ea_nil))) ev_int)) hm G (fun s24 g23 Qb27 hm => ?_) (fun s25 g23 Qb27 hm => ?_) (fun a σ' s31 hI hm => ?_)
    · have G := Gx.trans G g23
      have E : Gx No s21 _ := Gx.of_gr g23
      have f_bag := Rep.u g23 f_bag
      have f_table := Rep.u g23 f_table
      refine s_set (σ := [some v_bag, some (.int limit), some v_table, y_other]) (s := s24) (σf := fun v => [some v_bag, some (.int limit), some v, y_other]) (ev_call0 (E := fun _ => E0) (ea_cons (ev_var (d := ()) f_bag) (ea_cons (ev_as see_bor (ev_var f_table)) ea_nil))) hm G (fun _ => rfl) fun table v_table s30 g29 f_table hm => ?_
      have G := Gx.trans G g29
      have E := Gx.trans E (Gx.of_gr g29)
      exact ⟨table, _, rfl, hm, ⟨G, E, v_table, rfl, f_table⟩⟩
    · have G := Gx.trans G g23
      have E : Gx No s21 _ := Gx.of_gr g23
      have f_table := Rep.u g23 f_table
      exact ⟨table, _, rfl, hm, ⟨G, E, v_table, rfl, f_table⟩⟩
    obtain ⟨table, ea⟩ : ∃ z, z = a := ⟨a, rfl⟩
    subst ea
    obtain ⟨G, E, v_table, rfl, f_table⟩ := hI
    exact s_ret (σ := [some v_bag, some (.int limit), some v_table, y_other]) (s := s31) (ev_var f_table) hm G fun d v u qd g hv => hQ d v u ((fun _ q => q) d qd) g hv

abbrev st__law_spoilt : Stmt := topS 18
abbrev N__law_spoilt : List Str := ["bag", "table", "size", "kind", "result", "row", "x", "y", "shift", "b", "a"]
theorem sc__law_spoilt : FnScope N__law_spoilt ["bag", "table"] (defScope st__law_spoilt) := ⟨rfl, rfl, rfl, by decide +kernel, rfl, by decide +kernel, by decide +kernel⟩
abbrev sp__law_spoilt (K : PySem.W.Frag) (A : Ad) : Sp := sp0 (aC rG (aC (bP (sL (sL sI))) aN)) (fun a => Mi._law_spoilt a.1 a.2.1) (fun _ => (sL (sL sI)).r)
theorem ok__law_spoilt {P : Program} {w : World} {K : PySem.W.Frag} {mg : Str → Option Value} {base : Heap} {A : Ad} (T : Mo K mg A) {f : Addr} {fd : FuncData} (F : Fun K "_law_spoilt" "_law_spoilt" st__law_spoilt f fd)
    {f__law_take : Addr} {fd__law_take : FuncData} (c__law_take : Cal P w K mg base CX0 1 "_law_take" ["bag", "size"] (sp__law_take K A) f__law_take fd__law_take) (m_int : mg "int" = none) (m_len : mg "len" = none) (m_list : mg "list" = none) (m_range : mg "range" = none) :
    FnOk P w K mg base CX0 2 f fd ["bag", "table"] (sp__law_spoilt K A) := by
  refine fn0 F sc__law_spoilt (fun s vs a h => ?_) (fun cdv A9 outer sh EX hr C a vs Qm ok ha hm => ?_)
  · obtain ⟨v0, w0, rfl, _, h⟩ := h; obtain ⟨v1, w1, rfl, _, h⟩ := h; cases h; rfl
  · obtain ⟨bag, table, _⟩ := a
    obtain ⟨v_bag, w_bag, rfl, f_bag, ha⟩ := ha
    obtain ⟨v_table, w_table, rfl, f_table, ha⟩ := ha
    cases ha
    have f_table : (bR C.s0 (sL (sL sI))).is C.s0 v_table table := f_table
    have G : Gr C.s0 C.s0 := Gx.refl ok
    unfold Mi._law_spoilt at hm
    try dsimp only at hm
    refine ⟨_, (pss_cons (ps_set (i := 2) sc__law_spoilt.nd rfl (.inr rfl) (pe_callB (k_len K rfl) (by rfl) m_len PySem.boot_len (pa_cons (pv 1) pa_nil))) (pss_cons (ps_set (i := 3) sc__law_spoilt.nd rfl (.inl rfl) (pe_callS (E := fun _ => E0) c__law_take.ok hr (by rfl) c__law_take.gm c__law_take.kp c__law_take.bn pat0 (pa_cons (pv 0) (pa_cons pe_int pa_nil)))) (pss_cons (ps_setLc (i := 4) (own := [("row", 5)]) (g := gName 5) (tt := tYes) rfl sc__law_spoilt.nd rfl rfl (sw_true rfl rfl rfl (by decide +kernel)) (k_piL K rfl (pv 1)) (blkOk_by (own := [("row", 5)]) (N := N__law_spoilt) (sc := defScope st__law_spoilt) (by decide +kernel)) (fun _ _ _ _ _ => pg_name (i := 5) sc__law_spoilt.nd rfl (Or.inl rfl))  (fun _ _ _ _ _ => pts_nil) (fun _ _ _ _ _ => (pe_callTy (k_list K rfl) (by rfl) m_list (by decide +kernel) (pa_cons (pv 5) pa_nil)))) (pss_cons (ps_set (i := 6) sc__law_spoilt.nd rfl (.inl rfl) (pe_callS (E := fun _ => E0) c__law_take.ok hr (by rfl) c__law_take.gm c__law_take.kp c__law_take.bn pat0 (pa_cons (pv 0) (pa_cons (pv 2) pa_nil)))) (pss_cons (ps_set (i := 7) sc__law_spoilt.nd rfl (.inl rfl) (pe_callS (E := fun _ => E0) c__law_take.ok hr (by rfl) c__law_take.gm c__law_take.kp c__law_take.bn pat0 (pa_cons (pv 0) (pa_cons (pv 2) pa_nil)))) (C8.pss_cut (ps_if (PW.pt (pw_or (pt_cmpR op_eq (pv 3) pe_int (nomark _)) (pw_or1 (pt_cmpR op_eq (pv 3) pe_int (nomark _))))) (pss_cons (ps_asg (pe_callS (E := fun _ => E0) c__law_take.ok hr (by rfl) c__law_take.gm c__law_take.kp c__law_take.bn pat0 (pa_cons (pv 0) (pa_cons (pv 2) pa_nil))) (pg_sub (pe_ix (k_ixL K rfl) (pv 4) (pv 6) (fun _ _ => rfl)) (pv 7) set_list)) pss_nil) pss_nil) (C8.pss_cut (ps_if (pt_cmpR op_eq (pv 3) pe_int (nomark _)) (pss_cons (ps_asg (pe_ix (k_ixL K rfl) (pe_lst (pa_cons (pe_un un_neg pe_int) (pa_cons (pv 2) pa_nil))) (pe_callS (E := fun _ => E0) c__law_take.ok hr (by rfl) c__law_take.gm c__law_take.kp c__law_take.bn pat0 (pa_cons (pv 0) (pa_cons pe_int pa_nil))) (fun _ _ => rfl)) (pg_sub (pe_ix (k_ixL K rfl) (pv 4) (pv 6) (fun _ _ => rfl)) (pv 7) set_list)) pss_nil) pss_nil) (C8.pss_cut (ps_if (pt_cmpR op_eq (pv 3) pe_int (nomark _)) (pss_cons (ps_expr (k_bm K rfl PySem.F.plainAttrs_list PySem.F.slot_list_append PySem.F.type_list_append mt_append (pe_ix (k_ixL K rfl) (pv 4) (pv 6) (fun _ _ => rfl)) (pa_cons (pe_callS (E := fun _ => E0) c__law_take.ok hr (by rfl) c__law_take.gm c__law_take.kp c__law_take.bn pat0 (pa_cons (pv 0) (pa_cons (pv 2) pa_nil))) pa_nil))) pss_nil) pss_nil) (C8.pss_cut (ps_if (pt_cmpR op_eq (pv 3) pe_int (nomark _)) (pss_cons (ps_expr (k_bm0 K rfl PySem.F.plainAttrs_list PySem.F.slot_list_pop PySem.F.type_list_pop mt_pop (pe_ix (k_ixL K rfl) (pv 4) (pv 6) (fun _ _ => rfl)))) pss_nil) pss_nil) (C8.pss_cut (ps_if (pt_cmpR op_eq (pv 3) pe_int (nomark _)) (pss_cons (ps_expr (k_bm0 K rfl PySem.F.plainAttrs_list PySem.F.slot_list_pop PySem.F.type_list_pop mt_pop (pv 4))) pss_nil) pss_nil) (C8.pss_cut (ps_if (pt_cmpR op_eq (pv 3) pe_int (nomark _)) (pss_cons (ps_set (i := 2) sc__law_spoilt.nd rfl (.inr rfl) (pe_op op_add pe_int (pe_callS (E := fun _ => E0) c__law_take.ok hr (by rfl) c__law_take.gm c__law_take.kp c__law_take.bn pat0 (pa_cons (pv 0) (pa_cons pe_int pa_nil))))) (pss_cons (ps_set (i := 8) sc__law_spoilt.nd rfl (.inr rfl) (pe_callS (E := fun _ => E0) c__law_take.ok hr (by rfl) c__law_take.gm c__law_take.kp c__law_take.bn pat0 (pa_cons (pv 0) (pa_cons pe_int pa_nil)))) (pss_cons (ps_setLc (i := 4) (own := [("a", 10)]) (g := gName 10) (tt := tYes) rfl sc__law_spoilt.nd rfl rfl (sw_true rfl rfl rfl (by decide +kernel)) (pi_range1 (by rfl) m_range (pa_cons (pv 2) pa_nil)) (blkOk_by (own := [("a", 10)]) (N := N__law_spoilt) (sc := defScope st__law_spoilt) (by decide +kernel)) (fun _ _ _ _ _ => pg_name (i := 10) sc__law_spoilt.nd rfl (Or.inr rfl))  (fun _ _ _ _ _ => pts_nil) (fun _ _ _ _ _ => (pe_lc (own := [("b", 9)]) (g := gName 9) (tt := tYes) rfl sc__law_spoilt.nd (pi_range1 (by rfl) m_range (pa_cons (pv 2) pa_nil)) (blkOk_by (own := [("b", 9)]) (N := N__law_spoilt) (by rfl)) (fun _ _ _ _ _ => pg_name (i := 9) sc__law_spoilt.nd rfl (Or.inl rfl))  (fun _ _ _ _ _ => pts_nil) (fun _ _ _ _ _ => (pe_op op_modN (pe_callTy call_int1 (by rfl) m_int (by decide +kernel) (pa_cons (pe_op op_add (pe_op op_add (pv 10) (pv 9)) (pv 8)) pa_nil)) (pv 2)))))) pss_nil))) pss_nil) (pss_cons (ps_ret (pv 4)) pss_nil)))))))))))), fun Q hQ => ?_⟩
    refine s_set (σ := [some v_bag, some v_table, none, none, none, none, none, none, none, none, none]) (s := C.s0) (σf := fun v => [some v_bag, some v_table, some v, none, none, none, none, none, none, none, none]) (ev_lenL rd_bor (ev_var (r := (bR C.s0 (sL (sL sI)))) (d := table) f_table)) hm G (fun _ => rfl) fun size v_size s2 g1 f_size hm => ?_
    have G := Gx.trans G g1
    have f_bag := Rep.u g1 f_bag
    obtain rfl : v_size = V.int size := f_size
    refine s_set (σ := [some v_bag, some v_table, some (.int size), none, none, none, none, none, none, none, none]) (s := s2) (σf := fun v => [some v_bag, some v_table, some (.int size), some v, none, none, none, none, none, none, none]) (ev_call0 (E := fun _ => E0) (ea_cons (ev_var (d := ()) f_bag) (ea_cons ev_int ea_nil))) hm G (fun _ => rfl) fun kind v_kind s4 g3 f_kind hm => ?_
    have G := Gx.trans G g3
    have f_bag := Rep.u g3 f_bag
    obtain rfl : v_kind = V.int kind := f_kind
    refine s_setM (σ := [some v_bag, some v_table, some (.int size), some (.int kind), none, none, none, none, none, none, none]) (s := s4) (σf := fun v => [some v_bag, some v_table, some (.int size), some (.int kind), some v, none, none, none, none, none, none]) (evm_lc (σf := fun v => [some v_bag, some v_table, some (.int size), some (.int kind), none, some v, none, none, none, none, none]) (ei_list rd_bor newx_no (fun _ z _ => z.elim) (ev_var (r := (bR C.s0 (sL (sL sI)))) (d := table) f_table)) (fun _ => rfl) (fun _ => rfl) (fun row_5 v_row_5 t gc6 g07 f_row_5 => (evn_listL rd_bor (sta_bor dry_I) (ev_var (r := (bR C.s0 (sL sI))) (d := row_5) f_row_5)))) hm G (fun _ => rfl) fun result p_result11 q_result12 s10 g9 hn12 f_result hm => ?_
    have G := Gx.trans G g9
    have f_bag := Rep.u g9 f_bag
    refine s_set (σ := [some v_bag, some v_table, some (.int size), some (.int kind), some (.ref p_result11), none, none, none, none, none, none]) (s := s10) (σf := fun v => [some v_bag, some v_table, some (.int size), some (.int kind), some (.ref p_result11), none, some v, none, none, none, none]) (ev_call0 (E := fun _ => E0) (ea_cons (ev_var (d := ()) f_bag) (ea_cons (ev_var (r := sI.r) (d := size) rfl) ea_nil))) hm G (fun _ => rfl) fun x v_x s14 g13 f_x hm => ?_
    have G := Gx.trans G g13
    have f_bag := Rep.u g13 f_bag
    have f_result := Rep.u g13 f_result
    obtain rfl : v_x = V.int x := f_x
    refine s_set (σ := [some v_bag, some v_table, some (.int size), some (.int kind), some (.ref p_result11), none, some (.int x), none, none, none, none]) (s := s14) (σf := fun v => [some v_bag, some v_table, some (.int size), some (.int kind), some (.ref p_result11), none, some (.int x), some v, none, none, none]) (ev_call0 (E := fun _ => E0) (ea_cons (ev_var (d := ()) f_bag) (ea_cons (ev_var (r := sI.r) (d := size) rfl) ea_nil))) hm G (fun _ => rfl) fun y v_y s16 g15 f_y hm => ?_
    have G := Gx.trans G g15
    have f_bag := Rep.u g15 f_bag
    have f_result := Rep.u g15 f_result
    obtain rfl : v_y = V.int y := f_y
    refine s_ifj (σ := [some v_bag, some v_table, some (.int size), some (.int kind), some (.ref p_result11), none, some (.int x), some (.int y), none, none, none]) (s := s16) (fun (a : ((List (List Int)))) σ' s' => Gr C.s0 s' ∧ Gx (fun a => (a = p_result11 ∨ a ∈ q_result12)) s16 s' ∧ σ' = [some v_bag, some v_table, some (.int size), some (.int kind), some (.ref p_result11), none, some (.int x), some (.int y), none, none, none] ∧ (oM C.s0 sI p_result11 q_result12).is s' (.ref p_result11) a) (et_or (et_test (ev_eqI (ev_var (r := sI.r) (d := kind) rfl) ev_int)) (et_test (ev_eqI (ev_var (r := sI.r) (d := kind) rfl) ev_int))) hm G (fun s19 g18 Qb22 hm => ?_) (fun s20 g18 Qb22 hm => ?_) (fun a σ' s26 hI hm => ?_)
    · have G := Gx.trans G g18
      have E : Gx (fun a => (a = p_result11 ∨ a ∈ q_result12)) s16 _ := Gx.of_gr g18
      have hm_p_result11 : ∀ a, (a = p_result11 ∨ a ∈ q_result12) → (fun a => (a = p_result11 ∨ a ∈ q_result12)) a ∨ s16.hp a = none := fun a z => .inl z
      have f_bag := Rep.u g18 f_bag
      have f_result := Rep.u g18 f_result
      refine s_put2 (σ := [some v_bag, some v_table, some (.int size), some (.int kind), some (.ref p_result11), none, some (.int x), some (.int y), none, none, none]) (s := s19) f_result (ev_var f_result) (ev_call0 (E := fun _ => E0) (ea_cons (ev_var (d := ()) f_bag) (ea_cons (ev_var (r := sI.r) (d := size) rfl) ea_nil))) (ev_var (r := sI.r) (d := x) rfl) (ev_var (r := sI.r) (d := y) rfl) hm G fun result s24 g25 G f_result hm => ?_
      have E := Gx.gx' E g25 (fun a z => (fun z => hm_p_result11 a z) z)
      have f_bag := Rep.ux g25 (fun _ (z : False) => z.elim) f_bag
      exact ⟨result, _, rfl, hm, ⟨G, E, rfl, f_result⟩⟩
    · have G := Gx.trans G g18
      have E : Gx (fun a => (a = p_result11 ∨ a ∈ q_result12)) s16 _ := Gx.of_gr g18
      have hm_p_result11 : ∀ a, (a = p_result11 ∨ a ∈ q_result12) → (fun a => (a = p_result11 ∨ a ∈ q_result12)) a ∨ s16.hp a = none := fun a z => .inl z
      have f_bag := Rep.u g18 f_bag
      have f_result := Rep.u g18 f_result
      exact ⟨result, _, rfl, hm, ⟨G, E, rfl, f_result⟩⟩
    obtain ⟨result, ea⟩ : ∃ z, z = a := ⟨a, rfl⟩
    subst ea
    obtain ⟨G, E, rfl, f_result⟩ := hI
    have f_bag := Rep.ux E (fun _ (z : False) => z.elim) f_bag
    refine s_ifj (σ := [some v_bag, some v_table, some (.int size), some (.int kind), some (.ref p_result11), none, some (.int x), some (.int y), none, none, none]) (s := s26) (fun (a : ((List (List Int)))) σ' s' => Gr C.s0 s' ∧ Gx (fun a => (a = p_result11 ∨ a ∈ q_result12)) s26 s' ∧ σ' = [some v_bag, some v_table, some (.int size), some (.int kind), some (.ref p_result11), none, some (.int x), some (.int y), none, none, none] ∧ (oM C.s0 sI p_result11 q_result12).is s' (.ref p_result11) a) (et_test (ev_eqI (ev_var (r := sI.r) (d := kind) rfl) ev_int)) hm G (fun s28 g27 Qb31 hm => ?_) (fun s29 g27 Qb31 hm => ?_) (fun a σ' s36 hI hm => ?_)
    · have G := Gx.trans G g27
      have E : Gx (fun a => (a = p_result11 ∨ a ∈ q_result12)) s26 _ := Gx.of_gr g27
      have hm_p_result11 : ∀ a, (a = p_result11 ∨ a ∈ q_result12) → (fun a => (a = p_result11 ∨ a ∈ q_result12)) a ∨ s26.hp a = none := fun a z => .inl z
      have f_bag := Rep.u g27 f_bag
      have f_result := Rep.u g27 f_result
      refine s_put2 (σ := [some v_bag, some v_table, some (.int size), some (.int kind), some (.ref p_result11), none, some (.int x), some (.int y), none, none, none]) (s := s28) f_result (ev_var f_result) (ev_ixL rd_st (evn_ev (evn_lst (el_cons (ev_neg ev_int) (el_cons (ev_var (r := sI.r) (d := size) rfl) (el_nil (r := sI)))) (by decide))) (ev_call0 (E := fun _ => E0) (ea_cons (ev_var (d := ()) f_bag) (ea_cons ev_int ea_nil)))) (ev_var (r := sI.r) (d := x) rfl) (ev_var (r := sI.r) (d := y) rfl) hm G fun result s33 g34 G f_result hm => ?_
      have E := Gx.gx' E g34 (fun a z => (fun z => hm_p_result11 a z) z)
      have f_bag := Rep.ux g34 (fun _ (z : False) => z.elim) f_bag
      exact ⟨result, _, rfl, hm, ⟨G, E, rfl, f_result⟩⟩
    · have G := Gx.trans G g27
      have E : Gx (fun a => (a = p_result11 ∨ a ∈ q_result12)) s26 _ := Gx.of_gr g27
      have hm_p_result11 : ∀ a, (a = p_result11 ∨ a ∈ q_result12) → (fun a => (a = p_result11 ∨ a ∈ q_result12)) a ∨ s26.hp a = none := fun a z => .inl z
      have f_bag := Rep.u g27 f_bag
      have f_result := Rep.u g27 f_result
      exact ⟨result, _, rfl, hm, ⟨G, E, rfl, f_result⟩⟩
    obtain ⟨result, ea⟩ : ∃ z, z = a := ⟨a, rfl⟩
    subst ea
    obtain ⟨G, E, rfl, f_result⟩ := hI
    have f_bag := Rep.ux E (fun _ (z : False) => z.elim) f_bag
    refine s_ifj (σ := [some v_bag, some v_table, some (.int size), some (.int kind), some (.ref p_result11), none, some (.int x), some (.int y), none, none, none]) (s := s36) (fun (a : ((List (List Int)))) σ' s' => Gr C.s0 s' ∧ Gx (fun a => (a = p_result11 ∨ a ∈ q_result12)) s36 s' ∧ σ' = [some v_bag, some v_table, some (.int size), some (.int kind), some (.ref p_result11), none, some (.int x), some (.int y), none, none, none] ∧ (oM C.s0 sI p_result11 q_result12).is s' (.ref p_result11) a) (et_test (ev_eqI (ev_var (r := sI.r) (d := kind) rfl) ev_int)) hm G (fun s38 g37 Qb41 hm => ?_) (fun s39 g37 Qb41 hm => ?_) (fun a σ' s45 hI hm => ?_)
    · have G := Gx.trans G g37
      have E : Gx (fun a => (a = p_result11 ∨ a ∈ q_result12)) s36 _ := Gx.of_gr g37
      have hm_p_result11 : ∀ a, (a = p_result11 ∨ a ∈ q_result12) → (fun a => (a = p_result11 ∨ a ∈ q_result12)) a ∨ s36.hp a = none := fun a z => .inl z
      have f_bag := Rep.u g37 f_bag
      have f_result := Rep.u g37 f_result
      refine s_app2 (σ := [some v_bag, some v_table, some (.int size), some (.int kind), some (.ref p_result11), none, some (.int x), some (.int y), none, none, none]) (s := s38) f_result (ev_var f_result) (ev_call0 (E := fun _ => E0) (ea_cons (ev_var (d := ()) f_bag) (ea_cons (ev_var (r := sI.r) (d := size) rfl) ea_nil))) (ev_var (r := sI.r) (d := x) rfl) hm G fun result s43 g44 G f_result hm => ?_
      have E := Gx.gx' E g44 (fun a z => (fun z => hm_p_result11 a z) z)
      have f_bag := Rep.ux g44 (fun _ (z : False) => z.elim) f_bag
      exact ⟨result, _, rfl, hm, ⟨G, E, rfl, f_result⟩⟩
    · have G := Gx.trans G g37
      have E : Gx (fun a => (a = p_result11 ∨ a ∈ q_result12)) s36 _ := Gx.of_gr g37
      have hm_p_result11 : ∀ a, (a = p_result11 ∨ a ∈ q_result12) → (fun a => (a = p_result11 ∨ a ∈ q_result12)) a ∨ s36.hp a = none := fun a z => .inl z
      have f_bag := Rep.u g37 f_bag
      have f_result := Rep.u g37 f_result
      exact ⟨result, _, rfl, hm, ⟨G, E, rfl, f_result⟩⟩
    obtain ⟨result, ea⟩ : ∃ z, z = a := ⟨a, rfl⟩
    subst ea
    obtain ⟨G, E, rfl, f_result⟩ := hI
    have f_bag := Rep.ux E (fun _ (z : False) => z.elim) f_bag
    refine s_ifj (σ := [some v_bag, some v_table, some (.int size), some (.int kind), some (.ref p_result11), none, some (.int x), some (.int y), none, none, none]) (s := s45) (fun (a : ((List (List Int)))) σ' s' => Gr C.s0 s' ∧ Gx (fun a => (a = p_result11 ∨ a ∈ q_result12)) s45 s' ∧ σ' = [some v_bag, some v_table, some (.int size), some (.int kind), some (.ref p_result11), none, some (.int x), some (.int y), none, none, none] ∧ (oM C.s0 sI p_result11 q_result12).is s' (.ref p_result11) a) (et_test (ev_eqI (ev_var (r := sI.r) (d := kind) rfl) ev_int)) hm G (fun s47 g46 Qb50 hm => ?_) (fun s48 g46 Qb50 hm => ?_) (fun a σ' s54 hI hm => ?_)
    · have G := Gx.trans G g46
      have E : Gx (fun a => (a = p_result11 ∨ a ∈ q_result12)) s45 _ := Gx.of_gr g46
      have hm_p_result11 : ∀ a, (a = p_result11 ∨ a ∈ q_result12) → (fun a => (a = p_result11 ∨ a ∈ q_result12)) a ∨ s45.hp a = none := fun a z => .inl z
      have f_bag := Rep.u g46 f_bag
      have f_result := Rep.u g46 f_result
      refine s_pop2 (σ := [some v_bag, some v_table, some (.int size), some (.int kind), some (.ref p_result11), none, some (.int x), some (.int y), none, none, none]) (s := s47) f_result (ev_var f_result) (ev_var (r := sI.r) (d := x) rfl) hm G fun result s52 g53 G f_result hm => ?_
      have E := Gx.gx' E g53 (fun a z => (fun z => hm_p_result11 a z) z)
      have f_bag := Rep.ux g53 (fun _ (z : False) => z.elim) f_bag
      exact ⟨result, _, rfl, hm, ⟨G, E, rfl, f_result⟩⟩
    · have G := Gx.trans G g46
      have E : Gx (fun a => (a = p_result11 ∨ a ∈ q_result12)) s45 _ := Gx.of_gr g46
      have hm_p_result11 : ∀ a, (a = p_result11 ∨ a ∈ q_result12) → (fun a => (a = p_result11 ∨ a ∈ q_result12)) a ∨ s45.hp a = none := fun a z => .inl z
      have f_bag := Rep.u g46 f_bag
      have f_result := Rep.u g46 f_result
      exact ⟨result, _, rfl, hm, ⟨G, E, rfl, f_result⟩⟩
    obtain ⟨result, ea⟩ : ∃ z, z = a := ⟨a, rfl⟩
    subst ea
    obtain ⟨G, E, rfl, f_result⟩ := hI
    have f_bag := Rep.ux E (fun _ (z : False) => z.elim) f_bag
    refine s_ifj (σ := [some v_bag, some v_table, some (.int size), some (.int kind), some (.ref p_result11), none, some (.int x), some (.int y), none, none, none]) (s := s54) (fun (a : ((List (List Int)))) σ' s' => Gr C.s0 s' ∧ Gx (fun a => (a = p_result11 ∨ a ∈ q_result12)) s54 s' ∧ ∃ p_result59, ∃ q_result59, σ' = [some v_bag, some v_table, some (.int size), some (.int kind), some (.ref p_result59), none, some (.int x), some (.int y), none, none, none] ∧ (oM C.s0 sI p_result59 q_result59).is s' (.ref p_result59) a ∧ (∀ a, (a = p_result59 ∨ a ∈ q_result59) → (fun a => (a = p_result11 ∨ a ∈ q_result12)) a ∨ s54.hp a = none)) (et_test (ev_eqI (ev_var (r := sI.r) (d := kind) rfl) ev_int)) hm G (fun s56 g55 Qb60 hm => ?_) (fun s57 g55 Qb60 hm => ?_) (fun a σ' s66 hI hm => ?_)
    · have G := Gx.trans G g55
      have E : Gx (fun a => (a = p_result11 ∨ a ∈ q_result12)) s54 _ := Gx.of_gr g55
      have hm_p_result11 : ∀ a, (a = p_result11 ∨ a ∈ q_result12) → (fun a => (a = p_result11 ∨ a ∈ q_result12)) a ∨ s54.hp a = none := fun a z => .inl z
      have f_bag := Rep.u g55 f_bag
      have f_result := Rep.u g55 f_result
      refine s_popM (σ := [some v_bag, some v_table, some (.int size), some (.int kind), some (.ref p_result11), none, some (.int x), some (.int y), none, none, none]) (s := s56) f_result (ev_var f_result) hm G fun result q_result64 s62 hs65 g63 G f_result hm => ?_
      have hmn : ∀ a, (a = p_result11 ∨ a ∈ q_result64) → (fun a => (a = p_result11 ∨ a ∈ q_result12)) a ∨ s54.hp a = none := fun a z => ((fun a (z : a = p_result11 ∨ a ∈ q_result64) => (show (a = p_result11 ∨ a ∈ q_result12) ∨ s56.hp a = none from .inl (z.imp id (hs65 a)))) a z).elim (fun z => hm_p_result11 a z) (fun z => .inr (gx_back E z))
      have E := Gx.gx' E g63 (fun a z => (fun z => hm_p_result11 a z) z)
      have hm_p_result11 := hmn
      have f_bag := Rep.ux g63 (fun _ (z : False) => z.elim) f_bag
      exact ⟨result, _, rfl, hm, ⟨G, E, p_result11, q_result64, rfl, f_result, hm_p_result11⟩⟩
    · have G := Gx.trans G g55
      have E : Gx (fun a => (a = p_result11 ∨ a ∈ q_result12)) s54 _ := Gx.of_gr g55
      have hm_p_result11 : ∀ a, (a = p_result11 ∨ a ∈ q_result12) → (fun a => (a = p_result11 ∨ a ∈ q_result12)) a ∨ s54.hp a = none := fun a z => .inl z
      have f_bag := Rep.u g55 f_bag
      have f_result := Rep.u g55 f_result
      exact ⟨result, _, rfl, hm, ⟨G, E, p_result11, q_result12, rfl, f_result, hm_p_result11⟩⟩
    obtain ⟨result, ea⟩ : ∃ z, z = a := ⟨a, rfl⟩
    subst ea
    obtain ⟨G, E, p_result59, q_result59, rfl, f_result, hm_p_result59⟩ := hI
    have f_bag := Rep.ux E (fun _ (z : False) => z.elim) f_bag
    refine s_ifj (σ := [some v_bag, some v_table, some (.int size), some (.int kind), some (.ref p_result59), none, some (.int x), some (.int y), none, none, none]) (s := s66) (fun (a : ((List (List Int)))) σ' s' => Gr C.s0 s' ∧ Gx (fun a => (a = p_result59 ∨ a ∈ q_result59)) s66 s' ∧ ∃ y_size, ∃ p_result71, ∃ q_result71, ∃ y_shift, ∃ y_b, ∃ y_a, σ' = [some v_bag, some v_table, y_size, some (.int kind), some (.ref p_result71), none, some (.int x), some (.int y), y_shift, y_b, y_a] ∧ (oM C.s0 sI p_result71 q_result71).is s' (.ref p_result71) a ∧ (∀ a, (a = p_result71 ∨ a ∈ q_result71) → (fun a => (a = p_result59 ∨ a ∈ q_result59)) a ∨ s66.hp a = none)) (et_test (ev_eqI (ev_var (r := sI.r) (d := kind) rfl) ev_int)) hm G (fun s68 g67 Qb72 hm => ?_) (fun s69 g67 Qb72 hm => ?_) (fun a σ' s91 hI hm => ?_)
    · have G := Gx.trans G g67
      have E : Gx (fun a => (a = p_result59 ∨ a ∈ q_result59)) s66 _ := Gx.of_gr g67
      have hm_p_result59 : ∀ a, (a = p_result59 ∨ a ∈ q_result59) → (fun a => (a = p_result59 ∨ a ∈ q_result59)) a ∨ s66.hp a = none := fun a z => .inl z
      have f_bag := Rep.u g67 f_bag
      have f_result := Rep.u g67 f_result
      refine s_set (σ := [some v_bag, some v_table, some (.int size), some (.int kind), some (.ref p_result59), none, some (.int x), some (.int y), none, none, none]) (s := s68) (σf := fun v => [some v_bag, some v_table, some v, some (.int kind), some (.ref p_result59), none, some (.int x), some (.int y), none, none, none]) (ev_add ev_int (ev_call0 (E := fun _ => E0) (ea_cons (ev_var (d := ()) f_bag) (ea_cons ev_int ea_nil)))) hm G (fun _ => rfl) fun size v_size s76 g75 f_size hm => ?_
      have G := Gx.trans G g75
      have E := Gx.trans E (Gx.of_gr g75)
      have f_bag := Rep.u g75 f_bag
      obtain rfl : v_size = V.int size := f_size
      refine s_set (σ := [some v_bag, some v_table, some (.int size), some (.int kind), some (.ref p_result59), none, some (.int x), some (.int y), none, none, none]) (s := s76) (σf := fun v => [some v_bag, some v_table, some (.int size), some (.int kind), some (.ref p_result59), none, some (.int x), some (.int y), some v, none, none]) (ev_call0 (E := fun _ => E0) (ea_cons (ev_var (d := ()) f_bag) (ea_cons ev_int ea_nil))) hm G (fun _ => rfl) fun shift v_shift s78 g77 f_shift hm => ?_
      have G := Gx.trans G g77
      have E := Gx.trans E (Gx.of_gr g77)
      obtain rfl : v_shift = V.int shift := f_shift
      refine s_setM (σ := [some v_bag, some v_table, some (.int size), some (.int kind), some (.ref p_result59), none, some (.int x), some (.int y), some (.int shift), none, none]) (s := s78) (σf := fun v => [some v_bag, some v_table, some (.int size), some (.int kind), some v, none, some (.int x), some (.int y), some (.int shift), none, none]) (evm_lc (σf := fun v => [some v_bag, some v_table, some (.int size), some (.int kind), some (.ref p_result59), none, some (.int x), some (.int y), some (.int shift), none, some v]) (ei_rng1 (ev_var (r := sI.r) (d := size) rfl)) (fun _ => rfl) (fun _ => rfl) (fun a_79 v_a_79 t gc80 g081 f_a_79 => (evn_lc (σf := fun v => [some v_bag, some v_table, some (.int size), some (.int kind), some (.ref p_result59), none, some (.int x), some (.int y), some (.int shift), some v, some v_a_79]) (ei_rng1 (ev_var (r := sI.r) (d := size) rfl)) (fun _ => rfl) (fun _ => rfl) (fun b_82 v_b_82 t gc83 g084 f_b_82 => (ev_mod (ev_intI (ev_add (ev_add (ev_var (r := sI.r) (d := a_79) (Rep.u gc83 f_a_79)) (ev_var (r := sI.r) (d := b_82) f_b_82)) (ev_var (r := sI.r) (d := shift) rfl))) (ev_var (r := sI.r) (d := size) rfl)))))) hm G (fun _ => rfl) fun result p_result89 q_result90 s88 g87 hn90 f_result hm => ?_
      have hm_p_result89 : ∀ a, (a = p_result89 ∨ a ∈ q_result90) → (fun a => (a = p_result59 ∨ a ∈ q_result59)) a ∨ s66.hp a = none := fun a z => .inr (gx_back E (hn90 a z))
      have G := Gx.trans G g87
      have E := Gx.trans E (Gx.of_gr g87)
      exact ⟨result, _, rfl, hm, ⟨G, E, some (.int size), p_result89, q_result90, some (.int shift), none, none, rfl, f_result, hm_p_result89⟩⟩
    · have G := Gx.trans G g67
      have E : Gx (fun a => (a = p_result59 ∨ a ∈ q_result59)) s66 _ := Gx.of_gr g67
      have hm_p_result59 : ∀ a, (a = p_result59 ∨ a ∈ q_result59) → (fun a => (a = p_result59 ∨ a ∈ q_result59)) a ∨ s66.hp a = none := fun a z => .inl z
      have f_result := Rep.u g67 f_result
      exact ⟨result, _, rfl, hm, ⟨G, E, some (.int size), p_result59, q_result59, none, none, none, rfl, f_result, hm_p_result59⟩⟩
    obtain ⟨result, ea⟩ : ∃ z, z = a := ⟨a, rfl⟩
    subst ea
    obtain ⟨G, E, y_size, p_result71, q_result71, y_shift, y_b, y_a, rfl, f_result, hm_p_result71⟩ := hI
    obtain ⟨s92, eh94, G, g93, f_result⟩ := mat_frz G f_result
    rw [← eh94]
    exact s_ret (σ := [some v_bag, some v_table, y_size, some (.int kind), some (.ref p_result71), none, some (.int x), some (.int y), y_shift, y_b, y_a]) (s := s92) (ev_var f_result) hm G fun d v u qd g hv => hQ d v u ((fun _ q => q) d qd) g hv

abbrev st__law_valid : Stmt := topS 19
abbrev N__law_valid : List Str := ["table", "size", "row", "entry", "x", "y", "z"]
theorem sc__law_valid : FnScope N__law_valid ["table"] (defScope st__law_valid) := ⟨rfl, rfl, rfl, by decide +kernel, rfl, by decide +kernel, by decide +kernel⟩
abbrev sp__law_valid (K : PySem.W.Frag) (A : Ad) : Sp := sp0 (aC (bP (sL (sL sI))) aN) (fun a => Mi._law_valid a.1) (fun _ => sB.r)
theorem ok__law_valid {P : Program} {w : World} {K : PySem.W.Frag} {mg : Str → Option Value} {base : Heap} {A : Ad} (T : Mo K mg A) {f : Addr} {fd : FuncData} (F : Fun K "_law_valid" "_law_valid" st__law_valid f fd) (m_len : mg "len" = none) (m_range : mg "range" = none) :
    FnOk P w K mg base CX0 2 f fd ["table"] (sp__law_valid K A) := by
  refine fn0 F sc__law_valid (fun s vs a h => ?_) (fun cdv A9 outer sh EX hr C a vs Qm ok ha hm => ?_)
  · obtain ⟨v0, w0, rfl, _, h⟩ := h; cases h; rfl
  · obtain ⟨table, _⟩ := a
    obtain ⟨v_table, w_table, rfl, f_table, ha⟩ := ha
    cases ha
    have f_table : (bR C.s0 (sL (sL sI))).is C.s0 v_table table := f_table
    have G : Gr C.s0 C.s0 := Gx.refl ok
    unfold Mi._law_valid at hm
    try dsimp only at hm
    refine ⟨_, (pss_cons (ps_set (i := 1) sc__law_valid.nd rfl (.inl rfl) (pe_callB (k_len K rfl) (by rfl) m_len PySem.boot_len (pa_cons (pv 0) pa_nil))) (pss_cons (ps_for PassesOwn.never rfl (k_piL K rfl (pv 0)) (pg_name (i := 2) sc__law_valid.nd rfl (.inl rfl)) (pss_cons (ps_if (pt_cmpR op_ne (pe_callB (k_len K rfl) (by rfl) m_len PySem.boot_len (pa_cons (pv 2) pa_nil)) (pv 1) (nomark _)) (pss_cons (ps_ret pe_bl) pss_nil) pss_nil) (pss_cons (ps_for PassesOwn.never rfl (k_piL K rfl (pv 2)) (pg_name (i := 3) sc__law_valid.nd rfl (.inl rfl)) (pss_cons (ps_if (PW.pt (pw_or (pt_cmpR op_lt (pv 3) pe_int (nomark _)) (pw_or1 (pt_cmpR op_ge (pv 3) (pv 1) (nomark _))))) (pss_cons (ps_ret pe_bl) pss_nil) pss_nil) pss_nil)) pss_nil))) (pss_cons (ps_for PassesOwn.never rfl (pi_range1 (by rfl) m_range (pa_cons (pv 1) pa_nil)) (pg_name (i := 4) sc__law_valid.nd rfl (.inl rfl)) (pss_cons (ps_if (PW.pt (pw_or (pt_cmpR op_ne (pe_ix (k_ixL K rfl) (pe_ix (k_ixL K rfl) (pv 0) pe_int (fun _ _ => rfl)) (pv 4) (fun _ _ => rfl)) (pv 4) (nomark _)) (pw_or (pt_cmpR op_ne (pe_ix (k_ixL K rfl) (pe_ix (k_ixL K rfl) (pv 0) (pv 4) (fun _ _ => rfl)) pe_int (fun _ _ => rfl)) (pv 4) (nomark _)) (pw_or1 (pt_cmpR (k_niD K rfl (hu65 hr)) pe_int (pe_ix (k_ixL K rfl) (pv 0) (pv 4) (fun _ _ => rfl)) rfl))))) (pss_cons (ps_ret pe_bl) pss_nil) pss_nil) pss_nil)) (pss_cons (ps_for PassesOwn.never rfl (pi_range1 (by rfl) m_range (pa_cons (pv 1) pa_nil)) (pg_name (i := 4) sc__law_valid.nd rfl (.inl rfl)) (pss_cons (ps_for PassesOwn.never rfl (pi_range1 (by rfl) m_range (pa_cons (pv 1) pa_nil)) (pg_name (i := 5) sc__law_valid.nd rfl (.inl rfl)) (pss_cons (ps_for PassesOwn.never rfl (pi_range1 (by rfl) m_range (pa_cons (pv 1) pa_nil)) (pg_name (i := 6) sc__law_valid.nd rfl (.inl rfl)) (pss_cons (ps_if (pt_cmpR op_ne (pe_ix (k_ixL K rfl) (pe_ix (k_ixL K rfl) (pv 0) (pe_ix (k_ixL K rfl) (pe_ix (k_ixL K rfl) (pv 0) (pv 4) (fun _ _ => rfl)) (pv 5) (fun _ _ => rfl)) (fun _ _ => rfl)) (pv 6) (fun _ _ => rfl)) (pe_ix (k_ixL K rfl) (pe_ix (k_ixL K rfl) (pv 0) (pv 4) (fun _ _ => rfl)) (pe_ix (k_ixL K rfl) (pe_ix (k_ixL K rfl) (pv 0) (pv 5) (fun _ _ => rfl)) (pv 6) (fun _ _ => rfl)) (fun _ _ => rfl)) (nomark _)) (pss_cons (ps_ret pe_bl) pss_nil) pss_nil) pss_nil)) pss_nil)) pss_nil)) (pss_cons (ps_ret (pe_cmpR op_gt (pv 1) pe_int (nomark _))) pss_nil))))), fun Q hQ => ?_⟩
    refine s_set (σ := [some v_table, none, none, none, none, none, none]) (s := C.s0) (σf := fun v => [some v_table, some v, none, none, none, none, none]) (ev_lenL rd_bor (ev_var (r := (bR C.s0 (sL (sL sI)))) (d := table) f_table)) hm G (fun _ => rfl) fun size v_size s2 g1 f_size hm => ?_
    have G := Gx.trans G g1
    obtain rfl : v_size = V.int size := f_size
    refine s_forc (σ := [some v_table, some (.int size), none, none, none, none, none]) (s := s2) (X := No) (fun u3 (a : Unit) σ' s' => Gr C.s0 s' ∧ Gx No u3 s' ∧ ∃ y_row, ∃ y_entry, σ' = [some v_table, some (.int size), y_row, y_entry, none, none, none]) (ei_list rd_bor newx_no (fun _ z _ => z.elim) (ev_var (r := (bR C.s0 (sL (sL sI)))) (d := table) f_table)) hm G (fun _ _ _ _ h => h.2.1) (fun u3 gu4 => ⟨(Gx.trans G gu4), (Gx.refl gu4.ok), none, none, rfl⟩) (fun u3 row v_row a σ' s7 gu4 hI hx Qb5 hrt6 hm => ?_) (fun u3 a σ' s8 gu4 hI hm => ?_)
    · obtain ⟨G, E, y_row, y_entry, rfl⟩ := hI
      have f_row := hx
      refine gname_do (σ' := [some v_table, some (.int size), some v_row, y_entry, none, none, none]) rfl ?_
      refine s_if1 (σ := [some v_table, some (.int size), some v_row, y_entry, none, none, none]) (s := s7) (et_test (ev_neI (ev_lenL rd_bor (ev_var (r := (bR C.s0 (sL sI))) (d := row) f_row)) (ev_var (r := sI.r) (d := size) rfl))) hm G (fun s10 g9 hm => ?_) (fun s11 g9 hm => ?_)
      · have G := Gx.trans G g9
        have E := Gx.trans E (Gx.of_gr g9)
        exact s_ret (σ := [some v_table, some (.int size), some v_row, y_entry, none, none, none]) (s := s10) (Qm := fun d => Qb5 (.rt d)) ev_bl hm G fun d v u qd g hv => hQ d v u ((fun d q => (fun _ q => q) d (hrt6 d q)) d qd) g hv
      have G := Gx.trans G g9
      have E := Gx.trans E (Gx.of_gr g9)
      refine s_forc (σ := [some v_table, some (.int size), some v_row, y_entry, none, none, none]) (s := s11) (X := No) (fun u13 (a : Unit) σ' s' => Gr C.s0 s' ∧ Gx No u13 s' ∧ ∃ y_entry, σ' = [some v_table, some (.int size), some v_row, y_entry, none, none, none]) (ei_list rd_bor newx_no (fun _ z _ => z.elim) (ev_var (r := (bR C.s0 (sL sI))) (d := row) f_row)) hm G (fun _ _ _ _ h => h.2.1) (fun u13 gu14 => ⟨(Gx.trans G gu14), (Gx.refl gu14.ok), y_entry, rfl⟩) (fun u13 entry v_entry a σ' s17 gu14 hI hx Qb15 hrt16 hm => ?_) (fun u13 a σ' s18 gu14 hI hm => ?_)
      · obtain ⟨G, E, y_entry, rfl⟩ := hI
        obtain rfl : v_entry = V.int entry := hx
        refine gname_do (σ' := [some v_table, some (.int size), some v_row, some (.int entry), none, none, none]) rfl ?_
        refine s_if1 (σ := [some v_table, some (.int size), some v_row, some (.int entry), none, none, none]) (s := s17) (et_or (et_test (ev_lt (ev_var (r := sI.r) (d := entry) rfl) ev_int)) (et_test (ev_ge (ev_var (r := sI.r) (d := entry) rfl) (ev_var (r := sI.r) (d := size) rfl)))) hm G (fun s21 g20 hm => ?_) (fun s22 g20 hm => ?_)
        · have G := Gx.trans G g20
          have E := Gx.trans E (Gx.of_gr g20)
          exact s_ret (σ := [some v_table, some (.int size), some v_row, some (.int entry), none, none, none]) (s := s21) (Qm := fun d => Qb15 (.rt d)) ev_bl hm G fun d v u qd g hv => hQ d v u ((fun d q => (fun d q => (fun _ q => q) d (hrt6 d q)) d (hrt16 d q)) d qd) g hv
        have G := Gx.trans G g20
        have E := Gx.trans E (Gx.of_gr g20)
        exact ⟨(), _, rfl, hm, ⟨G, E, some (.int entry), rfl⟩⟩
      have E0 := Gx.trans E (Gx.of_gr gu14)
      obtain ⟨G, E, y_entry, rfl⟩ := hI
      have E := Gx.gx' E0 E (fun a z => (z : False).elim)
      exact ⟨(), _, rfl, hm, ⟨G, E, some v_row, y_entry, rfl⟩⟩
    obtain ⟨G, E, y_row, y_entry, rfl⟩ := hI
    refine s_forc (σ := [some v_table, some (.int size), y_row, y_entry, none, none, none]) (s := s8) (X := No) (fun u25 (a : Unit) σ' s' => Gr C.s0 s' ∧ Gx No u25 s' ∧ ∃ y_x, σ' = [some v_table, some (.int size), y_row, y_entry, y_x, none, none]) (ei_rng1 (ev_var (r := sI.r) (d := size) rfl)) hm G (fun _ _ _ _ h => h.2.1) (fun u25 gu26 => ⟨(Gx.trans G gu26), (Gx.refl gu26.ok), none, rfl⟩) (fun u25 x v_x a σ' s29 gu26 hI hx Qb27 hrt28 hm => ?_) (fun u25 a σ' s30 gu26 hI hm => ?_)
    · obtain ⟨G, E, y_x, rfl⟩ := hI
      obtain rfl : v_x = V.int x := hx
      refine gname_do (σ' := [some v_table, some (.int size), y_row, y_entry, some (.int x), none, none]) rfl ?_
      refine s_if1 (σ := [some v_table, some (.int size), y_row, y_entry, some (.int x), none, none]) (s := s29) (et_or (et_test (ev_neI (ev_as (see_dry dry_I) (ev_ixL rd_bor (ev_ixL rd_bor (ev_var (r := (bR C.s0 (sL (sL sI)))) (d := table) f_table) ev_int) (ev_var (r := sI.r) (d := x) rfl))) (ev_var (r := sI.r) (d := x) rfl))) (et_or (et_test (ev_neI (ev_as (see_dry dry_I) (ev_ixL rd_bor (ev_ixL rd_bor (ev_var (r := (bR C.s0 (sL (sL sI)))) (d := table) f_table) (ev_var (r := sI.r) (d := x) rfl)) ev_int)) (ev_var (r := sI.r) (d := x) rfl))) (et_test (ev_niD enc_I (dpr_st enc_I) (dpr_bor (enc_L enc_I)) (Nat.le_of_ble_eq_true rfl) ev_int (ev_ixL rd_bor (ev_var (r := (bR C.s0 (sL (sL sI)))) (d := table) f_table) (ev_var (r := sI.r) (d := x) rfl)))))) hm G (fun s39 g38 hm => ?_) (fun s40 g38 hm => ?_)
      · have G := Gx.trans G g38
        have E := Gx.trans E (Gx.of_gr g38)
        exact s_ret (σ := [some v_table, some (.int size), y_row, y_entry, some (.int x), none, none]) (s := s39) (Qm := fun d => Qb27 (.rt d)) ev_bl hm G fun d v u qd g hv => hQ d v u ((fun d q => (fun _ q => q) d (hrt28 d q)) d qd) g hv
      have G := Gx.trans G g38
      have E := Gx.trans E (Gx.of_gr g38)
      exact ⟨(), _, rfl, hm, ⟨G, E, some (.int x), rfl⟩⟩
    obtain ⟨G, E, y_x, rfl⟩ := hI
    refine s_forc (σ := [some v_table, some (.int size), y_row, y_entry, y_x, none, none]) (s := s30) (X := No) (fun u42 (a : Unit) σ' s' => Gr C.s0 s' ∧ Gx No u42 s' ∧ ∃ y_x, ∃ y_y, ∃ y_z, σ' = [some v_table, some (.int size), y_row, y_entry, y_x, y_y, y_z]) (ei_rng1 (ev_var (r := sI.r) (d := size) rfl)) hm G (fun _ _ _ _ h => h.2.1) (fun u42 gu43 => ⟨(Gx.trans G gu43), (Gx.refl gu43.ok), y_x, none, none, rfl⟩) (fun u42 x v_x a σ' s46 gu43 hI hx Qb44 hrt45 hm => ?_) (fun u42 a σ' s47 gu43 hI hm => ?_)
    · obtain ⟨G, E, y_x, y_y, y_z, rfl⟩ := hI
      obtain rfl : v_x = V.int x := hx
      refine gname_do (σ' := [some v_table, some (.int size), y_row, y_entry, some (.int x), y_y, y_z]) rfl ?_
      refine s_forc (σ := [some v_table, some (.int size), y_row, y_entry, some (.int x), y_y, y_z]) (s := s46) (X := No) (fun u48 (a : Unit) σ' s' => Gr C.s0 s' ∧ Gx No u48 s' ∧ ∃ y_y, ∃ y_z, σ' = [some v_table, some (.int size), y_row, y_entry, some (.int x), y_y, y_z]) (ei_rng1 (ev_var (r := sI.r) (d := size) rfl)) hm G (fun _ _ _ _ h => h.2.1) (fun u48 gu49 => ⟨(Gx.trans G gu49), (Gx.refl gu49.ok), y_y, y_z, rfl⟩) (fun u48 y v_y a σ' s52 gu49 hI hx Qb50 hrt51 hm => ?_) (fun u48 a σ' s53 gu49 hI hm => ?_)
      · obtain ⟨G, E, y_y, y_z, rfl⟩ := hI
        obtain rfl : v_y = V.int y := hx
        refine gname_do (σ' := [some v_table, some (.int size), y_row, y_entry, some (.int x), some (.int y), y_z]) rfl ?_
        refine s_forc (σ := [some v_table, some (.int size), y_row, y_entry, some (.int x), some (.int y), y_z]) (s := s52) (X := No) (fun u54 (a : Unit) σ' s' => Gr C.s0 s' ∧ Gx No u54 s' ∧ ∃ y_z, σ' = [some v_table, some (.int size), y_row, y_entry, some (.int x), some (.int y), y_z]) (ei_rng1 (ev_var (r := sI.r) (d := size) rfl)) hm G (fun _ _ _ _ h => h.2.1) (fun u54 gu55 => ⟨(Gx.trans G gu55), (Gx.refl gu55.ok), y_z, rfl⟩) (fun u54 z v_z a σ' s58 gu55 hI hx Qb56 hrt57 hm => ?_) (fun u54 a σ' s59 gu55 hI hm => ?_)
        · obtain ⟨G, E, y_z, rfl⟩ := hI
          obtain rfl : v_z = V.int z := hx
          refine gname_do (σ' := [some v_table, some (.int size), y_row, y_entry, some (.int x), some (.int y), some (.int z)]) rfl ?_
          refine s_if1 (σ := [some v_table, some (.int size), y_row, y_entry, some (.int x), some (.int y), some (.int z)]) (s := s58) (et_test (ev_neI (ev_as (see_dry dry_I) (ev_ixL rd_bor (ev_ixL rd_bor (ev_var (r := (bR C.s0 (sL (sL sI)))) (d := table) f_table) (ev_as (see_dry dry_I) (ev_ixL rd_bor (ev_ixL rd_bor (ev_var (r := (bR C.s0 (sL (sL sI)))) (d := table) f_table) (ev_var (r := sI.r) (d := x) rfl)) (ev_var (r := sI.r) (d := y) rfl)))) (ev_var (r := sI.r) (d := z) rfl))) (ev_as (see_dry dry_I) (ev_ixL rd_bor (ev_ixL rd_bor (ev_var (r := (bR C.s0 (sL (sL sI)))) (d := table) f_table) (ev_var (r := sI.r) (d := x) rfl)) (ev_as (see_dry dry_I) (ev_ixL rd_bor (ev_ixL rd_bor (ev_var (r := (bR C.s0 (sL (sL sI)))) (d := table) f_table) (ev_var (r := sI.r) (d := y) rfl)) (ev_var (r := sI.r) (d := z) rfl))))))) hm G (fun s69 g68 hm => ?_) (fun s70 g68 hm => ?_)
          · have G := Gx.trans G g68
            have E := Gx.trans E (Gx.of_gr g68)
            exact s_ret (σ := [some v_table, some (.int size), y_row, y_entry, some (.int x), some (.int y), some (.int z)]) (s := s69) (Qm := fun d => Qb56 (.rt d)) ev_bl hm G fun d v u qd g hv => hQ d v u ((fun d q => (fun d q => (fun d q => (fun _ q => q) d (hrt45 d q)) d (hrt51 d q)) d (hrt57 d q)) d qd) g hv
          have G := Gx.trans G g68
          have E := Gx.trans E (Gx.of_gr g68)
          exact ⟨(), _, rfl, hm, ⟨G, E, some (.int z), rfl⟩⟩
        have E0 := Gx.trans E (Gx.of_gr gu55)
        obtain ⟨G, E, y_z, rfl⟩ := hI
        have E := Gx.gx' E0 E (fun a z => (z : False).elim)
        exact ⟨(), _, rfl, hm, ⟨G, E, some (.int y), y_z, rfl⟩⟩
      have E0 := Gx.trans E (Gx.of_gr gu49)
      obtain ⟨G, E, y_y, y_z, rfl⟩ := hI
      have E := Gx.gx' E0 E (fun a z => (z : False).elim)
      exact ⟨(), _, rfl, hm, ⟨G, E, some (.int x), y_y, y_z, rfl⟩⟩
    obtain ⟨G, E, y_x, y_y, y_z, rfl⟩ := hI
    exact s_ret (σ := [some v_table, some (.int size), y_row, y_entry, y_x, y_y, y_z]) (s := s47) (ev_gt (ev_var (r := sI.r) (d := size) rfl) ev_int) hm G fun d v u qd g hv => hQ d v u ((fun _ q => q) d qd) g hv

abbrev st__law_made : Stmt := topS 20
abbrev N__law_made : List Str := ["table", "e"]
theorem sc__law_made : FnScope N__law_made ["table"] (defScope st__law_made) := ⟨rfl, rfl, rfl, by decide +kernel, rfl, by decide +kernel, by decide +kernel⟩
abbrev sp__law_made (K : PySem.W.Frag) (A : Ad) : Sp := sp0 (aC (bP (sL (sL sI))) aN) (fun a => Mi._law_made a.1) (fun _ => (sP K sS (sE (r_Group K A) sB)).r)
theorem ok__law_made {P : Program} {w : World} {K : PySem.W.Frag} {mg : Str → Option Value} {base : Heap} {A : Ad} (T : Mo K mg A) {f : Addr} {fd : FuncData} (F : Fun K "_law_made" "_law_made" st__law_made f fd)
    {f_Group___init__ : Addr} {fd_Group___init__ : FuncData} (c_Group___init__ : CalI P w K mg base (L2.CX P w) 3 "Group" A.a_Group ["self", "table"] (sp_Group___init__ K A) f_Group___init__ fd_Group___init__) (m_ValueError : mg "ValueError" = none) (m_isinstance : mg "isinstance" = none) :
    FnOk P w K mg base CX0 5 f fd ["table"] (sp__law_made K A) := by
  refine fn0 F sc__law_made (fun s vs a h => ?_) (fun cdv A9 outer sh EX hr C a vs Qm ok ha hm => ?_)
  · obtain ⟨v0, w0, rfl, _, h⟩ := h; cases h; rfl
  · obtain ⟨table, _⟩ := a
    obtain ⟨v_table, w_table, rfl, f_table, ha⟩ := ha
    cases ha
    have f_table : (bR C.s0 (sL (sL sI))).is C.s0 v_table table := f_table
    have G : Gr C.s0 C.s0 := Gx.refl ok
    unfold Mi._law_made at hm
    try dsimp only at hm
    refine ⟨_, (C8.pss_cut (ps_try_asM rfl rfl takes0 (fun W pn xe tk pso => (pss_cons (ps_ret (pe_tup (pa_cons pe_str (pa_cons (pe_mkS (E := WE W) c_Group___init__.kk c_Group___init__.ok hr (by rfl) c_Group___init__.gm c_Group___init__.bn (fun σ => passAt tk σ) (pa_cons (pv 0) pa_nil)) pa_nil)))) pss_nil)) (HdsA.cons (c := .ref A.a_LimitExceeded) (i := 1) sc__law_made.nd rfl rfl ⟨rfl, by decide, .inl T.g_LimitExceeded⟩ (fun a oe cls d pn hz hf => (pss_cons (ps_ret (pe_tup (pa_cons pe_str (pa_cons (pe_and (pe_callB (k_isX (X := (cxOf CX0 P w K mg base N__law_made "_law_made" (defScope st__law_made) f cdv A9 outer sh C.s0.hp EX).nox) K rfl hz hf) (by rfl) m_isinstance (by decide +kernel) (pa_cons (pv 1) (pa_cons (pe_glob (v := .ref A.a_StepError) (by rfl) T.g_StepError rfl) pa_nil))) (pe_and (pe_callB (k_isX (X := (cxOf CX0 P w K mg base N__law_made "_law_made" (defScope st__law_made) f cdv A9 outer sh C.s0.hp EX).nox) K rfl hz hf) (by rfl) m_isinstance (by decide +kernel) (pa_cons (pv 1) (pa_cons (pe_bltn (v := .ty "ValueError") (by rfl) m_ValueError (by decide +kernel) rfl) pa_nil))) (pe_one (pe_not (pe_callB (k_isX (X := (cxOf CX0 P w K mg base N__law_made "_law_made" (defScope st__law_made) f cdv A9 outer sh C.s0.hp EX).nox) K rfl hz hf) (by rfl) m_isinstance (by decide +kernel) (pa_cons (pv 1) (pa_cons (pe_glob (v := .ref A.a_InvalidGroup) (by rfl) T.g_InvalidGroup rfl) pa_nil))))))) pa_nil)))) pss_nil)) (HdsA.cons (c := .ref A.a_InvalidGroup) (i := 1) sc__law_made.nd rfl rfl ⟨rfl, by decide, .inl T.g_InvalidGroup⟩ (fun a oe cls d pn hz hf => (pss_cons (ps_ret (pe_tup (pa_cons pe_str (pa_cons (pe_and (pe_callB (k_isX (X := (cxOf CX0 P w K mg base N__law_made "_law_made" (defScope st__law_made) f cdv A9 outer sh C.s0.hp EX).nox) K rfl hz hf) (by rfl) m_isinstance (by decide +kernel) (pa_cons (pv 1) (pa_cons (pe_glob (v := .ref A.a_StepError) (by rfl) T.g_StepError rfl) pa_nil))) (pe_one (pe_callB (k_isX (X := (cxOf CX0 P w K mg base N__law_made "_law_made" (defScope st__law_made) f cdv A9 outer sh C.s0.hp EX).nox) K rfl hz hf) (by rfl) m_isinstance (by decide +kernel) (pa_cons (pv 1) (pa_cons (pe_bltn (v := .ty "ValueError") (by rfl) m_ValueError (by decide +kernel) rfl) pa_nil))))) pa_nil)))) pss_nil)) HdsA.nil))) pss_nil), fun Q hQ => ?_⟩
    refine s_try (σ := [some v_table, none]) (s := C.s0) (cvf := cvf A) (fun (a : Unit) σ' s' => Gr C.s0 s' ∧ Gx No C.s0 s' ∧ σ' = [some v_table, none]) (fun σ' => σ' = [some v_table, none]) hm (fun Qb1 hrt2 => ?_) (fun Qb1 C14 W17 e15 hrt2 hm hE16 => ?_) (fun a σ' s22 hI hm => ?_)
    · rintro σ' e u3 ⟨rfl⟩ hm g4
      have G := Gx.trans G g4
      have E : Gx No C.s0 _ := Gx.of_gr g4
      refine ⟨sub_LimitExceeded e, T.xm_LimitExceeded e, fun hb ae_e _ => ?_, fun hb => ?_⟩
      · have hm := hd_yes hm hb
        show tSeq _ _ _ _ _
        exact s_ret (σ := [some v_table, some (.ref ae_e)]) (s := u3) (Qm := fun d => Qb1 (.rt d)) (ev_pair ev_str (ev_inr (ev_andV (ev_isX (b := sub_StepError e) rfl (T.ec e) (.own A.a_StepError) (T.ki_StepError e)) (ev_andV (ev_isX (b := sub_ValueError e) rfl (T.ec e) (.ty "ValueError") (T.ki_ValueError e)) (ev_notV (ev_isX (b := sub_InvalidGroup e) rfl (T.ec e) (.own A.a_InvalidGroup) (T.ki_InvalidGroup e))))))) hm G fun d v u qd g hv => hQ d v u ((fun d q => (fun _ q => q) d (hrt2 d q)) d qd) g hv
      have hm := hd_no hm hb
      refine ⟨sub_InvalidGroup e, T.xm_InvalidGroup e, fun hb ae_e _ => ?_, fun hb => ?_⟩
      · have hm := hd_yes hm hb
        show tSeq _ _ _ _ _
        exact s_ret (σ := [some v_table, some (.ref ae_e)]) (s := u3) (Qm := fun d => Qb1 (.rt d)) (ev_pair ev_str (ev_inr (ev_andV (ev_isX (b := sub_StepError e) rfl (T.ec e) (.own A.a_StepError) (T.ki_StepError e)) (ev_isX (b := sub_ValueError e) rfl (T.ec e) (.ty "ValueError") (T.ki_ValueError e))))) hm G fun d v u qd g hv => hQ d v u ((fun d q => (fun _ q => q) d (hrt2 d q)) d qd) g hv
      have hm := hd_no hm hb
      exact hm.elim
    · have es : C.s0.hp = C14.s0.hp := by rw [e15]
      rw [es]
      have Go : Gr C.s0 C14.s0 := by rw [e15]; exact G
      have f_tablet : (bR C14.s0 (sL (sL sI))).is C14.s0 v_table table := (sL (sL sI)).up (old_old Go) f_table
      have G : Gr C14.s0 C14.s0 := Gx.refl Go.ok
      exact s_ret (σ := [some v_table, none]) (s := C14.s0) (Qm := fun d => Qb1 (.rt d)) (ev_pair ev_str (ev_inl (ev_mkX (E := WE W17) (fun e u a b => hE16 _ e u rfl a b) (ea_cons (ev_as see_borB (ev_var (r := (bR C14.s0 (sL (sL sI)))) (d := table) f_tablet)) ea_nil)))) hm G fun d v u qd g hv => hQ d v u ((fun d q => (fun _ q => q) d (hrt2 d q)) d qd) (Gx.trans Go g) hv
    obtain ⟨G, E, rfl⟩ := hI
    exact hm.elim

abbrev st__law_is_integer : Stmt := topS 21
abbrev N__law_is_integer : List Str := ["told"]
theorem sc__law_is_integer : FnScope N__law_is_integer ["told"] (defScope st__law_is_integer) := ⟨rfl, rfl, rfl, by decide +kernel, rfl, by decide +kernel, by decide +kernel⟩
abbrev sp__law_is_integer (K : PySem.W.Frag) (A : Ad) : Sp := sp0 (aC sI.r aN) (fun a => Mi._law_is_integer a.1) (fun _ => sB.r)
theorem ok__law_is_integer {P : Program} {w : World} {K : PySem.W.Frag} {mg : Str → Option Value} {base : Heap} {A : Ad} (T : Mo K mg A) {f : Addr} {fd : FuncData} (F : Fun K "_law_is_integer" "_law_is_integer" st__law_is_integer f fd) (m_bool : mg "bool" = none) (m_int : mg "int" = none) (m_isinstance : mg "isinstance" = none) :
    FnOk P w K mg base CX0 1 f fd ["told"] (sp__law_is_integer K A) := by
  refine fn0 F sc__law_is_integer (fun s vs a h => ?_) (fun cdv A9 outer sh EX hr C a vs Qm ok ha hm => ?_)
  · obtain ⟨v0, w0, rfl, _, h⟩ := h; cases h; rfl
  · obtain ⟨told, _⟩ := a
    obtain ⟨v_told, w_told, rfl, f_told, ha⟩ := ha
    cases ha
    obtain rfl : v_told = V.int told := f_told
    have G : Gr C.s0 C.s0 := Gx.refl ok
    unfold Mi._law_is_integer at hm
    try dsimp only at hm
    refine ⟨_, (pss_cons (ps_ret (pe_and (pe_callB (k_isi K rfl) (by rfl) m_isinstance (by decide +kernel) (pa_cons (pv 0) (pa_cons (pe_bltn (v := .ty "int") (by rfl) m_int (by decide +kernel) rfl) pa_nil))) (pe_one (pe_not (pe_callB (k_isi K rfl) (by rfl) m_isinstance (by decide +kernel) (pa_cons (pv 0) (pa_cons (pe_bltn (v := .ty "bool") (by rfl) m_bool (by decide +kernel) rfl) pa_nil))))))) pss_nil), fun Q hQ => ?_⟩
    exact s_ret (σ := [some (.int told)]) (s := C.s0) (ev_andV (ev_isi (T := "int") (U := "int") (b := true) (oty_st tys_I) (by decide +kernel) (ev_var (r := sI.r) (d := told) rfl)) (ev_notV (ev_isi (T := "int") (U := "bool") (b := false) (oty_st tys_I) (by decide +kernel) (ev_var (r := sI.r) (d := told) rfl)))) hm G fun d v u qd g hv => hQ d v u ((fun _ q => q) d qd) g hv

abbrev st__law_closed : Stmt := topS 22
abbrev N__law_closed : List Str := ["table", "members", "reached", "at", "member"]
theorem sc__law_closed : FnScope N__law_closed ["table", "members"] (defScope st__law_closed) := ⟨rfl, rfl, rfl, by decide +kernel, rfl, by decide +kernel, by decide +kernel⟩
abbrev sp__law_closed (K : PySem.W.Frag) (A : Ad) : Sp := sp0 (aC (bP (sL (sL sI))) (aC (bP (sL sI)) aN)) (fun a => Mi._law_closed a.1 a.2.1) (fun z => nL sI z)
theorem ok__law_closed {P : Program} {w : World} {K : PySem.W.Frag} {mg : Str → Option Value} {base : Heap} {A : Ad} (T : Mo K mg A) {f : Addr} {fd : FuncData} (F : Fun K "_law_closed" "_law_closed" st__law_closed f fd) (m_len : mg "len" = none) (m_range : mg "range" = none) (m_sorted : mg "sorted" = none) :
    FnOk P w K mg base CX0 1 f fd ["table", "members"] (sp__law_closed K A) := by
  refine fn0 F sc__law_closed (fun s vs a h => ?_) (fun cdv A9 outer sh EX hr C a vs Qm ok ha hm => ?_)
  · obtain ⟨v0, w0, rfl, _, h⟩ := h; obtain ⟨v1, w1, rfl, _, h⟩ := h; cases h; rfl
  · obtain ⟨table, members, _⟩ := a
    obtain ⟨v_table, w_table, rfl, f_table, ha⟩ := ha
    obtain ⟨v_members, w_members, rfl, f_members, ha⟩ := ha
    cases ha
    have f_table : (bR C.s0 (sL (sL sI))).is C.s0 v_table table := f_table
    have f_members : (bR C.s0 (sL sI)).is C.s0 v_members members := f_members
    have G : Gr C.s0 C.s0 := Gx.refl ok
    unfold Mi._law_closed at hm
    try dsimp only at hm
    refine ⟨_, (pss_cons (ps_set (i := 2) sc__law_closed.nd rfl (.inl rfl) (pe_lst (pa_cons pe_int pa_nil))) (pss_cons (ps_for PassesOwn.never rfl (pi_range1 (by rfl) m_range (pa_cons (pe_callB (k_len K rfl) (by rfl) m_len PySem.boot_len (pa_cons (pv 0) pa_nil)) pa_nil)) (pg_name (i := 3) sc__law_closed.nd rfl (.inl rfl)) (C8.pss_cut (ps_if (pt_cmpR op_lt (pv 3) (pe_callB (k_len K rfl) (by rfl) m_len PySem.boot_len (pa_cons (pv 2) pa_nil)) (nomark _)) (pss_cons (ps_for PassesOwn.never rfl (k_piL K rfl (pv 1)) (pg_name (i := 4) sc__law_closed.nd rfl (.inl rfl)) (C8.pss_cut (ps_if (pt_cmpR (k_niD K rfl (hu65 hr)) (pe_ix (k_ixL K rfl) (pe_ix (k_ixL K rfl) (pv 0) (pe_ix (k_ixL K rfl) (pv 2) (pv 3) (fun _ _ => rfl)) (fun _ _ => rfl)) (pv 4) (fun _ _ => rfl)) (pv 2) rfl) (pss_cons (ps_expr (k_bm K rfl PySem.F.plainAttrs_list PySem.F.slot_list_append PySem.F.type_list_append mt_append (pv 2) (pa_cons (pe_ix (k_ixL K rfl) (pe_ix (k_ixL K rfl) (pv 0) (pe_ix (k_ixL K rfl) (pv 2) (pv 3) (fun _ _ => rfl)) (fun _ _ => rfl)) (pv 4) (fun _ _ => rfl)) pa_nil))) pss_nil) pss_nil) pss_nil)) pss_nil) pss_nil) pss_nil)) (pss_cons (ps_ret (pe_callB (k_sortedI K rfl) (by rfl) m_sorted (by decide +kernel) (pa_cons (pv 2) pa_nil))) pss_nil))), fun Q hQ => ?_⟩
    refine s_setN (σ := [some v_table, some v_members, none, none, none]) (s := C.s0) (σf := fun v => [some v_table, some v_members, some v, none, none]) (evn_lst (el_cons ev_int (el_nil (r := sI))) (by decide)) hm G (fun _ => rfl) fun reached p_reached3 s2 g1 hn4 f_reached hm => ?_
    have hn4 : ∀ a, a = p_reached3 → _ := fun a e => (show C.s0.hp a = none from by rw [e]; exact hn4)
    have G := Gx.trans G g1
    refine s_for (σ := [some v_table, some v_members, some (.ref p_reached3), none, none]) (s := s2) (X := (fun a => a = p_reached3)) (fun u5 (a : ((List Int))) σ' s' => Gr C.s0 s' ∧ Gx (fun a => a = p_reached3) u5 s' ∧ ∃ y_at', ∃ y_member, σ' = [some v_table, some v_members, some (.ref p_reached3), y_at', y_member] ∧ (oL C.s0 sI p_reached3).is s' (.ref p_reached3) a) (ei_rng1 (ev_lenL rd_bor (ev_var (r := (bR C.s0 (sL (sL sI)))) (d := table) f_table))) hm G (fun _ _ _ _ h => h.2.1) (fun u5 gu6 => ⟨(Gx.trans G gu6), (Gx.refl gu6.ok), none, none, rfl, (Rep.u gu6 f_reached)⟩) (fun u5 at' v_at' a σ' s9 gu6 hI hx Qb7 hm => ?_) (fun u5 a σ' s10 gu6 hI hm => ?_)
    · have f_reached := Rep.u gu6 f_reached
      obtain ⟨reached, ea⟩ : ∃ z, z = a := ⟨a, rfl⟩
      subst ea
      obtain ⟨G, E, y_at', y_member, rfl, f_reached⟩ := hI
      have hm_p_reached3 : ∀ a, a = p_reached3 → (fun a => a = p_reached3) a ∨ u5.hp a = none := fun a z => .inl z
      obtain rfl : v_at' = V.int at' := hx
      refine gname_do (σ' := [some v_table, some v_members, some (.ref p_reached3), some (.int at'), y_member]) rfl ?_
      refine s_ifj (σ := [some v_table, some v_members, some (.ref p_reached3), some (.int at'), y_member]) (s := s9) (fun (a : ((List Int))) σ' s' => Gr C.s0 s' ∧ Gx (fun a => a = p_reached3) s9 s' ∧ ∃ y_member, σ' = [some v_table, some v_members, some (.ref p_reached3), some (.int at'), y_member] ∧ (oL C.s0 sI p_reached3).is s' (.ref p_reached3) a) (et_test (ev_lt (ev_var (r := sI.r) (d := at') rfl) (ev_lenL rd_own (ev_var f_reached)))) hm G (fun s12 g11 Qb15 hm => ?_) (fun s13 g11 Qb15 hm => ?_) (fun a σ' s39 hI hm => ?_)
      · have G := Gx.trans G g11
        have E : Gx (fun a => a = p_reached3) s9 _ := Gx.of_gr g11
        have hm_p_reached3 : ∀ a, a = p_reached3 → (fun a => a = p_reached3) a ∨ s9.hp a = none := fun a z => .inl z
        have f_reached := Rep.u g11 f_reached
        refine s_for (σ := [some v_table, some v_members, some (.ref p_reached3), some (.int at'), y_member]) (s := s12) (X := (fun a => a = p_reached3)) (fun u17 (a : ((List Int))) σ' s' => Gr C.s0 s' ∧ Gx (fun a => a = p_reached3) u17 s' ∧ ∃ y_member, σ' = [some v_table, some v_members, some (.ref p_reached3), some (.int at'), y_member] ∧ (oL C.s0 sI p_reached3).is s' (.ref p_reached3) a) (ei_list rd_bor (own_nw f_reached) (fun _ z _ => z.elim) (ev_var (r := (bR C.s0 (sL sI))) (d := members) f_members)) hm G (fun _ _ _ _ h => h.2.1) (fun u17 gu18 => ⟨(Gx.trans G gu18), (Gx.refl gu18.ok), y_member, rfl, (Rep.u gu18 f_reached)⟩) (fun u17 member v_member a σ' s21 gu18 hI hx Qb19 hm => ?_) (fun u17 a σ' s22 gu18 hI hm => ?_)
        · have f_reached := Rep.u gu18 f_reached
          obtain ⟨reached, ea⟩ : ∃ z, z = a := ⟨a, rfl⟩
          subst ea
          obtain ⟨G, E, y_member, rfl, f_reached⟩ := hI
          have hm_p_reached3 : ∀ a, a = p_reached3 → (fun a => a = p_reached3) a ∨ u17.hp a = none := fun a z => .inl z
          obtain rfl : v_member = V.int member := hx
          refine gname_do (σ' := [some v_table, some v_members, some (.ref p_reached3), some (.int at'), some (.int member)]) rfl ?_
          refine s_ifj (σ := [some v_table, some v_members, some (.ref p_reached3), some (.int at'), some (.int member)]) (s := s21) (fun (a : ((List Int))) σ' s' => Gr C.s0 s' ∧ Gx (fun a => a = p_reached3) s21 s' ∧ σ' = [some v_table, some v_members, some (.ref p_reached3), some (.int at'), some (.int member)] ∧ (oL C.s0 sI p_reached3).is s' (.ref p_reached3) a) (et_test (ev_niD enc_I (dpr_st enc_I) (dpr_own enc_I) (Nat.le_of_ble_eq_true rfl) (ev_as (see_dry dry_I) (ev_ixL rd_bor (ev_ixL rd_bor (ev_var (r := (bR C.s0 (sL (sL sI)))) (d := table) f_table) (ev_ixL rd_own (ev_var f_reached) (ev_var (r := sI.r) (d := at') rfl))) (ev_var (r := sI.r) (d := member) rfl))) (ev_var f_reached))) hm G (fun s27 g26 Qb30 hm => ?_) (fun s28 g26 Qb30 hm => ?_) (fun a σ' s37 hI hm => ?_)
          · have G := Gx.trans G g26
            have E : Gx (fun a => a = p_reached3) s21 _ := Gx.of_gr g26
            have hm_p_reached3 : ∀ a, a = p_reached3 → (fun a => a = p_reached3) a ∨ s21.hp a = none := fun a z => .inl z
            have f_reached := Rep.u g26 f_reached
            refine s_app (σ := [some v_table, some v_members, some (.ref p_reached3), some (.int at'), some (.int member)]) (s := s27) f_reached (ev_var f_reached) (ev_as (see_dry dry_I) (ev_ixL rd_bor (ev_ixL rd_bor (ev_var (r := (bR C.s0 (sL (sL sI)))) (d := table) f_table) (ev_ixL rd_own (ev_var f_reached) (ev_var (r := sI.r) (d := at') rfl))) (ev_var (r := sI.r) (d := member) rfl))) hm G fun reached s32 g33 G f_reached hm => ?_
            have E := Gx.gx' E g33 (fun a z => (fun z => hm_p_reached3 a z) z)
            exact ⟨reached, _, rfl, hm, ⟨G, E, rfl, f_reached⟩⟩
          · have G := Gx.trans G g26
            have E : Gx (fun a => a = p_reached3) s21 _ := Gx.of_gr g26
            have hm_p_reached3 : ∀ a, a = p_reached3 → (fun a => a = p_reached3) a ∨ s21.hp a = none := fun a z => .inl z
            have f_reached := Rep.u g26 f_reached
            exact ⟨reached, _, rfl, hm, ⟨G, E, rfl, f_reached⟩⟩
          have E0 := E
          obtain ⟨reached, ea⟩ : ∃ z, z = a := ⟨a, rfl⟩
          subst ea
          obtain ⟨G, E, rfl, f_reached⟩ := hI
          have E := Gx.gx' E0 E (fun a z => (fun z => hm_p_reached3 a z) z)
          exact ⟨reached, _, rfl, hm, ⟨G, E, some (.int member), rfl, f_reached⟩⟩
        have f_reached := Rep.u gu18 f_reached
        have E0 := Gx.trans E (Gx.of_gr gu18)
        obtain ⟨reached, ea⟩ : ∃ z, z = a := ⟨a, rfl⟩
        subst ea
        obtain ⟨G, E, y_member, rfl, f_reached⟩ := hI
        have E := Gx.gx' E0 E (fun a z => (fun z => hm_p_reached3 a z) z)
        exact ⟨reached, _, rfl, hm, ⟨G, E, y_member, rfl, f_reached⟩⟩
      · have G := Gx.trans G g11
        have E : Gx (fun a => a = p_reached3) s9 _ := Gx.of_gr g11
        have hm_p_reached3 : ∀ a, a = p_reached3 → (fun a => a = p_reached3) a ∨ s9.hp a = none := fun a z => .inl z
        have f_reached := Rep.u g11 f_reached
        exact ⟨reached, _, rfl, hm, ⟨G, E, y_member, rfl, f_reached⟩⟩
      have E0 := E
      obtain ⟨reached, ea⟩ : ∃ z, z = a := ⟨a, rfl⟩
      subst ea
      obtain ⟨G, E, y_member, rfl, f_reached⟩ := hI
      have E := Gx.gx' E0 E (fun a z => (fun z => hm_p_reached3 a z) z)
      exact ⟨reached, _, rfl, hm, ⟨G, E, some (.int at'), y_member, rfl, f_reached⟩⟩
    have f_reached := Rep.u gu6 f_reached
    obtain ⟨reached, ea⟩ : ∃ z, z = a := ⟨a, rfl⟩
    subst ea
    obtain ⟨G, E, y_at', y_member, rfl, f_reached⟩ := hI
    exact s_retN (σ := [some v_table, some v_members, some (.ref p_reached3), y_at', y_member]) (s := s10) (evn_sorted rd_own sta_st (ev_var f_reached)) hm G fun d p u qd g hv => hQ d (.ref p) u ((fun _ q => q) d qd) g ⟨p, rfl, hv⟩

abbrev st__law_order : Stmt := topS 23
abbrev N__law_order : List Str := ["table", "x", "count", "current", "k"]
theorem sc__law_order : FnScope N__law_order ["table", "x"] (defScope st__law_order) := ⟨rfl, rfl, rfl, by decide +kernel, rfl, by decide +kernel, by decide +kernel⟩
abbrev sp__law_order (K : PySem.W.Frag) (A : Ad) : Sp := sp0 (aC (bP (sL (sL sI))) (aC sI.r aN)) (fun a => Mi._law_order a.1 a.2.1) (fun _ => sI.r)
theorem ok__law_order {P : Program} {w : World} {K : PySem.W.Frag} {mg : Str → Option Value} {base : Heap} {A : Ad} (T : Mo K mg A) {f : Addr} {fd : FuncData} (F : Fun K "_law_order" "_law_order" st__law_order f fd) (m_len : mg "len" = none) (m_range : mg "range" = none) :
    FnOk P w K mg base CX0 2 f fd ["table", "x"] (sp__law_order K A) := by
  refine fn0 F sc__law_order (fun s vs a h => ?_) (fun cdv A9 outer sh EX hr C a vs Qm ok ha hm => ?_)
  · obtain ⟨v0, w0, rfl, _, h⟩ := h; obtain ⟨v1, w1, rfl, _, h⟩ := h; cases h; rfl
  · obtain ⟨table, x, _⟩ := a
    obtain ⟨v_table, w_table, rfl, f_table, ha⟩ := ha
    obtain ⟨v_x, w_x, rfl, f_x, ha⟩ := ha
    cases ha
    have f_table : (bR C.s0 (sL (sL sI))).is C.s0 v_table table := f_table
    obtain rfl : v_x = V.int x := f_x
    have G : Gr C.s0 C.s0 := Gx.refl ok
    unfold Mi._law_order at hm
    try dsimp only at hm
    refine ⟨_, (pss_cons (ps_set (i := 2) sc__law_order.nd rfl (.inl rfl) pe_int) (pss_cons (ps_set (i := 3) sc__law_order.nd rfl (.inl rfl) (pv 1)) (pss_cons (ps_for PassesOwn.never rfl (pi_range1 (by rfl) m_range (pa_cons (pe_callB (k_len K rfl) (by rfl) m_len PySem.boot_len (pa_cons (pv 0) pa_nil)) pa_nil)) (pg_name (i := 4) sc__law_order.nd rfl (.inl rfl)) (C8.pss_cut (ps_if (pt_cmpR op_ne (pv 3) pe_int (nomark _)) (pss_cons (ps_set (i := 3) sc__law_order.nd rfl (.inl rfl) (pe_ix (k_ixL K rfl) (pe_ix (k_ixL K rfl) (pv 0) (pv 3) (fun _ _ => rfl)) (pv 1) (fun _ _ => rfl))) (pss_cons (ps_set (i := 2) sc__law_order.nd rfl (.inl rfl) (pe_op op_add (pv 2) pe_int)) pss_nil)) pss_nil) pss_nil)) (pss_cons (ps_ret (pv 2)) pss_nil)))), fun Q hQ => ?_⟩
    refine s_set (σ := [some v_table, some (.int x), none, none, none]) (s := C.s0) (σf := fun v => [some v_table, some (.int x), some v, none, none]) ev_int hm G (fun _ => rfl) fun count v_count s2 g1 f_count hm => ?_
    have G := Gx.trans G g1
    obtain rfl : v_count = V.int count := f_count
    refine s_set (σ := [some v_table, some (.int x), some (.int count), none, none]) (s := s2) (σf := fun v => [some v_table, some (.int x), some (.int count), some v, none]) (ev_var (r := sI.r) (d := x) rfl) hm G (fun _ => rfl) fun current v_current s4 g3 f_current hm => ?_
    have G := Gx.trans G g3
    obtain rfl : v_current = V.int current := f_current
    refine s_for (σ := [some v_table, some (.int x), some (.int count), some (.int current), none]) (s := s4) (X := No) (fun u5 (a : (Int × Int)) σ' s' => Gr C.s0 s' ∧ Gx No u5 s' ∧ ∃ y_k, σ' = [some v_table, some (.int x), some (.int a.1), some (.int a.2), y_k]) (ei_rng1 (ev_lenL rd_bor (ev_var (r := (bR C.s0 (sL (sL sI)))) (d := table) f_table))) hm G (fun _ _ _ _ h => h.2.1) (fun u5 gu6 => ⟨(Gx.trans G gu6), (Gx.refl gu6.ok), none, rfl⟩) (fun u5 k v_k a σ' s9 gu6 hI hx Qb7 hm => ?_) (fun u5 a σ' s10 gu6 hI hm => ?_)
    · obtain ⟨count, current⟩ := a
      obtain ⟨G, E, y_k, rfl⟩ := hI
      obtain rfl : v_k = V.int k := hx
      refine gname_do (σ' := [some v_table, some (.int x), some (.int count), some (.int current), some (.int k)]) rfl ?_
      refine s_ifj (σ := [some v_table, some (.int x), some (.int count), some (.int current), some (.int k)]) (s := s9) (fun (a : (Int × Int)) σ' s' => Gr C.s0 s' ∧ Gx No s9 s' ∧ σ' = [some v_table, some (.int x), some (.int a.1), some (.int a.2), some (.int k)]) (et_test (ev_neI (ev_var (r := sI.r) (d := current) rfl) ev_int)) hm G (fun s12 g11 Qb16 hm => ?_) (fun s13 g11 Qb16 hm => ?_) (fun a σ' s23 hI hm => ?_)
      · have G := Gx.trans G g11
        have E : Gx No s9 _ := Gx.of_gr g11
        refine s_set (σ := [some v_table, some (.int x), some (.int count), some (.int current), some (.int k)]) (s := s12) (σf := fun v => [some v_table, some (.int x), some (.int count), some v, some (.int k)]) (ev_as (see_dry dry_I) (ev_ixL rd_bor (ev_ixL rd_bor (ev_var (r := (bR C.s0 (sL (sL sI)))) (d := table) f_table) (ev_var (r := sI.r) (d := current) rfl)) (ev_var (r := sI.r) (d := x) rfl))) hm G (fun _ => rfl) fun current v_current s20 g19 f_current hm => ?_
        have G := Gx.trans G g19
        have E := Gx.trans E (Gx.of_gr g19)
        obtain rfl : v_current = V.int current := f_current
        refine s_set (σ := [some v_table, some (.int x), some (.int count), some (.int current), some (.int k)]) (s := s20) (σf := fun v => [some v_table, some (.int x), some v, some (.int current), some (.int k)]) (ev_add (ev_var (r := sI.r) (d := count) rfl) ev_int) hm G (fun _ => rfl) fun count v_count s22 g21 f_count hm => ?_
        have G := Gx.trans G g21
        have E := Gx.trans E (Gx.of_gr g21)
        obtain rfl : v_count = V.int count := f_count
        exact ⟨(count, current), _, rfl, hm, ⟨G, E, rfl⟩⟩
      · have G := Gx.trans G g11
        have E : Gx No s9 _ := Gx.of_gr g11
        exact ⟨(count, current), _, rfl, hm, ⟨G, E, rfl⟩⟩
      have E0 := E
      obtain ⟨count, current⟩ := a
      obtain ⟨G, E, rfl⟩ := hI
      have E := Gx.gx' E0 E (fun a z => (z : False).elim)
      exact ⟨(count, current), _, rfl, hm, ⟨G, E, some (.int k), rfl⟩⟩
    obtain ⟨count, current⟩ := a
    obtain ⟨G, E, y_k, rfl⟩ := hI
    exact s_ret (σ := [some v_table, some (.int x), some (.int count), some (.int current), y_k]) (s := s10) (ev_var (r := sI.r) (d := count) rfl) hm G fun d v u qd g hv => hQ d v u ((fun _ q => q) d qd) g hv

abbrev st__law_many : Stmt := topS 24
abbrev N__law_many : List Str := ["table", "x", "times", "current", "k"]
theorem sc__law_many : FnScope N__law_many ["table", "x", "times"] (defScope st__law_many) := ⟨rfl, rfl, rfl, by decide +kernel, rfl, by decide +kernel, by decide +kernel⟩
abbrev sp__law_many (K : PySem.W.Frag) (A : Ad) : Sp := sp0 (aC (bP (sL (sL sI))) (aC sI.r (aC sI.r aN))) (fun a => Mi._law_many a.1 a.2.1 a.2.2.1) (fun _ => sI.r)
theorem ok__law_many {P : Program} {w : World} {K : PySem.W.Frag} {mg : Str → Option Value} {base : Heap} {A : Ad} (T : Mo K mg A) {f : Addr} {fd : FuncData} (F : Fun K "_law_many" "_law_many" st__law_many f fd) (m_range : mg "range" = none) :
    FnOk P w K mg base CX0 1 f fd ["table", "x", "times"] (sp__law_many K A) := by
  refine fn0 F sc__law_many (fun s vs a h => ?_) (fun cdv A9 outer sh EX hr C a vs Qm ok ha hm => ?_)
  · obtain ⟨v0, w0, rfl, _, h⟩ := h; obtain ⟨v1, w1, rfl, _, h⟩ := h; obtain ⟨v2, w2, rfl, _, h⟩ := h; cases h; rfl
  · obtain ⟨table, x, times, _⟩ := a
    obtain ⟨v_table, w_table, rfl, f_table, ha⟩ := ha
    obtain ⟨v_x, w_x, rfl, f_x, ha⟩ := ha
    obtain ⟨v_times, w_times, rfl, f_times, ha⟩ := ha
    cases ha
    have f_table : (bR C.s0 (sL (sL sI))).is C.s0 v_table table := f_table
    obtain rfl : v_x = V.int x := f_x
    obtain rfl : v_times = V.int times := f_times
    have G : Gr C.s0 C.s0 := Gx.refl ok
    unfold Mi._law_many at hm
    try dsimp only at hm
    refine ⟨_, (pss_cons (ps_set (i := 3) sc__law_many.nd rfl (.inl rfl) pe_int) (pss_cons (ps_for PassesOwn.never rfl (pi_range1 (by rfl) m_range (pa_cons (pv 2) pa_nil)) (pg_name (i := 4) sc__law_many.nd rfl (.inl rfl)) (pss_cons (ps_set (i := 3) sc__law_many.nd rfl (.inl rfl) (pe_ix (k_ixL K rfl) (pe_ix (k_ixL K rfl) (pv 0) (pv 3) (fun _ _ => rfl)) (pv 1) (fun _ _ => rfl))) pss_nil)) (pss_cons (ps_ret (pv 3)) pss_nil))), fun Q hQ => ?_⟩
    refine s_set (σ := [some v_table, some (.int x), some (.int times), none, none]) (s := C.s0) (σf := fun v => [some v_table, some (.int x), some (.int times), some v, none]) ev_int hm G (fun _ => rfl) fun current v_current s2 g1 f_current hm => ?_
    have G := Gx.trans G g1
    obtain rfl : v_current = V.int current := f_current
    refine s_for (σ := [some v_table, some (.int x), some (.int times), some (.int current), none]) (s := s2) (X := No) (fun u3 (a : (Int)) σ' s' => Gr C.s0 s' ∧ Gx No u3 s' ∧ ∃ y_k, σ' = [some v_table, some (.int x), some (.int times), some (.int a), y_k]) (ei_rng1 (ev_var (r := sI.r) (d := times) rfl)) hm G (fun _ _ _ _ h => h.2.1) (fun u3 gu4 => ⟨(Gx.trans G gu4), (Gx.refl gu4.ok), none, rfl⟩) (fun u3 k v_k a σ' s7 gu4 hI hx Qb5 hm => ?_) (fun u3 a σ' s8 gu4 hI hm => ?_)
    · obtain ⟨current, ea⟩ : ∃ z, z = a := ⟨a, rfl⟩
      subst ea
      obtain ⟨G, E, y_k, rfl⟩ := hI
      obtain rfl : v_k = V.int k := hx
      refine gname_do (σ' := [some v_table, some (.int x), some (.int times), some (.int current), some (.int k)]) rfl ?_
      refine s_set (σ := [some v_table, some (.int x), some (.int times), some (.int current), some (.int k)]) (s := s7) (σf := fun v => [some v_table, some (.int x), some (.int times), some v, some (.int k)]) (ev_as (see_dry dry_I) (ev_ixL rd_bor (ev_ixL rd_bor (ev_var (r := (bR C.s0 (sL (sL sI)))) (d := table) f_table) (ev_var (r := sI.r) (d := current) rfl)) (ev_var (r := sI.r) (d := x) rfl))) hm G (fun _ => rfl) fun current v_current s11 g10 f_current hm => ?_
      have G := Gx.trans G g10
      have E := Gx.trans E (Gx.of_gr g10)
      obtain rfl : v_current = V.int current := f_current
      exact ⟨current, _, rfl, hm, ⟨G, E, some (.int k), rfl⟩⟩
    obtain ⟨current, ea⟩ : ∃ z, z = a := ⟨a, rfl⟩
    subst ea
    obtain ⟨G, E, y_k, rfl⟩ := hI
    exact s_ret (σ := [some v_table, some (.int x), some (.int times), some (.int current), y_k]) (s := s8) (ev_var (r := sI.r) (d := current) rfl) hm G fun d v u qd g hv => hQ d v u ((fun _ q => q) d qd) g hv

abbrev st__law_generators : Stmt := topS 25
abbrev N__law_generators : List Str := ["table", "found", "x"]
theorem sc__law_generators : FnScope N__law_generators ["table"] (defScope st__law_generators) := ⟨rfl, rfl, rfl, by decide +kernel, rfl, by decide +kernel, by decide +kernel⟩
abbrev sp__law_generators (K : PySem.W.Frag) (A : Ad) : Sp := sp0 (aC (bP (sL (sL sI))) aN) (fun a => Mi._law_generators a.1) (fun z => nL sI z)
theorem ok__law_generators {P : Program} {w : World} {K : PySem.W.Frag} {mg : Str → Option Value} {base : Heap} {A : Ad} (T : Mo K mg A) {f : Addr} {fd : FuncData} (F : Fun K "_law_generators" "_law_generators" st__law_generators f fd)
    {f__law_closed : Addr} {fd__law_closed : FuncData} (c__law_closed : Cal P w K mg base CX0 1 "_law_closed" ["table", "members"] (sp__law_closed K A) f__law_closed fd__law_closed) (m_len : mg "len" = none) (m_range : mg "range" = none) :
    FnOk P w K mg base CX0 2 f fd ["table"] (sp__law_generators K A) := by
  refine fn0 F sc__law_generators (fun s vs a h => ?_) (fun cdv A9 outer sh EX hr C a vs Qm ok ha hm => ?_)
  · obtain ⟨v0, w0, rfl, _, h⟩ := h; cases h; rfl
  · obtain ⟨table, _⟩ := a
    obtain ⟨v_table, w_table, rfl, f_table, ha⟩ := ha
    cases ha
    have f_table : (bR C.s0 (sL (sL sI))).is C.s0 v_table table := f_table
    have G : Gr C.s0 C.s0 := Gx.refl ok
    unfold Mi._law_generators at hm
    try dsimp only at hm
    refine ⟨_, (pss_cons (ps_set (i := 1) sc__law_generators.nd rfl (.inl rfl) (pe_lst pa_nil)) (pss_cons (ps_for PassesOwn.never rfl (pi_range2 (by rfl) m_range (pa_cons pe_int (pa_cons (pe_callB (k_len K rfl) (by rfl) m_len PySem.boot_len (pa_cons (pv 0) pa_nil)) pa_nil))) (pg_name (i := 2) sc__law_generators.nd rfl (.inl rfl)) (C8.pss_cut (ps_if (pt_cmpR (k_niD K rfl (hu65 hr)) (pv 2) (pe_callS (E := fun _ => E0) c__law_closed.ok hr (by rfl) c__law_closed.gm c__law_closed.kp c__law_closed.bn pat0 (pa_cons (pv 0) (pa_cons (pv 1) pa_nil))) rfl) (pss_cons (ps_expr (k_bm K rfl PySem.F.plainAttrs_list PySem.F.slot_list_append PySem.F.type_list_append mt_append (pv 1) (pa_cons (pv 2) pa_nil))) pss_nil) pss_nil) pss_nil)) (pss_cons (ps_ret (pv 1)) pss_nil))), fun Q hQ => ?_⟩
    refine s_setN (σ := [some v_table, none, none]) (s := C.s0) (σf := fun v => [some v_table, some v, none]) (evn_lst (el_nil (r := sI)) (by decide)) hm G (fun _ => rfl) fun found p_found3 s2 g1 hn4 f_found hm => ?_
    have hn4 : ∀ a, a = p_found3 → _ := fun a e => (show C.s0.hp a = none from by rw [e]; exact hn4)
    have G := Gx.trans G g1
    refine s_for (σ := [some v_table, some (.ref p_found3), none]) (s := s2) (X := (fun a => a = p_found3)) (fun u5 (a : ((List Int))) σ' s' => Gr C.s0 s' ∧ Gx (fun a => a = p_found3) u5 s' ∧ ∃ y_x, σ' = [some v_table, some (.ref p_found3), y_x] ∧ (oL C.s0 sI p_found3).is s' (.ref p_found3) a) (ei_rng2 ev_int (ev_lenL rd_bor (ev_var (r := (bR C.s0 (sL (sL sI)))) (d := table) f_table))) hm G (fun _ _ _ _ h => h.2.1) (fun u5 gu6 => ⟨(Gx.trans G gu6), (Gx.refl gu6.ok), none, rfl, (Rep.u gu6 f_found)⟩) (fun u5 x v_x a σ' s9 gu6 hI hx Qb7 hm => ?_) (fun u5 a σ' s10 gu6 hI hm => ?_)
    · have f_found := Rep.u gu6 f_found
      obtain ⟨found, ea⟩ : ∃ z, z = a := ⟨a, rfl⟩
      subst ea
      obtain ⟨G, E, y_x, rfl, f_found⟩ := hI
      have hm_p_found3 : ∀ a, a = p_found3 → (fun a => a = p_found3) a ∨ u5.hp a = none := fun a z => .inl z
      obtain rfl : v_x = V.int x := hx
      refine gname_do (σ' := [some v_table, some (.ref p_found3), some (.int x)]) rfl ?_
      refine s_ifj (σ := [some v_table, some (.ref p_found3), some (.int x)]) (s := s9) (fun (a : ((List Int))) σ' s' => Gr C.s0 s' ∧ Gx (fun a => a = p_found3) s9 s' ∧ σ' = [some v_table, some (.ref p_found3), some (.int x)] ∧ (oL C.s0 sI p_found3).is s' (.ref p_found3) a) (et_test (ev_niD enc_I (dpr_st enc_I) (dpr_st (enc_L enc_I)) (Nat.le_of_ble_eq_true rfl) (ev_var (r := sI.r) (d := x) rfl) (evn_ev (evn_call0 (E := fun _ => E0) (ea_cons (ev_as see_borB (ev_var (r := (bR C.s0 (sL (sL sI)))) (d := table) f_table)) (ea_cons (ev_as see_own (ev_var f_found)) ea_nil)))))) hm G (fun s13 g12 Qb16 hm => ?_) (fun s14 g12 Qb16 hm => ?_) (fun a σ' s21 hI hm => ?_)
      · have G := Gx.trans G g12
        have E : Gx (fun a => a = p_found3) s9 _ := Gx.of_gr g12
        have hm_p_found3 : ∀ a, a = p_found3 → (fun a => a = p_found3) a ∨ s9.hp a = none := fun a z => .inl z
        have f_found := Rep.u g12 f_found
        refine s_app (σ := [some v_table, some (.ref p_found3), some (.int x)]) (s := s13) f_found (ev_var f_found) (ev_var (r := sI.r) (d := x) rfl) hm G fun found s18 g19 G f_found hm => ?_
        have E := Gx.gx' E g19 (fun a z => (fun z => hm_p_found3 a z) z)
        exact ⟨found, _, rfl, hm, ⟨G, E, rfl, f_found⟩⟩
      · have G := Gx.trans G g12
        have E : Gx (fun a => a = p_found3) s9 _ := Gx.of_gr g12
        have hm_p_found3 : ∀ a, a = p_found3 → (fun a => a = p_found3) a ∨ s9.hp a = none := fun a z => .inl z
        have f_found := Rep.u g12 f_found
        exact ⟨found, _, rfl, hm, ⟨G, E, rfl, f_found⟩⟩
      have E0 := E
      obtain ⟨found, ea⟩ : ∃ z, z = a := ⟨a, rfl⟩
      subst ea
      obtain ⟨G, E, rfl, f_found⟩ := hI
      have E := Gx.gx' E0 E (fun a z => (fun z => hm_p_found3 a z) z)
      exact ⟨found, _, rfl, hm, ⟨G, E, some (.int x), rfl, f_found⟩⟩
    have f_found := Rep.u gu6 f_found
    obtain ⟨found, ea⟩ : ∃ z, z = a := ⟨a, rfl⟩
    subst ea
    obtain ⟨G, E, y_x, rfl, f_found⟩ := hI
    exact s_ret (σ := [some v_table, some (.ref p_found3), y_x]) (s := s10) (ev_var f_found) hm G fun d v u qd g hv => hQ d v u ((fun _ q => q) d qd) g ⟨_, hv.1, hv⟩

abbrev st__law_refused : Stmt := topS 26
abbrev N__law_refused : List Str := ["group", "which", "bad", "e"]
theorem sc__law_refused : FnScope N__law_refused ["group", "which", "bad"] (defScope st__law_refused) := ⟨rfl, rfl, rfl, by decide +kernel, rfl, by decide +kernel, by decide +kernel⟩
abbrev sp__law_refused (K : PySem.W.Frag) (A : Ad) : Sp := sp0 (aC (r_Group K A).r (aC sI.r (aC sI.r aN))) (fun a => Mi._law_refused a.1 a.2.1 a.2.2.1) (fun _ => sB.r)
theorem ok__law_refused {P : Program} {w : World} {K : PySem.W.Frag} {mg : Str → Option Value} {base : Heap} {A : Ad} (T : Mo K mg A) {f : Addr} {fd : FuncData} (F : Fun K "_law_refused" "_law_refused" st__law_refused f fd)
    {f_Group_multiply : Addr} {fd_Group_multiply : FuncData} (c_Group_multiply : CalM P w K mg base (L2.CX P w) 2 A.a_Group "multiply" ["self", "left", "right"] (sp_Group_multiply K A) f_Group_multiply fd_Group_multiply)
    {f_Group_inverse : Addr} {fd_Group_inverse : FuncData} (c_Group_inverse : CalM P w K mg base (L2.CX P w) 2 A.a_Group "inverse" ["self", "element"] (sp_Group_inverse K A) f_Group_inverse fd_Group_inverse)
    {f_Group_power : Addr} {fd_Group_power : FuncData} (c_Group_power : CalM P w K mg base (L2.CX P w) 3 A.a_Group "power" ["self", "element", "exponent"] (sp_Group_power K A) f_Group_power fd_Group_power)
    {f_Group_order_of : Addr} {fd_Group_order_of : FuncData} (c_Group_order_of : CalM P w K mg base (L2.CX P w) 2 A.a_Group "order_of" ["self", "element"] (sp_Group_order_of K A) f_Group_order_of fd_Group_order_of)
    {f_Group_generated : Addr} {fd_Group_generated : FuncData} (c_Group_generated : CalM P w K mg base (L2.CX P w) 2 A.a_Group "generated" ["self", "members"] (sp_Group_generated K A) f_Group_generated fd_Group_generated) (m_isinstance : mg "isinstance" = none) :
    FnOk P w K mg base CX0 4 f fd ["group", "which", "bad"] (sp__law_refused K A) := by
  refine fn0 F sc__law_refused (fun s vs a h => ?_) (fun cdv A9 outer sh EX hr C a vs Qm ok ha hm => ?_)
  · obtain ⟨v0, w0, rfl, _, h⟩ := h; obtain ⟨v1, w1, rfl, _, h⟩ := h; obtain ⟨v2, w2, rfl, _, h⟩ := h; cases h; rfl
  · obtain ⟨group, which, bad, _⟩ := a
    obtain ⟨v_group, w_group, rfl, f_group, ha⟩ := ha
    obtain ⟨v_which, w_which, rfl, f_which, ha⟩ := ha
    obtain ⟨v_bad, w_bad, rfl, f_bad, ha⟩ := ha
    cases ha
    obtain rfl : v_which = V.int which := f_which
    obtain rfl : v_bad = V.int bad := f_bad
    have G : Gr C.s0 C.s0 := Gx.refl ok
    unfold Mi._law_refused at hm
    try dsimp only at hm
    refine ⟨_, (C8.pss_cut (ps_try_asM rfl rfl takes0 (fun W pn xe tk pso => (C8.pss_cut (ps_if (pt_cmpR op_eq (pv 1) pe_int (nomark _)) (pss_cons (ps_expr (pe_mtS (E := WE W) (pv 0) T.cl_Group c_Group_multiply.mt c_Group_multiply.ok (hr.mono (by decide)) c_Group_multiply.bn (fun σ => passAt tk σ) (pa_cons (pv 2) (pa_cons pe_int pa_nil)))) pss_nil) pss_nil) (C8.pss_cut (ps_if (pt_cmpR op_eq (pv 1) pe_int (nomark _)) (pss_cons (ps_expr (pe_mtS (E := WE W) (pv 0) T.cl_Group c_Group_multiply.mt c_Group_multiply.ok (hr.mono (by decide)) c_Group_multiply.bn (fun σ => passAt tk σ) (pa_cons pe_int (pa_cons (pv 2) pa_nil)))) pss_nil) pss_nil) (C8.pss_cut (ps_if (pt_cmpR op_eq (pv 1) pe_int (nomark _)) (pss_cons (ps_expr (pe_mtS (E := WE W) (pv 0) T.cl_Group c_Group_inverse.mt c_Group_inverse.ok (hr.mono (by decide)) c_Group_inverse.bn (fun σ => passAt tk σ) (pa_cons (pv 2) pa_nil))) pss_nil) pss_nil) (C8.pss_cut (ps_if (pt_cmpR op_eq (pv 1) pe_int (nomark _)) (pss_cons (ps_expr (pe_mtS (E := WE W) (pv 0) T.cl_Group c_Group_power.mt c_Group_power.ok hr c_Group_power.bn (fun σ => passAt tk σ) (pa_cons (pv 2) (pa_cons pe_int pa_nil)))) pss_nil) pss_nil) (C8.pss_cut (ps_if (pt_cmpR op_eq (pv 1) pe_int (nomark _)) (pss_cons (ps_expr (pe_mtS (E := WE W) (pv 0) T.cl_Group c_Group_order_of.mt c_Group_order_of.ok (hr.mono (by decide)) c_Group_order_of.bn (fun σ => passAt tk σ) (pa_cons (pv 2) pa_nil))) pss_nil) pss_nil) (C8.pss_cut (ps_if (pt_cmpR op_eq (pv 1) pe_int (nomark _)) (pss_cons (ps_expr (pe_mtS (E := WE W) (pv 0) T.cl_Group c_Group_generated.mt c_Group_generated.ok (hr.mono (by decide)) c_Group_generated.bn (fun σ => passAt tk σ) (pa_cons (pe_lst (pa_cons pe_int (pa_cons (pv 2) pa_nil))) pa_nil))) pss_nil) pss_nil) pss_nil))))))) (HdsA.cons (c := .ref A.a_InvalidElement) (i := 3) sc__law_refused.nd rfl rfl ⟨rfl, by decide, .inl T.g_InvalidElement⟩ (fun a oe cls d pn hz hf => (pss_cons (ps_ret (pe_and (pe_callB (k_isX (X := (cxOf CX0 P w K mg base N__law_refused "_law_refused" (defScope st__law_refused) f cdv A9 outer sh C.s0.hp EX).nox) K rfl hz hf) (by rfl) m_isinstance (by decide +kernel) (pa_cons (pv 3) (pa_cons (pe_glob (v := .ref A.a_StepError) (by rfl) T.g_StepError rfl) pa_nil))) (pe_one (pe_not (pe_callB (k_isX (X := (cxOf CX0 P w K mg base N__law_refused "_law_refused" (defScope st__law_refused) f cdv A9 outer sh C.s0.hp EX).nox) K rfl hz hf) (by rfl) m_isinstance (by decide +kernel) (pa_cons (pv 3) (pa_cons (pe_glob (v := .ref A.a_InvalidGroup) (by rfl) T.g_InvalidGroup rfl) pa_nil))))))) pss_nil)) HdsA.nil)) (pss_cons (ps_ret pe_bl) pss_nil)), fun Q hQ => ?_⟩
    refine s_try (σ := [some v_group, some (.int which), some (.int bad), none]) (s := C.s0) (cvf := cvf A) (fun (a : Unit) σ' s' => Gr C.s0 s' ∧ Gx No C.s0 s' ∧ σ' = [some v_group, some (.int which), some (.int bad), none]) (fun σ' => σ' = [some v_group, some (.int which), some (.int bad), none]) hm (fun Qb1 hrt2 => ?_) (fun Qb1 C6 W9 e7 hrt2 hm hE8 => ?_) (fun a σ' s65 hI hm => ?_)
    · rintro σ' e u3 ⟨rfl⟩ hm g4
      have G := Gx.trans G g4
      have E : Gx No C.s0 _ := Gx.of_gr g4
      have f_group := Rep.u g4 f_group
      refine ⟨sub_InvalidElement e, T.xm_InvalidElement e, fun hb ae_e _ => ?_, fun hb => ?_⟩
      · have hm := hd_yes hm hb
        show tSeq _ _ _ _ _
        exact s_ret (σ := [some v_group, some (.int which), some (.int bad), some (.ref ae_e)]) (s := u3) (Qm := fun d => Qb1 (.rt d)) (ev_andV (ev_isX (b := sub_StepError e) rfl (T.ec e) (.own A.a_StepError) (T.ki_StepError e)) (ev_notV (ev_isX (b := sub_InvalidGroup e) rfl (T.ec e) (.own A.a_InvalidGroup) (T.ki_InvalidGroup e)))) hm G fun d v u qd g hv => hQ d v u ((fun d q => (fun _ q => q) d (hrt2 d q)) d qd) g hv
      have hm := hd_no hm hb
      exact hm.elim
    · have es : C.s0.hp = C6.s0.hp := by rw [e7]
      rw [es]
      have Go : Gr C.s0 C6.s0 := by rw [e7]; exact G
      have f_groupt : (r_Group K A).r.is C6.s0 v_group group := by rw [e7]; exact f_group
      have G : Gr C6.s0 C6.s0 := Gx.refl Go.ok
      refine s_ifj (σ := [some v_group, some (.int which), some (.int bad), none]) (s := C6.s0) (fun (a : Unit) σ' s' => Gr C6.s0 s' ∧ Gx No C6.s0 s' ∧ σ' = [some v_group, some (.int which), some (.int bad), none]) (et_test (ev_eqI (ev_var (r := sI.r) (d := which) rfl) ev_int)) hm G (fun s12 g11 Qb15 hm => ?_) (fun s13 g11 Qb15 hm => ?_) (fun a σ' s19 hI hm => ?_)
      · have G := Gx.trans G g11
        have E : Gx No C6.s0 _ := Gx.of_gr g11
        have f_groupt := Rep.u g11 f_groupt
        refine s_drop (σ := [some v_group, some (.int which), some (.int bad), none]) (s := s12) (ev_mtX (E := WE W9) (fun e u a b => hE8 _ e u rfl a b) io_Group (by decide) (ev_var f_groupt) (ea_cons (ev_var (r := sI.r) (d := bad) rfl) (ea_cons ev_int ea_nil))) hm G fun _ s17 g18 hm => ?_
        have G := Gx.trans G g18
        have E := Gx.trans E (Gx.of_gr g18)
        have f_groupt := Rep.u g18 f_groupt
        exact ⟨(), _, rfl, hm, ⟨G, E, rfl⟩⟩
      · have G := Gx.trans G g11
        have E : Gx No C6.s0 _ := Gx.of_gr g11
        have f_groupt := Rep.u g11 f_groupt
        exact ⟨(), _, rfl, hm, ⟨G, E, rfl⟩⟩
      obtain ⟨G, E, rfl⟩ := hI
      have f_groupt := Rep.u E f_groupt
      refine s_ifj (σ := [some v_group, some (.int which), some (.int bad), none]) (s := s19) (fun (a : Unit) σ' s' => Gr C6.s0 s' ∧ Gx No s19 s' ∧ σ' = [some v_group, some (.int which), some (.int bad), none]) (et_test (ev_eqI (ev_var (r := sI.r) (d := which) rfl) ev_int)) hm G (fun s21 g20 Qb24 hm => ?_) (fun s22 g20 Qb24 hm => ?_) (fun a σ' s28 hI hm => ?_)
      · have G := Gx.trans G g20
        have E : Gx No s19 _ := Gx.of_gr g20
        have f_groupt := Rep.u g20 f_groupt
        refine s_drop (σ := [some v_group, some (.int which), some (.int bad), none]) (s := s21) (ev_mtX (E := WE W9) (fun e u a b => hE8 _ e u rfl a b) io_Group (by decide) (ev_var f_groupt) (ea_cons ev_int (ea_cons (ev_var (r := sI.r) (d := bad) rfl) ea_nil))) hm G fun _ s26 g27 hm => ?_
        have G := Gx.trans G g27
        have E := Gx.trans E (Gx.of_gr g27)
        have f_groupt := Rep.u g27 f_groupt
        exact ⟨(), _, rfl, hm, ⟨G, E, rfl⟩⟩
      · have G := Gx.trans G g20
        have E : Gx No s19 _ := Gx.of_gr g20
        have f_groupt := Rep.u g20 f_groupt
        exact ⟨(), _, rfl, hm, ⟨G, E, rfl⟩⟩
      obtain ⟨G, E, rfl⟩ := hI
      have f_groupt := Rep.u E f_groupt
      refine s_ifj (σ := [some v_group, some (.int which), some (.int bad), none]) (s := s28) (fun (a : Unit) σ' s' => Gr C6.s0 s' ∧ Gx No s28 s' ∧ σ' = [some v_group, some (.int which), some (.int bad), none]) (et_test (ev_eqI (ev_var (r := sI.r) (d := which) rfl) ev_int)) hm G (fun s30 g29 Qb33 hm => ?_) (fun s31 g29 Qb33 hm => ?_) (fun a σ' s37 hI hm => ?_)
      · have G := Gx.trans G g29
        have E : Gx No s28 _ := Gx.of_gr g29
        have f_groupt := Rep.u g29 f_groupt
        refine s_drop (σ := [some v_group, some (.int which), some (.int bad), none]) (s := s30) (ev_mtX (E := WE W9) (fun e u a b => hE8 _ e u rfl a b) io_Group (by decide) (ev_var f_groupt) (ea_cons (ev_var (r := sI.r) (d := bad) rfl) ea_nil)) hm G fun _ s35 g36 hm => ?_
        have G := Gx.trans G g36
        have E := Gx.trans E (Gx.of_gr g36)
        have f_groupt := Rep.u g36 f_groupt
        exact ⟨(), _, rfl, hm, ⟨G, E, rfl⟩⟩
      · have G := Gx.trans G g29
        have E : Gx No s28 _ := Gx.of_gr g29
        have f_groupt := Rep.u g29 f_groupt
        exact ⟨(), _, rfl, hm, ⟨G, E, rfl⟩⟩
      obtain ⟨G, E, rfl⟩ := hI
      have f_groupt := Rep.u E f_groupt
      refine s_ifj (σ := [some v_group, some (.int which), some (.int bad), none]) (s := s37) (fun (a : Unit) σ' s' => Gr C6.s0 s' ∧ Gx No s37 s' ∧ σ' = [some v_group, some (.int which), some (.int bad), none]) (et_test (ev_eqI (ev_var (r := sI.r) (d := which) rfl) ev_int)) hm G (fun s39 g38 Qb42 hm => ?_) (fun s40 g38 Qb42 hm => ?_) (fun a σ' s46 hI hm => ?_)
      · have G := Gx.trans G g38
        have E : Gx No s37 _ := Gx.of_gr g38
        have f_groupt := Rep.u g38 f_groupt
        refine s_drop (σ := [some v_group, some (.int which), some (.int bad), none]) (s := s39) (ev_mtX (E := WE W9) (fun e u a b => hE8 _ e u rfl a b) io_Group (by decide) (ev_var f_groupt) (ea_cons (ev_var (r := sI.r) (d := bad) rfl) (ea_cons ev_int ea_nil))) hm G fun _ s44 g45 hm => ?_
        have G := Gx.trans G g45
        have E := Gx.trans E (Gx.of_gr g45)
        have f_groupt := Rep.u g45 f_groupt
        exact ⟨(), _, rfl, hm, ⟨G, E, rfl⟩⟩
      · have G := Gx.trans G g38
        have E : Gx No s37 _ := Gx.of_gr g38
        have f_groupt := Rep.u g38 f_groupt
        exact ⟨(), _, rfl, hm, ⟨G, E, rfl⟩⟩
      obtain ⟨G, E, rfl⟩ := hI
      have f_groupt := Rep.u E f_groupt
      refine s_ifj (σ := [some v_group, some (.int which), some (.int bad), none]) (s := s46) (fun (a : Unit) σ' s' => Gr C6.s0 s' ∧ Gx No s46 s' ∧ σ' = [some v_group, some (.int which), some (.int bad), none]) (et_test (ev_eqI (ev_var (r := sI.r) (d := which) rfl) ev_int)) hm G (fun s48 g47 Qb51 hm => ?_) (fun s49 g47 Qb51 hm => ?_) (fun a σ' s55 hI hm => ?_)
      · have G := Gx.trans G g47
        have E : Gx No s46 _ := Gx.of_gr g47
        have f_groupt := Rep.u g47 f_groupt
        refine s_drop (σ := [some v_group, some (.int which), some (.int bad), none]) (s := s48) (ev_mtX (E := WE W9) (fun e u a b => hE8 _ e u rfl a b) io_Group (by decide) (ev_var f_groupt) (ea_cons (ev_var (r := sI.r) (d := bad) rfl) ea_nil)) hm G fun _ s53 g54 hm => ?_
        have G := Gx.trans G g54
        have E := Gx.trans E (Gx.of_gr g54)
        have f_groupt := Rep.u g54 f_groupt
        exact ⟨(), _, rfl, hm, ⟨G, E, rfl⟩⟩
      · have G := Gx.trans G g47
        have E : Gx No s46 _ := Gx.of_gr g47
        have f_groupt := Rep.u g47 f_groupt
        exact ⟨(), _, rfl, hm, ⟨G, E, rfl⟩⟩
      obtain ⟨G, E, rfl⟩ := hI
      have f_groupt := Rep.u E f_groupt
      refine s_ifj (σ := [some v_group, some (.int which), some (.int bad), none]) (s := s55) (fun (a : Unit) σ' s' => Gr C6.s0 s' ∧ Gx No s55 s' ∧ σ' = [some v_group, some (.int which), some (.int bad), none]) (et_test (ev_eqI (ev_var (r := sI.r) (d := which) rfl) ev_int)) hm G (fun s57 g56 Qb60 hm => ?_) (fun s58 g56 Qb60 hm => ?_) (fun a σ' s64 hI hm => ?_)
      · have G := Gx.trans G g56
        have E : Gx No s55 _ := Gx.of_gr g56
        have f_groupt := Rep.u g56 f_groupt
        refine s_drop (σ := [some v_group, some (.int which), some (.int bad), none]) (s := s57) (evn_ev (evn_mtX (E := WE W9) (fun e u a b => hE8 _ e u rfl a b) io_Group (by decide) (ev_var f_groupt) (ea_cons (ev_as see_bor (evn_ev (evn_lst (el_cons ev_int (el_cons (ev_var (r := sI.r) (d := bad) rfl) (el_nil (r := sI)))) (by decide)))) ea_nil))) hm G fun _ s62 g63 hm => ?_
        have G := Gx.trans G g63
        have E := Gx.trans E (Gx.of_gr g63)
        exact ⟨(), _, rfl, hm, ⟨G, E, rfl⟩⟩
      · have G := Gx.trans G g56
        have E : Gx No s55 _ := Gx.of_gr g56
        exact ⟨(), _, rfl, hm, ⟨G, E, rfl⟩⟩
      obtain ⟨G, E, rfl⟩ := hI
      have G1 : Gr C.s0 s64 := by rw [← e7]; exact G
      have G := Gx.trans Go G
      have E : Gx No C.s0 s64 := Gx.of_gr G1
      have f_group := Rep.u G1 f_group
      exact ⟨(), _, rfl, hm, ⟨G, E, rfl⟩⟩
    obtain ⟨G, E, rfl⟩ := hI
    exact s_ret (σ := [some v_group, some (.int which), some (.int bad), none]) (s := s65) ev_bl hm G fun d v u qd g hv => hQ d v u ((fun _ q => q) d qd) g hv

abbrev st__law_plain : Stmt := topS 27
abbrev N__law_plain : List Str := ["group", "table", "size", "row"]
theorem sc__law_plain : FnScope N__law_plain ["group", "table"] (defScope st__law_plain) := ⟨rfl, rfl, rfl, by decide +kernel, rfl, by decide +kernel, by decide +kernel⟩
abbrev sp__law_plain (K : PySem.W.Frag) (A : Ad) : Sp := sp0 (aC (r_Group K A).r (aC (bP (sL (sL sI))) aN)) (fun a => Mi._law_plain a.1 a.2.1) (fun _ => sB.r)
theorem ok__law_plain {P : Program} {w : World} {K : PySem.W.Frag} {mg : Str → Option Value} {base : Heap} {A : Ad} (T : Mo K mg A) {f : Addr} {fd : FuncData} (F : Fun K "_law_plain" "_law_plain" st__law_plain f fd)
    {f__law_is_integer : Addr} {fd__law_is_integer : FuncData} (c__law_is_integer : Cal P w K mg base CX0 1 "_law_is_integer" ["told"] (sp__law_is_integer K A) f__law_is_integer fd__law_is_integer) (m_all : mg "all" = none) (m_isinstance : mg "isinstance" = none) (m_len : mg "len" = none) (m_list : mg "list" = none) (m_tuple : mg "tuple" = none) :
    FnOk P w K mg base CX0 2 f fd ["group", "table"] (sp__law_plain K A) := by
  refine fn0 F sc__law_plain (fun s vs a h => ?_) (fun cdv A9 outer sh EX hr C a vs Qm ok ha hm => ?_)
  · obtain ⟨v0, w0, rfl, _, h⟩ := h; obtain ⟨v1, w1, rfl, _, h⟩ := h; cases h; rfl
  · obtain ⟨group, table, _⟩ := a
    obtain ⟨v_group, w_group, rfl, f_group, ha⟩ := ha
    obtain ⟨v_table, w_table, rfl, f_table, ha⟩ := ha
    cases ha
    have f_table : (bR C.s0 (sL (sL sI))).is C.s0 v_table table := f_table
    have G : Gr C.s0 C.s0 := Gx.refl ok
    unfold Mi._law_plain at hm
    try dsimp only at hm
    refine ⟨_, (pss_cons (ps_set (i := 2) sc__law_plain.nd rfl (.inl rfl) (pe_callB (k_len K rfl) (by rfl) m_len PySem.boot_len (pa_cons (pv 1) pa_nil))) (pss_cons (ps_if (PW.pt (pw_or (pt_not (pt_val (pe_callS (E := fun _ => E0) c__law_is_integer.ok hr (by rfl) c__law_is_integer.gm c__law_is_integer.kp c__law_is_integer.bn pat0 (pa_cons (k_fld K rfl (pv 0) rfl) pa_nil)))) (pw_or1 (pt_cmpR op_ne (k_fld K rfl (pv 0) rfl) (pv 2) (nomark _))))) (pss_cons (ps_ret pe_bl) pss_nil) pss_nil) (pss_cons (ps_if (PW.pt (pw_or (pt_not (pt_val (pe_callB (k_isi K rfl) (by rfl) m_isinstance (by decide +kernel) (pa_cons (k_fld K rfl (pv 0) rfl) (pa_cons (pe_bltn (v := .ty "tuple") (by rfl) m_tuple (by decide +kernel) rfl) pa_nil))))) (pw_or1 (pt_not (pt_val (pe_callB (k_isi K rfl) (by rfl) m_isinstance (by decide +kernel) (pa_cons (k_fld K rfl (pv 0) rfl) (pa_cons (pe_bltn (v := .ty "tuple") (by rfl) m_tuple (by decide +kernel) rfl) pa_nil)))))))) (pss_cons (ps_ret pe_bl) pss_nil) pss_nil) (pss_cons (ps_if (pt_not (pt_val (pe_callB (k_all K rfl rfl) (by rfl) m_all (by decide +kernel) (pa_cons (pe_lc (own := [("row", 3)]) (g := gName 3) (tt := tYes) rfl sc__law_plain.nd (k_piT K rfl (k_fld K rfl (pv 0) rfl)) (blkOk_by (own := [("row", 3)]) (N := N__law_plain) (sc := defScope st__law_plain) (by decide +kernel)) (fun _ _ _ _ _ => pg_name (i := 3) sc__law_plain.nd rfl (Or.inl rfl))  (fun _ _ _ _ _ => pts_nil) (fun _ _ _ _ _ => (pe_callB (k_isi K rfl) (by rfl) m_isinstance (by decide +kernel) (pa_cons (pv 3) (pa_cons (pe_bltn (v := .ty "tuple") (by rfl) m_tuple (by decide +kernel) rfl) pa_nil))))) pa_nil)))) (pss_cons (ps_ret pe_bl) pss_nil) pss_nil) (pss_cons (ps_if (pt_cmpR (k_neD K rfl hr.units) (pe_lc (own := [("row", 3)]) (g := gName 3) (tt := tYes) rfl sc__law_plain.nd (k_piT K rfl (k_fld K rfl (pv 0) rfl)) (blkOk_by (own := [("row", 3)]) (N := N__law_plain) (sc := defScope st__law_plain) (by decide +kernel)) (fun _ _ _ _ _ => pg_name (i := 3) sc__law_plain.nd rfl (Or.inl rfl))  (fun _ _ _ _ _ => pts_nil) (fun _ _ _ _ _ => (pe_callTy (k_list K rfl) (by rfl) m_list (by decide +kernel) (pa_cons (pv 3) pa_nil)))) (pv 1) (nomark _)) (pss_cons (ps_ret pe_bl) pss_nil) pss_nil) (pss_cons (ps_ret (pe_cmpR (k_eqD K rfl hr.units) (pe_callTy (k_list K rfl) (by rfl) m_list (by decide +kernel) (pa_cons (k_fld K rfl (pv 0) rfl) pa_nil)) (pe_lc (own := [("row", 3)]) (g := gName 3) (tt := tYes) rfl sc__law_plain.nd (k_piL K rfl (pv 1)) (blkOk_by (own := [("row", 3)]) (N := N__law_plain) (sc := defScope st__law_plain) (by decide +kernel)) (fun _ _ _ _ _ => pg_name (i := 3) sc__law_plain.nd rfl (Or.inl rfl))  (fun _ _ _ _ _ => pts_nil) (fun _ _ _ _ _ => (k_bm K rfl PySem.F.plainAttrs_list PySem.F.slot_list_index PySem.F.type_list_index (k_idx K rfl (hu65 hr)) (pv 3) (pa_cons pe_int pa_nil)))) (nomark _))) pss_nil)))))), fun Q hQ => ?_⟩
    refine s_set (σ := [some v_group, some v_table, none, none]) (s := C.s0) (σf := fun v => [some v_group, some v_table, some v, none]) (ev_lenL rd_bor (ev_var (r := (bR C.s0 (sL (sL sI)))) (d := table) f_table)) hm G (fun _ => rfl) fun size v_size s2 g1 f_size hm => ?_
    have G := Gx.trans G g1
    have f_group := Rep.u g1 f_group
    obtain rfl : v_size = V.int size := f_size
    refine s_if1 (σ := [some v_group, some v_table, some (.int size), none]) (s := s2) (et_or (et_not (et_B (ev_call0 (E := fun _ => E0) (ea_cons (ev_fld if_Group_order T.cl_Group T.na_Group_order (ev_var f_group)) ea_nil)))) (et_test (ev_neI (ev_fld if_Group_order T.cl_Group T.na_Group_order (ev_var f_group)) (ev_var (r := sI.r) (d := size) rfl)))) hm G (fun s6 g5 hm => ?_) (fun s7 g5 hm => ?_)
    · have G := Gx.trans G g5
      exact s_ret (σ := [some v_group, some v_table, some (.int size), none]) (s := s6) ev_bl hm G fun d v u qd g hv => hQ d v u ((fun _ q => q) d qd) g hv
    have G := Gx.trans G g5
    have f_group := Rep.u g5 f_group
    refine s_if1 (σ := [some v_group, some v_table, some (.int size), none]) (s := s7) (et_or (et_not (et_B (ev_isi (T := "tuple") (U := "tuple") (b := true) (oty_st tys_T) (by decide +kernel) (ev_fld if_Group_rows T.cl_Group T.na_Group_rows (ev_var f_group))))) (et_not (et_B (ev_isi (T := "tuple") (U := "tuple") (b := true) (oty_st tys_T) (by decide +kernel) (ev_fld if_Group_inverses T.cl_Group T.na_Group_inverses (ev_var f_group)))))) hm G (fun s11 g10 hm => ?_) (fun s12 g10 hm => ?_)
    · have G := Gx.trans G g10
      exact s_ret (σ := [some v_group, some v_table, some (.int size), none]) (s := s11) ev_bl hm G fun d v u qd g hv => hQ d v u ((fun _ q => q) d qd) g hv
    have G := Gx.trans G g10
    have f_group := Rep.u g10 f_group
    refine s_if1 (σ := [some v_group, some v_table, some (.int size), none]) (s := s12) (et_not (et_B (ev_all rd_st sta_st (evn_ev (evn_lc (σf := fun v => [some v_group, some v_table, some (.int size), some v]) (ei_tup rd_tup newx_no (fun _ z _ => z.elim) (ev_fld if_Group_rows T.cl_Group T.na_Group_rows (ev_var f_group))) (fun _ => rfl) (fun _ => rfl) (fun row_14 v_row_14 t gc15 g016 f_row_14 => (ev_isi (T := "tuple") (U := "tuple") (b := true) (oty_st tys_T) (by decide +kernel) (ev_var f_row_14)))))))) hm G (fun s21 g20 hm => ?_) (fun s22 g20 hm => ?_)
    · have G := Gx.trans G g20
      exact s_ret (σ := [some v_group, some v_table, some (.int size), none]) (s := s21) ev_bl hm G fun d v u qd g hv => hQ d v u ((fun _ q => q) d qd) g hv
    have G := Gx.trans G g20
    have f_group := Rep.u g20 f_group
    refine s_if1 (σ := [some v_group, some v_table, some (.int size), none]) (s := s22) (et_test (ev_neD (enc_L (enc_L enc_I)) (dpr_st (enc_L (enc_L enc_I))) (dpr_bor (enc_L (enc_L enc_I))) (Nat.le_of_ble_eq_true rfl) (evn_ev (evn_lc (σf := fun v => [some v_group, some v_table, some (.int size), some v]) (ei_tup rd_tup newx_no (fun _ z _ => z.elim) (ev_fld if_Group_rows T.cl_Group T.na_Group_rows (ev_var f_group))) (fun _ => rfl) (fun _ => rfl) (fun row_24 v_row_24 t gc25 g026 f_row_24 => (evn_ev (evn_listT rd_tup sta_st (ev_var f_row_24)))))) (ev_var (r := (bR C.s0 (sL (sL sI)))) (d := table) f_table))) hm G (fun s30 g29 hm => ?_) (fun s31 g29 hm => ?_)
    · have G := Gx.trans G g29
      exact s_ret (σ := [some v_group, some v_table, some (.int size), none]) (s := s30) ev_bl hm G fun d v u qd g hv => hQ d v u ((fun _ q => q) d qd) g hv
    have G := Gx.trans G g29
    have f_group := Rep.u g29 f_group
    exact s_ret (σ := [some v_group, some v_table, some (.int size), none]) (s := s31) (ev_eqD (enc_L enc_I) (dpr_st (enc_L enc_I)) (dpr_st (enc_L enc_I)) (Nat.le_of_ble_eq_true rfl) (evn_ev (evn_listT rd_tup sta_st (ev_fld if_Group_inverses T.cl_Group T.na_Group_inverses (ev_var f_group)))) (evn_ev (evn_lc (σf := fun v => [some v_group, some v_table, some (.int size), some v]) (ei_list rd_bor newx_no (fun _ z _ => z.elim) (ev_var (r := (bR C.s0 (sL (sL sI)))) (d := table) f_table)) (fun _ => rfl) (fun _ => rfl) (fun row_33 v_row_33 t gc34 g035 f_row_33 => (ev_idx enc_I rd_bor (dpr_st enc_I) (dpr_bor (enc_L enc_I)) (Nat.le_of_ble_eq_true rfl) (ev_var (r := (bR C.s0 (sL sI))) (d := row_33) f_row_33) ev_int))))) hm G fun d v u qd g hv => hQ d v u ((fun _ q => q) d qd) g hv

abbrev st__law_methods : Stmt := topS 28
abbrev N__law_methods : List Str := ["group", "table", "bag", "size", "x", "y", "order", "inverse", "exponent", "members", "k", "handed", "told"]
theorem sc__law_methods : FnScope N__law_methods ["group", "table", "bag"] (defScope st__law_methods) := ⟨rfl, rfl, rfl, by decide +kernel, rfl, by decide +kernel, by decide +kernel⟩
abbrev sp__law_methods (K : PySem.W.Frag) (A : Ad) : Sp := sp0 (aC (r_Group K A).r (aC (bP (sL (sL sI))) (aC rG aN))) (fun a => Mi._law_methods a.1 a.2.1 a.2.2.1) (fun _ => sB.r)
theorem ok__law_methods {P : Program} {w : World} {K : PySem.W.Frag} {mg : Str → Option Value} {base : Heap} {A : Ad} (T : Mo K mg A) {f : Addr} {fd : FuncData} (F : Fun K "_law_methods" "_law_methods" st__law_methods f fd)
    {f__law_take : Addr} {fd__law_take : FuncData} (c__law_take : Cal P w K mg base CX0 1 "_law_take" ["bag", "size"] (sp__law_take K A) f__law_take fd__law_take)
    {f__law_order : Addr} {fd__law_order : FuncData} (c__law_order : Cal P w K mg base CX0 2 "_law_order" ["table", "x"] (sp__law_order K A) f__law_order fd__law_order)
    {f_Group_multiply : Addr} {fd_Group_multiply : FuncData} (c_Group_multiply : CalM P w K mg base (L2.CX P w) 2 A.a_Group "multiply" ["self", "left", "right"] (sp_Group_multiply K A) f_Group_multiply fd_Group_multiply)
    {f_Group_inverse : Addr} {fd_Group_inverse : FuncData} (c_Group_inverse : CalM P w K mg base (L2.CX P w) 2 A.a_Group "inverse" ["self", "element"] (sp_Group_inverse K A) f_Group_inverse fd_Group_inverse)
    {f_Group_order_of : Addr} {fd_Group_order_of : FuncData} (c_Group_order_of : CalM P w K mg base (L2.CX P w) 2 A.a_Group "order_of" ["self", "element"] (sp_Group_order_of K A) f_Group_order_of fd_Group_order_of)
    {f__law_is_integer : Addr} {fd__law_is_integer : FuncData} (c__law_is_integer : Cal P w K mg base CX0 1 "_law_is_integer" ["told"] (sp__law_is_integer K A) f__law_is_integer fd__law_is_integer)
    {f_Group_power : Addr} {fd_Group_power : FuncData} (c_Group_power : CalM P w K mg base (L2.CX P w) 3 A.a_Group "power" ["self", "element", "exponent"] (sp_Group_power K A) f_Group_power fd_Group_power)
    {f__law_many : Addr} {fd__law_many : FuncData} (c__law_many : Cal P w K mg base CX0 1 "_law_many" ["table", "x", "times"] (sp__law_many K A) f__law_many fd__law_many)
    {f_Group_generated : Addr} {fd_Group_generated : FuncData} (c_Group_generated : CalM P w K mg base (L2.CX P w) 2 A.a_Group "generated" ["self", "members"] (sp_Group_generated K A) f_Group_generated fd_Group_generated)
    {f__law_closed : Addr} {fd__law_closed : FuncData} (c__law_closed : Cal P w K mg base CX0 1 "_law_closed" ["table", "members"] (sp__law_closed K A) f__law_closed fd__law_closed)
    {f_Group_generators : Addr} {fd_Group_generators : FuncData} (c_Group_generators : CalM P w K mg base (L2.CX P w) 3 A.a_Group "generators" ["self"] (sp_Group_generators K A) f_Group_generators fd_Group_generators)
    {f__law_generators : Addr} {fd__law_generators : FuncData} (c__law_generators : Cal P w K mg base CX0 2 "_law_generators" ["table"] (sp__law_generators K A) f__law_generators fd__law_generators) (m_isinstance : mg "isinstance" = none) (m_len : mg "len" = none) (m_list : mg "list" = none) (m_range : mg "range" = none) :
    FnOk P w K mg base CX0 4 f fd ["group", "table", "bag"] (sp__law_methods K A) := by
  refine fn0 F sc__law_methods (fun s vs a h => ?_) (fun cdv A9 outer sh EX hr C a vs Qm ok ha hm => ?_)
  · obtain ⟨v0, w0, rfl, _, h⟩ := h; obtain ⟨v1, w1, rfl, _, h⟩ := h; obtain ⟨v2, w2, rfl, _, h⟩ := h; cases h; rfl
  · obtain ⟨group, table, bag, _⟩ := a
    obtain ⟨v_group, w_group, rfl, f_group, ha⟩ := ha
    obtain ⟨v_table, w_table, rfl, f_table, ha⟩ := ha
    obtain ⟨v_bag, w_bag, rfl, f_bag, ha⟩ := ha
    cases ha
    have f_table : (bR C.s0 (sL (sL sI))).is C.s0 v_table table := f_table
    have G : Gr C.s0 C.s0 := Gx.refl ok
    unfold Mi._law_methods at hm
    try dsimp only at hm
    refine ⟨_, (pss_cons (ps_set (i := 3) sc__law_methods.nd rfl (.inr rfl) (pe_callB (k_len K rfl) (by rfl) m_len PySem.boot_len (pa_cons (pv 1) pa_nil))) (pss_cons (ps_set (i := 4) sc__law_methods.nd rfl (.inl rfl) (pe_callS (E := fun _ => E0) c__law_take.ok (hr.mono (by decide)) (by rfl) c__law_take.gm c__law_take.kp c__law_take.bn pat0 (pa_cons (pv 2) (pa_cons (pv 3) pa_nil)))) (pss_cons (ps_set (i := 5) sc__law_methods.nd rfl (.inl rfl) (pe_callS (E := fun _ => E0) c__law_take.ok (hr.mono (by decide)) (by rfl) c__law_take.gm c__law_take.kp c__law_take.bn pat0 (pa_cons (pv 2) (pa_cons (pv 3) pa_nil)))) (pss_cons (ps_set (i := 6) sc__law_methods.nd rfl (.inl rfl) (pe_callS (E := fun _ => E0) c__law_order.ok (hr.mono (by decide)) (by rfl) c__law_order.gm c__law_order.kp c__law_order.bn pat0 (pa_cons (pv 1) (pa_cons (pv 4) pa_nil)))) (pss_cons (ps_set (i := 7) sc__law_methods.nd rfl (.inl rfl) (k_bm K rfl PySem.F.plainAttrs_list PySem.F.slot_list_index PySem.F.type_list_index (k_idx K rfl (hu65 hr)) (pe_ix (k_ixL K rfl) (pv 1) (pv 4) (fun _ _ => rfl)) (pa_cons pe_int pa_nil))) (pss_cons (ps_set (i := 8) sc__law_methods.nd rfl (.inl rfl) (pe_callS (E := fun _ => E0) c__law_take.ok (hr.mono (by decide)) (by rfl) c__law_take.gm c__law_take.kp c__law_take.bn pat0 (pa_cons (pv 2) (pa_cons pe_int pa_nil)))) (pss_cons (ps_if (PW.pt (pw_or (pt_cmpR op_ne (pe_mtS (E := fun _ => E0) (pv 0) T.cl_Group c_Group_multiply.mt c_Group_multiply.ok (hr.mono (by decide)) c_Group_multiply.bn (by exact patLP rfl rfl) (pa_cons (pv 4) (pa_cons (pv 5) pa_nil))) (pe_ix (k_ixL K rfl) (pe_ix (k_ixL K rfl) (pv 1) (pv 4) (fun _ _ => rfl)) (pv 5) (fun _ _ => rfl)) (nomark _)) (pw_or1 (pt_cmpR op_ne (pe_mtS (E := fun _ => E0) (pv 0) T.cl_Group c_Group_multiply.mt c_Group_multiply.ok (hr.mono (by decide)) c_Group_multiply.bn (by exact patLP rfl rfl) (pa_cons (pv 5) (pa_cons (pv 4) pa_nil))) (pe_ix (k_ixL K rfl) (pe_ix (k_ixL K rfl) (pv 1) (pv 5) (fun _ _ => rfl)) (pv 4) (fun _ _ => rfl)) (nomark _))))) (pss_cons (ps_ret pe_bl) pss_nil) pss_nil) (pss_cons (ps_if (PW.pt (pw_or (pt_cmpR op_ne (pe_mtS (E := fun _ => E0) (pv 0) T.cl_Group c_Group_inverse.mt c_Group_inverse.ok (hr.mono (by decide)) c_Group_inverse.bn (by exact patLP rfl rfl) (pa_cons (pv 4) pa_nil)) (pv 7) (nomark _)) (pw_or (pt_cmpR op_ne (pe_mtS (E := fun _ => E0) (pv 0) T.cl_Group c_Group_order_of.mt c_Group_order_of.ok (hr.mono (by decide)) c_Group_order_of.bn (by exact patLP rfl rfl) (pa_cons (pv 4) pa_nil)) (pv 6) (nomark _)) (pw_or1 (pt_not (pt_val (pe_callS (E := fun _ => E0) c__law_is_integer.ok (hr.mono (by decide)) (by rfl) c__law_is_integer.gm c__law_is_integer.kp c__law_is_integer.bn pat0 (pa_cons (pe_mtS (E := fun _ => E0) (pv 0) T.cl_Group c_Group_order_of.mt c_Group_order_of.ok (hr.mono (by decide)) c_Group_order_of.bn (by exact patLP rfl rfl) (pa_cons (pv 4) pa_nil)) pa_nil)))))))) (pss_cons (ps_ret pe_bl) pss_nil) pss_nil) (pss_cons (ps_if (pt_cmpR op_ne (pe_mtS (E := fun _ => E0) (pv 0) T.cl_Group c_Group_power.mt c_Group_power.ok hr c_Group_power.bn (by exact patLP rfl rfl) (pa_cons (pv 4) (pa_cons (pv 8) pa_nil))) (pe_callS (E := fun _ => E0) c__law_many.ok (hr.mono (by decide)) (by rfl) c__law_many.gm c__law_many.kp c__law_many.bn pat0 (pa_cons (pv 1) (pa_cons (pv 4) (pa_cons (pv 8) pa_nil)))) (nomark _)) (pss_cons (ps_ret pe_bl) pss_nil) pss_nil) (pss_cons (ps_if (pt_cmpR op_ne (pe_mtS (E := fun _ => E0) (pv 0) T.cl_Group c_Group_power.mt c_Group_power.ok hr c_Group_power.bn (by exact patLP rfl rfl) (pa_cons (pv 4) (pa_cons (pe_un un_neg (pv 8)) pa_nil))) (pe_callS (E := fun _ => E0) c__law_many.ok (hr.mono (by decide)) (by rfl) c__law_many.gm c__law_many.kp c__law_many.bn pat0 (pa_cons (pv 1) (pa_cons (pv 7) (pa_cons (pv 8) pa_nil)))) (nomark _)) (pss_cons (ps_ret pe_bl) pss_nil) pss_nil) (pss_cons (ps_if (pt_cmpR op_ne (pe_mtS (E := fun _ => E0) (pv 0) T.cl_Group c_Group_power.mt c_Group_power.ok hr c_Group_power.bn (by exact patLP rfl rfl) (pa_cons (pv 4) (pa_cons (pe_op op_add (pe_op op_mulW (pe_op op_pow pe_int pe_int) (pv 6)) (pv 8)) pa_nil))) (pe_callS (E := fun _ => E0) c__law_many.ok (hr.mono (by decide)) (by rfl) c__law_many.gm c__law_many.kp c__law_many.bn pat0 (pa_cons (pv 1) (pa_cons (pv 4) (pa_cons (pv 8) pa_nil)))) (nomark _)) (pss_cons (ps_ret pe_bl) pss_nil) pss_nil) (pss_cons (ps_setLc (i := 9) (own := [("k", 10)]) (g := gName 10) (tt := tYes) rfl sc__law_methods.nd rfl rfl (sw_true rfl rfl rfl (by decide +kernel)) (pi_range1 (by rfl) m_range (pa_cons (pe_callS (E := fun _ => E0) c__law_take.ok (hr.mono (by decide)) (by rfl) c__law_take.gm c__law_take.kp c__law_take.bn pat0 (pa_cons (pv 2) (pa_cons pe_int pa_nil))) pa_nil)) (blkOk_by (own := [("k", 10)]) (N := N__law_methods) (sc := defScope st__law_methods) (by decide +kernel)) (fun _ _ _ _ _ => pg_name (i := 10) sc__law_methods.nd rfl (Or.inl rfl))  (fun _ _ _ _ _ => pts_nil) (fun _ _ _ _ _ => (pe_callS (E := fun _ => E0) c__law_take.ok (hr.mono (by decide)) (by rfl) c__law_take.gm c__law_take.kp c__law_take.bn pat0 (pa_cons (pv 2) (pa_cons (pv 3) pa_nil))))) (pss_cons (ps_set (i := 11) sc__law_methods.nd rfl (.inl rfl) (pe_callTy (k_list K rfl) (by rfl) m_list (by decide +kernel) (pa_cons (pv 9) pa_nil))) (pss_cons (ps_set (i := 12) sc__law_methods.nd rfl (.inl rfl) (pe_mtS (E := fun _ => E0) (pv 0) T.cl_Group c_Group_generated.mt c_Group_generated.ok (hr.mono (by decide)) c_Group_generated.bn (by exact patLP rfl rfl) (pa_cons (pv 11) pa_nil))) (pss_cons (ps_if (PW.pt (pw_or (pt_cmpR (k_neD K rfl hr.units) (pv 11) (pv 9) (nomark _)) (pw_or (pt_not (pt_val (pe_callB (k_isi K rfl) (by rfl) m_isinstance (by decide +kernel) (pa_cons (pv 12) (pa_cons (pe_bltn (v := .ty "list") (by rfl) m_list (by decide +kernel) rfl) pa_nil))))) (pw_or1 (pt_cmpR (k_neD K rfl hr.units) (pv 12) (pe_callS (E := fun _ => E0) c__law_closed.ok (hr.mono (by decide)) (by rfl) c__law_closed.gm c__law_closed.kp c__law_closed.bn pat0 (pa_cons (pv 1) (pa_cons (pv 9) pa_nil))) (nomark _)))))) (pss_cons (ps_ret pe_bl) pss_nil) pss_nil) (pss_cons (ps_expr (k_bm K rfl PySem.F.plainAttrs_list PySem.F.slot_list_append PySem.F.type_list_append mt_append (pv 12) (pa_cons pe_int pa_nil))) (pss_cons (ps_if (pt_cmpR (k_neD K rfl hr.units) (pe_mtS (E := fun _ => E0) (pv 0) T.cl_Group c_Group_generated.mt c_Group_generated.ok (hr.mono (by decide)) c_Group_generated.bn (by exact patLP rfl rfl) (pa_cons (pv 11) pa_nil)) (pe_callS (E := fun _ => E0) c__law_closed.ok (hr.mono (by decide)) (by rfl) c__law_closed.gm c__law_closed.kp c__law_closed.bn pat0 (pa_cons (pv 1) (pa_cons (pv 9) pa_nil))) (nomark _)) (pss_cons (ps_ret pe_bl) pss_nil) pss_nil) (pss_cons (ps_set (i := 12) sc__law_methods.nd rfl (.inl rfl) (pe_mt0S (E := fun _ => E0) (pv 0) T.cl_Group c_Group_generators.mt c_Group_generators.ok hr c_Group_generators.bn (by exact patLP rfl rfl))) (pss_cons (ps_if (PW.pt (pw_or (pt_not (pt_val (pe_callB (k_isi K rfl) (by rfl) m_isinstance (by decide +kernel) (pa_cons (pv 12) (pa_cons (pe_bltn (v := .ty "list") (by rfl) m_list (by decide +kernel) rfl) pa_nil))))) (pw_or1 (pt_cmpR (k_neD K rfl hr.units) (pv 12) (pe_callS (E := fun _ => E0) c__law_generators.ok (hr.mono (by decide)) (by rfl) c__law_generators.gm c__law_generators.kp c__law_generators.bn pat0 (pa_cons (pv 1) pa_nil)) (nomark _))))) (pss_cons (ps_ret pe_bl) pss_nil) pss_nil) (pss_cons (ps_expr (k_bm K rfl PySem.F.plainAttrs_list PySem.F.slot_list_append PySem.F.type_list_append mt_append (pv 12) (pa_cons pe_int pa_nil))) (pss_cons (ps_if (pt_cmpR (k_neD K rfl hr.units) (pe_mt0S (E := fun _ => E0) (pv 0) T.cl_Group c_Group_generators.mt c_Group_generators.ok hr c_Group_generators.bn (by exact patLP rfl rfl)) (pe_callS (E := fun _ => E0) c__law_generators.ok (hr.mono (by decide)) (by rfl) c__law_generators.gm c__law_generators.kp c__law_generators.bn pat0 (pa_cons (pv 1) pa_nil)) (nomark _)) (pss_cons (ps_ret pe_bl) pss_nil) pss_nil) (pss_cons (ps_ret pe_bl) pss_nil)))))))))))))))))))))), fun Q hQ => ?_⟩
    refine s_set (σ := [some v_group, some v_table, some v_bag, none, none, none, none, none, none, none, none, none, none]) (s := C.s0) (σf := fun v => [some v_group, some v_table, some v_bag, some v, none, none, none, none, none, none, none, none, none]) (ev_lenL rd_bor (ev_var (r := (bR C.s0 (sL (sL sI)))) (d := table) f_table)) hm G (fun _ => rfl) fun size v_size s2 g1 f_size hm => ?_
    have G := Gx.trans G g1
    have f_group := Rep.u g1 f_group
    have f_bag := Rep.u g1 f_bag
    obtain rfl : v_size = V.int size := f_size
    refine s_set (σ := [some v_group, some v_table, some v_bag, some (.int size), none, none, none, none, none, none, none, none, none]) (s := s2) (σf := fun v => [some v_group, some v_table, some v_bag, some (.int size), some v, none, none, none, none, none, none, none, none]) (ev_call0 (E := fun _ => E0) (ea_cons (ev_var (d := ()) f_bag) (ea_cons (ev_var (r := sI.r) (d := size) rfl) ea_nil))) hm G (fun _ => rfl) fun x v_x s4 g3 f_x hm => ?_
    have G := Gx.trans G g3
    have f_group := Rep.u g3 f_group
    have f_bag := Rep.u g3 f_bag
    obtain rfl : v_x = V.int x := f_x
    refine s_set (σ := [some v_group, some v_table, some v_bag, some (.int size), some (.int x), none, none, none, none, none, none, none, none]) (s := s4) (σf := fun v => [some v_group, some v_table, some v_bag, some (.int size), some (.int x), some v, none, none, none, none, none, none, none]) (ev_call0 (E := fun _ => E0) (ea_cons (ev_var (d := ()) f_bag) (ea_cons (ev_var (r := sI.r) (d := size) rfl) ea_nil))) hm G (fun _ => rfl) fun y v_y s6 g5 f_y hm => ?_
    have G := Gx.trans G g5
    have f_group := Rep.u g5 f_group
    have f_bag := Rep.u g5 f_bag
    obtain rfl : v_y = V.int y := f_y
    refine s_set (σ := [some v_group, some v_table, some v_bag, some (.int size), some (.int x), some (.int y), none, none, none, none, none, none, none]) (s := s6) (σf := fun v => [some v_group, some v_table, some v_bag, some (.int size), some (.int x), some (.int y), some v, none, none, none, none, none, none]) (ev_call0 (E := fun _ => E0) (ea_cons (ev_as see_borB (ev_var (r := (bR C.s0 (sL (sL sI)))) (d := table) f_table)) (ea_cons (ev_var (r := sI.r) (d := x) rfl) ea_nil))) hm G (fun _ => rfl) fun order v_order s8 g7 f_order hm => ?_
    have G := Gx.trans G g7
    have f_group := Rep.u g7 f_group
    have f_bag := Rep.u g7 f_bag
    obtain rfl : v_order = V.int order := f_order
    refine s_set (σ := [some v_group, some v_table, some v_bag, some (.int size), some (.int x), some (.int y), some (.int order), none, none, none, none, none, none]) (s := s8) (σf := fun v => [some v_group, some v_table, some v_bag, some (.int size), some (.int x), some (.int y), some (.int order), some v, none, none, none, none, none]) (ev_idx enc_I rd_bor (dpr_st enc_I) (dpr_bor (enc_L enc_I)) (Nat.le_of_ble_eq_true rfl) (ev_ixL rd_bor (ev_var (r := (bR C.s0 (sL (sL sI)))) (d := table) f_table) (ev_var (r := sI.r) (d := x) rfl)) ev_int) hm G (fun _ => rfl) fun inverse v_inverse s11 g10 f_inverse hm => ?_
    have G := Gx.trans G g10
    have f_group := Rep.u g10 f_group
    have f_bag := Rep.u g10 f_bag
    obtain rfl : v_inverse = V.int inverse := f_inverse
    refine s_set (σ := [some v_group, some v_table, some v_bag, some (.int size), some (.int x), some (.int y), some (.int order), some (.int inverse), none, none, none, none, none]) (s := s11) (σf := fun v => [some v_group, some v_table, some v_bag, some (.int size), some (.int x), some (.int y), some (.int order), some (.int inverse), some v, none, none, none, none]) (ev_call0 (E := fun _ => E0) (ea_cons (ev_var (d := ()) f_bag) (ea_cons ev_int ea_nil))) hm G (fun _ => rfl) fun exponent v_exponent s13 g12 f_exponent hm => ?_
    have G := Gx.trans G g12
    have f_group := Rep.u g12 f_group
    have f_bag := Rep.u g12 f_bag
    obtain rfl : v_exponent = V.int exponent := f_exponent
    refine s_if1 (σ := [some v_group, some v_table, some v_bag, some (.int size), some (.int x), some (.int y), some (.int order), some (.int inverse), some (.int exponent), none, none, none, none]) (s := s13) (et_or (et_test (ev_neI (ev_mtN io_Group (by decide) (ev_var f_group) (ea_cons (ev_var (r := sI.r) (d := x) rfl) (ea_cons (ev_var (r := sI.r) (d := y) rfl) ea_nil))) (ev_as (see_dry dry_I) (ev_ixL rd_bor (ev_ixL rd_bor (ev_var (r := (bR C.s0 (sL (sL sI)))) (d := table) f_table) (ev_var (r := sI.r) (d := x) rfl)) (ev_var (r := sI.r) (d := y) rfl))))) (et_test (ev_neI (ev_mtN io_Group (by decide) (ev_var f_group) (ea_cons (ev_var (r := sI.r) (d := y) rfl) (ea_cons (ev_var (r := sI.r) (d := x) rfl) ea_nil))) (ev_as (see_dry dry_I) (ev_ixL rd_bor (ev_ixL rd_bor (ev_var (r := (bR C.s0 (sL (sL sI)))) (d := table) f_table) (ev_var (r := sI.r) (d := y) rfl)) (ev_var (r := sI.r) (d := x) rfl)))))) hm G (fun s22 g21 hm => ?_) (fun s23 g21 hm => ?_)
    · have G := Gx.trans G g21
      exact s_ret (σ := [some v_group, some v_table, some v_bag, some (.int size), some (.int x), some (.int y), some (.int order), some (.int inverse), some (.int exponent), none, none, none, none]) (s := s22) ev_bl hm G fun d v u qd g hv => hQ d v u ((fun _ q => q) d qd) g hv
    have G := Gx.trans G g21
    have f_group := Rep.u g21 f_group
    have f_bag := Rep.u g21 f_bag
    refine s_if1 (σ := [some v_group, some v_table, some v_bag, some (.int size), some (.int x), some (.int y), some (.int order), some (.int inverse), some (.int exponent), none, none, none, none]) (s := s23) (et_or (et_test (ev_neI (ev_mtN io_Group (by decide) (ev_var f_group) (ea_cons (ev_var (r := sI.r) (d := x) rfl) ea_nil)) (ev_var (r := sI.r) (d := inverse) rfl))) (et_or (et_test (ev_neI (ev_mtN io_Group (by decide) (ev_var f_group) (ea_cons (ev_var (r := sI.r) (d := x) rfl) ea_nil)) (ev_var (r := sI.r) (d := order) rfl))) (et_not (et_B (ev_call0 (E := fun _ => E0) (ea_cons (ev_mtN io_Group (by decide) (ev_var f_group) (ea_cons (ev_var (r := sI.r) (d := x) rfl) ea_nil)) ea_nil)))))) hm G (fun s32 g31 hm => ?_) (fun s33 g31 hm => ?_)
    · have G := Gx.trans G g31
      exact s_ret (σ := [some v_group, some v_table, some v_bag, some (.int size), some (.int x), some (.int y), some (.int order), some (.int inverse), some (.int exponent), none, none, none, none]) (s := s32) ev_bl hm G fun d v u qd g hv => hQ d v u ((fun _ q => q) d qd) g hv
    have G := Gx.trans G g31
    have f_group := Rep.u g31 f_group
    have f_bag := Rep.u g31 f_bag
    refine s_if1 (σ := [some v_group, some v_table, some v_bag, some (.int size), some (.int x), some (.int y), some (.int order), some (.int inverse), some (.int exponent), none, none, none, none]) (s := s33) (et_test (ev_neI (ev_mtN io_Group (by decide) (ev_var f_group) (ea_cons (ev_var (r := sI.r) (d := x) rfl) (ea_cons (ev_var (r := sI.r) (d := exponent) rfl) ea_nil))) (ev_call0 (E := fun _ => E0) (ea_cons (ev_as see_borB (ev_var (r := (bR C.s0 (sL (sL sI)))) (d := table) f_table)) (ea_cons (ev_var (r := sI.r) (d := x) rfl) (ea_cons (ev_var (r := sI.r) (d := exponent) rfl) ea_nil)))))) hm G (fun s38 g37 hm => ?_) (fun s39 g37 hm => ?_)
    · have G := Gx.trans G g37
      exact s_ret (σ := [some v_group, some v_table, some v_bag, some (.int size), some (.int x), some (.int y), some (.int order), some (.int inverse), some (.int exponent), none, none, none, none]) (s := s38) ev_bl hm G fun d v u qd g hv => hQ d v u ((fun _ q => q) d qd) g hv
    have G := Gx.trans G g37
    have f_group := Rep.u g37 f_group
    have f_bag := Rep.u g37 f_bag
    refine s_if1 (σ := [some v_group, some v_table, some v_bag, some (.int size), some (.int x), some (.int y), some (.int order), some (.int inverse), some (.int exponent), none, none, none, none]) (s := s39) (et_test (ev_neI (ev_mtN io_Group (by decide) (ev_var f_group) (ea_cons (ev_var (r := sI.r) (d := x) rfl) (ea_cons (ev_neg (ev_var (r := sI.r) (d := exponent) rfl)) ea_nil))) (ev_call0 (E := fun _ => E0) (ea_cons (ev_as see_borB (ev_var (r := (bR C.s0 (sL (sL sI)))) (d := table) f_table)) (ea_cons (ev_var (r := sI.r) (d := inverse) rfl) (ea_cons (ev_var (r := sI.r) (d := exponent) rfl) ea_nil)))))) hm G (fun s44 g43 hm => ?_) (fun s45 g43 hm => ?_)
    · have G := Gx.trans G g43
      exact s_ret (σ := [some v_group, some v_table, some v_bag, some (.int size), some (.int x), some (.int y), some (.int order), some (.int inverse), some (.int exponent), none, none, none, none]) (s := s44) ev_bl hm G fun d v u qd g hv => hQ d v u ((fun _ q => q) d qd) g hv
    have G := Gx.trans G g43
    have f_group := Rep.u g43 f_group
    have f_bag := Rep.u g43 f_bag
    refine s_if1 (σ := [some v_group, some v_table, some v_bag, some (.int size), some (.int x), some (.int y), some (.int order), some (.int inverse), some (.int exponent), none, none, none, none]) (s := s45) (et_test (ev_neI (ev_mtN io_Group (by decide) (ev_var f_group) (ea_cons (ev_var (r := sI.r) (d := x) rfl) (ea_cons (ev_add (ev_mul (ev_pow ev_int ev_int) (ev_var (r := sI.r) (d := order) rfl)) (ev_var (r := sI.r) (d := exponent) rfl)) ea_nil))) (ev_call0 (E := fun _ => E0) (ea_cons (ev_as see_borB (ev_var (r := (bR C.s0 (sL (sL sI)))) (d := table) f_table)) (ea_cons (ev_var (r := sI.r) (d := x) rfl) (ea_cons (ev_var (r := sI.r) (d := exponent) rfl) ea_nil)))))) hm G (fun s55 g54 hm => ?_) (fun s56 g54 hm => ?_)
    · have G := Gx.trans G g54
      exact s_ret (σ := [some v_group, some v_table, some v_bag, some (.int size), some (.int x), some (.int y), some (.int order), some (.int inverse), some (.int exponent), none, none, none, none]) (s := s55) ev_bl hm G fun d v u qd g hv => hQ d v u ((fun _ q => q) d qd) g hv
    have G := Gx.trans G g54
    have f_group := Rep.u g54 f_group
    have f_bag := Rep.u g54 f_bag
    refine s_set (σ := [some v_group, some v_table, some v_bag, some (.int size), some (.int x), some (.int y), some (.int order), some (.int inverse), some (.int exponent), none, none, none, none]) (s := s56) (σf := fun v => [some v_group, some v_table, some v_bag, some (.int size), some (.int x), some (.int y), some (.int order), some (.int inverse), some (.int exponent), some v, none, none, none]) (evn_ev (evn_lc (σf := fun v => [some v_group, some v_table, some v_bag, some (.int size), some (.int x), some (.int y), some (.int order), some (.int inverse), some (.int exponent), none, some v, none, none]) (ei_rng1 (ev_call0 (E := fun _ => E0) (ea_cons (ev_var (d := ()) f_bag) (ea_cons ev_int ea_nil)))) (fun _ => rfl) (fun _ => rfl) (fun k_59 v_k_59 t gc60 g061 f_k_59 => (ev_call0 (E := fun _ => E0) (ea_cons (ev_var (d := ()) (Rep.u gc60 f_bag)) (ea_cons (ev_var (r := sI.r) (d := size) rfl) ea_nil)))))) hm G (fun _ => rfl) fun members v_members s64 g63 f_members hm => ?_
    have G := Gx.trans G g63
    have f_group := Rep.u g63 f_group
    refine s_set (σ := [some v_group, some v_table, some v_bag, some (.int size), some (.int x), some (.int y), some (.int order), some (.int inverse), some (.int exponent), some v_members, none, none, none]) (s := s64) (σf := fun v => [some v_group, some v_table, some v_bag, some (.int size), some (.int x), some (.int y), some (.int order), some (.int inverse), some (.int exponent), some v_members, none, some v, none]) (evn_ev (evn_listL rd_st sta_st (ev_var f_members))) hm G (fun _ => rfl) fun handed v_handed s66 g65 f_handed hm => ?_
    have G := Gx.trans G g65
    have f_group := Rep.u g65 f_group
    have f_members := Rep.u g65 f_members
    refine s_setN (σ := [some v_group, some v_table, some v_bag, some (.int size), some (.int x), some (.int y), some (.int order), some (.int inverse), some (.int exponent), some v_members, none, some v_handed, none]) (s := s66) (σf := fun v => [some v_group, some v_table, some v_bag, some (.int size), some (.int x), some (.int y), some (.int order), some (.int inverse), some (.int exponent), some v_members, none, some v_handed, some v]) (evn_mtN io_Group (by decide) (ev_var f_group) (ea_cons (ev_as see_bor (ev_var f_handed)) ea_nil)) hm G (fun _ => rfl) fun told p_told69 s68 g67 hn70 f_told hm => ?_
    have hn70 : ∀ a, a = p_told69 → _ := fun a e => (show s66.hp a = none from by rw [e]; exact hn70)
    have G := Gx.trans G g67
    have f_group := Rep.u g67 f_group
    have f_members := Rep.u g67 f_members
    have f_handed := Rep.u g67 f_handed
    refine s_if1 (σ := [some v_group, some v_table, some v_bag, some (.int size), some (.int x), some (.int y), some (.int order), some (.int inverse), some (.int exponent), some v_members, none, some v_handed, some (.ref p_told69)]) (s := s68) (et_or (et_test (ev_neD (enc_L enc_I) (dpr_st (enc_L enc_I)) (dpr_st (enc_L enc_I)) (Nat.le_of_ble_eq_true rfl) (ev_var f_handed) (ev_var f_members))) (et_or (et_not (et_B (ev_isi (T := "list") (U := "list") (b := true) oty_own (by decide +kernel) (ev_var f_told)))) (et_test (ev_neD (enc_L enc_I) (dpr_own enc_I) (dpr_st (enc_L enc_I)) (Nat.le_of_ble_eq_true rfl) (ev_var f_told) (evn_ev (evn_call0 (E := fun _ => E0) (ea_cons (ev_as see_borB (ev_var (r := (bR C.s0 (sL (sL sI)))) (d := table) f_table)) (ea_cons (ev_as see_bor (ev_var f_members)) ea_nil)))))))) hm G (fun s75 g74 hm => ?_) (fun s76 g74 hm => ?_)
    · have G := Gx.trans G g74
      exact s_ret (σ := [some v_group, some v_table, some v_bag, some (.int size), some (.int x), some (.int y), some (.int order), some (.int inverse), some (.int exponent), some v_members, none, some v_handed, some (.ref p_told69)]) (s := s75) ev_bl hm G fun d v u qd g hv => hQ d v u ((fun _ q => q) d qd) g hv
    have G := Gx.trans G g74
    have f_group := Rep.u g74 f_group
    have f_members := Rep.u g74 f_members
    have f_handed := Rep.u g74 f_handed
    have f_told := Rep.u g74 f_told
    refine s_app (σ := [some v_group, some v_table, some v_bag, some (.int size), some (.int x), some (.int y), some (.int order), some (.int inverse), some (.int exponent), some v_members, none, some v_handed, some (.ref p_told69)]) (s := s76) f_told (ev_var f_told) ev_int hm G fun told s78 g79 G f_told hm => ?_
    have f_group := SRep.ux g79 f_group
    have f_members := SRep.ux g79 f_members
    have f_handed := SRep.ux g79 f_handed
    refine s_if1 (σ := [some v_group, some v_table, some v_bag, some (.int size), some (.int x), some (.int y), some (.int order), some (.int inverse), some (.int exponent), some v_members, none, some v_handed, some (.ref p_told69)]) (s := s78) (et_test (ev_neD (enc_L enc_I) (dpr_st (enc_L enc_I)) (dpr_st (enc_L enc_I)) (Nat.le_of_ble_eq_true rfl) (evn_ev (evn_mtN io_Group (by decide) (ev_var f_group) (ea_cons (ev_as see_bor (ev_var f_handed)) ea_nil))) (evn_ev (evn_call0 (E := fun _ => E0) (ea_cons (ev_as see_borB (ev_var (r := (bR C.s0 (sL (sL sI)))) (d := table) f_table)) (ea_cons (ev_as see_bor (ev_var f_members)) ea_nil)))))) hm G (fun s84 g83 hm => ?_) (fun s85 g83 hm => ?_)
    · have G := Gx.trans G g83
      exact s_ret (σ := [some v_group, some v_table, some v_bag, some (.int size), some (.int x), some (.int y), some (.int order), some (.int inverse), some (.int exponent), some v_members, none, some v_handed, some (.ref p_told69)]) (s := s84) ev_bl hm G fun d v u qd g hv => hQ d v u ((fun _ q => q) d qd) g hv
    have G := Gx.trans G g83
    have f_group := Rep.u g83 f_group
    refine s_setN (σ := [some v_group, some v_table, some v_bag, some (.int size), some (.int x), some (.int y), some (.int order), some (.int inverse), some (.int exponent), some v_members, none, some v_handed, some (.ref p_told69)]) (s := s85) (σf := fun v => [some v_group, some v_table, some v_bag, some (.int size), some (.int x), some (.int y), some (.int order), some (.int inverse), some (.int exponent), some v_members, none, some v_handed, some v]) (evn_mtN io_Group (by decide) (ev_var f_group) ea_nil) hm G (fun _ => rfl) fun told p_told89 s88 g87 hn90 f_told hm => ?_
    have hn90 : ∀ a, a = p_told89 → _ := fun a e => (show s85.hp a = none from by rw [e]; exact hn90)
    have G := Gx.trans G g87
    have f_group := Rep.u g87 f_group
    refine s_if1 (σ := [some v_group, some v_table, some v_bag, some (.int size), some (.int x), some (.int y), some (.int order), some (.int inverse), some (.int exponent), some v_members, none, some v_handed, some (.ref p_told89)]) (s := s88) (et_or (et_not (et_B (ev_isi (T := "list") (U := "list") (b := true) oty_own (by decide +kernel) (ev_var f_told)))) (et_test (ev_neD (enc_L enc_I) (dpr_own enc_I) (dpr_st (enc_L enc_I)) (Nat.le_of_ble_eq_true rfl) (ev_var f_told) (evn_ev (evn_call0 (E := fun _ => E0) (ea_cons (ev_as see_borB (ev_var (r := (bR C.s0 (sL (sL sI)))) (d := table) f_table)) ea_nil)))))) hm G (fun s94 g93 hm => ?_) (fun s95 g93 hm => ?_)
    · have G := Gx.trans G g93
      exact s_ret (σ := [some v_group, some v_table, some v_bag, some (.int size), some (.int x), some (.int y), some (.int order), some (.int inverse), some (.int exponent), some v_members, none, some v_handed, some (.ref p_told89)]) (s := s94) ev_bl hm G fun d v u qd g hv => hQ d v u ((fun _ q => q) d qd) g hv
    have G := Gx.trans G g93
    have f_group := Rep.u g93 f_group
    have f_told := Rep.u g93 f_told
    refine s_app (σ := [some v_group, some v_table, some v_bag, some (.int size), some (.int x), some (.int y), some (.int order), some (.int inverse), some (.int exponent), some v_members, none, some v_handed, some (.ref p_told89)]) (s := s95) f_told (ev_var f_told) ev_int hm G fun told s97 g98 G f_told hm => ?_
    have f_group := SRep.ux g98 f_group
    refine s_if1 (σ := [some v_group, some v_table, some v_bag, some (.int size), some (.int x), some (.int y), some (.int order), some (.int inverse), some (.int exponent), some v_members, none, some v_handed, some (.ref p_told89)]) (s := s97) (et_test (ev_neD (enc_L enc_I) (dpr_st (enc_L enc_I)) (dpr_st (enc_L enc_I)) (Nat.le_of_ble_eq_true rfl) (evn_ev (evn_mtN io_Group (by decide) (ev_var f_group) ea_nil)) (evn_ev (evn_call0 (E := fun _ => E0) (ea_cons (ev_as see_borB (ev_var (r := (bR C.s0 (sL (sL sI)))) (d := table) f_table)) ea_nil))))) hm G (fun s103 g102 hm => ?_) (fun s104 g102 hm => ?_)
    · have G := Gx.trans G g102
      exact s_ret (σ := [some v_group, some v_table, some v_bag, some (.int size), some (.int x), some (.int y), some (.int order), some (.int inverse), some (.int exponent), some v_members, none, some v_handed, some (.ref p_told89)]) (s := s103) ev_bl hm G fun d v u qd g hv => hQ d v u ((fun _ q => q) d qd) g hv
    have G := Gx.trans G g102
    exact s_ret (σ := [some v_group, some v_table, some v_bag, some (.int size), some (.int x), some (.int y), some (.int order), some (.int inverse), some (.int exponent), some v_members, none, some v_handed, some (.ref p_told89)]) (s := s104) ev_bl hm G fun d v u qd g hv => hQ d v u ((fun _ q => q) d qd) g hv

abbrev st_law : Stmt := topS 29
abbrev N_law : List Str := ["script", "bag", "limit", "table", "handed", "row", "told", "group", "size", "commutes", "k", "which"]
theorem sc_law : FnScope N_law ["script"] (defScope st_law) := ⟨rfl, rfl, rfl, by decide +kernel, rfl, by decide +kernel, by decide +kernel⟩
abbrev sp_law (K : PySem.W.Frag) (A : Ad) : Sp := sp0 (aC (bP (sF K sI)) aN) (fun a => Mi.law a.1) (fun _ => sB.r)
theorem ok_law {P : Program} {w : World} {K : PySem.W.Frag} {mg : Str → Option Value} {base : Heap} {A : Ad} (T : Mo K mg A) {f : Addr} {fd : FuncData} (F : Fun K "law" "law" st_law f fd)
    {f__law_bag : Addr} {fd__law_bag : FuncData} (c__law_bag : Cal P w K mg base CX0 1 "_law_bag" ["script", "k"] (sp__law_bag K A) f__law_bag fd__law_bag)
    {f__law_take : Addr} {fd__law_take : FuncData} (c__law_take : Cal P w K mg base CX0 1 "_law_take" ["bag", "size"] (sp__law_take K A) f__law_take fd__law_take)
    {f__law_spoilt : Addr} {fd__law_spoilt : FuncData} (c__law_spoilt : Cal P w K mg base CX0 2 "_law_spoilt" ["bag", "table"] (sp__law_spoilt K A) f__law_spoilt fd__law_spoilt)
    {f__law_table : Addr} {fd__law_table : FuncData} (c__law_table : Cal P w K mg base CX0 3 "_law_table" ["bag", "limit"] (sp__law_table K A) f__law_table fd__law_table)
    {f__law_made : Addr} {fd__law_made : FuncData} (c__law_made : Cal P w K mg base CX0 5 "_law_made" ["table"] (sp__law_made K A) f__law_made fd__law_made)
    {f__law_valid : Addr} {fd__law_valid : FuncData} (c__law_valid : Cal P w K mg base CX0 2 "_law_valid" ["table"] (sp__law_valid K A) f__law_valid fd__law_valid)
    {f__law_plain : Addr} {fd__law_plain : FuncData} (c__law_plain : Cal P w K mg base CX0 2 "_law_plain" ["group", "table"] (sp__law_plain K A) f__law_plain fd__law_plain)
    {f__law_methods : Addr} {fd__law_methods : FuncData} (c__law_methods : Cal P w K mg base CX0 4 "_law_methods" ["group", "table", "bag"] (sp__law_methods K A) f__law_methods fd__law_methods)
    {f_Group_is_commutative : Addr} {fd_Group_is_commutative : FuncData} (c_Group_is_commutative : CalM P w K mg base CX0 2 A.a_Group "is_commutative" ["self"] (sp_Group_is_commutative K A) f_Group_is_commutative fd_Group_is_commutative)
    {f_Group___init__ : Addr} {fd_Group___init__ : FuncData} (c_Group___init__ : CalI P w K mg base (L2.CX P w) 3 "Group" A.a_Group ["self", "table"] (sp_Group___init__ K A) f_Group___init__ fd_Group___init__)
    {f_Group___eq__ : Addr} {fd_Group___eq__ : FuncData} (c_Group___eq__ : CalM P w K mg base CX0 1 A.a_Group "__eq__" ["self", "other"] (sp_Group___eq__ K A) f_Group___eq__ fd_Group___eq__)
    {f__law_refused : Addr} {fd__law_refused : FuncData} (c__law_refused : Cal P w K mg base CX0 4 "_law_refused" ["group", "which", "bad"] (sp__law_refused K A) f__law_refused fd__law_refused) (m_all : mg "all" = none) (m_bool : mg "bool" = none) (m_int : mg "int" = none) (m_isinstance : mg "isinstance" = none) (m_len : mg "len" = none) (m_list : mg "list" = none) (m_range : mg "range" = none) :
    FnOk P w K mg base CX0 6 f fd ["script"] (sp_law K A) := by
  refine fn0 F sc_law (fun s vs a h => ?_) (fun cdv A9 outer sh EX hr C a vs Qm ok ha hm => ?_)
  · obtain ⟨v0, w0, rfl, _, h⟩ := h; cases h; rfl
  · obtain ⟨script, _⟩ := a
    obtain ⟨v_script, w_script, rfl, f_script, ha⟩ := ha
    cases ha
    have f_script : (bR C.s0 (sF K sI)).is C.s0 v_script script := f_script
    have G : Gr C.s0 C.s0 := Gx.refl ok
    unfold Mi.law at hm
    try dsimp only at hm
    refine ⟨_, (pss_cons (ps_set (i := 1) sc_law.nd rfl (.inl rfl) (pe_callS (E := fun _ => E0) c__law_bag.ok (hr.mono (by decide)) (by rfl) c__law_bag.gm c__law_bag.kp c__law_bag.bn pat0 (pa_cons (pv 0) (pa_cons pe_int pa_nil)))) (pss_cons (ps_set (i := 2) sc_law.nd rfl (.inl rfl) pe_int) (C8.pss_cut (ps_if (pt_cmpR op_eq (pe_callS (E := fun _ => E0) c__law_take.ok (hr.mono (by decide)) (by rfl) c__law_take.gm c__law_take.kp c__law_take.bn pat0 (pa_cons (pv 1) (pa_cons pe_int pa_nil))) pe_int (nomark _)) (pss_cons (ps_set (i := 2) sc_law.nd rfl (.inl rfl) pe_int) pss_nil) pss_nil) (pss_cons (ps_set (i := 3) sc_law.nd rfl (.inr rfl) (pe_callS (E := fun _ => E0) c__law_spoilt.ok (hr.mono (by decide)) (by rfl) c__law_spoilt.gm c__law_spoilt.kp c__law_spoilt.bn pat0 (pa_cons (pe_callS (E := fun _ => E0) c__law_bag.ok (hr.mono (by decide)) (by rfl) c__law_bag.gm c__law_bag.kp c__law_bag.bn pat0 (pa_cons (pv 0) (pa_cons pe_int pa_nil))) (pa_cons (pe_callS (E := fun _ => E0) c__law_table.ok (hr.mono (by decide)) (by rfl) c__law_table.gm c__law_table.kp c__law_table.bn pat0 (pa_cons (pv 1) (pa_cons (pv 2) pa_nil))) pa_nil)))) (pss_cons (ps_setLc (i := 4) (own := [("row", 5)]) (g := gName 5) (tt := tYes) rfl sc_law.nd rfl rfl (sw_true rfl rfl rfl (by decide +kernel)) (k_piL K rfl (pv 3)) (blkOk_by (own := [("row", 5)]) (N := N_law) (sc := defScope st_law) (by decide +kernel)) (fun _ _ _ _ _ => pg_name (i := 5) sc_law.nd rfl (Or.inl rfl))  (fun _ _ _ _ _ => pts_nil) (fun _ _ _ _ _ => (pe_callTy (k_list K rfl) (by rfl) m_list (by decide +kernel) (pa_cons (pv 5) pa_nil)))) (pss_cons (ps_set (i := 6) sc_law.nd rfl (.inl rfl) (pe_callS (E := fun _ => E0) c__law_made.ok hr (by rfl) c__law_made.gm c__law_made.kp c__law_made.bn pat0 (pa_cons (pv 4) pa_nil))) (pss_cons (ps_if (pt_cmpR (k_neD K rfl hr.units) (pv 4) (pv 3) (nomark _)) (pss_cons (ps_ret pe_bl) pss_nil) pss_nil) (pss_cons (ps_if (pt_cmpR op_gt (pe_callB (k_len K rfl) (by rfl) m_len PySem.boot_len (pa_cons (pv 3) pa_nil)) pe_int (nomark _)) (pss_cons (ps_ret (pe_and (pe_cmpR op_eq (pe_ix (k_ixT K rfl) (pv 6) pe_int (fun _ _ => rfl)) pe_str (nomark _)) (pe_one (pe_ix (k_ixT K rfl) (pv 6) pe_int (fun _ _ => rfl))))) pss_nil) pss_nil) (pss_cons (ps_if (pt_not (pt_val (pe_callS (E := fun _ => E0) c__law_valid.ok (hr.mono (by decide)) (by rfl) c__law_valid.gm c__law_valid.kp c__law_valid.bn pat0 (pa_cons (pv 3) pa_nil)))) (pss_cons (ps_ret (pe_and (pe_cmpR op_eq (pe_ix (k_ixT K rfl) (pv 6) pe_int (fun _ _ => rfl)) pe_str (nomark _)) (pe_one (pe_ix (k_ixT K rfl) (pv 6) pe_int (fun _ _ => rfl))))) pss_nil) pss_nil) (pss_cons (ps_if (pt_cmpR op_ne (pe_ix (k_ixT K rfl) (pv 6) pe_int (fun _ _ => rfl)) pe_str (nomark _)) (pss_cons (ps_ret pe_bl) pss_nil) pss_nil) (pss_cons (ps_set (i := 7) sc_law.nd rfl (.inl rfl) (pe_ix (k_ixT K rfl) (pv 6) pe_int (fun _ _ => rfl))) (pss_cons (ps_expr (k_bm K rfl PySem.F.plainAttrs_list PySem.F.slot_list_append PySem.F.type_list_append mt_append (pe_ix (k_ixL K rfl) (pv 4) pe_int (fun _ _ => rfl)) (pa_cons pe_int pa_nil))) (pss_cons (ps_expr (k_bm K rfl PySem.F.plainAttrs_list PySem.F.slot_list_append PySem.F.type_list_append mt_append (pv 4) (pa_cons (pe_lst pa_nil) pa_nil))) (pss_cons (ps_if (PW.pt (pw_or (pt_not (pt_val (pe_callS (E := fun _ => E0) c__law_plain.ok (hr.mono (by decide)) (by rfl) c__law_plain.gm c__law_plain.kp c__law_plain.bn pat0 (pa_cons (pv 7) (pa_cons (pv 3) pa_nil))))) (pw_or1 (pt_not (pt_val (pe_callS (E := fun _ => E0) c__law_methods.ok (hr.mono (by decide)) (by rfl) c__law_methods.gm c__law_methods.kp c__law_methods.bn pat0 (pa_cons (pv 7) (pa_cons (pv 3) (pa_cons (pe_callS (E := fun _ => E0) c__law_bag.ok (hr.mono (by decide)) (by rfl) c__law_bag.gm c__law_bag.kp c__law_bag.bn pat0 (pa_cons (pv 0) (pa_cons pe_int pa_nil))) pa_nil))))))))) (pss_cons (ps_ret pe_bl) pss_nil) pss_nil) (pss_cons (ps_set (i := 8) sc_law.nd rfl (.inr rfl) (pe_callB (k_len K rfl) (by rfl) m_len PySem.boot_len (pa_cons (pv 3) pa_nil))) (pss_cons (ps_set (i := 9) sc_law.nd rfl (.inl rfl) (pe_callB (k_all K rfl rfl) (by rfl) m_all (by decide +kernel) (pa_cons (pe_lc (own := [("k", 10)]) (g := gName 10) (tt := tYes) rfl sc_law.nd (pi_range1 (by rfl) m_range (pa_cons (pe_op op_mulW (pv 8) (pv 8)) pa_nil)) (blkOk_by (own := [("k", 10)]) (N := N_law) (sc := defScope st_law) (by decide +kernel)) (fun _ _ _ _ _ => pg_name (i := 10) sc_law.nd rfl (Or.inl rfl))  (fun _ _ _ _ _ => pts_nil) (fun _ _ _ _ _ => (pe_cmpR op_eq (pe_ix (k_ixL K rfl) (pe_ix (k_ixL K rfl) (pv 3) (pe_op op_fdivG (pv 10) (pv 8)) (fun _ _ => rfl)) (pe_op op_modN (pe_callTy call_int1 (by rfl) m_int (by decide +kernel) (pa_cons (pv 10) pa_nil)) (pv 8)) (fun _ _ => rfl)) (pe_ix (k_ixL K rfl) (pe_ix (k_ixL K rfl) (pv 3) (pe_op op_modN (pe_callTy call_int1 (by rfl) m_int (by decide +kernel) (pa_cons (pv 10) pa_nil)) (pv 8)) (fun _ _ => rfl)) (pe_op op_fdivG (pv 10) (pv 8)) (fun _ _ => rfl)) (nomark _)))) pa_nil))) (pss_cons (ps_if (PW.pt (pw_or (pt_not (pt_val (pe_callB (k_isi K rfl) (by rfl) m_isinstance (by decide +kernel) (pa_cons (pe_mt0S (E := fun _ => E0) (pv 7) T.cl_Group c_Group_is_commutative.mt c_Group_is_commutative.ok (hr.mono (by decide)) c_Group_is_commutative.bn pat0) (pa_cons (pe_bltn (v := .ty "bool") (by rfl) m_bool (by decide +kernel) rfl) pa_nil))))) (pw_or1 (pt_cmpR op_ne (pe_mt0S (E := fun _ => E0) (pv 7) T.cl_Group c_Group_is_commutative.mt c_Group_is_commutative.ok (hr.mono (by decide)) c_Group_is_commutative.bn pat0) (pv 9) (nomark _))))) (pss_cons (ps_ret pe_bl) pss_nil) pss_nil) (pss_cons (ps_if (PW.pt (pw_or (pt_not (pt_cmpR (k_ownE K rfl c_Group___eq__.ok c_Group___eq__.mt.at_ c_Group___eq__.mt.fn (hr.mono (by decide)) c_Group___eq__.bn) (pv 7) (pe_mkS (E := fun _ => E0) c_Group___init__.kk c_Group___init__.ok (hr.mono (by decide)) (by rfl) c_Group___init__.gm c_Group___init__.bn (by exact patLP rfl rfl) (pa_cons (pv 3) pa_nil)) (nomark _))) (pw_or1 (pt_cmpR op_ne (pe_cmpR (k_ownE K rfl c_Group___eq__.ok c_Group___eq__.mt.at_ c_Group___eq__.mt.fn (hr.mono (by decide)) c_Group___eq__.bn) (pv 7) (pe_mkS (E := fun _ => E0) c_Group___init__.kk c_Group___init__.ok (hr.mono (by decide)) (by rfl) c_Group___init__.gm c_Group___init__.bn (by exact patLP rfl rfl) (pa_cons (pe_lst (pa_cons (pe_lst (pa_cons pe_int pa_nil)) pa_nil)) pa_nil)) (nomark _)) (pe_cmpR op_eq (pv 8) pe_int (nomark _)) (nomark _))))) (pss_cons (ps_ret pe_bl) pss_nil) pss_nil) (pss_cons (ps_for PassesOwn.never rfl (pi_range1 (by rfl) m_range (pa_cons pe_int pa_nil)) (pg_name (i := 11) sc_law.nd rfl (.inl rfl)) (pss_cons (ps_if (PW.pt (pw_or (pt_not (pt_val (pe_callS (E := fun _ => E0) c__law_refused.ok (hr.mono (by decide)) (by rfl) c__law_refused.gm c__law_refused.kp c__law_refused.bn pat0 (pa_cons (pv 7) (pa_cons (pv 11) (pa_cons (pe_un un_neg pe_int) pa_nil)))))) (pw_or1 (pt_not (pt_val (pe_callS (E := fun _ => E0) c__law_refused.ok (hr.mono (by decide)) (by rfl) c__law_refused.gm c__law_refused.kp c__law_refused.bn pat0 (pa_cons (pv 7) (pa_cons (pv 11) (pa_cons (pv 8) pa_nil))))))))) (pss_cons (ps_ret pe_bl) pss_nil) pss_nil) pss_nil)) (pss_cons (ps_ret pe_bl) pss_nil)))))))))))))))))))), fun Q hQ => ?_⟩
    refine s_set (σ := [some v_script, none, none, none, none, none, none, none, none, none, none, none]) (s := C.s0) (σf := fun v => [some v_script, some v, none, none, none, none, none, none, none, none, none, none]) (ev_call0 (E := fun _ => E0) (ea_cons (ev_as see_borB (ev_var (r := (bR C.s0 (sF K sI))) (d := script) f_script)) (ea_cons ev_int ea_nil))) hm G (fun _ => rfl) fun bag v_bag s2 g1 f_bag hm => ?_
    have G := Gx.trans G g1
    refine s_set (σ := [some v_script, some v_bag, none, none, none, none, none, none, none, none, none, none]) (s := s2) (σf := fun v => [some v_script, some v_bag, some v, none, none, none, none, none, none, none, none, none]) ev_int hm G (fun _ => rfl) fun limit v_limit s4 g3 f_limit hm => ?_
    have G := Gx.trans G g3
    have f_bag := Rep.u g3 f_bag
    obtain rfl : v_limit = V.int limit := f_limit
    refine s_ifj (σ := [some v_script, some v_bag, some (.int limit), none, none, none, none, none, none, none, none, none]) (s := s4) (fun (a : (Int)) σ' s' => Gr C.s0 s' ∧ Gx No s4 s' ∧ σ' = [some v_script, some v_bag, some (.int a), none, none, none, none, none, none, none, none, none]) (et_test (ev_eqI (ev_call0 (E := fun _ => E0) (ea_cons (ev_var (d := ()) f_bag) (ea_cons ev_int ea_nil))) ev_int)) hm G (fun s7 g6 Qb10 hm => ?_) (fun s8 g6 Qb10 hm => ?_) (fun a σ' s14 hI hm => ?_)
    · have G := Gx.trans G g6
      have E : Gx No s4 _ := Gx.of_gr g6
      have f_bag := Rep.u g6 f_bag
      refine s_set (σ := [some v_script, some v_bag, some (.int limit), none, none, none, none, none, none, none, none, none]) (s := s7) (σf := fun v => [some v_script, some v_bag, some v, none, none, none, none, none, none, none, none, none]) ev_int hm G (fun _ => rfl) fun limit v_limit s13 g12 f_limit hm => ?_
      have G := Gx.trans G g12
      have E := Gx.trans E (Gx.of_gr g12)
      have f_bag := Rep.u g12 f_bag
      obtain rfl : v_limit = V.int limit := f_limit
      exact ⟨limit, _, rfl, hm, ⟨G, E, rfl⟩⟩
    · have G := Gx.trans G g6
      have E : Gx No s4 _ := Gx.of_gr g6
      have f_bag := Rep.u g6 f_bag
      exact ⟨limit, _, rfl, hm, ⟨G, E, rfl⟩⟩
    obtain ⟨limit, ea⟩ : ∃ z, z = a := ⟨a, rfl⟩
    subst ea
    obtain ⟨G, E, rfl⟩ := hI
    have f_bag := Rep.u E f_bag
    refine s_set (σ := [some v_script, some v_bag, some (.int limit), none, none, none, none, none, none, none, none, none]) (s := s14) (σf := fun v => [some v_script, some v_bag, some (.int limit), some v, none, none, none, none, none, none, none, none]) (ev_call0 (E := fun _ => E0) (ea_cons (ev_call0 (E := fun _ => E0) (ea_cons (ev_as see_borB (ev_var (r := (bR C.s0 (sF K sI))) (d := script) f_script)) (ea_cons ev_int ea_nil))) (ea_cons (ev_as see_bor (ev_call0 (E := fun _ => E0) (ea_cons (ev_var (d := ()) f_bag) (ea_cons (ev_var (r := sI.r) (d := limit) rfl) ea_nil)))) ea_nil))) hm G (fun _ => rfl) fun table v_table s18 g17 f_table hm => ?_
    have G := Gx.trans G g17
    refine s_setM (σ := [some v_script, some v_bag, some (.int limit), some v_table, none, none, none, none, none, none, none, none]) (s := s18) (σf := fun v => [some v_script, some v_bag, some (.int limit), some v_table, some v, none, none, none, none, none, none, none]) (evm_lc (σf := fun v => [some v_script, some v_bag, some (.int limit), some v_table, none, some v, none, none, none, none, none, none]) (ei_list rd_st newx_no (fun _ z _ => z.elim) (ev_var f_table)) (fun _ => rfl) (fun _ => rfl) (fun row_19 v_row_19 t gc20 g021 f_row_19 => (evn_listL rd_st sta_st (ev_var f_row_19)))) hm G (fun _ => rfl) fun handed p_handed25 q_handed26 s24 g23 hn26 f_handed hm => ?_
    have G := Gx.trans G g23
    have f_table := Rep.u g23 f_table
    refine s_set (σ := [some v_script, some v_bag, some (.int limit), some v_table, some (.ref p_handed25), none, none, none, none, none, none, none]) (s := s24) (σf := fun v => [some v_script, some v_bag, some (.int limit), some v_table, some (.ref p_handed25), none, some v, none, none, none, none, none]) (ev_call0 (E := fun _ => E0) (ea_cons (ev_as see_mat (ev_var f_handed)) ea_nil)) hm G (fun _ => rfl) fun told v_told s28 g27 f_told hm => ?_
    have G := Gx.trans G g27
    have f_table := Rep.u g27 f_table
    have f_handed := Rep.u g27 f_handed
    refine s_if1 (σ := [some v_script, some v_bag, some (.int limit), some v_table, some (.ref p_handed25), none, some v_told, none, none, none, none, none]) (s := s28) (et_test (ev_neD (enc_L (enc_L enc_I)) (dpr_mat enc_I) (dpr_st (enc_L (enc_L enc_I))) (Nat.le_of_ble_eq_true rfl) (ev_var f_handed) (ev_var f_table))) hm G (fun s30 g29 hm => ?_) (fun s31 g29 hm => ?_)
    · have G := Gx.trans G g29
      exact s_ret (σ := [some v_script, some v_bag, some (.int limit), some v_table, some (.ref p_handed25), none, some v_told, none, none, none, none, none]) (s := s30) ev_bl hm G fun d v u qd g hv => hQ d v u ((fun _ q => q) d qd) g hv
    have G := Gx.trans G g29
    have f_table := Rep.u g29 f_table
    have f_handed := Rep.u g29 f_handed
    have f_told := Rep.u g29 f_told
    refine s_if1 (σ := [some v_script, some v_bag, some (.int limit), some v_table, some (.ref p_handed25), none, some v_told, none, none, none, none, none]) (s := s31) (et_test (ev_gt (ev_lenL rd_st (ev_var f_table)) ev_int)) hm G (fun s34 g33 hm => ?_) (fun s35 g33 hm => ?_)
    · have G := Gx.trans G g33
      have f_told := Rep.u g33 f_told
      exact s_ret (σ := [some v_script, some v_bag, some (.int limit), some v_table, some (.ref p_handed25), none, some v_told, none, none, none, none, none]) (s := s34) (ev_andV (ev_eqS (ev_p0 rd_pair (ev_var f_told)) ev_str) (ev_getr (ev_p1 rd_pair (ev_var f_told)))) hm G fun d v u qd g hv => hQ d v u ((fun _ q => q) d qd) g hv
    have G := Gx.trans G g33
    have f_table := Rep.u g33 f_table
    have f_handed := Rep.u g33 f_handed
    have f_told := Rep.u g33 f_told
    refine s_if1 (σ := [some v_script, some v_bag, some (.int limit), some v_table, some (.ref p_handed25), none, some v_told, none, none, none, none, none]) (s := s35) (et_not (et_B (ev_call0 (E := fun _ => E0) (ea_cons (ev_as see_bor (ev_var f_table)) ea_nil)))) hm G (fun s40 g39 hm => ?_) (fun s41 g39 hm => ?_)
    · have G := Gx.trans G g39
      have f_told := Rep.u g39 f_told
      exact s_ret (σ := [some v_script, some v_bag, some (.int limit), some v_table, some (.ref p_handed25), none, some v_told, none, none, none, none, none]) (s := s40) (ev_andV (ev_eqS (ev_p0 rd_pair (ev_var f_told)) ev_str) (ev_getr (ev_p1 rd_pair (ev_var f_told)))) hm G fun d v u qd g hv => hQ d v u ((fun _ q => q) d qd) g hv
    have G := Gx.trans G g39
    have f_table := Rep.u g39 f_table
    have f_handed := Rep.u g39 f_handed
    have f_told := Rep.u g39 f_told
    refine s_if1 (σ := [some v_script, some v_bag, some (.int limit), some v_table, some (.ref p_handed25), none, some v_told, none, none, none, none, none]) (s := s41) (et_test (ev_neS (ev_p0 rd_pair (ev_var f_told)) ev_str)) hm G (fun s45 g44 hm => ?_) (fun s46 g44 hm => ?_)
    · have G := Gx.trans G g44
      exact s_ret (σ := [some v_script, some v_bag, some (.int limit), some v_table, some (.ref p_handed25), none, some v_told, none, none, none, none, none]) (s := s45) ev_bl hm G fun d v u qd g hv => hQ d v u ((fun _ q => q) d qd) g hv
    have G := Gx.trans G g44
    have f_table := Rep.u g44 f_table
    have f_handed := Rep.u g44 f_handed
    have f_told := Rep.u g44 f_told
    refine s_set (σ := [some v_script, some v_bag, some (.int limit), some v_table, some (.ref p_handed25), none, some v_told, none, none, none, none, none]) (s := s46) (σf := fun v => [some v_script, some v_bag, some (.int limit), some v_table, some (.ref p_handed25), none, some v_told, some v, none, none, none, none]) (ev_getl (ev_p1 rd_pair (ev_var f_told))) hm G (fun _ => rfl) fun group v_group s49 g48 f_group hm => ?_
    have G := Gx.trans G g48
    have f_table := Rep.u g48 f_table
    have f_handed := Rep.u g48 f_handed
    refine s_app2 (σ := [some v_script, some v_bag, some (.int limit), some v_table, some (.ref p_handed25), none, some v_told, some v_group, none, none, none, none]) (s := s49) f_handed (ev_var f_handed) ev_int ev_int hm G fun handed s50 g51 G f_handed hm => ?_
    have f_table := SRep.ux g51 f_table
    have f_group := SRep.ux g51 f_group
    refine s_appM (σ := [some v_script, some v_bag, some (.int limit), some v_table, some (.ref p_handed25), none, some v_told, some v_group, none, none, none, none]) (s := s50) f_handed (ev_var f_handed) (evn_lst (el_nil (r := sI)) (by decide)) hm G fun handed q_handed54 s52 hs55 g53 G f_handed hm => ?_
    have f_table := SRep.ux g53 f_table
    have f_group := SRep.ux g53 f_group
    refine s_if1 (σ := [some v_script, some v_bag, some (.int limit), some v_table, some (.ref p_handed25), none, some v_told, some v_group, none, none, none, none]) (s := s52) (et_or (et_not (et_B (ev_call0 (E := fun _ => E0) (ea_cons (ev_var f_group) (ea_cons (ev_as see_bor (ev_var f_table)) ea_nil))))) (et_not (et_B (ev_call0 (E := fun _ => E0) (ea_cons (ev_var f_group) (ea_cons (ev_as see_bor (ev_var f_table)) (ea_cons (ev_call0 (E := fun _ => E0) (ea_cons (ev_as see_borB (ev_var (r := (bR C.s0 (sF K sI))) (d := script) f_script)) (ea_cons ev_int ea_nil))) ea_nil))))))) hm G (fun s62 g61 hm => ?_) (fun s63 g61 hm => ?_)
    · have G := Gx.trans G g61
      exact s_ret (σ := [some v_script, some v_bag, some (.int limit), some v_table, some (.ref p_handed25), none, some v_told, some v_group, none, none, none, none]) (s := s62) ev_bl hm G fun d v u qd g hv => hQ d v u ((fun _ q => q) d qd) g hv
    have G := Gx.trans G g61
    have f_table := Rep.u g61 f_table
    have f_group := Rep.u g61 f_group
    refine s_set (σ := [some v_script, some v_bag, some (.int limit), some v_table, some (.ref p_handed25), none, some v_told, some v_group, none, none, none, none]) (s := s63) (σf := fun v => [some v_script, some v_bag, some (.int limit), some v_table, some (.ref p_handed25), none, some v_told, some v_group, some v, none, none, none]) (ev_lenL rd_st (ev_var f_table)) hm G (fun _ => rfl) fun size v_size s66 g65 f_size hm => ?_
    have G := Gx.trans G g65
    have f_table := Rep.u g65 f_table
    have f_group := Rep.u g65 f_group
    obtain rfl : v_size = V.int size := f_size
    refine s_set (σ := [some v_script, some v_bag, some (.int limit), some v_table, some (.ref p_handed25), none, some v_told, some v_group, some (.int size), none, none, none]) (s := s66) (σf := fun v => [some v_script, some v_bag, some (.int limit), some v_table, some (.ref p_handed25), none, some v_told, some v_group, some (.int size), some v, none, none]) (ev_all rd_st sta_st (evn_ev (evn_lc (σf := fun v => [some v_script, some v_bag, some (.int limit), some v_table, some (.ref p_handed25), none, some v_told, some v_group, some (.int size), none, some v, none]) (ei_rng1 (ev_mul (ev_var (r := sI.r) (d := size) rfl) (ev_var (r := sI.r) (d := size) rfl))) (fun _ => rfl) (fun _ => rfl) (fun k_68 v_k_68 t gc69 g070 f_k_68 => (ev_eqI (ev_ixL rd_st (ev_ixL rd_st (ev_var (Rep.u gc69 f_table)) (ev_div (ev_var (r := sI.r) (d := k_68) f_k_68) (ev_var (r := sI.r) (d := size) rfl))) (ev_mod (ev_intI (ev_var (r := sI.r) (d := k_68) f_k_68)) (ev_var (r := sI.r) (d := size) rfl))) (ev_ixL rd_st (ev_ixL rd_st (ev_var (Rep.u gc69 f_table)) (ev_mod (ev_intI (ev_var (r := sI.r) (d := k_68) f_k_68)) (ev_var (r := sI.r) (d := size) rfl))) (ev_div (ev_var (r := sI.r) (d := k_68) f_k_68) (ev_var (r := sI.r) (d := size) rfl)))))))) hm G (fun _ => rfl) fun commutes v_commutes s82 g81 f_commutes hm => ?_
    have G := Gx.trans G g81
    have f_table := Rep.u g81 f_table
    have f_group := Rep.u g81 f_group
    obtain rfl : v_commutes = V.bl commutes := f_commutes
    refine s_if1 (σ := [some v_script, some v_bag, some (.int limit), some v_table, some (.ref p_handed25), none, some v_told, some v_group, some (.int size), some (.bl commutes), none, none]) (s := s82) (et_or (et_not (et_B (ev_isi (T := "bool") (U := "bool") (b := true) (oty_st tys_B) (by decide +kernel) (ev_mt0 (E := fun _ => E0) io_Group (by decide) (ev_var f_group) ea_nil)))) (et_test (ev_neB (ev_mt0 (E := fun _ => E0) io_Group (by decide) (ev_var f_group) ea_nil) (ev_var (r := sB.r) (d := commutes) rfl)))) hm G (fun s88 g87 hm => ?_) (fun s89 g87 hm => ?_)
    · have G := Gx.trans G g87
      exact s_ret (σ := [some v_script, some v_bag, some (.int limit), some v_table, some (.ref p_handed25), none, some v_told, some v_group, some (.int size), some (.bl commutes), none, none]) (s := s88) ev_bl hm G fun d v u qd g hv => hQ d v u ((fun _ q => q) d qd) g hv
    have G := Gx.trans G g87
    have f_table := Rep.u g87 f_table
    have f_group := Rep.u g87 f_group
    refine s_if1 (σ := [some v_script, some v_bag, some (.int limit), some v_table, some (.ref p_handed25), none, some v_told, some v_group, some (.int size), some (.bl commutes), none, none]) (s := s89) (et_or (et_not (et_test (ev_eqO (f := fun a b => Mi.Group___eq__ a b) io_Group (ev_var f_group) (ev_mkN (ea_cons (ev_as see_bor (ev_var f_table)) ea_nil))))) (et_test (ev_neB (ev_eqO (f := fun a b => Mi.Group___eq__ a b) io_Group (ev_var f_group) (ev_mkN (ea_cons (ev_as see_bor (evn_ev (evn_lst (el_cons (evn_ev (evn_lst (el_cons ev_int (el_nil (r := sI))) (by decide))) (el_nil (r := (sL sI)))) (by decide)))) ea_nil))) (ev_eqI (ev_var (r := sI.r) (d := size) rfl) ev_int)))) hm G (fun s97 g96 hm => ?_) (fun s98 g96 hm => ?_)
    · have G := Gx.trans G g96
      exact s_ret (σ := [some v_script, some v_bag, some (.int limit), some v_table, some (.ref p_handed25), none, some v_told, some v_group, some (.int size), some (.bl commutes), none, none]) (s := s97) ev_bl hm G fun d v u qd g hv => hQ d v u ((fun _ q => q) d qd) g hv
    have G := Gx.trans G g96
    have f_group := Rep.u g96 f_group
    refine s_forc (σ := [some v_script, some v_bag, some (.int limit), some v_table, some (.ref p_handed25), none, some v_told, some v_group, some (.int size), some (.bl commutes), none, none]) (s := s98) (X := No) (fun u100 (a : Unit) σ' s' => Gr C.s0 s' ∧ Gx No u100 s' ∧ ∃ y_which, σ' = [some v_script, some v_bag, some (.int limit), some v_table, some (.ref p_handed25), none, some v_told, some v_group, some (.int size), some (.bl commutes), none, y_which]) (ei_rng1 ev_int) hm G (fun _ _ _ _ h => h.2.1) (fun u100 gu101 => ⟨(Gx.trans G gu101), (Gx.refl gu101.ok), none, rfl⟩) (fun u100 which v_which a σ' s104 gu101 hI hx Qb102 hrt103 hm => ?_) (fun u100 a σ' s105 gu101 hI hm => ?_)
    · have f_group := Rep.u gu101 f_group
      obtain ⟨G, E, y_which, rfl⟩ := hI
      have f_group := Rep.u E f_group
      obtain rfl : v_which = V.int which := hx
      refine gname_do (σ' := [some v_script, some v_bag, some (.int limit), some v_table, some (.ref p_handed25), none, some v_told, some v_group, some (.int size), some (.bl commutes), none, some (.int which)]) rfl ?_
      refine s_if1 (σ := [some v_script, some v_bag, some (.int limit), some v_table, some (.ref p_handed25), none, some v_told, some v_group, some (.int size), some (.bl commutes), none, some (.int which)]) (s := s104) (et_or (et_not (et_B (ev_call0 (E := fun _ => E0) (ea_cons (ev_var f_group) (ea_cons (ev_var (r := sI.r) (d := which) rfl) (ea_cons (ev_neg ev_int) ea_nil)))))) (et_not (et_B (ev_call0 (E := fun _ => E0) (ea_cons (ev_var f_group) (ea_cons (ev_var (r := sI.r) (d := which) rfl) (ea_cons (ev_var (r := sI.r) (d := size) rfl) ea_nil))))))) hm G (fun s110 g109 hm => ?_) (fun s111 g109 hm => ?_)
      · have G := Gx.trans G g109
        have E := Gx.trans E (Gx.of_gr g109)
        exact s_ret (σ := [some v_script, some v_bag, some (.int limit), some v_table, some (.ref p_handed25), none, some v_told, some v_group, some (.int size), some (.bl commutes), none, some (.int which)]) (s := s110) (Qm := fun d => Qb102 (.rt d)) ev_bl hm G fun d v u qd g hv => hQ d v u ((fun d q => (fun _ q => q) d (hrt103 d q)) d qd) g hv
      have G := Gx.trans G g109
      have E := Gx.trans E (Gx.of_gr g109)
      have f_group := Rep.u g109 f_group
      exact ⟨(), _, rfl, hm, ⟨G, E, some (.int which), rfl⟩⟩
    have f_group := Rep.u gu101 f_group
    obtain ⟨G, E, y_which, rfl⟩ := hI
    exact s_ret (σ := [some v_script, some v_bag, some (.int limit), some v_table, some (.ref p_handed25), none, some v_told, some v_group, some (.int size), some (.bl commutes), none, y_which]) (s := s105) ev_bl hm G fun d v u qd g hv => hQ d v u ((fun _ q => q) d qd) g hv

end K00

namespace K00
open PySem PySem.Spec PyProof.Rows L2 Z
variable {ε : Type} {E : Empty → Prop}
/-! ### groups.py -/
theorem has_identity_M {t : List (List Int)} {Q : Bool → Prop} (hl : t.length < 2 ^ 62) (h1 : Sq t → IdT t → 0 < t.length → Q true) (h2 : ¬ (Sq t ∧ IdT t ∧ 0 < t.length) → Q false) : Mi.has_identity t Q noE := by
  unfold Mi.has_identity
  try simp only [jn_a, tryM_a, req_a, bd_a, ret_a, lft_a, nox_a, thr_a, onC_n, onC_r, ite_a, decide_eq_true_eq, eq_self, if_true, Bool.false_eq_true, if_false, Bool.not_true, Bool.not_false, Bool.not_eq_true', decide_eq_false_iff_not, Bool.true_eq_false, not_true, not_false_iff]
  refine forC_all (fun r => r.length = t.length ∧ ∀ e, e ∈ r → 0 ≤ e ∧ e < t.length) (fun r hr T k1 k2 => ?_) (fun hall => ?_) (fun hex => ?_)
  · try simp only [jn_a, tryM_a, req_a, bd_a, ret_a, lft_a, nox_a, thr_a, onC_n, onC_r, ite_a, decide_eq_true_eq, eq_self, if_true, Bool.false_eq_true, if_false, Bool.not_true, Bool.not_false, Bool.not_eq_true', decide_eq_false_iff_not, Bool.true_eq_false, not_true, not_false_iff]
    refine ite_P (fun hlen => k2 fun z => hlen (by rw [z.1])) (fun hlen => ?_)
    have hlen : (r.length : Int) = t.length := by simpa using hlen
    refine forC_all (fun e => 0 ≤ e ∧ e < t.length) (fun e he T' j1 j2 => ?_) (fun hh => k1 ⟨by omega, hh⟩) (fun ⟨e, he, hn⟩ => k2 fun z => hn (z.2 e he))
    try simp only [jn_a, tryM_a, req_a, bd_a, ret_a, lft_a, nox_a, thr_a, onC_n, onC_r, ite_a, decide_eq_true_eq, eq_self, if_true, Bool.false_eq_true, if_false, Bool.not_true, Bool.not_false, Bool.not_eq_true', decide_eq_false_iff_not, Bool.true_eq_false, not_true, not_false_iff]
    refine ite_P (fun c => ite_P (fun d => j2 fun z => d z.2) fun d => j1 ⟨c, by simpa using d⟩) fun c => j2 fun z => c z.1
  · try simp only [jn_a, tryM_a, req_a, bd_a, ret_a, lft_a, nox_a, thr_a, onC_n, onC_r, ite_a, decide_eq_true_eq, eq_self, if_true, Bool.false_eq_true, if_false, Bool.not_true, Bool.not_false, Bool.not_eq_true', decide_eq_false_iff_not, Bool.true_eq_false, not_true, not_false_iff]
    have sq : Sq t := sq_iff.mpr hall
    refine rng_M (by omega) ?_
    refine forC_all (fun x => ent t 0 x = x ∧ ent t x 0 = x) (fun x hx T k1 k2 => ?_) (fun hh => ?_) (fun hh => ?_)
    · rw [mem_rgs] at hx
      try simp only [jn_a, tryM_a, req_a, bd_a, ret_a, lft_a, nox_a, thr_a, onC_n, onC_r, ite_a, decide_eq_true_eq, eq_self, if_true, Bool.false_eq_true, if_false, Bool.not_true, Bool.not_false, Bool.not_eq_true', decide_eq_false_iff_not, Bool.true_eq_false, not_true, not_false_iff]
      refine sq.ix2 ⟨by omega, by omega⟩ hx ?_
      refine ite_P (fun c => k2 fun z => c z.1) fun c => ?_
      refine sq.ix2 hx ⟨by omega, by omega⟩ ?_
      refine ite_P (fun d => k2 fun z => d z.2) fun d => k1 ⟨by simpa using c, by simpa using d⟩
    · try simp only [jn_a, tryM_a, req_a, bd_a, ret_a, lft_a, nox_a, thr_a, onC_n, onC_r, ite_a, decide_eq_true_eq, eq_self, if_true, Bool.false_eq_true, if_false, Bool.not_true, Bool.not_false, Bool.not_eq_true', decide_eq_false_iff_not, Bool.true_eq_false, not_true, not_false_iff]
      have id : IdT t := fun x hx => hh x (mem_rgs.mpr hx)
      by_cases hp : 0 < t.length
      · rw [decide_eq_true (by omega)]
        exact h1 sq id hp
      · rw [decide_eq_false (by omega)]
        exact h2 fun z => hp z.2.2
    · try simp only [jn_a, tryM_a, req_a, bd_a, ret_a, lft_a, nox_a, thr_a, onC_n, onC_r, ite_a, decide_eq_true_eq, eq_self, if_true, Bool.false_eq_true, if_false, Bool.not_true, Bool.not_false, Bool.not_eq_true', decide_eq_false_iff_not, Bool.true_eq_false, not_true, not_false_iff]
      obtain ⟨x, hx, hn⟩ := hh
      rw [mem_rgs] at hx
      exact h2 fun z => hn (z.2.1 x hx)
  · try simp only [jn_a, tryM_a, req_a, bd_a, ret_a, lft_a, nox_a, thr_a, onC_n, onC_r, ite_a, decide_eq_true_eq, eq_self, if_true, Bool.false_eq_true, if_false, Bool.not_true, Bool.not_false, Bool.not_eq_true', decide_eq_false_iff_not, Bool.true_eq_false, not_true, not_false_iff]
    obtain ⟨r, hr, hn⟩ := hex
    exact h2 fun z => hn (sq_iff.mp z.1 r hr)
theorem is_associative_M {t : List (List Int)} {Q : Bool → Prop} (hl : t.length ≤ 1000) (sq : Sq t) (h1 : AsT t → Q true) (h2 : ¬ AsT t → Q false) : Mi.is_associative t Q noE := by
  unfold Mi.is_associative
  try simp only [jn_a, tryM_a, req_a, bd_a, ret_a, lft_a, nox_a, thr_a, onC_n, onC_r, ite_a, decide_eq_true_eq, eq_self, if_true, Bool.false_eq_true, if_false, Bool.not_true, Bool.not_false, Bool.not_eq_true', decide_eq_false_iff_not, Bool.true_eq_false, not_true, not_false_iff]
  have key : ∀ x y : Int, Rn t.length x → Rn t.length y → ((row t y).map (ent t x) = row t (ent t x y) ↔ ∀ z : Int, Rn t.length z → ent t (ent t x y) z = ent t x (ent t y z)) := by
    intro x y hx hy
    rw [row_eq sq (sq.erg hx hy), row_eq sq hy, List.map_map]
    constructor
    · intro h z hz
      exact (List.map_inj_left.mp h z (mem_els.mpr hz)).symm
    · intro h
      exact List.map_congr_left fun z hz => (h z (mem_els.mp hz)).symm
  refine forC_all (fun r => ∀ y : Int, Rn t.length y → (row t y).map (fun z => r.getD z.toNat 0) = row t (r.getD y.toNat 0)) (fun r hr T k1 k2 => ?_) (fun hall => ?_) (fun hex => ?_)
  · try simp only [jn_a, tryM_a, req_a, bd_a, ret_a, lft_a, nox_a, thr_a, onC_n, onC_r, ite_a, decide_eq_true_eq, eq_self, if_true, Bool.false_eq_true, if_false, Bool.not_true, Bool.not_false, Bool.not_eq_true', decide_eq_false_iff_not, Bool.true_eq_false, not_true, not_false_iff]
    have hrl := sq.len r hr
    have hrg := sq.rg r hr
    have hg : ∀ z : Int, Rn t.length z → r[z.toNat]? = some (r.getD z.toNat 0) := fun z hz => by
      rw [List.getD_eq_getElem?_getD, List.getElem?_eq_getElem (by have := hz.1; have := hz.2; omega)]
      rfl
    refine rng_M (by omega) ?_
    refine forC_all (fun y => (row t y).map (fun z => r.getD z.toNat 0) = row t (r.getD y.toNat 0)) (fun y hy T' j1 j2 => ?_) (fun hh => ?_) (fun hh => ?_)
    · rw [mem_rgs] at hy
      try simp only [jn_a, tryM_a, req_a, bd_a, ret_a, lft_a, nox_a, thr_a, onC_n, onC_r, ite_a, decide_eq_true_eq, eq_self, if_true, Bool.false_eq_true, if_false, Bool.not_true, Bool.not_false, Bool.not_eq_true', decide_eq_false_iff_not, Bool.true_eq_false, not_true, not_false_iff]
      refine ix_row hy ?_
      refine ⟨by rw [sq.rlen hy]; omega, ?_⟩
      refine mapM_M (fun z => r.getD z.toNat 0) (fun z hz T2 hT => ?_) ?_
      · have := sq.rg _ (row_mem hy.1 hy.2) z hz
        exact ix_M this.1 (hg z this) hT
      · refine ix_M hy.1 (hg y hy) ?_
        refine ix_row (hrg _ (List.mem_of_getElem? (hg y hy))) ?_
        refine ite_P (fun c => j2 c) fun c => j1 (by simpa using c)
    · exact k1 fun y hy => hh y (mem_rgs.mpr hy)
    · obtain ⟨y, hy, hn⟩ := hh
      rw [mem_rgs] at hy
      exact k2 fun z => hn (z y hy)
  · refine h1 fun x y z hx hy hz => ?_
    exact (key x y hx hy).mp (hall (row t x) (row_mem hx.1 hx.2) y hy) z hz
  · refine h2 fun as => ?_
    obtain ⟨r, hr, hn⟩ := hex
    obtain ⟨i, hi⟩ := List.getElem?_of_mem hr
    have hlt := (List.getElem?_eq_some_iff.mp hi).1
    refine hn fun y hy => ?_
    rw [← row_of hi]
    exact (key i y ⟨by omega, by omega⟩ hy).mpr fun z hz => as i y z ⟨by omega, by omega⟩ hy hz
/-- the object of a group's table -/
def gob (t : List (List Int)) : C_Group := ⟨t.length, t, t.map fun r => (r.idxOf 0 : Nat)⟩
theorem gob_iv {t : List (List Int)} (v : Vt t) : (gob t).f_inverses = (els t.length).map (ivt t) := by
  show t.map _ = _
  conv => lhs; rw [show t = (els t.length).map (row t) from by
    conv => lhs; rw [tab_eq v.sq]
    exact List.map_congr_left fun x hx => (row_eq v.sq (mem_els.mp hx)).symm]
  rw [List.map_map]
  rfl
theorem Group_init_M {t : List (List Int)} {Q : C_Group → Prop} {E : Ek → Prop} (hl : t.length ≤ 1000) (h1 : 32 < t.length → E .LimitExceeded) (h2 : t.length ≤ 32 → ¬ Vt t → E .InvalidGroup) (h3 : t.length ≤ 32 → Vt t → Q (gob t)) : Mi.Group___init__ t Q E := by
  unfold Mi.Group___init__
  try simp only [jn_a, tryM_a, req_a, bd_a, ret_a, lft_a, nox_a, thr_a, onC_n, onC_r, ite_a, decide_eq_true_eq, eq_self, if_true, Bool.false_eq_true, if_false, Bool.not_true, Bool.not_false, Bool.not_eq_true', decide_eq_false_iff_not, Bool.true_eq_false, not_true, not_false_iff]
  refine ite_P (fun c => h1 (by omega)) fun c => ?_
  have c : t.length ≤ 32 := by omega
  refine has_identity_M (by omega) (fun sq id hp => ?_) fun hn => ?_
  · try simp only [jn_a, tryM_a, req_a, bd_a, ret_a, lft_a, nox_a, thr_a, onC_n, onC_r, ite_a, decide_eq_true_eq, eq_self, if_true, Bool.false_eq_true, if_false, Bool.not_true, Bool.not_false, Bool.not_eq_true', decide_eq_false_iff_not, Bool.true_eq_false, not_true, not_false_iff]
    refine forS_all (fun r => (0 : Int) ∈ r) (fun r hr T k1 k2 => ?_) (fun hi => ?_) fun ⟨r, hr, hn⟩ => h2 c fun v => hn (v.inv r hr)
    · show (bd (ret (!memD (0 : Int) r)) _) T E
      try simp only [jn_a, tryM_a, req_a, bd_a, ret_a, lft_a, nox_a, thr_a, onC_n, onC_r, ite_a, decide_eq_true_eq, eq_self, if_true, Bool.false_eq_true, if_false, Bool.not_true, Bool.not_false, Bool.not_eq_true', decide_eq_false_iff_not, Bool.true_eq_false, not_true, not_false_iff, memD]
      exact ite_P (fun z => k2 (by simpa using z)) fun z => k1 (by simpa using z)
    try simp only [jn_a, tryM_a, req_a, bd_a, ret_a, lft_a, nox_a, thr_a, onC_n, onC_r, ite_a, decide_eq_true_eq, eq_self, if_true, Bool.false_eq_true, if_false, Bool.not_true, Bool.not_false, Bool.not_eq_true', decide_eq_false_iff_not, Bool.true_eq_false, not_true, not_false_iff]
    refine is_associative_M hl sq (fun as => ?_) fun as => ?_
    · try simp only [jn_a, tryM_a, req_a, bd_a, ret_a, lft_a, nox_a, thr_a, onC_n, onC_r, ite_a, decide_eq_true_eq, eq_self, if_true, Bool.false_eq_true, if_false, Bool.not_true, Bool.not_false, Bool.not_eq_true', decide_eq_false_iff_not, Bool.true_eq_false, not_true, not_false_iff]
      have v := vt_of sq hp id hi as
      refine ⟨by omega, mapM_M (fun r => r) (fun r hr T hT => hT) ?_⟩
      rw [List.map_id']
      refine ⟨by omega, mapM_M (fun r => (r.idxOf 0 : Nat)) (fun r hr T hT => idx_M (v.inv r hr) hT) ?_⟩
      exact h3 c v
    · try simp only [jn_a, tryM_a, req_a, bd_a, ret_a, lft_a, nox_a, thr_a, onC_n, onC_r, ite_a, decide_eq_true_eq, eq_self, if_true, Bool.false_eq_true, if_false, Bool.not_true, Bool.not_false, Bool.not_eq_true', decide_eq_false_iff_not, Bool.true_eq_false, not_true, not_false_iff]
      exact h2 c fun v => as v.as
  · try simp only [jn_a, tryM_a, req_a, bd_a, ret_a, lft_a, nox_a, thr_a, onC_n, onC_r, ite_a, decide_eq_true_eq, eq_self, if_true, Bool.false_eq_true, if_false, Bool.not_true, Bool.not_false, Bool.not_eq_true', decide_eq_false_iff_not, Bool.true_eq_false, not_true, not_false_iff]
    exact h2 c fun v => hn ⟨v.sq, v.id, v.pos⟩
section
variable {t : List (List Int)}
theorem check_M {x : Int} {Q : Unit → Prop} {E : Ek → Prop} (h1 : Rn t.length x → Q ()) (h2 : ¬ Rn t.length x → E .InvalidElement) : Mi.Group_check (gob t) x Q E := by
  unfold Mi.Group_check
  try simp only [jn_a, tryM_a, req_a, bd_a, ret_a, lft_a, nox_a, thr_a, onC_n, onC_r, ite_a, decide_eq_true_eq, eq_self, if_true, Bool.false_eq_true, if_false, Bool.not_true, Bool.not_false, Bool.not_eq_true', decide_eq_false_iff_not, Bool.true_eq_false, not_true, not_false_iff, gob]
  refine ite_P (fun c => ite_P (fun d => h2 fun z => d z.2) fun d => h1 ⟨c, by simpa using d⟩) fun c => h2 fun z => c z.1
theorem multiply_M (v : Vt t) {x y : Int} {Q : Int → Prop} {E : Ek → Prop} (h1 : Rn t.length x → Rn t.length y → Q (ent t x y)) (h2 : ¬ (Rn t.length x ∧ Rn t.length y) → E .InvalidElement) : Mi.Group_multiply (gob t) x y Q E := by
  unfold Mi.Group_multiply
  try simp only [jn_a, tryM_a, req_a, bd_a, ret_a, lft_a, nox_a, thr_a, onC_n, onC_r, ite_a, decide_eq_true_eq, eq_self, if_true, Bool.false_eq_true, if_false, Bool.not_true, Bool.not_false, Bool.not_eq_true', decide_eq_false_iff_not, Bool.true_eq_false, not_true, not_false_iff]
  refine check_M (fun hx => ?_) fun hn => h2 fun z => hn z.1
  refine check_M (fun hy => ?_) fun hn => h2 fun z => hn z.2
  exact v.sq.ix2 hx hy (h1 hx hy)
theorem inverse_M (v : Vt t) {x : Int} {Q : Int → Prop} {E : Ek → Prop} (h1 : Rn t.length x → Q (ivt t x)) (h2 : ¬ Rn t.length x → E .InvalidElement) : Mi.Group_inverse (gob t) x Q E := by
  unfold Mi.Group_inverse
  try simp only [jn_a, tryM_a, req_a, bd_a, ret_a, lft_a, nox_a, thr_a, onC_n, onC_r, ite_a, decide_eq_true_eq, eq_self, if_true, Bool.false_eq_true, if_false, Bool.not_true, Bool.not_false, Bool.not_eq_true', decide_eq_false_iff_not, Bool.true_eq_false, not_true, not_false_iff]
  refine check_M (fun hx => ?_) h2
  rw [gob_iv v]
  refine ix_M hx.1 (v := ivt t x) ?_ (h1 hx)
  rw [List.getElem?_map, els_get (by have := hx.1; have := hx.2; omega), Int.toNat_of_nonneg hx.1]
  rfl
theorem order_of_M (v : Vt t) {x : Int} {Q : Int → Prop} {E : Ek → Prop} (h1 : Rn t.length x → ∀ k : Nat, IsOrd (ent t) x k → Q (k : Int)) (h2 : ¬ Rn t.length x → E .InvalidElement) : Mi.Group_order_of (gob t) x Q E := by
  unfold Mi.Group_order_of
  try simp only [jn_a, tryM_a, req_a, bd_a, ret_a, lft_a, nox_a, thr_a, onC_n, onC_r, ite_a, decide_eq_true_eq, eq_self, if_true, Bool.false_eq_true, if_false, Bool.not_true, Bool.not_false, Bool.not_eq_true', decide_eq_false_iff_not, Bool.true_eq_false, not_true, not_false_iff]
  refine check_M (fun hx => ?_) h2
  obtain ⟨k, ho, hk⟩ := v.g.has_ord hx
  refine wh_inv (fun (a : Int × Int) => ∃ i : Nat, 0 < i ∧ i ≤ k ∧ a = ((i : Int), pow (ent t) x i)) (fun a => (k - a.1).toNat) ⟨1, by omega, ho.pos, by rw [show pow (ent t) x 1 = x from v.g.i1 hx]; rfl⟩ fun a ha T hT => ?_
  obtain ⟨i, i0, ik, rfl⟩ := ha
  try simp only [jn_a, tryM_a, req_a, bd_a, ret_a, lft_a, nox_a, thr_a, onC_n, onC_r, ite_a, decide_eq_true_eq, eq_self, if_true, Bool.false_eq_true, if_false, Bool.not_true, Bool.not_false, Bool.not_eq_true', decide_eq_false_iff_not, Bool.true_eq_false, not_true, not_false_iff]
  refine ⟨fun hc => ?_, fun hc => ?_⟩
  · have hik : i ≠ k := fun e => hc (by rw [e]; exact ho.one)
    refine v.sq.ix2 (v.g.pwR hx i) hx ?_
    exact hT _ ⟨i + 1, by omega, by omega, by simp [pow]⟩ (by simp only; omega)
  · have hc : pow (ent t) x i = 0 := by simpa using hc
    have : i = k := by
      rcases Nat.lt_or_ge i k with h | h
      · exact absurd hc (ho.least i i0 h)
      · omega
    rw [this]
    exact h1 hx k ho
theorem steps_M (v : Vt t) {x : Int} (hx : Rn t.length x) {n : Int} {Q : Int → Prop} {E : ε → Prop} (h : Q (pow (ent t) x n.toNat)) : forS (rgs 0 n) 0 (fun _ current => bd (bd (ix t current) fun x11 => ix x11 x) fun current => ret current) Q E := by
  refine forS_inv (fun i a => a = pow (ent t) x i) rfl (fun i y a T hy ha hT => ?_) fun a ha => ?_
  · subst ha
    try simp only [jn_a, tryM_a, req_a, bd_a, ret_a, lft_a, nox_a, thr_a, onC_n, onC_r, ite_a, decide_eq_true_eq, eq_self, if_true, Bool.false_eq_true, if_false, Bool.not_true, Bool.not_false, Bool.not_eq_true', decide_eq_false_iff_not, Bool.true_eq_false, not_true, not_false_iff]
    exact v.sq.ix2 (v.g.pwR hx i) hx (hT _ rfl)
  · rw [rgs_length] at ha
    rw [ha, show (n - 0).toNat = n.toNat by omega]
    exact h
theorem power_M (v : Vt t) {x e : Int} {Q : Int → Prop} {E : Ek → Prop} (hlen : t.length ≤ 1000) (h1 : Rn t.length x → ∀ k : Nat, IsOrd (ent t) x k → Q (pow (ent t) x (e % k).toNat)) (h2 : ¬ Rn t.length x → E .InvalidElement) : Mi.Group_power (gob t) x e Q E := by
  unfold Mi.Group_power
  try simp only [jn_a, tryM_a, req_a, bd_a, ret_a, lft_a, nox_a, thr_a, onC_n, onC_r, ite_a, decide_eq_true_eq, eq_self, if_true, Bool.false_eq_true, if_false, Bool.not_true, Bool.not_false, Bool.not_eq_true', decide_eq_false_iff_not, Bool.true_eq_false, not_true, not_false_iff]
  refine order_of_M v (fun hx k ho => ?_) h2
  obtain ⟨k', ho', hk'⟩ := v.g.has_ord hx
  have ek : k = k' := ho.eq ho'
  have kp := ho.pos
  refine md_M (by omega) ?_
  have b1 := Int.emod_nonneg e (b := (k : Int)) (by omega)
  have b2 := Int.emod_lt_of_pos e (b := (k : Int)) (by omega)
  refine rng_M (by omega) ?_
  exact steps_M v hx (h1 hx k ho)
theorem fill_set {n : Nat} {r : List Int} {p : Int} (hp : Rn n p) : ((els n).map fun x => decide (x ∈ r)).set p.toNat true = (els n).map fun x => decide (x ∈ r ++ [p]) := by
  apply List.ext_getElem?
  intro i
  have := hp.1
  have := hp.2
  rw [List.getElem?_set, List.length_map, els_length]
  by_cases hi : i < n
  · by_cases e : p.toNat = i
    · rw [if_pos e, if_pos (by omega), List.getElem?_map, els_get hi]
      have : p = (i : Int) := by omega
      simp [this]
    · rw [if_neg e, List.getElem?_map, List.getElem?_map, els_get hi]
      have : (i : Int) ≠ p := by omega
      simp [this]
  · rw [List.getElem?_eq_none (by rw [List.length_map, els_length]; omega), List.getElem?_eq_none (by rw [List.length_map, els_length]; omega)]
    split
    · rw [if_neg (by omega)]
    · rfl
theorem generated_M (v : Vt t) {ms : List Int} {Q : List Int → Prop} {E : Ek → Prop} (hlen : t.length ≤ 1000) (h1 : (∀ a, a ∈ ms → Rn t.length a) → ∀ r, IsSet r (Cl (ent t) ms) → Q r) (h2 : ¬ (∀ a, a ∈ ms → Rn t.length a) → E .InvalidElement) : Mi.Group_generated (gob t) ms Q E := by
  unfold Mi.Group_generated
  try simp only [jn_a, tryM_a, req_a, bd_a, ret_a, lft_a, nox_a, thr_a, onC_n, onC_r, ite_a, decide_eq_true_eq, eq_self, if_true, Bool.false_eq_true, if_false, Bool.not_true, Bool.not_false, Bool.not_eq_true', decide_eq_false_iff_not, Bool.true_eq_false, not_true, not_false_iff]
  refine forS_all (Rn t.length) (fun a ha T k1 k2 => check_M k1 k2) (fun hm => ?_) fun ⟨a, ha, hn⟩ => h2 fun z => hn (z a ha)
  rw [show (gob t).f_order = (t.length : Int) from rfl]
  refine rng_M (by omega) ⟨by rw [rgs_length]; omega, mapM_M (fun x => decide (x = 0)) (fun x hx T hT => hT) ?_⟩
  rw [rgs_els]
  have g := v.g
  refine wh_inv (fun (a : List Int × List Bool × Int) => Bf (ent t) ms a.1 ∧ a.2.1 = (els t.length).map (fun x => decide (x ∈ a.1)) ∧ 0 ≤ a.2.2 ∧ a.2.2 ≤ a.1.length ∧ Dn (ent t) ms a.1 a.2.2.toNat) (fun a => (t.length - a.2.2).toNat) ⟨.start, by simp, by simp, by simp, fun i x hi => by simp at hi⟩ fun a ha T hT => ?_
  obtain ⟨r, kn, at'⟩ := a
  dsimp only at ha hT
  obtain ⟨b, e, a0, a1, d⟩ := ha
  replace e : kn = (els t.length).map (fun x => decide (x ∈ r)) := e
  subst e
  have bl := b.len g hm
  try simp only [jn_a, tryM_a, req_a, bd_a, ret_a, lft_a, nox_a, thr_a, onC_n, onC_r, ite_a, decide_eq_true_eq, eq_self, if_true, Bool.false_eq_true, if_false, Bool.not_true, Bool.not_false, Bool.not_eq_true', decide_eq_false_iff_not, Bool.true_eq_false, not_true, not_false_iff]
  refine ⟨fun hc => ?_, fun hc => ?_⟩
  · obtain ⟨x, hx⟩ : ∃ x, r[at'.toNat]? = some x := ⟨_, List.getElem?_eq_getElem (by omega)⟩
    have hxm : x ∈ r := List.mem_of_getElem? hx
    have hxr : Rn t.length x := (b.cl x hxm).r g hm
    refine forS_inv (fun j (s : List Int × List Bool) => Bf (ent t) ms s.1 ∧ s.2 = (els t.length).map (fun x => decide (x ∈ s.1)) ∧ (∃ e, s.1 = r ++ e) ∧ ∀ i a, i < j → ms[i]? = some a → ent t x a ∈ s.1) ⟨b, rfl, ⟨[], by simp⟩, fun i a hi => by omega⟩ (fun j m s T' hjm hs hT' => ?_) fun s hs => ?_
    · obtain ⟨r', kn'⟩ := s
      dsimp only at hs
      obtain ⟨b', ek, ⟨e, he⟩, hd⟩ := hs
      replace ek : kn' = (els t.length).map (fun x => decide (x ∈ r')) := ek
      subst ek
      have hma : m ∈ ms := List.mem_of_getElem? hjm
      have hmr := hm m hma
      have hx' : r'[at'.toNat]? = some x := by rw [he, List.getElem?_append_left (by omega)]; exact hx
      try simp only [jn_a, tryM_a, req_a, bd_a, ret_a, lft_a, nox_a, thr_a, onC_n, onC_r, ite_a, decide_eq_true_eq, eq_self, if_true, Bool.false_eq_true, if_false, Bool.not_true, Bool.not_false, Bool.not_eq_true', decide_eq_false_iff_not, Bool.true_eq_false, not_true, not_false_iff]
      refine ix_M a0 hx' ?_
      refine v.sq.ix2 hxr hmr ?_
      have hpr := v.sq.erg hxr hmr
      refine ix_M hpr.1 (v := decide (ent t x m ∈ r')) (by rw [List.getElem?_map, els_get (by have := hpr.1; have := hpr.2; omega), Int.toNat_of_nonneg hpr.1]; rfl) ?_
      refine ite_P (fun c => ?_) fun c => ?_
      · have c : ent t x m ∉ r' := by simpa using c
        refine put_M hpr.1 (by rw [List.length_map, els_length]; exact hpr.2) ?_
        rw [fill_set hpr]
        refine app_M (by have := b'.len g hm; omega) ?_
        refine hT' _ ⟨b'.add (by rw [he]; exact List.mem_append_left _ hxm) hma c, rfl, ⟨e ++ [ent t x m], by rw [he, List.append_assoc]⟩, fun i a hi ha => ?_⟩
        rcases Nat.lt_or_ge i j with h | h
        · exact List.mem_append_left _ (hd i a h ha)
        · have : i = j := by omega
          subst this
          rw [hjm] at ha
          cases ha
          simp
      · have c : ent t x m ∈ r' := by simpa using c
        refine hT' _ ⟨b', rfl, ⟨e, he⟩, fun i a hi ha => ?_⟩
        rcases Nat.lt_or_ge i j with h | h
        · exact hd i a h ha
        · have : i = j := by omega
          subst this
          rw [hjm] at ha
          cases ha
          exact c
    · obtain ⟨r', kn'⟩ := s
      dsimp only at hs
      obtain ⟨b', ek, ⟨e, he⟩, hd⟩ := hs
      replace ek : kn' = (els t.length).map (fun x => decide (x ∈ r')) := ek
      subst ek
      try simp only [jn_a, tryM_a, req_a, bd_a, ret_a, lft_a, nox_a, thr_a, onC_n, onC_r, ite_a, decide_eq_true_eq, eq_self, if_true, Bool.false_eq_true, if_false, Bool.not_true, Bool.not_false, Bool.not_eq_true', decide_eq_false_iff_not, Bool.true_eq_false, not_true, not_false_iff]
      refine hT _ ⟨b', rfl, by simp only; omega, by simp only; rw [he, List.length_append]; omega, ?_⟩ (by simp only; omega)
      simp only
      intro i y hi hy a ha
      rcases Nat.lt_or_ge i at'.toNat with h | h
      · have := (Dn.app (e := e) d (by omega)) i y h (by rw [← he]; exact hy) a ha
        rw [he]
        exact this
      · have : i = at'.toNat := by omega
        subst this
        rw [he, List.getElem?_append_left (by omega), hx] at hy
        cases hy
        obtain ⟨j, hj⟩ := List.getElem?_of_mem ha
        exact hd j a (List.getElem?_eq_some_iff.mp hj).1 hj
  · have hc : (r.length : Int) ≤ at' := by simpa using hc
    have e : at'.toNat = r.length := by omega
    rw [e] at d
    exact srt_M b.nd (b.done d) (h1 hm)
theorem gens_M (v : Vt t) {Q : List Int → Prop} {E : Ek → Prop} (hlen : t.length ≤ 1000) (h : Q (gens t.length (ent t))) : Mi.Group_generators (gob t) Q E := by
  unfold Mi.Group_generators
  try simp only [jn_a, tryM_a, req_a, bd_a, ret_a, lft_a, nox_a, thr_a, onC_n, onC_r, ite_a, decide_eq_true_eq, eq_self, if_true, Bool.false_eq_true, if_false, Bool.not_true, Bool.not_false, Bool.not_eq_true', decide_eq_false_iff_not, Bool.true_eq_false, not_true, not_false_iff]
  rw [show (gob t).f_order = (t.length : Int) from rfl]
  have g := v.g
  have hp := g.pos
  refine rng_M (by omega) ?_
  have e : rgs 1 (t.length : Int) = (List.range (t.length - 1)).map fun (i : Nat) => (1 : Int) + (i : Int) := by
    unfold rgs
    rw [show ((t.length : Int) - 1).toNat = t.length - 1 by omega]
  rw [e]
  unfold gens at h
  have hmem : ∀ x, x ∈ ((List.range (t.length - 1)).map fun (i : Nat) => (1 : Int) + (i : Int)) → Rn t.length x := fun x hx => by
    rw [List.mem_map] at hx
    obtain ⟨i, hi, rfl⟩ := hx
    rw [List.mem_range] at hi
    exact ⟨by omega, by omega⟩
  have hlim : ((List.range (t.length - 1)).map fun (i : Nat) => (1 : Int) + (i : Int)).length ≤ 1000 := by rw [List.length_map, List.length_range]; omega
  generalize ((List.range (t.length - 1)).map fun (i : Nat) => (1 : Int) + (i : Int)) = l at *
  refine forS_inv (fun i (a : List Int × List Int) => a.1 = (l.take i).foldl (genStep (ent t)) [] ∧ (∀ x, x ∈ a.1 → x ∈ l) ∧ a.1.length ≤ i ∧ IsSet a.2 (Cl (ent t) a.1)) ⟨rfl, (fun x hx => by cases hx), (by simp), ?_⟩ (fun i x a T hx ha hT => ?_) fun a ha => ?_
  · refine ⟨List.pairwise_singleton _ _, fun x => ?_⟩
    rw [List.mem_singleton]
    refine ⟨(fun e => by rw [e]; exact .z), fun c => ?_⟩
    cases c with
    | z => rfl
    | s _ h => cases h
  · obtain ⟨f, r⟩ := a
    obtain ⟨h1, h2, h3, h4⟩ := ha
    simp only at h1 h2 h3 h4
    have hxm : x ∈ l := List.mem_of_getElem? hx
    have hlt := (List.getElem?_eq_some_iff.mp hx).1
    have htk : (l.take (i + 1)).foldl (genStep (ent t)) [] = genStep (ent t) f x := by
      rw [List.take_add_one, hx, h1]
      simp
    try simp only [jn_a, tryM_a, req_a, bd_a, ret_a, lft_a, nox_a, thr_a, onC_n, onC_r, ite_a, decide_eq_true_eq, eq_self, if_true, Bool.false_eq_true, if_false, Bool.not_true, Bool.not_false, Bool.not_eq_true', decide_eq_false_iff_not, Bool.true_eq_false, not_true, not_false_iff, memD]
    refine ite_P (fun c => ?_) fun c => ?_
    · have c : ¬ Cl (ent t) f x := fun z => by
        have := (h4.mem x).mpr z
        simp [this] at c
      refine app_M (by omega) ?_
      refine generated_M v hlen (fun hm r' hr' => ?_) fun hn => absurd (fun a ha => ?_) hn
      · try simp only [jn_a, tryM_a, req_a, bd_a, ret_a, lft_a, nox_a, thr_a, onC_n, onC_r, ite_a, decide_eq_true_eq, eq_self, if_true, Bool.false_eq_true, if_false, Bool.not_true, Bool.not_false, Bool.not_eq_true', decide_eq_false_iff_not, Bool.true_eq_false, not_true, not_false_iff]
        refine hT _ ⟨by rw [htk, genStep, if_neg c], fun y hy => ?_, by simp only [List.length_append, List.length_singleton]; omega, hr'⟩
        rcases List.mem_append.mp hy with hy | hy
        · exact h2 y hy
        · rw [List.mem_singleton] at hy
          exact hy ▸ hxm
      · rcases List.mem_append.mp ha with ha | ha
        · exact hmem a (h2 a ha)
        · rw [List.mem_singleton] at ha
          exact ha ▸ hmem x hxm
    · have c : Cl (ent t) f x := (h4.mem x).mp (by simpa using c)
      exact hT _ ⟨by rw [htk, genStep, if_pos c], h2, by simp only; omega, h4⟩
  · obtain ⟨f, r⟩ := a
    obtain ⟨h1, _⟩ := ha
    simp only at h1
    rw [List.take_length] at h1
    try simp only [jn_a, tryM_a, req_a, bd_a, ret_a, lft_a, nox_a, thr_a, onC_n, onC_r, ite_a, decide_eq_true_eq, eq_self, if_true, Bool.false_eq_true, if_false, Bool.not_true, Bool.not_false, Bool.not_eq_true', decide_eq_false_iff_not, Bool.true_eq_false, not_true, not_false_iff]
    rw [h1]
    exact h
theorem is_commutative_M (v : Vt t) {Q : Bool → Prop} {E : Empty → Prop} (hlen : t.length ≤ 1000) (h1 : (∀ x y, Rn t.length x → Rn t.length y → ent t x y = ent t y x) → Q true) (h2 : ¬ (∀ x y, Rn t.length x → Rn t.length y → ent t x y = ent t y x) → Q false) : Mi.Group_is_commutative (gob t) Q E := by
  unfold Mi.Group_is_commutative
  try simp only [jn_a, tryM_a, req_a, bd_a, ret_a, lft_a, nox_a, thr_a, onC_n, onC_r, ite_a, decide_eq_true_eq, eq_self, if_true, Bool.false_eq_true, if_false, Bool.not_true, Bool.not_false, Bool.not_eq_true', decide_eq_false_iff_not, Bool.true_eq_false, not_true, not_false_iff]
  rw [show (gob t).f_order = (t.length : Int) from rfl]
  refine rng_M (by omega) ?_
  refine forC_all (fun x => ∀ y, 0 ≤ y → y < x → ent t x y = ent t y x) (fun x hx T k1 k2 => ?_) (fun hh => ?_) (fun hh => ?_)
  · rw [mem_rgs] at hx
    try simp only [jn_a, tryM_a, req_a, bd_a, ret_a, lft_a, nox_a, thr_a, onC_n, onC_r, ite_a, decide_eq_true_eq, eq_self, if_true, Bool.false_eq_true, if_false, Bool.not_true, Bool.not_false, Bool.not_eq_true', decide_eq_false_iff_not, Bool.true_eq_false, not_true, not_false_iff]
    refine rng_M (by omega) ?_
    refine forC_all (fun y => ent t x y = ent t y x) (fun y hy T' j1 j2 => ?_) (fun hh => ?_) (fun hh => ?_)
    · rw [mem_rgs] at hy
      have hy' : Rn t.length y := ⟨hy.1, by omega⟩
      try simp only [jn_a, tryM_a, req_a, bd_a, ret_a, lft_a, nox_a, thr_a, onC_n, onC_r, ite_a, decide_eq_true_eq, eq_self, if_true, Bool.false_eq_true, if_false, Bool.not_true, Bool.not_false, Bool.not_eq_true', decide_eq_false_iff_not, Bool.true_eq_false, not_true, not_false_iff]
      refine v.sq.ix2 hx hy' (v.sq.ix2 hy' hx ?_)
      exact ite_P (fun c => j2 c) fun c => j1 (by simpa using c)
    · exact k1 fun y a b => hh y (mem_rgs.mpr ⟨a, b⟩)
    · obtain ⟨y, hy, hn⟩ := hh
      rw [mem_rgs] at hy
      exact k2 fun z => hn (z y hy.1 hy.2)
  · refine h1 fun x y hx hy => ?_
    rcases Int.lt_trichotomy x y with h | h | h
    · exact (hh y (mem_rgs.mpr hy) x hx.1 h).symm
    · rw [h]
    · exact hh x (mem_rgs.mpr hx) y hy.1 h
  · obtain ⟨x, hx, hn⟩ := hh
    rw [mem_rgs] at hx
    exact h2 fun z => hn fun y a b => z x y hx ⟨a, by omega⟩
end
/-! ### drawing -/
theorem law_bag_M {script : List Int} {k : Int} {Q : Unit → Prop} (h0 : 0 ≤ k) (h1 : k ≤ 1000) (h : Q ()) : Mi._law_bag script k Q E := by
  unfold Mi._law_bag
  try simp only [tryM_a, req_a, bd_a, ret_a, lft_a, nox_a, thr_a, onC_n, onC_r, ite_a, decide_eq_true_eq, eq_self, if_true, Bool.false_eq_true, if_false, Bool.not_true, Bool.not_false, Bool.not_eq_true', decide_eq_false_iff_not, Bool.true_eq_false, not_true, not_false_iff]
  refine jn_M (fun _ => True) (fun T hT => ?_) fun cell _ => ?_
  · try simp only [tryM_a, req_a, bd_a, ret_a, lft_a, nox_a, thr_a, onC_n, onC_r, ite_a, decide_eq_true_eq, eq_self, if_true, Bool.false_eq_true, if_false, Bool.not_true, Bool.not_false, Bool.not_eq_true', decide_eq_false_iff_not, Bool.true_eq_false, not_true, not_false_iff]
    refine ite_P (fun c => ?_) fun c => hT _ trivial
    have hk : k.toNat < script.length := by omega
    exact ix_M h0 (List.getElem?_eq_getElem hk) (hT _ trivial)
  · try simp only [tryM_a, req_a, bd_a, ret_a, lft_a, nox_a, thr_a, onC_n, onC_r, ite_a, decide_eq_true_eq, eq_self, if_true, Bool.false_eq_true, if_false, Bool.not_true, Bool.not_false, Bool.not_eq_true', decide_eq_false_iff_not, Bool.true_eq_false, not_true, not_false_iff]
    refine ⟨⟨by decide, by decide +kernel⟩, ?_⟩
    refine ite_P (fun c => ?_) fun c => ?_
    · exact md_M (by decide) ⟨rfl, h⟩
    · have hc : (if cell < 0 then -cell else cell) < 10 ^ 18 := by
        have : ¬ (10 : Int) ^ (18 : Int).toNat ≤ (if cell < 0 then -cell else cell) := c
        have e : (10 : Int) ^ (18 : Int).toNat = 10 ^ 18 := rfl
        omega
      have hc : cell.natAbs < 2 ^ 64 := by
        split at hc <;> omega
      refine ml_M 64 20 (by decide) (by decide) (by decide) hc (by decide) ?_
      refine ml_M 20 20 (by decide) (by decide) (by decide) (by decide) (by omega) ?_
      exact md_M (by decide) ⟨rfl, h⟩
theorem law_take_M {n : Int} {Q : Int → Prop} (h0 : 0 < n) (h1 : n < 2 ^ 1000) (h : ∀ r, 0 ≤ r → r < n → Q r) : Mi._law_take () n Q E := by
  refine ⟨⟨h0, ?_⟩, h⟩
  have := log2_lt (n := n.natAbs) (k := 1000) (by decide) (by omega)
  omega
theorem law_power_M {b n m : Int} {Q : Int → Prop} (hm : 0 < m) (hm2 : m < 2 ^ 1000) (hb : b.natAbs < 2 ^ 1000) (hn0 : 0 ≤ n) (hn : n < 2 ^ 62) (h : Q (b ^ n.toNat % m)) : Mi._law_power b n m Q E := by
  unfold Mi._law_power
  try simp only [jn_a, tryM_a, req_a, bd_a, ret_a, lft_a, nox_a, thr_a, onC_n, onC_r, ite_a, decide_eq_true_eq, eq_self, if_true, Bool.false_eq_true, if_false, Bool.not_true, Bool.not_false, Bool.not_eq_true', decide_eq_false_iff_not, Bool.true_eq_false, not_true, not_false_iff]
  refine md_M hm ?_
  refine rng_M (by omega) ?_
  refine forS_inv (fun i a => a = b ^ i % m) (by simp) (fun i x a T hx ha hT => ?_) fun a ha => ?_
  · subst ha
    try simp only [jn_a, tryM_a, req_a, bd_a, ret_a, lft_a, nox_a, thr_a, onC_n, onC_r, ite_a, decide_eq_true_eq, eq_self, if_true, Bool.false_eq_true, if_false, Bool.not_true, Bool.not_false, Bool.not_eq_true', decide_eq_false_iff_not, Bool.true_eq_false, not_true, not_false_iff]
    have h1 := Int.emod_nonneg (b ^ i) (show m ≠ 0 by omega)
    have h2 := Int.emod_lt_of_pos (b ^ i) hm
    refine ml_M 1000 1000 (by decide) (by decide) (by decide) (by omega) hb ?_
    refine md_M hm (hT _ ?_)
    rw [Int.pow_succ, Int.mul_emod (b ^ i) b, Int.mul_emod (b ^ i % m) b, Int.emod_emod]
  · rw [rgs_length, show (n - 0).toNat = n.toNat by omega] at ha
    rw [ha]
    exact h
/-! ### tables of groups -/
theorem mul_pos_le {a b c : Int} (ha : 0 < a) (hb : 0 < b) (h : b ≤ c / a) : 0 < a * b ∧ a * b ≤ c := by
  refine ⟨Int.mul_pos ha hb, ?_⟩
  have := Int.mul_le_of_le_ediv ha h
  rw [Int.mul_comm]
  exact this
theorem ediv_r {a c : Int} (ha : 0 < a) (h : a ≤ c) : 1 ≤ c / a ∧ c / a ≤ c := ⟨Int.le_ediv_of_mul_le ha (by omega), Int.ediv_le_self _ (by omega)⟩
structure PR (n m : Int) (p : Int × Int) : Prop where
  r1 : 1 ≤ p.1
  r2 : p.1 ≤ n
  s1 : 0 ≤ p.2
  s2 : p.2 < n
  hr : (p.1 ^ m.toNat - 1) % n = 0
  hs : ((p.1 - 1) * p.2) % n = 0
theorem els_succ (n : Nat) : els (n + 1) = els n ++ [(n : Int)] := by
  unfold els
  rw [List.range_succ, List.map_append]
  rfl
theorem law_metacyclic_M {limit : Int} {Q : List (List Int) → Prop} (h0 : 1 ≤ limit) (h1 : limit ≤ 40) (h : ∀ t, Vt t → (t.length : Int) ≤ limit → Q t) : Mi._law_metacyclic () limit Q E := by
  unfold Mi._law_metacyclic
  try simp only [tryM_a, req_a, bd_a, ret_a, lft_a, nox_a, thr_a, onC_n, onC_r, ite_a, decide_eq_true_eq, eq_self, if_true, Bool.false_eq_true, if_false, Bool.not_true, Bool.not_false, Bool.not_eq_true', decide_eq_false_iff_not, Bool.true_eq_false, not_true, not_false_iff]
  refine law_take_M (by omega) (by omega) fun x1 a1 b1 => ?_
  refine dv_s (by omega) (by omega) ?_
  have e1 := ediv_r (show 0 < 1 + x1 by omega) (show 1 + x1 ≤ limit by omega)
  refine law_take_M (by omega) (by omega) fun x4 a4 b4 => ?_
  have e2 := mul_pos_le (show 0 < 1 + x1 by omega) (show 0 < 1 + x4 by omega) (show 1 + x4 ≤ limit / (1 + x1) by omega)
  refine jn_M (fun (a : Int × Int) => 0 < a.1 ∧ 0 < a.2 ∧ a.1 * a.2 ≤ limit) (fun T hT => ?_) fun a ha => ?_
  · try simp only [tryM_a, req_a, bd_a, ret_a, lft_a, nox_a, thr_a, onC_n, onC_r, ite_a, decide_eq_true_eq, eq_self, if_true, Bool.false_eq_true, if_false, Bool.not_true, Bool.not_false, Bool.not_eq_true', decide_eq_false_iff_not, Bool.true_eq_false, not_true, not_false_iff]
    refine ite_P (fun c => ?_) fun c => ?_
    · refine law_take_M (by omega) (by omega) fun x8 a8 b8 => ?_
      refine ite_P (fun d => ?_) fun d => ?_
      · refine dv_s (by omega) (by omega) ?_
        refine law_take_M (by omega) (by omega) fun x20 a20 b20 => ?_
        exact hT _ ⟨by simp only; omega, by simp only; omega, by simp only; omega⟩
      · exact hT _ ⟨by simp only; omega, by simp only; omega, e2.2⟩
    · exact hT _ ⟨by simp only; omega, by simp only; omega, e2.2⟩
  obtain ⟨n, m⟩ := a
  obtain ⟨n0, m0, nm⟩ := ha
  dsimp only at n0 m0 nm ⊢
  have nm0 : 0 < n * m := Int.mul_pos n0 m0
  have nl : n ≤ limit := by
    have : n * 1 ≤ n * m := Int.mul_le_mul_of_nonneg_left (by omega) (by omega)
    omega
  have ml' : m ≤ limit := by
    have : 1 * m ≤ n * m := Int.mul_le_mul_of_nonneg_right (by omega) (by omega)
    omega
  try simp only [tryM_a, req_a, bd_a, ret_a, lft_a, nox_a, thr_a, onC_n, onC_r, ite_a, decide_eq_true_eq, eq_self, if_true, Bool.false_eq_true, if_false, Bool.not_true, Bool.not_false, Bool.not_eq_true', decide_eq_false_iff_not, Bool.true_eq_false, not_true, not_false_iff]
  refine ml_s (by omega) (by omega) ?_
  refine dv_s nm0 (by omega) ?_
  have e3 := ediv_r nm0 nm
  refine law_take_M (by omega) (by omega) fun x28 a28 b28 => ?_
  obtain ⟨k, hk⟩ : ∃ k, k = 1 + x28 := ⟨_, rfl⟩
  rw [← hk]
  have e4 := mul_pos_le nm0 (show 0 < k by omega) (show k ≤ limit / (n * m) by omega)
  have k0 : 0 < k := by omega
  have kl : k ≤ limit := by omega
  clear a28 b28 e3 e2 b4 a4 e1 a1 b1
  refine rng_M (by omega) ?_
  refine forS_inv (fun i (ps : List (Int × Int)) => (∀ p, p ∈ ps → PR n m p) ∧ (0 < i → ps ≠ []) ∧ ps.length ≤ i * 40) ⟨(fun p hp => by cases hp), (fun z => by omega), by simp⟩ (fun i r ps T hr hps hT => ?_) fun ps hps => ?_
  · obtain ⟨er, il⟩ := rgs_get hr
    obtain ⟨p1, p2, p3⟩ := hps
    try simp only [tryM_a, req_a, bd_a, ret_a, lft_a, nox_a, thr_a, onC_n, onC_r, ite_a, decide_eq_true_eq, eq_self, if_true, Bool.false_eq_true, if_false, Bool.not_true, Bool.not_false, Bool.not_eq_true', decide_eq_false_iff_not, Bool.true_eq_false, not_true, not_false_iff]
    refine rng_M (by omega) ?_
    refine forS_inv (fun j (ps : List (Int × Int)) => (∀ p, p ∈ ps → PR n m p) ∧ (0 < i ∨ 0 < j → ps ≠ []) ∧ ps.length ≤ i * 40 + j) ⟨p1, (fun z => p2 (by omega)), by omega⟩ (fun j s ps T' hs hps hT' => ?_) fun ps hps => ?_
    · obtain ⟨es, jl⟩ := rgs_get hs
      obtain ⟨p1, p2, p3⟩ := hps
      try simp only [tryM_a, req_a, bd_a, ret_a, lft_a, nox_a, thr_a, onC_n, onC_r, ite_a, decide_eq_true_eq, eq_self, if_true, Bool.false_eq_true, if_false, Bool.not_true, Bool.not_false, Bool.not_eq_true', decide_eq_false_iff_not, Bool.true_eq_false, not_true, not_false_iff]
      refine jn_M (fun (ps : List (Int × Int)) => (∀ p, p ∈ ps → PR n m p) ∧ ps ≠ [] ∧ ps.length ≤ i * 40 + (j + 1)) (fun T hT => ?_) (fun ps hps => hT' _ ⟨hps.1, fun _ => hps.2.1, hps.2.2⟩)
      try simp only [tryM_a, req_a, bd_a, ret_a, lft_a, nox_a, thr_a, onC_n, onC_r, ite_a, decide_eq_true_eq, eq_self, if_true, Bool.false_eq_true, if_false, Bool.not_true, Bool.not_false, Bool.not_eq_true', decide_eq_false_iff_not, Bool.true_eq_false, not_true, not_false_iff]
      refine law_power_M n0 (by omega) (by omega) (by omega) (by omega) ?_
      refine md_M n0 ?_
      refine ite_P (fun c => ?_) fun c => ?_
      · refine ml_s (by omega) (by omega) ?_
        refine md_M n0 ?_
        refine ite_P (fun d => ?_) fun d => ?_
        · refine app_M (by omega) (hT _ ⟨fun p hp => ?_, by simp, by simp; omega⟩)
          rcases List.mem_append.mp hp with hp | hp
          · exact p1 p hp
          · rw [List.mem_singleton] at hp
            subst hp
            exact ⟨by simp only; omega, by simp only; omega, by simp only; omega, by simp only; omega, Int.emod_eq_emod_iff_emod_sub_eq_zero.mp c, d⟩
        · refine hT _ ⟨p1, p2 ?_, by omega⟩
          rcases Nat.eq_zero_or_pos i with z | z
          · rcases Nat.eq_zero_or_pos j with z' | z'
            · exfalso
              apply d
              have : r = 1 := by omega
              rw [this]
              simp
            · exact .inr z'
          · exact .inl z
      · refine hT _ ⟨p1, p2 ?_, by omega⟩
        rcases Nat.eq_zero_or_pos i with z | z
        · exfalso
          apply c
          have : r = 1 := by omega
          rw [this, Int.one_pow]
        · exact .inl z
    · obtain ⟨p1, p2, p3⟩ := hps
      rw [rgs_length] at p2 p3
      exact hT _ ⟨p1, fun _ => p2 (.inr (by omega)), by omega⟩
  obtain ⟨p1, p2, p3⟩ := hps
  rw [rgs_length] at p2 p3
  have p2 := p2 (by omega)
  try simp only [tryM_a, req_a, bd_a, ret_a, lft_a, nox_a, thr_a, onC_n, onC_r, ite_a, decide_eq_true_eq, eq_self, if_true, Bool.false_eq_true, if_false, Bool.not_true, Bool.not_false, Bool.not_eq_true', decide_eq_false_iff_not, Bool.true_eq_false, not_true, not_false_iff]
  refine ⟨by omega, mapIf_M (fun p => decide (1 < p.1)) (fun p => p) (fun p hp T hT => hT) (fun p hp _ T hT => hT) ?_⟩
  try simp only [tryM_a, req_a, bd_a, ret_a, lft_a, nox_a, thr_a, onC_n, onC_r, ite_a, decide_eq_true_eq, eq_self, if_true, Bool.false_eq_true, if_false, Bool.not_true, Bool.not_false, Bool.not_eq_true', decide_eq_false_iff_not, Bool.true_eq_false, not_true, not_false_iff]
  refine jn_M (fun (ps : List (Int × Int)) => (∀ p, p ∈ ps → PR n m p) ∧ ps ≠ [] ∧ ps.length ≤ 1640) (fun T hT => ?_) fun ps hps => ?_
  · rw [List.map_id']
    try simp only [tryM_a, req_a, bd_a, ret_a, lft_a, nox_a, thr_a, onC_n, onC_r, ite_a, decide_eq_true_eq, eq_self, if_true, Bool.false_eq_true, if_false, Bool.not_true, Bool.not_false, Bool.not_eq_true', decide_eq_false_iff_not, Bool.true_eq_false, not_true, not_false_iff]
    refine ite_P (fun c => ?_) fun c => ?_
    · refine law_take_M (by omega) (by omega) fun x79 a79 b79 => ?_
      refine ite_P (fun d => ?_) fun d => hT _ ⟨p1, p2, by omega⟩
      refine hT _ ⟨fun p hp => p1 p (List.mem_filter.mp hp).1, fun z => ?_, ?_⟩
      · rw [z] at c
        simp at c
      · have := List.length_filter_le (fun p : Int × Int => decide (1 < p.1)) ps
        omega
    · exact hT _ ⟨p1, p2, by omega⟩
  clear p1 p2 p3
  obtain ⟨p1, p2, p3⟩ := hps
  have p4 := List.length_pos_iff.mpr p2
  try simp only [tryM_a, req_a, bd_a, ret_a, lft_a, nox_a, thr_a, onC_n, onC_r, ite_a, decide_eq_true_eq, eq_self, if_true, Bool.false_eq_true, if_false, Bool.not_true, Bool.not_false, Bool.not_eq_true', decide_eq_false_iff_not, Bool.true_eq_false, not_true, not_false_iff]
  refine law_take_M (by omega) (by omega) fun x90 a90 b90 => ?_
  refine ix_M a90 (List.getElem?_eq_getElem (by omega)) ?_
  have hpr := p1 _ (List.getElem_mem (show x90.toNat < ps.length by omega))
  generalize ps[x90.toNat] = pr at *
  obtain ⟨r, s⟩ := pr
  obtain ⟨r1, r2, s1, s2, hr, hs⟩ := hpr
  dsimp only at r1 r2 s1 s2 hr hs ⊢
  have mk : 0 < m * k ∧ m * k ≤ limit := by
    refine ⟨Int.mul_pos m0 k0, ?_⟩
    have : 1 * (m * k) ≤ n * (m * k) := Int.mul_le_mul_of_nonneg_right (by omega) (Int.le_of_lt (Int.mul_pos m0 k0))
    rw [Int.one_mul, ← Int.mul_assoc] at this
    omega
  refine ml_s (by omega) (by omega) (ml_s (by omega) (by omega) ?_)
  refine rng_M (by omega) ?_
  obtain ⟨N, hN⟩ : ∃ N, N = (n * m * k).toNat := ⟨_, rfl⟩
  have e5 : (n * m * k - 0).toNat = N := by omega
  have hmm : ∀ x y : Int, (x / (m * k) + (r ^ (x / k % m).toNat % n) * (y / (m * k)) + (if m ≤ x / k % m + y / k % m then s else 0)) % n * m + (x / k % m + y / k % m) % m = (preA m k n r s x y % n) * m + (x / k % m + y / k % m) % m := fun x y => rfl
  refine forS_inv (fun i (t : List (List Int)) => t = (els i).map fun x => (els N).map (mm n m k r s x)) rfl (fun i x t T hx ht hT => ?_) fun t ht => ?_
  · obtain ⟨ex, il⟩ := rgs_get hx
    rw [e5] at il
    have xk := Int.ediv_nonneg (show 0 ≤ x by omega) (show 0 ≤ k by omega)
    have xk2 := Int.ediv_le_self k (show 0 ≤ x by omega)
    have xkm := Int.emod_nonneg (x / k) (show m ≠ 0 by omega)
    have xkm2 := Int.emod_lt_of_pos (x / k) m0
    try simp only [tryM_a, req_a, bd_a, ret_a, lft_a, nox_a, thr_a, onC_n, onC_r, ite_a, decide_eq_true_eq, eq_self, if_true, Bool.false_eq_true, if_false, Bool.not_true, Bool.not_false, Bool.not_eq_true', decide_eq_false_iff_not, Bool.true_eq_false, not_true, not_false_iff]
    refine dv_s k0 (by omega) (md_M m0 ?_)
    refine law_power_M n0 (by omega) (by omega) xkm (by omega) ?_
    refine ml_s (by omega) (by omega) (ml_s (by omega) (by omega) ?_)
    refine rng_M (by omega) ?_
    have tr := Int.emod_nonneg (r ^ (x / k % m).toNat) (show n ≠ 0 by omega)
    have tr2 := Int.emod_lt_of_pos (r ^ (x / k % m).toNat) n0
    refine forS_inv (fun j (w : List Int) => w = (els j).map (mm n m k r s x)) rfl (fun j y w T' hy hw hT' => ?_) fun w hw => ?_
    · obtain ⟨ey, jl⟩ := rgs_get hy
      rw [e5] at jl
      have ymk := Int.ediv_nonneg (show 0 ≤ y by omega) (show 0 ≤ m * k by omega)
      have ymk2 := Int.ediv_le_self (m * k) (show 0 ≤ y by omega)
      have bn := Int.emod_nonneg (x / k % m + y / k % m) (show m ≠ 0 by omega)
      have bl := Int.emod_lt_of_pos (x / k % m + y / k % m) m0
      try simp only [tryM_a, req_a, bd_a, ret_a, lft_a, nox_a, thr_a, onC_n, onC_r, ite_a, decide_eq_true_eq, eq_self, if_true, Bool.false_eq_true, if_false, Bool.not_true, Bool.not_false, Bool.not_eq_true', decide_eq_false_iff_not, Bool.true_eq_false, not_true, not_false_iff]
      refine ml_s (by omega) (by omega) (dv_s mk.1 (by omega) (ml_s (by omega) (by omega) (dv_s mk.1 (by omega) (ml_s (by omega) (by omega) ?_))))
      refine dv_s k0 (by omega) (md_M m0 (dv_s k0 (by omega) (md_M m0 ?_)))
      refine jn_1 (preA m k n r s x y) (fun T hT => ?_) ?_
      · try simp only [tryM_a, req_a, bd_a, ret_a, lft_a, nox_a, thr_a, onC_n, onC_r, ite_a, decide_eq_true_eq, eq_self, if_true, Bool.false_eq_true, if_false, Bool.not_true, Bool.not_false, Bool.not_eq_true', decide_eq_false_iff_not, Bool.true_eq_false, not_true, not_false_iff]
        refine ite_P (fun c => ?_) fun c => ?_
        · have : preA m k n r s x y = x / (m * k) + (r ^ (x / k % m).toNat % n) * (y / (m * k)) + s := by
            unfold preA
            rw [if_pos c]
          rw [this] at hT
          exact hT
        · have : preA m k n r s x y = x / (m * k) + (r ^ (x / k % m).toNat % n) * (y / (m * k)) := by
            unfold preA
            rw [if_neg c, Int.add_zero]
          rw [this] at hT
          exact hT
      · try simp only [tryM_a, req_a, bd_a, ret_a, lft_a, nox_a, thr_a, onC_n, onC_r, ite_a, decide_eq_true_eq, eq_self, if_true, Bool.false_eq_true, if_false, Bool.not_true, Bool.not_false, Bool.not_eq_true', decide_eq_false_iff_not, Bool.true_eq_false, not_true, not_false_iff]
        have an := Int.emod_nonneg (preA m k n r s x y) (show n ≠ 0 by omega)
        have al := Int.emod_lt_of_pos (preA m k n r s x y) n0
        refine md_M n0 (ml_s (by omega) (by omega) (md_M m0 (ml_s ?_ (by omega) (md_M k0 ?_))))
        · have e0 : 0 ≤ (preA m k n r s x y % n) * m := Int.mul_nonneg an (by omega)
          have : (preA m k n r s x y % n) * m ≤ n * m := Int.mul_le_mul_of_nonneg_right (by omega) (by omega)
          omega
        · refine app_M (by rw [hw, List.length_map, els_length]; omega) (hT' _ ?_)
          rw [hw, els_succ, List.map_append, ey]
          simp only [Int.zero_add]
          rfl
    · rw [rgs_length, e5] at hw
      subst hw ht
      try simp only [tryM_a, req_a, bd_a, ret_a, lft_a, nox_a, thr_a, onC_n, onC_r, ite_a, decide_eq_true_eq, eq_self, if_true, Bool.false_eq_true, if_false, Bool.not_true, Bool.not_false, Bool.not_eq_true', decide_eq_false_iff_not, Bool.true_eq_false, not_true, not_false_iff]
      refine app_M (by rw [List.length_map, els_length]; omega) (hT _ ?_)
      rw [els_succ, List.map_append, ex]
      simp only [Int.zero_add]
      rfl
  · rw [rgs_length, e5] at ht
    subst ht
    have g := mm_grp n0 m0 k0 hr hs
    rw [← hN] at g
    exact h _ (vt_tab g) (by rw [List.length_map, els_length]; omega)
/-! renaming -/
def upd2 (f : Int → Int → Int) (i j v : Int) : Int → Int → Int := fun x y => if x = i ∧ y = j then v else f x y
theorem map_set {α : Type} {n : Nat} (f g : Int → α) {i : Int} (hi : Rn n i) (h : ∀ x, Rn n x → x ≠ i → g x = f x) : ((els n).map f).set i.toNat (g i) = (els n).map g := by
  apply List.ext_getElem?
  intro k
  have := hi.1
  have := hi.2
  rw [List.getElem?_set, List.length_map, els_length]
  by_cases hk : k < n
  · by_cases e : i.toNat = k
    · rw [if_pos e, if_pos (by omega), List.getElem?_map, els_get hk]
      have : i = (k : Int) := by omega
      rw [this]
      rfl
    · rw [if_neg e, List.getElem?_map, List.getElem?_map, els_get hk]
      have : (k : Int) ≠ i := by omega
      simp only [Option.map_some]
      rw [h (k : Int) ⟨by omega, by omega⟩ this]
  · rw [List.getElem?_eq_none (by rw [List.length_map, els_length]; omega), List.getElem?_eq_none (by rw [List.length_map, els_length]; omega)]
    split
    · rw [if_neg (by omega)]
    · rfl
theorem ixN_of {n : Nat} {i : Int} (h : Rn n i) : L2.ixN n i = some i.toNat := by
  unfold L2.ixN
  rw [if_pos h.1, if_pos h.2]
theorem put2_M {n : Nat} {f : Int → Int → Int} {i j v : Int} {Q : List (List Int) → Prop} {ε : Type} {E : ε → Prop} (hi : Rn n i) (hj : Rn n j) (h : Q (tab n (upd2 f i j v))) : rowAt (tab n f) i (fun w => put w.2 j v (fun row => Q ((tab n f).set w.1 row)) E) E := by
  have e1 : (tab n f)[i.toNat]? = some ((els n).map (f i)) := by
    unfold tab
    rw [List.getElem?_map, els_get (by have := hi.1; have := hi.2; omega)]
    simp only [Option.map_some, Int.toNat_of_nonneg hi.1]
  refine ⟨i.toNat, _, ?_, e1, ?_⟩
  · rw [tab_len]
    exact ixN_of hi
  refine put_M hj.1 (by rw [List.length_map, els_length]; exact hj.2) ?_
  have e2 := map_set (f i) (upd2 f i j v i) hj (fun x hx hne => by
    unfold upd2
    rw [if_neg (fun z => hne z.2)])
  have e3 : upd2 f i j v i j = v := by
    unfold upd2
    rw [if_pos ⟨rfl, rfl⟩]
  rw [e3] at e2
  simp only
  rw [e2]
  have e4 := map_set (fun x => (els n).map (f x)) (fun x => (els n).map (upd2 f i j v x)) hi (fun x hx hne => by
    refine List.map_congr_left fun y _ => ?_
    unfold upd2
    rw [if_neg (fun z => hne z.1)])
  unfold tab
  rw [e4]
  exact h
theorem rgd_get {a b : Int} {i : Nat} {d : Int} (h : (rgd a b)[i]? = some d) : d = a - (i : Int) ∧ i < (a - b).toNat := by
  unfold rgd at h
  have hi := (List.getElem?_eq_some_iff.mp h).1
  rw [List.length_map, List.length_range] at hi
  rw [List.getElem?_map, List.getElem?_range hi] at h
  simp at h
  exact ⟨h.symm, hi⟩
theorem reps_M {n : Int} {v : Int} {Q : List Int → Prop} {ε : Type} {E : ε → Prop} (h0 : 0 ≤ n) (h1 : n ≤ 100000) (h : Q (List.replicate n.toNat v)) : reps [v] n Q E := by
  refine ⟨⟨by omega, by omega, by simp; omega⟩, ?_⟩
  have : (List.replicate n.toNat [v]).flatten = List.replicate n.toNat v := by
    generalize n.toNat = k
    induction k with
    | zero => rfl
    | succ k ih => rw [List.replicate_succ, List.flatten_cons, ih, List.replicate_succ]; rfl
  rw [this]
  exact h
theorem replicate_els {α : Type} (n : Nat) (v : α) : List.replicate n v = (els n).map fun _ => v := by
  rw [List.map_const', els_length]
theorem law_renamed_M {t : List (List Int)} {Q : List (List Int) → Prop} (hl : t.length ≤ 1000) (v : Vt t) (h : ∀ (t' : List (List Int)) (σ : Int → Int), t'.length = t.length → Vt t' → (∀ x, Rn t.length x → Rn t.length (σ x)) → (∀ x y, Rn t.length x → Rn t.length y → σ x = σ y → x = y) → σ 0 = 0 →
    (∀ x y, Rn t.length x → Rn t.length y → ent t' (σ x) (σ y) = σ (ent t x y)) → Q t') : Mi._law_renamed () t Q E := by
  unfold Mi._law_renamed
  try simp only [tryM_a, req_a, bd_a, ret_a, lft_a, nox_a, thr_a, onC_n, onC_r, ite_a, decide_eq_true_eq, eq_self, if_true, Bool.false_eq_true, if_false, Bool.not_true, Bool.not_false, Bool.not_eq_true', decide_eq_false_iff_not, Bool.true_eq_false, not_true, not_false_iff]
  refine ⟨by omega, ?_⟩
  refine ⟨by omega, ?_⟩
  have hp := v.pos
  have P0 : PN t.length (els t.length) := els_PN _
  rw [rgs_els]
  refine forS_inv (fun _ (p : List Int) => PN t.length p ∧ pa p 0 = 0) ⟨P0, els_pa v.g.r0⟩ (fun i x p T hx hpn hT => ?_) fun p hpn => ?_
  · obtain ⟨ex, il⟩ := rgd_get hx
    obtain ⟨pn, p0⟩ := hpn
    try simp only [tryM_a, req_a, bd_a, ret_a, lft_a, nox_a, thr_a, onC_n, onC_r, ite_a, decide_eq_true_eq, eq_self, if_true, Bool.false_eq_true, if_false, Bool.not_true, Bool.not_false, Bool.not_eq_true', decide_eq_false_iff_not, Bool.true_eq_false, not_true, not_false_iff]
    refine law_take_M (by omega) (by omega) fun r r0 r1 => ?_
    have hx : Rn t.length x := ⟨by omega, by omega⟩
    have hy : Rn t.length (1 + r) := ⟨by omega, by omega⟩
    refine ix_M hx.1 (pn.get hx) (ix_M hy.1 (pn.get hy) ?_)
    refine put_M hx.1 (by rw [pn.len]; exact hx.2) (put_M hy.1 (by rw [List.length_set, pn.len]; exact hy.2) (hT _ ?_))
    have l1 : x.toNat < p.length := by rw [pn.len]; omega
    have l2 : (1 + r).toNat < p.length := by rw [pn.len]; omega
    have perm := List.set_set_perm l1 l2
    have g1 : p[x.toNat] = pa p x := by
      have := pn.get hx
      rw [List.getElem?_eq_getElem l1] at this
      exact Option.some.inj this
    have g2 : p[(1 + r).toNat] = pa p (1 + r) := by
      have := pn.get hy
      rw [List.getElem?_eq_getElem l2] at this
      exact Option.some.inj this
    rw [g1, g2] at perm
    refine ⟨⟨by rw [perm.length_eq, pn.len], fun w hw => pn.rg w (perm.mem_iff.mp hw), perm.nodup_iff.mpr pn.nd⟩, ?_⟩
    unfold pa
    unfold pa at p0
    rw [List.getD_eq_getElem?_getD, List.getElem?_set_ne (by omega), List.getElem?_set_ne (by omega), ← List.getD_eq_getElem?_getD]
    exact p0
  obtain ⟨pn, p0⟩ := hpn
  try simp only [tryM_a, req_a, bd_a, ret_a, lft_a, nox_a, thr_a, onC_n, onC_r, ite_a, decide_eq_true_eq, eq_self, if_true, Bool.false_eq_true, if_false, Bool.not_true, Bool.not_false, Bool.not_eq_true', decide_eq_false_iff_not, Bool.true_eq_false, not_true, not_false_iff]
  refine rng_M (by omega) ⟨by rw [rgs_length]; omega, ?_⟩
  rw [rgs_els]
  refine mapM_M (fun _ => List.replicate t.length 0) (fun x hx T hT => reps_M (by omega) (by omega) hT) ?_
  refine rng_M (by omega) ?_
  rw [replicate_els]
  have st : List.map (fun _ => (els t.length).map fun _ => (0 : Int)) (els t.length) = tab t.length (fun _ _ => 0) := rfl
  rw [st, rgs_els]
  refine forS_inv (fun i (w : List (List Int)) => ∃ f, w = tab t.length f ∧ ∀ x y, Rn t.length x → Rn t.length y → x < i → f (pa p x) (pa p y) = pa p (ent t x y)) ⟨_, rfl, fun x y hx _ h => by have := hx.1; omega⟩ (fun i x w T hx hw hT => ?_) fun w hw => ?_
  · have il := (List.getElem?_eq_some_iff.mp hx).1
    rw [els_length] at il
    rw [els_get il] at hx
    have hx := (Option.some.inj hx).symm
    have hxr : Rn t.length x := ⟨by omega, by omega⟩
    obtain ⟨f, rfl, hf⟩ := hw
    try simp only [tryM_a, req_a, bd_a, ret_a, lft_a, nox_a, thr_a, onC_n, onC_r, ite_a, decide_eq_true_eq, eq_self, if_true, Bool.false_eq_true, if_false, Bool.not_true, Bool.not_false, Bool.not_eq_true', decide_eq_false_iff_not, Bool.true_eq_false, not_true, not_false_iff]
    refine rng_M (by omega) ?_
    rw [rgs_els]
    refine forS_inv (fun j (w : List (List Int)) => ∃ f, w = tab t.length f ∧ ∀ a b, Rn t.length a → Rn t.length b → a < i ∨ (a = i ∧ b < j) → f (pa p a) (pa p b) = pa p (ent t a b)) ⟨f, rfl, fun a b ha hb h => hf a b ha hb (by have := hb.1; omega)⟩ (fun j y w T' hy hw hT' => ?_) fun w hw => ?_
    · have jl := (List.getElem?_eq_some_iff.mp hy).1
      rw [els_length] at jl
      rw [els_get jl] at hy
      have hy := (Option.some.inj hy).symm
      have hyr : Rn t.length y := ⟨by omega, by omega⟩
      obtain ⟨f, rfl, hf⟩ := hw
      have her := v.sq.erg hxr hyr
      try simp only [tryM_a, req_a, bd_a, ret_a, lft_a, nox_a, thr_a, onC_n, onC_r, ite_a, decide_eq_true_eq, eq_self, if_true, Bool.false_eq_true, if_false, Bool.not_true, Bool.not_false, Bool.not_eq_true', decide_eq_false_iff_not, Bool.true_eq_false, not_true, not_false_iff]
      refine v.sq.ix2 hxr hyr (ix_M her.1 (pn.get her) (ix_M hxr.1 (pn.get hxr) ?_))
      have e : ∀ (w : Nat × List Int), ix p y (fun a => put w.2 a (pa p (ent t x y)) (fun a => T' ((tab t.length f).set w.1 a)) E) E ↔ ∃ u, L2.atI p y = some u ∧ put w.2 u (pa p (ent t x y)) (fun a => T' ((tab t.length f).set w.1 a)) E := fun w => Iff.rfl
      have hpx := pn.rn hxr
      have hpy := pn.rn hyr
      have main := put2_M (E := E) (f := f) (v := pa p (ent t x y)) (Q := T') hpx hpy (hT' _ ⟨_, rfl, fun a b ha hb hab => ?_⟩)
      · obtain ⟨k, row, h1, h2, h3⟩ := main
        exact ⟨k, row, h1, h2, ix_M hyr.1 (pn.get hyr) h3⟩
      · unfold upd2
        by_cases c : pa p a = pa p x ∧ pa p b = pa p y
        · rw [if_pos c, pn.inj ha hxr c.1, pn.inj hb hyr c.2]
        · rw [if_neg c]
          refine hf a b ha hb ?_
          rcases hab with h | ⟨h, h'⟩
          · exact .inl h
          · rcases Int.lt_or_le b j with z | z
            · exact .inr ⟨h, z⟩
            · exfalso
              apply c
              rw [show a = x by omega, show b = y by omega]
              exact ⟨rfl, rfl⟩
    · obtain ⟨f, rfl, hf⟩ := hw
      rw [els_length] at hf
      exact hT _ ⟨f, rfl, fun a b ha hb hab => hf a b ha hb (by have := hb.2; omega)⟩
  · obtain ⟨f, rfl, hf⟩ := hw
    rw [els_length] at hf
    have hf' : ∀ x y, Rn t.length x → Rn t.length y → f (pa p x) (pa p y) = pa p (ent t x y) := fun x y hx hy => hf x y hx hy hx.2
    have g' : Grp t.length f := v.g.rename (σ := pa p) (fun x hx => pn.rn hx) (fun x y hx hy e => pn.inj hx hy e) p0 hf'
    exact h _ (pa p) tab_len (vt_tab g') (fun x hx => pn.rn hx) (fun x y hx hy e => pn.inj hx hy e) p0 (fun x y hx hy => by rw [tab_ent (pn.rn hx) (pn.rn hy), hf' x y hx hy])
theorem seqIx_of {n : Nat} {i : Int} (h : Rn n i) : seqIndex? i n = some i.toNat := by
  unfold seqIndex?
  have := h.1
  have := h.2
  first
  | (rw [if_neg (by omega), if_pos (by omega)])
  | (rw [if_pos (by omega), if_pos (by omega)])
  | (simp only [show ¬ i < 0 by omega, if_false]; rw [if_pos (by omega)])
  | simp [show ¬ i < 0 by omega, show i < n by omega, show 0 ≤ i by omega]
theorem outAt_M {α ε : Type} {E : ε → Prop} {xs : List α} {i : Int} {y : α} {Q : α × List α → Prop} (h : Rn xs.length i) (hl : xs.length < 2 ^ 62) (hy : xs[i.toNat]? = some y) (q : Q (y, xs.eraseIdx i.toNat)) : outAt xs i Q E := by
  have := h.1
  have := h.2
  exact ⟨⟨by omega, by omega⟩, _, y, seqIx_of h, hy, q⟩
theorem map_els {α β : Type} (ys : List α) (e : α) (F : α → β) : ys.map F = (els ys.length).map fun x => F (ys.getD x.toNat e) := by
  apply List.ext_getElem?
  intro i
  rw [List.getElem?_map, List.getElem?_map]
  by_cases hi : i < ys.length
  · rw [els_get hi]
    simp only [Option.map_some, Int.toNat_natCast]
    rw [List.getD_eq_getElem?_getD, List.getElem?_eq_getElem hi]
    rfl
  · rw [List.getElem?_eq_none (by omega), List.getElem?_eq_none (by rw [els_length]; omega)]
    rfl
theorem PN_of_perm {n : Nat} {p : List Int} (h : p.Perm (els n)) : PN n p := ⟨by rw [h.length_eq, els_length], fun v hv => mem_els.mp (h.mem_iff.mp hv), h.nodup_iff.mpr (els_nodup n)⟩
theorem law_permutations_M {Q : List (List Int) → Prop} (h : ∀ t, Vt t → t.length ≤ 24 → Q t) : Mi._law_permutations () Q E := by
  unfold Mi._law_permutations
  try simp only [tryM_a, req_a, bd_a, ret_a, lft_a, nox_a, thr_a, onC_n, onC_r, ite_a, decide_eq_true_eq, eq_self, if_true, Bool.false_eq_true, if_false, Bool.not_true, Bool.not_false, Bool.not_eq_true', decide_eq_false_iff_not, Bool.true_eq_false, not_true, not_false_iff]
  refine rng_M (by omega) ?_
  have hi : [(0 : Int), 1, 2, 3] = els 4 := by decide
  refine forS_inv (fun i (ms : List (List Int)) => ms.length = i ∧ ∀ m, m ∈ ms → PN 4 m) ⟨rfl, fun m hm => by cases hm⟩ (fun i k ms T hk hms hT => ?_) fun ms hms => ?_
  · obtain ⟨ml', mp⟩ := hms
    have il := (rgs_get hk).2
    try simp only [tryM_a, req_a, bd_a, ret_a, lft_a, nox_a, thr_a, onC_n, onC_r, ite_a, decide_eq_true_eq, eq_self, if_true, Bool.false_eq_true, if_false, Bool.not_true, Bool.not_false, Bool.not_eq_true', decide_eq_false_iff_not, Bool.true_eq_false, not_true, not_false_iff]
    refine rng_M (by omega) ?_
    refine forS_inv (fun j (s : List Int × List Int) => (s.2 ++ s.1).Perm (els 4) ∧ s.2.length = j) ⟨by rw [hi]; exact List.Perm.refl _, rfl⟩ (fun j x s T' hx hs hT' => ?_) fun s hs => ?_
    · obtain ⟨left, w⟩ := s
      obtain ⟨hp, hw⟩ := hs
      have jl := (rgs_get hx).2
      dsimp only at hp hw ⊢
      have ll := hp.length_eq
      rw [List.length_append, els_length] at ll
      try simp only [tryM_a, req_a, bd_a, ret_a, lft_a, nox_a, thr_a, onC_n, onC_r, ite_a, decide_eq_true_eq, eq_self, if_true, Bool.false_eq_true, if_false, Bool.not_true, Bool.not_false, Bool.not_eq_true', decide_eq_false_iff_not, Bool.true_eq_false, not_true, not_false_iff]
      refine law_take_M (by omega) (by omega) fun r r0 r1 => ?_
      have rl : r.toNat < left.length := by omega
      refine outAt_M ⟨r0, r1⟩ (by omega) (List.getElem?_eq_getElem rl) ?_
      refine app_M (by omega) ?_
      try simp only [tryM_a, req_a, bd_a, ret_a, lft_a, nox_a, thr_a, onC_n, onC_r, ite_a, decide_eq_true_eq, eq_self, if_true, Bool.false_eq_true, if_false, Bool.not_true, Bool.not_false, Bool.not_eq_true', decide_eq_false_iff_not, Bool.true_eq_false, not_true, not_false_iff]
      refine hT' _ ⟨?_, by simp [hw]⟩
      simp only
      rw [List.append_assoc]
      refine List.Perm.trans (List.Perm.append_left w ?_) hp
      exact erase_perm _ _ rl
    · obtain ⟨left, w⟩ := s
      obtain ⟨hp, hw⟩ := hs
      rw [rgs_length] at hw
      dsimp only at hp hw ⊢
      have ll := hp.length_eq
      rw [List.length_append, els_length, hw] at ll
      have : left = [] := List.length_eq_zero_iff.mp (by omega)
      subst this
      rw [List.append_nil] at hp
      try simp only [tryM_a, req_a, bd_a, ret_a, lft_a, nox_a, thr_a, onC_n, onC_r, ite_a, decide_eq_true_eq, eq_self, if_true, Bool.false_eq_true, if_false, Bool.not_true, Bool.not_false, Bool.not_eq_true', decide_eq_false_iff_not, Bool.true_eq_false, not_true, not_false_iff]
      refine app_M (by omega) (hT _ ⟨by simp [ml'], fun m hm => ?_⟩)
      rcases List.mem_append.mp hm with hm | hm
      · exact mp m hm
      · rw [List.mem_singleton] at hm
        rw [hm]
        exact PN_of_perm hp
  obtain ⟨ml', mp⟩ := hms
  rw [rgs_length] at ml'
  try simp only [tryM_a, req_a, bd_a, ret_a, lft_a, nox_a, thr_a, onC_n, onC_r, ite_a, decide_eq_true_eq, eq_self, if_true, Bool.false_eq_true, if_false, Bool.not_true, Bool.not_false, Bool.not_eq_true', decide_eq_false_iff_not, Bool.true_eq_false, not_true, not_false_iff]
  rw [hi]
  refine rng_M (by omega) ?_
  have hP : ∀ {x}, ClA comp (els 4) ms x → PN 4 x := fun {x} hx => hx.keep (els_PN 4) mp fun _ _ => comp_PN
  have hlen : ∀ {r}, BfA comp (els 4) ms r → r.length ≤ 24 := fun {r} b => nodup_le b.nd (m := perms4) fun x hx => mem_perms4 (hP (b.cl x hx))
  refine forS_inv (fun i (r : List (List Int)) => BfA comp (els 4) ms r ∧ DnA comp ms r i) ⟨.start, fun i x hi => by omega⟩ (fun i at' r T hx hr hT => ?_) fun r hr => ?_
  · obtain ⟨b, d⟩ := hr
    obtain ⟨ea, il⟩ := rgs_get hx
    have ea : at' = (i : Int) := by omega
    subst ea
    try simp only [tryM_a, req_a, bd_a, ret_a, lft_a, nox_a, thr_a, onC_n, onC_r, ite_a, decide_eq_true_eq, eq_self, if_true, Bool.false_eq_true, if_false, Bool.not_true, Bool.not_false, Bool.not_eq_true', decide_eq_false_iff_not, Bool.true_eq_false, not_true, not_false_iff]
    refine jn_M (fun (r : List (List Int)) => BfA comp (els 4) ms r ∧ DnA comp ms r (i + 1)) (fun T' hT' => ?_) fun r hr => hT _ hr
    try simp only [tryM_a, req_a, bd_a, ret_a, lft_a, nox_a, thr_a, onC_n, onC_r, ite_a, decide_eq_true_eq, eq_self, if_true, Bool.false_eq_true, if_false, Bool.not_true, Bool.not_false, Bool.not_eq_true', decide_eq_false_iff_not, Bool.true_eq_false, not_true, not_false_iff]
    have bl := hlen b
    refine ite_P (fun c => ?_) fun c => ?_
    · obtain ⟨x, hx⟩ : ∃ x, r[i]? = some x := ⟨_, List.getElem?_eq_getElem (by omega)⟩
      have hxm : x ∈ r := List.mem_of_getElem? hx
      have hxp := hP (b.cl x hxm)
      refine forS_inv (fun j (r' : List (List Int)) => BfA comp (els 4) ms r' ∧ (∃ e, r' = r ++ e) ∧ ∀ i a, i < j → ms[i]? = some a → comp x a ∈ r') ⟨b, ⟨[], by simp⟩, fun i a hi => by omega⟩ (fun j m r' T2 hjm hs hT2 => ?_) fun r' hs => ?_
      · obtain ⟨b', ⟨e, he⟩, hd⟩ := hs
        have hma : m ∈ ms := List.mem_of_getElem? hjm
        have hmp := mp m hma
        have hx' : r'[((i : Nat) : Int).toNat]? = some x := by rw [Int.toNat_natCast, he, List.getElem?_append_left (by omega)]; exact hx
        try simp only [tryM_a, req_a, bd_a, ret_a, lft_a, nox_a, thr_a, onC_n, onC_r, ite_a, decide_eq_true_eq, eq_self, if_true, Bool.false_eq_true, if_false, Bool.not_true, Bool.not_false, Bool.not_eq_true', decide_eq_false_iff_not, Bool.true_eq_false, not_true, not_false_iff]
        refine ix_M (by omega) hx' ⟨by rw [hxp.len]; omega, mapM_M (pa m) (fun y hy T hT => ix_M (hxp.rg y hy).1 (hmp.get (hxp.rg y hy)) hT) ?_⟩
        rw [show x.map (pa m) = comp x m from rfl]
        refine jn_M (fun (r' : List (List Int)) => BfA comp (els 4) ms r' ∧ (∃ e, r' = r ++ e) ∧ ∀ i a, i < j + 1 → ms[i]? = some a → comp x a ∈ r') (fun T' hT' => ?_) fun r hr => hT2 _ hr
        try simp only [tryM_a, req_a, bd_a, ret_a, lft_a, nox_a, thr_a, onC_n, onC_r, ite_a, decide_eq_true_eq, eq_self, if_true, Bool.false_eq_true, if_false, Bool.not_true, Bool.not_false, Bool.not_eq_true', decide_eq_false_iff_not, Bool.true_eq_false, not_true, not_false_iff, memD]
        have step : ∀ {r'' : List (List Int)}, (∀ y, y ∈ r' → y ∈ r'') → comp x m ∈ r'' → ∀ i a, i < j + 1 → ms[i]? = some a → comp x a ∈ r'' := fun {r''} hs hm i a hi ha => by
          rcases Nat.lt_or_ge i j with h | h
          · exact hs _ (hd i a h ha)
          · have : i = j := by omega
            subst this
            rw [hjm] at ha
            cases ha
            exact hm
        refine ite_P (fun c => ?_) fun c => ?_
        · have c : comp x m ∉ r' := by simpa using c
          refine app_M (by have := hlen b'; omega) ?_
          exact hT' _ ⟨b'.add (by rw [he]; exact List.mem_append_left _ hxm) hma c, ⟨e ++ [comp x m], by rw [he, List.append_assoc]⟩, step (fun y hy => List.mem_append_left _ hy) (by simp)⟩
        · have c : comp x m ∈ r' := by simpa using c
          exact hT' _ ⟨b', ⟨e, he⟩, step (fun y hy => hy) c⟩
      · obtain ⟨b', ⟨e, he⟩, hd⟩ := hs
        try simp only [tryM_a, req_a, bd_a, ret_a, lft_a, nox_a, thr_a, onC_n, onC_r, ite_a, decide_eq_true_eq, eq_self, if_true, Bool.false_eq_true, if_false, Bool.not_true, Bool.not_false, Bool.not_eq_true', decide_eq_false_iff_not, Bool.true_eq_false, not_true, not_false_iff]
        refine hT' _ ⟨b', ?_⟩
        intro k y hk hy a ha
        rcases Nat.lt_or_ge k i with h | h
        · have := (DnA.app (f := e) d (by omega)) k y h (by rw [← he]; exact hy) a ha
          rw [he]
          exact this
        · have : k = i := by omega
          subst this
          rw [he, List.getElem?_append_left (by omega), hx] at hy
          cases hy
          obtain ⟨j, hj⟩ := List.getElem?_of_mem ha
          exact hd j a (List.getElem?_eq_some_iff.mp hj).1 hj
    · refine hT' _ ⟨b, fun k y hk hy a ha => ?_⟩
      have := (List.getElem?_eq_some_iff.mp hy).1
      exact d k y (by omega) hy a ha
  obtain ⟨b, d⟩ := hr
  rw [rgs_length] at d
  have bl := hlen b
  have d : DnA comp ms r r.length := fun i x hi => d i x (by omega)
  have dn := b.done d
  try simp only [tryM_a, req_a, bd_a, ret_a, lft_a, nox_a, thr_a, onC_n, onC_r, ite_a, decide_eq_true_eq, eq_self, if_true, Bool.false_eq_true, if_false, Bool.not_true, Bool.not_false, Bool.not_eq_true', decide_eq_false_iff_not, Bool.true_eq_false, not_true, not_false_iff]
  refine srtLL_M fun ys hperm hsort => ?_
  have yl : ys.length ≤ 24 := by rw [hperm.length_eq]; exact bl
  have ym : ∀ x, x ∈ ys ↔ ClA comp (els 4) ms x := fun x => hperm.mem_iff.trans (dn x)
  have ynd : ys.Nodup := hperm.nodup_iff.mpr b.nd
  have yp : ∀ x, x ∈ ys → PN 4 x := fun x hx => hP ((ym x).mp hx)
  have ycl : ∀ p q, p ∈ ys → q ∈ ys → comp p q ∈ ys := fun p q hp hq => (ym _).mpr (ClA.mul (P := PN 4) (fun _ _ _ => comp_as) (fun _ => comp_i2) (fun _ => hP) mp ((ym _).mp hp) ((ym _).mp hq))
  have y0 : ys[0]? = some (els 4) := by
    have he : els 4 ∈ ys := (ym _).mpr .z
    obtain ⟨i, hi⟩ := List.getElem?_of_mem he
    have il := (List.getElem?_eq_some_iff.mp hi).1
    rcases Nat.eq_zero_or_pos i with z | z
    · rw [← z]
      exact hi
    · exfalso
      have h0 : ys[0]? = some ys[0] := List.getElem?_eq_getElem (by omega)
      have lt := List.pairwise_iff_getElem.mp hsort 0 i (by omega) il z
      have ne := List.pairwise_iff_getElem.mp ynd 0 i (by omega) il z
      rw [(List.getElem?_eq_some_iff.mp hi).2] at lt ne
      have hm := mem_perms4 (yp _ (List.getElem_mem (show 0 < ys.length by omega)))
      generalize ys[0] = p at *
      have key : ∀ p, p ∈ perms4 → p ≠ els 4 → PySem.W.listLt (els 4) p = true := by decide +kernel
      rw [key p hm ne] at lt
      cases lt
  refine forS_inv (fun i (w : List (List Int)) => w = (ys.take i).map fun p => ys.map fun q => ((ys.idxOf (comp p q) : Nat) : Int)) (by simp) (fun i p w T hp hw hT => ?_) fun w hw => ?_
  · have hpm := List.mem_of_getElem? hp
    have il := (List.getElem?_eq_some_iff.mp hp).1
    subst hw
    try simp only [tryM_a, req_a, bd_a, ret_a, lft_a, nox_a, thr_a, onC_n, onC_r, ite_a, decide_eq_true_eq, eq_self, if_true, Bool.false_eq_true, if_false, Bool.not_true, Bool.not_false, Bool.not_eq_true', decide_eq_false_iff_not, Bool.true_eq_false, not_true, not_false_iff]
    refine ⟨by omega, mapM_M (fun q => ((ys.idxOf (comp p q) : Nat) : Int)) (fun q hq T hT => ?_) ?_⟩
    · have hpp := yp p hpm
      have hqp := yp q hq
      refine ⟨by rw [hpp.len]; omega, mapM_M (pa q) (fun y hy T hT => ix_M (hpp.rg y hy).1 (hqp.get (hpp.rg y hy)) hT) ?_⟩
      rw [show p.map (pa q) = comp p q from rfl]
      exact idx_M (ycl p q hpm hq) hT
    · refine app_M (by rw [List.length_map, List.length_take]; omega) (hT _ ?_)
      rw [List.take_add_one, hp, List.map_append]
      rfl
  · rw [List.take_length] at hw
    subst hw
    try simp only [tryM_a, req_a, bd_a, ret_a, lft_a, nox_a, thr_a, onC_n, onC_r, ite_a, decide_eq_true_eq, eq_self, if_true, Bool.false_eq_true, if_false, Bool.not_true, Bool.not_false, Bool.not_eq_true', decide_eq_false_iff_not, Bool.true_eq_false, not_true, not_false_iff]
    have e : (ys.map fun p => ys.map fun q => ((ys.idxOf (comp p q) : Nat) : Int)) = tab ys.length (fun x y => (ys.idxOf (comp (ys.getD x.toNat (els 4)) (ys.getD y.toNat (els 4))) : Nat)) := by
      unfold tab
      rw [map_els ys (els 4)]
      refine List.map_congr_left fun x _ => ?_
      rw [map_els ys (els 4)]
    rw [e]
    refine h _ (vt_tab (grp_idx ynd y0 ycl (fun p hp => comp_i1 (yp p hp)) (fun p hp => comp_i2 (yp p hp)) (fun p q q' hp hq hq' e => comp_can (yp p hp) (yp q hq) (yp q' hq') e) fun x y z hx hy hz => comp_as (yp x hx) (yp y hy) (yp z hz))) (by rw [tab_len]; exact yl)
theorem law_table_M {limit : Int} {Q : List (List Int) → Prop} (h0 : 1 ≤ limit) (h1 : limit ≤ 40) (h : ∀ t, Vt t → (t.length : Int) ≤ limit → Q t) : Mi._law_table () limit Q E := by
  unfold Mi._law_table
  try simp only [tryM_a, req_a, bd_a, ret_a, lft_a, nox_a, thr_a, onC_n, onC_r, ite_a, decide_eq_true_eq, eq_self, if_true, Bool.false_eq_true, if_false, Bool.not_true, Bool.not_false, Bool.not_eq_true', decide_eq_false_iff_not, Bool.true_eq_false, not_true, not_false_iff]
  refine law_metacyclic_M h0 h1 fun t v hl => ?_
  refine jn_M (fun t => Vt t ∧ (t.length : Int) ≤ limit) (fun T hT => ?_) fun t ht => ?_
  · try simp only [tryM_a, req_a, bd_a, ret_a, lft_a, nox_a, thr_a, onC_n, onC_r, ite_a, decide_eq_true_eq, eq_self, if_true, Bool.false_eq_true, if_false, Bool.not_true, Bool.not_false, Bool.not_eq_true', decide_eq_false_iff_not, Bool.true_eq_false, not_true, not_false_iff]
    refine law_take_M (by decide) (by decide) fun r _ _ => ?_
    refine ite_P (fun c => ?_) fun c => hT _ ⟨v, hl⟩
    refine law_permutations_M fun t' v' hl' => ?_
    refine jn_M (fun t => Vt t ∧ (t.length : Int) ≤ limit) (fun T' hT' => ?_) fun t ht => hT _ ht
    try simp only [tryM_a, req_a, bd_a, ret_a, lft_a, nox_a, thr_a, onC_n, onC_r, ite_a, decide_eq_true_eq, eq_self, if_true, Bool.false_eq_true, if_false, Bool.not_true, Bool.not_false, Bool.not_eq_true', decide_eq_false_iff_not, Bool.true_eq_false, not_true, not_false_iff]
    exact ite_P (fun c => hT' _ ⟨v', c⟩) fun c => hT' _ ⟨v, hl⟩
  obtain ⟨v, hl⟩ := ht
  try simp only [tryM_a, req_a, bd_a, ret_a, lft_a, nox_a, thr_a, onC_n, onC_r, ite_a, decide_eq_true_eq, eq_self, if_true, Bool.false_eq_true, if_false, Bool.not_true, Bool.not_false, Bool.not_eq_true', decide_eq_false_iff_not, Bool.true_eq_false, not_true, not_false_iff]
  refine jn_M (fun t => Vt t ∧ (t.length : Int) ≤ limit) (fun T hT => ?_) fun t ht => h t ht.1 ht.2
  try simp only [tryM_a, req_a, bd_a, ret_a, lft_a, nox_a, thr_a, onC_n, onC_r, ite_a, decide_eq_true_eq, eq_self, if_true, Bool.false_eq_true, if_false, Bool.not_true, Bool.not_false, Bool.not_eq_true', decide_eq_false_iff_not, Bool.true_eq_false, not_true, not_false_iff]
  refine law_take_M (by decide) (by decide) fun r _ _ => ?_
  refine ite_P (fun c => ?_) fun c => hT _ ⟨v, hl⟩
  exact law_renamed_M (by omega) v fun t' σ el v' _ _ _ _ => hT _ ⟨v', by omega⟩
/-! ### the law's own reckoning with a group's table -/
section
variable {t : List (List Int)}
theorem no_P {c A B : Prop} [Decidable c] (h : ¬ c) (hB : B) : if c then A else B := by rw [if_neg h]; exact hB
theorem yes_P {c A B : Prop} [Decidable c] (h : c) (hA : A) : if c then A else B := by rw [if_pos h]; exact hA
theorem law_order_M (v : Vt t) (hlen : t.length ≤ 1000) {x : Int} (hx : Rn t.length x) {Q : Int → Prop} (h : ∀ k : Nat, IsOrd (ent t) x k → k ≤ t.length → Q (k : Int)) : Mi._law_order t x Q E := by
  unfold Mi._law_order
  try simp only [tryM_a, req_a, bd_a, ret_a, lft_a, nox_a, thr_a, onC_n, onC_r, ite_a, decide_eq_true_eq, eq_self, if_true, Bool.false_eq_true, if_false, Bool.not_true, Bool.not_false, Bool.not_eq_true', decide_eq_false_iff_not, Bool.true_eq_false, not_true, not_false_iff]
  obtain ⟨k, ho, hk⟩ := v.g.has_ord hx
  refine rng_M (by omega) ?_
  refine forS_inv (fun i (a : Int × Int) => ∃ j : Nat, 0 < j ∧ j ≤ k ∧ (j = k ∨ j = i + 1) ∧ a = ((j : Int), pow (ent t) x j)) ⟨1, by omega, ho.pos, .inr rfl, by rw [show pow (ent t) x 1 = x from v.g.i1 hx]; rfl⟩ (fun i y a T hy ha hT => ?_) fun a ha => ?_
  · obtain ⟨j, j0, jk, jj, rfl⟩ := ha
    try simp only [tryM_a, req_a, bd_a, ret_a, lft_a, nox_a, thr_a, onC_n, onC_r, ite_a, decide_eq_true_eq, eq_self, if_true, Bool.false_eq_true, if_false, Bool.not_true, Bool.not_false, Bool.not_eq_true', decide_eq_false_iff_not, Bool.true_eq_false, not_true, not_false_iff]
    refine jn_M (fun a => ∃ j : Nat, 0 < j ∧ j ≤ k ∧ (j = k ∨ j = i + 2) ∧ a = ((j : Int), pow (ent t) x j)) (fun T' hT' => ?_) fun a ha => hT _ ha
    try simp only [tryM_a, req_a, bd_a, ret_a, lft_a, nox_a, thr_a, onC_n, onC_r, ite_a, decide_eq_true_eq, eq_self, if_true, Bool.false_eq_true, if_false, Bool.not_true, Bool.not_false, Bool.not_eq_true', decide_eq_false_iff_not, Bool.true_eq_false, not_true, not_false_iff]
    refine ite_P (fun c => ?_) fun c => ?_
    · have hjk : j ≠ k := fun e => c (by rw [e]; exact ho.one)
      refine v.sq.ix2 (v.g.pwR hx j) hx ?_
      exact hT' _ ⟨j + 1, by omega, by omega, by omega, by simp [pow]⟩
    · have hc : pow (ent t) x j = 0 := by simpa using c
      have : j = k := by
        rcases Nat.lt_or_ge j k with h | h
        · exact absurd hc (ho.least j j0 h)
        · omega
      exact hT' _ ⟨j, j0, jk, .inl this, rfl⟩
  · obtain ⟨j, j0, jk, jj, rfl⟩ := ha
    rw [rgs_length] at jj
    try simp only [tryM_a, req_a, bd_a, ret_a, lft_a, nox_a, thr_a, onC_n, onC_r, ite_a, decide_eq_true_eq, eq_self, if_true, Bool.false_eq_true, if_false, Bool.not_true, Bool.not_false, Bool.not_eq_true', decide_eq_false_iff_not, Bool.true_eq_false, not_true, not_false_iff]
    have : j = k := by omega
    rw [this]
    exact h k ho hk
theorem law_many_M (v : Vt t) {x n : Int} (hx : Rn t.length x) (hn : n < 2 ^ 62) (hn' : -(2 ^ 62) ≤ n) {Q : Int → Prop} (h : Q (pow (ent t) x n.toNat)) : Mi._law_many t x n Q E := by
  unfold Mi._law_many
  try simp only [tryM_a, req_a, bd_a, ret_a, lft_a, nox_a, thr_a, onC_n, onC_r, ite_a, decide_eq_true_eq, eq_self, if_true, Bool.false_eq_true, if_false, Bool.not_true, Bool.not_false, Bool.not_eq_true', decide_eq_false_iff_not, Bool.true_eq_false, not_true, not_false_iff]
  refine rng_M (by omega) ?_
  exact steps_M v hx h
end
section
variable {t : List (List Int)}
theorem law_closed_M (v : Vt t) (hlen : t.length ≤ 1000) {ms : List Int} (hm : ∀ a, a ∈ ms → Rn t.length a) {Q : List Int → Prop} (h : ∀ r, IsSet r (Cl (ent t) ms) → Q r) : Mi._law_closed t ms Q E := by
  unfold Mi._law_closed
  try simp only [tryM_a, req_a, bd_a, ret_a, lft_a, nox_a, thr_a, onC_n, onC_r, ite_a, decide_eq_true_eq, eq_self, if_true, Bool.false_eq_true, if_false, Bool.not_true, Bool.not_false, Bool.not_eq_true', decide_eq_false_iff_not, Bool.true_eq_false, not_true, not_false_iff]
  refine rng_M (by omega) ?_
  have g := v.g
  refine forS_inv (fun i (r : List Int) => Bf (ent t) ms r ∧ Dn (ent t) ms r i) ⟨.start, fun i x hi => by omega⟩ (fun i at' r T hx hr hT => ?_) fun r hr => ?_
  · obtain ⟨b, d⟩ := hr
    obtain ⟨ea, il⟩ := rgs_get hx
    have ea : at' = (i : Int) := by omega
    subst ea
    try simp only [tryM_a, req_a, bd_a, ret_a, lft_a, nox_a, thr_a, onC_n, onC_r, ite_a, decide_eq_true_eq, eq_self, if_true, Bool.false_eq_true, if_false, Bool.not_true, Bool.not_false, Bool.not_eq_true', decide_eq_false_iff_not, Bool.true_eq_false, not_true, not_false_iff]
    refine jn_M (fun (r : List Int) => Bf (ent t) ms r ∧ Dn (ent t) ms r (i + 1)) (fun T' hT' => ?_) fun r hr => hT _ hr
    try simp only [tryM_a, req_a, bd_a, ret_a, lft_a, nox_a, thr_a, onC_n, onC_r, ite_a, decide_eq_true_eq, eq_self, if_true, Bool.false_eq_true, if_false, Bool.not_true, Bool.not_false, Bool.not_eq_true', decide_eq_false_iff_not, Bool.true_eq_false, not_true, not_false_iff]
    have bl := b.len g hm
    refine ite_P (fun c => ?_) fun c => ?_
    · obtain ⟨x, hx⟩ : ∃ x, r[i]? = some x := ⟨_, List.getElem?_eq_getElem (by omega)⟩
      have hxm : x ∈ r := List.mem_of_getElem? hx
      have hxr := (b.cl x hxm).r g hm
      refine forS_inv (fun j (r' : List Int) => Bf (ent t) ms r' ∧ (∃ e, r' = r ++ e) ∧ ∀ i a, i < j → ms[i]? = some a → ent t x a ∈ r') ⟨b, ⟨[], by simp⟩, fun i a hi => by omega⟩ (fun j m r' T2 hjm hs hT2 => ?_) fun r' hs => ?_
      · obtain ⟨b', ⟨e, he⟩, hd⟩ := hs
        have hma : m ∈ ms := List.mem_of_getElem? hjm
        have hmr := hm m hma
        have hx' : r'[((i : Nat) : Int).toNat]? = some x := by rw [Int.toNat_natCast, he, List.getElem?_append_left (by omega)]; exact hx
        try simp only [tryM_a, req_a, bd_a, ret_a, lft_a, nox_a, thr_a, onC_n, onC_r, ite_a, decide_eq_true_eq, eq_self, if_true, Bool.false_eq_true, if_false, Bool.not_true, Bool.not_false, Bool.not_eq_true', decide_eq_false_iff_not, Bool.true_eq_false, not_true, not_false_iff]
        refine jn_M (fun (r' : List Int) => Bf (ent t) ms r' ∧ (∃ e, r' = r ++ e) ∧ ∀ i a, i < j + 1 → ms[i]? = some a → ent t x a ∈ r') (fun T' hT' => ?_) fun r hr => hT2 _ hr
        try simp only [tryM_a, req_a, bd_a, ret_a, lft_a, nox_a, thr_a, onC_n, onC_r, ite_a, decide_eq_true_eq, eq_self, if_true, Bool.false_eq_true, if_false, Bool.not_true, Bool.not_false, Bool.not_eq_true', decide_eq_false_iff_not, Bool.true_eq_false, not_true, not_false_iff]
        refine ix_M (by omega) hx' (v.sq.ix2 hxr hmr ?_)
        simp only [memD]
        have step : ∀ {r'' : List Int}, (∀ y, y ∈ r' → y ∈ r'') → ent t x m ∈ r'' → ∀ i a, i < j + 1 → ms[i]? = some a → ent t x a ∈ r'' := fun {r''} hs hm i a hi ha => by
          rcases Nat.lt_or_ge i j with h | h
          · exact hs _ (hd i a h ha)
          · have : i = j := by omega
            subst this
            rw [hjm] at ha
            cases ha
            exact hm
        refine ite_P (fun c => ?_) fun c => ?_
        · have c : ent t x m ∉ r' := by simpa using c
          refine ix_M (by omega) hx' (v.sq.ix2 hxr hmr ?_)
          refine app_M (by have := b'.len g hm; omega) ?_
          exact hT' _ ⟨b'.add (by rw [he]; exact List.mem_append_left _ hxm) hma c, ⟨e ++ [ent t x m], by rw [he, List.append_assoc]⟩, step (fun y hy => List.mem_append_left _ hy) (by simp)⟩
        · have c : ent t x m ∈ r' := by simpa using c
          exact hT' _ ⟨b', ⟨e, he⟩, step (fun y hy => hy) c⟩
      · obtain ⟨b', ⟨e, he⟩, hd⟩ := hs
        try simp only [tryM_a, req_a, bd_a, ret_a, lft_a, nox_a, thr_a, onC_n, onC_r, ite_a, decide_eq_true_eq, eq_self, if_true, Bool.false_eq_true, if_false, Bool.not_true, Bool.not_false, Bool.not_eq_true', decide_eq_false_iff_not, Bool.true_eq_false, not_true, not_false_iff]
        refine hT' _ ⟨b', ?_⟩
        intro k y hk hy a ha
        rcases Nat.lt_or_ge k i with h | h
        · have := (Dn.app (e := e) d (by omega)) k y h (by rw [← he]; exact hy) a ha
          rw [he]
          exact this
        · have : k = i := by omega
          subst this
          rw [he, List.getElem?_append_left (by omega), hx] at hy
          cases hy
          obtain ⟨j, hj⟩ := List.getElem?_of_mem ha
          exact hd j a (List.getElem?_eq_some_iff.mp hj).1 hj
    · refine hT' _ ⟨b, fun k y hk hy a ha => ?_⟩
      have := (List.getElem?_eq_some_iff.mp hy).1
      exact d k y (by omega) hy a ha
  · obtain ⟨b, d⟩ := hr
    rw [rgs_length] at d
    have bl := b.len g hm
    have d : Dn (ent t) ms r r.length := fun i x hi => d i x (by omega)
    try simp only [tryM_a, req_a, bd_a, ret_a, lft_a, nox_a, thr_a, onC_n, onC_r, ite_a, decide_eq_true_eq, eq_self, if_true, Bool.false_eq_true, if_false, Bool.not_true, Bool.not_false, Bool.not_eq_true', decide_eq_false_iff_not, Bool.true_eq_false, not_true, not_false_iff]
    exact srt_M b.nd (b.done d) h
end
section
variable {t : List (List Int)}
/-- new generators, one after another, by a closure that is told -/
theorem gens_loop (g : Grp t.length (ent t)) {body : Int → List Int → M Empty (List Int)} {Q : List Int → Prop} (hb : ∀ x f (T : List Int → Prop), Rn t.length x → f.length < 1000 → (∀ a, a ∈ f → Rn t.length a) → (Cl (ent t) f x → T f) → (¬ Cl (ent t) f x → T (f ++ [x])) → body x f T E) (hlen : t.length ≤ 1000) (h : Q (gens t.length (ent t))) :
    forS (rgs 1 (t.length : Int)) [] body Q E := by
  have hp := g.pos
  have e : rgs 1 (t.length : Int) = (List.range (t.length - 1)).map fun (i : Nat) => (1 : Int) + (i : Int) := by
    unfold rgs
    rw [show ((t.length : Int) - 1).toNat = t.length - 1 by omega]
  rw [e]
  unfold gens at h
  have hmem : ∀ x, x ∈ ((List.range (t.length - 1)).map fun (i : Nat) => (1 : Int) + (i : Int)) → Rn t.length x := fun x hx => by
    rw [List.mem_map] at hx
    obtain ⟨i, hi, rfl⟩ := hx
    rw [List.mem_range] at hi
    exact ⟨by omega, by omega⟩
  have hlim : ((List.range (t.length - 1)).map fun (i : Nat) => (1 : Int) + (i : Int)).length < 1000 := by rw [List.length_map, List.length_range]; omega
  generalize ((List.range (t.length - 1)).map fun (i : Nat) => (1 : Int) + (i : Int)) = l at *
  refine forS_inv (fun i (a : List Int) => a = (l.take i).foldl (genStep (ent t)) [] ∧ (∀ x, x ∈ a → x ∈ l) ∧ a.length ≤ i) ⟨rfl, (fun x hx => by cases hx), (by simp)⟩ (fun i x f T hx ha hT => ?_) fun f ha => ?_
  · obtain ⟨h1, h2, h3⟩ := ha
    have hxm : x ∈ l := List.mem_of_getElem? hx
    have hlt := (List.getElem?_eq_some_iff.mp hx).1
    have htk : (l.take (i + 1)).foldl (genStep (ent t)) [] = genStep (ent t) f x := by
      rw [List.take_add_one, hx, h1]
      simp
    refine hb x f T (hmem x hxm) (by omega) (fun a ha => hmem a (h2 a ha)) (fun c => hT _ ⟨by rw [htk, genStep, if_pos c], h2, by omega⟩) fun c => hT _ ⟨by rw [htk, genStep, if_neg c], fun y hy => ?_, by simp only [List.length_append, List.length_singleton]; omega⟩
    rcases List.mem_append.mp hy with hy | hy
    · exact h2 y hy
    · rw [List.mem_singleton] at hy
      exact hy ▸ hxm
  · rw [List.take_length] at ha
    rw [ha.1]
    exact h
theorem law_generators_M (v : Vt t) (hlen : t.length ≤ 1000) {Q : List Int → Prop} (h : Q (gens t.length (ent t))) : Mi._law_generators t Q E := by
  unfold Mi._law_generators
  try simp only [tryM_a, req_a, bd_a, ret_a, lft_a, nox_a, thr_a, onC_n, onC_r, ite_a, decide_eq_true_eq, eq_self, if_true, Bool.false_eq_true, if_false, Bool.not_true, Bool.not_false, Bool.not_eq_true', decide_eq_false_iff_not, Bool.true_eq_false, not_true, not_false_iff]
  refine rng_M (by omega) ?_
  refine gens_loop v.g (fun x f T hx hf hm h1 h2 => ?_) hlen h
  try simp only [tryM_a, req_a, bd_a, ret_a, lft_a, nox_a, thr_a, onC_n, onC_r, ite_a, decide_eq_true_eq, eq_self, if_true, Bool.false_eq_true, if_false, Bool.not_true, Bool.not_false, Bool.not_eq_true', decide_eq_false_iff_not, Bool.true_eq_false, not_true, not_false_iff]
  refine jn_M (fun r => (Cl (ent t) f x → r = f) ∧ (¬ Cl (ent t) f x → r = f ++ [x])) (fun T' hT' => ?_) fun r hr => ?_
  · try simp only [tryM_a, req_a, bd_a, ret_a, lft_a, nox_a, thr_a, onC_n, onC_r, ite_a, decide_eq_true_eq, eq_self, if_true, Bool.false_eq_true, if_false, Bool.not_true, Bool.not_false, Bool.not_eq_true', decide_eq_false_iff_not, Bool.true_eq_false, not_true, not_false_iff]
    refine law_closed_M v hlen hm fun r hr => ?_
    simp only [memD]
    refine ite_P (fun c => ?_) fun c => ?_
    · have c : ¬ Cl (ent t) f x := fun z => by
        have := (hr.mem x).mpr z
        simp [this] at c
      exact app_M (by omega) (hT' _ ⟨fun z => absurd z c, fun _ => rfl⟩)
    · have c : Cl (ent t) f x := (hr.mem x).mp (by simpa using c)
      exact hT' _ ⟨fun _ => rfl, fun z => absurd c z⟩
  · try simp only [tryM_a, req_a, bd_a, ret_a, lft_a, nox_a, thr_a, onC_n, onC_r, ite_a, decide_eq_true_eq, eq_self, if_true, Bool.false_eq_true, if_false, Bool.not_true, Bool.not_false, Bool.not_eq_true', decide_eq_false_iff_not, Bool.true_eq_false, not_true, not_false_iff]
    by_cases c : Cl (ent t) f x
    · rw [hr.1 c]; exact h1 c
    · rw [hr.2 c]; exact h2 c
end
/-! ### k00 -/
theorem rowAt_M {ε : Type} {E : ε → Prop} {t : List (List Int)} {x : Int} {r : List Int} {Q : Nat × List Int → Prop} (hx : Rn t.length x) (hr : t[x.toNat]? = some r) (h : Q (x.toNat, r)) : rowAt t x Q E := ⟨_, r, ixN_of hx, hr, h⟩
structure Shp (n : Nat) (t : List (List Int)) : Prop where
  len : t.length = n
  rows : ∀ r, r ∈ t → r.length = n
theorem Shp.set {n : Nat} {t : List (List Int)} (s : Shp n t) {i : Nat} {r : List Int} (hr : r.length = n) : Shp n (t.set i r) := ⟨by rw [List.length_set, s.len], fun w hw => by
  rcases List.mem_or_eq_of_mem_set hw with hw | rfl
  · exact s.rows w hw
  · exact hr⟩
theorem Shp.get {n : Nat} {t : List (List Int)} (s : Shp n t) {x : Int} (hx : Rn n x) : ∃ r, t[x.toNat]? = some r ∧ r.length = n := by
  have : x.toNat < t.length := by have := s.len; have := hx.1; have := hx.2; omega
  exact ⟨_, List.getElem?_eq_getElem this, s.rows _ (List.getElem_mem this)⟩
theorem law_spoilt_M {t : List (List Int)} (v : Vt t) (hlen : t.length ≤ 40) {Q : List (List Int) → Prop} (h : ∀ t', t'.length ≤ 40 → Q t') : Mi._law_spoilt () t Q E := by
  have hp := v.pos
  have sh : Shp t.length t := ⟨rfl, v.sq.len⟩
  unfold Mi._law_spoilt
  try simp only [tryM_a, req_a, bd_a, ret_a, lft_a, nox_a, thr_a, onC_n, onC_r, ite_a, decide_eq_true_eq, eq_self, if_true, Bool.false_eq_true, if_false, Bool.not_true, Bool.not_false, Bool.not_eq_true', decide_eq_false_iff_not, Bool.true_eq_false, not_true, not_false_iff]
  refine law_take_M (by decide) (by decide) fun kind k0 k1 => ?_
  refine ⟨by omega, mapM_M (fun r => r) (fun r hr T hT => hT) ?_⟩
  rw [List.map_id']
  refine law_take_M (by omega) (by omega) fun x x0 x1 => ?_
  refine law_take_M (by omega) (by omega) fun y y0 y1 => ?_
  have hx : Rn t.length x := ⟨x0, x1⟩
  have hy : Rn t.length y := ⟨y0, y1⟩
  refine jn_M (fun t' => Shp t.length t') (fun T hT => ?_) fun t1 sh => ?_
  · try simp only [tryM_a, req_a, bd_a, ret_a, lft_a, nox_a, thr_a, onC_n, onC_r, ite_a, decide_eq_true_eq, eq_self, if_true, Bool.false_eq_true, if_false, Bool.not_true, Bool.not_false, Bool.not_eq_true', decide_eq_false_iff_not, Bool.true_eq_false, not_true, not_false_iff]
    have go : Mi._law_take () (t.length : Int) (fun a => rowAt t x (fun a_1 => put a_1.2 y a (fun a => T (t.set a_1.1 a)) E) E) noE := by
      refine law_take_M (by omega) (by omega) fun e _ _ => ?_
      obtain ⟨r, h1, h2⟩ := sh.get hx
      exact rowAt_M hx h1 (put_M y0 (by show y < (r.length : Int); omega) (hT _ (sh.set (by rw [List.length_set]; exact h2))))
    exact ite_P (fun c => go) fun c => ite_P (fun d => go) fun d => hT _ sh
  try simp only [tryM_a, req_a, bd_a, ret_a, lft_a, nox_a, thr_a, onC_n, onC_r, ite_a, decide_eq_true_eq, eq_self, if_true, Bool.false_eq_true, if_false, Bool.not_true, Bool.not_false, Bool.not_eq_true', decide_eq_false_iff_not, Bool.true_eq_false, not_true, not_false_iff]
  refine jn_M (fun t' => Shp t.length t') (fun T hT => ?_) fun t2 sh => ?_
  · try simp only [tryM_a, req_a, bd_a, ret_a, lft_a, nox_a, thr_a, onC_n, onC_r, ite_a, decide_eq_true_eq, eq_self, if_true, Bool.false_eq_true, if_false, Bool.not_true, Bool.not_false, Bool.not_eq_true', decide_eq_false_iff_not, Bool.true_eq_false, not_true, not_false_iff]
    refine ite_P (fun c => ?_) fun c => hT _ sh
    refine law_take_M (by decide) (by decide) fun e e0 e1 => ?_
    obtain ⟨r, h1, h2⟩ := sh.get hx
    have hl : e.toNat < [(-1 : Int), (t.length : Int)].length := by simp; omega
    refine ix_M e0 (List.getElem?_eq_getElem hl) (rowAt_M (by rw [sh.len]; exact hx) h1 (put_M y0 (by show y < (r.length : Int); omega) (hT _ (sh.set (by rw [List.length_set]; exact h2)))))
  try simp only [tryM_a, req_a, bd_a, ret_a, lft_a, nox_a, thr_a, onC_n, onC_r, ite_a, decide_eq_true_eq, eq_self, if_true, Bool.false_eq_true, if_false, Bool.not_true, Bool.not_false, Bool.not_eq_true', decide_eq_false_iff_not, Bool.true_eq_false, not_true, not_false_iff]
  refine jn_M (fun t' => t'.length = t.length ∧ (¬ kind = 3 → Shp t.length t')) (fun T hT => ?_) fun t3 sh => ?_
  · try simp only [tryM_a, req_a, bd_a, ret_a, lft_a, nox_a, thr_a, onC_n, onC_r, ite_a, decide_eq_true_eq, eq_self, if_true, Bool.false_eq_true, if_false, Bool.not_true, Bool.not_false, Bool.not_eq_true', decide_eq_false_iff_not, Bool.true_eq_false, not_true, not_false_iff]
    refine ite_P (fun c => ?_) fun c => hT _ ⟨sh.len, fun _ => sh⟩
    obtain ⟨r, h1, h2⟩ := sh.get hx
    refine rowAt_M (by rw [sh.len]; exact hx) h1 (law_take_M (by omega) (by omega) fun e e0 e1 => app_M (by show r.length < 100000; omega) (hT _ ⟨by rw [List.length_set, sh.len], fun z => absurd c z⟩))
  try simp only [tryM_a, req_a, bd_a, ret_a, lft_a, nox_a, thr_a, onC_n, onC_r, ite_a, decide_eq_true_eq, eq_self, if_true, Bool.false_eq_true, if_false, Bool.not_true, Bool.not_false, Bool.not_eq_true', decide_eq_false_iff_not, Bool.true_eq_false, not_true, not_false_iff]
  refine jn_M (fun t' => t'.length = t.length) (fun T hT => ?_) fun t4 sh => ?_
  · try simp only [tryM_a, req_a, bd_a, ret_a, lft_a, nox_a, thr_a, onC_n, onC_r, ite_a, decide_eq_true_eq, eq_self, if_true, Bool.false_eq_true, if_false, Bool.not_true, Bool.not_false, Bool.not_eq_true', decide_eq_false_iff_not, Bool.true_eq_false, not_true, not_false_iff]
    refine ite_P (fun c => ?_) fun c => hT _ sh.1
    have sh := sh.2 (by omega)
    obtain ⟨r, h1, h2⟩ := sh.get hx
    refine rowAt_M (by rw [sh.len]; exact hx) h1 ⟨fun z => ?_, hT _ (by rw [List.length_set, sh.len])⟩
    simp only at z
    rw [z] at h2
    simp at h2
    omega
  try simp only [tryM_a, req_a, bd_a, ret_a, lft_a, nox_a, thr_a, onC_n, onC_r, ite_a, decide_eq_true_eq, eq_self, if_true, Bool.false_eq_true, if_false, Bool.not_true, Bool.not_false, Bool.not_eq_true', decide_eq_false_iff_not, Bool.true_eq_false, not_true, not_false_iff]
  refine jn_M (fun t' => t'.length ≤ t.length) (fun T hT => ?_) fun t5 sh => ?_
  · try simp only [tryM_a, req_a, bd_a, ret_a, lft_a, nox_a, thr_a, onC_n, onC_r, ite_a, decide_eq_true_eq, eq_self, if_true, Bool.false_eq_true, if_false, Bool.not_true, Bool.not_false, Bool.not_eq_true', decide_eq_false_iff_not, Bool.true_eq_false, not_true, not_false_iff]
    refine ite_P (fun c => ?_) fun c => hT _ (by omega)
    refine ⟨fun z => ?_, hT _ (by rw [List.length_dropLast]; omega)⟩
    rw [z] at sh
    simp at sh
    omega
  try simp only [tryM_a, req_a, bd_a, ret_a, lft_a, nox_a, thr_a, onC_n, onC_r, ite_a, decide_eq_true_eq, eq_self, if_true, Bool.false_eq_true, if_false, Bool.not_true, Bool.not_false, Bool.not_eq_true', decide_eq_false_iff_not, Bool.true_eq_false, not_true, not_false_iff]
  refine jn_M (fun t' => t'.length ≤ 40) (fun T hT => ?_) fun t6 sh => h _ sh
  try simp only [tryM_a, req_a, bd_a, ret_a, lft_a, nox_a, thr_a, onC_n, onC_r, ite_a, decide_eq_true_eq, eq_self, if_true, Bool.false_eq_true, if_false, Bool.not_true, Bool.not_false, Bool.not_eq_true', decide_eq_false_iff_not, Bool.true_eq_false, not_true, not_false_iff]
  refine ite_P (fun c => ?_) fun c => hT _ (by omega)
  refine law_take_M (by decide) (by decide) fun e e0 e1 => law_take_M (by decide) (by decide) fun f f0 f1 => ?_
  refine rng_M (by omega) ⟨by rw [rgs_length]; omega, ?_⟩
  refine mapM_M (fun a => (rgs 0 (33 + e)).map fun b => (a + b + f) % (33 + e)) (fun a ha T hT => rng_M (by omega) ⟨by rw [rgs_length]; omega, mapM_M (fun b => (a + b + f) % (33 + e)) (fun b hb T hT => md_M (by omega) hT) hT⟩) (hT _ ?_)
  rw [List.length_map, rgs_length]
  omega
theorem law_valid_M {t : List (List Int)} {Q : Bool → Prop} (hl : t.length ≤ 1000) (h1 : Vt t → Q true) (h2 : ¬ Vt t → Q false) : Mi._law_valid t Q E := by
  unfold Mi._law_valid
  try simp only [tryM_a, req_a, bd_a, ret_a, lft_a, nox_a, thr_a, onC_n, onC_r, ite_a, decide_eq_true_eq, eq_self, if_true, Bool.false_eq_true, if_false, Bool.not_true, Bool.not_false, Bool.not_eq_true', decide_eq_false_iff_not, Bool.true_eq_false, not_true, not_false_iff]
  refine forC_all (fun r => r.length = t.length ∧ ∀ e, e ∈ r → 0 ≤ e ∧ e < t.length) (fun r hr T k1 k2 => ?_) (fun hall => ?_) (fun ⟨r, hr, hn⟩ => h2 fun v => hn (sq_iff.mp v.sq r hr))
  · try simp only [tryM_a, req_a, bd_a, ret_a, lft_a, nox_a, thr_a, onC_n, onC_r, ite_a, decide_eq_true_eq, eq_self, if_true, Bool.false_eq_true, if_false, Bool.not_true, Bool.not_false, Bool.not_eq_true', decide_eq_false_iff_not, Bool.true_eq_false, not_true, not_false_iff]
    refine ite_P (fun hlen => k2 fun z => hlen (by rw [z.1])) (fun hlen => ?_)
    have hlen : (r.length : Int) = t.length := by simpa using hlen
    refine forC_all (fun e => 0 ≤ e ∧ e < t.length) (fun e he T' j1 j2 => ?_) (fun hh => k1 ⟨by omega, hh⟩) (fun ⟨e, he, hn⟩ => k2 fun z => hn (z.2 e he))
    try simp only [tryM_a, req_a, bd_a, ret_a, lft_a, nox_a, thr_a, onC_n, onC_r, ite_a, decide_eq_true_eq, eq_self, if_true, Bool.false_eq_true, if_false, Bool.not_true, Bool.not_false, Bool.not_eq_true', decide_eq_false_iff_not, Bool.true_eq_false, not_true, not_false_iff]
    refine ite_P (fun c => j2 (by omega)) fun c => ite_P (fun d => j2 (by omega)) fun d => j1 (by omega)
  · try simp only [tryM_a, req_a, bd_a, ret_a, lft_a, nox_a, thr_a, onC_n, onC_r, ite_a, decide_eq_true_eq, eq_self, if_true, Bool.false_eq_true, if_false, Bool.not_true, Bool.not_false, Bool.not_eq_true', decide_eq_false_iff_not, Bool.true_eq_false, not_true, not_false_iff]
    have sq : Sq t := sq_iff.mpr hall
    refine rng_M (by omega) ?_
    refine forC_all (fun x => ent t 0 x = x ∧ ent t x 0 = x ∧ 0 ∈ row t x) (fun x hx T k1 k2 => ?_) (fun hh => ?_) (fun ⟨x, hx, hn⟩ => h2 fun v => ?_)
    · rw [mem_rgs] at hx
      try simp only [tryM_a, req_a, bd_a, ret_a, lft_a, nox_a, thr_a, onC_n, onC_r, ite_a, decide_eq_true_eq, eq_self, if_true, Bool.false_eq_true, if_false, Bool.not_true, Bool.not_false, Bool.not_eq_true', decide_eq_false_iff_not, Bool.true_eq_false, not_true, not_false_iff]
      refine sq.ix2 ⟨by omega, by omega⟩ hx ?_
      refine ite_P (fun c => k2 fun z => c z.1) fun c => ?_
      refine sq.ix2 hx ⟨by omega, by omega⟩ ?_
      refine ite_P (fun d => k2 fun z => d z.2.1) fun d => ?_
      refine ix_row hx ?_
      simp only [memD]
      refine ite_P (fun e => k2 fun z => by simp [z.2.2] at e) fun e => k1 ⟨by simpa using c, by simpa using d, by simpa using e⟩
    · try simp only [tryM_a, req_a, bd_a, ret_a, lft_a, nox_a, thr_a, onC_n, onC_r, ite_a, decide_eq_true_eq, eq_self, if_true, Bool.false_eq_true, if_false, Bool.not_true, Bool.not_false, Bool.not_eq_true', decide_eq_false_iff_not, Bool.true_eq_false, not_true, not_false_iff]
      refine rng_M (by omega) ?_
      refine forC_all (fun x => ∀ y z : Int, Rn t.length y → Rn t.length z → ent t (ent t x y) z = ent t x (ent t y z)) (fun x hx T k1 k2 => ?_) (fun has => ?_) (fun ⟨x, hx, hn⟩ => h2 fun v => hn fun y z hy hz => v.as x y z (mem_rgs.mp hx) hy hz)
      · rw [mem_rgs] at hx
        try simp only [tryM_a, req_a, bd_a, ret_a, lft_a, nox_a, thr_a, onC_n, onC_r, ite_a, decide_eq_true_eq, eq_self, if_true, Bool.false_eq_true, if_false, Bool.not_true, Bool.not_false, Bool.not_eq_true', decide_eq_false_iff_not, Bool.true_eq_false, not_true, not_false_iff]
        refine rng_M (by omega) ?_
        refine forC_all (fun y => ∀ z : Int, Rn t.length z → ent t (ent t x y) z = ent t x (ent t y z)) (fun y hy T' k1' k2' => ?_) (fun has => k1 fun y z hy hz => has y (mem_rgs.mpr hy) z hz) (fun ⟨y, hy, hn⟩ => k2 fun v => hn fun z hz => v y z (mem_rgs.mp hy) hz)
        rw [mem_rgs] at hy
        try simp only [tryM_a, req_a, bd_a, ret_a, lft_a, nox_a, thr_a, onC_n, onC_r, ite_a, decide_eq_true_eq, eq_self, if_true, Bool.false_eq_true, if_false, Bool.not_true, Bool.not_false, Bool.not_eq_true', decide_eq_false_iff_not, Bool.true_eq_false, not_true, not_false_iff]
        refine rng_M (by omega) ?_
        refine forC_all (fun z => ent t (ent t x y) z = ent t x (ent t y z)) (fun z hz T'' k1'' k2'' => ?_) (fun has => k1' fun z hz => has z (mem_rgs.mpr hz)) (fun ⟨z, hz, hn⟩ => k2' fun v => hn (v z (mem_rgs.mp hz)))
        rw [mem_rgs] at hz
        try simp only [tryM_a, req_a, bd_a, ret_a, lft_a, nox_a, thr_a, onC_n, onC_r, ite_a, decide_eq_true_eq, eq_self, if_true, Bool.false_eq_true, if_false, Bool.not_true, Bool.not_false, Bool.not_eq_true', decide_eq_false_iff_not, Bool.true_eq_false, not_true, not_false_iff]
        refine sq.ix2 hx hy (sq.ix2 (sq.erg hx hy) hz ?_)
        refine ix_row hx (sq.ix2 hy hz (sq.ix1 hx (sq.erg hy hz) ?_))
        exact ite_P (fun c => k2'' c) fun c => k1'' (by simpa using c)
      · try simp only [tryM_a, req_a, bd_a, ret_a, lft_a, nox_a, thr_a, onC_n, onC_r, ite_a, decide_eq_true_eq, eq_self, if_true, Bool.false_eq_true, if_false, Bool.not_true, Bool.not_false, Bool.not_eq_true', decide_eq_false_iff_not, Bool.true_eq_false, not_true, not_false_iff]
        by_cases hp : 0 < t.length
        · rw [decide_eq_true (by omega)]
          refine h1 (vt_of sq hp (fun x hx => ⟨(hh x (mem_rgs.mpr hx)).1, (hh x (mem_rgs.mpr hx)).2.1⟩) (fun r hr => ?_) fun x y z hx hy hz => has x (mem_rgs.mpr hx) y z hy hz)
          obtain ⟨i, hi⟩ := List.getElem?_of_mem hr
          have hlt := (List.getElem?_eq_some_iff.mp hi).1
          have := (hh (i : Int) (mem_rgs.mpr ⟨by omega, by omega⟩)).2.2
          rw [row_of hi] at this
          exact this
        · rw [decide_eq_false (by omega)]
          exact h2 fun v => hp v.pos
    · have hx := mem_rgs.mp hx
      exact hn ⟨v.g.i1 hx, v.g.i2 hx, v.inv _ (row_mem hx.1 hx.2)⟩
abbrev sMade : Str := PySem.Str.ofString "made"
abbrev sLim : Str := PySem.Str.ofString "limit"
abbrev sInv : Str := PySem.Str.ofString "invalid"
theorem law_made_M {t : List (List Int)} {Q : Str × (C_Group ⊕ Bool) → Prop} (hl : t.length ≤ 1000) (h1 : 32 < t.length → Q (sLim, .inr true)) (h2 : t.length ≤ 32 → ¬ Vt t → Q (sInv, .inr true)) (h3 : t.length ≤ 32 → Vt t → Q (sMade, .inl (gob t))) : Mi._law_made t Q E := by
  unfold Mi._law_made
  try simp only [tryM_a, req_a, bd_a, ret_a, lft_a, nox_a, thr_a, onC_n, onC_r, ite_a, decide_eq_true_eq, eq_self, if_true, Bool.false_eq_true, if_false, Bool.not_true, Bool.not_false, Bool.not_eq_true', decide_eq_false_iff_not, Bool.true_eq_false, not_true, not_false_iff]
  refine Group_init_M hl (fun c => ?_) (fun c v => ?_) fun c v => ?_
  · try simp only [tryM_a, req_a, bd_a, ret_a, lft_a, nox_a, thr_a, onC_n, onC_r, ite_a, decide_eq_true_eq, eq_self, if_true, Bool.false_eq_true, if_false, Bool.not_true, Bool.not_false, Bool.not_eq_true', decide_eq_false_iff_not, Bool.true_eq_false, not_true, not_false_iff, sub_LimitExceeded, sub_StepError, sub_ValueError, sub_InvalidGroup]
    exact h1 c
  · try simp only [tryM_a, req_a, bd_a, ret_a, lft_a, nox_a, thr_a, onC_n, onC_r, ite_a, decide_eq_true_eq, eq_self, if_true, Bool.false_eq_true, if_false, Bool.not_true, Bool.not_false, Bool.not_eq_true', decide_eq_false_iff_not, Bool.true_eq_false, not_true, not_false_iff, sub_LimitExceeded, sub_StepError, sub_ValueError, sub_InvalidGroup]
    exact h2 c v
  · exact h3 c v
theorem law_refused_M {t : List (List Int)} (v : Vt t) (hl : t.length ≤ 1000) {w bad : Int} {Q : Bool → Prop} (hw : 0 ≤ w ∧ w < 6) (hb : ¬ Rn t.length bad) (h : Q true) : Mi._law_refused (gob t) w bad Q E := by
  unfold Mi._law_refused
  try simp only [tryM_a, req_a, bd_a, ret_a, lft_a, nox_a, thr_a, onC_n, onC_r, ite_a, decide_eq_true_eq, eq_self, if_true, Bool.false_eq_true, if_false, Bool.not_true, Bool.not_false, Bool.not_eq_true', decide_eq_false_iff_not, Bool.true_eq_false, not_true, not_false_iff]
  have hE : (fun e => (if sub_InvalidElement e = true then (bd (bd (ret (sub_StepError e)) fun b5 => if b5 = true then (ret (!(sub_InvalidGroup e))) else ret false) fun d => ret (.rt d)) else (fun _ _ => False) : M Empty (Ctl Unit Bool)) (fun c => onC (fun _ => ret false) (fun d => ret d) c Q E) E) .InvalidElement := h
  try simp only [tryM_a, req_a, bd_a, ret_a, lft_a, nox_a, thr_a, onC_n, onC_r, ite_a, decide_eq_true_eq, eq_self, if_true, Bool.false_eq_true, if_false, Bool.not_true, Bool.not_false, Bool.not_eq_true', decide_eq_false_iff_not, Bool.true_eq_false, not_true, not_false_iff] at hE
  refine jn_M (fun _ => ¬ w = 0) (fun T hT => ?_) fun _ c0 => ?_
  · try simp only [tryM_a, req_a, bd_a, ret_a, lft_a, nox_a, thr_a, onC_n, onC_r, ite_a, decide_eq_true_eq, eq_self, if_true, Bool.false_eq_true, if_false, Bool.not_true, Bool.not_false, Bool.not_eq_true', decide_eq_false_iff_not, Bool.true_eq_false, not_true, not_false_iff]
    exact ite_P (fun c => multiply_M v (fun hx => absurd hx hb) fun _ => h) fun c => hT _ c
  try simp only [tryM_a, req_a, bd_a, ret_a, lft_a, nox_a, thr_a, onC_n, onC_r, ite_a, decide_eq_true_eq, eq_self, if_true, Bool.false_eq_true, if_false, Bool.not_true, Bool.not_false, Bool.not_eq_true', decide_eq_false_iff_not, Bool.true_eq_false, not_true, not_false_iff]
  refine jn_M (fun _ => ¬ w = 1) (fun T hT => ?_) fun _ c1 => ?_
  · try simp only [tryM_a, req_a, bd_a, ret_a, lft_a, nox_a, thr_a, onC_n, onC_r, ite_a, decide_eq_true_eq, eq_self, if_true, Bool.false_eq_true, if_false, Bool.not_true, Bool.not_false, Bool.not_eq_true', decide_eq_false_iff_not, Bool.true_eq_false, not_true, not_false_iff]
    exact ite_P (fun c => multiply_M v (fun _ hx => absurd hx hb) fun _ => h) fun c => hT _ c
  try simp only [tryM_a, req_a, bd_a, ret_a, lft_a, nox_a, thr_a, onC_n, onC_r, ite_a, decide_eq_true_eq, eq_self, if_true, Bool.false_eq_true, if_false, Bool.not_true, Bool.not_false, Bool.not_eq_true', decide_eq_false_iff_not, Bool.true_eq_false, not_true, not_false_iff]
  refine jn_M (fun _ => ¬ w = 2) (fun T hT => ?_) fun _ c2 => ?_
  · try simp only [tryM_a, req_a, bd_a, ret_a, lft_a, nox_a, thr_a, onC_n, onC_r, ite_a, decide_eq_true_eq, eq_self, if_true, Bool.false_eq_true, if_false, Bool.not_true, Bool.not_false, Bool.not_eq_true', decide_eq_false_iff_not, Bool.true_eq_false, not_true, not_false_iff]
    exact ite_P (fun c => inverse_M v (fun hx => absurd hx hb) fun _ => h) fun c => hT _ c
  try simp only [tryM_a, req_a, bd_a, ret_a, lft_a, nox_a, thr_a, onC_n, onC_r, ite_a, decide_eq_true_eq, eq_self, if_true, Bool.false_eq_true, if_false, Bool.not_true, Bool.not_false, Bool.not_eq_true', decide_eq_false_iff_not, Bool.true_eq_false, not_true, not_false_iff]
  refine jn_M (fun _ => ¬ w = 3) (fun T hT => ?_) fun _ c3 => ?_
  · try simp only [tryM_a, req_a, bd_a, ret_a, lft_a, nox_a, thr_a, onC_n, onC_r, ite_a, decide_eq_true_eq, eq_self, if_true, Bool.false_eq_true, if_false, Bool.not_true, Bool.not_false, Bool.not_eq_true', decide_eq_false_iff_not, Bool.true_eq_false, not_true, not_false_iff]
    exact ite_P (fun c => power_M v hl (fun hx => absurd hx hb) fun _ => h) fun c => hT _ c
  try simp only [tryM_a, req_a, bd_a, ret_a, lft_a, nox_a, thr_a, onC_n, onC_r, ite_a, decide_eq_true_eq, eq_self, if_true, Bool.false_eq_true, if_false, Bool.not_true, Bool.not_false, Bool.not_eq_true', decide_eq_false_iff_not, Bool.true_eq_false, not_true, not_false_iff]
  refine jn_M (fun _ => ¬ w = 4) (fun T hT => ?_) fun _ c4 => ?_
  · try simp only [tryM_a, req_a, bd_a, ret_a, lft_a, nox_a, thr_a, onC_n, onC_r, ite_a, decide_eq_true_eq, eq_self, if_true, Bool.false_eq_true, if_false, Bool.not_true, Bool.not_false, Bool.not_eq_true', decide_eq_false_iff_not, Bool.true_eq_false, not_true, not_false_iff]
    exact ite_P (fun c => order_of_M v (fun hx => absurd hx hb) fun _ => h) fun c => hT _ c
  try simp only [tryM_a, req_a, bd_a, ret_a, lft_a, nox_a, thr_a, onC_n, onC_r, ite_a, decide_eq_true_eq, eq_self, if_true, Bool.false_eq_true, if_false, Bool.not_true, Bool.not_false, Bool.not_eq_true', decide_eq_false_iff_not, Bool.true_eq_false, not_true, not_false_iff]
  refine jn_M (fun _ => ¬ w = 5) (fun T hT => ?_) fun _ c5 => by omega
  try simp only [tryM_a, req_a, bd_a, ret_a, lft_a, nox_a, thr_a, onC_n, onC_r, ite_a, decide_eq_true_eq, eq_self, if_true, Bool.false_eq_true, if_false, Bool.not_true, Bool.not_false, Bool.not_eq_true', decide_eq_false_iff_not, Bool.true_eq_false, not_true, not_false_iff]
  exact ite_P (fun c => generated_M v hl (fun hx => absurd (hx bad (by simp)) hb) fun _ => h) fun c => hT _ c
theorem law_plain_M {t : List (List Int)} (v : Vt t) (hl : t.length ≤ 1000) {Q : Bool → Prop} (h : Q true) : Mi._law_plain (gob t) t Q E := by
  unfold Mi._law_plain Mi._law_is_integer
  try simp only [tryM_a, req_a, bd_a, ret_a, lft_a, nox_a, thr_a, onC_n, onC_r, ite_a, decide_eq_true_eq, eq_self, if_true, Bool.false_eq_true, if_false, Bool.not_true, Bool.not_false, Bool.not_eq_true', decide_eq_false_iff_not, Bool.true_eq_false, not_true, not_false_iff]
  refine no_P (by simp [gob]) ?_
  refine ⟨by show t.length ≤ 100000; omega, mapM_M (fun _ => true) (fun r hr T hT => hT) ?_⟩
  refine no_P (by simp) ?_
  refine ⟨by show t.length ≤ 100000; omega, mapM_M (fun r => r) (fun r hr T hT => hT) ?_⟩
  rw [List.map_id']
  refine no_P (by simp [gob]) ?_
  refine ⟨by omega, mapM_M (fun r => (r.idxOf 0 : Nat)) (fun r hr T hT => idx_M (v.inv r hr) hT) ?_⟩
  rw [decide_eq_true (by rfl)]
  exact h
theorem inv_ord {t : List (List Int)} (v : Vt t) {x : Int} (hx : Rn t.length x) {k : Nat} (ho : IsOrd (ent t) x k) {e : Int} (he : 0 ≤ e) : pow (ent t) x ((-e) % k).toNat = pow (ent t) (ivt t x) e.toNat := by
  have hi := v.inv_spec hx
  have kp := ho.pos
  have g := v.g
  have hx1 := g.pwR hx e.toNat
  have e1 := g.pw_inv hx hi.1 hi.2 e.toNat
  refine g.canL hx1 (g.pwR hx _) (g.pwR hi.1 _) ?_
  rw [e1, ← g.pw_add hx, g.pw_eq_iff hx ho]
  have h1 := Int.emod_nonneg (-e) (show (k : Int) ≠ 0 by omega)
  have h2 := Int.mul_ediv_add_emod (-e) k
  have : ((k : Nat) : Int) ∣ ((e.toNat + ((-e) % k).toNat : Nat) : Int) := ⟨-((-e) / k), by
    rw [Int.natCast_add, Int.toNat_of_nonneg he, Int.toNat_of_nonneg h1]
    grind⟩
  exact Int.natCast_dvd_natCast.mp this
theorem pow_modI {t : List (List Int)} (v : Vt t) {x : Int} (hx : Rn t.length x) {k : Nat} (ho : IsOrd (ent t) x k) {e : Int} (he : 0 ≤ e) : pow (ent t) x (e % k).toNat = pow (ent t) x e.toNat := by
  have : (e % (k : Int)).toNat = e.toNat % k := by
    rw [Int.toNat_emod he (by omega)]
    rfl
  rw [this, v.g.pw_mod hx ho]
theorem law_methods_M {t : List (List Int)} (v : Vt t) (hl : t.length ≤ 1000) {Q : Bool → Prop} (h : Q true) : Mi._law_methods (gob t) t () Q E := by
  have hp := v.pos
  unfold Mi._law_methods
  try simp only [tryM_a, req_a, bd_a, ret_a, lft_a, nox_a, thr_a, onC_n, onC_r, ite_a, decide_eq_true_eq, eq_self, if_true, Bool.false_eq_true, if_false, Bool.not_true, Bool.not_false, Bool.not_eq_true', decide_eq_false_iff_not, Bool.true_eq_false, not_true, not_false_iff]
  refine law_take_M (by omega) (by omega) fun x x0 x1 => ?_
  refine law_take_M (by omega) (by omega) fun y y0 y1 => ?_
  have hx : Rn t.length x := ⟨x0, x1⟩
  have hy : Rn t.length y := ⟨y0, y1⟩
  refine law_order_M v hl hx fun k ho hk => ?_
  have kp := ho.pos
  refine ix_row hx (idx_M (v.inv _ (row_mem x0 x1)) ?_)
  rw [show (((row t x).idxOf 0 : Nat) : Int) = ivt t x from rfl]
  have hi := v.inv_spec hx
  refine law_take_M (by decide) (by decide) fun e e0 e1 => ?_
  refine multiply_M v (fun _ _ => ?_) fun z => z ⟨hx, hy⟩
  refine v.sq.ix2 hx hy (no_P (by simp) ?_)
  refine multiply_M v (fun _ _ => ?_) fun z => z ⟨hy, hx⟩
  refine v.sq.ix2 hy hx (no_P (by simp) ?_)
  refine inverse_M v (fun _ => ?_) fun z => z hx
  refine no_P (by simp) ?_
  refine order_of_M v (fun _ k2 ho2 => ?_) fun z => z hx
  refine no_P (by rw [ho2.eq ho]; simp) ?_
  refine order_of_M v (fun _ k3 ho3 => ?_) fun z => z hx
  unfold Mi._law_is_integer
  try simp only [tryM_a, req_a, bd_a, ret_a, lft_a, nox_a, thr_a, onC_n, onC_r, ite_a, decide_eq_true_eq, eq_self, if_true, Bool.false_eq_true, if_false, Bool.not_true, Bool.not_false, Bool.not_eq_true', decide_eq_false_iff_not, Bool.true_eq_false, not_true, not_false_iff]
  refine power_M v hl (fun _ k2 ho2 => ?_) fun z => z hx
  refine law_many_M v hx (by omega) (by omega) ?_
  refine no_P (by rw [pow_modI v hx ho2 e0]; simp) ?_
  refine power_M v hl (fun _ k2 ho2 => ?_) fun z => z hx
  refine law_many_M v hi.1 (by omega) (by omega) ?_
  refine no_P (by rw [inv_ord v hx ho2 e0]; simp) ?_
  refine ⟨⟨by decide, by decide +kernel⟩, ?_⟩
  refine ml_M 200 64 (by decide) (by decide) (by decide) (by decide +kernel) (by omega) ?_
  refine power_M v hl (fun _ k2 ho2 => ?_) fun z => z hx
  refine law_many_M v hx (by omega) (by omega) ?_
  refine no_P ?_ ?_
  · rw [ho2.eq ho, Int.add_comm, Int.add_mul_emod_self_right, pow_modI v hx ho e0]
    simp
  refine law_take_M (by decide) (by decide) fun n n0 n1 => ?_
  refine rng_M (by omega) ⟨by rw [rgs_length]; omega, ?_⟩
  refine mapM_rel (fun _ y => Rn t.length y) (fun _ _ T hT => law_take_M (by omega) (by omega) fun r r0 r1 => hT r ⟨r0, r1⟩) fun ms hml hm => ?_
  have hm : ∀ a, a ∈ ms → Rn t.length a := fun a ha => by
    obtain ⟨i, hi⟩ := List.getElem?_of_mem ha
    have il := (List.getElem?_eq_some_iff.mp hi).1
    exact hm i _ a (List.getElem?_eq_getElem (by omega)) hi
  refine generated_M v hl (fun _ r hr => ?_) fun z => z hm
  refine law_closed_M v hl hm fun r' hr' => ?_
  refine no_P (by rw [hr.eq hr']; simp) ?_
  have rl : r.length ≤ t.length := by
    have := nodup_le hr.nodup (m := els t.length) fun x hx => mem_els.mpr (((hr.mem x).mp hx).r v.g hm)
    rw [els_length] at this
    exact this
  refine app_M (by omega) ?_
  refine generated_M v hl (fun _ r2 hr2 => ?_) fun z => z hm
  refine law_closed_M v hl hm fun r3 hr3 => ?_
  refine no_P (by rw [hr2.eq hr3]; simp) ?_
  have gl : (gens t.length (ent t)).length ≤ 1000 := by
    have key : ∀ (l f : List Int), (l.foldl (genStep (ent t)) f).length ≤ f.length + l.length := by
      intro l
      induction l with
      | nil => intro f; simp
      | cons a l ih =>
        intro f
        have := ih (genStep (ent t) f a)
        have e : (genStep (ent t) f a).length ≤ f.length + 1 := by
          unfold genStep
          split <;> simp
        simp only [List.foldl_cons, List.length_cons]
        omega
    have := key ((List.range (t.length - 1)).map fun (i : Nat) => (1 : Int) + (i : Int)) []
    rw [List.length_map, List.length_range] at this
    unfold gens
    simp only [List.length_nil] at this
    omega
  refine gens_M v hl ?_
  refine law_generators_M v hl ?_
  refine no_P (by simp) ?_
  refine app_M (by omega) ?_
  refine gens_M v hl ?_
  refine law_generators_M v hl ?_
  refine no_P (by simp) ?_
  exact h
theorem vt_one : Vt [[(0 : Int)]] := vt_of ⟨by simp, by simp⟩ (by simp) (fun x hx => by
  have h1 := hx.1
  have h2 := hx.2
  simp at h2
  have : x = 0 := by omega
  subst this
  decide) (fun r hr => by simp at hr; simp [hr]) fun x y z hx hy hz => by
  have := hx.1; have := hx.2; have := hy.1; have := hy.2; have := hz.1; have := hz.2
  simp only [List.length_singleton] at *
  have : x = 0 := by omega
  have : y = 0 := by omega
  have : z = 0 := by omega
  subst x y z
  decide
theorem gob_inj {t t' : List (List Int)} : (gob t).f_rows = (gob t').f_rows ↔ t = t' := Iff.rfl
theorem law_true (ns : List Int) (hl : ns.length ≤ 63) : Mi.law ns (fun b => b = true) noE := by
  unfold Mi.law
  try simp only [tryM_a, req_a, bd_a, ret_a, lft_a, nox_a, thr_a, onC_n, onC_r, ite_a, decide_eq_true_eq, eq_self, if_true, Bool.false_eq_true, if_false, Bool.not_true, Bool.not_false, Bool.not_eq_true', decide_eq_false_iff_not, Bool.true_eq_false, not_true, not_false_iff]
  refine law_bag_M (by decide) (by decide) ?_
  refine jn_M (fun l => 1 ≤ l ∧ l ≤ 40) (fun T hT => ?_) fun limit hlim => ?_
  · try simp only [tryM_a, req_a, bd_a, ret_a, lft_a, nox_a, thr_a, onC_n, onC_r, ite_a, decide_eq_true_eq, eq_self, if_true, Bool.false_eq_true, if_false, Bool.not_true, Bool.not_false, Bool.not_eq_true', decide_eq_false_iff_not, Bool.true_eq_false, not_true, not_false_iff]
    refine law_take_M (by decide) (by decide) fun r _ _ => ?_
    exact ite_P (fun _ => hT _ (by decide)) fun _ => hT _ (by decide)
  try simp only [tryM_a, req_a, bd_a, ret_a, lft_a, nox_a, thr_a, onC_n, onC_r, ite_a, decide_eq_true_eq, eq_self, if_true, Bool.false_eq_true, if_false, Bool.not_true, Bool.not_false, Bool.not_eq_true', decide_eq_false_iff_not, Bool.true_eq_false, not_true, not_false_iff]
  refine law_bag_M (by decide) (by decide) ?_
  refine law_table_M hlim.1 hlim.2 fun t v tl => ?_
  refine law_spoilt_M v (by omega) fun t hl => ?_
  clear v tl
  refine ⟨by omega, mapM_M (fun r => r) (fun r hr T hT => hT) ?_⟩
  rw [List.map_id']
  have hl' : t.length ≤ 1000 := by omega
  refine law_made_M hl' (fun c => ?_) (fun c v => ?_) fun c v => ?_
  · refine no_P (by simp) ?_
    refine yes_P (by omega) (yes_P rfl ⟨true, rfl, rfl⟩)
  · refine no_P (by simp) (no_P (by omega) ?_)
    refine law_valid_M hl' (fun z => absurd z v) fun _ => ?_
    try simp only [tryM_a, req_a, bd_a, ret_a, lft_a, nox_a, thr_a, onC_n, onC_r, ite_a, decide_eq_true_eq, eq_self, if_true, Bool.false_eq_true, if_false, Bool.not_true, Bool.not_false, Bool.not_eq_true', decide_eq_false_iff_not, Bool.true_eq_false, not_true, not_false_iff]
    exact ⟨true, rfl, rfl⟩
  refine no_P (by simp) (no_P (by omega) ?_)
  refine law_valid_M hl' (fun _ => ?_) fun z => absurd v z
  try simp only [tryM_a, req_a, bd_a, ret_a, lft_a, nox_a, thr_a, onC_n, onC_r, ite_a, decide_eq_true_eq, eq_self, if_true, Bool.false_eq_true, if_false, Bool.not_true, Bool.not_false, Bool.not_eq_true', decide_eq_false_iff_not, Bool.true_eq_false, not_true, not_false_iff]
  refine ⟨gob t, rfl, ?_⟩
  have hp := v.pos
  obtain ⟨r, hr⟩ : ∃ r, t[(0 : Int).toNat]? = some r := ⟨_, List.getElem?_eq_getElem hp⟩
  refine rowAt_M ⟨by omega, by omega⟩ hr (app_M (by rw [v.sq.len r (List.mem_of_getElem? hr)]; omega) ?_)
  refine app_M (by rw [List.length_set]; omega) ?_
  refine law_plain_M v hl' ?_
  try simp only [tryM_a, req_a, bd_a, ret_a, lft_a, nox_a, thr_a, onC_n, onC_r, ite_a, decide_eq_true_eq, eq_self, if_true, Bool.false_eq_true, if_false, Bool.not_true, Bool.not_false, Bool.not_eq_true', decide_eq_false_iff_not, Bool.true_eq_false, not_true, not_false_iff]
  refine law_bag_M (by decide) (by decide) ?_
  refine law_methods_M v hl' ?_
  try simp only [tryM_a, req_a, bd_a, ret_a, lft_a, nox_a, thr_a, onC_n, onC_r, ite_a, decide_eq_true_eq, eq_self, if_true, Bool.false_eq_true, if_false, Bool.not_true, Bool.not_false, Bool.not_eq_true', decide_eq_false_iff_not, Bool.true_eq_false, not_true, not_false_iff]
  refine ml_s (by omega) (by omega) ?_
  have hN : (t.length : Int) * t.length = ((t.length * t.length : Nat) : Int) := by simp
  have hN2 : t.length * t.length ≤ 40 * 40 := Nat.mul_le_mul hl hl
  refine rng_M (by omega) ⟨by rw [rgs_length]; omega, ?_⟩
  have dec : ∀ k : Int, k ∈ rgs 0 ((t.length : Int) * t.length) → Rn t.length (k / t.length) ∧ Rn t.length (k % t.length) := fun k hk => by
    rw [mem_rgs] at hk
    exact ⟨⟨Int.ediv_nonneg hk.1 (by omega), Int.ediv_lt_of_lt_mul (by omega) hk.2⟩, Int.emod_nonneg _ (by omega), Int.emod_lt_of_pos _ (by omega)⟩
  refine mapM_M (fun k => decide (ent t (k / t.length) (k % t.length) = ent t (k % t.length) (k / t.length))) (fun k hk T hT => ?_) ?_
  · obtain ⟨d1, d2⟩ := dec k hk
    have n0 : 0 < (t.length : Int) := by omega
    have n1 : (t.length : Int) < 2 ^ 1000 := by omega
    try simp only [tryM_a, req_a, bd_a, ret_a, lft_a, nox_a, thr_a, onC_n, onC_r, ite_a, decide_eq_true_eq, eq_self, if_true, Bool.false_eq_true, if_false, Bool.not_true, Bool.not_false, Bool.not_eq_true', decide_eq_false_iff_not, Bool.true_eq_false, not_true, not_false_iff]
    refine dv_s n0 n1 ?_
    refine ix_row d1 ?_
    refine md_M n0 ?_
    refine v.sq.ix1 d1 d2 ?_
    refine md_M n0 ?_
    refine ix_row d2 ?_
    refine dv_s n0 n1 ?_
    exact v.sq.ix1 d2 d1 hT
  have hc : ((List.map (fun k => decide (ent t (k / t.length) (k % t.length) = ent t (k % t.length) (k / t.length))) (rgs 0 ((t.length : Int) * t.length))).all id = true) ↔ ∀ x y, Rn t.length x → Rn t.length y → ent t x y = ent t y x := by
    rw [List.all_eq_true]
    constructor
    · intro hh x y hx hy
      have hk : x * t.length + y ∈ rgs 0 ((t.length : Int) * t.length) := by
        rw [mem_rgs]
        have h1 : 0 ≤ x * t.length := Int.mul_nonneg hx.1 (by omega)
        have h2 : (x + 1) * t.length ≤ t.length * t.length := Int.mul_le_mul_of_nonneg_right (by have := hx.2; omega) (by omega)
        rw [Int.add_mul] at h2
        have := hy.1
        have := hy.2
        omega
      have := hh _ (List.mem_map_of_mem hk)
      have e1 : (x * t.length + y) / (t.length : Int) = x := by
        rw [Int.add_comm, Int.add_mul_ediv_right _ _ (by omega), Int.ediv_eq_zero_of_lt hy.1 hy.2]
        omega
      have e2 : (x * t.length + y) % (t.length : Int) = y := by
        rw [Int.add_comm, Int.add_mul_emod_self_right, Int.emod_eq_of_lt hy.1 hy.2]
      rw [e1, e2] at this
      simpa using this
    · intro hh b hb
      rw [List.mem_map] at hb
      obtain ⟨k, hk, rfl⟩ := hb
      obtain ⟨d1, d2⟩ := dec k hk
      simp [hh _ _ d1 d2]
  have commute : ∀ {P : Bool → Prop}, P ((List.map (fun k => decide (ent t (k / t.length) (k % t.length) = ent t (k % t.length) (k / t.length))) (rgs 0 ((t.length : Int) * t.length))).all id) → Mi.Group_is_commutative (gob t) P noE := fun {P} hP => by
    refine is_commutative_M v hl' (fun z => ?_) fun z => ?_
    · rw [hc.mpr z] at hP
      exact hP
    · have : ¬ _ := fun w => z (hc.mp w)
      rw [Bool.not_eq_true] at this
      rw [this] at hP
      exact hP
  refine commute ?_
  refine commute ?_
  refine no_P (by simp) ?_
  refine Group_init_M hl' (fun z => by omega) (fun _ z => z v) fun _ _ => ?_
  unfold Mi.Group___eq__
  try simp only [tryM_a, req_a, bd_a, ret_a, lft_a, nox_a, thr_a, onC_n, onC_r, ite_a, decide_eq_true_eq, eq_self, if_true, Bool.false_eq_true, if_false, Bool.not_true, Bool.not_false, Bool.not_eq_true', decide_eq_false_iff_not, Bool.true_eq_false, not_true, not_false_iff]
  refine Group_init_M (by simp) (fun z => by simp at z) (fun _ z => z vt_one) fun _ _ => ?_
  refine no_P ?_ ?_
  · have e : (t = [[(0 : Int)]]) ↔ ((t.length : Int) = 1) := by
      constructor
      · intro e; rw [e]; rfl
      · intro e
        have e : t.length = 1 := by omega
        obtain ⟨r, rfl⟩ := List.length_eq_one_iff.mp e
        have h1 := v.sq.len r (by simp)
        obtain ⟨z, rfl⟩ := List.length_eq_one_iff.mp h1
        have := v.sq.rg [z] (by simp) z (by simp)
        simp at this
        rw [show z = 0 by omega]
    simp only [gob_inj, e]
    simp
  refine rng_M (by omega) ?_
  refine forC_all (fun _ => True) (fun w hw T k1 k2 => ?_) (fun _ => rfl) (fun ⟨x, _, z⟩ => absurd trivial z)
  rw [mem_rgs] at hw
  try simp only [tryM_a, req_a, bd_a, ret_a, lft_a, nox_a, thr_a, onC_n, onC_r, ite_a, decide_eq_true_eq, eq_self, if_true, Bool.false_eq_true, if_false, Bool.not_true, Bool.not_false, Bool.not_eq_true', decide_eq_false_iff_not, Bool.true_eq_false, not_true, not_false_iff]
  refine law_refused_M v hl' hw (fun z => by have := z.1; omega) ?_
  try simp only [tryM_a, req_a, bd_a, ret_a, lft_a, nox_a, thr_a, onC_n, onC_r, ite_a, decide_eq_true_eq, eq_self, if_true, Bool.false_eq_true, if_false, Bool.not_true, Bool.not_false, Bool.not_eq_true', decide_eq_false_iff_not, Bool.true_eq_false, not_true, not_false_iff]
  refine law_refused_M v hl' hw (fun z => by have := z.2; omega) ?_
  try simp only [tryM_a, req_a, bd_a, ret_a, lft_a, nox_a, thr_a, onC_n, onC_r, ite_a, decide_eq_true_eq, eq_self, if_true, Bool.false_eq_true, if_false, Bool.not_true, Bool.not_false, Bool.not_eq_true', decide_eq_false_iff_not, Bool.true_eq_false, not_true, not_false_iff]
  exact k1 trivial
end K00

namespace K00
open PySem PySem.Spec PyProof.Rows L2 Z
def A0 : Ad := ⟨0, 0, 0, 0, 0, 0⟩
theorem all_mk {l : PySem.W.OpenLaw} {w : World} {K : PySem.W.Frag} {h : Heap} {mg : Str → Option Value} {fa : Addr} (X : K.In h) (G : h.Ns mainGlobals mg) (hfa : mg "law" = some (.ref fa))
    {e_StepError e_InvalidGroup e_InvalidElement e_LimitExceeded e_Group : Addr}
    {f0 : Addr} {od0 an0 : Option Addr} {sl0 : Array (Option Value)} {oc0 kV0 dc0 pm0 cd0 ct0 : Value}
    {f1 : Addr} {od1 an1 : Option Addr} {sl1 : Array (Option Value)} {oc1 kV1 dc1 pm1 cd1 ct1 : Value}
    {f2 : Addr} {od2 an2 : Option Addr} {sl2 : Array (Option Value)} {oc2 kV2 dc2 pm2 cd2 ct2 : Value}
    {f3 : Addr} {od3 an3 : Option Addr} {sl3 : Array (Option Value)} {oc3 kV3 dc3 pm3 cd3 ct3 : Value}
    {f4 : Addr} {od4 an4 : Option Addr} {sl4 : Array (Option Value)} {oc4 kV4 dc4 pm4 cd4 ct4 : Value}
    {f5 : Addr} {od5 an5 : Option Addr} {sl5 : Array (Option Value)} {oc5 kV5 dc5 pm5 cd5 ct5 : Value}
    {f6 : Addr} {od6 an6 : Option Addr} {sl6 : Array (Option Value)} {oc6 kV6 dc6 pm6 cd6 ct6 : Value}
    {f7 : Addr} {od7 an7 : Option Addr} {sl7 : Array (Option Value)} {oc7 kV7 dc7 pm7 cd7 ct7 : Value}
    {f8 : Addr} {od8 an8 : Option Addr} {sl8 : Array (Option Value)} {oc8 kV8 dc8 pm8 cd8 ct8 : Value}
    {f9 : Addr} {od9 an9 : Option Addr} {sl9 : Array (Option Value)} {oc9 kV9 dc9 pm9 cd9 ct9 : Value}
    {f10 : Addr} {od10 an10 : Option Addr} {sl10 : Array (Option Value)} {oc10 kV10 dc10 pm10 cd10 ct10 : Value}
    {f11 : Addr} {od11 an11 : Option Addr} {sl11 : Array (Option Value)} {oc11 kV11 dc11 pm11 cd11 ct11 : Value}
    {f12 : Addr} {od12 an12 : Option Addr} {sl12 : Array (Option Value)} {oc12 kV12 dc12 pm12 cd12 ct12 : Value}
    {f13 : Addr} {od13 an13 : Option Addr} {sl13 : Array (Option Value)} {oc13 kV13 dc13 pm13 cd13 ct13 : Value}
    {f14 : Addr} {od14 an14 : Option Addr} {sl14 : Array (Option Value)} {oc14 kV14 dc14 pm14 cd14 ct14 : Value}
    {f15 : Addr} {od15 an15 : Option Addr} {sl15 : Array (Option Value)} {oc15 kV15 dc15 pm15 cd15 ct15 : Value}
    {f16 : Addr} {od16 an16 : Option Addr} {sl16 : Array (Option Value)} {oc16 kV16 dc16 pm16 cd16 ct16 : Value}
    {f17 : Addr} {od17 an17 : Option Addr} {sl17 : Array (Option Value)} {oc17 kV17 dc17 pm17 cd17 ct17 : Value}
    {f18 : Addr} {od18 an18 : Option Addr} {sl18 : Array (Option Value)} {oc18 kV18 dc18 pm18 cd18 ct18 : Value}
    {f19 : Addr} {od19 an19 : Option Addr} {sl19 : Array (Option Value)} {oc19 kV19 dc19 pm19 cd19 ct19 : Value}
    {f20 : Addr} {od20 an20 : Option Addr} {sl20 : Array (Option Value)} {oc20 kV20 dc20 pm20 cd20 ct20 : Value}
    {f21 : Addr} {od21 an21 : Option Addr} {sl21 : Array (Option Value)} {oc21 kV21 dc21 pm21 cd21 ct21 : Value}
    {f22 : Addr} {od22 an22 : Option Addr} {sl22 : Array (Option Value)} {oc22 kV22 dc22 pm22 cd22 ct22 : Value}
    {f23 : Addr} {od23 an23 : Option Addr} {sl23 : Array (Option Value)} {oc23 kV23 dc23 pm23 cd23 ct23 : Value}
    {f24 : Addr} {od24 an24 : Option Addr} {sl24 : Array (Option Value)} {oc24 kV24 dc24 pm24 cd24 ct24 : Value}
    {f25 : Addr} {od25 an25 : Option Addr} {sl25 : Array (Option Value)} {oc25 kV25 dc25 pm25 cd25 ct25 : Value}
    {f26 : Addr} {od26 an26 : Option Addr} {sl26 : Array (Option Value)} {oc26 kV26 dc26 pm26 cd26 ct26 : Value}
    {f27 : Addr} {od27 an27 : Option Addr} {sl27 : Array (Option Value)} {oc27 kV27 dc27 pm27 cd27 ct27 : Value}
    {f28 : Addr} {od28 an28 : Option Addr} {sl28 : Array (Option Value)} {oc28 kV28 dc28 pm28 cd28 ct28 : Value}
    {f29 : Addr} {od29 an29 : Option Addr} {sl29 : Array (Option Value)} {oc29 kV29 dc29 pm29 cd29 ct29 : Value}
    {f30 : Addr} {od30 an30 : Option Addr} {sl30 : Array (Option Value)} {oc30 kV30 dc30 pm30 cd30 ct30 : Value}
    {tGROUP_LIMIT : Tok}
    (gStepError : PySem.W.nsIn K mainGlobals "StepError" = some (some (.ref e_StepError)))
    (gInvalidGroup : PySem.W.nsIn K mainGlobals "InvalidGroup" = some (some (.ref e_InvalidGroup)))
    (gInvalidElement : PySem.W.nsIn K mainGlobals "InvalidElement" = some (some (.ref e_InvalidElement)))
    (gLimitExceeded : PySem.W.nsIn K mainGlobals "LimitExceeded" = some (some (.ref e_LimitExceeded)))
    (gGroup : PySem.W.nsIn K mainGlobals "Group" = some (some (.ref e_Group)))
    (a0 : PySem.W.nsIn K mainGlobals "has_identity" = some (some (.ref f0)))
    (l0 : K.lookup f0 = some ⟨oc0, od0, .func (PySem.W.fnOf "has_identity" "has_identity" (defArgs st_has_identity) (defBody st_has_identity) (defScope st_has_identity) .none kV0 dc0 pm0 an0 cd0 ct0), sl0⟩)
    (c0 : PySem.W.codeIn K cd0 "has_identity" = true)
    (k0 : PySem.W.keepIn K (.ref f0) = true)
    (a1 : PySem.W.nsIn K mainGlobals "is_associative" = some (some (.ref f1)))
    (l1 : K.lookup f1 = some ⟨oc1, od1, .func (PySem.W.fnOf "is_associative" "is_associative" (defArgs st_is_associative) (defBody st_is_associative) (defScope st_is_associative) .none kV1 dc1 pm1 an1 cd1 ct1), sl1⟩)
    (c1 : PySem.W.codeIn K cd1 "is_associative" = true)
    (k1 : PySem.W.keepIn K (.ref f1) = true)
    (a2 : PySem.W.findIn K (.ref e_Group) "__init__" = some (some (.ref f2)))
    (i2 : PySem.W.isFn K (.ref f2) = true)
    (l2 : K.lookup f2 = some ⟨oc2, od2, .func (PySem.W.fnOf "__init__" "Group.__init__" (defArgs st_Group___init__) (defBody st_Group___init__) (defScope st_Group___init__) .none kV2 dc2 pm2 an2 cd2 ct2), sl2⟩)
    (c2 : PySem.W.codeIn K cd2 "Group.__init__" = true)
    (k2 : PySem.W.keepIn K (.ref f2) = true)
    (a3 : PySem.W.findIn K (.ref e_Group) "__eq__" = some (some (.ref f3)))
    (i3 : PySem.W.isFn K (.ref f3) = true)
    (l3 : K.lookup f3 = some ⟨oc3, od3, .func (PySem.W.fnOf "__eq__" "Group.__eq__" (defArgs st_Group___eq__) (defBody st_Group___eq__) (defScope st_Group___eq__) .none kV3 dc3 pm3 an3 cd3 ct3), sl3⟩)
    (c3 : PySem.W.codeIn K cd3 "Group.__eq__" = true)
    (k3 : PySem.W.keepIn K (.ref f3) = true)
    (a4 : PySem.W.findIn K (.ref e_Group) "check" = some (some (.ref f4)))
    (i4 : PySem.W.isFn K (.ref f4) = true)
    (l4 : K.lookup f4 = some ⟨oc4, od4, .func (PySem.W.fnOf "check" "Group.check" (defArgs st_Group_check) (defBody st_Group_check) (defScope st_Group_check) .none kV4 dc4 pm4 an4 cd4 ct4), sl4⟩)
    (c4 : PySem.W.codeIn K cd4 "Group.check" = true)
    (k4 : PySem.W.keepIn K (.ref f4) = true)
    (a5 : PySem.W.findIn K (.ref e_Group) "multiply" = some (some (.ref f5)))
    (i5 : PySem.W.isFn K (.ref f5) = true)
    (l5 : K.lookup f5 = some ⟨oc5, od5, .func (PySem.W.fnOf "multiply" "Group.multiply" (defArgs st_Group_multiply) (defBody st_Group_multiply) (defScope st_Group_multiply) .none kV5 dc5 pm5 an5 cd5 ct5), sl5⟩)
    (c5 : PySem.W.codeIn K cd5 "Group.multiply" = true)
    (k5 : PySem.W.keepIn K (.ref f5) = true)
    (a6 : PySem.W.findIn K (.ref e_Group) "inverse" = some (some (.ref f6)))
    (i6 : PySem.W.isFn K (.ref f6) = true)
    (l6 : K.lookup f6 = some ⟨oc6, od6, .func (PySem.W.fnOf "inverse" "Group.inverse" (defArgs st_Group_inverse) (defBody st_Group_inverse) (defScope st_Group_inverse) .none kV6 dc6 pm6 an6 cd6 ct6), sl6⟩)
    (c6 : PySem.W.codeIn K cd6 "Group.inverse" = true)
    (k6 : PySem.W.keepIn K (.ref f6) = true)
    (a7 : PySem.W.findIn K (.ref e_Group) "order_of" = some (some (.ref f7)))
    (i7 : PySem.W.isFn K (.ref f7) = true)
    (l7 : K.lookup f7 = some ⟨oc7, od7, .func (PySem.W.fnOf "order_of" "Group.order_of" (defArgs st_Group_order_of) (defBody st_Group_order_of) (defScope st_Group_order_of) .none kV7 dc7 pm7 an7 cd7 ct7), sl7⟩)
    (c7 : PySem.W.codeIn K cd7 "Group.order_of" = true)
    (k7 : PySem.W.keepIn K (.ref f7) = true)
    (a8 : PySem.W.findIn K (.ref e_Group) "power" = some (some (.ref f8)))
    (i8 : PySem.W.isFn K (.ref f8) = true)
    (l8 : K.lookup f8 = some ⟨oc8, od8, .func (PySem.W.fnOf "power" "Group.power" (defArgs st_Group_power) (defBody st_Group_power) (defScope st_Group_power) .none kV8 dc8 pm8 an8 cd8 ct8), sl8⟩)
    (c8 : PySem.W.codeIn K cd8 "Group.power" = true)
    (k8 : PySem.W.keepIn K (.ref f8) = true)
    (a9 : PySem.W.findIn K (.ref e_Group) "generated" = some (some (.ref f9)))
    (i9 : PySem.W.isFn K (.ref f9) = true)
    (l9 : K.lookup f9 = some ⟨oc9, od9, .func (PySem.W.fnOf "generated" "Group.generated" (defArgs st_Group_generated) (defBody st_Group_generated) (defScope st_Group_generated) .none kV9 dc9 pm9 an9 cd9 ct9), sl9⟩)
    (c9 : PySem.W.codeIn K cd9 "Group.generated" = true)
    (k9 : PySem.W.keepIn K (.ref f9) = true)
    (a10 : PySem.W.findIn K (.ref e_Group) "generators" = some (some (.ref f10)))
    (i10 : PySem.W.isFn K (.ref f10) = true)
    (l10 : K.lookup f10 = some ⟨oc10, od10, .func (PySem.W.fnOf "generators" "Group.generators" (defArgs st_Group_generators) (defBody st_Group_generators) (defScope st_Group_generators) .none kV10 dc10 pm10 an10 cd10 ct10), sl10⟩)
    (c10 : PySem.W.codeIn K cd10 "Group.generators" = true)
    (k10 : PySem.W.keepIn K (.ref f10) = true)
    (a11 : PySem.W.findIn K (.ref e_Group) "is_commutative" = some (some (.ref f11)))
    (i11 : PySem.W.isFn K (.ref f11) = true)
    (l11 : K.lookup f11 = some ⟨oc11, od11, .func (PySem.W.fnOf "is_commutative" "Group.is_commutative" (defArgs st_Group_is_commutative) (defBody st_Group_is_commutative) (defScope st_Group_is_commutative) .none kV11 dc11 pm11 an11 cd11 ct11), sl11⟩)
    (c11 : PySem.W.codeIn K cd11 "Group.is_commutative" = true)
    (k11 : PySem.W.keepIn K (.ref f11) = true)
    (a12 : PySem.W.nsIn K mainGlobals "_law_bag" = some (some (.ref f12)))
    (l12 : K.lookup f12 = some ⟨oc12, od12, .func (PySem.W.fnOf "_law_bag" "_law_bag" (defArgs st__law_bag) (defBody st__law_bag) (defScope st__law_bag) .none kV12 dc12 pm12 an12 cd12 ct12), sl12⟩)
    (c12 : PySem.W.codeIn K cd12 "_law_bag" = true)
    (k12 : PySem.W.keepIn K (.ref f12) = true)
    (a13 : PySem.W.nsIn K mainGlobals "_law_take" = some (some (.ref f13)))
    (l13 : K.lookup f13 = some ⟨oc13, od13, .func (PySem.W.fnOf "_law_take" "_law_take" (defArgs st__law_take) (defBody st__law_take) (defScope st__law_take) .none kV13 dc13 pm13 an13 cd13 ct13), sl13⟩)
    (c13 : PySem.W.codeIn K cd13 "_law_take" = true)
    (k13 : PySem.W.keepIn K (.ref f13) = true)
    (a14 : PySem.W.nsIn K mainGlobals "_law_power" = some (some (.ref f14)))
    (l14 : K.lookup f14 = some ⟨oc14, od14, .func (PySem.W.fnOf "_law_power" "_law_power" (defArgs st__law_power) (defBody st__law_power) (defScope st__law_power) .none kV14 dc14 pm14 an14 cd14 ct14), sl14⟩)
    (c14 : PySem.W.codeIn K cd14 "_law_power" = true)
    (k14 : PySem.W.keepIn K (.ref f14) = true)
    (a15 : PySem.W.nsIn K mainGlobals "_law_metacyclic" = some (some (.ref f15)))
    (l15 : K.lookup f15 = some ⟨oc15, od15, .func (PySem.W.fnOf "_law_metacyclic" "_law_metacyclic" (defArgs st__law_metacyclic) (defBody st__law_metacyclic) (defScope st__law_metacyclic) .none kV15 dc15 pm15 an15 cd15 ct15), sl15⟩)
    (c15 : PySem.W.codeIn K cd15 "_law_metacyclic" = true)
    (k15 : PySem.W.keepIn K (.ref f15) = true)
    (a16 : PySem.W.nsIn K mainGlobals "_law_permutations" = some (some (.ref f16)))
    (l16 : K.lookup f16 = some ⟨oc16, od16, .func (PySem.W.fnOf "_law_permutations" "_law_permutations" (defArgs st__law_permutations) (defBody st__law_permutations) (defScope st__law_permutations) .none kV16 dc16 pm16 an16 cd16 ct16), sl16⟩)
    (c16 : PySem.W.codeIn K cd16 "_law_permutations" = true)
    (k16 : PySem.W.keepIn K (.ref f16) = true)
    (a17 : PySem.W.nsIn K mainGlobals "_law_renamed" = some (some (.ref f17)))
    (l17 : K.lookup f17 = some ⟨oc17, od17, .func (PySem.W.fnOf "_law_renamed" "_law_renamed" (defArgs st__law_renamed) (defBody st__law_renamed) (defScope st__law_renamed) .none kV17 dc17 pm17 an17 cd17 ct17), sl17⟩)
    (c17 : PySem.W.codeIn K cd17 "_law_renamed" = true)
    (k17 : PySem.W.keepIn K (.ref f17) = true)
    (a18 : PySem.W.nsIn K mainGlobals "_law_table" = some (some (.ref f18)))
    (l18 : K.lookup f18 = some ⟨oc18, od18, .func (PySem.W.fnOf "_law_table" "_law_table" (defArgs st__law_table) (defBody st__law_table) (defScope st__law_table) .none kV18 dc18 pm18 an18 cd18 ct18), sl18⟩)
    (c18 : PySem.W.codeIn K cd18 "_law_table" = true)
    (k18 : PySem.W.keepIn K (.ref f18) = true)
    (a19 : PySem.W.nsIn K mainGlobals "_law_spoilt" = some (some (.ref f19)))
    (l19 : K.lookup f19 = some ⟨oc19, od19, .func (PySem.W.fnOf "_law_spoilt" "_law_spoilt" (defArgs st__law_spoilt) (defBody st__law_spoilt) (defScope st__law_spoilt) .none kV19 dc19 pm19 an19 cd19 ct19), sl19⟩)
    (c19 : PySem.W.codeIn K cd19 "_law_spoilt" = true)
    (k19 : PySem.W.keepIn K (.ref f19) = true)
    (a20 : PySem.W.nsIn K mainGlobals "_law_valid" = some (some (.ref f20)))
    (l20 : K.lookup f20 = some ⟨oc20, od20, .func (PySem.W.fnOf "_law_valid" "_law_valid" (defArgs st__law_valid) (defBody st__law_valid) (defScope st__law_valid) .none kV20 dc20 pm20 an20 cd20 ct20), sl20⟩)
    (c20 : PySem.W.codeIn K cd20 "_law_valid" = true)
    (k20 : PySem.W.keepIn K (.ref f20) = true)
    (a21 : PySem.W.nsIn K mainGlobals "_law_made" = some (some (.ref f21)))
    (l21 : K.lookup f21 = some ⟨oc21, od21, .func (PySem.W.fnOf "_law_made" "_law_made" (defArgs st__law_made) (defBody st__law_made) (defScope st__law_made) .none kV21 dc21 pm21 an21 cd21 ct21), sl21⟩)
    (c21 : PySem.W.codeIn K cd21 "_law_made" = true)
    (k21 : PySem.W.keepIn K (.ref f21) = true)
    (a22 : PySem.W.nsIn K mainGlobals "_law_is_integer" = some (some (.ref f22)))
    (l22 : K.lookup f22 = some ⟨oc22, od22, .func (PySem.W.fnOf "_law_is_integer" "_law_is_integer" (defArgs st__law_is_integer) (defBody st__law_is_integer) (defScope st__law_is_integer) .none kV22 dc22 pm22 an22 cd22 ct22), sl22⟩)
    (c22 : PySem.W.codeIn K cd22 "_law_is_integer" = true)
    (k22 : PySem.W.keepIn K (.ref f22) = true)
    (a23 : PySem.W.nsIn K mainGlobals "_law_closed" = some (some (.ref f23)))
    (l23 : K.lookup f23 = some ⟨oc23, od23, .func (PySem.W.fnOf "_law_closed" "_law_closed" (defArgs st__law_closed) (defBody st__law_closed) (defScope st__law_closed) .none kV23 dc23 pm23 an23 cd23 ct23), sl23⟩)
    (c23 : PySem.W.codeIn K cd23 "_law_closed" = true)
    (k23 : PySem.W.keepIn K (.ref f23) = true)
    (a24 : PySem.W.nsIn K mainGlobals "_law_order" = some (some (.ref f24)))
    (l24 : K.lookup f24 = some ⟨oc24, od24, .func (PySem.W.fnOf "_law_order" "_law_order" (defArgs st__law_order) (defBody st__law_order) (defScope st__law_order) .none kV24 dc24 pm24 an24 cd24 ct24), sl24⟩)
    (c24 : PySem.W.codeIn K cd24 "_law_order" = true)
    (k24 : PySem.W.keepIn K (.ref f24) = true)
    (a25 : PySem.W.nsIn K mainGlobals "_law_many" = some (some (.ref f25)))
    (l25 : K.lookup f25 = some ⟨oc25, od25, .func (PySem.W.fnOf "_law_many" "_law_many" (defArgs st__law_many) (defBody st__law_many) (defScope st__law_many) .none kV25 dc25 pm25 an25 cd25 ct25), sl25⟩)
    (c25 : PySem.W.codeIn K cd25 "_law_many" = true)
    (k25 : PySem.W.keepIn K (.ref f25) = true)
    (a26 : PySem.W.nsIn K mainGlobals "_law_generators" = some (some (.ref f26)))
    (l26 : K.lookup f26 = some ⟨oc26, od26, .func (PySem.W.fnOf "_law_generators" "_law_generators" (defArgs st__law_generators) (defBody st__law_generators) (defScope st__law_generators) .none kV26 dc26 pm26 an26 cd26 ct26), sl26⟩)
    (c26 : PySem.W.codeIn K cd26 "_law_generators" = true)
    (k26 : PySem.W.keepIn K (.ref f26) = true)
    (a27 : PySem.W.nsIn K mainGlobals "_law_refused" = some (some (.ref f27)))
    (l27 : K.lookup f27 = some ⟨oc27, od27, .func (PySem.W.fnOf "_law_refused" "_law_refused" (defArgs st__law_refused) (defBody st__law_refused) (defScope st__law_refused) .none kV27 dc27 pm27 an27 cd27 ct27), sl27⟩)
    (c27 : PySem.W.codeIn K cd27 "_law_refused" = true)
    (k27 : PySem.W.keepIn K (.ref f27) = true)
    (a28 : PySem.W.nsIn K mainGlobals "_law_plain" = some (some (.ref f28)))
    (l28 : K.lookup f28 = some ⟨oc28, od28, .func (PySem.W.fnOf "_law_plain" "_law_plain" (defArgs st__law_plain) (defBody st__law_plain) (defScope st__law_plain) .none kV28 dc28 pm28 an28 cd28 ct28), sl28⟩)
    (c28 : PySem.W.codeIn K cd28 "_law_plain" = true)
    (k28 : PySem.W.keepIn K (.ref f28) = true)
    (a29 : PySem.W.nsIn K mainGlobals "_law_methods" = some (some (.ref f29)))
    (l29 : K.lookup f29 = some ⟨oc29, od29, .func (PySem.W.fnOf "_law_methods" "_law_methods" (defArgs st__law_methods) (defBody st__law_methods) (defScope st__law_methods) .none kV29 dc29 pm29 an29 cd29 ct29), sl29⟩)
    (c29 : PySem.W.codeIn K cd29 "_law_methods" = true)
    (k29 : PySem.W.keepIn K (.ref f29) = true)
    (a30 : PySem.W.nsIn K mainGlobals "law" = some (some (.ref f30)))
    (l30 : K.lookup f30 = some ⟨oc30, od30, .func (PySem.W.fnOf "law" "law" (defArgs st_law) (defBody st_law) (defScope st_law) .none kV30 dc30 pm30 an30 cd30 ct30), sl30⟩)
    (c30 : PySem.W.codeIn K cd30 "law" = true)
    (k30 : PySem.W.keepIn K (.ref f30) = true)
    (z_ValueError : PySem.W.nsIn K mainGlobals "ValueError" = some none)
    (z_abs : PySem.W.nsIn K mainGlobals "abs" = some none)
    (z_all : PySem.W.nsIn K mainGlobals "all" = some none)
    (z_bool : PySem.W.nsIn K mainGlobals "bool" = some none)
    (z_int : PySem.W.nsIn K mainGlobals "int" = some none)
    (z_isinstance : PySem.W.nsIn K mainGlobals "isinstance" = some none)
    (z_len : PySem.W.nsIn K mainGlobals "len" = some none)
    (z_list : PySem.W.nsIn K mainGlobals "list" = some none)
    (z_range : PySem.W.nsIn K mainGlobals "range" = some none)
    (z_sorted : PySem.W.nsIn K mainGlobals "sorted" = some none)
    (z_tuple : PySem.W.nsIn K mainGlobals "tuple" = some none)
    (mkGroup : PySem.W.makesIn K e_Group = true)
    (kcGroup : PySem.W.keepIn K (.ref e_Group) = true)
    (qGROUP_LIMIT : PySem.W.nsIn K mainGlobals "GROUP_LIMIT" = some (some (.int 32 tGROUP_LIMIT)))
    (x_InvalidElement : PySem.W.excIn K e_InvalidElement [.type "ValueError", .type "Exception", .type "BaseException", .type "object"] "ValueError.__new__" = true)
    (m_kp_InvalidElement : PySem.W.keepIn K (.ref e_InvalidElement) = true)
    (m_bs_InvalidElement : PySem.W.subIn K (.ref e_InvalidElement) (.type "BaseException") = some true)
    (m_ty_InvalidElement : PySem.W.typeIn K (.ref e_InvalidElement) = some (.type "type"))
    (x_InvalidGroup : PySem.W.excIn K e_InvalidGroup [.type "ValueError", .type "Exception", .type "BaseException", .type "object"] "ValueError.__new__" = true)
    (m_kp_InvalidGroup : PySem.W.keepIn K (.ref e_InvalidGroup) = true)
    (m_bs_InvalidGroup : PySem.W.subIn K (.ref e_InvalidGroup) (.type "BaseException") = some true)
    (m_ty_InvalidGroup : PySem.W.typeIn K (.ref e_InvalidGroup) = some (.type "type"))
    (x_LimitExceeded : PySem.W.excIn K e_LimitExceeded [.type "ValueError", .type "Exception", .type "BaseException", .type "object"] "ValueError.__new__" = true)
    (m_kp_LimitExceeded : PySem.W.keepIn K (.ref e_LimitExceeded) = true)
    (m_bs_LimitExceeded : PySem.W.subIn K (.ref e_LimitExceeded) (.type "BaseException") = some true)
    (m_ty_LimitExceeded : PySem.W.typeIn K (.ref e_LimitExceeded) = some (.type "type"))
    (hbs_InvalidElement : PySem.W.subIn K (.ref e_InvalidElement) (.type "BaseException") = some true)
    (hhd_InvalidElement : PySem.W.hasDictIn K e_InvalidElement = true)
    (hty_InvalidElement : PySem.W.typeIn K (.ref e_InvalidElement) = some (.type "type"))
    (s_InvalidElement_InvalidElement : PySem.W.subIn K (.ref e_InvalidElement) (.ref e_InvalidElement) = some true)
    (s_InvalidGroup_InvalidElement : PySem.W.subIn K (.ref e_InvalidGroup) (.ref e_InvalidElement) = some false)
    (s_LimitExceeded_InvalidElement : PySem.W.subIn K (.ref e_LimitExceeded) (.ref e_InvalidElement) = some false)
    (hbs_InvalidGroup : PySem.W.subIn K (.ref e_InvalidGroup) (.type "BaseException") = some true)
    (hhd_InvalidGroup : PySem.W.hasDictIn K e_InvalidGroup = true)
    (hty_InvalidGroup : PySem.W.typeIn K (.ref e_InvalidGroup) = some (.type "type"))
    (s_InvalidElement_InvalidGroup : PySem.W.subIn K (.ref e_InvalidElement) (.ref e_InvalidGroup) = some false)
    (s_InvalidGroup_InvalidGroup : PySem.W.subIn K (.ref e_InvalidGroup) (.ref e_InvalidGroup) = some true)
    (s_LimitExceeded_InvalidGroup : PySem.W.subIn K (.ref e_LimitExceeded) (.ref e_InvalidGroup) = some false)
    (hbs_LimitExceeded : PySem.W.subIn K (.ref e_LimitExceeded) (.type "BaseException") = some true)
    (hhd_LimitExceeded : PySem.W.hasDictIn K e_LimitExceeded = true)
    (hty_LimitExceeded : PySem.W.typeIn K (.ref e_LimitExceeded) = some (.type "type"))
    (s_InvalidElement_LimitExceeded : PySem.W.subIn K (.ref e_InvalidElement) (.ref e_LimitExceeded) = some false)
    (s_InvalidGroup_LimitExceeded : PySem.W.subIn K (.ref e_InvalidGroup) (.ref e_LimitExceeded) = some false)
    (s_LimitExceeded_LimitExceeded : PySem.W.subIn K (.ref e_LimitExceeded) (.ref e_LimitExceeded) = some true)
    (eg_InvalidElement : PySem.W.findIn K (.ref e_InvalidElement) "__getattribute__" = some (some (.builtin "BaseException.__getattribute__")))
    (ek_InvalidElement : PySem.W.findIn K (.ref e_InvalidElement) "__getattr__" = some none)
    (ea_InvalidElement : PySem.W.findIn K (.ref e_InvalidElement) "__class__" = some (some (.builtin "object.__class__")))
    (em_InvalidElement : PySem.W.mroIn K e_InvalidElement (.type "object") = some true)
    (eg_InvalidGroup : PySem.W.findIn K (.ref e_InvalidGroup) "__getattribute__" = some (some (.builtin "BaseException.__getattribute__")))
    (ek_InvalidGroup : PySem.W.findIn K (.ref e_InvalidGroup) "__getattr__" = some none)
    (ea_InvalidGroup : PySem.W.findIn K (.ref e_InvalidGroup) "__class__" = some (some (.builtin "object.__class__")))
    (em_InvalidGroup : PySem.W.mroIn K e_InvalidGroup (.type "object") = some true)
    (eg_LimitExceeded : PySem.W.findIn K (.ref e_LimitExceeded) "__getattribute__" = some (some (.builtin "BaseException.__getattribute__")))
    (ek_LimitExceeded : PySem.W.findIn K (.ref e_LimitExceeded) "__getattr__" = some none)
    (ea_LimitExceeded : PySem.W.findIn K (.ref e_LimitExceeded) "__class__" = some (some (.builtin "object.__class__")))
    (em_LimitExceeded : PySem.W.mroIn K e_LimitExceeded (.type "object") = some true)
    (oc_n : PySem.W.specialIn K (.builtin "object.__class__") "__get__" = some (some (.builtin "getset_descriptor.__get__")))
    (oc_t : PySem.W.takesIn K (.builtin "object.__class__") = some true)
    (hhd_StepError : PySem.W.hasDictIn K e_StepError = true)
    (hty_StepError : PySem.W.typeIn K (.ref e_StepError) = some (.type "type"))
    (s_StepError_StepError : PySem.W.subIn K (.ref e_StepError) (.ref e_StepError) = some true)
    (s_InvalidElement_StepError : PySem.W.subIn K (.ref e_InvalidElement) (.ref e_StepError) = some true)
    (s_InvalidGroup_StepError : PySem.W.subIn K (.ref e_InvalidGroup) (.ref e_StepError) = some true)
    (s_LimitExceeded_StepError : PySem.W.subIn K (.ref e_LimitExceeded) (.ref e_StepError) = some true)
    (sb_InvalidElement_ValueError : PySem.W.subIn K (.ref e_InvalidElement) (.type "ValueError") = some true)
    (sb_InvalidGroup_ValueError : PySem.W.subIn K (.ref e_InvalidGroup) (.type "ValueError") = some true)
    (sb_LimitExceeded_ValueError : PySem.W.subIn K (.ref e_LimitExceeded) (.type "ValueError") = some true)
    (pgGroup : PySem.W.plainGet K e_Group Str.empty = true)
    (hdGroup : PySem.W.hasDictIn K e_Group = true)
    (poGroup : PySem.W.plainOver K e_Group = true)
    (saGroup : PySem.W.findIn K (.ref e_Group) "__setattr__" = some (some (.builtin "object.__setattr__")))
    (m_na_Group_order : PySem.W.findIn K (.ref e_Group) "order" = some none)
    (m_na_Group_rows : PySem.W.findIn K (.ref e_Group) "rows" = some none)
    (m_na_Group_inverses : PySem.W.findIn K (.ref e_Group) "inverses" = some none)
    (ovaGroup : PySem.W.findIn K (.ref e_Group) "__class__" = some (some (.builtin "object.__class__")))
    (ovmGroup : PySem.W.mroIn K e_Group (.type "object") = some true) :
    ∃ fd : FuncData, (∀ (s : Shared) (v : Value), BindsTo s fd ⟨[v], []⟩ [("script", v)]) ∧ ∀ base : Heap, K.In base → base.Ns mainGlobals mg → FnOk l.prog w K mg base CX0 6 fa fd ["script"] (sp_law K A0) := by
  have e := hfa.symm.trans (PySem.W.mg_of X G a30)
  cases e
  have T : Mo K mg (⟨fa, e_StepError, e_InvalidGroup, e_InvalidElement, e_LimitExceeded, e_Group⟩ : Ad) := ⟨trivial,
    PySem.W.mg_of X G gStepError,
    PySem.W.mg_of X G gInvalidGroup,
    PySem.W.mg_of X G gInvalidElement,
    PySem.W.mg_of X G gLimitExceeded,
    PySem.W.mg_of X G gGroup,
    ⟨_, PySem.W.mg_of X G qGROUP_LIMIT⟩,
    x_InvalidElement,
    m_kp_InvalidElement,
    m_bs_InvalidElement,
    m_ty_InvalidElement,
    x_InvalidGroup,
    m_kp_InvalidGroup,
    m_bs_InvalidGroup,
    m_ty_InvalidGroup,
    x_LimitExceeded,
    m_kp_LimitExceeded,
    m_bs_LimitExceeded,
    m_ty_LimitExceeded,
    (fun e => by cases e with
      | InvalidElement => exact PySem.W.exm_ref hbs_InvalidElement hhd_InvalidElement hty_InvalidElement s_InvalidElement_InvalidElement
      | InvalidGroup => exact PySem.W.exm_ref hbs_InvalidElement hhd_InvalidElement hty_InvalidElement s_InvalidGroup_InvalidElement
      | LimitExceeded => exact PySem.W.exm_ref hbs_InvalidElement hhd_InvalidElement hty_InvalidElement s_LimitExceeded_InvalidElement),
    (fun e => by cases e with
      | InvalidElement => exact PySem.W.exm_ref hbs_InvalidGroup hhd_InvalidGroup hty_InvalidGroup s_InvalidElement_InvalidGroup
      | InvalidGroup => exact PySem.W.exm_ref hbs_InvalidGroup hhd_InvalidGroup hty_InvalidGroup s_InvalidGroup_InvalidGroup
      | LimitExceeded => exact PySem.W.exm_ref hbs_InvalidGroup hhd_InvalidGroup hty_InvalidGroup s_LimitExceeded_InvalidGroup),
    (fun e => by cases e with
      | InvalidElement => exact PySem.W.exm_ref hbs_LimitExceeded hhd_LimitExceeded hty_LimitExceeded s_InvalidElement_LimitExceeded
      | InvalidGroup => exact PySem.W.exm_ref hbs_LimitExceeded hhd_LimitExceeded hty_LimitExceeded s_InvalidGroup_LimitExceeded
      | LimitExceeded => exact PySem.W.exm_ref hbs_LimitExceeded hhd_LimitExceeded hty_LimitExceeded s_LimitExceeded_LimitExceeded),
    (fun e => by cases e with
      | InvalidElement => exact ⟨_, rfl, ⟨eg_InvalidElement, ek_InvalidElement, hbs_InvalidElement, hhd_InvalidElement, ea_InvalidElement, oc_n, oc_t, em_InvalidElement⟩⟩
      | InvalidGroup => exact ⟨_, rfl, ⟨eg_InvalidGroup, ek_InvalidGroup, hbs_InvalidGroup, hhd_InvalidGroup, ea_InvalidGroup, oc_n, oc_t, em_InvalidGroup⟩⟩
      | LimitExceeded => exact ⟨_, rfl, ⟨eg_LimitExceeded, ek_LimitExceeded, hbs_LimitExceeded, hhd_LimitExceeded, ea_LimitExceeded, oc_n, oc_t, em_LimitExceeded⟩⟩),
    (fun e => by cases e with
      | InvalidElement => exact fun D z => by cases z; exact kit_own hhd_InvalidGroup hty_InvalidGroup s_InvalidGroup_InvalidGroup s_InvalidElement_InvalidGroup
      | InvalidGroup => exact fun D z => by cases z; exact kit_own hhd_InvalidGroup hty_InvalidGroup s_InvalidGroup_InvalidGroup s_InvalidGroup_InvalidGroup
      | LimitExceeded => exact fun D z => by cases z; exact kit_own hhd_InvalidGroup hty_InvalidGroup s_InvalidGroup_InvalidGroup s_LimitExceeded_InvalidGroup),
    (fun e => by cases e with
      | InvalidElement => exact fun D z => by cases z; exact kit_own hhd_StepError hty_StepError s_StepError_StepError s_InvalidElement_StepError
      | InvalidGroup => exact fun D z => by cases z; exact kit_own hhd_StepError hty_StepError s_StepError_StepError s_InvalidGroup_StepError
      | LimitExceeded => exact fun D z => by cases z; exact kit_own hhd_StepError hty_StepError s_StepError_StepError s_LimitExceeded_StepError),
    (fun e => by cases e with
      | InvalidElement => exact fun D z => by cases z; exact kit_bt (by decide +kernel) sb_InvalidElement_ValueError
      | InvalidGroup => exact fun D z => by cases z; exact kit_bt (by decide +kernel) sb_InvalidGroup_ValueError
      | LimitExceeded => exact fun D z => by cases z; exact kit_bt (by decide +kernel) sb_LimitExceeded_ValueError),
    ⟨pgGroup, hdGroup, poGroup, saGroup⟩,
    m_na_Group_order,
    m_na_Group_rows,
    m_na_Group_inverses,
    ⟨ovaGroup, oc_n, oc_t, ovmGroup⟩,
    kit_self⟩
  have F0 := fun_mk (st := st_has_identity) l0 c0 k0
  have b0 := F0.binds (ps := ["table"]) fun _ _ _ _ _ _ us hl => match us, hl with | [_], _ => rfl
  have F1 := fun_mk (st := st_is_associative) l1 c1 k1
  have b1 := F1.binds (ps := ["table"]) fun _ _ _ _ _ _ us hl => match us, hl with | [_], _ => rfl
  have F2 := fun_mk (st := st_Group___init__) l2 c2 k2
  have b2 := F2.binds (ps := ["self", "table"]) fun _ _ _ _ _ _ us hl => match us, hl with | [_, _], _ => rfl
  have F3 := fun_mk (st := st_Group___eq__) l3 c3 k3
  have b3 := F3.binds (ps := ["self", "other"]) fun _ _ _ _ _ _ us hl => match us, hl with | [_, _], _ => rfl
  have F4 := fun_mk (st := st_Group_check) l4 c4 k4
  have b4 := F4.binds (ps := ["self", "element"]) fun _ _ _ _ _ _ us hl => match us, hl with | [_, _], _ => rfl
  have F5 := fun_mk (st := st_Group_multiply) l5 c5 k5
  have b5 := F5.binds (ps := ["self", "left", "right"]) fun _ _ _ _ _ _ us hl => match us, hl with | [_, _, _], _ => rfl
  have F6 := fun_mk (st := st_Group_inverse) l6 c6 k6
  have b6 := F6.binds (ps := ["self", "element"]) fun _ _ _ _ _ _ us hl => match us, hl with | [_, _], _ => rfl
  have F7 := fun_mk (st := st_Group_order_of) l7 c7 k7
  have b7 := F7.binds (ps := ["self", "element"]) fun _ _ _ _ _ _ us hl => match us, hl with | [_, _], _ => rfl
  have F8 := fun_mk (st := st_Group_power) l8 c8 k8
  have b8 := F8.binds (ps := ["self", "element", "exponent"]) fun _ _ _ _ _ _ us hl => match us, hl with | [_, _, _], _ => rfl
  have F9 := fun_mk (st := st_Group_generated) l9 c9 k9
  have b9 := F9.binds (ps := ["self", "members"]) fun _ _ _ _ _ _ us hl => match us, hl with | [_, _], _ => rfl
  have F10 := fun_mk (st := st_Group_generators) l10 c10 k10
  have b10 := F10.binds (ps := ["self"]) fun _ _ _ _ _ _ us hl => match us, hl with | [_], _ => rfl
  have F11 := fun_mk (st := st_Group_is_commutative) l11 c11 k11
  have b11 := F11.binds (ps := ["self"]) fun _ _ _ _ _ _ us hl => match us, hl with | [_], _ => rfl
  have F12 := fun_mk (st := st__law_bag) l12 c12 k12
  have b12 := F12.binds (ps := ["script", "k"]) fun _ _ _ _ _ _ us hl => match us, hl with | [_, _], _ => rfl
  have F13 := fun_mk (st := st__law_take) l13 c13 k13
  have b13 := F13.binds (ps := ["bag", "size"]) fun _ _ _ _ _ _ us hl => match us, hl with | [_, _], _ => rfl
  have F14 := fun_mk (st := st__law_power) l14 c14 k14
  have b14 := F14.binds (ps := ["base", "times", "modulus"]) fun _ _ _ _ _ _ us hl => match us, hl with | [_, _, _], _ => rfl
  have F15 := fun_mk (st := st__law_metacyclic) l15 c15 k15
  have b15 := F15.binds (ps := ["bag", "limit"]) fun _ _ _ _ _ _ us hl => match us, hl with | [_, _], _ => rfl
  have F16 := fun_mk (st := st__law_permutations) l16 c16 k16
  have b16 := F16.binds (ps := ["bag"]) fun _ _ _ _ _ _ us hl => match us, hl with | [_], _ => rfl
  have F17 := fun_mk (st := st__law_renamed) l17 c17 k17
  have b17 := F17.binds (ps := ["bag", "table"]) fun _ _ _ _ _ _ us hl => match us, hl with | [_, _], _ => rfl
  have F18 := fun_mk (st := st__law_table) l18 c18 k18
  have b18 := F18.binds (ps := ["bag", "limit"]) fun _ _ _ _ _ _ us hl => match us, hl with | [_, _], _ => rfl
  have F19 := fun_mk (st := st__law_spoilt) l19 c19 k19
  have b19 := F19.binds (ps := ["bag", "table"]) fun _ _ _ _ _ _ us hl => match us, hl with | [_, _], _ => rfl
  have F20 := fun_mk (st := st__law_valid) l20 c20 k20
  have b20 := F20.binds (ps := ["table"]) fun _ _ _ _ _ _ us hl => match us, hl with | [_], _ => rfl
  have F21 := fun_mk (st := st__law_made) l21 c21 k21
  have b21 := F21.binds (ps := ["table"]) fun _ _ _ _ _ _ us hl => match us, hl with | [_], _ => rfl
  have F22 := fun_mk (st := st__law_is_integer) l22 c22 k22
  have b22 := F22.binds (ps := ["told"]) fun _ _ _ _ _ _ us hl => match us, hl with | [_], _ => rfl
  have F23 := fun_mk (st := st__law_closed) l23 c23 k23
  have b23 := F23.binds (ps := ["table", "members"]) fun _ _ _ _ _ _ us hl => match us, hl with | [_, _], _ => rfl
  have F24 := fun_mk (st := st__law_order) l24 c24 k24
  have b24 := F24.binds (ps := ["table", "x"]) fun _ _ _ _ _ _ us hl => match us, hl with | [_, _], _ => rfl
  have F25 := fun_mk (st := st__law_many) l25 c25 k25
  have b25 := F25.binds (ps := ["table", "x", "times"]) fun _ _ _ _ _ _ us hl => match us, hl with | [_, _, _], _ => rfl
  have F26 := fun_mk (st := st__law_generators) l26 c26 k26
  have b26 := F26.binds (ps := ["table"]) fun _ _ _ _ _ _ us hl => match us, hl with | [_], _ => rfl
  have F27 := fun_mk (st := st__law_refused) l27 c27 k27
  have b27 := F27.binds (ps := ["group", "which", "bad"]) fun _ _ _ _ _ _ us hl => match us, hl with | [_, _, _], _ => rfl
  have F28 := fun_mk (st := st__law_plain) l28 c28 k28
  have b28 := F28.binds (ps := ["group", "table"]) fun _ _ _ _ _ _ us hl => match us, hl with | [_, _], _ => rfl
  have F29 := fun_mk (st := st__law_methods) l29 c29 k29
  have b29 := F29.binds (ps := ["group", "table", "bag"]) fun _ _ _ _ _ _ us hl => match us, hl with | [_, _, _], _ => rfl
  have F30 := fun_mk (st := st_law) l30 c30 k30
  have b30 := F30.binds (ps := ["script"]) fun _ _ _ _ _ _ us hl => match us, hl with | [_], _ => rfl
  refine ⟨PySem.W.fnOf "law" "law" (defArgs st_law) (defBody st_law) (defScope st_law) .none kV30 dc30 pm30 an30 cd30 ct30, fun s v => .of_eq rfl, fun base _ _ => ?_⟩
  have C_Group___eq__ : CalM l.prog w K mg base CX0 1 e_Group "__eq__" ["self", "other"] (sp_Group___eq__ K (⟨fa, e_StepError, e_InvalidGroup, e_InvalidElement, e_LimitExceeded, e_Group⟩ : Ad)) f3 _ := ⟨ok_Group___eq__ T F3 (PySem.W.mg_none_of X G z_isinstance), ⟨a3, i3, k3⟩, b3⟩
  have C_Group_check : CalM l.prog w K mg base (L2.CX l.prog w) 1 e_Group "check" ["self", "element"] (sp_Group_check K (⟨fa, e_StepError, e_InvalidGroup, e_InvalidElement, e_LimitExceeded, e_Group⟩ : Ad)) f4 _ := ⟨ok_Group_check T F4, ⟨a4, i4, k4⟩, b4⟩
  have C__law_bag : Cal l.prog w K mg base CX0 1 "_law_bag" ["script", "k"] (sp__law_bag K (⟨fa, e_StepError, e_InvalidGroup, e_InvalidElement, e_LimitExceeded, e_Group⟩ : Ad)) f12 _ := ⟨ok__law_bag T F12 (PySem.W.mg_none_of X G z_abs) (PySem.W.mg_none_of X G z_int) (PySem.W.mg_none_of X G z_len), PySem.W.mg_of X G a12, F12.kp, b12⟩
  have C__law_take : Cal l.prog w K mg base CX0 1 "_law_take" ["bag", "size"] (sp__law_take K (⟨fa, e_StepError, e_InvalidGroup, e_InvalidElement, e_LimitExceeded, e_Group⟩ : Ad)) f13 _ := ⟨ok__law_take T F13 (PySem.W.mg_none_of X G z_int), PySem.W.mg_of X G a13, F13.kp, b13⟩
  have C__law_power : Cal l.prog w K mg base CX0 1 "_law_power" ["base", "times", "modulus"] (sp__law_power K (⟨fa, e_StepError, e_InvalidGroup, e_InvalidElement, e_LimitExceeded, e_Group⟩ : Ad)) f14 _ := ⟨ok__law_power T F14 (PySem.W.mg_none_of X G z_int) (PySem.W.mg_none_of X G z_range), PySem.W.mg_of X G a14, F14.kp, b14⟩
  have C__law_is_integer : Cal l.prog w K mg base CX0 1 "_law_is_integer" ["told"] (sp__law_is_integer K (⟨fa, e_StepError, e_InvalidGroup, e_InvalidElement, e_LimitExceeded, e_Group⟩ : Ad)) f22 _ := ⟨ok__law_is_integer T F22 (PySem.W.mg_none_of X G z_bool) (PySem.W.mg_none_of X G z_int) (PySem.W.mg_none_of X G z_isinstance), PySem.W.mg_of X G a22, F22.kp, b22⟩
  have C__law_closed : Cal l.prog w K mg base CX0 1 "_law_closed" ["table", "members"] (sp__law_closed K (⟨fa, e_StepError, e_InvalidGroup, e_InvalidElement, e_LimitExceeded, e_Group⟩ : Ad)) f23 _ := ⟨ok__law_closed T F23 (PySem.W.mg_none_of X G z_len) (PySem.W.mg_none_of X G z_range) (PySem.W.mg_none_of X G z_sorted), PySem.W.mg_of X G a23, F23.kp, b23⟩
  have C__law_many : Cal l.prog w K mg base CX0 1 "_law_many" ["table", "x", "times"] (sp__law_many K (⟨fa, e_StepError, e_InvalidGroup, e_InvalidElement, e_LimitExceeded, e_Group⟩ : Ad)) f25 _ := ⟨ok__law_many T F25 (PySem.W.mg_none_of X G z_range), PySem.W.mg_of X G a25, F25.kp, b25⟩
  have C_has_identity : Cal l.prog w K mg base CX0 2 "has_identity" ["table"] (sp_has_identity K (⟨fa, e_StepError, e_InvalidGroup, e_InvalidElement, e_LimitExceeded, e_Group⟩ : Ad)) f0 _ := ⟨ok_has_identity T F0 (PySem.W.mg_none_of X G z_len) (PySem.W.mg_none_of X G z_range), PySem.W.mg_of X G a0, F0.kp, b0⟩
  have C_is_associative : Cal l.prog w K mg base CX0 2 "is_associative" ["table"] (sp_is_associative K (⟨fa, e_StepError, e_InvalidGroup, e_InvalidElement, e_LimitExceeded, e_Group⟩ : Ad)) f1 _ := ⟨ok_is_associative T F1 (PySem.W.mg_none_of X G z_len) (PySem.W.mg_none_of X G z_list) (PySem.W.mg_none_of X G z_range), PySem.W.mg_of X G a1, F1.kp, b1⟩
  have C_Group_multiply : CalM l.prog w K mg base (L2.CX l.prog w) 2 e_Group "multiply" ["self", "left", "right"] (sp_Group_multiply K (⟨fa, e_StepError, e_InvalidGroup, e_InvalidElement, e_LimitExceeded, e_Group⟩ : Ad)) f5 _ := ⟨ok_Group_multiply T F5 C_Group_check, ⟨a5, i5, k5⟩, b5⟩
  have C_Group_inverse : CalM l.prog w K mg base (L2.CX l.prog w) 2 e_Group "inverse" ["self", "element"] (sp_Group_inverse K (⟨fa, e_StepError, e_InvalidGroup, e_InvalidElement, e_LimitExceeded, e_Group⟩ : Ad)) f6 _ := ⟨ok_Group_inverse T F6 C_Group_check, ⟨a6, i6, k6⟩, b6⟩
  have C_Group_order_of : CalM l.prog w K mg base (L2.CX l.prog w) 2 e_Group "order_of" ["self", "element"] (sp_Group_order_of K (⟨fa, e_StepError, e_InvalidGroup, e_InvalidElement, e_LimitExceeded, e_Group⟩ : Ad)) f7 _ := ⟨ok_Group_order_of T F7 C_Group_check, ⟨a7, i7, k7⟩, b7⟩
  have C_Group_generated : CalM l.prog w K mg base (L2.CX l.prog w) 2 e_Group "generated" ["self", "members"] (sp_Group_generated K (⟨fa, e_StepError, e_InvalidGroup, e_InvalidElement, e_LimitExceeded, e_Group⟩ : Ad)) f9 _ := ⟨ok_Group_generated T F9 C_Group_check (PySem.W.mg_none_of X G z_len) (PySem.W.mg_none_of X G z_range) (PySem.W.mg_none_of X G z_sorted), ⟨a9, i9, k9⟩, b9⟩
  have C_Group_is_commutative : CalM l.prog w K mg base CX0 2 e_Group "is_commutative" ["self"] (sp_Group_is_commutative K (⟨fa, e_StepError, e_InvalidGroup, e_InvalidElement, e_LimitExceeded, e_Group⟩ : Ad)) f11 _ := ⟨ok_Group_is_commutative T F11 (PySem.W.mg_none_of X G z_range), ⟨a11, i11, k11⟩, b11⟩
  have C__law_metacyclic : Cal l.prog w K mg base CX0 2 "_law_metacyclic" ["bag", "limit"] (sp__law_metacyclic K (⟨fa, e_StepError, e_InvalidGroup, e_InvalidElement, e_LimitExceeded, e_Group⟩ : Ad)) f15 _ := ⟨ok__law_metacyclic T F15 C__law_take C__law_power (PySem.W.mg_none_of X G z_int) (PySem.W.mg_none_of X G z_len) (PySem.W.mg_none_of X G z_range), PySem.W.mg_of X G a15, F15.kp, b15⟩
  have C__law_permutations : Cal l.prog w K mg base CX0 2 "_law_permutations" ["bag"] (sp__law_permutations K (⟨fa, e_StepError, e_InvalidGroup, e_InvalidElement, e_LimitExceeded, e_Group⟩ : Ad)) f16 _ := ⟨ok__law_permutations T F16 C__law_take (PySem.W.mg_none_of X G z_len) (PySem.W.mg_none_of X G z_range) (PySem.W.mg_none_of X G z_sorted), PySem.W.mg_of X G a16, F16.kp, b16⟩
  have C__law_renamed : Cal l.prog w K mg base CX0 2 "_law_renamed" ["bag", "table"] (sp__law_renamed K (⟨fa, e_StepError, e_InvalidGroup, e_InvalidElement, e_LimitExceeded, e_Group⟩ : Ad)) f17 _ := ⟨ok__law_renamed T F17 C__law_take (PySem.W.mg_none_of X G z_len) (PySem.W.mg_none_of X G z_list) (PySem.W.mg_none_of X G z_range), PySem.W.mg_of X G a17, F17.kp, b17⟩
  have C__law_spoilt : Cal l.prog w K mg base CX0 2 "_law_spoilt" ["bag", "table"] (sp__law_spoilt K (⟨fa, e_StepError, e_InvalidGroup, e_InvalidElement, e_LimitExceeded, e_Group⟩ : Ad)) f19 _ := ⟨ok__law_spoilt T F19 C__law_take (PySem.W.mg_none_of X G z_int) (PySem.W.mg_none_of X G z_len) (PySem.W.mg_none_of X G z_list) (PySem.W.mg_none_of X G z_range), PySem.W.mg_of X G a19, F19.kp, b19⟩
  have C__law_valid : Cal l.prog w K mg base CX0 2 "_law_valid" ["table"] (sp__law_valid K (⟨fa, e_StepError, e_InvalidGroup, e_InvalidElement, e_LimitExceeded, e_Group⟩ : Ad)) f20 _ := ⟨ok__law_valid T F20 (PySem.W.mg_none_of X G z_len) (PySem.W.mg_none_of X G z_range), PySem.W.mg_of X G a20, F20.kp, b20⟩
  have C__law_order : Cal l.prog w K mg base CX0 2 "_law_order" ["table", "x"] (sp__law_order K (⟨fa, e_StepError, e_InvalidGroup, e_InvalidElement, e_LimitExceeded, e_Group⟩ : Ad)) f24 _ := ⟨ok__law_order T F24 (PySem.W.mg_none_of X G z_len) (PySem.W.mg_none_of X G z_range), PySem.W.mg_of X G a24, F24.kp, b24⟩
  have C__law_generators : Cal l.prog w K mg base CX0 2 "_law_generators" ["table"] (sp__law_generators K (⟨fa, e_StepError, e_InvalidGroup, e_InvalidElement, e_LimitExceeded, e_Group⟩ : Ad)) f26 _ := ⟨ok__law_generators T F26 C__law_closed (PySem.W.mg_none_of X G z_len) (PySem.W.mg_none_of X G z_range), PySem.W.mg_of X G a26, F26.kp, b26⟩
  have C__law_plain : Cal l.prog w K mg base CX0 2 "_law_plain" ["group", "table"] (sp__law_plain K (⟨fa, e_StepError, e_InvalidGroup, e_InvalidElement, e_LimitExceeded, e_Group⟩ : Ad)) f28 _ := ⟨ok__law_plain T F28 C__law_is_integer (PySem.W.mg_none_of X G z_all) (PySem.W.mg_none_of X G z_isinstance) (PySem.W.mg_none_of X G z_len) (PySem.W.mg_none_of X G z_list) (PySem.W.mg_none_of X G z_tuple), PySem.W.mg_of X G a28, F28.kp, b28⟩
  have C_Group___init__ : CalI l.prog w K mg base (L2.CX l.prog w) 3 "Group" e_Group ["self", "table"] (sp_Group___init__ K (⟨fa, e_StepError, e_InvalidGroup, e_InvalidElement, e_LimitExceeded, e_Group⟩ : Ad)) f2 _ := ⟨ok_Group___init__ T F2 C_has_identity C_is_associative (PySem.W.mg_none_of X G z_len) (PySem.W.mg_none_of X G z_list) (PySem.W.mg_none_of X G z_tuple), ⟨mkGroup, a2, i2, kcGroup⟩, PySem.W.mg_of X G gGroup, b2⟩
  have C_Group_power : CalM l.prog w K mg base (L2.CX l.prog w) 3 e_Group "power" ["self", "element", "exponent"] (sp_Group_power K (⟨fa, e_StepError, e_InvalidGroup, e_InvalidElement, e_LimitExceeded, e_Group⟩ : Ad)) f8 _ := ⟨ok_Group_power T F8 C_Group_order_of (PySem.W.mg_none_of X G z_range), ⟨a8, i8, k8⟩, b8⟩
  have C_Group_generators : CalM l.prog w K mg base (L2.CX l.prog w) 3 e_Group "generators" ["self"] (sp_Group_generators K (⟨fa, e_StepError, e_InvalidGroup, e_InvalidElement, e_LimitExceeded, e_Group⟩ : Ad)) f10 _ := ⟨ok_Group_generators T F10 C_Group_generated (PySem.W.mg_none_of X G z_range), ⟨a10, i10, k10⟩, b10⟩
  have C__law_table : Cal l.prog w K mg base CX0 3 "_law_table" ["bag", "limit"] (sp__law_table K (⟨fa, e_StepError, e_InvalidGroup, e_InvalidElement, e_LimitExceeded, e_Group⟩ : Ad)) f18 _ := ⟨ok__law_table T F18 C__law_metacyclic C__law_take C__law_permutations C__law_renamed (PySem.W.mg_none_of X G z_len), PySem.W.mg_of X G a18, F18.kp, b18⟩
  have C__law_refused : Cal l.prog w K mg base CX0 4 "_law_refused" ["group", "which", "bad"] (sp__law_refused K (⟨fa, e_StepError, e_InvalidGroup, e_InvalidElement, e_LimitExceeded, e_Group⟩ : Ad)) f27 _ := ⟨ok__law_refused T F27 C_Group_multiply C_Group_inverse C_Group_power C_Group_order_of C_Group_generated (PySem.W.mg_none_of X G z_isinstance), PySem.W.mg_of X G a27, F27.kp, b27⟩
  have C__law_methods : Cal l.prog w K mg base CX0 4 "_law_methods" ["group", "table", "bag"] (sp__law_methods K (⟨fa, e_StepError, e_InvalidGroup, e_InvalidElement, e_LimitExceeded, e_Group⟩ : Ad)) f29 _ := ⟨ok__law_methods T F29 C__law_take C__law_order C_Group_multiply C_Group_inverse C_Group_order_of C__law_is_integer C_Group_power C__law_many C_Group_generated C__law_closed C_Group_generators C__law_generators (PySem.W.mg_none_of X G z_isinstance) (PySem.W.mg_none_of X G z_len) (PySem.W.mg_none_of X G z_list) (PySem.W.mg_none_of X G z_range), PySem.W.mg_of X G a29, F29.kp, b29⟩
  have C__law_made : Cal l.prog w K mg base CX0 5 "_law_made" ["table"] (sp__law_made K (⟨fa, e_StepError, e_InvalidGroup, e_InvalidElement, e_LimitExceeded, e_Group⟩ : Ad)) f21 _ := ⟨ok__law_made T F21 C_Group___init__ (PySem.W.mg_none_of X G z_ValueError) (PySem.W.mg_none_of X G z_isinstance), PySem.W.mg_of X G a21, F21.kp, b21⟩
  exact ok_law T F30 C__law_bag C__law_take C__law_spoilt C__law_table C__law_made C__law_valid C__law_plain C__law_methods C_Group_is_commutative C_Group___init__ C_Group___eq__ C__law_refused (PySem.W.mg_none_of X G z_all) (PySem.W.mg_none_of X G z_bool) (PySem.W.mg_none_of X G z_int) (PySem.W.mg_none_of X G z_isinstance) (PySem.W.mg_none_of X G z_len) (PySem.W.mg_none_of X G z_list) (PySem.W.mg_none_of X G z_range)
theorem law_sp {K : PySem.W.Frag} {H : Hp} {a : Addr} {ns : List Int} {E : XK} (hl : ns.length ≤ 63) (hS : SqL K H a (ns.map V.int)) : sp_law K A0 [.ref a] H (fun v _ => v = .bl true) E :=
  ⟨⟨fun _ => none, H, fun _ => False⟩, (ns, ()), (fun b => b = true), rfl, ⟨fun _ _ z => (nomatch z), fun _ z => z.elim⟩, ⟨_, _, rfl, ⟨a, _, rfl, ex_l (fun p o e => old_of (s := ⟨fun _ => none, H, fun _ => False⟩) (fun z => z) e) hS, ints_paired _ _⟩, rfl⟩, law_true ns hl, fun d v u hd _ hv => by
    rw [show v = V.bl d from hv, hd]⟩
end K00
open PySem PySem.W PyProof.Rows
set_option maxHeartbeats 0 in
theorem PySem.Challenge.cw_stepsvanish_k00_groups_let_by_holds : PySem.Challenge.rw_stepsvanish_k00_groups_let_by.Holds := by
  w_on; o_law; k_head; (case hw => w_witness2)
  k_fill
  refine L2.walk_of (l := PySem.Challenge.rw_stepsvanish_k00_groups_let_by) (n := 63) (k := 6) (x := "script") (CX := fun _ => L2.CX0) (sp := fun w => K00.sp_law _ K00.A0) rfl (by decide) rfl ⟨rfl, by decide, by decide⟩ (fun w h Y => PySem.W.kIn_of Y) ?F (fun _ _ a ns hl _ hS => K00.law_sp hl hS) (fun _ _ _ _ _ h => h)
  case F =>
    intro w mg fa h KX G hmg
    refine' K00.all_mk KX G hmg ?gStepError ?gInvalidGroup ?gInvalidElement ?gLimitExceeded ?gGroup ?a0 ?l0 ?c0 ?k0 ?a1 ?l1 ?c1 ?k1 ?a2 ?i2 ?l2 ?c2 ?k2 ?a3 ?i3 ?l3 ?c3 ?k3 ?a4 ?i4 ?l4 ?c4 ?k4 ?a5 ?i5 ?l5 ?c5 ?k5 ?a6 ?i6 ?l6 ?c6 ?k6 ?a7 ?i7 ?l7 ?c7 ?k7 ?a8 ?i8 ?l8 ?c8 ?k8 ?a9 ?i9 ?l9 ?c9 ?k9 ?a10 ?i10 ?l10 ?c10 ?k10 ?a11 ?i11 ?l11 ?c11 ?k11 ?a12 ?l12 ?c12 ?k12 ?a13 ?l13 ?c13 ?k13 ?a14 ?l14 ?c14 ?k14 ?a15 ?l15 ?c15 ?k15 ?a16 ?l16 ?c16 ?k16 ?a17 ?l17 ?c17 ?k17 ?a18 ?l18 ?c18 ?k18 ?a19 ?l19 ?c19 ?k19 ?a20 ?l20 ?c20 ?k20 ?a21 ?l21 ?c21 ?k21 ?a22 ?l22 ?c22 ?k22 ?a23 ?l23 ?c23 ?k23 ?a24 ?l24 ?c24 ?k24 ?a25 ?l25 ?c25 ?k25 ?a26 ?l26 ?c26 ?k26 ?a27 ?l27 ?c27 ?k27 ?a28 ?l28 ?c28 ?k28 ?a29 ?l29 ?c29 ?k29 ?a30 ?l30 ?c30 ?k30 ?z_ValueError ?z_abs ?z_all ?z_bool ?z_int ?z_isinstance ?z_len ?z_list ?z_range ?z_sorted ?z_tuple ?mkGroup ?kcGroup ?qGROUP_LIMIT ?x_InvalidElement ?m_kp_InvalidElement ?m_bs_InvalidElement ?m_ty_InvalidElement ?x_InvalidGroup ?m_kp_InvalidGroup ?m_bs_InvalidGroup ?m_ty_InvalidGroup ?x_LimitExceeded ?m_kp_LimitExceeded ?m_bs_LimitExceeded ?m_ty_LimitExceeded ?hbs_InvalidElement ?hhd_InvalidElement ?hty_InvalidElement ?s_InvalidElement_InvalidElement ?s_InvalidGroup_InvalidElement ?s_LimitExceeded_InvalidElement ?hbs_InvalidGroup ?hhd_InvalidGroup ?hty_InvalidGroup ?s_InvalidElement_InvalidGroup ?s_InvalidGroup_InvalidGroup ?s_LimitExceeded_InvalidGroup ?hbs_LimitExceeded ?hhd_LimitExceeded ?hty_LimitExceeded ?s_InvalidElement_LimitExceeded ?s_InvalidGroup_LimitExceeded ?s_LimitExceeded_LimitExceeded ?eg_InvalidElement ?ek_InvalidElement ?ea_InvalidElement ?em_InvalidElement ?eg_InvalidGroup ?ek_InvalidGroup ?ea_InvalidGroup ?em_InvalidGroup ?eg_LimitExceeded ?ek_LimitExceeded ?ea_LimitExceeded ?em_LimitExceeded ?oc_n ?oc_t ?hhd_StepError ?hty_StepError ?s_StepError_StepError ?s_InvalidElement_StepError ?s_InvalidGroup_StepError ?s_LimitExceeded_StepError ?sb_InvalidElement_ValueError ?sb_InvalidGroup_ValueError ?sb_LimitExceeded_ValueError ?pgGroup ?hdGroup ?poGroup ?saGroup ?m_na_Group_order ?m_na_Group_rows ?m_na_Group_inverses ?ovaGroup ?ovmGroup
    (case gStepError => k_is); (case gInvalidGroup => k_is); (case gInvalidElement => k_is); (case gLimitExceeded => k_is); (case gGroup => k_is); (case a0 => k_is); (case l0 => k_is); (case c0 => k_is); (case k0 => k_is); (case a1 => k_is); (case l1 => k_is); (case c1 => k_is); (case k1 => k_is); (case a2 => k_is); (case i2 => k_is); (case l2 => k_is); (case c2 => k_is); (case k2 => k_is); (case a3 => k_is); (case i3 => k_is); (case l3 => k_is); (case c3 => k_is); (case k3 => k_is); (case a4 => k_is); (case i4 => k_is); (case l4 => k_is); (case c4 => k_is); (case k4 => k_is); (case a5 => k_is); (case i5 => k_is); (case l5 => k_is); (case c5 => k_is); (case k5 => k_is); (case a6 => k_is); (case i6 => k_is); (case l6 => k_is); (case c6 => k_is); (case k6 => k_is); (case a7 => k_is); (case i7 => k_is); (case l7 => k_is); (case c7 => k_is); (case k7 => k_is); (case a8 => k_is); (case i8 => k_is); (case l8 => k_is); (case c8 => k_is); (case k8 => k_is); (case a9 => k_is); (case i9 => k_is); (case l9 => k_is); (case c9 => k_is); (case k9 => k_is); (case a10 => k_is); (case i10 => k_is); (case l10 => k_is); (case c10 => k_is); (case k10 => k_is); (case a11 => k_is); (case i11 => k_is); (case l11 => k_is); (case c11 => k_is); (case k11 => k_is); (case a12 => k_is); (case l12 => k_is); (case c12 => k_is); (case k12 => k_is); (case a13 => k_is); (case l13 => k_is); (case c13 => k_is); (case k13 => k_is); (case a14 => k_is); (case l14 => k_is); (case c14 => k_is); (case k14 => k_is); (case a15 => k_is); (case l15 => k_is); (case c15 => k_is); (case k15 => k_is); (case a16 => k_is); (case l16 => k_is); (case c16 => k_is); (case k16 => k_is); (case a17 => k_is); (case l17 => k_is); (case c17 => k_is); (case k17 => k_is); (case a18 => k_is); (case l18 => k_is); (case c18 => k_is); (case k18 => k_is); (case a19 => k_is); (case l19 => k_is); (case c19 => k_is); (case k19 => k_is); (case a20 => k_is); (case l20 => k_is); (case c20 => k_is); (case k20 => k_is); (case a21 => k_is); (case l21 => k_is); (case c21 => k_is); (case k21 => k_is); (case a22 => k_is); (case l22 => k_is); (case c22 => k_is); (case k22 => k_is); (case a23 => k_is); (case l23 => k_is); (case c23 => k_is); (case k23 => k_is); (case a24 => k_is); (case l24 => k_is); (case c24 => k_is); (case k24 => k_is); (case a25 => k_is); (case l25 => k_is); (case c25 => k_is); (case k25 => k_is); (case a26 => k_is); (case l26 => k_is); (case c26 => k_is); (case k26 => k_is); (case a27 => k_is); (case l27 => k_is); (case c27 => k_is); (case k27 => k_is); (case a28 => k_is); (case l28 => k_is); (case c28 => k_is); (case k28 => k_is); (case a29 => k_is); (case l29 => k_is); (case c29 => k_is); (case k29 => k_is); (case a30 => k_is); (case l30 => k_is); (case c30 => k_is); (case k30 => k_is); (case z_ValueError => k_is); (case z_abs => k_is); (case z_all => k_is); (case z_bool => k_is); (case z_int => k_is); (case z_isinstance => k_is); (case z_len => k_is); (case z_list => k_is); (case z_range => k_is); (case z_sorted => k_is); (case z_tuple => k_is); (case mkGroup => k_is); (case kcGroup => k_is); (case qGROUP_LIMIT => k_is); (case x_InvalidElement => k_exc); (case m_kp_InvalidElement => k_is); (case m_bs_InvalidElement => k_is); (case m_ty_InvalidElement => k_is); (case x_InvalidGroup => k_exc); (case m_kp_InvalidGroup => k_is); (case m_bs_InvalidGroup => k_is); (case m_ty_InvalidGroup => k_is); (case x_LimitExceeded => k_exc); (case m_kp_LimitExceeded => k_is); (case m_bs_LimitExceeded => k_is); (case m_ty_LimitExceeded => k_is); (case hbs_InvalidElement => k_is); (case hhd_InvalidElement => k_is); (case hty_InvalidElement => k_is); (case s_InvalidElement_InvalidElement => k_is); (case s_InvalidGroup_InvalidElement => k_is); (case s_LimitExceeded_InvalidElement => k_is); (case hbs_InvalidGroup => k_is); (case hhd_InvalidGroup => k_is); (case hty_InvalidGroup => k_is); (case s_InvalidElement_InvalidGroup => k_is); (case s_InvalidGroup_InvalidGroup => k_is); (case s_LimitExceeded_InvalidGroup => k_is); (case hbs_LimitExceeded => k_is); (case hhd_LimitExceeded => k_is); (case hty_LimitExceeded => k_is); (case s_InvalidElement_LimitExceeded => k_is); (case s_InvalidGroup_LimitExceeded => k_is); (case s_LimitExceeded_LimitExceeded => k_is); (case eg_InvalidElement => k_is); (case ek_InvalidElement => k_is); (case ea_InvalidElement => k_is); (case em_InvalidElement => k_is); (case eg_InvalidGroup => k_is); (case ek_InvalidGroup => k_is); (case ea_InvalidGroup => k_is); (case em_InvalidGroup => k_is); (case eg_LimitExceeded => k_is); (case ek_LimitExceeded => k_is); (case ea_LimitExceeded => k_is); (case em_LimitExceeded => k_is); (case oc_n => k_is); (case oc_t => k_is); (case hhd_StepError => k_is); (case hty_StepError => k_is); (case s_StepError_StepError => k_is); (case s_InvalidElement_StepError => k_is); (case s_InvalidGroup_StepError => k_is); (case s_LimitExceeded_StepError => k_is); (case sb_InvalidElement_ValueError => k_is); (case sb_InvalidGroup_ValueError => k_is); (case sb_LimitExceeded_ValueError => k_is); (case pgGroup => k_is); (case hdGroup => k_is); (case poGroup => k_is); (case saGroup => k_is); (case m_na_Group_order => k_is); (case m_na_Group_rows => k_is); (case m_na_Group_inverses => k_is); (case ovaGroup => k_is); (case ovmGroup => k_is)


