import PyProof.Rows.All
import Wide.All
import OpenK.AllK
import Wide.FinOn
import HandS.ForMost
import HandS.ForExc
import HandS.Wide
import HandS.Codes
import HandS.Conv
import HandS.IsInst
import PySem.Challenge.RW_stepsvanish_k01_numbers_factored
set_option Elab.async false
set_option linter.all false
set_option maxRecDepth 100000
set_option maxHeartbeats 4000000
namespace Y
open PySem PySem.Spec PyProof.Rows L2

/-! ### states: what stands still, all, the drawing lists -/
structure S where
  st : Hp
  hp : Hp
  bg : Addr → Prop

def Ex (H H' : Hp) : Prop := ∀ a o, H a = some o → H' a = some o
theorem Ex.refl (H : Hp) : Ex H H := fun _ _ h => h
theorem Ex.trans {H H1 H2 : Hp} (a : Ex H H1) (b : Ex H1 H2) : Ex H H2 := fun x o h => b x o (a x o h)
theorem Ex.new {H : Hp} {p : Addr} {o : HO} (h : H p = none) : Ex H (upd H p o) := fun a u e => by
  rw [upd_ne (ne_of_none e h)]
  exact e
theorem ex_rd {H H' : Hp} {a : Addr} {u : HO} (e : Ex H H') (h : Rd H a u) : Rd H' a u := by
  rcases h with h | ⟨o, h⟩
  · exact Or.inl (e a _ h)
  · exact Or.inr ⟨o, e a _ h⟩
theorem ex_l {K : PySem.W.Frag} {H H' : Hp} {a : Addr} {xs : List V} (e : Ex H H') (h : SqL K H a xs) : SqL K H' a xs := by
  rcases h with h | h
  · exact Or.inl (ex_rd e h)
  · exact Or.inr h
theorem ex_t {K : PySem.W.Frag} {H H' : Hp} {a : Addr} {xs : List V} (e : Ex H H') (h : SqT K H a xs) : SqT K H' a xs := by
  rcases h with h | h
  · exact Or.inl (ex_rd e h)
  · exact Or.inr h
theorem sqL_of {K : PySem.W.Frag} {H : Hp} {a : Addr} {xs : List V} (h : H a = some (.lst xs)) : SqL K H a xs := Or.inl (Or.inl h)
theorem sqT_of {K : PySem.W.Frag} {H : Hp} {a : Addr} {xs : List V} (h : H a = some (.tup xs)) : SqT K H a xs := Or.inl (Or.inl h)

structure Sok (s : S) : Prop where
  sub : Ex s.st s.hp
  bag : ∀ a, s.bg a → s.st a = none ∧ ∃ i j, s.hp a = some (.lst [.int i, .int j])

/-- s grew to t; X: what was changed otherwise -/
structure Gx (X : Addr → Prop) (s t : S) : Prop where
  ok : Sok t
  st : Ex s.st t.st
  hp : ∀ a o, ¬ X a → ¬ s.bg a → s.hp a = some o → t.hp a = some o
  bg : ∀ a, s.bg a → t.bg a
  fr : ∀ a, ¬ X a → s.hp a ≠ none → (s.st a = none → t.st a = none) ∧ (t.bg a → s.bg a)
  al : ∀ a, s.hp a ≠ none → t.hp a ≠ none
abbrev No : Addr → Prop := fun _ => False
abbrev Gr := Gx No
theorem Gx.refl {X : Addr → Prop} {s : S} (h : Sok s) : Gx X s s := ⟨h, Ex.refl _, fun _ _ _ _ e => e, fun _ e => e, fun _ _ _ => ⟨fun e => e, fun e => e⟩, fun _ e => e⟩
theorem Gx.trans {X : Addr → Prop} {s t u : S} (a : Gx X s t) (b : Gx X t u) : Gx X s u where
  ok := b.ok
  st := a.st.trans b.st
  hp := fun p o hx hb e => b.hp p o hx (fun z => hb ((a.fr p hx (by rw [e]; exact fun z => nomatch z)).2 z)) (a.hp p o hx hb e)
  bg := fun p e => b.bg p (a.bg p e)
  fr := fun p hx e => ⟨fun z => (b.fr p hx (a.al p e)).1 ((a.fr p hx e).1 z), fun z => (a.fr p hx e).2 ((b.fr p hx (a.al p e)).2 z)⟩
  al := fun p e => b.al p (a.al p e)
theorem Gx.mono {X X' : Addr → Prop} {s t : S} (h : ∀ a, X a → X' a) (a : Gx X s t) : Gx X' s t :=
  ⟨a.ok, a.st, fun p o hx => a.hp p o (fun z => hx (h p z)), a.bg, fun p hx => a.fr p (fun z => hx (h p z)), a.al⟩
theorem Gx.of_gr {X : Addr → Prop} {s t : S} (a : Gr s t) : Gx X s t := a.mono fun _ z => z.elim
theorem Gx.cut {X : Addr → Prop} {s t : S} (a : Gx X s t) (h : ∀ p, X p → s.hp p = none) : Gr s t := by
  refine ⟨a.ok, a.st, fun p o _ hb e => a.hp p o (fun z => ?_) hb e, a.bg, fun p _ e => a.fr p (fun z => ?_) e, a.al⟩
  · rw [h p z] at e
    cases e
  · exact e (h p z)
/-- what was changed is new since s0 -/
theorem Gr.gx {X : Addr → Prop} {s0 s t : S} (a : Gr s0 s) (b : Gx X s t) (h : ∀ p, X p → s0.hp p = none) : Gr s0 t :=
  (Gx.trans (Gx.of_gr (X := X) a) b).cut h

/-! ### what a value stands for -/
structure Rep (α : Type) where
  is : S → V → α → Prop
  fp : Addr → Prop
  up : ∀ {X : Addr → Prop} {s t : S} {v : V} {d : α}, Gx X s t → (∀ a, fp a → ¬ X a) → is s v d → is t v d
structure SRep (α : Type) where
  is : Hp → V → α → Prop
  up : ∀ {H H' : Hp} {v : V} {d : α}, Ex H H' → is H v d → is H' v d
abbrev SRep.r {α : Type} (r : SRep α) : Rep α := ⟨fun s => r.is s.st, fun _ => False, fun g _ h => r.up g.st h⟩
theorem Rep.u {α : Type} {r : Rep α} {s t : S} {v : V} {d : α} (g : Gr s t) (h : r.is s v d) : r.is t v d := r.up g (fun _ _ z => z) h
theorem Rep.ux {α : Type} {r : Rep α} {X : Addr → Prop} {s t : S} {v : V} {d : α} (g : Gx X s t) (hx : ∀ a, r.fp a → ¬ X a) (h : r.is s v d) : r.is t v d := r.up g hx h
theorem SRep.ux {α : Type} {r : SRep α} {X : Addr → Prop} {s t : S} {v : V} {d : α} (g : Gx X s t) (h : r.r.is s v d) : r.r.is t v d := r.up g.st h

def sI : SRep Int := ⟨fun _ v d => v = .int d, fun _ h => h⟩
def sB : SRep Bool := ⟨fun _ v d => v = .bl d, fun _ h => h⟩
def sU : SRep Unit := ⟨fun _ v _ => v = .non, fun _ h => h⟩
def sS : SRep Str := ⟨fun _ v d => v = .str d, fun _ h => h⟩
theorem Paired.up {α β : Type} {F G : α → β → Prop} (f : ∀ a b, F a b → G a b) {l : List α} {m : List β} (h : Paired F l m) : Paired G l m := Paired.mono f h
/-- a list of the run's own; a list that may be locked -/
def sL {α : Type} (r : SRep α) : SRep (List α) :=
  ⟨fun H v d => ∃ p xs, v = .ref p ∧ H p = some (.lst xs) ∧ Paired (r.is H) xs d, fun e h => by
    obtain ⟨p, xs, h1, h2, h3⟩ := h
    exact ⟨p, xs, h1, e _ _ h2, Paired.mono (fun _ _ => r.up e) h3⟩⟩
def sF (K : PySem.W.Frag) {α : Type} (r : SRep α) : SRep (List α) :=
  ⟨fun H v d => ∃ p xs, v = .ref p ∧ SqL K H p xs ∧ Paired (r.is H) xs d, fun e h => by
    obtain ⟨p, xs, h1, h2, h3⟩ := h
    exact ⟨p, xs, h1, ex_l e h2, Paired.mono (fun _ _ => r.up e) h3⟩⟩
def sT (K : PySem.W.Frag) {α : Type} (r : SRep α) : SRep (List α) :=
  ⟨fun H v d => ∃ p xs, v = .ref p ∧ SqT K H p xs ∧ Paired (r.is H) xs d, fun e h => by
    obtain ⟨p, xs, h1, h2, h3⟩ := h
    exact ⟨p, xs, h1, ex_t e h2, Paired.mono (fun _ _ => r.up e) h3⟩⟩
/-- a pair, a triple -/
def sP (K : PySem.W.Frag) {α β : Type} (r : SRep α) (q : SRep β) : SRep (α × β) :=
  ⟨fun H v d => ∃ p x y, v = .ref p ∧ SqT K H p [x, y] ∧ r.is H x d.1 ∧ q.is H y d.2, fun e h => by
    obtain ⟨p, x, y, h1, h2, h3, h4⟩ := h
    exact ⟨p, x, y, h1, ex_t e h2, r.up e h3, q.up e h4⟩⟩
def sP3 (K : PySem.W.Frag) {α β γ : Type} (r : SRep α) (q : SRep β) (z : SRep γ) : SRep (α × β × γ) :=
  ⟨fun H v d => ∃ p x y w, v = .ref p ∧ SqT K H p [x, y, w] ∧ r.is H x d.1 ∧ q.is H y d.2.1 ∧ z.is H w d.2.2, fun e h => by
    obtain ⟨p, x, y, w, h1, h2, h3, h4, h5⟩ := h
    exact ⟨p, x, y, w, h1, ex_t e h2, r.up e h3, q.up e h4, z.up e h5⟩⟩
/-- a drawing list -/
def rG : Rep Unit := ⟨fun s v _ => ∃ p, v = .ref p ∧ s.bg p, fun _ => False, fun g _ h => by
  obtain ⟨p, h1, h2⟩ := h
  exact ⟨p, h1, g.bg p h2⟩⟩
/-- a list of this def's own, made since s0 -/
def oL (s0 : S) {α : Type} (r : SRep α) (p : Addr) : Rep (List α) :=
  ⟨fun s v d => v = .ref p ∧ s0.hp p = none ∧ s.st p = none ∧ ¬ s.bg p ∧ ∃ xs, s.hp p = some (.lst xs) ∧ Paired (r.is s.st) xs d, fun a => a = p, fun {X s t v d} g hx h => by
    obtain ⟨h1, h2, h3, h4, xs, h5, h6⟩ := h
    have nx : ¬ X p := hx p rfl
    have ne : s.hp p ≠ none := by
      rw [h5]
      exact fun z => nomatch z
    exact ⟨h1, h2, (g.fr p nx ne).1 h3, fun z => h4 ((g.fr p nx ne).2 z), xs, g.hp p _ nx h4 h5, Paired.mono (fun _ _ => r.up g.st) h6⟩⟩

/-! ### the mirrors' monad -/
abbrev Exn := Str
abbrev M (ε α : Type) := (α → Prop) → (ε → Prop) → Prop
def ret {α : Type} (a : α) : M ε α := fun Q _ => Q a
def bd {α β : Type} (m : M ε α) (f : α → M ε β) : M ε β := fun Q E => m (fun a => f a Q E) E
def thr {α ε : Type} (e : ε) : M ε α := fun _ E => E e
def req (p : Prop) : M ε Unit := fun Q _ => p ∧ Q ()
def pick (n : Int) : M ε Int := fun Q _ => 0 < n ∧ ∀ r, 0 ≤ r → r < n → Q r
def ix {α : Type} (xs : List α) (i : Int) : M ε α := fun Q _ => ∃ v, atI xs i = some v ∧ Q v
def dv (a b : Int) : M ε Int := fun Q _ => (b ≠ 0 ∧ b.natAbs.log2 < 9000) ∧ Q (a.fdiv b)
def md (a b : Int) : M ε Int := fun Q _ => b ≠ 0 ∧ Q (a.fmod b)
def ml (a b : Int) : M ε Int := fun Q _ => CMulW a b ∧ Q (a * b)
def pw (a b : Int) : M ε Int := fun Q _ => CPow a b ∧ Q (a ^ b.toNat)
def put {α : Type} (xs : List α) (i : Int) (v : α) : M ε (List α) := fun Q _ => ∃ j, ixN xs.length i = some j ∧ Q (xs.set j v)
def app {α : Type} (xs : List α) (v : α) : M ε (List α) := fun Q _ => xs.length < 100000 ∧ Q (xs ++ [v])
def cat {α : Type} (xs ys : List α) : M ε (List α) := fun Q _ => xs.length + ys.length ≤ 100000 ∧ Q (xs ++ ys)
def rgs (a b : Int) : List Int := (List.range (b - a).toNat).map fun i => a + (i : Nat)
/-- range(a, b) that is walked -/
def rng (a b : Int) : M ε (List Int) := fun Q _ => (-(2 ^ 62) ≤ a ∧ a < 2 ^ 62 ∧ -(2 ^ 62) ≤ b ∧ b < 2 ^ 62) ∧ Q (rgs a b)
inductive Ctl (α β : Type) | nx (a : α) | rt (b : β)
def forS {α A : Type} (xs : List α) (a : A) (body : α → A → M ε A) : M ε A := match xs with
  | [] => ret a
  | x :: xs => bd (body x a) fun a' => forS xs a' body
def onC {A R γ : Type} (f : A → M ε γ) (g : R → M ε γ) : Ctl A R → M ε γ
  | .nx a => f a
  | .rt r => g r
def forC {α A R : Type} (xs : List α) (a : A) (body : α → A → M ε (Ctl A R)) : M ε (Ctl A R) := match xs with
  | [] => ret (.nx a)
  | x :: xs => bd (body x a) (onC (fun a' => forC xs a' body) fun r => ret (.rt r))
def whN {A : Type} (c : A → M ε Bool) (b : A → M ε A) : Nat → A → M ε A
  | 0, _ => fun _ _ => False
  | n + 1, a => bd (c a) fun t => if t = true then bd (b a) (whN c b n) else ret a
def wh {A : Type} (c : A → M ε Bool) (b : A → M ε A) (a : A) : M ε A := fun Q E => ∃ n, whN c b n a Q E
def mapM' {α β : Type} (f : α → M ε β) : List α → M ε (List β)
  | [] => ret []
  | x :: xs => bd (f x) fun y => bd (mapM' f xs) fun ys => ret (y :: ys)
def mapIf {α β : Type} (c : α → M ε Bool) (f : α → M ε β) : List α → M ε (List β)
  | [] => ret []
  | x :: xs => bd (c x) fun b => if b = true then bd (f x) fun y => bd (mapIf c f xs) fun ys => ret (y :: ys) else mapIf c f xs

/-! ### judgements -/
/-- how an exception is told: by its class's name -/
def cv (mg : Str → Option Value) (e : Exn) : Value := (mg e).getD .none
structure Cn (ε : Type) where
  s0 : S
  E : XK
  Em : ε → Prop
  cvf : ε → Value
  hE : ∀ e u, Em e → Gr s0 u → E (cvf e) none u.hp
def Ev (C : Cn ε) (te : TE) (σ : L2.St) (s : S) {α : Type} (r : Rep α) (m : M ε α) : Prop :=
  ∀ t, Gr s t → Gr C.s0 t → ∀ Qm, m Qm C.Em → ∀ Q : VK, (∀ d v u, Qm d → Gr t u → r.is u v d → Q v u.hp) → te σ t.hp Q
/-- a new list -/
def EvN (C : Cn ε) (te : TE) (σ : L2.St) (s : S) {α : Type} (r : SRep α) (m : M ε (List α)) : Prop :=
  ∀ t, Gr s t → Gr C.s0 t → ∀ Qm, m Qm C.Em → ∀ Q : VK, (∀ d p u, Qm d → Gr t u → t.hp p = none → (oL C.s0 r p).is u (.ref p) d → Q (.ref p) u.hp) → te σ t.hp Q
def EvT (C : Cn ε) (tt : TT) (σ : L2.St) (s : S) (m : M ε Bool) : Prop :=
  ∀ t, Gr s t → Gr C.s0 t → ∀ Qm, m Qm C.Em → ∀ Q : Bool → Hp → Prop, (∀ d u, Qm d → Gr t u → Q d u.hp) → tt σ t.hp Q
structure ARep (A : Type) where
  is : S → List V → A → Prop
  up : ∀ {s t : S} {vs : List V} {a : A}, Gr s t → is s vs a → is t vs a
def aN : ARep Unit := ⟨fun _ vs _ => vs = [], fun _ h => h⟩
def aC {α A : Type} (r : Rep α) (ar : ARep A) : ARep (α × A) := ⟨fun s vs a => ∃ v ws, vs = v :: ws ∧ r.is s v a.1 ∧ ar.is s ws a.2, fun g h => by
  obtain ⟨v, ws, h1, h2, h3⟩ := h
  exact ⟨v, ws, h1, Rep.u g h2, ar.up g h3⟩⟩
def EvA (C : Cn ε) (ta : TA) (σ : L2.St) (s : S) {A : Type} (ar : ARep A) (m : M ε A) : Prop :=
  ∀ t, Gr s t → Gr C.s0 t → ∀ Qm, m Qm C.Em → ∀ Q : List V → Hp → Prop, (∀ a vs u, Qm a → Gr t u → ar.is u vs a → Q vs u.hp) → ta σ t.hp Q
def noE : Empty → Prop := fun e => nomatch e
/-- a def's promise: it lets nothing out | it may raise -/
def sp0 {A β : Type} (ar : ARep A) (f : A → M Empty β) (rr : S → Rep β) : Sp := fun vs H Q _ =>
  ∃ s a Qm, s.hp = H ∧ Sok s ∧ ar.is s vs a ∧ f a Qm noE ∧ (∀ d v u, Qm d → Gr s u → (rr s).is u v d → Q v u.hp)
def spX (mg : Str → Option Value) {A β : Type} (ar : ARep A) (f : A → M Exn β) (rr : S → Rep β) : Sp := fun vs H Q E =>
  ∃ s a Qm Em, s.hp = H ∧ Sok s ∧ ar.is s vs a ∧ f a Qm Em ∧ (∀ d v u, Qm d → Gr s u → (rr s).is u v d → Q v u.hp) ∧ (∀ e u, Em e → Gr s u → E (cv mg e) none u.hp)
/-- a call of a def that lets nothing out -/
def lft {ε α : Type} (m : M Empty α) : M ε α := fun Q _ => m Q noE
/-- a list that is new behind s -/
def nL {α : Type} (r : SRep α) (s : S) : Rep (List α) := ⟨fun u v d => ∃ p, v = .ref p ∧ (oL s r p).is u v d, fun _ => True, fun {X s' t v d} g hx h => by
  obtain ⟨p, h1, h2⟩ := h
  exact ⟨p, h1, (oL s r p).up g (fun a _ => hx a trivial) h2⟩⟩

section
variable {ε : Type} {C : Cn ε} {K : PySem.W.Frag} {σ : L2.St} {s : S} {α β γ A : Type}
theorem Ev.mono {te : TE} {r : Rep α} {m : M ε α} {s' : S} (g : Gr s s') (h : Ev C te σ s r m) : Ev C te σ s' r m := fun t g' => h t (g.trans g')
theorem ev_var {i : Nat} {v : V} {r : Rep α} {d : α} (h : r.is s v d) (hi : σ[i]? = some (some v) := by rfl) : Ev C (tVar i) σ s r (ret d) := fun t g _ _ hm _ k => ⟨v, hi, k d v t hm (Gx.refl g.ok) (Rep.u g h)⟩
theorem ev_int {i : Int} : Ev C (tC (.int i)) σ s sI.r (ret i) := fun t g _ _ hm _ k => k i _ t hm (Gx.refl g.ok) rfl
theorem ev_bl {i : Bool} : Ev C (tC (.bl i)) σ s sB.r (ret i) := fun t g _ _ hm _ k => k i _ t hm (Gx.refl g.ok) rfl
theorem ev_str {i : Str} : Ev C (tC (.str i)) σ s sS.r (ret i) := fun t g _ _ hm _ k => k i _ t hm (Gx.refl g.ok) rfl
theorem ev_non : Ev C (tC .non) σ s sU.r (ret ()) := fun t g _ _ hm _ k => k () _ t hm (Gx.refl g.ok) rfl
/-- two operands -/
theorem ev_2 {r : R2} {ta tb : TE} {ra : SRep α} {rb : Rep β} {rc : Rep γ} {ma : M ε α} {mb : M ε β} {f : α → β → M ε γ} (ha : Ev C ta σ s ra.r ma) (hb : Ev C tb σ s rb mb)
    (hr : ∀ a b x y u, Gr C.s0 u → ra.is u.st x a → rb.is u y b → ∀ Qm, f a b Qm C.Em → ∀ Q : VK, (∀ d v w, Qm d → Gr u w → rc.is w v d → Q v w.hp) → r x y u.hp Q) :
    Ev C (tOp r ta tb) σ s rc (bd ma fun a => bd mb fun b => f a b) := fun t g g0 Qm hm Q k =>
  ha t g g0 _ hm _ fun a x u qa gu hx => hb u (g.trans gu) (g0.trans gu) _ qa _ fun b y w qb gw hy =>
    hr a b x y w ((g0.trans gu).trans gw) (ra.up gw.st hx) hy _ qb Q fun d v z qd gz hz => k d v z qd ((gu.trans gw).trans gz) hz
theorem ev_1 {r : V → Hp → VK → Prop} {ta : TE} {ra : Rep α} {rc : Rep γ} {ma : M ε α} {f : α → M ε γ} (ha : Ev C ta σ s ra ma)
    (hr : ∀ a x u, Gr C.s0 u → ra.is u x a → ∀ Qm, f a Qm C.Em → ∀ Q : VK, (∀ d v w, Qm d → Gr u w → rc.is w v d → Q v w.hp) → r x u.hp Q) :
    Ev C (tUn r ta) σ s rc (bd ma fun a => f a) := fun t g g0 Qm hm Q k =>
  ha t g g0 _ hm _ fun a x u qa gu hx => hr a x u (g0.trans gu) hx _ qa Q fun d v z qd gz hz => k d v z qd (gu.trans gz) hz
theorem ev_I0 {g : Int → Int → V} {f : Int → Int → γ} {r : SRep γ} {ta tb : TE} {ma mb : M ε Int} (hg : ∀ H i j, r.is H (g i j) (f i j)) (ha : Ev C ta σ s sI.r ma) (hb : Ev C tb σ s sI.r mb) :
    Ev C (tOp (rI0 g) ta tb) σ s r.r (bd ma fun a => bd mb fun b => ret (f a b)) := ev_2 ha hb fun a b x y u g0 hx hy Qm hm Q k => ⟨a, b, hx, hy, k _ _ u hm (Gx.refl g0.ok) (hg _ _ _)⟩
theorem ev_IC {P : Int → Int → Prop} {g : Int → Int → V} {f : Int → Int → γ} {r : SRep γ} {ta tb : TE} {ma mb : M ε Int} (hg : ∀ H i j, r.is H (g i j) (f i j)) (ha : Ev C ta σ s sI.r ma) (hb : Ev C tb σ s sI.r mb) :
    Ev C (tOp (rI P g) ta tb) σ s r.r (bd ma fun a => bd mb fun b => fun Q _ => P a b ∧ Q (f a b)) := ev_2 ha hb fun a b x y u g0 hx hy Qm hm Q k => ⟨a, b, hx, hy, hm.1, k _ _ u hm.2 (Gx.refl g0.ok) (hg _ _ _)⟩
variable {ta tb : TE} {ma mb : M ε Int}
theorem ev_add (ha : Ev C ta σ s sI.r ma) (hb : Ev C tb σ s sI.r mb) : Ev C (tOp (rI0 fun i j => .int (i + j)) ta tb) σ s sI.r (bd ma fun a => bd mb fun b => ret (a + b)) := ev_I0 (fun _ _ _ => rfl) ha hb
theorem ev_sub (ha : Ev C ta σ s sI.r ma) (hb : Ev C tb σ s sI.r mb) : Ev C (tOp (rI0 fun i j => .int (i - j)) ta tb) σ s sI.r (bd ma fun a => bd mb fun b => ret (a - b)) := ev_I0 (fun _ _ _ => rfl) ha hb
theorem ev_lt (ha : Ev C ta σ s sI.r ma) (hb : Ev C tb σ s sI.r mb) : Ev C (tOp (rI0 fun i j => .bl (decide (i < j))) ta tb) σ s sB.r (bd ma fun a => bd mb fun b => ret (decide (a < b))) := ev_I0 (fun _ _ _ => rfl) ha hb
theorem ev_le (ha : Ev C ta σ s sI.r ma) (hb : Ev C tb σ s sI.r mb) : Ev C (tOp (rI0 fun i j => .bl (decide (i ≤ j))) ta tb) σ s sB.r (bd ma fun a => bd mb fun b => ret (decide (a ≤ b))) := ev_I0 (fun _ _ _ => rfl) ha hb
theorem ev_gt (ha : Ev C ta σ s sI.r ma) (hb : Ev C tb σ s sI.r mb) : Ev C (tOp (rI0 fun i j => .bl (decide (j < i))) ta tb) σ s sB.r (bd ma fun a => bd mb fun b => ret (decide (b < a))) := ev_I0 (fun _ _ _ => rfl) ha hb
theorem ev_ge (ha : Ev C ta σ s sI.r ma) (hb : Ev C tb σ s sI.r mb) : Ev C (tOp (rI0 fun i j => .bl (decide (j ≤ i))) ta tb) σ s sB.r (bd ma fun a => bd mb fun b => ret (decide (b ≤ a))) := ev_I0 (fun _ _ _ => rfl) ha hb
theorem ev_mul (ha : Ev C ta σ s sI.r ma) (hb : Ev C tb σ s sI.r mb) : Ev C (tOp (rI CMulW fun i j => .int (i * j)) ta tb) σ s sI.r (bd ma fun a => bd mb fun b => ml a b) := ev_IC (fun _ _ _ => rfl) ha hb
theorem ev_pow (ha : Ev C ta σ s sI.r ma) (hb : Ev C tb σ s sI.r mb) : Ev C (tOp (rI CPow fun i j => .int (i ^ j.toNat)) ta tb) σ s sI.r (bd ma fun a => bd mb fun b => pw a b) := ev_IC (fun _ _ _ => rfl) ha hb
theorem ev_mod (ha : Ev C ta σ s sI.r ma) (hb : Ev C tb σ s sI.r mb) : Ev C (tOp (rI (fun _ j => j ≠ 0) fun i j => .int (i.fmod j)) ta tb) σ s sI.r (bd ma fun a => bd mb fun b => md a b) := ev_IC (fun _ _ _ => rfl) ha hb
/-- // by a divisor of any sign -/
def CDivG (_ j : Int) : Prop := j ≠ 0 ∧ j.natAbs.log2 < 9000
theorem op_fdivG {X : Cx} : OpR X (binaryOp .FloorDiv) (rI CDivG fun i j => .int (i.fdiv j)) := opI fun i j _ _ _ _ _ hc q => floordiv_int hc.1 q (.inl (PyProof.noPylong_of_log2 hc.2))
theorem ev_div (ha : Ev C ta σ s sI.r ma) (hb : Ev C tb σ s sI.r mb) : Ev C (tOp (rI CDivG fun i j => .int (i.fdiv j)) ta tb) σ s sI.r (bd ma fun a => bd mb fun b => dv a b) := ev_IC (fun _ _ _ => rfl) ha hb
theorem ev_neg (ha : Ev C ta σ s sI.r ma) : Ev C (tUn (rU fun i => .int (-i)) ta) σ s sI.r (bd ma fun a => ret (-a)) := ev_1 ha fun a x u g0 hx Qm hm Q k => ⟨a, hx, k _ _ u hm (Gx.refl g0.ok) rfl⟩
theorem ev_eqI (ha : Ev C ta σ s sI.r ma) (hb : Ev C tb σ s sI.r mb) : Ev C (tOp rEq ta tb) σ s sB.r (bd ma fun a => bd mb fun b => ret (decide (a = b))) := ev_2 ha hb fun a b x y u g0 hx hy Qm hm Q k => by
  cases (show x = .int a from hx)
  cases (show y = .int b from hy)
  exact ⟨rfl, k _ _ u hm (Gx.refl g0.ok) (by rw [dec_int, Bool.beq_eq_decide_eq]; rfl)⟩
theorem ev_neI (ha : Ev C ta σ s sI.r ma) (hb : Ev C tb σ s sI.r mb) : Ev C (tOp rNe ta tb) σ s sB.r (bd ma fun a => bd mb fun b => ret (!decide (a = b))) := ev_2 ha hb fun a b x y u g0 hx hy Qm hm Q k => by
  cases (show x = .int a from hx)
  cases (show y = .int b from hy)
  exact ⟨rfl, k _ _ u hm (Gx.refl g0.ok) (by rw [dec_int, Bool.beq_eq_decide_eq]; rfl)⟩
theorem ev_eqB {ma mb : M ε Bool} (ha : Ev C ta σ s sB.r ma) (hb : Ev C tb σ s sB.r mb) : Ev C (tOp rEq ta tb) σ s sB.r (bd ma fun a => bd mb fun b => ret (a == b)) := ev_2 ha hb fun a b x y u g0 hx hy Qm hm Q k => by
  cases (show x = .bl a from hx)
  cases (show y = .bl b from hy)
  exact ⟨rfl, k _ _ u hm (Gx.refl g0.ok) (by rw [dec_bl]; rfl)⟩
theorem ev_neB {ma mb : M ε Bool} (ha : Ev C ta σ s sB.r ma) (hb : Ev C tb σ s sB.r mb) : Ev C (tOp rNe ta tb) σ s sB.r (bd ma fun a => bd mb fun b => ret (!(a == b))) := ev_2 ha hb fun a b x y u g0 hx hy Qm hm Q k => by
  cases (show x = .bl a from hx)
  cases (show y = .bl b from hy)
  exact ⟨rfl, k _ _ u hm (Gx.refl g0.ok) (by rw [dec_bl]; rfl)⟩
/-! lists that are read -/
/-- a value that is read as a list (a tuple) of r's -/
structure RdL (K : PySem.W.Frag) (rp : Rep (List α)) (r : SRep α) : Prop where
  rd : ∀ {s v d}, Sok s → rp.is s v d → ∃ p xs, v = .ref p ∧ SqL K s.hp p xs ∧ Paired (r.is s.st) xs d
structure RdT (K : PySem.W.Frag) (rp : Rep (List α)) (r : SRep α) : Prop where
  rd : ∀ {s v d}, Sok s → rp.is s v d → ∃ p xs, v = .ref p ∧ SqT K s.hp p xs ∧ Paired (r.is s.st) xs d
theorem rd_st {r : SRep α} : RdL K (sL r).r r := ⟨fun ok h => by
  obtain ⟨p, xs, h1, h2, h3⟩ := h
  exact ⟨p, xs, h1, sqL_of (ok.sub _ _ h2), h3⟩⟩
theorem rd_scr {r : SRep α} : RdL K (sF K r).r r := ⟨fun ok h => by
  obtain ⟨p, xs, h1, h2, h3⟩ := h
  exact ⟨p, xs, h1, ex_l ok.sub h2, h3⟩⟩
/-- a list of the run's own, as it stands -/
structure RdS (rp : Rep (List α)) (r : SRep α) : Prop where
  rd : ∀ {s v d}, Sok s → rp.is s v d → ∃ p xs, v = .ref p ∧ s.hp p = some (.lst xs) ∧ Paired (r.is s.st) xs d
theorem rs_st {r : SRep α} : RdS (sL r).r r := ⟨fun ok h => by
  obtain ⟨p, xs, h1, h2, h3⟩ := h
  exact ⟨p, xs, h1, ok.sub _ _ h2, h3⟩⟩
theorem rs_own {r : SRep α} {s0 : S} {p : Addr} : RdS (oL s0 r p) r := ⟨fun _ h => by
  obtain ⟨h1, _, _, _, xs, h5, h6⟩ := h
  exact ⟨p, xs, h1, h5, h6⟩⟩
theorem rd_own {r : SRep α} {s0 : S} {p : Addr} : RdL K (oL s0 r p) r := ⟨fun _ h => by
  obtain ⟨h1, _, _, _, xs, h5, h6⟩ := h
  exact ⟨p, xs, h1, sqL_of h5, h6⟩⟩
theorem rd_tup {r : SRep α} : RdT K (sT K r).r r := ⟨fun ok h => by
  obtain ⟨p, xs, h1, h2, h3⟩ := h
  exact ⟨p, xs, h1, ex_t ok.sub h2, h3⟩⟩
theorem paired_get {F : V → α → Prop} : ∀ {xs : List V} {ds : List α}, Paired F xs ds → ∀ {i : Nat} {d : α}, ds[i]? = some d → ∃ x, xs[i]? = some x ∧ F x d
  | _, _, .nil, _, _, h => by simp at h
  | _, _, .cons f _, 0, _, h => by
    simp at h
    subst h
    exact ⟨_, rfl, f⟩
  | _, _, .cons _ t, i + 1, _, h => by
    simp at h
    obtain ⟨x, h1, h2⟩ := paired_get t h
    exact ⟨x, by simpa using h1, h2⟩
theorem paired_at {F : V → α → Prop} {xs : List V} {ds : List α} (h : Paired F xs ds) {i : Int} {d : α} (e : atI ds i = some d) : ∃ x, atI xs i = some x ∧ F x d := by
  unfold atI at e ⊢
  rw [h.length]
  cases q : ixN ds.length i with
  | none =>
    rw [q] at e
    cases e
  | some j =>
    rw [q] at e
    exact paired_get h e
theorem paired_set {F : V → α → Prop} {v : V} {d : α} (f : F v d) : ∀ {xs : List V} {ds : List α}, Paired F xs ds → ∀ (j : Nat), Paired F (xs.set j v) (ds.set j d)
  | _, _, .nil, _ => .nil
  | _, _, .cons _ t, 0 => .cons f t
  | _, _, .cons g t, j + 1 => .cons g (paired_set f t j)
theorem paired_app {F : V → α → Prop} : ∀ {xs ys : List V} {ds es : List α}, Paired F xs ds → Paired F ys es → Paired F (xs ++ ys) (ds ++ es)
  | _, _, _, _, .nil, h => h
  | _, _, _, _, .cons f t, h => .cons f (paired_app t h)
theorem ev_ixL {tl ti : TE} {rp : Rep (List α)} {r : SRep α} {ml' : M ε (List α)} {mi : M ε Int} (rd : RdL K rp r) (hl : Ev C tl σ s rp ml') (hi : Ev C ti σ s sI.r mi) :
    Ev C (tOp (rIxL K) tl ti) σ s r.r (bd ml' fun l => bd mi fun i => ix l i) := fun t g g0 Qm hm Q k =>
  hl t g g0 _ hm _ fun l x u ql gu hx => hi u (g.trans gu) (g0.trans gu) _ ql _ fun i y w qi gw hy => by
    obtain ⟨v, e, qv⟩ := qi
    obtain ⟨p, xs, e1, e2, e3⟩ := rd.rd gw.ok (Rep.u gw hx)
    obtain ⟨x', f1, f2⟩ := paired_at e3 e
    exact ⟨p, xs, i, x', e1, hy, e2, f1, k v x' w qv (gu.trans gw) f2⟩
theorem ev_ixT {tl ti : TE} {rp : Rep (List α)} {r : SRep α} {ml' : M ε (List α)} {mi : M ε Int} (rd : RdT K rp r) (hl : Ev C tl σ s rp ml') (hi : Ev C ti σ s sI.r mi) :
    Ev C (tOp (rIxT K) tl ti) σ s r.r (bd ml' fun l => bd mi fun i => ix l i) := fun t g g0 Qm hm Q k =>
  hl t g g0 _ hm _ fun l x u ql gu hx => hi u (g.trans gu) (g0.trans gu) _ ql _ fun i y w qi gw hy => by
    obtain ⟨v, e, qv⟩ := qi
    obtain ⟨p, xs, e1, e2, e3⟩ := rd.rd gw.ok (Rep.u gw hx)
    obtain ⟨x', f1, f2⟩ := paired_at e3 e
    exact ⟨p, xs, i, x', e1, hy, e2, f1, k v x' w qv (gu.trans gw) f2⟩
/-- a place of a pair -/
theorem ev_p0 {tl : TE} {r : SRep α} {q : SRep β} {m : M ε (α × β)} (hl : Ev C tl σ s (sP K r q).r m) : Ev C (tOp (rIxT K) tl (tC (.int 0))) σ s r.r (bd m fun d => ret d.1) := fun t g g0 Qm hm Q k =>
  hl t g g0 _ hm _ fun d x u qd gu hx => by
    obtain ⟨p, a, b, e1, e2, e3, e4⟩ := hx
    exact ⟨p, [a, b], 0, a, e1, rfl, ex_t gu.ok.sub e2, rfl, k _ _ u qd gu e3⟩
theorem ev_p1 {tl : TE} {r : SRep α} {q : SRep β} {m : M ε (α × β)} (hl : Ev C tl σ s (sP K r q).r m) : Ev C (tOp (rIxT K) tl (tC (.int 1))) σ s q.r (bd m fun d => ret d.2) := fun t g g0 Qm hm Q k =>
  hl t g g0 _ hm _ fun d x u qd gu hx => by
    obtain ⟨p, a, b, e1, e2, e3, e4⟩ := hx
    exact ⟨p, [a, b], 1, b, e1, rfl, ex_t gu.ok.sub e2, rfl, k _ _ u qd gu e4⟩
theorem ev_lenL {tl : TE} {rp : Rep (List α)} {r : SRep α} {m : M ε (List α)} (rd : RdL K rp r) (hl : Ev C tl σ s rp m) :
    Ev C (tCB (fun xs H Q => ∃ p ys, xs = [.ref p] ∧ (SqL K H p ys ∨ SqT K H p ys) ∧ Q (.int ys.length) H) (tCons tl tNil)) σ s sI.r (bd m fun l => ret (l.length : Int)) := fun t g g0 Qm hm Q k =>
  hl t g g0 _ hm _ fun l x u ql gu hx => by
    obtain ⟨p, xs, e1, e2, e3⟩ := rd.rd gu.ok hx
    refine ⟨p, xs, by rw [e1], .inl e2, ?_⟩
    rw [e3.length]
    exact k _ _ u ql gu rfl
theorem ev_lenT {tl : TE} {rp : Rep (List α)} {r : SRep α} {m : M ε (List α)} (rd : RdT K rp r) (hl : Ev C tl σ s rp m) :
    Ev C (tCB (fun xs H Q => ∃ p ys, xs = [.ref p] ∧ (SqL K H p ys ∨ SqT K H p ys) ∧ Q (.int ys.length) H) (tCons tl tNil)) σ s sI.r (bd m fun l => ret (l.length : Int)) := fun t g g0 Qm hm Q k =>
  hl t g g0 _ hm _ fun l x u ql gu hx => by
    obtain ⟨p, xs, e1, e2, e3⟩ := rd.rd gu.ok hx
    refine ⟨p, xs, by rw [e1], .inr e2, ?_⟩
    rw [e3.length]
    exact k _ _ u ql gu rfl
/-! tests -/
theorem et_test {te : TE} {m : M ε Bool} (h : Ev C te σ s sB.r m) : EvT C (tTest te) σ s m := fun t g g0 Qm hm Q k => h t g g0 Qm hm _ fun d v u qd gu hv => ⟨d, hv, k d u qd gu⟩
theorem et_B {te : TE} {m : M ε Bool} (h : Ev C te σ s sB.r m) : EvT C (tB te) σ s m := fun t g g0 Qm hm Q k => h t g g0 Qm hm _ fun d v u qd gu hv => ⟨d, hv, k d u qd gu⟩
theorem et_and {t1 t2 : TT} {m1 m2 : M ε Bool} (h1 : EvT C t1 σ s m1) (h2 : EvT C t2 σ s m2) : EvT C (tAnd t1 t2) σ s (bd m1 fun b => if b = true then m2 else ret false) := fun t g g0 Qm hm Q k =>
  h1 t g g0 _ hm _ fun b u qb gu => by
    cases b with
    | true => exact h2 u (g.trans gu) (g0.trans gu) _ qb _ fun d w qd gw => k d w qd (gu.trans gw)
    | false => exact k _ u qb gu
theorem et_or {t1 t2 : TT} {m1 m2 : M ε Bool} (h1 : EvT C t1 σ s m1) (h2 : EvT C t2 σ s m2) : EvT C (tOr t1 t2) σ s (bd m1 fun b => if b = true then ret true else m2) := fun t g g0 Qm hm Q k =>
  h1 t g g0 _ hm _ fun b u qb gu => by
    cases b with
    | false => exact h2 u (g.trans gu) (g0.trans gu) _ qb _ fun d w qd gw => k d w qd (gu.trans gw)
    | true => exact k _ u qb gu
theorem et_not {t1 : TT} {m1 : M ε Bool} (h1 : EvT C t1 σ s m1) : EvT C (tNot t1) σ s (bd m1 fun b => ret (!b)) := fun t g g0 Qm hm Q k =>
  h1 t g g0 _ hm _ fun b u qb gu => k _ u qb gu
theorem ev_andV {t1 t2 : TE} {m1 m2 : M ε Bool} (h1 : Ev C t1 σ s sB.r m1) (h2 : Ev C t2 σ s sB.r m2) : Ev C (tAndV t1 t2) σ s sB.r (bd m1 fun b => if b = true then m2 else ret false) := fun t g g0 Qm hm Q k =>
  h1 t g g0 _ hm _ fun b x u qb gu hx => ⟨b, hx, by
    cases b with
    | true => exact h2 u (g.trans gu) (g0.trans gu) _ qb _ fun d v w qd gw => k d v w qd (gu.trans gw)
    | false => exact k _ _ u qb gu rfl⟩
theorem ev_orV {t1 t2 : TE} {m1 m2 : M ε Bool} (h1 : Ev C t1 σ s sB.r m1) (h2 : Ev C t2 σ s sB.r m2) : Ev C (tOrV t1 t2) σ s sB.r (bd m1 fun b => if b = true then ret true else m2) := fun t g g0 Qm hm Q k =>
  h1 t g g0 _ hm _ fun b x u qb gu hx => ⟨b, hx, by
    cases b with
    | false => exact h2 u (g.trans gu) (g0.trans gu) _ qb _ fun d v w qd gw => k d v w qd (gu.trans gw)
    | true => exact k _ _ u qb gu rfl⟩
theorem ev_notV {t1 : TE} {m1 : M ε Bool} (h1 : Ev C t1 σ s sB.r m1) : Ev C (tNotV t1) σ s sB.r (bd m1 fun b => ret (!b)) := fun t g g0 Qm hm Q k =>
  h1 t g g0 _ hm _ fun b x u qb gu hx => ⟨b, hx, k _ _ u qb gu rfl⟩
theorem ev_if {tt : TT} {t1 t2 : TE} {r : Rep α} {m : M ε Bool} {m1 m2 : M ε α} (h : EvT C tt σ s m) (h1 : Ev C t1 σ s r m1) (h2 : Ev C t2 σ s r m2) : Ev C (tIf tt t1 t2) σ s r (bd m fun b => if b = true then m1 else m2) := fun t g g0 Qm hm Q k =>
  h t g g0 _ hm _ fun b u qb gu => by
    cases b with
    | true => exact h1 u (g.trans gu) (g0.trans gu) _ qb _ fun d v w qd gw => k d v w qd (gu.trans gw)
    | false => exact h2 u (g.trans gu) (g0.trans gu) _ qb _ fun d v w qd gw => k d v w qd (gu.trans gw)
/-! arguments, calls -/
theorem ea_nil : EvA C tNil σ s aN (ret ()) := fun t g _ _ hm _ k => k () [] t hm (Gx.refl g.ok) rfl
theorem ea_cons {te : TE} {tr : TA} {r : Rep α} {ar : ARep A} {m : M ε α} {ms : M ε A} (h : Ev C te σ s r m) (hr : EvA C tr σ s ar ms) : EvA C (tCons te tr) σ s (aC r ar) (bd m fun a => bd ms fun as => ret (a, as)) := fun t g g0 Qm hm Q k =>
  h t g g0 _ hm _ fun a x u qa gu hx => hr u (g.trans gu) (g0.trans gu) _ qa _ fun as xs w qs gw hs => k (a, as) (x :: xs) w qs (gu.trans gw) ⟨x, xs, rfl, Rep.u gw hx, hs⟩
theorem ev_call {ta : TA} {ar : ARep A} {ma : M ε A} {f : A → M Empty β} {rr : Rep β} (h : EvA C ta σ s ar ma) : Ev C (tCall (sp0 ar f fun _ => rr) [] E0 ta) σ s rr (bd ma fun a => lft (f a)) := fun t g g0 Qm hm Q k =>
  h t g g0 _ hm _ fun a vs u qa gu hv => ⟨u, a, Qm, rfl, gu.ok, by rw [List.append_nil]; exact hv, qa, fun d v w qd gw hw => k d v w qd (gu.trans gw) hw⟩
theorem oL_base {s0 s1 : S} {r : SRep α} {p : Addr} {u : S} {v : V} {d : List α} (g : Gr s0 s1) (h : (oL s1 r p).is u v d) : (oL s0 r p).is u v d := by
  obtain ⟨h1, h2, h3⟩ := h
  refine ⟨h1, ?_, h3⟩
  cases q : s0.hp p with
  | none => rfl
  | some o => exact absurd h2 (g.al p (by rw [q]; exact fun z => nomatch z))
theorem evn_call {ta : TA} {ar : ARep A} {ma : M ε A} {f : A → M Empty (List β)} {r : SRep β} (h : EvA C ta σ s ar ma) : EvN C (tCall (sp0 ar f fun z => nL r z) [] E0 ta) σ s r (bd ma fun a => lft (f a)) := fun t g g0 Qm hm Q k =>
  h t g g0 _ hm _ fun a vs u qa gu hv => ⟨u, a, Qm, rfl, gu.ok, by rw [List.append_nil]; exact hv, qa, fun d v w qd gw hw => by
    obtain ⟨p, rfl, h1⟩ := hw
    have h2 := h1.2.1
    have h3 : t.hp p = none := by
      cases q : t.hp p with
      | none => rfl
      | some o => exact absurd h2 (gu.al p (by rw [q]; exact fun z => nomatch z))
    exact k d p w qd (gu.trans gw) h3 (oL_base (g0.trans gu) h1)⟩
/-- a new list that nobody changes any more -/
def frz (s : S) (p : Addr) (xs : List V) : S := ⟨upd s.st p (.lst xs), s.hp, s.bg⟩
theorem frz_gx {p : Addr} {xs : List V} (ok : Sok s) (h1 : s.st p = none) (h2 : ¬ s.bg p) (h3 : s.hp p = some (.lst xs)) : Gx (fun a => a = p) s (frz s p xs) where
  ok := ⟨fun a o e => by
      by_cases h : a = p
      · subst h
        have e' : upd s.st a (.lst xs) a = some o := e
        rw [upd_same] at e'
        cases e'
        exact h3
      · have e' : upd s.st p (.lst xs) a = some o := e
        rw [upd_ne h] at e'
        exact ok.sub a o e', fun a e => by
      have hne : a ≠ p := fun z => h2 (z ▸ e)
      refine ⟨?_, (ok.bag a e).2⟩
      show upd s.st p (.lst xs) a = none
      rw [upd_ne hne]
      exact (ok.bag a e).1⟩
  st := Ex.new h1
  hp := fun _ _ _ _ e => e
  bg := fun _ e => e
  fr := fun a hx _ => ⟨fun z => by
    show upd s.st p (.lst xs) a = none
    rw [upd_ne hx]
    exact z, fun z => z⟩
  al := fun _ e => e
theorem evn_ev {te : TE} {r : SRep α} {m : M ε (List α)} (h : EvN C te σ s r m) : Ev C te σ s (sL r).r m := fun t g g0 Qm hm Q k =>
  h t g g0 _ hm _ fun d p u qd gu hp ho => by
    obtain ⟨_, h2, h3, h4, xs, h5, h6⟩ := ho
    have gf := frz_gx gu.ok h3 h4 h5
    refine k d (.ref p) (frz u p xs) qd (Gr.gx gu gf (fun q e => ?_)) ⟨p, xs, rfl, upd_same, Paired.mono (fun _ _ => r.up gf.st) h6⟩
    cases e
    exact hp
end
end Y

namespace Y
open PySem PySem.Spec PyProof.Rows L2
section
variable {ε : Type} {C : Cn ε} {K : PySem.W.Frag} {σ : L2.St} {s : S} {α β γ A R : Type} {D : Ends}
/-! ### new objects -/
def mk (s : S) (p : Addr) (o : HO) : S := ⟨upd s.st p o, upd s.hp p o, s.bg⟩
/-- a new object that nobody changes -/
theorem mk_gr {p : Addr} {o : HO} (ok : Sok s) (h : s.hp p = none) : Gr s (mk s p o) where
  ok := ⟨fun a u e => by
    by_cases hh : a = p
    · subst hh
      have e' : upd s.st a o a = some u := e
      rw [upd_same] at e'
      cases e'
      exact upd_same
    · have e' : upd s.st p o a = some u := e
      rw [upd_ne hh] at e'
      show upd s.hp p o a = some u
      rw [upd_ne hh]
      exact ok.sub a u e', fun a e => by
    obtain ⟨e1, i, j, e2⟩ := ok.bag a e
    have hne : a ≠ p := fun z => by
      rw [z, h] at e2
      cases e2
    refine ⟨?_, i, j, ?_⟩
    · show upd s.st p o a = none
      rw [upd_ne hne]
      exact e1
    · show upd s.hp p o a = _
      rw [upd_ne hne]
      exact e2⟩
  st := Ex.new (by
    cases q : s.st p with
    | none => rfl
    | some u => rw [ok.sub p u q] at h; cases h)
  hp := fun a u _ _ e => Ex.new h a u e
  bg := fun _ e => e
  fr := fun a _ e => ⟨fun z => by
    show upd s.st p o a = none
    rw [upd_ne (fun z => e (by rw [z]; exact h))]
    exact z, fun z => z⟩
  al := fun a e => by
    show upd s.hp p o a ≠ none
    by_cases hh : a = p
    · subst hh
      rw [upd_same]
      exact fun z => nomatch z
    · rw [upd_ne hh]
      exact e
theorem mk_st {p : Addr} {o : HO} : (mk s p o).st p = some o := upd_same
theorem st_none {p : Addr} (ok : Sok s) (h : s.hp p = none) : s.st p = none := by
  cases q : s.st p with
  | none => rfl
  | some u => rw [ok.sub p u q] at h; cases h
theorem bg_not {p : Addr} (ok : Sok s) (h : s.hp p = none) : ¬ s.bg p := fun z => by
  obtain ⟨_, i, j, e⟩ := ok.bag p z
  rw [h] at e
  cases e
/-- a new object of one's own | one's own object changed -/
def wr (s : S) (p : Addr) (o : HO) : S := ⟨s.st, upd s.hp p o, s.bg⟩
theorem wr_gx {p : Addr} {o : HO} (ok : Sok s) (h : s.st p = none) (hb : ¬ s.bg p) : Gx (fun a => a = p) s (wr s p o) where
  ok := ⟨fun a u e => by
    have hne : a ≠ p := fun z => by
      have e' : s.st a = some u := e
      rw [z, h] at e'
      cases e'
    show upd s.hp p o a = some u
    rw [upd_ne hne]
    exact ok.sub a u e, fun a e => by
    obtain ⟨e1, i, j, e2⟩ := ok.bag a e
    have hne : a ≠ p := fun z => hb (z ▸ e)
    refine ⟨e1, i, j, ?_⟩
    show upd s.hp p o a = _
    rw [upd_ne hne]
    exact e2⟩
  st := Ex.refl _
  hp := fun a u hx _ e => by
    show upd s.hp p o a = some u
    rw [upd_ne hx]
    exact e
  bg := fun _ e => e
  fr := fun _ _ _ => ⟨fun z => z, fun z => z⟩
  al := fun a e => by
    show upd s.hp p o a ≠ none
    by_cases hh : a = p
    · subst hh
      rw [upd_same]
      exact fun z => nomatch z
    · rw [upd_ne hh]
      exact e
theorem new_gr {p : Addr} {o : HO} (ok : Sok s) (h : s.hp p = none) : Gr s (wr s p o) := (wr_gx ok (st_none ok h) (bg_not ok h)).cut fun a e => by
  cases e
  exact h
theorem new_own {s0 : S} {r : SRep α} {p : Addr} {xs : List V} {ds : List α} (G : Gr s0 s) (h : s.hp p = none) (hp : Paired (r.is s.st) xs ds) : (oL s0 r p).is (wr s p (.lst xs)) (.ref p) ds := by
  refine ⟨rfl, ?_, st_none (s := s) G.ok h, bg_not (s := s) G.ok h, xs, upd_same, hp⟩
  cases q : s0.hp p with
  | none => rfl
  | some o => exact absurd h (G.al p (by rw [q]; exact fun z => nomatch z))
theorem oL_ne {s0 : S} {r : SRep α} {p q : Addr} {v : V} {d : List α} (h : (oL s0 r p).is s v d) (hq : s.hp q = none) : p ≠ q := fun z => by
  obtain ⟨_, _, _, _, xs, e, _⟩ := h
  rw [z, hq] at e
  cases e
/-- one's own list changed -/
theorem own_wr {s0 : S} {r : SRep α} {p : Addr} {v : V} {d e : List α} {xs : List V} (G : Gr s0 s) (h : (oL s0 r p).is s v d) (hp : Paired (r.is s.st) xs e) :
    (oL s0 r p).is (wr s p (.lst xs)) v e ∧ Gr s0 (wr s p (.lst xs)) ∧ Gx (fun a => a = p) s (wr s p (.lst xs)) := by
  obtain ⟨h1, h2, h3, h4, ys, h5, h6⟩ := h
  have g := wr_gx (o := .lst xs) G.ok h3 h4
  refine ⟨⟨h1, h2, h3, h4, xs, upd_same, hp⟩, Gr.gx G g fun a e => ?_, g⟩
  cases e
  exact h2
/-- one's own list kept as it is from now on -/
theorem own_frz {s0 : S} {r : SRep α} {p : Addr} {v : V} {d : List α} (G : Gr s0 s) (h : (oL s0 r p).is s v d) :
    ∃ t, t.hp = s.hp ∧ Gr s0 t ∧ Gx (fun a => a = p) s t ∧ (sL r).r.is t v d := by
  obtain ⟨h1, h2, h3, h4, xs, h5, h6⟩ := h
  have g := frz_gx G.ok h3 h4 h5
  refine ⟨frz s p xs, rfl, Gr.gx G g fun a e => ?_, g, p, xs, h1, upd_same, Paired.mono (fun _ _ => r.up g.st) h6⟩
  cases e
  exact h2

/-! ### a look at one's own list as at any other -/
def Dry (r : SRep α) : Prop := ∀ H H' v d, r.is H v d → r.is H' v d
theorem dry_I : Dry sI := fun _ _ _ _ h => h
theorem dry_B : Dry sB := fun _ _ _ _ h => h
theorem dry_U : Dry sU := fun _ _ _ _ h => h
theorem dry_S : Dry sS := fun _ _ _ _ h => h
def unf (u : S) (p : Addr) : S := ⟨fun a => if a = p then none else u.st a, u.hp, u.bg⟩
theorem unf_ne {u : S} {p a : Addr} (h : a ≠ p) : (unf u p).st a = u.st a := by
  show (if a = p then none else u.st a) = u.st a
  rw [if_neg h]
theorem unf_same {u : S} {p : Addr} : (unf u p).st p = none := by
  show (if p = p then none else u.st p) = none
  rw [if_pos rfl]
theorem unf_gr {t u : S} {p : Addr} {xs : List V} (h : t.st p = none) (g : Gr (frz t p xs) u) : Gr t (unf u p) where
  ok := ⟨fun a o e => by
    by_cases hh : a = p
    · rw [hh, unf_same] at e
      cases e
    · rw [unf_ne hh] at e
      exact g.ok.sub a o e, fun a e => by
    refine ⟨?_, (g.ok.bag a e).2⟩
    by_cases hh : a = p
    · rw [hh, unf_same]
    · rw [unf_ne hh]
      exact (g.ok.bag a e).1⟩
  st := fun a o e => by
    have hh : a ≠ p := fun z => by
      rw [z, h] at e
      cases e
    rw [unf_ne hh]
    refine g.st a o ?_
    show upd t.st p (.lst xs) a = some o
    rw [upd_ne hh]
    exact e
  hp := g.hp
  bg := g.bg
  fr := fun a hx e => ⟨fun z => by
    by_cases hh : a = p
    · rw [hh, unf_same]
    · rw [unf_ne hh]
      refine (g.fr a hx e).1 ?_
      show upd t.st p (.lst xs) a = none
      rw [upd_ne hh]
      exact z, (g.fr a hx e).2⟩
  al := g.al
theorem frz_lift {t : S} {s0 : S} {r : SRep α} {p : Addr} {v : V} {d : List α} {xs : List V} (g : Gr s t) (h : (oL s0 r p).is s v d) (hx : s.hp p = some (.lst xs)) : Gr (frz s p xs) (frz t p xs) := by
  obtain ⟨h1, h2, h3, h4, ys, h5, h6⟩ := h
  rw [hx] at h5
  cases h5
  have ne : s.hp p ≠ none := by rw [hx]; exact fun z => nomatch z
  have t5 := g.hp p _ (fun z => z) h4 hx
  have t3 := (g.fr p (fun z => z) ne).1 h3
  have t4 : ¬ t.bg p := fun z => h4 ((g.fr p (fun z => z) ne).2 z)
  have gf := frz_gx g.ok t3 t4 t5
  refine ⟨gf.ok, fun a o e => ?_, g.hp, g.bg, fun a hx e => ⟨fun z => ?_, (g.fr a hx e).2⟩, g.al⟩
  · by_cases hh : a = p
    · subst hh
      have e' : upd s.st a (.lst xs) a = some o := e
      rw [upd_same] at e'
      show upd t.st a (.lst xs) a = some o
      rw [upd_same]
      exact e'
    · have e' : upd s.st p (.lst xs) a = some o := e
      rw [upd_ne hh] at e'
      show upd t.st p (.lst xs) a = some o
      rw [upd_ne hh]
      exact g.st a o e'
  · by_cases hh : a = p
    · subst hh
      have z' : upd s.st a (.lst xs) a = none := z
      rw [upd_same] at z'
      cases z'
    · have z' : upd s.st p (.lst xs) a = none := z
      rw [upd_ne hh] at z'
      show upd t.st p (.lst xs) a = none
      rw [upd_ne hh]
      exact (g.fr a hx e).1 z'
/-- an expression that looks at the list p of one's own as at any other -/
theorem ev_frz {te : TE} {q : SRep α} {p : Addr} {v : V} {d : List α} {r : SRep β} {m : M ε β} (G : Gr C.s0 s) (hr : Dry r) (ho : (oL C.s0 q p).is s v d)
    (h : ∀ t, t.hp = s.hp → Gr C.s0 t → Gx (fun a => a = p) s t → (sL q).r.is t v d → Ev C te σ t r.r m) : Ev C te σ s r.r m := fun t g g0 Qm hm Q k => by
  have ho' := ho
  obtain ⟨h1, h2, h3, h4, xs, h5, h6⟩ := ho'
  have ne : s.hp p ≠ none := by rw [h5]; exact fun z => nomatch z
  have gf := frz_gx G.ok h3 h4 h5
  have G1 : Gr C.s0 (frz s p xs) := Gr.gx G gf fun a e => by
    cases e
    exact h2
  have gl := frz_lift g ho h5
  have t3 := (g.fr p (fun z => z) ne).1 h3
  refine h (frz s p xs) rfl G1 gf ⟨p, xs, h1, upd_same, Paired.mono (fun _ _ => q.up gf.st) h6⟩ (frz t p xs) gl (G1.trans gl) _ hm _ fun d' v' u qd gu hv => ?_
  exact k d' v' (unf u p) qd (unf_gr t3 gu) (hr _ _ _ _ hv)
theorem evn_frz {te : TE} {q : SRep α} {p : Addr} {v : V} {d : List α} {r : SRep β} {m : M ε (List β)} (G : Gr C.s0 s) (hr : Dry r) (ho : (oL C.s0 q p).is s v d)
    (h : ∀ t, t.hp = s.hp → Gr C.s0 t → Gx (fun a => a = p) s t → (sL q).r.is t v d → EvN C te σ t r m) : EvN C te σ s r m := fun t g g0 Qm hm Q k => by
  have ho' := ho
  obtain ⟨h1, h2, h3, h4, xs, h5, h6⟩ := ho'
  have ne : s.hp p ≠ none := by rw [h5]; exact fun z => nomatch z
  have gf := frz_gx G.ok h3 h4 h5
  have G1 : Gr C.s0 (frz s p xs) := Gr.gx G gf fun a e => by
    cases e
    exact h2
  have gl := frz_lift g ho h5
  have t3 := (g.fr p (fun z => z) ne).1 h3
  refine h (frz s p xs) rfl G1 gf ⟨p, xs, h1, upd_same, Paired.mono (fun _ _ => q.up gf.st) h6⟩ (frz t p xs) gl (G1.trans gl) _ hm _ fun d' p' u qd gu hp hv => ?_
  obtain ⟨e1, e2, e3, e4, ys, e5, e6⟩ := hv
  refine k d' p' (unf u p) qd (unf_gr t3 gu) hp ⟨e1, e2, ?_, e4, ys, e5, Paired.mono (fun _ _ => hr _ _ _ _) e6⟩
  by_cases hh : p' = p
  · rw [hh]
    exact unf_same
  · rw [unf_ne hh]
    exact e3
/-! ### displays, list(..), tuple(..), + and * of lists -/
def EvLs (C : Cn ε) (ta : TA) (σ : L2.St) (s : S) {α : Type} (r : SRep α) (m : M ε (List α)) (n : Nat) : Prop :=
  ∀ t, Gr s t → Gr C.s0 t → ∀ Qm, m Qm C.Em → ∀ Q : List V → Hp → Prop, (∀ ds vs u, Qm ds → Gr t u → ds.length = n → Paired (r.is u.st) vs ds → Q vs u.hp) → ta σ t.hp Q
theorem el_nil {r : SRep α} : EvLs C tNil σ s r (ret []) 0 := fun t g _ _ hm _ k => k [] [] t hm (Gx.refl g.ok) rfl .nil
theorem el_cons {te : TE} {tr : TA} {r : SRep α} {m : M ε α} {ms : M ε (List α)} {n : Nat} (h : Ev C te σ s r.r m) (hr : EvLs C tr σ s r ms n) : EvLs C (tCons te tr) σ s r (bd m fun a => bd ms fun as => ret (a :: as)) (n + 1) := fun t g g0 Qm hm Q k =>
  h t g g0 _ hm _ fun a x u qa gu hx => hr u (g.trans gu) (g0.trans gu) _ qa _ fun as xs w qs gw hl hs => k (a :: as) (x :: xs) w qs (gu.trans gw) (by rw [List.length_cons, hl]) (.cons (r.up gw.st hx) hs)
theorem sizeLine_100000 {n : Nat} (h : n ≤ 100000) : n ≤ sizeLine := Nat.le_trans h (by decide)
theorem evn_lst {ta : TA} {r : SRep α} {m : M ε (List α)} {n : Nat} (h : EvLs C ta σ s r m n) (hn : n ≤ 100000) : EvN C (tLst ta) σ s r m := fun t g g0 Qm hm Q k =>
  h t g g0 _ hm _ fun ds vs u qd gu hl hp => ⟨by rw [hp.length, hl]; exact sizeLine_100000 hn, fun p hp0 =>
    k ds p (wr u p (.lst vs)) qd (gu.trans (new_gr gu.ok hp0)) (by
      cases q : t.hp p with
      | none => rfl
      | some o => exact absurd hp0 (gu.al p (by rw [q]; exact fun z => nomatch z))) (new_own (g0.trans gu) hp0 hp)⟩
theorem ev_lst {ta : TA} {r : SRep α} {m : M ε (List α)} {n : Nat} (h : EvLs C ta σ s r m n) (hn : n ≤ 100000) : Ev C (tLst ta) σ s (sL r).r m := evn_ev (evn_lst h hn)
theorem mk_tup {p : Addr} {xs : List V} : SqT K (mk s p (.tup xs)).st p xs := sqT_of mk_st
theorem ev_tup {ta : TA} {r : SRep α} {m : M ε (List α)} {n : Nat} (h : EvLs C ta σ s r m n) (hn : n ≤ 100000) : Ev C (tTup ta) σ s (sT K r).r m := fun t g g0 Qm hm Q k =>
  h t g g0 _ hm _ fun ds vs u qd gu hl hp => ⟨by rw [hp.length, hl]; exact sizeLine_100000 hn, fun p hp0 => by
    have gm := mk_gr (o := .tup vs) gu.ok hp0
    exact k ds (.ref p) (mk u p (.tup vs)) qd (gu.trans gm) ⟨p, vs, rfl, mk_tup, Paired.mono (fun _ _ => r.up gm.st) hp⟩⟩
theorem ev_pair {t1 t2 : TE} {r : SRep α} {q : SRep β} {m1 : M ε α} {m2 : M ε β} (h1 : Ev C t1 σ s r.r m1) (h2 : Ev C t2 σ s q.r m2) : Ev C (tTup (tCons t1 (tCons t2 tNil))) σ s (sP K r q).r (bd m1 fun a => bd m2 fun b => ret (a, b)) := fun t g g0 Qm hm Q k =>
  h1 t g g0 _ hm _ fun a x u qa gu hx => h2 u (g.trans gu) (g0.trans gu) _ qa _ fun b y w qb gw hy => ⟨by show 2 ≤ sizeLine; decide, fun p hp0 => by
    have gm := mk_gr (o := .tup [x, y]) gw.ok hp0
    exact k (a, b) (.ref p) (mk w p (.tup [x, y])) qb ((gu.trans gw).trans gm) ⟨p, x, y, rfl, mk_tup, r.up (Ex.trans gw.st gm.st) hx, q.up gm.st hy⟩⟩
theorem ev_trip {t1 t2 t3 : TE} {r : SRep α} {q : SRep β} {z : SRep γ} {m1 : M ε α} {m2 : M ε β} {m3 : M ε γ} (h1 : Ev C t1 σ s r.r m1) (h2 : Ev C t2 σ s q.r m2) (h3 : Ev C t3 σ s z.r m3) : Ev C (tTup (tCons t1 (tCons t2 (tCons t3 tNil)))) σ s (sP3 K r q z).r (bd m1 fun a => bd m2 fun b => bd m3 fun c => ret (a, b, c)) := fun t g g0 Qm hm Q k =>
  h1 t g g0 _ hm _ fun a x u qa gu hx => h2 u (g.trans gu) (g0.trans gu) _ qa _ fun b y w qb gw hy => h3 w ((g.trans gu).trans gw) ((g0.trans gu).trans gw) _ qb _ fun c y3 w3 qc gw3 hy3 => ⟨by show 3 ≤ sizeLine; decide, fun p hp0 => by
    have gm := mk_gr (o := .tup [x, y, y3]) gw3.ok hp0
    exact k (a, b, c) (.ref p) (mk w3 p (.tup [x, y, y3])) qc (((gu.trans gw).trans gw3).trans gm) ⟨p, x, y, y3, rfl, mk_tup, r.up (Ex.trans (Ex.trans gw.st gw3.st) gm.st) hx, q.up (Ex.trans gw3.st gm.st) hy, z.up gm.st hy3⟩⟩
theorem hp_back {t u : S} {p : Addr} (g : Gr t u) (h : u.hp p = none) : t.hp p = none := by
  cases q : t.hp p with
  | none => rfl
  | some o => exact absurd h (g.al p (by rw [q]; exact fun z => nomatch z))
abbrev rListOf (K : PySem.W.Frag) : List V → Hp → VK → Prop := fun xs H Q => ∃ p ys, xs = [.ref p] ∧ (SqL K H p ys ∨ SqT K H p ys) ∧ ∀ l, H l = none → Q (.ref l) (upd H l (.lst ys))
abbrev rTupleOf (K : PySem.W.Frag) : List V → Hp → VK → Prop := fun xs H Q => ∃ p ys, xs = [.ref p] ∧ ((SqL K H p ys ∧ ∀ l, H l = none → Q (.ref l) (upd H l (.tup ys))) ∨ (SqT K H p ys ∧ Q (.ref p) H))
theorem evn_listL {tl : TE} {rp : Rep (List α)} {r : SRep α} {m : M ε (List α)} (rd : RdL K rp r) (h : Ev C tl σ s rp m) : EvN C (tCB (rListOf K) (tCons tl tNil)) σ s r m := fun t g g0 Qm hm Q k =>
  h t g g0 _ hm _ fun d x u qd gu hx => by
    obtain ⟨p, xs, e1, e2, e3⟩ := rd.rd gu.ok hx
    exact ⟨p, xs, by rw [e1], .inl e2, fun l hl => k d l (wr u l (.lst xs)) qd (gu.trans (new_gr gu.ok hl)) (hp_back gu hl) (new_own (g0.trans gu) hl e3)⟩
theorem evn_listT {tl : TE} {rp : Rep (List α)} {r : SRep α} {m : M ε (List α)} (rd : RdT K rp r) (h : Ev C tl σ s rp m) : EvN C (tCB (rListOf K) (tCons tl tNil)) σ s r m := fun t g g0 Qm hm Q k =>
  h t g g0 _ hm _ fun d x u qd gu hx => by
    obtain ⟨p, xs, e1, e2, e3⟩ := rd.rd gu.ok hx
    exact ⟨p, xs, by rw [e1], .inr e2, fun l hl => k d l (wr u l (.lst xs)) qd (gu.trans (new_gr gu.ok hl)) (hp_back gu hl) (new_own (g0.trans gu) hl e3)⟩
theorem ev_tupleL {tl : TE} {rp : Rep (List α)} {r : SRep α} {m : M ε (List α)} (rd : RdL K rp r) (h : Ev C tl σ s rp m) : Ev C (tCB (rTupleOf K) (tCons tl tNil)) σ s (sT K r).r m := fun t g g0 Qm hm Q k =>
  h t g g0 _ hm _ fun d x u qd gu hx => by
    obtain ⟨p, xs, e1, e2, e3⟩ := rd.rd gu.ok hx
    refine ⟨p, xs, by rw [e1], .inl ⟨e2, fun l hl => ?_⟩⟩
    have gm := mk_gr (o := .tup xs) gu.ok hl
    exact k d (.ref l) (mk u l (.tup xs)) qd (gu.trans gm) ⟨l, xs, rfl, mk_tup, Paired.mono (fun _ _ => r.up gm.st) e3⟩
theorem ev_tupleT {tl : TE} {r : SRep α} {m : M ε (List α)} (h : Ev C tl σ s (sT K r).r m) : Ev C (tCB (rTupleOf K) (tCons tl tNil)) σ s (sT K r).r m := fun t g g0 Qm hm Q k =>
  h t g g0 _ hm _ fun d x u qd gu hx => by
    obtain ⟨p, xs, e1, e2, e3⟩ := hx
    exact ⟨p, xs, by rw [e1], .inr ⟨ex_t gu.ok.sub e2, by rw [← e1]; exact k d x u qd gu ⟨p, xs, e1, e2, e3⟩⟩⟩
theorem evn_cat {ta tb : TE} {rp rq : Rep (List α)} {r : SRep α} {m1 m2 : M ε (List α)} (ra : RdS rp r) (rb : RdS rq r) (h1 : Ev C ta σ s rp m1) (h2 : Ev C tb σ s rq m2) : EvN C (tOp rCat ta tb) σ s r (bd m1 fun a => bd m2 fun b => cat a b) := fun t g g0 Qm hm Q k =>
  h1 t g g0 _ hm _ fun a x u qa gu hx => h2 u (g.trans gu) (g0.trans gu) _ qa _ fun b y w qb gw hy => by
    obtain ⟨p, xs, e1, e2, e3⟩ := ra.rd gw.ok (Rep.u gw hx)
    obtain ⟨q, ys, f1, f2, f3⟩ := rb.rd gw.ok hy
    refine ⟨p, q, xs, ys, e1, f1, e2, f2, by rw [e3.length, f3.length]; exact sizeLine_100000 qb.1, fun l hl => ?_⟩
    exact k (a ++ b) l (wr w l (.lst (xs ++ ys))) qb.2 ((gu.trans gw).trans (new_gr gw.ok hl)) (hp_back gu (hp_back gw hl)) (new_own ((g0.trans gu).trans gw) hl (paired_app e3 f3))
/-- n times a list -/
def reps (xs : List α) (n : Int) : M ε (List α) := fun Q _ => (-(2 ^ 63) ≤ n ∧ n < 2 ^ 63 ∧ xs.length * n.toNat ≤ 100000) ∧ Q (List.replicate n.toNat xs).flatten
theorem paired_rep {F : V → α → Prop} {xs : List V} {ds : List α} (h : Paired F xs ds) : ∀ k : Nat, Paired F (List.replicate k xs).flatten (List.replicate k ds).flatten
  | 0 => .nil
  | k + 1 => by
    rw [List.replicate_succ, List.replicate_succ, List.flatten_cons, List.flatten_cons]
    exact paired_app h (paired_rep h k)
theorem evn_rep {ta tb : TE} {rp : Rep (List α)} {r : SRep α} {m1 : M ε (List α)} {m2 : M ε Int} (ra : RdS rp r) (h1 : Ev C ta σ s rp m1) (h2 : Ev C tb σ s sI.r m2) : EvN C (tOp rRep ta tb) σ s r (bd m1 fun a => bd m2 fun b => reps a b) := fun t g g0 Qm hm Q k =>
  h1 t g g0 _ hm _ fun a x u qa gu hx => h2 u (g.trans gu) (g0.trans gu) _ qa _ fun b y w qb gw hy => by
    obtain ⟨p, xs, e1, e2, e3⟩ := ra.rd gw.ok (Rep.u gw hx)
    refine ⟨p, b, xs, e1, hy, e2, qb.1.1, qb.1.2.1, by rw [e3.length]; exact sizeLine_100000 qb.1.2.2, fun l hl => ?_⟩
    exact k _ l (wr w l (.lst (List.replicate b.toNat xs).flatten)) qb.2 ((gu.trans gw).trans (new_gr gw.ok hl)) (hp_back gu (hp_back gw hl)) (new_own ((g0.trans gu).trans gw) hl (paired_rep e3 _))
/-- list(range(a, b)) -/
def lrg (a b : Int) : M ε (List Int) := fun Q _ => (-100000 ≤ a ∧ a ≤ 100000 ∧ -100000 ≤ b ∧ b ≤ 100000) ∧ Q (rgs a b)
theorem paired_rgs (H : Hp) (a b : Int) : Paired (sI.is H) (rgV a b) (rgs a b) := by
  unfold rgV rgs
  generalize List.range (b - a).toNat = l
  induction l with
  | nil => exact .nil
  | cons x l ih => exact .cons rfl ih
theorem rgOk_100000 {a b : Int} (h : -100000 ≤ a ∧ a ≤ 100000 ∧ -100000 ≤ b ∧ b ≤ 100000) : RgOk a b := ⟨by omega, by omega, by omega, by omega, by omega⟩
theorem evn_lrg1 {ta : TE} {m : M ε Int} (h : Ev C ta σ s sI.r m) : EvN C (tLstRg (tRg1 ta)) σ s sI (bd m fun b => lrg 0 b) := fun t g g0 Qm hm Q k =>
  h t g g0 _ hm _ fun b x u qb gu hx => ⟨b, hx, rgOk_100000 qb.1, fun l hl => k _ l (wr u l (.lst (rgV 0 b))) qb.2 (gu.trans (new_gr gu.ok hl)) (hp_back gu hl) (new_own (g0.trans gu) hl (paired_rgs _ _ _))⟩
theorem evn_lrg2 {ta tb : TE} {m1 m2 : M ε Int} (h1 : Ev C ta σ s sI.r m1) (h2 : Ev C tb σ s sI.r m2) : EvN C (tLstRg (tRg2 ta tb)) σ s sI (bd m1 fun a => bd m2 fun b => lrg a b) := fun t g g0 Qm hm Q k =>
  h1 t g g0 _ hm _ fun a x u qa gu hx => h2 u (g.trans gu) (g0.trans gu) _ qa _ fun b y w qb gw hy => ⟨a, b, hx, hy, rgOk_100000 qb.1, fun l hl => k _ l (wr w l (.lst (rgV a b))) qb.2 ((gu.trans gw).trans (new_gr gw.ok hl)) (hp_back gu (hp_back gw hl)) (new_own ((g0.trans gu).trans gw) hl (paired_rgs _ _ _))⟩
/-! ### statements -/
variable {Qm : γ → Prop}
theorem seq {t u : TS} {H : Hp} (h : t { D with nx := u D } σ H) : tSeq t u D σ H := h
theorem s_set {i : Nat} {σf : V → L2.St} {te : TE} {tr : TS} {r : Rep α} {m : M ε α} {k : α → M ε γ} (hm : bd m k Qm C.Em) (h : Ev C te σ s r m) (G : Gr C.s0 s) (hσ : ∀ v, σ.set i (some v) = σf v)
    (next : ∀ d v t, Gr s t → r.is t v d → k d Qm C.Em → tr D (σf v) t.hp) : tSeq (tAsg te (gName i)) tr D σ s.hp := h s (Gx.refl G.ok) G _ hm _ fun d v u qd gu hv => by
  show tr D (σ.set i (some v)) u.hp
  rw [hσ]
  exact next d v u gu hv qd
theorem s_setN {i : Nat} {σf : V → L2.St} {te : TE} {tr : TS} {r : SRep α} {m : M ε (List α)} {k : List α → M ε γ} (hm : bd m k Qm C.Em) (h : EvN C te σ s r m) (G : Gr C.s0 s) (hσ : ∀ v, σ.set i (some v) = σf v)
    (next : ∀ d p t, Gr s t → s.hp p = none → (oL C.s0 r p).is t (.ref p) d → k d Qm C.Em → tr D (σf (.ref p)) t.hp) : tSeq (tAsg te (gName i)) tr D σ s.hp := h s (Gx.refl G.ok) G _ hm _ fun d p u qd gu hp hv => by
  show tr D (σ.set i (some (.ref p))) u.hp
  rw [hσ]
  exact next d p u gu hp hv qd
theorem s_drop {te : TE} {tr : TS} {r : Rep α} {m : M ε α} {k : α → M ε γ} (hm : bd m k Qm C.Em) (h : Ev C te σ s r m) (G : Gr C.s0 s) (next : ∀ d t, Gr s t → k d Qm C.Em → tr D σ t.hp) : tSeq (tDrop te) tr D σ s.hp :=
  h s (Gx.refl G.ok) G _ hm _ fun d v u qd gu hv => next d u gu qd
theorem s_ret {te : TE} {tr : TS} {r : Rep α} {m : M ε α} {Qm : α → Prop} (hm : m Qm C.Em) (h : Ev C te σ s r m) (G : Gr C.s0 s) (fin : ∀ d v u, Qm d → Gr C.s0 u → r.is u v d → D.rt v u.hp) : tSeq (tRet te) tr D σ s.hp :=
  h s (Gx.refl G.ok) G _ hm _ fun d v u qd gu hv => fin d v u qd (G.trans gu) hv
theorem s_retN {te : TE} {tr : TS} {r : SRep α} {m : M ε (List α)} {Qm : List α → Prop} (hm : m Qm C.Em) (h : EvN C te σ s r m) (G : Gr C.s0 s) (fin : ∀ d p u, Qm d → Gr C.s0 u → (oL C.s0 r p).is u (.ref p) d → D.rt (.ref p) u.hp) : tSeq (tRet te) tr D σ s.hp :=
  h s (Gx.refl G.ok) G _ hm _ fun d p u qd gu hp hv => fin d p u qd (G.trans gu) hv
/-- both ways end within | the first one does -/
theorem s_if {tt : TT} {tu tw tr : TS} {m : M ε Bool} {m1 m2 : M ε γ} (hm : bd m (fun b => if b = true then m1 else m2) Qm C.Em) (h : EvT C tt σ s m) (G : Gr C.s0 s)
    (yes : ∀ t, Gr s t → m1 Qm C.Em → tu { D with nx := tr D } σ t.hp) (no : ∀ t, Gr s t → m2 Qm C.Em → tw { D with nx := tr D } σ t.hp) : tSeq (tIfS tt tu tw) tr D σ s.hp := h s (Gx.refl G.ok) G _ hm _ fun b u qb gu => by
  cases b with
  | true => exact yes u gu qb
  | false => exact no u gu qb
theorem s_if1 {tt : TT} {tu tr : TS} {m : M ε Bool} {m1 m2 : M ε γ} (hm : bd m (fun b => if b = true then m1 else m2) Qm C.Em) (h : EvT C tt σ s m) (G : Gr C.s0 s)
    (yes : ∀ t, Gr s t → m1 Qm C.Em → tu { D with nx := tr D } σ t.hp) (no : ∀ t, Gr s t → m2 Qm C.Em → tr D σ t.hp) : tSeq (tIfS tt tu tNext) tr D σ s.hp := h s (Gx.refl G.ok) G _ hm _ fun b u qb gu => by
  cases b with
  | true => exact yes u gu qb
  | false => exact no u gu qb
/-- the ways of an if come together -/
theorem s_ifj {A : Type} {tt : TT} {tu tw tr : TS} {m : M ε Bool} {m1 m2 : M ε A} {k : A → M ε γ} (I : A → L2.St → S → Prop) (hm : bd m (fun b => bd (if b = true then m1 else m2) k) Qm C.Em) (h : EvT C tt σ s m) (G : Gr C.s0 s)
    (yes : ∀ t, Gr s t → ∀ Qb : A → Prop, m1 Qb C.Em → tu { D with nx := fun σ2 H2 => ∃ a s2, s2.hp = H2 ∧ Qb a ∧ I a σ2 s2 } σ t.hp)
    (no : ∀ t, Gr s t → ∀ Qb : A → Prop, m2 Qb C.Em → tw { D with nx := fun σ2 H2 => ∃ a s2, s2.hp = H2 ∧ Qb a ∧ I a σ2 s2 } σ t.hp)
    (next : ∀ a σ2 s2, I a σ2 s2 → k a Qm C.Em → tr D σ2 s2.hp) : C8.tCut (tIfS tt tu tw) tr D σ s.hp := by
  refine ⟨fun σ2 H2 => ∃ a s2, s2.hp = H2 ∧ k a Qm C.Em ∧ I a σ2 s2, h s (Gx.refl G.ok) G _ hm _ fun b u qb gu => ?_, fun σ2 H2 hq => ?_⟩
  · cases b with
    | true => exact yes u gu _ qb
    | false => exact no u gu _ qb
  · obtain ⟨a, s2, e, qk, hI⟩ := hq
    subst e
    exact next a σ2 s2 hI qk
/-- .. one of which may hand back -/
theorem s_ifc {A : Type} {tt : TT} {tu tw tr : TS} {m : M ε Bool} {m1 m2 : M ε (Ctl A R)} {kn : A → M ε γ} {kr : R → M ε γ} (I : A → L2.St → S → Prop) (hm : bd m (fun b => bd (if b = true then m1 else m2) (onC kn kr)) Qm C.Em) (h : EvT C tt σ s m) (G : Gr C.s0 s)
    (yes : ∀ t, Gr s t → ∀ Qb : Ctl A R → Prop, (∀ d, Qb (.rt d) → kr d Qm C.Em) → m1 Qb C.Em → tu { D with nx := fun σ2 H2 => ∃ a s2, s2.hp = H2 ∧ Qb (.nx a) ∧ I a σ2 s2 } σ t.hp)
    (no : ∀ t, Gr s t → ∀ Qb : Ctl A R → Prop, (∀ d, Qb (.rt d) → kr d Qm C.Em) → m2 Qb C.Em → tw { D with nx := fun σ2 H2 => ∃ a s2, s2.hp = H2 ∧ Qb (.nx a) ∧ I a σ2 s2 } σ t.hp)
    (next : ∀ a σ2 s2, I a σ2 s2 → kn a Qm C.Em → tr D σ2 s2.hp) : C8.tCut (tIfS tt tu tw) tr D σ s.hp := by
  refine ⟨fun σ2 H2 => ∃ a s2, s2.hp = H2 ∧ kn a Qm C.Em ∧ I a σ2 s2, h s (Gx.refl G.ok) G _ hm _ fun b u qb gu => ?_, fun σ2 H2 hq => ?_⟩
  · cases b with
    | true => exact yes u gu (fun c => onC kn kr c Qm C.Em) (fun _ q => q) qb
    | false => exact no u gu (fun c => onC kn kr c Qm C.Em) (fun _ q => q) qb
  · obtain ⟨a, s2, e, qk, hI⟩ := hq
    subst e
    exact next a σ2 s2 hI qk
/-- p.append(e), xs[i] = e: one's own list -/
theorem s_app {p : Addr} {v : V} {ta te : TE} {tr : TS} {r : SRep α} {ds : List α} {m : M ε α} {k : List α → M ε γ} (hm : bd (bd m fun d => app ds d) k Qm C.Em) (hp : (oL C.s0 r p).is s v ds) (ha : Ev C ta σ s (oL C.s0 r p) (ret ds)) (h : Ev C te σ s r.r m) (G : Gr C.s0 s)
    (next : ∀ es t, Gx (fun a => a = p) s t → Gr C.s0 t → (oL C.s0 r p).is t v es → k es Qm C.Em → tr D σ t.hp) : tSeq (tDrop (tBM K "list" rAppend ta (tCons te tNil))) tr D σ s.hp :=
  ha s (Gx.refl G.ok) G (fun d => d = ds) rfl _ fun d1 x u e1 gu hx => by
    subst e1
    obtain ⟨h1, h2, h3, h4, xs, h5, h6⟩ := hx
    refine ⟨by rw [h1]; exact Or.inl ⟨rfl, xs, sqL_of h5⟩, h u gu (G.trans gu) _ hm _ fun d y w qd gw hy => ?_⟩
    have hw := Rep.u (gu.trans gw) hp
    have hxs : w.hp p = some (.lst xs) := gw.hp p _ (fun z => z) h4 h5
    have h6' : Paired (r.is w.st) xs d1 := Paired.mono (fun _ _ => r.up gw.st) h6
    obtain ⟨o1, o2, o3⟩ := own_wr (xs := xs ++ [y]) ((G.trans gu).trans gw) hw (paired_app h6' (.cons hy .nil))
    refine ⟨p, xs, y, h1, rfl, hxs, Nat.lt_of_lt_of_le (by rw [h6'.length]; exact qd.1) (by decide : 100000 ≤ sizeLine), ?_⟩
    exact next _ (wr w p (.lst (xs ++ [y]))) (Gx.trans (Gx.of_gr (gu.trans gw)) o3) o2 o1 qd.2
theorem ixN_of {n : Nat} {i : Int} {j : Nat} (h : ixN n i = some j) : j < n := (ixN_seq h).2.1
theorem s_put {p : Addr} {v : V} {ta ti te : TE} {tr : TS} {r : SRep α} {ds : List α} {m : M ε α} {mi : M ε Int} {k : List α → M ε γ} (hm : bd (bd m fun d => bd mi fun i => put ds i d) k Qm C.Em) (hp : (oL C.s0 r p).is s v ds) (ha : Ev C ta σ s (oL C.s0 r p) (ret ds)) (h : Ev C te σ s r.r m) (hi : Ev C ti σ s sI.r mi) (G : Gr C.s0 s)
    (next : ∀ es t, Gx (fun a => a = p) s t → Gr C.s0 t → (oL C.s0 r p).is t v es → k es Qm C.Em → tr D σ t.hp) : tSeq (tAsg te (gSub ta ti rSetL)) tr D σ s.hp :=
  h s (Gx.refl G.ok) G _ hm _ fun d y u qd gu hy => ha u gu (G.trans gu) (fun d => d = ds) rfl _ fun d1 x w e1 gw hx => by
    subst e1
    refine hi w (gu.trans gw) ((G.trans gu).trans gw) _ qd _ fun i z x2 qi gx hz => ?_
    obtain ⟨j, ej, qj⟩ := qi
    have hw := Rep.u ((gu.trans gw).trans gx) hp
    have hw' := hw
    obtain ⟨h1, h2, h3, h4, xs, h5, h6⟩ := hw'
    obtain ⟨o1, o2, o3⟩ := own_wr (xs := xs.set j y) (((G.trans gu).trans gw).trans gx) hw (paired_set (r.up (Ex.trans gw.st gx.st) hy) h6 j)
    refine ⟨p, xs, i, j, hx.1, hz, h5, by rw [h6.length]; exact ej, ?_⟩
    exact next _ (wr x2 p (.lst (xs.set j y))) (Gx.trans (Gx.of_gr ((gu.trans gw).trans gx)) o3) o2 o1 qj
theorem gname_do {i : Nat} {v : V} {σ' : L2.St} {H : Hp} {Q : L2.St → Hp → Prop} (h : σ.set i (some v) = σ') (q : Q σ' H) : gName i v σ H Q := by
  show Q (σ.set i (some v)) H
  rw [h]
  exact q
/-! ### what is walked -/
def Goes (J : It) (H0 : Hp) {α : Type} (r : SRep α) (ds : List α) : Prop :=
  ∀ i (w : S), Sok w → Ex H0 w.st → (∀ d, ds[i]? = some d → J.go i w.hp ∧ ∀ x H', J.yld i w.hp x H' → H' = w.hp ∧ r.is w.st x d) ∧ (ds.length ≤ i → J.stop i w.hp)
def EvI (C : Cn ε) (wi : TI) (σ : L2.St) (s : S) {α : Type} (r : SRep α) (m : M ε (List α)) : Prop :=
  ∀ t, Gr s t → Gr C.s0 t → ∀ Qm, m Qm C.Em → ∀ R : It → Hp → Prop, (∀ ds J u, Qm ds → Gr t u → Goes J u.st r ds → R J u.hp) → wi σ t.hp R
theorem ei_list {tl : TE} {r : SRep α} {m : M ε (List α)} (h : Ev C tl σ s (sL r).r m) : EvI C (iList K tl) σ s r m := fun t g g0 Qm hm Q k =>
  h t g g0 _ hm _ fun d x u qd gu hx => by
    obtain ⟨p, xs, e1, e2, e3⟩ := hx
    refine ⟨p, e1, ⟨xs, sqL_of (gu.ok.sub _ _ e2)⟩, k d (Itl K p) u qd gu fun i w ok ex => ?_⟩
    have h1 : SqL K w.hp p xs := sqL_of (ok.sub _ _ (ex _ _ e2))
    have h3 : Paired (r.is w.st) xs d := Paired.mono (fun _ _ => r.up ex) e3
    refine ⟨fun y hy => ?_, fun hl => ⟨xs, h1, by rw [h3.length]; exact hl⟩⟩
    obtain ⟨z, f1, f2⟩ := paired_get h3 hy
    exact ⟨⟨xs, z, h1, f1⟩, fun x' H' ⟨e, f⟩ => ⟨e, by rw [Option.some.inj ((f xs h1).symm.trans f1)]; exact f2⟩⟩
theorem ei_scr {tl : TE} {r : SRep α} {m : M ε (List α)} (h : Ev C tl σ s (sF K r).r m) : EvI C (iList K tl) σ s r m := fun t g g0 Qm hm Q k =>
  h t g g0 _ hm _ fun d x u qd gu hx => by
    obtain ⟨p, xs, e1, e2, e3⟩ := hx
    refine ⟨p, e1, ⟨xs, (ex_l gu.ok.sub e2)⟩, k d (Itl K p) u qd gu fun i w ok ex => ?_⟩
    have h1 : SqL K w.hp p xs := ex_l ok.sub (ex_l ex e2)
    have h3 : Paired (r.is w.st) xs d := Paired.mono (fun _ _ => r.up ex) e3
    refine ⟨fun y hy => ?_, fun hl => ⟨xs, h1, by rw [h3.length]; exact hl⟩⟩
    obtain ⟨z, f1, f2⟩ := paired_get h3 hy
    exact ⟨⟨xs, z, h1, f1⟩, fun x' H' ⟨e, f⟩ => ⟨e, by rw [Option.some.inj ((f xs h1).symm.trans f1)]; exact f2⟩⟩
theorem ei_tup {tl : TE} {r : SRep α} {m : M ε (List α)} (h : Ev C tl σ s (sT K r).r m) : EvI C (iTup K tl) σ s r m := fun t g g0 Qm hm Q k =>
  h t g g0 _ hm _ fun d x u qd gu hx => by
    obtain ⟨p, xs, e1, e2, e3⟩ := hx
    refine ⟨p, e1, ⟨xs, (ex_t gu.ok.sub e2)⟩, k d (Itt K p) u qd gu fun i w ok ex => ?_⟩
    have h1 : SqT K w.hp p xs := ex_t ok.sub (ex_t ex e2)
    have h3 : Paired (r.is w.st) xs d := Paired.mono (fun _ _ => r.up ex) e3
    refine ⟨fun y hy => ?_, fun hl => ⟨xs, h1, by rw [h3.length]; exact hl⟩⟩
    obtain ⟨z, f1, f2⟩ := paired_get h3 hy
    exact ⟨⟨xs, z, h1, f1⟩, fun x' H' ⟨e, f⟩ => ⟨e, by rw [Option.some.inj ((f xs h1).symm.trans f1)]; exact f2⟩⟩
theorem rgs_length (a b : Int) : (rgs a b).length = (b - a).toNat := by
  unfold rgs
  rw [List.length_map, List.length_range]
theorem rgs_get {a b : Int} {i : Nat} {d : Int} (h : (rgs a b)[i]? = some d) : d = a + (i : Int) ∧ i < (b - a).toNat := by
  have hi : i < (rgs a b).length := (List.getElem?_eq_some_iff.mp h).1
  rw [rgs_length] at hi
  unfold rgs at h
  rw [List.getElem?_map, List.getElem?_range hi] at h
  simp at h
  exact ⟨h.symm, hi⟩
theorem goes_rng {H0 : Hp} {a b : Int} {n : Nat} (hn : n = (b - a).toNat) : Goes (Itr a n) H0 sI (rgs a b) := fun i w ok ex => by
  subst hn
  refine ⟨fun d hd => ?_, fun hl => by rw [rgs_length] at hl; exact hl⟩
  obtain ⟨e1, e2⟩ := rgs_get hd
  exact ⟨e2, fun x H' ⟨e, f⟩ => ⟨e, by rw [f, e1]; rfl⟩⟩
theorem ei_rng1 {ta : TE} {m : M ε Int} (h : Ev C ta σ s sI.r m) : EvI C (iRng1 (tCons ta tNil)) σ s sI (bd m fun b => rng 0 b) := fun t g g0 Qm hm Q k =>
  h t g g0 _ hm _ fun b x u qb gu hx => ⟨b, by rw [(show x = .int b from hx)], qb.1.2.2.1, qb.1.2.2.2, k _ _ u qb.2 gu (goes_rng (by omega))⟩
theorem ei_rng2 {ta tb : TE} {m1 m2 : M ε Int} (h1 : Ev C ta σ s sI.r m1) (h2 : Ev C tb σ s sI.r m2) : EvI C (iRng2 (tCons ta (tCons tb tNil))) σ s sI (bd m1 fun a => bd m2 fun b => rng a b) := fun t g g0 Qm hm Q k =>
  h1 t g g0 _ hm _ fun a x u qa gu hx => h2 u (g.trans gu) (g0.trans gu) _ qa _ fun b y w qb gw hy =>
    ⟨a, b, by rw [(show x = .int a from hx), (show y = .int b from hy)], ⟨qb.1.1, qb.1.2.1, qb.1.2.2.1, qb.1.2.2.2⟩, k _ _ w qb.2 (gu.trans gw) (goes_rng rfl)⟩
/-! ### loops -/
theorem drop_some {ds : List α} {i : Nat} {d : α} (h : ds[i]? = some d) : ds.drop i = d :: ds.drop (i + 1) := by
  obtain ⟨h1, h2⟩ := List.getElem?_eq_some_iff.mp h
  rw [List.drop_eq_getElem_cons h1, h2]
theorem s_for {A : Type} {wi : TI} {g : TG} {tb tr : TS} {r : SRep α} {mi : M ε (List α)} {a0 : A} {body : α → A → M ε A} {k : A → M ε γ} (I : S → A → L2.St → S → Prop)
    (hm : bd mi (fun ds => bd (forS ds a0 body) k) Qm C.Em) (hi : EvI C wi σ s r mi) (G : Gr C.s0 s) (hI : ∀ u a σ' s', I u a σ' s' → Sok s' ∧ Ex u.st s'.st) (h0 : ∀ u, Gr s u → I u a0 σ u)
    (turn : ∀ u x v a σ' s', Gr s u → I u a σ' s' → r.r.is s' v x → ∀ Qb : A → Prop, body x a Qb C.Em → g v σ' s'.hp fun σ2 H2 => tb { D with nx := fun σ3 H3 => ∃ a' s3, s3.hp = H3 ∧ Qb a' ∧ I u a' σ3 s3, ct := fun σ3 H3 => ∃ a' s3, s3.hp = H3 ∧ Qb a' ∧ I u a' σ3 s3, bk := tr D } σ2 H2)
    (after : ∀ u a σ' s', Gr s u → I u a σ' s' → k a Qm C.Em → tr D σ' s'.hp) : tSeq (tFor wi g tb) tr D σ s.hp := hi s (Gx.refl G.ok) G _ hm _ fun ds J u qd gu go => by
  refine ⟨fun i m σ' H' => m = ds.length - i ∧ i ≤ ds.length ∧ ∃ a s', s'.hp = H' ∧ I u a σ' s' ∧ forS (ds.drop i) a body (fun a => k a Qm C.Em) C.Em, ⟨ds.length, by simp, Nat.zero_le _, a0, u, rfl, h0 u gu, by rw [List.drop_zero]; exact qd⟩, fun i m σ' H' hw => ?_⟩
  obtain ⟨rfl, hl, a, s', rfl, hi', hf⟩ := hw
  obtain ⟨ok, ex⟩ := hI u a σ' s' hi'
  obtain ⟨g1, g2⟩ := go i s' ok ex
  cases hd : ds[i]? with
  | none =>
    have hl' : ds.length ≤ i := List.getElem?_eq_none_iff.mp hd
    refine .inl ⟨g2 hl', after u a σ' s' gu hi' ?_⟩
    rw [List.drop_of_length_le hl'] at hf
    exact hf
  | some d =>
    obtain ⟨g3, g4⟩ := g1 d hd
    have hlt : i < ds.length := (List.getElem?_eq_some_iff.mp hd).1
    rw [drop_some hd] at hf
    refine .inr ⟨g3, fun σ3 H3 => ∃ a' s3, s3.hp = H3 ∧ forS (ds.drop (i + 1)) a' body (fun a => k a Qm C.Em) C.Em ∧ I u a' σ3 s3, fun σ3 H3 hN => ?_, fun x H' hy => ?_⟩
    · obtain ⟨a', s3, e1, e2, e3⟩ := hN
      exact ⟨ds.length - (i + 1), by omega, rfl, hlt, a', s3, e1, e3, e2⟩
    · obtain ⟨rfl, hx⟩ := g4 x H' hy
      exact turn u d x a σ' s' gu hi' hx _ hf
theorem s_forc {A : Type} {wi : TI} {g : TG} {tb tr : TS} {r : SRep α} {mi : M ε (List α)} {a0 : A} {body : α → A → M ε (Ctl A R)} {kn : A → M ε γ} {kr : R → M ε γ} (I : S → A → L2.St → S → Prop)
    (hm : bd mi (fun ds => bd (forC ds a0 body) (onC kn kr)) Qm C.Em) (hi : EvI C wi σ s r mi) (G : Gr C.s0 s) (hI : ∀ u a σ' s', I u a σ' s' → Sok s' ∧ Ex u.st s'.st) (h0 : ∀ u, Gr s u → I u a0 σ u)
    (turn : ∀ u x v a σ' s', Gr s u → I u a σ' s' → r.r.is s' v x → ∀ Qb : Ctl A R → Prop, (∀ d, Qb (.rt d) → kr d Qm C.Em) → body x a Qb C.Em → g v σ' s'.hp fun σ2 H2 => tb { D with nx := fun σ3 H3 => ∃ a' s3, s3.hp = H3 ∧ Qb (.nx a') ∧ I u a' σ3 s3, ct := fun σ3 H3 => ∃ a' s3, s3.hp = H3 ∧ Qb (.nx a') ∧ I u a' σ3 s3, bk := tr D } σ2 H2)
    (after : ∀ u a σ' s', Gr s u → I u a σ' s' → kn a Qm C.Em → tr D σ' s'.hp) : tSeq (tFor wi g tb) tr D σ s.hp := hi s (Gx.refl G.ok) G _ hm _ fun ds J u qd gu go => by
  refine ⟨fun i m σ' H' => m = ds.length - i ∧ i ≤ ds.length ∧ ∃ a s', s'.hp = H' ∧ I u a σ' s' ∧ forC (ds.drop i) a body (fun a => onC kn kr a Qm C.Em) C.Em, ⟨ds.length, by simp, Nat.zero_le _, a0, u, rfl, h0 u gu, by rw [List.drop_zero]; exact qd⟩, fun i m σ' H' hw => ?_⟩
  obtain ⟨rfl, hl, a, s', rfl, hi', hf⟩ := hw
  obtain ⟨ok, ex⟩ := hI u a σ' s' hi'
  obtain ⟨g1, g2⟩ := go i s' ok ex
  cases hd : ds[i]? with
  | none =>
    have hl' : ds.length ≤ i := List.getElem?_eq_none_iff.mp hd
    refine .inl ⟨g2 hl', after u a σ' s' gu hi' ?_⟩
    rw [List.drop_of_length_le hl'] at hf
    exact hf
  | some d =>
    obtain ⟨g3, g4⟩ := g1 d hd
    have hlt : i < ds.length := (List.getElem?_eq_some_iff.mp hd).1
    rw [drop_some hd] at hf
    refine .inr ⟨g3, fun σ3 H3 => ∃ a' s3, s3.hp = H3 ∧ forC (ds.drop (i + 1)) a' body (fun a => onC kn kr a Qm C.Em) C.Em ∧ I u a' σ3 s3, fun σ3 H3 hN => ?_, fun x H' hy => ?_⟩
    · obtain ⟨a', s3, e1, e2, e3⟩ := hN
      exact ⟨ds.length - (i + 1), by omega, rfl, hlt, a', s3, e1, e3, e2⟩
    · obtain ⟨rfl, hx⟩ := g4 x H' hy
      refine turn u d x a σ' s' gu hi' hx (fun c => onC (fun a' => forC (ds.drop (i + 1)) a' body) (fun r => ret (.rt r)) c (fun a => onC kn kr a Qm C.Em) C.Em) (fun d q => q) hf
theorem s_while {A : Type} {tt : TT} {tb tr : TS} {a0 : A} {cm : A → M ε Bool} {bm : A → M ε A} {k : A → M ε γ} (I : A → L2.St → S → Prop)
    (hm : bd (wh cm bm a0) k Qm C.Em) (hI : ∀ a σ' s', I a σ' s' → Gr C.s0 s') (h0 : I a0 σ s) (test : ∀ a σ' s', I a σ' s' → EvT C tt σ' s' (cm a))
    (turn : ∀ a σ' s' t, I a σ' s' → Gr s' t → ∀ Qb : A → Prop, bm a Qb C.Em → tb { D with nx := fun σ3 H3 => ∃ a' s3, s3.hp = H3 ∧ Qb a' ∧ I a' σ3 s3, ct := fun σ3 H3 => ∃ a' s3, s3.hp = H3 ∧ Qb a' ∧ I a' σ3 s3, bk := tr D } σ' t.hp)
    (after : ∀ a σ' s' t, I a σ' s' → Gr s' t → k a Qm C.Em → tr D σ' t.hp) : tSeq (tWhile tt tb) tr D σ s.hp := by
  obtain ⟨n0, hn0⟩ := hm
  refine ⟨fun m σ' H' => ∃ a s', s'.hp = H' ∧ I a σ' s' ∧ whN cm bm m a (fun a => k a Qm C.Em) C.Em, ⟨n0, a0, s, rfl, h0, hn0⟩, fun m σ' H' hw => ?_⟩
  obtain ⟨a, s', rfl, hi, hf⟩ := hw
  cases m with
  | zero => exact hf.elim
  | succ m =>
    refine test a σ' s' hi s' (Gx.refl (hI a σ' s' hi).ok) (hI a σ' s' hi) _ hf _ fun b u qb gu => ?_
    cases b with
    | true =>
      refine ⟨fun σ3 H3 => ∃ a' s3, s3.hp = H3 ∧ whN cm bm m a' (fun a => k a Qm C.Em) C.Em ∧ I a' σ3 s3, fun σ3 H3 hN => ?_, turn a σ' s' u hi gu _ qb⟩
      obtain ⟨a', s3, e1, e2, e3⟩ := hN
      exact ⟨m, Nat.lt_succ_self m, a', s3, e1, e3, e2⟩
    | false => exact after a σ' s' u hi gu qb
/-! ### comprehensions -/
def lim (n : Nat) : M ε Unit := req (n ≤ 100000)
theorem mapM_run {ε : Type} {f : α → M ε β} {Q : List β → Prop} {E : ε → Prop} {x : α} {xs : List α} {acc : List β} (h : mapM' f (x :: xs) (fun ys => Q (acc ++ ys)) E) : f x (fun y => mapM' f xs (fun ys => Q ((acc ++ [y]) ++ ys)) E) E := by
  have e : (fun y => mapM' f xs (fun ys => Q ((acc ++ [y]) ++ ys)) E) = (fun y => (bd (mapM' f xs) fun ys => ret (y :: ys)) (fun ys => Q (acc ++ ys)) E) := by
    funext y
    show _ = mapM' f xs (fun ys => Q (acc ++ (y :: ys))) E
    congr 1
    funext ys
    rw [List.append_assoc]
    rfl
  rw [e]
  exact h
/-- [te for g in wi] -/
theorem evn_lc {wi : TI} {j : Nat} {te : TE} {vs : List Nat} {σf : V → L2.St} {r : SRep α} {q : SRep β} {mi : M ε (List α)} {f : α → M ε β} (hi : EvI C wi σ s r mi) (h1 : ∀ v, (wipe σ vs).set j (some v) = σf v) (h2 : ∀ v, wipe (σf v) vs = wipe σ vs)
    (he : ∀ x v t, Gr s t → Gr C.s0 t → r.r.is t v x → Ev C te (σf v) t q.r (f x)) : EvN C (tLc wi (gName j) tYes te vs) σ s q (bd mi fun ds => bd (lim ds.length) fun _ => mapM' f ds) := fun t g g0 Qm hm Q k =>
  hi t g g0 _ hm _ fun ds J u qd gu go D hD => by
    obtain ⟨hlim, qd⟩ := qd
    refine ⟨fun i m H' => m = ds.length - i ∧ i ≤ ds.length ∧ ∃ w acc ys, w.hp = H' ∧ Gr u w ∧ w.st D = none ∧ ¬ w.bg D ∧ w.hp D = some (.lst acc) ∧ Paired (q.is w.st) acc ys ∧ ys.length = i ∧ mapM' f (ds.drop i) (fun zs => Qm (ys ++ zs)) C.Em,
      ⟨ds.length, by simp, Nat.zero_le _, wr u D (.lst []), [], [], rfl, new_gr gu.ok hD, st_none (s := u) gu.ok hD, bg_not (s := u) gu.ok hD, upd_same, .nil, rfl, by rw [List.drop_zero]; exact qd⟩, fun i m H' hw => ?_⟩
    obtain ⟨rfl, hl, w, acc, ys, rfl, gw, w1, w2, w3, w4, w5, hf⟩ := hw
    have gw0 := (g0.trans gu).trans gw
    obtain ⟨g1, g2⟩ := go i w gw.ok gw.st
    cases hd : ds[i]? with
    | none =>
      have hl' : ds.length ≤ i := List.getElem?_eq_none_iff.mp hd
      rw [List.drop_of_length_le hl'] at hf
      refine .inl ⟨g2 hl', k ys D w (by have hf' : Qm (ys ++ []) := hf; rw [List.append_nil] at hf'; exact hf') (gu.trans gw) (hp_back gu hD) ⟨rfl, ?_, w1, w2, acc, w3, w4⟩⟩
      exact hp_back (g0.trans gu) hD
    | some d =>
      obtain ⟨g3, g4⟩ := g1 d hd
      have hlt : i < ds.length := (List.getElem?_eq_some_iff.mp hd).1
      rw [drop_some hd] at hf
      have hf := mapM_run hf
      refine .inr ⟨g3, fun H3 => ∃ m', m' < ds.length - i ∧ (m' = ds.length - (i + 1) ∧ i + 1 ≤ ds.length ∧ ∃ w acc ys, w.hp = H3 ∧ Gr u w ∧ w.st D = none ∧ ¬ w.bg D ∧ w.hp D = some (.lst acc) ∧ Paired (q.is w.st) acc ys ∧ ys.length = i + 1 ∧ mapM' f (ds.drop (i + 1)) (fun zs => Qm (ys ++ zs)) C.Em), fun H3 hN => hN, fun x H' hy => ?_⟩
      obtain ⟨rfl, hx⟩ := g4 x H' hy
      refine gname_do (h1 x) ⟨h2 x, ?_⟩
      dsimp only [tYes]
      rw [if_pos rfl]
      refine he d x w (g.trans (gu.trans gw)) gw0 hx w (Gx.refl gw.ok) gw0 _ hf _ fun y v z qy gz hv => ?_
      have z3 : z.hp D = some (.lst acc) := gz.hp D _ (fun e => e) w2 w3
      have ne : w.hp D ≠ none := by rw [w3]; exact fun e => nomatch e
      have z1 := (gz.fr D (fun e => e) ne).1 w1
      have z2 : ¬ z.bg D := fun e => w2 ((gz.fr D (fun e => e) ne).2 e)
      have gx := wr_gx (o := .lst (acc ++ [v])) gz.ok z1 z2
      refine ⟨acc, z3, Nat.lt_of_lt_of_le (show acc.length < 100000 by rw [w4.length, w5]; omega) (by decide : 100000 ≤ sizeLine), ds.length - (i + 1), by omega, rfl, hlt, wr z D (.lst (acc ++ [v])), acc ++ [v], ys ++ [y], rfl,
        Gr.gx (gw.trans gz) gx (fun a e => by cases e; exact hD), z1, z2, upd_same, paired_app (Paired.mono (fun _ _ => q.up gz.st) w4) (.cons hv .nil), by rw [List.length_append, w5]; rfl, qy⟩
theorem mapIf_run {ε : Type} {c : α → M ε Bool} {f : α → M ε β} {Q : List β → Prop} {E : ε → Prop} {x : α} {xs : List α} {acc : List β} (h : mapIf c f (x :: xs) (fun ys => Q (acc ++ ys)) E) : c x (fun b => if b = true then f x (fun y => mapIf c f xs (fun ys => Q ((acc ++ [y]) ++ ys)) E) E else mapIf c f xs (fun ys => Q (acc ++ ys)) E) E := by
  have e : (fun b => if b = true then f x (fun y => mapIf c f xs (fun ys => Q ((acc ++ [y]) ++ ys)) E) E else mapIf c f xs (fun ys => Q (acc ++ ys)) E) = (fun b : Bool => (if b = true then bd (f x) fun y => bd (mapIf c f xs) fun ys => ret (y :: ys) else mapIf c f xs) (fun ys => Q (acc ++ ys)) E) := by
    funext b
    cases b with
    | false => rfl
    | true =>
      show f x (fun y => mapIf c f xs (fun ys => Q ((acc ++ [y]) ++ ys)) E) E = f x (fun y => mapIf c f xs (fun ys => Q (acc ++ (y :: ys))) E) E
      congr 1
      funext y
      congr 1
      funext ys
      rw [List.append_assoc]
      rfl
  rw [e]
  exact h
/-- [te for g in wi if tt] -/
theorem evn_lcIf {wi : TI} {j : Nat} {tt : TT} {te : TE} {vs : List Nat} {σf : V → L2.St} {r : SRep α} {q : SRep β} {mi : M ε (List α)} {c : α → M ε Bool} {f : α → M ε β} (hi : EvI C wi σ s r mi) (h1 : ∀ v, (wipe σ vs).set j (some v) = σf v) (h2 : ∀ v, wipe (σf v) vs = wipe σ vs)
    (hc : ∀ x v t, Gr s t → Gr C.s0 t → r.r.is t v x → EvT C tt (σf v) t (c x)) (he : ∀ x v t, Gr s t → Gr C.s0 t → r.r.is t v x → Ev C te (σf v) t q.r (f x)) : EvN C (tLc wi (gName j) tt te vs) σ s q (bd mi fun ds => bd (lim ds.length) fun _ => mapIf c f ds) := fun t g g0 Qm hm Q k =>
  hi t g g0 _ hm _ fun ds J u qd gu go D hD => by
    obtain ⟨hlim, qd⟩ := qd
    refine ⟨fun i m H' => m = ds.length - i ∧ i ≤ ds.length ∧ ∃ w acc ys, w.hp = H' ∧ Gr u w ∧ w.st D = none ∧ ¬ w.bg D ∧ w.hp D = some (.lst acc) ∧ Paired (q.is w.st) acc ys ∧ ys.length ≤ i ∧ mapIf c f (ds.drop i) (fun zs => Qm (ys ++ zs)) C.Em,
      ⟨ds.length, by simp, Nat.zero_le _, wr u D (.lst []), [], [], rfl, new_gr gu.ok hD, st_none (s := u) gu.ok hD, bg_not (s := u) gu.ok hD, upd_same, .nil, Nat.le_refl _, by rw [List.drop_zero]; exact qd⟩, fun i m H' hw => ?_⟩
    obtain ⟨rfl, hl, w, acc, ys, rfl, gw, w1, w2, w3, w4, w5, hf⟩ := hw
    have gw0 := (g0.trans gu).trans gw
    obtain ⟨g1, g2⟩ := go i w gw.ok gw.st
    cases hd : ds[i]? with
    | none =>
      have hl' : ds.length ≤ i := List.getElem?_eq_none_iff.mp hd
      rw [List.drop_of_length_le hl'] at hf
      refine .inl ⟨g2 hl', k ys D w (by have hf' : Qm (ys ++ []) := hf; rw [List.append_nil] at hf'; exact hf') (gu.trans gw) (hp_back gu hD) ⟨rfl, ?_, w1, w2, acc, w3, w4⟩⟩
      exact hp_back (g0.trans gu) hD
    | some d =>
      obtain ⟨g3, g4⟩ := g1 d hd
      have hlt : i < ds.length := (List.getElem?_eq_some_iff.mp hd).1
      rw [drop_some hd] at hf
      have hf := mapIf_run hf
      refine .inr ⟨g3, fun H3 => ∃ m', m' < ds.length - i ∧ (m' = ds.length - (i + 1) ∧ i + 1 ≤ ds.length ∧ ∃ w acc ys, w.hp = H3 ∧ Gr u w ∧ w.st D = none ∧ ¬ w.bg D ∧ w.hp D = some (.lst acc) ∧ Paired (q.is w.st) acc ys ∧ ys.length ≤ i + 1 ∧ mapIf c f (ds.drop (i + 1)) (fun zs => Qm (ys ++ zs)) C.Em), fun H3 hN => hN, fun x H' hy => ?_⟩
      obtain ⟨rfl, hx⟩ := g4 x H' hy
      refine gname_do (h1 x) ⟨h2 x, ?_⟩
      refine hc d x w (g.trans (gu.trans gw)) gw0 hx w (Gx.refl gw.ok) gw0 _ hf _ fun b z0 qb gz0 => ?_
      have ne : w.hp D ≠ none := by rw [w3]; exact fun e => nomatch e
      have y3 : z0.hp D = some (.lst acc) := gz0.hp D _ (fun e => e) w2 w3
      have y1 := (gz0.fr D (fun e => e) ne).1 w1
      have y2 : ¬ z0.bg D := fun e => w2 ((gz0.fr D (fun e => e) ne).2 e)
      cases b with
      | false =>
        show ∃ m', _
        exact ⟨ds.length - (i + 1), by omega, rfl, hlt, z0, acc, ys, rfl, gw.trans gz0, y1, y2, y3, Paired.mono (fun _ _ => q.up gz0.st) w4, by omega, qb⟩
      | true =>
        rw [if_pos rfl]
        have qb : f d _ _ := qb
        refine he d x w (g.trans (gu.trans gw)) gw0 hx z0 gz0 (gw0.trans gz0) _ qb _ fun y v z qy gz hv => ?_
        have ne0 : z0.hp D ≠ none := by rw [y3]; exact fun e => nomatch e
        have z3 : z.hp D = some (.lst acc) := gz.hp D _ (fun e => e) y2 y3
        have z1 := (gz.fr D (fun e => e) ne0).1 y1
        have z2 : ¬ z.bg D := fun e => y2 ((gz.fr D (fun e => e) ne0).2 e)
        have gx := wr_gx (o := .lst (acc ++ [v])) gz.ok z1 z2
        refine ⟨acc, z3, Nat.lt_of_lt_of_le (show acc.length < 100000 by have hll := w4.length; have : ds.length ≤ 100000 := hlim; omega) (by decide : 100000 ≤ sizeLine), ds.length - (i + 1), by omega, rfl, hlt, wr z D (.lst (acc ++ [v])), acc ++ [v], ys ++ [y], rfl,
          Gr.gx ((gw.trans gz0).trans gz) gx (fun a e => by cases e; exact hD), z1, z2, upd_same, paired_app (Paired.mono (fun _ _ => q.up (Ex.trans gz0.st gz.st)) w4) (.cons hv .nil), by rw [List.length_append]; show ys.length + 1 ≤ i + 1; omega, qy⟩
end
end Y

namespace Y
open PySem PySem.Spec PyProof.Rows L2
/-! ### a def -/
section
variable {P : Program} {w : World} {K : PySem.W.Frag} {mg : Str → Option Value} {base : Heap}
theorem fn0 {x qual : Str} {st : Stmt} {f : Addr} {fd : FuncData} {N ps : List Str} {k : Nat} {A β : Type} {ar : ARep A} {fm : A → M Empty β} {rr : S → Rep β} (F : Fun K x qual st f fd) (Sc : FnScope N ps (defScope st))
    (hl : ∀ s vs a, ar.is s vs a → vs.length = ps.length)
    (body : ∀ (cdv : Value) (A' : Around) (outer : List Env) (sh : Shared) (E : XK), Room k (A'.deeper (envOfC qual (defScope st) sh.heap.objs.size f cdv)) →
      ∀ (C : Cn Empty) (a : A) (vs : List V) (Qm : β → Prop), Sok C.s0 → ar.is C.s0 vs a → fm a Qm C.Em → ∃ t, PSs (cxOf CX0 P w K mg base N qual (defScope st) f cdv A' outer sh C.s0.hp E).nox (defBody st) t ∧
        ∀ Q : VK, (∀ d v u, Qm d → Gr C.s0 u → (rr C.s0).is u v d → Q v u.hp) → t { nx := fun _ H' => Q .non H', rt := Q } (start N vs) C.s0.hp) : FnOk P w K mg base CX0 (k + 1) f fd ps (sp0 ar fm rr) := by
  refine F.ok Sc (fun vs H Q E h => ?_) (fun cdv A' outer sh H vs Q E hr h => ?_)
  · obtain ⟨s, a, Qm, _, _, h, _⟩ := h
    exact hl s vs a h
  · obtain ⟨s, a, Qm, rfl, ok, ha, hm, hQ⟩ := h
    obtain ⟨t, h1, h2⟩ := body cdv A' outer sh E hr ⟨s, E0, noE, (fun e => nomatch e), (fun e => nomatch e)⟩ a vs Qm ok ha hm
    exact ⟨t, h1, h2 Q hQ⟩
/-- a def that may be called -/
structure Cal (P : Program) (w : World) (K : PySem.W.Frag) (mg : Str → Option Value) (base : Heap) (CX : CXT) (k : Nat) (x : Str) (ps : List Str) (sp : Sp) (f : Addr) (fd : FuncData) : Prop where
  ok : FnOk P w K mg base CX k f fd ps sp
  gm : mg x = some (.ref f)
  kp : PySem.W.keepIn K (.ref f) = true
  bn : Binds K fd ps []
end
section
variable {ε : Type} {C : Cn ε} {K : PySem.W.Frag} {σ : L2.St} {s : S} {α β γ A R : Type} {D : Ends}
theorem et_frz {tt : TT} {q : SRep α} {p : Addr} {v : V} {d : List α} {m : M ε Bool} (G : Gr C.s0 s) (ho : (oL C.s0 q p).is s v d)
    (h : ∀ t, t.hp = s.hp → Gr C.s0 t → Gx (fun a => a = p) s t → (sL q).r.is t v d → EvT C tt σ t m) : EvT C tt σ s m := fun t g g0 Qm hm Q k => by
  have ho' := ho
  obtain ⟨h1, h2, h3, h4, xs, h5, h6⟩ := ho'
  have ne : s.hp p ≠ none := by rw [h5]; exact fun z => nomatch z
  have gf := frz_gx G.ok h3 h4 h5
  have G1 : Gr C.s0 (frz s p xs) := Gr.gx G gf fun a e => by
    cases e
    exact h2
  have gl := frz_lift g ho h5
  have t3 := (g.fr p (fun z => z) ne).1 h3
  refine h (frz s p xs) rfl G1 gf ⟨p, xs, h1, upd_same, Paired.mono (fun _ _ => q.up gf.st) h6⟩ (frz t p xs) gl (G1.trans gl) _ hm _ fun d' u qd gu => ?_
  exact k d' (unf u p) qd (unf_gr t3 gu)
/-- a new drawing list -/
theorem gr_bag {p : Addr} {i j : Int} (ok : Sok s) (h1 : s.st p = none) (h3 : s.hp p = some (.lst [.int i, .int j])) : Gx (fun a => a = p) s ⟨s.st, s.hp, fun a => a = p ∨ s.bg a⟩ where
  ok := ⟨ok.sub, fun a e => by
    rcases e with rfl | e
    · exact ⟨h1, i, j, h3⟩
    · exact ok.bag a e⟩
  st := Ex.refl _
  hp := fun _ _ _ _ e => e
  bg := fun _ e => Or.inr e
  fr := fun a hx _ => ⟨fun z => z, fun z => z.resolve_left hx⟩
  al := fun _ e => e
theorem paired_ints {H : Hp} : ∀ {xs : List V} {ns : List Int}, Paired (sI.is H) xs ns → xs = ns.map V.int
  | _, _, .nil => rfl
  | _, _, .cons f t => by rw [List.map_cons, ← paired_ints t, (show _ = V.int _ from f)]
theorem ints_paired (H : Hp) : ∀ ns : List Int, Paired (sI.is H) (ns.map V.int) ns
  | [] => .nil
  | _ :: ns => .cons rfl (ints_paired H ns)
theorem paired_bls {H : Hp} : ∀ {xs : List V} {ns : List Bool}, Paired (sB.is H) xs ns → xs = ns.map V.bl
  | _, _, .nil => rfl
  | _, _, .cons f t => by rw [List.map_cons, ← paired_bls t, (show _ = V.bl _ from f)]
/-- [a, b] handed back as a drawing list -/
theorem ev_bag {te : TE} {m : M ε (List Int)} (h : EvN C te σ s sI m) : Ev C te σ s rG (bd m fun l => bd (req (l.length = 2)) fun _ => ret ()) := fun t g g0 Qm hm Q k =>
  h t g g0 _ hm _ fun d p u qd gu hp ho => by
    obtain ⟨h1, h2, h3, h4, xs, h5, h6⟩ := ho
    obtain ⟨hd, qd⟩ := qd
    have e := paired_ints h6
    obtain ⟨i, j, rfl⟩ : ∃ i j, d = [i, j] := by
      match d, hd with
      | [i, j], _ => exact ⟨i, j, rfl⟩
    subst e
    have gb := gr_bag gu.ok h3 h5
    exact k () (.ref p) ⟨u.st, u.hp, fun a => a = p ∨ u.bg a⟩ qd (gu.gx gb fun a e => by cases e; exact hp) ⟨p, rfl, Or.inl rfl⟩
/-! ### built-ins by values -/
abbrev rAbs : List V → Hp → VK → Prop := fun xs H Q => ∃ i, xs = [.int i] ∧ Q (.int (if i < 0 then -i else i)) H
theorem ev_abs {te : TE} {m : M ε Int} (h : Ev C te σ s sI.r m) : Ev C (tCB rAbs (tCons te tNil)) σ s sI.r (bd m fun a => ret (if a < 0 then -a else a)) := fun t g g0 Qm hm Q k =>
  h t g g0 _ hm _ fun d x u qd gu hx => ⟨d, by rw [(show x = .int d from hx)], k _ _ u qd gu rfl⟩
theorem ev_intI {te : TE} {m : M ε Int} (h : Ev C te σ s sI.r m) : Ev C (tCB (fun xs H Q => (∃ i, xs = [.int i] ∧ Q (.int i) H) ∨ ∃ k, xs = [.bl k] ∧ Q (.int (if k then 1 else 0)) H) (tCons te tNil)) σ s sI.r m := fun t g g0 Qm hm Q k =>
  h t g g0 _ hm _ fun d x u qd gu hx => .inl ⟨d, by rw [(show x = .int d from hx)], k _ _ u qd gu rfl⟩
theorem ev_intB {te : TE} {m : M ε Bool} (h : Ev C te σ s sB.r m) : Ev C (tCB (fun xs H Q => (∃ i, xs = [.int i] ∧ Q (.int i) H) ∨ ∃ k, xs = [.bl k] ∧ Q (.int (if k then 1 else 0)) H) (tCons te tNil)) σ s sI.r (bd m fun b => ret (if b then 1 else 0)) := fun t g g0 Qm hm Q k =>
  h t g g0 _ hm _ fun d x u qd gu hx => .inr ⟨d, by rw [(show x = .bl d from hx)], k _ _ u qd gu rfl⟩
theorem ev_min2 {ta tb : TE} {ma mb : M ε Int} (ha : Ev C ta σ s sI.r ma) (hb : Ev C tb σ s sI.r mb) : Ev C (tCB (fun xs H Q => ∃ i j, xs = [.int i, .int j] ∧ Q (.int (if j < i then j else i)) H) (tCons ta (tCons tb tNil))) σ s sI.r (bd ma fun a => bd mb fun b => ret (if b < a then b else a)) := fun t g g0 Qm hm Q k =>
  ha t g g0 _ hm _ fun a x u qa gu hx => hb u (g.trans gu) (g0.trans gu) _ qa _ fun b y w qb gw hy => ⟨a, b, by rw [(show x = .int a from hx), (show y = .int b from hy)], k _ _ w qb (gu.trans gw) rfl⟩
theorem ev_max2 {ta tb : TE} {ma mb : M ε Int} (ha : Ev C ta σ s sI.r ma) (hb : Ev C tb σ s sI.r mb) : Ev C (tCB (fun xs H Q => ∃ i j, xs = [.int i, .int j] ∧ Q (.int (if j > i then j else i)) H) (tCons ta (tCons tb tNil))) σ s sI.r (bd ma fun a => bd mb fun b => ret (if b > a then b else a)) := fun t g g0 Qm hm Q k =>
  ha t g g0 _ hm _ fun a x u qa gu hx => hb u (g.trans gu) (g0.trans gu) _ qa _ fun b y w qb gw hy => ⟨a, b, by rw [(show x = .int a from hx), (show y = .int b from hy)], k _ _ w qb (gu.trans gw) rfl⟩
theorem ev_all {te : TE} {rp : Rep (List Bool)} {m : M ε (List Bool)} (rd : RdL K rp sB) (h : Ev C te σ s rp m) : Ev C (tCB (rAll K) (tCons te tNil)) σ s sB.r (bd m fun l => ret (l.all id)) := fun t g g0 Qm hm Q k =>
  h t g g0 _ hm _ fun d x u qd gu hx => by
    obtain ⟨p, xs, e1, e2, e3⟩ := rd.rd gu.ok hx
    rw [paired_bls e3] at e2
    exact ⟨p, d, by rw [e1], e2, k _ _ u qd gu rfl⟩
theorem ev_any {te : TE} {rp : Rep (List Bool)} {m : M ε (List Bool)} (rd : RdL K rp sB) (h : Ev C te σ s rp m) : Ev C (tCB (rAny K) (tCons te tNil)) σ s sB.r (bd m fun l => ret (l.any id)) := fun t g g0 Qm hm Q k =>
  h t g g0 _ hm _ fun d x u qd gu hx => by
    obtain ⟨p, xs, e1, e2, e3⟩ := rd.rd gu.ok hx
    rw [paired_bls e3] at e2
    exact ⟨p, d, by rw [e1], e2, k _ _ u qd gu rfl⟩
theorem ev_sum {te : TE} {rp : Rep (List Int)} {m : M ε (List Int)} (rd : RdL K rp sI) (h : Ev C te σ s rp m) : Ev C (tCB (rSum K) (tCons te tNil)) σ s sI.r (bd m fun l => ret l.sum) := fun t g g0 Qm hm Q k =>
  h t g g0 _ hm _ fun d x u qd gu hx => by
    obtain ⟨p, xs, e1, e2, e3⟩ := rd.rd gu.ok hx
    rw [paired_ints e3] at e2
    exact ⟨p, d, by rw [e1], e2, k _ _ u qd gu rfl⟩
/-! ### isinstance with a built-in class -/
/-- what a value's type is -/
def OfTy (K : PySem.W.Frag) (r : Rep α) (T : String) : Prop := ∀ s v d, Sok s → r.is s v d → TyX K s.hp v (.type T)
theorem oty_I : OfTy K sI.r "int" := fun s v d _ h => by
  cases (show v = .int d from h)
  exact .base (.int d)
theorem oty_B : OfTy K sB.r "bool" := fun s v d _ h => by
  cases (show v = .bl d from h)
  exact .base (.bl d)
theorem oty_S : OfTy K sS.r "str" := fun s v d _ h => by
  cases (show v = .str d from h)
  exact .base (.str d)
theorem oty_U : OfTy K sU.r "NoneType" := fun s v d _ h => by
  cases (show v = .non from h)
  exact .base .non
theorem oty_L {r : SRep α} : OfTy K (sL r).r "list" := fun s v d ok h => by
  obtain ⟨p, xs, rfl, h2, h3⟩ := h
  exact .base (.lst (ok.sub _ _ h2))
theorem oty_own {s0 : S} {r : SRep α} {p : Addr} : OfTy K (oL s0 r p) "list" := fun s v d ok h => by
  obtain ⟨rfl, _, _, _, xs, h5, h6⟩ := h
  exact .base (.lst h5)
/-- tuples of the run's own -/
def sTs {α : Type} (r : SRep α) : SRep (List α) :=
  ⟨fun H v d => ∃ p xs, v = .ref p ∧ H p = some (.tup xs) ∧ Paired (r.is H) xs d, fun e h => by
    obtain ⟨p, xs, h1, h2, h3⟩ := h
    exact ⟨p, xs, h1, e _ _ h2, Paired.mono (fun _ _ => r.up e) h3⟩⟩
abbrev rIs (K : PySem.W.Frag) := rIsi K
theorem ev_isi {te : TE} {r : Rep α} {m : M ε α} {T U : String} {b : Bool} (ho : OfTy K r T) (hk : kitB T U = some b) (h : Ev C te σ s r m) : Ev C (tCB (rIsi K) (tCons te (tCons (tC (.ty U)) tNil))) σ s sB.r (bd m fun _ => ret b) := fun t g g0 Qm hm Q k =>
  h t g g0 _ hm _ fun d x u qd gu hx => ⟨x, .ty U, .type T, .type U, b, rfl, .ty U, ho u x d gu.ok hx, kit_ty hk, k _ _ u qd gu rfl⟩
theorem kt_tup {H : Hp} {p : Addr} {xs : List V} (h : SqT K H p xs) : TyX K H (.ref p) (.type "tuple") := by
  rcases h with (h | ⟨o, h⟩) | ⟨o, its, n, h1, h2, _⟩
  · exact .base (.tup h)
  · exact .fTuple h
  · exact .kTuple h1 h2
theorem oty_T {r : SRep α} : OfTy K (sT K r).r "tuple" := fun s v d ok h => by
  obtain ⟨p, xs, rfl, h2, h3⟩ := h
  exact kt_tup (ex_t ok.sub h2)
theorem oty_P {r : SRep α} {q : SRep β} : OfTy K (sP K r q).r "tuple" := fun s v d ok h => by
  obtain ⟨p, x, y, rfl, h2, h3⟩ := h
  exact kt_tup (ex_t ok.sub h2)
theorem oty_P3 {r : SRep α} {q : SRep β} {z : SRep γ} : OfTy K (sP3 K r q z).r "tuple" := fun s v d ok h => by
  obtain ⟨p, x, y, w, rfl, h2, h3⟩ := h
  exact kt_tup (ex_t ok.sub h2)
theorem ev_lenP {tl : TE} {r : SRep α} {q : SRep β} {m : M ε (α × β)} (hl : Ev C tl σ s (sP K r q).r m) :
    Ev C (tCB (fun xs H Q => ∃ p ys, xs = [.ref p] ∧ (SqL K H p ys ∨ SqT K H p ys) ∧ Q (.int ys.length) H) (tCons tl tNil)) σ s sI.r (bd m fun _ => ret (2 : Int)) := fun t g g0 Qm hm Q k =>
  hl t g g0 _ hm _ fun l x u ql gu hx => by
    obtain ⟨p, a, b, e1, e2, e3⟩ := hx
    exact ⟨p, [a, b], by rw [e1], .inr (ex_t gu.ok.sub e2), k _ _ u ql gu rfl⟩
/-- a drawing list changed -/
theorem bag_gr {p : Addr} {i j : Int} (ok : Sok s) (h : s.bg p) : Gr s (wr s p (.lst [.int i, .int j])) where
  ok := ⟨fun a u e => by
    have hne : a ≠ p := fun z => by
      have e' : s.st a = some u := e
      rw [z, (ok.bag p h).1] at e'
      cases e'
    show upd s.hp p _ a = some u
    rw [upd_ne hne]
    exact ok.sub a u e, fun a e => by
    obtain ⟨e1, i', j', e2⟩ := ok.bag a e
    refine ⟨e1, ?_⟩
    by_cases hh : a = p
    · subst hh
      exact ⟨i, j, upd_same⟩
    · refine ⟨i', j', ?_⟩
      show upd s.hp p _ a = _
      rw [upd_ne hh]
      exact e2⟩
  st := Ex.refl _
  hp := fun a u _ hb e => by
    show upd s.hp p _ a = some u
    rw [upd_ne (fun z => hb (by rw [z]; exact h))]
    exact e
  bg := fun _ e => e
  fr := fun _ _ _ => ⟨fun z => z, fun z => z⟩
  al := fun a e => by
    show upd s.hp p _ a ≠ none
    by_cases hh : a = p
    · subst hh
      rw [upd_same]
      exact fun z => nomatch z
    · rw [upd_ne hh]
      exact e
/-! ### == of data -/
structure Enc (K : PySem.W.Frag) {α : Type} (r : SRep α) [DecidableEq α] where
  enc : α → PyData
  dp : ∀ {H v d}, r.is H v d → Dp K H v (enc d)
  lay : ∀ d, (enc d).canLay0 = true
  n : Nat
  dep : ∀ d, (enc d).depth ≤ n
  eqv : ∀ a b, PyData.eqv (enc a) (enc b) = decide (a = b)
theorem dpAll_of {H : Hp} {r : SRep α} {enc : α → PyData} (h : ∀ {v d}, r.is H v d → Dp K H v (enc d)) : ∀ {xs : List V} {ds : List α}, Paired (r.is H) xs ds → DpAll K H xs (ds.map enc)
  | _, _, .nil => .nil
  | _, _, .cons f t => .cons (h f) (dpAll_of h t)
theorem layAll_of {enc : α → PyData} (h : ∀ d, (enc d).canLay0 = true) : ∀ ds : List α, PyData.canLayAll0 (ds.map enc) = true
  | [] => by simp [PyData.canLayAll0]
  | d :: ds => by simp [PyData.canLayAll0, h d, layAll_of h ds]
theorem depAll_of {enc : α → PyData} {n : Nat} (h : ∀ d, (enc d).depth ≤ n) : ∀ ds : List α, PyData.depthAll (ds.map enc) ≤ n
  | [] => by simp [PyData.depthAll]
  | d :: ds => by
    have h1 := h d
    have h2 := depAll_of h ds
    simp only [List.map_cons, PyData.depthAll]
    omega
theorem eqvAll_of [DecidableEq α] {enc : α → PyData} (h : ∀ a b, PyData.eqv (enc a) (enc b) = decide (a = b)) : ∀ xs ys : List α, PyData.eqvAll (xs.map enc) (ys.map enc) = decide (xs = ys)
  | [], [] => by simp [PyData.eqvAll]
  | [], _ :: _ => by simp [PyData.eqvAll]
  | _ :: _, [] => by simp [PyData.eqvAll]
  | x :: xs, y :: ys => by
    simp only [List.map_cons, PyData.eqvAll, h, eqvAll_of h xs ys]
    by_cases e : x = y <;> by_cases e2 : xs = ys <;> simp [e, e2]
def enc_I : Enc K sI := ⟨.int, fun {H v d} h => by
  cases (show v = .int d from h)
  exact .int d, fun _ => by simp [PyData.canLay0], 0, fun _ => by simp [PyData.depth], fun a b => by simp only [PyData.eqv]; exact Bool.beq_eq_decide_eq a b⟩
def enc_B : Enc K sB := ⟨.bool, fun {H v d} h => by
  cases (show v = .bl d from h)
  exact .bl d, fun _ => by simp [PyData.canLay0], 0, fun _ => by simp [PyData.depth], fun a b => by simp only [PyData.eqv]; exact Bool.beq_eq_decide_eq a b⟩
def enc_L {r : SRep α} [DecidableEq α] (e : Enc K r) : Enc K (sL r) := ⟨fun l => .list (l.map e.enc), fun {H v d} h => by
  obtain ⟨p, xs, rfl, h2, h3⟩ := h
  exact .lst (sqL_of h2) (dpAll_of (fun q => e.dp q) h3), fun l => by simp only [PyData.canLay0]; exact layAll_of e.lay l, e.n + 1, fun l => by
  have := depAll_of e.dep l
  simp only [PyData.depth]
  omega, fun a b => by simp only [PyData.eqv]; exact eqvAll_of e.eqv a b⟩
def enc_T {r : SRep α} [DecidableEq α] (e : Enc K r) : Enc K (sT K r) := ⟨fun l => .tuple (l.map e.enc), fun {H v d} h => by
  obtain ⟨p, xs, rfl, h2, h3⟩ := h
  exact .tup h2 (dpAll_of (fun q => e.dp q) h3), fun l => by simp only [PyData.canLay0]; exact layAll_of e.lay l, e.n + 1, fun l => by
  have := depAll_of e.dep l
  simp only [PyData.depth]
  omega, fun a b => by simp only [PyData.eqv]; exact eqvAll_of e.eqv a b⟩
def enc_P {r : SRep α} {q : SRep β} [DecidableEq α] [DecidableEq β] (e : Enc K r) (f : Enc K q) : Enc K (sP K r q) := ⟨fun d => .tuple [e.enc d.1, f.enc d.2], fun {H v d} h => by
  obtain ⟨p, x, y, rfl, h2, h3, h4⟩ := h
  exact .tup h2 (.cons (e.dp h3) (.cons (f.dp h4) .nil)), fun d => by simp [PyData.canLay0, PyData.canLayAll0, e.lay, f.lay], max e.n f.n + 1, fun d => by
  have h1 := e.dep d.1
  have h2 := f.dep d.2
  simp only [PyData.depth, PyData.depthAll]
  omega, fun a b => by
  simp only [PyData.eqv, PyData.eqvAll, e.eqv, f.eqv]
  obtain ⟨a1, a2⟩ := a
  obtain ⟨b1, b2⟩ := b
  by_cases h1 : a1 = b1 <;> by_cases h2 : a2 = b2 <;> simp [h1, h2]⟩
/-- a value that is data -/
def DpR [DecidableEq α] (K : PySem.W.Frag) (rp : Rep α) (enc : α → PyData) : Prop := ∀ s v d, Sok s → rp.is s v d → Dp K s.hp v (enc d)
theorem dpr_st {r : SRep α} [DecidableEq α] (e : Enc K r) : DpR K r.r e.enc := fun s v d ok h => e.dp (r.up ok.sub h)
theorem dpr_own {r : SRep α} [DecidableEq α] (e : Enc K r) {s0 : S} {p : Addr} : DpR K (oL s0 r p) (enc_L e).enc := fun s v d ok h => by
  obtain ⟨rfl, _, _, _, xs, h5, h6⟩ := h
  exact .lst (sqL_of h5) (dpAll_of (fun q => e.dp q) (Paired.mono (fun _ _ => r.up ok.sub) h6))
theorem shaped_of {r : SRep α} [DecidableEq α] (e : Enc K r) (hn : e.n ≤ 64) (d : α) : SeqAt.shaped (e.enc d) = true := by
  unfold SeqAt.shaped
  rw [e.lay d, Bool.true_and]
  exact decide_eq_true (Nat.le_trans (e.dep d) hn)
theorem ev_eqD {ta tb : TE} {ra rb : Rep α} {r : SRep α} [DecidableEq α] (e : Enc K r) {ma mb : M ε α} (da : DpR K ra e.enc) (db : DpR K rb e.enc) (hn : e.n ≤ 64) (ha : Ev C ta σ s ra ma) (hb : Ev C tb σ s rb mb) :
    Ev C (tOp (rEqD K) ta tb) σ s sB.r (bd ma fun a => bd mb fun b => ret (decide (a = b))) := fun t g g0 Qm hm Q k =>
  ha t g g0 _ hm _ fun a x u qa gu hx => hb u (g.trans gu) (g0.trans gu) _ qa _ fun b y w qb gw hy =>
    ⟨e.enc a, e.enc b, da w x a gw.ok (Rep.u gw hx), db w y b gw.ok hy, shaped_of e hn a, shaped_of e hn b, by rw [e.eqv]; exact k _ _ w qb (gu.trans gw) rfl⟩
theorem ev_neD {ta tb : TE} {ra rb : Rep α} {r : SRep α} [DecidableEq α] (e : Enc K r) {ma mb : M ε α} (da : DpR K ra e.enc) (db : DpR K rb e.enc) (hn : e.n ≤ 64) (ha : Ev C ta σ s ra ma) (hb : Ev C tb σ s rb mb) :
    Ev C (tOp (rNeD K) ta tb) σ s sB.r (bd ma fun a => bd mb fun b => ret (!decide (a = b))) := fun t g g0 Qm hm Q k =>
  ha t g g0 _ hm _ fun a x u qa gu hx => hb u (g.trans gu) (g0.trans gu) _ qa _ fun b y w qb gw hy =>
    ⟨e.enc a, e.enc b, da w x a gw.ok (Rep.u gw hx), db w y b gw.ok hy, shaped_of e hn a, shaped_of e hn b, by rw [e.eqv]; exact k _ _ w qb (gu.trans gw) rfl⟩
/-! ### in, index, sorted of ints -/
theorem inV_ints (x : Int) : ∀ ns : List Int, inV (.int x) (ns.map V.int) = decide (x ∈ ns)
  | [] => by simp [inV]
  | n :: ns => by
    have ih := inV_ints x ns
    unfold inV at ih ⊢
    rw [List.map_cons, List.any_cons, ih]
    by_cases h : n = x
    · subst h
      simp [eqV]
    · have h' : ¬ x = n := fun z => h z.symm
      simp [eqV, h, h']
theorem flat_ints : ∀ ns : List Int, (ns.map V.int).all flatV = true
  | [] => rfl
  | n :: ns => by simp [flatV]
theorem ev_inL {ta tb : TE} {rp : Rep (List Int)} {ma : M ε Int} {mb : M ε (List Int)} (rd : RdL K rp sI) (ha : Ev C ta σ s sI.r ma) (hb : Ev C tb σ s rp mb) :
    Ev C (tOp (rIn K false) ta tb) σ s sB.r (bd ma fun a => bd mb fun b => ret (decide (a ∈ b))) := fun t g g0 Qm hm Q k =>
  ha t g g0 _ hm _ fun a x u qa gu hx => hb u (g.trans gu) (g0.trans gu) _ qa _ fun b y w qb gw hy => by
    obtain ⟨p, xs, e1, e2, e3⟩ := rd.rd gw.ok hy
    have e := paired_ints e3
    subst e
    cases (show x = .int a from hx)
    refine ⟨p, b.map V.int, e1, .inl e2, rfl, flat_ints b, ?_⟩
    rw [inV_ints]
    exact k _ _ w qb (gu.trans gw) rfl
theorem ev_niL {ta tb : TE} {rp : Rep (List Int)} {ma : M ε Int} {mb : M ε (List Int)} (rd : RdL K rp sI) (ha : Ev C ta σ s sI.r ma) (hb : Ev C tb σ s rp mb) :
    Ev C (tOp (rIn K true) ta tb) σ s sB.r (bd ma fun a => bd mb fun b => ret (!decide (a ∈ b))) := fun t g g0 Qm hm Q k =>
  ha t g g0 _ hm _ fun a x u qa gu hx => hb u (g.trans gu) (g0.trans gu) _ qa _ fun b y w qb gw hy => by
    obtain ⟨p, xs, e1, e2, e3⟩ := rd.rd gw.ok hy
    have e := paired_ints e3
    subst e
    cases (show x = .int a from hx)
    refine ⟨p, b.map V.int, e1, .inl e2, rfl, flat_ints b, ?_⟩
    rw [inV_ints]
    exact k _ _ w qb (gu.trans gw) rfl
end
end Y

namespace Y
/-! ### reckoning with the mirrors -/
section
variable {ε α β γ A R : Type} {E : ε → Prop}
theorem forS_inv {xs : List α} {a0 : A} {body : α → A → M ε A} {Q : A → Prop} (J : Nat → A → Prop) (h0 : J 0 a0)
    (hs : ∀ i x a (R : A → Prop), xs[i]? = some x → J i a → (∀ a', J (i + 1) a' → R a') → body x a R E) (hq : ∀ a, J xs.length a → Q a) : forS xs a0 body Q E := by
  induction xs generalizing a0 J with
  | nil => exact hq a0 h0
  | cons x xs ih =>
    refine hs 0 x a0 _ rfl h0 fun a' ha' => ?_
    exact ih (fun i => J (i + 1)) ha' (fun i x a R hx => hs (i + 1) x a R (by simpa using hx)) hq
theorem forC_inv {xs : List α} {a0 : A} {body : α → A → M ε (Ctl A R)} {Q : Ctl A R → Prop} (J : Nat → A → Prop) (h0 : J 0 a0)
    (hs : ∀ i x a (T : Ctl A R → Prop), xs[i]? = some x → J i a → (∀ a', J (i + 1) a' → T (.nx a')) → (∀ r, Q (.rt r) → T (.rt r)) → body x a T E) (hq : ∀ a, J xs.length a → Q (.nx a)) : forC xs a0 body Q E := by
  induction xs generalizing a0 J with
  | nil => exact hq a0 h0
  | cons x xs ih =>
    refine hs 0 x a0 _ rfl h0 (fun a' ha' => ?_) fun r hr => hr
    exact ih (fun i => J (i + 1)) ha' (fun i x a T hx => hs (i + 1) x a T (by simpa using hx)) hq
theorem wh_inv {a0 : A} {c : A → M ε Bool} {b : A → M ε A} {Q : A → Prop} (J : A → Prop) (μ : A → Nat) (h0 : J a0)
    (step : ∀ a, J a → ∀ T : A → Prop, (∀ a', J a' → μ a' < μ a → T a') → c a (fun t => (t = true → b a T E) ∧ (t = false → Q a)) E) : wh c b a0 Q E := by
  have key : ∀ n a, J a → μ a < n → whN c b n a Q E := by
    intro n
    induction n with
    | zero => intro a _ h; omega
    | succ n ih =>
      intro a ha hn
      have h := step a ha (fun a' => whN c b n a' Q E) (fun a' ha' hlt => ih a' ha' (by omega))
      have e : (fun t => (t = true → b a (fun a' => whN c b n a' Q E) E) ∧ (t = false → Q a)) = fun t : Bool => (if t = true then bd (b a) (whN c b n) else ret a) Q E := by
        funext t
        refine propext ?_
        cases t with
        | true => exact ⟨fun z => z.1 rfl, fun z => ⟨fun _ => z, fun z => by cases z⟩⟩
        | false => exact ⟨fun z => z.2 rfl, fun z => ⟨(fun z => by cases z), fun _ => z⟩⟩
      rw [e] at h
      exact h
  exact ⟨μ a0 + 1, key _ a0 h0 (Nat.lt_succ_self _)⟩
theorem ite_M {p : Prop} [Decidable p] {m1 m2 : M ε α} {Q : α → Prop} (h1 : p → m1 Q E) (h2 : ¬ p → m2 Q E) : (if p then m1 else m2) Q E := by
  by_cases h : p
  · rw [if_pos h]; exact h1 h
  · rw [if_neg h]; exact h2 h
theorem iteB_M {p : Prop} [Decidable p] {m1 m2 : M ε α} {Q : α → Prop} (h1 : p → m1 Q E) (h2 : ¬ p → m2 Q E) : (if decide p = true then m1 else m2) Q E := by
  by_cases h : p
  · rw [if_pos (decide_eq_true h)]; exact h1 h
  · rw [if_neg (by simp [h])]; exact h2 h
theorem iteN_M {p : Prop} [Decidable p] {m1 m2 : M ε α} {Q : α → Prop} (h1 : ¬ p → m1 Q E) (h2 : p → m2 Q E) : (if (!decide p) = true then m1 else m2) Q E := by
  by_cases h : p
  · rw [if_neg (by simp [h])]; exact h2 h
  · rw [if_pos (by simp [h])]; exact h1 h
theorem iteb_M {b : Bool} {m1 m2 : M ε α} {Q : α → Prop} (h1 : b = true → m1 Q E) (h2 : b = false → m2 Q E) : (if b = true then m1 else m2) Q E := by
  cases b with
  | true => exact h1 rfl
  | false => exact h2 rfl
theorem itenb_M {b : Bool} {m1 m2 : M ε α} {Q : α → Prop} (h1 : b = false → m1 Q E) (h2 : b = true → m2 Q E) : (if (!b) = true then m1 else m2) Q E := by
  cases b with
  | true => exact h2 rfl
  | false => exact h1 rfl
/-! the single steps -/
theorem dv_M {a b : Int} {Q : Int → Prop} (hb : 0 < b) (hl : b.natAbs.log2 < 9000) (h : Q (a / b)) : dv (ε := ε) a b Q E := by
  refine ⟨⟨by omega, hl⟩, ?_⟩
  rw [Int.fdiv_eq_ediv_of_nonneg a (by omega)]
  exact h
theorem md_M {a b : Int} {Q : Int → Prop} (hb : 0 < b) (h : Q (a % b)) : md (ε := ε) a b Q E := by
  refine ⟨by omega, ?_⟩
  rw [Int.fmod_eq_emod_of_nonneg a (by omega)]
  exact h
theorem log2_lt {n k : Nat} (hk : 0 < k) (h : n < 2 ^ k) : n.log2 < k := by
  by_cases h0 : n = 0
  · subst h0; simpa using hk
  · exact (Nat.log2_lt h0).mpr h
theorem ml_M {a b : Int} {Q : Int → Prop} (k l : Nat) (hk : 0 < k) (hl : 0 < l) (hkl : k + l ≤ 1000000) (ha : a.natAbs < 2 ^ k) (hb : b.natAbs < 2 ^ l) (h : Q (a * b)) : ml (ε := ε) a b Q E := by
  refine ⟨?_, h⟩
  have h1 := log2_lt hk ha
  have h2 := log2_lt hl hb
  unfold L2.CMulW
  omega
theorem app_M {xs : List α} {v : α} {Q : List α → Prop} (hn : xs.length < 100000) (h : Q (xs ++ [v])) : app (ε := ε) xs v Q E := ⟨hn, h⟩
end
end Y
namespace Y
section
variable {ε α β γ A R : Type} {E : ε → Prop}
theorem bd_a {m : M ε α} {f : α → M ε β} {Q : β → Prop} : bd m f Q E = m (fun a => f a Q E) E := rfl
theorem ret_a {a : α} {Q : α → Prop} : (ret a : M ε α) Q E = Q a := rfl
theorem lft_a {m : M Empty α} {Q : α → Prop} : (lft m : M ε α) Q E = m Q noE := rfl
theorem onC_n {f : A → M ε γ} {g : R → M ε γ} {a : A} : onC f g (.nx a) = f a := rfl
theorem onC_r {f : A → M ε γ} {g : R → M ε γ} {a : R} : onC f g (.rt a) = g a := rfl
theorem ite_a {c : Prop} [Decidable c] {m1 m2 : M ε α} {Q : α → Prop} : (if c then m1 else m2) Q E = if c then m1 Q E else m2 Q E := by
  by_cases h : c
  · rw [if_pos h, if_pos h]
  · rw [if_neg h, if_neg h]
theorem ite_P {c A B : Prop} [Decidable c] (h1 : c → A) (h2 : ¬ c → B) : if c then A else B := by
  by_cases h : c
  · rw [if_pos h]; exact h1 h
  · rw [if_neg h]; exact h2 h
theorem req_a {p : Prop} {Q : Unit → Prop} : (req p : M ε Unit) Q E = (p ∧ Q ()) := rfl
end
end Y

namespace K01
open PySem PySem.Spec PyProof.Rows L2 Y
def Mi.factored (number : Int) : M Empty (List (Int × Int)) :=
 (bd (ret []) fun factors =>
 (bd (ret number) fun rest =>
 (bd (ret (2 : Int)) fun prime =>
 (bd (wh (fun (factors, rest, prime) => (bd (ml prime prime) fun x14 => (ret (decide (x14 ≤ rest))))) (fun (factors, rest, prime) =>
 (bd (ret (0 : Int)) fun exponent =>
 (bd (wh (fun (rest, exponent) => (bd (md rest prime) fun x23 => (ret (decide (x23 = (0 : Int)))))) (fun (rest, exponent) =>
 (bd (dv rest prime) fun rest =>
 (bd (ret (exponent + (1 : Int))) fun exponent =>
 (ret (rest, exponent))))) (rest, exponent)) fun (rest, exponent) =>
 (bd (ret (decide ((0 : Int) < exponent))) fun b31 => bd (if b31 = true then
 (bd (app factors (prime, exponent)) fun factors =>
 (ret factors))
 else
 (ret factors)) (fun factors =>
 (bd (ret (prime + (1 : Int))) fun prime =>
 (ret (factors, rest, prime)))))))) (factors, rest, prime)) fun (factors, rest, prime) =>
 (bd (ret (decide ((1 : Int) < rest))) fun b40 => bd (if b40 = true then
 (bd (app factors (rest, (1 : Int))) fun factors =>
 (ret factors))
 else
 (ret factors)) (fun factors =>
 (ret factors)))))))

def Mi.is_prime (number : Int) : M Empty Bool :=
 (bd (ret (decide (number < (2 : Int)))) fun b4 => if b4 = true then
 (ret false)
 else
 (bd (lft (Mi.factored number)) fun x5 => (ret (decide (x5 = [(number, (1 : Int))])))))

def Mi._law_bag (script : (List Int)) (k : Int) : M Empty Unit :=
 (bd (ret (0 : Int)) fun cell =>
 (bd (ret (decide (k < ((script).length : Int)))) fun b6 => bd (if b6 = true then
 (bd (ix script k) fun cell =>
 (ret cell))
 else
 (ret cell)) (fun cell =>
 (bd (bd (pw (10 : Int) (18 : Int)) fun x10 => (ret (decide (x10 ≤ (if cell < 0 then -cell else cell))))) fun b14 => if b14 = true then
 (bd (bd (md (if cell < 0 then -cell else cell) (2147483629 : Int)) fun x15 => (ret [(if cell < 0 then -cell else cell), x15])) fun l => bd (req (l.length = 2)) fun _ => ret ())
 else
 (bd (bd (bd (bd (ml cell (48271 : Int)) fun x16 => (bd (ml (907 : Int) (k + (1 : Int))) fun x17 => (ret (x16 + x17)))) fun x18 => (md x18 (2147483647 : Int))) fun x19 => (ret [(0 : Int), x19])) fun l => bd (req (l.length = 2)) fun _ => ret ())))))

def Mi._law_take (_ : Unit) (size : Int) : M Empty Int := fun Q _ => (0 < size ∧ size.natAbs.log2 < 9000) ∧ ∀ r : Int, 0 ≤ r → r < size → Q r

def Mi._law_is_integer (told : Int) : M Empty Bool :=
 (bd (ret true) fun b1 => if b1 = true then (ret (!false)) else ret false)

def Mi._law_prime (number : Int) : M Empty Bool :=
 (bd (ret (decide (number < (2 : Int)))) fun b4 => if b4 = true then
 (ret false)
 else
 (bd (rng (2 : Int) (1001 : Int)) fun l18 => (bd (forC l18 () (fun divisor _ =>
 (bd (bd (ml divisor divisor) fun x8 => (ret (decide (number < x8)))) fun b12 => if b12 = true then
 (bd (ret true) fun d => ret (.rt d))
 else
 (bd (bd (md number divisor) fun x13 => (ret (decide (x13 = (0 : Int))))) fun b17 => if b17 = true then
 (bd (ret false) fun d => ret (.rt d))
 else
 (ret (.nx ())))))) (onC (fun _ =>
 (ret true)) (fun d => ret d)))))

def Mi._law_prime_below (number : Int) : M Empty Int :=
 (bd (ret number) fun result =>
 (bd (rng 0 (160 : Int)) fun l14 => (bd (forS l14 result (fun step result =>
 (bd (bd (lft (Mi._law_prime result)) fun x6 => (ret (!x6))) fun b10 => bd (if b10 = true then
 (bd (ret (result - (1 : Int))) fun result =>
 (ret result))
 else
 (ret result)) (fun result =>
 (ret result))))) (fun result =>
 (ret result)))))

def Mi._law_number (bag : Unit) : M Empty Int :=
 (bd (lft (Mi._law_take () (10 : Int))) fun kind =>
 (bd (ret (decide (kind = (0 : Int)))) fun b6 => if b6 = true then
 (bd (lft (Mi._law_take () (1000000 : Int))) fun x7 => (ret ((1 : Int) + x7)))
 else
 (bd (ret (decide (kind = (1 : Int)))) fun b11 => if b11 = true then
 (bd (bd (lft (Mi._law_take () (999999 : Int))) fun x12 => (ret ((2 : Int) + x12))) fun x13 => (lft (Mi._law_prime_below x13)))
 else
 (bd (ret (decide (kind = (2 : Int)))) fun b17 => if b17 = true then
 (bd (bd (lft (Mi._law_take () (1000 : Int))) fun x18 => (ret ((1 : Int) + x18))) fun first =>
 (bd (bd (bd (dv (1000000 : Int) first) fun x21 => (lft (Mi._law_take () x21))) fun x22 => (ret ((1 : Int) + x22))) fun second =>
 (bd (ml first second) fun x28 => (bd (bd (bd (bd (ml first second) fun x25 => (dv (1000000 : Int) x25)) fun x26 => (lft (Mi._law_take () x26))) fun x27 => (ret ((1 : Int) + x27))) fun x29 => (ml x28 x29)))))
 else
 (bd (ret (decide (kind = (3 : Int)))) fun b33 => if b33 = true then
 (bd (lft (Mi._law_take () (30 : Int))) fun x34 => (ret ((1 : Int) + x34)))
 else
 (bd (ret (decide (kind = (4 : Int)))) fun b38 => if b38 = true then
 (bd (lft (Mi._law_take () (40 : Int))) fun x39 => (ret ((1000000 : Int) - x39)))
 else
 (bd (ret (decide (kind = (5 : Int)))) fun b43 => if b43 = true then
 (bd (bd (lft (Mi._law_take () (30 : Int))) fun x44 => (ret ((2 : Int) + x44))) fun base =>
 (bd (ret (1 : Int)) fun result =>
 (bd (bd (bd (lft (Mi._law_take () (19 : Int))) fun x49 => (ret ((1 : Int) + x49))) fun x50 => (rng 0 x50)) fun l62 => (bd (forS l62 result (fun step result =>
 (bd (bd (ml result base) fun x54 => (ret (decide (x54 ≤ (1000000 : Int))))) fun b58 => bd (if b58 = true then
 (bd (ml result base) fun result =>
 (ret result))
 else
 (ret result)) (fun result =>
 (ret result))))) (fun result =>
 (ret result))))))
 else
 (bd (ret (decide (kind = (6 : Int)))) fun b66 => if b66 = true then
 (bd (bd (bd (lft (Mi._law_take () (998 : Int))) fun x67 => (ret ((2 : Int) + x67))) fun x68 => (lft (Mi._law_prime_below x68))) fun base =>
 (bd (ml base base) fun x74 => (bd (bd (bd (bd (ml base base) fun x71 => (dv (1000000 : Int) x71)) fun x72 => (lft (Mi._law_take () x72))) fun x73 => (ret ((1 : Int) + x73))) fun x75 => (ml x74 x75))))
 else
 (bd (ret (decide (kind = (7 : Int)))) fun b79 => if b79 = true then
 (bd (bd (bd (lft (Mi._law_take () (98 : Int))) fun x80 => (ret ((2 : Int) + x80))) fun x81 => (lft (Mi._law_prime_below x81))) fun base =>
 (bd (bd (ml base base) fun x84 => (ml x84 base)) fun x89 => (bd (bd (bd (bd (bd (ml base base) fun x85 => (ml x85 base)) fun x86 => (dv (1000000 : Int) x86)) fun x87 => (lft (Mi._law_take () x87))) fun x88 => (ret ((1 : Int) + x88))) fun x90 => (ml x89 x90))))
 else
 (bd (ret (decide (kind = (8 : Int)))) fun b94 => if b94 = true then
 (bd (bd (bd (lft (Mi._law_take () (700 : Int))) fun x95 => (ret ((3 : Int) + x95))) fun x96 => (lft (Mi._law_prime_below x96))) fun base =>
 (bd (bd (bd (ml (2 : Int) base) fun x99 => (ret (x99 - (1 : Int)))) fun x100 => (lft (Mi._law_prime_below x100))) fun x101 => (ml base x101)))
 else
 (bd (bd (bd (lft (Mi._law_take () (8 : Int))) fun x102 => (ret ((1 : Int) + x102))) fun x103 => (ml (6 : Int) x103)) fun base =>
 (bd (bd (bd (ml (2 : Int) base) fun x106 => (ret (x106 + (1 : Int)))) fun x107 => (ml (base + (1 : Int)) x107)) fun x109 => (bd (bd (ml (3 : Int) base) fun x108 => (ret (x108 + (1 : Int)))) fun x110 => (ml x109 x110))))))))))))))

def Mi._law_negative (bag : Unit) : M Empty Int :=
 (bd (bd (lft (Mi._law_take () (4 : Int))) fun x1 => (ret (decide (x1 = (0 : Int))))) fun b5 => if b5 = true then
 (bd (bd (pw (10 : Int) (39 : Int)) fun x6 => (ret (-x6))) fun x7 => (bd (lft (Mi._law_take () (1000000 : Int))) fun x8 => (ret (x7 - x8))))
 else
 (bd (lft (Mi._law_take () (1000000 : Int))) fun x9 => (ret ((-(1 : Int)) - x9))))

def Mi._law_holds (told : (List (Int × Int))) (number : Int) : M Empty Bool :=
 (bd (bd (ret (!true)) fun b1 => if b1 = true then ret true else (ret (decide ((7 : Int) < ((told).length : Int))))) fun b5 => if b5 = true then
 (ret false)
 else
 (bd (ret (1 : Int)) fun product =>
 (bd (ret (1 : Int)) fun last =>
 (bd (ret told) fun l45 => (bd (forC l45 (product, last) (fun pair (product, last) =>
 (bd (bd (ret (!true)) fun b13 => if b13 = true then ret true else (ret (!decide ((2 : Int) = (2 : Int))))) fun b17 => if b17 = true then
 (bd (ret false) fun d => ret (.rt d))
 else
 (bd (bd (bd (lft (Mi._law_is_integer (pair).1)) fun x18 => (ret (!x18))) fun b20 => if b20 = true then ret true else (bd (lft (Mi._law_is_integer (pair).2)) fun x19 => (ret (!x19)))) fun b24 => if b24 = true then
 (bd (ret false) fun d => ret (.rt d))
 else
 (bd (bd (ret (decide ((pair).1 ≤ last))) fun b27 => if b27 = true then ret true else (bd (ret (decide ((1000000 : Int) < (pair).1))) fun b26 => if b26 = true then ret true else (bd (ret (decide ((pair).2 < (1 : Int)))) fun b25 => if b25 = true then ret true else (ret (decide ((20 : Int) < (pair).2)))))) fun b31 => if b31 = true then
 (bd (ret false) fun d => ret (.rt d))
 else
 (bd (bd (lft (Mi._law_prime (pair).1)) fun x32 => (ret (!x32))) fun b36 => if b36 = true then
 (bd (ret false) fun d => ret (.rt d))
 else
 (bd (rng 0 (pair).2) fun l44 => (bd (forS l44 product (fun step product =>
 (bd (ml product (pair).1) fun product =>
 (ret product)))) (fun product =>
 (bd (ret (pair).1) fun last =>
 (ret (.nx (product, last))))))))))))) (onC (fun (product, last) =>
 (ret (decide (product = number)))) (fun d => ret d)))))))

def Mi._law_judged (number : Int) : M Empty Bool :=
 (bd (lft (Mi.is_prime number)) fun told =>
 (bd (ret true) fun b4 => if b4 = true then (bd (lft (Mi._law_prime number)) fun x3 => (ret (told == x3))) else ret false))

def Mi.law (script : (List Int)) : M Empty Bool :=
 (bd (ret [(1 : Int)]) fun numbers =>
 (bd (lrg (-(6 : Int)) (31 : Int)) fun others =>
 (bd (rng 0 ((1 : Int) + (if (3 : Int) < ((script).length : Int) then (3 : Int) else ((script).length : Int)))) fun l64 => (bd (forS l64 (numbers, others) (fun k (numbers, others) =>
 (bd (lft (Mi._law_bag script k)) fun bag =>
 (bd (lft (Mi._law_number ())) fun number =>
 (bd (app numbers number) fun numbers =>
 (bd (bd (bd (lft (Mi._law_negative ())) fun x15 => (ret [number, (-number), ((1000001 : Int) - number), x15])) fun x16 => (cat others x16)) fun others =>
 (ret (numbers, others)))))))) (fun (numbers, others) =>
 (bd (ret numbers) fun l63 => (bd (forC l63 () (fun number _ =>
 (bd (lft (Mi.factored number)) fun told =>
 (bd (bd (lft (Mi._law_holds told number)) fun x30 => (ret (!x30))) fun b34 => if b34 = true then
 (bd (ret false) fun d => ret (.rt d))
 else
 (bd (ret (decide ((0 : Int) < ((told).length : Int)))) fun b38 => bd (if b38 = true then
 (bd (put told (0 : Int) ((4 : Int), (1 : Int))) fun told =>
 (ret told))
 else
 (ret told)) (fun told =>
 (bd (app told ((2 : Int), (3 : Int))) fun told =>
 (ret (.nx ()))))))))) (onC (fun _ =>
 (bd (ret numbers) fun l62 => (bd (forC l62 () (fun number _ =>
 (bd (bd (bd (lft (Mi.factored number)) fun x47 => (lft (Mi._law_holds x47 number))) fun x48 => (ret (!x48))) fun b52 => if b52 = true then
 (bd (ret false) fun d => ret (.rt d))
 else
 (ret (.nx ()))))) (onC (fun _ =>
 (bd (ret others) fun l61 => (bd (forC l61 () (fun number _ =>
 (bd (bd (lft (Mi._law_judged number)) fun x56 => (ret (!x56))) fun b60 => if b60 = true then
 (bd (ret false) fun d => ret (.rt d))
 else
 (ret (.nx ()))))) (onC (fun _ =>
 (ret true)) (fun d => ret d))))) (fun d => ret d))))) (fun d => ret d)))))))))

end K01

namespace K01
open Y
/-! ### prime numbers, plainly -/
def Pr (n : Int) : Prop := 2 ≤ n ∧ ∀ d, 2 ≤ d → d < n → ¬ d ∣ n
def prodF : List (Int × Int) → Int
  | [] => 1
  | x :: r => x.1 ^ x.2.toNat * prodF r
theorem prodF_app (a b : List (Int × Int)) : prodF (a ++ b) = prodF a * prodF b := by
  induction a with
  | nil => simp [prodF]
  | cons x a ih => simp only [List.cons_append, prodF, ih, Int.mul_assoc]
structure Okf (fs : List (Int × Int)) : Prop where
  pr : ∀ x ∈ fs, Pr x.1 ∧ 1 ≤ x.2
  asc : fs.Pairwise fun x y => x.1 < y.1
theorem pow_pos' {p : Int} (h : 1 ≤ p) : ∀ n : Nat, 1 ≤ p ^ n
  | 0 => by simp
  | n + 1 => by
    have := pow_pos' h n
    rw [Int.pow_succ]
    calc (1 : Int) = 1 * 1 := by decide
      _ ≤ p ^ n * p := Int.mul_le_mul this h (by decide) (by omega)
theorem okf_nil : Okf [] := ⟨fun x hx => absurd hx (List.not_mem_nil), List.Pairwise.nil⟩
theorem prodF_pos {fs : List (Int × Int)} (h : Okf fs) : 1 ≤ prodF fs := by
  have h' := h.pr
  clear h
  revert h'
  induction fs with
  | nil => intro _; simp [prodF]
  | cons x fs ih =>
    intro h
    have h1 := ih (fun y hy => h y (List.mem_cons_of_mem _ hy))
    have h2 := pow_pos' (p := x.1) (by have := (h x (List.mem_cons_self ..)).1.1; omega) x.2.toNat
    show 1 ≤ x.1 ^ x.2.toNat * prodF fs
    calc (1 : Int) = 1 * 1 := by decide
      _ ≤ _ := Int.mul_le_mul h2 h1 (by decide) (by omega)
theorem le_mul_left' {a b : Int} (ha : 1 ≤ a) (hb : 0 ≤ b) : b ≤ a * b := by
  calc b = 1 * b := by omega
    _ ≤ a * b := Int.mul_le_mul_of_nonneg_right ha hb
theorem le_mul_right' {a b : Int} (ha : 0 ≤ a) (hb : 1 ≤ b) : a ≤ a * b := by
  calc a = a * 1 := by omega
    _ ≤ a * b := Int.mul_le_mul_of_nonneg_left hb ha
/-- no divisor below p, and p * p > n: n is prime -/
theorem pr_of_sqrt {n p : Int} (hn : 2 ≤ n) (hp : 2 ≤ p) (hno : ∀ d, 2 ≤ d → d < p → ¬ d ∣ n) (hsq : n < p * p) : Pr n := by
  refine ⟨hn, fun d hd hdn hdv => ?_⟩
  obtain ⟨q, rfl⟩ := hdv
  by_cases h1 : d < p
  · exact hno d hd h1 ⟨q, rfl⟩
  · have hq : 0 < q := by
      by_cases hq : 0 < q
      · exact hq
      · have : d * q ≤ 0 := Int.mul_nonpos_of_nonneg_of_nonpos (by omega) (by omega)
        omega
    have hq2 : 2 ≤ q := by
      by_cases hq1 : q = 1
      · subst hq1; omega
      · omega
    by_cases h2 : q < p
    · exact hno q hq2 h2 ⟨d, by rw [Int.mul_comm]⟩
    · have : p * p ≤ d * q := Int.mul_le_mul (by omega) (by omega) (by omega) (by omega)
      omega
theorem pr_of_least {n p : Int} (hp : 2 ≤ p) (hno : ∀ d, 2 ≤ d → d < p → ¬ d ∣ n) (hd : p ∣ n) : Pr p :=
  ⟨hp, fun d h1 h2 h3 => hno d h1 h2 (Int.dvd_trans h3 hd)⟩
/-! ### factored -/
theorem div_lt {r p : Int} (hr : 1 ≤ r) (hp : 2 ≤ p) (hd : r % p = 0) : 1 ≤ r / p ∧ r / p < r ∧ r / p * p = r := by
  have h := Int.mul_ediv_add_emod r p
  rw [hd] at h
  have e : p * (r / p) = r := by omega
  have h1 : 1 ≤ r / p := by
    by_cases h1 : 1 ≤ r / p
    · exact h1
    · have : p * (r / p) ≤ 0 := Int.mul_nonpos_of_nonneg_of_nonpos (by omega) (by omega)
      omega
  refine ⟨h1, ?_, by rw [Int.mul_comm]; exact e⟩
  have : 2 * (r / p) ≤ p * (r / p) := Int.mul_le_mul_of_nonneg_right hp (by omega)
  omega
theorem small_log {b : Int} (h0 : 0 ≤ b) (h : b ≤ 2000000) : b.natAbs.log2 < 9000 := log2_lt (by decide) (Nat.lt_of_le_of_lt (show b.natAbs ≤ 2000000 by omega) (by
  calc 2000000 < 2 ^ 21 := by decide
    _ ≤ 2 ^ 9000 := Nat.pow_le_pow_right (by decide) (by decide)))
theorem nat_lt_pow {b : Int} (h : -2000000000 ≤ b) (h2 : b ≤ 2000000000) : b.natAbs < 2 ^ 40 := by
  have : b.natAbs ≤ 2000000000 := by omega
  exact Nat.lt_of_le_of_lt this (by decide)
theorem ml_s {ε : Type} {E : ε → Prop} {a b : Int} {Q : Int → Prop} (h1 : -2000000000 ≤ a ∧ a ≤ 2000000000) (h2 : -2000000000 ≤ b ∧ b ≤ 2000000000) (h : Q (a * b)) : ml (ε := ε) a b Q E :=
  ml_M 40 40 (by decide) (by decide) (by decide) (nat_lt_pow h1.1 h1.2) (nat_lt_pow h2.1 h2.2) h
theorem factored_M {n : Int} (h1 : 1 ≤ n) (h2 : n ≤ 1000000) {Q : List (Int × Int) → Prop} {E : Empty → Prop} (hQ : ∀ fs, Okf fs → prodF fs = n → Q fs) : Mi.factored n Q E := by
  unfold Mi.factored
  simp only [bd_a, ret_a]
  refine wh_inv (fun (a : List (Int × Int) × Int × Int) => 2 ≤ a.2.2 ∧ a.2.2 ≤ 1001 ∧ 1 ≤ a.2.1 ∧ a.2.1 ≤ n ∧ (∀ d, 2 ≤ d → d < a.2.2 → ¬ d ∣ a.2.1) ∧ Okf a.1 ∧ (∀ x ∈ a.1, x.1 < a.2.2) ∧ prodF a.1 * a.2.1 = n ∧ (a.1.length : Int) ≤ a.2.2)
    (fun a => (1002 - a.2.2).toNat) ⟨by show (2 : Int) ≤ 2; decide, by show (2 : Int) ≤ 1001; decide, h1, Int.le_refl _, fun d h3 h4 => by have : d < 2 := h4; omega, okf_nil, fun x hx => absurd hx (List.not_mem_nil), by show 1 * n = n; omega, by show (0 : Int) ≤ 2; decide⟩ ?_
  rintro ⟨fs, r, p⟩ ⟨i1, i2, i3, i4, i5, i6, i7, i8, i9⟩ T hT
  dsimp only at i1 i2 i3 i4 i5 i6 i7 i8 i9 ⊢
  refine ml_s (by omega) (by omega) ⟨fun hpp => ?_, fun hpp => ?_⟩
  · have hpp : p * p ≤ r := of_decide_eq_true hpp
    have hp1000 : p ≤ 1000 := by
      by_cases h : p ≤ 1000
      · exact h
      · have : 1001 * 1001 ≤ p * p := Int.mul_le_mul (by omega) (by omega) (by decide) (by omega)
        omega
    -- the inner loop
    refine wh_inv (fun (a : Int × Int) => 1 ≤ a.1 ∧ a.1 ≤ n ∧ 0 ≤ a.2 ∧ p ^ a.2.toNat * a.1 = r) (fun a => a.1.toNat) ⟨i3, i4, by show (0 : Int) ≤ 0; decide, by show p ^ 0 * r = r; simp⟩ ?_
    rintro ⟨r', e⟩ ⟨j1, j2, j3, j4⟩ T' hT'
    dsimp only at j1 j2 j3 j4 ⊢
    refine md_M (by omega) ⟨fun hd => ?_, fun hd => ?_⟩
    · have hd : r' % p = 0 := of_decide_eq_true hd
      obtain ⟨k1, k2, k3⟩ := div_lt j1 i1 hd
      refine dv_M (by omega) (small_log (by omega) (by omega)) ?_
      refine hT' (r' / p, e + 1) ⟨k1, by show r' / p ≤ n; omega, by show 0 ≤ e + 1; omega, ?_⟩ (by show (r' / p).toNat < r'.toNat; omega)
      show p ^ (e + 1).toNat * (r' / p) = r
      have : (e + 1).toNat = e.toNat + 1 := by omega
      rw [this, Int.pow_succ, Int.mul_assoc, Int.mul_comm p (r' / p), k3]
      exact j4
    · have hd : ¬ r' % p = 0 := of_decide_eq_false hd
      have hnd : ¬ p ∣ r' := fun z => hd (Int.emod_eq_zero_of_dvd z)
      have hdiv : r' ∣ r := ⟨p ^ e.toNat, by rw [Int.mul_comm]; exact j4.symm⟩
      have hno : ∀ d, 2 ≤ d → d < p + 1 → ¬ d ∣ r' := fun d hd1 hd2 hd3 => by
        by_cases hd4 : d < p
        · exact i5 d hd1 hd4 (Int.dvd_trans hd3 hdiv)
        · have : d = p := by omega
          subst this
          exact hnd hd3
      refine iteB_M (fun he => ?_) (fun he => ?_)
      · have hdr : p ∣ r := by
          refine ⟨p ^ (e.toNat - 1) * r', ?_⟩
          have : e.toNat = (e.toNat - 1) + 1 := by omega
          rw [← j4, this, Int.pow_succ, Int.mul_comm _ p, Int.mul_assoc]
          simp
        have hpr := pr_of_least i1 i5 hdr
        refine ⟨by omega, ?_⟩
        refine hT (fs ++ [(p, e)], r', p + 1) ⟨by show 2 ≤ p + 1; omega, by show p + 1 ≤ 1001; omega, j1, j2, hno, ⟨fun x hx => ?_, ?_⟩, fun x hx => ?_, ?_, ?_⟩ (by show (1002 - (p + 1)).toNat < (1002 - p).toNat; omega)
        · rcases List.mem_append.mp hx with hx | hx
          · exact i6.pr x hx
          · cases List.mem_singleton.mp hx
            exact ⟨hpr, by show 1 ≤ e; omega⟩
        · refine List.pairwise_append.mpr ⟨i6.asc, List.pairwise_singleton _ _, fun x hx y hy => ?_⟩
          cases List.mem_singleton.mp hy
          exact i7 x hx
        · rcases List.mem_append.mp hx with hx | hx
          · have := i7 x hx
            show x.1 < p + 1
            omega
          · cases List.mem_singleton.mp hx
            show p < p + 1
            omega
        · show prodF (fs ++ [(p, e)]) * r' = n
          rw [prodF_app, Int.mul_assoc]
          show prodF fs * (p ^ e.toNat * 1 * r') = n
          rw [Int.mul_one, j4]
          exact i8
        · show ((fs ++ [(p, e)]).length : Int) ≤ p + 1
          rw [List.length_append]
          simp
          omega
      · have e0 : e = 0 := by omega
        subst e0
        have er : r' = r := by
          have : p ^ (0 : Int).toNat * r' = r := j4
          simpa using this
        subst er
        refine hT (fs, r', p + 1) ⟨by show 2 ≤ p + 1; omega, by show p + 1 ≤ 1001; omega, j1, j2, hno, i6, fun x hx => ?_, i8, ?_⟩ (by show (1002 - (p + 1)).toNat < (1002 - p).toNat; omega)
        · have := i7 x hx
          show x.1 < p + 1
          omega
        · show (fs.length : Int) ≤ p + 1
          omega
  · have hpp : ¬ p * p ≤ r := of_decide_eq_false hpp
    refine iteB_M (fun hr => ?_) (fun hr => ?_)
    · have hpr : Pr r := pr_of_sqrt (by omega) i1 i5 (by omega)
      have hge : p ≤ r := by
        by_cases h : p ≤ r
        · exact h
        · exact absurd ⟨1, by omega⟩ (i5 r (by omega) (by omega))
      refine ⟨by omega, hQ _ ⟨fun x hx => ?_, ?_⟩ ?_⟩
      · rcases List.mem_append.mp hx with hx | hx
        · exact i6.pr x hx
        · cases List.mem_singleton.mp hx
          exact ⟨hpr, by show (1 : Int) ≤ 1; decide⟩
      · refine List.pairwise_append.mpr ⟨i6.asc, List.pairwise_singleton _ _, fun x hx y hy => ?_⟩
        cases List.mem_singleton.mp hy
        have := i7 x hx
        show x.1 < r
        omega
      · rw [prodF_app]
        show prodF fs * (r ^ 1 * 1) = n
        rw [Int.mul_one, Int.pow_one]
        exact i8
    · have : r = 1 := by omega
      subst this
      refine hQ fs i6 ?_
      rw [Int.mul_one] at i8
      exact i8
/-! ### the law's own words -/
theorem isint_a {x : Int} {Q : Bool → Prop} {E : Empty → Prop} : Mi._law_is_integer x Q E = Q true := rfl
theorem isint_M {x : Int} {Q : Bool → Prop} {E : Empty → Prop} (h : Q true) : Mi._law_is_integer x Q E := h
theorem take_M {n : Int} (h1 : 0 < n) (h2 : n ≤ 2000000) {Q : Int → Prop} (h : ∀ r, 0 ≤ r → r < n → Q r) : Mi._law_take () n Q noE := ⟨⟨h1, small_log (by omega) h2⟩, h⟩
theorem rgs_at {a b : Int} {i : Nat} {x : Int} (h : (rgs a b)[i]? = some x) : x = a + i ∧ i < (b - a).toNat := rgs_get h
theorem lprime_M {n : Int} (hn : n ≤ 1000000) {Q : Bool → Prop} {E : Empty → Prop} (hQ : ∀ b, (b = true ↔ Pr n) → Q b) : Mi._law_prime n Q E := by
  unfold Mi._law_prime
  simp only [bd_a, ret_a, lft_a, onC_n, onC_r, ite_a, decide_eq_true_eq, eq_self, if_true, Bool.false_eq_true, if_false, Bool.not_true, Bool.not_false, Bool.not_eq_true', decide_eq_false_iff_not, Bool.true_eq_false, not_true, not_false_iff]
  refine ite_P (fun h => ?_) (fun h => ?_)
  · exact hQ false ⟨(fun z => by cases z), fun z => by have := z.1; omega⟩
  · refine ⟨by decide, ?_⟩
    refine forC_inv (fun i _ => ∀ d, 2 ≤ d → d < 2 + (i : Int) → ¬ d ∣ n) (fun d h1 h2 => by omega) ?_ ?_
    · intro i x a T hx hJ hT hR
      obtain ⟨e, hi⟩ := rgs_at hx
      have hi : i < 999 := hi
      simp only [bd_a, ret_a, lft_a, onC_n, onC_r, ite_a, decide_eq_true_eq, eq_self, if_true, Bool.false_eq_true, if_false, Bool.not_true, Bool.not_false, Bool.not_eq_true', decide_eq_false_iff_not, Bool.true_eq_false, not_true, not_false_iff]
      refine ml_s (by omega) (by omega) ?_
      refine ite_P (fun hlt => ?_) (fun hlt => ?_)
      · refine hR true (hQ true ⟨fun _ => ?_, fun _ => rfl⟩)
        exact pr_of_sqrt (p := x) (by omega) (by omega) (fun d h1 h2 => hJ d h1 (by omega)) hlt
      · refine md_M (b := x) (by omega) ?_
        refine ite_P (fun hd => ?_) (fun hd => ?_)
        · refine hR false (hQ false ⟨(fun z => by cases z), fun z => ?_⟩)
          have hxn : x < n := by
            have h1 : 2 * x ≤ x * x := Int.mul_le_mul_of_nonneg_right (by omega) (by omega)
            omega
          exact absurd (Int.dvd_of_emod_eq_zero hd) (z.2 x (by omega) hxn)
        · refine hT () fun d h1 h2 h3 => ?_
          by_cases h4 : d < 2 + (i : Int)
          · exact hJ d h1 h4 h3
          · have : d = x := by omega
            subst this
            exact hd (Int.emod_eq_zero_of_dvd h3)
    · intro a hJ
      rw [onC_n]
      refine hQ true ⟨fun _ => ?_, fun _ => rfl⟩
      have hl : (rgs 2 1001).length = 999 := by rw [rgs_length]; rfl
      rw [hl] at hJ
      exact pr_of_sqrt (p := 1001) (by omega) (by decide) (fun d h1 h2 => hJ d h1 (by omega)) (by omega)
theorem single_iff {n : Int} (h2 : 2 ≤ n) {fs : List (Int × Int)} (ho : Okf fs) (hp : prodF fs = n) : fs = [(n, 1)] ↔ Pr n := by
  constructor
  · intro e
    subst e
    exact (ho.pr (n, 1) (List.mem_singleton.mpr rfl)).1
  · intro pr
    cases fs with
    | nil =>
      have : (1 : Int) = n := hp
      omega
    | cons x r =>
      obtain ⟨p, e⟩ := x
      have hx := ho.pr (p, e) (List.mem_cons_self ..)
      have hor : Okf r := ⟨fun y hy => ho.pr y (List.mem_cons_of_mem _ hy), (List.pairwise_cons.mp ho.asc).2⟩
      have hr1 := prodF_pos hor
      have hp : p ^ e.toNat * prodF r = n := hp
      obtain ⟨k, hk⟩ : ∃ k, e.toNat = k + 1 := ⟨e.toNat - 1, by have := hx.2; dsimp only at this; omega⟩
      rw [hk, Int.pow_succ] at hp
      have hpk := pow_pos' (p := p) (by have := hx.1.1; dsimp only at this; omega) k
      have hp2 : 2 ≤ p := hx.1.1
      have hdv : p ∣ n := ⟨p ^ k * prodF r, by rw [← hp, Int.mul_comm (p ^ k) p, Int.mul_assoc]⟩
      have hle : p ≤ n := Int.le_of_dvd (by omega) hdv
      have hpn : p = n := by
        by_cases h : p < n
        · exact absurd hdv (pr.2 p hp2 h)
        · omega
      subst hpn
      have e1 : p * (p ^ k * prodF r) = p := by rw [Int.mul_comm (p ^ k) p, Int.mul_assoc] at hp; exact hp
      have e2 : p ^ k * prodF r = 1 := by
        by_cases h : p ^ k * prodF r = 1
        · exact h
        · have h3 : 1 ≤ p ^ k * prodF r := by
            calc (1 : Int) = 1 * 1 := by decide
              _ ≤ _ := Int.mul_le_mul hpk hr1 (by decide) (by omega)
          have : p * 2 ≤ p * (p ^ k * prodF r) := Int.mul_le_mul_of_nonneg_left (by omega) (by omega)
          omega
      have e3 : p ^ k = 1 := by
        have := le_mul_right' (a := p ^ k) (b := prodF r) (by omega) hr1
        omega
      have e4 : prodF r = 1 := by
        rw [e3] at e2
        omega
      have k0 : k = 0 := by
        cases k with
        | zero => rfl
        | succ k =>
          rw [Int.pow_succ] at e3
          have := pow_pos' (p := p) (by omega) k
          have h5 : 1 * p ≤ p ^ k * p := Int.mul_le_mul_of_nonneg_right this (by omega)
          omega
      have hr : r = [] := by
        cases r with
        | nil => rfl
        | cons y r' =>
          have hy := hor.pr y (List.mem_cons_self ..)
          have hor' : Okf r' := ⟨fun z hz => hor.pr z (List.mem_cons_of_mem _ hz), (List.pairwise_cons.mp hor.asc).2⟩
          have h6 := prodF_pos hor'
          have e4 : y.1 ^ y.2.toNat * prodF r' = 1 := e4
          obtain ⟨j, hj⟩ : ∃ j, y.2.toNat = j + 1 := ⟨y.2.toNat - 1, by have := hy.2; omega⟩
          rw [hj, Int.pow_succ] at e4
          have h7 := pow_pos' (p := y.1) (by have := hy.1.1; omega) j
          have h8 : 1 * y.1 ≤ y.1 ^ j * y.1 := Int.mul_le_mul_of_nonneg_right h7 (by have := hy.1.1; omega)
          have h9 := le_mul_right' (a := y.1 ^ j * y.1) (b := prodF r') (by have := hy.1.1; omega) h6
          have := hy.1.1
          omega
      subst hr
      have : e = 1 := by have := hx.2; dsimp only at this; omega
      rw [this]
theorem isprime_M {n : Int} (hn : n ≤ 1000000) {Q : Bool → Prop} {E : Empty → Prop} (hQ : ∀ b, (b = true ↔ Pr n) → Q b) : Mi.is_prime n Q E := by
  unfold Mi.is_prime
  simp only [bd_a, ret_a, lft_a, onC_n, onC_r, ite_a, decide_eq_true_eq, eq_self, if_true, Bool.false_eq_true, if_false, Bool.not_true, Bool.not_false, Bool.not_eq_true', decide_eq_false_iff_not, Bool.true_eq_false, not_true, not_false_iff]
  refine ite_P (fun h => ?_) (fun h => ?_)
  · exact hQ false ⟨(fun z => by cases z), fun z => by have := z.1; omega⟩
  · refine factored_M (by omega) hn fun fs h1 h2 => hQ _ ?_
    rw [decide_eq_true_iff]
    exact single_iff (by omega) h1 h2
theorem judged_M {n : Int} (hn : n ≤ 1000000) {Q : Bool → Prop} {E : Empty → Prop} (hQ : Q true) : Mi._law_judged n Q E := by
  unfold Mi._law_judged
  simp only [bd_a, ret_a, lft_a, onC_n, onC_r, ite_a, decide_eq_true_eq, eq_self, if_true, Bool.false_eq_true, if_false, Bool.not_true, Bool.not_false, Bool.not_eq_true', decide_eq_false_iff_not, Bool.true_eq_false, not_true, not_false_iff]
  refine isprime_M hn fun b hb => ?_
  refine lprime_M hn fun c hc => ?_
  have : (b == c) = true := by
    cases b <;> cases c <;> simp_all
  rw [this]
  exact hQ
theorem below_M {n : Int} (h1 : 2 ≤ n) (h2 : n ≤ 1000000) {Q : Int → Prop} {E : Empty → Prop} (hQ : ∀ r, 2 ≤ r → r ≤ n → Q r) : Mi._law_prime_below n Q E := by
  unfold Mi._law_prime_below
  simp only [bd_a, ret_a, lft_a, onC_n, onC_r, ite_a, decide_eq_true_eq, eq_self, if_true, Bool.false_eq_true, if_false, Bool.not_true, Bool.not_false, Bool.not_eq_true', decide_eq_false_iff_not, Bool.true_eq_false, not_true, not_false_iff]
  refine ⟨by decide, ?_⟩
  refine forS_inv (fun _ r => 2 ≤ r ∧ r ≤ n) ⟨h1, Int.le_refl _⟩ ?_ (fun r hr => hQ r hr.1 hr.2)
  intro i x r T _ hr hT
  simp only [bd_a, ret_a, lft_a, onC_n, onC_r, ite_a, decide_eq_true_eq, eq_self, if_true, Bool.false_eq_true, if_false, Bool.not_true, Bool.not_false, Bool.not_eq_true', decide_eq_false_iff_not, Bool.true_eq_false, not_true, not_false_iff]
  refine lprime_M (by omega) fun b hb => ?_
  refine ite_P (fun h => ?_) (fun h => hT r hr)
  refine hT (r - 1) ⟨?_, by omega⟩
  by_cases h3 : r = 2
  · subst h3
    have : Pr 2 := ⟨by decide, fun d h4 h5 => by omega⟩
    rw [hb.mpr this] at h
    cases h
  · omega
theorem neg_M {Q : Int → Prop} {E : Empty → Prop} (hQ : ∀ r, r ≤ 1000000 → Q r) : Mi._law_negative () Q E := by
  unfold Mi._law_negative
  simp only [bd_a, ret_a, lft_a, onC_n, onC_r, ite_a, decide_eq_true_eq, eq_self, if_true, Bool.false_eq_true, if_false, Bool.not_true, Bool.not_false, Bool.not_eq_true', decide_eq_false_iff_not, Bool.true_eq_false, not_true, not_false_iff]
  refine take_M (by decide) (by decide) fun r h1 h2 => ?_
  refine ite_P (fun h => ?_) (fun h => ?_)
  · refine ⟨by refine ⟨by decide, by decide, by decide⟩, ?_⟩
    refine take_M (by decide) (by decide) fun r h1 h2 => hQ _ ?_
    have : (0 : Int) < 10 ^ (39 : Int).toNat := by decide +kernel
    omega
  · exact take_M (by decide) (by decide) fun r h1 h2 => hQ _ (by omega)
theorem div_mul_le {a b : Int} (ha : 0 ≤ a) (hb : 0 < b) : b * (a / b) ≤ a ∧ 0 ≤ a / b := by
  have h := Int.mul_ediv_add_emod a b
  have h2 := Int.emod_nonneg a (show b ≠ 0 by omega)
  exact ⟨by omega, Int.ediv_nonneg ha (by omega)⟩
theorem cof {b c r : Int} (hb : 1 ≤ b) (h1 : 0 ≤ r) (h2 : r < c / b) (hc : 0 ≤ c) : 1 ≤ b * (1 + r) ∧ b * (1 + r) ≤ c := by
  have h := div_mul_le hc (show 0 < b by omega)
  have h3 : b * (1 + r) ≤ b * (c / b) := Int.mul_le_mul_of_nonneg_left (by omega) (by omega)
  have h4 : 1 * 1 ≤ b * (1 + r) := Int.mul_le_mul hb (by omega) (by decide) (by omega)
  omega
theorem one_le_div {b c : Int} (hb : 1 ≤ b) (h : b ≤ c) : 0 < c / b := Int.ediv_pos_of_pos_of_dvd' hb h
where
  Int.ediv_pos_of_pos_of_dvd' {b c : Int} (hb : 1 ≤ b) (h : b ≤ c) : 0 < c / b := by
    have := Int.le_ediv_of_mul_le (a := 1) (b := c) (c := b) (by omega) (by omega)
    omega
theorem div_le_self' {a b : Int} (ha : 0 ≤ a) (hb : 1 ≤ b) : a / b ≤ a := by
  have h := div_mul_le ha (show 0 < b by omega)
  have : 1 * (a / b) ≤ b * (a / b) := Int.mul_le_mul_of_nonneg_right hb h.2
  omega
theorem mul_bd {a b x y : Int} (ha : 0 ≤ a) (hb : 0 ≤ b) (hx : a ≤ x) (hy : b ≤ y) : a * b ≤ x * y := Int.mul_le_mul hx hy hb (by omega)
theorem mul_pos1 {a b : Int} (ha : 1 ≤ a) (hb : 1 ≤ b) : 1 ≤ a * b := by
  have := Int.mul_le_mul ha hb (by decide) (by omega)
  omega
theorem number_M {Q : Int → Prop} {E : Empty → Prop} (hQ : ∀ r, 1 ≤ r → r ≤ 1000000 → Q r) : Mi._law_number () Q E := by
  unfold Mi._law_number
  simp only [bd_a, ret_a, lft_a, onC_n, onC_r, ite_a, decide_eq_true_eq, eq_self, if_true, Bool.false_eq_true, if_false, Bool.not_true, Bool.not_false, Bool.not_eq_true', decide_eq_false_iff_not, Bool.true_eq_false, not_true, not_false_iff]
  refine take_M (by decide) (by decide) fun kind k1 k2 => ?_
  refine ite_P (fun h => ?_) (fun h => ?_)
  · exact take_M (by decide) (by decide) fun r h1 h2 => hQ _ (by omega) (by omega)
  clear h
  refine ite_P (fun h => ?_) (fun h => ?_)
  · exact take_M (by decide) (by decide) fun r h1 h2 => below_M (by omega) (by omega) fun r' h3 h4 => hQ _ (by omega) (by omega)
  clear h
  refine ite_P (fun h => ?_) (fun h => ?_)
  · refine take_M (by decide) (by decide) fun a a1 a2 => ?_
    have hq := div_mul_le (a := 1000000) (b := 1 + a) (by decide) (by omega)
    have hq0 := one_le_div (b := 1 + a) (c := 1000000) (by omega) (by omega)
    have hq1 := div_le_self' (a := 1000000) (b := 1 + a) (by decide) (by omega)
    refine dv_M (by omega) (small_log (by omega) (by omega)) ?_
    refine take_M hq0 (by omega) fun b b1 b2 => ?_
    have hc := cof (b := 1 + a) (c := 1000000) (r := b) (by omega) b1 b2 (by decide)
    refine ml_s (by omega) (by omega) (ml_s (by omega) (by omega) ?_)
    generalize (1 + a) * (1 + b) = m at hc
    have hq0 := one_le_div (b := m) (c := 1000000) (by omega) (by omega)
    have hq1 := div_le_self' (a := 1000000) (b := m) (by decide) (by omega)
    refine dv_M (by omega) (small_log (by omega) (by omega)) ?_
    refine take_M hq0 (by omega) fun c c1 c2 => ?_
    have hd := cof (b := m) (c := 1000000) (r := c) (by omega) c1 c2 (by decide)
    exact ml_s (by omega) (by omega) (hQ _ hd.1 hd.2)
  clear h
  refine ite_P (fun h => ?_) (fun h => ?_)
  · exact take_M (by decide) (by decide) fun r h1 h2 => hQ _ (by omega) (by omega)
  clear h
  refine ite_P (fun h => ?_) (fun h => ?_)
  · exact take_M (by decide) (by decide) fun r h1 h2 => hQ _ (by omega) (by omega)
  clear h
  refine ite_P (fun h => ?_) (fun h => ?_)
  · refine take_M (by decide) (by decide) fun a a1 a2 => ?_
    refine take_M (by decide) (by decide) fun b b1 b2 => ?_
    refine ⟨⟨by decide, by decide, by omega, by omega⟩, ?_⟩
    refine forS_inv (fun _ r => 1 ≤ r ∧ r ≤ 1000000) ⟨by decide, by decide⟩ ?_ (fun r hr => hQ r hr.1 hr.2)
    intro i x r T _ hr hT
    simp only [bd_a, ret_a, lft_a, onC_n, onC_r, ite_a, decide_eq_true_eq, eq_self, if_true, Bool.false_eq_true, if_false, Bool.not_true, Bool.not_false, Bool.not_eq_true', decide_eq_false_iff_not, Bool.true_eq_false, not_true, not_false_iff]
    refine ml_s (by omega) (by omega) ?_
    refine ite_P (fun h => ?_) (fun h => hT r hr)
    exact ml_s (by omega) (by omega) (hT _ ⟨mul_pos1 hr.1 (by omega), h⟩)
  clear h
  refine ite_P (fun h => ?_) (fun h => ?_)
  · refine take_M (by decide) (by decide) fun a a1 a2 => ?_
    refine below_M (by omega) (by omega) fun b b1 b2 => ?_
    have h1 : b * b ≤ 999 * 999 := mul_bd (by omega) (by omega) (by omega) (by omega)
    have h2 := mul_pos1 (a := b) (b := b) (by omega) (by omega)
    refine ml_s (by omega) (by omega) (ml_s (by omega) (by omega) ?_)
    generalize b * b = m at h1 h2
    have hq0 := one_le_div (b := m) (c := 1000000) (by omega) (by omega)
    have hq1 := div_le_self' (a := 1000000) (b := m) (by decide) (by omega)
    refine dv_M (by omega) (small_log (by omega) (by omega)) ?_
    refine take_M hq0 (by omega) fun c c1 c2 => ?_
    have hd := cof (b := m) (c := 1000000) (r := c) (by omega) c1 c2 (by decide)
    exact ml_s (by omega) (by omega) (hQ _ hd.1 hd.2)
  clear h
  refine ite_P (fun h => ?_) (fun h => ?_)
  · refine take_M (by decide) (by decide) fun a a1 a2 => ?_
    refine below_M (by omega) (by omega) fun b b1 b2 => ?_
    have h1 : b * b ≤ 99 * 99 := mul_bd (by omega) (by omega) (by omega) (by omega)
    have h2 := mul_pos1 (a := b) (b := b) (by omega) (by omega)
    have h3 : b * b * b ≤ 99 * 99 * 99 := mul_bd (by omega) (by omega) (by omega) (by omega)
    have h4 := mul_pos1 (a := b * b) (b := b) (by omega) (by omega)
    refine ml_s (by omega) (by omega) (ml_s (by omega) (by omega) (ml_s (by omega) (by omega) (ml_s (by omega) (by omega) ?_)))
    generalize b * b * b = m at h3 h4
    have hq0 := one_le_div (b := m) (c := 1000000) (by omega) (by omega)
    have hq1 := div_le_self' (a := 1000000) (b := m) (by decide) (by omega)
    refine dv_M (by omega) (small_log (by omega) (by omega)) ?_
    refine take_M hq0 (by omega) fun c c1 c2 => ?_
    have hd := cof (b := m) (c := 1000000) (r := c) (by omega) c1 c2 (by decide)
    exact ml_s (by omega) (by omega) (hQ _ hd.1 hd.2)
  clear h
  refine ite_P (fun h => ?_) (fun h => ?_)
  · refine take_M (by decide) (by decide) fun a a1 a2 => ?_
    refine below_M (by omega) (by omega) fun b b1 b2 => ?_
    refine ml_s (by omega) (by omega) ?_
    refine below_M (by omega) (by omega) fun c c1 c2 => ?_
    have h1 : b * c ≤ 702 * 1403 := mul_bd (by omega) (by omega) (by omega) (by omega)
    have h2 := mul_pos1 (a := b) (b := c) (by omega) (by omega)
    exact ml_s (by omega) (by omega) (hQ _ h2 (by omega))
  · refine take_M (by decide) (by decide) fun a a1 a2 => ?_
    refine ml_s (by omega) (by omega) (ml_s (by omega) (by omega) ?_)
    have e1 : (6 * (1 + a) + 1) * (2 * (6 * (1 + a)) + 1) ≤ 49 * 97 := mul_bd (by omega) (by omega) (by omega) (by omega)
    have e2 := mul_pos1 (a := 6 * (1 + a) + 1) (b := 2 * (6 * (1 + a)) + 1) (by omega) (by omega)
    refine ml_s (by omega) (by omega) (ml_s (by omega) (by omega) ?_)
    generalize (6 * (1 + a) + 1) * (2 * (6 * (1 + a)) + 1) = m at e1 e2
    have e3 : m * (3 * (6 * (1 + a)) + 1) ≤ 4753 * 145 := mul_bd (by omega) (by omega) (by omega) (by omega)
    have e4 := mul_pos1 (a := m) (b := 3 * (6 * (1 + a)) + 1) (by omega) (by omega)
    exact ml_s (by omega) (by omega) (hQ _ e4 (by omega))
theorem bag_M {ns : List Int} {k : Int} (h1 : 0 ≤ k) (h2 : k ≤ 1000) {Q : Unit → Prop} {E : Empty → Prop} (hQ : Q ()) : Mi._law_bag ns k Q E := by
  unfold Mi._law_bag
  simp only [bd_a, ret_a, lft_a, onC_n, onC_r, ite_a, decide_eq_true_eq, eq_self, if_true, Bool.false_eq_true, if_false, Bool.not_true, Bool.not_false, Bool.not_eq_true', decide_eq_false_iff_not, Bool.true_eq_false, not_true, not_false_iff]
  have key : ∀ cell : Int, pw 10 18 (ε := Empty) (fun a_1 => if a_1 ≤ (if cell < 0 then -cell else cell) then md (ε := Empty) (if cell < 0 then -cell else cell) 2147483629 (fun a_2 => req (ε := Empty) ([if cell < 0 then -cell else cell, a_2].length = 2) (fun _ => Q ()) E) E
      else ml (ε := Empty) cell 48271 (fun a => ml (ε := Empty) 907 (k + 1) (fun a_2 => md (ε := Empty) (a + a_2) 2147483647 (fun a => req (ε := Empty) ([0, a].length = 2) (fun _ => Q ()) E) E) E) E) E := fun cell => by
    refine ⟨⟨by decide, by decide, by decide⟩, ?_⟩
    have e18 : (10 : Int) ^ (18 : Int).toNat = 1000000000000000000 := by decide +kernel
    rw [e18]
    refine ite_P (fun h => ?_) (fun h => ?_)
    · exact ⟨by decide, rfl, hQ⟩
    · refine ml_M 64 40 (by decide) (by decide) (by decide) ?_ (by decide) ?_
      · by_cases hc : cell < 0
        · rw [if_pos hc] at h
          have : cell.natAbs < 1000000000000000000 := by omega
          exact Nat.lt_trans this (by decide)
        · rw [if_neg hc] at h
          have : cell.natAbs < 1000000000000000000 := by omega
          exact Nat.lt_trans this (by decide)
      · refine ml_s (by omega) (by omega) ?_
        exact ⟨by decide, rfl, hQ⟩
  refine ite_P (fun h => ?_) (fun h => key 0)
  obtain ⟨j, rfl⟩ : ∃ j : Nat, k = j := ⟨k.toNat, by omega⟩
  have hj : j < ns.length := by omega
  exact ⟨ns[j], L2.atI_nat (List.getElem?_eq_getElem hj), key _⟩
/-! at most seven primes -/
theorem odd_of {p q : Int} (hq : Pr q) (h : 2 ≤ p) (hp : p < q) : q % 2 = 1 := by
  have h1 := hq.2 2 (by decide) (by omega)
  have h2 : q % 2 ≠ 0 := fun z => h1 (Int.dvd_of_emod_eq_zero z)
  omega
theorem two_odds {p q : Int} (hp : Pr p) (hq : Pr q) (h : p < q) (h3 : 3 ≤ p) : p + 2 ≤ q := by
  have h1 := odd_of (p := 2) hp (by decide) (by omega)
  have h2 := odd_of hq hp.1 h
  omega
theorem term_ge {x : Int × Int} (h : Pr x.1 ∧ 1 ≤ x.2) : x.1 ≤ x.1 ^ x.2.toNat := by
  obtain ⟨j, hj⟩ : ∃ j, x.2.toNat = j + 1 := ⟨x.2.toNat - 1, by have := h.2; omega⟩
  rw [hj, Int.pow_succ]
  exact le_mul_left' (pow_pos' (by have := h.1.1; omega) j) (by have := h.1.1; omega)
theorem len_le {fs : List (Int × Int)} (ho : Okf fs) (h : prodF fs ≤ 1000000) : fs.length ≤ 7 := by
  match fs, ho, h with
  | [], _, _ => decide
  | [_], _, _ => simp
  | [_, _], _, _ => simp
  | [_, _, _], _, _ => simp
  | [_, _, _, _], _, _ => simp
  | [_, _, _, _, _], _, _ => simp
  | [_, _, _, _, _, _], _, _ => simp
  | [_, _, _, _, _, _, _], _, _ => simp
  | a :: b :: c :: d :: e :: f :: g :: i :: r, ho, h =>
    exfalso
    have pr := ho.pr
    simp only [List.mem_cons, forall_eq_or_imp] at pr
    obtain ⟨pa, pb, pc, pd, pe, pf, pg, pi, prr⟩ := pr
    have asc := ho.asc
    simp only [List.pairwise_cons, List.mem_cons, forall_eq_or_imp] at asc
    obtain ⟨⟨ab, _⟩, ⟨bc, _⟩, ⟨cd, _⟩, ⟨de, _⟩, ⟨ef, _⟩, ⟨fg, _⟩, ⟨gi, _⟩, _, ascr⟩ := asc
    have hr : Okf r := ⟨prr, ascr⟩
    have h1 := prodF_pos hr
    have a2 := pa.1.1
    have c5 := two_odds pb.1 pc.1 bc (by omega)
    have d5 := two_odds pc.1 pd.1 cd (by omega)
    have e5 := two_odds pd.1 pe.1 de (by omega)
    have f5 := two_odds pe.1 pf.1 ef (by omega)
    have g5 := two_odds pf.1 pg.1 fg (by omega)
    have i5 := two_odds pg.1 pi.1 gi (by omega)
    have ta := term_ge pa
    have tb := term_ge pb
    have tc := term_ge pc
    have td := term_ge pd
    have te := term_ge pe
    have tf := term_ge pf
    have tg := term_ge pg
    have ti := term_ge pi
    have h2 : prodF (a :: b :: c :: d :: e :: f :: g :: i :: r) = a.1 ^ a.2.toNat * (b.1 ^ b.2.toNat * (c.1 ^ c.2.toNat * (d.1 ^ d.2.toNat * (e.1 ^ e.2.toNat * (f.1 ^ f.2.toNat * (g.1 ^ g.2.toNat * (i.1 ^ i.2.toNat * prodF r))))))) := rfl
    rw [h2] at h
    have m1 : 15 * 1 ≤ i.1 ^ i.2.toNat * prodF r := mul_bd (by decide) (by decide) (by omega) h1
    have m2 : 13 * (15 * 1) ≤ g.1 ^ g.2.toNat * (i.1 ^ i.2.toNat * prodF r) := mul_bd (by decide) (by decide) (by omega) m1
    have m3 : 11 * (13 * (15 * 1)) ≤ f.1 ^ f.2.toNat * _ := mul_bd (by decide) (by decide) (by omega) m2
    have m4 : 9 * (11 * (13 * (15 * 1))) ≤ e.1 ^ e.2.toNat * _ := mul_bd (by decide) (by decide) (by omega) m3
    have m5 : 7 * (9 * (11 * (13 * (15 * 1)))) ≤ d.1 ^ d.2.toNat * _ := mul_bd (by decide) (by decide) (by omega) m4
    have m6 : 5 * (7 * (9 * (11 * (13 * (15 * 1))))) ≤ c.1 ^ c.2.toNat * _ := mul_bd (by decide) (by decide) (by omega) m5
    have m7 : 3 * (5 * (7 * (9 * (11 * (13 * (15 * 1)))))) ≤ b.1 ^ b.2.toNat * _ := mul_bd (by decide) (by decide) (by omega) m6
    have m8 : 2 * (3 * (5 * (7 * (9 * (11 * (13 * (15 * 1))))))) ≤ a.1 ^ a.2.toNat * _ := mul_bd (by decide) (by decide) (by omega) m7
    omega
theorem expo_le {p : Int} {k : Nat} (hp : 2 ≤ p) (h : p ^ k ≤ 1000000) : k ≤ 20 := by
  by_cases hk : k ≤ 20
  · exact hk
  · have h1 : (2 : Int) ^ k ≤ p ^ k := by
      clear h hk
      induction k with
      | zero => simp
      | succ k ih =>
        rw [Int.pow_succ, Int.pow_succ]
        exact Int.mul_le_mul ih hp (by decide) (by have := pow_pos' (p := p) (by omega) k; omega)
    obtain ⟨j, rfl⟩ : ∃ j, k = 21 + j := ⟨k - 21, by omega⟩
    rw [Int.pow_add] at h1
    have h2 := pow_pos' (p := 2) (by decide) j
    have h3 : (2 : Int) ^ 21 * 1 ≤ 2 ^ 21 * 2 ^ j := Int.mul_le_mul_of_nonneg_left h2 (by decide)
    have h4 : (2 : Int) ^ 21 = 2097152 := by decide
    omega
theorem part_le {fs : List (Int × Int)} (ho : Okf fs) : ∀ x ∈ fs, x.1 ^ x.2.toNat ≤ prodF fs := by
  have h := ho
  induction fs with
  | nil => intro x hx; exact absurd hx (List.not_mem_nil)
  | cons y r ih =>
    have hr : Okf r := ⟨fun z hz => ho.pr z (List.mem_cons_of_mem _ hz), (List.pairwise_cons.mp ho.asc).2⟩
    have h1 := prodF_pos hr
    have hy := ho.pr y (List.mem_cons_self ..)
    have h2 := pow_pos' (p := y.1) (by have := hy.1.1; omega) y.2.toNat
    intro x hx
    show _ ≤ y.1 ^ y.2.toNat * prodF r
    rcases List.mem_cons.mp hx with rfl | hx
    · exact le_mul_right' (by omega) h1
    · have h3 := ih hr hr x hx
      exact Int.le_trans h3 (le_mul_left' h2 (by omega))
theorem take_split {α : Type} {l : List α} {i : Nat} {x : α} (h : l[i]? = some x) : l.take (i + 1) = l.take i ++ [x] := by
  rw [List.take_add_one, h]
  rfl
theorem prodF_split (fs : List (Int × Int)) (i : Nat) : prodF (fs.take i) * prodF (fs.drop i) = prodF fs := by
  rw [← prodF_app, List.take_append_drop]
theorem okf_take {fs : List (Int × Int)} (h : Okf fs) (i : Nat) : Okf (fs.take i) := ⟨fun x hx => h.pr x (List.mem_of_mem_take hx), h.asc.sublist (List.take_sublist i fs)⟩
theorem okf_drop {fs : List (Int × Int)} (h : Okf fs) (i : Nat) : Okf (fs.drop i) := ⟨fun x hx => h.pr x (List.mem_of_mem_drop hx), h.asc.sublist (List.drop_sublist i fs)⟩
theorem holds_M {fs : List (Int × Int)} {n : Int} (ho : Okf fs) (hp : prodF fs = n) (hn : n ≤ 1000000) {Q : Bool → Prop} {E : Empty → Prop} (hQ : Q true) : Mi._law_holds fs n Q E := by
  unfold Mi._law_holds
  simp only [bd_a, ret_a, lft_a, onC_n, onC_r, ite_a, decide_eq_true_eq, eq_self, if_true, Bool.false_eq_true, if_false, Bool.not_true, Bool.not_false, Bool.not_eq_true', decide_eq_false_iff_not, Bool.true_eq_false, not_true, not_false_iff]
  have hl := len_le ho (by omega)
  refine ite_P (fun h => by omega) (fun _ => ?_)
  refine forC_inv (fun i a => a.1 = prodF (fs.take i) ∧ (∀ x ∈ fs.drop i, a.2 < x.1)) ⟨rfl, fun x hx => ?_⟩ ?_ ?_
  · have := (ho.pr x hx).1.1
    show (1 : Int) < x.1
    omega
  · rintro i ⟨p, e⟩ ⟨pr, last⟩ T hx ⟨j1, j2⟩ hT hR
    dsimp only at j1 j2 ⊢
    have hmem := List.mem_of_getElem? hx
    have hx1 := ho.pr _ hmem
    have hdrop : fs.drop i = (p, e) :: fs.drop (i + 1) := drop_some hx
    have hlast : last < p := j2 (p, e) (by rw [hdrop]; exact List.mem_cons_self ..)
    have hpart := part_le ho _ hmem
    dsimp only at hx1 hpart
    have hpp : p ≤ p ^ e.toNat := term_ge (x := (p, e)) hx1
    have hp2 : 2 ≤ p := hx1.1.1
    have he := expo_le hx1.1.1 (show p ^ e.toNat ≤ 1000000 by omega)
    have hasc : ∀ y ∈ fs.drop (i + 1), p < y.1 := by
      have h3 := (okf_drop ho i).asc
      rw [hdrop] at h3
      exact (List.pairwise_cons.mp h3).1
    simp only [bd_a, ret_a, lft_a, onC_n, onC_r, ite_a, decide_eq_true_eq, eq_self, if_true, Bool.false_eq_true, if_false, Bool.not_true, Bool.not_false, Bool.not_eq_true', decide_eq_false_iff_not, Bool.true_eq_false, not_true, not_false_iff, isint_a]
    refine ite_P (fun h => by omega) fun _ => ?_
    refine ite_P (fun h => by omega) fun _ => ?_
    refine ite_P (fun h => by omega) fun _ => ?_
    refine ite_P (fun h => by omega) fun _ => ?_
    refine lprime_M (by omega) fun b hb => ?_
    rw [hb.mpr hx1.1]
    simp only [bd_a, ret_a, lft_a, onC_n, onC_r, ite_a, decide_eq_true_eq, eq_self, if_true, Bool.false_eq_true, if_false, Bool.not_true, Bool.not_false, Bool.not_eq_true', decide_eq_false_iff_not, Bool.true_eq_false, not_true, not_false_iff]
    refine ⟨⟨by decide, by decide, by omega, by omega⟩, ?_⟩
    have hpr := prodF_split fs (i + 1)
    have hd1 := prodF_pos (okf_drop ho (i + 1))
    have hd0 := prodF_pos (okf_take ho i)
    have htk : prodF (fs.take (i + 1)) = prodF (fs.take i) * p ^ e.toNat := by
      rw [take_split hx, prodF_app]
      show _ * (p ^ e.toNat * 1) = _
      rw [Int.mul_one]
    refine forS_inv (fun k a => a = pr * p ^ k) (by simp) ?_ ?_
    · intro k x a T' hk ha hT'
      obtain ⟨_, hk2⟩ := rgs_at hk
      have hk3 : k + 1 ≤ e.toNat := by omega
      have e1 : pr * p ^ (k + 1) = a * p := by rw [ha, Int.pow_succ, Int.mul_assoc]
      have hpw : p ^ e.toNat = p ^ (k + 1) * p ^ (e.toNat - (k + 1)) := by
        rw [← Int.pow_add]
        congr 1
        omega
      have b1 := pow_pos' (p := p) (by omega) (e.toNat - (k + 1))
      have b2 := pow_pos' (p := p) (by omega) (k + 1)
      have b3 := pow_pos' (p := p) (by omega) k
      have b4 : p ^ (k + 1) ≤ p ^ e.toNat := by rw [hpw]; exact le_mul_right' (by omega) b1
      have b5 : pr * p ^ (k + 1) ≤ prodF (fs.take i) * p ^ e.toNat := by
        rw [j1]
        exact Int.mul_le_mul_of_nonneg_left b4 (by omega)
      have b6 : prodF (fs.take (i + 1)) ≤ n := by
        have := le_mul_right' (a := prodF (fs.take (i + 1))) (b := prodF (fs.drop (i + 1))) (by rw [htk]; exact Int.mul_nonneg (by omega) (by omega)) hd1
        omega
      have b7 : 1 ≤ a := by rw [ha]; exact mul_pos1 (by omega) b3
      have b8 : a ≤ a * p := le_mul_right' (by omega) (by omega)
      refine ml_s (by omega) (by omega) (hT' _ e1.symm)
    · intro a ha
      have hln : (rgs 0 e).length = e.toNat := by rw [rgs_length]; congr 1; omega
      rw [hln] at ha
      refine hT (a, p) ⟨?_, hasc⟩
      show a = _
      rw [ha, htk, j1]
  · rintro ⟨pr, last⟩ ⟨j1, _⟩
    dsimp only at j1
    have h3 : pr = n := by
      rw [j1, List.take_length, hp]
    simp only [bd_a, ret_a, lft_a, onC_n, onC_r, ite_a, decide_eq_true_eq, eq_self, if_true, Bool.false_eq_true, if_false, Bool.not_true, Bool.not_false, Bool.not_eq_true', decide_eq_false_iff_not, Bool.true_eq_false, not_true, not_false_iff]
    have : decide (pr = n) = true := decide_eq_true h3
    rw [this]
    exact hQ
theorem law_true (ns : List Int) (hl : ns.length ≤ 63) : Mi.law ns (fun b => b = true) noE := by
  unfold Mi.law
  simp only [bd_a, ret_a, lft_a, onC_n, onC_r, ite_a, decide_eq_true_eq, eq_self, if_true, Bool.false_eq_true, if_false, Bool.not_true, Bool.not_false, Bool.not_eq_true', decide_eq_false_iff_not, Bool.true_eq_false, not_true, not_false_iff]
  refine ⟨by decide, ?_⟩
  have hmin : ∀ m : Int, (0 ≤ m) → (1 + (if (3 : Int) < m then 3 else m)) ≤ 4 ∧ 0 ≤ (1 + (if (3 : Int) < m then 3 else m)) := fun m hm => by
    split <;> omega
  have hm := hmin ns.length (by omega)
  refine ⟨⟨by decide, by decide, by omega, by omega⟩, ?_⟩
  refine forS_inv (fun i a => (a.1.length : Int) = 1 + i ∧ (∀ x ∈ a.1, 1 ≤ x ∧ x ≤ 1000000) ∧ (a.2.length : Int) = 37 + 4 * i ∧ ∀ x ∈ a.2, x ≤ 1000000) ⟨rfl, ?_, rfl, ?_⟩ ?_ ?_
  · intro x hx
    cases List.mem_singleton.mp hx
    decide
  · intro x hx
    obtain ⟨i, hi⟩ := List.mem_iff_getElem?.mp hx
    obtain ⟨e, h⟩ := rgs_at hi
    have : i < 37 := h
    omega
  · rintro i k ⟨nums, others⟩ T hk ⟨j1, j2, j3, j4⟩ hT
    dsimp only at j1 j2 j3 j4 ⊢
    obtain ⟨ek, hk2⟩ := rgs_at hk
    have hi : i < 4 := by omega
    simp only [bd_a, ret_a, lft_a, onC_n, onC_r, ite_a, decide_eq_true_eq, eq_self, if_true, Bool.false_eq_true, if_false, Bool.not_true, Bool.not_false, Bool.not_eq_true', decide_eq_false_iff_not, Bool.true_eq_false, not_true, not_false_iff]
    refine bag_M (by omega) (by omega) ?_
    refine number_M fun n n1 n2 => ?_
    refine ⟨by omega, ?_⟩
    refine neg_M fun m m1 => ?_
    refine ⟨by show others.length + 4 ≤ 100000; omega, ?_⟩
    refine hT _ ⟨?_, ?_, ?_, ?_⟩
    · show ((nums ++ [n]).length : Int) = 1 + ((i + 1 : Nat) : Int)
      rw [List.length_append]
      simp
      omega
    · intro x hx
      rcases List.mem_append.mp hx with hx | hx
      · exact j2 x hx
      · cases List.mem_singleton.mp hx
        exact ⟨n1, n2⟩
    · show ((others ++ [n, -n, 1000001 - n, m]).length : Int) = 37 + 4 * ((i + 1 : Nat) : Int)
      rw [List.length_append]
      simp
      omega
    · intro x hx
      rcases List.mem_append.mp hx with hx | hx
      · exact j4 x hx
      · simp only [List.mem_cons, List.not_mem_nil, or_false] at hx
        rcases hx with rfl | rfl | rfl | rfl <;> omega
  · rintro ⟨nums, others⟩ ⟨_, j2, _, j4⟩
    dsimp only at j2 j4 ⊢
    refine forC_inv (fun _ _ => True) trivial ?_ ?_
    · intro i x a T hx _ hT hR
      have hx1 := j2 x (List.mem_of_getElem? hx)
      simp only [bd_a, ret_a, lft_a, onC_n, onC_r, ite_a, decide_eq_true_eq, eq_self, if_true, Bool.false_eq_true, if_false, Bool.not_true, Bool.not_false, Bool.not_eq_true', decide_eq_false_iff_not, Bool.true_eq_false, not_true, not_false_iff]
      refine factored_M hx1.1 hx1.2 fun fs h1 h2 => ?_
      refine holds_M h1 h2 hx1.2 ?_
      have hfl := len_le h1 (by omega)
      simp only [bd_a, ret_a, lft_a, onC_n, onC_r, ite_a, decide_eq_true_eq, eq_self, if_true, Bool.false_eq_true, if_false, Bool.not_true, Bool.not_false, Bool.not_eq_true', decide_eq_false_iff_not, Bool.true_eq_false, not_true, not_false_iff]
      refine ite_P (fun h => ?_) (fun h => ?_)
      · refine ⟨0, by unfold L2.ixN; rw [if_pos (by decide), if_pos h]; rfl, ?_⟩
        exact ⟨by rw [List.length_set]; omega, hT () trivial⟩
      · exact ⟨by omega, hT () trivial⟩
    · intro a _
      simp only [bd_a, ret_a, lft_a, onC_n, onC_r, ite_a, decide_eq_true_eq, eq_self, if_true, Bool.false_eq_true, if_false, Bool.not_true, Bool.not_false, Bool.not_eq_true', decide_eq_false_iff_not, Bool.true_eq_false, not_true, not_false_iff]
      refine forC_inv (fun _ _ => True) trivial ?_ ?_
      · intro i x a T hx _ hT hR
        have hx1 := j2 x (List.mem_of_getElem? hx)
        simp only [bd_a, ret_a, lft_a, onC_n, onC_r, ite_a, decide_eq_true_eq, eq_self, if_true, Bool.false_eq_true, if_false, Bool.not_true, Bool.not_false, Bool.not_eq_true', decide_eq_false_iff_not, Bool.true_eq_false, not_true, not_false_iff]
        refine factored_M hx1.1 hx1.2 fun fs h1 h2 => ?_
        refine holds_M h1 h2 hx1.2 ?_
        simp only [bd_a, ret_a, lft_a, onC_n, onC_r, ite_a, decide_eq_true_eq, eq_self, if_true, Bool.false_eq_true, if_false, Bool.not_true, Bool.not_false, Bool.not_eq_true', decide_eq_false_iff_not, Bool.true_eq_false, not_true, not_false_iff]
        exact hT () trivial
      · intro a _
        simp only [bd_a, ret_a, lft_a, onC_n, onC_r, ite_a, decide_eq_true_eq, eq_self, if_true, Bool.false_eq_true, if_false, Bool.not_true, Bool.not_false, Bool.not_eq_true', decide_eq_false_iff_not, Bool.true_eq_false, not_true, not_false_iff]
        refine forC_inv (fun _ _ => True) trivial ?_ ?_
        · intro i x a T hx _ hT hR
          have hx1 := j4 x (List.mem_of_getElem? hx)
          simp only [bd_a, ret_a, lft_a, onC_n, onC_r, ite_a, decide_eq_true_eq, eq_self, if_true, Bool.false_eq_true, if_false, Bool.not_true, Bool.not_false, Bool.not_eq_true', decide_eq_false_iff_not, Bool.true_eq_false, not_true, not_false_iff]
          refine judged_M hx1 ?_
          simp only [bd_a, ret_a, lft_a, onC_n, onC_r, ite_a, decide_eq_true_eq, eq_self, if_true, Bool.false_eq_true, if_false, Bool.not_true, Bool.not_false, Bool.not_eq_true', decide_eq_false_iff_not, Bool.true_eq_false, not_true, not_false_iff]
          exact hT () trivial
        · intro a _
          rfl
end K01

namespace K01
open PySem PySem.Spec PyProof.Rows L2 Y
def topS (i : Nat) : Stmt := PySem.Challenge.pw_stepsvanish_k01_numbers_factored.main.body.getD i (.Pass ⟨0, 0, 0, 0⟩)

abbrev st_factored : Stmt := topS 1
abbrev N_factored : List Str := ["number", "factors", "rest", "prime", "exponent"]
theorem sc_factored : FnScope N_factored ["number"] (defScope st_factored) := ⟨rfl, rfl, rfl, by decide +kernel, rfl, by decide +kernel, by decide +kernel⟩
abbrev sp_factored (K : PySem.W.Frag) : Sp := sp0 (aC sI.r aN) (fun a => Mi.factored a.1) (fun z => nL (sP K sI sI) z)
theorem ok_factored {P : Program} {w : World} {K : PySem.W.Frag} {mg : Str → Option Value} {base : Heap} {f : Addr} {fd : FuncData} (F : Fun K "factored" "factored" st_factored f fd) : FnOk P w K mg base CX0 1 f fd ["number"] (sp_factored K) := by
  refine fn0 F sc_factored (fun s vs a h => ?_) (fun cdv A outer sh E0 hr C a vs Qm ok ha hm => ?_)
  · obtain ⟨v0, w0, rfl, _, h⟩ := h; cases h; rfl
  · obtain ⟨number, _⟩ := a
    obtain ⟨v_number, w_number, rfl, f_number, ha⟩ := ha
    cases ha
    obtain rfl : v_number = V.int number := f_number
    have G : Gr C.s0 C.s0 := Gx.refl ok
    refine ⟨_, (pss_cons (ps_set (i := 1) sc_factored.nd rfl (.inl rfl) (pe_lst pa_nil)) (pss_cons (ps_set (i := 2) sc_factored.nd rfl (.inl rfl) (pv 0)) (pss_cons (ps_set (i := 3) sc_factored.nd rfl (.inl rfl) pe_int) (pss_cons (ps_while PassesOwn.never (pt_cmpR op_le (pe_op op_mulW (pv 3) (pv 3)) (pv 2) (nomark _)) (pss_cons (ps_set (i := 4) sc_factored.nd rfl (.inl rfl) pe_int) (pss_cons (ps_while PassesOwn.never (pt_cmpR op_eq (pe_op op_modN (pv 2) (pv 3)) pe_int (nomark _)) (pss_cons (ps_set (i := 2) sc_factored.nd rfl (.inl rfl) (pe_op op_fdivG (pv 2) (pv 3))) (pss_cons (ps_set (i := 4) sc_factored.nd rfl (.inl rfl) (pe_op op_add (pv 4) pe_int)) pss_nil))) (C8.pss_cut (ps_if (pt_cmpR op_gt (pv 4) pe_int (nomark _)) (pss_cons (ps_expr (pe_bm PySem.F.plainAttrs_list PySem.F.slot_list_append PySem.F.type_list_append mt_append (pv 1) (pa_cons (pe_tup (pa_cons (pv 3) (pa_cons (pv 4) pa_nil))) pa_nil))) pss_nil) pss_nil) (pss_cons (ps_set (i := 3) sc_factored.nd rfl (.inl rfl) (pe_op op_add (pv 3) pe_int)) pss_nil))))) (C8.pss_cut (ps_if (pt_cmpR op_gt (pv 2) pe_int (nomark _)) (pss_cons (ps_expr (pe_bm PySem.F.plainAttrs_list PySem.F.slot_list_append PySem.F.type_list_append mt_append (pv 1) (pa_cons (pe_tup (pa_cons (pv 2) (pa_cons pe_int pa_nil))) pa_nil))) pss_nil) pss_nil) (pss_cons (ps_ret (pv 1)) pss_nil)))))), fun Q hQ => ?_⟩
    refine s_setN (σf := fun v => [some (.int number), some v, none, none, none]) hm (evn_lst (el_nil (r := (sP K sI sI))) (by decide)) G (fun _ => rfl) fun factors p_factors s2 g1 hn3 f_factors hm => ?_
    have G := Gx.trans G g1
    refine s_set (σf := fun v => [some (.int number), some (.ref p_factors), some v, none, none]) hm (ev_var (r := sI.r) (d := number) rfl) G (fun _ => rfl) fun rest v_rest s5 g4 f_rest hm => ?_
    have G := Gx.trans G g4
    have f_factors := Rep.u g4 f_factors
    obtain rfl : v_rest = V.int rest := f_rest
    refine s_set (σf := fun v => [some (.int number), some (.ref p_factors), some (.int rest), some v, none]) hm ev_int G (fun _ => rfl) fun prime v_prime s7 g6 f_prime hm => ?_
    have G := Gx.trans G g6
    have f_factors := Rep.u g6 f_factors
    obtain rfl : v_prime = V.int prime := f_prime
    refine s_while (fun (a : ((List (Int × Int)) × Int × Int)) σ' s' => Gr C.s0 s' ∧ Ex s7.st s'.st ∧ ∃ y_exponent, σ' = [some (.int number), some (.ref p_factors), some (.int a.2.1), some (.int a.2.2), y_exponent] ∧ (oL C.s0 (sP K sI sI) p_factors).is s' (.ref p_factors) a.1) hm (fun _ _ _ h => h.1) ⟨G, Ex.refl _, none, rfl, f_factors⟩ (fun a σ' s8 hI => ?_) (fun a σ' s9 s10 hI g Qb hm => ?_) (fun a σ' s11 s12 hI g hm => ?_)
    · obtain ⟨factors, rest, prime⟩ := a
      obtain ⟨G, E, y_exponent, rfl, f_factors⟩ := hI
      exact (et_test (ev_le (ev_mul (ev_var (r := sI.r) (d := prime) rfl) (ev_var (r := sI.r) (d := prime) rfl)) (ev_var (r := sI.r) (d := rest) rfl)))
    · obtain ⟨factors, rest, prime⟩ := a
      obtain ⟨G, E, y_exponent, rfl, f_factors⟩ := hI
      have G := Gx.trans G g
      have E := Ex.trans E g.st
      have f_factors := Rep.u g f_factors
      refine s_set (σf := fun v => [some (.int number), some (.ref p_factors), some (.int rest), some (.int prime), some v]) hm ev_int G (fun _ => rfl) fun exponent v_exponent s16 g15 f_exponent hm => ?_
      have G := Gx.trans G g15
      have E := Ex.trans E g15.st
      have f_factors := Rep.u g15 f_factors
      obtain rfl : v_exponent = V.int exponent := f_exponent
      refine s_while (fun (a : (Int × Int)) σ' s' => Gr C.s0 s' ∧ Ex s16.st s'.st ∧ σ' = [some (.int number), some (.ref p_factors), some (.int a.1), some (.int prime), some (.int a.2)] ∧ (oL C.s0 (sP K sI sI) p_factors).is s' (.ref p_factors) factors) hm (fun _ _ _ h => h.1) ⟨G, Ex.refl _, rfl, f_factors⟩ (fun a σ' s17 hI => ?_) (fun a σ' s18 s19 hI g Qb hm => ?_) (fun a σ' s20 s21 hI g hm => ?_)
      · obtain ⟨rest, exponent⟩ := a
        obtain ⟨G, E, rfl, f_factors⟩ := hI
        exact (et_test (ev_eqI (ev_mod (ev_var (r := sI.r) (d := rest) rfl) (ev_var (r := sI.r) (d := prime) rfl)) ev_int))
      · obtain ⟨rest, exponent⟩ := a
        obtain ⟨G, E, rfl, f_factors⟩ := hI
        have G := Gx.trans G g
        have E := Ex.trans E g.st
        have f_factors := Rep.u g f_factors
        refine s_set (σf := fun v => [some (.int number), some (.ref p_factors), some v, some (.int prime), some (.int exponent)]) hm (ev_div (ev_var (r := sI.r) (d := rest) rfl) (ev_var (r := sI.r) (d := prime) rfl)) G (fun _ => rfl) fun rest v_rest s25 g24 f_rest hm => ?_
        have G := Gx.trans G g24
        have E := Ex.trans E g24.st
        have f_factors := Rep.u g24 f_factors
        obtain rfl : v_rest = V.int rest := f_rest
        refine s_set (σf := fun v => [some (.int number), some (.ref p_factors), some (.int rest), some (.int prime), some v]) hm (ev_add (ev_var (r := sI.r) (d := exponent) rfl) ev_int) G (fun _ => rfl) fun exponent v_exponent s27 g26 f_exponent hm => ?_
        have G := Gx.trans G g26
        have E := Ex.trans E g26.st
        have f_factors := Rep.u g26 f_factors
        obtain rfl : v_exponent = V.int exponent := f_exponent
        exact ⟨(rest, exponent), _, rfl, hm, ⟨G, E, rfl, f_factors⟩⟩
      have E0 := E
      obtain ⟨rest, exponent⟩ := a
      obtain ⟨G, E, rfl, f_factors⟩ := hI
      have G := Gx.trans G g
      have E := Ex.trans (Ex.trans E0 E) g.st
      have f_factors := Rep.u g f_factors
      refine s_ifj (fun (a : ((List (Int × Int)))) σ' s' => Gr C.s0 s' ∧ Ex s21.st s'.st ∧ σ' = [some (.int number), some (.ref p_factors), some (.int rest), some (.int prime), some (.int exponent)] ∧ (oL C.s0 (sP K sI sI) p_factors).is s' (.ref p_factors) a) hm (et_test (ev_gt (ev_var (r := sI.r) (d := exponent) rfl) ev_int)) G (fun s29 g28 Qb hm => ?_) (fun s30 g28 Qb hm => ?_) (fun a σ' s34 hI hm => ?_)
      · have G := Gx.trans G g28
        have E := g28.st
        have f_factors := Rep.u g28 f_factors
        refine s_app (m := (ret (prime, exponent))) hm f_factors (ev_var f_factors) (ev_pair (ev_var (r := sI.r) (d := prime) rfl) (ev_var (r := sI.r) (d := exponent) rfl)) G fun factors s32 g33 G f_factors hm => ?_
        have E := Ex.trans E g33.st
        exact ⟨factors, _, rfl, hm, ⟨G, E, rfl, f_factors⟩⟩
      · have G := Gx.trans G g28
        have E := g28.st
        have f_factors := Rep.u g28 f_factors
        exact ⟨factors, _, rfl, hm, ⟨G, E, rfl, f_factors⟩⟩
      have E0 := E
      obtain ⟨factors, ea⟩ : ∃ z, z = a := ⟨a, rfl⟩
      subst ea
      obtain ⟨G, E, rfl, f_factors⟩ := hI
      have E := Ex.trans E0 E
      refine s_set (σf := fun v => [some (.int number), some (.ref p_factors), some (.int rest), some v, some (.int exponent)]) hm (ev_add (ev_var (r := sI.r) (d := prime) rfl) ev_int) G (fun _ => rfl) fun prime v_prime s36 g35 f_prime hm => ?_
      have G := Gx.trans G g35
      have E := Ex.trans E g35.st
      have f_factors := Rep.u g35 f_factors
      obtain rfl : v_prime = V.int prime := f_prime
      exact ⟨(factors, rest, prime), _, rfl, hm, ⟨G, E, some (.int exponent), rfl, f_factors⟩⟩
    obtain ⟨factors, rest, prime⟩ := a
    obtain ⟨G, E, y_exponent, rfl, f_factors⟩ := hI
    have G := Gx.trans G g
    have f_factors := Rep.u g f_factors
    refine s_ifj (fun (a : ((List (Int × Int)))) σ' s' => Gr C.s0 s' ∧ Ex s12.st s'.st ∧ σ' = [some (.int number), some (.ref p_factors), some (.int rest), some (.int prime), y_exponent] ∧ (oL C.s0 (sP K sI sI) p_factors).is s' (.ref p_factors) a) hm (et_test (ev_gt (ev_var (r := sI.r) (d := rest) rfl) ev_int)) G (fun s38 g37 Qb hm => ?_) (fun s39 g37 Qb hm => ?_) (fun a σ' s43 hI hm => ?_)
    · have G := Gx.trans G g37
      have E := g37.st
      have f_factors := Rep.u g37 f_factors
      refine s_app (m := (ret (rest, (1 : Int)))) hm f_factors (ev_var f_factors) (ev_pair (ev_var (r := sI.r) (d := rest) rfl) ev_int) G fun factors s41 g42 G f_factors hm => ?_
      have E := Ex.trans E g42.st
      exact ⟨factors, _, rfl, hm, ⟨G, E, rfl, f_factors⟩⟩
    · have G := Gx.trans G g37
      have E := g37.st
      have f_factors := Rep.u g37 f_factors
      exact ⟨factors, _, rfl, hm, ⟨G, E, rfl, f_factors⟩⟩
    obtain ⟨factors, ea⟩ : ∃ z, z = a := ⟨a, rfl⟩
    subst ea
    obtain ⟨G, E, rfl, f_factors⟩ := hI
    exact s_ret hm (ev_var f_factors) G fun d v u qd g hv => hQ d v u ((fun _ q => q) d qd) g ⟨_, hv.1, hv⟩


abbrev st_is_prime : Stmt := topS 2
abbrev N_is_prime : List Str := ["number"]
theorem sc_is_prime : FnScope N_is_prime ["number"] (defScope st_is_prime) := ⟨rfl, rfl, rfl, by decide +kernel, rfl, by decide +kernel, by decide +kernel⟩
abbrev sp_is_prime (K : PySem.W.Frag) : Sp := sp0 (aC sI.r aN) (fun a => Mi.is_prime a.1) (fun _ => sB.r)
theorem ok_is_prime {P : Program} {w : World} {K : PySem.W.Frag} {mg : Str → Option Value} {base : Heap} {f : Addr} {fd : FuncData} (F : Fun K "is_prime" "is_prime" st_is_prime f fd) {f_factored : Addr} {fd_factored : FuncData} (c_factored : Cal P w K mg base CX0 1 "factored" ["number"] (sp_factored K) f_factored fd_factored) : FnOk P w K mg base CX0 2 f fd ["number"] (sp_is_prime K) := by
  refine fn0 F sc_is_prime (fun s vs a h => ?_) (fun cdv A outer sh E0 hr C a vs Qm ok ha hm => ?_)
  · obtain ⟨v0, w0, rfl, _, h⟩ := h; cases h; rfl
  · obtain ⟨number, _⟩ := a
    obtain ⟨v_number, w_number, rfl, f_number, ha⟩ := ha
    cases ha
    obtain rfl : v_number = V.int number := f_number
    have G : Gr C.s0 C.s0 := Gx.refl ok
    refine ⟨_, (pss_cons (ps_if (pt_cmpR op_lt (pv 0) pe_int (nomark _)) (pss_cons (ps_ret pe_bl) pss_nil) pss_nil) (pss_cons (ps_ret (pe_cmpR (op_eqD hr.units) (pe_call c_factored.ok hr (by rfl) c_factored.gm c_factored.kp c_factored.bn .nil pass0 (pa_cons (pv 0) pa_nil)) (pe_lst (pa_cons (pe_tup (pa_cons (pv 0) (pa_cons pe_int pa_nil))) pa_nil)) (nomark _))) pss_nil)), fun Q hQ => ?_⟩
    refine s_if1 hm (et_test (ev_lt (ev_var (r := sI.r) (d := number) rfl) ev_int)) G (fun s2 g1 hm => ?_) (fun s3 g1 hm => ?_)
    · have G := Gx.trans G g1
      exact s_ret hm ev_bl G fun d v u qd g hv => hQ d v u ((fun _ q => q) d qd) g hv
    have G := Gx.trans G g1
    exact s_ret hm (ev_eqD (enc_L (enc_P enc_I enc_I)) (dpr_st (enc_L (enc_P enc_I enc_I))) (dpr_st (enc_L (enc_P enc_I enc_I))) (Nat.le_of_ble_eq_true rfl) (evn_ev (evn_call (ea_cons (ev_var (r := sI.r) (d := number) rfl) ea_nil))) (evn_ev (evn_lst (el_cons (ev_pair (ev_var (r := sI.r) (d := number) rfl) ev_int) (el_nil (r := (sP K sI sI)))) (by decide)))) G fun d v u qd g hv => hQ d v u ((fun _ q => q) d qd) g hv


abbrev st__law_bag : Stmt := topS 4
abbrev N__law_bag : List Str := ["script", "k", "cell"]
theorem sc__law_bag : FnScope N__law_bag ["script", "k"] (defScope st__law_bag) := ⟨rfl, rfl, rfl, by decide +kernel, rfl, by decide +kernel, by decide +kernel⟩
abbrev sp__law_bag (K : PySem.W.Frag) : Sp := sp0 (aC (sF K sI).r (aC sI.r aN)) (fun a => Mi._law_bag a.1 a.2.1) (fun _ => rG)
theorem ok__law_bag {P : Program} {w : World} {K : PySem.W.Frag} {mg : Str → Option Value} {base : Heap} {f : Addr} {fd : FuncData} (F : Fun K "_law_bag" "_law_bag" st__law_bag f fd) (m_abs : mg "abs" = none) (m_int : mg "int" = none) (m_len : mg "len" = none) : FnOk P w K mg base CX0 1 f fd ["script", "k"] (sp__law_bag K) := by
  refine fn0 F sc__law_bag (fun s vs a h => ?_) (fun cdv A outer sh E0 hr C a vs Qm ok ha hm => ?_)
  · obtain ⟨v0, w0, rfl, _, h⟩ := h; obtain ⟨v1, w1, rfl, _, h⟩ := h; cases h; rfl
  · obtain ⟨script, k, _⟩ := a
    obtain ⟨v_script, w_script, rfl, f_script, ha⟩ := ha
    obtain ⟨v_k, w_k, rfl, f_k, ha⟩ := ha
    cases ha
    obtain rfl : v_k = V.int k := f_k
    have G : Gr C.s0 C.s0 := Gx.refl ok
    refine ⟨_, (pss_cons (ps_set (i := 2) sc__law_bag.nd rfl (.inl rfl) pe_int) (C8.pss_cut (ps_if (pt_cmpR op_lt (pv 1) (pe_callB call_len_seq (by rfl) m_len PySem.boot_len (pa_cons (pv 0) pa_nil)) (nomark _)) (pss_cons (ps_set (i := 2) sc__law_bag.nd rfl (.inl rfl) (pe_ix ix_list (pv 0) (pv 1) (fun _ _ => rfl))) pss_nil) pss_nil) (pss_cons (ps_if (pt_cmpR op_ge (pe_callB call_abs (by rfl) m_abs (by decide +kernel) (pa_cons (pv 2) pa_nil)) (pe_op op_pow pe_int pe_int) (nomark _)) (pss_cons (ps_ret (pe_lst (pa_cons (pe_callB call_abs (by rfl) m_abs (by decide +kernel) (pa_cons (pv 2) pa_nil)) (pa_cons (pe_op op_modN (pe_callTy call_int1 (by rfl) m_int (by decide +kernel) (pa_cons (pe_callB call_abs (by rfl) m_abs (by decide +kernel) (pa_cons (pv 2) pa_nil)) pa_nil)) pe_int) pa_nil)))) pss_nil) pss_nil) (pss_cons (ps_ret (pe_lst (pa_cons pe_int (pa_cons (pe_op op_modN (pe_callTy call_int1 (by rfl) m_int (by decide +kernel) (pa_cons (pe_op op_add (pe_op op_mulW (pv 2) pe_int) (pe_op op_mulW pe_int (pe_op op_add (pv 1) pe_int))) pa_nil)) pe_int) pa_nil)))) pss_nil)))), fun Q hQ => ?_⟩
    refine s_set (σf := fun v => [some v_script, some (.int k), some v]) hm ev_int G (fun _ => rfl) fun cell v_cell s2 g1 f_cell hm => ?_
    have G := Gx.trans G g1
    have f_script := Rep.u g1 f_script
    obtain rfl : v_cell = V.int cell := f_cell
    refine s_ifj (fun (a : (Int)) σ' s' => Gr C.s0 s' ∧ Ex s2.st s'.st ∧ σ' = [some v_script, some (.int k), some (.int a)]) hm (et_test (ev_lt (ev_var (r := sI.r) (d := k) rfl) (ev_lenL rd_scr (ev_var f_script)))) G (fun s4 g3 Qb hm => ?_) (fun s5 g3 Qb hm => ?_) (fun a σ' s9 hI hm => ?_)
    · have G := Gx.trans G g3
      have E := g3.st
      have f_script := Rep.u g3 f_script
      refine s_set (σf := fun v => [some v_script, some (.int k), some v]) hm (ev_ixL rd_scr (ev_var f_script) (ev_var (r := sI.r) (d := k) rfl)) G (fun _ => rfl) fun cell v_cell s8 g7 f_cell hm => ?_
      have G := Gx.trans G g7
      have E := Ex.trans E g7.st
      obtain rfl : v_cell = V.int cell := f_cell
      exact ⟨cell, _, rfl, hm, ⟨G, E, rfl⟩⟩
    · have G := Gx.trans G g3
      have E := g3.st
      exact ⟨cell, _, rfl, hm, ⟨G, E, rfl⟩⟩
    obtain ⟨cell, ea⟩ : ∃ z, z = a := ⟨a, rfl⟩
    subst ea
    obtain ⟨G, E, rfl⟩ := hI
    refine s_if1 hm (et_test (ev_ge (ev_abs (ev_var (r := sI.r) (d := cell) rfl)) (ev_pow ev_int ev_int))) G (fun s12 g11 hm => ?_) (fun s13 g11 hm => ?_)
    · have G := Gx.trans G g11
      exact s_ret hm (ev_bag (evn_lst (el_cons (ev_abs (ev_var (r := sI.r) (d := cell) rfl)) (el_cons (ev_mod (ev_intI (ev_abs (ev_var (r := sI.r) (d := cell) rfl))) ev_int) (el_nil (r := sI)))) (by decide))) G fun d v u qd g hv => hQ d v u ((fun _ q => q) d qd) g hv
    have G := Gx.trans G g11
    exact s_ret hm (ev_bag (evn_lst (el_cons ev_int (el_cons (ev_mod (ev_intI (ev_add (ev_mul (ev_var (r := sI.r) (d := cell) rfl) ev_int) (ev_mul ev_int (ev_add (ev_var (r := sI.r) (d := k) rfl) ev_int)))) ev_int) (el_nil (r := sI)))) (by decide))) G fun d v u qd g hv => hQ d v u ((fun _ q => q) d qd) g hv

abbrev st__law_take : Stmt := topS 5
abbrev N__law_take : List Str := ["bag", "size", "digit"]
theorem sc__law_take : FnScope N__law_take ["bag", "size"] (defScope st__law_take) := ⟨rfl, rfl, rfl, by decide +kernel, rfl, by decide +kernel, by decide +kernel⟩
abbrev sp__law_take (K : PySem.W.Frag) : Sp := sp0 (aC rG (aC sI.r aN)) (fun a => Mi._law_take a.1 a.2.1) (fun _ => sI.r)
theorem ok__law_take {P : Program} {w : World} {K : PySem.W.Frag} {mg : Str → Option Value} {base : Heap} {f : Addr} {fd : FuncData} (F : Fun K "_law_take" "_law_take" st__law_take f fd) (m_int : mg "int" = none) : FnOk P w K mg base CX0 1 f fd ["bag", "size"] (sp__law_take K) := by
  refine fn0 F sc__law_take (fun s vs a h => ?_) (fun cdv A outer sh E0 hr C a vs Qm ok ha hm => ?_)
  · obtain ⟨v0, w0, rfl, _, h⟩ := h; obtain ⟨v1, w1, rfl, _, h⟩ := h; cases h; rfl
  · obtain ⟨_, size, _⟩ := a
    obtain ⟨v_bag, w_bag, rfl, ⟨p, rfl, hb⟩, ha⟩ := ha
    obtain ⟨v_size, w_size, rfl, f_size, ha⟩ := ha
    cases ha
    obtain rfl : v_size = V.int size := f_size
    obtain ⟨hst, i, j, hh⟩ := ok.bag p hb
    obtain ⟨⟨h0, h1⟩, hq⟩ := hm
    have h0 : 0 < size := h0
    have fin : ∀ (r : Int) (u : S), 0 ≤ r → r < size → Gr C.s0 u → ∀ Q : VK, (∀ d v u, Qm d → Gr C.s0 u → sI.r.is u v d → Q v u.hp) → Q (.int r) u.hp := fun r u hr0 hr1 g Q hQ => hQ r _ u (hq r hr0 hr1) g rfl
    have sq : ∀ (u : S) (x y : Int), u.hp p = some (.lst [.int x, .int y]) → SqL K u.hp p [.int x, .int y] := fun u x y e => sqL_of e
    refine ⟨_, (pss_cons (ps_if (pt_cmpR op_ge (pe_ix ix_list (pv 0) pe_int (fun _ _ => rfl)) (pv 1) (nomark _))
      (pss_cons (ps_set (i := 2) sc__law_take.nd rfl (.inl rfl) (pe_op op_modN (pe_callTy call_int1 (by rfl) m_int (by decide +kernel) (pa_cons (pe_ix ix_list (pv 0) pe_int (fun _ _ => rfl)) pa_nil)) (pv 1)))
        (pss_cons (ps_asg (pe_op op_fdivG (pe_ix ix_list (pv 0) pe_int (fun _ _ => rfl)) (pv 1)) (pg_sub (pv 0) pe_int set_list)) (pss_cons (ps_ret (pv 2)) pss_nil))) pss_nil)
      (pss_cons (ps_asg (pe_op op_modN (pe_callTy call_int1 (by rfl) m_int (by decide +kernel) (pa_cons (pe_op op_add (pe_op op_mul (pe_ix ix_list (pv 0) pe_int (fun _ _ => rfl)) pe_int) pe_int) pa_nil)) pe_int) (pg_sub (pv 0) pe_int set_list))
      (pss_cons (ps_asg (pe_op op_modN (pe_callTy call_int1 (by rfl) m_int (by decide +kernel) (pa_cons (pe_op op_add (pe_op op_mul (pe_ix ix_list (pv 0) pe_int (fun _ _ => rfl)) pe_int) pe_int) pa_nil)) pe_int) (pg_sub (pv 0) pe_int set_list))
      (pss_cons (ps_ret (pe_op op_modN (pe_callTy call_int1 (by rfl) m_int (by decide +kernel) (pa_cons (pe_op op_fdivG (pe_ix ix_list (pv 0) pe_int (fun _ _ => rfl)) pe_int) pa_nil)) (pv 1))) pss_nil)))), fun Q hQ => ?_⟩
    refine ⟨.ref p, rfl, p, _, 0, .int i, rfl, rfl, sq _ _ _ hh, rfl, .int size, rfl, i, size, rfl, rfl, _, rfl, ite2 (fun e => ?_) (fun e => ?_)⟩
    · refine ⟨.ref p, rfl, p, _, 0, .int i, rfl, rfl, sq _ _ _ hh, rfl, .inl ⟨i, rfl, .int size, rfl, i, size, rfl, rfl, by omega, ?_⟩⟩
      refine ⟨.ref p, rfl, p, _, 0, .int i, rfl, rfl, sq _ _ _ hh, rfl, .int size, rfl, i, size, rfl, rfl, ⟨by omega, h1⟩, .ref p, rfl, p, _, 0, 0, rfl, rfl, hh, rfl, .int (i.fmod size), rfl, ?_⟩
      exact fin _ (wr C.s0 p _) (Int.fmod_nonneg_of_pos _ h0) (Int.fmod_lt_of_pos _ h0) (bag_gr ok hb) Q hQ
    · have m1 : ((48271 : Int) < 2 ^ 64) := by decide
      refine ⟨.ref p, rfl, p, _, 1, .int j, rfl, rfl, sq _ _ _ hh, rfl, j, 48271, rfl, rfl, .inr ⟨by decide, by decide⟩, _, 11, rfl, rfl, .inl ⟨_, rfl, _, 2147483647, rfl, rfl, (by show (2147483647 : Int) ≠ 0; decide), .ref p, rfl, p, _, 1, 1, rfl, rfl, hh, rfl, ?_⟩⟩
      have g1 := bag_gr (i := i) (j := (j * 48271 + 11).fmod 2147483647) ok hb
      have hb1 := g1.bg p hb
      have hh1 : (wr C.s0 p (.lst [.int i, .int ((j * 48271 + 11).fmod 2147483647)])).hp p = some (.lst [.int i, .int ((j * 48271 + 11).fmod 2147483647)]) := upd_same
      refine ⟨.ref p, rfl, p, _, 1, .int ((j * 48271 + 11).fmod 2147483647), rfl, rfl, sq _ _ _ hh1, rfl, _, 69621, rfl, rfl, .inr ⟨by decide, by decide⟩, _, 1013, rfl, rfl, .inl ⟨_, rfl, _, 2147483629, rfl, rfl, (by show (2147483629 : Int) ≠ 0; decide), .ref p, rfl, p, _, 1, 1, rfl, rfl, hh1, rfl, ?_⟩⟩
      have g2 := bag_gr (i := i) (j := (((j * 48271 + 11).fmod 2147483647) * 69621 + 1013).fmod 2147483629) g1.ok hb1
      refine ⟨.ref p, rfl, p, _, 1, .int ((((j * 48271 + 11).fmod 2147483647) * 69621 + 1013).fmod 2147483629), rfl, rfl, sqL_of upd_same, rfl, _, 8, rfl, rfl, ⟨by decide, by decide +kernel⟩, .inl ⟨_, rfl, .int size, rfl, _, size, rfl, rfl, by omega, ?_⟩⟩
      exact fin _ (wr (wr C.s0 p _) p _) (Int.fmod_nonneg_of_pos _ h0) (Int.fmod_lt_of_pos _ h0) (g1.trans g2) Q hQ


abbrev st__law_is_integer : Stmt := topS 6
abbrev N__law_is_integer : List Str := ["told"]
theorem sc__law_is_integer : FnScope N__law_is_integer ["told"] (defScope st__law_is_integer) := ⟨rfl, rfl, rfl, by decide +kernel, rfl, by decide +kernel, by decide +kernel⟩
abbrev sp__law_is_integer (K : PySem.W.Frag) : Sp := sp0 (aC sI.r aN) (fun a => Mi._law_is_integer a.1) (fun _ => sB.r)
theorem ok__law_is_integer {P : Program} {w : World} {K : PySem.W.Frag} {mg : Str → Option Value} {base : Heap} {f : Addr} {fd : FuncData} (F : Fun K "_law_is_integer" "_law_is_integer" st__law_is_integer f fd) (m_bool : mg "bool" = none) (m_int : mg "int" = none) (m_isinstance : mg "isinstance" = none) : FnOk P w K mg base CX0 1 f fd ["told"] (sp__law_is_integer K) := by
  refine fn0 F sc__law_is_integer (fun s vs a h => ?_) (fun cdv A outer sh E0 hr C a vs Qm ok ha hm => ?_)
  · obtain ⟨v0, w0, rfl, _, h⟩ := h; cases h; rfl
  · obtain ⟨told, _⟩ := a
    obtain ⟨v_told, w_told, rfl, f_told, ha⟩ := ha
    cases ha
    obtain rfl : v_told = V.int told := f_told
    have G : Gr C.s0 C.s0 := Gx.refl ok
    refine ⟨_, (pss_cons (ps_ret (pe_and (pe_callB call_isi (by rfl) m_isinstance (by decide +kernel) (pa_cons (pv 0) (pa_cons (pe_bltn (v := .ty "int") (by rfl) m_int (by decide +kernel) rfl) pa_nil))) (pe_one (pe_not (pe_callB call_isi (by rfl) m_isinstance (by decide +kernel) (pa_cons (pv 0) (pa_cons (pe_bltn (v := .ty "bool") (by rfl) m_bool (by decide +kernel) rfl) pa_nil))))))) pss_nil), fun Q hQ => ?_⟩
    exact s_ret hm (ev_andV (ev_isi (T := "int") (U := "int") (b := true) oty_I (by decide +kernel) (ev_var (r := sI.r) (d := told) rfl)) (ev_notV (ev_isi (T := "int") (U := "bool") (b := false) oty_I (by decide +kernel) (ev_var (r := sI.r) (d := told) rfl)))) G fun d v u qd g hv => hQ d v u ((fun _ q => q) d qd) g hv


abbrev st__law_prime : Stmt := topS 7
abbrev N__law_prime : List Str := ["number", "divisor"]
theorem sc__law_prime : FnScope N__law_prime ["number"] (defScope st__law_prime) := ⟨rfl, rfl, rfl, by decide +kernel, rfl, by decide +kernel, by decide +kernel⟩
abbrev sp__law_prime (K : PySem.W.Frag) : Sp := sp0 (aC sI.r aN) (fun a => Mi._law_prime a.1) (fun _ => sB.r)
theorem ok__law_prime {P : Program} {w : World} {K : PySem.W.Frag} {mg : Str → Option Value} {base : Heap} {f : Addr} {fd : FuncData} (F : Fun K "_law_prime" "_law_prime" st__law_prime f fd) (m_int : mg "int" = none) (m_range : mg "range" = none) : FnOk P w K mg base CX0 1 f fd ["number"] (sp__law_prime K) := by
  refine fn0 F sc__law_prime (fun s vs a h => ?_) (fun cdv A outer sh E0 hr C a vs Qm ok ha hm => ?_)
  · obtain ⟨v0, w0, rfl, _, h⟩ := h; cases h; rfl
  · obtain ⟨number, _⟩ := a
    obtain ⟨v_number, w_number, rfl, f_number, ha⟩ := ha
    cases ha
    obtain rfl : v_number = V.int number := f_number
    have G : Gr C.s0 C.s0 := Gx.refl ok
    refine ⟨_, (pss_cons (ps_if (pt_cmpR op_lt (pv 0) pe_int (nomark _)) (pss_cons (ps_ret pe_bl) pss_nil) pss_nil) (pss_cons (ps_for PassesOwn.never rfl (pi_range2 (by rfl) m_range (pa_cons pe_int (pa_cons pe_int pa_nil))) (pg_name (i := 1) sc__law_prime.nd rfl (.inl rfl)) (pss_cons (ps_if (pt_cmpR op_gt (pe_op op_mulW (pv 1) (pv 1)) (pv 0) (nomark _)) (pss_cons (ps_ret pe_bl) pss_nil) pss_nil) (pss_cons (ps_if (pt_cmpR op_eq (pe_op op_modN (pe_callTy call_int1 (by rfl) m_int (by decide +kernel) (pa_cons (pv 0) pa_nil)) (pv 1)) pe_int (nomark _)) (pss_cons (ps_ret pe_bl) pss_nil) pss_nil) pss_nil))) (pss_cons (ps_ret pe_bl) pss_nil))), fun Q hQ => ?_⟩
    refine s_if1 hm (et_test (ev_lt (ev_var (r := sI.r) (d := number) rfl) ev_int)) G (fun s2 g1 hm => ?_) (fun s3 g1 hm => ?_)
    · have G := Gx.trans G g1
      exact s_ret hm ev_bl G fun d v u qd g hv => hQ d v u ((fun _ q => q) d qd) g hv
    have G := Gx.trans G g1
    refine s_forc (fun u (a : Unit) σ' s' => Gr C.s0 s' ∧ Ex u.st s'.st ∧ ∃ y_divisor, σ' = [some (.int number), y_divisor]) hm (ei_rng2 ev_int ev_int) G (fun _ _ _ _ h => ⟨h.1.ok, h.2.1⟩) (fun u gu => ⟨Gx.trans G gu, Ex.refl _, none, rfl⟩) (fun u divisor v_divisor a σ' s6 gu hI hx Qb hrt hm => ?_) (fun u a σ' s7 gu hI hm => ?_)
    · obtain ⟨G, E, y_divisor, rfl⟩ := hI
      obtain rfl : v_divisor = V.int divisor := hx
      refine gname_do (σ' := [some (.int number), some (.int divisor)]) rfl ?_
      refine s_if1 hm (et_test (ev_gt (ev_mul (ev_var (r := sI.r) (d := divisor) rfl) (ev_var (r := sI.r) (d := divisor) rfl)) (ev_var (r := sI.r) (d := number) rfl))) G (fun s10 g9 hm => ?_) (fun s11 g9 hm => ?_)
      · have G := Gx.trans G g9
        have E := Ex.trans E g9.st
        exact s_ret (Qm := fun d => Qb (.rt d)) hm ev_bl G fun d v u qd g hv => hQ d v u ((fun d q => (fun _ q => q) d (hrt d q)) d qd) g hv
      have G := Gx.trans G g9
      have E := Ex.trans E g9.st
      refine s_if1 hm (et_test (ev_eqI (ev_mod (ev_intI (ev_var (r := sI.r) (d := number) rfl)) (ev_var (r := sI.r) (d := divisor) rfl)) ev_int)) G (fun s15 g14 hm => ?_) (fun s16 g14 hm => ?_)
      · have G := Gx.trans G g14
        have E := Ex.trans E g14.st
        exact s_ret (Qm := fun d => Qb (.rt d)) hm ev_bl G fun d v u qd g hv => hQ d v u ((fun d q => (fun _ q => q) d (hrt d q)) d qd) g hv
      have G := Gx.trans G g14
      have E := Ex.trans E g14.st
      exact ⟨(), _, rfl, hm, ⟨G, E, some (.int divisor), rfl⟩⟩
    obtain ⟨G, E, y_divisor, rfl⟩ := hI
    exact s_ret hm ev_bl G fun d v u qd g hv => hQ d v u ((fun _ q => q) d qd) g hv


abbrev st__law_prime_below : Stmt := topS 8
abbrev N__law_prime_below : List Str := ["number", "result", "step"]
theorem sc__law_prime_below : FnScope N__law_prime_below ["number"] (defScope st__law_prime_below) := ⟨rfl, rfl, rfl, by decide +kernel, rfl, by decide +kernel, by decide +kernel⟩
abbrev sp__law_prime_below (K : PySem.W.Frag) : Sp := sp0 (aC sI.r aN) (fun a => Mi._law_prime_below a.1) (fun _ => sI.r)
theorem ok__law_prime_below {P : Program} {w : World} {K : PySem.W.Frag} {mg : Str → Option Value} {base : Heap} {f : Addr} {fd : FuncData} (F : Fun K "_law_prime_below" "_law_prime_below" st__law_prime_below f fd) {f__law_prime : Addr} {fd__law_prime : FuncData} (c__law_prime : Cal P w K mg base CX0 1 "_law_prime" ["number"] (sp__law_prime K) f__law_prime fd__law_prime) (m_range : mg "range" = none) : FnOk P w K mg base CX0 2 f fd ["number"] (sp__law_prime_below K) := by
  refine fn0 F sc__law_prime_below (fun s vs a h => ?_) (fun cdv A outer sh E0 hr C a vs Qm ok ha hm => ?_)
  · obtain ⟨v0, w0, rfl, _, h⟩ := h; cases h; rfl
  · obtain ⟨number, _⟩ := a
    obtain ⟨v_number, w_number, rfl, f_number, ha⟩ := ha
    cases ha
    obtain rfl : v_number = V.int number := f_number
    have G : Gr C.s0 C.s0 := Gx.refl ok
    refine ⟨_, (pss_cons (ps_set (i := 1) sc__law_prime_below.nd rfl (.inl rfl) (pv 0)) (pss_cons (ps_for PassesOwn.never rfl (pi_range1 (by rfl) m_range (pa_cons pe_int pa_nil)) (pg_name (i := 2) sc__law_prime_below.nd rfl (.inl rfl)) (C8.pss_cut (ps_if (pt_not (pt_val (pe_call c__law_prime.ok hr (by rfl) c__law_prime.gm c__law_prime.kp c__law_prime.bn .nil pass0 (pa_cons (pv 1) pa_nil)))) (pss_cons (ps_set (i := 1) sc__law_prime_below.nd rfl (.inl rfl) (pe_op op_sub (pv 1) pe_int)) pss_nil) pss_nil) pss_nil)) (pss_cons (ps_ret (pv 1)) pss_nil))), fun Q hQ => ?_⟩
    refine s_set (σf := fun v => [some (.int number), some v, none]) hm (ev_var (r := sI.r) (d := number) rfl) G (fun _ => rfl) fun result v_result s2 g1 f_result hm => ?_
    have G := Gx.trans G g1
    obtain rfl : v_result = V.int result := f_result
    refine s_for (fun u (a : (Int)) σ' s' => Gr C.s0 s' ∧ Ex u.st s'.st ∧ ∃ y_step, σ' = [some (.int number), some (.int a), y_step]) hm (ei_rng1 ev_int) G (fun _ _ _ _ h => ⟨h.1.ok, h.2.1⟩) (fun u gu => ⟨Gx.trans G gu, Ex.refl _, none, rfl⟩) (fun u step v_step a σ' s4 gu hI hx Qb hm => ?_) (fun u a σ' s5 gu hI hm => ?_)
    · obtain ⟨result, ea⟩ : ∃ z, z = a := ⟨a, rfl⟩
      subst ea
      obtain ⟨G, E, y_step, rfl⟩ := hI
      obtain rfl : v_step = V.int step := hx
      refine gname_do (σ' := [some (.int number), some (.int result), some (.int step)]) rfl ?_
      refine s_ifj (fun (a : (Int)) σ' s' => Gr C.s0 s' ∧ Ex s4.st s'.st ∧ σ' = [some (.int number), some (.int a), some (.int step)]) hm (et_not (et_B (ev_call (ea_cons (ev_var (r := sI.r) (d := result) rfl) ea_nil)))) G (fun s8 g7 Qb hm => ?_) (fun s9 g7 Qb hm => ?_) (fun a σ' s13 hI hm => ?_)
      · have G := Gx.trans G g7
        have E := g7.st
        refine s_set (σf := fun v => [some (.int number), some v, some (.int step)]) hm (ev_sub (ev_var (r := sI.r) (d := result) rfl) ev_int) G (fun _ => rfl) fun result v_result s12 g11 f_result hm => ?_
        have G := Gx.trans G g11
        have E := Ex.trans E g11.st
        obtain rfl : v_result = V.int result := f_result
        exact ⟨result, _, rfl, hm, ⟨G, E, rfl⟩⟩
      · have G := Gx.trans G g7
        have E := g7.st
        exact ⟨result, _, rfl, hm, ⟨G, E, rfl⟩⟩
      have E0 := E
      obtain ⟨result, ea⟩ : ∃ z, z = a := ⟨a, rfl⟩
      subst ea
      obtain ⟨G, E, rfl⟩ := hI
      have E := Ex.trans E0 E
      exact ⟨result, _, rfl, hm, ⟨G, E, some (.int step), rfl⟩⟩
    obtain ⟨result, ea⟩ : ∃ z, z = a := ⟨a, rfl⟩
    subst ea
    obtain ⟨G, E, y_step, rfl⟩ := hI
    exact s_ret hm (ev_var (r := sI.r) (d := result) rfl) G fun d v u qd g hv => hQ d v u ((fun _ q => q) d qd) g hv


abbrev st__law_number : Stmt := topS 9
abbrev N__law_number : List Str := ["bag", "kind", "first", "second", "base", "result", "step"]
theorem sc__law_number : FnScope N__law_number ["bag"] (defScope st__law_number) := ⟨rfl, rfl, rfl, by decide +kernel, rfl, by decide +kernel, by decide +kernel⟩
abbrev sp__law_number (K : PySem.W.Frag) : Sp := sp0 (aC rG aN) (fun a => Mi._law_number a.1) (fun _ => sI.r)
theorem ok__law_number {P : Program} {w : World} {K : PySem.W.Frag} {mg : Str → Option Value} {base : Heap} {f : Addr} {fd : FuncData} (F : Fun K "_law_number" "_law_number" st__law_number f fd) {f__law_take : Addr} {fd__law_take : FuncData} (c__law_take : Cal P w K mg base CX0 1 "_law_take" ["bag", "size"] (sp__law_take K) f__law_take fd__law_take) {f__law_prime_below : Addr} {fd__law_prime_below : FuncData} (c__law_prime_below : Cal P w K mg base CX0 2 "_law_prime_below" ["number"] (sp__law_prime_below K) f__law_prime_below fd__law_prime_below) (m_range : mg "range" = none) : FnOk P w K mg base CX0 3 f fd ["bag"] (sp__law_number K) := by
  refine fn0 F sc__law_number (fun s vs a h => ?_) (fun cdv A outer sh E0 hr C a vs Qm ok ha hm => ?_)
  · obtain ⟨v0, w0, rfl, _, h⟩ := h; cases h; rfl
  · obtain ⟨bag, _⟩ := a
    obtain ⟨v_bag, w_bag, rfl, f_bag, ha⟩ := ha
    cases ha
    have G : Gr C.s0 C.s0 := Gx.refl ok
    refine ⟨_, (pss_cons (ps_set (i := 1) sc__law_number.nd rfl (.inl rfl) (pe_call c__law_take.ok (hr.mono (by decide)) (by rfl) c__law_take.gm c__law_take.kp c__law_take.bn .nil pass0 (pa_cons (pv 0) (pa_cons pe_int pa_nil)))) (pss_cons (ps_if (pt_cmpR op_eq (pv 1) pe_int (nomark _)) (pss_cons (ps_ret (pe_op op_add pe_int (pe_call c__law_take.ok (hr.mono (by decide)) (by rfl) c__law_take.gm c__law_take.kp c__law_take.bn .nil pass0 (pa_cons (pv 0) (pa_cons pe_int pa_nil))))) pss_nil) pss_nil) (pss_cons (ps_if (pt_cmpR op_eq (pv 1) pe_int (nomark _)) (pss_cons (ps_ret (pe_call c__law_prime_below.ok hr (by rfl) c__law_prime_below.gm c__law_prime_below.kp c__law_prime_below.bn .nil pass0 (pa_cons (pe_op op_add pe_int (pe_call c__law_take.ok (hr.mono (by decide)) (by rfl) c__law_take.gm c__law_take.kp c__law_take.bn .nil pass0 (pa_cons (pv 0) (pa_cons pe_int pa_nil)))) pa_nil))) pss_nil) pss_nil) (pss_cons (ps_if (pt_cmpR op_eq (pv 1) pe_int (nomark _)) (pss_cons (ps_set (i := 2) sc__law_number.nd rfl (.inl rfl) (pe_op op_add pe_int (pe_call c__law_take.ok (hr.mono (by decide)) (by rfl) c__law_take.gm c__law_take.kp c__law_take.bn .nil pass0 (pa_cons (pv 0) (pa_cons pe_int pa_nil))))) (pss_cons (ps_set (i := 3) sc__law_number.nd rfl (.inl rfl) (pe_op op_add pe_int (pe_call c__law_take.ok (hr.mono (by decide)) (by rfl) c__law_take.gm c__law_take.kp c__law_take.bn .nil pass0 (pa_cons (pv 0) (pa_cons (pe_op op_fdivG pe_int (pv 2)) pa_nil))))) (pss_cons (ps_ret (pe_op op_mulW (pe_op op_mulW (pv 2) (pv 3)) (pe_op op_add pe_int (pe_call c__law_take.ok (hr.mono (by decide)) (by rfl) c__law_take.gm c__law_take.kp c__law_take.bn .nil pass0 (pa_cons (pv 0) (pa_cons (pe_op op_fdivG pe_int (pe_op op_mulW (pv 2) (pv 3))) pa_nil)))))) pss_nil))) pss_nil) (pss_cons (ps_if (pt_cmpR op_eq (pv 1) pe_int (nomark _)) (pss_cons (ps_ret (pe_op op_add pe_int (pe_call c__law_take.ok (hr.mono (by decide)) (by rfl) c__law_take.gm c__law_take.kp c__law_take.bn .nil pass0 (pa_cons (pv 0) (pa_cons pe_int pa_nil))))) pss_nil) pss_nil) (pss_cons (ps_if (pt_cmpR op_eq (pv 1) pe_int (nomark _)) (pss_cons (ps_ret (pe_op op_sub pe_int (pe_call c__law_take.ok (hr.mono (by decide)) (by rfl) c__law_take.gm c__law_take.kp c__law_take.bn .nil pass0 (pa_cons (pv 0) (pa_cons pe_int pa_nil))))) pss_nil) pss_nil) (pss_cons (ps_if (pt_cmpR op_eq (pv 1) pe_int (nomark _)) (pss_cons (ps_set (i := 4) sc__law_number.nd rfl (.inl rfl) (pe_op op_add pe_int (pe_call c__law_take.ok (hr.mono (by decide)) (by rfl) c__law_take.gm c__law_take.kp c__law_take.bn .nil pass0 (pa_cons (pv 0) (pa_cons pe_int pa_nil))))) (pss_cons (ps_set (i := 5) sc__law_number.nd rfl (.inl rfl) pe_int) (pss_cons (ps_for PassesOwn.never rfl (pi_range1 (by rfl) m_range (pa_cons (pe_op op_add pe_int (pe_call c__law_take.ok (hr.mono (by decide)) (by rfl) c__law_take.gm c__law_take.kp c__law_take.bn .nil pass0 (pa_cons (pv 0) (pa_cons pe_int pa_nil)))) pa_nil)) (pg_name (i := 6) sc__law_number.nd rfl (.inl rfl)) (C8.pss_cut (ps_if (pt_cmpR op_le (pe_op op_mulW (pv 5) (pv 4)) pe_int (nomark _)) (pss_cons (ps_set (i := 5) sc__law_number.nd rfl (.inl rfl) (pe_op op_mulW (pv 5) (pv 4))) pss_nil) pss_nil) pss_nil)) (pss_cons (ps_ret (pv 5)) pss_nil)))) pss_nil) (pss_cons (ps_if (pt_cmpR op_eq (pv 1) pe_int (nomark _)) (pss_cons (ps_set (i := 4) sc__law_number.nd rfl (.inl rfl) (pe_call c__law_prime_below.ok hr (by rfl) c__law_prime_below.gm c__law_prime_below.kp c__law_prime_below.bn .nil pass0 (pa_cons (pe_op op_add pe_int (pe_call c__law_take.ok (hr.mono (by decide)) (by rfl) c__law_take.gm c__law_take.kp c__law_take.bn .nil pass0 (pa_cons (pv 0) (pa_cons pe_int pa_nil)))) pa_nil))) (pss_cons (ps_ret (pe_op op_mulW (pe_op op_mulW (pv 4) (pv 4)) (pe_op op_add pe_int (pe_call c__law_take.ok (hr.mono (by decide)) (by rfl) c__law_take.gm c__law_take.kp c__law_take.bn .nil pass0 (pa_cons (pv 0) (pa_cons (pe_op op_fdivG pe_int (pe_op op_mulW (pv 4) (pv 4))) pa_nil)))))) pss_nil)) pss_nil) (pss_cons (ps_if (pt_cmpR op_eq (pv 1) pe_int (nomark _)) (pss_cons (ps_set (i := 4) sc__law_number.nd rfl (.inl rfl) (pe_call c__law_prime_below.ok hr (by rfl) c__law_prime_below.gm c__law_prime_below.kp c__law_prime_below.bn .nil pass0 (pa_cons (pe_op op_add pe_int (pe_call c__law_take.ok (hr.mono (by decide)) (by rfl) c__law_take.gm c__law_take.kp c__law_take.bn .nil pass0 (pa_cons (pv 0) (pa_cons pe_int pa_nil)))) pa_nil))) (pss_cons (ps_ret (pe_op op_mulW (pe_op op_mulW (pe_op op_mulW (pv 4) (pv 4)) (pv 4)) (pe_op op_add pe_int (pe_call c__law_take.ok (hr.mono (by decide)) (by rfl) c__law_take.gm c__law_take.kp c__law_take.bn .nil pass0 (pa_cons (pv 0) (pa_cons (pe_op op_fdivG pe_int (pe_op op_mulW (pe_op op_mulW (pv 4) (pv 4)) (pv 4))) pa_nil)))))) pss_nil)) pss_nil) (pss_cons (ps_if (pt_cmpR op_eq (pv 1) pe_int (nomark _)) (pss_cons (ps_set (i := 4) sc__law_number.nd rfl (.inl rfl) (pe_call c__law_prime_below.ok hr (by rfl) c__law_prime_below.gm c__law_prime_below.kp c__law_prime_below.bn .nil pass0 (pa_cons (pe_op op_add pe_int (pe_call c__law_take.ok (hr.mono (by decide)) (by rfl) c__law_take.gm c__law_take.kp c__law_take.bn .nil pass0 (pa_cons (pv 0) (pa_cons pe_int pa_nil)))) pa_nil))) (pss_cons (ps_ret (pe_op op_mulW (pv 4) (pe_call c__law_prime_below.ok hr (by rfl) c__law_prime_below.gm c__law_prime_below.kp c__law_prime_below.bn .nil pass0 (pa_cons (pe_op op_sub (pe_op op_mulW pe_int (pv 4)) pe_int) pa_nil)))) pss_nil)) pss_nil) (pss_cons (ps_set (i := 4) sc__law_number.nd rfl (.inl rfl) (pe_op op_mulW pe_int (pe_op op_add pe_int (pe_call c__law_take.ok (hr.mono (by decide)) (by rfl) c__law_take.gm c__law_take.kp c__law_take.bn .nil pass0 (pa_cons (pv 0) (pa_cons pe_int pa_nil)))))) (pss_cons (ps_ret (pe_op op_mulW (pe_op op_mulW (pe_op op_add (pv 4) pe_int) (pe_op op_add (pe_op op_mulW pe_int (pv 4)) pe_int)) (pe_op op_add (pe_op op_mulW pe_int (pv 4)) pe_int))) pss_nil)))))))))))), fun Q hQ => ?_⟩
    refine s_set (σf := fun v => [some v_bag, some v, none, none, none, none, none]) hm (ev_call (ea_cons (ev_var (d := ()) f_bag) (ea_cons ev_int ea_nil))) G (fun _ => rfl) fun kind v_kind s2 g1 f_kind hm => ?_
    have G := Gx.trans G g1
    have f_bag := Rep.u g1 f_bag
    obtain rfl : v_kind = V.int kind := f_kind
    refine s_if1 hm (et_test (ev_eqI (ev_var (r := sI.r) (d := kind) rfl) ev_int)) G (fun s4 g3 hm => ?_) (fun s5 g3 hm => ?_)
    · have G := Gx.trans G g3
      have f_bag := Rep.u g3 f_bag
      exact s_ret hm (ev_add ev_int (ev_call (ea_cons (ev_var (d := ()) f_bag) (ea_cons ev_int ea_nil)))) G fun d v u qd g hv => hQ d v u ((fun _ q => q) d qd) g hv
    have G := Gx.trans G g3
    have f_bag := Rep.u g3 f_bag
    refine s_if1 hm (et_test (ev_eqI (ev_var (r := sI.r) (d := kind) rfl) ev_int)) G (fun s9 g8 hm => ?_) (fun s10 g8 hm => ?_)
    · have G := Gx.trans G g8
      have f_bag := Rep.u g8 f_bag
      exact s_ret hm (ev_call (ea_cons (ev_add ev_int (ev_call (ea_cons (ev_var (d := ()) f_bag) (ea_cons ev_int ea_nil)))) ea_nil)) G fun d v u qd g hv => hQ d v u ((fun _ q => q) d qd) g hv
    have G := Gx.trans G g8
    have f_bag := Rep.u g8 f_bag
    refine s_if1 hm (et_test (ev_eqI (ev_var (r := sI.r) (d := kind) rfl) ev_int)) G (fun s15 g14 hm => ?_) (fun s16 g14 hm => ?_)
    · have G := Gx.trans G g14
      have f_bag := Rep.u g14 f_bag
      refine s_set (σf := fun v => [some v_bag, some (.int kind), some v, none, none, none, none]) hm (ev_add ev_int (ev_call (ea_cons (ev_var (d := ()) f_bag) (ea_cons ev_int ea_nil)))) G (fun _ => rfl) fun first v_first s20 g19 f_first hm => ?_
      have G := Gx.trans G g19
      have f_bag := Rep.u g19 f_bag
      obtain rfl : v_first = V.int first := f_first
      refine s_set (σf := fun v => [some v_bag, some (.int kind), some (.int first), some v, none, none, none]) hm (ev_add ev_int (ev_call (ea_cons (ev_var (d := ()) f_bag) (ea_cons (ev_div ev_int (ev_var (r := sI.r) (d := first) rfl)) ea_nil)))) G (fun _ => rfl) fun second v_second s24 g23 f_second hm => ?_
      have G := Gx.trans G g23
      have f_bag := Rep.u g23 f_bag
      obtain rfl : v_second = V.int second := f_second
      exact s_ret hm (ev_mul (ev_mul (ev_var (r := sI.r) (d := first) rfl) (ev_var (r := sI.r) (d := second) rfl)) (ev_add ev_int (ev_call (ea_cons (ev_var (d := ()) f_bag) (ea_cons (ev_div ev_int (ev_mul (ev_var (r := sI.r) (d := first) rfl) (ev_var (r := sI.r) (d := second) rfl))) ea_nil))))) G fun d v u qd g hv => hQ d v u ((fun _ q => q) d qd) g hv
    have G := Gx.trans G g14
    have f_bag := Rep.u g14 f_bag
    refine s_if1 hm (et_test (ev_eqI (ev_var (r := sI.r) (d := kind) rfl) ev_int)) G (fun s31 g30 hm => ?_) (fun s32 g30 hm => ?_)
    · have G := Gx.trans G g30
      have f_bag := Rep.u g30 f_bag
      exact s_ret hm (ev_add ev_int (ev_call (ea_cons (ev_var (d := ()) f_bag) (ea_cons ev_int ea_nil)))) G fun d v u qd g hv => hQ d v u ((fun _ q => q) d qd) g hv
    have G := Gx.trans G g30
    have f_bag := Rep.u g30 f_bag
    refine s_if1 hm (et_test (ev_eqI (ev_var (r := sI.r) (d := kind) rfl) ev_int)) G (fun s36 g35 hm => ?_) (fun s37 g35 hm => ?_)
    · have G := Gx.trans G g35
      have f_bag := Rep.u g35 f_bag
      exact s_ret hm (ev_sub ev_int (ev_call (ea_cons (ev_var (d := ()) f_bag) (ea_cons ev_int ea_nil)))) G fun d v u qd g hv => hQ d v u ((fun _ q => q) d qd) g hv
    have G := Gx.trans G g35
    have f_bag := Rep.u g35 f_bag
    refine s_if1 hm (et_test (ev_eqI (ev_var (r := sI.r) (d := kind) rfl) ev_int)) G (fun s41 g40 hm => ?_) (fun s42 g40 hm => ?_)
    · have G := Gx.trans G g40
      have f_bag := Rep.u g40 f_bag
      refine s_set (σf := fun v => [some v_bag, some (.int kind), none, none, some v, none, none]) hm (ev_add ev_int (ev_call (ea_cons (ev_var (d := ()) f_bag) (ea_cons ev_int ea_nil)))) G (fun _ => rfl) fun base v_base s46 g45 f_base hm => ?_
      have G := Gx.trans G g45
      have f_bag := Rep.u g45 f_bag
      obtain rfl : v_base = V.int base := f_base
      refine s_set (σf := fun v => [some v_bag, some (.int kind), none, none, some (.int base), some v, none]) hm ev_int G (fun _ => rfl) fun result v_result s48 g47 f_result hm => ?_
      have G := Gx.trans G g47
      have f_bag := Rep.u g47 f_bag
      obtain rfl : v_result = V.int result := f_result
      refine s_for (fun u (a : (Int)) σ' s' => Gr C.s0 s' ∧ Ex u.st s'.st ∧ ∃ y_step, σ' = [some v_bag, some (.int kind), none, none, some (.int base), some (.int a), y_step]) hm (ei_rng1 (ev_add ev_int (ev_call (ea_cons (ev_var (d := ()) f_bag) (ea_cons ev_int ea_nil))))) G (fun _ _ _ _ h => ⟨h.1.ok, h.2.1⟩) (fun u gu => ⟨Gx.trans G gu, Ex.refl _, none, rfl⟩) (fun u step v_step a σ' s52 gu hI hx Qb hm => ?_) (fun u a σ' s53 gu hI hm => ?_)
      · obtain ⟨result, ea⟩ : ∃ z, z = a := ⟨a, rfl⟩
        subst ea
        obtain ⟨G, E, y_step, rfl⟩ := hI
        obtain rfl : v_step = V.int step := hx
        refine gname_do (σ' := [some v_bag, some (.int kind), none, none, some (.int base), some (.int result), some (.int step)]) rfl ?_
        refine s_ifj (fun (a : (Int)) σ' s' => Gr C.s0 s' ∧ Ex s52.st s'.st ∧ σ' = [some v_bag, some (.int kind), none, none, some (.int base), some (.int a), some (.int step)]) hm (et_test (ev_le (ev_mul (ev_var (r := sI.r) (d := result) rfl) (ev_var (r := sI.r) (d := base) rfl)) ev_int)) G (fun s56 g55 Qb hm => ?_) (fun s57 g55 Qb hm => ?_) (fun a σ' s61 hI hm => ?_)
        · have G := Gx.trans G g55
          have E := g55.st
          refine s_set (σf := fun v => [some v_bag, some (.int kind), none, none, some (.int base), some v, some (.int step)]) hm (ev_mul (ev_var (r := sI.r) (d := result) rfl) (ev_var (r := sI.r) (d := base) rfl)) G (fun _ => rfl) fun result v_result s60 g59 f_result hm => ?_
          have G := Gx.trans G g59
          have E := Ex.trans E g59.st
          obtain rfl : v_result = V.int result := f_result
          exact ⟨result, _, rfl, hm, ⟨G, E, rfl⟩⟩
        · have G := Gx.trans G g55
          have E := g55.st
          exact ⟨result, _, rfl, hm, ⟨G, E, rfl⟩⟩
        have E0 := E
        obtain ⟨result, ea⟩ : ∃ z, z = a := ⟨a, rfl⟩
        subst ea
        obtain ⟨G, E, rfl⟩ := hI
        have E := Ex.trans E0 E
        exact ⟨result, _, rfl, hm, ⟨G, E, some (.int step), rfl⟩⟩
      obtain ⟨result, ea⟩ : ∃ z, z = a := ⟨a, rfl⟩
      subst ea
      obtain ⟨G, E, y_step, rfl⟩ := hI
      exact s_ret hm (ev_var (r := sI.r) (d := result) rfl) G fun d v u qd g hv => hQ d v u ((fun _ q => q) d qd) g hv
    have G := Gx.trans G g40
    have f_bag := Rep.u g40 f_bag
    refine s_if1 hm (et_test (ev_eqI (ev_var (r := sI.r) (d := kind) rfl) ev_int)) G (fun s64 g63 hm => ?_) (fun s65 g63 hm => ?_)
    · have G := Gx.trans G g63
      have f_bag := Rep.u g63 f_bag
      refine s_set (σf := fun v => [some v_bag, some (.int kind), none, none, some v, none, none]) hm (ev_call (ea_cons (ev_add ev_int (ev_call (ea_cons (ev_var (d := ()) f_bag) (ea_cons ev_int ea_nil)))) ea_nil)) G (fun _ => rfl) fun base v_base s70 g69 f_base hm => ?_
      have G := Gx.trans G g69
      have f_bag := Rep.u g69 f_bag
      obtain rfl : v_base = V.int base := f_base
      exact s_ret hm (ev_mul (ev_mul (ev_var (r := sI.r) (d := base) rfl) (ev_var (r := sI.r) (d := base) rfl)) (ev_add ev_int (ev_call (ea_cons (ev_var (d := ()) f_bag) (ea_cons (ev_div ev_int (ev_mul (ev_var (r := sI.r) (d := base) rfl) (ev_var (r := sI.r) (d := base) rfl))) ea_nil))))) G fun d v u qd g hv => hQ d v u ((fun _ q => q) d qd) g hv
    have G := Gx.trans G g63
    have f_bag := Rep.u g63 f_bag
    refine s_if1 hm (et_test (ev_eqI (ev_var (r := sI.r) (d := kind) rfl) ev_int)) G (fun s77 g76 hm => ?_) (fun s78 g76 hm => ?_)
    · have G := Gx.trans G g76
      have f_bag := Rep.u g76 f_bag
      refine s_set (σf := fun v => [some v_bag, some (.int kind), none, none, some v, none, none]) hm (ev_call (ea_cons (ev_add ev_int (ev_call (ea_cons (ev_var (d := ()) f_bag) (ea_cons ev_int ea_nil)))) ea_nil)) G (fun _ => rfl) fun base v_base s83 g82 f_base hm => ?_
      have G := Gx.trans G g82
      have f_bag := Rep.u g82 f_bag
      obtain rfl : v_base = V.int base := f_base
      exact s_ret hm (ev_mul (ev_mul (ev_mul (ev_var (r := sI.r) (d := base) rfl) (ev_var (r := sI.r) (d := base) rfl)) (ev_var (r := sI.r) (d := base) rfl)) (ev_add ev_int (ev_call (ea_cons (ev_var (d := ()) f_bag) (ea_cons (ev_div ev_int (ev_mul (ev_mul (ev_var (r := sI.r) (d := base) rfl) (ev_var (r := sI.r) (d := base) rfl)) (ev_var (r := sI.r) (d := base) rfl))) ea_nil))))) G fun d v u qd g hv => hQ d v u ((fun _ q => q) d qd) g hv
    have G := Gx.trans G g76
    have f_bag := Rep.u g76 f_bag
    refine s_if1 hm (et_test (ev_eqI (ev_var (r := sI.r) (d := kind) rfl) ev_int)) G (fun s92 g91 hm => ?_) (fun s93 g91 hm => ?_)
    · have G := Gx.trans G g91
      have f_bag := Rep.u g91 f_bag
      refine s_set (σf := fun v => [some v_bag, some (.int kind), none, none, some v, none, none]) hm (ev_call (ea_cons (ev_add ev_int (ev_call (ea_cons (ev_var (d := ()) f_bag) (ea_cons ev_int ea_nil)))) ea_nil)) G (fun _ => rfl) fun base v_base s98 g97 f_base hm => ?_
      have G := Gx.trans G g97
      obtain rfl : v_base = V.int base := f_base
      exact s_ret hm (ev_mul (ev_var (r := sI.r) (d := base) rfl) (ev_call (ea_cons (ev_sub (ev_mul ev_int (ev_var (r := sI.r) (d := base) rfl)) ev_int) ea_nil))) G fun d v u qd g hv => hQ d v u ((fun _ q => q) d qd) g hv
    have G := Gx.trans G g91
    have f_bag := Rep.u g91 f_bag
    refine s_set (σf := fun v => [some v_bag, some (.int kind), none, none, some v, none, none]) hm (ev_mul ev_int (ev_add ev_int (ev_call (ea_cons (ev_var (d := ()) f_bag) (ea_cons ev_int ea_nil))))) G (fun _ => rfl) fun base v_base s105 g104 f_base hm => ?_
    have G := Gx.trans G g104
    obtain rfl : v_base = V.int base := f_base
    exact s_ret hm (ev_mul (ev_mul (ev_add (ev_var (r := sI.r) (d := base) rfl) ev_int) (ev_add (ev_mul ev_int (ev_var (r := sI.r) (d := base) rfl)) ev_int)) (ev_add (ev_mul ev_int (ev_var (r := sI.r) (d := base) rfl)) ev_int)) G fun d v u qd g hv => hQ d v u ((fun _ q => q) d qd) g hv


abbrev st__law_negative : Stmt := topS 10
abbrev N__law_negative : List Str := ["bag"]
theorem sc__law_negative : FnScope N__law_negative ["bag"] (defScope st__law_negative) := ⟨rfl, rfl, rfl, by decide +kernel, rfl, by decide +kernel, by decide +kernel⟩
abbrev sp__law_negative (K : PySem.W.Frag) : Sp := sp0 (aC rG aN) (fun a => Mi._law_negative a.1) (fun _ => sI.r)
theorem ok__law_negative {P : Program} {w : World} {K : PySem.W.Frag} {mg : Str → Option Value} {base : Heap} {f : Addr} {fd : FuncData} (F : Fun K "_law_negative" "_law_negative" st__law_negative f fd) {f__law_take : Addr} {fd__law_take : FuncData} (c__law_take : Cal P w K mg base CX0 1 "_law_take" ["bag", "size"] (sp__law_take K) f__law_take fd__law_take) : FnOk P w K mg base CX0 2 f fd ["bag"] (sp__law_negative K) := by
  refine fn0 F sc__law_negative (fun s vs a h => ?_) (fun cdv A outer sh E0 hr C a vs Qm ok ha hm => ?_)
  · obtain ⟨v0, w0, rfl, _, h⟩ := h; cases h; rfl
  · obtain ⟨bag, _⟩ := a
    obtain ⟨v_bag, w_bag, rfl, f_bag, ha⟩ := ha
    cases ha
    have G : Gr C.s0 C.s0 := Gx.refl ok
    refine ⟨_, (pss_cons (ps_if (pt_cmpR op_eq (pe_call c__law_take.ok hr (by rfl) c__law_take.gm c__law_take.kp c__law_take.bn .nil pass0 (pa_cons (pv 0) (pa_cons pe_int pa_nil))) pe_int (nomark _)) (pss_cons (ps_ret (pe_op op_sub (pe_un un_neg (pe_op op_pow pe_int pe_int)) (pe_call c__law_take.ok hr (by rfl) c__law_take.gm c__law_take.kp c__law_take.bn .nil pass0 (pa_cons (pv 0) (pa_cons pe_int pa_nil))))) pss_nil) pss_nil) (pss_cons (ps_ret (pe_op op_sub (pe_un un_neg pe_int) (pe_call c__law_take.ok hr (by rfl) c__law_take.gm c__law_take.kp c__law_take.bn .nil pass0 (pa_cons (pv 0) (pa_cons pe_int pa_nil))))) pss_nil)), fun Q hQ => ?_⟩
    refine s_if1 hm (et_test (ev_eqI (ev_call (ea_cons (ev_var (d := ()) f_bag) (ea_cons ev_int ea_nil))) ev_int)) G (fun s3 g2 hm => ?_) (fun s4 g2 hm => ?_)
    · have G := Gx.trans G g2
      have f_bag := Rep.u g2 f_bag
      exact s_ret hm (ev_sub (ev_neg (ev_pow ev_int ev_int)) (ev_call (ea_cons (ev_var (d := ()) f_bag) (ea_cons ev_int ea_nil)))) G fun d v u qd g hv => hQ d v u ((fun _ q => q) d qd) g hv
    have G := Gx.trans G g2
    have f_bag := Rep.u g2 f_bag
    exact s_ret hm (ev_sub (ev_neg ev_int) (ev_call (ea_cons (ev_var (d := ()) f_bag) (ea_cons ev_int ea_nil)))) G fun d v u qd g hv => hQ d v u ((fun _ q => q) d qd) g hv


abbrev st__law_holds : Stmt := topS 11
abbrev N__law_holds : List Str := ["told", "number", "product", "last", "pair", "step"]
theorem sc__law_holds : FnScope N__law_holds ["told", "number"] (defScope st__law_holds) := ⟨rfl, rfl, rfl, by decide +kernel, rfl, by decide +kernel, by decide +kernel⟩
abbrev sp__law_holds (K : PySem.W.Frag) : Sp := sp0 (aC (sL (sP K sI sI)).r (aC sI.r aN)) (fun a => Mi._law_holds a.1 a.2.1) (fun _ => sB.r)
theorem ok__law_holds {P : Program} {w : World} {K : PySem.W.Frag} {mg : Str → Option Value} {base : Heap} {f : Addr} {fd : FuncData} (F : Fun K "_law_holds" "_law_holds" st__law_holds f fd) {f__law_is_integer : Addr} {fd__law_is_integer : FuncData} (c__law_is_integer : Cal P w K mg base CX0 1 "_law_is_integer" ["told"] (sp__law_is_integer K) f__law_is_integer fd__law_is_integer) {f__law_prime : Addr} {fd__law_prime : FuncData} (c__law_prime : Cal P w K mg base CX0 1 "_law_prime" ["number"] (sp__law_prime K) f__law_prime fd__law_prime) (m_isinstance : mg "isinstance" = none) (m_len : mg "len" = none) (m_list : mg "list" = none) (m_range : mg "range" = none) (m_tuple : mg "tuple" = none) : FnOk P w K mg base CX0 2 f fd ["told", "number"] (sp__law_holds K) := by
  refine fn0 F sc__law_holds (fun s vs a h => ?_) (fun cdv A outer sh E0 hr C a vs Qm ok ha hm => ?_)
  · obtain ⟨v0, w0, rfl, _, h⟩ := h; obtain ⟨v1, w1, rfl, _, h⟩ := h; cases h; rfl
  · obtain ⟨told, number, _⟩ := a
    obtain ⟨v_told, w_told, rfl, f_told, ha⟩ := ha
    obtain ⟨v_number, w_number, rfl, f_number, ha⟩ := ha
    cases ha
    obtain rfl : v_number = V.int number := f_number
    have G : Gr C.s0 C.s0 := Gx.refl ok
    refine ⟨_, (pss_cons (ps_if (PW.pt (pw_or (pt_not (pt_val (pe_callB call_isi (by rfl) m_isinstance (by decide +kernel) (pa_cons (pv 0) (pa_cons (pe_bltn (v := .ty "list") (by rfl) m_list (by decide +kernel) rfl) pa_nil))))) (pw_or1 (pt_cmpR op_gt (pe_callB call_len_seq (by rfl) m_len PySem.boot_len (pa_cons (pv 0) pa_nil)) pe_int (nomark _))))) (pss_cons (ps_ret pe_bl) pss_nil) pss_nil) (pss_cons (ps_set (i := 2) sc__law_holds.nd rfl (.inl rfl) pe_int) (pss_cons (ps_set (i := 3) sc__law_holds.nd rfl (.inl rfl) pe_int) (pss_cons (ps_for PassesOwn.never rfl (pi_list (pv 0)) (pg_name (i := 4) sc__law_holds.nd rfl (.inl rfl)) (pss_cons (ps_if (PW.pt (pw_or (pt_not (pt_val (pe_callB call_isi (by rfl) m_isinstance (by decide +kernel) (pa_cons (pv 4) (pa_cons (pe_bltn (v := .ty "tuple") (by rfl) m_tuple (by decide +kernel) rfl) pa_nil))))) (pw_or1 (pt_cmpR op_ne (pe_callB call_len_seq (by rfl) m_len PySem.boot_len (pa_cons (pv 4) pa_nil)) pe_int (nomark _))))) (pss_cons (ps_ret pe_bl) pss_nil) pss_nil) (pss_cons (ps_if (PW.pt (pw_or (pt_not (pt_val (pe_call c__law_is_integer.ok hr (by rfl) c__law_is_integer.gm c__law_is_integer.kp c__law_is_integer.bn .nil pass0 (pa_cons (pe_ix ix_tup (pv 4) pe_int (fun _ _ => rfl)) pa_nil)))) (pw_or1 (pt_not (pt_val (pe_call c__law_is_integer.ok hr (by rfl) c__law_is_integer.gm c__law_is_integer.kp c__law_is_integer.bn .nil pass0 (pa_cons (pe_ix ix_tup (pv 4) pe_int (fun _ _ => rfl)) pa_nil))))))) (pss_cons (ps_ret pe_bl) pss_nil) pss_nil) (pss_cons (ps_if (PW.pt (pw_or (pt_cmpR op_le (pe_ix ix_tup (pv 4) pe_int (fun _ _ => rfl)) (pv 3) (nomark _)) (pw_or (pt_cmpR op_gt (pe_ix ix_tup (pv 4) pe_int (fun _ _ => rfl)) pe_int (nomark _)) (pw_or (pt_cmpR op_lt (pe_ix ix_tup (pv 4) pe_int (fun _ _ => rfl)) pe_int (nomark _)) (pw_or1 (pt_cmpR op_gt (pe_ix ix_tup (pv 4) pe_int (fun _ _ => rfl)) pe_int (nomark _))))))) (pss_cons (ps_ret pe_bl) pss_nil) pss_nil) (pss_cons (ps_if (pt_not (pt_val (pe_call c__law_prime.ok hr (by rfl) c__law_prime.gm c__law_prime.kp c__law_prime.bn .nil pass0 (pa_cons (pe_ix ix_tup (pv 4) pe_int (fun _ _ => rfl)) pa_nil)))) (pss_cons (ps_ret pe_bl) pss_nil) pss_nil) (pss_cons (ps_for PassesOwn.never rfl (pi_range1 (by rfl) m_range (pa_cons (pe_ix ix_tup (pv 4) pe_int (fun _ _ => rfl)) pa_nil)) (pg_name (i := 5) sc__law_holds.nd rfl (.inl rfl)) (pss_cons (ps_set (i := 2) sc__law_holds.nd rfl (.inl rfl) (pe_op op_mulW (pv 2) (pe_ix ix_tup (pv 4) pe_int (fun _ _ => rfl)))) pss_nil)) (pss_cons (ps_set (i := 3) sc__law_holds.nd rfl (.inl rfl) (pe_ix ix_tup (pv 4) pe_int (fun _ _ => rfl))) pss_nil))))))) (pss_cons (ps_ret (pe_cmpR op_eq (pv 2) (pv 1) (nomark _))) pss_nil))))), fun Q hQ => ?_⟩
    refine s_if1 hm (et_or (et_not (et_B (ev_isi (T := "list") (U := "list") (b := true) oty_L (by decide +kernel) (ev_var f_told)))) (et_test (ev_gt (ev_lenL rd_st (ev_var f_told)) ev_int))) G (fun s3 g2 hm => ?_) (fun s4 g2 hm => ?_)
    · have G := Gx.trans G g2
      exact s_ret hm ev_bl G fun d v u qd g hv => hQ d v u ((fun _ q => q) d qd) g hv
    have G := Gx.trans G g2
    have f_told := Rep.u g2 f_told
    refine s_set (σf := fun v => [some v_told, some (.int number), some v, none, none, none]) hm ev_int G (fun _ => rfl) fun product v_product s7 g6 f_product hm => ?_
    have G := Gx.trans G g6
    have f_told := Rep.u g6 f_told
    obtain rfl : v_product = V.int product := f_product
    refine s_set (σf := fun v => [some v_told, some (.int number), some (.int product), some v, none, none]) hm ev_int G (fun _ => rfl) fun last v_last s9 g8 f_last hm => ?_
    have G := Gx.trans G g8
    have f_told := Rep.u g8 f_told
    obtain rfl : v_last = V.int last := f_last
    refine s_forc (fun u (a : (Int × Int)) σ' s' => Gr C.s0 s' ∧ Ex u.st s'.st ∧ ∃ y_pair, ∃ y_step, σ' = [some v_told, some (.int number), some (.int a.1), some (.int a.2), y_pair, y_step]) hm (ei_list (ev_var f_told)) G (fun _ _ _ _ h => ⟨h.1.ok, h.2.1⟩) (fun u gu => ⟨Gx.trans G gu, Ex.refl _, none, none, rfl⟩) (fun u pair v_pair a σ' s11 gu hI hx Qb hrt hm => ?_) (fun u a σ' s12 gu hI hm => ?_)
    · obtain ⟨product, last⟩ := a
      obtain ⟨G, E, y_pair, y_step, rfl⟩ := hI
      have f_pair := hx
      refine gname_do (σ' := [some v_told, some (.int number), some (.int product), some (.int last), some v_pair, y_step]) rfl ?_
      refine s_if1 hm (et_or (et_not (et_B (ev_isi (T := "tuple") (U := "tuple") (b := true) oty_P (by decide +kernel) (ev_var f_pair)))) (et_test (ev_neI (ev_lenP (ev_var f_pair)) ev_int))) G (fun s15 g14 hm => ?_) (fun s16 g14 hm => ?_)
      · have G := Gx.trans G g14
        have E := Ex.trans E g14.st
        exact s_ret (Qm := fun d => Qb (.rt d)) hm ev_bl G fun d v u qd g hv => hQ d v u ((fun d q => (fun _ q => q) d (hrt d q)) d qd) g hv
      have G := Gx.trans G g14
      have E := Ex.trans E g14.st
      have f_pair := Rep.u g14 f_pair
      refine s_if1 hm (et_or (et_not (et_B (ev_call (ea_cons (ev_p0 (ev_var f_pair)) ea_nil)))) (et_not (et_B (ev_call (ea_cons (ev_p1 (ev_var f_pair)) ea_nil))))) G (fun s22 g21 hm => ?_) (fun s23 g21 hm => ?_)
      · have G := Gx.trans G g21
        have E := Ex.trans E g21.st
        exact s_ret (Qm := fun d => Qb (.rt d)) hm ev_bl G fun d v u qd g hv => hQ d v u ((fun d q => (fun _ q => q) d (hrt d q)) d qd) g hv
      have G := Gx.trans G g21
      have E := Ex.trans E g21.st
      have f_pair := Rep.u g21 f_pair
      refine s_if1 hm (et_or (et_test (ev_le (ev_p0 (ev_var f_pair)) (ev_var (r := sI.r) (d := last) rfl))) (et_or (et_test (ev_gt (ev_p0 (ev_var f_pair)) ev_int)) (et_or (et_test (ev_lt (ev_p1 (ev_var f_pair)) ev_int)) (et_test (ev_gt (ev_p1 (ev_var f_pair)) ev_int))))) G (fun s29 g28 hm => ?_) (fun s30 g28 hm => ?_)
      · have G := Gx.trans G g28
        have E := Ex.trans E g28.st
        exact s_ret (Qm := fun d => Qb (.rt d)) hm ev_bl G fun d v u qd g hv => hQ d v u ((fun d q => (fun _ q => q) d (hrt d q)) d qd) g hv
      have G := Gx.trans G g28
      have E := Ex.trans E g28.st
      have f_pair := Rep.u g28 f_pair
      refine s_if1 hm (et_not (et_B (ev_call (ea_cons (ev_p0 (ev_var f_pair)) ea_nil)))) G (fun s34 g33 hm => ?_) (fun s35 g33 hm => ?_)
      · have G := Gx.trans G g33
        have E := Ex.trans E g33.st
        exact s_ret (Qm := fun d => Qb (.rt d)) hm ev_bl G fun d v u qd g hv => hQ d v u ((fun d q => (fun _ q => q) d (hrt d q)) d qd) g hv
      have G := Gx.trans G g33
      have E := Ex.trans E g33.st
      have f_pair := Rep.u g33 f_pair
      refine s_for (fun u (a : (Int)) σ' s' => Gr C.s0 s' ∧ Ex u.st s'.st ∧ ∃ y_step, σ' = [some v_told, some (.int number), some (.int a), some (.int last), some v_pair, y_step] ∧ (sP K sI sI).r.is s' v_pair pair) hm (ei_rng1 (ev_p1 (ev_var f_pair))) G (fun _ _ _ _ h => ⟨h.1.ok, h.2.1⟩) (fun u gu => ⟨Gx.trans G gu, Ex.refl _, y_step, rfl, (Rep.u gu f_pair)⟩) (fun u step v_step a σ' s38 gu hI hx Qb hm => ?_) (fun u a σ' s39 gu hI hm => ?_)
      · obtain ⟨product, ea⟩ : ∃ z, z = a := ⟨a, rfl⟩
        subst ea
        obtain ⟨G, E, y_step, rfl, f_pair⟩ := hI
        obtain rfl : v_step = V.int step := hx
        refine gname_do (σ' := [some v_told, some (.int number), some (.int product), some (.int last), some v_pair, some (.int step)]) rfl ?_
        refine s_set (σf := fun v => [some v_told, some (.int number), some v, some (.int last), some v_pair, some (.int step)]) hm (ev_mul (ev_var (r := sI.r) (d := product) rfl) (ev_p0 (ev_var f_pair))) G (fun _ => rfl) fun product v_product s41 g40 f_product hm => ?_
        have G := Gx.trans G g40
        have E := Ex.trans E g40.st
        have f_pair := Rep.u g40 f_pair
        obtain rfl : v_product = V.int product := f_product
        exact ⟨product, _, rfl, hm, ⟨G, E, some (.int step), rfl, f_pair⟩⟩
      have E0 := Ex.trans E gu.st
      obtain ⟨product, ea⟩ : ∃ z, z = a := ⟨a, rfl⟩
      subst ea
      obtain ⟨G, E, y_step, rfl, f_pair⟩ := hI
      have E := Ex.trans E0 E
      refine s_set (σf := fun v => [some v_told, some (.int number), some (.int product), some v, some v_pair, y_step]) hm (ev_p0 (ev_var f_pair)) G (fun _ => rfl) fun last v_last s43 g42 f_last hm => ?_
      have G := Gx.trans G g42
      have E := Ex.trans E g42.st
      obtain rfl : v_last = V.int last := f_last
      exact ⟨(product, last), _, rfl, hm, ⟨G, E, some v_pair, y_step, rfl⟩⟩
    obtain ⟨product, last⟩ := a
    obtain ⟨G, E, y_pair, y_step, rfl⟩ := hI
    exact s_ret hm (ev_eqI (ev_var (r := sI.r) (d := product) rfl) (ev_var (r := sI.r) (d := number) rfl)) G fun d v u qd g hv => hQ d v u ((fun _ q => q) d qd) g hv


abbrev st__law_judged : Stmt := topS 12
abbrev N__law_judged : List Str := ["number", "told"]
theorem sc__law_judged : FnScope N__law_judged ["number"] (defScope st__law_judged) := ⟨rfl, rfl, rfl, by decide +kernel, rfl, by decide +kernel, by decide +kernel⟩
abbrev sp__law_judged (K : PySem.W.Frag) : Sp := sp0 (aC sI.r aN) (fun a => Mi._law_judged a.1) (fun _ => sB.r)
theorem ok__law_judged {P : Program} {w : World} {K : PySem.W.Frag} {mg : Str → Option Value} {base : Heap} {f : Addr} {fd : FuncData} (F : Fun K "_law_judged" "_law_judged" st__law_judged f fd) {f_is_prime : Addr} {fd_is_prime : FuncData} (c_is_prime : Cal P w K mg base CX0 2 "is_prime" ["number"] (sp_is_prime K) f_is_prime fd_is_prime) {f__law_prime : Addr} {fd__law_prime : FuncData} (c__law_prime : Cal P w K mg base CX0 1 "_law_prime" ["number"] (sp__law_prime K) f__law_prime fd__law_prime) (m_bool : mg "bool" = none) (m_isinstance : mg "isinstance" = none) : FnOk P w K mg base CX0 3 f fd ["number"] (sp__law_judged K) := by
  refine fn0 F sc__law_judged (fun s vs a h => ?_) (fun cdv A outer sh E0 hr C a vs Qm ok ha hm => ?_)
  · obtain ⟨v0, w0, rfl, _, h⟩ := h; cases h; rfl
  · obtain ⟨number, _⟩ := a
    obtain ⟨v_number, w_number, rfl, f_number, ha⟩ := ha
    cases ha
    obtain rfl : v_number = V.int number := f_number
    have G : Gr C.s0 C.s0 := Gx.refl ok
    refine ⟨_, (pss_cons (ps_set (i := 1) sc__law_judged.nd rfl (.inl rfl) (pe_call c_is_prime.ok hr (by rfl) c_is_prime.gm c_is_prime.kp c_is_prime.bn .nil pass0 (pa_cons (pv 0) pa_nil))) (pss_cons (ps_ret (pe_and (pe_callB call_isi (by rfl) m_isinstance (by decide +kernel) (pa_cons (pv 1) (pa_cons (pe_bltn (v := .ty "bool") (by rfl) m_bool (by decide +kernel) rfl) pa_nil))) (pe_one (pe_cmpR op_eq (pv 1) (pe_call c__law_prime.ok (hr.mono (by decide)) (by rfl) c__law_prime.gm c__law_prime.kp c__law_prime.bn .nil pass0 (pa_cons (pv 0) pa_nil)) (nomark _))))) pss_nil)), fun Q hQ => ?_⟩
    refine s_set (σf := fun v => [some (.int number), some v]) hm (ev_call (ea_cons (ev_var (r := sI.r) (d := number) rfl) ea_nil)) G (fun _ => rfl) fun told v_told s2 g1 f_told hm => ?_
    have G := Gx.trans G g1
    obtain rfl : v_told = V.bl told := f_told
    exact s_ret hm (ev_andV (ev_isi (T := "bool") (U := "bool") (b := true) oty_B (by decide +kernel) (ev_var (r := sB.r) (d := told) rfl)) (ev_eqB (ev_var (r := sB.r) (d := told) rfl) (ev_call (ea_cons (ev_var (r := sI.r) (d := number) rfl) ea_nil)))) G fun d v u qd g hv => hQ d v u ((fun _ q => q) d qd) g hv


abbrev st_law : Stmt := topS 13
abbrev N_law : List Str := ["script", "numbers", "others", "k", "bag", "number", "told"]
theorem sc_law : FnScope N_law ["script"] (defScope st_law) := ⟨rfl, rfl, rfl, by decide +kernel, rfl, by decide +kernel, by decide +kernel⟩
abbrev sp_law (K : PySem.W.Frag) : Sp := sp0 (aC (sF K sI).r aN) (fun a => Mi.law a.1) (fun _ => sB.r)
theorem ok_law {P : Program} {w : World} {K : PySem.W.Frag} {mg : Str → Option Value} {base : Heap} {f : Addr} {fd : FuncData} (F : Fun K "law" "law" st_law f fd) {f__law_bag : Addr} {fd__law_bag : FuncData} (c__law_bag : Cal P w K mg base CX0 1 "_law_bag" ["script", "k"] (sp__law_bag K) f__law_bag fd__law_bag) {f__law_number : Addr} {fd__law_number : FuncData} (c__law_number : Cal P w K mg base CX0 3 "_law_number" ["bag"] (sp__law_number K) f__law_number fd__law_number) {f__law_negative : Addr} {fd__law_negative : FuncData} (c__law_negative : Cal P w K mg base CX0 2 "_law_negative" ["bag"] (sp__law_negative K) f__law_negative fd__law_negative) {f_factored : Addr} {fd_factored : FuncData} (c_factored : Cal P w K mg base CX0 1 "factored" ["number"] (sp_factored K) f_factored fd_factored) {f__law_holds : Addr} {fd__law_holds : FuncData} (c__law_holds : Cal P w K mg base CX0 2 "_law_holds" ["told", "number"] (sp__law_holds K) f__law_holds fd__law_holds) {f__law_judged : Addr} {fd__law_judged : FuncData} (c__law_judged : Cal P w K mg base CX0 3 "_law_judged" ["number"] (sp__law_judged K) f__law_judged fd__law_judged) (m_len : mg "len" = none) (m_list : mg "list" = none) (m_min : mg "min" = none) (m_range : mg "range" = none) : FnOk P w K mg base CX0 4 f fd ["script"] (sp_law K) := by
  refine fn0 F sc_law (fun s vs a h => ?_) (fun cdv A outer sh E0 hr C a vs Qm ok ha hm => ?_)
  · obtain ⟨v0, w0, rfl, _, h⟩ := h; cases h; rfl
  · obtain ⟨script, _⟩ := a
    obtain ⟨v_script, w_script, rfl, f_script, ha⟩ := ha
    cases ha
    have G : Gr C.s0 C.s0 := Gx.refl ok
    refine ⟨_, (pss_cons (ps_set (i := 1) sc_law.nd rfl (.inl rfl) (pe_lst (pa_cons pe_int pa_nil))) (pss_cons (ps_set (i := 2) sc_law.nd rfl (.inl rfl) (pe_listRg rfl (by rfl) m_list (prg_2 (by rfl) m_range (pe_un un_neg pe_int) pe_int))) (pss_cons (ps_for PassesOwn.never rfl (pi_range1 (by rfl) m_range (pa_cons (pe_op op_add pe_int (pe_callB (call_min2 rfl) (by rfl) m_min (by decide +kernel) (pa_cons (pe_callB call_len_seq (by rfl) m_len PySem.boot_len (pa_cons (pv 0) pa_nil)) (pa_cons pe_int pa_nil)))) pa_nil)) (pg_name (i := 3) sc_law.nd rfl (.inl rfl)) (pss_cons (ps_set (i := 4) sc_law.nd rfl (.inl rfl) (pe_call c__law_bag.ok (hr.mono (by decide)) (by rfl) c__law_bag.gm c__law_bag.kp c__law_bag.bn .nil pass0 (pa_cons (pv 0) (pa_cons (pv 3) pa_nil)))) (pss_cons (ps_set (i := 5) sc_law.nd rfl (.inl rfl) (pe_call c__law_number.ok hr (by rfl) c__law_number.gm c__law_number.kp c__law_number.bn .nil pass0 (pa_cons (pv 4) pa_nil))) (pss_cons (ps_expr (pe_bm PySem.F.plainAttrs_list PySem.F.slot_list_append PySem.F.type_list_append mt_append (pv 1) (pa_cons (pv 5) pa_nil))) (pss_cons (ps_set (i := 2) sc_law.nd rfl (.inl rfl) (pe_op op_cat (pv 2) (pe_lst (pa_cons (pv 5) (pa_cons (pe_un un_neg (pv 5)) (pa_cons (pe_op op_sub pe_int (pv 5)) (pa_cons (pe_call c__law_negative.ok (hr.mono (by decide)) (by rfl) c__law_negative.gm c__law_negative.kp c__law_negative.bn .nil pass0 (pa_cons (pv 4) pa_nil)) pa_nil))))))) pss_nil))))) (pss_cons (ps_for PassesOwn.never rfl (pi_list (pv 1)) (pg_name (i := 5) sc_law.nd rfl (.inl rfl)) (pss_cons (ps_set (i := 6) sc_law.nd rfl (.inl rfl) (pe_call c_factored.ok (hr.mono (by decide)) (by rfl) c_factored.gm c_factored.kp c_factored.bn .nil pass0 (pa_cons (pv 5) pa_nil))) (pss_cons (ps_if (pt_not (pt_val (pe_call c__law_holds.ok (hr.mono (by decide)) (by rfl) c__law_holds.gm c__law_holds.kp c__law_holds.bn .nil pass0 (pa_cons (pv 6) (pa_cons (pv 5) pa_nil))))) (pss_cons (ps_ret pe_bl) pss_nil) pss_nil) (C8.pss_cut (ps_if (pt_cmpR op_gt (pe_callB call_len_seq (by rfl) m_len PySem.boot_len (pa_cons (pv 6) pa_nil)) pe_int (nomark _)) (pss_cons (ps_asg (pe_tup (pa_cons pe_int (pa_cons pe_int pa_nil))) (pg_sub (pv 6) pe_int set_list)) pss_nil) pss_nil) (pss_cons (ps_expr (pe_bm PySem.F.plainAttrs_list PySem.F.slot_list_append PySem.F.type_list_append mt_append (pv 6) (pa_cons (pe_tup (pa_cons pe_int (pa_cons pe_int pa_nil))) pa_nil))) pss_nil))))) (pss_cons (ps_for PassesOwn.never rfl (pi_list (pv 1)) (pg_name (i := 5) sc_law.nd rfl (.inl rfl)) (pss_cons (ps_if (pt_not (pt_val (pe_call c__law_holds.ok (hr.mono (by decide)) (by rfl) c__law_holds.gm c__law_holds.kp c__law_holds.bn .nil pass0 (pa_cons (pe_call c_factored.ok (hr.mono (by decide)) (by rfl) c_factored.gm c_factored.kp c_factored.bn .nil pass0 (pa_cons (pv 5) pa_nil)) (pa_cons (pv 5) pa_nil))))) (pss_cons (ps_ret pe_bl) pss_nil) pss_nil) pss_nil)) (pss_cons (ps_for PassesOwn.never rfl (pi_list (pv 2)) (pg_name (i := 5) sc_law.nd rfl (.inl rfl)) (pss_cons (ps_if (pt_not (pt_val (pe_call c__law_judged.ok hr (by rfl) c__law_judged.gm c__law_judged.kp c__law_judged.bn .nil pass0 (pa_cons (pv 5) pa_nil)))) (pss_cons (ps_ret pe_bl) pss_nil) pss_nil) pss_nil)) (pss_cons (ps_ret pe_bl) pss_nil))))))), fun Q hQ => ?_⟩
    refine s_setN (σf := fun v => [some v_script, some v, none, none, none, none, none]) hm (evn_lst (el_cons ev_int (el_nil (r := sI))) (by decide)) G (fun _ => rfl) fun numbers p_numbers s2 g1 hn3 f_numbers hm => ?_
    have G := Gx.trans G g1
    have f_script := Rep.u g1 f_script
    refine s_set (σf := fun v => [some v_script, some (.ref p_numbers), some v, none, none, none, none]) hm (evn_ev (evn_lrg2 (ev_neg ev_int) ev_int)) G (fun _ => rfl) fun others v_others s5 g4 f_others hm => ?_
    have G := Gx.trans G g4
    have f_script := Rep.u g4 f_script
    have f_numbers := Rep.u g4 f_numbers
    refine s_for (fun u (a : ((List Int) × (List Int))) σ' s' => Gr C.s0 s' ∧ Ex u.st s'.st ∧ ∃ v_others, ∃ y_k, ∃ y_bag, ∃ y_number, σ' = [some v_script, some (.ref p_numbers), some v_others, y_k, y_bag, y_number, none] ∧ (sF K sI).r.is s' v_script script ∧ (oL C.s0 sI p_numbers).is s' (.ref p_numbers) a.1 ∧ (sL sI).r.is s' v_others a.2) hm (ei_rng1 (ev_add ev_int (ev_min2 (ev_lenL rd_scr (ev_var f_script)) ev_int))) G (fun _ _ _ _ h => ⟨h.1.ok, h.2.1⟩) (fun u gu => ⟨Gx.trans G gu, Ex.refl _, v_others, none, none, none, rfl, (Rep.u gu f_script), (Rep.u gu f_numbers), (Rep.u gu f_others)⟩) (fun u k v_k a σ' s7 gu hI hx Qb hm => ?_) (fun u a σ' s8 gu hI hm => ?_)
    · obtain ⟨numbers, others⟩ := a
      obtain ⟨G, E, v_others, y_k, y_bag, y_number, rfl, f_script, f_numbers, f_others⟩ := hI
      obtain rfl : v_k = V.int k := hx
      refine gname_do (σ' := [some v_script, some (.ref p_numbers), some v_others, some (.int k), y_bag, y_number, none]) rfl ?_
      refine s_set (σf := fun v => [some v_script, some (.ref p_numbers), some v_others, some (.int k), some v, y_number, none]) hm (ev_call (ea_cons (ev_var f_script) (ea_cons (ev_var (r := sI.r) (d := k) rfl) ea_nil))) G (fun _ => rfl) fun bag v_bag s10 g9 f_bag hm => ?_
      have G := Gx.trans G g9
      have E := Ex.trans E g9.st
      have f_script := Rep.u g9 f_script
      have f_numbers := Rep.u g9 f_numbers
      have f_others := Rep.u g9 f_others
      refine s_set (σf := fun v => [some v_script, some (.ref p_numbers), some v_others, some (.int k), some v_bag, some v, none]) hm (ev_call (ea_cons (ev_var (d := ()) f_bag) ea_nil)) G (fun _ => rfl) fun number v_number s12 g11 f_number hm => ?_
      have G := Gx.trans G g11
      have E := Ex.trans E g11.st
      have f_script := Rep.u g11 f_script
      have f_numbers := Rep.u g11 f_numbers
      have f_others := Rep.u g11 f_others
      have f_bag := Rep.u g11 f_bag
      obtain rfl : v_number = V.int number := f_number
      refine s_app (m := (ret number)) hm f_numbers (ev_var f_numbers) (ev_var (r := sI.r) (d := number) rfl) G fun numbers s13 g14 G f_numbers hm => ?_
      have E := Ex.trans E g14.st
      have f_script := SRep.ux g14 f_script
      have f_others := SRep.ux g14 f_others
      have f_bag := Rep.ux g14 (fun _ (z : False) => z.elim) f_bag
      refine s_set (σf := fun v => [some v_script, some (.ref p_numbers), some v, some (.int k), some v_bag, some (.int number), none]) hm (evn_ev (evn_cat rs_st rs_st (ev_var f_others) (evn_ev (evn_lst (el_cons (ev_var (r := sI.r) (d := number) rfl) (el_cons (ev_neg (ev_var (r := sI.r) (d := number) rfl)) (el_cons (ev_sub ev_int (ev_var (r := sI.r) (d := number) rfl)) (el_cons (ev_call (ea_cons (ev_var (d := ()) f_bag) ea_nil)) (el_nil (r := sI)))))) (by decide))))) G (fun _ => rfl) fun others v_others s18 g17 f_others hm => ?_
      have G := Gx.trans G g17
      have E := Ex.trans E g17.st
      have f_script := Rep.u g17 f_script
      have f_numbers := Rep.u g17 f_numbers
      exact ⟨(numbers, others), _, rfl, hm, ⟨G, E, v_others, some (.int k), some v_bag, some (.int number), rfl, f_script, f_numbers, f_others⟩⟩
    obtain ⟨numbers, others⟩ := a
    obtain ⟨G, E, v_others, y_k, y_bag, y_number, rfl, f_script, f_numbers, f_others⟩ := hI
    obtain ⟨s19, eh21, G, g20, f_numbers⟩ := own_frz G f_numbers
    rw [← eh21]
    have f_others := SRep.ux g20 f_others
    refine s_forc (fun u (a : Unit) σ' s' => Gr C.s0 s' ∧ Ex u.st s'.st ∧ ∃ y_number, ∃ y_told, σ' = [some v_script, some (.ref p_numbers), some v_others, y_k, y_bag, y_number, y_told] ∧ (sL sI).r.is s' (.ref p_numbers) numbers ∧ (sL sI).r.is s' v_others others) hm (ei_list (ev_var f_numbers)) G (fun _ _ _ _ h => ⟨h.1.ok, h.2.1⟩) (fun u gu => ⟨Gx.trans G gu, Ex.refl _, y_number, none, rfl, (Rep.u gu f_numbers), (Rep.u gu f_others)⟩) (fun u number v_number a σ' s23 gu hI hx Qb hrt hm => ?_) (fun u a σ' s24 gu hI hm => ?_)
    · obtain ⟨G, E, y_number, y_told, rfl, f_numbers, f_others⟩ := hI
      obtain rfl : v_number = V.int number := hx
      refine gname_do (σ' := [some v_script, some (.ref p_numbers), some v_others, y_k, y_bag, some (.int number), y_told]) rfl ?_
      refine s_setN (σf := fun v => [some v_script, some (.ref p_numbers), some v_others, y_k, y_bag, some (.int number), some v]) hm (evn_call (ea_cons (ev_var (r := sI.r) (d := number) rfl) ea_nil)) G (fun _ => rfl) fun told p_told s26 g25 hn27 f_told hm => ?_
      have G := Gx.trans G g25
      have E := Ex.trans E g25.st
      have f_numbers := Rep.u g25 f_numbers
      have f_others := Rep.u g25 f_others
      refine s_if1 hm (et_not (et_B (ev_frz G dry_B f_told fun _ _ _ gx28 ff29 => (ev_call (ea_cons (ev_var ff29) (ea_cons (ev_var (r := sI.r) (d := number) rfl) ea_nil)))))) G (fun s32 g31 hm => ?_) (fun s33 g31 hm => ?_)
      · have G := Gx.trans G g31
        have E := Ex.trans E g31.st
        exact s_ret (Qm := fun d => Qb (.rt d)) hm ev_bl G fun d v u qd g hv => hQ d v u ((fun d q => (fun _ q => q) d (hrt d q)) d qd) g hv
      have G := Gx.trans G g31
      have E := Ex.trans E g31.st
      have f_numbers := Rep.u g31 f_numbers
      have f_others := Rep.u g31 f_others
      have f_told := Rep.u g31 f_told
      refine s_ifj (fun (a : ((List (Int × Int)))) σ' s' => Gr C.s0 s' ∧ Ex s33.st s'.st ∧ σ' = [some v_script, some (.ref p_numbers), some v_others, y_k, y_bag, some (.int number), some (.ref p_told)] ∧ (sL sI).r.is s' (.ref p_numbers) numbers ∧ (sL sI).r.is s' v_others others ∧ (oL C.s0 (sP K sI sI) p_told).is s' (.ref p_told) a) hm (et_test (ev_gt (ev_lenL rd_own (ev_var f_told)) ev_int)) G (fun s36 g35 Qb hm => ?_) (fun s37 g35 Qb hm => ?_) (fun a σ' s41 hI hm => ?_)
      · have G := Gx.trans G g35
        have E := g35.st
        have f_numbers := Rep.u g35 f_numbers
        have f_others := Rep.u g35 f_others
        have f_told := Rep.u g35 f_told
        refine s_put (m := (ret ((4 : Int), (1 : Int)))) (mi := (ret (0 : Int))) hm f_told (ev_var f_told) (ev_pair ev_int ev_int) ev_int G fun told s39 g40 G f_told hm => ?_
        have E := Ex.trans E g40.st
        have f_numbers := SRep.ux g40 f_numbers
        have f_others := SRep.ux g40 f_others
        exact ⟨told, _, rfl, hm, ⟨G, E, rfl, f_numbers, f_others, f_told⟩⟩
      · have G := Gx.trans G g35
        have E := g35.st
        have f_numbers := Rep.u g35 f_numbers
        have f_others := Rep.u g35 f_others
        have f_told := Rep.u g35 f_told
        exact ⟨told, _, rfl, hm, ⟨G, E, rfl, f_numbers, f_others, f_told⟩⟩
      have E0 := E
      obtain ⟨told, ea⟩ : ∃ z, z = a := ⟨a, rfl⟩
      subst ea
      obtain ⟨G, E, rfl, f_numbers, f_others, f_told⟩ := hI
      have E := Ex.trans E0 E
      refine s_app (m := (ret ((2 : Int), (3 : Int)))) hm f_told (ev_var f_told) (ev_pair ev_int ev_int) G fun told s42 g43 G f_told hm => ?_
      have E := Ex.trans E g43.st
      have f_numbers := SRep.ux g43 f_numbers
      have f_others := SRep.ux g43 f_others
      exact ⟨(), _, rfl, hm, ⟨G, E, some (.int number), some (.ref p_told), rfl, f_numbers, f_others⟩⟩
    obtain ⟨G, E, y_number, y_told, rfl, f_numbers, f_others⟩ := hI
    refine s_forc (fun u (a : Unit) σ' s' => Gr C.s0 s' ∧ Ex u.st s'.st ∧ ∃ y_number, σ' = [some v_script, some (.ref p_numbers), some v_others, y_k, y_bag, y_number, y_told] ∧ (sL sI).r.is s' v_others others) hm (ei_list (ev_var f_numbers)) G (fun _ _ _ _ h => ⟨h.1.ok, h.2.1⟩) (fun u gu => ⟨Gx.trans G gu, Ex.refl _, y_number, rfl, (Rep.u gu f_others)⟩) (fun u number v_number a σ' s45 gu hI hx Qb hrt hm => ?_) (fun u a σ' s46 gu hI hm => ?_)
    · obtain ⟨G, E, y_number, rfl, f_others⟩ := hI
      obtain rfl : v_number = V.int number := hx
      refine gname_do (σ' := [some v_script, some (.ref p_numbers), some v_others, y_k, y_bag, some (.int number), y_told]) rfl ?_
      refine s_if1 hm (et_not (et_B (ev_call (ea_cons (evn_ev (evn_call (ea_cons (ev_var (r := sI.r) (d := number) rfl) ea_nil))) (ea_cons (ev_var (r := sI.r) (d := number) rfl) ea_nil))))) G (fun s50 g49 hm => ?_) (fun s51 g49 hm => ?_)
      · have G := Gx.trans G g49
        have E := Ex.trans E g49.st
        exact s_ret (Qm := fun d => Qb (.rt d)) hm ev_bl G fun d v u qd g hv => hQ d v u ((fun d q => (fun _ q => q) d (hrt d q)) d qd) g hv
      have G := Gx.trans G g49
      have E := Ex.trans E g49.st
      have f_others := Rep.u g49 f_others
      exact ⟨(), _, rfl, hm, ⟨G, E, some (.int number), rfl, f_others⟩⟩
    obtain ⟨G, E, y_number, rfl, f_others⟩ := hI
    refine s_forc (fun u (a : Unit) σ' s' => Gr C.s0 s' ∧ Ex u.st s'.st ∧ ∃ y_number, σ' = [some v_script, some (.ref p_numbers), some v_others, y_k, y_bag, y_number, y_told]) hm (ei_list (ev_var f_others)) G (fun _ _ _ _ h => ⟨h.1.ok, h.2.1⟩) (fun u gu => ⟨Gx.trans G gu, Ex.refl _, y_number, rfl⟩) (fun u number v_number a σ' s54 gu hI hx Qb hrt hm => ?_) (fun u a σ' s55 gu hI hm => ?_)
    · obtain ⟨G, E, y_number, rfl⟩ := hI
      obtain rfl : v_number = V.int number := hx
      refine gname_do (σ' := [some v_script, some (.ref p_numbers), some v_others, y_k, y_bag, some (.int number), y_told]) rfl ?_
      refine s_if1 hm (et_not (et_B (ev_call (ea_cons (ev_var (r := sI.r) (d := number) rfl) ea_nil)))) G (fun s58 g57 hm => ?_) (fun s59 g57 hm => ?_)
      · have G := Gx.trans G g57
        have E := Ex.trans E g57.st
        exact s_ret (Qm := fun d => Qb (.rt d)) hm ev_bl G fun d v u qd g hv => hQ d v u ((fun d q => (fun _ q => q) d (hrt d q)) d qd) g hv
      have G := Gx.trans G g57
      have E := Ex.trans E g57.st
      exact ⟨(), _, rfl, hm, ⟨G, E, some (.int number), rfl⟩⟩
    obtain ⟨G, E, y_number, rfl⟩ := hI
    exact s_ret hm ev_bl G fun d v u qd g hv => hQ d v u ((fun _ q => q) d qd) g hv

end K01

namespace K01
open PySem PySem.Spec PyProof.Rows L2 Y
theorem all_mk {l : PySem.W.OpenLaw} {w : World} {K : PySem.W.Frag} {h : Heap} {mg : Str → Option Value} {fa : Addr} (X : K.In h) (G : h.Ns mainGlobals mg) (hfa : mg "law" = some (.ref fa))
    {f0 : Addr} {od0 an0 : Option Addr} {sl0 : Array (Option Value)} {oc0 kV0 dc0 pm0 cd0 ct0 : Value}
    {f1 : Addr} {od1 an1 : Option Addr} {sl1 : Array (Option Value)} {oc1 kV1 dc1 pm1 cd1 ct1 : Value}
    {f2 : Addr} {od2 an2 : Option Addr} {sl2 : Array (Option Value)} {oc2 kV2 dc2 pm2 cd2 ct2 : Value}
    {f3 : Addr} {od3 an3 : Option Addr} {sl3 : Array (Option Value)} {oc3 kV3 dc3 pm3 cd3 ct3 : Value}
    {f4 : Addr} {od4 an4 : Option Addr} {sl4 : Array (Option Value)} {oc4 kV4 dc4 pm4 cd4 ct4 : Value}
    {f5 : Addr} {od5 an5 : Option Addr} {sl5 : Array (Option Value)} {oc5 kV5 dc5 pm5 cd5 ct5 : Value}
    {f6 : Addr} {od6 an6 : Option Addr} {sl6 : Array (Option Value)} {oc6 kV6 dc6 pm6 cd6 ct6 : Value}
    {f7 : Addr} {od7 an7 : Option Addr} {sl7 : Array (Option Value)} {oc7 kV7 dc7 pm7 cd7 ct7 : Value}
    {f8 : Addr} {od8 an8 : Option Addr} {sl8 : Array (Option Value)} {oc8 kV8 dc8 pm8 cd8 ct8 : Value}
    {f9 : Addr} {od9 an9 : Option Addr} {sl9 : Array (Option Value)} {oc9 kV9 dc9 pm9 cd9 ct9 : Value}
    {f10 : Addr} {od10 an10 : Option Addr} {sl10 : Array (Option Value)} {oc10 kV10 dc10 pm10 cd10 ct10 : Value}
    {f11 : Addr} {od11 an11 : Option Addr} {sl11 : Array (Option Value)} {oc11 kV11 dc11 pm11 cd11 ct11 : Value}
    (a0 : PySem.W.nsIn K mainGlobals "factored" = some (some (.ref f0))) (l0 : K.lookup f0 = some ⟨oc0, od0, .func (PySem.W.fnOf "factored" "factored" (defArgs st_factored) (defBody st_factored) (defScope st_factored) .none kV0 dc0 pm0 an0 cd0 ct0), sl0⟩) (c0 : PySem.W.codeIn K cd0 "factored" = true) (k0 : PySem.W.keepIn K (.ref f0) = true)
    (a1 : PySem.W.nsIn K mainGlobals "is_prime" = some (some (.ref f1))) (l1 : K.lookup f1 = some ⟨oc1, od1, .func (PySem.W.fnOf "is_prime" "is_prime" (defArgs st_is_prime) (defBody st_is_prime) (defScope st_is_prime) .none kV1 dc1 pm1 an1 cd1 ct1), sl1⟩) (c1 : PySem.W.codeIn K cd1 "is_prime" = true) (k1 : PySem.W.keepIn K (.ref f1) = true)
    (a2 : PySem.W.nsIn K mainGlobals "_law_bag" = some (some (.ref f2))) (l2 : K.lookup f2 = some ⟨oc2, od2, .func (PySem.W.fnOf "_law_bag" "_law_bag" (defArgs st__law_bag) (defBody st__law_bag) (defScope st__law_bag) .none kV2 dc2 pm2 an2 cd2 ct2), sl2⟩) (c2 : PySem.W.codeIn K cd2 "_law_bag" = true) (k2 : PySem.W.keepIn K (.ref f2) = true)
    (a3 : PySem.W.nsIn K mainGlobals "_law_take" = some (some (.ref f3))) (l3 : K.lookup f3 = some ⟨oc3, od3, .func (PySem.W.fnOf "_law_take" "_law_take" (defArgs st__law_take) (defBody st__law_take) (defScope st__law_take) .none kV3 dc3 pm3 an3 cd3 ct3), sl3⟩) (c3 : PySem.W.codeIn K cd3 "_law_take" = true) (k3 : PySem.W.keepIn K (.ref f3) = true)
    (a4 : PySem.W.nsIn K mainGlobals "_law_is_integer" = some (some (.ref f4))) (l4 : K.lookup f4 = some ⟨oc4, od4, .func (PySem.W.fnOf "_law_is_integer" "_law_is_integer" (defArgs st__law_is_integer) (defBody st__law_is_integer) (defScope st__law_is_integer) .none kV4 dc4 pm4 an4 cd4 ct4), sl4⟩) (c4 : PySem.W.codeIn K cd4 "_law_is_integer" = true) (k4 : PySem.W.keepIn K (.ref f4) = true)
    (a5 : PySem.W.nsIn K mainGlobals "_law_prime" = some (some (.ref f5))) (l5 : K.lookup f5 = some ⟨oc5, od5, .func (PySem.W.fnOf "_law_prime" "_law_prime" (defArgs st__law_prime) (defBody st__law_prime) (defScope st__law_prime) .none kV5 dc5 pm5 an5 cd5 ct5), sl5⟩) (c5 : PySem.W.codeIn K cd5 "_law_prime" = true) (k5 : PySem.W.keepIn K (.ref f5) = true)
    (a6 : PySem.W.nsIn K mainGlobals "_law_prime_below" = some (some (.ref f6))) (l6 : K.lookup f6 = some ⟨oc6, od6, .func (PySem.W.fnOf "_law_prime_below" "_law_prime_below" (defArgs st__law_prime_below) (defBody st__law_prime_below) (defScope st__law_prime_below) .none kV6 dc6 pm6 an6 cd6 ct6), sl6⟩) (c6 : PySem.W.codeIn K cd6 "_law_prime_below" = true) (k6 : PySem.W.keepIn K (.ref f6) = true)
    (a7 : PySem.W.nsIn K mainGlobals "_law_number" = some (some (.ref f7))) (l7 : K.lookup f7 = some ⟨oc7, od7, .func (PySem.W.fnOf "_law_number" "_law_number" (defArgs st__law_number) (defBody st__law_number) (defScope st__law_number) .none kV7 dc7 pm7 an7 cd7 ct7), sl7⟩) (c7 : PySem.W.codeIn K cd7 "_law_number" = true) (k7 : PySem.W.keepIn K (.ref f7) = true)
    (a8 : PySem.W.nsIn K mainGlobals "_law_negative" = some (some (.ref f8))) (l8 : K.lookup f8 = some ⟨oc8, od8, .func (PySem.W.fnOf "_law_negative" "_law_negative" (defArgs st__law_negative) (defBody st__law_negative) (defScope st__law_negative) .none kV8 dc8 pm8 an8 cd8 ct8), sl8⟩) (c8 : PySem.W.codeIn K cd8 "_law_negative" = true) (k8 : PySem.W.keepIn K (.ref f8) = true)
    (a9 : PySem.W.nsIn K mainGlobals "_law_holds" = some (some (.ref f9))) (l9 : K.lookup f9 = some ⟨oc9, od9, .func (PySem.W.fnOf "_law_holds" "_law_holds" (defArgs st__law_holds) (defBody st__law_holds) (defScope st__law_holds) .none kV9 dc9 pm9 an9 cd9 ct9), sl9⟩) (c9 : PySem.W.codeIn K cd9 "_law_holds" = true) (k9 : PySem.W.keepIn K (.ref f9) = true)
    (a10 : PySem.W.nsIn K mainGlobals "_law_judged" = some (some (.ref f10))) (l10 : K.lookup f10 = some ⟨oc10, od10, .func (PySem.W.fnOf "_law_judged" "_law_judged" (defArgs st__law_judged) (defBody st__law_judged) (defScope st__law_judged) .none kV10 dc10 pm10 an10 cd10 ct10), sl10⟩) (c10 : PySem.W.codeIn K cd10 "_law_judged" = true) (k10 : PySem.W.keepIn K (.ref f10) = true)
    (a11 : PySem.W.nsIn K mainGlobals "law" = some (some (.ref f11))) (l11 : K.lookup f11 = some ⟨oc11, od11, .func (PySem.W.fnOf "law" "law" (defArgs st_law) (defBody st_law) (defScope st_law) .none kV11 dc11 pm11 an11 cd11 ct11), sl11⟩) (c11 : PySem.W.codeIn K cd11 "law" = true) (k11 : PySem.W.keepIn K (.ref f11) = true)
    (z_abs : PySem.W.nsIn K mainGlobals "abs" = some none)
    (z_bool : PySem.W.nsIn K mainGlobals "bool" = some none)
    (z_int : PySem.W.nsIn K mainGlobals "int" = some none)
    (z_isinstance : PySem.W.nsIn K mainGlobals "isinstance" = some none)
    (z_len : PySem.W.nsIn K mainGlobals "len" = some none)
    (z_list : PySem.W.nsIn K mainGlobals "list" = some none)
    (z_min : PySem.W.nsIn K mainGlobals "min" = some none)
    (z_range : PySem.W.nsIn K mainGlobals "range" = some none)
    (z_tuple : PySem.W.nsIn K mainGlobals "tuple" = some none) :
    ∃ fd : FuncData, (∀ (s : Shared) (v : Value), BindsTo s fd ⟨[v], []⟩ [("script", v)]) ∧ ∀ base : Heap, K.In base → base.Ns mainGlobals mg → FnOk l.prog w K mg base CX0 4 fa fd ["script"] (sp_law K) := by
  have e := hfa.symm.trans (PySem.W.mg_of X G a11)
  cases e
  have F0 := fun_mk (st := st_factored) l0 c0 k0
  have b0 := F0.binds (ps := ["number"]) fun _ _ _ _ _ _ us hl => match us, hl with | [_], _ => rfl
  have F1 := fun_mk (st := st_is_prime) l1 c1 k1
  have b1 := F1.binds (ps := ["number"]) fun _ _ _ _ _ _ us hl => match us, hl with | [_], _ => rfl
  have F2 := fun_mk (st := st__law_bag) l2 c2 k2
  have b2 := F2.binds (ps := ["script", "k"]) fun _ _ _ _ _ _ us hl => match us, hl with | [_, _], _ => rfl
  have F3 := fun_mk (st := st__law_take) l3 c3 k3
  have b3 := F3.binds (ps := ["bag", "size"]) fun _ _ _ _ _ _ us hl => match us, hl with | [_, _], _ => rfl
  have F4 := fun_mk (st := st__law_is_integer) l4 c4 k4
  have b4 := F4.binds (ps := ["told"]) fun _ _ _ _ _ _ us hl => match us, hl with | [_], _ => rfl
  have F5 := fun_mk (st := st__law_prime) l5 c5 k5
  have b5 := F5.binds (ps := ["number"]) fun _ _ _ _ _ _ us hl => match us, hl with | [_], _ => rfl
  have F6 := fun_mk (st := st__law_prime_below) l6 c6 k6
  have b6 := F6.binds (ps := ["number"]) fun _ _ _ _ _ _ us hl => match us, hl with | [_], _ => rfl
  have F7 := fun_mk (st := st__law_number) l7 c7 k7
  have b7 := F7.binds (ps := ["bag"]) fun _ _ _ _ _ _ us hl => match us, hl with | [_], _ => rfl
  have F8 := fun_mk (st := st__law_negative) l8 c8 k8
  have b8 := F8.binds (ps := ["bag"]) fun _ _ _ _ _ _ us hl => match us, hl with | [_], _ => rfl
  have F9 := fun_mk (st := st__law_holds) l9 c9 k9
  have b9 := F9.binds (ps := ["told", "number"]) fun _ _ _ _ _ _ us hl => match us, hl with | [_, _], _ => rfl
  have F10 := fun_mk (st := st__law_judged) l10 c10 k10
  have b10 := F10.binds (ps := ["number"]) fun _ _ _ _ _ _ us hl => match us, hl with | [_], _ => rfl
  have F11 := fun_mk (st := st_law) l11 c11 k11
  have b11 := F11.binds (ps := ["script"]) fun _ _ _ _ _ _ us hl => match us, hl with | [_], _ => rfl
  refine ⟨PySem.W.fnOf "law" "law" (defArgs st_law) (defBody st_law) (defScope st_law) .none kV11 dc11 pm11 an11 cd11 ct11, fun s v => .of_eq rfl, fun base _ _ => ?_⟩
  have C0 : Cal l.prog w K mg base CX0 1 "factored" ["number"] (sp_factored K) f0 _ := ⟨ok_factored F0, PySem.W.mg_of X G a0, F0.kp, b0⟩
  have C2 : Cal l.prog w K mg base CX0 1 "_law_bag" ["script", "k"] (sp__law_bag K) f2 _ := ⟨ok__law_bag F2 (PySem.W.mg_none_of X G z_abs) (PySem.W.mg_none_of X G z_int) (PySem.W.mg_none_of X G z_len), PySem.W.mg_of X G a2, F2.kp, b2⟩
  have C3 : Cal l.prog w K mg base CX0 1 "_law_take" ["bag", "size"] (sp__law_take K) f3 _ := ⟨ok__law_take F3 (PySem.W.mg_none_of X G z_int), PySem.W.mg_of X G a3, F3.kp, b3⟩
  have C4 : Cal l.prog w K mg base CX0 1 "_law_is_integer" ["told"] (sp__law_is_integer K) f4 _ := ⟨ok__law_is_integer F4 (PySem.W.mg_none_of X G z_bool) (PySem.W.mg_none_of X G z_int) (PySem.W.mg_none_of X G z_isinstance), PySem.W.mg_of X G a4, F4.kp, b4⟩
  have C5 : Cal l.prog w K mg base CX0 1 "_law_prime" ["number"] (sp__law_prime K) f5 _ := ⟨ok__law_prime F5 (PySem.W.mg_none_of X G z_int) (PySem.W.mg_none_of X G z_range), PySem.W.mg_of X G a5, F5.kp, b5⟩
  have C1 : Cal l.prog w K mg base CX0 2 "is_prime" ["number"] (sp_is_prime K) f1 _ := ⟨ok_is_prime F1 C0, PySem.W.mg_of X G a1, F1.kp, b1⟩
  have C6 : Cal l.prog w K mg base CX0 2 "_law_prime_below" ["number"] (sp__law_prime_below K) f6 _ := ⟨ok__law_prime_below F6 C5 (PySem.W.mg_none_of X G z_range), PySem.W.mg_of X G a6, F6.kp, b6⟩
  have C8 : Cal l.prog w K mg base CX0 2 "_law_negative" ["bag"] (sp__law_negative K) f8 _ := ⟨ok__law_negative F8 C3, PySem.W.mg_of X G a8, F8.kp, b8⟩
  have C9 : Cal l.prog w K mg base CX0 2 "_law_holds" ["told", "number"] (sp__law_holds K) f9 _ := ⟨ok__law_holds F9 C4 C5 (PySem.W.mg_none_of X G z_isinstance) (PySem.W.mg_none_of X G z_len) (PySem.W.mg_none_of X G z_list) (PySem.W.mg_none_of X G z_range) (PySem.W.mg_none_of X G z_tuple), PySem.W.mg_of X G a9, F9.kp, b9⟩
  have C7 : Cal l.prog w K mg base CX0 3 "_law_number" ["bag"] (sp__law_number K) f7 _ := ⟨ok__law_number F7 C3 C6 (PySem.W.mg_none_of X G z_range), PySem.W.mg_of X G a7, F7.kp, b7⟩
  have C10 : Cal l.prog w K mg base CX0 3 "_law_judged" ["number"] (sp__law_judged K) f10 _ := ⟨ok__law_judged F10 C1 C5 (PySem.W.mg_none_of X G z_bool) (PySem.W.mg_none_of X G z_isinstance), PySem.W.mg_of X G a10, F10.kp, b10⟩
  exact ok_law F11 C2 C7 C8 C0 C9 C10 (PySem.W.mg_none_of X G z_len) (PySem.W.mg_none_of X G z_list) (PySem.W.mg_none_of X G z_min) (PySem.W.mg_none_of X G z_range)
theorem law_sp {K : PySem.W.Frag} {H : Hp} {a : Addr} {ns : List Int} {E : XK} (hl : ns.length ≤ 63) (hS : SqL K H a (ns.map V.int)) : sp_law K [.ref a] H (fun v _ => v = .bl true) E :=
  ⟨⟨H, H, fun _ => False⟩, (ns, ()), (fun b => b = true), rfl, ⟨Ex.refl _, fun _ z => z.elim⟩, ⟨_, _, rfl, ⟨a, _, rfl, hS, ints_paired _ _⟩, rfl⟩, law_true ns hl, fun d v u hd _ hv => by
    rw [show v = V.bl d from hv, hd]⟩
end K01
open PySem PySem.W PyProof.Rows
set_option maxHeartbeats 0 in
theorem PySem.Challenge.cw_stepsvanish_k01_numbers_factored_holds : PySem.Challenge.rw_stepsvanish_k01_numbers_factored.Holds := by
  w_on; o_law; k_head; (case hw => w_witness2)
  k_fill
  refine L2.walk_of (l := PySem.Challenge.rw_stepsvanish_k01_numbers_factored) (n := 63) (k := 4) (x := "script") (CX := fun _ => L2.CX0) (sp := fun w => K01.sp_law _) rfl (by decide) rfl ⟨rfl, by decide, by decide⟩ (fun w h Y => PySem.W.kIn_of Y) ?F (fun _ _ a ns hl _ hS => K01.law_sp hl hS) (fun _ _ _ _ _ h => h)
  case F =>
    intro w mg fa h KX G hmg
    refine' K01.all_mk KX G hmg ?a0 ?l0 ?c0 ?k0 ?a1 ?l1 ?c1 ?k1 ?a2 ?l2 ?c2 ?k2 ?a3 ?l3 ?c3 ?k3 ?a4 ?l4 ?c4 ?k4 ?a5 ?l5 ?c5 ?k5 ?a6 ?l6 ?c6 ?k6 ?a7 ?l7 ?c7 ?k7 ?a8 ?l8 ?c8 ?k8 ?a9 ?l9 ?c9 ?k9 ?a10 ?l10 ?c10 ?k10 ?a11 ?l11 ?c11 ?k11 ?z_abs ?z_bool ?z_int ?z_isinstance ?z_len ?z_list ?z_min ?z_range ?z_tuple
    (case a0 => k_is); (case l0 => k_is); (case c0 => k_is); (case k0 => k_is); (case a1 => k_is); (case l1 => k_is); (case c1 => k_is); (case k1 => k_is); (case a2 => k_is); (case l2 => k_is); (case c2 => k_is); (case k2 => k_is); (case a3 => k_is); (case l3 => k_is); (case c3 => k_is); (case k3 => k_is); (case a4 => k_is); (case l4 => k_is); (case c4 => k_is); (case k4 => k_is); (case a5 => k_is); (case l5 => k_is); (case c5 => k_is); (case k5 => k_is); (case a6 => k_is); (case l6 => k_is); (case c6 => k_is); (case k6 => k_is); (case a7 => k_is); (case l7 => k_is); (case c7 => k_is); (case k7 => k_is); (case a8 => k_is); (case l8 => k_is); (case c8 => k_is); (case k8 => k_is); (case a9 => k_is); (case l9 => k_is); (case c9 => k_is); (case k9 => k_is); (case a10 => k_is); (case l10 => k_is); (case c10 => k_is); (case k10 => k_is); (case a11 => k_is); (case l11 => k_is); (case c11 => k_is); (case k11 => k_is); (case z_abs => k_is); (case z_bool => k_is); (case z_int => k_is); (case z_isinstance => k_is); (case z_len => k_is); (case z_list => k_is); (case z_min => k_is); (case z_range => k_is); (case z_tuple => k_is)


