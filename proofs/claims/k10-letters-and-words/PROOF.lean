import PyProof.Rows.All
import Wide.All
import OpenK.AllK
import Wide.FinOn
import HandS.ForMost
import HandS.Exc
import HandS.ExcOwn
import HandS.Wide
import HandS.IsInst
import HandS.Style
import PySem.Challenge.RW_digitwise_k10_letters_and_words
set_option Elab.async false
set_option linter.all false
set_option maxRecDepth 100000
set_option maxHeartbeats 2000000
/-! WLA: results, worlds, descriptions, the readings. -/
namespace WL
open PySem PySem.Spec PyProof.Rows L2

/-! ### results with a state -/
structure Exn where
  k : Nat
  a : V
inductive RS (T A : Type) where
  | ok (a : A) (s : T) | err (e : Exn) (s : T) | stuck
def MM (T A : Type) : Type := T → RS T A
section
variable {T A B C G : Type}
def ret (a : A) : MM T A := fun s => .ok a s
def bnd (x : MM T A) (f : A → MM T B) : MM T B := fun s => match x s with
  | .ok a s1 => f a s1
  | .err e s1 => .err e s1
  | .stuck => .stuck
def lft (o : Option A) : MM T A := fun s => match o with
  | some a => .ok a s
  | none => .stuck
def thw (e : Exn) : MM T A := fun s => .err e s
def stk : MM T A := fun _ => .stuck
/-- a computation without state, within one with state -/
def up (x : MM Unit A) : MM T A := fun s => match x () with
  | .ok a _ => .ok a s
  | .err e _ => .err e s
  | .stuck => .stuck
/-- no error may come -/
def noE (x : MM T A) : MM T A := fun s => match x s with
  | .ok a s1 => .ok a s1
  | .err _ _ => .stuck
  | .stuck => .stuck
instance : Monad (MM T) where
  pure := ret
  bind := bnd
def Post (r : RS T A) (P : A → T → Prop) (E : Exn → T → Prop) : Prop := match r with
  | .ok a s => P a s
  | .err e s => E e s
  | .stuck => False
theorem Post.bnd {x : MM T A} {f : A → MM T B} {s : T} {P : B → T → Prop} {E : Exn → T → Prop} : Post (bnd x f s) P E ↔ Post (x s) (fun a s1 => Post (f a s1) P E) E := by
  unfold WL.bnd
  cases x s <;> rfl
theorem Post.mono {r : RS T A} {P P' : A → T → Prop} {E E' : Exn → T → Prop} (h : Post r P E) (hp : ∀ a s, P a s → P' a s) (he : ∀ e s, E e s → E' e s) : Post r P' E' := by
  cases r with
  | ok a s => exact hp a s h
  | err e s => exact he e s h
  | stuck => exact h
theorem Post.imp {r : RS T A} {P P' : A → T → Prop} {E : Exn → T → Prop} (h : Post r P E) (hp : ∀ a s, P a s → P' a s) : Post r P' E := h.mono hp fun _ _ q => q
theorem Post.up {x : MM Unit A} {s : T} {P : A → T → Prop} {E : Exn → T → Prop} : Post (up x s) P E ↔ Post (x ()) (fun a _ => P a s) (fun e _ => E e s) := by
  unfold WL.up
  cases x () <;> rfl
theorem Post.noE {x : MM T A} {s : T} {P : A → T → Prop} {E : Exn → T → Prop} : Post (noE x s) P E ↔ Post (x s) P (fun _ _ => False) := by
  unfold WL.noE
  cases x s <;> rfl
theorem Post.lft {o : Option A} {s : T} {P : A → T → Prop} {E : Exn → T → Prop} : Post (lft o s) P E ↔ ∃ a, o = some a ∧ P a s := by
  unfold WL.lft
  cases o with
  | none => exact ⟨fun h => h.elim, fun ⟨_, h, _⟩ => nomatch h⟩
  | some a => exact ⟨fun h => ⟨a, rfl, h⟩, fun ⟨b, h, q⟩ => by cases h; exact q⟩
end

/-! ### heaps -/
def Sub (m n : Hp) : Prop := ∀ a o, m a = some o → n a = some o
theorem Sub.refl (m : Hp) : Sub m m := fun _ _ h => h
theorem Sub.trans {a b c : Hp} (h : Sub a b) (k : Sub b c) : Sub a c := fun x o e => k x o (h x o e)
theorem Sub.free {m n : Hp} (h : Sub m n) {a : Addr} (e : n a = none) : m a = none := by
  cases q : m a with
  | none => rfl
  | some o => rw [h a o q] at e; cases e
theorem Sub.new {m H : Hp} (h : Sub m H) {p : Addr} {o : HO} (e : H p = none) : Sub m (upd H p o) := fun a u q => by
  rw [upd_ne (ne_of_none (h a u q) e)]; exact h a u q
theorem Sub.wr {m H : Hp} (h : Sub m H) {p : Addr} {o : HO} (e : m p = none) : Sub m (upd H p o) := fun a u q => by
  rw [upd_ne (ne_of_none q e)]; exact h a u q
theorem Sub.both {m H : Hp} (h : Sub m H) {p : Addr} {o : HO} : Sub (upd m p o) (upd H p o) := fun a u q => by
  by_cases e : a = p
  · subst e; rw [upd_same] at q ⊢; exact q
  · rw [upd_ne e] at q ⊢; exact h a u q
theorem Sub.rd {m n : Hp} (h : Sub m n) {a : Addr} {u : HO} (r : Rd m a u) : Rd n a u := by
  rcases r with r | ⟨o, r⟩
  · exact .inl (h _ _ r)
  · exact .inr ⟨o, h _ _ r⟩
theorem Sub.sqL {K : PySem.W.Frag} {m n : Hp} (h : Sub m n) {a : Addr} {xs : List V} (r : SqL K m a xs) : SqL K n a xs := by
  rcases r with r | r
  · exact .inl (h.rd r)
  · exact .inr r
theorem Sub.sqT {K : PySem.W.Frag} {m n : Hp} (h : Sub m n) {a : Addr} {xs : List V} (r : SqT K m a xs) : SqT K n a xs := by
  rcases r with r | r
  · exact .inl (h.rd r)
  · exact .inr r

/-- from the world (m, H) to (m', H'), where the objects at S may have been written -/
structure WStep (S : List Addr) (m H m' H' : Hp) : Prop where
  mm : Sub m m'
  mh : Sub m' H'
  hh : ∀ a o, a ∉ S → H a = some o → H' a = some o
  ow : ∀ a, m a = none → H a ≠ none → m' a = none
  dm : ∀ a, H a ≠ none → H' a ≠ none
section
variable {S S' : List Addr} {m H m1 H1 m2 H2 m' H' : Hp} {p : Addr} {o : HO}
theorem WStep.refl (h : Sub m H) : WStep S m H m H := ⟨.refl m, h, fun _ _ _ q => q, fun _ q _ => q, fun _ q => q⟩
theorem WStep.trans (a : WStep S m H m1 H1) (b : WStep S m1 H1 m2 H2) : WStep S m H m2 H2 :=
  ⟨a.mm.trans b.mm, b.mh, fun x o hx e => b.hh x o hx (a.hh x o hx e), fun x e n => b.ow x (a.ow x e n) (a.dm x n), fun x n => b.dm x (a.dm x n)⟩
theorem WStep.comp (a : WStep S m H m1 H1) (b : WStep S' m1 H1 m2 H2) (h : ∀ p ∈ S', p ∈ S ∨ H p = none) : WStep S m H m2 H2 :=
  ⟨a.mm.trans b.mm, b.mh, fun x o hx e => b.hh x o (fun z => by
      rcases h x z with q | q
      · exact hx q
      · rw [q] at e; cases e) (a.hh x o hx e), fun x e n => b.ow x (a.ow x e n) (a.dm x n), fun x n => b.dm x (a.dm x n)⟩
theorem WStep.wide (a : WStep [] m H m1 H1) : WStep S m H m1 H1 := ⟨a.mm, a.mh, fun x o _ e => a.hh x o (by simp) e, a.ow, a.dm⟩
theorem WStep.sub (a : WStep [] m H m1 H1) : Sub H H1 := fun x o e => a.hh x o (by simp) e
/-- a new object that never changes -/
theorem WStep.new (h : Sub m H) (e : H p = none) : WStep S m H (upd m p o) (upd H p o) :=
  ⟨Sub.new (.refl m) (h.free e), h.both, fun a u _ q => by rw [upd_ne (ne_of_none q e)]; exact q, fun a q n => by
      rw [upd_ne (fun z => by subst z; exact n e)]; exact q, fun a n => by
      rw [upd_ne (fun z => by subst z; exact n e)]; exact n⟩
/-- a new object that will change -/
theorem WStep.own (h : Sub m H) (e : H p = none) : WStep S m H m (upd H p o) :=
  ⟨.refl m, h.new e, fun a u _ q => by rw [upd_ne (ne_of_none q e)]; exact q, fun a q n => q, fun a n => by
      rw [upd_ne (fun z => by subst z; exact n e)]; exact n⟩
/-- an owned object is written -/
theorem WStep.put (h : Sub m H) (e : m p = none) (hp : p ∈ S) : WStep S m H m (upd H p o) :=
  ⟨.refl m, h.wr e, fun a u hn q => by rw [upd_ne (fun z => by subst z; exact hn hp)]; exact q, fun a q n => q, fun a n => by
      by_cases z : a = p
      · subst z; rw [upd_same]; exact fun q => nomatch q
      · rw [upd_ne z]; exact n⟩
/-- owned objects are handed to the facts that stay -/
theorem WStep.same {fp : List Addr} (h : Sub m H) (mm : Sub m m') (mh : Sub m' H) (hf : ∀ a, a ∉ fp → m' a = m a) : ∀ a, m a = none → a ∉ fp → m' a = none := fun a e n => by rw [hf a n]; exact e
end

/-! ### what a value stands for -/
/-- a fact that stays: it leans on objects that never change -/
structure Ty (A : Type) where
  rep : A → V → Hp → Prop
  mono : ∀ {a : A} {v : V} {m n : Hp}, Sub m n → rep a v m → rep a v n
/-- an object that is owned: v's content, the objects fp that it is made of -/
structure OTy (A : Type) where
  rep : A → V → List Addr → Hp → Hp → Prop
  frame : ∀ {a : A} {v : V} {fp : List Addr} {h m h' m' : Hp}, (∀ p ∈ fp, h' p = h p) → Sub m m' → rep a v fp h m → rep a v fp h' m'
  dom : ∀ {a : A} {v : V} {fp : List Addr} {h m : Hp}, rep a v fp h m → ∀ p ∈ fp, h p ≠ none
/-- a list of arguments -/
structure LTy (A : Type) where
  rep : A → List V → Hp → Prop
  mono : ∀ {a : A} {v : List V} {m n : Hp}, Sub m n → rep a v m → rep a v n
inductive Desc where
  | any
  | val {A : Type} (t : Ty A) (a : A)
  | own {A : Type} (o : OTy A) (a : A)
def SlotOk (m h : Hp) (s : Option V) (fp : List Addr) : Desc → Prop
  | .any => fp = []
  | .val t a => fp = [] ∧ ∃ v, s = some v ∧ t.rep a v m
  | .own o a => ∃ v, s = some v ∧ o.rep a v fp h m ∧ ∀ p ∈ fp, m p = none
inductive Slots (m h : Hp) : L2.St → List (List Addr) → List Desc → Prop where
  | nil : Slots m h [] [] []
  | cons {s : Option V} {fp : List Addr} {d : Desc} {σ : L2.St} {fps : List (List Addr)} {ds : List Desc} : SlotOk m h s fp d → Slots m h σ fps ds → Slots m h (s :: σ) (fp :: fps) (d :: ds)
def Disj (fps : List (List Addr)) : Prop := fps.Pairwise fun a b => ∀ p ∈ a, p ∉ b
section
variable {m h m' h' : Hp} {s : Option V} {fp : List Addr} {d : Desc} {σ : L2.St} {fps : List (List Addr)} {ds : List Desc}
theorem SlotOk.go (x : SlotOk m h s fp d) (hk : ∀ p ∈ fp, h' p = h p) (hm : Sub m m') (ow : ∀ p ∈ fp, m p = none → m' p = none) : SlotOk m' h' s fp d := by
  cases d with
  | any => exact x
  | val t a => obtain ⟨e, v, e1, r⟩ := x; exact ⟨e, v, e1, t.mono hm r⟩
  | own o a => obtain ⟨v, e1, r, n⟩ := x; exact ⟨v, e1, o.frame hk hm r, fun p hp => ow p hp (n p hp)⟩
theorem SlotOk.dom (x : SlotOk m h s fp d) : ∀ p ∈ fp, h p ≠ none ∧ m p = none := by
  cases d with
  | any => cases x; intro p hp; exact absurd hp (by simp)
  | val t a => obtain ⟨e, _⟩ := x; subst e; intro p hp; exact absurd hp (by simp)
  | own o a => obtain ⟨v, e1, r, n⟩ := x; exact fun p hp => ⟨o.dom r p hp, n p hp⟩
theorem Slots.go (x : Slots m h σ fps ds) (hk : ∀ fp ∈ fps, ∀ p ∈ fp, h' p = h p) (hm : Sub m m') (ow : ∀ fp ∈ fps, ∀ p ∈ fp, m p = none → m' p = none) : Slots m' h' σ fps ds := by
  induction x with
  | nil => exact .nil
  | cons a _ ih => exact .cons (a.go (hk _ List.mem_cons_self) hm (ow _ List.mem_cons_self)) (ih (fun fp hf => hk fp (List.mem_cons_of_mem _ hf)) fun fp hf => ow fp (List.mem_cons_of_mem _ hf))
theorem Slots.dom (x : Slots m h σ fps ds) : ∀ fp ∈ fps, ∀ p ∈ fp, h p ≠ none ∧ m p = none := by
  induction x with
  | nil => intro fp hf; exact absurd hf (by simp)
  | cons a _ ih =>
    intro fp hf
    rcases List.mem_cons.mp hf with rfl | hf
    · exact a.dom
    · exact ih fp hf
theorem Slots.get (x : Slots m h σ fps ds) : ∀ {i : Nat} {d : Desc}, ds[i]? = some d → ∃ s fp, σ[i]? = some s ∧ fps[i]? = some fp ∧ SlotOk m h s fp d := by
  induction x with
  | nil => intro i d e; simp at e
  | cons a _ ih =>
    intro i d e
    cases i with
    | zero => simp at e; subst e; exact ⟨_, _, rfl, rfl, a⟩
    | succ i =>
      obtain ⟨s, fp, e1, e2, r⟩ := ih (i := i) (d := d) (by simpa using e)
      exact ⟨s, fp, by simpa using e1, by simpa using e2, r⟩
theorem Slots.set (x : Slots m h σ fps ds) : ∀ {i : Nat} {s : Option V} {fp : List Addr} {d : Desc}, SlotOk m h s fp d → Slots m h (σ.set i s) (fps.set i fp) (ds.set i d) := by
  induction x with
  | nil => intro i s fp d _; exact .nil
  | cons a t ih =>
    intro i s fp d y
    cases i with
    | zero => exact .cons y t
    | succ i => exact .cons a (ih (i := i) y)
/-- a slot's description by another one, the slot as it is -/
theorem Slots.desc (x : Slots m h σ fps ds) : ∀ {i : Nat} {fp : List Addr} {d : Desc}, (∀ s fp', σ[i]? = some s → fps[i]? = some fp' → SlotOk m h s fp d) → Slots m h σ (fps.set i fp) (ds.set i d) := by
  induction x with
  | nil => intro i fp d _; exact .nil
  | cons a t ih =>
    intro i fp d y
    cases i with
    | zero => exact .cons (y _ _ rfl rfl) t
    | succ i => exact .cons a (ih (i := i) fun s fp' e1 e2 => y s fp' (by simpa using e1) (by simpa using e2))
theorem Disj.set {fps : List (List Addr)} : ∀ {i : Nat} {fp : List Addr}, Disj fps → (∀ gp ∈ fps, (∀ p ∈ gp, p ∉ fp) ∨ fps[i]? = some gp ∧ ∀ p ∈ fp, p ∈ gp) → Disj (fps.set i fp) := by
  intro i fp hd hn
  unfold Disj at hd ⊢
  rw [List.pairwise_iff_getElem] at hd ⊢
  intro a b ha hb hab p hp hq
  rw [List.getElem_set] at hp hq
  simp only [List.length_set] at ha hb
  by_cases h1 : i = a
  · have h2 : ¬ i = b := by omega
    rw [if_pos h1] at hp
    rw [if_neg h2] at hq
    rcases hn _ (List.getElem_mem hb) with z | ⟨z, z2⟩
    · exact z p hq hp
    · have hi : i < fps.length := by omega
      rw [List.getElem?_eq_getElem hi] at z
      have z' := Option.some.inj z
      have hp' := z2 p hp
      rw [← z'] at hp'
      exact hd i b hi hb (by omega) p hp' hq
  · rw [if_neg h1] at hp
    by_cases h2 : i = b
    · rw [if_pos h2] at hq
      rcases hn _ (List.getElem_mem ha) with z | ⟨z, z2⟩
      · exact z p hp hq
      · have hi : i < fps.length := by omega
        rw [List.getElem?_eq_getElem hi] at z
        have z' := Option.some.inj z
        have hp' := z2 p hq
        rw [← z'] at hp'
        exact hd a i ha hi (by omega) p hp hp'
    · rw [if_neg h2] at hq
      exact hd a b ha hb hab p hp hq
end

/-! ### the setting of a def's body -/
structure Ctx (T : Type) where
  K : PySem.W.Frag
  cls : Nat → Addr
  S : List Addr
  m0 : Hp
  H0 : Hp
  afp : List Addr
  amb : T → Hp → Hp → Prop
  ambF : ∀ {st : T} {h m h' m' : Hp}, (∀ p ∈ afp, h' p = h p) → Sub m m' → amb st h m → amb st h' m'
  ambD : ∀ {st : T} {h m : Hp}, amb st h m → ∀ p ∈ afp, h p ≠ none
  afr : ∀ p ∈ afp, p ∈ S ∨ H0 p = none
  pin : Hp → Prop
  pinM : ∀ {m n : Hp}, Sub m n → pin m → pin n
  err : Exn → T → Prop
/-- a further fact that stays -/
def Ctx.pinned {T : Type} (c : Ctx T) (q : Hp → Prop) (hq : ∀ {m n : Hp}, Sub m n → q m → q n) : Ctx T := { c with pin := fun m => c.pin m ∧ q m, pinM := fun h x => ⟨c.pinM h x.1, hq h x.2⟩ }
/-- no error is let out -/
def Ctx.nox {T : Type} (c : Ctx T) : Ctx T := { c with err := fun _ _ => False }
structure EnvOk {T : Type} (c : Ctx T) (σ : L2.St) (m h : Hp) (ds : List Desc) (st : T) : Prop where
  step : WStep c.S c.m0 c.H0 m h
  slots : ∃ fps, Slots m h σ fps ds ∧ Disj fps ∧ ∀ fp ∈ fps, ∀ p ∈ fp, p ∉ c.afp ∧ c.H0 p = none
  amb : c.amb st h m
  own : ∀ p ∈ c.afp, m p = none
  pin : c.pin m
section
variable {T : Type} {c : Ctx T} {σ : L2.St} {m h m' h' : Hp} {ds : List Desc} {st st' : T}
theorem EnvOk.go (x : EnvOk c σ m h ds st) (w : WStep c.afp m h m' h') (am : c.amb st' h' m') : EnvOk c σ m' h' ds st' := by
  obtain ⟨fps, sl, dj, fr⟩ := x.slots
  have dm := sl.dom
  refine ⟨x.step.comp w c.afr, ⟨fps, sl.go (fun fp hf p hp => ?_) w.mm (fun fp hf p hp e => w.ow p e (dm fp hf p hp).1), dj, fr⟩, am, fun p hp => w.ow p (x.own p hp) (c.ambD x.amb p hp), c.pinM w.mm x.pin⟩
  cases q : h p with
  | none => exact absurd q (dm fp hf p hp).1
  | some o => exact w.hh p o (fr fp hf p hp).1 q
theorem EnvOk.grow (x : EnvOk c σ m h ds st) (w : WStep [] m h m' h') : EnvOk c σ m' h' ds st := by
  refine x.go w.wide (c.ambF (fun p hp => ?_) w.mm x.amb)
  cases q : h p with
  | none => exact absurd q (c.ambD x.amb p hp)
  | some o => exact w.sub p o q
theorem EnvOk.ambGrow (x : c.amb st h m) (w : WStep [] m h m' h') : c.amb st h' m' := by
  refine c.ambF (fun p hp => ?_) w.mm x
  cases q : h p with
  | none => exact absurd q (c.ambD x p hp)
  | some o => exact w.sub p o q
theorem EnvOk.mh (x : EnvOk c σ m h ds st) : Sub m h := x.step.mh
theorem EnvOk.nox (x : EnvOk c σ m h ds st) : EnvOk c.nox σ m h ds st := ⟨x.step, x.slots, x.amb, x.own, x.pin⟩
theorem EnvOk.unnox (x : EnvOk c.nox σ m h ds st) : EnvOk c σ m h ds st := ⟨x.step, x.slots, x.amb, x.own, x.pin⟩
/-- a value is bound -/
theorem EnvOk.bind {A : Type} {t : Ty A} {a : A} {v : V} (x : EnvOk c σ m h ds st) (i : Nat) (r : t.rep a v m) : EnvOk c (σ.set i (some v)) m h (ds.set i (.val t a)) st := by
  obtain ⟨fps, sl, dj, fr⟩ := x.slots
  refine ⟨x.step, ⟨fps.set i [], sl.set (d := .val t a) ⟨rfl, v, rfl, r⟩, dj.set fun gp hg => .inl fun p _ z => absurd z (by simp), fun fp hf p hp => ?_⟩, x.amb, x.own, x.pin⟩
  rcases List.mem_or_eq_of_mem_set hf with z | z
  · exact fr fp z p hp
  · subst z; exact absurd hp (by simp)
/-- an owned object is bound -/
theorem EnvOk.bindO {A : Type} {o : OTy A} {a : A} {v : V} {fp : List Addr} (x : EnvOk c σ m h ds st) (i : Nat) (r : o.rep a v fp h m) (nm : ∀ p ∈ fp, m p = none) (na : ∀ p ∈ fp, p ∉ c.afp) (n0 : ∀ p ∈ fp, c.H0 p = none)
    (nf : ∀ fps, Slots m h σ fps ds → ∀ gp ∈ fps, ∀ p ∈ gp, p ∉ fp) : EnvOk c (σ.set i (some v)) m h (ds.set i (.own o a)) st := by
  obtain ⟨fps, sl, dj, fr⟩ := x.slots
  refine ⟨x.step, ⟨fps.set i fp, sl.set (d := .own o a) ⟨v, rfl, r, nm⟩, dj.set fun gp hg => .inl (nf fps sl gp hg), fun gp hg p hp => ?_⟩, x.amb, x.own, x.pin⟩
  rcases List.mem_or_eq_of_mem_set hg with z | z
  · exact fr gp z p hp
  · subst z; exact ⟨na p hp, n0 p hp⟩
end

section
variable {T : Type} {c : Ctx T} {σ : L2.St} {m h m' h' : Hp} {ds : List Desc} {st st' : T}
theorem EnvOk.pinned {q : Hp → Prop} {hq : ∀ {m n : Hp}, Sub m n → q m → q n} (x : EnvOk c σ m h ds st) (y : q m) : EnvOk (c.pinned q hq) σ m h ds st := ⟨x.step, x.slots, x.amb, x.own, ⟨x.pin, y⟩⟩
theorem EnvOk.unpin {q : Hp → Prop} {hq : ∀ {m n : Hp}, Sub m n → q m → q n} (x : EnvOk (c.pinned q hq) σ m h ds st) : EnvOk c σ m h ds st := ⟨x.step, x.slots, x.amb, x.own, x.pin.1⟩
/-- a slot is emptied, or forgotten -/
theorem EnvOk.clear (x : EnvOk c σ m h ds st) (i : Nat) (s : Option V) : EnvOk c (σ.set i s) m h (ds.set i .any) st := by
  obtain ⟨fps, sl, dj, fr⟩ := x.slots
  refine ⟨x.step, ⟨fps.set i [], sl.set (d := .any) rfl, dj.set fun gp hg => .inl fun p _ z => absurd z (by simp), fun fp hf p hp => ?_⟩, x.amb, x.own, x.pin⟩
  rcases List.mem_or_eq_of_mem_set hf with z | z
  · exact fr fp z p hp
  · subst z; exact absurd hp (by simp)
/-- weaker descriptions -/
inductive Weak : List Desc → List Desc → Prop where
  | nil : Weak [] []
  | same {d : Desc} {ds es : List Desc} : Weak ds es → Weak (d :: ds) (d :: es)
  | any {d : Desc} {ds es : List Desc} : Weak ds es → Weak (d :: ds) (.any :: es)
theorem Weak.refl : ∀ ds : List Desc, Weak ds ds
  | [] => .nil
  | _ :: ds => .same (Weak.refl ds)
theorem Slots.weak {es : List Desc} (w : Weak ds es) : ∀ {σ : L2.St} {fps : List (List Addr)}, Slots m h σ fps ds → ∃ gps : List (List Addr), Slots m h σ gps es ∧ gps.length = fps.length ∧ ∀ (i : Nat) (gp : List Addr), gps[i]? = some gp → gp = [] ∨ fps[i]? = some gp := by
  induction w with
  | nil => intro σ fps sl; cases sl; exact ⟨[], .nil, rfl, fun i gp e => by simp at e⟩
  | same _ ih =>
    intro σ fps sl
    cases sl with
    | cons a t =>
      obtain ⟨gps, q, hl, hg⟩ := ih t
      refine ⟨_ :: gps, .cons a q, by simp [hl], fun i gp e => ?_⟩
      cases i with
      | zero => exact .inr e
      | succ i => exact hg i gp (by simpa using e)
  | any _ ih =>
    intro σ fps sl
    cases sl with
    | cons a t =>
      obtain ⟨gps, q, hl, hg⟩ := ih t
      refine ⟨[] :: gps, .cons rfl q, by simp [hl], fun i gp e => ?_⟩
      cases i with
      | zero => exact .inl (by simpa using e.symm)
      | succ i => exact hg i gp (by simpa using e)
theorem EnvOk.weak {es : List Desc} (x : EnvOk c σ m h ds st) (w : Weak ds es) : EnvOk c σ m h es st := by
  obtain ⟨fps, sl, dj, fr⟩ := x.slots
  obtain ⟨gps, q, hl, hg⟩ := sl.weak w
  refine ⟨x.step, ⟨gps, q, ?_, fun gp hgp p hp => ?_⟩, x.amb, x.own, x.pin⟩
  · unfold Disj at dj ⊢
    rw [List.pairwise_iff_getElem] at dj ⊢
    intro i j hi hj hij p hp hp2
    rcases hg i _ (List.getElem?_eq_getElem hi) with z | z
    · rw [z] at hp; exact absurd hp (by simp)
    rcases hg j _ (List.getElem?_eq_getElem hj) with y | y
    · rw [y] at hp2; exact absurd hp2 (by simp)
    have hi' : i < fps.length := by omega
    have hj' : j < fps.length := by omega
    rw [List.getElem?_eq_getElem hi'] at z
    rw [List.getElem?_eq_getElem hj'] at y
    have z' := Option.some.inj z
    have y' := Option.some.inj y
    rw [← z'] at hp
    rw [← y'] at hp2
    exact dj i j hi' hj' hij p hp hp2
  · obtain ⟨i, hi, rfl⟩ := List.mem_iff_getElem.mp hgp
    rcases hg i _ (List.getElem?_eq_getElem hi) with z | z
    · rw [z] at hp; exact absurd hp (by simp)
    · exact fr _ (List.mem_of_getElem? z) p hp
/-- what is owned at slot i stays from now on -/
theorem EnvOk.frz {A : Type} {o : OTy A} {t : Ty A} {a : A} {i : Nat} (x : EnvOk c σ m h ds st) (hd : ds[i]? = some (.own o a))
    (hf : ∀ (v : V) (fp : List Addr), o.rep a v fp h m → Sub m h → (∀ p ∈ fp, m p = none) → ∃ m', Sub m m' ∧ Sub m' h ∧ (∀ q, q ∉ fp → m' q = m q) ∧ t.rep a v m') :
    ∃ m', Sub m m' ∧ EnvOk c σ m' h (ds.set i (.val t a)) st := by
  obtain ⟨fps, sl, dj, fr⟩ := x.slots
  obtain ⟨s, fp, e1, e2, v, rfl, r, n⟩ := sl.get hd
  obtain ⟨m', a1, a2, a3, q⟩ := hf v fp r x.mh n
  have hfp := List.mem_of_getElem? e2
  have ow : ∀ y, m y = none → y ∉ fp → m' y = none := fun y e z => by rw [a3 y z]; exact e
  have hne : ∀ j gp, j ≠ i → fps[j]? = some gp → ∀ p ∈ gp, p ∉ fp := fun j gp hj e p hp hq => by
    unfold Disj at dj
    rw [List.pairwise_iff_getElem] at dj
    obtain ⟨hj', ej⟩ := List.getElem?_eq_some_iff.mp e
    obtain ⟨hi', ei⟩ := List.getElem?_eq_some_iff.mp e2
    rcases Nat.lt_or_gt_of_ne hj with z | z
    · exact dj j i hj' hi' z p (by rw [ej]; exact hp) (by rw [ei]; exact hq)
    · exact dj i j hi' hj' z p (by rw [ei]; exact hq) (by rw [ej]; exact hp)
  have key : ∀ {σ : L2.St} {fps : List (List Addr)} {ds : List Desc}, Slots m h σ fps ds → ∀ i, σ[i]? = some (some v) → (∀ j gp, j ≠ i → fps[j]? = some gp → ∀ p ∈ gp, p ∉ fp) → Slots m' h σ (fps.set i []) (ds.set i (.val t a)) := by
    intro σ fps ds sl
    induction sl with
    | nil => intro i _ _; exact .nil
    | cons b sl' ih =>
      intro i hi hn
      cases i with
      | zero =>
        refine .cons ⟨rfl, v, by simpa using hi, q⟩ (sl'.go (fun _ _ _ _ => rfl) a1 fun gp hg p hp e => ?_)
        obtain ⟨j, hj⟩ := List.mem_iff_getElem?.mp hg
        exact ow p e (hn (j + 1) gp (by omega) (by simpa using hj) p hp)
      | succ i =>
        refine .cons (b.go (fun _ _ => rfl) a1 fun p hp e => ow p e (hn 0 _ (by omega) rfl p hp)) (ih i (by simpa using hi) fun j gp hj e => hn (j + 1) gp (by omega) (by simpa using e))
  refine ⟨m', a1, ⟨⟨x.step.mm.trans a1, a2, x.step.hh, fun y e nn => ow y (x.step.ow y e nn) fun z => nn (fr fp hfp y z).2, x.step.dm⟩, ⟨fps.set i [], key sl i e1 hne, dj.set fun gp hg => .inl fun p _ z => absurd z (by simp), fun gp hg p hp => ?_⟩,
    c.ambF (fun _ _ => rfl) a1 x.amb, fun p hp => ow p (x.own p hp) fun z => (fr fp hfp p z).1 hp, c.pinM a1 x.pin⟩⟩
  rcases List.mem_or_eq_of_mem_set hg with z | z
  · exact fr gp z p hp
  · subst z; exact absurd hp (by simp)
/-- what is owned at slot i is written -/
theorem EnvOk.put {A : Type} {o : OTy A} {a b : A} {i : Nat} {p : Addr} {u : HO} (x : EnvOk c σ m h ds st) (hd : ds[i]? = some (.own o a))
    (hr : ∀ v fp, σ[i]? = some (some v) → o.rep a v fp h m → p ∈ fp ∧ o.rep b v fp (upd h p u) m) : EnvOk c σ m (upd h p u) (ds.set i (.own o b)) st := by
  obtain ⟨fps, sl, dj, fr⟩ := x.slots
  obtain ⟨s, fp, e1, e2, v, rfl, r, n⟩ := sl.get hd
  obtain ⟨hp, r'⟩ := hr v fp e1 r
  have hfp := List.mem_of_getElem? e2
  have hne : ∀ j gp, j ≠ i → fps[j]? = some gp → p ∉ gp := fun j gp hj e hq => by
    unfold Disj at dj
    rw [List.pairwise_iff_getElem] at dj
    obtain ⟨hj', ej⟩ := List.getElem?_eq_some_iff.mp e
    obtain ⟨hi', ei⟩ := List.getElem?_eq_some_iff.mp e2
    rcases Nat.lt_or_gt_of_ne hj with z | z
    · exact dj j i hj' hi' z p (by rw [ej]; exact hq) (by rw [ei]; exact hp)
    · exact dj i j hi' hj' z p (by rw [ei]; exact hp) (by rw [ej]; exact hq)
  have key : ∀ {σ : L2.St} {fps : List (List Addr)} {ds : List Desc}, Slots m h σ fps ds → ∀ i, σ[i]? = some (some v) → fps[i]? = some fp → (∀ j gp, j ≠ i → fps[j]? = some gp → p ∉ gp) → Slots m (upd h p u) σ fps (ds.set i (.own o b)) := by
    intro σ fps ds sl
    induction sl with
    | nil => intro i _ _ _; exact .nil
    | cons c1 sl' ih =>
      intro i hi hf hn
      cases i with
      | zero =>
        obtain rfl : _ = fp := by simpa using hf
        refine .cons ⟨v, by simpa using hi, r', n⟩ (sl'.go (fun gp hg y hy => ?_) (.refl m) fun _ _ _ _ e => e)
        obtain ⟨j, hj⟩ := List.mem_iff_getElem?.mp hg
        exact upd_ne fun z => hn (j + 1) gp (by omega) (by simpa using hj) (by rw [← z]; exact hy)
      | succ i =>
        exact .cons (c1.go (fun y hy => upd_ne fun z => hn 0 _ (by omega) rfl (by rw [← z]; exact hy)) (.refl m) fun _ _ e => e) (ih i (by simpa using hi) (by simpa using hf) fun j gp hj e => hn (j + 1) gp (by omega) (by simpa using e))
  have hp0 := (fr fp hfp p hp).2
  have hpa := (fr fp hfp p hp).1
  refine ⟨⟨x.step.mm, x.step.mh.wr (n p hp), fun y o' hy e => ?_, x.step.ow, fun y e => ?_⟩, ⟨fps, key sl i e1 e2 hne, dj, fr⟩, c.ambF (fun y hy => upd_ne fun z => hpa (by rw [← z]; exact hy)) (.refl m) x.amb, x.own, x.pin⟩
  · rw [upd_ne (ne_of_none e hp0)]; exact x.step.hh y o' hy e
  · by_cases z : y = p
    · subst z; rw [upd_same]; exact fun q => nomatch q
    · rw [upd_ne z]; exact x.step.dm y e
end

/-! ### the readings -/
section
variable {T A B : Type}
/-- an expression: x is what it computes, t how the value stands for it -/
def TX (c : Ctx T) (ds : List Desc) (t : Ty A) (x : MM T A) : TE := fun σ H Q => ∃ m st, EnvOk c σ m H ds st ∧
  Post (x st) (fun a st' => ∀ v m' H', WStep c.afp m H m' H' → c.amb st' H' m' → t.rep a v m' → Q v H') c.err
/-- an expression that makes a new object, which is owned -/
def TXO (c : Ctx T) (ds : List Desc) (o : OTy A) (x : MM T A) : TE := fun σ H Q => ∃ m st, EnvOk c σ m H ds st ∧
  Post (x st) (fun a st' => ∀ v fp m' H', WStep c.afp m H m' H' → c.amb st' H' m' → (∀ p ∈ fp, H p = none ∧ m' p = none) → o.rep a v fp H' m' → Q v H') c.err
/-- a test -/
def TTX (c : Ctx T) (ds : List Desc) (x : MM T Bool) : TT := fun σ H Q => ∃ m st, EnvOk c σ m H ds st ∧
  Post (x st) (fun a st' => ∀ m' H', WStep c.afp m H m' H' → c.amb st' H' m' → Q a H') c.err
/-- arguments -/
def TAX (c : Ctx T) (ds : List Desc) (l : LTy A) (x : MM T A) : TA := fun σ H Q => ∃ m st, EnvOk c σ m H ds st ∧
  Post (x st) (fun a st' => ∀ vs m' H', WStep c.afp m H m' H' → c.amb st' H' m' → l.rep a vs m' → Q vs H') c.err
/-- a block: what it computes, and what each of its outcomes wants of the ends -/
def BX (c : Ctx T) (ds : List Desc) (x : MM T A) (P : A → T → Ends → Prop) : TS := fun D σ H => ∃ m st, EnvOk c σ m H ds st ∧ Post (x st) (fun a st' => P a st' D) c.err
/-- the block falls through, in the state that dsN tells -/
def EN (c : Ctx T) (dsN : A → List Desc) : A → T → Ends → Prop := fun a st D => ∀ σ m H, EnvOk c σ m H (dsN a) st → D.nx σ H
/-- it returns -/
def ER (c : Ctx T) (t : Ty A) : A → T → Ends → Prop := fun a st D => ∀ v m H, WStep c.S c.m0 c.H0 m H → c.amb st H m → t.rep a v m → D.rt v H
/-- it returns, or falls through -/
def ENR (c : Ctx T) (t : Ty A) (dsN : B → List Desc) : Sum A B → T → Ends → Prop := fun r st D => match r with
  | .inl a => ER c t a st D
  | .inr b => EN c dsN b st D
theorem PE.imp {X : Cx} {e : Expr} {t t' : TE} (h : PE X e t) (i : ∀ σ H Q, t' σ H Q → t σ H Q) : PE X e t' := ⟨fun pins s σ H Q I q => h.run pins s σ H Q I (i σ H Q q)⟩
theorem PT.imp {X : Cx} {e : Expr} {t t' : TT} (h : PT X e t) (i : ∀ σ H Q, t' σ H Q → t σ H Q) : PT X e t' := ⟨fun pins s σ H Q I q => h.run pins s σ H Q I (i σ H Q q)⟩
theorem PA.imp {X : Cx} {e : List Expr} {t t' : TA} (h : PA X e t) (i : ∀ σ H Q, t' σ H Q → t σ H Q) : PA X e t' := ⟨fun pos pins s σ H Q I q => h.run pos pins s σ H Q I (i σ H Q q)⟩
theorem PS.imp {X : Cx} {e : Stmt} {t t' : TS} (h : PS X e t) (i : ∀ D σ H, t' D σ H → t D σ H) : PS X e t' := ⟨fun pins s σ H D I q => h.run pins s σ H D I (i D σ H q)⟩
theorem PSs.imp {X : Cx} {e : List Stmt} {t t' : TS} (h : PSs X e t) (i : ∀ D σ H, t' D σ H → t D σ H) : PSs X e t' := ⟨fun pins s σ H D I q => h.run pins s σ H D I (i D σ H q)⟩
/-- one of many readings -/
theorem PE.any {X : Cx} {e : Expr} {I : Type} {t : I → TE} (h : ∀ i, PE X e (t i)) : PE X e (fun σ H Q => ∃ i, t i σ H Q) := ⟨fun pins s σ H Q J ⟨i, q⟩ => (h i).run pins s σ H Q J q⟩
theorem PT.any {X : Cx} {e : Expr} {I : Type} {t : I → TT} (h : ∀ i, PT X e (t i)) : PT X e (fun σ H Q => ∃ i, t i σ H Q) := ⟨fun pins s σ H Q J ⟨i, q⟩ => (h i).run pins s σ H Q J q⟩
theorem PSs.any {X : Cx} {e : List Stmt} {I : Type} {t : I → TS} (h : ∀ i, PSs X e (t i)) : PSs X e (fun D σ H => ∃ i, t i D σ H) := ⟨fun pins s σ H D J ⟨i, q⟩ => (h i).run pins s σ H D J q⟩
end
end WL

/-! WLB: expressions. -/
namespace WL
open PySem PySem.Spec PyProof.Rows L2

/-! ### the types of what stays -/
def tInt : Ty Int := ⟨fun i v _ => v = .int i, fun _ r => r⟩
def tBool : Ty Bool := ⟨fun b v _ => v = .bl b, fun _ r => r⟩
def tStr : Ty Str := ⟨fun x v _ => v = .str x, fun _ r => r⟩
def tNon : Ty Unit := ⟨fun _ v _ => v = .non, fun _ r => r⟩
/-- this very object -/
def tIs (p : Addr) : Ty Unit := ⟨fun _ v _ => v = .ref p, fun _ r => r⟩
def repO {A : Type} (t : Ty A) (v : V) (m : Hp) : Option A → Prop
  | none => v = .non
  | some a => t.rep a v m
def tOpt {A : Type} (t : Ty A) : Ty (Option A) := ⟨fun o v m => repO t v m o, fun {o} _ _ _ h r => by
  cases o with
  | none => exact r
  | some a => exact t.mono h r⟩
inductive Reps {A : Type} (t : Ty A) (m : Hp) : List A → List V → Prop where
  | nil : Reps t m [] []
  | cons {a : A} {v : V} {as : List A} {vs : List V} : t.rep a v m → Reps t m as vs → Reps t m (a :: as) (v :: vs)
section
variable {A : Type} {t : Ty A} {m n : Hp} {as bs : List A} {vs ws : List V}
theorem Reps.mono (h : Sub m n) (r : Reps t m as vs) : Reps t n as vs := by
  induction r with
  | nil => exact .nil
  | cons a _ ih => exact .cons (t.mono h a) ih
theorem Reps.length (r : Reps t m as vs) : as.length = vs.length := by
  induction r with
  | nil => rfl
  | cons _ _ ih => simp [ih]
theorem Reps.get (r : Reps t m as vs) : ∀ {i : Nat} {a : A}, as[i]? = some a → ∃ v, vs[i]? = some v ∧ t.rep a v m := by
  induction r with
  | nil => intro i a e; simp at e
  | cons x _ ih =>
    intro i a e
    cases i with
    | zero => simp at e; subst e; exact ⟨_, rfl, x⟩
    | succ i => obtain ⟨v, e1, q⟩ := ih (i := i) (a := a) (by simpa using e); exact ⟨v, by simpa using e1, q⟩
theorem Reps.append (r : Reps t m as vs) (q : Reps t m bs ws) : Reps t m (as ++ bs) (vs ++ ws) := by
  induction r with
  | nil => exact q
  | cons x _ ih => exact .cons x ih
theorem Reps.set {a : A} {v : V} (x : t.rep a v m) (r : Reps t m as vs) : ∀ (i : Nat), Reps t m (as.set i a) (vs.set i v) := by
  induction r with
  | nil => intro i; exact .nil
  | cons y s ih =>
    intro i
    cases i with
    | zero => exact .cons x s
    | succ i => exact .cons y (ih i)
theorem Reps.take (r : Reps t m as vs) : ∀ (i : Nat), Reps t m (as.take i) (vs.take i) := by
  induction r with
  | nil => intro i; simp; exact .nil
  | cons y s ih =>
    intro i
    cases i with
    | zero => exact .nil
    | succ i => exact .cons y (ih i)
theorem Reps.drop (r : Reps t m as vs) : ∀ (i : Nat), Reps t m (as.drop i) (vs.drop i) := by
  induction r with
  | nil => intro i; simp; exact .nil
  | cons y s ih =>
    intro i
    cases i with
    | zero => exact .cons y s
    | succ i => exact ih i
theorem Reps.dropLast (r : Reps t m as vs) : Reps t m as.dropLast vs.dropLast := by
  rw [List.dropLast_eq_take, List.dropLast_eq_take, r.length]
  exact r.take _
theorem Reps.reverse (r : Reps t m as vs) : Reps t m as.reverse vs.reverse := by
  induction r with
  | nil => exact .nil
  | cons x _ ih => rw [List.reverse_cons, List.reverse_cons]; exact ih.append (.cons x .nil)
theorem Reps.repl {a : A} {v : V} (x : t.rep a v m) : ∀ n : Nat, Reps t m (List.replicate n a) (List.replicate n v)
  | 0 => .nil
  | n + 1 => .cons x (Reps.repl x n)
theorem Reps.ints {m : Hp} {as : List Int} {vs : List V} (r : Reps tInt m as vs) : vs = as.map V.int := by
  induction r with
  | nil => rfl
  | cons x _ ih => rw [ih, List.map_cons]; have : _ = _ := x; rw [this]
theorem Reps.ofInts {m : Hp} : ∀ (as : List Int), Reps tInt m as (as.map V.int)
  | [] => .nil
  | a :: as => .cons rfl (Reps.ofInts as)
theorem Reps.bools {m : Hp} {as : List Bool} {vs : List V} (r : Reps tBool m as vs) : vs = as.map V.bl := by
  induction r with
  | nil => rfl
  | cons x _ ih => rw [ih, List.map_cons]; have : _ = _ := x; rw [this]
theorem Reps.strs {m : Hp} {as : List Str} {vs : List V} (r : Reps tStr m as vs) : vs = as.map V.str := by
  induction r with
  | nil => rfl
  | cons x _ ih => rw [ih, List.map_cons]; have : _ = _ := x; rw [this]
end
/-- a list that stays -/
def tList {A : Type} (t : Ty A) : Ty (List A) := ⟨fun as v m => ∃ p vs, v = .ref p ∧ m p = some (.lst vs) ∧ Reps t m as vs, fun h ⟨p, vs, e, k, r⟩ => ⟨p, vs, e, h _ _ k, r.mono h⟩⟩
/-- a list that is read alone: a list that stays, one of the module, the script -/
def tSeq {A : Type} (K : PySem.W.Frag) (t : Ty A) : Ty (List A) := ⟨fun as v m => ∃ p vs, v = .ref p ∧ SqL K m p vs ∧ Reps t m as vs, fun h ⟨p, vs, e, k, r⟩ => ⟨p, vs, e, h.sqL k, r.mono h⟩⟩
/-- a tuple of any length -/
def tVT {A : Type} (K : PySem.W.Frag) (t : Ty A) : Ty (List A) := ⟨fun as v m => ∃ p vs, v = .ref p ∧ SqT K m p vs ∧ Reps t m as vs, fun h ⟨p, vs, e, k, r⟩ => ⟨p, vs, e, h.sqT k, r.mono h⟩⟩
/-! argument lists -/
def l0 : LTy Unit := ⟨fun _ vs _ => vs = [], fun _ r => r⟩
def l1 {A : Type} (t : Ty A) : LTy A := ⟨fun a vs m => ∃ v, vs = [v] ∧ t.rep a v m, fun h ⟨v, e, r⟩ => ⟨v, e, t.mono h r⟩⟩
def lc {A B : Type} (t : Ty A) (l : LTy B) : LTy (A × B) := ⟨fun a vs m => ∃ v ws, vs = v :: ws ∧ t.rep a.1 v m ∧ l.rep a.2 ws m, fun h ⟨v, ws, e, r, q⟩ => ⟨v, ws, e, t.mono h r, l.mono h q⟩⟩
/-- a tuple of so many places -/
def tTup {A : Type} (K : PySem.W.Frag) (l : LTy A) : Ty A := ⟨fun a v m => ∃ p vs, v = .ref p ∧ SqT K m p vs ∧ l.rep a vs m, fun h ⟨p, vs, e, k, r⟩ => ⟨p, vs, e, h.sqT k, l.mono h r⟩⟩
/-! what is owned -/
def oList {A : Type} (t : Ty A) : OTy (List A) where
  rep := fun as v fp h m => ∃ p vs, v = .ref p ∧ fp = [p] ∧ h p = some (.lst vs) ∧ Reps t m as vs
  frame := fun hk hm ⟨p, vs, e, ef, k, r⟩ => ⟨p, vs, e, ef, by rw [hk p (by rw [ef]; simp)]; exact k, r.mono hm⟩
  dom := fun ⟨p, vs, e, ef, k, r⟩ q hq => by rw [ef] at hq; obtain rfl := List.mem_singleton.mp hq; rw [k]; exact fun z => nomatch z
/-- a list of so many places -/
def oRec {A : Type} (l : LTy A) : OTy A where
  rep := fun a v fp h m => ∃ p vs, v = .ref p ∧ fp = [p] ∧ h p = some (.lst vs) ∧ l.rep a vs m
  frame := fun hk hm ⟨p, vs, e, ef, k, r⟩ => ⟨p, vs, e, ef, by rw [hk p (by rw [ef]; simp)]; exact k, l.mono hm r⟩
  dom := fun ⟨p, vs, e, ef, k, r⟩ q hq => by rw [ef] at hq; obtain rfl := List.mem_singleton.mp hq; rw [k]; exact fun z => nomatch z
/-- what is owned, handed to the facts that stay -/
def Freezes {A : Type} (o : OTy A) (t : Ty A) : Prop := ∀ (a : A) (v : V) (fp : List Addr) (h m : Hp), o.rep a v fp h m → Sub m h → (∀ p ∈ fp, m p = none) → ∃ m', Sub m m' ∧ Sub m' h ∧ (∀ q, q ∉ fp → m' q = m q) ∧ t.rep a v m'
theorem frz_put {m h : Hp} {p : Addr} {u : HO} (hm : Sub m h) (e : h p = some u) (n : m p = none) : Sub m (upd m p u) ∧ Sub (upd m p u) h ∧ ∀ q, q ∉ [p] → upd m p u q = m q := by
  refine ⟨Sub.new (.refl m) n, fun a o q => ?_, fun q hq => upd_ne (by simpa using hq)⟩
  by_cases z : a = p
  · subst z; rw [upd_same] at q; cases q; exact e
  · rw [upd_ne z] at q; exact hm a o q
theorem frz_list {A : Type} {t : Ty A} : Freezes (oList t) (tList t) := fun as v fp h m ⟨p, vs, e, ef, k, r⟩ hm n => by
  subst ef
  obtain ⟨a1, a2, a3⟩ := frz_put hm k (n p (by simp))
  exact ⟨_, a1, a2, a3, p, vs, e, upd_same, r.mono a1⟩

/-! ### what computes -/
section
variable {T A B C G : Type}
def e1 (f : A → Option B) (x : MM T A) : MM T B := bnd x fun a => lft (f a)
def e2 (f : A → B → Option C) (x : MM T A) (y : MM T B) : MM T C := bnd x fun a => bnd y fun b => lft (f a b)
def e3 (f : A → B → C → Option G) (x : MM T A) (y : MM T B) (z : MM T C) : MM T G := bnd x fun a => bnd y fun b => bnd z fun c => lft (f a b c)
def eAnd (x y : MM T Bool) : MM T Bool := bnd x fun a => if a = true then y else ret false
def eOr (x y : MM T Bool) : MM T Bool := bnd x fun a => if a = true then ret true else y
def eNot (x : MM T Bool) : MM T Bool := bnd x fun a => ret (!a)
def eIf (x : MM T Bool) (y z : MM T A) : MM T A := bnd x fun a => if a = true then y else z
/-- arguments in a row -/
def eArg (x : MM T A) (y : MM T B) : MM T (A × B) := bnd x fun a => bnd y fun b => ret (a, b)
/-- a def without state is called -/
def eCall (f : A → MM Unit B) (x : MM T A) : MM T B := bnd x fun a => up (f a)
/-- a def with the state is called -/
def eCallS (f : A → MM T B) (x : MM T A) : MM T B := bnd x f
end
/-- a two-place rule of the hand layer, by types -/
def Op2 {A B C : Type} (r : R2) (t1 : Ty A) (t2 : Ty B) (t3 : Ty C) (f : A → B → Option C) : Prop := ∀ (a : A) (b : B) (g : C) (v1 v2 : V) (m H : Hp) (Q : VK), t1.rep a v1 m → t2.rep b v2 m → Sub m H → f a b = some g →
  (∀ v m' H', WStep [] m H m' H' → t3.rep g v m' → Q v H') → r v1 v2 H Q
def Op1 {A C : Type} (r : V → Hp → VK → Prop) (t1 : Ty A) (t3 : Ty C) (f : A → Option C) : Prop := ∀ (a : A) (g : C) (v1 : V) (m H : Hp) (Q : VK), t1.rep a v1 m → Sub m H → f a = some g →
  (∀ v m' H', WStep [] m H m' H' → t3.rep g v m' → Q v H') → r v1 H Q
def OpL {A C : Type} (r : List V → Hp → VK → Prop) (l : LTy A) (t3 : Ty C) (f : A → Option C) : Prop := ∀ (a : A) (g : C) (vs : List V) (m H : Hp) (Q : VK), l.rep a vs m → Sub m H → f a = some g →
  (∀ v m' H', WStep [] m H m' H' → t3.rep g v m' → Q v H') → r vs H Q
section
variable {T A B C : Type} {c : Ctx T} {ds : List Desc} {t1 : Ty A} {t2 : Ty B} {t3 : Ty C} {σ : L2.St} {H : Hp} {Q : VK}
theorem rd_op2 {r : R2} {f : A → B → Option C} {xa : MM T A} {xb : MM T B} (hs : Op2 r t1 t2 t3 f) (h : TX c ds t3 (e2 f xa xb) σ H Q) : tOp r (TX c ds t1 xa) (TX c ds t2 xb) σ H Q := by
  obtain ⟨m, st, env, p⟩ := h
  unfold e2 at p
  refine ⟨m, st, env, (Post.bnd.mp p).imp fun a s1 p v1 m1 H1 w1 a1 r1 => ?_⟩
  refine ⟨m1, s1, env.go w1 a1, (Post.bnd.mp p).imp fun b s2 p v2 m2 H2 w2 a2 r2 => ?_⟩
  obtain ⟨g, e, p⟩ := Post.lft.mp p
  exact hs a b g v1 v2 m2 H2 Q (t1.mono w2.mm r1) r2 w2.mh e fun v m' H' w3 r3 => p v m' H' ((w1.trans w2).trans w3.wide) (EnvOk.ambGrow a2 w3) r3
theorem rd_op1 {r : V → Hp → VK → Prop} {f : A → Option C} {xa : MM T A} (hs : Op1 r t1 t3 f) (h : TX c ds t3 (e1 f xa) σ H Q) : tUn r (TX c ds t1 xa) σ H Q := by
  obtain ⟨m, st, env, p⟩ := h
  unfold e1 at p
  refine ⟨m, st, env, (Post.bnd.mp p).imp fun a s1 p v1 m1 H1 w1 a1 r1 => ?_⟩
  obtain ⟨g, e, p⟩ := Post.lft.mp p
  exact hs a g v1 m1 H1 Q r1 w1.mh e fun v m' H' w3 r3 => p v m' H' (w1.trans w3.wide) (EnvOk.ambGrow a1 w3) r3
theorem rd_opL {r : List V → Hp → VK → Prop} {l : LTy A} {f : A → Option C} {xa : MM T A} (hs : OpL r l t3 f) (h : TX c ds t3 (e1 f xa) σ H Q) : tCB r (TAX c ds l xa) σ H Q := by
  obtain ⟨m, st, env, p⟩ := h
  unfold e1 at p
  refine ⟨m, st, env, (Post.bnd.mp p).imp fun a s1 p vs m1 H1 w1 a1 r1 => ?_⟩
  obtain ⟨g, e, p⟩ := Post.lft.mp p
  exact hs a g vs m1 H1 Q r1 w1.mh e fun v m' H' w3 r3 => p v m' H' (w1.trans w3.wide) (EnvOk.ambGrow a1 w3) r3
theorem rd_c {v : V} {a : A} {t : Ty A} (hv : ∀ m, t.rep a v m) (h : TX c ds t (ret a) σ H Q) : tC v σ H Q := by
  obtain ⟨m, st, env, p⟩ := h
  exact p v m H (.refl env.mh) env.amb (hv m)
theorem rd_var {i : Nat} {a : A} {t : Ty A} (hd : ds[i]? = some (.val t a)) (h : TX c ds t (ret a) σ H Q) : tVar i σ H Q := by
  obtain ⟨m, st, env, p⟩ := h
  obtain ⟨fps, sl, _, _⟩ := env.slots
  obtain ⟨s, fp, e1, e2, ok⟩ := sl.get hd
  obtain ⟨_, v, rfl, r⟩ := ok
  exact ⟨v, e1, p v m H (.refl env.mh) env.amb r⟩
end

section
variable {X : Cx} {T A B C : Type} {c : Ctx T} {ds : List Desc} {t1 : Ty A} {t2 : Ty B} {t3 : Ty C} {t : Ty A} {pos : Pos} {a b e : Expr}
theorem x_var (i : Nat) {x : Str} {v : A} (hd : ds[i]? = some (.val t v) := by rfl) (hN : X.N[i]? = some x := by rfl) (hv : Vis X.env.scope x := by first | exact Or.inl rfl | exact Or.inr (Or.inl rfl) | exact Or.inr (Or.inr rfl))
    (h1 : (x == ("__debug__" : Str)) = false := by decide) (h2 : (x == ("__classdict__" : Str)) = false := by decide) : PE X (.Name x pos) (TX c ds t (ret v)) := PE.imp (pe_var hN hv h1 h2) fun _ _ _ h => rd_var hd h
theorem x_int {i : Int} {j} : PE X (.Constant (.int i) j pos) (TX c ds tInt (ret i)) := PE.imp pe_int fun _ _ _ h => rd_c (fun _ => rfl) h
theorem x_bool {i : Bool} {j} : PE X (.Constant (.bool i) j pos) (TX c ds tBool (ret i)) := PE.imp pe_bl fun _ _ _ h => rd_c (fun _ => rfl) h
theorem x_str {i : Str} {j} : PE X (.Constant (.str i) j pos) (TX c ds tStr (ret i)) := PE.imp pe_str fun _ _ _ h => rd_c (fun _ => rfl) h
theorem x_non {j} : PE X (.Constant .none j pos) (TX c ds tNon (ret ())) := PE.imp pe_non fun _ _ _ h => rd_c (fun _ => rfl) h
theorem x_nonO {t : Ty A} {j} : PE X (.Constant .none j pos) (TX c ds (tOpt t) (ret none)) := PE.imp pe_non fun _ _ _ h => rd_c (fun _ => rfl) h
/-- an a is an a or None -/
theorem x_some {x : MM T A} (h : PE X e (TX c ds t x)) : PE X e (TX c ds (tOpt t) (e1 (fun a => some (some a)) x)) := PE.imp h fun σ H Q ⟨m, st, env, p⟩ => by
  refine ⟨m, st, env, (Post.bnd.mp p).imp fun a s1 p v1 m1 H1 w1 a1 r1 => ?_⟩
  exact p v1 m1 H1 w1 a1 r1
/-- a constant of the module -/
theorem x_glob {x : Str} {v : V} {u : Value} {k : A} (hm : X.mg x = some u) (r : RelV v u) (hv : ∀ m, t.rep k v m) (hg : Gl X x := by rfl) (hd : (x == ("__debug__" : Str)) = false := by decide) : PE X (.Name x pos) (TX c ds t (ret k)) :=
  PE.imp (pe_glob hg hm r hd) fun _ _ _ h => rd_c hv h
theorem x_bin {op : Operator} {r : R2} {f : A → B → Option C} {xa : MM T A} {xb : MM T B} (ho : OpR X (binaryOp op) r) (hs : Op2 r t1 t2 t3 f) (ha : PE X a (TX c ds t1 xa)) (hb : PE X b (TX c ds t2 xb)) :
    PE X (.BinOp a op b pos) (TX c ds t3 (e2 f xa xb)) := PE.imp (pe_op ho ha hb) fun _ _ _ h => rd_op2 hs h
theorem x_cmp {op : CmpOp} {r : R2} {f : A → B → Option C} {xa : MM T A} {xb : MM T B} (ho : OpR X (compareOp op) r) (hs : Op2 r t1 t2 t3 f) (ha : PE X a (TX c ds t1 xa)) (hb : PE X b (TX c ds t2 xb)) (hm : behindInMarks op b = false := by first | exact nomark _ | rfl) :
    PE X (.Compare a [op] [b] pos) (TX c ds t3 (e2 f xa xb)) := PE.imp (pe_cmpR ho ha hb hm) fun _ _ _ h => rd_op2 hs h
theorem x_ix {r : R2} {f : A → B → Option C} {xa : MM T A} {xb : MM T B} (ho : IxR X r) (hs : Op2 r t1 t2 t3 f) (ha : PE X a (TX c ds t1 xa)) (hb : PE X b (TX c ds t2 xb)) (hp : PlainIx b := by exact fun _ _ => rfl) :
    PE X (.Subscript a b pos) (TX c ds t3 (e2 f xa xb)) := PE.imp (pe_ix ho ha hb hp) fun _ _ _ h => rd_op2 hs h
theorem x_un {op : UnaryOp} {r : V → Hp → VK → Prop} {f : A → Option C} {xa : MM T A} (ho : UnR X (unaryOp op) r) (hs : Op1 r t1 t3 f) (ha : PE X a (TX c ds t1 xa)) :
    PE X (.UnaryOp op a pos) (TX c ds t3 (e1 f xa)) := PE.imp (pe_un ho ha) fun _ _ _ h => rd_op1 hs h
/-- a built-in called by its name -/
theorem x_callB {x : Str} {id : String} {r : List V → Hp → VK → Prop} {l : LTy A} {f : A → Option C} {xa : MM T A} {p : Pos} {es : List Expr} (hc : CallR X (.builtin id) r) (hs : OpL r l t3 f) (hm : X.mg x = none) (hv : bootBuiltins x = some (.builtin id))
    (ha : PA X (e :: es) (TAX c ds l xa)) (hg : Gl X x := by rfl) (hn : x ≠ "__name__" := by decide) (hdb : (x == ("__debug__" : Str)) = false := by decide)
    (he : starEach (e :: es) X.env = (false, eval e X.env) :: starEach es X.env := by rfl) (hpl : (backTo pos (starEach es X.env)).any (·.1) = false := by rfl) :
    PE X (.Call (.Name x p) (e :: es) [] pos) (TX c ds t3 (e1 f xa)) := PE.imp (pe_callB hc hg hm hv ha hn hdb he hpl) fun _ _ _ h => rd_opL hs h
theorem x_callTy {x : Str} {id : String} {r : List V → Hp → VK → Prop} {l : LTy A} {f : A → Option C} {xa : MM T A} {p : Pos} {es : List Expr} (hc : CallR X (.type id) r) (hs : OpL r l t3 f) (hm : X.mg x = none) (hv : bootBuiltins x = some (.type id))
    (ha : PA X (e :: es) (TAX c ds l xa)) (hg : Gl X x := by rfl) (hn : x ≠ "__name__" := by decide) (hdb : (x == ("__debug__" : Str)) = false := by decide)
    (he : starEach (e :: es) X.env = (false, eval e X.env) :: starEach es X.env := by rfl) (hpl : (backTo pos (starEach es X.env)).any (·.1) = false := by rfl) :
    PE X (.Call (.Name x p) (e :: es) [] pos) (TX c ds t3 (e1 f xa)) := PE.imp (pe_callTy hc hg hm hv ha hn hdb he hpl) fun _ _ _ h => rd_opL hs h
/-! arguments -/
theorem a_nil : PA X [] (TAX c ds l0 (ret ())) := PA.imp pa_nil fun _ _ _ ⟨m, st, env, p⟩ => p [] m _ (.refl env.mh) env.amb rfl
theorem a_one {xa : MM T A} (ha : PE X e (TX c ds t xa)) (hs : starEach (e :: []) X.env = (false, eval e X.env) :: starEach [] X.env := by rfl) : PA X [e] (TAX c ds (l1 t) xa) :=
  PA.imp (pa_cons ha pa_nil hs) fun σ H Q ⟨m, st, env, p⟩ => ⟨m, st, env, p.imp fun a s1 p v m1 H1 w1 a1 r1 => p [v] m1 H1 w1 a1 ⟨v, rfl, r1⟩⟩
theorem a_cons {es : List Expr} {l : LTy B} {xa : MM T A} {xb : MM T B} (ha : PE X e (TX c ds t xa)) (hb : PA X es (TAX c ds l xb)) (hs : starEach (e :: es) X.env = (false, eval e X.env) :: starEach es X.env := by rfl) : PA X (e :: es) (TAX c ds (lc t l) (eArg xa xb)) :=
  PA.imp (pa_cons ha hb hs) fun σ H Q ⟨m, st, env, p⟩ => by
    unfold eArg at p
    refine ⟨m, st, env, (Post.bnd.mp p).imp fun a s1 p v m1 H1 w1 a1 r1 => ?_⟩
    refine ⟨m1, s1, env.go w1 a1, (Post.bnd.mp p).imp fun b s2 p vs m2 H2 w2 a2 r2 => ?_⟩
    exact p (v :: vs) m2 H2 (w1.trans w2) a2 ⟨v, vs, rfl, t.mono w2.mm r1, r2⟩
/-! displays -/
theorem x_tup {es : List Expr} {l : LTy A} {xa : MM T A} {x1} (h : PA X es (TAX c ds l xa)) (hl : ∀ a vs m, l.rep a vs m → vs.length ≤ 100) : PE X (.Tuple es x1 pos) (TX c ds (tTup X.K l) xa) :=
  PE.imp (pe_tup h) fun σ H Q ⟨m, st, env, p⟩ => ⟨m, st, env, p.imp fun a s1 p vs m1 H1 w1 a1 r1 => ⟨Nat.le_trans (hl a vs m1 r1) (by decide), fun q hq => by
    have w2 : WStep [] m1 H1 (upd m1 q (.tup vs)) (upd H1 q (.tup vs)) := .new w1.mh hq
    exact p (.ref q) _ _ (w1.trans w2.wide) (EnvOk.ambGrow a1 w2) ⟨q, vs, rfl, .of upd_same, l.mono w2.mm r1⟩⟩⟩
/-- several expressions of one type -/
structure LRep {A : Type} (t : Ty A) (l : LTy B) (n : Nat) (f : B → List A) : Prop where
  rep : ∀ b vs m, l.rep b vs m → Reps t m (f b) vs
  len : ∀ b vs m, l.rep b vs m → vs.length = n
theorem lr_nil : LRep t1 l0 0 (fun _ => []) := ⟨fun _ _ _ h => by cases h; exact .nil, fun _ _ _ h => by cases h; rfl⟩
theorem lr_one : LRep t1 (l1 t1) 1 (fun a => [a]) := ⟨fun _ _ _ ⟨v, e, r⟩ => by subst e; exact .cons r .nil, fun _ _ _ ⟨v, e, r⟩ => by subst e; rfl⟩
theorem lr_cons {l : LTy B} {n : Nat} {f : B → List A} (h : LRep t1 l n f) : LRep t1 (lc t1 l) (n + 1) (fun a => a.1 :: f a.2) := ⟨fun _ _ _ ⟨v, ws, e, r, q⟩ => by subst e; exact .cons r (h.rep _ _ _ q), fun _ _ _ ⟨v, ws, e, r, q⟩ => by subst e; rw [List.length_cons, h.len _ _ _ q]⟩
theorem x_lst {es : List Expr} {l : LTy B} {xa : MM T B} {f : B → List A} {n : Nat} (h : PA X es (TAX c ds l xa)) (hl : LRep t l n f) (hn : n ≤ 10000 := by decide) : PE X (.List es pos) (TXO c ds (oList t) (e1 (fun b => some (f b)) xa)) :=
  PE.imp (pe_lst h) fun σ H Q ⟨m, st, env, p⟩ => ⟨m, st, env, (Post.bnd.mp p).imp fun a s1 p vs m1 H1 w1 a1 r1 => ⟨Nat.le_trans (Nat.le_trans (Nat.le_of_eq (hl.len a vs m1 r1)) hn) (by decide), fun q hq => by
    have w2 : WStep [] m1 H1 m1 (upd H1 q (.lst vs)) := .own w1.mh hq
    have hn : H q = none := by
      cases z : H q with
      | none => rfl
      | some o => exact absurd hq (w1.dm q (by rw [z]; exact fun y => nomatch y))
    exact p (.ref q) [q] m1 _ (w1.trans w2.wide) (EnvOk.ambGrow a1 w2) (fun y hy => by obtain rfl := List.mem_singleton.mp hy; exact ⟨hn, w1.mh.free hq⟩) ⟨q, vs, rfl, rfl, upd_same, hl.rep a vs m1 r1⟩⟩⟩
theorem x_tupV {es : List Expr} {l : LTy B} {xa : MM T B} {f : B → List A} {n : Nat} {x1} (h : PA X es (TAX c ds l xa)) (hl : LRep t l n f) (hn : n ≤ 10000 := by decide) : PE X (.Tuple es x1 pos) (TX c ds (tVT X.K t) (e1 (fun b => some (f b)) xa)) :=
  PE.imp (pe_tup h) fun σ H Q ⟨m, st, env, p⟩ => ⟨m, st, env, (Post.bnd.mp p).imp fun a s1 p vs m1 H1 w1 a1 r1 => ⟨Nat.le_trans (Nat.le_trans (Nat.le_of_eq (hl.len a vs m1 r1)) hn) (by decide), fun q hq => by
    have w2 : WStep [] m1 H1 (upd m1 q (.tup vs)) (upd H1 q (.tup vs)) := .new w1.mh hq
    exact p (.ref q) _ _ (w1.trans w2.wide) (EnvOk.ambGrow a1 w2) ⟨q, vs, rfl, .of upd_same, (hl.rep a vs m1 r1).mono w2.mm⟩⟩⟩
/-- an owned object made, then it stays -/
theorem x_frz {o : OTy A} {xa : MM T A} (hf : Freezes o t) (h : PE X e (TXO c ds o xa)) : PE X e (TX c ds t xa) := PE.imp h fun σ H Q ⟨m, st, env, p⟩ =>
  ⟨m, st, env, p.imp fun a s1 p v fp m1 H1 w1 a1 n1 r1 => by
    obtain ⟨m2, s2, s3, s4, r2⟩ := hf a v fp H1 m1 r1 w1.mh fun q hq => (n1 q hq).2
    refine p v m2 H1 ⟨w1.mm.trans s2, s3, w1.hh, fun y e n => ?_, w1.dm⟩ (c.ambF (fun _ _ => rfl) s2 a1) r2
    rw [s4 y fun z => n (n1 y z).1]
    exact w1.ow y e n⟩
/-! tests -/
theorem t_val {xa : MM T Bool} (h : PE X e (TX c ds tBool xa)) (he : ∀ whole, isTrue e X.env whole = (do let v ← whole; standAt e.pos; holding [v] (truthy v)) := by intro _; rfl) : PT X e (TTX c ds xa) :=
  PT.imp (pt_val h he) fun σ H Q ⟨m, st, env, p⟩ => ⟨m, st, env, p.imp fun a s1 p v m1 H1 w1 a1 r1 => ⟨a, r1, p m1 H1 w1 a1⟩⟩
theorem t_cmp {op : CmpOp} {r : R2} {f : A → B → Option Bool} {xa : MM T A} {xb : MM T B} (ho : OpR X (compareOp op) r) (hs : Op2 r t1 t2 tBool f) (ha : PE X a (TX c ds t1 xa)) (hb : PE X b (TX c ds t2 xb)) (hm : behindInMarks op b = false := by first | exact nomark _ | rfl) :
    PT X (.Compare a [op] [b] pos) (TTX c ds (e2 f xa xb)) := PT.imp (pt_cmpR ho ha hb hm) fun σ H Q ⟨m, st, env, p⟩ => by
  have h : TX c ds tBool (e2 f xa xb) σ H (fun x H' => ∃ k, x = .bl k ∧ Q k H') := ⟨m, st, env, p.imp fun a s1 p v m1 H1 w1 a1 r1 => ⟨a, r1, p m1 H1 w1 a1⟩⟩
  exact rd_op2 hs h
theorem t_not {xa : MM T Bool} (h : PT X a (TTX c ds xa)) : PT X (.UnaryOp .Not a pos) (TTX c ds (eNot xa)) := PT.imp (pt_not h) fun σ H Q ⟨m, st, env, p⟩ => ⟨m, st, env, (Post.bnd.mp p).imp fun a s1 p m1 H1 w1 a1 => p m1 H1 w1 a1⟩
theorem w_and1 {xa : MM T Bool} (h : PT X a (TTX c ds xa)) : PW X (.BoolOp .And [a] pos) (TTX c ds xa) := pw_and1 h
theorem w_or1 {xa : MM T Bool} (h : PT X a (TTX c ds xa)) : PW X (.BoolOp .Or [a] pos) (TTX c ds xa) := pw_or1 h
theorem rd_and {xa xb : MM T Bool} {σ H} {Q : Bool → Hp → Prop} (h : TTX c ds (eAnd xa xb) σ H Q) : tAnd (TTX c ds xa) (TTX c ds xb) σ H Q := by
  obtain ⟨m, st, env, p⟩ := h
  unfold eAnd at p
  refine ⟨m, st, env, (Post.bnd.mp p).imp fun a s1 p m1 H1 w1 a1 => ?_⟩
  cases a with
  | true =>
    rw [if_pos rfl] at p ⊢
    exact ⟨m1, s1, env.go w1 a1, p.imp fun b s2 p m2 H2 w2 a2 => p m2 H2 (w1.trans w2) a2⟩
  | false =>
    rw [if_neg Bool.false_ne_true] at p ⊢
    exact p m1 H1 w1 a1
theorem rd_or {xa xb : MM T Bool} {σ H} {Q : Bool → Hp → Prop} (h : TTX c ds (eOr xa xb) σ H Q) : tOr (TTX c ds xa) (TTX c ds xb) σ H Q := by
  obtain ⟨m, st, env, p⟩ := h
  unfold eOr at p
  refine ⟨m, st, env, (Post.bnd.mp p).imp fun a s1 p m1 H1 w1 a1 => ?_⟩
  cases a with
  | true =>
    rw [if_pos rfl] at p ⊢
    exact p m1 H1 w1 a1
  | false =>
    rw [if_neg Bool.false_ne_true] at p ⊢
    exact ⟨m1, s1, env.go w1 a1, p.imp fun b s2 p m2 H2 w2 a2 => p m2 H2 (w1.trans w2) a2⟩
theorem w_and {rest : List Expr} {xa xb : MM T Bool} (ha : PT X a (TTX c ds xa)) (hb : PW X (.BoolOp .And (b :: rest) pos) (TTX c ds xb)) : PW X (.BoolOp .And (a :: b :: rest) pos) (TTX c ds (eAnd xa xb)) :=
  ⟨fun w pins s σ H Q I q => (pw_and ha hb).run w pins s σ H Q I (rd_and q)⟩
theorem w_or {rest : List Expr} {xa xb : MM T Bool} (ha : PT X a (TTX c ds xa)) (hb : PW X (.BoolOp .Or (b :: rest) pos) (TTX c ds xb)) : PW X (.BoolOp .Or (a :: b :: rest) pos) (TTX c ds (eOr xa xb)) :=
  ⟨fun w pins s σ H Q I q => (pw_or ha hb).run w pins s σ H Q I (rd_or q)⟩
/-! and, or, not as values -/
theorem x_and1 {op} {xa : MM T A} (h : PE X a (TX c ds t xa)) : PE X (.BoolOp op [a] pos) (TX c ds t xa) := pe_one h
theorem x_and {rest : List Expr} {xa xb : MM T Bool} (ha : PE X a (TX c ds tBool xa)) (hb : PE X (.BoolOp .And (b :: rest) pos) (TX c ds tBool xb)) : PE X (.BoolOp .And (a :: b :: rest) pos) (TX c ds tBool (eAnd xa xb)) :=
  PE.imp (pe_and ha hb) fun σ H Q ⟨m, st, env, p⟩ => by
    unfold eAnd at p
    refine ⟨m, st, env, (Post.bnd.mp p).imp fun a s1 p v m1 H1 w1 a1 r1 => ⟨a, r1, ?_⟩⟩
    cases a with
    | true =>
      rw [if_pos rfl] at p ⊢
      exact ⟨m1, s1, env.go w1 a1, p.imp fun b s2 p v2 m2 H2 w2 a2 r2 => p v2 m2 H2 (w1.trans w2) a2 r2⟩
    | false =>
      rw [if_neg Bool.false_ne_true] at p ⊢
      exact p _ m1 H1 w1 a1 rfl
theorem x_or {rest : List Expr} {xa xb : MM T Bool} (ha : PE X a (TX c ds tBool xa)) (hb : PE X (.BoolOp .Or (b :: rest) pos) (TX c ds tBool xb)) : PE X (.BoolOp .Or (a :: b :: rest) pos) (TX c ds tBool (eOr xa xb)) :=
  PE.imp (pe_or ha hb) fun σ H Q ⟨m, st, env, p⟩ => by
    unfold eOr at p
    refine ⟨m, st, env, (Post.bnd.mp p).imp fun a s1 p v m1 H1 w1 a1 r1 => ⟨a, r1, ?_⟩⟩
    cases a with
    | true =>
      rw [if_pos rfl] at p ⊢
      exact p _ m1 H1 w1 a1 rfl
    | false =>
      rw [if_neg Bool.false_ne_true] at p ⊢
      exact ⟨m1, s1, env.go w1 a1, p.imp fun b s2 p v2 m2 H2 w2 a2 r2 => p v2 m2 H2 (w1.trans w2) a2 r2⟩
theorem x_not {xa : MM T Bool} (h : PE X a (TX c ds tBool xa)) : PE X (.UnaryOp .Not a pos) (TX c ds tBool (eNot xa)) := PE.imp (pe_not h) fun σ H Q ⟨m, st, env, p⟩ =>
  ⟨m, st, env, (Post.bnd.mp p).imp fun a s1 p v m1 H1 w1 a1 r1 => ⟨a, r1, p _ m1 H1 w1 a1 rfl⟩⟩
theorem x_if {xc : MM T Bool} {xa xb : MM T A} {cnd : Expr} (hc : PT X cnd (TTX c ds xc)) (ha : PE X a (TX c ds t xa)) (hb : PE X b (TX c ds t xb)) : PE X (.IfExp cnd a b pos) (TX c ds t (eIf xc xa xb)) :=
  PE.imp (pe_ifExp hc ha hb) fun σ H Q ⟨m, st, env, p⟩ => by
    unfold eIf at p
    refine ⟨m, st, env, (Post.bnd.mp p).imp fun a s1 p m1 H1 w1 a1 => ?_⟩
    cases a with
    | true =>
      rw [if_pos rfl] at p ⊢
      exact ⟨m1, s1, env.go w1 a1, p.imp fun b s2 p v2 m2 H2 w2 a2 r2 => p v2 m2 H2 (w1.trans w2) a2 r2⟩
    | false =>
      rw [if_neg Bool.false_ne_true] at p ⊢
      exact ⟨m1, s1, env.go w1 a1, p.imp fun b s2 p v2 m2 H2 w2 a2 r2 => p v2 m2 H2 (w1.trans w2) a2 r2⟩
end
end WL

/-! WLC: operators by types, calls of defs, statements, loops. -/
namespace WL
open PySem PySem.Spec PyProof.Rows L2

/-! ### operators -/
def oAdd (a b : Int) : Option Int := some (a + b)
def oSub (a b : Int) : Option Int := some (a - b)
def oMul (a b : Int) : Option Int := if (-(2 ^ 64) < a ∧ a < 2 ^ 64) ∨ (-(2 ^ 64) < b ∧ b < 2 ^ 64) then some (a * b) else none
def oDiv (a b : Int) : Option Int := if 0 < b ∧ b < 2 ^ 200 then some (a / b) else none
def oMod (a b : Int) : Option Int := if 0 < b then some (a % b) else none
def oShl (a b : Int) : Option Int := if 0 ≤ b ∧ b ≤ 1000000 ∧ a.natAbs < 2 ^ 64 then some (a * 2 ^ b.toNat) else none
def oShr (a b : Int) : Option Int := if 0 ≤ b then some (a / 2 ^ b.toNat) else none
def oLt (a b : Int) : Option Bool := some (decide (a < b))
def oLe (a b : Int) : Option Bool := some (decide (a ≤ b))
def oGt (a b : Int) : Option Bool := some (decide (b < a))
def oGe (a b : Int) : Option Bool := some (decide (b ≤ a))
def oEq {A : Type} [DecidableEq A] (a b : A) : Option Bool := some (decide (a = b))
def oNe {A : Type} [DecidableEq A] (a b : A) : Option Bool := some (!decide (a = b))
def oNeg (a : Int) : Option Int := some (-a)
theorem rep_int {i : Int} {v : V} {m : Hp} (h : tInt.rep i v m) : v = .int i := h
theorem rep_bool {i : Bool} {v : V} {m : Hp} (h : tBool.rep i v m) : v = .bl i := h
theorem rep_str {i : Str} {v : V} {m : Hp} (h : tStr.rep i v m) : v = .str i := h
section
variable {g : Int → Int → Int} {p : Int → Int → Bool} {C D : Int → Int → Prop} [∀ a b, Decidable (D a b)]
theorem sp_I0 : Op2 (rI0 fun i j => .int (g i j)) tInt tInt tInt (fun a b => some (g a b)) := fun a b x v1 v2 m H Q r1 r2 hm e q => by
  cases rep_int r1; cases rep_int r2; cases e
  exact ⟨a, b, rfl, rfl, q _ m H (.refl hm) rfl⟩
theorem sp_B0 : Op2 (rI0 fun i j => .bl (p i j)) tInt tInt tBool (fun a b => some (p a b)) := fun a b x v1 v2 m H Q r1 r2 hm e q => by
  cases rep_int r1; cases rep_int r2; cases e
  exact ⟨a, b, rfl, rfl, q _ m H (.refl hm) rfl⟩
theorem sp_IC (h : ∀ a b, D a b → C a b) : Op2 (rI C fun i j => .int (g i j)) tInt tInt tInt (fun a b => if D a b then some (g a b) else none) := fun a b x v1 v2 m H Q r1 r2 hm e q => by
  cases rep_int r1; cases rep_int r2
  dsimp only at e
  by_cases z : D a b
  · rw [if_pos z] at e; cases e
    exact ⟨a, b, rfl, rfl, h a b z, q _ m H (.refl hm) rfl⟩
  · rw [if_neg z] at e; cases e
end
theorem sp_add : Op2 (rI0 fun i j => .int (i + j)) tInt tInt tInt oAdd := sp_I0
theorem sp_sub : Op2 (rI0 fun i j => .int (i - j)) tInt tInt tInt oSub := sp_I0
theorem sp_mul : Op2 (rI CMul fun i j => .int (i * j)) tInt tInt tInt oMul := sp_IC fun _ _ h => h
theorem log_small {b : Int} (h0 : 0 < b) (h : b < 2 ^ 200) : b.natAbs.log2 < 9000 := by
  have h1 : b.natAbs < 2 ^ 200 := by
    have e : ((b.natAbs : Nat) : Int) = b := Int.natAbs_of_nonneg (by omega)
    have : ((b.natAbs : Nat) : Int) < ((2 ^ 200 : Nat) : Int) := by rw [e]; exact_mod_cast h
    exact_mod_cast this
  have h2 : b.natAbs ≠ 0 := by omega
  have := (Nat.log2_lt h2).mpr h1
  omega
theorem sp_div : Op2 (rI CDivW fun i j => .int (i / j)) tInt tInt tInt oDiv := sp_IC (C := CDivW) (D := fun _ b => 0 < b ∧ b < 2 ^ 200) (g := fun i j => i / j) fun _ _ h => ⟨h.1, log_small h.1 h.2⟩
theorem sp_mod : Op2 (rI (fun _ j => 0 < j) fun i j => .int (i % j)) tInt tInt tInt oMod := sp_IC (C := fun _ j => 0 < j) (D := fun _ b => 0 < b) (g := fun i j => i % j) fun _ _ h => h
theorem sp_shl : Op2 (rI CPow fun i j => .int (i * 2 ^ j.toNat)) tInt tInt tInt oShl := sp_IC (C := CPow) (D := fun a b => 0 ≤ b ∧ b ≤ 1000000 ∧ a.natAbs < 2 ^ 64) (g := fun i j => i * 2 ^ j.toNat) fun _ _ h => h
theorem sp_shr : Op2 (rI (fun _ j => 0 ≤ j) fun i j => .int (i / 2 ^ j.toNat)) tInt tInt tInt oShr := sp_IC (C := fun _ j => 0 ≤ j) (D := fun _ b => 0 ≤ b) (g := fun i j => i / 2 ^ j.toNat) fun _ _ h => h
theorem sp_lt : Op2 (rI0 fun i j => .bl (decide (i < j))) tInt tInt tBool oLt := sp_B0
theorem sp_le : Op2 (rI0 fun i j => .bl (decide (i ≤ j))) tInt tInt tBool oLe := sp_B0
theorem sp_gt : Op2 (rI0 fun i j => .bl (decide (j < i))) tInt tInt tBool oGt := sp_B0
theorem sp_ge : Op2 (rI0 fun i j => .bl (decide (j ≤ i))) tInt tInt tBool oGe := sp_B0
/-- types whose values are told by ==, without objects -/
structure Scal {A : Type} [DecidableEq A] (t : Ty A) : Prop where
  sc : ∀ a b v w m n, t.rep a v m → t.rep b w n → scal v w = true
  eq : ∀ a b v w m n, t.rep a v m → t.rep b w n → decide (v = w) = decide (a = b)
theorem sc_int : Scal tInt := ⟨fun a b v w m n h k => by cases rep_int h; cases rep_int k; rfl, fun a b v w m n h k => by cases rep_int h; cases rep_int k; simp⟩
theorem sc_bool : Scal tBool := ⟨fun a b v w m n h k => by cases rep_bool h; cases rep_bool k; rfl, fun a b v w m n h k => by cases rep_bool h; cases rep_bool k; simp⟩
theorem sc_str : Scal tStr := ⟨fun a b v w m n h k => by cases rep_str h; cases rep_str k; rfl, fun a b v w m n h k => by cases rep_str h; cases rep_str k; simp⟩
theorem sc_optI : Scal (tOpt tInt) := ⟨fun a b v w m n h k => by
    cases a <;> cases b <;> simp only [tOpt, repO, tInt] at h k <;> subst h k <;> rfl, fun a b v w m n h k => by
    cases a <;> cases b <;> simp only [tOpt, repO, tInt] at h k <;> subst h k <;> simp⟩
theorem sp_eq {A : Type} [DecidableEq A] {t : Ty A} (s : Scal t) : Op2 rEq t t tBool oEq := fun a b x v1 v2 m H Q r1 r2 hm e q => by
  cases e
  exact ⟨s.sc a b v1 v2 m m r1 r2, q _ m H (.refl hm) (by rw [s.eq a b v1 v2 m m r1 r2]; rfl)⟩
theorem sp_ne {A : Type} [DecidableEq A] {t : Ty A} (s : Scal t) : Op2 rNe t t tBool oNe := fun a b x v1 v2 m H Q r1 r2 hm e q => by
  cases e
  exact ⟨s.sc a b v1 v2 m m r1 r2, q _ m H (.refl hm) (by rw [s.eq a b v1 v2 m m r1 r2]; rfl)⟩
theorem sp_neg : Op1 (rU fun i => .int (-i)) tInt tInt oNeg := fun a x v m H Q r hm e q => by
  cases rep_int r; cases e
  exact ⟨a, rfl, q _ m H (.refl hm) rfl⟩
/-! is None -/
structure NotNone {A : Type} (t : Ty A) : Prop where
  no : ∀ a m, ¬ t.rep a .non m
theorem nn_int : NotNone tInt := ⟨fun a m h => by cases rep_int h⟩
theorem nn_bool : NotNone tBool := ⟨fun a m h => by cases rep_bool h⟩
theorem nn_str : NotNone tStr := ⟨fun a m h => by cases rep_str h⟩
theorem nn_list {A : Type} {t : Ty A} : NotNone (tList t) := ⟨fun a m ⟨p, vs, e, _⟩ => nomatch e⟩
theorem nn_vt {A : Type} {K : PySem.W.Frag} {t : Ty A} : NotNone (tVT K t) := ⟨fun a m ⟨p, vs, e, _⟩ => nomatch e⟩
theorem nn_tup {A : Type} {K : PySem.W.Frag} {l : LTy A} : NotNone (tTup K l) := ⟨fun a m ⟨p, vs, e, _⟩ => nomatch e⟩
def oIsN {A : Type} (a : Option A) (_ : Unit) : Option Bool := some a.isNone
def oNotN {A : Type} (a : Option A) (_ : Unit) : Option Bool := some (!a.isNone)
theorem dec_non {A : Type} {t : Ty A} (n : NotNone t) {o : Option A} {v : V} {m : Hp} (h : (tOpt t).rep o v m) : decide (v = .non) = o.isNone := by
  cases o with
  | none => have : v = .non := h; rw [this]; rfl
  | some a =>
    have h' : t.rep a v m := h
    have : ¬ v = .non := fun e => n.no a m (by rw [← e]; exact h')
    rw [decide_eq_false this]; rfl
theorem sp_isN {A : Type} {t : Ty A} (n : NotNone t) : Op2 (fun x y H Q => y = .non ∧ Q (.bl (decide (x = .non))) H) (tOpt t) tNon tBool oIsN := fun a b x v1 v2 m H Q r1 r2 hm e q => by
  cases e
  exact ⟨r2, by rw [dec_non n r1]; exact q _ m H (.refl hm) rfl⟩
theorem sp_notN {A : Type} {t : Ty A} (n : NotNone t) : Op2 (fun x y H Q => y = .non ∧ Q (.bl (!decide (x = .non))) H) (tOpt t) tNon tBool oNotN := fun a b x v1 v2 m H Q r1 r2 hm e q => by
  cases e
  exact ⟨r2, by rw [dec_non n r1]; exact q _ m H (.refl hm) rfl⟩
/-! lists and tuples: len, items -/
def oLen {A : Type} (xs : List A) : Option Int := some (xs.length : Int)
def rLen (K : PySem.W.Frag) : List V → Hp → VK → Prop := fun xs H Q => ∃ p ys, xs = [.ref p] ∧ (SqL K H p ys ∨ SqT K H p ys) ∧ Q (.int ys.length) H
theorem call_len' {X : Cx} : CallR X (.builtin "len") (rLen X.K) := call_len_seq
theorem sp_lenL {A : Type} {K : PySem.W.Frag} {t : Ty A} : OpL (rLen K) (l1 (tList t)) tInt oLen := fun a g vs m H Q ⟨v, ev, p, us, e1, k, r⟩ hm e q => by
  cases e; subst ev e1
  exact ⟨p, us, rfl, .inl (.of (hm _ _ k)), q _ m H (.refl hm) (by show V.int _ = V.int _; rw [r.length])⟩
theorem sp_lenS {A : Type} {K : PySem.W.Frag} {t : Ty A} : OpL (rLen K) (l1 (tSeq K t)) tInt oLen := fun a g vs m H Q ⟨v, ev, p, us, e1, k, r⟩ hm e q => by
  cases e; subst ev e1
  exact ⟨p, us, rfl, .inl (hm.sqL k), q _ m H (.refl hm) (by show V.int _ = V.int _; rw [r.length])⟩
theorem sp_lenT {A : Type} {K : PySem.W.Frag} {t : Ty A} : OpL (rLen K) (l1 (tVT K t)) tInt oLen := fun a g vs m H Q ⟨v, ev, p, us, e1, k, r⟩ hm e q => by
  cases e; subst ev e1
  exact ⟨p, us, rfl, .inr (hm.sqT k), q _ m H (.refl hm) (by show V.int _ = V.int _; rw [r.length])⟩
def oAt {A : Type} (xs : List A) (i : Int) : Option A := atI xs i
theorem at_reps {A : Type} {t : Ty A} {m : Hp} {xs : List A} {vs : List V} {i : Int} {a : A} (r : Reps t m xs vs) (h : atI xs i = some a) : ∃ v, atI vs i = some v ∧ t.rep a v m := by
  unfold atI at h ⊢
  rw [← r.length]
  cases e : ixN xs.length i with
  | none => rw [e] at h; cases h
  | some j => rw [e] at h; exact r.get h
theorem sp_atL {A : Type} {K : PySem.W.Frag} {t : Ty A} : Op2 (rIxL K) (tList t) tInt t oAt := fun a b x v1 v2 m H Q ⟨p, us, e1, k, r⟩ r2 hm e q => by
  cases rep_int r2
  obtain ⟨v, hv, rv⟩ := at_reps r e
  exact ⟨p, us, b, v, e1, rfl, .of (hm _ _ k), hv, q v m H (.refl hm) rv⟩
theorem sp_atS {A : Type} {K : PySem.W.Frag} {t : Ty A} : Op2 (rIxL K) (tSeq K t) tInt t oAt := fun a b x v1 v2 m H Q ⟨p, us, e1, k, r⟩ r2 hm e q => by
  cases rep_int r2
  obtain ⟨v, hv, rv⟩ := at_reps r e
  exact ⟨p, us, b, v, e1, rfl, hm.sqL k, hv, q v m H (.refl hm) rv⟩
theorem sp_atT {A : Type} {K : PySem.W.Frag} {t : Ty A} : Op2 (rIxT K) (tVT K t) tInt t oAt := fun a b x v1 v2 m H Q ⟨p, us, e1, k, r⟩ r2 hm e q => by
  cases rep_int r2
  obtain ⟨v, hv, rv⟩ := at_reps r e
  exact ⟨p, us, b, v, e1, rfl, hm.sqT k, hv, q v m H (.refl hm) rv⟩
/-- the n-th place of a tuple of so many places -/
structure LProj {A B : Type} (l : LTy A) (n : Nat) (t : Ty B) (f : A → B) : Prop where
  at_ : ∀ a vs m, l.rep a vs m → ∃ v, vs[n]? = some v ∧ t.rep (f a) v m
theorem lp_1 {A : Type} {t : Ty A} : LProj (l1 t) 0 t id := ⟨fun a vs m ⟨v, e, r⟩ => ⟨v, by rw [e]; rfl, r⟩⟩
theorem lp_z {A B : Type} {t : Ty A} {l : LTy B} : LProj (lc t l) 0 t Prod.fst := ⟨fun a vs m ⟨v, ws, e, r, _⟩ => ⟨v, by rw [e]; rfl, r⟩⟩
theorem lp_s {A B C : Type} {t : Ty A} {u : Ty C} {l : LTy B} {n : Nat} {f : B → C} (h : LProj l n u f) : LProj (lc t l) (n + 1) u (fun a => f a.2) := ⟨fun a vs m ⟨v, ws, e, _, q⟩ => by
  obtain ⟨w, h1, h2⟩ := h.at_ a.2 ws m q
  exact ⟨w, by rw [e]; exact h1, h2⟩⟩
def eProj {T A B : Type} (f : A → B) (x : MM T A) : MM T B := bnd x fun a => ret (f a)
section
variable {X : Cx} {T A B C : Type} {c : Ctx T} {ds : List Desc} {pos : Pos} {a : Expr}
theorem x_proj {l : LTy A} {t : Ty B} {f : A → B} {xa : MM T A} {j : _} {p2 : Pos} (n : Nat) (hp : LProj l n t f) (ha : PE X a (TX c ds (tTup X.K l) xa)) : PE X (.Subscript a (.Constant (.int (n : Int)) j p2) pos) (TX c ds t (eProj f xa)) :=
  PE.imp (pe_ix ix_tup ha pe_int (fun _ _ => rfl)) fun σ H Q ⟨m, st, env, p⟩ => by
    refine ⟨m, st, env, (Post.bnd.mp p).imp fun a s1 p v m1 H1 w1 a1 ⟨q, vs, e, k, r⟩ => ?_⟩
    obtain ⟨u, hu, ru⟩ := hp.at_ a vs m1 r
    exact ⟨q, vs, n, u, e, rfl, w1.mh.sqT k, atI_nat hu, p u m1 H1 w1 a1 ru⟩
end
/-! texts -/
def oLenStr (x : Str) : Option Int := if x.length ≤ 100000 then some (x.length : Int) else none
theorem sp_lenStr : OpL (fun xs H Q => ∃ z, xs = [.str z] ∧ z.length ≤ sizeLine ∧ Q (.int z.length) H) (l1 tStr) tInt oLenStr := fun a g vs m H Q ⟨v, ev, r⟩ hm e q => by
  cases rep_str r; subst ev
  unfold oLenStr at e
  by_cases z : a.length ≤ 100000
  · rw [if_pos z] at e; cases e
    exact ⟨a, rfl, Nat.le_trans z (by decide), q _ m H (.refl hm) rfl⟩
  · rw [if_neg z] at e; cases e
def oAtStr (x : Str) (i : Int) : Option Str := if x.length ≤ 100000 then (atI x.cps.toList i).map fun c => ⟨#[c]⟩ else none
theorem sp_atStr : Op2 rIxS tStr tInt tStr oAtStr := fun a b g v1 v2 m H Q r1 r2 hm e q => by
  cases rep_str r1; cases rep_int r2
  unfold oAtStr at e
  by_cases z : a.length ≤ 100000
  · rw [if_pos z] at e
    cases h : atI a.cps.toList b with
    | none => rw [h] at e; cases e
    | some ch => rw [h] at e; cases e; exact ⟨a, b, ch, rfl, rfl, Nat.le_trans z (by decide), h, q _ m H (.refl hm) rfl⟩
  · rw [if_neg z] at e; cases e
/-! small built-ins -/
def oAbs (i : Int) : Option Int := some (if i < 0 then -i else i)
theorem sp_abs : OpL (fun xs H Q => ∃ i, xs = [.int i] ∧ Q (.int (if i < 0 then -i else i)) H) (l1 tInt) tInt oAbs := fun a g vs m H Q ⟨v, ev, r⟩ hm e q => by
  cases rep_int r; subst ev; cases e
  exact ⟨a, rfl, q _ m H (.refl hm) rfl⟩
def oIntI (i : Int) : Option Int := some i
def oIntB (b : Bool) : Option Int := some (if b then 1 else 0)
def rInt1 : List V → Hp → VK → Prop := fun xs H Q => (∃ i, xs = [.int i] ∧ Q (.int i) H) ∨ ∃ k, xs = [.bl k] ∧ Q (.int (if k then 1 else 0)) H
theorem sp_intI : OpL rInt1 (l1 tInt) tInt oIntI := fun a g vs m H Q ⟨v, ev, r⟩ hm e q => by
  cases rep_int r; subst ev; cases e
  exact .inl ⟨a, rfl, q _ m H (.refl hm) rfl⟩
theorem sp_intB : OpL rInt1 (l1 tBool) tInt oIntB := fun a g vs m H Q ⟨v, ev, r⟩ hm e q => by
  cases rep_bool r; subst ev; cases e
  exact .inr ⟨a, rfl, q _ m H (.refl hm) rfl⟩
def oMax2 (p : Int × Int) : Option Int := some (if p.2 > p.1 then p.2 else p.1)
def oMin2 (p : Int × Int) : Option Int := some (if p.2 < p.1 then p.2 else p.1)
theorem sp_max2 : OpL (fun xs H Q => ∃ i j, xs = [.int i, .int j] ∧ Q (.int (if j > i then j else i)) H) (lc tInt (l1 tInt)) tInt oMax2 := fun a g vs m H Q ⟨v, ws, ev, r1, w, ew, r2⟩ hm e q => by
  cases rep_int r1; cases rep_int r2; subst ev ew; cases e
  exact ⟨a.1, a.2, rfl, q _ m H (.refl hm) rfl⟩
theorem sp_min2 : OpL (fun xs H Q => ∃ i j, xs = [.int i, .int j] ∧ Q (.int (if j < i then j else i)) H) (lc tInt (l1 tInt)) tInt oMin2 := fun a g vs m H Q ⟨v, ws, ev, r1, w, ew, r2⟩ hm e q => by
  cases rep_int r1; cases rep_int r2; subst ev ew; cases e
  exact ⟨a.1, a.2, rfl, q _ m H (.refl hm) rfl⟩
def oSum (xs : List Int) : Option Int := some xs.sum
def oAny (xs : List Bool) : Option Bool := some (xs.any id)
def oAll (xs : List Bool) : Option Bool := some (xs.all id)
theorem sp_sum {K : PySem.W.Frag} : OpL (rSum K) (l1 (tList tInt)) tInt oSum := fun a g vs m H Q ⟨v, ev, p, us, e1, k, r⟩ hm e q => by
  cases r.ints; subst ev e1; cases e
  exact ⟨p, a, rfl, .of (hm _ _ k), q _ m H (.refl hm) rfl⟩
theorem sp_any {K : PySem.W.Frag} : OpL (rAny K) (l1 (tList tBool)) tBool oAny := fun a g vs m H Q ⟨v, ev, p, us, e1, k, r⟩ hm e q => by
  cases r.bools; subst ev e1; cases e
  exact ⟨p, a, rfl, .of (hm _ _ k), q _ m H (.refl hm) rfl⟩
theorem sp_all {K : PySem.W.Frag} : OpL (rAll K) (l1 (tList tBool)) tBool oAll := fun a g vs m H Q ⟨v, ev, p, us, e1, k, r⟩ hm e q => by
  cases r.bools; subst ev e1; cases e
  exact ⟨p, a, rfl, .of (hm _ _ k), q _ m H (.refl hm) rfl⟩
/-- max and min of a list of ints -/
def maxL : List Int → Option Int
  | [] => none
  | x :: r => some (r.foldl (fun a b => if b > a then b else a) x)
def minL : List Int → Option Int
  | [] => none
  | x :: r => some (r.foldl (fun a b => if b < a then b else a) x)
theorem foldMax : ∀ (r : List Int) (x : Int), (r.foldl (fun a b => if b > a then b else a) x = x ∨ r.foldl (fun a b => if b > a then b else a) x ∈ r) ∧ x ≤ r.foldl (fun a b => if b > a then b else a) x ∧ ∀ y ∈ r, y ≤ r.foldl (fun a b => if b > a then b else a) x
  | [], x => ⟨.inl rfl, Int.le_refl _, fun y h => by simp at h⟩
  | z :: r, x => by
    obtain ⟨h1, h2, h3⟩ := foldMax r (if z > x then z else x)
    simp only [List.foldl_cons]
    refine ⟨?_, ?_, fun y hy => ?_⟩
    · rcases h1 with e | e
      · rw [e]; split
        · exact .inr List.mem_cons_self
        · exact .inl rfl
      · exact .inr (List.mem_cons_of_mem _ e)
    · refine Int.le_trans ?_ h2; split <;> omega
    · rcases List.mem_cons.mp hy with rfl | hy
      · refine Int.le_trans ?_ h2; split <;> omega
      · exact h3 y hy
theorem foldMin : ∀ (r : List Int) (x : Int), (r.foldl (fun a b => if b < a then b else a) x = x ∨ r.foldl (fun a b => if b < a then b else a) x ∈ r) ∧ r.foldl (fun a b => if b < a then b else a) x ≤ x ∧ ∀ y ∈ r, r.foldl (fun a b => if b < a then b else a) x ≤ y
  | [], x => ⟨.inl rfl, Int.le_refl _, fun y h => by simp at h⟩
  | z :: r, x => by
    obtain ⟨h1, h2, h3⟩ := foldMin r (if z < x then z else x)
    simp only [List.foldl_cons]
    refine ⟨?_, ?_, fun y hy => ?_⟩
    · rcases h1 with e | e
      · rw [e]; split
        · exact .inr List.mem_cons_self
        · exact .inl rfl
      · exact .inr (List.mem_cons_of_mem _ e)
    · refine Int.le_trans h2 ?_; split <;> omega
    · rcases List.mem_cons.mp hy with rfl | hy
      · refine Int.le_trans h2 ?_; split <;> omega
      · exact h3 y hy
theorem sp_maxL {K : PySem.W.Frag} : OpL (rMax K) (l1 (tList tInt)) tInt maxL := fun a g vs m H Q ⟨v, ev, p, us, e1, k, r⟩ hm e q => by
  cases r.ints; subst ev e1
  cases a with
  | nil => cases e
  | cons x r0 =>
    cases e
    obtain ⟨h1, h2, h3⟩ := foldMax r0 x
    refine ⟨p, x :: r0, rfl, .of (hm _ _ k), Nat.zero_lt_succ _, fun mx hm1 hm2 => ?_⟩
    have e : mx = r0.foldl (fun a b => if b > a then b else a) x := by
      refine Int.le_antisymm ?_ (hm2 _ ?_)
      · rcases List.mem_cons.mp hm1 with rfl | z
        · exact h2
        · exact h3 _ z
      · rcases h1 with z | z
        · rw [z]; exact List.mem_cons_self
        · exact List.mem_cons_of_mem _ z
    rw [e]
    exact q _ m H (.refl hm) rfl
theorem sp_minL {K : PySem.W.Frag} : OpL (rMin K) (l1 (tList tInt)) tInt minL := fun a g vs m H Q ⟨v, ev, p, us, e1, k, r⟩ hm e q => by
  cases r.ints; subst ev e1
  cases a with
  | nil => cases e
  | cons x r0 =>
    cases e
    obtain ⟨h1, h2, h3⟩ := foldMin r0 x
    refine ⟨p, x :: r0, rfl, .of (hm _ _ k), Nat.zero_lt_succ _, fun mx hm1 hm2 => ?_⟩
    have e : mx = r0.foldl (fun a b => if b < a then b else a) x := by
      refine Int.le_antisymm (hm2 _ ?_) ?_
      · rcases h1 with z | z
        · rw [z]; exact List.mem_cons_self
        · exact List.mem_cons_of_mem _ z
      · rcases List.mem_cons.mp hm1 with rfl | z
        · exact h2
        · exact h3 _ z
    rw [e]
    exact q _ m H (.refl hm) rfl

/-! ### what a def promises -/
def fld : Nat → Str
  | 0 => "at" | 1 => "name" | 2 => "name" | 3 => "limit" | _ => "why"
/-- the errors that c lets out are what W takes -/
def ErrC {T : Type} (c : Ctx T) (W : WX) : Prop := ∀ (e : Exn) (st : T) (d : Addr) (σ : L2.St) (m H : Hp) (ds : List Desc), c.err e st → EnvOk c σ m H ds st → H d = some (.xd [(fld e.k, e.a)]) → W (.ref (c.cls e.k)) (some d) σ H
theorem ErrC.pin {T : Type} {c : Ctx T} {W : WX} {q : Hp → Prop} {hq : ∀ {m n : Hp}, Sub m n → q m → q n} (h : ErrC c W) : ErrC (c.pinned q hq) W := fun e st d σ m H ds h1 h2 h3 => h e st d σ m H ds h1 h2.unpin h3
theorem ErrC.no {T : Type} {c : Ctx T} : ErrC c.nox (fun _ _ _ _ => False) := fun _ _ _ _ _ _ _ h => h.elim
theorem takesN {X : Cx} : Takes X (fun _ _ _ _ => False) := fun _ _ x => by
  obtain ⟨_, _, _, _, _, _, _, _, _, _, _, _, _, _, _, _, z⟩ := x
  exact z.elim
/-- a def without state: its arguments, its value, what it computes -/
def SpF {A B : Type} (cls : Nat → Addr) (l : LTy A) (t : Ty B) (f : A → MM Unit B) : Sp := fun vs H Q E => ∃ a m, l.rep a vs m ∧ Sub m H ∧
  Post (f a ()) (fun b _ => ∀ v m' H', WStep [] m H m' H' → t.rep b v m' → Q v H') (fun e _ => ∀ d m' H', WStep [] m H m' H' → H' d = some (.xd [(fld e.k, e.a)]) → E (.ref (cls e.k)) (some d) H')
section
variable {X : Cx} {T A B : Type} {c : Ctx T} {ds : List Desc} {pos : Pos} {k : Nat} {f : Addr} {fd : FuncData} {ps : List Str} {x : Str} {p : Pos} {e : Expr} {es : List Expr} {W : WX}
theorem x_call {l : LTy A} {t : Ty B} {fn : A → MM Unit B} {xa : MM T A} (F : FnOk X.prog X.w X.K X.mg X.base (L2.CX X.prog X.w) k f fd ps (SpF c.cls l t fn)) (hr : Room k X.A) (hm : X.mg x = some (.ref f)) (hk : PySem.W.keepIn X.K (.ref f) = true) (hb : Binds X.K fd ps [])
    (tk : Takes X W) (he : ErrC c W) (ha : PA X (e :: es) (TAX c ds l xa)) (hg : Gl X x := by rfl) (hdb : (x == ("__debug__" : Str)) = false := by decide)
    (h1 : starEach (e :: es) X.env = (false, eval e X.env) :: starEach es X.env := by rfl) (h2 : (backTo pos (starEach es X.env)).any (·.1) = false := by rfl) :
    PE X (.Call (.Name x p) (e :: es) [] pos) (TX c ds t (eCall fn xa)) := PE.imp (pe_callS F hr hg hm hk hb (fun σ => passAt tk σ) ha hdb h1 h2) fun σ H Q ⟨m, st, env, q⟩ =>
  ⟨m, st, env, (Post.bnd.mp q).imp fun a s1 q vs m1 H1 w1 a1 r1 => ⟨a, m1, r1, w1.mh, (Post.up.mp q).mono (fun b _ q v m' H' w2 r2 => q v m' H' (w1.trans w2.wide) (EnvOk.ambGrow a1 w2) r2)
    fun e _ q d m' H' w2 hd => he e s1 d σ m' H' ds q ((env.go w1 a1).grow w2) hd⟩⟩
theorem x_call0 {t : Ty B} {fn : Unit → MM Unit B} (F : FnOk X.prog X.w X.K X.mg X.base (L2.CX X.prog X.w) k f fd ps (SpF c.cls l0 t fn)) (hr : Room k X.A) (hm : X.mg x = some (.ref f)) (hk : PySem.W.keepIn X.K (.ref f) = true) (hb : Binds X.K fd ps [])
    (hE : c.err = fun _ _ => False) (hg : Gl X x := by rfl) (hdb : (x == ("__debug__" : Str)) = false := by decide) :
    PE X (.Call (.Name x p) [] [] pos) (TX c ds t (eCall fn (ret ()))) := PE.imp (pe_call0 (E := E0) F hr hg hm hk hb .nil (fun _ _ _ _ _ _ _ h => by
      obtain ⟨_, _, _, _, _, _, _, _, _, _, _, _, z⟩ := h
      exact z.elim) hdb) fun σ H Q ⟨m, st, env, q⟩ => by
  refine ⟨(), m, rfl, env.mh, ?_⟩
  have q : Post (fn () ()) (fun a _ => ∀ v m' H', WStep c.afp m H m' H' → c.amb st H' m' → t.rep a v m' → Q v H') (fun e _ => c.err e st) := Post.up.mp q
  refine q.mono (fun b _ q v m' H' w2 r2 => q v m' H' w2.wide (EnvOk.ambGrow env.amb w2) r2) fun e _ q => ?_
  rw [hE] at q
  exact q.elim
end

/-! ### statements -/
section
variable {X : Cx} {T A B C F R : Type} {c : Ctx T} {ds : List Desc} {pos : Pos} {P : F → T → Ends → Prop} {rest : List Stmt} {e : Expr}
/-- a block that ends without a return -/
theorem b_end {s : A} {dsN : A → List Desc} (w : Weak ds (dsN s)) : PSs X [] (BX c ds (ret s) (EN c dsN)) := PSs.imp pss_nil fun D σ H ⟨m, st, env, p⟩ => p σ m H (env.weak w)
theorem b_endR {t : Ty A} {s : B} {dsN : B → List Desc} (w : Weak ds (dsN s)) : PSs X [] (BX c ds (ret (Sum.inr s)) (ENR c t dsN)) := PSs.imp pss_nil fun D σ H ⟨m, st, env, p⟩ => p σ m H (env.weak w)
/-- a statement, then the rest -/
theorem b_seq {s : Stmt} {x : MM T A} {k : A → MM T F} {dsM : A → List Desc} (h1 : PS X s (BX c ds x (EN c dsM))) (h2 : ∀ a, PSs X rest (BX c (dsM a) (k a) P)) : PSs X (s :: rest) (BX c ds (bnd x k) P) :=
  PSs.imp (pss_cons h1 (PSs.any h2)) fun D σ H ⟨m, st, env, p⟩ => ⟨m, st, env, (Post.bnd.mp p).imp fun a s1 p σ' m' H' env' => ⟨a, m', s1, env', p⟩⟩
def seqR {T R B F : Type} (emb : R → F) (k : B → MM T F) : Sum R B → MM T F
  | .inl r => ret (emb r)
  | .inr b => k b
theorem b_seqR {s : Stmt} {x : MM T (Sum R B)} {k : B → MM T F} {dsM : B → List Desc} {t : Ty R} (emb : R → F) (he : ∀ r st D, P (emb r) st D → ER c t r st D) (h1 : PS X s (BX c ds x (ENR c t dsM))) (h2 : ∀ b, PSs X rest (BX c (dsM b) (k b) P)) :
    PSs X (s :: rest) (BX c ds (bnd x (seqR emb k)) P) :=
  PSs.imp (pss_cons h1 (PSs.any h2)) fun D σ H ⟨m, st, env, p⟩ => ⟨m, st, env, (Post.bnd.mp p).imp fun a s1 p => by
    cases a with
    | inl r => exact he r s1 D p
    | inr b => exact fun σ' m' H' env' => ⟨b, m', s1, env', p⟩⟩
theorem emb_ret {t : Ty R} : ∀ (r : R) (st : T) (D : Ends), ER c t (id r) st D → ER c t r st D := fun _ _ _ h => h
theorem emb_inl {t : Ty R} {dsN : B → List Desc} : ∀ (r : R) (st : T) (D : Ends), ENR c t dsN (Sum.inl r) st D → ER c t r st D := fun _ _ _ h => h
/-- name = e -/
theorem b_set (i : Nat) {x : Str} {t : Ty A} {xa : MM T A} {k : A → MM T F} {p2 : Pos} (he : PE X e (TX c ds t xa)) (h2 : ∀ a, PSs X rest (BX c (ds.set i (.val t a)) (k a) P)) (hN : X.N.Nodup) (hi : X.N[i]? = some x := by rfl) (hx : Loc X.env.scope x := by first | exact Or.inl rfl | exact Or.inr rfl)
    (hs : swapsWith e (some (.Name x p2)) pos.line X.env = pure false := by rfl) (hf : X.fn x = true ∨ X.env.scope.names.lookup x = some .local := by first | exact .inl rfl | exact .inr rfl) : PSs X (.Assign [.Name x p2] e pos :: rest) (BX c ds (bnd xa k) P) :=
  PSs.imp (pss_cons (ps_set hN hi hx he hs hf) (PSs.any h2)) fun D σ H ⟨m, st, env, p⟩ => ⟨m, st, env, (Post.bnd.mp p).imp fun a s1 p v m1 H1 w1 a1 r1 => ⟨a, m1, s1, (env.go w1 a1).bind i r1, p⟩⟩
/-- name = e, a new object that is owned -/
theorem bindNew {σ : L2.St} {m H m1 H1 : Hp} {st s1 : T} {o : OTy A} {a : A} {v : V} {fp : List Addr} (i : Nat) (env : EnvOk c σ m H ds st) (w : WStep c.afp m H m1 H1) (am : c.amb s1 H1 m1) (nw : ∀ p ∈ fp, H p = none ∧ m1 p = none) (r : o.rep a v fp H1 m1) :
    EnvOk c (σ.set i (some v)) m1 H1 (ds.set i (.own o a)) s1 := by
  have e0 : ∀ p ∈ fp, c.H0 p = none := fun p hp => by
    cases z : c.H0 p with
    | none => rfl
    | some o => exact absurd (nw p hp).1 (env.step.dm p (by rw [z]; exact fun y => nomatch y))
  obtain ⟨fps, sl, dj, fr⟩ := env.slots
  have ev1 := env.go w am
  refine ⟨ev1.step, ⟨fps.set i fp, ?_, dj.set fun gp hg => .inl fun p hp hq => (sl.dom gp hg p hp).1 (nw p hq).1, fun gp hg p hp => ?_⟩, ev1.amb, ev1.own, ev1.pin⟩
  · refine Slots.set (d := .own o a) (sl.go (fun gp hg p hp => ?_) w.mm fun gp hg p hp e => w.ow p e (sl.dom gp hg p hp).1) ⟨v, rfl, r, fun p hp => (nw p hp).2⟩
    cases q : H p with
    | none => exact absurd q (sl.dom gp hg p hp).1
    | some u => exact w.hh p u (fr gp hg p hp).1 q
  · rcases List.mem_or_eq_of_mem_set hg with z | z
    · exact fr gp z p hp
    · subst z; exact ⟨fun q => (c.ambD env.amb p q) (nw p hp).1, e0 p hp⟩
theorem b_setO (i : Nat) {x : Str} {o : OTy A} {xa : MM T A} {k : A → MM T F} {p2 : Pos} (he : PE X e (TXO c ds o xa)) (h2 : ∀ a, PSs X rest (BX c (ds.set i (.own o a)) (k a) P)) (hN : X.N.Nodup) (hi : X.N[i]? = some x := by rfl) (hx : Loc X.env.scope x := by first | exact Or.inl rfl | exact Or.inr rfl)
    (hs : swapsWith e (some (.Name x p2)) pos.line X.env = pure false := by rfl) (hf : X.fn x = true ∨ X.env.scope.names.lookup x = some .local := by first | exact .inl rfl | exact .inr rfl) : PSs X (.Assign [.Name x p2] e pos :: rest) (BX c ds (bnd xa k) P) :=
  PSs.imp (pss_cons (ps_set hN hi hx he hs hf) (PSs.any h2)) fun D σ H ⟨m, st, env, p⟩ => ⟨m, st, env, (Post.bnd.mp p).imp fun a s1 p v fp m1 H1 w1 a1 n1 r1 => ⟨a, m1, s1, bindNew i env w1 a1 n1 r1, p⟩⟩
/-- what slot i owns stays from now on -/
theorem b_frz (i : Nat) {o : OTy A} {t : Ty A} {a : A} {x : MM T F} {sts : List Stmt} (hf : Freezes o t) (hd : ds[i]? = some (.own o a)) (h : PSs X sts (BX c (ds.set i (.val t a)) x P)) : PSs X sts (BX c ds x P) :=
  PSs.imp h fun D σ H ⟨m, st, env, p⟩ => by
    obtain ⟨m', hm, env'⟩ := env.frz hd fun v fp r hs n => hf a v fp H m r hs n
    exact ⟨m', st, env', p⟩
/-- descriptions are weakened -/
theorem b_weak {es : List Desc} {x : MM T F} {sts : List Stmt} (w : Weak ds es) (h : PSs X sts (BX c es x P)) : PSs X sts (BX c ds x P) := PSs.imp h fun D σ H ⟨m, st, env, p⟩ => ⟨m, st, env.weak w, p⟩
theorem b_ret {t : Ty A} {xa : MM T A} (he : PE X e (TX c ds t xa)) : PSs X [.Return (some e) pos] (BX c ds xa (ER c t)) :=
  PSs.imp (pss_one (ps_ret he)) fun D σ H ⟨m, st, env, p⟩ => ⟨m, st, env, p.imp fun a s1 p v m1 H1 w1 a1 r1 => p v m1 H1 (env.step.comp w1 c.afr) a1 r1⟩
theorem b_retR {t : Ty A} {dsN : B → List Desc} {xa : MM T A} (he : PE X e (TX c ds t xa)) : PSs X [.Return (some e) pos] (BX c ds (bnd xa fun a => ret (Sum.inl a)) (ENR c t dsN)) :=
  PSs.imp (pss_one (ps_ret he)) fun D σ H ⟨m, st, env, p⟩ => ⟨m, st, env, (Post.bnd.mp p).imp fun a s1 p v m1 H1 w1 a1 r1 => p v m1 H1 (env.step.comp w1 c.afr) a1 r1⟩
/-- an expression for its effect -/
theorem b_expr {t : Ty A} {xa : MM T A} {k : MM T F} (he : PE X e (TX c ds t xa)) (h2 : PSs X rest (BX c ds k P)) (hs : swapsWith e none pos.line X.env = pure false := by rfl) : PSs X (.Expr e pos :: rest) (BX c ds (bnd xa fun _ => k) P) :=
  PSs.imp (pss_cons (ps_expr he hs) h2) fun D σ H ⟨m, st, env, p⟩ => ⟨m, st, env, (Post.bnd.mp p).imp fun a s1 p v m1 H1 w1 a1 r1 => ⟨m1, s1, env.go w1 a1, p⟩⟩
/-- both branches end alike -/
theorem s_if {cnd : Expr} {a b : List Stmt} {xc : MM T Bool} {xa xb : MM T F} (hc : PT X cnd (TTX c ds xc)) (ha : PSs X a (BX c ds xa P)) (hb : PSs X b (BX c ds xb P)) : PS X (.If cnd a b pos) (BX c ds (eIf xc xa xb) P) :=
  PS.imp (ps_if hc ha hb) fun D σ H ⟨m, st, env, p⟩ => by
    unfold eIf at p
    refine ⟨m, st, env, (Post.bnd.mp p).imp fun t s1 p m1 H1 w1 a1 => ?_⟩
    cases t with
    | true => rw [if_pos rfl] at p ⊢; exact ⟨m1, s1, env.go w1 a1, p⟩
    | false => rw [if_neg Bool.false_ne_true] at p ⊢; exact ⟨m1, s1, env.go w1 a1, p⟩
theorem b_one {s : Stmt} {x : MM T F} (h : PS X s (BX c ds x P)) : PSs X [s] (BX c ds x P) := pss_one h
/-- if c: (returns), and the rest -/
theorem b_ifret {cnd : Expr} {a : List Stmt} {xc : MM T Bool} {xa : MM T R} {xb : MM T F} {t : Ty R} (emb : R → F) (he : ∀ r st D, P (emb r) st D → ER c t r st D) (hc : PT X cnd (TTX c ds xc)) (ha : PSs X a (BX c ds xa (ER c t))) (hb : PSs X rest (BX c ds xb P)) :
    PSs X (.If cnd a [] pos :: rest) (BX c ds (eIf xc (bnd xa fun r => ret (emb r)) xb) P) :=
  PSs.imp (pss_cons (ps_if hc ha pss_nil) hb) fun D σ H ⟨m, st, env, p⟩ => by
    unfold eIf at p
    refine ⟨m, st, env, (Post.bnd.mp p).imp fun t s1 p m1 H1 w1 a1 => ?_⟩
    cases t with
    | true => rw [if_pos rfl] at p ⊢; exact ⟨m1, s1, env.go w1 a1, (Post.bnd.mp p).imp fun r s2 p => he r s2 D p⟩
    | false => rw [if_neg Bool.false_ne_true] at p ⊢; exact ⟨m1, s1, env.go w1 a1, p⟩
theorem b_ifret0 {cnd : Expr} {a : List Stmt} {xc : MM T Bool} {xa : MM T R} {xb : MM T R} {t : Ty R} (hc : PT X cnd (TTX c ds xc)) (ha : PSs X a (BX c ds xa (ER c t))) (hb : PSs X rest (BX c ds xb (ER c t))) :
    PSs X (.If cnd a [] pos :: rest) (BX c ds (eIf xc xa xb) (ER c t)) :=
  PSs.imp (pss_cons (ps_if hc ha pss_nil) hb) fun D σ H ⟨m, st, env, p⟩ => by
    unfold eIf at p
    refine ⟨m, st, env, (Post.bnd.mp p).imp fun t s1 p m1 H1 w1 a1 => ?_⟩
    cases t with
    | true => rw [if_pos rfl] at p ⊢; exact ⟨m1, s1, env.go w1 a1, p⟩
    | false => rw [if_neg Bool.false_ne_true] at p ⊢; exact ⟨m1, s1, env.go w1 a1, p⟩
/-! targets -/
/-- σ' is σ but at the places is -/
def But (is : List Nat) (σ σ' : L2.St) : Prop := σ'.length = σ.length ∧ ∀ i, i ∉ is → σ'[i]? = σ[i]?
theorem But.trans {is js : List Nat} {a b d : L2.St} (h : But is a b) (k : But js b d) : But (is ++ js) a d := ⟨k.1.trans h.1, fun i hi => (k.2 i fun z => hi (List.mem_append_right _ z)).trans (h.2 i fun z => hi (List.mem_append_left _ z))⟩
theorem But.set (i : Nat) (σ : L2.St) (v : Option V) : But [i] σ (σ.set i v) := ⟨List.length_set, fun j hj => List.getElem?_set_ne (by intro z; subst z; exact hj (by simp))⟩
def TgtOk (c : Ctx T) (g : TG) (t : Ty A) (is : List Nat) (bd : A → List Desc → List Desc) : Prop := ∀ (a : A) (v : V) (σ : L2.St) (m H : Hp) (ds : List Desc) (st : T) (Q : L2.St → Hp → Prop), t.rep a v m → EnvOk c σ m H ds st → (∀ σ', EnvOk c σ' m H (bd a ds) st → But is σ σ' → Q σ' H) → g v σ H Q
theorem tg_name (i : Nat) {t : Ty A} : TgtOk c (gName i) t [i] (fun a ds => ds.set i (.val t a)) := fun a v σ m H ds st Q r env q => q _ (env.bind i r) (.set i σ _)
def GsOk (c : Ctx T) (g : TGs) (l : LTy A) (n : Nat) (is : List Nat) (bd : A → List Desc → List Desc) : Prop := ∀ (a : A) (vs : List V) (σ : L2.St) (m H : Hp) (ds : List Desc) (st : T) (Q : L2.St → Hp → Prop), l.rep a vs m → EnvOk c σ m H ds st → vs.length = n ∧ ((∀ σ', EnvOk c σ' m H (bd a ds) st → But is σ σ' → Q σ' H) → g vs σ H Q)
theorem gs_one {g : TG} {t : Ty A} {is : List Nat} {bd : A → List Desc → List Desc} (h : TgtOk c g t is bd) : GsOk c (gCons g gNil) (l1 t) 1 is bd := fun a vs σ m H ds st Q ⟨v, e, r⟩ env => by
  subst e
  exact ⟨rfl, fun q => ⟨v, [], rfl, h a v σ m H ds st _ r env fun σ' env' b => ⟨rfl, q σ' env' b⟩⟩⟩
theorem gs_cons {g : TG} {gs : TGs} {t : Ty A} {l : LTy B} {n : Nat} {is js : List Nat} {bd : A → List Desc → List Desc} {bd2 : B → List Desc → List Desc} (h : TgtOk c g t is bd) (h2 : GsOk c gs l n js bd2) : GsOk c (gCons g gs) (lc t l) (n + 1) (is ++ js) (fun a ds => bd2 a.2 (bd a.1 ds)) := fun a vs σ m H ds st Q ⟨v, ws, e, r, r2⟩ env => by
  subst e
  refine ⟨by rw [List.length_cons, (h2 a.2 ws σ m H ds st Q r2 env).1], fun q => ⟨v, ws, rfl, h a.1 v σ m H ds st _ r env fun σ' env' b => (h2 a.2 ws σ' m H _ st Q r2 env').2 fun σ2 env2 b2 => q σ2 env2 (b.trans b2)⟩⟩
theorem tg_tup {K : PySem.W.Frag} {gs : TGs} {l : LTy A} {n : Nat} {is : List Nat} {bd : A → List Desc → List Desc} (h : GsOk c gs l n is bd) : TgtOk c (gTup K n gs) (tTup K l) is bd := fun a v σ m H ds st Q ⟨p, vs, e, k, r⟩ env q =>
  ⟨p, vs, e, env.mh.sqT k, (h a vs σ m H ds st Q r env).1, (h a vs σ m H ds st Q r env).2 q⟩
/-- target = e, any target -/
theorem b_asg {tg : Expr} {g : TG} {t : Ty A} {xa : MM T A} {k : A → MM T F} {bd : A → List Desc → List Desc} {is : List Nat} (he : PE X e (TX c ds t xa)) (hg : PG X tg g) (ht : TgtOk c g t is bd) (h2 : ∀ a, PSs X rest (BX c (bd a ds) (k a) P)) (hs : swapsWithSole [tg] e pos.line X.env = pure false := by rfl)
    (hw : swappedStores [tg] e X.env = pure none := by rfl) (h1 : (assignEach [tg] X.env).map (·.2) = [assign tg X.env] := by rfl) : PSs X (.Assign [tg] e pos :: rest) (BX c ds (bnd xa k) P) :=
  PSs.imp (pss_cons (ps_asg he hg hs hw h1) (PSs.any h2)) fun D σ H ⟨m, st, env, p⟩ => ⟨m, st, env, (Post.bnd.mp p).imp fun a s1 p v m1 H1 w1 a1 r1 => ht a v σ m1 H1 ds s1 _ r1 (env.go w1 a1) fun σ' env' _ => ⟨a, m1, s1, env', p⟩⟩
/-! loops -/
def forM : List A → B → (B → A → MM T B) → MM T B
  | [], s, _ => ret s
  | x :: r, s, f => bnd (f s x) fun s1 => forM r s1 f
def forR : List A → B → (B → A → MM T (Sum R B)) → MM T (Sum R B)
  | [], s, _ => ret (.inr s)
  | x :: r, s, f => bnd (f s x) fun o => match o with
    | .inl v => ret (.inl v)
    | .inr s1 => forR r s1 f
def whileM : Nat → (B → MM T Bool) → (B → MM T B) → B → MM T B
  | 0, _, _, _ => stk
  | n + 1, t, f, s => bnd (t s) fun b => if b = true then bnd (f s) fun s1 => whileM n t f s1 else ret s
def whileR : Nat → (B → MM T Bool) → (B → MM T (Sum R B)) → B → MM T (Sum R B)
  | 0, _, _, _ => stk
  | n + 1, t, f, s => bnd (t s) fun b => if b = true then bnd (f s) fun o => (match o with
    | .inl v => ret (.inl v)
    | .inr s1 => whileR n t f s1) else ret (.inr s)
/-- J yields the items xs, as long as q is known -/
def Serves (J : It) (t : Ty A) (xs : List A) (q : Hp → Prop) : Prop := ∀ (i : Nat) (H : Hp), (∃ m, q m ∧ Sub m H) →
  (i < xs.length → J.go i H ∧ ∀ v H', J.yld i H v H' → H' = H ∧ ∀ m, q m → Sub m H → ∃ a, xs[i]? = some a ∧ t.rep a v m) ∧ (xs.length ≤ i → J.stop i H)
/-- what is walked -/
def SrcTI (c : Ctx T) (ds : List Desc) (t : Ty A) (x : MM T (List A)) : TI := fun σ H R => ∃ m st, EnvOk c σ m H ds st ∧ Post (x st) (fun xs s1 => ∀ (J : It) (q : Hp → Prop) m1 H1, WStep c.afp m H m1 H1 → c.amb s1 H1 m1 →
  (∀ {a b : Hp}, Sub a b → q a → q b) → q m1 → Serves J t xs q → R J H1) c.err
theorem PI.imp {X : Cx} {tg iter : Expr} {w w' : TI} (h : PI X tg iter w) (i : ∀ σ H R, w' σ H R → w σ H R) : PI X tg iter w' := ⟨fun pins s σ H R I q => h.run pins s σ H R I (i σ H R q)⟩
theorem serves_list {K : PySem.W.Frag} {t : Ty A} {p : Addr} {xs : List A} : Serves (Itl K p) t xs (fun m => ∃ vs, SqL K m p vs ∧ Reps t m xs vs) := fun i H ⟨m, ⟨vs, k, r⟩, hm⟩ => by
  refine ⟨fun hi => ?_, fun hi => ⟨vs, hm.sqL k, by rw [← r.length]; exact hi⟩⟩
  obtain ⟨v, hv, _⟩ := r.get (List.getElem?_eq_getElem hi)
  refine ⟨⟨vs, v, hm.sqL k, hv⟩, fun u H' ⟨e, y⟩ => ⟨e, fun m2 ⟨ws, k2, r2⟩ hm2 => ?_⟩⟩
  have := y ws (hm2.sqL k2)
  obtain ⟨w, hw, rw'⟩ := r2.get (List.getElem?_eq_getElem hi)
  rw [hw] at this
  cases this
  exact ⟨xs[i], List.getElem?_eq_getElem hi, rw'⟩
theorem serves_tup {K : PySem.W.Frag} {t : Ty A} {p : Addr} {xs : List A} : Serves (Itt K p) t xs (fun m => ∃ vs, SqT K m p vs ∧ Reps t m xs vs) := fun i H ⟨m, ⟨vs, k, r⟩, hm⟩ => by
  refine ⟨fun hi => ?_, fun hi => ⟨vs, hm.sqT k, by rw [← r.length]; exact hi⟩⟩
  obtain ⟨v, hv, _⟩ := r.get (List.getElem?_eq_getElem hi)
  refine ⟨⟨vs, v, hm.sqT k, hv⟩, fun u H' ⟨e, y⟩ => ⟨e, fun m2 ⟨ws, k2, r2⟩ hm2 => ?_⟩⟩
  have := y ws (hm2.sqT k2)
  obtain ⟨w, hw, rw'⟩ := r2.get (List.getElem?_eq_getElem hi)
  rw [hw] at this
  cases this
  exact ⟨xs[i], List.getElem?_eq_getElem hi, rw'⟩
/-- range's ints -/
def rangeL (lo hi : Int) : List Int := (List.range (hi - lo).toNat).map fun (k : Nat) => lo + (k : Int)
theorem rangeL_length (lo hi : Int) : (rangeL lo hi).length = (hi - lo).toNat := by unfold rangeL; simp
theorem rangeL_get (lo hi : Int) {i : Nat} (h : i < (hi - lo).toNat) : (rangeL lo hi)[i]? = some (lo + (i : Int)) := by unfold rangeL; simp [h]
theorem serves_range {lo hi : Int} : Serves (Itr lo (hi - lo).toNat) tInt (rangeL lo hi) (fun _ => True) := fun i H _ => by
  rw [rangeL_length]
  exact ⟨fun h => ⟨h, fun v H' ⟨e, ev⟩ => ⟨e, fun m _ _ => ⟨_, rangeL_get lo hi h, ev⟩⟩⟩, fun h => h⟩
section
variable {tg l : Expr}
theorem i_list {t : Ty A} {x : MM T (List A)} (h : PE X l (TX c ds (tList t) x)) : PI X tg l (SrcTI c ds t x) := PI.imp (pi_list h) fun σ H R ⟨m, st, env, p⟩ => ⟨m, st, env, p.imp fun xs s1 p v m1 H1 w1 a1 ⟨q, vs, e, k, r⟩ => by
  subst e
  exact ⟨q, rfl, ⟨vs, .of (w1.mh _ _ k)⟩, p (Itl X.K q) _ m1 H1 w1 a1 (fun hs ⟨ws, k2, r2⟩ => ⟨ws, hs.sqL k2, r2.mono hs⟩) ⟨vs, .of k, r⟩ serves_list⟩⟩
theorem i_seq {t : Ty A} {x : MM T (List A)} (h : PE X l (TX c ds (tSeq X.K t) x)) : PI X tg l (SrcTI c ds t x) := PI.imp (pi_list h) fun σ H R ⟨m, st, env, p⟩ => ⟨m, st, env, p.imp fun xs s1 p v m1 H1 w1 a1 ⟨q, vs, e, k, r⟩ => by
  subst e
  exact ⟨q, rfl, ⟨vs, w1.mh.sqL k⟩, p (Itl X.K q) _ m1 H1 w1 a1 (fun hs ⟨ws, k2, r2⟩ => ⟨ws, hs.sqL k2, r2.mono hs⟩) ⟨vs, k, r⟩ serves_list⟩⟩
theorem i_tup {t : Ty A} {x : MM T (List A)} (h : PE X l (TX c ds (tVT X.K t) x)) : PI X tg l (SrcTI c ds t x) := PI.imp (pi_tup h) fun σ H R ⟨m, st, env, p⟩ => ⟨m, st, env, p.imp fun xs s1 p v m1 H1 w1 a1 ⟨q, vs, e, k, r⟩ => by
  subst e
  exact ⟨q, rfl, ⟨vs, w1.mh.sqT k⟩, p (Itt X.K q) _ m1 H1 w1 a1 (fun hs ⟨ws, k2, r2⟩ => ⟨ws, hs.sqT k2, r2.mono hs⟩) ⟨vs, k, r⟩ serves_tup⟩⟩
def oRange (n : Int) : Option (List Int) := if -(2 ^ 62) ≤ n ∧ n < 2 ^ 62 then some (rangeL 0 n) else none
def oRange2 (p : Int × Int) : Option (List Int) := if -(2 ^ 62) ≤ p.1 ∧ p.1 < 2 ^ 62 ∧ -(2 ^ 62) ≤ p.2 ∧ p.2 < 2 ^ 62 then some (rangeL p.1 p.2) else none
theorem i_range {a : Expr} {x : MM T Int} {p pos : Pos} (hm : X.mg "range" = none) (ha : PA X [a] (TAX c ds (l1 tInt) x)) (hg : Gl X "range" := by rfl) (hs : starEach [a] X.env = [(false, eval a X.env)] := by rfl) : PI X tg (.Call (.Name "range" p) [a] [] pos) (SrcTI c ds tInt (e1 oRange x)) :=
  PI.imp (pi_range1 hg hm ha hs) fun σ H R ⟨m, st, env, p⟩ => ⟨m, st, env, (Post.bnd.mp p).imp fun n s1 p vs m1 H1 w1 a1 ⟨v, e, r⟩ => by
    cases rep_int r
    obtain ⟨xs, hx, p⟩ := Post.lft.mp p
    unfold oRange at hx
    by_cases z : -(2 ^ 62) ≤ n ∧ n < 2 ^ 62
    · rw [if_pos z] at hx; cases hx
      have q := p (Itr 0 (n - 0).toNat) (fun _ => True) m1 H1 w1 a1 (fun _ _ => trivial) trivial serves_range
      rw [Int.sub_zero] at q
      exact ⟨n, e, z.1, z.2, q⟩
    · rw [if_neg z] at hx; cases hx⟩
theorem i_range2 {a b : Expr} {x : MM T (Int × Int)} {p pos : Pos} (hm : X.mg "range" = none) (ha : PA X [a, b] (TAX c ds (lc tInt (l1 tInt)) x)) (hg : Gl X "range" := by rfl) (hs : starEach [a, b] X.env = [(false, eval a X.env), (false, eval b X.env)] := by rfl) (hs2 : starEach [b] X.env = [(false, eval b X.env)] := by rfl) :
    PI X tg (.Call (.Name "range" p) [a, b] [] pos) (SrcTI c ds tInt (e1 oRange2 x)) :=
  PI.imp (pi_range2 hg hm ha hs hs2) fun σ H R ⟨m, st, env, p⟩ => ⟨m, st, env, (Post.bnd.mp p).imp fun n s1 p vs m1 H1 w1 a1 ⟨v, ws, e, r, u, e2, r2⟩ => by
    cases rep_int r; cases rep_int r2; subst e2
    obtain ⟨xs, hx, p⟩ := Post.lft.mp p
    unfold oRange2 at hx
    by_cases z : -(2 ^ 62) ≤ n.1 ∧ n.1 < 2 ^ 62 ∧ -(2 ^ 62) ≤ n.2 ∧ n.2 < 2 ^ 62
    · rw [if_pos z] at hx; cases hx
      exact ⟨n.1, n.2, e, z, p (Itr n.1 (n.2 - n.1).toNat) (fun _ => True) m1 H1 w1 a1 (fun _ _ => trivial) trivial serves_range⟩
    · rw [if_neg z] at hx; cases hx⟩
end
section
variable {tg iter : Expr} {body : List Stmt} {g : TG} {t : Ty A} {is : List Nat} {bd : A → List Desc → List Desc} {x : MM T (List A)} {s0 : B} {dsL : B → List Desc} {u : Ty R}
theorem s_for {f : B → A → MM T B} (hp : PassesOwn (model X.prog X.w) X.A X.env X.xe) (hc : X.calm = true) (hi : PI X tg iter (SrcTI c ds t x)) (hg : PG X tg g) (ht : ∀ q (hq : ∀ {m n : Hp}, Sub m n → q m → q n), TgtOk (c.pinned q hq) g t is bd) (w0 : Weak ds (dsL s0))
    (hb : ∀ q (hq : ∀ {m n : Hp}, Sub m n → q m → q n) s a, PSs X body (BX (c.pinned q hq) (bd a (dsL s)) (f s a) (EN (c.pinned q hq) dsL))) (hs : ∀ x, foldedSetIterable iter X.env x = pure x := by intro _; rfl) :
    PS X (.For tg iter body [] pos) (BX c ds (bnd x fun xs => forM xs s0 f) (EN c dsL)) := by
  have hb' := PSs.any (I := { q : Hp → Prop // ∀ {m n : Hp}, Sub m n → q m → q n } × B × A) fun j => hb j.1.1 j.1.2 j.2.1 j.2.2
  refine PS.imp (ps_for hp hc hi hg hb' hs) fun D σ H ⟨m, st, env, p⟩ => ⟨m, st, env, (Post.bnd.mp p).imp fun xs s1 p J q m1 H1 w1 a1 hq q1 sv => ?_⟩
  refine ⟨fun i n σ H => n = xs.length - i ∧ i ≤ xs.length ∧ ∃ m st s, EnvOk (c.pinned q hq) σ m H (dsL s) st ∧ Post (forM (xs.drop i) s f st) (fun s' st' => EN c dsL s' st' D) c.err, ⟨xs.length, by simp, Nat.zero_le _, m1, s1, s0, ((env.go w1 a1).weak w0).pinned q1, p⟩, ?_⟩
  rintro i n σ' H' ⟨rfl, hi', m', st', s', env', p'⟩
  obtain ⟨sv1, sv2⟩ := sv i H' ⟨m', env'.pin.2, env'.mh⟩
  by_cases hlt : i < xs.length
  · obtain ⟨g1, g2⟩ := sv1 hlt
    refine .inr ⟨g1, fun σ2 H2 => ∃ m st s, EnvOk (c.pinned q hq) σ2 m H2 (dsL s) st ∧ Post (forM (xs.drop (i + 1)) s f st) (fun s' st' => EN c dsL s' st' D) c.err, fun σ2 H2 ⟨m2, st2, s2, e2, p2⟩ => ⟨xs.length - (i + 1), by omega, rfl, hlt, m2, st2, s2, e2, p2⟩, fun v H2 y => ?_⟩
    obtain ⟨rfl, y2⟩ := g2 v H2 y
    obtain ⟨a, ha, ra⟩ := y2 m' env'.pin.2 env'.mh
    rw [List.getElem?_eq_getElem hlt] at ha
    cases ha
    rw [List.drop_eq_getElem_cons hlt] at p'
    refine ht q hq _ v σ' m' H2 _ st' _ ra env' fun σ3 env3 _ => ⟨⟨⟨q, hq⟩, s', xs[i]⟩, m', st', env3, (Post.bnd.mp p').imp fun s4 st4 p4 σ5 m5 H5 env5 => ⟨m5, st4, s4, env5, p4⟩⟩
  · have e : xs.drop i = [] := List.drop_eq_nil_of_le (by omega)
    rw [e] at p'
    exact .inl ⟨sv2 (by omega), p' σ' m' H' env'.unpin⟩
theorem s_forR {f : B → A → MM T (Sum R B)} (hp : PassesOwn (model X.prog X.w) X.A X.env X.xe) (hc : X.calm = true) (hi : PI X tg iter (SrcTI c ds t x)) (hg : PG X tg g) (ht : ∀ q (hq : ∀ {m n : Hp}, Sub m n → q m → q n), TgtOk (c.pinned q hq) g t is bd) (w0 : Weak ds (dsL s0))
    (hb : ∀ q (hq : ∀ {m n : Hp}, Sub m n → q m → q n) s a, PSs X body (BX (c.pinned q hq) (bd a (dsL s)) (f s a) (ENR (c.pinned q hq) u dsL))) (hs : ∀ x, foldedSetIterable iter X.env x = pure x := by intro _; rfl) :
    PS X (.For tg iter body [] pos) (BX c ds (bnd x fun xs => forR xs s0 f) (ENR c u dsL)) := by
  have hb' := PSs.any (I := { q : Hp → Prop // ∀ {m n : Hp}, Sub m n → q m → q n } × B × A) fun j => hb j.1.1 j.1.2 j.2.1 j.2.2
  refine PS.imp (ps_for hp hc hi hg hb' hs) fun D σ H ⟨m, st, env, p⟩ => ⟨m, st, env, (Post.bnd.mp p).imp fun xs s1 p J q m1 H1 w1 a1 hq q1 sv => ?_⟩
  refine ⟨fun i n σ H => n = xs.length - i ∧ i ≤ xs.length ∧ ∃ m st s, EnvOk (c.pinned q hq) σ m H (dsL s) st ∧ Post (forR (xs.drop i) s f st) (fun s' st' => ENR c u dsL s' st' D) c.err, ⟨xs.length, by simp, Nat.zero_le _, m1, s1, s0, ((env.go w1 a1).weak w0).pinned q1, p⟩, ?_⟩
  rintro i n σ' H' ⟨rfl, hi', m', st', s', env', p'⟩
  obtain ⟨sv1, sv2⟩ := sv i H' ⟨m', env'.pin.2, env'.mh⟩
  by_cases hlt : i < xs.length
  · obtain ⟨g1, g2⟩ := sv1 hlt
    refine .inr ⟨g1, fun σ2 H2 => ∃ m st s, EnvOk (c.pinned q hq) σ2 m H2 (dsL s) st ∧ Post (forR (xs.drop (i + 1)) s f st) (fun s' st' => ENR c u dsL s' st' D) c.err, fun σ2 H2 ⟨m2, st2, s2, e2, p2⟩ => ⟨xs.length - (i + 1), by omega, rfl, hlt, m2, st2, s2, e2, p2⟩, fun v H2 y => ?_⟩
    obtain ⟨rfl, y2⟩ := g2 v H2 y
    obtain ⟨a, ha, ra⟩ := y2 m' env'.pin.2 env'.mh
    rw [List.getElem?_eq_getElem hlt] at ha
    cases ha
    rw [List.drop_eq_getElem_cons hlt] at p'
    refine ht q hq _ v σ' m' H2 _ st' _ ra env' fun σ3 env3 _ => ⟨⟨⟨q, hq⟩, s', xs[i]⟩, m', st', env3, (Post.bnd.mp p').imp fun s4 st4 p4 => ?_⟩
    cases s4 with
    | inl r => exact p4
    | inr s5 => exact fun σ5 m5 H5 env5 => ⟨m5, st4, s5, env5, p4⟩
  · have e : xs.drop i = [] := List.drop_eq_nil_of_le (by omega)
    rw [e] at p'
    exact .inl ⟨sv2 (by omega), p' σ' m' H' env'.unpin⟩
theorem s_while {cnd : Expr} {f : B → MM T B} {tt : B → MM T Bool} (n : Nat) (hp : PassesOwn (model X.prog X.w) X.A X.env X.xe) (w0 : Weak ds (dsL s0)) (hc : ∀ s, PT X cnd (TTX c (dsL s) (tt s))) (hb : ∀ s, PSs X body (BX c (dsL s) (f s) (EN c dsL))) :
    PS X (.While cnd body [] pos) (BX c ds (whileM n tt f s0) (EN c dsL)) := by
  refine PS.imp (ps_while hp (PT.any hc) (PSs.any hb)) fun D σ H ⟨m, st, env, p⟩ => ?_
  refine ⟨fun n σ H => ∃ m st s, EnvOk c σ m H (dsL s) st ∧ Post (whileM n tt f s st) (fun s' st' => EN c dsL s' st' D) c.err, ⟨n, m, st, s0, env.weak w0, p⟩, ?_⟩
  rintro n σ' H' ⟨m', st', s', env', p'⟩
  cases n with
  | zero => exact p'.elim
  | succ n =>
    refine ⟨s', m', st', env', (Post.bnd.mp p').imp fun b s1 p m1 H1 w1 a1 => ?_⟩
    cases b with
    | true =>
      rw [if_pos rfl] at p ⊢
      exact ⟨fun σ2 H2 => ∃ m st s, EnvOk c σ2 m H2 (dsL s) st ∧ Post (whileM n tt f s st) (fun s' st' => EN c dsL s' st' D) c.err, fun σ2 H2 h => ⟨n, Nat.lt_succ_self n, h⟩, s', m1, s1, env'.go w1 a1, (Post.bnd.mp p).imp fun s4 st4 p4 σ5 m5 H5 env5 => ⟨m5, st4, s4, env5, p4⟩⟩
    | false =>
      rw [if_neg Bool.false_ne_true] at p ⊢
      exact p σ' m1 H1 (env'.go w1 a1)
theorem s_whileR {cnd : Expr} {f : B → MM T (Sum R B)} {tt : B → MM T Bool} (n : Nat) (hp : PassesOwn (model X.prog X.w) X.A X.env X.xe) (w0 : Weak ds (dsL s0)) (hc : ∀ s, PT X cnd (TTX c (dsL s) (tt s))) (hb : ∀ s, PSs X body (BX c (dsL s) (f s) (ENR c u dsL))) :
    PS X (.While cnd body [] pos) (BX c ds (whileR n tt f s0) (ENR c u dsL)) := by
  refine PS.imp (ps_while hp (PT.any hc) (PSs.any hb)) fun D σ H ⟨m, st, env, p⟩ => ?_
  refine ⟨fun n σ H => ∃ m st s, EnvOk c σ m H (dsL s) st ∧ Post (whileR n tt f s st) (fun s' st' => ENR c u dsL s' st' D) c.err, ⟨n, m, st, s0, env.weak w0, p⟩, ?_⟩
  rintro n σ' H' ⟨m', st', s', env', p'⟩
  cases n with
  | zero => exact p'.elim
  | succ n =>
    refine ⟨s', m', st', env', (Post.bnd.mp p').imp fun b s1 p m1 H1 w1 a1 => ?_⟩
    cases b with
    | true =>
      rw [if_pos rfl] at p ⊢
      refine ⟨fun σ2 H2 => ∃ m st s, EnvOk c σ2 m H2 (dsL s) st ∧ Post (whileR n tt f s st) (fun s' st' => ENR c u dsL s' st' D) c.err, fun σ2 H2 h => ⟨n, Nat.lt_succ_self n, h⟩, s', m1, s1, env'.go w1 a1, (Post.bnd.mp p).imp fun s4 st4 p4 => ?_⟩
      cases s4 with
      | inl r => exact p4
      | inr s5 => exact fun σ5 m5 H5 env5 => ⟨m5, st4, s5, env5, p4⟩
    | false =>
      rw [if_neg Bool.false_ne_true] at p ⊢
      exact p σ' m1 H1 (env'.go w1 a1)
end
end
end WL

/-! WLD: lists that are made and changed, comprehensions, == of data, the defs. -/
namespace WL
open PySem PySem.Spec PyProof.Rows L2

/-! ### new lists -/
/-- a rule whose answer is a new object -/
def Op2O {A B C : Type} (r : R2) (t1 : Ty A) (t2 : Ty B) (o : OTy C) (f : A → B → Option C) : Prop := ∀ (a : A) (b : B) (g : C) (v1 v2 : V) (m H : Hp) (Q : VK), t1.rep a v1 m → t2.rep b v2 m → Sub m H → f a b = some g →
  (∀ v fp m' H', WStep [] m H m' H' → (∀ p ∈ fp, H p = none ∧ m' p = none) → o.rep g v fp H' m' → Q v H') → r v1 v2 H Q
def OpLO {A C : Type} (r : List V → Hp → VK → Prop) (l : LTy A) (o : OTy C) (f : A → Option C) : Prop := ∀ (a : A) (g : C) (vs : List V) (m H : Hp) (Q : VK), l.rep a vs m → Sub m H → f a = some g →
  (∀ v fp m' H', WStep [] m H m' H' → (∀ p ∈ fp, H p = none ∧ m' p = none) → o.rep g v fp H' m' → Q v H') → r vs H Q
theorem newList {A : Type} {t : Ty A} {as : List A} {vs : List V} {m H : Hp} {Q : VK} {p : Addr} (hm : Sub m H) (r : Reps t m as vs) (hp : H p = none)
    (q : ∀ v fp m' H', WStep [] m H m' H' → (∀ p ∈ fp, H p = none ∧ m' p = none) → (oList t).rep as v fp H' m' → Q v H') : Q (.ref p) (upd H p (.lst vs)) :=
  q (.ref p) [p] m _ (.own hm hp) (fun y hy => by obtain rfl := List.mem_singleton.mp hy; exact ⟨hp, hm.free hp⟩) ⟨p, vs, rfl, rfl, upd_same, r⟩
section
variable {T A B C : Type} {c : Ctx T} {ds : List Desc} {t1 : Ty A} {t2 : Ty B} {o : OTy C} {σ : L2.St} {H : Hp} {Q : VK}
theorem fresh_up {S : List Addr} {m H m1 H1 : Hp} (w : WStep S m H m1 H1) {p : Addr} (h : H1 p = none) : H p = none := by
  cases z : H p with
  | none => rfl
  | some u => exact absurd h (w.dm p (by rw [z]; exact fun y => nomatch y))
theorem rd_op2O {r : R2} {f : A → B → Option C} {xa : MM T A} {xb : MM T B} (hs : Op2O r t1 t2 o f) (h : TXO c ds o (e2 f xa xb) σ H Q) : tOp r (TX c ds t1 xa) (TX c ds t2 xb) σ H Q := by
  obtain ⟨m, st, env, p⟩ := h
  unfold e2 at p
  refine ⟨m, st, env, (Post.bnd.mp p).imp fun a s1 p v1 m1 H1 w1 a1 r1 => ?_⟩
  refine ⟨m1, s1, env.go w1 a1, (Post.bnd.mp p).imp fun b s2 p v2 m2 H2 w2 a2 r2 => ?_⟩
  obtain ⟨g, e, p⟩ := Post.lft.mp p
  exact hs a b g v1 v2 m2 H2 Q (t1.mono w2.mm r1) r2 w2.mh e fun v fp m' H' w3 n3 r3 => p v fp m' H' ((w1.trans w2).trans w3.wide) (EnvOk.ambGrow a2 w3) (fun q hq => ⟨fresh_up (w1.trans w2) (n3 q hq).1, (n3 q hq).2⟩) r3
theorem rd_opLO {r : List V → Hp → VK → Prop} {l : LTy A} {f : A → Option C} {xa : MM T A} (hs : OpLO r l o f) (h : TXO c ds o (e1 f xa) σ H Q) : tCB r (TAX c ds l xa) σ H Q := by
  obtain ⟨m, st, env, p⟩ := h
  unfold e1 at p
  refine ⟨m, st, env, (Post.bnd.mp p).imp fun a s1 p vs m1 H1 w1 a1 r1 => ?_⟩
  obtain ⟨g, e, p⟩ := Post.lft.mp p
  exact hs a g vs m1 H1 Q r1 w1.mh e fun v fp m' H' w3 n3 r3 => p v fp m' H' (w1.trans w3.wide) (EnvOk.ambGrow a1 w3) (fun q hq => ⟨fresh_up w1 (n3 q hq).1, (n3 q hq).2⟩) r3
end
section
variable {X : Cx} {T A B C : Type} {c : Ctx T} {ds : List Desc} {t1 : Ty A} {t2 : Ty B} {o : OTy C} {pos : Pos} {a b e : Expr}
theorem x_binO {op : Operator} {r : R2} {f : A → B → Option C} {xa : MM T A} {xb : MM T B} (ho : OpR X (binaryOp op) r) (hs : Op2O r t1 t2 o f) (ha : PE X a (TX c ds t1 xa)) (hb : PE X b (TX c ds t2 xb)) :
    PE X (.BinOp a op b pos) (TXO c ds o (e2 f xa xb)) := PE.imp (pe_op ho ha hb) fun _ _ _ h => rd_op2O hs h
theorem x_callBO {x : Str} {id : String} {r : List V → Hp → VK → Prop} {l : LTy A} {f : A → Option C} {xa : MM T A} {p : Pos} {es : List Expr} (hc : CallR X (.builtin id) r) (hs : OpLO r l o f) (hm : X.mg x = none) (hv : bootBuiltins x = some (.builtin id))
    (ha : PA X (e :: es) (TAX c ds l xa)) (hg : Gl X x := by rfl) (hn : x ≠ "__name__" := by decide) (hdb : (x == ("__debug__" : Str)) = false := by decide)
    (he : starEach (e :: es) X.env = (false, eval e X.env) :: starEach es X.env := by rfl) (hpl : (backTo pos (starEach es X.env)).any (·.1) = false := by rfl) :
    PE X (.Call (.Name x p) (e :: es) [] pos) (TXO c ds o (e1 f xa)) := PE.imp (pe_callB hc hg hm hv ha hn hdb he hpl) fun _ _ _ h => rd_opLO hs h
theorem x_callTyO {x : Str} {id : String} {r : List V → Hp → VK → Prop} {l : LTy A} {f : A → Option C} {xa : MM T A} {p : Pos} {es : List Expr} (hc : CallR X (.type id) r) (hs : OpLO r l o f) (hm : X.mg x = none) (hv : bootBuiltins x = some (.type id))
    (ha : PA X (e :: es) (TAX c ds l xa)) (hg : Gl X x := by rfl) (hn : x ≠ "__name__" := by decide) (hdb : (x == ("__debug__" : Str)) = false := by decide)
    (he : starEach (e :: es) X.env = (false, eval e X.env) :: starEach es X.env := by rfl) (hpl : (backTo pos (starEach es X.env)).any (·.1) = false := by rfl) :
    PE X (.Call (.Name x p) (e :: es) [] pos) (TXO c ds o (e1 f xa)) := PE.imp (pe_callTy hc hg hm hv ha hn hdb he hpl) fun _ _ _ h => rd_opLO hs h
end
/-! list(..), tuple(..), +, * -/
def rListOf (K : PySem.W.Frag) : List V → Hp → VK → Prop := fun xs H Q => ∃ p ys, xs = [.ref p] ∧ (SqL K H p ys ∨ SqT K H p ys) ∧ ∀ l, H l = none → Q (.ref l) (upd H l (.lst ys))
theorem call_list' {X : Cx} : CallR X (.type "list") (rListOf X.K) := call_list_of
def oCopy {A : Type} (xs : List A) : Option (List A) := some xs
section
variable {A : Type} {K : PySem.W.Frag} {t : Ty A}
theorem sp_listL : OpLO (rListOf K) (l1 (tList t)) (oList t) oCopy := fun a g vs m H Q ⟨v, ev, p, us, e1, k, r⟩ hm e q => by
  cases e; subst ev e1
  exact ⟨p, us, rfl, .inl (.of (hm _ _ k)), fun l hl => newList hm r hl q⟩
theorem sp_listS : OpLO (rListOf K) (l1 (tSeq K t)) (oList t) oCopy := fun a g vs m H Q ⟨v, ev, p, us, e1, k, r⟩ hm e q => by
  cases e; subst ev e1
  exact ⟨p, us, rfl, .inl (hm.sqL k), fun l hl => newList hm r hl q⟩
theorem sp_listT : OpLO (rListOf K) (l1 (tVT K t)) (oList t) oCopy := fun a g vs m H Q ⟨v, ev, p, us, e1, k, r⟩ hm e q => by
  cases e; subst ev e1
  exact ⟨p, us, rfl, .inr (hm.sqT k), fun l hl => newList hm r hl q⟩
def rTupleOf (K : PySem.W.Frag) : List V → Hp → VK → Prop := fun xs H Q => ∃ p ys, xs = [.ref p] ∧ ((SqL K H p ys ∧ ∀ l, H l = none → Q (.ref l) (upd H l (.tup ys))) ∨ (SqT K H p ys ∧ Q (.ref p) H))
theorem call_tuple' {X : Cx} : CallR X (.type "tuple") (rTupleOf X.K) := call_tuple_of
theorem sp_tupL : OpL (rTupleOf K) (l1 (tList t)) (tVT K t) oCopy := fun a g vs m H Q ⟨v, ev, p, us, e1, k, r⟩ hm e q => by
  cases e; subst ev e1
  refine ⟨p, us, rfl, .inl ⟨.of (hm _ _ k), fun l hl => ?_⟩⟩
  have w : WStep [] m H (upd m l (.tup us)) (upd H l (.tup us)) := .new hm hl
  exact q _ _ _ w ⟨l, us, rfl, .of upd_same, r.mono w.mm⟩
theorem sp_tupT : OpL (rTupleOf K) (l1 (tVT K t)) (tVT K t) oCopy := fun a g vs m H Q ⟨v, ev, p, us, e1, k, r⟩ hm e q => by
  cases e; subst ev e1
  exact ⟨p, us, rfl, .inr ⟨hm.sqT k, q _ m H (.refl hm) ⟨p, us, rfl, k, r⟩⟩⟩
def oCat (xs ys : List A) : Option (List A) := if xs.length + ys.length ≤ 100000 then some (xs ++ ys) else none
theorem sp_cat : Op2O rCat (tList t) (tList t) (oList t) oCat := fun a b g v1 v2 m H Q ⟨p, us, e1, k, r⟩ ⟨p2, us2, e2, k2, r2⟩ hm e q => by
  unfold oCat at e
  by_cases z : a.length + b.length ≤ 100000
  · rw [if_pos z] at e; cases e
    refine ⟨p, p2, us, us2, e1, e2, hm _ _ k, hm _ _ k2, ?_, fun l hl => newList hm (r.append r2) hl q⟩
    rw [← r.length, ← r2.length]; exact Nat.le_trans z (by decide)
  · rw [if_neg z] at e; cases e
def oRep (xs : List A) (n : Int) : Option (List A) := if -(2 ^ 62) ≤ n ∧ n < 2 ^ 62 ∧ xs.length * n.toNat ≤ 100000 then some (List.replicate n.toNat xs).flatten else none
theorem Reps.flat {m : Hp} {xs : List A} {us : List V} (r : Reps t m xs us) : ∀ n : Nat, Reps t m (List.replicate n xs).flatten (List.replicate n us).flatten
  | 0 => .nil
  | n + 1 => by rw [List.replicate_succ, List.replicate_succ, List.flatten_cons, List.flatten_cons]; exact r.append (r.flat n)
theorem sp_rep : Op2O rRep (tList t) tInt (oList t) oRep := fun a b g v1 v2 m H Q ⟨p, us, e1, k, r⟩ r2 hm e q => by
  cases rep_int r2
  unfold oRep at e
  by_cases z : -(2 ^ 62) ≤ b ∧ b < 2 ^ 62 ∧ a.length * b.toNat ≤ 100000
  · rw [if_pos z] at e; cases e
    refine ⟨p, b, us, e1, rfl, hm _ _ k, by omega, by omega, ?_, fun l hl => newList hm (r.flat _) hl q⟩
    rw [← r.length]; exact Nat.le_trans z.2.2 (by decide)
  · rw [if_neg z] at e; cases e
/-- a slice of a list -/
def cutL (xs : List A) (lo hi : Option Int) : List A := (xs.drop (HT.sIx xs.length 0 lo)).take (HT.sIx xs.length xs.length hi - HT.sIx xs.length 0 lo)
theorem Reps.cut {m : Hp} {xs : List A} {us : List V} (r : Reps t m xs us) (lo hi : Option Int) : Reps t m (cutL xs lo hi) (cutV us lo hi) := by
  unfold cutL cutV
  rw [r.length]
  exact (r.drop _).take _
end
section
variable {X : Cx} {T A B C : Type} {c : Ctx T} {ds : List Desc} {t : Ty A} {pos p2 : Pos} {a b e : Expr}
/-- a part of a slice -/
def TPX (c : Ctx T) (ds : List Desc) (x : MM T (Option Int)) : TO := fun σ H Q => ∃ m st, EnvOk c σ m H ds st ∧ Post (x st) (fun o st' => ∀ m' H', WStep c.afp m H m' H' → c.amb st' H' m' → Q o H') c.err
theorem p_none : PO X none (TPX c ds (ret none)) := ⟨fun pins s σ H Q I ⟨m, st, env, p⟩ => po_none.run pins s σ H Q I (p m H (.refl env.mh) env.amb)⟩
theorem p_some {xa : MM T Int} (h : PE X e (TX c ds tInt xa)) : PO X (some e) (TPX c ds (e1 (fun i => some (some i)) xa)) := ⟨fun pins s σ H Q I ⟨m, st, env, p⟩ => (po_some h).run pins s σ H Q I
  ⟨m, st, env, (Post.bnd.mp p).imp fun i s1 p v m1 H1 w1 a1 r1 => ⟨i, r1, p m1 H1 w1 a1⟩⟩⟩
def e3p (f : A → Option Int → Option Int → Option C) (x : MM T A) (y z : MM T (Option Int)) : MM T C := bnd x fun a => bnd y fun l => bnd z fun h => lft (f a l h)
def oCut {A : Type} (xs : List A) (lo hi : Option Int) : Option (List A) := some (cutL xs lo hi)
theorem x_slL {lo hi : Option Expr} {xe : MM T (List A)} {xl xh : MM T (Option Int)} (he : PE X e (TX c ds (tList t) xe)) (hl : PO X lo (TPX c ds xl)) (hh : PO X hi (TPX c ds xh)) :
    PE X (.Subscript e (.Slice lo hi none p2) pos) (TXO c ds (oList t) (e3p oCut xe xl xh)) := PE.imp (pe_slice sl_list he hl hh) fun σ H Q ⟨m, st, env, p⟩ => by
  unfold e3p at p
  refine ⟨m, st, env, (Post.bnd.mp p).imp fun xs s1 p v1 m1 H1 w1 a1 ⟨q, us, e1, k, r⟩ => ?_⟩
  refine ⟨m1, s1, env.go w1 a1, (Post.bnd.mp p).imp fun l s2 p m2 H2 w2 a2 => ?_⟩
  refine ⟨m2, s2, (env.go w1 a1).go w2 a2, (Post.bnd.mp p).imp fun h s3 p m3 H3 w3 a3 => ?_⟩
  refine ⟨q, us, e1, .of (w3.mh _ _ (w3.mm _ _ (w2.mm _ _ k))), fun x hx => ?_⟩
  have w := (w1.trans w2).trans w3
  exact newList w.mh ((r.mono (w2.mm.trans w3.mm)).cut l h) hx fun v fp m' H' w4 n4 r4 => p v fp m' H' (w.trans w4.wide) (EnvOk.ambGrow a3 w4) (fun y hy => ⟨fresh_up w (n4 y hy).1, (n4 y hy).2⟩) r4
/-- the same, of a list that is read alone (the script) -/
theorem x_slS {lo hi : Option Expr} {xe : MM T (List A)} {xl xh : MM T (Option Int)} (he : PE X e (TX c ds (tSeq X.K t) xe)) (hl : PO X lo (TPX c ds xl)) (hh : PO X hi (TPX c ds xh)) :
    PE X (.Subscript e (.Slice lo hi none p2) pos) (TXO c ds (oList t) (e3p oCut xe xl xh)) := PE.imp (pe_slice sl_list he hl hh) fun σ H Q ⟨m, st, env, p⟩ => by
  unfold e3p at p
  refine ⟨m, st, env, (Post.bnd.mp p).imp fun xs s1 p v1 m1 H1 w1 a1 ⟨q, us, e1, k, r⟩ => ?_⟩
  refine ⟨m1, s1, env.go w1 a1, (Post.bnd.mp p).imp fun l s2 p m2 H2 w2 a2 => ?_⟩
  refine ⟨m2, s2, (env.go w1 a1).go w2 a2, (Post.bnd.mp p).imp fun h s3 p m3 H3 w3 a3 => ?_⟩
  refine ⟨q, us, e1, w3.mh.sqL ((w2.mm.trans w3.mm).sqL k), fun x hx => ?_⟩
  have w := (w1.trans w2).trans w3
  exact newList w.mh ((r.mono (w2.mm.trans w3.mm)).cut l h) hx fun v fp m' H' w4 n4 r4 => p v fp m' H' (w.trans w4.wide) (EnvOk.ambGrow a3 w4) (fun y hy => ⟨fresh_up w (n4 y hy).1, (n4 y hy).2⟩) r4
end

/-! ### == of data -/
structure EqT {A : Type} [DecidableEq A] (K : PySem.W.Frag) (t : Ty A) (n : Nat) where
  enc : A → PyData
  dp : ∀ a v m H, t.rep a v m → Sub m H → Dp K H v (enc a)
  eqv : ∀ a b, PyData.eqv (enc a) (enc b) = decide (a = b)
  lay : ∀ a, (enc a).canLay0 = true
  dep : ∀ a, (enc a).depth ≤ n
section
variable {A B : Type} [DecidableEq A] [DecidableEq B] {K : PySem.W.Frag} {t : Ty A} {u : Ty B} {n k : Nat}
def eq_int : EqT K tInt 0 where
  enc := .int
  dp := fun a v m H r _ => by cases rep_int r; exact .int a
  eqv := fun a b => by by_cases h : a = b <;> simp [PyData.eqv, h]
  lay := fun a => rfl
  dep := fun a => Nat.le_refl _
def eq_bool : EqT K tBool 0 where
  enc := .bool
  dp := fun a v m H r _ => by cases rep_bool r; exact .bl a
  eqv := fun a b => by cases a <;> cases b <;> rfl
  lay := fun a => rfl
  dep := fun a => Nat.le_refl _
theorem eqvAll_map (e : EqT K t n) : ∀ (xs ys : List A), PyData.eqvAll (xs.map e.enc) (ys.map e.enc) = decide (xs = ys)
  | [], [] => by simp [PyData.eqvAll]
  | [], y :: ys => by simp [PyData.eqvAll]
  | x :: xs, [] => by simp [PyData.eqvAll]
  | x :: xs, y :: ys => by
    simp only [List.map_cons, PyData.eqvAll, e.eqv, eqvAll_map e xs ys, List.cons.injEq]
    by_cases h1 : x = y <;> by_cases h2 : xs = ys <;> simp [h1, h2]
theorem layAll_map (e : EqT K t n) : ∀ (xs : List A), PyData.canLayAll0 (xs.map e.enc) = true
  | [] => rfl
  | x :: xs => by simp only [List.map_cons, PyData.canLayAll0, e.lay, layAll_map e xs, Bool.and_self]
theorem depAll_map (e : EqT K t n) : ∀ (xs : List A), PyData.depthAll (xs.map e.enc) ≤ n
  | [] => Nat.zero_le _
  | x :: xs => by simp only [List.map_cons, PyData.depthAll]; exact Nat.max_le.mpr ⟨e.dep x, depAll_map e xs⟩
theorem dpAll_map (e : EqT K t n) {m H : Hp} (hm : Sub m H) : ∀ {xs : List A} {vs : List V}, Reps t m xs vs → DpAll K H vs (xs.map e.enc) := by
  intro xs vs r
  induction r with
  | nil => exact .nil
  | cons x _ ih => exact .cons (e.dp _ _ _ _ x hm) ih
def eq_list (e : EqT K t n) : EqT K (tList t) (n + 1) where
  enc := fun xs => .list (xs.map e.enc)
  dp := fun a v m H ⟨p, vs, ev, k, r⟩ hm => by subst ev; exact .lst (.of (hm _ _ k)) (dpAll_map e hm r)
  eqv := fun a b => by simp only [PyData.eqv]; exact eqvAll_map e a b
  lay := fun a => by simp only [PyData.canLay0]; exact layAll_map e a
  dep := fun a => by simp only [PyData.depth]; exact Nat.succ_le_succ (depAll_map e a)
def eq_seq (e : EqT K t n) : EqT K (tSeq K t) (n + 1) where
  enc := fun xs => .list (xs.map e.enc)
  dp := fun a v m H ⟨p, vs, ev, k, r⟩ hm => by subst ev; exact .lst (hm.sqL k) (dpAll_map e hm r)
  eqv := fun a b => by simp only [PyData.eqv]; exact eqvAll_map e a b
  lay := fun a => by simp only [PyData.canLay0]; exact layAll_map e a
  dep := fun a => by simp only [PyData.depth]; exact Nat.succ_le_succ (depAll_map e a)
def eq_vt (e : EqT K t n) : EqT K (tVT K t) (n + 1) where
  enc := fun xs => .tuple (xs.map e.enc)
  dp := fun a v m H ⟨p, vs, ev, k, r⟩ hm => by subst ev; exact .tup (hm.sqT k) (dpAll_map e hm r)
  eqv := fun a b => by simp only [PyData.eqv]; exact eqvAll_map e a b
  lay := fun a => by simp only [PyData.canLay0]; exact layAll_map e a
  dep := fun a => by simp only [PyData.depth]; exact Nat.succ_le_succ (depAll_map e a)
/-- a value or None -/
def eq_opt (e : EqT K t n) (nn : ∀ a, PyData.eqv .none (e.enc a) = false ∧ PyData.eqv (e.enc a) .none = false) : EqT K (tOpt t) n where
  enc := fun o => match o with
    | none => .none
    | some a => e.enc a
  dp := fun a v m H r hm => by
    cases a with
    | none => have : v = .non := r; subst this; exact .non
    | some a => exact e.dp a v m H r hm
  eqv := fun a b => by
    cases a <;> cases b
    · rfl
    · simp [(nn _).1]
    · simp [(nn _).2]
    · simp [e.eqv]
  lay := fun a => by cases a with
    | none => rfl
    | some a => exact e.lay a
  dep := fun a => by cases a with
    | none => exact Nat.zero_le _
    | some a => exact e.dep a
theorem shaped_of (e : EqT K t n) (h : n ≤ 64) (a : A) : SeqAt.shaped (e.enc a) = true := by
  unfold SeqAt.shaped
  rw [e.lay a, decide_eq_true (Nat.le_trans (e.dep a) h)]
  rfl
theorem sp_eqD (e : EqT K t n) (e' : EqT K u k) (f : A → B → Option Bool) (hf : ∀ a b, f a b = some (PyData.eqv (e.enc a) (e'.enc b))) (h : n ≤ 64) (h' : k ≤ 64) : Op2 (rEqD K) t u tBool f := fun a b g v1 v2 m H Q r1 r2 hm eg q => by
  rw [hf] at eg; cases eg
  exact ⟨e.enc a, e'.enc b, e.dp _ _ _ _ r1 hm, e'.dp _ _ _ _ r2 hm, shaped_of e h a, shaped_of e' h' b, q _ m H (.refl hm) rfl⟩
theorem sp_deq (e : EqT K t n) (h : n ≤ 64 := by decide) : Op2 (rEqD K) t t tBool oEq := fun a b g v1 v2 m H Q r1 r2 hm eg q => by
  cases eg
  exact ⟨e.enc a, e.enc b, e.dp _ _ _ _ r1 hm, e.dp _ _ _ _ r2 hm, shaped_of e h a, shaped_of e h b, q _ m H (.refl hm) (by rw [e.eqv]; rfl)⟩
theorem sp_dne (e : EqT K t n) (h : n ≤ 64 := by decide) : Op2 (rNeD K) t t tBool oNe := fun a b g v1 v2 m H Q r1 r2 hm eg q => by
  cases eg
  exact ⟨e.enc a, e.enc b, e.dp _ _ _ _ r1 hm, e.dp _ _ _ _ r2 hm, shaped_of e h a, shaped_of e h b, q _ m H (.refl hm) (by rw [e.eqv]; rfl)⟩
/-- a list that stays against one that is read alone -/
theorem sp_dneS (e : EqT K t n) (h : n + 1 ≤ 64 := by decide) : Op2 (rNeD K) (tList t) (tSeq K t) tBool oNe := fun a b g v1 v2 m H Q r1 r2 hm eg q => by
  cases eg
  exact ⟨_, _, (eq_list e).dp _ _ _ _ r1 hm, (eq_seq e).dp _ _ _ _ r2 hm, shaped_of (eq_list e) h a, shaped_of (eq_seq e) h b, q _ m H (.refl hm) (by rw [show (eq_seq e).enc b = (eq_list e).enc b from rfl, (eq_list e).eqv]; rfl)⟩
end
structure EqL {A : Type} [DecidableEq A] (K : PySem.W.Frag) (l : LTy A) (n : Nat) where
  enc : A → List PyData
  dp : ∀ a vs m H, l.rep a vs m → Sub m H → DpAll K H vs (enc a)
  eqv : ∀ a b, PyData.eqvAll (enc a) (enc b) = decide (a = b)
  lay : ∀ a, PyData.canLayAll0 (enc a) = true
  dep : ∀ a, PyData.depthAll (enc a) ≤ n
section
variable {A B : Type} [DecidableEq A] [DecidableEq B] {K : PySem.W.Frag} {t : Ty A} {u : Ty B} {l : LTy B} {n k : Nat}
def el_1 (e : EqT K t n) : EqL K (l1 t) n where
  enc := fun a => [e.enc a]
  dp := fun a vs m H ⟨v, ev, r⟩ hm => by subst ev; exact .cons (e.dp _ _ _ _ r hm) .nil
  eqv := fun a b => by simp only [PyData.eqvAll, e.eqv, Bool.and_true]
  lay := fun a => by simp only [PyData.canLayAll0, e.lay, Bool.and_self]
  dep := fun a => by simp only [PyData.depthAll]; exact Nat.max_le.mpr ⟨e.dep a, Nat.zero_le _⟩
def el_c (e : EqT K t n) (f : EqL K l k) : EqL K (lc t l) (max n k) where
  enc := fun a => e.enc a.1 :: f.enc a.2
  dp := fun a vs m H ⟨v, ws, ev, r, q⟩ hm => by subst ev; exact .cons (e.dp _ _ _ _ r hm) (f.dp _ _ _ _ q hm)
  eqv := fun a b => by
    obtain ⟨a1, a2⟩ := a
    obtain ⟨b1, b2⟩ := b
    simp only [PyData.eqvAll, e.eqv, f.eqv, Prod.mk.injEq]
    by_cases h1 : a1 = b1 <;> by_cases h2 : a2 = b2 <;> simp [h1, h2]
  lay := fun a => by simp only [PyData.canLayAll0, e.lay, f.lay, Bool.and_self]
  dep := fun a => by
    simp only [PyData.depthAll]
    exact Nat.max_le.mpr ⟨Nat.le_trans (e.dep _) (Nat.le_max_left _ _), Nat.le_trans (f.dep _) (Nat.le_max_right _ _)⟩
def eq_tup {l : LTy A} (f : EqL K l n) : EqT K (tTup K l) (n + 1) where
  enc := fun a => .tuple (f.enc a)
  dp := fun a v m H ⟨p, vs, ev, k, r⟩ hm => by subst ev; exact .tup (hm.sqT k) (f.dp _ _ _ _ r hm)
  eqv := fun a b => by simp only [PyData.eqv]; exact f.eqv a b
  lay := fun a => by simp only [PyData.canLay0]; exact f.lay a
  dep := fun a => by simp only [PyData.depth]; exact Nat.succ_le_succ (f.dep a)
end
end WL

/-! WLE: owned lists changed, the pool, comprehensions, the defs. -/
namespace WL
open PySem PySem.Spec PyProof.Rows L2

/-! ### owned lists read -/
section
variable {X : Cx} {T A B C F : Type} {c : Ctx T} {ds : List Desc} {t : Ty A} {pos p2 p3 : Pos} {e : Expr} {P : F → T → Ends → Prop} {rest : List Stmt}
theorem own_at {σ : L2.St} {m H : Hp} {st : T} {i : Nat} {o : OTy A} {a : A} (env : EnvOk c σ m H ds st) (hd : ds[i]? = some (.own o a)) : ∃ v fp, σ[i]? = some (some v) ∧ o.rep a v fp H m := by
  obtain ⟨fps, sl, _, _⟩ := env.slots
  obtain ⟨s, fp, e1, e2, v, rfl, r, n⟩ := sl.get hd
  exact ⟨v, fp, e1, r⟩
/-- len of an owned list -/
theorem x_lenO (i : Nat) {x : Str} {xs : List A} (hm : X.mg "len" = none) (hd : ds[i]? = some (.own (oList t) xs) := by rfl) (hN : X.N[i]? = some x := by rfl) (hv : Vis X.env.scope x := by first | exact Or.inl rfl | exact Or.inr (Or.inl rfl) | exact Or.inr (Or.inr rfl))
    (h1 : (x == ("__debug__" : Str)) = false := by decide) (h2 : (x == ("__classdict__" : Str)) = false := by decide) (hg : Gl X "len" := by rfl)
    (he : starEach [.Name x p3] X.env = (false, eval (.Name x p3) X.env) :: starEach [] X.env := by rfl) (hpl : (backTo pos (starEach [] X.env)).any (·.1) = false := by rfl) :
    PE X (.Call (.Name "len" p2) [.Name x p3] [] pos) (TX c ds tInt (ret (xs.length : Int))) :=
  PE.imp (pe_callB call_len' hg hm PySem.boot_len (pa_cons (pe_var hN hv h1 h2) pa_nil he) (by decide) (by decide) he hpl) fun σ H Q ⟨m, st, env, p⟩ => by
    obtain ⟨v, fp, e1, q, us, ev, ef, k, r⟩ := own_at env hd
    subst ev
    exact ⟨_, e1, q, us, rfl, .inl (.of k), p _ m H (.refl env.mh) env.amb (by show V.int _ = V.int _; rw [r.length])⟩
/-- an item of an owned list -/
theorem x_atO (i : Nat) {x : Str} {xs : List A} {b : Expr} {xb : MM T Int} (hb : PE X b (TX c ds tInt xb)) (hd : ds[i]? = some (.own (oList t) xs) := by rfl) (hN : X.N[i]? = some x := by rfl) (hv : Vis X.env.scope x := by first | exact Or.inl rfl | exact Or.inr (Or.inl rfl) | exact Or.inr (Or.inr rfl))
    (h1 : (x == ("__debug__" : Str)) = false := by decide) (h2 : (x == ("__classdict__" : Str)) = false := by decide) (hp : PlainIx b := by exact fun _ _ => rfl) :
    PE X (.Subscript (.Name x p2) b pos) (TX c ds t (bnd xb fun k => lft (oAt xs k))) := PE.imp (pe_ix ix_list (pe_var hN hv h1 h2) hb hp) fun σ H Q ⟨m, st, env, p⟩ => by
  obtain ⟨v, fp, e1, _⟩ := own_at env hd
  refine ⟨v, e1, m, st, env, (Post.bnd.mp p).imp fun k s1 p v1 m1 H1 w1 a1 r1 => ?_⟩
  cases rep_int r1
  obtain ⟨a, ha, p⟩ := Post.lft.mp p
  obtain ⟨v', fp', e1', q, us, ev, ef, kk, r⟩ := own_at (env.go w1 a1) hd
  rw [e1] at e1'; cases e1'
  obtain ⟨u, hu, ru⟩ := at_reps r ha
  exact ⟨q, us, k, u, ev, rfl, .of kk, hu, p u m1 H1 w1 a1 ru⟩
/-! ### owned lists changed -/
def oApp (xs : List A) (a : A) : Option (List A) := if xs.length < 100000 then some (xs ++ [a]) else none
def oSet (xs : List A) (i : Int) (a : A) : Option (List A) := (ixN xs.length i).map fun j => xs.set j a
theorem b_app (i : Nat) {call : Expr} {xs : List A} {xa : MM T A} {k : List A → MM T F} (he : PE X call (tBM X.K "list" rAppend (tVar i) (tCons (TX c ds t xa) tNil))) (h2 : ∀ ys, PSs X rest (BX c (ds.set i (.own (oList t) ys)) (k ys) P)) (hd : ds[i]? = some (.own (oList t) xs) := by rfl)
    (hs : swapsWith call none pos.line X.env = pure false := by rfl) :
    PSs X (.Expr call pos :: rest) (BX c ds (bnd xa fun a => bnd (lft (oApp xs a)) k) P) :=
  PSs.imp (pss_cons (ps_expr he hs) (PSs.any h2)) fun D σ H ⟨m, st, env, p⟩ => by
    obtain ⟨v, fp, e1, q, us, ev, ef, kk, r⟩ := own_at env hd
    subst ev
    refine ⟨_, e1, .inl ⟨rfl, us, .of kk⟩, m, st, env, (Post.bnd.mp p).imp fun a s1 p v1 m1 H1 w1 a1 r1 => ?_⟩
    have env1 := env.go w1 a1
    obtain ⟨ys, hy, p⟩ := Post.lft.mp (Post.bnd.mp p)
    unfold oApp at hy
    by_cases z : xs.length < 100000
    · rw [if_pos z] at hy; cases hy
      obtain ⟨v', fp', e1', q', us', ev', ef', kk', r'⟩ := own_at env1 hd
      rw [e1] at e1'; cases e1'; cases ev'
      refine ⟨q, us', v1, rfl, rfl, kk', by rw [← r'.length]; exact Nat.lt_of_lt_of_le z (by decide), ?_⟩
      refine ⟨_, m1, s1, env1.put hd fun v fp2 e2 ⟨q2, us2, ev2, ef2, k2, r2⟩ => ?_, p⟩
      rw [e1] at e2; cases e2; cases ev2
      rw [kk'] at k2; cases k2
      exact ⟨by rw [ef2]; simp, q, _, rfl, ef2, upd_same, r2.append (.cons r1 .nil)⟩
    · rw [if_neg z] at hy; cases hy
theorem b_seti (i : Nat) {x : Str} {xs : List A} {b : Expr} {xa : MM T A} {xb : MM T Int} {k : List A → MM T F} (he : PE X e (TX c ds t xa)) (hb : PE X b (TX c ds tInt xb)) (h2 : ∀ ys, PSs X rest (BX c (ds.set i (.own (oList t) ys)) (k ys) P)) (hd : ds[i]? = some (.own (oList t) xs) := by rfl) (hN : X.N[i]? = some x := by rfl) (hv : Vis X.env.scope x := by first | exact Or.inl rfl | exact Or.inr (Or.inl rfl) | exact Or.inr (Or.inr rfl))
    (h1 : (x == ("__debug__" : Str)) = false := by decide) (h3 : (x == ("__classdict__" : Str)) = false := by decide) (hs : swapsWithSole [.Subscript (.Name x p2) b p3] e pos.line X.env = pure false := by rfl)
    (hw : swappedStores [.Subscript (.Name x p2) b p3] e X.env = pure none := by rfl) (h4 : (assignEach [.Subscript (.Name x p2) b p3] X.env).map (·.2) = [assign (.Subscript (.Name x p2) b p3) X.env] := by rfl)
    (ha : ∀ v, assign (.Subscript (.Name x p2) b p3) X.env v = (do
      let ov ← holding [v] (eval (.Name x p2) X.env)
      let iv ← holding [v, ov] (eval b X.env)
      standAt p3
      holding [v, ov, iv] (setItem ov iv v)
      release [v, ov, iv] []) := by intro _; rfl) :
    PSs X (.Assign [.Subscript (.Name x p2) b p3] e pos :: rest) (BX c ds (bnd xa fun a => bnd xb fun j => bnd (lft (oSet xs j a)) k) P) :=
  PSs.imp (pss_cons (ps_asg he (pg_sub (pe_var hN hv h1 h3) hb set_list ha) hs hw h4) (PSs.any h2)) fun D σ H ⟨m, st, env, p⟩ => by
    refine ⟨m, st, env, (Post.bnd.mp p).imp fun a s1 p v1 m1 H1 w1 a1 r1 => ?_⟩
    have env1 := env.go w1 a1
    obtain ⟨v, fp, e1, _⟩ := own_at env hd
    refine ⟨v, e1, m1, s1, env1, (Post.bnd.mp p).imp fun j s2 p v2 m2 H2 w2 a2 r2 => ?_⟩
    cases rep_int r2
    have env2 := env1.go w2 a2
    obtain ⟨ys, hy, p⟩ := Post.lft.mp (Post.bnd.mp p)
    obtain ⟨v', fp', e1', q', us', ev', ef', kk', r'⟩ := own_at env2 hd
    rw [e1] at e1'; cases e1'; subst ev'
    unfold oSet at hy
    cases z : ixN xs.length j with
    | none => rw [z] at hy; cases hy
    | some n =>
      rw [z] at hy; cases hy
      refine ⟨q', us', j, n, rfl, rfl, kk', by rw [← r'.length]; exact z, ?_⟩
      refine ⟨_, m2, s2, env2.put hd fun v fp2 e2 ⟨q2, us2, ev2, ef2, k2, r2⟩ => ?_, p⟩
      rw [e1] at e2; cases e2; cases ev2
      rw [kk'] at k2; cases k2
      exact ⟨by rw [ef2]; simp, q', _, rfl, ef2, upd_same, r2.set (t.mono w2.mm r1) n⟩
end

/-! ### the pool: a list of so many places, which the callers own -/
def ambP {T : Type} (l : LTy T) (p : Addr) (st : T) (h m : Hp) : Prop := ∃ us, h p = some (.lst us) ∧ l.rep st us m
def pCtx {T : Type} (K : PySem.W.Frag) (cls : Nat → Addr) (l : LTy T) (p : Addr) (m H : Hp) (E : XK) : Ctx T where
  K := K
  cls := cls
  S := [p]
  m0 := m
  H0 := H
  afp := [p]
  amb := ambP l p
  ambF := fun hk hm ⟨us, k, r⟩ => ⟨us, by rw [hk p (by simp)]; exact k, l.mono hm r⟩
  ambD := fun ⟨us, k, r⟩ q hq => by obtain rfl := List.mem_singleton.mp hq; rw [k]; exact fun z => nomatch z
  afr := fun q hq => .inl hq
  pin := fun _ => True
  pinM := fun _ _ => trivial
  err := fun e st => ∀ d m' H', WStep [p] m H m' H' → ambP l p st H' m' → H' d = some (.xd [(fld e.k, e.a)]) → E (.ref (cls e.k)) (some d) H'
def uCtx (K : PySem.W.Frag) (cls : Nat → Addr) (m H : Hp) (E : XK) : Ctx Unit where
  K := K
  cls := cls
  S := []
  m0 := m
  H0 := H
  afp := []
  amb := fun _ _ _ => True
  ambF := fun _ _ _ => trivial
  ambD := fun _ q hq => by simp at hq
  afr := fun q hq => .inl hq
  pin := fun _ => True
  pinM := fun _ _ => trivial
  err := fun e _ => ∀ d m' H', WStep [] m H m' H' → H' d = some (.xd [(fld e.k, e.a)]) → E (.ref (cls e.k)) (some d) H'
theorem uErr {K : PySem.W.Frag} {cls : Nat → Addr} {m H : Hp} {E : XK} : ErrC (uCtx K cls m H E) (fun c d _ H => E c d H) := fun e st d σ m' H' ds h env hd => h d m' H' env.step hd
theorem pErr {T : Type} {K : PySem.W.Frag} {cls : Nat → Addr} {l : LTy T} {p : Addr} {m H : Hp} {E : XK} : ErrC (pCtx K cls l p m H E) (fun c d _ H => E c d H) := fun e st d σ m' H' ds h env hd => h d m' H' env.step env.amb hd
/-- c's state is the list at p -/
structure PoolC {T : Type} (c : Ctx T) (l : LTy T) (p : Addr) : Prop where
  afp : c.afp = [p]
  amb : c.amb = ambP l p
theorem pPool {T : Type} {K : PySem.W.Frag} {cls : Nat → Addr} {l : LTy T} {p : Addr} {m H : Hp} {E : XK} : PoolC (pCtx K cls l p m H E) l p := ⟨rfl, rfl⟩
theorem PoolC.pin {T : Type} {c : Ctx T} {l : LTy T} {p : Addr} {q : Hp → Prop} {hq : ∀ {m n : Hp}, Sub m n → q m → q n} (h : PoolC c l p) : PoolC (c.pinned q hq) l p := ⟨h.afp, h.amb⟩
theorem PoolC.nox {T : Type} {c : Ctx T} {l : LTy T} {p : Addr} (h : PoolC c l p) : PoolC c.nox l p := ⟨h.afp, h.amb⟩
def SpP {T A B : Type} (cls : Nat → Addr) (l : LTy T) (la : Addr → LTy A) (t : Ty B) (f : A → MM T B) : Sp := fun vs H Q E => ∃ p a m st, (la p).rep a vs m ∧ Sub m H ∧ m p = none ∧ ambP l p st H m ∧
  Post (f a st) (fun b st' => ∀ v m' H', WStep [p] m H m' H' → ambP l p st' H' m' → t.rep b v m' → Q v H') (fun e st' => ∀ d m' H', WStep [p] m H m' H' → ambP l p st' H' m' → H' d = some (.xd [(fld e.k, e.a)]) → E (.ref (cls e.k)) (some d) H')
def getP {T A : Type} (f : T → A) : MM T A := fun s => .ok (f s) s
def modP {T : Type} (f : T → T) : MM T Unit := fun s => .ok () (f s)
/-- the n-th place is written -/
structure LPut {A B : Type} (l : LTy A) (n : Nat) (t : Ty B) (g : B → A → A) : Prop where
  put : ∀ a vs m b v, l.rep a vs m → t.rep b v m → n < vs.length ∧ l.rep (g b a) (vs.set n v) m
theorem lq_1 {A : Type} {t : Ty A} : LPut (l1 t) 0 t (fun b _ => b) := ⟨fun a vs m b v ⟨w, e, r⟩ q => by subst e; exact ⟨by simp, v, rfl, q⟩⟩
theorem lq_z {A B : Type} {t : Ty A} {l : LTy B} : LPut (lc t l) 0 t (fun b a => (b, a.2)) := ⟨fun a vs m b v ⟨w, ws, e, r, k⟩ q => by subst e; exact ⟨by simp, v, ws, rfl, q, k⟩⟩
theorem lq_s {A B C : Type} {t : Ty A} {u : Ty C} {l : LTy B} {n : Nat} {g : C → B → B} (h : LPut l n u g) : LPut (lc t l) (n + 1) u (fun b a => (a.1, g b a.2)) := ⟨fun a vs m b v ⟨w, ws, e, r, k⟩ q => by
  subst e
  obtain ⟨h1, h2⟩ := h.put a.2 ws m b v k q
  exact ⟨by simp; exact h1, w, ws.set n v, rfl, r, h2⟩⟩
section
variable {X : Cx} {T A B C F : Type} {c : Ctx T} {ds : List Desc} {l : LTy T} {p : Addr} {t : Ty A} {pos p2 p3 : Pos} {e : Expr} {P : F → T → Ends → Prop} {rest : List Stmt}
theorem val_at {σ : L2.St} {m H : Hp} {st : T} {i : Nat} {a : A} (env : EnvOk c σ m H ds st) (hd : ds[i]? = some (.val t a)) : ∃ v, σ[i]? = some (some v) ∧ t.rep a v m := by
  obtain ⟨fps, sl, _, _⟩ := env.slots
  obtain ⟨s, fp, e1, e2, _, v, rfl, r⟩ := sl.get hd
  exact ⟨v, e1, r⟩
/-- pool[n] -/
theorem x_getP (i n : Nat) {x : Str} {f : T → A} {j} (hc : PoolC c l p) (hp : LProj l n t f) (hd : ds[i]? = some (.val (tIs p) ()) := by rfl) (hN : X.N[i]? = some x := by rfl) (hv : Vis X.env.scope x := by first | exact Or.inl rfl | exact Or.inr (Or.inl rfl) | exact Or.inr (Or.inr rfl))
    (h1 : (x == ("__debug__" : Str)) = false := by decide) (h2 : (x == ("__classdict__" : Str)) = false := by decide) : PE X (.Subscript (.Name x p2) (.Constant (.int (n : Int)) j p3) pos) (TX c ds t (getP f)) :=
  PE.imp (pe_ix ix_list (pe_var hN hv h1 h2) pe_int (fun _ _ => rfl)) fun σ H Q ⟨m, st, env, q⟩ => by
    obtain ⟨v, e1, r⟩ := val_at env hd
    have am := env.amb
    rw [hc.amb] at am
    obtain ⟨us, k, r2⟩ := am
    obtain ⟨u, hu, ru⟩ := hp.at_ st us m r2
    exact ⟨v, e1, p, us, n, u, r, rfl, .of k, atI_nat hu, q u m H (.refl env.mh) env.amb ru⟩
/-- pool[n] = e -/
theorem b_setP (i n : Nat) {x : Str} {g : A → T → T} {xa : MM T A} {k : MM T F} {j} (hc : PoolC c l p) (hp : LPut l n t g) (he : PE X e (TX c ds t xa)) (h2 : PSs X rest (BX c ds k P)) (hd : ds[i]? = some (.val (tIs p) ()) := by rfl) (hN : X.N[i]? = some x := by rfl) (hv : Vis X.env.scope x := by first | exact Or.inl rfl | exact Or.inr (Or.inl rfl) | exact Or.inr (Or.inr rfl))
    (h1 : (x == ("__debug__" : Str)) = false := by decide) (h3 : (x == ("__classdict__" : Str)) = false := by decide) (hs : swapsWithSole [.Subscript (.Name x p2) (.Constant (.int (n : Int)) j p3) p4] e pos.line X.env = pure false := by rfl)
    (hw : swappedStores [.Subscript (.Name x p2) (.Constant (.int (n : Int)) j p3) p4] e X.env = pure none := by rfl) (h4 : (assignEach [.Subscript (.Name x p2) (.Constant (.int (n : Int)) j p3) p4] X.env).map (·.2) = [assign (.Subscript (.Name x p2) (.Constant (.int (n : Int)) j p3) p4) X.env] := by rfl)
    (ha : ∀ v, assign (.Subscript (.Name x p2) (.Constant (.int (n : Int)) j p3) p4) X.env v = (do
      let ov ← holding [v] (eval (.Name x p2) X.env)
      let iv ← holding [v, ov] (eval (.Constant (.int (n : Int)) j p3) X.env)
      standAt p4
      holding [v, ov, iv] (setItem ov iv v)
      release [v, ov, iv] []) := by intro _; rfl) :
    PSs X (.Assign [.Subscript (.Name x p2) (.Constant (.int (n : Int)) j p3) p4] e pos :: rest) (BX c ds (bnd xa fun a => bnd (modP (g a)) fun _ => k) P) :=
  PSs.imp (pss_cons (ps_asg he (pg_sub (pe_var hN hv h1 h3) pe_int set_list ha) hs hw h4) h2) fun D σ H ⟨m, st, env, q⟩ => by
    refine ⟨m, st, env, (Post.bnd.mp q).imp fun a s1 q v1 m1 H1 w1 a1 r1 => ?_⟩
    have env1 := env.go w1 a1
    obtain ⟨v, e1, r⟩ := val_at env hd
    have am := a1
    rw [hc.amb] at am
    obtain ⟨us, k2, r2⟩ := am
    obtain ⟨hl, r3⟩ := hp.put s1 us m1 a v1 r2 r1
    have hpa : p ∈ c.afp := by rw [hc.afp]; simp
    have w2 : WStep c.afp m1 H1 m1 (upd H1 p (.lst (us.set n v1))) := .put w1.mh (env1.own p hpa) hpa
    refine ⟨v, e1, p, us, n, n, r, rfl, k2, ?_, m1, g a s1, env1.go w2 ?_, q⟩
    · show ixN us.length (n : Int) = some n
      unfold ixN
      rw [if_pos (by omega), if_pos (by omega)]
      rfl
    · rw [hc.amb]
      exact ⟨_, upd_same, r3⟩
/-- a def that changes the pool -/
theorem x_callP {la : Addr → LTy A} {u : Ty B} {fn : A → MM T B} {xa : MM T A} {k : Nat} {f : Addr} {fd : FuncData} {ps : List Str} {x : Str} {es : List Expr} {W : WX} (hc : PoolC c l p) (G : FnOk X.prog X.w X.K X.mg X.base (L2.CX X.prog X.w) k f fd ps (SpP c.cls l la u fn)) (hr : Room k X.A) (hm : X.mg x = some (.ref f)) (hk : PySem.W.keepIn X.K (.ref f) = true) (hb : Binds X.K fd ps [])
    (tk : Takes X W) (he : ErrC c W) (ha : PA X (e :: es) (TAX c ds (la p) xa)) (hg : Gl X x := by rfl) (hdb : (x == ("__debug__" : Str)) = false := by decide)
    (h1 : starEach (e :: es) X.env = (false, eval e X.env) :: starEach es X.env := by rfl) (h2 : (backTo pos (starEach es X.env)).any (·.1) = false := by rfl) :
    PE X (.Call (.Name x p2) (e :: es) [] pos) (TX c ds u (eCallS fn xa)) := PE.imp (pe_callS G hr hg hm hk hb (fun σ => passAt tk σ) ha hdb h1 h2) fun σ H Q ⟨m, st, env, q⟩ =>
  ⟨m, st, env, (Post.bnd.mp q).imp fun a s1 q vs m1 H1 w1 a1 r1 => by
    have env1 := env.go w1 a1
    have hpa : p ∈ c.afp := by rw [hc.afp]; simp
    have e3 := hc.afp
    have e4 := hc.amb
    refine ⟨p, a, m1, s1, r1, w1.mh, env1.own p hpa, by rw [← e4]; exact a1, q.mono (fun b s2 q v m' H' w2 a2 r2 => ?_) fun e s2 q d m' H' w2 a2 hd => ?_⟩
    · rw [← e3] at w2
      rw [← e4] at a2
      exact q v m' H' (w1.trans w2) a2 r2
    · rw [← e3] at w2
      rw [← e4] at a2
      exact he e s2 d σ m' H' ds q (env1.go w2 a2) hd⟩
end

/-! ### comprehensions -/
section
variable {T A B : Type}
def lcM (f : A → MM T B) : List A → MM T (List B)
  | [] => ret []
  | x :: r => bnd (f x) fun y => bnd (lcM f r) fun ys => ret (y :: ys)
def lcI (ts : A → MM T Bool) (f : A → MM T B) : List A → MM T (List B)
  | [] => ret []
  | x :: r => bnd (ts x) fun b => if b = true then bnd (f x) fun y => bnd (lcI ts f r) fun ys => ret (y :: ys) else lcI ts f r
def lcL (f : A → MM T B) (xs : List A) : MM T (List B) := if xs.length ≤ 100000 then lcM (fun a => noE (f a)) xs else stk
def lcIL (ts : A → MM T Bool) (f : A → MM T B) (xs : List A) : MM T (List B) := if xs.length ≤ 100000 then lcI (fun a => noE (ts a)) (fun a => noE (f a)) xs else stk
theorem lcI_true (f : A → MM T B) : ∀ xs : List A, lcI (fun _ => noE (ret true)) f xs = lcM f xs
  | [] => rfl
  | x :: r => by
    show bnd (noE (ret true)) _ = _
    funext s
    show (if true = true then bnd (f x) fun y => bnd (lcI (fun _ => noE (ret true)) f r) fun ys => ret (y :: ys) else lcI (fun _ => noE (ret true)) f r) s = lcM f (x :: r) s
    rw [if_pos rfl, lcI_true f r]
    rfl
theorem lcIL_true (f : A → MM T B) (xs : List A) : lcIL (fun _ => ret true) f xs = lcL f xs := by
  unfold lcIL lcL
  rw [lcI_true]
def wipeD (ds : List Desc) : List Nat → List Desc
  | [] => ds
  | v :: vs => (wipeD ds vs).set v .any
theorem EnvOk.wipe {c : Ctx T} {σ : L2.St} {m h : Hp} {ds : List Desc} {st : T} (x : EnvOk c σ m h ds st) : ∀ vs : List Nat, EnvOk c (wipe σ vs) m h (wipeD ds vs) st
  | [] => x
  | v :: vs => (EnvOk.wipe x vs).clear v none
theorem wipe_get (σ : L2.St) : ∀ (vs : List Nat) (i : Nat), (wipe σ vs)[i]? = if i ∈ vs ∧ i < σ.length then some none else σ[i]?
  | [], i => by simp [L2.wipe]
  | v :: vs, i => by
    have ih := wipe_get σ vs i
    unfold L2.wipe
    have hl := wipe_length σ vs
    by_cases h : v = i
    · subst h
      by_cases hv : v < σ.length
      · rw [List.getElem?_set_self (by omega), if_pos ⟨by simp, hv⟩]
      · rw [if_neg (by omega), List.getElem?_eq_none (by rw [List.length_set]; omega), List.getElem?_eq_none (by omega)]
    · rw [List.getElem?_set_ne h, ih]
      have : i ∈ v :: vs ↔ i ∈ vs := by simp [Ne.symm h]
      simp only [this]
theorem wipe_but {σ σ' : L2.St} {is vs : List Nat} (b : But is (wipe σ vs) σ') (h : ∀ i ∈ is, i ∈ vs) : L2.wipe σ' vs = L2.wipe σ vs := by
  have hl := b.1
  rw [wipe_length] at hl
  refine List.ext_getElem? fun i => ?_
  rw [wipe_get, wipe_get]
  by_cases z : i ∈ vs ∧ i < σ.length
  · rw [if_pos (by rw [hl]; exact z), if_pos z]
  · rw [if_neg (by rw [hl]; exact z), if_neg z]
    by_cases y : i ∈ vs
    · have : ¬ i < σ.length := fun q => z ⟨y, q⟩
      rw [List.getElem?_eq_none (by omega), List.getElem?_eq_none (by omega)]
    · rw [b.2 i fun q => y (h i q), wipe_get, if_neg (fun q => y q.1)]
end
section
variable {X : Cx} {T A B : Type} {c : Ctx T} {ds : List Desc} {pos spos py : Pos}
/-- the new list aside -/
def less (H : Hp) (D : Addr) : Hp := fun a => if a = D then none else H a
theorem less_same (H : Hp) (D : Addr) : less H D D = none := if_pos rfl
theorem less_ne (H : Hp) {D a : Addr} (h : a ≠ D) : less H D a = H a := if_neg h
theorem upd_less (H : Hp) (D : Addr) (o : HO) : upd (less H D) D o = upd H D o := by
  funext a
  unfold upd less
  by_cases h : a = D
  · rw [if_pos h, if_pos h]
  · rw [if_neg h, if_neg h, if_neg h]
theorem less_step {S : List Addr} {m G m2 H2 : Hp} {D : Addr} {o : HO} (w : WStep S m (upd G D o) m2 H2) (hG : G D = none) (hm : m D = none) : WStep S m G m2 (less H2 D) := by
  have ne : ∀ a, G a ≠ none → a ≠ D := fun a h e => h (by rw [e]; exact hG)
  have m2D : m2 D = none := w.ow D hm (by rw [upd_same]; exact fun z => nomatch z)
  refine ⟨w.mm, fun a u e => ?_, fun a u hS e => ?_, fun a e n => w.ow a e (by rw [upd_ne (ne a n)]; exact n), fun a n => ?_⟩
  · rw [less_ne _ (fun z => by rw [z, m2D] at e; cases e)]; exact w.mh a u e
  · have nD := ne a (by rw [e]; exact fun z => nomatch z)
    rw [less_ne _ nD]; exact w.hh a u hS (by rw [upd_ne nD]; exact e)
  · rw [less_ne _ (ne a n)]; exact w.dm a (by rw [upd_ne (ne a n)]; exact n)
theorem rd_lcI {wi : TI} {g : TG} {tt : TT} {te : TE} {vs is : List Nat} {t : Ty A} {u : Ty B} {x : MM T (List A)} {ts : A → MM T Bool} {f : A → MM T B} {bd : A → List Desc → List Desc} {σ : L2.St} {H : Hp} {Q : VK}
    (hw : ∀ σ H R, SrcTI c ds t x σ H R → wi σ H R) (ht : TgtOk c.nox g t is bd) (hv : ∀ i ∈ is, i ∈ vs) (hts : ∀ a σ H Q, TTX c.nox (bd a (wipeD ds vs)) (ts a) σ H Q → tt σ H Q) (hte : ∀ a σ H Q, TX c.nox (bd a (wipeD ds vs)) u (f a) σ H Q → te σ H Q)
    (h : TXO c ds (oList u) (bnd x (lcIL ts f)) σ H Q) : tLc wi g tt te vs σ H Q := by
  obtain ⟨m, st, env, p⟩ := h
  refine hw σ H _ ⟨m, st, env, (Post.bnd.mp p).imp fun xs s1 p J q m1 H1 w1 a1 hq q1 sv D hD => ?_⟩
  unfold lcIL at p
  by_cases hlen : xs.length ≤ 100000
  rotate_left
  · rw [if_neg hlen] at p; exact p.elim
  rw [if_pos hlen] at p
  let FIN : List B → T → Prop := fun a st' => ∀ v fp m' H', WStep c.afp m H m' H' → c.amb st' H' m' → (∀ p ∈ fp, H p = none ∧ m' p = none) → (oList u).rep a v fp H' m' → Q v H'
  refine ⟨fun i n Hc => n = xs.length - i ∧ i ≤ xs.length ∧ ∃ m G st done ws, Hc = upd G D (.lst ws) ∧ G D = none ∧ EnvOk c σ m G ds st ∧ WStep c.afp m1 H1 m G ∧ q m ∧ Reps u m done ws ∧ done.length ≤ i ∧
      Post (lcI (fun a => noE (ts a)) (fun a => noE (f a)) (xs.drop i) st) (fun ys st' => FIN (done ++ ys) st') c.err,
    ⟨xs.length, by simp, Nat.zero_le _, m1, H1, s1, [], [], rfl, hD, env.go w1 a1, .refl w1.mh, q1, .nil, Nat.le_refl _, p⟩, ?_⟩
  rintro i n Hc ⟨rfl, hi, m2, G, st2, done, ws, rfl, hG, env2, w2, q2, r2, hdl, p2⟩
  have hmD : m2 D = none := env2.mh.free hG
  have wn : WStep [] m2 G m2 (upd G D (.lst ws)) := .own env2.mh hG
  obtain ⟨sv1, sv2⟩ := sv i (upd G D (.lst ws)) ⟨m2, q2, wn.mh⟩
  by_cases hlt : i < xs.length
  · obtain ⟨g1, g2⟩ := sv1 hlt
    refine .inr ⟨g1, fun Hc => ∃ m G st done ws, Hc = upd G D (.lst ws) ∧ G D = none ∧ EnvOk c σ m G ds st ∧ WStep c.afp m1 H1 m G ∧ q m ∧ Reps u m done ws ∧ done.length ≤ i + 1 ∧
      Post (lcI (fun a => noE (ts a)) (fun a => noE (f a)) (xs.drop (i + 1)) st) (fun ys st' => FIN (done ++ ys) st') c.err, fun Hc h => ⟨xs.length - (i + 1), by omega, rfl, hlt, h⟩, fun v H' y => ?_⟩
    obtain ⟨rfl, y2⟩ := g2 v H' y
    obtain ⟨a, ha, ra⟩ := y2 m2 q2 wn.mh
    rw [List.getElem?_eq_getElem hlt] at ha
    cases ha
    rw [List.drop_eq_getElem_cons hlt] at p2
    have envc : EnvOk c.nox (wipe σ vs) m2 (upd G D (.lst ws)) (wipeD ds vs) st2 := ((env2.grow wn).wipe vs).nox
    refine ht xs[i] v (wipe σ vs) m2 _ _ st2 _ ra envc fun σ3 env3 b3 => ⟨wipe_but b3 hv, ?_⟩
    refine hts xs[i] σ3 _ _ ⟨m2, st2, env3, (Post.noE.mp (Post.bnd.mp p2)).imp fun b s3 p3 m3 H3 w3 a3 => ?_⟩
    have hDa : D ∉ c.afp := fun z => (c.ambD env2.amb D z) hG
    have hH3 : H3 D = some (.lst ws) := w3.hh D _ hDa upd_same
    have k3 : WStep c.afp m2 G m3 (less H3 D) := less_step w3 hG hmD
    have am3 : c.amb s3 (less H3 D) m3 := c.ambF (fun y hy => less_ne _ fun z => hDa (by rw [← z]; exact hy)) (.refl _) a3
    have e3 : upd (less H3 D) D (.lst ws) = H3 := by
      rw [upd_less]; funext y; by_cases z : y = D
      · subst z; rw [upd_same]; exact hH3.symm
      · rw [upd_ne z]
    cases b with
    | true =>
      rw [if_pos rfl] at p3
      refine iteT ?_
      refine hte xs[i] σ3 _ _ ⟨m3, s3, env3.go w3 a3, (Post.noE.mp (Post.bnd.mp p3)).imp fun yv s4 p4 v4 m4 H4 w4 a4 r4 => ?_⟩
      have hH4 : H4 D = some (.lst ws) := w4.hh D _ hDa hH3
      have w4' : WStep c.afp m3 (upd (less H3 D) D (.lst ws)) m4 H4 := by rw [e3]; exact w4
      have k4 : WStep c.afp m3 (less H3 D) m4 (less H4 D) := less_step w4' (less_same _ _) (k3.mh.free (less_same _ _))
      have am4 : c.amb s4 (less H4 D) m4 := c.ambF (fun y hy => less_ne _ fun z => hDa (by rw [← z]; exact hy)) (.refl _) a4
      have hwl : ws.length < sizeLine := by rw [← r2.length]; exact Nat.lt_of_lt_of_le (show done.length < 100000 by omega) (by decide)
      refine ⟨ws, hH4, hwl, m4, less H4 D, s4, done ++ [yv], ws ++ [v4], (upd_less _ _ _).symm, less_same _ _, (env2.go k3 am3).go k4 am4, (w2.trans k3).trans k4, hq (k3.mm.trans k4.mm) q2, (r2.mono (k3.mm.trans k4.mm)).append (.cons r4 .nil), by simp; omega, ?_⟩
      refine (Post.bnd.mp p4).imp fun ys s5 p5 => ?_
      show FIN (done ++ [yv] ++ ys) s5
      rw [List.append_assoc]
      exact p5
    | false =>
      rw [if_neg Bool.false_ne_true] at p3
      exact iteF ⟨m3, less H3 D, s3, done, ws, e3.symm, less_same _ _, env2.go k3 am3, w2.trans k3, hq k3.mm q2, r2.mono k3.mm, by omega, p3⟩
  · have e : xs.drop i = [] := List.drop_eq_nil_of_le (by omega)
    rw [e] at p2
    refine .inl ⟨sv2 (by omega), ?_⟩
    have p2 : FIN (done ++ []) st2 := p2
    rw [List.append_nil] at p2
    have w := w1.trans w2
    exact p2 (.ref D) [D] m2 _ (w.trans wn.wide) (EnvOk.ambGrow env2.amb wn) (fun y hy => by obtain rfl := List.mem_singleton.mp hy; exact ⟨fresh_up w hG, hmD⟩) ⟨D, ws, rfl, rfl, upd_same, r2⟩
end
section
variable {X : Cx} {T A B F : Type} {c : Ctx T} {ds : List Desc} {pos spos py : Pos} {elt tg iter cnd : Expr} {scope : Scope} {own : List (Str × Nat)} {g : TG} {is : List Nat} {t : Ty A} {u : Ty B} {x : MM T (List A)} {ts : A → MM T Bool} {f : A → MM T B} {bd : A → List Desc → List Desc} {P : F → T → Ends → Prop} {rest : List Stmt}
/-- [elt for tg in iter] -/
theorem x_lc (hc : X.calm = true) (hN : X.N.Nodup) (hi : PI X tg iter (SrcTI c ds t x)) (ok : BlkOk X.N X.env.scope scope own) (ht : TgtOk c.nox g t is bd) (hv : ∀ i ∈ is, i ∈ own.map (·.2))
    (hg : ∀ (s : Shared) (H : Hp) (C : Addr) (cl : List (Str × Addr)) (fp : List Addr), PG (X.blk s H scope (compEnvC scope cl C X.env) fp) tg g)
    (he : ∀ (s : Shared) (H : Hp) (C : Addr) (cl : List (Str × Addr)) (fp : List Addr) (a : A), PE (X.blk s H scope (compEnvC scope cl C X.env) fp) elt (TX c.nox (bd a (wipeD ds (own.map (·.2)))) u (f a))) (hs : ∀ x, foldedSetIterable iter X.env x = pure x := by intro _; rfl) :
    PE X (.ListComp elt [⟨tg, iter, [], 0⟩] scope pos) (TXO c ds (oList u) (bnd x (lcL f))) := by
  have e : (lcL f : List A → MM T (List B)) = lcIL (fun _ => ret true) f := funext fun xs => (lcIL_true f xs).symm
  rw [e]
  exact PE.imp (pe_lc hc hN hi ok hg (fun _ _ _ _ _ => pts_nil) (fun s H C cl fp => PE.any (he s H C cl fp)) hs) fun σ H Q h =>
    rd_lcI (fun _ _ _ q => q) ht hv (fun a σ H Q ⟨m, st, env, p⟩ => p m H (.refl env.mh) env.amb) (fun a σ H Q q => ⟨a, q⟩) h
theorem PTs.any {X : Cx} {ifs : List Expr} {I : Type} {t : I → TT} (h : ∀ i, PTs X ifs (t i)) : PTs X ifs (fun σ H Q => ∃ i, t i σ H Q) := ⟨fun pins s σ H Q J ⟨i, q⟩ => (h i).run pins s σ H Q J q⟩
theorem x_lcI (hc : X.calm = true) (hN : X.N.Nodup) (hi : PI X tg iter (SrcTI c ds t x)) (ok : BlkOk X.N X.env.scope scope own) (ht : TgtOk c.nox g t is bd) (hv : ∀ i ∈ is, i ∈ own.map (·.2))
    (hg : ∀ (s : Shared) (H : Hp) (C : Addr) (cl : List (Str × Addr)) (fp : List Addr), PG (X.blk s H scope (compEnvC scope cl C X.env) fp) tg g)
    (hts : ∀ (s : Shared) (H : Hp) (C : Addr) (cl : List (Str × Addr)) (fp : List Addr) (a : A), PT (X.blk s H scope (compEnvC scope cl C X.env) fp) cnd (TTX c.nox (bd a (wipeD ds (own.map (·.2)))) (ts a)))
    (he : ∀ (s : Shared) (H : Hp) (C : Addr) (cl : List (Str × Addr)) (fp : List Addr) (a : A), PE (X.blk s H scope (compEnvC scope cl C X.env) fp) elt (TX c.nox (bd a (wipeD ds (own.map (·.2)))) u (f a))) (hs : ∀ x, foldedSetIterable iter X.env x = pure x := by intro _; rfl) :
    PE X (.ListComp elt [⟨tg, iter, [cnd], 0⟩] scope pos) (TXO c ds (oList u) (bnd x (lcIL ts f))) :=
  PE.imp (pe_lc hc hN hi ok hg (fun s H C cl fp => PTs.any fun a => pts_one (hts s H C cl fp a)) (fun s H C cl fp => PE.any (he s H C cl fp)) hs) fun σ H Q h =>
    rd_lcI (fun _ _ _ q => q) ht hv (fun a σ H Q q => ⟨a, q⟩) (fun a σ H Q q => ⟨a, q⟩) h
/-- name = [elt for tg in iter], the list owned -/
theorem b_setLc (i : Nat) {y : Str} {k : List B → MM T F} (hc : X.calm = true) (hN : X.N.Nodup) (hi : PI X tg iter (SrcTI c ds t x)) (ok : BlkOk X.N X.env.scope scope own) (ht : TgtOk c.nox g t is bd) (hv : ∀ i ∈ is, i ∈ own.map (·.2))
    (hg : ∀ (s : Shared) (H : Hp) (C : Addr) (cl : List (Str × Addr)) (fp : List Addr), PG (X.blk s H scope (compEnvC scope cl C X.env) fp) tg g)
    (he : ∀ (s : Shared) (H : Hp) (C : Addr) (cl : List (Str × Addr)) (fp : List Addr) (a : A), PE (X.blk s H scope (compEnvC scope cl C X.env) fp) elt (TX c.nox (bd a (wipeD ds (own.map (·.2)))) u (f a)))
    (h2 : ∀ ys, PSs X rest (BX c (ds.set i (.own (oList u) ys)) (k ys) P)) (hy : X.N[i]? = some y := by rfl) (hyl : X.env.scope.names.lookup y = some .local := by rfl) (hk : X.env.scope.kind = .function := by rfl) (hl : (py.line == pos.line) = true := by rfl)
    (hsn : (scope.names.any fun (n, k) => n == y && (k == .local || k == .cell)) = false := by decide +kernel) (hs : ∀ x, foldedSetIterable iter X.env x = pure x := by intro _; rfl) :
    PSs X (.Assign [.Name y py] (.ListComp elt [⟨tg, iter, [], 0⟩] scope pos) spos :: rest) (BX c ds (bnd (bnd x (lcL f)) k) P) := by
  have e : (lcL f : List A → MM T (List B)) = lcIL (fun _ => ret true) f := funext fun xs => (lcIL_true f xs).symm
  rw [e]
  exact PSs.imp (pss_cons (ps_setLc hc hN hy hyl (sw_true hk hyl hl hsn) hi ok hg (fun _ _ _ _ _ => pts_nil) (fun s H C cl fp => PE.any (he s H C cl fp)) hs) (PSs.any h2)) fun D σ H ⟨m, st, env, p⟩ =>
    show tLc (SrcTI c ds t x) g tYes (fun σ H Q => ∃ i, TX c.nox (bd i (wipeD ds (own.map (·.2)))) u (f i) σ H Q) (own.map (·.2)) σ H (fun v H1 => gName i v σ H1 (fun σ H => ∃ a, BX c (ds.set i (.own (oList u) a)) (k a) P D σ H)) from
    rd_lcI (fun _ _ _ q => q) ht hv (fun a σ H Q ⟨m, st, env, p⟩ => p m H (.refl env.mh) env.amb) (fun a σ H Q q => ⟨a, q⟩) ⟨m, st, env, (Post.bnd.mp p).imp fun a s1 p v fp m1 H1 w1 a1 n1 r1 => ⟨a, m1, s1, bindNew i env w1 a1 n1 r1, p⟩⟩
theorem b_setLcI (i : Nat) {y : Str} {k : List B → MM T F} (hc : X.calm = true) (hN : X.N.Nodup) (hi : PI X tg iter (SrcTI c ds t x)) (ok : BlkOk X.N X.env.scope scope own) (ht : TgtOk c.nox g t is bd) (hv : ∀ i ∈ is, i ∈ own.map (·.2))
    (hg : ∀ (s : Shared) (H : Hp) (C : Addr) (cl : List (Str × Addr)) (fp : List Addr), PG (X.blk s H scope (compEnvC scope cl C X.env) fp) tg g)
    (hts : ∀ (s : Shared) (H : Hp) (C : Addr) (cl : List (Str × Addr)) (fp : List Addr) (a : A), PT (X.blk s H scope (compEnvC scope cl C X.env) fp) cnd (TTX c.nox (bd a (wipeD ds (own.map (·.2)))) (ts a)))
    (he : ∀ (s : Shared) (H : Hp) (C : Addr) (cl : List (Str × Addr)) (fp : List Addr) (a : A), PE (X.blk s H scope (compEnvC scope cl C X.env) fp) elt (TX c.nox (bd a (wipeD ds (own.map (·.2)))) u (f a)))
    (h2 : ∀ ys, PSs X rest (BX c (ds.set i (.own (oList u) ys)) (k ys) P)) (hy : X.N[i]? = some y := by rfl) (hyl : X.env.scope.names.lookup y = some .local := by rfl) (hk : X.env.scope.kind = .function := by rfl) (hl : (py.line == pos.line) = true := by rfl)
    (hsn : (scope.names.any fun (n, k) => n == y && (k == .local || k == .cell)) = false := by decide +kernel) (hs : ∀ x, foldedSetIterable iter X.env x = pure x := by intro _; rfl) :
    PSs X (.Assign [.Name y py] (.ListComp elt [⟨tg, iter, [cnd], 0⟩] scope pos) spos :: rest) (BX c ds (bnd (bnd x (lcIL ts f)) k) P) :=
  PSs.imp (pss_cons (ps_setLc hc hN hy hyl (sw_true hk hyl hl hsn) hi ok hg (fun s H C cl fp => PTs.any fun a => pts_one (hts s H C cl fp a)) (fun s H C cl fp => PE.any (he s H C cl fp)) hs) (PSs.any h2)) fun D σ H ⟨m, st, env, p⟩ =>
    show tLc (SrcTI c ds t x) g (fun σ H Q => ∃ i, TTX c.nox (bd i (wipeD ds (own.map (·.2)))) (ts i) σ H Q) (fun σ H Q => ∃ i, TX c.nox (bd i (wipeD ds (own.map (·.2)))) u (f i) σ H Q) (own.map (·.2)) σ H (fun v H1 => gName i v σ H1 (fun σ H => ∃ a, BX c (ds.set i (.own (oList u) a)) (k a) P D σ H)) from
    rd_lcI (fun _ _ _ q => q) ht hv (fun a σ H Q q => ⟨a, q⟩) (fun a σ H Q q => ⟨a, q⟩) ⟨m, st, env, (Post.bnd.mp p).imp fun a s1 p v fp m1 H1 w1 a1 n1 r1 => ⟨a, m1, s1, bindNew i env w1 a1 n1 r1, p⟩⟩
end

/-! ### the defs -/
/-- the slots at the entry -/
structure LDesc {A : Type} (l : LTy A) (n : Nat) (D : A → List Desc) : Prop where
  len : ∀ a vs m, l.rep a vs m → vs.length = n
  ok : ∀ a vs m h, l.rep a vs m → Slots m h (vs.map some) (List.replicate n []) (D a)
theorem ld_0 : LDesc l0 0 (fun _ => []) := ⟨fun a vs m h => by cases h; rfl, fun a vs m h e => by cases e; exact .nil⟩
theorem ld_1 {A : Type} {t : Ty A} : LDesc (l1 t) 1 (fun a => [.val t a]) := ⟨fun a vs m ⟨v, e, r⟩ => by subst e; rfl, fun a vs m h ⟨v, e, r⟩ => by subst e; exact .cons ⟨rfl, v, rfl, r⟩ .nil⟩
theorem ld_c {A B : Type} {t : Ty A} {l : LTy B} {n : Nat} {D : B → List Desc} (h : LDesc l n D) : LDesc (lc t l) (n + 1) (fun a => .val t a.1 :: D a.2) :=
  ⟨fun a vs m ⟨v, ws, e, r, q⟩ => by subst e; rw [List.length_cons, h.len a.2 ws m q], fun a vs m hh ⟨v, ws, e, r, q⟩ => by subst e; exact .cons ⟨rfl, v, rfl, r⟩ (h.ok a.2 ws m hh q)⟩
theorem Slots.more {m h : Hp} {σ : L2.St} {fps : List (List Addr)} {ds : List Desc} (x : Slots m h σ fps ds) : ∀ k : Nat, Slots m h (σ ++ List.replicate k none) (fps ++ List.replicate k []) (ds ++ List.replicate k .any) := by
  intro k
  induction x with
  | nil =>
    induction k with
    | zero => exact .nil
    | succ k ih => exact .cons rfl ih
  | cons a _ ih => exact .cons a ih
theorem disj_nils (n k : Nat) : Disj (List.replicate n ([] : List Addr) ++ List.replicate k []) := by
  unfold Disj
  rw [List.pairwise_iff_getElem]
  intro i j hi hj _ p hp
  have : ∀ x ∈ List.replicate n ([] : List Addr) ++ List.replicate k [], x = [] := fun x hx => by
    rcases List.mem_append.mp hx with z | z
    · exact (List.mem_replicate.mp z).2
    · exact (List.mem_replicate.mp z).2
  rw [this _ (List.getElem_mem hi)] at hp
  exact absurd hp (by simp)
section
variable {P : Program} {w : World} {K : PySem.W.Frag} {mg : Str → Option Value} {base : Heap} {x qual : Str} {st : Stmt} {f : Addr} {fd : FuncData} {N ps : List Str} {k r : Nat} {T A B : Type} {cls : Nat → Addr}
/-- the setting of a def's body -/
abbrev bX (P : Program) (w : World) (K : PySem.W.Frag) (mg : Str → Option Value) (base : Heap) (N : List Str) (qual : Str) (st : Stmt) (f : Addr) (cdv : Value) (A : Around) (outer : List Env) (s : Shared) (H : Hp) (E : XK) : Cx :=
  cxOf (L2.CX P w) P w K mg base N qual (defScope st) f cdv A outer s H E
theorem bTakes {cdv : Value} {A : Around} {outer : List Env} {s : Shared} {H : Hp} {E : XK} : Takes (bX P w K mg base N qual st f cdv A outer s H E) (fun c d _ H => E c d H) := takes_of rfl rfl rfl rfl
theorem bPass {cdv : Value} {A : Around} {outer : List Env} {s : Shared} {H : Hp} {E : XK} : PassesOwn (model (bX P w K mg base N qual st f cdv A outer s H E).prog (bX P w K mg base N qual st f cdv A outer s H E).w) (bX P w K mg base N qual st f cdv A outer s H E).A (bX P w K mg base N qual st f cdv A outer s H E).env (bX P w K mg base N qual st f cdv A outer s H E).xe := passes_of rfl
theorem start_eq {N : List Str} {vs : List V} {n r : Nat} (h : vs.length = n) (hn : N.length = n + r) : L2.start N vs = vs.map some ++ List.replicate r none := by
  unfold L2.start
  rw [hn, h, Nat.add_sub_cancel_left]
theorem env_start {c : Ctx T} {l : LTy A} {n : Nat} {D : A → List Desc} {a : A} {vs : List V} {m H : Hp} {st : T} (hl : LDesc l n D) (h : l.rep a vs m) (hn : N.length = n + r) (hm : Sub m H) (e1 : c.m0 = m) (e2 : c.H0 = H) (am : c.amb st H m) (ow : ∀ p ∈ c.afp, m p = none) (pn : c.pin m) :
    EnvOk c (L2.start N vs) m H (D a ++ List.replicate r .any) st := by
  subst e1 e2
  refine ⟨.refl hm, ⟨_, by rw [start_eq (hl.len a vs _ h) hn]; exact (hl.ok a vs _ _ h).more r, disj_nils _ _, fun fp hf p hp => ?_⟩, am, ow, pn⟩
  rcases List.mem_append.mp hf with z | z
  · rw [(List.mem_replicate.mp z).2] at hp; exact absurd hp (by simp)
  · rw [(List.mem_replicate.mp z).2] at hp; exact absurd hp (by simp)
theorem fn_pure {l : LTy A} {t : Ty B} {fn : A → MM Unit B} {D : A → List Desc} (F : Fun K x qual st f fd) (S : FnScope N ps (defScope st)) (hl : LDesc l ps.length D) (hn : N.length = ps.length + r)
    (body : ∀ (cdv : Value) (A : Around) (outer : List Env) (s : Shared) (H : Hp) (E : XK) (m : Hp) a, Room k (A.deeper (envOfC qual (defScope st) s.heap.objs.size f cdv)) →
      PSs (bX P w K mg base N qual st f cdv A outer s H E) (defBody st) (BX (uCtx K cls m H E) (D a ++ List.replicate r .any) (fn a) (ER (uCtx K cls m H E) t))) :
    FnOk P w K mg base (L2.CX P w) (k + 1) f fd ps (SpF cls l t fn) := by
  obtain ⟨oc, od, kV, doc, pm, an, cdv, ct, osl, rfl, lk, hcd⟩ := F.ex
  refine fn_of lk hcd S (fun vs H Q E ⟨a, m, h, _⟩ => hl.len a vs m h) fun A outer s H vs Q E hr ⟨a, m, h, hm, q⟩ => ?_
  exact ⟨_, body cdv A outer s H E m a hr, m, (), env_start hl h hn hm rfl rfl trivial (fun p hp => absurd hp (by simp [uCtx])) trivial, q.mono (fun b _ q v m' H' w' _ r' => q v m' H' w' r') fun e _ q => q⟩
/-- a def that hands nothing back -/
theorem fn_none {l : LTy A} {fn : A → MM Unit Unit} {D : A → List Desc} {dsN : Unit → List Desc} (F : Fun K x qual st f fd) (S : FnScope N ps (defScope st)) (hl : LDesc l ps.length D) (hn : N.length = ps.length + r)
    (body : ∀ (cdv : Value) (A : Around) (outer : List Env) (s : Shared) (H : Hp) (E : XK) (m : Hp) a, Room k (A.deeper (envOfC qual (defScope st) s.heap.objs.size f cdv)) →
      PSs (bX P w K mg base N qual st f cdv A outer s H E) (defBody st) (BX (uCtx K cls m H E) (D a ++ List.replicate r .any) (fn a) (EN (uCtx K cls m H E) dsN))) :
    FnOk P w K mg base (L2.CX P w) (k + 1) f fd ps (SpF cls l tNon fn) := by
  obtain ⟨oc, od, kV, doc, pm, an, cdv, ct, osl, rfl, lk, hcd⟩ := F.ex
  refine fn_of lk hcd S (fun vs H Q E ⟨a, m, h, _⟩ => hl.len a vs m h) fun A outer s H vs Q E hr ⟨a, m, h, hm, q⟩ => ?_
  exact ⟨_, body cdv A outer s H E m a hr, m, (), env_start hl h hn hm rfl rfl trivial (fun p hp => absurd hp (by simp [uCtx])) trivial, q.mono (fun b _ q σ' m' H' env' => q .non m' H' env'.step rfl) fun e _ q => q⟩
theorem fn_pool {l : LTy T} {la : Addr → LTy A} {t : Ty B} {fn : A → MM T B} {D : Addr → A → List Desc} (F : Fun K x qual st f fd) (S : FnScope N ps (defScope st)) (hl : ∀ p, LDesc (la p) ps.length (D p)) (hn : N.length = ps.length + r)
    (body : ∀ (cdv : Value) (A : Around) (outer : List Env) (s : Shared) (H : Hp) (E : XK) (m : Hp) (p : Addr) a, Room k (A.deeper (envOfC qual (defScope st) s.heap.objs.size f cdv)) →
      PSs (bX P w K mg base N qual st f cdv A outer s H E) (defBody st) (BX (pCtx K cls l p m H E) (D p a ++ List.replicate r .any) (fn a) (ER (pCtx K cls l p m H E) t))) :
    FnOk P w K mg base (L2.CX P w) (k + 1) f fd ps (SpP cls l la t fn) := by
  obtain ⟨oc, od, kV, doc, pm, an, cdv, ct, osl, rfl, lk, hcd⟩ := F.ex
  refine fn_of lk hcd S (fun vs H Q E ⟨p, a, m, st', h, _⟩ => (hl p).len a vs m h) fun A outer s H vs Q E hr ⟨p, a, m, st', h, hm, hp, am, q⟩ => ?_
  exact ⟨_, body cdv A outer s H E m p a hr, m, st', env_start (hl p) h hn hm rfl rfl am (fun y hy => by obtain rfl := List.mem_singleton.mp (show y ∈ [p] from hy); exact hp) trivial, q.mono (fun b s1 q v m' H' w' a' r' => q v m' H' w' a' r') fun e _ q => q⟩
end
end WL

/-! WLF: chains of comparisons, isinstance, lists of places made, a pool made within a def. -/
namespace WL
open PySem PySem.Spec PyProof.Rows L2

section
variable {T A B C G : Type}
def eChain (f : A → B → Option Bool) (g : B → C → Option Bool) (x : MM T A) (y : MM T B) (z : MM T C) : MM T Bool := bnd x fun a => bnd y fun b => bnd (lft (f a b)) fun k => if k = true then bnd z fun d => lft (g b d) else ret false
/-- names of two and more arguments -/
abbrev eC1 (f : A → MM Unit B) (x : MM T A) : MM T B := eCall f x
abbrev eC2 (f : A → B → MM Unit C) (x : MM T A) (y : MM T B) : MM T C := eCall (fun a => f a.1 a.2) (eArg x y)
abbrev eC3 (f : A → B → C → MM Unit G) (x : MM T A) (y : MM T B) (z : MM T C) : MM T G := eCall (fun a => f a.1 a.2.1 a.2.2) (eArg x (eArg y z))
end
section
variable {X : Cx} {T A B C : Type} {c : Ctx T} {ds : List Desc} {t1 : Ty A} {t2 : Ty B} {t3 : Ty C} {pos : Pos} {a b d e : Expr}
theorem rd_chain {r r' : R2} {f : A → B → Option Bool} {g : B → C → Option Bool} {xa : MM T A} {xb : MM T B} {xd : MM T C} {σ : L2.St} {H : Hp} {Q : VK} (hs : Op2 r t1 t2 tBool f) (hs' : Op2 r' t2 t3 tBool g) (h : TX c ds tBool (eChain f g xa xb xd) σ H Q) :
    tChain r r' (TX c ds t1 xa) (TX c ds t2 xb) (TX c ds t3 xd) σ H Q := by
  obtain ⟨m, st, env, p⟩ := h
  unfold eChain at p
  refine ⟨m, st, env, (Post.bnd.mp p).imp fun a s1 p v1 m1 H1 w1 a1 r1 => ?_⟩
  refine ⟨m1, s1, env.go w1 a1, (Post.bnd.mp p).imp fun b s2 p v2 m2 H2 w2 a2 r2 => ?_⟩
  obtain ⟨k, e, p⟩ := Post.lft.mp (Post.bnd.mp p)
  refine hs a b k v1 v2 m2 H2 _ (t1.mono w2.mm r1) r2 w2.mh e fun v m3 H3 w3 r3 => ⟨k, r3, ?_⟩
  have env3 := ((env.go w1 a1).go w2 a2).grow w3
  cases k with
  | true =>
    rw [if_pos rfl] at p
    refine iteT ⟨m3, s2, env3, (Post.bnd.mp p).imp fun d s4 p v4 m4 H4 w4 a4 r4 => ?_⟩
    obtain ⟨k2, e2, p⟩ := Post.lft.mp p
    exact hs' b d k2 v2 v4 m4 H4 Q (t2.mono (w3.mm.trans w4.mm) r2) r4 w4.mh e2 fun v m5 H5 w5 r5 => p v m5 H5 ((((w1.trans w2).trans w3.wide).trans w4).trans w5.wide) (EnvOk.ambGrow a4 w5) r5
  | false =>
    rw [if_neg Bool.false_ne_true] at p
    exact iteF (p _ m3 H3 ((w1.trans w2).trans w3.wide) (EnvOk.ambGrow a2 w3) rfl)
theorem x_chain {op op' : CmpOp} {r r' : R2} {f : A → B → Option Bool} {g : B → C → Option Bool} {xa : MM T A} {xb : MM T B} {xd : MM T C} (ho : OpR X (compareOp op) r) (hs : Op2 r t1 t2 tBool f) (ho' : OpR X (compareOp op') r') (hs' : Op2 r' t2 t3 tBool g)
    (ha : PE X a (TX c ds t1 xa)) (hb : PE X b (TX c ds t2 xb)) (hd : PE X d (TX c ds t3 xd)) (hm : lastMarks [op, op'] [b, d] = false := by with_unfolding_all rfl) : PE X (.Compare a [op, op'] [b, d] pos) (TX c ds tBool (eChain f g xa xb xd)) :=
  PE.imp (pe_chain ho ho' ha hb hd hm) fun σ H Q h => rd_chain hs hs' h
theorem t_chain {op op' : CmpOp} {r r' : R2} {f : A → B → Option Bool} {g : B → C → Option Bool} {xa : MM T A} {xb : MM T B} {xd : MM T C} (ho : OpR X (compareOp op) r) (hs : Op2 r t1 t2 tBool f) (ho' : OpR X (compareOp op') r') (hs' : Op2 r' t2 t3 tBool g)
    (ha : PE X a (TX c ds t1 xa)) (hb : PE X b (TX c ds t2 xb)) (hd : PE X d (TX c ds t3 xd)) (hm : lastMarks [op, op'] [b, d] = false := by with_unfolding_all rfl) : PT X (.Compare a [op, op'] [b, d] pos) (TTX c ds (eChain f g xa xb xd)) :=
  PT.imp (pt_chain ho ho' ha hb hd hm) fun σ H Q ⟨m, st, env, p⟩ => by
    have h : TX c ds tBool (eChain f g xa xb xd) σ H (fun x H' => ∃ k, x = .bl k ∧ Q k H') := ⟨m, st, env, p.imp fun a s1 p v m1 H1 w1 a1 r1 => ⟨a, r1, p m1 H1 w1 a1⟩⟩
    exact rd_chain hs hs' h
end
theorem ldLen {A : Type} {l : LTy A} {n : Nat} {D : A → List Desc} (h : LDesc l n D) (hn : n ≤ 100 := by decide) : ∀ a vs m, l.rep a vs m → vs.length ≤ 100 := fun a vs m r => by rw [h.len a vs m r]; exact hn
/-! isinstance, with an answer that the type tells -/
def tTy (n : String) : Ty Unit := ⟨fun _ v _ => v = .ty n, fun _ r => r⟩
structure KindT {A : Type} (K : PySem.W.Frag) (t : Ty A) (n : String) : Prop where
  ty : ∀ a v m H, t.rep a v m → Sub m H → TyX K H v (.type n)
section
variable {A : Type} {K : PySem.W.Frag} {t : Ty A}
theorem kt_int : KindT K tInt "int" := ⟨fun a v m H r _ => by cases rep_int r; exact .base (.int a)⟩
theorem kt_bool : KindT K tBool "bool" := ⟨fun a v m H r _ => by cases rep_bool r; exact .base (.bl a)⟩
theorem kt_str : KindT K tStr "str" := ⟨fun a v m H r _ => by cases rep_str r; exact .base (.str a)⟩
theorem kt_non : KindT K tNon "NoneType" := ⟨fun a v m H r _ => by have e : v = .non := r; subst e; exact .base .non⟩
theorem kt_list : KindT K (tList t) "list" := ⟨fun a v m H ⟨p, vs, e, k, r⟩ hm => by subst e; exact .base (.lst (hm _ _ k))⟩
theorem sqT_ty {H : Hp} {p : Addr} {vs : List V} (h : SqT K H p vs) : TyX K H (.ref p) (.type "tuple") := by
  rcases h with (h | ⟨o, h⟩) | ⟨o, its, n, hk, hc, _⟩
  · exact .base (.tup h)
  · exact .fTuple h
  · exact .kTuple hk hc
theorem kt_vt : KindT K (tVT K t) "tuple" := ⟨fun a v m H ⟨p, vs, e, k, r⟩ hm => by subst e; exact sqT_ty (hm.sqT k)⟩
theorem kt_tup {l : LTy A} : KindT K (tTup K l) "tuple" := ⟨fun a v m H ⟨p, vs, e, k, r⟩ hm => by subst e; exact sqT_ty (hm.sqT k)⟩
def oConst {A : Type} (b : Bool) (_ : A × Unit) : Option Bool := some b
theorem sp_isi {n k : String} {b : Bool} (kt : KindT K t n) (h : kitB n k = some b) : OpL (rIsi K) (lc t (l1 (tTy k))) tBool (oConst b) := fun a g vs m H Q ⟨v, ws, ev, r, u, eu, ru⟩ hm e q => by
  subst ev eu; cases e
  have e2 : u = .ty k := ru
  subst e2
  exact ⟨v, _, .type n, .type k, b, rfl, .ty k, kt.ty a.1 v m H r hm, kit_ty h, q _ m H (.refl hm) rfl⟩
/-- a value or None -/
def oConstO {A : Type} (b : Bool) (a : Option A × Unit) : Option Bool := some (match a.1 with
  | none => false
  | some _ => b)
theorem sp_isiO {n k : String} {b : Bool} (kt : KindT K t n) (h : kitB n k = some b) (h2 : kitB "NoneType" k = some false) : OpL (rIsi K) (lc (tOpt t) (l1 (tTy k))) tBool (oConstO b) := fun a g vs m H Q ⟨v, ws, ev, r, u, eu, ru⟩ hm e q => by
  subst ev eu; cases e
  have e2 : u = .ty k := ru
  subst e2
  obtain ⟨o, z⟩ := a
  cases o with
  | none =>
    have e3 : v = .non := r
    subst e3
    exact ⟨_, _, .type "NoneType", .type k, false, rfl, .ty k, .base .non, kit_ty h2, q _ m H (.refl hm) rfl⟩
  | some a => exact ⟨v, _, .type n, .type k, b, rfl, .ty k, kt.ty a v m H r hm, kit_ty h, q _ m H (.refl hm) rfl⟩
end
theorem x_ty {X : Cx} {T : Type} {c : Ctx T} {ds : List Desc} {pos : Pos} {x : Str} {n : String} (hm : X.mg x = none) (hv : bootBuiltins x = some (.type n) := by decide +kernel) (hg : Gl X x := by rfl) (hn : x ≠ "__name__" := by decide) (hd : (x == ("__debug__" : Str)) = false := by decide) :
    PE X (.Name x pos) (TX c ds (tTy n) (ret ())) := PE.imp (pe_bltn (v := .ty n) hg hm hv rfl hn hd) fun _ _ _ h => rd_c (fun _ => rfl) h
/-! is True, is False -/
def oIsB (a b : Bool) : Option Bool := some (decide (a = b))
def oNotB (a b : Bool) : Option Bool := some (!decide (a = b))
theorem sp_isB : Op2 rIsB tBool tBool tBool oIsB := fun a b g v1 v2 m H Q r1 r2 hm e q => by
  cases rep_bool r1; cases rep_bool r2; cases e
  exact ⟨a, b, rfl, rfl, q _ m H (.refl hm) rfl⟩
theorem sp_notB : Op2 rNotB tBool tBool tBool oNotB := fun a b g v1 v2 m H Q r1 r2 hm e q => by
  cases rep_bool r1; cases rep_bool r2; cases e
  exact ⟨a, b, rfl, rfl, q _ m H (.refl hm) rfl⟩
/-! a list of places is made -/
section
variable {X : Cx} {T A B F R : Type} {c : Ctx T} {ds : List Desc} {pos : Pos} {e : Expr}
theorem x_lstR {es : List Expr} {l : LTy A} {xa : MM T A} (h : PA X es (TAX c ds l xa)) (hl : ∀ a vs m, l.rep a vs m → vs.length ≤ 100) : PE X (.List es pos) (TXO c ds (oRec l) xa) :=
  PE.imp (pe_lst h) fun σ H Q ⟨m, st, env, p⟩ => ⟨m, st, env, p.imp fun a s1 p vs m1 H1 w1 a1 r1 => ⟨Nat.le_trans (hl a vs m1 r1) (by decide), fun q hq => by
    have w2 : WStep [] m1 H1 m1 (upd H1 q (.lst vs)) := .own w1.mh hq
    exact p (.ref q) [q] m1 _ (w1.trans w2.wide) (EnvOk.ambGrow a1 w2) (fun y hy => by obtain rfl := List.mem_singleton.mp hy; exact ⟨fresh_up w1 hq, w1.mh.free hq⟩) ⟨q, vs, rfl, rfl, upd_same, r1⟩⟩⟩
/-- a list of places that stays -/
def tRec (l : LTy A) : Ty A := ⟨fun a v m => ∃ p vs, v = .ref p ∧ m p = some (.lst vs) ∧ l.rep a vs m, fun h ⟨p, vs, e, k, r⟩ => ⟨p, vs, e, h _ _ k, l.mono h r⟩⟩
theorem frz_rec {l : LTy A} : Freezes (oRec l) (tRec l) := fun as v fp h m ⟨p, vs, e, ef, k, r⟩ hm n => by
  subst ef
  obtain ⟨a1, a2, a3⟩ := frz_put hm k (n p (by simp))
  exact ⟨_, a1, a2, a3, p, vs, e, upd_same, l.mono a1 r⟩
theorem sp_projR {K : PySem.W.Frag} {l : LTy A} {t : Ty B} {f : A → B} (n : Nat) (hp : LProj l n t f) : ∀ (a : A) (v1 : V) (m H : Hp) (Q : VK), (tRec l).rep a v1 m → Sub m H → (∀ v, t.rep (f a) v m → Q v H) → rIxL K v1 (.int (n : Int)) H Q := fun a v1 m H Q ⟨p, vs, e, k, r⟩ hm q => by
  obtain ⟨u, hu, ru⟩ := hp.at_ a vs m r
  exact ⟨p, vs, n, u, e, rfl, .of (hm _ _ k), atI_nat hu, q u ru⟩
theorem x_projR {l : LTy A} {t : Ty B} {f : A → B} {xa : MM T A} {j : _} {p2 : Pos} {a : Expr} (n : Nat) (hp : LProj l n t f) (ha : PE X a (TX c ds (tRec l) xa)) : PE X (.Subscript a (.Constant (.int (n : Int)) j p2) pos) (TX c ds t (eProj f xa)) :=
  PE.imp (pe_ix ix_list ha pe_int (fun _ _ => rfl)) fun σ H Q ⟨m, st, env, p⟩ =>
    ⟨m, st, env, (Post.bnd.mp p).imp fun a s1 p v m1 H1 w1 a1 r1 => sp_projR n hp a v m1 H1 Q r1 w1.mh fun u ru => p u m1 H1 w1 a1 ru⟩
/-- a def whose answer is a new object -/
def SpFO {A B : Type} (cls : Nat → Addr) (l : LTy A) (o : OTy B) (f : A → MM Unit B) : Sp := fun vs H Q E => ∃ a m, l.rep a vs m ∧ Sub m H ∧
  Post (f a ()) (fun b _ => ∀ v fp m' H', WStep [] m H m' H' → (∀ p ∈ fp, H p = none ∧ m' p = none) → o.rep b v fp H' m' → Q v H') (fun e _ => ∀ d m' H', WStep [] m H m' H' → H' d = some (.xd [(fld e.k, e.a)]) → E (.ref (cls e.k)) (some d) H')
theorem x_callO {k : Nat} {f : Addr} {fd : FuncData} {ps : List Str} {x : Str} {p : Pos} {es : List Expr} {W : WX} {l : LTy A} {o : OTy B} {fn : A → MM Unit B} {xa : MM T A} (G : FnOk X.prog X.w X.K X.mg X.base (L2.CX X.prog X.w) k f fd ps (SpFO c.cls l o fn)) (hr : Room k X.A) (hm : X.mg x = some (.ref f)) (hk : PySem.W.keepIn X.K (.ref f) = true) (hb : Binds X.K fd ps [])
    (tk : Takes X W) (he : ErrC c W) (ha : PA X (e :: es) (TAX c ds l xa)) (hg : Gl X x := by rfl) (hdb : (x == ("__debug__" : Str)) = false := by decide)
    (h1 : starEach (e :: es) X.env = (false, eval e X.env) :: starEach es X.env := by rfl) (h2 : (backTo pos (starEach es X.env)).any (·.1) = false := by rfl) :
    PE X (.Call (.Name x p) (e :: es) [] pos) (TXO c ds o (eCall fn xa)) := PE.imp (pe_callS G hr hg hm hk hb (fun σ => passAt tk σ) ha hdb h1 h2) fun σ H Q ⟨m, st, env, q⟩ =>
  ⟨m, st, env, (Post.bnd.mp q).imp fun a s1 q vs m1 H1 w1 a1 r1 => ⟨a, m1, r1, w1.mh, (Post.up.mp q).mono (fun b _ q v fp m' H' w2 n2 r2 => q v fp m' H' (w1.trans w2.wide) (EnvOk.ambGrow a1 w2) (fun y hy => ⟨fresh_up w1 (n2 y hy).1, (n2 y hy).2⟩) r2)
    fun e _ q d m' H' w2 hd => he e s1 d σ m' H' ds q ((env.go w1 a1).grow w2) hd⟩⟩
def ERO (c : Ctx T) (o : OTy A) : A → T → Ends → Prop := fun a st D => ∀ v fp m H, WStep c.S c.m0 c.H0 m H → c.amb st H m → (∀ p ∈ fp, c.H0 p = none ∧ m p = none) → o.rep a v fp H m → D.rt v H
theorem b_retO {o : OTy A} {xa : MM T A} (he : PE X e (TXO c ds o xa)) : PSs X [.Return (some e) pos] (BX c ds xa (ERO c o)) :=
  PSs.imp (pss_one (ps_ret he)) fun D σ H ⟨m, st, env, p⟩ => ⟨m, st, env, p.imp fun a s1 p v fp m1 H1 w1 a1 n1 r1 => p v fp m1 H1 (env.step.comp w1 c.afr) a1 (fun y hy => ⟨by
    cases z : c.H0 y with
    | none => rfl
    | some u => exact absurd (n1 y hy).1 (env.step.dm y (by rw [z]; exact fun q => nomatch q)), (n1 y hy).2⟩) r1⟩
theorem b_ifretO {rest : List Stmt} {cnd : Expr} {a : List Stmt} {xc : MM T Bool} {xa : MM T R} {xb : MM T R} {o : OTy R} (hc : PT X cnd (TTX c ds xc)) (ha : PSs X a (BX c ds xa (ERO c o))) (hb : PSs X rest (BX c ds xb (ERO c o))) :
    PSs X (.If cnd a [] pos :: rest) (BX c ds (eIf xc xa xb) (ERO c o)) :=
  PSs.imp (pss_cons (ps_if hc ha pss_nil) hb) fun D σ H ⟨m, st, env, p⟩ => by
    unfold eIf at p
    refine ⟨m, st, env, (Post.bnd.mp p).imp fun t s1 p m1 H1 w1 a1 => ?_⟩
    cases t with
    | true => rw [if_pos rfl] at p ⊢; exact ⟨m1, s1, env.go w1 a1, p⟩
    | false => rw [if_neg Bool.false_ne_true] at p ⊢; exact ⟨m1, s1, env.go w1 a1, p⟩
theorem fn_new {P : Program} {w : World} {K : PySem.W.Frag} {mg : Str → Option Value} {base : Heap} {x qual : Str} {st : Stmt} {f : Addr} {fd : FuncData} {N ps : List Str} {k r : Nat} {cls : Nat → Addr} {l : LTy A} {o : OTy B} {fn : A → MM Unit B} {D : A → List Desc} (F : Fun K x qual st f fd) (S : FnScope N ps (defScope st)) (hl : LDesc l ps.length D) (hn : N.length = ps.length + r)
    (body : ∀ (cdv : Value) (A : Around) (outer : List Env) (s : Shared) (H : Hp) (E : XK) (m : Hp) a, Room k (A.deeper (envOfC qual (defScope st) s.heap.objs.size f cdv)) →
      PSs (bX P w K mg base N qual st f cdv A outer s H E) (defBody st) (BX (uCtx K cls m H E) (D a ++ List.replicate r .any) (fn a) (ERO (uCtx K cls m H E) o))) :
    FnOk P w K mg base (L2.CX P w) (k + 1) f fd ps (SpFO cls l o fn) := by
  obtain ⟨oc, od, kV, doc, pm, an, cdv, ct, osl, rfl, lk, hcd⟩ := F.ex
  refine fn_of lk hcd S (fun vs H Q E ⟨a, m, h, _⟩ => hl.len a vs m h) fun A outer s H vs Q E hr ⟨a, m, h, hm, q⟩ => ?_
  exact ⟨_, body cdv A outer s H E m a hr, m, (), env_start hl h hn hm rfl rfl trivial (fun p hp => absurd hp (by simp [uCtx])) trivial, q.mono (fun b _ q v fp m' H' w' _ n' r' => q v fp m' H' w' n' r') fun e _ q => q⟩
end
/-! a pool made within a def -/
def runP {T F : Type} (st0 : T) (y : MM T F) : MM Unit F := fun _ => match y st0 with
  | .ok a _ => .ok a ()
  | .err e _ => .err e ()
  | .stuck => .stuck
theorem Post.runP {T F : Type} {st0 : T} {y : MM T F} {P : F → Unit → Prop} {E : Exn → Unit → Prop} : Post (runP st0 y ()) P E ↔ Post (y st0) (fun a _ => P a ()) (fun e _ => E e ()) := by
  unfold WL.runP
  cases y st0 <;> rfl
theorem step_one {m0 H0 m H : Hp} {p : Addr} (w : WStep [p] m0 H0 m H) (h : H0 p = none) : WStep [] m0 H0 m H :=
  ⟨w.mm, w.mh, fun a o _ e => w.hh a o (fun z => by obtain rfl := List.mem_singleton.mp z; rw [h] at e; cases e) e, w.ow, w.dm⟩
section
variable {X : Cx} {T B F : Type} {K : PySem.W.Frag} {cls : Nat → Addr} {m0 H0 : Hp} {E : XK} {ds : List Desc} {pos p2 : Pos} {e : Expr} {rest : List Stmt} {l : LTy T}
theorem b_pool (i : Nat) {x : Str} {t : Ty F} {xa : MM Unit T} {k : MM T F} (he : PE X e (TXO (uCtx K cls m0 H0 E) ds (oRec l) xa))
    (h2 : ∀ p, PSs X rest (BX (pCtx K cls l p m0 H0 E) (ds.set i (.val (tIs p) ())) k (ER (pCtx K cls l p m0 H0 E) t))) (hN : X.N.Nodup) (hi : X.N[i]? = some x := by rfl) (hx : Loc X.env.scope x := by first | exact Or.inl rfl | exact Or.inr rfl)
    (hs : swapsWith e (some (.Name x p2)) pos.line X.env = pure false := by rfl) (hf : X.fn x = true ∨ X.env.scope.names.lookup x = some .local := by first | exact .inl rfl | exact .inr rfl) :
    PSs X (.Assign [.Name x p2] e pos :: rest) (BX (uCtx K cls m0 H0 E) ds (bnd xa fun st0 => runP st0 k) (ER (uCtx K cls m0 H0 E) t)) :=
  PSs.imp (pss_cons (ps_set hN hi hx he hs hf) (PSs.any h2)) fun D σ H ⟨m, st, env, p⟩ => ⟨m, st, env, (Post.bnd.mp p).imp fun a s1 p v fp m1 H1 w1 a1 n1 ⟨q, us, ev, ef, kk, r⟩ => by
    subst ev ef
    have hq := n1 q (by simp)
    have e0 : H0 q = none := by
      cases z : H0 q with
      | none => rfl
      | some u => exact absurd hq.1 (env.step.dm q (by show H0 q ≠ none; rw [z]; exact fun y => nomatch y))
    have ev1 := env.go w1 a1
    have ev2 : EnvOk (uCtx K cls m0 H0 E) (σ.set i (some (.ref q))) m1 H1 (ds.set i (.val (tIs q) ())) () := ev1.bind i rfl
    obtain ⟨fps, sl, dj, fr⟩ := ev2.slots
    obtain ⟨fps0, sl0, _, _⟩ := env.slots
    refine ⟨q, m1, a, ⟨ev2.step.wide, ?_, ⟨us, kk, r⟩, fun y hy => by obtain rfl := List.mem_singleton.mp (show y ∈ [q] from hy); exact hq.2, trivial⟩, (Post.runP.mp p).mono (fun b s2 p v2 m2 H2 w2 _ r2 => p v2 m2 H2 (step_one w2 e0) trivial r2) fun e s2 p d m' H' w' _ hd => p d m' H' (step_one w' e0) hd⟩
    obtain ⟨fpe, sle, dje, fre⟩ := env.slots
    refine ⟨fpe.set i [], (sle.go (fun gp hg y hy => ?_) w1.mm fun gp hg y hy e => w1.ow y e (sle.dom gp hg y hy).1).set (d := .val (tIs q) ()) ⟨rfl, _, rfl, rfl⟩, dje.set fun gp hg => .inl fun y _ z => absurd z (by simp), fun gp hg y hy => ?_⟩
    · cases z : H y with
      | none => exact absurd z (sle.dom gp hg y hy).1
      | some u => exact w1.hh y u (fre gp hg y hy).1 z
    · rcases List.mem_or_eq_of_mem_set hg with z | z
      · refine ⟨fun w => ?_, (fre gp z y hy).2⟩
        obtain rfl := List.mem_singleton.mp (show y ∈ [q] from w)
        exact (sle.dom gp z y hy).1 hq.1
      · subst z; exact absurd hy (by simp)⟩
end
/-! ### the text's defs -/
structure DefI (K : PySem.W.Frag) (mg : Str → Option Value) (x qual : Str) (st : Stmt) (ps : List Str) where
  a : Addr
  d : FuncData
  F : Fun K x qual st a d
  g : mg x = some (.ref a)
  b : Binds K d ps []
theorem noCX {P : Program} {w : World} {H : Hp} {s : Shared} {e : Value} {s' : Shared} (h : L2.CX P w [] H s (fun _ _ _ => False) e s') : False := by
  obtain ⟨_, _, _, _, _, _, _, _, _, _, _, _, z⟩ := h
  exact z
end WL

/-! WLM: to reckon with mirrors. -/
namespace WL
open PySem PySem.Spec PyProof.Rows L2

section
variable {T A B C G S R : Type}
/-! ### rewriting -/
theorem bnd_ret (a : A) (f : A → MM T B) : bnd (ret a) f = f a := rfl
theorem bnd_assoc (x : MM T A) (f : A → MM T B) (g : B → MM T C) : bnd (bnd x f) g = bnd x fun a => bnd (f a) g := by
  funext s
  unfold bnd
  cases x s <;> rfl
theorem bnd_ret_r (x : MM T A) : bnd x ret = x := by
  funext s
  unfold bnd
  cases x s <;> rfl
theorem lft_some (a : A) : (lft (some a) : MM T A) = ret a := rfl
theorem up_ret (a : A) : (up (ret a) : MM T A) = ret a := rfl
theorem noE_ret (a : A) : noE (ret a : MM T A) = ret a := rfl
theorem e1_ret (f : A → Option B) (a : A) : (e1 f (ret a) : MM T B) = lft (f a) := rfl
theorem e2_ret (f : A → B → Option C) (a : A) (b : B) : (e2 f (ret a) (ret b) : MM T C) = lft (f a b) := rfl
theorem e3p_ret (f : A → Option Int → Option Int → Option C) (a : A) (b d : Option Int) : (e3p f (ret a) (ret b) (ret d) : MM T C) = lft (f a b d) := rfl
theorem eArg_ret (a : A) (b : B) : (eArg (ret a) (ret b) : MM T (A × B)) = ret (a, b) := rfl
theorem eCall_ret (f : A → MM Unit B) (a : A) : (eCall f (ret a) : MM T B) = up (f a) := rfl
theorem eCallS_ret (f : A → MM T B) (a : A) : eCallS f (ret a) = f a := rfl
theorem eProj_ret (f : A → B) (a : A) : (eProj f (ret a) : MM T B) = ret (f a) := rfl
theorem eNot_ret (a : Bool) : (eNot (ret a) : MM T Bool) = ret (!a) := rfl
theorem eAnd_ret (a : Bool) (y : MM T Bool) : eAnd (ret a) y = if a = true then y else ret false := rfl
theorem eOr_ret (a : Bool) (y : MM T Bool) : eOr (ret a) y = if a = true then ret true else y := rfl
theorem eIf_ret (a : Bool) (y z : MM T A) : eIf (ret a) y z = if a = true then y else z := rfl
theorem eAnd_rr (a b : Bool) : (eAnd (ret a) (ret b) : MM T Bool) = ret (a && b) := by cases a <;> rfl
theorem eOr_rr (a b : Bool) : (eOr (ret a) (ret b) : MM T Bool) = ret (a || b) := by cases a <;> rfl
theorem eIf_rr (a : Bool) (x y : A) : (eIf (ret a) (ret x) (ret y) : MM T A) = ret (if a = true then x else y) := by cases a <;> rfl
theorem eChain_ret (f : A → B → Option Bool) (g : B → C → Option Bool) (a : A) (b : B) (d : C) {k l : Bool} (h : f a b = some k) (h2 : g b d = some l) : (eChain f g (ret a) (ret b) (ret d) : MM T Bool) = ret (k && l) := by
  show bnd (lft (f a b)) (fun k => if k = true then lft (g b d) else ret false) = _
  rw [h, h2]
  cases k <;> rfl
theorem oAdd_eq (a b : Int) : oAdd a b = some (a + b) := rfl
theorem oSub_eq (a b : Int) : oSub a b = some (a - b) := rfl
theorem oNeg_eq (a : Int) : oNeg a = some (-a) := rfl
theorem oLt_eq (a b : Int) : oLt a b = some (decide (a < b)) := rfl
theorem oLe_eq (a b : Int) : oLe a b = some (decide (a ≤ b)) := rfl
theorem oGt_eq (a b : Int) : oGt a b = some (decide (b < a)) := rfl
theorem oGe_eq (a b : Int) : oGe a b = some (decide (b ≤ a)) := rfl
theorem oEq_eq [DecidableEq A] (a b : A) : oEq a b = some (decide (a = b)) := rfl
theorem oNe_eq [DecidableEq A] (a b : A) : oNe a b = some (!decide (a = b)) := rfl
theorem oLen_eq (xs : List A) : oLen xs = some (xs.length : Int) := rfl
theorem oCopy_eq (xs : List A) : oCopy xs = some xs := rfl
theorem oIntI_eq (i : Int) : oIntI i = some i := rfl
theorem oCut_eq (xs : List A) (l h : Option Int) : oCut xs l h = some (cutL xs l h) := rfl
theorem oConst_eq (b : Bool) (a : A × Unit) : oConst b a = some b := rfl
theorem oSum_eq (xs : List Int) : oSum xs = some xs.sum := rfl
theorem oAny_eq (xs : List Bool) : oAny xs = some (xs.any id) := rfl
theorem oAll_eq (xs : List Bool) : oAll xs = some (xs.all id) := rfl
theorem oIsN_eq (o : Option A) : oIsN o () = some o.isNone := rfl
theorem oNotN_eq (o : Option A) : oNotN o () = some (!o.isNone) := rfl
theorem oMul_r (a b : Int) (h : -(2 ^ 64) < b ∧ b < 2 ^ 64) : oMul a b = some (a * b) := if_pos (.inr h)
theorem oMul_l (a b : Int) (h : -(2 ^ 64) < a ∧ a < 2 ^ 64) : oMul a b = some (a * b) := if_pos (.inl h)
theorem oDiv_eq (a b : Int) (h : 0 < b ∧ b < 2 ^ 200) : oDiv a b = some (a / b) := if_pos h
theorem oMod_eq (a b : Int) (h : 0 < b) : oMod a b = some (a % b) := if_pos h
theorem oShl_eq (a b : Int) (h : 0 ≤ b ∧ b ≤ 1000000 ∧ a.natAbs < 2 ^ 64) : oShl a b = some (a * 2 ^ b.toNat) := if_pos h
theorem oShr_eq (a b : Int) (h : 0 ≤ b) : oShr a b = some (a / 2 ^ b.toNat) := if_pos h
theorem oRange_eq (n : Int) (h : -(2 ^ 62) ≤ n ∧ n < 2 ^ 62) : oRange n = some (rangeL 0 n) := if_pos h
theorem oApp_eq (xs : List A) (a : A) (h : xs.length < 100000) : oApp xs a = some (xs ++ [a]) := if_pos h
theorem oCat_eq (xs ys : List A) (h : xs.length + ys.length ≤ 100000) : oCat xs ys = some (xs ++ ys) := if_pos h
theorem oRep_eq (xs : List A) (n : Int) (h : -(2 ^ 62) ≤ n ∧ n < 2 ^ 62 ∧ xs.length * n.toNat ≤ 100000) : oRep xs n = some (List.replicate n.toNat xs).flatten := if_pos h
theorem oAt_nat (xs : List A) (i : Nat) (h : i < xs.length) : oAt xs (i : Int) = some xs[i] := by
  unfold oAt
  exact atI_nat (List.getElem?_eq_getElem h)
theorem oAt_int (xs : List A) (i : Int) (h0 : 0 ≤ i) (h : i.toNat < xs.length) : oAt xs i = some xs[i.toNat] := by
  have := oAt_nat xs i.toNat h
  rwa [Int.toNat_of_nonneg h0] at this
theorem oAt_neg (xs : List A) (h : xs ≠ []) : oAt xs (-1) = some (xs.getLast h) := by
  unfold oAt atI
  have hl : 0 < xs.length := List.length_pos_iff.mpr h
  have e : ixN xs.length (-1) = some (xs.length - 1) := by
    unfold ixN
    rw [if_neg (by omega), if_pos (by omega)]
    congr 1
    omega
  rw [e]
  show xs[xs.length - 1]? = _
  rw [List.getLast_eq_getElem, List.getElem?_eq_getElem (by omega)]
theorem oSet_nat (xs : List A) (i : Nat) (a : A) (h : i < xs.length) : oSet xs (i : Int) a = some (xs.set i a) := by
  unfold oSet ixN
  rw [if_pos (by omega), if_pos (by omega)]
  rfl
/-! comprehensions and loops whose parts only compute -/
theorem lcM_ret {f : A → MM T B} {g : A → B} : ∀ (xs : List A), (∀ x ∈ xs, f x = ret (g x)) → lcM f xs = ret (xs.map g)
  | [], _ => rfl
  | x :: r, h => by
    show bnd (f x) (fun y => bnd (lcM f r) fun ys => ret (y :: ys)) = _
    rw [h x List.mem_cons_self, lcM_ret r fun y hy => h y (List.mem_cons_of_mem _ hy)]
    rfl
theorem lcL_ret {f : A → MM T B} (g : A → B) (xs : List A) (hl : xs.length ≤ 100000) (h : ∀ x ∈ xs, f x = ret (g x)) : lcL f xs = ret (xs.map g) := by
  unfold lcL
  rw [if_pos hl]
  exact lcM_ret xs fun x hx => by rw [h x hx]; rfl
theorem lcI_ret {ts : A → MM T Bool} {f : A → MM T B} {p : A → Bool} {g : A → B} : ∀ (xs : List A), (∀ x ∈ xs, ts x = ret (p x)) → (∀ x ∈ xs, p x = true → f x = ret (g x)) → lcI ts f xs = ret ((xs.filter p).map g)
  | [], _, _ => rfl
  | x :: r, h, k => by
    show bnd (ts x) (fun b => if b = true then bnd (f x) fun y => bnd (lcI ts f r) fun ys => ret (y :: ys) else lcI ts f r) = _
    rw [h x List.mem_cons_self, bnd_ret, lcI_ret r (fun y hy => h y (List.mem_cons_of_mem _ hy)) fun y hy => k y (List.mem_cons_of_mem _ hy)]
    cases e : p x with
    | true => rw [if_pos rfl, k x List.mem_cons_self e, List.filter_cons, if_pos e]; rfl
    | false => rw [if_neg Bool.false_ne_true, List.filter_cons, if_neg (by rw [e]; exact Bool.false_ne_true)]
theorem lcIL_ret {ts : A → MM T Bool} {f : A → MM T B} (p : A → Bool) (g : A → B) (xs : List A) (hl : xs.length ≤ 100000) (h : ∀ x ∈ xs, ts x = ret (p x)) (k : ∀ x ∈ xs, p x = true → f x = ret (g x)) : lcIL ts f xs = ret ((xs.filter p).map g) := by
  unfold lcIL
  rw [if_pos hl]
  exact lcI_ret xs (fun x hx => by rw [h x hx]; rfl) fun x hx e => by rw [k x hx e]; rfl
/-- a loop, by what holds of what is taken so far -/
theorem forM_inv {xs : List A} {f : S → A → MM T S} (I : List A → S → Prop) (s0 : S) (h0 : I [] s0) (h : ∀ pre x post s, xs = pre ++ x :: post → I pre s → ∃ s', f s x = ret s' ∧ I (pre ++ [x]) s') : ∃ s', forM xs s0 f = ret s' ∧ I xs s' := by
  suffices H : ∀ (post pre : List A) (s : S), xs = pre ++ post → I pre s → ∃ s', forM post s f = ret s' ∧ I xs s' from H xs [] s0 rfl h0
  intro post
  induction post with
  | nil => intro pre s e i; rw [List.append_nil] at e; exact ⟨s, rfl, e ▸ i⟩
  | cons x r ih =>
    intro pre s e i
    obtain ⟨s1, h1, i1⟩ := h pre x r s e i
    obtain ⟨s2, h2, i2⟩ := ih (pre ++ [x]) s1 (by rw [e, List.append_assoc]; rfl) i1
    exact ⟨s2, by show bnd (f s x) _ = _; rw [h1, bnd_ret, h2], i2⟩
theorem forM_fold {xs : List A} {f : S → A → MM T S} (g : S → A → S) (s0 : S) (h : ∀ s, ∀ x ∈ xs, f s x = ret (g s x)) : forM xs s0 f = ret (xs.foldl g s0) := by
  induction xs generalizing s0 with
  | nil => rfl
  | cons x r ih =>
    show bnd (f s0 x) _ = _
    rw [h s0 x List.mem_cons_self, bnd_ret, ih _ fun s y hy => h s y (List.mem_cons_of_mem _ hy)]
    rfl
/-- a loop that no turn leaves -/
theorem forR_inv {xs : List A} {f : S → A → MM T (Sum R S)} (I : List A → S → Prop) (s0 : S) (h0 : I [] s0) (h : ∀ pre x post s, xs = pre ++ x :: post → I pre s → ∃ s', f s x = ret (.inr s') ∧ I (pre ++ [x]) s') : ∃ s', forR xs s0 f = ret (.inr s') ∧ I xs s' := by
  suffices H : ∀ (post pre : List A) (s : S), xs = pre ++ post → I pre s → ∃ s', forR post s f = ret (.inr s') ∧ I xs s' from H xs [] s0 rfl h0
  intro post
  induction post with
  | nil => intro pre s e i; rw [List.append_nil] at e; exact ⟨s, rfl, e ▸ i⟩
  | cons x r ih =>
    intro pre s e i
    obtain ⟨s1, h1, i1⟩ := h pre x r s e i
    obtain ⟨s2, h2, i2⟩ := ih (pre ++ [x]) s1 (by rw [e, List.append_assoc]; rfl) i1
    exact ⟨s2, by show bnd (f s x) _ = _; rw [h1, bnd_ret]; exact h2, i2⟩
theorem rangeL_nat (n : Nat) : rangeL 0 (n : Int) = (List.range n).map fun (k : Nat) => (k : Int) := by
  unfold rangeL
  simp
theorem rangeL_split {lo hi : Int} {pre post : List Int} {x : Int} (h : rangeL lo hi = pre ++ x :: post) : x = lo + (pre.length : Int) ∧ pre.length < (hi - lo).toNat := by
  have hl : pre.length < (rangeL lo hi).length := by rw [h]; simp
  rw [rangeL_length] at hl
  have e := rangeL_get lo hi hl
  rw [h, List.getElem?_append_right (Nat.le_refl _)] at e
  simp at e
  exact ⟨e, hl⟩
theorem rangeL_mem {lo hi x : Int} (h : x ∈ rangeL lo hi) : lo ≤ x ∧ x < hi := by
  unfold rangeL at h
  obtain ⟨k, hk, rfl⟩ := List.mem_map.mp h
  have := List.mem_range.mp hk
  omega
/-! ### with a state -/
/-- from each state of I x ends well, in a state of I, with a value of Q -/
def Sat (I : T → Prop) (x : MM T A) (Q : A → Prop) : Prop := ∀ s, I s → ∃ a s1, x s = .ok a s1 ∧ I s1 ∧ Q a
variable {I : T → Prop} {x : MM T A} {y : MM T B} {Q : A → Prop} {Q2 : B → Prop} {Q3 : C → Prop}
theorem Sat.ret {a : A} (h : Q a) : Sat I (ret a) Q := fun s hs => ⟨a, s, rfl, hs, h⟩
theorem Sat.imp {Q' : A → Prop} (h : Sat I x Q) (k : ∀ a, Q a → Q' a) : Sat I x Q' := fun s hs => let ⟨a, s1, e, i, q⟩ := h s hs; ⟨a, s1, e, i, k a q⟩
theorem Sat.bnd {f : A → MM T B} (h : Sat I x Q) (k : ∀ a, Q a → Sat I (f a) Q2) : Sat I (bnd x f) Q2 := fun s hs => by
  obtain ⟨a, s1, e, i, q⟩ := h s hs
  obtain ⟨b, s2, e2, i2, q2⟩ := k a q s1 i
  exact ⟨b, s2, by show (match x s with | .ok a s1 => f a s1 | .err e s1 => .err e s1 | .stuck => .stuck) = _; rw [e]; exact e2, i2, q2⟩
theorem Sat.lft {o : Option A} {a : A} (h : o = some a) (q : Q a) : Sat I (lft o) Q := by rw [h]; exact Sat.ret q
theorem Sat.up {x : MM Unit A} (h : Sat (fun _ => True) x Q) : Sat I (up x) Q := fun s hs => by
  obtain ⟨a, s1, e, _, q⟩ := h () trivial
  exact ⟨a, s, by show (match x () with | .ok a _ => RS.ok a s | .err e _ => .err e s | .stuck => .stuck) = _; rw [e], hs, q⟩
theorem Sat.e1 {f : A → Option B} (h : Sat I x Q) (k : ∀ a, Q a → ∃ b, f a = some b ∧ Q2 b) : Sat I (e1 f x) Q2 := h.bnd fun a q => by
  obtain ⟨b, e, q2⟩ := k a q
  exact Sat.lft e q2
theorem Sat.e2 {f : A → B → Option C} (h : Sat I x Q) (h2 : Sat I y Q2) (k : ∀ a b, Q a → Q2 b → ∃ d, f a b = some d ∧ Q3 d) : Sat I (e2 f x y) Q3 := h.bnd fun a q => h2.bnd fun b q2 => by
  obtain ⟨d, e, q3⟩ := k a b q q2
  exact Sat.lft e q3
theorem Sat.arg (h : Sat I x Q) (h2 : Sat I y Q2) : Sat I (eArg x y) (fun p => Q p.1 ∧ Q2 p.2) := h.bnd fun a q => h2.bnd fun b q2 => Sat.ret ⟨q, q2⟩
theorem Sat.call {f : A → MM Unit B} (h : Sat I x Q) (k : ∀ a, Q a → Sat (fun _ => True) (f a) Q2) : Sat I (eCall f x) Q2 := h.bnd fun a q => (k a q).up
theorem Sat.callS {f : A → MM T B} (h : Sat I x Q) (k : ∀ a, Q a → Sat I (f a) Q2) : Sat I (eCallS f x) Q2 := h.bnd k
theorem Sat.cond {xc : MM T Bool} {y z : MM T A} {Qc : Bool → Prop} (h : Sat I xc Qc) (h1 : Qc true → Sat I y Q) (h2 : Qc false → Sat I z Q) : Sat I (eIf xc y z) Q := h.bnd fun a q => by
  cases a with
  | true => rw [if_pos rfl]; exact h1 q
  | false => rw [if_neg Bool.false_ne_true]; exact h2 q
/-- a test that comes out False -/
theorem Sat.orF {x y : MM T Bool} (h : Sat I x (· = false)) (h2 : Sat I y (· = false)) : Sat I (eOr x y) (· = false) := h.bnd fun a q => by
  rw [q, if_neg Bool.false_ne_true]; exact h2
theorem Sat.noE (h : Sat I x Q) : Sat I (noE x) Q := fun s hs => by
  obtain ⟨a, s1, e, i, q⟩ := h s hs
  exact ⟨a, s1, by show (match x s with | .ok a s1 => RS.ok a s1 | .err _ _ => .stuck | .stuck => .stuck) = _; rw [e], i, q⟩
theorem Sat.lcM {f : A → MM T B} {P : A → B → Prop} : ∀ (xs : List A), (∀ x ∈ xs, Sat I (f x) (P x)) → Sat I (lcM f xs) (fun ys => ys.length = xs.length ∧ ∀ i (h : i < xs.length) (h' : i < ys.length), P xs[i] ys[i])
  | [], _ => Sat.ret ⟨rfl, fun i h => absurd h (by simp)⟩
  | x :: r, h => (h x List.mem_cons_self).bnd fun y q => (Sat.lcM r fun z hz => h z (List.mem_cons_of_mem _ hz)).bnd fun ys ⟨q1, q2⟩ => Sat.ret ⟨by simp [q1], fun i h1 h2 => by
    cases i with
    | zero => exact q
    | succ i => exact q2 i (by simpa using h1) (by simpa using h2)⟩
theorem Sat.lcL {f : A → MM T B} {P : A → B → Prop} (xs : List A) (hl : xs.length ≤ 100000) (h : ∀ x ∈ xs, Sat I (f x) (P x)) : Sat I (lcL f xs) (fun ys => ys.length = xs.length ∧ ∀ i (h : i < xs.length) (h' : i < ys.length), P xs[i] ys[i]) := by
  unfold WL.lcL
  rw [if_pos hl]
  exact Sat.lcM xs fun x hx => (h x hx).noE
theorem Sat.forM {xs : List A} {f : S → A → MM T S} (J : List A → S → Prop) (s0 : S) (h0 : J [] s0) (h : ∀ pre x post s, xs = pre ++ x :: post → J pre s → Sat I (f s x) (J (pre ++ [x]))) : Sat I (forM xs s0 f) (J xs) := by
  suffices H : ∀ (post pre : List A) (s : S), xs = pre ++ post → J pre s → Sat I (WL.forM post s f) (J xs) from H xs [] s0 rfl h0
  intro post
  induction post with
  | nil => intro pre s e i; rw [List.append_nil] at e; exact Sat.ret (e ▸ i)
  | cons x r ih => intro pre s e i; exact (h pre x r s e i).bnd fun s1 i1 => ih (pre ++ [x]) s1 (by rw [e, List.append_assoc]; rfl) i1
theorem Sat.forR {xs : List A} {f : S → A → MM T (Sum R S)} (J : List A → S → Prop) (s0 : S) (h0 : J [] s0) (h : ∀ pre x post s, xs = pre ++ x :: post → J pre s → Sat I (f s x) (fun o => ∃ s', o = .inr s' ∧ J (pre ++ [x]) s')) : Sat I (forR xs s0 f) (fun o => ∃ s', o = .inr s' ∧ J xs s') := by
  suffices H : ∀ (post pre : List A) (s : S), xs = pre ++ post → J pre s → Sat I (WL.forR post s f) (fun o => ∃ s', o = .inr s' ∧ J xs s') from H xs [] s0 rfl h0
  intro post
  induction post with
  | nil => intro pre s e i; rw [List.append_nil] at e; exact Sat.ret ⟨s, rfl, e ▸ i⟩
  | cons x r ih =>
    intro pre s e i
    refine (h pre x r s e i).bnd fun o ⟨s1, eo, i1⟩ => ?_
    subst eo
    exact ih (pre ++ [x]) s1 (by rw [e, List.append_assoc]; rfl) i1
theorem Sat.seqR {x : MM T (Sum R S)} {k : S → MM T B} {emb : R → B} {J : S → Prop} (h : Sat I x (fun o => ∃ s', o = .inr s' ∧ J s')) (h2 : ∀ s, J s → Sat I (k s) Q2) : Sat I (WL.bnd x (WL.seqR emb k)) Q2 := h.bnd fun o ⟨s1, e, i⟩ => by
  subst e
  exact h2 s1 i
theorem Sat.getP {f : T → A} (h : ∀ s, I s → Q (f s)) : Sat I (getP f) Q := fun s hs => ⟨f s, s, rfl, hs, h s hs⟩
theorem Sat.modP {f : T → T} (h : ∀ s, I s → I (f s)) : Sat I (modP f) (fun _ => True) := fun s hs => ⟨(), f s, rfl, h s hs, trivial⟩
theorem Sat.of_ret {a : A} (e : x = WL.ret a) (h : Q a) : Sat I x Q := by rw [e]; exact Sat.ret h
/-- a law that draws from a pool -/
theorem runP_true {st0 : T} {y : MM T Bool} (h0 : I st0) (h : Sat I y (· = true)) : runP st0 y () = .ok true () := by
  obtain ⟨a, s1, e, _, q⟩ := h st0 h0
  unfold runP
  rw [e, q]
end
/-! ### digits -/
/-- the number of digits, the least significant first -/
def val : List Int → Int
  | [] => 0
  | d :: r => d + 2 * val r
theorem val_append : ∀ (a b : List Int), val (a ++ b) = val a + 2 ^ a.length * val b
  | [], b => by simp [val]
  | d :: a, b => by
    show d + 2 * val (a ++ b) = d + 2 * val a + 2 ^ (a.length + 1) * val b
    rw [val_append a b, Int.pow_succ, Int.mul_add, ← Int.mul_assoc, Int.mul_comm (2 ^ a.length) 2]
    omega
def Bits (l : List Int) : Prop := ∀ d ∈ l, d = 0 ∨ d = 1
theorem val_bound {l : List Int} (h : Bits l) : 0 ≤ val l ∧ val l < 2 ^ l.length := by
  induction l with
  | nil => exact ⟨Int.le_refl _, by decide⟩
  | cons d r ih =>
    have h1 := h d List.mem_cons_self
    obtain ⟨i1, i2⟩ := ih fun x hx => h x (List.mem_cons_of_mem _ hx)
    show 0 ≤ d + 2 * val r ∧ d + 2 * val r < 2 ^ (r.length + 1)
    rw [Int.pow_succ]
    omega
end WL

/-! mirrors of law_k10_letters_and_words, printed by gen.py -/
namespace Mir
open WL
open PySem (Str)
def m_letters (a : Int) : MM Unit Int :=
  e2 oShl (ret 1) (ret a)
def m_digit (a : (Int × Int)) : MM Unit Int :=
  e2 oMod (e2 oShr (ret a.1) (ret a.2)) (ret 2)
def m_letter_of (a : (List Int)) : MM Unit Int :=
  bnd (ret 0) fun v_letter =>
  bnd (bnd (e1 oRange (e1 oLen (ret a))) fun xs3 => forM xs3 v_letter fun s1 v_track =>
  bnd (e2 oAdd (ret s1) (e2 oShl (e2 oAt (ret a) (ret v_track)) (ret v_track))) fun v_letter =>
  ret v_letter) fun s2 =>
  ret s2
def m_word_of (a : (List Int)) : MM Unit (List Int) :=
  bnd (e1 oCopy (ret a)) fun v_left =>
  bnd (e1 (fun a => some ([])) (ret ())) fun v_word =>
  bnd (whileM (((maxL v_left).getD 0).toNat + 1) (fun s4 => e1 oAny (bnd (ret s4.1) (lcL fun v_number => e2 oGt (ret v_number) (ret 0)))) (fun s4 =>
  bnd (eCall m_letter_of (bnd (ret s4.1) (lcL fun v_number => e2 oMod (ret v_number) (ret 2)))) fun y6 => bnd (lft (oApp s4.2 y6)) fun v_word =>
  bnd (bnd (ret s4.1) (lcL fun v_number => e2 oDiv (ret v_number) (ret 2))) fun v_left =>
  ret (v_left, v_word)) (v_left, v_word)) fun s5 =>
  ret s5.2
def m_numbers_of (a : ((List Int) × Int)) : MM Unit (List Int) :=
  bnd (e1 (fun a => some ([])) (ret ())) fun v_numbers =>
  bnd (bnd (e1 oRange (ret a.2)) fun xs13 => forM xs13 v_numbers fun s7 v_track =>
  bnd (ret 0) fun v_number =>
  bnd (bnd (e1 oRange (e1 oLen (ret a.1))) fun xs12 => forM xs12 v_number fun s9 v_place =>
  bnd (e2 oAdd (ret s9) (e2 oShl (eCall m_digit (eArg (e2 oAt (ret a.1) (ret v_place)) (ret v_track))) (ret v_place))) fun v_number =>
  ret v_number) fun s10 =>
  bnd (ret s10) fun y11 => bnd (lft (oApp s7 y11)) fun v_numbers =>
  ret v_numbers) fun s8 =>
  e1 oCopy (ret s8)
def m_with_track (a : (Int × Int × Int)) : MM Unit Int :=
  bnd (e2 oMod (ret a.1) (e2 oShl (ret 1) (ret a.2.1))) fun v_low =>
  bnd (e2 oShr (ret a.1) (ret a.2.1)) fun v_high =>
  e2 oAdd (e2 oAdd (ret v_low) (e2 oShl (ret a.2.2) (ret a.2.1))) (e2 oShl (ret v_high) (e2 oAdd (ret a.2.1) (ret 1)))
def m_without_track (a : (Int × Int)) : MM Unit Int :=
  bnd (e2 oMod (ret a.1) (e2 oShl (ret 1) (ret a.2))) fun v_low =>
  e2 oAdd (ret v_low) (e2 oShl (e2 oShr (ret a.1) (e2 oAdd (ret a.2) (ret 1))) (ret a.2))
def m__law_draw (a : (Unit × Int)) : MM ((List Int) × Int × Int × Int) Int :=
  bnd (eIf (e2 oLe (getP (fun a => a.2.2.1)) (ret 0))
  (bnd (getP (fun a => a.2.1)) fun v_law_place =>
  bnd (e2 oAdd (ret v_law_place) (ret 1)) fun y20 => bnd (modP ((fun b a => (a.1, b, a.2.2)) y20)) fun _ =>
  bnd (e2 oAdd (e2 oMul (ret v_law_place) (ret 7919)) (ret 13)) fun v_law_cell =>
  bnd (eIf (e2 oLt (ret v_law_place) (e1 oLen (getP (fun a => a.1))))
  (bnd (e2 oAt (getP (fun a => a.1)) (ret v_law_place)) fun v_law_cell =>
  ret v_law_cell)
  (ret v_law_cell)) fun s15 =>
  bnd (eIf (eChain oLe oLt (ret 0) (ret s15) (ret 1000000000000000000))
  (bnd (e2 oMod (e1 oIntI (e2 oAdd (e2 oAdd (e2 oMul (ret s15) (ret 48271)) (e2 oMul (ret v_law_place) (ret 69621))) (getP (fun a => a.2.2.2)))) (ret 2147483647)) fun v_law_one =>
  bnd (e2 oMod (e1 oIntI (e2 oAdd (e2 oAdd (e2 oMul (ret v_law_one) (ret 16807)) (ret s15)) (ret 11))) (ret 2147483629)) fun v_law_two =>
  bnd (e2 oAdd (e2 oMul (ret v_law_one) (ret 2147483629)) (ret v_law_two)) fun y17 => bnd (modP ((fun b a => (a.1, a.2.1, b, a.2.2.2)) y17)) fun _ =>
  ret ())
  (bnd (e1 oAbs (ret s15)) fun y18 => bnd (modP ((fun b a => (a.1, a.2.1, b, a.2.2.2)) y18)) fun _ =>
  ret ())) fun s16 =>
  bnd (e2 oMod (e1 oIntI (e2 oAdd (e2 oMul (getP (fun a => a.2.2.2)) (ret 31)) (ret s15))) (ret 1000003)) fun y19 => bnd (modP ((fun b a => (a.1, a.2.1, a.2.2.1, b)) y19)) fun _ =>
  ret ())
  (ret ())) fun s14 =>
  bnd (e2 oMod (e1 oIntI (getP (fun a => a.2.2.1))) (ret a.2)) fun v_law_taken =>
  bnd (e2 oDiv (e1 oIntI (getP (fun a => a.2.2.1))) (ret a.2)) fun y21 => bnd (modP ((fun b a => (a.1, a.2.1, b, a.2.2.2)) y21)) fun _ =>
  ret v_law_taken
def m__law_digits (a : (Int × Int)) : MM Unit (List Int) :=
  bnd (e1 (fun a => some ([])) (ret ())) fun v_law_row =>
  bnd (bnd (e1 oRange (ret a.2)) fun xs25 => forM xs25 (a.1, v_law_row) fun s22 v_law_track =>
  bnd (e2 oMod (e1 oIntI (ret s22.1)) (ret 2)) fun y24 => bnd (lft (oApp s22.2 y24)) fun v_law_row =>
  bnd (e2 oDiv (ret s22.1) (ret 2)) fun v_law_letter_here =>
  ret (v_law_letter_here, v_law_row)) fun s23 =>
  ret s23.2
def m__law_letter (a : (List Int)) : MM Unit Int :=
  bnd (ret 0) fun v_law_total =>
  bnd (bnd (e1 oRange (e1 oLen (ret a))) fun xs28 => forM xs28 v_law_total fun s26 v_law_k =>
  bnd (e2 oAdd (e2 oMul (ret s26) (ret 2)) (e2 oAt (ret a) (e2 oSub (e2 oSub (e1 oLen (ret a)) (ret 1)) (ret v_law_k)))) fun v_law_total =>
  ret v_law_total) fun s27 =>
  ret s27
def m_law (a : (List Int)) : MM Unit Bool :=
  bnd (eArg (ret a) (eArg (ret 0) (eArg (ret 0) (ret 1)))) fun st0 => runP st0 (
  bnd (eCallS m__law_draw (eArg (ret ()) (ret 7))) fun v_law_width =>
  bnd (ret 1) fun v_law_many =>
  bnd (bnd (e1 oRange (ret v_law_width)) fun xs34 => forM xs34 v_law_many fun s29 v_law_k =>
  bnd (e2 oMul (ret s29) (ret 2)) fun v_law_many =>
  ret v_law_many) fun s30 =>
  bnd (eCallS m__law_draw (eArg (ret ()) (ret s30))) fun v_law_letter_here =>
  bnd (eCall m__law_digits (eArg (ret v_law_letter_here) (ret v_law_width))) fun v_law_row =>
  eIf (eOr (e2 oNe (eCall m_letters (ret v_law_width)) (ret s30)) (e2 oNe (eCall m_letter_of (e1 oCopy (ret v_law_row))) (ret v_law_letter_here)))
  (ret false)
  (eIf (e2 oNe (bnd (e1 oRange (ret v_law_width)) (lcL fun v_law_track => eCall m_digit (eArg (ret v_law_letter_here) (ret v_law_track)))) (ret v_law_row))
  (ret false)
  (bnd (eCallS m__law_draw (eArg (ret ()) (e2 oAdd (ret v_law_width) (ret 1)))) fun v_law_track =>
  bnd (eCallS m__law_draw (eArg (ret ()) (ret 2))) fun v_law_value =>
  bnd (eCall m_with_track (eArg (ret v_law_letter_here) (eArg (ret v_law_track) (ret v_law_value)))) fun v_law_wide =>
  eIf (eOr (e2 oNe (ret v_law_wide) (eCall m__law_letter (e2 oCat (e2 oCat (e3p oCut (ret v_law_row) (ret none) (e1 (fun i => some (some i)) (ret v_law_track))) (e1 (fun a => some ([a])) (ret v_law_value))) (e3p oCut (ret v_law_row) (e1 (fun i => some (some i)) (ret v_law_track)) (ret none))))) (e2 oNe (eCall m_without_track (eArg (ret v_law_wide) (ret v_law_track))) (ret v_law_letter_here)))
  (ret false)
  (bnd (bnd (e1 oRange (ret v_law_width)) (lcL fun v_law_k => eCallS m__law_draw (eArg (ret ()) (e2 oAt (e1 (fun a => some (a.1 :: a.2.1 :: [a.2.2])) (eArg (ret 9) (eArg (ret 2000) (ret 1099511627776)))) (eCallS m__law_draw (eArg (ret ()) (ret 3))))))) fun v_law_numbers =>
  bnd (e1 oCopy (ret v_law_numbers)) fun v_law_given =>
  bnd (eCall m_word_of (ret v_law_given)) fun v_law_word =>
  eIf (eOr (eNot (e1 (oConst true) (eArg (ret v_law_word) (ret ())))) (eOr (e2 oNe (ret v_law_given) (ret v_law_numbers)) (eAnd (e2 oGt (e1 oLen (ret v_law_word)) (ret 0)) (e2 oEq (e2 oAt (ret v_law_word) (e1 oNeg (ret 1))) (ret 0)))))
  (ret false)
  (bnd (bnd (e1 oRange (e1 oMax2 (eArg (e1 oLen (ret v_law_word)) (ret 41)))) fun xs33 => forR xs33 () fun s31 v_law_k =>
  bnd (eCall m__law_letter (bnd (ret v_law_numbers) (lcL fun v_law_number => e2 oMod (e1 oIntI (e2 oDiv (ret v_law_number) (e2 oShl (ret 1) (ret v_law_k)))) (ret 2)))) fun v_law_due =>
  eIf (eAnd (e2 oLt (ret v_law_k) (e1 oLen (ret v_law_word))) (e2 oNe (e2 oAt (ret v_law_word) (ret v_law_k)) (ret v_law_due)))
  (bnd (ret false) fun r => ret (Sum.inl r))
  (eIf (eAnd (e2 oGe (ret v_law_k) (e1 oLen (ret v_law_word))) (e2 oNe (ret v_law_due) (ret 0)))
  (bnd (ret false) fun a => ret (Sum.inl a))
  (ret (Sum.inr ())))) (seqR id fun s32 =>
  e2 oEq (eCall m_numbers_of (eArg (e2 oCat (ret v_law_word) (e2 oRep (e1 (fun a => some ([a])) (ret 0)) (eCallS m__law_draw (eArg (ret ()) (ret 3))))) (ret v_law_width))) (e1 oCopy (ret v_law_numbers))))))))
end Mir
/-! PDigits: what digits.py computes. -/
namespace Law
open WL Mir
open PySem (Str)
section
variable {T : Type}
theorem pow2_pos (n : Nat) : (0 : Int) < 2 ^ n := Int.pow_pos (by decide)
theorem pow2_le {a b : Nat} (h : a ≤ b) : (2 : Int) ^ a ≤ 2 ^ b := by
  obtain ⟨k, rfl⟩ := Nat.le.dest h
  rw [Int.pow_add]
  have h1 := pow2_pos a
  have h2 := pow2_pos k
  have : (2 : Int) ^ a * 1 ≤ 2 ^ a * 2 ^ k := Int.mul_le_mul_of_nonneg_left (by omega) (by omega)
  omega
theorem letters_eq (w : Int) (h : 0 ≤ w ∧ w ≤ 1000) : m_letters w = ret (2 ^ w.toNat) := by
  unfold m_letters
  rw [e2_ret, oShl_eq _ _ ⟨h.1, by omega, by decide⟩, lft_some, Int.one_mul]
theorem digit_eq (l t : Int) (h : 0 ≤ t) : m_digit (l, t) = ret (l / 2 ^ t.toNat % 2) := by
  unfold m_digit
  rw [e2_ret, oShr_eq _ _ h, lft_some, e2_ret, oMod_eq _ _ (by decide), lft_some]
/-- digits that fit -/
def Small (ds : List Int) : Prop := ∀ d ∈ ds, d.natAbs < 2 ^ 64
theorem letter_of_eq (ds : List Int) (h : Small ds) (hl : ds.length ≤ 1000000) : m_letter_of ds = ret (val ds) := by
  unfold m_letter_of
  have hr : (e1 oRange (e1 oLen (ret ds)) : MM Unit (List Int)) = ret (rangeL 0 ds.length) := by
    rw [e1_ret]; unfold oLen; rw [lft_some, e1_ret, oRange_eq _ (by omega), lft_some]
  rw [bnd_ret, hr, bnd_ret]
  obtain ⟨s, e, i⟩ := forM_inv (T := Unit) (xs := rangeL 0 (ds.length : Int)) (f := fun s1 v_track => bnd (e2 oAdd (ret s1) (e2 oShl (e2 oAt (ret ds) (ret v_track)) (ret v_track))) fun v_letter => ret v_letter)
    (fun pre s => s = val (ds.take pre.length)) 0 rfl fun pre x post s hx hs => by
      obtain ⟨hx1, hx2⟩ := rangeL_split hx
      have hk : pre.length < ds.length := by omega
      have hx3 : x = (pre.length : Int) := by omega
      subst hx3
      refine ⟨s + ds[pre.length] * 2 ^ ((pre.length : Int)).toNat, ?_, ?_⟩
      · show bnd (WL.e2 oAdd (ret s) (WL.e2 oShl (WL.e2 oAt (ret ds) (ret (pre.length : Int))) (ret (pre.length : Int)))) (fun v_letter => ret v_letter) = _
        rw [e2_ret, oAt_nat ds pre.length hk, lft_some, e2_ret, oShl_eq _ _ ⟨by omega, by omega, h _ (List.getElem_mem hk)⟩, lft_some, e2_ret]
        unfold oAdd
        rw [lft_some, bnd_ret]
      · rw [hs, List.length_append, List.length_singleton, List.take_succ, List.getElem?_eq_getElem hk, val_append, List.length_take, Nat.min_eq_left (Nat.le_of_lt hk)]
        show _ = _ + 2 ^ pre.length * (ds[pre.length] + 2 * 0)
        rw [Int.mul_comm (2 ^ pre.length)]
        simp
  rw [e, bnd_ret, i, rangeL_length]
  have hz : ((ds.length : Int) - 0).toNat = ds.length := by omega
  rw [hz, List.take_length]
/-- the w least digits of l -/
def dg : Nat → Int → List Int
  | 0, _ => []
  | w + 1, l => l % 2 :: dg w (l / 2)
theorem dg_length : ∀ (w : Nat) (l : Int), (dg w l).length = w
  | 0, _ => rfl
  | w + 1, l => by show (dg w (l / 2)).length + 1 = w + 1; rw [dg_length]
theorem dg_bits : ∀ (w : Nat) (l : Int), Bits (dg w l)
  | 0, _ => fun d h => absurd h (by simp [dg])
  | w + 1, l => fun d h => by
    rcases List.mem_cons.mp h with rfl | h
    · omega
    · exact dg_bits w (l / 2) d h
theorem val_dg : ∀ (w : Nat) (l : Int), val (dg w l) = l % 2 ^ w
  | 0, l => by show (0 : Int) = l % 2 ^ 0; rw [Int.pow_zero, Int.emod_one]
  | w + 1, l => by
    show l % 2 + 2 * val (dg w (l / 2)) = _
    rw [val_dg w (l / 2), Int.pow_succ, Int.mul_comm (2 ^ w) 2]
    have h1 := Int.mul_ediv_add_emod l (2 * 2 ^ w)
    have h2 := Int.mul_ediv_add_emod (l / 2) (2 ^ w)
    have h3 := Int.mul_ediv_add_emod l 2
    have h4 : l / (2 * 2 ^ w) = l / 2 / 2 ^ w := (Int.ediv_ediv_of_nonneg (by decide)).symm
    rw [h4, Int.mul_assoc] at h1
    generalize l / 2 / 2 ^ w = q at *
    generalize (2 : Int) ^ w = p at *
    generalize l % (2 * p) = r at *
    have h5 : 2 * (p * q) + r = l := h1
    omega
theorem dg_get : ∀ (w : Nat) (l : Int) (i : Nat), i < w → (dg w l)[i]? = some (l / 2 ^ i % 2)
  | 0, _, _, h => absurd h (by omega)
  | w + 1, l, 0, _ => by show some (l % 2) = _; rw [Int.pow_zero, Int.ediv_one]
  | w + 1, l, i + 1, h => by
    show (dg w (l / 2))[i]? = _
    rw [dg_get w (l / 2) i (by omega), Int.pow_succ, Int.mul_comm, Int.ediv_ediv_of_nonneg (by decide)]
theorem Bits.small {l : List Int} (h : Bits l) : Small l := fun d hd => by rcases h d hd with e | e <;> subst e <;> decide
theorem Bits.append {a b : List Int} (h : Bits a) (k : Bits b) : Bits (a ++ b) := fun d hd => by
  rcases List.mem_append.mp hd with z | z
  · exact h d z
  · exact k d z
theorem dg_val {l : List Int} (h : Bits l) : dg l.length (val l) = l := by
  induction l with
  | nil => rfl
  | cons d r ih =>
    have h1 := h d List.mem_cons_self
    have ih := ih fun x hx => h x (List.mem_cons_of_mem _ hx)
    show (d + 2 * val r) % 2 :: dg r.length ((d + 2 * val r) / 2) = _
    have q1 : (d + 2 * val r) % 2 = d := by omega
    have q2 : (d + 2 * val r) / 2 = val r := by omega
    rw [q1, q2, ih]
theorem with_track_eq (l t v : Int) (ht : 0 ≤ t ∧ t ≤ 1000) (hl : l.natAbs < 2 ^ 64) (hv : v.natAbs < 2 ^ 64) : m_with_track (l, t, v) = ret (l % 2 ^ t.toNat + v * 2 ^ t.toNat + l / 2 ^ t.toNat * 2 ^ (t.toNat + 1)) := by
  unfold m_with_track
  dsimp only
  have h1 : (l / 2 ^ t.toNat).natAbs < 2 ^ 64 := Nat.lt_of_le_of_lt (Int.natAbs_ediv_le_natAbs _ _) hl
  have e : (t + 1).toNat = t.toNat + 1 := by omega
  rw [e2_ret, oShl_eq _ _ ⟨ht.1, by omega, by decide⟩, lft_some, e2_ret, Int.one_mul, oMod_eq _ _ (pow2_pos _), lft_some, bnd_ret, e2_ret, oShr_eq _ _ ht.1, lft_some, bnd_ret, e2_ret, oShl_eq _ _ ⟨ht.1, by omega, hv⟩, lft_some, e2_ret]
  unfold oAdd
  rw [lft_some, e2_ret, lft_some, e2_ret, oShl_eq _ _ ⟨by omega, by omega, h1⟩, lft_some, e2_ret, lft_some, e]
theorem without_track_eq (l t : Int) (ht : 0 ≤ t ∧ t ≤ 1000) (hl : l.natAbs < 2 ^ 64) : m_without_track (l, t) = ret (l % 2 ^ t.toNat + l / 2 ^ (t.toNat + 1) * 2 ^ t.toNat) := by
  unfold m_without_track
  dsimp only
  have h1 : (l / 2 ^ (t.toNat + 1)).natAbs < 2 ^ 64 := Nat.lt_of_le_of_lt (Int.natAbs_ediv_le_natAbs _ _) hl
  have e : (t + 1).toNat = t.toNat + 1 := by omega
  rw [e2_ret, oShl_eq _ _ ⟨ht.1, by omega, by decide⟩, lft_some, e2_ret, Int.one_mul, oMod_eq _ _ (pow2_pos _), lft_some, bnd_ret, e2_ret]
  unfold oAdd
  rw [lft_some, e2_ret, oShr_eq _ _ (by omega), lft_some, e, e2_ret, oShl_eq _ _ ⟨ht.1, by omega, h1⟩, lft_some, e2_ret, lft_some]
/-! words -/
/-- the letter of the digits of place k -/
def let_ (ns : List Int) : Int := val (ns.map (· % 2))
def half (ns : List Int) : List Int := ns.map (· / 2)
/-- the word of numbers below 2 ^ B -/
def wd : Nat → List Int → List Int
  | 0, _ => []
  | B + 1, ns => if ns.any (fun n => decide (0 < n)) = true then let_ ns :: wd B (half ns) else []
def Below (B : Nat) (ns : List Int) : Prop := ∀ n ∈ ns, 0 ≤ n ∧ n < 2 ^ B
theorem Below.half {B : Nat} {ns : List Int} (h : Below (B + 1) ns) : Below B (half ns) := fun n hn => by
  obtain ⟨m, hm, rfl⟩ := List.mem_map.mp hn
  obtain ⟨h1, h2⟩ := h m hm
  rw [Int.pow_succ] at h2
  omega
theorem Below.zero {ns : List Int} (h : Below 0 ns) : ns.any (fun n => decide (0 < n)) = false := by
  rw [List.any_eq_false]
  intro n hn
  obtain ⟨h1, h2⟩ := h n hn
  rw [Int.pow_zero] at h2
  have : ¬ 0 < n := by omega
  simp [this]
theorem mod2_bits (ns : List Int) : Bits (ns.map (· % 2)) := fun d hd => by
  obtain ⟨n, _, rfl⟩ := List.mem_map.mp hd
  show n % 2 = 0 ∨ n % 2 = 1
  omega
theorem wd_length : ∀ (B : Nat) (ns : List Int), (wd B ns).length ≤ B
  | 0, _ => Nat.le_refl _
  | B + 1, ns => by
    unfold wd
    split
    · have := wd_length B (half ns)
      show (wd B (half ns)).length + 1 ≤ B + 1
      omega
    · exact Nat.zero_le _
theorem wd_pos {B : Nat} {ns : List Int} (h : ns.any (fun n => decide (0 < n)) = true) : wd (B + 1) ns = let_ ns :: wd B (half ns) := by
  show (if ns.any (fun n => decide (0 < n)) = true then let_ ns :: wd B (half ns) else []) = _
  rw [h, if_pos rfl]
theorem wd_nil {B : Nat} {ns : List Int} (h : ns.any (fun n => decide (0 < n)) = false) : wd B ns = [] := by
  cases B with
  | zero => rfl
  | succ B => unfold wd; rw [h, if_neg Bool.false_ne_true]
theorem maxL_le (ns : List Int) (x : Int) (hx : x ∈ ns) : x ≤ (maxL ns).getD 0 := by
  cases ns with
  | nil => simp at hx
  | cons y r =>
    obtain ⟨_, h2, h3⟩ := foldMax r y
    show x ≤ r.foldl _ y
    rcases List.mem_cons.mp hx with rfl | h
    · exact h2
    · exact h3 x h
theorem maxL_mem (ns : List Int) (h : ns ≠ []) : (maxL ns).getD 0 ∈ ns := by
  cases ns with
  | nil => exact absurd rfl h
  | cons y r =>
    obtain ⟨h1, _, _⟩ := foldMax r y
    show r.foldl _ y ∈ y :: r
    rcases h1 with e | e
    · rw [e]; exact List.mem_cons_self
    · exact List.mem_cons_of_mem _ e
theorem max_half (ns : List Int) (h : ∀ n ∈ ns, 0 ≤ n) (ha : ns.any (fun n => decide (0 < n)) = true) : ((maxL (half ns)).getD 0).toNat < ((maxL ns).getD 0).toNat := by
  obtain ⟨x, hx, hp⟩ := List.any_eq_true.mp ha
  have hp := of_decide_eq_true hp
  have h1 := maxL_le ns x hx
  have hne : half ns ≠ [] := by
    intro e
    have : ns = [] := by
      unfold half at e
      exact List.map_eq_nil_iff.mp e
    subst this
    simp at hx
  obtain ⟨y, hy, e⟩ := List.mem_map.mp (maxL_mem (half ns) hne)
  have h2 := maxL_le ns y hy
  have e : (maxL (half ns)).getD 0 = y / 2 := e.symm
  have h3 := h y hy
  rw [e]
  omega
theorem word_of_eq (B : Nat) (ns : List Int) (h : Below B ns) (hB : B ≤ 10000) (hl : ns.length ≤ 1000) : m_word_of ns = ret (wd B ns) := by
  unfold m_word_of
  rw [e1_ret]
  unfold oCopy
  rw [lft_some, bnd_ret, e1_ret, lft_some, bnd_ret]
  suffices H : ∀ (n : Nat) (B : Nat) (ns acc : List Int), Below B ns → ns.length ≤ 1000 → ((maxL ns).getD 0).toNat < n → acc.length + B ≤ 10000 →
      ∃ z, (whileM n (fun s4 => e1 oAny (bnd (ret s4.1) (lcL fun v_number => e2 oGt (ret v_number) (ret 0)))) (fun s4 =>
        bnd (eCall m_letter_of (bnd (ret s4.1) (lcL fun v_number => e2 oMod (ret v_number) (ret 2)))) fun y6 => bnd (lft (oApp s4.2 y6)) fun v_word =>
        bnd (bnd (ret s4.1) (lcL fun v_number => e2 oDiv (ret v_number) (ret 2))) fun v_left =>
        ret (v_left, v_word)) (ns, acc) : MM Unit (List Int × List Int)) = ret (z, acc ++ wd B ns) by
    obtain ⟨z, e⟩ := H (((maxL ns).getD 0).toNat + 1) B ns [] h hl (by omega) (by simpa using hB)
    rw [e, bnd_ret]
    rfl
  intro n
  induction n with
  | zero => intro B ns acc _ _ h; omega
  | succ n ih =>
    intro B ns acc hb hl hm hacc
    have et : (e1 oAny (bnd (ret ns) (lcL fun v_number => e2 oGt (ret v_number) (ret 0))) : MM Unit Bool) = ret (ns.any fun n => decide (0 < n)) := by
      have z : (lcL (fun v_number => WL.e2 oGt (ret v_number) (ret 0)) ns : MM Unit (List Bool)) = ret (ns.map fun n => decide (0 < n)) := lcL_ret _ ns (by omega) fun x _ => rfl
      rw [bnd_ret, z, e1_ret]
      unfold oAny
      rw [lft_some, List.any_map]
      rfl
    unfold whileM
    show ∃ z, bnd (e1 oAny (bnd (ret ns) (lcL fun v_number => e2 oGt (ret v_number) (ret 0)))) _ = _
    rw [et, bnd_ret]
    cases ha : ns.any fun n => decide (0 < n) with
    | false =>
      rw [if_neg Bool.false_ne_true]
      refine ⟨ns, ?_⟩
      cases B with
      | zero => unfold wd; rw [List.append_nil]
      | succ B => unfold wd; rw [ha, if_neg Bool.false_ne_true, List.append_nil]
    | true =>
      rw [if_pos rfl]
      cases B with
      | zero => rw [hb.zero] at ha; cases ha
      | succ B =>
        have q1 : (bnd (ret ns) (lcL fun v_number => e2 oMod (ret v_number) (ret 2)) : MM Unit (List Int)) = ret (ns.map (· % 2)) := by
          exact lcL_ret (fun n => n % 2) ns (by omega) fun x _ => rfl
        have q2 : (bnd (ret ns) (lcL fun v_number => e2 oDiv (ret v_number) (ret 2)) : MM Unit (List Int)) = ret (half ns) := by
          exact lcL_ret (fun n => n / 2) ns (by omega) fun x _ => rfl
        show ∃ z, bnd (bnd (eCall m_letter_of (bnd (ret ns) (lcL fun v_number => WL.e2 oMod (ret v_number) (ret 2)))) fun y6 => bnd (lft (oApp acc y6)) fun v_word => bnd (bnd (ret ns) (lcL fun v_number => WL.e2 oDiv (ret v_number) (ret 2))) fun v_left => ret (v_left, v_word)) _ = _
        rw [q1, q2, eCall_ret, letter_of_eq _ (Bits.small (mod2_bits ns)) (by rw [List.length_map]; omega), up_ret, bnd_ret, oApp_eq _ _ (by omega), lft_some, bnd_ret, bnd_ret, bnd_ret]
        have hpos : ∀ n ∈ ns, 0 ≤ n := fun n hn => (hb n hn).1
        obtain ⟨z, e⟩ := ih B (half ns) (acc ++ [val (ns.map (· % 2))]) hb.half (by unfold half; rw [List.length_map]; exact hl) (by have := max_half ns hpos ha; omega) (by simp; omega)
        refine ⟨z, ?_⟩
        rw [e, wd_pos ha, List.append_assoc]
        rfl
theorem none_pos {B : Nat} {ns : List Int} (hb : Below B ns) (h : ns.any (fun n => decide (0 < n)) = false) : ∀ n ∈ ns, n = 0 := fun n hn => by
  have h1 := List.any_eq_false.mp h n hn
  have h1 : ¬ 0 < n := by simpa using h1
  have := (hb n hn).1
  omega
theorem half_shift (ns : List Int) (k : Nat) : (half ns).map (· / 2 ^ k) = ns.map (· / 2 ^ (k + 1)) := by
  unfold half
  rw [List.map_map]
  congr 1
  funext n
  show n / 2 / 2 ^ k = n / 2 ^ (k + 1)
  rw [Int.ediv_ediv_of_nonneg (by decide), Int.pow_succ, Int.mul_comm]
/-- the k-th letter of the word -/
theorem wd_get : ∀ (B : Nat) (ns : List Int) (k : Nat), Below B ns → (∀ x, (wd B ns)[k]? = some x → x = let_ (ns.map (· / 2 ^ k))) ∧ ((wd B ns).length ≤ k → ∀ n ∈ ns, n / 2 ^ k = 0)
  | 0, ns, k, h => by
    refine ⟨fun x z => by simp [wd] at z, fun _ n hn => ?_⟩
    rw [none_pos h h.zero n hn, Int.zero_ediv]
  | B + 1, ns, k, h => by
    cases ha : ns.any fun n => decide (0 < n) with
    | false =>
      rw [wd_nil ha]
      refine ⟨fun x z => by simp at z, fun _ n hn => ?_⟩
      rw [none_pos h ha n hn, Int.zero_ediv]
    | true =>
      rw [wd_pos ha]
      cases k with
      | zero =>
        refine ⟨fun x z => ?_, fun z => absurd z (by simp)⟩
        have z : let_ ns = x := by simpa using z
        rw [← z]
        congr 1
        have : (fun n : Int => n / 2 ^ 0) = id := by funext n; rw [Int.pow_zero, Int.ediv_one]; rfl
        rw [this, List.map_id]
      | succ k =>
        obtain ⟨i1, i2⟩ := wd_get B (half ns) k h.half
        refine ⟨fun x z => ?_, fun z n hn => ?_⟩
        · have z : (wd B (half ns))[k]? = some x := by simpa using z
          rw [i1 x z, half_shift]
        · have z : (wd B (half ns)).length ≤ k := by simpa using z
          have := i2 z (n / 2) (List.mem_map.mpr ⟨n, hn, rfl⟩)
          rw [Int.ediv_ediv_of_nonneg (by decide)] at this
          rw [Int.pow_succ, Int.mul_comm]
          exact this
theorem val_zero : ∀ (l : List Int), Bits l → val l = 0 → ∀ d ∈ l, d = 0
  | [], _, _ => fun d h => absurd h (by simp)
  | x :: r, h, e => fun d hd => by
    have h1 := h x List.mem_cons_self
    have h2 := val_bound fun y hy => h y (List.mem_cons_of_mem _ hy)
    have e : x + 2 * val r = 0 := e
    rcases List.mem_cons.mp hd with rfl | hd
    · omega
    · exact val_zero r (fun y hy => h y (List.mem_cons_of_mem _ hy)) (by omega) d hd
/-- the last letter is not 0 -/
theorem wd_last : ∀ (B : Nat) (ns : List Int), Below B ns → ∀ x, (wd B ns).getLast? = some x → x ≠ 0
  | 0, ns, _, x, h => by simp [wd] at h
  | B + 1, ns, hb, x, h => by
    cases ha : ns.any fun n => decide (0 < n) with
    | false => rw [wd_nil ha] at h; simp at h
    | true =>
      rw [wd_pos ha] at h
      cases hr : wd B (half ns) with
      | nil =>
        rw [hr] at h
        have h : let_ ns = x := by simpa using h
        intro hz
        have h1 := val_zero _ (mod2_bits ns) (h.trans hz)
        have h2 : ∀ n ∈ half ns, n = 0 := by
          have := (wd_get B (half ns) 0 hb.half).2 (by rw [hr]; exact Nat.le_refl _)
          intro n hn
          have := this n hn
          rwa [Int.pow_zero, Int.ediv_one] at this
        obtain ⟨y, hy, hp⟩ := List.any_eq_true.mp ha
        have hp := of_decide_eq_true hp
        have a1 : y % 2 = 0 := h1 (y % 2) (List.mem_map.mpr ⟨y, hy, rfl⟩)
        have a2 : y / 2 = 0 := h2 (y / 2) (List.mem_map.mpr ⟨y, hy, rfl⟩)
        omega
      | cons w ws =>
        refine wd_last B (half ns) hb.half x ?_
        rw [hr] at h ⊢
        rw [List.getLast?_cons_cons] at h
        exact h
/-- the digit of a letter of digits -/
theorem val_digit {l : List Int} (h : Bits l) {t : Nat} (ht : t < l.length) : val l / 2 ^ t % 2 = l[t] := by
  have q := dg_get l.length (val l) t ht
  rw [dg_val h, List.getElem?_eq_getElem ht] at q
  exact (Option.some.inj q).symm
theorem val_zeros : ∀ (n : Nat), val (List.replicate n 0) = 0
  | 0 => rfl
  | n + 1 => by show 0 + 2 * val (List.replicate n 0) = 0; rw [val_zeros n]; rfl
def digitsOf (w : List Int) (t : Nat) : List Int := w.map fun l => l / 2 ^ t % 2
theorem digitsOf_bits (w : List Int) (t : Nat) : Bits (digitsOf w t) := fun d hd => by
  obtain ⟨l, _, rfl⟩ := List.mem_map.mp hd
  show l / 2 ^ t % 2 = 0 ∨ l / 2 ^ t % 2 = 1
  omega
theorem numbers_of_eq (w : List Int) (n : Nat) (hw : w.length ≤ 100000) (hn : n ≤ 1000) : m_numbers_of (w, (n : Int)) = ret ((List.range n).map fun t => val (digitsOf w t)) := by
  unfold m_numbers_of
  dsimp only
  have h0 : (e1 (fun _ => some ([] : List Int)) (ret ()) : MM Unit (List Int)) = ret [] := rfl
  have hr : (e1 oRange (ret (n : Int)) : MM Unit (List Int)) = ret (rangeL 0 n) := by rw [e1_ret, oRange_eq _ (by omega), lft_some]
  have hr2 : (e1 oRange (e1 oLen (ret w)) : MM Unit (List Int)) = ret (rangeL 0 w.length) := by
    rw [e1_ret]; unfold oLen; rw [lft_some, e1_ret, oRange_eq _ (by omega), lft_some]
  rw [h0, bnd_ret, hr, bnd_ret]
  obtain ⟨s, e, i⟩ := forM_inv (T := Unit) (xs := rangeL 0 (n : Int)) (f := fun s7 v_track => bnd (ret 0) fun v_number =>
      bnd (bnd (e1 oRange (e1 oLen (ret w))) fun xs12 => forM xs12 v_number fun s9 v_place =>
      bnd (e2 oAdd (ret s9) (e2 oShl (eCall m_digit (eArg (e2 oAt (ret w) (ret v_place)) (ret v_track))) (ret v_place))) fun v_number =>
      ret v_number) fun s10 =>
      bnd (ret s10) fun y11 => bnd (lft (oApp s7 y11)) fun v_numbers =>
      ret v_numbers)
    (fun pre s => s = (List.range pre.length).map fun t => val (digitsOf w t)) [] rfl fun pre x post s hx hs => by
      obtain ⟨hx1, hx2⟩ := rangeL_split hx
      have hk : pre.length < n := by omega
      have hx3 : x = (pre.length : Int) := by omega
      subst hx3
      refine ⟨s ++ [val (digitsOf w pre.length)], ?_, by rw [hs, List.length_append, List.length_singleton, List.range_succ, List.map_append]; rfl⟩
      obtain ⟨s2, q2, j2⟩ := forM_inv (T := Unit) (xs := rangeL 0 (w.length : Int)) (f := fun s9 v_place => bnd (e2 oAdd (ret s9) (e2 oShl (eCall m_digit (eArg (e2 oAt (ret w) (ret v_place)) (ret (pre.length : Int)))) (ret v_place))) fun v_number => ret v_number)
        (fun pre2 s => s = val (digitsOf (w.take pre2.length) pre.length)) 0 rfl fun pre2 x post2 s hx hs => by
          obtain ⟨hy1, hy2⟩ := rangeL_split hx
          have hk2 : pre2.length < w.length := by omega
          have hy3 : x = (pre2.length : Int) := by omega
          subst hy3
          have hb : (w[pre2.length] / 2 ^ pre.length % 2 : Int).natAbs < 2 ^ 64 := by omega
          refine ⟨s + w[pre2.length] / 2 ^ pre.length % 2 * 2 ^ ((pre2.length : Int)).toNat, ?_, ?_⟩
          · rw [e2_ret, oAt_nat w pre2.length hk2, lft_some, eArg_ret, eCall_ret, digit_eq _ _ (by omega), up_ret, e2_ret, Int.toNat_natCast, oShl_eq _ _ ⟨by omega, by omega, hb⟩, lft_some, e2_ret]
            unfold oAdd
            rw [lft_some, bnd_ret]
          · rw [hs, List.length_append, List.length_singleton, List.take_succ, List.getElem?_eq_getElem hk2]
            unfold digitsOf
            rw [List.map_append, val_append, List.length_map, List.length_take, Nat.min_eq_left (Nat.le_of_lt hk2)]
            show _ = _ + 2 ^ pre2.length * (w[pre2.length] / 2 ^ pre.length % 2 + 2 * 0)
            rw [Int.mul_comm (2 ^ pre2.length)]
            simp
      rw [bnd_ret, hr2, bnd_ret, q2, bnd_ret, bnd_ret, j2, rangeL_length]
      have hz : ((w.length : Int) - 0).toNat = w.length := by omega
      rw [hz, List.take_length, oApp_eq _ _ (by rw [hs]; simp; omega), lft_some, bnd_ret]
  rw [e, bnd_ret, i, rangeL_length, e1_ret]
  have hz : ((n : Int) - 0).toNat = n := by omega
  rw [hz]
  rfl
end
end Law

/-! PDraw4: _law_draw. -/
namespace Law
open WL Mir
open PySem (Str)
def I4 (s : List Int × Int × Int × Int) : Prop := 0 ≤ s.2.1
section
variable {T A B C : Type} {I : T → Prop}
/-- what ends well, whatever its value -/
theorem sat_e2 {x : MM T A} {y : MM T B} {f : A → B → Option C} {Q : A → Prop} {Q2 : B → Prop} (g : A → B → C) (hx : Sat I x Q) (hy : Sat I y Q2) (h : ∀ a b, Q a → Q2 b → f a b = some (g a b)) : Sat I (e2 f x y) (fun d => ∃ a b, Q a ∧ Q2 b ∧ d = g a b) :=
  Sat.e2 hx hy fun a b q q2 => ⟨_, h a b q q2, a, b, q, q2, rfl⟩
theorem sat_mul {x y : MM T Int} (hx : Sat I x (fun _ => True)) (k : Int) (h : y = ret k) (hk : -(2 ^ 64) < k ∧ k < 2 ^ 64) : Sat I (e2 oMul x y) (fun _ => True) := by
  subst h
  exact Sat.e2 (Q2 := fun b => b = k) hx (Sat.ret rfl) fun a b _ e => by subst e; exact ⟨_, oMul_r _ _ hk, trivial⟩
theorem sat_add {x y : MM T Int} (hx : Sat I x (fun _ => True)) (hy : Sat I y (fun _ => True)) : Sat I (e2 oAdd x y) (fun _ => True) := Sat.e2 hx hy fun a b _ _ => ⟨_, rfl, trivial⟩
theorem sat_int {x : MM T Int} {Q : Int → Prop} (hx : Sat I x Q) : Sat I (e1 oIntI x) Q := hx.e1 fun a q => ⟨a, rfl, q⟩
theorem sat_mod {x y : MM T Int} (hx : Sat I x (fun _ => True)) (k : Int) (h : y = ret k) (hk : 0 < k) : Sat I (e2 oMod x y) (fun r => 0 ≤ r ∧ r < k) := by
  subst h
  exact Sat.e2 (Q2 := fun b => b = k) hx (Sat.ret rfl) fun a b _ e => by subst e; exact ⟨_, oMod_eq _ _ hk, Int.emod_nonneg _ (by omega), Int.emod_lt_of_pos _ hk⟩
theorem sat_T {x : MM T A} {Q : A → Prop} (h : Sat I x Q) : Sat I x (fun _ => True) := h.imp fun _ _ => trivial
end
theorem draw_sat (n : Int) (h : 0 < n ∧ n < 2 ^ 200) : Sat I4 (m__law_draw ((), n)) (fun r => 0 ≤ r ∧ r < n) := by
  unfold m__law_draw
  dsimp only
  have gT : ∀ {A : Type} (f : List Int × Int × Int × Int → A), Sat I4 (getP f) (fun _ => True) := fun f => Sat.getP fun _ _ => trivial
  have rT : ∀ {A : Type} (a : A), Sat I4 (ret a) (fun _ => True) := fun a => Sat.ret trivial
  refine Sat.bnd (Q := fun _ => True) ?_ fun _ _ => ?_
  · refine Sat.cond (Qc := fun _ => True) (Sat.e2 (gT _) (rT _) fun a b _ _ => ⟨_, rfl, trivial⟩) (fun _ => ?_) (fun _ => rT _)
    refine Sat.bnd (Q := fun p => 0 ≤ p) (Sat.getP fun s hs => hs) fun p hp => ?_
    rw [e2_ret]; unfold oAdd; rw [lft_some, bnd_ret]
    refine Sat.bnd (Q := fun _ => True) (Sat.modP fun s hs => by show 0 ≤ p + 1; omega) fun _ _ => ?_
    rw [e2_ret, oMul_r _ _ (by decide), lft_some, e2_ret, lft_some, bnd_ret]
    refine Sat.bnd (Q := fun _ => True) ?_ fun cell _ => ?_
    · refine fun s hs => ?_
      by_cases hl : p < (s.1.length : Int)
      · refine ⟨s.1[p.toNat]'(by omega), s, ?_, hs, trivial⟩
        show (if decide (p < (s.1.length : Int)) = true then (bnd (e2 oAt (getP (fun a => a.1)) (ret p)) fun v => ret v) else ret (p * 7919 + 13)) s = _
        rw [decide_eq_true hl, if_pos rfl]
        show (bnd (lft (oAt s.1 p)) fun v => ret v) s = _
        rw [oAt_int s.1 p hp (by omega)]
        rfl
      · refine ⟨p * 7919 + 13, s, ?_, hs, trivial⟩
        show (if decide (p < (s.1.length : Int)) = true then (bnd (e2 oAt (getP (fun a => a.1)) (ret p)) fun v => ret v) else ret (p * 7919 + 13)) s = _
        rw [decide_eq_false hl, if_neg Bool.false_ne_true]
        rfl
    · refine Sat.bnd (Q := fun _ => True) ?_ fun _ _ => ?_
      · rw [eChain_ret (k := decide (0 ≤ cell)) (l := decide (cell < 1000000000000000000)) _ _ _ _ _ rfl rfl, eIf_ret]
        split
        · rw [e2_ret, oMul_r _ _ (by decide), lft_some, e2_ret, oMul_r _ _ (by decide), lft_some, e2_ret, lft_some]
          refine Sat.bnd (sat_mod (sat_int (sat_add (rT _) (gT _))) 2147483647 rfl (by decide)) fun one _ => ?_
          rw [e2_ret, oMul_r _ _ (by decide), lft_some, e2_ret, lft_some, e2_ret, lft_some, e1_ret]
          unfold oIntI
          rw [lft_some, e2_ret, oMod_eq _ _ (by decide), lft_some, bnd_ret, e2_ret, oMul_r _ _ (by decide), lft_some, e2_ret, lft_some, bnd_ret]
          exact Sat.bnd (Q := fun _ => True) (Sat.modP fun s hs => hs) fun _ _ => rT _
        · exact Sat.bnd (Q := fun _ => True) ((rT cell).e1 fun a _ => ⟨_, rfl, trivial⟩) fun y _ => Sat.bnd (Q := fun _ => True) (Sat.modP fun s hs => hs) fun _ _ => rT _
      · exact Sat.bnd (sat_mod (sat_int (sat_add (sat_mul (gT _) 31 rfl (by decide)) (rT _))) 1000003 rfl (by decide)) fun y _ => Sat.bnd (Q := fun _ => True) (Sat.modP fun s hs => hs) fun _ _ => rT _
  · refine Sat.bnd (sat_mod (sat_int (gT _)) n rfl h.1) fun r hr => ?_
    refine Sat.bnd (Q := fun _ => True) ?_ fun y _ => Sat.bnd (Q := fun _ => True) (Sat.modP fun s hs => hs) fun _ _ => Sat.ret hr
    exact Sat.e2 (Q2 := fun b => b = n) (sat_int (gT _)) (Sat.ret rfl) fun a b _ e => by subst e; exact ⟨_, oDiv_eq _ _ h, trivial⟩
end Law

/-! Pk10: the law k10. -/
namespace Law
open WL Mir
open PySem (Str)
section
variable {T : Type}
theorem law_digits_eq (l : Int) (w : Nat) (hw : w ≤ 1000) : m__law_digits (l, (w : Int)) = ret (dg w l) := by
  unfold m__law_digits
  dsimp only
  have h0 : (e1 (fun _ => some ([] : List Int)) (ret ()) : MM Unit (List Int)) = ret [] := rfl
  have hr : (e1 oRange (ret (w : Int)) : MM Unit (List Int)) = ret (rangeL 0 w) := by rw [e1_ret, oRange_eq _ (by omega), lft_some]
  rw [h0, bnd_ret, hr, bnd_ret]
  obtain ⟨s, e, i⟩ := forM_inv (T := Unit) (xs := rangeL 0 (w : Int)) (f := fun (s22 : Int × List Int) (v_law_track : Int) => bnd (e2 oMod (e1 oIntI (ret s22.1)) (ret 2)) fun y24 => bnd (lft (oApp s22.2 y24)) fun v_law_row =>
      bnd (e2 oDiv (ret s22.1) (ret 2)) fun v_law_letter_here =>
      ret (v_law_letter_here, v_law_row))
    (fun pre s => s.2 ++ dg (w - pre.length) s.1 = dg w l ∧ s.2.length = pre.length) (l, []) ⟨rfl, rfl⟩ fun pre x post s hx ⟨h1, h2⟩ => by
      obtain ⟨hx1, hx2⟩ := rangeL_split hx
      refine ⟨(s.1 / 2, s.2 ++ [s.1 % 2]), ?_, ?_, by simp [h2]⟩
      · rw [e1_ret]; unfold oIntI
        rw [lft_some, e2_ret, oMod_eq _ _ (by decide), lft_some, bnd_ret, oApp_eq _ _ (by omega), lft_some, bnd_ret, e2_ret, oDiv_eq _ _ (by decide), lft_some, bnd_ret]
      · have hk : w - pre.length = (w - (pre ++ [x]).length) + 1 := by simp; omega
        rw [hk] at h1
        rw [← h1, List.append_assoc]
        rfl
  rw [e, bnd_ret, ← i.1, rangeL_length]
  have hz : w - ((w : Int) - 0).toNat = 0 := by omega
  rw [hz]
  show ret s.2 = ret (s.2 ++ [])
  rw [List.append_nil]
theorem law_letter_eq (row : List Int) (h : row.length ≤ 1000) : m__law_letter row = ret (val row) := by
  unfold m__law_letter
  have hr : (e1 oRange (e1 oLen (ret row)) : MM Unit (List Int)) = ret (rangeL 0 row.length) := by
    rw [e1_ret]; unfold oLen; rw [lft_some, e1_ret, oRange_eq _ (by omega), lft_some]
  rw [bnd_ret, hr, bnd_ret]
  obtain ⟨s, e, i⟩ := forM_inv (T := Unit) (xs := rangeL 0 (row.length : Int)) (f := fun s26 v_law_k => bnd (e2 oAdd (e2 oMul (ret s26) (ret 2)) (e2 oAt (ret row) (e2 oSub (e2 oSub (e1 oLen (ret row)) (ret 1)) (ret v_law_k)))) fun v_law_total => ret v_law_total)
    (fun pre s => s = val (row.drop (row.length - pre.length))) 0 (by rw [List.length_nil, Nat.sub_zero, List.drop_length]; rfl) fun pre x post s hx hs => by
      obtain ⟨hx1, hx2⟩ := rangeL_split hx
      have hk : pre.length < row.length := by omega
      have hi : row.length - 1 - pre.length < row.length := by omega
      refine ⟨s * 2 + row[row.length - 1 - pre.length], ?_, ?_⟩
      · rw [e2_ret, oMul_r _ _ (by decide), lft_some, e1_ret]
        unfold oLen
        rw [lft_some, e2_ret]
        unfold oSub
        rw [lft_some, e2_ret, lft_some, e2_ret]
        have hx3 : (row.length : Int) - 1 - x = ((row.length - 1 - pre.length : Nat) : Int) := by omega
        rw [hx3, oAt_nat row _ hi, lft_some, e2_ret]
        unfold oAdd
        rw [lft_some, bnd_ret]
      · have e1 : row.length - (pre ++ [x]).length = row.length - 1 - pre.length := by simp; omega
        have e2 : row.length - pre.length = row.length - 1 - pre.length + 1 := by omega
        rw [e1, List.drop_eq_getElem_cons hi, hs, e2]
        show _ = row[_] + 2 * _
        omega
  rw [e, bnd_ret, i, rangeL_length]
  have hz : row.length - ((row.length : Int) - 0).toNat = 0 := by omega
  rw [hz]
  rfl
theorem dg_take : ∀ (w t : Nat) (l : Int), t ≤ w → (dg w l).take t = dg t l
  | _, 0, _, _ => rfl
  | 0, t + 1, _, h => absurd h (by omega)
  | w + 1, t + 1, l, h => by show l % 2 :: (dg w (l / 2)).take t = _; rw [dg_take w t _ (by omega)]; rfl
theorem dg_drop : ∀ (w t : Nat) (l : Int), t ≤ w → (dg w l).drop t = dg (w - t) (l / 2 ^ t)
  | w, 0, l, _ => by show dg w l = dg w (l / 2 ^ 0); rw [Int.pow_zero, Int.ediv_one]
  | 0, t + 1, _, h => absurd h (by omega)
  | w + 1, t + 1, l, h => by
    show (dg w (l / 2)).drop t = _
    rw [dg_drop w t _ (by omega), Int.ediv_ediv_of_nonneg (by decide), Int.pow_succ, Int.mul_comm, show w + 1 - (t + 1) = w - t by omega]
theorem many_eq (w : Nat) (hw : w ≤ 1000) : (forM (rangeL 0 (w : Int)) (1 : Int) (fun s29 _ => bnd (e2 oMul (ret s29) (ret 2)) fun v_law_many => ret v_law_many) : MM T Int) = ret (2 ^ w) := by
  obtain ⟨s, e, i⟩ := forM_inv (T := T) (xs := rangeL 0 (w : Int)) (f := fun (s29 : Int) (_ : Int) => bnd (e2 oMul (ret s29) (ret 2)) fun v_law_many => ret v_law_many) (fun pre s => s = 2 ^ pre.length) 1 rfl fun pre x post s hx hs =>
    ⟨s * 2, by rw [e2_ret, oMul_r _ _ (by decide), lft_some, bnd_ret], by rw [hs, List.length_append, List.length_singleton, Int.pow_succ]⟩
  rw [e, i, rangeL_length]
  have hz : ((w : Int) - 0).toNat = w := by omega
  rw [hz]
theorem cut_none_some {A : Type} (xs : List A) (t : Nat) (h : t ≤ xs.length) : cutL xs none (some (t : Int)) = xs.take t := by
  unfold cutL
  rw [HT.sIx_none, HT.sIx_nat, Nat.min_eq_left h]
  simp
theorem cut_some_none {A : Type} (xs : List A) (t : Nat) (h : t ≤ xs.length) : cutL xs (some (t : Int)) none = xs.drop t := by
  unfold cutL
  rw [HT.sIx_none, HT.sIx_nat, Nat.min_eq_left h]
  rw [← List.length_drop, List.take_length]
end
theorem turn_ok {T : Type} {W : List Int} {k : Nat} {due : Int} (h1 : ∀ (h : k < W.length), W[k] = due) (h2 : W.length ≤ k → due = 0) :
    (eAnd (e2 oLt (ret (k : Int)) (e1 oLen (ret W))) (e2 oNe (e2 oAt (ret W) (ret (k : Int))) (ret due)) : MM T Bool) = ret false ∧ (eAnd (e2 oGe (ret (k : Int)) (e1 oLen (ret W))) (e2 oNe (ret due) (ret 0)) : MM T Bool) = ret false := by
  simp only [e1_ret, oLen_eq, lft_some, e2_ret, oLt_eq, oGe_eq, eAnd_ret, oNe_eq]
  by_cases hc : k < W.length
  · simp only [decide_eq_true (show (k : Int) < (W.length : Int) by omega), if_true, oAt_nat _ _ hc, lft_some, e2_ret, oNe_eq, h1 hc, decide_eq_false (show ¬ (W.length : Int) ≤ (k : Int) by omega)]
    exact ⟨by simp, rfl⟩
  · simp only [decide_eq_false (show ¬ (k : Int) < (W.length : Int) by omega), decide_eq_true (show (W.length : Int) ≤ (k : Int) by omega), if_true, h2 (by omega)]
    exact ⟨rfl, by simp⟩
theorem law_true (ns : List Int) (h : ns.length ≤ 63) : m_law ns () = .ok true () := by
  unfold m_law
  rw [eArg_ret, eArg_ret, eArg_ret, bnd_ret]
  refine runP_true (I := I4) (show (0 : Int) ≤ 0 by decide) ?_
  rw [eArg_ret, eCallS_ret]
  refine (draw_sat 7 (by decide)).bnd fun w hw => ?_
  obtain ⟨w, rfl⟩ := Int.eq_ofNat_of_zero_le hw.1
  have hw6 : w ≤ 6 := by omega
  have hr : ∀ {T : Type}, (e1 oRange (ret (w : Int)) : MM T (List Int)) = ret (rangeL 0 w) := by intro T; rw [e1_ret, oRange_eq _ (by omega), lft_some]
  rw [bnd_ret, hr, bnd_ret, many_eq w (by omega), bnd_ret, eArg_ret, eCallS_ret]
  have p1 := pow2_pos w
  have p2 : (2 : Int) ^ w ≤ 2 ^ 6 := pow2_le hw6
  refine (draw_sat (2 ^ w) ⟨p1, by omega⟩).bnd fun l hl => ?_
  have hl64 : l.natAbs < 2 ^ 64 := by omega
  have hvl : val (dg w l) = l := by rw [val_dg, Int.emod_eq_of_lt hl.1 hl.2]
  rw [eArg_ret, eCall_ret, law_digits_eq l w (by omega), up_ret, bnd_ret]
  have tr : ∀ {T : Type}, (eOr (e2 oNe (eCall m_letters (ret (w : Int))) (ret (2 ^ w))) (e2 oNe (eCall m_letter_of (e1 oCopy (ret (dg w l)))) (ret l)) : MM T Bool) = ret false := by
    intro T
    rw [eCall_ret, letters_eq _ (by omega), up_ret, e2_ret, e1_ret]
    rw [oCopy_eq, lft_some, oNe_eq, lft_some, eOr_ret, eCall_ret, letter_of_eq _ (Bits.small (dg_bits w l)) (by rw [dg_length]; omega), up_ret, e2_ret, oNe_eq, lft_some, hvl, Int.toNat_natCast]
    simp
  rw [tr, eIf_ret, if_neg Bool.false_ne_true]
  have e1 : (bnd (ret (rangeL 0 w)) (lcL fun v_law_track => eCall m_digit (eArg (ret l) (ret v_law_track))) : MM (List Int × Int × Int × Int) (List Int)) = ret (dg w l) := by
    rw [bnd_ret]
    have z : (lcL (fun v_law_track => eCall m_digit (eArg (ret l) (ret v_law_track))) (rangeL 0 w) : MM (List Int × Int × Int × Int) (List Int)) = ret ((rangeL 0 w).map fun t => l / 2 ^ t.toNat % 2) := lcL_ret _ _ (by rw [rangeL_length]; omega) fun x hx => by
      rw [eArg_ret, eCall_ret, digit_eq _ _ (rangeL_mem hx).1, up_ret]
    rw [z]
    congr 1
    refine List.ext_getElem? fun i => ?_
    by_cases hi : i < w
    · rw [dg_get w l i hi, List.getElem?_map, rangeL_get 0 w (by omega)]
      show some (l / 2 ^ ((0 + (i : Int)).toNat) % 2) = _
      rw [Int.zero_add, Int.toNat_natCast]
    · rw [List.getElem?_eq_none (by rw [List.length_map, rangeL_length]; omega), List.getElem?_eq_none (by rw [dg_length]; omega)]
  rw [e1, e2_ret, oNe_eq, lft_some, eIf_ret, if_neg (by simp), e2_ret, oAdd_eq, lft_some, eArg_ret, eCallS_ret]
  refine (draw_sat ((w : Int) + 1) ⟨by omega, by omega⟩).bnd fun t ht => ?_
  obtain ⟨t, rfl⟩ := Int.eq_ofNat_of_zero_le ht.1
  have htw : t ≤ w := by omega
  rw [eArg_ret, eCallS_ret]
  refine (draw_sat 2 (by decide)).bnd fun v hv => ?_
  rw [eArg_ret, eArg_ret, eCall_ret, with_track_eq l t v (by omega) hl64 (by omega), up_ret, bnd_ret, Int.toNat_natCast]
  have pt := pow2_pos t
  have hlow := Int.emod_nonneg l (show (2 : Int) ^ t ≠ 0 by omega)
  have hlow2 := Int.emod_lt_of_pos l pt
  have hdm := Int.mul_ediv_add_emod l (2 ^ t)
  have hhi : 0 ≤ l / 2 ^ t := Int.ediv_nonneg hl.1 (by omega)
  -- the test of with_track and without_track
  have hval : val ((dg w l).take t ++ [v] ++ (dg w l).drop t) = l % 2 ^ t + v * 2 ^ t + l / 2 ^ t * 2 ^ (t + 1) := by
    rw [dg_take w t l htw, dg_drop w t l htw, List.append_assoc, val_append, dg_length, val_dg]
    show _ + 2 ^ t * (v + 2 * val (dg (w - t) (l / 2 ^ t))) = _
    rw [val_dg]
    have hlt : l / 2 ^ t < 2 ^ (w - t) := by
      refine Int.ediv_lt_of_lt_mul pt ?_
      rw [← Int.pow_add, show w - t + t = w by omega]
      exact hl.2
    rw [Int.emod_eq_of_lt hhi hlt, Int.mul_add, Int.pow_succ, Int.mul_comm (2 ^ t) v, ← Int.mul_assoc, Int.mul_comm (2 ^ t * 2) (l / 2 ^ t), Int.add_assoc]
  have hwide : (l % 2 ^ t + v * 2 ^ t + l / 2 ^ t * 2 ^ (t + 1)) % 2 ^ t + (l % 2 ^ t + v * 2 ^ t + l / 2 ^ t * 2 ^ (t + 1)) / 2 ^ (t + 1) * 2 ^ t = l := by
    have a1 : (l % 2 ^ t + v * 2 ^ t + l / 2 ^ t * 2 ^ (t + 1)) % 2 ^ t = l % 2 ^ t := by
      rw [Int.pow_succ, ← Int.mul_assoc, Int.mul_right_comm (l / 2 ^ t), Int.add_assoc, ← Int.add_mul, Int.add_mul_emod_self_right, Int.emod_emod]
    have a2 : (l % 2 ^ t + v * 2 ^ t + l / 2 ^ t * 2 ^ (t + 1)) / 2 ^ (t + 1) = l / 2 ^ t := by
      rw [Int.add_mul_ediv_right _ _ (by have := pow2_pos (t + 1); omega)]
      have hv1 : v * 2 ^ t ≤ 1 * 2 ^ t := Int.mul_le_mul_of_nonneg_right (by omega) (by omega)
      have hv0 : 0 ≤ v * 2 ^ t := Int.mul_nonneg hv.1 (by omega)
      rw [Int.ediv_eq_zero_of_lt (by omega) (by rw [Int.pow_succ]; omega)]
      omega
    rw [a1, a2, Int.mul_comm]
    omega
  generalize hW : l % 2 ^ t + v * 2 ^ t + l / 2 ^ t * 2 ^ (t + 1) = wide at hval hwide ⊢
  have hW64 : wide.natAbs < 2 ^ 64 := by
    have b1 : l / 2 ^ t * 2 ^ (t + 1) ≤ 2 * l := by rw [Int.pow_succ, ← Int.mul_assoc, Int.mul_comm _ 2, Int.mul_comm (l / 2 ^ t)]; omega
    have b2 : 0 ≤ l / 2 ^ t * 2 ^ (t + 1) := Int.mul_nonneg hhi (by have := pow2_pos (t + 1); omega)
    have b3 : (2 : Int) ^ t ≤ 2 ^ 6 := pow2_le (by omega)
    have hv1 : v * 2 ^ t ≤ 1 * 2 ^ t := Int.mul_le_mul_of_nonneg_right (by omega) (by omega)
    have hv0 : 0 ≤ v * 2 ^ t := Int.mul_nonneg hv.1 (by omega)
    omega
  have tr2 : (eOr (e2 oNe (ret wide) (eCall m__law_letter (e2 oCat (e2 oCat (e3p oCut (ret (dg w l)) (ret none) (WL.e1 (fun i => some (some i)) (ret (t : Int)))) (WL.e1 (fun a => some ([a])) (ret v))) (e3p oCut (ret (dg w l)) (WL.e1 (fun i => some (some i)) (ret (t : Int))) (ret none))))) (e2 oNe (eCall m_without_track (eArg (ret wide) (ret (t : Int)))) (ret l)) : MM (List Int × Int × Int × Int) Bool) = ret false := by
    rw [e1_ret, lft_some, e1_ret, lft_some, e3p_ret, e3p_ret]
    rw [oCut_eq, oCut_eq, lft_some, lft_some, e2_ret, cut_none_some _ t (by rw [dg_length]; exact htw), cut_some_none _ t (by rw [dg_length]; exact htw), oCat_eq _ _ (by rw [List.length_take, dg_length]; simp; omega), lft_some, e2_ret, oCat_eq _ _ (by rw [List.length_append, List.length_take, List.length_drop, dg_length]; simp; omega), lft_some, eCall_ret, law_letter_eq _ (by rw [List.length_append, List.length_append, List.length_take, List.length_drop, dg_length]; simp; omega), up_ret, hval, e2_ret, oNe_eq, lft_some, eOr_ret, if_neg (by simp), eArg_ret, eCall_ret, without_track_eq _ _ (by omega) hW64, up_ret, Int.toNat_natCast, hwide, e2_ret, oNe_eq, lft_some]
    simp
  rw [tr2, eIf_ret, if_neg Bool.false_ne_true, bnd_ret]
  -- the numbers
  refine Sat.bnd (Q := fun nums => nums.length = w ∧ Below 40 nums) ?_ fun nums hn => ?_
  · refine (Sat.lcL (P := fun _ n => 0 ≤ n ∧ n < 2 ^ 40) (rangeL 0 w) (by rw [rangeL_length]; omega) fun x hx => ?_).imp fun ys hys => ?_
    · rw [eArg_ret, eArg_ret, e1_ret, lft_some, eArg_ret, eCallS_ret]
      refine Sat.callS (Q := fun p => 0 < p.2 ∧ p.2 ≤ 2 ^ 40) ?_ fun p hp => (draw_sat p.2 ⟨hp.1, by omega⟩).imp fun r hr => ⟨hr.1, by omega⟩
      refine (Sat.arg (Q := fun _ => True) (Q2 := fun k => 0 < k ∧ k ≤ 2 ^ 40) (Sat.ret trivial) ?_).imp fun p hp => hp.2
      refine Sat.e2 (Q := fun xs => xs = [9, 2000, 1099511627776]) (Sat.ret rfl) (draw_sat 3 (by decide)) fun xs k e hk => ?_
      subst e
      have : k = 0 ∨ k = 1 ∨ k = 2 := by omega
      rcases this with rfl | rfl | rfl
      · exact ⟨9, rfl, by decide, by decide⟩
      · exact ⟨2000, rfl, by decide, by decide⟩
      · exact ⟨1099511627776, rfl, by decide, by decide⟩
    · obtain ⟨h1, h2⟩ := hys
      rw [rangeL_length] at h1
      refine ⟨by omega, fun n hn => ?_⟩
      obtain ⟨i, hi, rfl⟩ := List.mem_iff_getElem.mp hn
      exact h2 i (by rw [rangeL_length]; omega) hi
  obtain ⟨hnl, hb⟩ := hn
  have hwl := wd_length 40 nums
  rw [e1_ret, oCopy_eq, lft_some, bnd_ret, eCall_ret, word_of_eq 40 nums hb (by decide) (by omega), up_ret, bnd_ret]
  have tr3 : (eOr (eNot (WL.e1 (oConst true) (eArg (ret (wd 40 nums)) (ret ())))) (eOr (e2 oNe (ret nums) (ret nums)) (eAnd (e2 oGt (WL.e1 oLen (ret (wd 40 nums))) (ret 0)) (e2 oEq (e2 oAt (ret (wd 40 nums)) (WL.e1 oNeg (ret 1))) (ret 0)))) : MM (List Int × Int × Int × Int) Bool) = ret false := by
    rw [eArg_ret, e1_ret, oConst_eq, lft_some, eNot_ret, eOr_ret, if_neg (by simp), e2_ret, oNe_eq, lft_some, eOr_ret, if_neg (by simp), e1_ret, oLen_eq, lft_some, e2_ret, oGt_eq, lft_some, eAnd_ret]
    split
    · rename_i hpos
      have hpos := of_decide_eq_true hpos
      have hne : wd 40 nums ≠ [] := by intro z; rw [z] at hpos; simp at hpos
      have hlast := wd_last 40 nums hb _ (List.getLast?_eq_getLast hne)
      rw [e1_ret, oNeg_eq, lft_some, e2_ret, oAt_neg _ hne, lft_some, e2_ret, oEq_eq, lft_some, decide_eq_false hlast]
    · rfl
  rw [tr3, eIf_ret, if_neg Bool.false_ne_true]
  -- the loop over the places
  have hr41 : (WL.e1 oRange (WL.e1 oMax2 (eArg (WL.e1 oLen (ret (wd 40 nums))) (ret 41))) : MM (List Int × Int × Int × Int) (List Int)) = ret (rangeL 0 41) := by
    have hmx : oMax2 (((wd 40 nums).length : Int), 41) = some 41 := by
      unfold oMax2
      rw [if_pos (by show (41 : Int) > ((wd 40 nums).length : Int); omega)]
    rw [e1_ret, oLen_eq, lft_some, eArg_ret, e1_ret, hmx, lft_some, e1_ret, oRange_eq _ (by decide), lft_some]
  rw [hr41, bnd_ret]
  refine Sat.seqR (J := fun _ => True) (Sat.forR (fun _ _ => True) () trivial fun pre k post s hk _ => ?_) fun _ _ => ?_
  · obtain ⟨hk1, hk2⟩ := rangeL_split hk
    have hk3 : k = (pre.length : Int) := by omega
    subst hk3
    have hdue : (bnd (ret nums) (lcL fun v_law_number => e2 oMod (WL.e1 oIntI (e2 oDiv (ret v_law_number) (e2 oShl (ret 1) (ret (pre.length : Int))))) (ret 2)) : MM (List Int × Int × Int × Int) (List Int)) = ret ((nums.map (· / 2 ^ pre.length)).map (· % 2)) := by
      rw [bnd_ret]
      have z : (lcL (fun v_law_number => e2 oMod (WL.e1 oIntI (e2 oDiv (ret v_law_number) (e2 oShl (ret 1) (ret (pre.length : Int))))) (ret 2)) nums : MM (List Int × Int × Int × Int) (List Int)) = ret (nums.map fun n => n / 2 ^ pre.length % 2) := lcL_ret _ _ (by omega) fun x hx => by
        have b3 : (2 : Int) ^ pre.length ≤ 2 ^ 41 := pow2_le (by omega)
        rw [e2_ret, oShl_eq _ _ ⟨by omega, by omega, by decide⟩, lft_some, e2_ret, Int.one_mul, Int.toNat_natCast, oDiv_eq _ _ ⟨pow2_pos _, by omega⟩, lft_some, e1_ret]
        unfold oIntI
        rw [lft_some, e2_ret, oMod_eq _ _ (by decide), lft_some]
      rw [z, List.map_map]
      rfl
    rw [hdue, eCall_ret, law_letter_eq _ (by rw [List.length_map, List.length_map]; omega), up_ret, bnd_ret]
    have hg := wd_get 40 nums pre.length hb
    have hdz : (wd 40 nums).length ≤ pre.length → val ((nums.map (· / 2 ^ pre.length)).map (· % 2)) = 0 := fun z => by
      have h0 := hg.2 z
      have : (nums.map (· / 2 ^ pre.length)).map (· % 2) = List.replicate nums.length 0 := by
        refine List.eq_replicate_iff.mpr ⟨by simp, fun b hb => ?_⟩
        rw [List.map_map] at hb
        obtain ⟨n, hn, rfl⟩ := List.mem_map.mp hb
        show n / 2 ^ pre.length % 2 = 0
        rw [h0 n hn]; rfl
      rw [this, val_zeros]
    have tn := turn_ok (T := List Int × Int × Int × Int) (W := wd 40 nums) (k := pre.length) (due := val ((nums.map (· / 2 ^ pre.length)).map (· % 2))) (fun h => hg.1 _ (List.getElem?_eq_getElem h)) hdz
    rw [tn.1, eIf_ret, if_neg Bool.false_ne_true, tn.2, eIf_ret, if_neg Bool.false_ne_true]
    exact Sat.ret ⟨(), rfl, trivial⟩
  · -- the end
    refine Sat.e2 (Q := fun ys => ys = nums) (Q2 := fun ys => ys = nums) ?_ (Sat.ret rfl) fun a b ha hb' => ⟨true, by rw [ha, hb']; unfold oEq; simp, rfl⟩
    refine Sat.call (Q := fun p => ∃ d : Nat, d ≤ 2 ∧ p = (wd 40 nums ++ List.replicate d 0, (w : Int))) ?_ fun p hp => ?_
    · refine (Sat.arg (Q := fun ys => ∃ d : Nat, d ≤ 2 ∧ ys = wd 40 nums ++ List.replicate d 0) (Q2 := fun k => k = (w : Int)) ?_ (Sat.ret rfl)).imp fun p ⟨⟨d, hd, e⟩, e2⟩ => ⟨d, hd, Prod.ext e e2⟩
      refine Sat.e2 (Q := fun ys => ys = wd 40 nums) (Q2 := fun ys => ∃ d : Nat, d ≤ 2 ∧ ys = List.replicate d 0) (Sat.ret rfl) ?_ fun a b ha ⟨d, hd, hb⟩ => ⟨_, oCat_eq _ _ (by rw [ha, hb, List.length_replicate]; omega), d, hd, by rw [ha, hb]⟩
      rw [e1_ret, lft_some, eArg_ret, eCallS_ret]
      refine Sat.e2 (Q := fun ys => ys = [0]) (Sat.ret rfl) (draw_sat 3 (by decide)) fun a b ha hb => ⟨List.replicate b.toNat 0, ?_, b.toNat, by omega, rfl⟩
      rw [ha, oRep_eq _ _ ⟨by omega, by omega, by simp; omega⟩]
      congr 1
      generalize b.toNat = k
      induction k with
      | zero => rfl
      | succ k ih => rw [List.replicate_succ, List.replicate_succ, List.flatten_cons, ih]; rfl
    · obtain ⟨d, hd, e⟩ := hp
      subst e
      rw [numbers_of_eq _ w (by rw [List.length_append, List.length_replicate]; omega) (by omega)]
      refine Sat.ret ?_
      refine List.ext_getElem? fun t => ?_
      by_cases ht' : t < w
      · have htn : t < nums.length := by omega
        rw [List.getElem?_map, List.getElem?_range ht', List.getElem?_eq_getElem htn]
        show some _ = some _
        congr 1
        have hdig : digitsOf (wd 40 nums ++ List.replicate d 0) t = dg (wd 40 nums).length nums[t] ++ List.replicate d 0 := by
          unfold digitsOf
          rw [List.map_append]
          congr 1
          · refine List.ext_getElem? fun k => ?_
            by_cases hk : k < (wd 40 nums).length
            · rw [dg_get _ _ k hk, List.getElem?_map, List.getElem?_eq_getElem hk, (wd_get 40 nums k hb).1 _ (List.getElem?_eq_getElem hk)]
              show some _ = some _
              congr 1
              show let_ (nums.map (· / 2 ^ k)) / 2 ^ t % 2 = _
              unfold let_
              rw [val_digit (mod2_bits _) (by rw [List.length_map, List.length_map]; exact htn)]
              simp
            · rw [List.getElem?_eq_none (by rw [List.length_map]; omega), List.getElem?_eq_none (by rw [dg_length]; omega)]
          · rw [List.map_replicate, Int.zero_ediv]
            rfl
        show val (digitsOf (wd 40 nums ++ List.replicate d 0) t) = nums[t]
        rw [hdig, val_append, val_zeros, val_dg, Int.mul_zero, Int.add_zero]
        have h1 := (wd_get 40 nums (wd 40 nums).length hb).2 (Nat.le_refl _) nums[t] (List.getElem_mem htn)
        have h2 := Int.mul_ediv_add_emod nums[t] (2 ^ (wd 40 nums).length)
        rw [h1] at h2
        omega
      · rw [List.getElem?_eq_none (by rw [List.length_map, List.length_range]; omega), List.getElem?_eq_none (by omega)]
end Law

/-! the walk of law_k10_letters_and_words, printed by gen.py -/
namespace Wk
open PySem PySem.Spec PyProof.Rows L2 WL Mir
def topS (i : Nat) : Stmt := PySem.Challenge.pw_digitwise_k10_letters_and_words.main.body.getD i (.Pass ⟨0, 0, 0, 0⟩)
structure Top (K : PySem.W.Frag) (mg : Str → Option Value) where
  cls : Nat → Addr
  d_letters : DefI K mg "letters" "letters" (topS 1) ["width"]
  d_digit : DefI K mg "digit" "digit" (topS 2) ["letter", "track"]
  d_letter_of : DefI K mg "letter_of" "letter_of" (topS 3) ["digits"]
  d_word_of : DefI K mg "word_of" "word_of" (topS 4) ["numbers"]
  d_numbers_of : DefI K mg "numbers_of" "numbers_of" (topS 5) ["word", "width"]
  d_with_track : DefI K mg "with_track" "with_track" (topS 6) ["letter", "track", "value"]
  d_without_track : DefI K mg "without_track" "without_track" (topS 7) ["letter", "track"]
  d__law_draw : DefI K mg "_law_draw" "_law_draw" (topS 9) ["_law_state", "_law_many"]
  d__law_digits : DefI K mg "_law_digits" "_law_digits" (topS 10) ["_law_letter_here", "_law_width"]
  d__law_letter : DefI K mg "_law_letter" "_law_letter" (topS 11) ["_law_row"]
  d_law : DefI K mg "law" "law" (topS 12) ["_law_script"]
  n_abs : mg "abs" = none
  n_any : mg "any" = none
  n_int : mg "int" = none
  n_isinstance : mg "isinstance" = none
  n_len : mg "len" = none
  n_list : mg "list" = none
  n_max : mg "max" = none
  n_range : mg "range" = none
  n_tuple : mg "tuple" = none
section
variable {P : Program} {w : World} {K : PySem.W.Frag} {mg : Str → Option Value} {base : Heap}
theorem sc_letters : FnScope ["width"] ["width"] (defScope (topS 1)) := ⟨rfl, rfl, rfl, by decide +kernel, rfl, by decide +kernel, by decide +kernel⟩
set_option maxHeartbeats 4000000 in
theorem ok_letters (Z : Top K mg) : FnOk P w K mg base (L2.CX P w) 1 Z.d_letters.a Z.d_letters.d ["width"] (SpF Z.cls (l1 tInt) tInt m_letters) :=
  fn_pure (k := 0) (r := 0) Z.d_letters.F sc_letters ld_1 rfl fun cdv A outer s H E m a hr =>
    b_ret (x_bin op_shl sp_shl x_int (x_var 0))
theorem sc_digit : FnScope ["letter", "track"] ["letter", "track"] (defScope (topS 2)) := ⟨rfl, rfl, rfl, by decide +kernel, rfl, by decide +kernel, by decide +kernel⟩
set_option maxHeartbeats 4000000 in
theorem ok_digit (Z : Top K mg) : FnOk P w K mg base (L2.CX P w) 1 Z.d_digit.a Z.d_digit.d ["letter", "track"] (SpF Z.cls (lc tInt (l1 tInt)) tInt m_digit) :=
  fn_pure (k := 0) (r := 0) Z.d_digit.F sc_digit (ld_c ld_1) rfl fun cdv A outer s H E m a hr =>
    b_ret (x_bin op_mod sp_mod (x_bin op_shr sp_shr (x_var 0) (x_var 1)) x_int)
theorem sc_letter_of : FnScope ["digits", "letter", "track"] ["digits"] (defScope (topS 3)) := ⟨rfl, rfl, rfl, by decide +kernel, rfl, by decide +kernel, by decide +kernel⟩
set_option maxHeartbeats 4000000 in
theorem ok_letter_of (Z : Top K mg) : FnOk P w K mg base (L2.CX P w) 1 Z.d_letter_of.a Z.d_letter_of.d ["digits"] (SpF Z.cls (l1 (tList tInt)) tInt m_letter_of) :=
  fn_pure (k := 0) (r := 2) Z.d_letter_of.F sc_letter_of ld_1 rfl fun cdv A outer s H E m a hr =>
    b_set 1 x_int (fun v_letter =>
    b_seq (s_for (dsL := fun (s1 : Int) => [.val (tList tInt) a, .val tInt s1, .any]) bPass rfl (i_range Z.n_range (a_one (x_callB call_len' sp_lenL Z.n_len (by decide +kernel) (a_one (x_var 0))))) (pg_name (i := 2) sc_letter_of.nd rfl (Or.inl rfl)) (fun _ _ => (tg_name 2)) (.same (.same (.same .nil))) (fun _ _ s1 v_track =>
    b_set 1 (x_bin op_add sp_add (x_var 1) (x_bin op_shl sp_shl (x_ix ix_list sp_atL (x_var 0) (x_var 2)) (x_var 2))) (fun v_letter =>
    b_end (.same (.same (.any .nil)))) sc_letter_of.nd)) fun s2 =>
    b_ret (x_var 1)) sc_letter_of.nd
theorem sc_word_of : FnScope ["numbers", "left", "word", "number"] ["numbers"] (defScope (topS 4)) := ⟨rfl, rfl, rfl, by decide +kernel, rfl, by decide +kernel, by decide +kernel⟩
set_option maxHeartbeats 4000000 in
theorem ok_word_of (Z : Top K mg) : FnOk P w K mg base (L2.CX P w) 2 Z.d_word_of.a Z.d_word_of.d ["numbers"] (SpF Z.cls (l1 (tList tInt)) (tList tInt) m_word_of) :=
  fn_pure (k := 1) (r := 3) Z.d_word_of.F sc_word_of ld_1 rfl fun cdv A outer s H E m a hr =>
    b_set 1 (x_frz frz_list (x_callTyO call_list' sp_listL Z.n_list (by decide +kernel) (a_one (x_var 0)))) (fun v_left =>
    b_setO 2 (x_lst a_nil lr_nil) (fun v_word =>
    b_seq (s_while (dsL := fun (s4 : ((List Int) × (List Int))) => [.val (tList tInt) a, .val (tList tInt) s4.1, .own (oList tInt) s4.2, .any]) (((maxL v_left).getD 0).toNat + 1) bPass (.same (.same (.same (.same .nil)))) (fun s4 => t_val (x_callB (cr_any rfl) sp_any Z.n_any (by decide +kernel) (a_one (x_frz frz_list (x_lc rfl sc_word_of.nd (i_list (x_var 1)) (own := [("number", 3)]) (blkOk_by (N := ["numbers", "left", "word", "number"]) (sc := defScope (topS 4)) (by decide +kernel)) (tg_name 3) (fun _ h => h) (fun _ _ _ _ _ => (pg_name (i := 3) sc_word_of.nd rfl (Or.inl rfl))) (fun _ _ _ _ _ v_number => x_cmp op_gt sp_gt (x_var 3) x_int)))))) (fun s4 =>
    b_app 2 (pe_bm PySem.F.plainAttrs_list PySem.F.slot_list_append PySem.F.type_list_append mt_append (pv 2) (pa_cons (x_call (ok_letter_of Z) (hr.mono (by decide)) Z.d_letter_of.g Z.d_letter_of.F.kp Z.d_letter_of.b bTakes uErr (a_one (x_frz frz_list (x_lc rfl sc_word_of.nd (i_list (x_var 1)) (own := [("number", 3)]) (blkOk_by (N := ["numbers", "left", "word", "number"]) (sc := defScope (topS 4)) (by decide +kernel)) (tg_name 3) (fun _ h => h) (fun _ _ _ _ _ => (pg_name (i := 3) sc_word_of.nd rfl (Or.inl rfl))) (fun _ _ _ _ _ v_number => x_bin op_mod sp_mod (x_var 3) x_int))))) pa_nil)) (fun v_word =>
    b_setLc 1 rfl sc_word_of.nd (i_list (x_var 1)) (own := [("number", 3)]) (blkOk_by (N := ["numbers", "left", "word", "number"]) (sc := defScope (topS 4)) (by decide +kernel)) (tg_name 3) (fun _ h => h) (fun _ _ _ _ _ => (pg_name (i := 3) sc_word_of.nd rfl (Or.inl rfl))) (fun _ _ _ _ _ v_number => x_bin op_fdivW sp_div (x_var 3) x_int) fun v_left =>
    b_frz 1 frz_list rfl (b_end (.same (.same (.same (.same .nil)))))))) fun s5 =>
    b_frz 2 frz_list rfl (b_ret (x_var 2))) sc_word_of.nd) sc_word_of.nd
theorem sc_numbers_of : FnScope ["word", "width", "numbers", "track", "number", "place"] ["word", "width"] (defScope (topS 5)) := ⟨rfl, rfl, rfl, by decide +kernel, rfl, by decide +kernel, by decide +kernel⟩
set_option maxHeartbeats 4000000 in
theorem ok_numbers_of (Z : Top K mg) : FnOk P w K mg base (L2.CX P w) 2 Z.d_numbers_of.a Z.d_numbers_of.d ["word", "width"] (SpF Z.cls (lc (tList tInt) (l1 tInt)) (tVT K tInt) m_numbers_of) :=
  fn_pure (k := 1) (r := 4) Z.d_numbers_of.F sc_numbers_of (ld_c ld_1) rfl fun cdv A outer s H E m a hr =>
    b_setO 2 (x_lst a_nil lr_nil) (fun v_numbers =>
    b_seq (s_for (dsL := fun (s7 : (List Int)) => [.val (tList tInt) a.1, .val tInt a.2, .own (oList tInt) s7, .any, .any, .any]) bPass rfl (i_range Z.n_range (a_one (x_var 1))) (pg_name (i := 3) sc_numbers_of.nd rfl (Or.inl rfl)) (fun _ _ => (tg_name 3)) (.same (.same (.same (.same (.same (.same .nil)))))) (fun _ _ s7 v_track =>
    b_set 4 x_int (fun v_number =>
    b_seq (s_for (dsL := fun (s9 : Int) => [.val (tList tInt) a.1, .val tInt a.2, .own (oList tInt) s7, .val tInt v_track, .val tInt s9, .any]) bPass rfl (i_range Z.n_range (a_one (x_callB call_len' sp_lenL Z.n_len (by decide +kernel) (a_one (x_var 0))))) (pg_name (i := 5) sc_numbers_of.nd rfl (Or.inl rfl)) (fun _ _ => (tg_name 5)) (.same (.same (.same (.same (.same (.same .nil)))))) (fun _ _ s9 v_place =>
    b_set 4 (x_bin op_add sp_add (x_var 4) (x_bin op_shl sp_shl (x_call (ok_digit Z) (hr.mono (by decide)) Z.d_digit.g Z.d_digit.F.kp Z.d_digit.b bTakes uErr.pin.pin (a_cons (x_ix ix_list sp_atL (x_var 0) (x_var 5)) (a_one (x_var 3)))) (x_var 5))) (fun v_number =>
    b_end (.same (.same (.same (.same (.same (.any .nil))))))) sc_numbers_of.nd)) fun s10 =>
    b_app 2 (pe_bm PySem.F.plainAttrs_list PySem.F.slot_list_append PySem.F.type_list_append mt_append (pv 2) (pa_cons (x_var 4) pa_nil)) (fun v_numbers =>
    b_end (.same (.same (.same (.any (.any (.same .nil)))))))) sc_numbers_of.nd)) fun s8 =>
    b_frz 2 frz_list rfl (b_ret (x_callTy call_tuple' sp_tupL Z.n_tuple (by decide +kernel) (a_one (x_var 2))))) sc_numbers_of.nd
theorem sc_with_track : FnScope ["letter", "track", "value", "low", "high"] ["letter", "track", "value"] (defScope (topS 6)) := ⟨rfl, rfl, rfl, by decide +kernel, rfl, by decide +kernel, by decide +kernel⟩
set_option maxHeartbeats 4000000 in
theorem ok_with_track (Z : Top K mg) : FnOk P w K mg base (L2.CX P w) 1 Z.d_with_track.a Z.d_with_track.d ["letter", "track", "value"] (SpF Z.cls (lc tInt (lc tInt (l1 tInt))) tInt m_with_track) :=
  fn_pure (k := 0) (r := 2) Z.d_with_track.F sc_with_track (ld_c (ld_c ld_1)) rfl fun cdv A outer s H E m a hr =>
    b_set 3 (x_bin op_mod sp_mod (x_var 0) (x_bin op_shl sp_shl x_int (x_var 1))) (fun v_low =>
    b_set 4 (x_bin op_shr sp_shr (x_var 0) (x_var 1)) (fun v_high =>
    b_ret (x_bin op_add sp_add (x_bin op_add sp_add (x_var 3) (x_bin op_shl sp_shl (x_var 2) (x_var 1))) (x_bin op_shl sp_shl (x_var 4) (x_bin op_add sp_add (x_var 1) x_int)))) sc_with_track.nd) sc_with_track.nd
theorem sc_without_track : FnScope ["letter", "track", "low"] ["letter", "track"] (defScope (topS 7)) := ⟨rfl, rfl, rfl, by decide +kernel, rfl, by decide +kernel, by decide +kernel⟩
set_option maxHeartbeats 4000000 in
theorem ok_without_track (Z : Top K mg) : FnOk P w K mg base (L2.CX P w) 1 Z.d_without_track.a Z.d_without_track.d ["letter", "track"] (SpF Z.cls (lc tInt (l1 tInt)) tInt m_without_track) :=
  fn_pure (k := 0) (r := 1) Z.d_without_track.F sc_without_track (ld_c ld_1) rfl fun cdv A outer s H E m a hr =>
    b_set 2 (x_bin op_mod sp_mod (x_var 0) (x_bin op_shl sp_shl x_int (x_var 1))) (fun v_low =>
    b_ret (x_bin op_add sp_add (x_var 2) (x_bin op_shl sp_shl (x_bin op_shr sp_shr (x_var 0) (x_bin op_add sp_add (x_var 1) x_int)) (x_var 1)))) sc_without_track.nd
theorem sc__law_draw : FnScope ["_law_state", "_law_many", "_law_place", "_law_cell", "_law_one", "_law_two", "_law_taken"] ["_law_state", "_law_many"] (defScope (topS 9)) := ⟨rfl, rfl, rfl, by decide +kernel, rfl, by decide +kernel, by decide +kernel⟩
set_option maxHeartbeats 4000000 in
theorem ok__law_draw (Z : Top K mg) : FnOk P w K mg base (L2.CX P w) 1 Z.d__law_draw.a Z.d__law_draw.d ["_law_state", "_law_many"] (SpP Z.cls (lc (tSeq K tInt) (lc tInt (lc tInt (l1 tInt)))) (fun p => (lc (tIs p) (l1 tInt))) tInt m__law_draw) :=
  fn_pool (k := 0) (r := 5) Z.d__law_draw.F sc__law_draw (fun p => (ld_c ld_1)) rfl fun cdv A outer s H E m p a hr =>
    b_seq (dsM := fun (s14 : Unit) => [.val (tIs p) (), .val tInt a.2, .any, .any, .any, .any, .any]) (s_if (t_cmp op_le sp_le (x_getP 0 2 pPool (lp_s (lp_s lp_z))) x_int) (b_set 2 (x_getP 0 1 pPool (lp_s lp_z)) (fun v_law_place =>
    b_setP 0 1 pPool (lq_s lq_z) (x_bin op_add sp_add (x_var 2) x_int) (
    b_set 3 (x_bin op_add sp_add (x_bin op_mul sp_mul (x_var 2) x_int) x_int) (fun v_law_cell =>
    b_seq (dsM := fun (s15 : Int) => [.val (tIs p) (), .val tInt a.2, .val tInt v_law_place, .val tInt s15, .any, .any, .any]) (s_if (t_cmp op_lt sp_lt (x_var 2) (x_callB call_len' sp_lenS Z.n_len (by decide +kernel) (a_one (x_getP 0 0 pPool lp_z)))) (b_set 3 (x_ix ix_list sp_atS (x_getP 0 0 pPool lp_z) (x_var 2)) (fun v_law_cell =>
    b_end (.same (.same (.same (.same (.same (.same (.same .nil)))))))) sc__law_draw.nd) (b_end (.same (.same (.same (.same (.same (.same (.same .nil))))))))) fun s15 =>
    b_seq (dsM := fun (s16 : Unit) => [.val (tIs p) (), .val tInt a.2, .val tInt v_law_place, .val tInt s15, .any, .any, .any]) (s_if (t_chain op_le sp_le op_lt sp_lt x_int (x_var 3) x_int) (b_set 4 (x_bin op_mod sp_mod (x_callTy call_int1 sp_intI Z.n_int (by decide +kernel) (a_one (x_bin op_add sp_add (x_bin op_add sp_add (x_bin op_mul sp_mul (x_var 3) x_int) (x_bin op_mul sp_mul (x_var 2) x_int)) (x_getP 0 3 pPool (lp_s (lp_s (lp_s lp_1))))))) x_int) (fun v_law_one =>
    b_set 5 (x_bin op_mod sp_mod (x_callTy call_int1 sp_intI Z.n_int (by decide +kernel) (a_one (x_bin op_add sp_add (x_bin op_add sp_add (x_bin op_mul sp_mul (x_var 4) x_int) (x_var 3)) x_int))) x_int) (fun v_law_two =>
    b_setP 0 2 pPool (lq_s (lq_s lq_z)) (x_bin op_add sp_add (x_bin op_mul sp_mul (x_var 4) x_int) (x_var 5)) (
    b_end (.same (.same (.same (.same (.any (.any (.same .nil))))))))) sc__law_draw.nd) sc__law_draw.nd) (b_setP 0 2 pPool (lq_s (lq_s lq_z)) (x_callB call_abs sp_abs Z.n_abs (by decide +kernel) (a_one (x_var 3))) (
    b_end (.same (.same (.same (.same (.same (.same (.same .nil)))))))))) fun s16 =>
    b_setP 0 3 pPool (lq_s (lq_s (lq_s lq_1))) (x_bin op_mod sp_mod (x_callTy call_int1 sp_intI Z.n_int (by decide +kernel) (a_one (x_bin op_add sp_add (x_bin op_mul sp_mul (x_getP 0 3 pPool (lp_s (lp_s (lp_s lp_1)))) x_int) (x_var 3)))) x_int) (
    b_end (.same (.same (.any (.any (.same (.same (.same .nil))))))))) sc__law_draw.nd)) sc__law_draw.nd) (b_end (.same (.same (.same (.same (.same (.same (.same .nil))))))))) fun s14 =>
    b_set 6 (x_bin op_mod sp_mod (x_callTy call_int1 sp_intI Z.n_int (by decide +kernel) (a_one (x_getP 0 2 pPool (lp_s (lp_s lp_z))))) (x_var 1)) (fun v_law_taken =>
    b_setP 0 2 pPool (lq_s (lq_s lq_z)) (x_bin op_fdivW sp_div (x_callTy call_int1 sp_intI Z.n_int (by decide +kernel) (a_one (x_getP 0 2 pPool (lp_s (lp_s lp_z))))) (x_var 1)) (
    b_ret (x_var 6))) sc__law_draw.nd
theorem sc__law_digits : FnScope ["_law_letter_here", "_law_width", "_law_row", "_law_track"] ["_law_letter_here", "_law_width"] (defScope (topS 10)) := ⟨rfl, rfl, rfl, by decide +kernel, rfl, by decide +kernel, by decide +kernel⟩
set_option maxHeartbeats 4000000 in
theorem ok__law_digits (Z : Top K mg) : FnOk P w K mg base (L2.CX P w) 1 Z.d__law_digits.a Z.d__law_digits.d ["_law_letter_here", "_law_width"] (SpF Z.cls (lc tInt (l1 tInt)) (tList tInt) m__law_digits) :=
  fn_pure (k := 0) (r := 2) Z.d__law_digits.F sc__law_digits (ld_c ld_1) rfl fun cdv A outer s H E m a hr =>
    b_setO 2 (x_lst a_nil lr_nil) (fun v_law_row =>
    b_seq (s_for (dsL := fun (s22 : (Int × (List Int))) => [.val tInt s22.1, .val tInt a.2, .own (oList tInt) s22.2, .any]) bPass rfl (i_range Z.n_range (a_one (x_var 1))) (pg_name (i := 3) sc__law_digits.nd rfl (Or.inl rfl)) (fun _ _ => (tg_name 3)) (.same (.same (.same (.same .nil)))) (fun _ _ s22 v_law_track =>
    b_app 2 (pe_bm PySem.F.plainAttrs_list PySem.F.slot_list_append PySem.F.type_list_append mt_append (pv 2) (pa_cons (x_bin op_mod sp_mod (x_callTy call_int1 sp_intI Z.n_int (by decide +kernel) (a_one (x_var 0))) x_int) pa_nil)) (fun v_law_row =>
    b_set 0 (x_bin op_fdivW sp_div (x_var 0) x_int) (fun v_law_letter_here =>
    b_end (.same (.same (.same (.any .nil))))) sc__law_digits.nd))) fun s23 =>
    b_frz 2 frz_list rfl (b_ret (x_var 2))) sc__law_digits.nd
theorem sc__law_letter : FnScope ["_law_row", "_law_total", "_law_k"] ["_law_row"] (defScope (topS 11)) := ⟨rfl, rfl, rfl, by decide +kernel, rfl, by decide +kernel, by decide +kernel⟩
set_option maxHeartbeats 4000000 in
theorem ok__law_letter (Z : Top K mg) : FnOk P w K mg base (L2.CX P w) 1 Z.d__law_letter.a Z.d__law_letter.d ["_law_row"] (SpF Z.cls (l1 (tList tInt)) tInt m__law_letter) :=
  fn_pure (k := 0) (r := 2) Z.d__law_letter.F sc__law_letter ld_1 rfl fun cdv A outer s H E m a hr =>
    b_set 1 x_int (fun v_law_total =>
    b_seq (s_for (dsL := fun (s26 : Int) => [.val (tList tInt) a, .val tInt s26, .any]) bPass rfl (i_range Z.n_range (a_one (x_callB call_len' sp_lenL Z.n_len (by decide +kernel) (a_one (x_var 0))))) (pg_name (i := 2) sc__law_letter.nd rfl (Or.inl rfl)) (fun _ _ => (tg_name 2)) (.same (.same (.same .nil))) (fun _ _ s26 v_law_k =>
    b_set 1 (x_bin op_add sp_add (x_bin op_mul sp_mul (x_var 1) x_int) (x_ix ix_list sp_atL (x_var 0) (x_bin op_sub sp_sub (x_bin op_sub sp_sub (x_callB call_len' sp_lenL Z.n_len (by decide +kernel) (a_one (x_var 0))) x_int) (x_var 2)))) (fun v_law_total =>
    b_end (.same (.same (.any .nil)))) sc__law_letter.nd)) fun s27 =>
    b_ret (x_var 1)) sc__law_letter.nd
theorem sc_law : FnScope ["_law_script", "_law_state", "_law_width", "_law_many", "_law_k", "_law_letter_here", "_law_row", "_law_track", "_law_value", "_law_wide", "_law_numbers", "_law_given", "_law_word", "_law_due", "_law_number"] ["_law_script"] (defScope (topS 12)) := ⟨rfl, rfl, rfl, by decide +kernel, rfl, by decide +kernel, by decide +kernel⟩
set_option maxHeartbeats 4000000 in
theorem ok_law (Z : Top K mg) : FnOk P w K mg base (L2.CX P w) 3 Z.d_law.a Z.d_law.d ["_law_script"] (SpF Z.cls (l1 (tSeq K tInt)) tBool m_law) :=
  fn_pure (k := 2) (r := 14) Z.d_law.F sc_law ld_1 rfl fun cdv A outer s H E m a hr =>
    b_pool 1 (x_lstR (a_cons (x_var 0) (a_cons x_int (a_cons x_int (a_one x_int)))) (ldLen (ld_c (ld_c (ld_c ld_1))))) (fun p =>
    b_set 2 (x_callP (la := fun p => (lc (tIs p) (l1 tInt))) pPool (ok__law_draw Z) (hr.mono (by decide)) Z.d__law_draw.g Z.d__law_draw.F.kp Z.d__law_draw.b bTakes pErr (a_cons (x_var 1) (a_one x_int))) (fun v_law_width =>
    b_set 3 x_int (fun v_law_many =>
    b_seq (s_for (dsL := fun (s29 : Int) => [.val (tSeq K tInt) a, .val (tIs p) (), .val tInt v_law_width, .val tInt s29, .any, .any, .any, .any, .any, .any, .any, .any, .any, .any, .any]) bPass rfl (i_range Z.n_range (a_one (x_var 2))) (pg_name (i := 4) sc_law.nd rfl (Or.inr rfl)) (fun _ _ => (tg_name 4)) (.same (.same (.same (.same (.same (.same (.same (.same (.same (.same (.same (.same (.same (.same (.same .nil))))))))))))))) (fun _ _ s29 v_law_k =>
    b_set 3 (x_bin op_mul sp_mul (x_var 3) x_int) (fun v_law_many =>
    b_end (.same (.same (.same (.same (.any (.same (.same (.same (.same (.same (.same (.same (.same (.same (.same .nil)))))))))))))))) sc_law.nd)) fun s30 =>
    b_set 5 (x_callP (la := fun p => (lc (tIs p) (l1 tInt))) pPool (ok__law_draw Z) (hr.mono (by decide)) Z.d__law_draw.g Z.d__law_draw.F.kp Z.d__law_draw.b bTakes pErr (a_cons (x_var 1) (a_one (x_var 3)))) (fun v_law_letter_here =>
    b_set 6 (x_call (ok__law_digits Z) (hr.mono (by decide)) Z.d__law_digits.g Z.d__law_digits.F.kp Z.d__law_digits.b bTakes pErr (a_cons (x_var 5) (a_one (x_var 2)))) (fun v_law_row =>
    b_ifret0 (PW.pt (w_or (t_cmp op_ne (sp_ne sc_int) (x_call (ok_letters Z) (hr.mono (by decide)) Z.d_letters.g Z.d_letters.F.kp Z.d_letters.b bTakes pErr (a_one (x_var 2))) (x_var 3)) (w_or1 (t_cmp op_ne (sp_ne sc_int) (x_call (ok_letter_of Z) (hr.mono (by decide)) Z.d_letter_of.g Z.d_letter_of.F.kp Z.d_letter_of.b bTakes pErr (a_one (x_frz frz_list (x_callTyO call_list' sp_listL Z.n_list (by decide +kernel) (a_one (x_var 6)))))) (x_var 5))))) (b_ret x_bool) (
    b_ifret0 (t_cmp (op_neD hr.units) (sp_dne (eq_list eq_int)) (x_frz frz_list (x_lc rfl sc_law.nd (i_range Z.n_range (a_one (x_var 2))) (own := [("_law_track", 7)]) (blkOk_by (N := ["_law_script", "_law_state", "_law_width", "_law_many", "_law_k", "_law_letter_here", "_law_row", "_law_track", "_law_value", "_law_wide", "_law_numbers", "_law_given", "_law_word", "_law_due", "_law_number"]) (sc := defScope (topS 12)) (by decide +kernel)) (tg_name 7) (fun _ h => h) (fun _ _ _ _ _ => (pg_name (i := 7) sc_law.nd rfl (Or.inl rfl))) (fun _ _ _ _ _ v_law_track => x_call (ok_digit Z) (hr.mono (by decide)) Z.d_digit.g Z.d_digit.F.kp Z.d_digit.b takesN ErrC.no (a_cons (x_var 5) (a_one (x_var 7)))))) (x_var 6)) (b_ret x_bool) (
    b_set 7 (x_callP (la := fun p => (lc (tIs p) (l1 tInt))) pPool (ok__law_draw Z) (hr.mono (by decide)) Z.d__law_draw.g Z.d__law_draw.F.kp Z.d__law_draw.b bTakes pErr (a_cons (x_var 1) (a_one (x_bin op_add sp_add (x_var 2) x_int)))) (fun v_law_track =>
    b_set 8 (x_callP (la := fun p => (lc (tIs p) (l1 tInt))) pPool (ok__law_draw Z) (hr.mono (by decide)) Z.d__law_draw.g Z.d__law_draw.F.kp Z.d__law_draw.b bTakes pErr (a_cons (x_var 1) (a_one x_int))) (fun v_law_value =>
    b_set 9 (x_call (ok_with_track Z) (hr.mono (by decide)) Z.d_with_track.g Z.d_with_track.F.kp Z.d_with_track.b bTakes pErr (a_cons (x_var 5) (a_cons (x_var 7) (a_one (x_var 8))))) (fun v_law_wide =>
    b_ifret0 (PW.pt (w_or (t_cmp op_ne (sp_ne sc_int) (x_var 9) (x_call (ok__law_letter Z) (hr.mono (by decide)) Z.d__law_letter.g Z.d__law_letter.F.kp Z.d__law_letter.b bTakes pErr (a_one (x_frz frz_list (x_binO op_cat sp_cat (x_frz frz_list (x_binO op_cat sp_cat (x_frz frz_list (x_slL (x_var 6) p_none (p_some (x_var 7)))) (x_frz frz_list (x_lst (a_one (x_var 8)) lr_one)))) (x_frz frz_list (x_slL (x_var 6) (p_some (x_var 7)) p_none))))))) (w_or1 (t_cmp op_ne (sp_ne sc_int) (x_call (ok_without_track Z) (hr.mono (by decide)) Z.d_without_track.g Z.d_without_track.F.kp Z.d_without_track.b bTakes pErr (a_cons (x_var 9) (a_one (x_var 7)))) (x_var 5))))) (b_ret x_bool) (
    b_setLc 10 rfl sc_law.nd (i_range Z.n_range (a_one (x_var 2))) (own := [("_law_k", 4)]) (blkOk_by (N := ["_law_script", "_law_state", "_law_width", "_law_many", "_law_k", "_law_letter_here", "_law_row", "_law_track", "_law_value", "_law_wide", "_law_numbers", "_law_given", "_law_word", "_law_due", "_law_number"]) (sc := defScope (topS 12)) (by decide +kernel)) (tg_name 4) (fun _ h => h) (fun _ _ _ _ _ => (pg_name (i := 4) sc_law.nd rfl (Or.inl rfl))) (fun _ _ _ _ _ v_law_k => x_callP (la := fun p => (lc (tIs p) (l1 tInt))) pPool.nox (ok__law_draw Z) (hr.mono (by decide)) Z.d__law_draw.g Z.d__law_draw.F.kp Z.d__law_draw.b takesN ErrC.no (a_cons (x_var 1) (a_one (x_ix ix_list sp_atL (x_frz frz_list (x_lst (a_cons x_int (a_cons x_int (a_one x_int))) (lr_cons (lr_cons lr_one)))) (x_callP (la := fun p => (lc (tIs p) (l1 tInt))) pPool.nox (ok__law_draw Z) (hr.mono (by decide)) Z.d__law_draw.g Z.d__law_draw.F.kp Z.d__law_draw.b takesN ErrC.no (a_cons (x_var 1) (a_one x_int))))))) fun v_law_numbers =>
    b_frz 10 frz_list rfl (b_set 11 (x_frz frz_list (x_callTyO call_list' sp_listL Z.n_list (by decide +kernel) (a_one (x_var 10)))) (fun v_law_given =>
    b_set 12 (x_call (ok_word_of Z) (hr.mono (by decide)) Z.d_word_of.g Z.d_word_of.F.kp Z.d_word_of.b bTakes pErr (a_one (x_var 11))) (fun v_law_word =>
    b_ifret0 (PW.pt (w_or (t_not (t_val (x_callB call_isi (sp_isi kt_list (by decide +kernel)) Z.n_isinstance (by decide +kernel) (a_cons (x_var 12) (a_one (x_ty (n := "list") Z.n_list)))))) (w_or (t_cmp (op_neD hr.units) (sp_dne (eq_list eq_int)) (x_var 11) (x_var 10)) (w_or1 (PW.pt (w_and (t_cmp op_gt sp_gt (x_callB call_len' sp_lenL Z.n_len (by decide +kernel) (a_one (x_var 12))) x_int) (w_and1 (t_cmp op_eq (sp_eq sc_int) (x_ix ix_list sp_atL (x_var 12) (x_un un_neg sp_neg x_int)) x_int)))))))) (b_ret x_bool) (
    b_seqR id emb_ret (s_forR (dsL := fun (s31 : Unit) => [.val (tSeq K tInt) a, .val (tIs p) (), .val tInt v_law_width, .val tInt s30, .any, .val tInt v_law_letter_here, .val (tList tInt) v_law_row, .val tInt v_law_track, .val tInt v_law_value, .val tInt v_law_wide, .val (tList tInt) v_law_numbers, .val (tList tInt) v_law_given, .val (tList tInt) v_law_word, .any, .any]) bPass rfl (i_range Z.n_range (a_one (x_callB (call_max2 rfl) sp_max2 Z.n_max (by decide +kernel) (a_cons (x_callB call_len' sp_lenL Z.n_len (by decide +kernel) (a_one (x_var 12))) (a_one x_int))))) (pg_name (i := 4) sc_law.nd rfl (Or.inr rfl)) (fun _ _ => (tg_name 4)) (.same (.same (.same (.same (.same (.same (.same (.same (.same (.same (.same (.same (.same (.same (.same .nil))))))))))))))) (fun _ _ s31 v_law_k =>
    b_set 13 (x_call (ok__law_letter Z) (hr.mono (by decide)) Z.d__law_letter.g Z.d__law_letter.F.kp Z.d__law_letter.b bTakes pErr.pin (a_one (x_frz frz_list (x_lc rfl sc_law.nd (i_list (x_var 10)) (own := [("_law_number", 14)]) (blkOk_by (N := ["_law_script", "_law_state", "_law_width", "_law_many", "_law_k", "_law_letter_here", "_law_row", "_law_track", "_law_value", "_law_wide", "_law_numbers", "_law_given", "_law_word", "_law_due", "_law_number"]) (sc := defScope (topS 12)) (by decide +kernel)) (tg_name 14) (fun _ h => h) (fun _ _ _ _ _ => (pg_name (i := 14) sc_law.nd rfl (Or.inl rfl))) (fun _ _ _ _ _ v_law_number => x_bin op_mod sp_mod (x_callTy call_int1 sp_intI Z.n_int (by decide +kernel) (a_one (x_bin op_fdivW sp_div (x_var 14) (x_bin op_shl sp_shl x_int (x_var 4))))) x_int))))) (fun v_law_due =>
    b_ifret Sum.inl emb_inl (PW.pt (w_and (t_cmp op_lt sp_lt (x_var 4) (x_callB call_len' sp_lenL Z.n_len (by decide +kernel) (a_one (x_var 12)))) (w_and1 (t_cmp op_ne (sp_ne sc_int) (x_ix ix_list sp_atL (x_var 12) (x_var 4)) (x_var 13))))) (b_ret x_bool) (
    b_one (s_if (PW.pt (w_and (t_cmp op_ge sp_ge (x_var 4) (x_callB call_len' sp_lenL Z.n_len (by decide +kernel) (a_one (x_var 12)))) (w_and1 (t_cmp op_ne (sp_ne sc_int) (x_var 13) x_int)))) (b_retR x_bool) (b_endR (.same (.same (.same (.same (.any (.same (.same (.same (.same (.same (.same (.same (.same (.any (.same .nil))))))))))))))))))) sc_law.nd)) fun s32 =>
    b_ret (x_cmp (op_eqD hr.units) (sp_deq (eq_vt eq_int)) (x_call (ok_numbers_of Z) (hr.mono (by decide)) Z.d_numbers_of.g Z.d_numbers_of.F.kp Z.d_numbers_of.b bTakes pErr (a_cons (x_frz frz_list (x_binO op_cat sp_cat (x_var 12) (x_frz frz_list (x_binO op_rep sp_rep (x_frz frz_list (x_lst (a_one x_int) lr_one)) (x_callP (la := fun p => (lc (tIs p) (l1 tInt))) pPool (ok__law_draw Z) (hr.mono (by decide)) Z.d__law_draw.g Z.d__law_draw.F.kp Z.d__law_draw.b bTakes pErr (a_cons (x_var 1) (a_one x_int))))))) (a_one (x_var 2)))) (x_callTy call_tuple' sp_tupL Z.n_tuple (by decide +kernel) (a_one (x_var 10)))))) sc_law.nd) sc_law.nd))) sc_law.nd) sc_law.nd) sc_law.nd))) sc_law.nd) sc_law.nd) sc_law.nd) sc_law.nd) sc_law.nd
end
def spLaw (K : PySem.W.Frag) : Sp := SpF (fun _ => 0) (l1 (tSeq K tInt)) tBool m_law
theorem all_mk {l : PySem.W.OpenLaw} {w : World} {K : PySem.W.Frag} {h : Heap} {mg : Str → Option Value} {fa : Addr} (X : K.In h) (G : h.Ns mainGlobals mg) (hfa : mg "law" = some (.ref fa))
    {f0 : Addr} {od0 an0 : Option Addr} {sl0 : Array (Option Value)} {oc0 kV0 dc0 pm0 cd0 ct0 : Value}
    (a0 : PySem.W.nsIn K mainGlobals "letters" = some (some (.ref f0))) (l0 : K.lookup f0 = some ⟨oc0, od0, .func (PySem.W.fnOf "letters" "letters" (defArgs (topS 1)) (defBody (topS 1)) (defScope (topS 1)) .none kV0 dc0 pm0 an0 cd0 ct0), sl0⟩) (c0 : PySem.W.codeIn K cd0 "letters" = true) (k0 : PySem.W.keepIn K (.ref f0) = true)
    {f1 : Addr} {od1 an1 : Option Addr} {sl1 : Array (Option Value)} {oc1 kV1 dc1 pm1 cd1 ct1 : Value}
    (a1 : PySem.W.nsIn K mainGlobals "digit" = some (some (.ref f1))) (l1 : K.lookup f1 = some ⟨oc1, od1, .func (PySem.W.fnOf "digit" "digit" (defArgs (topS 2)) (defBody (topS 2)) (defScope (topS 2)) .none kV1 dc1 pm1 an1 cd1 ct1), sl1⟩) (c1 : PySem.W.codeIn K cd1 "digit" = true) (k1 : PySem.W.keepIn K (.ref f1) = true)
    {f2 : Addr} {od2 an2 : Option Addr} {sl2 : Array (Option Value)} {oc2 kV2 dc2 pm2 cd2 ct2 : Value}
    (a2 : PySem.W.nsIn K mainGlobals "letter_of" = some (some (.ref f2))) (l2 : K.lookup f2 = some ⟨oc2, od2, .func (PySem.W.fnOf "letter_of" "letter_of" (defArgs (topS 3)) (defBody (topS 3)) (defScope (topS 3)) .none kV2 dc2 pm2 an2 cd2 ct2), sl2⟩) (c2 : PySem.W.codeIn K cd2 "letter_of" = true) (k2 : PySem.W.keepIn K (.ref f2) = true)
    {f3 : Addr} {od3 an3 : Option Addr} {sl3 : Array (Option Value)} {oc3 kV3 dc3 pm3 cd3 ct3 : Value}
    (a3 : PySem.W.nsIn K mainGlobals "word_of" = some (some (.ref f3))) (l3 : K.lookup f3 = some ⟨oc3, od3, .func (PySem.W.fnOf "word_of" "word_of" (defArgs (topS 4)) (defBody (topS 4)) (defScope (topS 4)) .none kV3 dc3 pm3 an3 cd3 ct3), sl3⟩) (c3 : PySem.W.codeIn K cd3 "word_of" = true) (k3 : PySem.W.keepIn K (.ref f3) = true)
    {f4 : Addr} {od4 an4 : Option Addr} {sl4 : Array (Option Value)} {oc4 kV4 dc4 pm4 cd4 ct4 : Value}
    (a4 : PySem.W.nsIn K mainGlobals "numbers_of" = some (some (.ref f4))) (l4 : K.lookup f4 = some ⟨oc4, od4, .func (PySem.W.fnOf "numbers_of" "numbers_of" (defArgs (topS 5)) (defBody (topS 5)) (defScope (topS 5)) .none kV4 dc4 pm4 an4 cd4 ct4), sl4⟩) (c4 : PySem.W.codeIn K cd4 "numbers_of" = true) (k4 : PySem.W.keepIn K (.ref f4) = true)
    {f5 : Addr} {od5 an5 : Option Addr} {sl5 : Array (Option Value)} {oc5 kV5 dc5 pm5 cd5 ct5 : Value}
    (a5 : PySem.W.nsIn K mainGlobals "with_track" = some (some (.ref f5))) (l5 : K.lookup f5 = some ⟨oc5, od5, .func (PySem.W.fnOf "with_track" "with_track" (defArgs (topS 6)) (defBody (topS 6)) (defScope (topS 6)) .none kV5 dc5 pm5 an5 cd5 ct5), sl5⟩) (c5 : PySem.W.codeIn K cd5 "with_track" = true) (k5 : PySem.W.keepIn K (.ref f5) = true)
    {f6 : Addr} {od6 an6 : Option Addr} {sl6 : Array (Option Value)} {oc6 kV6 dc6 pm6 cd6 ct6 : Value}
    (a6 : PySem.W.nsIn K mainGlobals "without_track" = some (some (.ref f6))) (l6 : K.lookup f6 = some ⟨oc6, od6, .func (PySem.W.fnOf "without_track" "without_track" (defArgs (topS 7)) (defBody (topS 7)) (defScope (topS 7)) .none kV6 dc6 pm6 an6 cd6 ct6), sl6⟩) (c6 : PySem.W.codeIn K cd6 "without_track" = true) (k6 : PySem.W.keepIn K (.ref f6) = true)
    {f7 : Addr} {od7 an7 : Option Addr} {sl7 : Array (Option Value)} {oc7 kV7 dc7 pm7 cd7 ct7 : Value}
    (a7 : PySem.W.nsIn K mainGlobals "_law_draw" = some (some (.ref f7))) (l7 : K.lookup f7 = some ⟨oc7, od7, .func (PySem.W.fnOf "_law_draw" "_law_draw" (defArgs (topS 9)) (defBody (topS 9)) (defScope (topS 9)) .none kV7 dc7 pm7 an7 cd7 ct7), sl7⟩) (c7 : PySem.W.codeIn K cd7 "_law_draw" = true) (k7 : PySem.W.keepIn K (.ref f7) = true)
    {f8 : Addr} {od8 an8 : Option Addr} {sl8 : Array (Option Value)} {oc8 kV8 dc8 pm8 cd8 ct8 : Value}
    (a8 : PySem.W.nsIn K mainGlobals "_law_digits" = some (some (.ref f8))) (l8 : K.lookup f8 = some ⟨oc8, od8, .func (PySem.W.fnOf "_law_digits" "_law_digits" (defArgs (topS 10)) (defBody (topS 10)) (defScope (topS 10)) .none kV8 dc8 pm8 an8 cd8 ct8), sl8⟩) (c8 : PySem.W.codeIn K cd8 "_law_digits" = true) (k8 : PySem.W.keepIn K (.ref f8) = true)
    {f9 : Addr} {od9 an9 : Option Addr} {sl9 : Array (Option Value)} {oc9 kV9 dc9 pm9 cd9 ct9 : Value}
    (a9 : PySem.W.nsIn K mainGlobals "_law_letter" = some (some (.ref f9))) (l9 : K.lookup f9 = some ⟨oc9, od9, .func (PySem.W.fnOf "_law_letter" "_law_letter" (defArgs (topS 11)) (defBody (topS 11)) (defScope (topS 11)) .none kV9 dc9 pm9 an9 cd9 ct9), sl9⟩) (c9 : PySem.W.codeIn K cd9 "_law_letter" = true) (k9 : PySem.W.keepIn K (.ref f9) = true)
    {f10 : Addr} {od10 an10 : Option Addr} {sl10 : Array (Option Value)} {oc10 kV10 dc10 pm10 cd10 ct10 : Value}
    (a10 : PySem.W.nsIn K mainGlobals "law" = some (some (.ref f10))) (l10 : K.lookup f10 = some ⟨oc10, od10, .func (PySem.W.fnOf "law" "law" (defArgs (topS 12)) (defBody (topS 12)) (defScope (topS 12)) .none kV10 dc10 pm10 an10 cd10 ct10), sl10⟩) (c10 : PySem.W.codeIn K cd10 "law" = true) (k10 : PySem.W.keepIn K (.ref f10) = true)
    (z_abs : PySem.W.nsIn K mainGlobals "abs" = some none)
    (z_any : PySem.W.nsIn K mainGlobals "any" = some none)
    (z_int : PySem.W.nsIn K mainGlobals "int" = some none)
    (z_isinstance : PySem.W.nsIn K mainGlobals "isinstance" = some none)
    (z_len : PySem.W.nsIn K mainGlobals "len" = some none)
    (z_list : PySem.W.nsIn K mainGlobals "list" = some none)
    (z_max : PySem.W.nsIn K mainGlobals "max" = some none)
    (z_range : PySem.W.nsIn K mainGlobals "range" = some none)
    (z_tuple : PySem.W.nsIn K mainGlobals "tuple" = some none) :
    ∃ fd : FuncData, (∀ (s : Shared) (v : Value), BindsTo s fd ⟨[v], []⟩ [("_law_script", v)]) ∧ ∀ base : Heap, K.In base → base.Ns mainGlobals mg → FnOk l.prog w K mg base (L2.CX l.prog w) 3 fa fd ["_law_script"] (spLaw K) := by
  have e : fa = f10 := by
    have z := hfa.symm.trans (PySem.W.mg_of X G a10)
    cases z
    rfl
  rw [e]
  let Z : Top K mg := {
    cls := fun _ => 0
    d_letters := ⟨f0, _, fun_mk (st := topS 1) l0 c0 k0, PySem.W.mg_of X G a0, (fun_mk (st := topS 1) l0 c0 k0).binds (ps := ["width"]) fun _ _ _ _ _ _ us hl => match us, hl with | [_], _ => rfl⟩
    d_digit := ⟨f1, _, fun_mk (st := topS 2) l1 c1 k1, PySem.W.mg_of X G a1, (fun_mk (st := topS 2) l1 c1 k1).binds (ps := ["letter", "track"]) fun _ _ _ _ _ _ us hl => match us, hl with | [_, _], _ => rfl⟩
    d_letter_of := ⟨f2, _, fun_mk (st := topS 3) l2 c2 k2, PySem.W.mg_of X G a2, (fun_mk (st := topS 3) l2 c2 k2).binds (ps := ["digits"]) fun _ _ _ _ _ _ us hl => match us, hl with | [_], _ => rfl⟩
    d_word_of := ⟨f3, _, fun_mk (st := topS 4) l3 c3 k3, PySem.W.mg_of X G a3, (fun_mk (st := topS 4) l3 c3 k3).binds (ps := ["numbers"]) fun _ _ _ _ _ _ us hl => match us, hl with | [_], _ => rfl⟩
    d_numbers_of := ⟨f4, _, fun_mk (st := topS 5) l4 c4 k4, PySem.W.mg_of X G a4, (fun_mk (st := topS 5) l4 c4 k4).binds (ps := ["word", "width"]) fun _ _ _ _ _ _ us hl => match us, hl with | [_, _], _ => rfl⟩
    d_with_track := ⟨f5, _, fun_mk (st := topS 6) l5 c5 k5, PySem.W.mg_of X G a5, (fun_mk (st := topS 6) l5 c5 k5).binds (ps := ["letter", "track", "value"]) fun _ _ _ _ _ _ us hl => match us, hl with | [_, _, _], _ => rfl⟩
    d_without_track := ⟨f6, _, fun_mk (st := topS 7) l6 c6 k6, PySem.W.mg_of X G a6, (fun_mk (st := topS 7) l6 c6 k6).binds (ps := ["letter", "track"]) fun _ _ _ _ _ _ us hl => match us, hl with | [_, _], _ => rfl⟩
    d__law_draw := ⟨f7, _, fun_mk (st := topS 9) l7 c7 k7, PySem.W.mg_of X G a7, (fun_mk (st := topS 9) l7 c7 k7).binds (ps := ["_law_state", "_law_many"]) fun _ _ _ _ _ _ us hl => match us, hl with | [_, _], _ => rfl⟩
    d__law_digits := ⟨f8, _, fun_mk (st := topS 10) l8 c8 k8, PySem.W.mg_of X G a8, (fun_mk (st := topS 10) l8 c8 k8).binds (ps := ["_law_letter_here", "_law_width"]) fun _ _ _ _ _ _ us hl => match us, hl with | [_, _], _ => rfl⟩
    d__law_letter := ⟨f9, _, fun_mk (st := topS 11) l9 c9 k9, PySem.W.mg_of X G a9, (fun_mk (st := topS 11) l9 c9 k9).binds (ps := ["_law_row"]) fun _ _ _ _ _ _ us hl => match us, hl with | [_], _ => rfl⟩
    d_law := ⟨f10, _, fun_mk (st := topS 12) l10 c10 k10, PySem.W.mg_of X G a10, (fun_mk (st := topS 12) l10 c10 k10).binds (ps := ["_law_script"]) fun _ _ _ _ _ _ us hl => match us, hl with | [_], _ => rfl⟩
    n_abs := PySem.W.mg_none_of X G z_abs
    n_any := PySem.W.mg_none_of X G z_any
    n_int := PySem.W.mg_none_of X G z_int
    n_isinstance := PySem.W.mg_none_of X G z_isinstance
    n_len := PySem.W.mg_none_of X G z_len
    n_list := PySem.W.mg_none_of X G z_list
    n_max := PySem.W.mg_none_of X G z_max
    n_range := PySem.W.mg_none_of X G z_range
    n_tuple := PySem.W.mg_none_of X G z_tuple }
  exact ⟨_, fun s v => .of_eq rfl, fun base _ _ => ok_law Z⟩
end Wk
open PySem PySem.W PyProof.Rows
set_option maxHeartbeats 0 in
theorem PySem.Challenge.cw_digitwise_k10_letters_and_words_holds : PySem.Challenge.rw_digitwise_k10_letters_and_words.Holds := by
  w_on; o_law; k_head; (case hw => w_witness2)
  k_fill
  refine L2.walk_of (l := PySem.Challenge.rw_digitwise_k10_letters_and_words) (n := 63) (k := 3) (x := "_law_script") (CX := fun w => L2.CX (PySem.Challenge.rw_digitwise_k10_letters_and_words).prog w) (sp := fun w => Wk.spLaw _) rfl (by decide) rfl ⟨rfl, by decide, by decide⟩ (fun w h Y => PySem.W.kIn_of Y) ?F
    (fun _ H a ns hl _ hS => ⟨ns, H, ⟨_, rfl, a, _, rfl, hS, WL.Reps.ofInts ns⟩, WL.Sub.refl H, by rw [Law.law_true ns hl]; exact fun v _ _ _ r => r⟩) (fun _ _ _ _ _ h => WL.noCX h)
  case F =>
    intro w mg fa h KX G hmg
    refine' Wk.all_mk KX G hmg ?a0 ?l0 ?c0 ?k0 ?a1 ?l1 ?c1 ?k1 ?a2 ?l2 ?c2 ?k2 ?a3 ?l3 ?c3 ?k3 ?a4 ?l4 ?c4 ?k4 ?a5 ?l5 ?c5 ?k5 ?a6 ?l6 ?c6 ?k6 ?a7 ?l7 ?c7 ?k7 ?a8 ?l8 ?c8 ?k8 ?a9 ?l9 ?c9 ?k9 ?a10 ?l10 ?c10 ?k10 ?z_abs ?z_any ?z_int ?z_isinstance ?z_len ?z_list ?z_max ?z_range ?z_tuple
    (case a0 => k_is); (case l0 => k_is); (case c0 => k_is); (case k0 => k_is); (case a1 => k_is); (case l1 => k_is); (case c1 => k_is); (case k1 => k_is); (case a2 => k_is); (case l2 => k_is); (case c2 => k_is); (case k2 => k_is); (case a3 => k_is); (case l3 => k_is); (case c3 => k_is); (case k3 => k_is); (case a4 => k_is); (case l4 => k_is); (case c4 => k_is); (case k4 => k_is); (case a5 => k_is); (case l5 => k_is); (case c5 => k_is); (case k5 => k_is); (case a6 => k_is); (case l6 => k_is); (case c6 => k_is); (case k6 => k_is); (case a7 => k_is); (case l7 => k_is); (case c7 => k_is); (case k7 => k_is); (case a8 => k_is); (case l8 => k_is); (case c8 => k_is); (case k8 => k_is); (case a9 => k_is); (case l9 => k_is); (case c9 => k_is); (case k9 => k_is); (case a10 => k_is); (case l10 => k_is); (case c10 => k_is); (case k10 => k_is); (case z_abs => k_is); (case z_any => k_is); (case z_int => k_is); (case z_isinstance => k_is); (case z_len => k_is); (case z_list => k_is); (case z_max => k_is); (case z_range => k_is); (case z_tuple => k_is)
