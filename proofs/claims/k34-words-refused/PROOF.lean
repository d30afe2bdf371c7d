import PyProof.Rows.All
import Wide.All
import OpenK.AllK
import Wide.FinOn
import HandS.ForMost
import HandS.Exc
import HandS.ExcOwn
import HandS.Wide
import HandS.IsInst
import HandS.Style
import HandS.Property
import HandS.Flow
import HandS.Iter
import HandS.List
import HandS.Words
import HandS.Dict
import KE.KDictCopyH
import HandS.DictTup
import KE.KDictDisplayH
import HandS.ExcInit
import HandS.ExcField
import HandS.RaiseMore
import KE.KExcSuper
import HandS.TryMany
import HandS.WideBits
import HandS.Sort
import HandS.Conv
import HandS.Deep
import HandS.Strs
import HandS.SetBool
import HandS.TupAny
import HandS.More
import PyProof.TupleOfSeq
import HandS.TupMul
import HandS.Zip
import HandS.Text
import HandS.StrMore
import KE.KIsAll
import KE.RegKIsAll
import KE.KExcIs
import HandS.SetTxt0
import HandS.DictComp
import HandS.Defaults
import PySem.Challenge.RW_digitwise_k34_words_refused
set_option Elab.async false
set_option linter.all false
set_option maxRecDepth 100000
set_option maxHeartbeats 2000000
/-! WLA: results, worlds, descriptions, the readings. -/
namespace WL
open PySem PySem.Spec PyProof.Rows L2

/-! ### results with a state -/
structure Exn where
  k : Nat
  a : V
inductive RS (T A : Type) where
  | ok (a : A) (s : T) | err (e : Exn) (s : T) | stuck
def MM (T A : Type) : Type := T → RS T A
section
variable {T A B C G : Type}
def ret (a : A) : MM T A := fun s => .ok a s
def bnd (x : MM T A) (f : A → MM T B) : MM T B := fun s => match x s with
  | .ok a s1 => f a s1
  | .err e s1 => .err e s1
  | .stuck => .stuck
def lft (o : Option A) : MM T A := fun s => match o with
  | some a => .ok a s
  | none => .stuck
def thw (e : Exn) : MM T A := fun s => .err e s
def stk : MM T A := fun _ => .stuck
/-- a computation without state, within one with state -/
def up (x : MM Unit A) : MM T A := fun s => match x () with
  | .ok a _ => .ok a s
  | .err e _ => .err e s
  | .stuck => .stuck
/-- no error may come -/
def noE (x : MM T A) : MM T A := fun s => match x s with
  | .ok a s1 => .ok a s1
  | .err _ _ => .stuck
  | .stuck => .stuck
instance : Monad (MM T) where
  pure := ret
  bind := bnd
def Post (r : RS T A) (P : A → T → Prop) (E : Exn → T → Prop) : Prop := match r with
  | .ok a s => P a s
  | .err e s => E e s
  | .stuck => False
theorem Post.bnd {x : MM T A} {f : A → MM T B} {s : T} {P : B → T → Prop} {E : Exn → T → Prop} : Post (bnd x f s) P E ↔ Post (x s) (fun a s1 => Post (f a s1) P E) E := by
  unfold WL.bnd
  cases x s <;> rfl
theorem Post.mono {r : RS T A} {P P' : A → T → Prop} {E E' : Exn → T → Prop} (h : Post r P E) (hp : ∀ a s, P a s → P' a s) (he : ∀ e s, E e s → E' e s) : Post r P' E' := by
  cases r with
  | ok a s => exact hp a s h
  | err e s => exact he e s h
  | stuck => exact h
theorem Post.imp {r : RS T A} {P P' : A → T → Prop} {E : Exn → T → Prop} (h : Post r P E) (hp : ∀ a s, P a s → P' a s) : Post r P' E := h.mono hp fun _ _ q => q
theorem Post.up {x : MM Unit A} {s : T} {P : A → T → Prop} {E : Exn → T → Prop} : Post (up x s) P E ↔ Post (x ()) (fun a _ => P a s) (fun e _ => E e s) := by
  unfold WL.up
  cases x () <;> rfl
theorem Post.noE {x : MM T A} {s : T} {P : A → T → Prop} {E : Exn → T → Prop} : Post (noE x s) P E ↔ Post (x s) P (fun _ _ => False) := by
  unfold WL.noE
  cases x s <;> rfl
theorem Post.lft {o : Option A} {s : T} {P : A → T → Prop} {E : Exn → T → Prop} : Post (lft o s) P E ↔ ∃ a, o = some a ∧ P a s := by
  unfold WL.lft
  cases o with
  | none => exact ⟨fun h => h.elim, fun ⟨_, h, _⟩ => nomatch h⟩
  | some a => exact ⟨fun h => ⟨a, rfl, h⟩, fun ⟨b, h, q⟩ => by cases h; exact q⟩
end

/-! ### heaps -/
def Sub (m n : Hp) : Prop := ∀ a o, m a = some o → n a = some o
theorem Sub.refl (m : Hp) : Sub m m := fun _ _ h => h
theorem Sub.trans {a b c : Hp} (h : Sub a b) (k : Sub b c) : Sub a c := fun x o e => k x o (h x o e)
theorem Sub.free {m n : Hp} (h : Sub m n) {a : Addr} (e : n a = none) : m a = none := by
  cases q : m a with
  | none => rfl
  | some o => rw [h a o q] at e; cases e
theorem Sub.new {m H : Hp} (h : Sub m H) {p : Addr} {o : HO} (e : H p = none) : Sub m (upd H p o) := fun a u q => by
  rw [upd_ne (ne_of_none (h a u q) e)]; exact h a u q
theorem Sub.wr {m H : Hp} (h : Sub m H) {p : Addr} {o : HO} (e : m p = none) : Sub m (upd H p o) := fun a u q => by
  rw [upd_ne (ne_of_none q e)]; exact h a u q
theorem Sub.both {m H : Hp} (h : Sub m H) {p : Addr} {o : HO} : Sub (upd m p o) (upd H p o) := fun a u q => by
  by_cases e : a = p
  · subst e; rw [upd_same] at q ⊢; exact q
  · rw [upd_ne e] at q ⊢; exact h a u q
theorem Sub.rd {m n : Hp} (h : Sub m n) {a : Addr} {u : HO} (r : Rd m a u) : Rd n a u := by
  rcases r with r | ⟨o, r⟩
  · exact .inl (h _ _ r)
  · exact .inr ⟨o, h _ _ r⟩
theorem Sub.sqL {K : PySem.W.Frag} {m n : Hp} (h : Sub m n) {a : Addr} {xs : List V} (r : SqL K m a xs) : SqL K n a xs := by
  rcases r with r | r
  · exact .inl (h.rd r)
  · exact .inr r
theorem Sub.sqT {K : PySem.W.Frag} {m n : Hp} (h : Sub m n) {a : Addr} {xs : List V} (r : SqT K m a xs) : SqT K n a xs := by
  rcases r with r | r
  · exact .inl (h.rd r)
  · exact .inr r

/-- from the world (m, H) to (m', H'), where the objects at S may have been written -/
structure WStep (S : List Addr) (m H m' H' : Hp) : Prop where
  mm : Sub m m'
  mh : Sub m' H'
  hh : ∀ a o, a ∉ S → H a = some o → H' a = some o
  ow : ∀ a, m a = none → H a ≠ none → m' a = none
  dm : ∀ a, H a ≠ none → H' a ≠ none
section
variable {S S' : List Addr} {m H m1 H1 m2 H2 m' H' : Hp} {p : Addr} {o : HO}
theorem WStep.refl (h : Sub m H) : WStep S m H m H := ⟨.refl m, h, fun _ _ _ q => q, fun _ q _ => q, fun _ q => q⟩
theorem WStep.trans (a : WStep S m H m1 H1) (b : WStep S m1 H1 m2 H2) : WStep S m H m2 H2 :=
  ⟨a.mm.trans b.mm, b.mh, fun x o hx e => b.hh x o hx (a.hh x o hx e), fun x e n => b.ow x (a.ow x e n) (a.dm x n), fun x n => b.dm x (a.dm x n)⟩
theorem WStep.comp (a : WStep S m H m1 H1) (b : WStep S' m1 H1 m2 H2) (h : ∀ p ∈ S', p ∈ S ∨ H p = none) : WStep S m H m2 H2 :=
  ⟨a.mm.trans b.mm, b.mh, fun x o hx e => b.hh x o (fun z => by
      rcases h x z with q | q
      · exact hx q
      · rw [q] at e; cases e) (a.hh x o hx e), fun x e n => b.ow x (a.ow x e n) (a.dm x n), fun x n => b.dm x (a.dm x n)⟩
theorem WStep.wide (a : WStep [] m H m1 H1) : WStep S m H m1 H1 := ⟨a.mm, a.mh, fun x o _ e => a.hh x o (by simp) e, a.ow, a.dm⟩
theorem WStep.sub (a : WStep [] m H m1 H1) : Sub H H1 := fun x o e => a.hh x o (by simp) e
/-- a new object that never changes -/
theorem WStep.new (h : Sub m H) (e : H p = none) : WStep S m H (upd m p o) (upd H p o) :=
  ⟨Sub.new (.refl m) (h.free e), h.both, fun a u _ q => by rw [upd_ne (ne_of_none q e)]; exact q, fun a q n => by
      rw [upd_ne (fun z => by subst z; exact n e)]; exact q, fun a n => by
      rw [upd_ne (fun z => by subst z; exact n e)]; exact n⟩
/-- a new object that will change -/
theorem WStep.own (h : Sub m H) (e : H p = none) : WStep S m H m (upd H p o) :=
  ⟨.refl m, h.new e, fun a u _ q => by rw [upd_ne (ne_of_none q e)]; exact q, fun a q n => q, fun a n => by
      rw [upd_ne (fun z => by subst z; exact n e)]; exact n⟩
/-- an owned object is written -/
theorem WStep.put (h : Sub m H) (e : m p = none) (hp : p ∈ S) : WStep S m H m (upd H p o) :=
  ⟨.refl m, h.wr e, fun a u hn q => by rw [upd_ne (fun z => by subst z; exact hn hp)]; exact q, fun a q n => q, fun a n => by
      by_cases z : a = p
      · subst z; rw [upd_same]; exact fun q => nomatch q
      · rw [upd_ne z]; exact n⟩
/-- owned objects are handed to the facts that stay -/
theorem WStep.same {fp : List Addr} (h : Sub m H) (mm : Sub m m') (mh : Sub m' H) (hf : ∀ a, a ∉ fp → m' a = m a) : ∀ a, m a = none → a ∉ fp → m' a = none := fun a e n => by rw [hf a n]; exact e
end

/-! ### what a value stands for -/
/-- a fact that stays: it leans on objects that never change -/
structure Ty (A : Type) where
  rep : A → V → Hp → Prop
  mono : ∀ {a : A} {v : V} {m n : Hp}, Sub m n → rep a v m → rep a v n
/-- an object that is owned: v's content, the objects fp that it is made of -/
structure OTy (A : Type) where
  rep : A → V → List Addr → Hp → Hp → Prop
  frame : ∀ {a : A} {v : V} {fp : List Addr} {h m h' m' : Hp}, (∀ p ∈ fp, h' p = h p) → Sub m m' → rep a v fp h m → rep a v fp h' m'
  dom : ∀ {a : A} {v : V} {fp : List Addr} {h m : Hp}, rep a v fp h m → ∀ p ∈ fp, h p ≠ none
/-- a list of arguments -/
structure LTy (A : Type) where
  rep : A → List V → Hp → Prop
  mono : ∀ {a : A} {v : List V} {m n : Hp}, Sub m n → rep a v m → rep a v n
inductive Desc where
  | any
  | val {A : Type} (t : Ty A) (a : A)
  | own {A : Type} (o : OTy A) (a : A)
def SlotOk (m h : Hp) (s : Option V) (fp : List Addr) : Desc → Prop
  | .any => fp = []
  | .val t a => fp = [] ∧ ∃ v, s = some v ∧ t.rep a v m
  | .own o a => ∃ v, s = some v ∧ o.rep a v fp h m ∧ ∀ p ∈ fp, m p = none
inductive Slots (m h : Hp) : L2.St → List (List Addr) → List Desc → Prop where
  | nil : Slots m h [] [] []
  | cons {s : Option V} {fp : List Addr} {d : Desc} {σ : L2.St} {fps : List (List Addr)} {ds : List Desc} : SlotOk m h s fp d → Slots m h σ fps ds → Slots m h (s :: σ) (fp :: fps) (d :: ds)
def Disj (fps : List (List Addr)) : Prop := fps.Pairwise fun a b => ∀ p ∈ a, p ∉ b
section
variable {m h m' h' : Hp} {s : Option V} {fp : List Addr} {d : Desc} {σ : L2.St} {fps : List (List Addr)} {ds : List Desc}
theorem SlotOk.go (x : SlotOk m h s fp d) (hk : ∀ p ∈ fp, h' p = h p) (hm : Sub m m') (ow : ∀ p ∈ fp, m p = none → m' p = none) : SlotOk m' h' s fp d := by
  cases d with
  | any => exact x
  | val t a => obtain ⟨e, v, e1, r⟩ := x; exact ⟨e, v, e1, t.mono hm r⟩
  | own o a => obtain ⟨v, e1, r, n⟩ := x; exact ⟨v, e1, o.frame hk hm r, fun p hp => ow p hp (n p hp)⟩
theorem SlotOk.dom (x : SlotOk m h s fp d) : ∀ p ∈ fp, h p ≠ none ∧ m p = none := by
  cases d with
  | any => cases x; intro p hp; exact absurd hp (by simp)
  | val t a => obtain ⟨e, _⟩ := x; subst e; intro p hp; exact absurd hp (by simp)
  | own o a => obtain ⟨v, e1, r, n⟩ := x; exact fun p hp => ⟨o.dom r p hp, n p hp⟩
theorem Slots.go (x : Slots m h σ fps ds) (hk : ∀ fp ∈ fps, ∀ p ∈ fp, h' p = h p) (hm : Sub m m') (ow : ∀ fp ∈ fps, ∀ p ∈ fp, m p = none → m' p = none) : Slots m' h' σ fps ds := by
  induction x with
  | nil => exact .nil
  | cons a _ ih => exact .cons (a.go (hk _ List.mem_cons_self) hm (ow _ List.mem_cons_self)) (ih (fun fp hf => hk fp (List.mem_cons_of_mem _ hf)) fun fp hf => ow fp (List.mem_cons_of_mem _ hf))
theorem Slots.dom (x : Slots m h σ fps ds) : ∀ fp ∈ fps, ∀ p ∈ fp, h p ≠ none ∧ m p = none := by
  induction x with
  | nil => intro fp hf; exact absurd hf (by simp)
  | cons a _ ih =>
    intro fp hf
    rcases List.mem_cons.mp hf with rfl | hf
    · exact a.dom
    · exact ih fp hf
theorem Slots.get (x : Slots m h σ fps ds) : ∀ {i : Nat} {d : Desc}, ds[i]? = some d → ∃ s fp, σ[i]? = some s ∧ fps[i]? = some fp ∧ SlotOk m h s fp d := by
  induction x with
  | nil => intro i d e; simp at e
  | cons a _ ih =>
    intro i d e
    cases i with
    | zero => simp at e; subst e; exact ⟨_, _, rfl, rfl, a⟩
    | succ i =>
      obtain ⟨s, fp, e1, e2, r⟩ := ih (i := i) (d := d) (by simpa using e)
      exact ⟨s, fp, by simpa using e1, by simpa using e2, r⟩
theorem Slots.set (x : Slots m h σ fps ds) : ∀ {i : Nat} {s : Option V} {fp : List Addr} {d : Desc}, SlotOk m h s fp d → Slots m h (σ.set i s) (fps.set i fp) (ds.set i d) := by
  induction x with
  | nil => intro i s fp d _; exact .nil
  | cons a t ih =>
    intro i s fp d y
    cases i with
    | zero => exact .cons y t
    | succ i => exact .cons a (ih (i := i) y)
/-- a slot's description by another one, the slot as it is -/
theorem Slots.desc (x : Slots m h σ fps ds) : ∀ {i : Nat} {fp : List Addr} {d : Desc}, (∀ s fp', σ[i]? = some s → fps[i]? = some fp' → SlotOk m h s fp d) → Slots m h σ (fps.set i fp) (ds.set i d) := by
  induction x with
  | nil => intro i fp d _; exact .nil
  | cons a t ih =>
    intro i fp d y
    cases i with
    | zero => exact .cons (y _ _ rfl rfl) t
    | succ i => exact .cons a (ih (i := i) fun s fp' e1 e2 => y s fp' (by simpa using e1) (by simpa using e2))
theorem Disj.set {fps : List (List Addr)} : ∀ {i : Nat} {fp : List Addr}, Disj fps → (∀ gp ∈ fps, (∀ p ∈ gp, p ∉ fp) ∨ fps[i]? = some gp ∧ ∀ p ∈ fp, p ∈ gp) → Disj (fps.set i fp) := by
  intro i fp hd hn
  unfold Disj at hd ⊢
  rw [List.pairwise_iff_getElem] at hd ⊢
  intro a b ha hb hab p hp hq
  rw [List.getElem_set] at hp hq
  simp only [List.length_set] at ha hb
  by_cases h1 : i = a
  · have h2 : ¬ i = b := by omega
    rw [if_pos h1] at hp
    rw [if_neg h2] at hq
    rcases hn _ (List.getElem_mem hb) with z | ⟨z, z2⟩
    · exact z p hq hp
    · have hi : i < fps.length := by omega
      rw [List.getElem?_eq_getElem hi] at z
      have z' := Option.some.inj z
      have hp' := z2 p hp
      rw [← z'] at hp'
      exact hd i b hi hb (by omega) p hp' hq
  · rw [if_neg h1] at hp
    by_cases h2 : i = b
    · rw [if_pos h2] at hq
      rcases hn _ (List.getElem_mem ha) with z | ⟨z, z2⟩
      · exact z p hp hq
      · have hi : i < fps.length := by omega
        rw [List.getElem?_eq_getElem hi] at z
        have z' := Option.some.inj z
        have hp' := z2 p hq
        rw [← z'] at hp'
        exact hd a i ha hi (by omega) p hp hp'
    · rw [if_neg h2] at hq
      exact hd a b ha hb hab p hp hq
end

/-! ### the setting of a def's body -/
structure Ctx (T : Type) where
  K : PySem.W.Frag
  cls : Nat → Addr
  S : List Addr
  m0 : Hp
  H0 : Hp
  afp : List Addr
  amb : T → Hp → Hp → Prop
  ambF : ∀ {st : T} {h m h' m' : Hp}, (∀ p ∈ afp, h' p = h p) → Sub m m' → amb st h m → amb st h' m'
  ambD : ∀ {st : T} {h m : Hp}, amb st h m → ∀ p ∈ afp, h p ≠ none
  afr : ∀ p ∈ afp, p ∈ S ∨ H0 p = none
  pin : Hp → Prop
  pinM : ∀ {m n : Hp}, Sub m n → pin m → pin n
  err : Exn → T → Prop
/-- a further fact that stays -/
def Ctx.pinned {T : Type} (c : Ctx T) (q : Hp → Prop) (hq : ∀ {m n : Hp}, Sub m n → q m → q n) : Ctx T := { c with pin := fun m => c.pin m ∧ q m, pinM := fun h x => ⟨c.pinM h x.1, hq h x.2⟩ }
/-- no error is let out -/
def Ctx.nox {T : Type} (c : Ctx T) : Ctx T := { c with err := fun _ _ => False }
structure EnvOk {T : Type} (c : Ctx T) (σ : L2.St) (m h : Hp) (ds : List Desc) (st : T) : Prop where
  step : WStep c.S c.m0 c.H0 m h
  slots : ∃ fps, Slots m h σ fps ds ∧ Disj fps ∧ ∀ fp ∈ fps, ∀ p ∈ fp, p ∉ c.afp ∧ c.H0 p = none
  amb : c.amb st h m
  own : ∀ p ∈ c.afp, m p = none
  pin : c.pin m
section
variable {T : Type} {c : Ctx T} {σ : L2.St} {m h m' h' : Hp} {ds : List Desc} {st st' : T}
theorem EnvOk.go (x : EnvOk c σ m h ds st) (w : WStep c.afp m h m' h') (am : c.amb st' h' m') : EnvOk c σ m' h' ds st' := by
  obtain ⟨fps, sl, dj, fr⟩ := x.slots
  have dm := sl.dom
  refine ⟨x.step.comp w c.afr, ⟨fps, sl.go (fun fp hf p hp => ?_) w.mm (fun fp hf p hp e => w.ow p e (dm fp hf p hp).1), dj, fr⟩, am, fun p hp => w.ow p (x.own p hp) (c.ambD x.amb p hp), c.pinM w.mm x.pin⟩
  cases q : h p with
  | none => exact absurd q (dm fp hf p hp).1
  | some o => exact w.hh p o (fr fp hf p hp).1 q
theorem EnvOk.grow (x : EnvOk c σ m h ds st) (w : WStep [] m h m' h') : EnvOk c σ m' h' ds st := by
  refine x.go w.wide (c.ambF (fun p hp => ?_) w.mm x.amb)
  cases q : h p with
  | none => exact absurd q (c.ambD x.amb p hp)
  | some o => exact w.sub p o q
theorem EnvOk.ambGrow (x : c.amb st h m) (w : WStep [] m h m' h') : c.amb st h' m' := by
  refine c.ambF (fun p hp => ?_) w.mm x
  cases q : h p with
  | none => exact absurd q (c.ambD x p hp)
  | some o => exact w.sub p o q
theorem EnvOk.mh (x : EnvOk c σ m h ds st) : Sub m h := x.step.mh
theorem EnvOk.nox (x : EnvOk c σ m h ds st) : EnvOk c.nox σ m h ds st := ⟨x.step, x.slots, x.amb, x.own, x.pin⟩
theorem EnvOk.unnox (x : EnvOk c.nox σ m h ds st) : EnvOk c σ m h ds st := ⟨x.step, x.slots, x.amb, x.own, x.pin⟩
/-- a value is bound -/
theorem EnvOk.bind {A : Type} {t : Ty A} {a : A} {v : V} (x : EnvOk c σ m h ds st) (i : Nat) (r : t.rep a v m) : EnvOk c (σ.set i (some v)) m h (ds.set i (.val t a)) st := by
  obtain ⟨fps, sl, dj, fr⟩ := x.slots
  refine ⟨x.step, ⟨fps.set i [], sl.set (d := .val t a) ⟨rfl, v, rfl, r⟩, dj.set fun gp hg => .inl fun p _ z => absurd z (by simp), fun fp hf p hp => ?_⟩, x.amb, x.own, x.pin⟩
  rcases List.mem_or_eq_of_mem_set hf with z | z
  · exact fr fp z p hp
  · subst z; exact absurd hp (by simp)
/-- an owned object is bound -/
theorem EnvOk.bindO {A : Type} {o : OTy A} {a : A} {v : V} {fp : List Addr} (x : EnvOk c σ m h ds st) (i : Nat) (r : o.rep a v fp h m) (nm : ∀ p ∈ fp, m p = none) (na : ∀ p ∈ fp, p ∉ c.afp) (n0 : ∀ p ∈ fp, c.H0 p = none)
    (nf : ∀ fps, Slots m h σ fps ds → ∀ gp ∈ fps, ∀ p ∈ gp, p ∉ fp) : EnvOk c (σ.set i (some v)) m h (ds.set i (.own o a)) st := by
  obtain ⟨fps, sl, dj, fr⟩ := x.slots
  refine ⟨x.step, ⟨fps.set i fp, sl.set (d := .own o a) ⟨v, rfl, r, nm⟩, dj.set fun gp hg => .inl (nf fps sl gp hg), fun gp hg p hp => ?_⟩, x.amb, x.own, x.pin⟩
  rcases List.mem_or_eq_of_mem_set hg with z | z
  · exact fr gp z p hp
  · subst z; exact ⟨na p hp, n0 p hp⟩
end

section
variable {T : Type} {c : Ctx T} {σ : L2.St} {m h m' h' : Hp} {ds : List Desc} {st st' : T}
theorem EnvOk.pinned {q : Hp → Prop} {hq : ∀ {m n : Hp}, Sub m n → q m → q n} (x : EnvOk c σ m h ds st) (y : q m) : EnvOk (c.pinned q hq) σ m h ds st := ⟨x.step, x.slots, x.amb, x.own, ⟨x.pin, y⟩⟩
theorem EnvOk.unpin {q : Hp → Prop} {hq : ∀ {m n : Hp}, Sub m n → q m → q n} (x : EnvOk (c.pinned q hq) σ m h ds st) : EnvOk c σ m h ds st := ⟨x.step, x.slots, x.amb, x.own, x.pin.1⟩
/-- a slot is emptied, or forgotten -/
theorem EnvOk.clear (x : EnvOk c σ m h ds st) (i : Nat) (s : Option V) : EnvOk c (σ.set i s) m h (ds.set i .any) st := by
  obtain ⟨fps, sl, dj, fr⟩ := x.slots
  refine ⟨x.step, ⟨fps.set i [], sl.set (d := .any) rfl, dj.set fun gp hg => .inl fun p _ z => absurd z (by simp), fun fp hf p hp => ?_⟩, x.amb, x.own, x.pin⟩
  rcases List.mem_or_eq_of_mem_set hf with z | z
  · exact fr fp z p hp
  · subst z; exact absurd hp (by simp)
/-- weaker descriptions -/
inductive Weak : List Desc → List Desc → Prop where
  | nil : Weak [] []
  | same {d : Desc} {ds es : List Desc} : Weak ds es → Weak (d :: ds) (d :: es)
  | any {d : Desc} {ds es : List Desc} : Weak ds es → Weak (d :: ds) (.any :: es)
theorem Weak.refl : ∀ ds : List Desc, Weak ds ds
  | [] => .nil
  | _ :: ds => .same (Weak.refl ds)
theorem Slots.weak {es : List Desc} (w : Weak ds es) : ∀ {σ : L2.St} {fps : List (List Addr)}, Slots m h σ fps ds → ∃ gps : List (List Addr), Slots m h σ gps es ∧ gps.length = fps.length ∧ ∀ (i : Nat) (gp : List Addr), gps[i]? = some gp → gp = [] ∨ fps[i]? = some gp := by
  induction w with
  | nil => intro σ fps sl; cases sl; exact ⟨[], .nil, rfl, fun i gp e => by simp at e⟩
  | same _ ih =>
    intro σ fps sl
    cases sl with
    | cons a t =>
      obtain ⟨gps, q, hl, hg⟩ := ih t
      refine ⟨_ :: gps, .cons a q, by simp [hl], fun i gp e => ?_⟩
      cases i with
      | zero => exact .inr e
      | succ i => exact hg i gp (by simpa using e)
  | any _ ih =>
    intro σ fps sl
    cases sl with
    | cons a t =>
      obtain ⟨gps, q, hl, hg⟩ := ih t
      refine ⟨[] :: gps, .cons rfl q, by simp [hl], fun i gp e => ?_⟩
      cases i with
      | zero => exact .inl (by simpa using e.symm)
      | succ i => exact hg i gp (by simpa using e)
theorem EnvOk.weak {es : List Desc} (x : EnvOk c σ m h ds st) (w : Weak ds es) : EnvOk c σ m h es st := by
  obtain ⟨fps, sl, dj, fr⟩ := x.slots
  obtain ⟨gps, q, hl, hg⟩ := sl.weak w
  refine ⟨x.step, ⟨gps, q, ?_, fun gp hgp p hp => ?_⟩, x.amb, x.own, x.pin⟩
  · unfold Disj at dj ⊢
    rw [List.pairwise_iff_getElem] at dj ⊢
    intro i j hi hj hij p hp hp2
    rcases hg i _ (List.getElem?_eq_getElem hi) with z | z
    · rw [z] at hp; exact absurd hp (by simp)
    rcases hg j _ (List.getElem?_eq_getElem hj) with y | y
    · rw [y] at hp2; exact absurd hp2 (by simp)
    have hi' : i < fps.length := by omega
    have hj' : j < fps.length := by omega
    rw [List.getElem?_eq_getElem hi'] at z
    rw [List.getElem?_eq_getElem hj'] at y
    have z' := Option.some.inj z
    have y' := Option.some.inj y
    rw [← z'] at hp
    rw [← y'] at hp2
    exact dj i j hi' hj' hij p hp hp2
  · obtain ⟨i, hi, rfl⟩ := List.mem_iff_getElem.mp hgp
    rcases hg i _ (List.getElem?_eq_getElem hi) with z | z
    · rw [z] at hp; exact absurd hp (by simp)
    · exact fr _ (List.mem_of_getElem? z) p hp
/-- what is owned at slot i stays from now on -/
theorem EnvOk.frz {A : Type} {o : OTy A} {t : Ty A} {a : A} {i : Nat} (x : EnvOk c σ m h ds st) (hd : ds[i]? = some (.own o a))
    (hf : ∀ (v : V) (fp : List Addr), o.rep a v fp h m → Sub m h → (∀ p ∈ fp, m p = none) → ∃ m', Sub m m' ∧ Sub m' h ∧ (∀ q, q ∉ fp → m' q = m q) ∧ t.rep a v m') :
    ∃ m', Sub m m' ∧ EnvOk c σ m' h (ds.set i (.val t a)) st := by
  obtain ⟨fps, sl, dj, fr⟩ := x.slots
  obtain ⟨s, fp, e1, e2, v, rfl, r, n⟩ := sl.get hd
  obtain ⟨m', a1, a2, a3, q⟩ := hf v fp r x.mh n
  have hfp := List.mem_of_getElem? e2
  have ow : ∀ y, m y = none → y ∉ fp → m' y = none := fun y e z => by rw [a3 y z]; exact e
  have hne : ∀ j gp, j ≠ i → fps[j]? = some gp → ∀ p ∈ gp, p ∉ fp := fun j gp hj e p hp hq => by
    unfold Disj at dj
    rw [List.pairwise_iff_getElem] at dj
    obtain ⟨hj', ej⟩ := List.getElem?_eq_some_iff.mp e
    obtain ⟨hi', ei⟩ := List.getElem?_eq_some_iff.mp e2
    rcases Nat.lt_or_gt_of_ne hj with z | z
    · exact dj j i hj' hi' z p (by rw [ej]; exact hp) (by rw [ei]; exact hq)
    · exact dj i j hi' hj' z p (by rw [ei]; exact hq) (by rw [ej]; exact hp)
  have key : ∀ {σ : L2.St} {fps : List (List Addr)} {ds : List Desc}, Slots m h σ fps ds → ∀ i, σ[i]? = some (some v) → (∀ j gp, j ≠ i → fps[j]? = some gp → ∀ p ∈ gp, p ∉ fp) → Slots m' h σ (fps.set i []) (ds.set i (.val t a)) := by
    intro σ fps ds sl
    induction sl with
    | nil => intro i _ _; exact .nil
    | cons b sl' ih =>
      intro i hi hn
      cases i with
      | zero =>
        refine .cons ⟨rfl, v, by simpa using hi, q⟩ (sl'.go (fun _ _ _ _ => rfl) a1 fun gp hg p hp e => ?_)
        obtain ⟨j, hj⟩ := List.mem_iff_getElem?.mp hg
        exact ow p e (hn (j + 1) gp (by omega) (by simpa using hj) p hp)
      | succ i =>
        refine .cons (b.go (fun _ _ => rfl) a1 fun p hp e => ow p e (hn 0 _ (by omega) rfl p hp)) (ih i (by simpa using hi) fun j gp hj e => hn (j + 1) gp (by omega) (by simpa using e))
  refine ⟨m', a1, ⟨⟨x.step.mm.trans a1, a2, x.step.hh, fun y e nn => ow y (x.step.ow y e nn) fun z => nn (fr fp hfp y z).2, x.step.dm⟩, ⟨fps.set i [], key sl i e1 hne, dj.set fun gp hg => .inl fun p _ z => absurd z (by simp), fun gp hg p hp => ?_⟩,
    c.ambF (fun _ _ => rfl) a1 x.amb, fun p hp => ow p (x.own p hp) fun z => (fr fp hfp p z).1 hp, c.pinM a1 x.pin⟩⟩
  rcases List.mem_or_eq_of_mem_set hg with z | z
  · exact fr gp z p hp
  · subst z; exact absurd hp (by simp)
/-- what is owned at slot i is written -/
theorem EnvOk.put {A : Type} {o : OTy A} {a b : A} {i : Nat} {p : Addr} {u : HO} (x : EnvOk c σ m h ds st) (hd : ds[i]? = some (.own o a))
    (hr : ∀ v fp, σ[i]? = some (some v) → o.rep a v fp h m → p ∈ fp ∧ o.rep b v fp (upd h p u) m) : EnvOk c σ m (upd h p u) (ds.set i (.own o b)) st := by
  obtain ⟨fps, sl, dj, fr⟩ := x.slots
  obtain ⟨s, fp, e1, e2, v, rfl, r, n⟩ := sl.get hd
  obtain ⟨hp, r'⟩ := hr v fp e1 r
  have hfp := List.mem_of_getElem? e2
  have hne : ∀ j gp, j ≠ i → fps[j]? = some gp → p ∉ gp := fun j gp hj e hq => by
    unfold Disj at dj
    rw [List.pairwise_iff_getElem] at dj
    obtain ⟨hj', ej⟩ := List.getElem?_eq_some_iff.mp e
    obtain ⟨hi', ei⟩ := List.getElem?_eq_some_iff.mp e2
    rcases Nat.lt_or_gt_of_ne hj with z | z
    · exact dj j i hj' hi' z p (by rw [ej]; exact hq) (by rw [ei]; exact hp)
    · exact dj i j hi' hj' z p (by rw [ei]; exact hp) (by rw [ej]; exact hq)
  have key : ∀ {σ : L2.St} {fps : List (List Addr)} {ds : List Desc}, Slots m h σ fps ds → ∀ i, σ[i]? = some (some v) → fps[i]? = some fp → (∀ j gp, j ≠ i → fps[j]? = some gp → p ∉ gp) → Slots m (upd h p u) σ fps (ds.set i (.own o b)) := by
    intro σ fps ds sl
    induction sl with
    | nil => intro i _ _ _; exact .nil
    | cons c1 sl' ih =>
      intro i hi hf hn
      cases i with
      | zero =>
        obtain rfl : _ = fp := by simpa using hf
        refine .cons ⟨v, by simpa using hi, r', n⟩ (sl'.go (fun gp hg y hy => ?_) (.refl m) fun _ _ _ _ e => e)
        obtain ⟨j, hj⟩ := List.mem_iff_getElem?.mp hg
        exact upd_ne fun z => hn (j + 1) gp (by omega) (by simpa using hj) (by rw [← z]; exact hy)
      | succ i =>
        exact .cons (c1.go (fun y hy => upd_ne fun z => hn 0 _ (by omega) rfl (by rw [← z]; exact hy)) (.refl m) fun _ _ e => e) (ih i (by simpa using hi) (by simpa using hf) fun j gp hj e => hn (j + 1) gp (by omega) (by simpa using e))
  have hp0 := (fr fp hfp p hp).2
  have hpa := (fr fp hfp p hp).1
  refine ⟨⟨x.step.mm, x.step.mh.wr (n p hp), fun y o' hy e => ?_, x.step.ow, fun y e => ?_⟩, ⟨fps, key sl i e1 e2 hne, dj, fr⟩, c.ambF (fun y hy => upd_ne fun z => hpa (by rw [← z]; exact hy)) (.refl m) x.amb, x.own, x.pin⟩
  · rw [upd_ne (ne_of_none e hp0)]; exact x.step.hh y o' hy e
  · by_cases z : y = p
    · subst z; rw [upd_same]; exact fun q => nomatch q
    · rw [upd_ne z]; exact x.step.dm y e
end

/-! ### the readings -/
section
variable {T A B : Type}
/-- an expression: x is what it computes, t how the value stands for it -/
def TX (c : Ctx T) (ds : List Desc) (t : Ty A) (x : MM T A) : TE := fun σ H Q => ∃ m st, EnvOk c σ m H ds st ∧
  Post (x st) (fun a st' => ∀ v m' H', WStep c.afp m H m' H' → c.amb st' H' m' → t.rep a v m' → Q v H') c.err
/-- an expression that makes a new object, which is owned -/
def TXO (c : Ctx T) (ds : List Desc) (o : OTy A) (x : MM T A) : TE := fun σ H Q => ∃ m st, EnvOk c σ m H ds st ∧
  Post (x st) (fun a st' => ∀ v fp m' H', WStep c.afp m H m' H' → c.amb st' H' m' → (∀ p ∈ fp, H p = none ∧ m' p = none) → o.rep a v fp H' m' → Q v H') c.err
/-- a test -/
def TTX (c : Ctx T) (ds : List Desc) (x : MM T Bool) : TT := fun σ H Q => ∃ m st, EnvOk c σ m H ds st ∧
  Post (x st) (fun a st' => ∀ m' H', WStep c.afp m H m' H' → c.amb st' H' m' → Q a H') c.err
/-- arguments -/
def TAX (c : Ctx T) (ds : List Desc) (l : LTy A) (x : MM T A) : TA := fun σ H Q => ∃ m st, EnvOk c σ m H ds st ∧
  Post (x st) (fun a st' => ∀ vs m' H', WStep c.afp m H m' H' → c.amb st' H' m' → l.rep a vs m' → Q vs H') c.err
/-- a block: what it computes, and what each of its outcomes wants of the ends -/
def BX (c : Ctx T) (ds : List Desc) (x : MM T A) (P : A → T → Ends → Prop) : TS := fun D σ H => ∃ m st, EnvOk c σ m H ds st ∧ Post (x st) (fun a st' => P a st' D) c.err
/-- the block falls through, in the state that dsN tells -/
def EN (c : Ctx T) (dsN : A → List Desc) : A → T → Ends → Prop := fun a st D => ∀ σ m H, EnvOk c σ m H (dsN a) st → D.nx σ H
/-- it returns -/
def ER (c : Ctx T) (t : Ty A) : A → T → Ends → Prop := fun a st D => ∀ v m H, WStep c.S c.m0 c.H0 m H → c.amb st H m → t.rep a v m → D.rt v H
/-- it returns, or falls through -/
def ENR (c : Ctx T) (t : Ty A) (dsN : B → List Desc) : Sum A B → T → Ends → Prop := fun r st D => match r with
  | .inl a => ER c t a st D
  | .inr b => EN c dsN b st D
theorem PE.imp {X : Cx} {e : Expr} {t t' : TE} (h : PE X e t) (i : ∀ σ H Q, t' σ H Q → t σ H Q) : PE X e t' := ⟨fun pins s σ H Q I q => h.run pins s σ H Q I (i σ H Q q)⟩
theorem PT.imp {X : Cx} {e : Expr} {t t' : TT} (h : PT X e t) (i : ∀ σ H Q, t' σ H Q → t σ H Q) : PT X e t' := ⟨fun pins s σ H Q I q => h.run pins s σ H Q I (i σ H Q q)⟩
theorem PA.imp {X : Cx} {e : List Expr} {t t' : TA} (h : PA X e t) (i : ∀ σ H Q, t' σ H Q → t σ H Q) : PA X e t' := ⟨fun pos pins s σ H Q I q => h.run pos pins s σ H Q I (i σ H Q q)⟩
theorem PS.imp {X : Cx} {e : Stmt} {t t' : TS} (h : PS X e t) (i : ∀ D σ H, t' D σ H → t D σ H) : PS X e t' := ⟨fun pins s σ H D I q => h.run pins s σ H D I (i D σ H q)⟩
theorem PSs.imp {X : Cx} {e : List Stmt} {t t' : TS} (h : PSs X e t) (i : ∀ D σ H, t' D σ H → t D σ H) : PSs X e t' := ⟨fun pins s σ H D I q => h.run pins s σ H D I (i D σ H q)⟩
/-- one of many readings -/
theorem PE.any {X : Cx} {e : Expr} {I : Type} {t : I → TE} (h : ∀ i, PE X e (t i)) : PE X e (fun σ H Q => ∃ i, t i σ H Q) := ⟨fun pins s σ H Q J ⟨i, q⟩ => (h i).run pins s σ H Q J q⟩
theorem PT.any {X : Cx} {e : Expr} {I : Type} {t : I → TT} (h : ∀ i, PT X e (t i)) : PT X e (fun σ H Q => ∃ i, t i σ H Q) := ⟨fun pins s σ H Q J ⟨i, q⟩ => (h i).run pins s σ H Q J q⟩
theorem PSs.any {X : Cx} {e : List Stmt} {I : Type} {t : I → TS} (h : ∀ i, PSs X e (t i)) : PSs X e (fun D σ H => ∃ i, t i D σ H) := ⟨fun pins s σ H D J ⟨i, q⟩ => (h i).run pins s σ H D J q⟩
end
end WL

/-! WLB: expressions. -/
namespace WL
open PySem PySem.Spec PyProof.Rows L2

/-! ### the types of what stays -/
def tInt : Ty Int := ⟨fun i v _ => v = .int i, fun _ r => r⟩
def tBool : Ty Bool := ⟨fun b v _ => v = .bl b, fun _ r => r⟩
def tStr : Ty Str := ⟨fun x v _ => v = .str x, fun _ r => r⟩
def tNon : Ty Unit := ⟨fun _ v _ => v = .non, fun _ r => r⟩
/-- this very object -/
def tIs (p : Addr) : Ty Unit := ⟨fun _ v _ => v = .ref p, fun _ r => r⟩
def repO {A : Type} (t : Ty A) (v : V) (m : Hp) : Option A → Prop
  | none => v = .non
  | some a => t.rep a v m
def tOpt {A : Type} (t : Ty A) : Ty (Option A) := ⟨fun o v m => repO t v m o, fun {o} _ _ _ h r => by
  cases o with
  | none => exact r
  | some a => exact t.mono h r⟩
inductive Reps {A : Type} (t : Ty A) (m : Hp) : List A → List V → Prop where
  | nil : Reps t m [] []
  | cons {a : A} {v : V} {as : List A} {vs : List V} : t.rep a v m → Reps t m as vs → Reps t m (a :: as) (v :: vs)
section
variable {A : Type} {t : Ty A} {m n : Hp} {as bs : List A} {vs ws : List V}
theorem Reps.mono (h : Sub m n) (r : Reps t m as vs) : Reps t n as vs := by
  induction r with
  | nil => exact .nil
  | cons a _ ih => exact .cons (t.mono h a) ih
theorem Reps.length (r : Reps t m as vs) : as.length = vs.length := by
  induction r with
  | nil => rfl
  | cons _ _ ih => simp [ih]
theorem Reps.get (r : Reps t m as vs) : ∀ {i : Nat} {a : A}, as[i]? = some a → ∃ v, vs[i]? = some v ∧ t.rep a v m := by
  induction r with
  | nil => intro i a e; simp at e
  | cons x _ ih =>
    intro i a e
    cases i with
    | zero => simp at e; subst e; exact ⟨_, rfl, x⟩
    | succ i => obtain ⟨v, e1, q⟩ := ih (i := i) (a := a) (by simpa using e); exact ⟨v, by simpa using e1, q⟩
theorem Reps.append (r : Reps t m as vs) (q : Reps t m bs ws) : Reps t m (as ++ bs) (vs ++ ws) := by
  induction r with
  | nil => exact q
  | cons x _ ih => exact .cons x ih
theorem Reps.set {a : A} {v : V} (x : t.rep a v m) (r : Reps t m as vs) : ∀ (i : Nat), Reps t m (as.set i a) (vs.set i v) := by
  induction r with
  | nil => intro i; exact .nil
  | cons y s ih =>
    intro i
    cases i with
    | zero => exact .cons x s
    | succ i => exact .cons y (ih i)
theorem Reps.take (r : Reps t m as vs) : ∀ (i : Nat), Reps t m (as.take i) (vs.take i) := by
  induction r with
  | nil => intro i; simp; exact .nil
  | cons y s ih =>
    intro i
    cases i with
    | zero => exact .nil
    | succ i => exact .cons y (ih i)
theorem Reps.drop (r : Reps t m as vs) : ∀ (i : Nat), Reps t m (as.drop i) (vs.drop i) := by
  induction r with
  | nil => intro i; simp; exact .nil
  | cons y s ih =>
    intro i
    cases i with
    | zero => exact .cons y s
    | succ i => exact ih i
theorem Reps.dropLast (r : Reps t m as vs) : Reps t m as.dropLast vs.dropLast := by
  rw [List.dropLast_eq_take, List.dropLast_eq_take, r.length]
  exact r.take _
theorem Reps.reverse (r : Reps t m as vs) : Reps t m as.reverse vs.reverse := by
  induction r with
  | nil => exact .nil
  | cons x _ ih => rw [List.reverse_cons, List.reverse_cons]; exact ih.append (.cons x .nil)
theorem Reps.repl {a : A} {v : V} (x : t.rep a v m) : ∀ n : Nat, Reps t m (List.replicate n a) (List.replicate n v)
  | 0 => .nil
  | n + 1 => .cons x (Reps.repl x n)
theorem Reps.ints {m : Hp} {as : List Int} {vs : List V} (r : Reps tInt m as vs) : vs = as.map V.int := by
  induction r with
  | nil => rfl
  | cons x _ ih => rw [ih, List.map_cons]; have : _ = _ := x; rw [this]
theorem Reps.ofInts {m : Hp} : ∀ (as : List Int), Reps tInt m as (as.map V.int)
  | [] => .nil
  | a :: as => .cons rfl (Reps.ofInts as)
theorem Reps.bools {m : Hp} {as : List Bool} {vs : List V} (r : Reps tBool m as vs) : vs = as.map V.bl := by
  induction r with
  | nil => rfl
  | cons x _ ih => rw [ih, List.map_cons]; have : _ = _ := x; rw [this]
theorem Reps.strs {m : Hp} {as : List Str} {vs : List V} (r : Reps tStr m as vs) : vs = as.map V.str := by
  induction r with
  | nil => rfl
  | cons x _ ih => rw [ih, List.map_cons]; have : _ = _ := x; rw [this]
end
/-- a list that stays -/
def tList {A : Type} (t : Ty A) : Ty (List A) := ⟨fun as v m => ∃ p vs, v = .ref p ∧ m p = some (.lst vs) ∧ Reps t m as vs, fun h ⟨p, vs, e, k, r⟩ => ⟨p, vs, e, h _ _ k, r.mono h⟩⟩
/-- a list that is read alone: a list that stays, one of the module, the script -/
def tSeq {A : Type} (K : PySem.W.Frag) (t : Ty A) : Ty (List A) := ⟨fun as v m => ∃ p vs, v = .ref p ∧ SqL K m p vs ∧ Reps t m as vs, fun h ⟨p, vs, e, k, r⟩ => ⟨p, vs, e, h.sqL k, r.mono h⟩⟩
/-- a tuple of any length -/
def tVT {A : Type} (K : PySem.W.Frag) (t : Ty A) : Ty (List A) := ⟨fun as v m => ∃ p vs, v = .ref p ∧ SqT K m p vs ∧ Reps t m as vs, fun h ⟨p, vs, e, k, r⟩ => ⟨p, vs, e, h.sqT k, r.mono h⟩⟩
/-! argument lists -/
def l0 : LTy Unit := ⟨fun _ vs _ => vs = [], fun _ r => r⟩
def l1 {A : Type} (t : Ty A) : LTy A := ⟨fun a vs m => ∃ v, vs = [v] ∧ t.rep a v m, fun h ⟨v, e, r⟩ => ⟨v, e, t.mono h r⟩⟩
def lc {A B : Type} (t : Ty A) (l : LTy B) : LTy (A × B) := ⟨fun a vs m => ∃ v ws, vs = v :: ws ∧ t.rep a.1 v m ∧ l.rep a.2 ws m, fun h ⟨v, ws, e, r, q⟩ => ⟨v, ws, e, t.mono h r, l.mono h q⟩⟩
/-- a tuple of so many places -/
def tTup {A : Type} (K : PySem.W.Frag) (l : LTy A) : Ty A := ⟨fun a v m => ∃ p vs, v = .ref p ∧ SqT K m p vs ∧ l.rep a vs m, fun h ⟨p, vs, e, k, r⟩ => ⟨p, vs, e, h.sqT k, l.mono h r⟩⟩
/-! what is owned -/
def oList {A : Type} (t : Ty A) : OTy (List A) where
  rep := fun as v fp h m => ∃ p vs, v = .ref p ∧ fp = [p] ∧ h p = some (.lst vs) ∧ Reps t m as vs
  frame := fun hk hm ⟨p, vs, e, ef, k, r⟩ => ⟨p, vs, e, ef, by rw [hk p (by rw [ef]; simp)]; exact k, r.mono hm⟩
  dom := fun ⟨p, vs, e, ef, k, r⟩ q hq => by rw [ef] at hq; obtain rfl := List.mem_singleton.mp hq; rw [k]; exact fun z => nomatch z
/-- a list of so many places -/
def oRec {A : Type} (l : LTy A) : OTy A where
  rep := fun a v fp h m => ∃ p vs, v = .ref p ∧ fp = [p] ∧ h p = some (.lst vs) ∧ l.rep a vs m
  frame := fun hk hm ⟨p, vs, e, ef, k, r⟩ => ⟨p, vs, e, ef, by rw [hk p (by rw [ef]; simp)]; exact k, l.mono hm r⟩
  dom := fun ⟨p, vs, e, ef, k, r⟩ q hq => by rw [ef] at hq; obtain rfl := List.mem_singleton.mp hq; rw [k]; exact fun z => nomatch z
/-- what is owned, handed to the facts that stay -/
def Freezes {A : Type} (o : OTy A) (t : Ty A) : Prop := ∀ (a : A) (v : V) (fp : List Addr) (h m : Hp), o.rep a v fp h m → Sub m h → (∀ p ∈ fp, m p = none) → ∃ m', Sub m m' ∧ Sub m' h ∧ (∀ q, q ∉ fp → m' q = m q) ∧ t.rep a v m'
theorem frz_put {m h : Hp} {p : Addr} {u : HO} (hm : Sub m h) (e : h p = some u) (n : m p = none) : Sub m (upd m p u) ∧ Sub (upd m p u) h ∧ ∀ q, q ∉ [p] → upd m p u q = m q := by
  refine ⟨Sub.new (.refl m) n, fun a o q => ?_, fun q hq => upd_ne (by simpa using hq)⟩
  by_cases z : a = p
  · subst z; rw [upd_same] at q; cases q; exact e
  · rw [upd_ne z] at q; exact hm a o q
theorem frz_list {A : Type} {t : Ty A} : Freezes (oList t) (tList t) := fun as v fp h m ⟨p, vs, e, ef, k, r⟩ hm n => by
  subst ef
  obtain ⟨a1, a2, a3⟩ := frz_put hm k (n p (by simp))
  exact ⟨_, a1, a2, a3, p, vs, e, upd_same, r.mono a1⟩

/-! ### what computes -/
section
variable {T A B C G : Type}
def e1 (f : A → Option B) (x : MM T A) : MM T B := bnd x fun a => lft (f a)
def e2 (f : A → B → Option C) (x : MM T A) (y : MM T B) : MM T C := bnd x fun a => bnd y fun b => lft (f a b)
def e3 (f : A → B → C → Option G) (x : MM T A) (y : MM T B) (z : MM T C) : MM T G := bnd x fun a => bnd y fun b => bnd z fun c => lft (f a b c)
def eAnd (x y : MM T Bool) : MM T Bool := bnd x fun a => if a = true then y else ret false
def eOr (x y : MM T Bool) : MM T Bool := bnd x fun a => if a = true then ret true else y
def eNot (x : MM T Bool) : MM T Bool := bnd x fun a => ret (!a)
def eIf (x : MM T Bool) (y z : MM T A) : MM T A := bnd x fun a => if a = true then y else z
/-- arguments in a row -/
def eArg (x : MM T A) (y : MM T B) : MM T (A × B) := bnd x fun a => bnd y fun b => ret (a, b)
/-- a def without state is called -/
def eCall (f : A → MM Unit B) (x : MM T A) : MM T B := bnd x fun a => up (f a)
/-- a def with the state is called -/
def eCallS (f : A → MM T B) (x : MM T A) : MM T B := bnd x f
end
/-- a two-place rule of the hand layer, by types -/
def Op2 {A B C : Type} (r : R2) (t1 : Ty A) (t2 : Ty B) (t3 : Ty C) (f : A → B → Option C) : Prop := ∀ (a : A) (b : B) (g : C) (v1 v2 : V) (m H : Hp) (Q : VK), t1.rep a v1 m → t2.rep b v2 m → Sub m H → f a b = some g →
  (∀ v m' H', WStep [] m H m' H' → t3.rep g v m' → Q v H') → r v1 v2 H Q
def Op1 {A C : Type} (r : V → Hp → VK → Prop) (t1 : Ty A) (t3 : Ty C) (f : A → Option C) : Prop := ∀ (a : A) (g : C) (v1 : V) (m H : Hp) (Q : VK), t1.rep a v1 m → Sub m H → f a = some g →
  (∀ v m' H', WStep [] m H m' H' → t3.rep g v m' → Q v H') → r v1 H Q
def OpL {A C : Type} (r : List V → Hp → VK → Prop) (l : LTy A) (t3 : Ty C) (f : A → Option C) : Prop := ∀ (a : A) (g : C) (vs : List V) (m H : Hp) (Q : VK), l.rep a vs m → Sub m H → f a = some g →
  (∀ v m' H', WStep [] m H m' H' → t3.rep g v m' → Q v H') → r vs H Q
section
variable {T A B C : Type} {c : Ctx T} {ds : List Desc} {t1 : Ty A} {t2 : Ty B} {t3 : Ty C} {σ : L2.St} {H : Hp} {Q : VK}
theorem rd_op2 {r : R2} {f : A → B → Option C} {xa : MM T A} {xb : MM T B} (hs : Op2 r t1 t2 t3 f) (h : TX c ds t3 (e2 f xa xb) σ H Q) : tOp r (TX c ds t1 xa) (TX c ds t2 xb) σ H Q := by
  obtain ⟨m, st, env, p⟩ := h
  unfold e2 at p
  refine ⟨m, st, env, (Post.bnd.mp p).imp fun a s1 p v1 m1 H1 w1 a1 r1 => ?_⟩
  refine ⟨m1, s1, env.go w1 a1, (Post.bnd.mp p).imp fun b s2 p v2 m2 H2 w2 a2 r2 => ?_⟩
  obtain ⟨g, e, p⟩ := Post.lft.mp p
  exact hs a b g v1 v2 m2 H2 Q (t1.mono w2.mm r1) r2 w2.mh e fun v m' H' w3 r3 => p v m' H' ((w1.trans w2).trans w3.wide) (EnvOk.ambGrow a2 w3) r3
theorem rd_op1 {r : V → Hp → VK → Prop} {f : A → Option C} {xa : MM T A} (hs : Op1 r t1 t3 f) (h : TX c ds t3 (e1 f xa) σ H Q) : tUn r (TX c ds t1 xa) σ H Q := by
  obtain ⟨m, st, env, p⟩ := h
  unfold e1 at p
  refine ⟨m, st, env, (Post.bnd.mp p).imp fun a s1 p v1 m1 H1 w1 a1 r1 => ?_⟩
  obtain ⟨g, e, p⟩ := Post.lft.mp p
  exact hs a g v1 m1 H1 Q r1 w1.mh e fun v m' H' w3 r3 => p v m' H' (w1.trans w3.wide) (EnvOk.ambGrow a1 w3) r3
theorem rd_opL {r : List V → Hp → VK → Prop} {l : LTy A} {f : A → Option C} {xa : MM T A} (hs : OpL r l t3 f) (h : TX c ds t3 (e1 f xa) σ H Q) : tCB r (TAX c ds l xa) σ H Q := by
  obtain ⟨m, st, env, p⟩ := h
  unfold e1 at p
  refine ⟨m, st, env, (Post.bnd.mp p).imp fun a s1 p vs m1 H1 w1 a1 r1 => ?_⟩
  obtain ⟨g, e, p⟩ := Post.lft.mp p
  exact hs a g vs m1 H1 Q r1 w1.mh e fun v m' H' w3 r3 => p v m' H' (w1.trans w3.wide) (EnvOk.ambGrow a1 w3) r3
theorem rd_c {v : V} {a : A} {t : Ty A} (hv : ∀ m, t.rep a v m) (h : TX c ds t (ret a) σ H Q) : tC v σ H Q := by
  obtain ⟨m, st, env, p⟩ := h
  exact p v m H (.refl env.mh) env.amb (hv m)
theorem rd_var {i : Nat} {a : A} {t : Ty A} (hd : ds[i]? = some (.val t a)) (h : TX c ds t (ret a) σ H Q) : tVar i σ H Q := by
  obtain ⟨m, st, env, p⟩ := h
  obtain ⟨fps, sl, _, _⟩ := env.slots
  obtain ⟨s, fp, e1, e2, ok⟩ := sl.get hd
  obtain ⟨_, v, rfl, r⟩ := ok
  exact ⟨v, e1, p v m H (.refl env.mh) env.amb r⟩
end

section
variable {X : Cx} {T A B C : Type} {c : Ctx T} {ds : List Desc} {t1 : Ty A} {t2 : Ty B} {t3 : Ty C} {t : Ty A} {pos : Pos} {a b e : Expr}
theorem x_var (i : Nat) {x : Str} {v : A} (hd : ds[i]? = some (.val t v) := by rfl) (hN : X.N[i]? = some x := by rfl) (hv : Vis X.env.scope x := by first | exact Or.inl rfl | exact Or.inr (Or.inl rfl) | exact Or.inr (Or.inr rfl))
    (h1 : (x == ("__debug__" : Str)) = false := by decide) (h2 : (x == ("__classdict__" : Str)) = false := by decide) : PE X (.Name x pos) (TX c ds t (ret v)) := PE.imp (pe_var hN hv h1 h2) fun _ _ _ h => rd_var hd h
theorem x_int {i : Int} {j} : PE X (.Constant (.int i) j pos) (TX c ds tInt (ret i)) := PE.imp pe_int fun _ _ _ h => rd_c (fun _ => rfl) h
theorem x_bool {i : Bool} {j} : PE X (.Constant (.bool i) j pos) (TX c ds tBool (ret i)) := PE.imp pe_bl fun _ _ _ h => rd_c (fun _ => rfl) h
theorem x_str {i : Str} {j} : PE X (.Constant (.str i) j pos) (TX c ds tStr (ret i)) := PE.imp pe_str fun _ _ _ h => rd_c (fun _ => rfl) h
theorem x_non {j} : PE X (.Constant .none j pos) (TX c ds tNon (ret ())) := PE.imp pe_non fun _ _ _ h => rd_c (fun _ => rfl) h
theorem x_nonO {t : Ty A} {j} : PE X (.Constant .none j pos) (TX c ds (tOpt t) (ret none)) := PE.imp pe_non fun _ _ _ h => rd_c (fun _ => rfl) h
/-- an a is an a or None -/
theorem x_some {x : MM T A} (h : PE X e (TX c ds t x)) : PE X e (TX c ds (tOpt t) (e1 (fun a => some (some a)) x)) := PE.imp h fun σ H Q ⟨m, st, env, p⟩ => by
  refine ⟨m, st, env, (Post.bnd.mp p).imp fun a s1 p v1 m1 H1 w1 a1 r1 => ?_⟩
  exact p v1 m1 H1 w1 a1 r1
/-- a constant of the module -/
theorem x_glob {x : Str} {v : V} {u : Value} {k : A} (hm : X.mg x = some u) (r : RelV v u) (hv : ∀ m, t.rep k v m) (hg : Gl X x := by rfl) (hd : (x == ("__debug__" : Str)) = false := by decide) : PE X (.Name x pos) (TX c ds t (ret k)) :=
  PE.imp (pe_glob hg hm r hd) fun _ _ _ h => rd_c hv h
theorem x_bin {op : Operator} {r : R2} {f : A → B → Option C} {xa : MM T A} {xb : MM T B} (ho : OpR X (binaryOp op) r) (hs : Op2 r t1 t2 t3 f) (ha : PE X a (TX c ds t1 xa)) (hb : PE X b (TX c ds t2 xb)) :
    PE X (.BinOp a op b pos) (TX c ds t3 (e2 f xa xb)) := PE.imp (pe_op ho ha hb) fun _ _ _ h => rd_op2 hs h
theorem x_cmp {op : CmpOp} {r : R2} {f : A → B → Option C} {xa : MM T A} {xb : MM T B} (ho : OpR X (compareOp op) r) (hs : Op2 r t1 t2 t3 f) (ha : PE X a (TX c ds t1 xa)) (hb : PE X b (TX c ds t2 xb)) (hm : behindInMarks op b = false := by first | exact nomark _ | rfl) :
    PE X (.Compare a [op] [b] pos) (TX c ds t3 (e2 f xa xb)) := PE.imp (pe_cmpR ho ha hb hm) fun _ _ _ h => rd_op2 hs h
theorem x_ix {r : R2} {f : A → B → Option C} {xa : MM T A} {xb : MM T B} (ho : IxR X r) (hs : Op2 r t1 t2 t3 f) (ha : PE X a (TX c ds t1 xa)) (hb : PE X b (TX c ds t2 xb)) (hp : PlainIx b := by exact fun _ _ => rfl) :
    PE X (.Subscript a b pos) (TX c ds t3 (e2 f xa xb)) := PE.imp (pe_ix ho ha hb hp) fun _ _ _ h => rd_op2 hs h
theorem x_un {op : UnaryOp} {r : V → Hp → VK → Prop} {f : A → Option C} {xa : MM T A} (ho : UnR X (unaryOp op) r) (hs : Op1 r t1 t3 f) (ha : PE X a (TX c ds t1 xa)) :
    PE X (.UnaryOp op a pos) (TX c ds t3 (e1 f xa)) := PE.imp (pe_un ho ha) fun _ _ _ h => rd_op1 hs h
/-- a built-in called by its name -/
theorem x_callB {x : Str} {id : String} {r : List V → Hp → VK → Prop} {l : LTy A} {f : A → Option C} {xa : MM T A} {p : Pos} {es : List Expr} (hc : CallR X (.builtin id) r) (hs : OpL r l t3 f) (hm : X.mg x = none) (hv : bootBuiltins x = some (.builtin id))
    (ha : PA X (e :: es) (TAX c ds l xa)) (hg : Gl X x := by rfl) (hn : x ≠ "__name__" := by decide) (hdb : (x == ("__debug__" : Str)) = false := by decide)
    (he : starEach (e :: es) X.env = (false, eval e X.env) :: starEach es X.env := by rfl) (hpl : (backTo pos (starEach es X.env)).any (·.1) = false := by rfl) :
    PE X (.Call (.Name x p) (e :: es) [] pos) (TX c ds t3 (e1 f xa)) := PE.imp (pe_callB hc hg hm hv ha hn hdb he hpl) fun _ _ _ h => rd_opL hs h
theorem x_callTy {x : Str} {id : String} {r : List V → Hp → VK → Prop} {l : LTy A} {f : A → Option C} {xa : MM T A} {p : Pos} {es : List Expr} (hc : CallR X (.type id) r) (hs : OpL r l t3 f) (hm : X.mg x = none) (hv : bootBuiltins x = some (.type id))
    (ha : PA X (e :: es) (TAX c ds l xa)) (hg : Gl X x := by rfl) (hn : x ≠ "__name__" := by decide) (hdb : (x == ("__debug__" : Str)) = false := by decide)
    (he : starEach (e :: es) X.env = (false, eval e X.env) :: starEach es X.env := by rfl) (hpl : (backTo pos (starEach es X.env)).any (·.1) = false := by rfl) :
    PE X (.Call (.Name x p) (e :: es) [] pos) (TX c ds t3 (e1 f xa)) := PE.imp (pe_callTy hc hg hm hv ha hn hdb he hpl) fun _ _ _ h => rd_opL hs h
/-! arguments -/
theorem a_nil : PA X [] (TAX c ds l0 (ret ())) := PA.imp pa_nil fun _ _ _ ⟨m, st, env, p⟩ => p [] m _ (.refl env.mh) env.amb rfl
theorem a_one {xa : MM T A} (ha : PE X e (TX c ds t xa)) (hs : starEach (e :: []) X.env = (false, eval e X.env) :: starEach [] X.env := by rfl) : PA X [e] (TAX c ds (l1 t) xa) :=
  PA.imp (pa_cons ha pa_nil hs) fun σ H Q ⟨m, st, env, p⟩ => ⟨m, st, env, p.imp fun a s1 p v m1 H1 w1 a1 r1 => p [v] m1 H1 w1 a1 ⟨v, rfl, r1⟩⟩
theorem a_cons {es : List Expr} {l : LTy B} {xa : MM T A} {xb : MM T B} (ha : PE X e (TX c ds t xa)) (hb : PA X es (TAX c ds l xb)) (hs : starEach (e :: es) X.env = (false, eval e X.env) :: starEach es X.env := by rfl) : PA X (e :: es) (TAX c ds (lc t l) (eArg xa xb)) :=
  PA.imp (pa_cons ha hb hs) fun σ H Q ⟨m, st, env, p⟩ => by
    unfold eArg at p
    refine ⟨m, st, env, (Post.bnd.mp p).imp fun a s1 p v m1 H1 w1 a1 r1 => ?_⟩
    refine ⟨m1, s1, env.go w1 a1, (Post.bnd.mp p).imp fun b s2 p vs m2 H2 w2 a2 r2 => ?_⟩
    exact p (v :: vs) m2 H2 (w1.trans w2) a2 ⟨v, vs, rfl, t.mono w2.mm r1, r2⟩
/-! displays -/
theorem x_tup {es : List Expr} {l : LTy A} {xa : MM T A} {x1} (h : PA X es (TAX c ds l xa)) (hl : ∀ a vs m, l.rep a vs m → vs.length ≤ 100) : PE X (.Tuple es x1 pos) (TX c ds (tTup X.K l) xa) :=
  PE.imp (pe_tup h) fun σ H Q ⟨m, st, env, p⟩ => ⟨m, st, env, p.imp fun a s1 p vs m1 H1 w1 a1 r1 => ⟨Nat.le_trans (hl a vs m1 r1) (by decide), fun q hq => by
    have w2 : WStep [] m1 H1 (upd m1 q (.tup vs)) (upd H1 q (.tup vs)) := .new w1.mh hq
    exact p (.ref q) _ _ (w1.trans w2.wide) (EnvOk.ambGrow a1 w2) ⟨q, vs, rfl, .of upd_same, l.mono w2.mm r1⟩⟩⟩
/-- several expressions of one type -/
structure LRep {A : Type} (t : Ty A) (l : LTy B) (n : Nat) (f : B → List A) : Prop where
  rep : ∀ b vs m, l.rep b vs m → Reps t m (f b) vs
  len : ∀ b vs m, l.rep b vs m → vs.length = n
theorem lr_nil : LRep t1 l0 0 (fun _ => []) := ⟨fun _ _ _ h => by cases h; exact .nil, fun _ _ _ h => by cases h; rfl⟩
theorem lr_one : LRep t1 (l1 t1) 1 (fun a => [a]) := ⟨fun _ _ _ ⟨v, e, r⟩ => by subst e; exact .cons r .nil, fun _ _ _ ⟨v, e, r⟩ => by subst e; rfl⟩
theorem lr_cons {l : LTy B} {n : Nat} {f : B → List A} (h : LRep t1 l n f) : LRep t1 (lc t1 l) (n + 1) (fun a => a.1 :: f a.2) := ⟨fun _ _ _ ⟨v, ws, e, r, q⟩ => by subst e; exact .cons r (h.rep _ _ _ q), fun _ _ _ ⟨v, ws, e, r, q⟩ => by subst e; rw [List.length_cons, h.len _ _ _ q]⟩
theorem x_lst {es : List Expr} {l : LTy B} {xa : MM T B} {f : B → List A} {n : Nat} (h : PA X es (TAX c ds l xa)) (hl : LRep t l n f) (hn : n ≤ 10000 := by decide) : PE X (.List es pos) (TXO c ds (oList t) (e1 (fun b => some (f b)) xa)) :=
  PE.imp (pe_lst h) fun σ H Q ⟨m, st, env, p⟩ => ⟨m, st, env, (Post.bnd.mp p).imp fun a s1 p vs m1 H1 w1 a1 r1 => ⟨Nat.le_trans (Nat.le_trans (Nat.le_of_eq (hl.len a vs m1 r1)) hn) (by decide), fun q hq => by
    have w2 : WStep [] m1 H1 m1 (upd H1 q (.lst vs)) := .own w1.mh hq
    have hn : H q = none := by
      cases z : H q with
      | none => rfl
      | some o => exact absurd hq (w1.dm q (by rw [z]; exact fun y => nomatch y))
    exact p (.ref q) [q] m1 _ (w1.trans w2.wide) (EnvOk.ambGrow a1 w2) (fun y hy => by obtain rfl := List.mem_singleton.mp hy; exact ⟨hn, w1.mh.free hq⟩) ⟨q, vs, rfl, rfl, upd_same, hl.rep a vs m1 r1⟩⟩⟩
theorem x_tupV {es : List Expr} {l : LTy B} {xa : MM T B} {f : B → List A} {n : Nat} {x1} (h : PA X es (TAX c ds l xa)) (hl : LRep t l n f) (hn : n ≤ 10000 := by decide) : PE X (.Tuple es x1 pos) (TX c ds (tVT X.K t) (e1 (fun b => some (f b)) xa)) :=
  PE.imp (pe_tup h) fun σ H Q ⟨m, st, env, p⟩ => ⟨m, st, env, (Post.bnd.mp p).imp fun a s1 p vs m1 H1 w1 a1 r1 => ⟨Nat.le_trans (Nat.le_trans (Nat.le_of_eq (hl.len a vs m1 r1)) hn) (by decide), fun q hq => by
    have w2 : WStep [] m1 H1 (upd m1 q (.tup vs)) (upd H1 q (.tup vs)) := .new w1.mh hq
    exact p (.ref q) _ _ (w1.trans w2.wide) (EnvOk.ambGrow a1 w2) ⟨q, vs, rfl, .of upd_same, (hl.rep a vs m1 r1).mono w2.mm⟩⟩⟩
/-- an owned object made, then it stays -/
theorem x_frz {o : OTy A} {xa : MM T A} (hf : Freezes o t) (h : PE X e (TXO c ds o xa)) : PE X e (TX c ds t xa) := PE.imp h fun σ H Q ⟨m, st, env, p⟩ =>
  ⟨m, st, env, p.imp fun a s1 p v fp m1 H1 w1 a1 n1 r1 => by
    obtain ⟨m2, s2, s3, s4, r2⟩ := hf a v fp H1 m1 r1 w1.mh fun q hq => (n1 q hq).2
    refine p v m2 H1 ⟨w1.mm.trans s2, s3, w1.hh, fun y e n => ?_, w1.dm⟩ (c.ambF (fun _ _ => rfl) s2 a1) r2
    rw [s4 y fun z => n (n1 y z).1]
    exact w1.ow y e n⟩
/-! tests -/
theorem t_val {xa : MM T Bool} (h : PE X e (TX c ds tBool xa)) (he : ∀ whole, isTrue e X.env whole = (do let v ← whole; standAt e.pos; holding [v] (truthy v)) := by intro _; rfl) : PT X e (TTX c ds xa) :=
  PT.imp (pt_val h he) fun σ H Q ⟨m, st, env, p⟩ => ⟨m, st, env, p.imp fun a s1 p v m1 H1 w1 a1 r1 => ⟨a, r1, p m1 H1 w1 a1⟩⟩
theorem t_cmp {op : CmpOp} {r : R2} {f : A → B → Option Bool} {xa : MM T A} {xb : MM T B} (ho : OpR X (compareOp op) r) (hs : Op2 r t1 t2 tBool f) (ha : PE X a (TX c ds t1 xa)) (hb : PE X b (TX c ds t2 xb)) (hm : behindInMarks op b = false := by first | exact nomark _ | rfl) :
    PT X (.Compare a [op] [b] pos) (TTX c ds (e2 f xa xb)) := PT.imp (pt_cmpR ho ha hb hm) fun σ H Q ⟨m, st, env, p⟩ => by
  have h : TX c ds tBool (e2 f xa xb) σ H (fun x H' => ∃ k, x = .bl k ∧ Q k H') := ⟨m, st, env, p.imp fun a s1 p v m1 H1 w1 a1 r1 => ⟨a, r1, p m1 H1 w1 a1⟩⟩
  exact rd_op2 hs h
theorem t_not {xa : MM T Bool} (h : PT X a (TTX c ds xa)) : PT X (.UnaryOp .Not a pos) (TTX c ds (eNot xa)) := PT.imp (pt_not h) fun σ H Q ⟨m, st, env, p⟩ => ⟨m, st, env, (Post.bnd.mp p).imp fun a s1 p m1 H1 w1 a1 => p m1 H1 w1 a1⟩
theorem w_and1 {xa : MM T Bool} (h : PT X a (TTX c ds xa)) : PW X (.BoolOp .And [a] pos) (TTX c ds xa) := pw_and1 h
theorem w_or1 {xa : MM T Bool} (h : PT X a (TTX c ds xa)) : PW X (.BoolOp .Or [a] pos) (TTX c ds xa) := pw_or1 h
theorem rd_and {xa xb : MM T Bool} {σ H} {Q : Bool → Hp → Prop} (h : TTX c ds (eAnd xa xb) σ H Q) : tAnd (TTX c ds xa) (TTX c ds xb) σ H Q := by
  obtain ⟨m, st, env, p⟩ := h
  unfold eAnd at p
  refine ⟨m, st, env, (Post.bnd.mp p).imp fun a s1 p m1 H1 w1 a1 => ?_⟩
  cases a with
  | true =>
    rw [if_pos rfl] at p ⊢
    exact ⟨m1, s1, env.go w1 a1, p.imp fun b s2 p m2 H2 w2 a2 => p m2 H2 (w1.trans w2) a2⟩
  | false =>
    rw [if_neg Bool.false_ne_true] at p ⊢
    exact p m1 H1 w1 a1
theorem rd_or {xa xb : MM T Bool} {σ H} {Q : Bool → Hp → Prop} (h : TTX c ds (eOr xa xb) σ H Q) : tOr (TTX c ds xa) (TTX c ds xb) σ H Q := by
  obtain ⟨m, st, env, p⟩ := h
  unfold eOr at p
  refine ⟨m, st, env, (Post.bnd.mp p).imp fun a s1 p m1 H1 w1 a1 => ?_⟩
  cases a with
  | true =>
    rw [if_pos rfl] at p ⊢
    exact p m1 H1 w1 a1
  | false =>
    rw [if_neg Bool.false_ne_true] at p ⊢
    exact ⟨m1, s1, env.go w1 a1, p.imp fun b s2 p m2 H2 w2 a2 => p m2 H2 (w1.trans w2) a2⟩
theorem w_and {rest : List Expr} {xa xb : MM T Bool} (ha : PT X a (TTX c ds xa)) (hb : PW X (.BoolOp .And (b :: rest) pos) (TTX c ds xb)) : PW X (.BoolOp .And (a :: b :: rest) pos) (TTX c ds (eAnd xa xb)) :=
  ⟨fun w pins s σ H Q I q => (pw_and ha hb).run w pins s σ H Q I (rd_and q)⟩
theorem w_or {rest : List Expr} {xa xb : MM T Bool} (ha : PT X a (TTX c ds xa)) (hb : PW X (.BoolOp .Or (b :: rest) pos) (TTX c ds xb)) : PW X (.BoolOp .Or (a :: b :: rest) pos) (TTX c ds (eOr xa xb)) :=
  ⟨fun w pins s σ H Q I q => (pw_or ha hb).run w pins s σ H Q I (rd_or q)⟩
/-! and, or, not as values -/
theorem x_and1 {op} {xa : MM T A} (h : PE X a (TX c ds t xa)) : PE X (.BoolOp op [a] pos) (TX c ds t xa) := pe_one h
theorem x_and {rest : List Expr} {xa xb : MM T Bool} (ha : PE X a (TX c ds tBool xa)) (hb : PE X (.BoolOp .And (b :: rest) pos) (TX c ds tBool xb)) : PE X (.BoolOp .And (a :: b :: rest) pos) (TX c ds tBool (eAnd xa xb)) :=
  PE.imp (pe_and ha hb) fun σ H Q ⟨m, st, env, p⟩ => by
    unfold eAnd at p
    refine ⟨m, st, env, (Post.bnd.mp p).imp fun a s1 p v m1 H1 w1 a1 r1 => ⟨a, r1, ?_⟩⟩
    cases a with
    | true =>
      rw [if_pos rfl] at p ⊢
      exact ⟨m1, s1, env.go w1 a1, p.imp fun b s2 p v2 m2 H2 w2 a2 r2 => p v2 m2 H2 (w1.trans w2) a2 r2⟩
    | false =>
      rw [if_neg Bool.false_ne_true] at p ⊢
      exact p _ m1 H1 w1 a1 rfl
theorem x_or {rest : List Expr} {xa xb : MM T Bool} (ha : PE X a (TX c ds tBool xa)) (hb : PE X (.BoolOp .Or (b :: rest) pos) (TX c ds tBool xb)) : PE X (.BoolOp .Or (a :: b :: rest) pos) (TX c ds tBool (eOr xa xb)) :=
  PE.imp (pe_or ha hb) fun σ H Q ⟨m, st, env, p⟩ => by
    unfold eOr at p
    refine ⟨m, st, env, (Post.bnd.mp p).imp fun a s1 p v m1 H1 w1 a1 r1 => ⟨a, r1, ?_⟩⟩
    cases a with
    | true =>
      rw [if_pos rfl] at p ⊢
      exact p _ m1 H1 w1 a1 rfl
    | false =>
      rw [if_neg Bool.false_ne_true] at p ⊢
      exact ⟨m1, s1, env.go w1 a1, p.imp fun b s2 p v2 m2 H2 w2 a2 r2 => p v2 m2 H2 (w1.trans w2) a2 r2⟩
theorem x_not {xa : MM T Bool} (h : PE X a (TX c ds tBool xa)) : PE X (.UnaryOp .Not a pos) (TX c ds tBool (eNot xa)) := PE.imp (pe_not h) fun σ H Q ⟨m, st, env, p⟩ =>
  ⟨m, st, env, (Post.bnd.mp p).imp fun a s1 p v m1 H1 w1 a1 r1 => ⟨a, r1, p _ m1 H1 w1 a1 rfl⟩⟩
theorem x_if {xc : MM T Bool} {xa xb : MM T A} {cnd : Expr} (hc : PT X cnd (TTX c ds xc)) (ha : PE X a (TX c ds t xa)) (hb : PE X b (TX c ds t xb)) : PE X (.IfExp cnd a b pos) (TX c ds t (eIf xc xa xb)) :=
  PE.imp (pe_ifExp hc ha hb) fun σ H Q ⟨m, st, env, p⟩ => by
    unfold eIf at p
    refine ⟨m, st, env, (Post.bnd.mp p).imp fun a s1 p m1 H1 w1 a1 => ?_⟩
    cases a with
    | true =>
      rw [if_pos rfl] at p ⊢
      exact ⟨m1, s1, env.go w1 a1, p.imp fun b s2 p v2 m2 H2 w2 a2 r2 => p v2 m2 H2 (w1.trans w2) a2 r2⟩
    | false =>
      rw [if_neg Bool.false_ne_true] at p ⊢
      exact ⟨m1, s1, env.go w1 a1, p.imp fun b s2 p v2 m2 H2 w2 a2 r2 => p v2 m2 H2 (w1.trans w2) a2 r2⟩
end
end WL

/-! WLC: operators by types, calls of defs, statements, loops. -/
namespace WL
open PySem PySem.Spec PyProof.Rows L2

/-! ### operators -/
def oAdd (a b : Int) : Option Int := some (a + b)
def oSub (a b : Int) : Option Int := some (a - b)
def oMul (a b : Int) : Option Int := if (-(2 ^ 64) < a ∧ a < 2 ^ 64) ∨ (-(2 ^ 64) < b ∧ b < 2 ^ 64) then some (a * b) else none
def oDiv (a b : Int) : Option Int := if 0 < b ∧ b < 2 ^ 200 then some (a / b) else none
def oMod (a b : Int) : Option Int := if 0 < b then some (a % b) else none
def oShl (a b : Int) : Option Int := if 0 ≤ b ∧ b ≤ 1000000 ∧ a.natAbs < 2 ^ 64 then some (a * 2 ^ b.toNat) else none
def oShr (a b : Int) : Option Int := if 0 ≤ b then some (a / 2 ^ b.toNat) else none
def oLt (a b : Int) : Option Bool := some (decide (a < b))
def oLe (a b : Int) : Option Bool := some (decide (a ≤ b))
def oGt (a b : Int) : Option Bool := some (decide (b < a))
def oGe (a b : Int) : Option Bool := some (decide (b ≤ a))
def oEq {A : Type} [DecidableEq A] (a b : A) : Option Bool := some (decide (a = b))
def oNe {A : Type} [DecidableEq A] (a b : A) : Option Bool := some (!decide (a = b))
def oNeg (a : Int) : Option Int := some (-a)
theorem rep_int {i : Int} {v : V} {m : Hp} (h : tInt.rep i v m) : v = .int i := h
theorem rep_bool {i : Bool} {v : V} {m : Hp} (h : tBool.rep i v m) : v = .bl i := h
theorem rep_str {i : Str} {v : V} {m : Hp} (h : tStr.rep i v m) : v = .str i := h
section
variable {g : Int → Int → Int} {p : Int → Int → Bool} {C D : Int → Int → Prop} [∀ a b, Decidable (D a b)]
theorem sp_I0 : Op2 (rI0 fun i j => .int (g i j)) tInt tInt tInt (fun a b => some (g a b)) := fun a b x v1 v2 m H Q r1 r2 hm e q => by
  cases rep_int r1; cases rep_int r2; cases e
  exact ⟨a, b, rfl, rfl, q _ m H (.refl hm) rfl⟩
theorem sp_B0 : Op2 (rI0 fun i j => .bl (p i j)) tInt tInt tBool (fun a b => some (p a b)) := fun a b x v1 v2 m H Q r1 r2 hm e q => by
  cases rep_int r1; cases rep_int r2; cases e
  exact ⟨a, b, rfl, rfl, q _ m H (.refl hm) rfl⟩
theorem sp_IC (h : ∀ a b, D a b → C a b) : Op2 (rI C fun i j => .int (g i j)) tInt tInt tInt (fun a b => if D a b then some (g a b) else none) := fun a b x v1 v2 m H Q r1 r2 hm e q => by
  cases rep_int r1; cases rep_int r2
  dsimp only at e
  by_cases z : D a b
  · rw [if_pos z] at e; cases e
    exact ⟨a, b, rfl, rfl, h a b z, q _ m H (.refl hm) rfl⟩
  · rw [if_neg z] at e; cases e
end
theorem sp_add : Op2 (rI0 fun i j => .int (i + j)) tInt tInt tInt oAdd := sp_I0
theorem sp_sub : Op2 (rI0 fun i j => .int (i - j)) tInt tInt tInt oSub := sp_I0
theorem sp_mul : Op2 (rI CMul fun i j => .int (i * j)) tInt tInt tInt oMul := sp_IC fun _ _ h => h
theorem log_small {b : Int} (h0 : 0 < b) (h : b < 2 ^ 200) : b.natAbs.log2 < 9000 := by
  have h1 : b.natAbs < 2 ^ 200 := by
    have e : ((b.natAbs : Nat) : Int) = b := Int.natAbs_of_nonneg (by omega)
    have : ((b.natAbs : Nat) : Int) < ((2 ^ 200 : Nat) : Int) := by rw [e]; exact_mod_cast h
    exact_mod_cast this
  have h2 : b.natAbs ≠ 0 := by omega
  have := (Nat.log2_lt h2).mpr h1
  omega
theorem sp_div : Op2 (rI CDivW fun i j => .int (i / j)) tInt tInt tInt oDiv := sp_IC (C := CDivW) (D := fun _ b => 0 < b ∧ b < 2 ^ 200) (g := fun i j => i / j) fun _ _ h => ⟨h.1, log_small h.1 h.2⟩
theorem sp_mod : Op2 (rI (fun _ j => 0 < j) fun i j => .int (i % j)) tInt tInt tInt oMod := sp_IC (C := fun _ j => 0 < j) (D := fun _ b => 0 < b) (g := fun i j => i % j) fun _ _ h => h
theorem sp_shl : Op2 (rI CPow fun i j => .int (i * 2 ^ j.toNat)) tInt tInt tInt oShl := sp_IC (C := CPow) (D := fun a b => 0 ≤ b ∧ b ≤ 1000000 ∧ a.natAbs < 2 ^ 64) (g := fun i j => i * 2 ^ j.toNat) fun _ _ h => h
theorem sp_shr : Op2 (rI (fun _ j => 0 ≤ j) fun i j => .int (i / 2 ^ j.toNat)) tInt tInt tInt oShr := sp_IC (C := fun _ j => 0 ≤ j) (D := fun _ b => 0 ≤ b) (g := fun i j => i / 2 ^ j.toNat) fun _ _ h => h
theorem sp_lt : Op2 (rI0 fun i j => .bl (decide (i < j))) tInt tInt tBool oLt := sp_B0
theorem sp_le : Op2 (rI0 fun i j => .bl (decide (i ≤ j))) tInt tInt tBool oLe := sp_B0
theorem sp_gt : Op2 (rI0 fun i j => .bl (decide (j < i))) tInt tInt tBool oGt := sp_B0
theorem sp_ge : Op2 (rI0 fun i j => .bl (decide (j ≤ i))) tInt tInt tBool oGe := sp_B0
/-- types whose values are told by ==, without objects -/
structure Scal {A : Type} [DecidableEq A] (t : Ty A) : Prop where
  sc : ∀ a b v w m n, t.rep a v m → t.rep b w n → scal v w = true
  eq : ∀ a b v w m n, t.rep a v m → t.rep b w n → decide (v = w) = decide (a = b)
theorem sc_int : Scal tInt := ⟨fun a b v w m n h k => by cases rep_int h; cases rep_int k; rfl, fun a b v w m n h k => by cases rep_int h; cases rep_int k; simp⟩
theorem sc_bool : Scal tBool := ⟨fun a b v w m n h k => by cases rep_bool h; cases rep_bool k; rfl, fun a b v w m n h k => by cases rep_bool h; cases rep_bool k; simp⟩
theorem sc_str : Scal tStr := ⟨fun a b v w m n h k => by cases rep_str h; cases rep_str k; rfl, fun a b v w m n h k => by cases rep_str h; cases rep_str k; simp⟩
theorem sc_optI : Scal (tOpt tInt) := ⟨fun a b v w m n h k => by
    cases a <;> cases b <;> simp only [tOpt, repO, tInt] at h k <;> subst h k <;> rfl, fun a b v w m n h k => by
    cases a <;> cases b <;> simp only [tOpt, repO, tInt] at h k <;> subst h k <;> simp⟩
theorem sp_eq {A : Type} [DecidableEq A] {t : Ty A} (s : Scal t) : Op2 rEq t t tBool oEq := fun a b x v1 v2 m H Q r1 r2 hm e q => by
  cases e
  exact ⟨s.sc a b v1 v2 m m r1 r2, q _ m H (.refl hm) (by rw [s.eq a b v1 v2 m m r1 r2]; rfl)⟩
theorem sp_ne {A : Type} [DecidableEq A] {t : Ty A} (s : Scal t) : Op2 rNe t t tBool oNe := fun a b x v1 v2 m H Q r1 r2 hm e q => by
  cases e
  exact ⟨s.sc a b v1 v2 m m r1 r2, q _ m H (.refl hm) (by rw [s.eq a b v1 v2 m m r1 r2]; rfl)⟩
theorem sp_neg : Op1 (rU fun i => .int (-i)) tInt tInt oNeg := fun a x v m H Q r hm e q => by
  cases rep_int r; cases e
  exact ⟨a, rfl, q _ m H (.refl hm) rfl⟩
/-! is None -/
structure NotNone {A : Type} (t : Ty A) : Prop where
  no : ∀ a m, ¬ t.rep a .non m
theorem nn_int : NotNone tInt := ⟨fun a m h => by cases rep_int h⟩
theorem nn_bool : NotNone tBool := ⟨fun a m h => by cases rep_bool h⟩
theorem nn_str : NotNone tStr := ⟨fun a m h => by cases rep_str h⟩
theorem nn_list {A : Type} {t : Ty A} : NotNone (tList t) := ⟨fun a m ⟨p, vs, e, _⟩ => nomatch e⟩
theorem nn_vt {A : Type} {K : PySem.W.Frag} {t : Ty A} : NotNone (tVT K t) := ⟨fun a m ⟨p, vs, e, _⟩ => nomatch e⟩
theorem nn_tup {A : Type} {K : PySem.W.Frag} {l : LTy A} : NotNone (tTup K l) := ⟨fun a m ⟨p, vs, e, _⟩ => nomatch e⟩
def oIsN {A : Type} (a : Option A) (_ : Unit) : Option Bool := some a.isNone
def oNotN {A : Type} (a : Option A) (_ : Unit) : Option Bool := some (!a.isNone)
theorem dec_non {A : Type} {t : Ty A} (n : NotNone t) {o : Option A} {v : V} {m : Hp} (h : (tOpt t).rep o v m) : decide (v = .non) = o.isNone := by
  cases o with
  | none => have : v = .non := h; rw [this]; rfl
  | some a =>
    have h' : t.rep a v m := h
    have : ¬ v = .non := fun e => n.no a m (by rw [← e]; exact h')
    rw [decide_eq_false this]; rfl
theorem sp_isN {A : Type} {t : Ty A} (n : NotNone t) : Op2 (fun x y H Q => y = .non ∧ Q (.bl (decide (x = .non))) H) (tOpt t) tNon tBool oIsN := fun a b x v1 v2 m H Q r1 r2 hm e q => by
  cases e
  exact ⟨r2, by rw [dec_non n r1]; exact q _ m H (.refl hm) rfl⟩
theorem sp_notN {A : Type} {t : Ty A} (n : NotNone t) : Op2 (fun x y H Q => y = .non ∧ Q (.bl (!decide (x = .non))) H) (tOpt t) tNon tBool oNotN := fun a b x v1 v2 m H Q r1 r2 hm e q => by
  cases e
  exact ⟨r2, by rw [dec_non n r1]; exact q _ m H (.refl hm) rfl⟩
/-! lists and tuples: len, items -/
def oLen {A : Type} (xs : List A) : Option Int := some (xs.length : Int)
def rLen (K : PySem.W.Frag) : List V → Hp → VK → Prop := fun xs H Q => ∃ p ys, xs = [.ref p] ∧ (SqL K H p ys ∨ SqT K H p ys) ∧ Q (.int ys.length) H
theorem call_len' {X : Cx} : CallR X (.builtin "len") (rLen X.K) := call_len_seq
theorem sp_lenL {A : Type} {K : PySem.W.Frag} {t : Ty A} : OpL (rLen K) (l1 (tList t)) tInt oLen := fun a g vs m H Q ⟨v, ev, p, us, e1, k, r⟩ hm e q => by
  cases e; subst ev e1
  exact ⟨p, us, rfl, .inl (.of (hm _ _ k)), q _ m H (.refl hm) (by show V.int _ = V.int _; rw [r.length])⟩
theorem sp_lenS {A : Type} {K : PySem.W.Frag} {t : Ty A} : OpL (rLen K) (l1 (tSeq K t)) tInt oLen := fun a g vs m H Q ⟨v, ev, p, us, e1, k, r⟩ hm e q => by
  cases e; subst ev e1
  exact ⟨p, us, rfl, .inl (hm.sqL k), q _ m H (.refl hm) (by show V.int _ = V.int _; rw [r.length])⟩
theorem sp_lenT {A : Type} {K : PySem.W.Frag} {t : Ty A} : OpL (rLen K) (l1 (tVT K t)) tInt oLen := fun a g vs m H Q ⟨v, ev, p, us, e1, k, r⟩ hm e q => by
  cases e; subst ev e1
  exact ⟨p, us, rfl, .inr (hm.sqT k), q _ m H (.refl hm) (by show V.int _ = V.int _; rw [r.length])⟩
def oAt {A : Type} (xs : List A) (i : Int) : Option A := atI xs i
theorem at_reps {A : Type} {t : Ty A} {m : Hp} {xs : List A} {vs : List V} {i : Int} {a : A} (r : Reps t m xs vs) (h : atI xs i = some a) : ∃ v, atI vs i = some v ∧ t.rep a v m := by
  unfold atI at h ⊢
  rw [← r.length]
  cases e : ixN xs.length i with
  | none => rw [e] at h; cases h
  | some j => rw [e] at h; exact r.get h
theorem sp_atL {A : Type} {K : PySem.W.Frag} {t : Ty A} : Op2 (rIxL K) (tList t) tInt t oAt := fun a b x v1 v2 m H Q ⟨p, us, e1, k, r⟩ r2 hm e q => by
  cases rep_int r2
  obtain ⟨v, hv, rv⟩ := at_reps r e
  exact ⟨p, us, b, v, e1, rfl, .of (hm _ _ k), hv, q v m H (.refl hm) rv⟩
theorem sp_atS {A : Type} {K : PySem.W.Frag} {t : Ty A} : Op2 (rIxL K) (tSeq K t) tInt t oAt := fun a b x v1 v2 m H Q ⟨p, us, e1, k, r⟩ r2 hm e q => by
  cases rep_int r2
  obtain ⟨v, hv, rv⟩ := at_reps r e
  exact ⟨p, us, b, v, e1, rfl, hm.sqL k, hv, q v m H (.refl hm) rv⟩
theorem sp_atT {A : Type} {K : PySem.W.Frag} {t : Ty A} : Op2 (rIxT K) (tVT K t) tInt t oAt := fun a b x v1 v2 m H Q ⟨p, us, e1, k, r⟩ r2 hm e q => by
  cases rep_int r2
  obtain ⟨v, hv, rv⟩ := at_reps r e
  exact ⟨p, us, b, v, e1, rfl, hm.sqT k, hv, q v m H (.refl hm) rv⟩
/-- the n-th place of a tuple of so many places -/
structure LProj {A B : Type} (l : LTy A) (n : Nat) (t : Ty B) (f : A → B) : Prop where
  at_ : ∀ a vs m, l.rep a vs m → ∃ v, vs[n]? = some v ∧ t.rep (f a) v m
theorem lp_1 {A : Type} {t : Ty A} : LProj (l1 t) 0 t id := ⟨fun a vs m ⟨v, e, r⟩ => ⟨v, by rw [e]; rfl, r⟩⟩
theorem lp_z {A B : Type} {t : Ty A} {l : LTy B} : LProj (lc t l) 0 t Prod.fst := ⟨fun a vs m ⟨v, ws, e, r, _⟩ => ⟨v, by rw [e]; rfl, r⟩⟩
theorem lp_s {A B C : Type} {t : Ty A} {u : Ty C} {l : LTy B} {n : Nat} {f : B → C} (h : LProj l n u f) : LProj (lc t l) (n + 1) u (fun a => f a.2) := ⟨fun a vs m ⟨v, ws, e, _, q⟩ => by
  obtain ⟨w, h1, h2⟩ := h.at_ a.2 ws m q
  exact ⟨w, by rw [e]; exact h1, h2⟩⟩
def eProj {T A B : Type} (f : A → B) (x : MM T A) : MM T B := bnd x fun a => ret (f a)
section
variable {X : Cx} {T A B C : Type} {c : Ctx T} {ds : List Desc} {pos : Pos} {a : Expr}
theorem x_proj {l : LTy A} {t : Ty B} {f : A → B} {xa : MM T A} {j : _} {p2 : Pos} (n : Nat) (hp : LProj l n t f) (ha : PE X a (TX c ds (tTup X.K l) xa)) : PE X (.Subscript a (.Constant (.int (n : Int)) j p2) pos) (TX c ds t (eProj f xa)) :=
  PE.imp (pe_ix ix_tup ha pe_int (fun _ _ => rfl)) fun σ H Q ⟨m, st, env, p⟩ => by
    refine ⟨m, st, env, (Post.bnd.mp p).imp fun a s1 p v m1 H1 w1 a1 ⟨q, vs, e, k, r⟩ => ?_⟩
    obtain ⟨u, hu, ru⟩ := hp.at_ a vs m1 r
    exact ⟨q, vs, n, u, e, rfl, w1.mh.sqT k, atI_nat hu, p u m1 H1 w1 a1 ru⟩
end
/-! texts -/
def oLenStr (x : Str) : Option Int := if x.length ≤ 100000 then some (x.length : Int) else none
theorem sp_lenStr : OpL (fun xs H Q => ∃ z, xs = [.str z] ∧ z.length ≤ sizeLine ∧ Q (.int z.length) H) (l1 tStr) tInt oLenStr := fun a g vs m H Q ⟨v, ev, r⟩ hm e q => by
  cases rep_str r; subst ev
  unfold oLenStr at e
  by_cases z : a.length ≤ 100000
  · rw [if_pos z] at e; cases e
    exact ⟨a, rfl, Nat.le_trans z (by decide), q _ m H (.refl hm) rfl⟩
  · rw [if_neg z] at e; cases e
def oAtStr (x : Str) (i : Int) : Option Str := if x.length ≤ 100000 then (atI x.cps.toList i).map fun c => ⟨#[c]⟩ else none
theorem sp_atStr : Op2 rIxS tStr tInt tStr oAtStr := fun a b g v1 v2 m H Q r1 r2 hm e q => by
  cases rep_str r1; cases rep_int r2
  unfold oAtStr at e
  by_cases z : a.length ≤ 100000
  · rw [if_pos z] at e
    cases h : atI a.cps.toList b with
    | none => rw [h] at e; cases e
    | some ch => rw [h] at e; cases e; exact ⟨a, b, ch, rfl, rfl, Nat.le_trans z (by decide), h, q _ m H (.refl hm) rfl⟩
  · rw [if_neg z] at e; cases e
/-! small built-ins -/
def oAbs (i : Int) : Option Int := some (if i < 0 then -i else i)
theorem sp_abs : OpL (fun xs H Q => ∃ i, xs = [.int i] ∧ Q (.int (if i < 0 then -i else i)) H) (l1 tInt) tInt oAbs := fun a g vs m H Q ⟨v, ev, r⟩ hm e q => by
  cases rep_int r; subst ev; cases e
  exact ⟨a, rfl, q _ m H (.refl hm) rfl⟩
def oIntI (i : Int) : Option Int := some i
def oIntB (b : Bool) : Option Int := some (if b then 1 else 0)
def rInt1 : List V → Hp → VK → Prop := fun xs H Q => (∃ i, xs = [.int i] ∧ Q (.int i) H) ∨ ∃ k, xs = [.bl k] ∧ Q (.int (if k then 1 else 0)) H
theorem sp_intI : OpL rInt1 (l1 tInt) tInt oIntI := fun a g vs m H Q ⟨v, ev, r⟩ hm e q => by
  cases rep_int r; subst ev; cases e
  exact .inl ⟨a, rfl, q _ m H (.refl hm) rfl⟩
theorem sp_intB : OpL rInt1 (l1 tBool) tInt oIntB := fun a g vs m H Q ⟨v, ev, r⟩ hm e q => by
  cases rep_bool r; subst ev; cases e
  exact .inr ⟨a, rfl, q _ m H (.refl hm) rfl⟩
def oMax2 (p : Int × Int) : Option Int := some (if p.2 > p.1 then p.2 else p.1)
def oMin2 (p : Int × Int) : Option Int := some (if p.2 < p.1 then p.2 else p.1)
theorem sp_max2 : OpL (fun xs H Q => ∃ i j, xs = [.int i, .int j] ∧ Q (.int (if j > i then j else i)) H) (lc tInt (l1 tInt)) tInt oMax2 := fun a g vs m H Q ⟨v, ws, ev, r1, w, ew, r2⟩ hm e q => by
  cases rep_int r1; cases rep_int r2; subst ev ew; cases e
  exact ⟨a.1, a.2, rfl, q _ m H (.refl hm) rfl⟩
theorem sp_min2 : OpL (fun xs H Q => ∃ i j, xs = [.int i, .int j] ∧ Q (.int (if j < i then j else i)) H) (lc tInt (l1 tInt)) tInt oMin2 := fun a g vs m H Q ⟨v, ws, ev, r1, w, ew, r2⟩ hm e q => by
  cases rep_int r1; cases rep_int r2; subst ev ew; cases e
  exact ⟨a.1, a.2, rfl, q _ m H (.refl hm) rfl⟩
def oSum (xs : List Int) : Option Int := some xs.sum
def oAny (xs : List Bool) : Option Bool := some (xs.any id)
def oAll (xs : List Bool) : Option Bool := some (xs.all id)
theorem sp_sum {K : PySem.W.Frag} : OpL (rSum K) (l1 (tList tInt)) tInt oSum := fun a g vs m H Q ⟨v, ev, p, us, e1, k, r⟩ hm e q => by
  cases r.ints; subst ev e1; cases e
  exact ⟨p, a, rfl, .of (hm _ _ k), q _ m H (.refl hm) rfl⟩
theorem sp_any {K : PySem.W.Frag} : OpL (rAny K) (l1 (tList tBool)) tBool oAny := fun a g vs m H Q ⟨v, ev, p, us, e1, k, r⟩ hm e q => by
  cases r.bools; subst ev e1; cases e
  exact ⟨p, a, rfl, .of (hm _ _ k), q _ m H (.refl hm) rfl⟩
theorem sp_all {K : PySem.W.Frag} : OpL (rAll K) (l1 (tList tBool)) tBool oAll := fun a g vs m H Q ⟨v, ev, p, us, e1, k, r⟩ hm e q => by
  cases r.bools; subst ev e1; cases e
  exact ⟨p, a, rfl, .of (hm _ _ k), q _ m H (.refl hm) rfl⟩
/-- max and min of a list of ints -/
def maxL : List Int → Option Int
  | [] => none
  | x :: r => some (r.foldl (fun a b => if b > a then b else a) x)
def minL : List Int → Option Int
  | [] => none
  | x :: r => some (r.foldl (fun a b => if b < a then b else a) x)
theorem foldMax : ∀ (r : List Int) (x : Int), (r.foldl (fun a b => if b > a then b else a) x = x ∨ r.foldl (fun a b => if b > a then b else a) x ∈ r) ∧ x ≤ r.foldl (fun a b => if b > a then b else a) x ∧ ∀ y ∈ r, y ≤ r.foldl (fun a b => if b > a then b else a) x
  | [], x => ⟨.inl rfl, Int.le_refl _, fun y h => by simp at h⟩
  | z :: r, x => by
    obtain ⟨h1, h2, h3⟩ := foldMax r (if z > x then z else x)
    simp only [List.foldl_cons]
    refine ⟨?_, ?_, fun y hy => ?_⟩
    · rcases h1 with e | e
      · rw [e]; split
        · exact .inr List.mem_cons_self
        · exact .inl rfl
      · exact .inr (List.mem_cons_of_mem _ e)
    · refine Int.le_trans ?_ h2; split <;> omega
    · rcases List.mem_cons.mp hy with rfl | hy
      · refine Int.le_trans ?_ h2; split <;> omega
      · exact h3 y hy
theorem foldMin : ∀ (r : List Int) (x : Int), (r.foldl (fun a b => if b < a then b else a) x = x ∨ r.foldl (fun a b => if b < a then b else a) x ∈ r) ∧ r.foldl (fun a b => if b < a then b else a) x ≤ x ∧ ∀ y ∈ r, r.foldl (fun a b => if b < a then b else a) x ≤ y
  | [], x => ⟨.inl rfl, Int.le_refl _, fun y h => by simp at h⟩
  | z :: r, x => by
    obtain ⟨h1, h2, h3⟩ := foldMin r (if z < x then z else x)
    simp only [List.foldl_cons]
    refine ⟨?_, ?_, fun y hy => ?_⟩
    · rcases h1 with e | e
      · rw [e]; split
        · exact .inr List.mem_cons_self
        · exact .inl rfl
      · exact .inr (List.mem_cons_of_mem _ e)
    · refine Int.le_trans h2 ?_; split <;> omega
    · rcases List.mem_cons.mp hy with rfl | hy
      · refine Int.le_trans h2 ?_; split <;> omega
      · exact h3 y hy
theorem sp_maxL {K : PySem.W.Frag} : OpL (rMax K) (l1 (tList tInt)) tInt maxL := fun a g vs m H Q ⟨v, ev, p, us, e1, k, r⟩ hm e q => by
  cases r.ints; subst ev e1
  cases a with
  | nil => cases e
  | cons x r0 =>
    cases e
    obtain ⟨h1, h2, h3⟩ := foldMax r0 x
    refine ⟨p, x :: r0, rfl, .of (hm _ _ k), Nat.zero_lt_succ _, fun mx hm1 hm2 => ?_⟩
    have e : mx = r0.foldl (fun a b => if b > a then b else a) x := by
      refine Int.le_antisymm ?_ (hm2 _ ?_)
      · rcases List.mem_cons.mp hm1 with rfl | z
        · exact h2
        · exact h3 _ z
      · rcases h1 with z | z
        · rw [z]; exact List.mem_cons_self
        · exact List.mem_cons_of_mem _ z
    rw [e]
    exact q _ m H (.refl hm) rfl
theorem sp_minL {K : PySem.W.Frag} : OpL (rMin K) (l1 (tList tInt)) tInt minL := fun a g vs m H Q ⟨v, ev, p, us, e1, k, r⟩ hm e q => by
  cases r.ints; subst ev e1
  cases a with
  | nil => cases e
  | cons x r0 =>
    cases e
    obtain ⟨h1, h2, h3⟩ := foldMin r0 x
    refine ⟨p, x :: r0, rfl, .of (hm _ _ k), Nat.zero_lt_succ _, fun mx hm1 hm2 => ?_⟩
    have e : mx = r0.foldl (fun a b => if b < a then b else a) x := by
      refine Int.le_antisymm (hm2 _ ?_) ?_
      · rcases h1 with z | z
        · rw [z]; exact List.mem_cons_self
        · exact List.mem_cons_of_mem _ z
      · rcases List.mem_cons.mp hm1 with rfl | z
        · exact h2
        · exact h3 _ z
    rw [e]
    exact q _ m H (.refl hm) rfl

/-! ### what a def promises -/
def fld : Nat → Str
  | 0 => "at" | 1 => "name" | 2 => "name" | 3 => "limit" | _ => "why"
/-- at d: the dict of the error e, made since H0 -/
def XdAt (H0 m H : Hp) (d : Addr) (e : Exn) : Prop := H d = some (.xd [(fld e.k, e.a)]) ∧ m d = none ∧ H0 d = none
/-- the errors that c lets out are what W takes -/
def ErrC {T : Type} (c : Ctx T) (W : WX) : Prop := ∀ (e : Exn) (st : T) (d : Addr) (σ : L2.St) (m H : Hp) (ds : List Desc), c.err e st → EnvOk c σ m H ds st → XdAt c.H0 m H d e → d ∉ c.afp → W (.ref (c.cls e.k)) (some d) σ H
theorem xd_up {T : Type} {c : Ctx T} {σ : L2.St} {m1 H1 m H : Hp} {ds : List Desc} {st : T} {d : Addr} {e : Exn} (env : EnvOk c σ m1 H1 ds st) (h : XdAt H1 m H d e) : XdAt c.H0 m H d e ∧ d ∉ c.afp := by
  refine ⟨⟨h.1, h.2.1, ?_⟩, fun z => c.ambD env.amb d z h.2.2⟩
  cases q : c.H0 d with
  | none => rfl
  | some o => exact absurd h.2.2 (env.step.dm d (by rw [q]; exact fun y => nomatch y))
theorem ErrC.pin {T : Type} {c : Ctx T} {W : WX} {q : Hp → Prop} {hq : ∀ {m n : Hp}, Sub m n → q m → q n} (h : ErrC c W) : ErrC (c.pinned q hq) W := fun e st d σ m H ds h1 h2 h3 h4 => h e st d σ m H ds h1 h2.unpin h3 h4
theorem ErrC.no {T : Type} {c : Ctx T} : ErrC c.nox (fun _ _ _ _ => False) := fun _ _ _ _ _ _ _ h => h.elim
theorem takesN {X : Cx} : Takes X (fun _ _ _ _ => False) := fun _ _ x => by
  obtain ⟨_, _, _, _, _, _, _, _, _, _, _, _, _, _, _, _, z⟩ := x
  exact z.elim
/-- a def without state: its arguments, its value, what it computes -/
def SpF {A B : Type} (cls : Nat → Addr) (l : LTy A) (t : Ty B) (f : A → MM Unit B) : Sp := fun vs H Q E => ∃ a m, l.rep a vs m ∧ Sub m H ∧
  Post (f a ()) (fun b _ => ∀ v m' H', WStep [] m H m' H' → t.rep b v m' → Q v H') (fun e _ => ∀ d m' H', WStep [] m H m' H' → XdAt H m' H' d e → E (.ref (cls e.k)) (some d) H')
section
variable {X : Cx} {T A B : Type} {c : Ctx T} {ds : List Desc} {pos : Pos} {k : Nat} {f : Addr} {fd : FuncData} {ps : List Str} {x : Str} {p : Pos} {e : Expr} {es : List Expr} {W : WX}
theorem x_call {l : LTy A} {t : Ty B} {fn : A → MM Unit B} {xa : MM T A} (F : FnOk X.prog X.w X.K X.mg X.base (L2.CX X.prog X.w) k f fd ps (SpF c.cls l t fn)) (hr : Room k X.A) (hm : X.mg x = some (.ref f)) (hk : PySem.W.keepIn X.K (.ref f) = true) (hb : Binds X.K fd ps [])
    (tk : Takes X W) (he : ErrC c W) (ha : PA X (e :: es) (TAX c ds l xa)) (hg : Gl X x := by rfl) (hdb : (x == ("__debug__" : Str)) = false := by decide)
    (h1 : starEach (e :: es) X.env = (false, eval e X.env) :: starEach es X.env := by rfl) (h2 : (backTo pos (starEach es X.env)).any (·.1) = false := by rfl) :
    PE X (.Call (.Name x p) (e :: es) [] pos) (TX c ds t (eCall fn xa)) := PE.imp (pe_callS F hr hg hm hk hb (fun σ => passAt tk σ) ha hdb h1 h2) fun σ H Q ⟨m, st, env, q⟩ =>
  ⟨m, st, env, (Post.bnd.mp q).imp fun a s1 q vs m1 H1 w1 a1 r1 => ⟨a, m1, r1, w1.mh, (Post.up.mp q).mono (fun b _ q v m' H' w2 r2 => q v m' H' (w1.trans w2.wide) (EnvOk.ambGrow a1 w2) r2)
    fun e _ q d m' H' w2 hd => he e s1 d σ m' H' ds q ((env.go w1 a1).grow w2) (xd_up (env.go w1 a1) hd).1 (xd_up (env.go w1 a1) hd).2⟩⟩
theorem x_call0 {t : Ty B} {fn : Unit → MM Unit B} (F : FnOk X.prog X.w X.K X.mg X.base (L2.CX X.prog X.w) k f fd ps (SpF c.cls l0 t fn)) (hr : Room k X.A) (hm : X.mg x = some (.ref f)) (hk : PySem.W.keepIn X.K (.ref f) = true) (hb : Binds X.K fd ps [])
    (hE : c.err = fun _ _ => False) (hg : Gl X x := by rfl) (hdb : (x == ("__debug__" : Str)) = false := by decide) :
    PE X (.Call (.Name x p) [] [] pos) (TX c ds t (eCall fn (ret ()))) := PE.imp (pe_call0 (E := E0) F hr hg hm hk hb .nil (fun _ _ _ _ _ _ _ h => by
      obtain ⟨_, _, _, _, _, _, _, _, _, _, _, _, z⟩ := h
      exact z.elim) hdb) fun σ H Q ⟨m, st, env, q⟩ => by
  refine ⟨(), m, rfl, env.mh, ?_⟩
  have q : Post (fn () ()) (fun a _ => ∀ v m' H', WStep c.afp m H m' H' → c.amb st H' m' → t.rep a v m' → Q v H') (fun e _ => c.err e st) := Post.up.mp q
  refine q.mono (fun b _ q v m' H' w2 r2 => q v m' H' w2.wide (EnvOk.ambGrow env.amb w2) r2) fun e _ q => ?_
  rw [hE] at q
  exact q.elim
end

/-! ### statements -/
section
variable {X : Cx} {T A B C F R : Type} {c : Ctx T} {ds : List Desc} {pos : Pos} {P : F → T → Ends → Prop} {rest : List Stmt} {e : Expr}
/-- a block that ends without a return -/
theorem b_end {s : A} {dsN : A → List Desc} (w : Weak ds (dsN s)) : PSs X [] (BX c ds (ret s) (EN c dsN)) := PSs.imp pss_nil fun D σ H ⟨m, st, env, p⟩ => p σ m H (env.weak w)
theorem b_endR {t : Ty A} {s : B} {dsN : B → List Desc} (w : Weak ds (dsN s)) : PSs X [] (BX c ds (ret (Sum.inr s)) (ENR c t dsN)) := PSs.imp pss_nil fun D σ H ⟨m, st, env, p⟩ => p σ m H (env.weak w)
/-- a statement, then the rest -/
theorem b_seq {s : Stmt} {x : MM T A} {k : A → MM T F} {dsM : A → List Desc} (h1 : PS X s (BX c ds x (EN c dsM))) (h2 : ∀ a, PSs X rest (BX c (dsM a) (k a) P)) : PSs X (s :: rest) (BX c ds (bnd x k) P) :=
  PSs.imp (pss_cons h1 (PSs.any h2)) fun D σ H ⟨m, st, env, p⟩ => ⟨m, st, env, (Post.bnd.mp p).imp fun a s1 p σ' m' H' env' => ⟨a, m', s1, env', p⟩⟩
def seqR {T R B F : Type} (emb : R → F) (k : B → MM T F) : Sum R B → MM T F
  | .inl r => ret (emb r)
  | .inr b => k b
theorem b_seqR {s : Stmt} {x : MM T (Sum R B)} {k : B → MM T F} {dsM : B → List Desc} {t : Ty R} (emb : R → F) (he : ∀ r st D, P (emb r) st D → ER c t r st D) (h1 : PS X s (BX c ds x (ENR c t dsM))) (h2 : ∀ b, PSs X rest (BX c (dsM b) (k b) P)) :
    PSs X (s :: rest) (BX c ds (bnd x (seqR emb k)) P) :=
  PSs.imp (pss_cons h1 (PSs.any h2)) fun D σ H ⟨m, st, env, p⟩ => ⟨m, st, env, (Post.bnd.mp p).imp fun a s1 p => by
    cases a with
    | inl r => exact he r s1 D p
    | inr b => exact fun σ' m' H' env' => ⟨b, m', s1, env', p⟩⟩
theorem emb_ret {t : Ty R} : ∀ (r : R) (st : T) (D : Ends), ER c t (id r) st D → ER c t r st D := fun _ _ _ h => h
theorem emb_inl {t : Ty R} {dsN : B → List Desc} : ∀ (r : R) (st : T) (D : Ends), ENR c t dsN (Sum.inl r) st D → ER c t r st D := fun _ _ _ h => h
/-- name = e -/
theorem b_set (i : Nat) {x : Str} {t : Ty A} {xa : MM T A} {k : A → MM T F} {p2 : Pos} (he : PE X e (TX c ds t xa)) (h2 : ∀ a, PSs X rest (BX c (ds.set i (.val t a)) (k a) P)) (hN : X.N.Nodup) (hi : X.N[i]? = some x := by rfl) (hx : Loc X.env.scope x := by first | exact Or.inl rfl | exact Or.inr rfl)
    (hs : swapsWith e (some (.Name x p2)) pos.line X.env = pure false := by rfl) (hf : X.fn x = true ∨ X.env.scope.names.lookup x = some .local := by first | exact .inl rfl | exact .inr rfl) : PSs X (.Assign [.Name x p2] e pos :: rest) (BX c ds (bnd xa k) P) :=
  PSs.imp (pss_cons (ps_set hN hi hx he hs hf) (PSs.any h2)) fun D σ H ⟨m, st, env, p⟩ => ⟨m, st, env, (Post.bnd.mp p).imp fun a s1 p v m1 H1 w1 a1 r1 => ⟨a, m1, s1, (env.go w1 a1).bind i r1, p⟩⟩
/-- name = e, a new object that is owned -/
theorem bindNew {σ : L2.St} {m H m1 H1 : Hp} {st s1 : T} {o : OTy A} {a : A} {v : V} {fp : List Addr} (i : Nat) (env : EnvOk c σ m H ds st) (w : WStep c.afp m H m1 H1) (am : c.amb s1 H1 m1) (nw : ∀ p ∈ fp, H p = none ∧ m1 p = none) (r : o.rep a v fp H1 m1) :
    EnvOk c (σ.set i (some v)) m1 H1 (ds.set i (.own o a)) s1 := by
  have e0 : ∀ p ∈ fp, c.H0 p = none := fun p hp => by
    cases z : c.H0 p with
    | none => rfl
    | some o => exact absurd (nw p hp).1 (env.step.dm p (by rw [z]; exact fun y => nomatch y))
  obtain ⟨fps, sl, dj, fr⟩ := env.slots
  have ev1 := env.go w am
  refine ⟨ev1.step, ⟨fps.set i fp, ?_, dj.set fun gp hg => .inl fun p hp hq => (sl.dom gp hg p hp).1 (nw p hq).1, fun gp hg p hp => ?_⟩, ev1.amb, ev1.own, ev1.pin⟩
  · refine Slots.set (d := .own o a) (sl.go (fun gp hg p hp => ?_) w.mm fun gp hg p hp e => w.ow p e (sl.dom gp hg p hp).1) ⟨v, rfl, r, fun p hp => (nw p hp).2⟩
    cases q : H p with
    | none => exact absurd q (sl.dom gp hg p hp).1
    | some u => exact w.hh p u (fr gp hg p hp).1 q
  · rcases List.mem_or_eq_of_mem_set hg with z | z
    · exact fr gp z p hp
    · subst z; exact ⟨fun q => (c.ambD env.amb p q) (nw p hp).1, e0 p hp⟩
theorem b_setO (i : Nat) {x : Str} {o : OTy A} {xa : MM T A} {k : A → MM T F} {p2 : Pos} (he : PE X e (TXO c ds o xa)) (h2 : ∀ a, PSs X rest (BX c (ds.set i (.own o a)) (k a) P)) (hN : X.N.Nodup) (hi : X.N[i]? = some x := by rfl) (hx : Loc X.env.scope x := by first | exact Or.inl rfl | exact Or.inr rfl)
    (hs : swapsWith e (some (.Name x p2)) pos.line X.env = pure false := by rfl) (hf : X.fn x = true ∨ X.env.scope.names.lookup x = some .local := by first | exact .inl rfl | exact .inr rfl) : PSs X (.Assign [.Name x p2] e pos :: rest) (BX c ds (bnd xa k) P) :=
  PSs.imp (pss_cons (ps_set hN hi hx he hs hf) (PSs.any h2)) fun D σ H ⟨m, st, env, p⟩ => ⟨m, st, env, (Post.bnd.mp p).imp fun a s1 p v fp m1 H1 w1 a1 n1 r1 => ⟨a, m1, s1, bindNew i env w1 a1 n1 r1, p⟩⟩
/-- what slot i owns stays from now on -/
theorem b_frz (i : Nat) {o : OTy A} {t : Ty A} {a : A} {x : MM T F} {sts : List Stmt} (hf : Freezes o t) (hd : ds[i]? = some (.own o a)) (h : PSs X sts (BX c (ds.set i (.val t a)) x P)) : PSs X sts (BX c ds x P) :=
  PSs.imp h fun D σ H ⟨m, st, env, p⟩ => by
    obtain ⟨m', hm, env'⟩ := env.frz hd fun v fp r hs n => hf a v fp H m r hs n
    exact ⟨m', st, env', p⟩
/-- descriptions are weakened -/
theorem b_weak {es : List Desc} {x : MM T F} {sts : List Stmt} (w : Weak ds es) (h : PSs X sts (BX c es x P)) : PSs X sts (BX c ds x P) := PSs.imp h fun D σ H ⟨m, st, env, p⟩ => ⟨m, st, env.weak w, p⟩
theorem b_ret {t : Ty A} {xa : MM T A} (he : PE X e (TX c ds t xa)) : PSs X [.Return (some e) pos] (BX c ds xa (ER c t)) :=
  PSs.imp (pss_one (ps_ret he)) fun D σ H ⟨m, st, env, p⟩ => ⟨m, st, env, p.imp fun a s1 p v m1 H1 w1 a1 r1 => p v m1 H1 (env.step.comp w1 c.afr) a1 r1⟩
theorem b_retR {t : Ty A} {dsN : B → List Desc} {xa : MM T A} (he : PE X e (TX c ds t xa)) : PSs X [.Return (some e) pos] (BX c ds (bnd xa fun a => ret (Sum.inl a)) (ENR c t dsN)) :=
  PSs.imp (pss_one (ps_ret he)) fun D σ H ⟨m, st, env, p⟩ => ⟨m, st, env, (Post.bnd.mp p).imp fun a s1 p v m1 H1 w1 a1 r1 => p v m1 H1 (env.step.comp w1 c.afr) a1 r1⟩
/-- an expression for its effect -/
theorem b_expr {t : Ty A} {xa : MM T A} {k : MM T F} (he : PE X e (TX c ds t xa)) (h2 : PSs X rest (BX c ds k P)) (hs : swapsWith e none pos.line X.env = pure false := by rfl) : PSs X (.Expr e pos :: rest) (BX c ds (bnd xa fun _ => k) P) :=
  PSs.imp (pss_cons (ps_expr he hs) h2) fun D σ H ⟨m, st, env, p⟩ => ⟨m, st, env, (Post.bnd.mp p).imp fun a s1 p v m1 H1 w1 a1 r1 => ⟨m1, s1, env.go w1 a1, p⟩⟩
/-- both branches end alike -/
theorem s_if {cnd : Expr} {a b : List Stmt} {xc : MM T Bool} {xa xb : MM T F} (hc : PT X cnd (TTX c ds xc)) (ha : PSs X a (BX c ds xa P)) (hb : PSs X b (BX c ds xb P)) : PS X (.If cnd a b pos) (BX c ds (eIf xc xa xb) P) :=
  PS.imp (ps_if hc ha hb) fun D σ H ⟨m, st, env, p⟩ => by
    unfold eIf at p
    refine ⟨m, st, env, (Post.bnd.mp p).imp fun t s1 p m1 H1 w1 a1 => ?_⟩
    cases t with
    | true => rw [if_pos rfl] at p ⊢; exact ⟨m1, s1, env.go w1 a1, p⟩
    | false => rw [if_neg Bool.false_ne_true] at p ⊢; exact ⟨m1, s1, env.go w1 a1, p⟩
theorem b_one {s : Stmt} {x : MM T F} (h : PS X s (BX c ds x P)) : PSs X [s] (BX c ds x P) := pss_one h
/-- if c: (returns), and the rest -/
theorem b_ifret {cnd : Expr} {a : List Stmt} {xc : MM T Bool} {xa : MM T R} {xb : MM T F} {t : Ty R} (emb : R → F) (he : ∀ r st D, P (emb r) st D → ER c t r st D) (hc : PT X cnd (TTX c ds xc)) (ha : PSs X a (BX c ds xa (ER c t))) (hb : PSs X rest (BX c ds xb P)) :
    PSs X (.If cnd a [] pos :: rest) (BX c ds (eIf xc (bnd xa fun r => ret (emb r)) xb) P) :=
  PSs.imp (pss_cons (ps_if hc ha pss_nil) hb) fun D σ H ⟨m, st, env, p⟩ => by
    unfold eIf at p
    refine ⟨m, st, env, (Post.bnd.mp p).imp fun t s1 p m1 H1 w1 a1 => ?_⟩
    cases t with
    | true => rw [if_pos rfl] at p ⊢; exact ⟨m1, s1, env.go w1 a1, (Post.bnd.mp p).imp fun r s2 p => he r s2 D p⟩
    | false => rw [if_neg Bool.false_ne_true] at p ⊢; exact ⟨m1, s1, env.go w1 a1, p⟩
theorem b_ifret0 {cnd : Expr} {a : List Stmt} {xc : MM T Bool} {xa : MM T R} {xb : MM T R} {t : Ty R} (hc : PT X cnd (TTX c ds xc)) (ha : PSs X a (BX c ds xa (ER c t))) (hb : PSs X rest (BX c ds xb (ER c t))) :
    PSs X (.If cnd a [] pos :: rest) (BX c ds (eIf xc xa xb) (ER c t)) :=
  PSs.imp (pss_cons (ps_if hc ha pss_nil) hb) fun D σ H ⟨m, st, env, p⟩ => by
    unfold eIf at p
    refine ⟨m, st, env, (Post.bnd.mp p).imp fun t s1 p m1 H1 w1 a1 => ?_⟩
    cases t with
    | true => rw [if_pos rfl] at p ⊢; exact ⟨m1, s1, env.go w1 a1, p⟩
    | false => rw [if_neg Bool.false_ne_true] at p ⊢; exact ⟨m1, s1, env.go w1 a1, p⟩
/-! targets -/
/-- σ' is σ but at the places is -/
def But (is : List Nat) (σ σ' : L2.St) : Prop := σ'.length = σ.length ∧ ∀ i, i ∉ is → σ'[i]? = σ[i]?
theorem But.trans {is js : List Nat} {a b d : L2.St} (h : But is a b) (k : But js b d) : But (is ++ js) a d := ⟨k.1.trans h.1, fun i hi => (k.2 i fun z => hi (List.mem_append_right _ z)).trans (h.2 i fun z => hi (List.mem_append_left _ z))⟩
theorem But.set (i : Nat) (σ : L2.St) (v : Option V) : But [i] σ (σ.set i v) := ⟨List.length_set, fun j hj => List.getElem?_set_ne (by intro z; subst z; exact hj (by simp))⟩
def TgtOk (c : Ctx T) (g : TG) (t : Ty A) (is : List Nat) (bd : A → List Desc → List Desc) : Prop := ∀ (a : A) (v : V) (σ : L2.St) (m H : Hp) (ds : List Desc) (st : T) (Q : L2.St → Hp → Prop), t.rep a v m → EnvOk c σ m H ds st → (∀ σ', EnvOk c σ' m H (bd a ds) st → But is σ σ' → Q σ' H) → g v σ H Q
theorem tg_name (i : Nat) {t : Ty A} : TgtOk c (gName i) t [i] (fun a ds => ds.set i (.val t a)) := fun a v σ m H ds st Q r env q => q _ (env.bind i r) (.set i σ _)
def GsOk (c : Ctx T) (g : TGs) (l : LTy A) (n : Nat) (is : List Nat) (bd : A → List Desc → List Desc) : Prop := ∀ (a : A) (vs : List V) (σ : L2.St) (m H : Hp) (ds : List Desc) (st : T) (Q : L2.St → Hp → Prop), l.rep a vs m → EnvOk c σ m H ds st → vs.length = n ∧ ((∀ σ', EnvOk c σ' m H (bd a ds) st → But is σ σ' → Q σ' H) → g vs σ H Q)
theorem gs_one {g : TG} {t : Ty A} {is : List Nat} {bd : A → List Desc → List Desc} (h : TgtOk c g t is bd) : GsOk c (gCons g gNil) (l1 t) 1 is bd := fun a vs σ m H ds st Q ⟨v, e, r⟩ env => by
  subst e
  exact ⟨rfl, fun q => ⟨v, [], rfl, h a v σ m H ds st _ r env fun σ' env' b => ⟨rfl, q σ' env' b⟩⟩⟩
theorem gs_cons {g : TG} {gs : TGs} {t : Ty A} {l : LTy B} {n : Nat} {is js : List Nat} {bd : A → List Desc → List Desc} {bd2 : B → List Desc → List Desc} (h : TgtOk c g t is bd) (h2 : GsOk c gs l n js bd2) : GsOk c (gCons g gs) (lc t l) (n + 1) (is ++ js) (fun a ds => bd2 a.2 (bd a.1 ds)) := fun a vs σ m H ds st Q ⟨v, ws, e, r, r2⟩ env => by
  subst e
  refine ⟨by rw [List.length_cons, (h2 a.2 ws σ m H ds st Q r2 env).1], fun q => ⟨v, ws, rfl, h a.1 v σ m H ds st _ r env fun σ' env' b => (h2 a.2 ws σ' m H _ st Q r2 env').2 fun σ2 env2 b2 => q σ2 env2 (b.trans b2)⟩⟩
theorem tg_tup {K : PySem.W.Frag} {gs : TGs} {l : LTy A} {n : Nat} {is : List Nat} {bd : A → List Desc → List Desc} (h : GsOk c gs l n is bd) : TgtOk c (gTup K n gs) (tTup K l) is bd := fun a v σ m H ds st Q ⟨p, vs, e, k, r⟩ env q =>
  ⟨p, vs, e, env.mh.sqT k, (h a vs σ m H ds st Q r env).1, (h a vs σ m H ds st Q r env).2 q⟩
/-- target = e, any target -/
theorem b_asg {tg : Expr} {g : TG} {t : Ty A} {xa : MM T A} {k : A → MM T F} {bd : A → List Desc → List Desc} {is : List Nat} (he : PE X e (TX c ds t xa)) (hg : PG X tg g) (ht : TgtOk c g t is bd) (h2 : ∀ a, PSs X rest (BX c (bd a ds) (k a) P)) (hs : swapsWithSole [tg] e pos.line X.env = pure false := by rfl)
    (hw : swappedStores [tg] e X.env = pure none := by rfl) (h1 : (assignEach [tg] X.env).map (·.2) = [assign tg X.env] := by rfl) : PSs X (.Assign [tg] e pos :: rest) (BX c ds (bnd xa k) P) :=
  PSs.imp (pss_cons (ps_asg he hg hs hw h1) (PSs.any h2)) fun D σ H ⟨m, st, env, p⟩ => ⟨m, st, env, (Post.bnd.mp p).imp fun a s1 p v m1 H1 w1 a1 r1 => ht a v σ m1 H1 ds s1 _ r1 (env.go w1 a1) fun σ' env' _ => ⟨a, m1, s1, env', p⟩⟩
/-! loops -/
def forM : List A → B → (B → A → MM T B) → MM T B
  | [], s, _ => ret s
  | x :: r, s, f => bnd (f s x) fun s1 => forM r s1 f
def forR : List A → B → (B → A → MM T (Sum R B)) → MM T (Sum R B)
  | [], s, _ => ret (.inr s)
  | x :: r, s, f => bnd (f s x) fun o => match o with
    | .inl v => ret (.inl v)
    | .inr s1 => forR r s1 f
def whileM : Nat → (B → MM T Bool) → (B → MM T B) → B → MM T B
  | 0, _, _, _ => stk
  | n + 1, t, f, s => bnd (t s) fun b => if b = true then bnd (f s) fun s1 => whileM n t f s1 else ret s
def whileR : Nat → (B → MM T Bool) → (B → MM T (Sum R B)) → B → MM T (Sum R B)
  | 0, _, _, _ => stk
  | n + 1, t, f, s => bnd (t s) fun b => if b = true then bnd (f s) fun o => (match o with
    | .inl v => ret (.inl v)
    | .inr s1 => whileR n t f s1) else ret (.inr s)
/-- J yields the items xs, as long as q is known -/
def Serves (J : It) (t : Ty A) (xs : List A) (q : Hp → Prop) : Prop := ∀ (i : Nat) (H : Hp), (∃ m, q m ∧ Sub m H) →
  (i < xs.length → J.go i H ∧ ∀ v H', J.yld i H v H' → H' = H ∧ ∀ m, q m → Sub m H → ∃ a, xs[i]? = some a ∧ t.rep a v m) ∧ (xs.length ≤ i → J.stop i H)
/-- what is walked -/
def SrcTI (c : Ctx T) (ds : List Desc) (t : Ty A) (x : MM T (List A)) : TI := fun σ H R => ∃ m st, EnvOk c σ m H ds st ∧ Post (x st) (fun xs s1 => ∀ (J : It) (q : Hp → Prop) m1 H1, WStep c.afp m H m1 H1 → c.amb s1 H1 m1 →
  (∀ {a b : Hp}, Sub a b → q a → q b) → q m1 → Serves J t xs q → R J H1) c.err
theorem PI.imp {X : Cx} {tg iter : Expr} {w w' : TI} (h : PI X tg iter w) (i : ∀ σ H R, w' σ H R → w σ H R) : PI X tg iter w' := ⟨fun pins s σ H R I q => h.run pins s σ H R I (i σ H R q)⟩
theorem serves_list {K : PySem.W.Frag} {t : Ty A} {p : Addr} {xs : List A} : Serves (Itl K p) t xs (fun m => ∃ vs, SqL K m p vs ∧ Reps t m xs vs) := fun i H ⟨m, ⟨vs, k, r⟩, hm⟩ => by
  refine ⟨fun hi => ?_, fun hi => ⟨vs, hm.sqL k, by rw [← r.length]; exact hi⟩⟩
  obtain ⟨v, hv, _⟩ := r.get (List.getElem?_eq_getElem hi)
  refine ⟨⟨vs, v, hm.sqL k, hv⟩, fun u H' ⟨e, y⟩ => ⟨e, fun m2 ⟨ws, k2, r2⟩ hm2 => ?_⟩⟩
  have := y ws (hm2.sqL k2)
  obtain ⟨w, hw, rw'⟩ := r2.get (List.getElem?_eq_getElem hi)
  rw [hw] at this
  cases this
  exact ⟨xs[i], List.getElem?_eq_getElem hi, rw'⟩
theorem serves_tup {K : PySem.W.Frag} {t : Ty A} {p : Addr} {xs : List A} : Serves (Itt K p) t xs (fun m => ∃ vs, SqT K m p vs ∧ Reps t m xs vs) := fun i H ⟨m, ⟨vs, k, r⟩, hm⟩ => by
  refine ⟨fun hi => ?_, fun hi => ⟨vs, hm.sqT k, by rw [← r.length]; exact hi⟩⟩
  obtain ⟨v, hv, _⟩ := r.get (List.getElem?_eq_getElem hi)
  refine ⟨⟨vs, v, hm.sqT k, hv⟩, fun u H' ⟨e, y⟩ => ⟨e, fun m2 ⟨ws, k2, r2⟩ hm2 => ?_⟩⟩
  have := y ws (hm2.sqT k2)
  obtain ⟨w, hw, rw'⟩ := r2.get (List.getElem?_eq_getElem hi)
  rw [hw] at this
  cases this
  exact ⟨xs[i], List.getElem?_eq_getElem hi, rw'⟩
/-- range's ints -/
def rangeL (lo hi : Int) : List Int := (List.range (hi - lo).toNat).map fun (k : Nat) => lo + (k : Int)
theorem rangeL_length (lo hi : Int) : (rangeL lo hi).length = (hi - lo).toNat := by unfold rangeL; simp
theorem rangeL_get (lo hi : Int) {i : Nat} (h : i < (hi - lo).toNat) : (rangeL lo hi)[i]? = some (lo + (i : Int)) := by unfold rangeL; simp [h]
theorem serves_range {lo hi : Int} : Serves (Itr lo (hi - lo).toNat) tInt (rangeL lo hi) (fun _ => True) := fun i H _ => by
  rw [rangeL_length]
  exact ⟨fun h => ⟨h, fun v H' ⟨e, ev⟩ => ⟨e, fun m _ _ => ⟨_, rangeL_get lo hi h, ev⟩⟩⟩, fun h => h⟩
section
variable {tg l : Expr}
theorem i_list {t : Ty A} {x : MM T (List A)} (h : PE X l (TX c ds (tList t) x)) : PI X tg l (SrcTI c ds t x) := PI.imp (pi_list h) fun σ H R ⟨m, st, env, p⟩ => ⟨m, st, env, p.imp fun xs s1 p v m1 H1 w1 a1 ⟨q, vs, e, k, r⟩ => by
  subst e
  exact ⟨q, rfl, ⟨vs, .of (w1.mh _ _ k)⟩, p (Itl X.K q) _ m1 H1 w1 a1 (fun hs ⟨ws, k2, r2⟩ => ⟨ws, hs.sqL k2, r2.mono hs⟩) ⟨vs, .of k, r⟩ serves_list⟩⟩
theorem i_seq {t : Ty A} {x : MM T (List A)} (h : PE X l (TX c ds (tSeq X.K t) x)) : PI X tg l (SrcTI c ds t x) := PI.imp (pi_list h) fun σ H R ⟨m, st, env, p⟩ => ⟨m, st, env, p.imp fun xs s1 p v m1 H1 w1 a1 ⟨q, vs, e, k, r⟩ => by
  subst e
  exact ⟨q, rfl, ⟨vs, w1.mh.sqL k⟩, p (Itl X.K q) _ m1 H1 w1 a1 (fun hs ⟨ws, k2, r2⟩ => ⟨ws, hs.sqL k2, r2.mono hs⟩) ⟨vs, k, r⟩ serves_list⟩⟩
theorem i_tup {t : Ty A} {x : MM T (List A)} (h : PE X l (TX c ds (tVT X.K t) x)) : PI X tg l (SrcTI c ds t x) := PI.imp (pi_tup h) fun σ H R ⟨m, st, env, p⟩ => ⟨m, st, env, p.imp fun xs s1 p v m1 H1 w1 a1 ⟨q, vs, e, k, r⟩ => by
  subst e
  exact ⟨q, rfl, ⟨vs, w1.mh.sqT k⟩, p (Itt X.K q) _ m1 H1 w1 a1 (fun hs ⟨ws, k2, r2⟩ => ⟨ws, hs.sqT k2, r2.mono hs⟩) ⟨vs, k, r⟩ serves_tup⟩⟩
def oRange (n : Int) : Option (List Int) := if -(2 ^ 62) ≤ n ∧ n < 2 ^ 62 then some (rangeL 0 n) else none
def oRange2 (p : Int × Int) : Option (List Int) := if -(2 ^ 62) ≤ p.1 ∧ p.1 < 2 ^ 62 ∧ -(2 ^ 62) ≤ p.2 ∧ p.2 < 2 ^ 62 then some (rangeL p.1 p.2) else none
theorem i_range {a : Expr} {x : MM T Int} {p pos : Pos} (hm : X.mg "range" = none) (ha : PA X [a] (TAX c ds (l1 tInt) x)) (hg : Gl X "range" := by rfl) (hs : starEach [a] X.env = [(false, eval a X.env)] := by rfl) : PI X tg (.Call (.Name "range" p) [a] [] pos) (SrcTI c ds tInt (e1 oRange x)) :=
  PI.imp (pi_range1 hg hm ha hs) fun σ H R ⟨m, st, env, p⟩ => ⟨m, st, env, (Post.bnd.mp p).imp fun n s1 p vs m1 H1 w1 a1 ⟨v, e, r⟩ => by
    cases rep_int r
    obtain ⟨xs, hx, p⟩ := Post.lft.mp p
    unfold oRange at hx
    by_cases z : -(2 ^ 62) ≤ n ∧ n < 2 ^ 62
    · rw [if_pos z] at hx; cases hx
      have q := p (Itr 0 (n - 0).toNat) (fun _ => True) m1 H1 w1 a1 (fun _ _ => trivial) trivial serves_range
      rw [Int.sub_zero] at q
      exact ⟨n, e, z.1, z.2, q⟩
    · rw [if_neg z] at hx; cases hx⟩
theorem i_range2 {a b : Expr} {x : MM T (Int × Int)} {p pos : Pos} (hm : X.mg "range" = none) (ha : PA X [a, b] (TAX c ds (lc tInt (l1 tInt)) x)) (hg : Gl X "range" := by rfl) (hs : starEach [a, b] X.env = [(false, eval a X.env), (false, eval b X.env)] := by rfl) (hs2 : starEach [b] X.env = [(false, eval b X.env)] := by rfl) :
    PI X tg (.Call (.Name "range" p) [a, b] [] pos) (SrcTI c ds tInt (e1 oRange2 x)) :=
  PI.imp (pi_range2 hg hm ha hs hs2) fun σ H R ⟨m, st, env, p⟩ => ⟨m, st, env, (Post.bnd.mp p).imp fun n s1 p vs m1 H1 w1 a1 ⟨v, ws, e, r, u, e2, r2⟩ => by
    cases rep_int r; cases rep_int r2; subst e2
    obtain ⟨xs, hx, p⟩ := Post.lft.mp p
    unfold oRange2 at hx
    by_cases z : -(2 ^ 62) ≤ n.1 ∧ n.1 < 2 ^ 62 ∧ -(2 ^ 62) ≤ n.2 ∧ n.2 < 2 ^ 62
    · rw [if_pos z] at hx; cases hx
      exact ⟨n.1, n.2, e, z, p (Itr n.1 (n.2 - n.1).toNat) (fun _ => True) m1 H1 w1 a1 (fun _ _ => trivial) trivial serves_range⟩
    · rw [if_neg z] at hx; cases hx⟩
end
section
variable {tg iter : Expr} {body : List Stmt} {g : TG} {t : Ty A} {is : List Nat} {bd : A → List Desc → List Desc} {x : MM T (List A)} {s0 : B} {dsL : B → List Desc} {u : Ty R}
theorem s_for {f : B → A → MM T B} (hp : PassesOwn (model X.prog X.w) X.A X.env X.xe) (hc : X.calm = true) (hi : PI X tg iter (SrcTI c ds t x)) (hg : PG X tg g) (ht : ∀ q (hq : ∀ {m n : Hp}, Sub m n → q m → q n), TgtOk (c.pinned q hq) g t is bd) (w0 : Weak ds (dsL s0))
    (hb : ∀ q (hq : ∀ {m n : Hp}, Sub m n → q m → q n) s a, PSs X body (BX (c.pinned q hq) (bd a (dsL s)) (f s a) (EN (c.pinned q hq) dsL))) (hs : ∀ x, foldedSetIterable iter X.env x = pure x := by intro _; rfl) :
    PS X (.For tg iter body [] pos) (BX c ds (bnd x fun xs => forM xs s0 f) (EN c dsL)) := by
  have hb' := PSs.any (I := { q : Hp → Prop // ∀ {m n : Hp}, Sub m n → q m → q n } × B × A) fun j => hb j.1.1 j.1.2 j.2.1 j.2.2
  refine PS.imp (ps_for hp hc hi hg hb' hs) fun D σ H ⟨m, st, env, p⟩ => ⟨m, st, env, (Post.bnd.mp p).imp fun xs s1 p J q m1 H1 w1 a1 hq q1 sv => ?_⟩
  refine ⟨fun i n σ H => n = xs.length - i ∧ i ≤ xs.length ∧ ∃ m st s, EnvOk (c.pinned q hq) σ m H (dsL s) st ∧ Post (forM (xs.drop i) s f st) (fun s' st' => EN c dsL s' st' D) c.err, ⟨xs.length, by simp, Nat.zero_le _, m1, s1, s0, ((env.go w1 a1).weak w0).pinned q1, p⟩, ?_⟩
  rintro i n σ' H' ⟨rfl, hi', m', st', s', env', p'⟩
  obtain ⟨sv1, sv2⟩ := sv i H' ⟨m', env'.pin.2, env'.mh⟩
  by_cases hlt : i < xs.length
  · obtain ⟨g1, g2⟩ := sv1 hlt
    refine .inr ⟨g1, fun σ2 H2 => ∃ m st s, EnvOk (c.pinned q hq) σ2 m H2 (dsL s) st ∧ Post (forM (xs.drop (i + 1)) s f st) (fun s' st' => EN c dsL s' st' D) c.err, fun σ2 H2 ⟨m2, st2, s2, e2, p2⟩ => ⟨xs.length - (i + 1), by omega, rfl, hlt, m2, st2, s2, e2, p2⟩, fun v H2 y => ?_⟩
    obtain ⟨rfl, y2⟩ := g2 v H2 y
    obtain ⟨a, ha, ra⟩ := y2 m' env'.pin.2 env'.mh
    rw [List.getElem?_eq_getElem hlt] at ha
    cases ha
    rw [List.drop_eq_getElem_cons hlt] at p'
    refine ht q hq _ v σ' m' H2 _ st' _ ra env' fun σ3 env3 _ => ⟨⟨⟨q, hq⟩, s', xs[i]⟩, m', st', env3, (Post.bnd.mp p').imp fun s4 st4 p4 σ5 m5 H5 env5 => ⟨m5, st4, s4, env5, p4⟩⟩
  · have e : xs.drop i = [] := List.drop_eq_nil_of_le (by omega)
    rw [e] at p'
    exact .inl ⟨sv2 (by omega), p' σ' m' H' env'.unpin⟩
theorem s_forR {f : B → A → MM T (Sum R B)} (hp : PassesOwn (model X.prog X.w) X.A X.env X.xe) (hc : X.calm = true) (hi : PI X tg iter (SrcTI c ds t x)) (hg : PG X tg g) (ht : ∀ q (hq : ∀ {m n : Hp}, Sub m n → q m → q n), TgtOk (c.pinned q hq) g t is bd) (w0 : Weak ds (dsL s0))
    (hb : ∀ q (hq : ∀ {m n : Hp}, Sub m n → q m → q n) s a, PSs X body (BX (c.pinned q hq) (bd a (dsL s)) (f s a) (ENR (c.pinned q hq) u dsL))) (hs : ∀ x, foldedSetIterable iter X.env x = pure x := by intro _; rfl) :
    PS X (.For tg iter body [] pos) (BX c ds (bnd x fun xs => forR xs s0 f) (ENR c u dsL)) := by
  have hb' := PSs.any (I := { q : Hp → Prop // ∀ {m n : Hp}, Sub m n → q m → q n } × B × A) fun j => hb j.1.1 j.1.2 j.2.1 j.2.2
  refine PS.imp (ps_for hp hc hi hg hb' hs) fun D σ H ⟨m, st, env, p⟩ => ⟨m, st, env, (Post.bnd.mp p).imp fun xs s1 p J q m1 H1 w1 a1 hq q1 sv => ?_⟩
  refine ⟨fun i n σ H => n = xs.length - i ∧ i ≤ xs.length ∧ ∃ m st s, EnvOk (c.pinned q hq) σ m H (dsL s) st ∧ Post (forR (xs.drop i) s f st) (fun s' st' => ENR c u dsL s' st' D) c.err, ⟨xs.length, by simp, Nat.zero_le _, m1, s1, s0, ((env.go w1 a1).weak w0).pinned q1, p⟩, ?_⟩
  rintro i n σ' H' ⟨rfl, hi', m', st', s', env', p'⟩
  obtain ⟨sv1, sv2⟩ := sv i H' ⟨m', env'.pin.2, env'.mh⟩
  by_cases hlt : i < xs.length
  · obtain ⟨g1, g2⟩ := sv1 hlt
    refine .inr ⟨g1, fun σ2 H2 => ∃ m st s, EnvOk (c.pinned q hq) σ2 m H2 (dsL s) st ∧ Post (forR (xs.drop (i + 1)) s f st) (fun s' st' => ENR c u dsL s' st' D) c.err, fun σ2 H2 ⟨m2, st2, s2, e2, p2⟩ => ⟨xs.length - (i + 1), by omega, rfl, hlt, m2, st2, s2, e2, p2⟩, fun v H2 y => ?_⟩
    obtain ⟨rfl, y2⟩ := g2 v H2 y
    obtain ⟨a, ha, ra⟩ := y2 m' env'.pin.2 env'.mh
    rw [List.getElem?_eq_getElem hlt] at ha
    cases ha
    rw [List.drop_eq_getElem_cons hlt] at p'
    refine ht q hq _ v σ' m' H2 _ st' _ ra env' fun σ3 env3 _ => ⟨⟨⟨q, hq⟩, s', xs[i]⟩, m', st', env3, (Post.bnd.mp p').imp fun s4 st4 p4 => ?_⟩
    cases s4 with
    | inl r => exact p4
    | inr s5 => exact fun σ5 m5 H5 env5 => ⟨m5, st4, s5, env5, p4⟩
  · have e : xs.drop i = [] := List.drop_eq_nil_of_le (by omega)
    rw [e] at p'
    exact .inl ⟨sv2 (by omega), p' σ' m' H' env'.unpin⟩
theorem s_while {cnd : Expr} {f : B → MM T B} {tt : B → MM T Bool} (n : Nat) (hp : PassesOwn (model X.prog X.w) X.A X.env X.xe) (w0 : Weak ds (dsL s0)) (hc : ∀ s, PT X cnd (TTX c (dsL s) (tt s))) (hb : ∀ s, PSs X body (BX c (dsL s) (f s) (EN c dsL))) :
    PS X (.While cnd body [] pos) (BX c ds (whileM n tt f s0) (EN c dsL)) := by
  refine PS.imp (ps_while hp (PT.any hc) (PSs.any hb)) fun D σ H ⟨m, st, env, p⟩ => ?_
  refine ⟨fun n σ H => ∃ m st s, EnvOk c σ m H (dsL s) st ∧ Post (whileM n tt f s st) (fun s' st' => EN c dsL s' st' D) c.err, ⟨n, m, st, s0, env.weak w0, p⟩, ?_⟩
  rintro n σ' H' ⟨m', st', s', env', p'⟩
  cases n with
  | zero => exact p'.elim
  | succ n =>
    refine ⟨s', m', st', env', (Post.bnd.mp p').imp fun b s1 p m1 H1 w1 a1 => ?_⟩
    cases b with
    | true =>
      rw [if_pos rfl] at p ⊢
      exact ⟨fun σ2 H2 => ∃ m st s, EnvOk c σ2 m H2 (dsL s) st ∧ Post (whileM n tt f s st) (fun s' st' => EN c dsL s' st' D) c.err, fun σ2 H2 h => ⟨n, Nat.lt_succ_self n, h⟩, s', m1, s1, env'.go w1 a1, (Post.bnd.mp p).imp fun s4 st4 p4 σ5 m5 H5 env5 => ⟨m5, st4, s4, env5, p4⟩⟩
    | false =>
      rw [if_neg Bool.false_ne_true] at p ⊢
      exact p σ' m1 H1 (env'.go w1 a1)
theorem s_whileR {cnd : Expr} {f : B → MM T (Sum R B)} {tt : B → MM T Bool} (n : Nat) (hp : PassesOwn (model X.prog X.w) X.A X.env X.xe) (w0 : Weak ds (dsL s0)) (hc : ∀ s, PT X cnd (TTX c (dsL s) (tt s))) (hb : ∀ s, PSs X body (BX c (dsL s) (f s) (ENR c u dsL))) :
    PS X (.While cnd body [] pos) (BX c ds (whileR n tt f s0) (ENR c u dsL)) := by
  refine PS.imp (ps_while hp (PT.any hc) (PSs.any hb)) fun D σ H ⟨m, st, env, p⟩ => ?_
  refine ⟨fun n σ H => ∃ m st s, EnvOk c σ m H (dsL s) st ∧ Post (whileR n tt f s st) (fun s' st' => ENR c u dsL s' st' D) c.err, ⟨n, m, st, s0, env.weak w0, p⟩, ?_⟩
  rintro n σ' H' ⟨m', st', s', env', p'⟩
  cases n with
  | zero => exact p'.elim
  | succ n =>
    refine ⟨s', m', st', env', (Post.bnd.mp p').imp fun b s1 p m1 H1 w1 a1 => ?_⟩
    cases b with
    | true =>
      rw [if_pos rfl] at p ⊢
      refine ⟨fun σ2 H2 => ∃ m st s, EnvOk c σ2 m H2 (dsL s) st ∧ Post (whileR n tt f s st) (fun s' st' => ENR c u dsL s' st' D) c.err, fun σ2 H2 h => ⟨n, Nat.lt_succ_self n, h⟩, s', m1, s1, env'.go w1 a1, (Post.bnd.mp p).imp fun s4 st4 p4 => ?_⟩
      cases s4 with
      | inl r => exact p4
      | inr s5 => exact fun σ5 m5 H5 env5 => ⟨m5, st4, s5, env5, p4⟩
    | false =>
      rw [if_neg Bool.false_ne_true] at p ⊢
      exact p σ' m1 H1 (env'.go w1 a1)
end
end
end WL

/-! WLD: lists that are made and changed, comprehensions, == of data, the defs. -/
namespace WL
open PySem PySem.Spec PyProof.Rows L2

/-! ### new lists -/
/-- a rule whose answer is a new object -/
def Op2O {A B C : Type} (r : R2) (t1 : Ty A) (t2 : Ty B) (o : OTy C) (f : A → B → Option C) : Prop := ∀ (a : A) (b : B) (g : C) (v1 v2 : V) (m H : Hp) (Q : VK), t1.rep a v1 m → t2.rep b v2 m → Sub m H → f a b = some g →
  (∀ v fp m' H', WStep [] m H m' H' → (∀ p ∈ fp, H p = none ∧ m' p = none) → o.rep g v fp H' m' → Q v H') → r v1 v2 H Q
def OpLO {A C : Type} (r : List V → Hp → VK → Prop) (l : LTy A) (o : OTy C) (f : A → Option C) : Prop := ∀ (a : A) (g : C) (vs : List V) (m H : Hp) (Q : VK), l.rep a vs m → Sub m H → f a = some g →
  (∀ v fp m' H', WStep [] m H m' H' → (∀ p ∈ fp, H p = none ∧ m' p = none) → o.rep g v fp H' m' → Q v H') → r vs H Q
theorem newList {A : Type} {t : Ty A} {as : List A} {vs : List V} {m H : Hp} {Q : VK} {p : Addr} (hm : Sub m H) (r : Reps t m as vs) (hp : H p = none)
    (q : ∀ v fp m' H', WStep [] m H m' H' → (∀ p ∈ fp, H p = none ∧ m' p = none) → (oList t).rep as v fp H' m' → Q v H') : Q (.ref p) (upd H p (.lst vs)) :=
  q (.ref p) [p] m _ (.own hm hp) (fun y hy => by obtain rfl := List.mem_singleton.mp hy; exact ⟨hp, hm.free hp⟩) ⟨p, vs, rfl, rfl, upd_same, r⟩
section
variable {T A B C : Type} {c : Ctx T} {ds : List Desc} {t1 : Ty A} {t2 : Ty B} {o : OTy C} {σ : L2.St} {H : Hp} {Q : VK}
theorem fresh_up {S : List Addr} {m H m1 H1 : Hp} (w : WStep S m H m1 H1) {p : Addr} (h : H1 p = none) : H p = none := by
  cases z : H p with
  | none => rfl
  | some u => exact absurd h (w.dm p (by rw [z]; exact fun y => nomatch y))
theorem rd_op2O {r : R2} {f : A → B → Option C} {xa : MM T A} {xb : MM T B} (hs : Op2O r t1 t2 o f) (h : TXO c ds o (e2 f xa xb) σ H Q) : tOp r (TX c ds t1 xa) (TX c ds t2 xb) σ H Q := by
  obtain ⟨m, st, env, p⟩ := h
  unfold e2 at p
  refine ⟨m, st, env, (Post.bnd.mp p).imp fun a s1 p v1 m1 H1 w1 a1 r1 => ?_⟩
  refine ⟨m1, s1, env.go w1 a1, (Post.bnd.mp p).imp fun b s2 p v2 m2 H2 w2 a2 r2 => ?_⟩
  obtain ⟨g, e, p⟩ := Post.lft.mp p
  exact hs a b g v1 v2 m2 H2 Q (t1.mono w2.mm r1) r2 w2.mh e fun v fp m' H' w3 n3 r3 => p v fp m' H' ((w1.trans w2).trans w3.wide) (EnvOk.ambGrow a2 w3) (fun q hq => ⟨fresh_up (w1.trans w2) (n3 q hq).1, (n3 q hq).2⟩) r3
theorem rd_opLO {r : List V → Hp → VK → Prop} {l : LTy A} {f : A → Option C} {xa : MM T A} (hs : OpLO r l o f) (h : TXO c ds o (e1 f xa) σ H Q) : tCB r (TAX c ds l xa) σ H Q := by
  obtain ⟨m, st, env, p⟩ := h
  unfold e1 at p
  refine ⟨m, st, env, (Post.bnd.mp p).imp fun a s1 p vs m1 H1 w1 a1 r1 => ?_⟩
  obtain ⟨g, e, p⟩ := Post.lft.mp p
  exact hs a g vs m1 H1 Q r1 w1.mh e fun v fp m' H' w3 n3 r3 => p v fp m' H' (w1.trans w3.wide) (EnvOk.ambGrow a1 w3) (fun q hq => ⟨fresh_up w1 (n3 q hq).1, (n3 q hq).2⟩) r3
end
section
variable {X : Cx} {T A B C : Type} {c : Ctx T} {ds : List Desc} {t1 : Ty A} {t2 : Ty B} {o : OTy C} {pos : Pos} {a b e : Expr}
theorem x_binO {op : Operator} {r : R2} {f : A → B → Option C} {xa : MM T A} {xb : MM T B} (ho : OpR X (binaryOp op) r) (hs : Op2O r t1 t2 o f) (ha : PE X a (TX c ds t1 xa)) (hb : PE X b (TX c ds t2 xb)) :
    PE X (.BinOp a op b pos) (TXO c ds o (e2 f xa xb)) := PE.imp (pe_op ho ha hb) fun _ _ _ h => rd_op2O hs h
theorem x_callBO {x : Str} {id : String} {r : List V → Hp → VK → Prop} {l : LTy A} {f : A → Option C} {xa : MM T A} {p : Pos} {es : List Expr} (hc : CallR X (.builtin id) r) (hs : OpLO r l o f) (hm : X.mg x = none) (hv : bootBuiltins x = some (.builtin id))
    (ha : PA X (e :: es) (TAX c ds l xa)) (hg : Gl X x := by rfl) (hn : x ≠ "__name__" := by decide) (hdb : (x == ("__debug__" : Str)) = false := by decide)
    (he : starEach (e :: es) X.env = (false, eval e X.env) :: starEach es X.env := by rfl) (hpl : (backTo pos (starEach es X.env)).any (·.1) = false := by rfl) :
    PE X (.Call (.Name x p) (e :: es) [] pos) (TXO c ds o (e1 f xa)) := PE.imp (pe_callB hc hg hm hv ha hn hdb he hpl) fun _ _ _ h => rd_opLO hs h
theorem x_callTyO {x : Str} {id : String} {r : List V → Hp → VK → Prop} {l : LTy A} {f : A → Option C} {xa : MM T A} {p : Pos} {es : List Expr} (hc : CallR X (.type id) r) (hs : OpLO r l o f) (hm : X.mg x = none) (hv : bootBuiltins x = some (.type id))
    (ha : PA X (e :: es) (TAX c ds l xa)) (hg : Gl X x := by rfl) (hn : x ≠ "__name__" := by decide) (hdb : (x == ("__debug__" : Str)) = false := by decide)
    (he : starEach (e :: es) X.env = (false, eval e X.env) :: starEach es X.env := by rfl) (hpl : (backTo pos (starEach es X.env)).any (·.1) = false := by rfl) :
    PE X (.Call (.Name x p) (e :: es) [] pos) (TXO c ds o (e1 f xa)) := PE.imp (pe_callTy hc hg hm hv ha hn hdb he hpl) fun _ _ _ h => rd_opLO hs h
end
/-! list(..), tuple(..), +, * -/
def rListOf (K : PySem.W.Frag) : List V → Hp → VK → Prop := fun xs H Q => ∃ p ys, xs = [.ref p] ∧ (SqL K H p ys ∨ SqT K H p ys) ∧ ∀ l, H l = none → Q (.ref l) (upd H l (.lst ys))
theorem call_list' {X : Cx} : CallR X (.type "list") (rListOf X.K) := call_list_of
def oCopy {A : Type} (xs : List A) : Option (List A) := some xs
section
variable {A : Type} {K : PySem.W.Frag} {t : Ty A}
theorem sp_listL : OpLO (rListOf K) (l1 (tList t)) (oList t) oCopy := fun a g vs m H Q ⟨v, ev, p, us, e1, k, r⟩ hm e q => by
  cases e; subst ev e1
  exact ⟨p, us, rfl, .inl (.of (hm _ _ k)), fun l hl => newList hm r hl q⟩
theorem sp_listS : OpLO (rListOf K) (l1 (tSeq K t)) (oList t) oCopy := fun a g vs m H Q ⟨v, ev, p, us, e1, k, r⟩ hm e q => by
  cases e; subst ev e1
  exact ⟨p, us, rfl, .inl (hm.sqL k), fun l hl => newList hm r hl q⟩
theorem sp_listT : OpLO (rListOf K) (l1 (tVT K t)) (oList t) oCopy := fun a g vs m H Q ⟨v, ev, p, us, e1, k, r⟩ hm e q => by
  cases e; subst ev e1
  exact ⟨p, us, rfl, .inr (hm.sqT k), fun l hl => newList hm r hl q⟩
def rTupleOf (K : PySem.W.Frag) : List V → Hp → VK → Prop := fun xs H Q => ∃ p ys, xs = [.ref p] ∧ ((SqL K H p ys ∧ ∀ l, H l = none → Q (.ref l) (upd H l (.tup ys))) ∨ (SqT K H p ys ∧ Q (.ref p) H))
theorem call_tuple' {X : Cx} : CallR X (.type "tuple") (rTupleOf X.K) := call_tuple_of
theorem sp_tupL : OpL (rTupleOf K) (l1 (tList t)) (tVT K t) oCopy := fun a g vs m H Q ⟨v, ev, p, us, e1, k, r⟩ hm e q => by
  cases e; subst ev e1
  refine ⟨p, us, rfl, .inl ⟨.of (hm _ _ k), fun l hl => ?_⟩⟩
  have w : WStep [] m H (upd m l (.tup us)) (upd H l (.tup us)) := .new hm hl
  exact q _ _ _ w ⟨l, us, rfl, .of upd_same, r.mono w.mm⟩
theorem sp_tupT : OpL (rTupleOf K) (l1 (tVT K t)) (tVT K t) oCopy := fun a g vs m H Q ⟨v, ev, p, us, e1, k, r⟩ hm e q => by
  cases e; subst ev e1
  exact ⟨p, us, rfl, .inr ⟨hm.sqT k, q _ m H (.refl hm) ⟨p, us, rfl, k, r⟩⟩⟩
def oCat (xs ys : List A) : Option (List A) := if xs.length + ys.length ≤ 100000 then some (xs ++ ys) else none
theorem sp_cat : Op2O rCat (tList t) (tList t) (oList t) oCat := fun a b g v1 v2 m H Q ⟨p, us, e1, k, r⟩ ⟨p2, us2, e2, k2, r2⟩ hm e q => by
  unfold oCat at e
  by_cases z : a.length + b.length ≤ 100000
  · rw [if_pos z] at e; cases e
    refine ⟨p, p2, us, us2, e1, e2, hm _ _ k, hm _ _ k2, ?_, fun l hl => newList hm (r.append r2) hl q⟩
    rw [← r.length, ← r2.length]; exact Nat.le_trans z (by decide)
  · rw [if_neg z] at e; cases e
def oRep (xs : List A) (n : Int) : Option (List A) := if -(2 ^ 62) ≤ n ∧ n < 2 ^ 62 ∧ xs.length * n.toNat ≤ 100000 then some (List.replicate n.toNat xs).flatten else none
theorem Reps.flat {m : Hp} {xs : List A} {us : List V} (r : Reps t m xs us) : ∀ n : Nat, Reps t m (List.replicate n xs).flatten (List.replicate n us).flatten
  | 0 => .nil
  | n + 1 => by rw [List.replicate_succ, List.replicate_succ, List.flatten_cons, List.flatten_cons]; exact r.append (r.flat n)
theorem sp_rep : Op2O rRep (tList t) tInt (oList t) oRep := fun a b g v1 v2 m H Q ⟨p, us, e1, k, r⟩ r2 hm e q => by
  cases rep_int r2
  unfold oRep at e
  by_cases z : -(2 ^ 62) ≤ b ∧ b < 2 ^ 62 ∧ a.length * b.toNat ≤ 100000
  · rw [if_pos z] at e; cases e
    refine ⟨p, b, us, e1, rfl, hm _ _ k, by omega, by omega, ?_, fun l hl => newList hm (r.flat _) hl q⟩
    rw [← r.length]; exact Nat.le_trans z.2.2 (by decide)
  · rw [if_neg z] at e; cases e
/-- a slice of a list -/
def cutL (xs : List A) (lo hi : Option Int) : List A := (xs.drop (HT.sIx xs.length 0 lo)).take (HT.sIx xs.length xs.length hi - HT.sIx xs.length 0 lo)
theorem Reps.cut {m : Hp} {xs : List A} {us : List V} (r : Reps t m xs us) (lo hi : Option Int) : Reps t m (cutL xs lo hi) (cutV us lo hi) := by
  unfold cutL cutV
  rw [r.length]
  exact (r.drop _).take _
end
section
variable {X : Cx} {T A B C : Type} {c : Ctx T} {ds : List Desc} {t : Ty A} {pos p2 : Pos} {a b e : Expr}
/-- a part of a slice -/
def TPX (c : Ctx T) (ds : List Desc) (x : MM T (Option Int)) : TO := fun σ H Q => ∃ m st, EnvOk c σ m H ds st ∧ Post (x st) (fun o st' => ∀ m' H', WStep c.afp m H m' H' → c.amb st' H' m' → Q o H') c.err
theorem p_none : PO X none (TPX c ds (ret none)) := ⟨fun pins s σ H Q I ⟨m, st, env, p⟩ => po_none.run pins s σ H Q I (p m H (.refl env.mh) env.amb)⟩
theorem p_some {xa : MM T Int} (h : PE X e (TX c ds tInt xa)) : PO X (some e) (TPX c ds (e1 (fun i => some (some i)) xa)) := ⟨fun pins s σ H Q I ⟨m, st, env, p⟩ => (po_some h).run pins s σ H Q I
  ⟨m, st, env, (Post.bnd.mp p).imp fun i s1 p v m1 H1 w1 a1 r1 => ⟨i, r1, p m1 H1 w1 a1⟩⟩⟩
def e3p (f : A → Option Int → Option Int → Option C) (x : MM T A) (y z : MM T (Option Int)) : MM T C := bnd x fun a => bnd y fun l => bnd z fun h => lft (f a l h)
def oCut {A : Type} (xs : List A) (lo hi : Option Int) : Option (List A) := some (cutL xs lo hi)
theorem x_slL {lo hi : Option Expr} {xe : MM T (List A)} {xl xh : MM T (Option Int)} (he : PE X e (TX c ds (tList t) xe)) (hl : PO X lo (TPX c ds xl)) (hh : PO X hi (TPX c ds xh)) :
    PE X (.Subscript e (.Slice lo hi none p2) pos) (TXO c ds (oList t) (e3p oCut xe xl xh)) := PE.imp (pe_slice sl_list he hl hh) fun σ H Q ⟨m, st, env, p⟩ => by
  unfold e3p at p
  refine ⟨m, st, env, (Post.bnd.mp p).imp fun xs s1 p v1 m1 H1 w1 a1 ⟨q, us, e1, k, r⟩ => ?_⟩
  refine ⟨m1, s1, env.go w1 a1, (Post.bnd.mp p).imp fun l s2 p m2 H2 w2 a2 => ?_⟩
  refine ⟨m2, s2, (env.go w1 a1).go w2 a2, (Post.bnd.mp p).imp fun h s3 p m3 H3 w3 a3 => ?_⟩
  refine ⟨q, us, e1, .of (w3.mh _ _ (w3.mm _ _ (w2.mm _ _ k))), fun x hx => ?_⟩
  have w := (w1.trans w2).trans w3
  exact newList w.mh ((r.mono (w2.mm.trans w3.mm)).cut l h) hx fun v fp m' H' w4 n4 r4 => p v fp m' H' (w.trans w4.wide) (EnvOk.ambGrow a3 w4) (fun y hy => ⟨fresh_up w (n4 y hy).1, (n4 y hy).2⟩) r4
/-- the same, of a list that is read alone (the script) -/
theorem x_slS {lo hi : Option Expr} {xe : MM T (List A)} {xl xh : MM T (Option Int)} (he : PE X e (TX c ds (tSeq X.K t) xe)) (hl : PO X lo (TPX c ds xl)) (hh : PO X hi (TPX c ds xh)) :
    PE X (.Subscript e (.Slice lo hi none p2) pos) (TXO c ds (oList t) (e3p oCut xe xl xh)) := PE.imp (pe_slice sl_list he hl hh) fun σ H Q ⟨m, st, env, p⟩ => by
  unfold e3p at p
  refine ⟨m, st, env, (Post.bnd.mp p).imp fun xs s1 p v1 m1 H1 w1 a1 ⟨q, us, e1, k, r⟩ => ?_⟩
  refine ⟨m1, s1, env.go w1 a1, (Post.bnd.mp p).imp fun l s2 p m2 H2 w2 a2 => ?_⟩
  refine ⟨m2, s2, (env.go w1 a1).go w2 a2, (Post.bnd.mp p).imp fun h s3 p m3 H3 w3 a3 => ?_⟩
  refine ⟨q, us, e1, w3.mh.sqL ((w2.mm.trans w3.mm).sqL k), fun x hx => ?_⟩
  have w := (w1.trans w2).trans w3
  exact newList w.mh ((r.mono (w2.mm.trans w3.mm)).cut l h) hx fun v fp m' H' w4 n4 r4 => p v fp m' H' (w.trans w4.wide) (EnvOk.ambGrow a3 w4) (fun y hy => ⟨fresh_up w (n4 y hy).1, (n4 y hy).2⟩) r4
end

/-! ### == of data -/
structure EqT {A : Type} [DecidableEq A] (K : PySem.W.Frag) (t : Ty A) (n : Nat) where
  enc : A → PyData
  dp : ∀ a v m H, t.rep a v m → Sub m H → Dp K H v (enc a)
  eqv : ∀ a b, PyData.eqv (enc a) (enc b) = decide (a = b)
  lay : ∀ a, (enc a).canLay0 = true
  dep : ∀ a, (enc a).depth ≤ n
section
variable {A B : Type} [DecidableEq A] [DecidableEq B] {K : PySem.W.Frag} {t : Ty A} {u : Ty B} {n k : Nat}
def eq_int : EqT K tInt 0 where
  enc := .int
  dp := fun a v m H r _ => by cases rep_int r; exact .int a
  eqv := fun a b => by by_cases h : a = b <;> simp [PyData.eqv, h]
  lay := fun a => rfl
  dep := fun a => Nat.le_refl _
def eq_bool : EqT K tBool 0 where
  enc := .bool
  dp := fun a v m H r _ => by cases rep_bool r; exact .bl a
  eqv := fun a b => by cases a <;> cases b <;> rfl
  lay := fun a => rfl
  dep := fun a => Nat.le_refl _
theorem eqvAll_map (e : EqT K t n) : ∀ (xs ys : List A), PyData.eqvAll (xs.map e.enc) (ys.map e.enc) = decide (xs = ys)
  | [], [] => by simp [PyData.eqvAll]
  | [], y :: ys => by simp [PyData.eqvAll]
  | x :: xs, [] => by simp [PyData.eqvAll]
  | x :: xs, y :: ys => by
    simp only [List.map_cons, PyData.eqvAll, e.eqv, eqvAll_map e xs ys, List.cons.injEq]
    by_cases h1 : x = y <;> by_cases h2 : xs = ys <;> simp [h1, h2]
theorem layAll_map (e : EqT K t n) : ∀ (xs : List A), PyData.canLayAll0 (xs.map e.enc) = true
  | [] => rfl
  | x :: xs => by simp only [List.map_cons, PyData.canLayAll0, e.lay, layAll_map e xs, Bool.and_self]
theorem depAll_map (e : EqT K t n) : ∀ (xs : List A), PyData.depthAll (xs.map e.enc) ≤ n
  | [] => Nat.zero_le _
  | x :: xs => by simp only [List.map_cons, PyData.depthAll]; exact Nat.max_le.mpr ⟨e.dep x, depAll_map e xs⟩
theorem dpAll_map (e : EqT K t n) {m H : Hp} (hm : Sub m H) : ∀ {xs : List A} {vs : List V}, Reps t m xs vs → DpAll K H vs (xs.map e.enc) := by
  intro xs vs r
  induction r with
  | nil => exact .nil
  | cons x _ ih => exact .cons (e.dp _ _ _ _ x hm) ih
def eq_list (e : EqT K t n) : EqT K (tList t) (n + 1) where
  enc := fun xs => .list (xs.map e.enc)
  dp := fun a v m H ⟨p, vs, ev, k, r⟩ hm => by subst ev; exact .lst (.of (hm _ _ k)) (dpAll_map e hm r)
  eqv := fun a b => by simp only [PyData.eqv]; exact eqvAll_map e a b
  lay := fun a => by simp only [PyData.canLay0]; exact layAll_map e a
  dep := fun a => by simp only [PyData.depth]; exact Nat.succ_le_succ (depAll_map e a)
def eq_seq (e : EqT K t n) : EqT K (tSeq K t) (n + 1) where
  enc := fun xs => .list (xs.map e.enc)
  dp := fun a v m H ⟨p, vs, ev, k, r⟩ hm => by subst ev; exact .lst (hm.sqL k) (dpAll_map e hm r)
  eqv := fun a b => by simp only [PyData.eqv]; exact eqvAll_map e a b
  lay := fun a => by simp only [PyData.canLay0]; exact layAll_map e a
  dep := fun a => by simp only [PyData.depth]; exact Nat.succ_le_succ (depAll_map e a)
def eq_vt (e : EqT K t n) : EqT K (tVT K t) (n + 1) where
  enc := fun xs => .tuple (xs.map e.enc)
  dp := fun a v m H ⟨p, vs, ev, k, r⟩ hm => by subst ev; exact .tup (hm.sqT k) (dpAll_map e hm r)
  eqv := fun a b => by simp only [PyData.eqv]; exact eqvAll_map e a b
  lay := fun a => by simp only [PyData.canLay0]; exact layAll_map e a
  dep := fun a => by simp only [PyData.depth]; exact Nat.succ_le_succ (depAll_map e a)
/-- a value or None -/
def eq_opt (e : EqT K t n) (nn : ∀ a, PyData.eqv .none (e.enc a) = false ∧ PyData.eqv (e.enc a) .none = false) : EqT K (tOpt t) n where
  enc := fun o => match o with
    | none => .none
    | some a => e.enc a
  dp := fun a v m H r hm => by
    cases a with
    | none => have : v = .non := r; subst this; exact .non
    | some a => exact e.dp a v m H r hm
  eqv := fun a b => by
    cases a <;> cases b
    · rfl
    · simp [(nn _).1]
    · simp [(nn _).2]
    · simp [e.eqv]
  lay := fun a => by cases a with
    | none => rfl
    | some a => exact e.lay a
  dep := fun a => by cases a with
    | none => exact Nat.zero_le _
    | some a => exact e.dep a
theorem shaped_of (e : EqT K t n) (h : n ≤ 64) (a : A) : SeqAt.shaped (e.enc a) = true := by
  unfold SeqAt.shaped
  rw [e.lay a, decide_eq_true (Nat.le_trans (e.dep a) h)]
  rfl
theorem sp_eqD (e : EqT K t n) (e' : EqT K u k) (f : A → B → Option Bool) (hf : ∀ a b, f a b = some (PyData.eqv (e.enc a) (e'.enc b))) (h : n ≤ 64) (h' : k ≤ 64) : Op2 (rEqD K) t u tBool f := fun a b g v1 v2 m H Q r1 r2 hm eg q => by
  rw [hf] at eg; cases eg
  exact ⟨e.enc a, e'.enc b, e.dp _ _ _ _ r1 hm, e'.dp _ _ _ _ r2 hm, shaped_of e h a, shaped_of e' h' b, q _ m H (.refl hm) rfl⟩
theorem sp_deq (e : EqT K t n) (h : n ≤ 64 := by decide) : Op2 (rEqD K) t t tBool oEq := fun a b g v1 v2 m H Q r1 r2 hm eg q => by
  cases eg
  exact ⟨e.enc a, e.enc b, e.dp _ _ _ _ r1 hm, e.dp _ _ _ _ r2 hm, shaped_of e h a, shaped_of e h b, q _ m H (.refl hm) (by rw [e.eqv]; rfl)⟩
theorem sp_dne (e : EqT K t n) (h : n ≤ 64 := by decide) : Op2 (rNeD K) t t tBool oNe := fun a b g v1 v2 m H Q r1 r2 hm eg q => by
  cases eg
  exact ⟨e.enc a, e.enc b, e.dp _ _ _ _ r1 hm, e.dp _ _ _ _ r2 hm, shaped_of e h a, shaped_of e h b, q _ m H (.refl hm) (by rw [e.eqv]; rfl)⟩
/-- a list that stays against one that is read alone -/
theorem sp_dneS (e : EqT K t n) (h : n + 1 ≤ 64 := by decide) : Op2 (rNeD K) (tList t) (tSeq K t) tBool oNe := fun a b g v1 v2 m H Q r1 r2 hm eg q => by
  cases eg
  exact ⟨_, _, (eq_list e).dp _ _ _ _ r1 hm, (eq_seq e).dp _ _ _ _ r2 hm, shaped_of (eq_list e) h a, shaped_of (eq_seq e) h b, q _ m H (.refl hm) (by rw [show (eq_seq e).enc b = (eq_list e).enc b from rfl, (eq_list e).eqv]; rfl)⟩
end
structure EqL {A : Type} [DecidableEq A] (K : PySem.W.Frag) (l : LTy A) (n : Nat) where
  enc : A → List PyData
  dp : ∀ a vs m H, l.rep a vs m → Sub m H → DpAll K H vs (enc a)
  eqv : ∀ a b, PyData.eqvAll (enc a) (enc b) = decide (a = b)
  lay : ∀ a, PyData.canLayAll0 (enc a) = true
  dep : ∀ a, PyData.depthAll (enc a) ≤ n
section
variable {A B : Type} [DecidableEq A] [DecidableEq B] {K : PySem.W.Frag} {t : Ty A} {u : Ty B} {l : LTy B} {n k : Nat}
def el_1 (e : EqT K t n) : EqL K (l1 t) n where
  enc := fun a => [e.enc a]
  dp := fun a vs m H ⟨v, ev, r⟩ hm => by subst ev; exact .cons (e.dp _ _ _ _ r hm) .nil
  eqv := fun a b => by simp only [PyData.eqvAll, e.eqv, Bool.and_true]
  lay := fun a => by simp only [PyData.canLayAll0, e.lay, Bool.and_self]
  dep := fun a => by simp only [PyData.depthAll]; exact Nat.max_le.mpr ⟨e.dep a, Nat.zero_le _⟩
def el_c (e : EqT K t n) (f : EqL K l k) : EqL K (lc t l) (max n k) where
  enc := fun a => e.enc a.1 :: f.enc a.2
  dp := fun a vs m H ⟨v, ws, ev, r, q⟩ hm => by subst ev; exact .cons (e.dp _ _ _ _ r hm) (f.dp _ _ _ _ q hm)
  eqv := fun a b => by
    obtain ⟨a1, a2⟩ := a
    obtain ⟨b1, b2⟩ := b
    simp only [PyData.eqvAll, e.eqv, f.eqv, Prod.mk.injEq]
    by_cases h1 : a1 = b1 <;> by_cases h2 : a2 = b2 <;> simp [h1, h2]
  lay := fun a => by simp only [PyData.canLayAll0, e.lay, f.lay, Bool.and_self]
  dep := fun a => by
    simp only [PyData.depthAll]
    exact Nat.max_le.mpr ⟨Nat.le_trans (e.dep _) (Nat.le_max_left _ _), Nat.le_trans (f.dep _) (Nat.le_max_right _ _)⟩
def eq_tup {l : LTy A} (f : EqL K l n) : EqT K (tTup K l) (n + 1) where
  enc := fun a => .tuple (f.enc a)
  dp := fun a v m H ⟨p, vs, ev, k, r⟩ hm => by subst ev; exact .tup (hm.sqT k) (f.dp _ _ _ _ r hm)
  eqv := fun a b => by simp only [PyData.eqv]; exact f.eqv a b
  lay := fun a => by simp only [PyData.canLay0]; exact f.lay a
  dep := fun a => by simp only [PyData.depth]; exact Nat.succ_le_succ (f.dep a)
end
end WL

/-! WLE: owned lists changed, the pool, comprehensions, the defs. -/
namespace WL
open PySem PySem.Spec PyProof.Rows L2

/-! ### owned lists read -/
section
variable {X : Cx} {T A B C F : Type} {c : Ctx T} {ds : List Desc} {t : Ty A} {pos p2 p3 : Pos} {e : Expr} {P : F → T → Ends → Prop} {rest : List Stmt}
theorem own_at {σ : L2.St} {m H : Hp} {st : T} {i : Nat} {o : OTy A} {a : A} (env : EnvOk c σ m H ds st) (hd : ds[i]? = some (.own o a)) : ∃ v fp, σ[i]? = some (some v) ∧ o.rep a v fp H m := by
  obtain ⟨fps, sl, _, _⟩ := env.slots
  obtain ⟨s, fp, e1, e2, v, rfl, r, n⟩ := sl.get hd
  exact ⟨v, fp, e1, r⟩
/-- len of an owned list -/
theorem x_lenO (i : Nat) {x : Str} {xs : List A} (hm : X.mg "len" = none) (hd : ds[i]? = some (.own (oList t) xs) := by rfl) (hN : X.N[i]? = some x := by rfl) (hv : Vis X.env.scope x := by first | exact Or.inl rfl | exact Or.inr (Or.inl rfl) | exact Or.inr (Or.inr rfl))
    (h1 : (x == ("__debug__" : Str)) = false := by decide) (h2 : (x == ("__classdict__" : Str)) = false := by decide) (hg : Gl X "len" := by rfl)
    (he : starEach [.Name x p3] X.env = (false, eval (.Name x p3) X.env) :: starEach [] X.env := by rfl) (hpl : (backTo pos (starEach [] X.env)).any (·.1) = false := by rfl) :
    PE X (.Call (.Name "len" p2) [.Name x p3] [] pos) (TX c ds tInt (ret (xs.length : Int))) :=
  PE.imp (pe_callB call_len' hg hm PySem.boot_len (pa_cons (pe_var hN hv h1 h2) pa_nil he) (by decide) (by decide) he hpl) fun σ H Q ⟨m, st, env, p⟩ => by
    obtain ⟨v, fp, e1, q, us, ev, ef, k, r⟩ := own_at env hd
    subst ev
    exact ⟨_, e1, q, us, rfl, .inl (.of k), p _ m H (.refl env.mh) env.amb (by show V.int _ = V.int _; rw [r.length])⟩
/-- an item of an owned list -/
theorem x_atO (i : Nat) {x : Str} {xs : List A} {b : Expr} {xb : MM T Int} (hb : PE X b (TX c ds tInt xb)) (hd : ds[i]? = some (.own (oList t) xs) := by rfl) (hN : X.N[i]? = some x := by rfl) (hv : Vis X.env.scope x := by first | exact Or.inl rfl | exact Or.inr (Or.inl rfl) | exact Or.inr (Or.inr rfl))
    (h1 : (x == ("__debug__" : Str)) = false := by decide) (h2 : (x == ("__classdict__" : Str)) = false := by decide) (hp : PlainIx b := by exact fun _ _ => rfl) :
    PE X (.Subscript (.Name x p2) b pos) (TX c ds t (bnd xb fun k => lft (oAt xs k))) := PE.imp (pe_ix ix_list (pe_var hN hv h1 h2) hb hp) fun σ H Q ⟨m, st, env, p⟩ => by
  obtain ⟨v, fp, e1, _⟩ := own_at env hd
  refine ⟨v, e1, m, st, env, (Post.bnd.mp p).imp fun k s1 p v1 m1 H1 w1 a1 r1 => ?_⟩
  cases rep_int r1
  obtain ⟨a, ha, p⟩ := Post.lft.mp p
  obtain ⟨v', fp', e1', q, us, ev, ef, kk, r⟩ := own_at (env.go w1 a1) hd
  rw [e1] at e1'; cases e1'
  obtain ⟨u, hu, ru⟩ := at_reps r ha
  exact ⟨q, us, k, u, ev, rfl, .of kk, hu, p u m1 H1 w1 a1 ru⟩
/-! ### owned lists changed -/
def oApp (xs : List A) (a : A) : Option (List A) := if xs.length < 100000 then some (xs ++ [a]) else none
def oSet (xs : List A) (i : Int) (a : A) : Option (List A) := (ixN xs.length i).map fun j => xs.set j a
theorem b_app (i : Nat) {call : Expr} {xs : List A} {xa : MM T A} {k : List A → MM T F} (he : PE X call (tBM X.K "list" rAppend (tVar i) (tCons (TX c ds t xa) tNil))) (h2 : ∀ ys, PSs X rest (BX c (ds.set i (.own (oList t) ys)) (k ys) P)) (hd : ds[i]? = some (.own (oList t) xs) := by rfl)
    (hs : swapsWith call none pos.line X.env = pure false := by rfl) :
    PSs X (.Expr call pos :: rest) (BX c ds (bnd xa fun a => bnd (lft (oApp xs a)) k) P) :=
  PSs.imp (pss_cons (ps_expr he hs) (PSs.any h2)) fun D σ H ⟨m, st, env, p⟩ => by
    obtain ⟨v, fp, e1, q, us, ev, ef, kk, r⟩ := own_at env hd
    subst ev
    refine ⟨_, e1, .inl ⟨rfl, us, .of kk⟩, m, st, env, (Post.bnd.mp p).imp fun a s1 p v1 m1 H1 w1 a1 r1 => ?_⟩
    have env1 := env.go w1 a1
    obtain ⟨ys, hy, p⟩ := Post.lft.mp (Post.bnd.mp p)
    unfold oApp at hy
    by_cases z : xs.length < 100000
    · rw [if_pos z] at hy; cases hy
      obtain ⟨v', fp', e1', q', us', ev', ef', kk', r'⟩ := own_at env1 hd
      rw [e1] at e1'; cases e1'; cases ev'
      refine ⟨q, us', v1, rfl, rfl, kk', by rw [← r'.length]; exact Nat.lt_of_lt_of_le z (by decide), ?_⟩
      refine ⟨_, m1, s1, env1.put hd fun v fp2 e2 ⟨q2, us2, ev2, ef2, k2, r2⟩ => ?_, p⟩
      rw [e1] at e2; cases e2; cases ev2
      rw [kk'] at k2; cases k2
      exact ⟨by rw [ef2]; simp, q, _, rfl, ef2, upd_same, r2.append (.cons r1 .nil)⟩
    · rw [if_neg z] at hy; cases hy
theorem b_seti (i : Nat) {x : Str} {xs : List A} {b : Expr} {xa : MM T A} {xb : MM T Int} {k : List A → MM T F} (he : PE X e (TX c ds t xa)) (hb : PE X b (TX c ds tInt xb)) (h2 : ∀ ys, PSs X rest (BX c (ds.set i (.own (oList t) ys)) (k ys) P)) (hd : ds[i]? = some (.own (oList t) xs) := by rfl) (hN : X.N[i]? = some x := by rfl) (hv : Vis X.env.scope x := by first | exact Or.inl rfl | exact Or.inr (Or.inl rfl) | exact Or.inr (Or.inr rfl))
    (h1 : (x == ("__debug__" : Str)) = false := by decide) (h3 : (x == ("__classdict__" : Str)) = false := by decide) (hs : swapsWithSole [.Subscript (.Name x p2) b p3] e pos.line X.env = pure false := by rfl)
    (hw : swappedStores [.Subscript (.Name x p2) b p3] e X.env = pure none := by rfl) (h4 : (assignEach [.Subscript (.Name x p2) b p3] X.env).map (·.2) = [assign (.Subscript (.Name x p2) b p3) X.env] := by rfl)
    (ha : ∀ v, assign (.Subscript (.Name x p2) b p3) X.env v = (do
      let ov ← holding [v] (eval (.Name x p2) X.env)
      let iv ← holding [v, ov] (eval b X.env)
      standAt p3
      holding [v, ov, iv] (setItem ov iv v)
      release [v, ov, iv] []) := by intro _; rfl) :
    PSs X (.Assign [.Subscript (.Name x p2) b p3] e pos :: rest) (BX c ds (bnd xa fun a => bnd xb fun j => bnd (lft (oSet xs j a)) k) P) :=
  PSs.imp (pss_cons (ps_asg he (pg_sub (pe_var hN hv h1 h3) hb set_list ha) hs hw h4) (PSs.any h2)) fun D σ H ⟨m, st, env, p⟩ => by
    refine ⟨m, st, env, (Post.bnd.mp p).imp fun a s1 p v1 m1 H1 w1 a1 r1 => ?_⟩
    have env1 := env.go w1 a1
    obtain ⟨v, fp, e1, _⟩ := own_at env hd
    refine ⟨v, e1, m1, s1, env1, (Post.bnd.mp p).imp fun j s2 p v2 m2 H2 w2 a2 r2 => ?_⟩
    cases rep_int r2
    have env2 := env1.go w2 a2
    obtain ⟨ys, hy, p⟩ := Post.lft.mp (Post.bnd.mp p)
    obtain ⟨v', fp', e1', q', us', ev', ef', kk', r'⟩ := own_at env2 hd
    rw [e1] at e1'; cases e1'; subst ev'
    unfold oSet at hy
    cases z : ixN xs.length j with
    | none => rw [z] at hy; cases hy
    | some n =>
      rw [z] at hy; cases hy
      refine ⟨q', us', j, n, rfl, rfl, kk', by rw [← r'.length]; exact z, ?_⟩
      refine ⟨_, m2, s2, env2.put hd fun v fp2 e2 ⟨q2, us2, ev2, ef2, k2, r2⟩ => ?_, p⟩
      rw [e1] at e2; cases e2; cases ev2
      rw [kk'] at k2; cases k2
      exact ⟨by rw [ef2]; simp, q', _, rfl, ef2, upd_same, r2.set (t.mono w2.mm r1) n⟩
end

/-! ### the pool: a list of so many places, which the callers own -/
def ambP {T : Type} (l : LTy T) (p : Addr) (st : T) (h m : Hp) : Prop := ∃ us, h p = some (.lst us) ∧ l.rep st us m
def pCtx {T : Type} (K : PySem.W.Frag) (cls : Nat → Addr) (l : LTy T) (p : Addr) (m H : Hp) (E : XK) : Ctx T where
  K := K
  cls := cls
  S := [p]
  m0 := m
  H0 := H
  afp := [p]
  amb := ambP l p
  ambF := fun hk hm ⟨us, k, r⟩ => ⟨us, by rw [hk p (by simp)]; exact k, l.mono hm r⟩
  ambD := fun ⟨us, k, r⟩ q hq => by obtain rfl := List.mem_singleton.mp hq; rw [k]; exact fun z => nomatch z
  afr := fun q hq => .inl hq
  pin := fun _ => True
  pinM := fun _ _ => trivial
  err := fun e st => ∀ d m' H', WStep [p] m H m' H' → ambP l p st H' m' → XdAt H m' H' d e → E (.ref (cls e.k)) (some d) H'
def uCtx (K : PySem.W.Frag) (cls : Nat → Addr) (m H : Hp) (E : XK) : Ctx Unit where
  K := K
  cls := cls
  S := []
  m0 := m
  H0 := H
  afp := []
  amb := fun _ _ _ => True
  ambF := fun _ _ _ => trivial
  ambD := fun _ q hq => by simp at hq
  afr := fun q hq => .inl hq
  pin := fun _ => True
  pinM := fun _ _ => trivial
  err := fun e _ => ∀ d m' H', WStep [] m H m' H' → XdAt H m' H' d e → E (.ref (cls e.k)) (some d) H'
theorem uErr {K : PySem.W.Frag} {cls : Nat → Addr} {m H : Hp} {E : XK} : ErrC (uCtx K cls m H E) (fun c d _ H => E c d H) := fun e st d σ m' H' ds h env hd _ => h d m' H' env.step hd
theorem pErr {T : Type} {K : PySem.W.Frag} {cls : Nat → Addr} {l : LTy T} {p : Addr} {m H : Hp} {E : XK} : ErrC (pCtx K cls l p m H E) (fun c d _ H => E c d H) := fun e st d σ m' H' ds h env hd _ => h d m' H' env.step env.amb hd
/-- c's state is the list at p -/
structure PoolC {T : Type} (c : Ctx T) (l : LTy T) (p : Addr) : Prop where
  afp : c.afp = [p]
  amb : c.amb = ambP l p
theorem pPool {T : Type} {K : PySem.W.Frag} {cls : Nat → Addr} {l : LTy T} {p : Addr} {m H : Hp} {E : XK} : PoolC (pCtx K cls l p m H E) l p := ⟨rfl, rfl⟩
theorem PoolC.pin {T : Type} {c : Ctx T} {l : LTy T} {p : Addr} {q : Hp → Prop} {hq : ∀ {m n : Hp}, Sub m n → q m → q n} (h : PoolC c l p) : PoolC (c.pinned q hq) l p := ⟨h.afp, h.amb⟩
theorem PoolC.nox {T : Type} {c : Ctx T} {l : LTy T} {p : Addr} (h : PoolC c l p) : PoolC c.nox l p := ⟨h.afp, h.amb⟩
def SpP {T A B : Type} (cls : Nat → Addr) (l : LTy T) (la : Addr → LTy A) (t : Ty B) (f : A → MM T B) : Sp := fun vs H Q E => ∃ p a m st, (la p).rep a vs m ∧ Sub m H ∧ m p = none ∧ ambP l p st H m ∧
  Post (f a st) (fun b st' => ∀ v m' H', WStep [p] m H m' H' → ambP l p st' H' m' → t.rep b v m' → Q v H') (fun e st' => ∀ d m' H', WStep [p] m H m' H' → ambP l p st' H' m' → XdAt H m' H' d e → E (.ref (cls e.k)) (some d) H')
def getP {T A : Type} (f : T → A) : MM T A := fun s => .ok (f s) s
def modP {T : Type} (f : T → T) : MM T Unit := fun s => .ok () (f s)
/-- the n-th place is written -/
structure LPut {A B : Type} (l : LTy A) (n : Nat) (t : Ty B) (g : B → A → A) : Prop where
  put : ∀ a vs m b v, l.rep a vs m → t.rep b v m → n < vs.length ∧ l.rep (g b a) (vs.set n v) m
theorem lq_1 {A : Type} {t : Ty A} : LPut (l1 t) 0 t (fun b _ => b) := ⟨fun a vs m b v ⟨w, e, r⟩ q => by subst e; exact ⟨by simp, v, rfl, q⟩⟩
theorem lq_z {A B : Type} {t : Ty A} {l : LTy B} : LPut (lc t l) 0 t (fun b a => (b, a.2)) := ⟨fun a vs m b v ⟨w, ws, e, r, k⟩ q => by subst e; exact ⟨by simp, v, ws, rfl, q, k⟩⟩
theorem lq_s {A B C : Type} {t : Ty A} {u : Ty C} {l : LTy B} {n : Nat} {g : C → B → B} (h : LPut l n u g) : LPut (lc t l) (n + 1) u (fun b a => (a.1, g b a.2)) := ⟨fun a vs m b v ⟨w, ws, e, r, k⟩ q => by
  subst e
  obtain ⟨h1, h2⟩ := h.put a.2 ws m b v k q
  exact ⟨by simp; exact h1, w, ws.set n v, rfl, r, h2⟩⟩
section
variable {X : Cx} {T A B C F : Type} {c : Ctx T} {ds : List Desc} {l : LTy T} {p : Addr} {t : Ty A} {pos p2 p3 : Pos} {e : Expr} {P : F → T → Ends → Prop} {rest : List Stmt}
theorem val_at {σ : L2.St} {m H : Hp} {st : T} {i : Nat} {a : A} (env : EnvOk c σ m H ds st) (hd : ds[i]? = some (.val t a)) : ∃ v, σ[i]? = some (some v) ∧ t.rep a v m := by
  obtain ⟨fps, sl, _, _⟩ := env.slots
  obtain ⟨s, fp, e1, e2, _, v, rfl, r⟩ := sl.get hd
  exact ⟨v, e1, r⟩
/-- pool[n] -/
theorem x_getP (i n : Nat) {x : Str} {f : T → A} {j} (hc : PoolC c l p) (hp : LProj l n t f) (hd : ds[i]? = some (.val (tIs p) ()) := by rfl) (hN : X.N[i]? = some x := by rfl) (hv : Vis X.env.scope x := by first | exact Or.inl rfl | exact Or.inr (Or.inl rfl) | exact Or.inr (Or.inr rfl))
    (h1 : (x == ("__debug__" : Str)) = false := by decide) (h2 : (x == ("__classdict__" : Str)) = false := by decide) : PE X (.Subscript (.Name x p2) (.Constant (.int (n : Int)) j p3) pos) (TX c ds t (getP f)) :=
  PE.imp (pe_ix ix_list (pe_var hN hv h1 h2) pe_int (fun _ _ => rfl)) fun σ H Q ⟨m, st, env, q⟩ => by
    obtain ⟨v, e1, r⟩ := val_at env hd
    have am := env.amb
    rw [hc.amb] at am
    obtain ⟨us, k, r2⟩ := am
    obtain ⟨u, hu, ru⟩ := hp.at_ st us m r2
    exact ⟨v, e1, p, us, n, u, r, rfl, .of k, atI_nat hu, q u m H (.refl env.mh) env.amb ru⟩
/-- pool[n] = e -/
theorem b_setP (i n : Nat) {x : Str} {g : A → T → T} {xa : MM T A} {k : MM T F} {j} (hc : PoolC c l p) (hp : LPut l n t g) (he : PE X e (TX c ds t xa)) (h2 : PSs X rest (BX c ds k P)) (hd : ds[i]? = some (.val (tIs p) ()) := by rfl) (hN : X.N[i]? = some x := by rfl) (hv : Vis X.env.scope x := by first | exact Or.inl rfl | exact Or.inr (Or.inl rfl) | exact Or.inr (Or.inr rfl))
    (h1 : (x == ("__debug__" : Str)) = false := by decide) (h3 : (x == ("__classdict__" : Str)) = false := by decide) (hs : swapsWithSole [.Subscript (.Name x p2) (.Constant (.int (n : Int)) j p3) p4] e pos.line X.env = pure false := by rfl)
    (hw : swappedStores [.Subscript (.Name x p2) (.Constant (.int (n : Int)) j p3) p4] e X.env = pure none := by rfl) (h4 : (assignEach [.Subscript (.Name x p2) (.Constant (.int (n : Int)) j p3) p4] X.env).map (·.2) = [assign (.Subscript (.Name x p2) (.Constant (.int (n : Int)) j p3) p4) X.env] := by rfl)
    (ha : ∀ v, assign (.Subscript (.Name x p2) (.Constant (.int (n : Int)) j p3) p4) X.env v = (do
      let ov ← holding [v] (eval (.Name x p2) X.env)
      let iv ← holding [v, ov] (eval (.Constant (.int (n : Int)) j p3) X.env)
      standAt p4
      holding [v, ov, iv] (setItem ov iv v)
      release [v, ov, iv] []) := by intro _; rfl) :
    PSs X (.Assign [.Subscript (.Name x p2) (.Constant (.int (n : Int)) j p3) p4] e pos :: rest) (BX c ds (bnd xa fun a => bnd (modP (g a)) fun _ => k) P) :=
  PSs.imp (pss_cons (ps_asg he (pg_sub (pe_var hN hv h1 h3) pe_int set_list ha) hs hw h4) h2) fun D σ H ⟨m, st, env, q⟩ => by
    refine ⟨m, st, env, (Post.bnd.mp q).imp fun a s1 q v1 m1 H1 w1 a1 r1 => ?_⟩
    have env1 := env.go w1 a1
    obtain ⟨v, e1, r⟩ := val_at env hd
    have am := a1
    rw [hc.amb] at am
    obtain ⟨us, k2, r2⟩ := am
    obtain ⟨hl, r3⟩ := hp.put s1 us m1 a v1 r2 r1
    have hpa : p ∈ c.afp := by rw [hc.afp]; simp
    have w2 : WStep c.afp m1 H1 m1 (upd H1 p (.lst (us.set n v1))) := .put w1.mh (env1.own p hpa) hpa
    refine ⟨v, e1, p, us, n, n, r, rfl, k2, ?_, m1, g a s1, env1.go w2 ?_, q⟩
    · show ixN us.length (n : Int) = some n
      unfold ixN
      rw [if_pos (by omega), if_pos (by omega)]
      rfl
    · rw [hc.amb]
      exact ⟨_, upd_same, r3⟩
/-- a def that changes the pool -/
theorem x_callP {la : Addr → LTy A} {u : Ty B} {fn : A → MM T B} {xa : MM T A} {k : Nat} {f : Addr} {fd : FuncData} {ps : List Str} {x : Str} {es : List Expr} {W : WX} (hc : PoolC c l p) (G : FnOk X.prog X.w X.K X.mg X.base (L2.CX X.prog X.w) k f fd ps (SpP c.cls l la u fn)) (hr : Room k X.A) (hm : X.mg x = some (.ref f)) (hk : PySem.W.keepIn X.K (.ref f) = true) (hb : Binds X.K fd ps [])
    (tk : Takes X W) (he : ErrC c W) (ha : PA X (e :: es) (TAX c ds (la p) xa)) (hg : Gl X x := by rfl) (hdb : (x == ("__debug__" : Str)) = false := by decide)
    (h1 : starEach (e :: es) X.env = (false, eval e X.env) :: starEach es X.env := by rfl) (h2 : (backTo pos (starEach es X.env)).any (·.1) = false := by rfl) :
    PE X (.Call (.Name x p2) (e :: es) [] pos) (TX c ds u (eCallS fn xa)) := PE.imp (pe_callS G hr hg hm hk hb (fun σ => passAt tk σ) ha hdb h1 h2) fun σ H Q ⟨m, st, env, q⟩ =>
  ⟨m, st, env, (Post.bnd.mp q).imp fun a s1 q vs m1 H1 w1 a1 r1 => by
    have env1 := env.go w1 a1
    have hpa : p ∈ c.afp := by rw [hc.afp]; simp
    have e3 := hc.afp
    have e4 := hc.amb
    refine ⟨p, a, m1, s1, r1, w1.mh, env1.own p hpa, by rw [← e4]; exact a1, q.mono (fun b s2 q v m' H' w2 a2 r2 => ?_) fun e s2 q d m' H' w2 a2 hd => ?_⟩
    · rw [← e3] at w2
      rw [← e4] at a2
      exact q v m' H' (w1.trans w2) a2 r2
    · rw [← e3] at w2
      rw [← e4] at a2
      exact he e s2 d σ m' H' ds q (env1.go w2 a2) (xd_up env1 hd).1 (xd_up env1 hd).2⟩
end

/-! ### comprehensions -/
section
variable {T A B : Type}
def lcM (f : A → MM T B) : List A → MM T (List B)
  | [] => ret []
  | x :: r => bnd (f x) fun y => bnd (lcM f r) fun ys => ret (y :: ys)
def lcI (ts : A → MM T Bool) (f : A → MM T B) : List A → MM T (List B)
  | [] => ret []
  | x :: r => bnd (ts x) fun b => if b = true then bnd (f x) fun y => bnd (lcI ts f r) fun ys => ret (y :: ys) else lcI ts f r
def lcL (f : A → MM T B) (xs : List A) : MM T (List B) := if xs.length ≤ 100000 then lcM (fun a => noE (f a)) xs else stk
def lcIL (ts : A → MM T Bool) (f : A → MM T B) (xs : List A) : MM T (List B) := if xs.length ≤ 100000 then lcI (fun a => noE (ts a)) (fun a => noE (f a)) xs else stk
theorem lcI_true (f : A → MM T B) : ∀ xs : List A, lcI (fun _ => noE (ret true)) f xs = lcM f xs
  | [] => rfl
  | x :: r => by
    show bnd (noE (ret true)) _ = _
    funext s
    show (if true = true then bnd (f x) fun y => bnd (lcI (fun _ => noE (ret true)) f r) fun ys => ret (y :: ys) else lcI (fun _ => noE (ret true)) f r) s = lcM f (x :: r) s
    rw [if_pos rfl, lcI_true f r]
    rfl
theorem lcIL_true (f : A → MM T B) (xs : List A) : lcIL (fun _ => ret true) f xs = lcL f xs := by
  unfold lcIL lcL
  rw [lcI_true]
def wipeD (ds : List Desc) : List Nat → List Desc
  | [] => ds
  | v :: vs => (wipeD ds vs).set v .any
theorem EnvOk.wipe {c : Ctx T} {σ : L2.St} {m h : Hp} {ds : List Desc} {st : T} (x : EnvOk c σ m h ds st) : ∀ vs : List Nat, EnvOk c (wipe σ vs) m h (wipeD ds vs) st
  | [] => x
  | v :: vs => (EnvOk.wipe x vs).clear v none
theorem wipe_get (σ : L2.St) : ∀ (vs : List Nat) (i : Nat), (wipe σ vs)[i]? = if i ∈ vs ∧ i < σ.length then some none else σ[i]?
  | [], i => by simp [L2.wipe]
  | v :: vs, i => by
    have ih := wipe_get σ vs i
    unfold L2.wipe
    have hl := wipe_length σ vs
    by_cases h : v = i
    · subst h
      by_cases hv : v < σ.length
      · rw [List.getElem?_set_self (by omega), if_pos ⟨by simp, hv⟩]
      · rw [if_neg (by omega), List.getElem?_eq_none (by rw [List.length_set]; omega), List.getElem?_eq_none (by omega)]
    · rw [List.getElem?_set_ne h, ih]
      have : i ∈ v :: vs ↔ i ∈ vs := by simp [Ne.symm h]
      simp only [this]
theorem wipe_but {σ σ' : L2.St} {is vs : List Nat} (b : But is (wipe σ vs) σ') (h : ∀ i ∈ is, i ∈ vs) : L2.wipe σ' vs = L2.wipe σ vs := by
  have hl := b.1
  rw [wipe_length] at hl
  refine List.ext_getElem? fun i => ?_
  rw [wipe_get, wipe_get]
  by_cases z : i ∈ vs ∧ i < σ.length
  · rw [if_pos (by rw [hl]; exact z), if_pos z]
  · rw [if_neg (by rw [hl]; exact z), if_neg z]
    by_cases y : i ∈ vs
    · have : ¬ i < σ.length := fun q => z ⟨y, q⟩
      rw [List.getElem?_eq_none (by omega), List.getElem?_eq_none (by omega)]
    · rw [b.2 i fun q => y (h i q), wipe_get, if_neg (fun q => y q.1)]
end
section
variable {X : Cx} {T A B : Type} {c : Ctx T} {ds : List Desc} {pos spos py : Pos}
/-- the new list aside -/
def less (H : Hp) (D : Addr) : Hp := fun a => if a = D then none else H a
theorem less_same (H : Hp) (D : Addr) : less H D D = none := if_pos rfl
theorem less_ne (H : Hp) {D a : Addr} (h : a ≠ D) : less H D a = H a := if_neg h
theorem upd_less (H : Hp) (D : Addr) (o : HO) : upd (less H D) D o = upd H D o := by
  funext a
  unfold upd less
  by_cases h : a = D
  · rw [if_pos h, if_pos h]
  · rw [if_neg h, if_neg h, if_neg h]
theorem less_step {S : List Addr} {m G m2 H2 : Hp} {D : Addr} {o : HO} (w : WStep S m (upd G D o) m2 H2) (hG : G D = none) (hm : m D = none) : WStep S m G m2 (less H2 D) := by
  have ne : ∀ a, G a ≠ none → a ≠ D := fun a h e => h (by rw [e]; exact hG)
  have m2D : m2 D = none := w.ow D hm (by rw [upd_same]; exact fun z => nomatch z)
  refine ⟨w.mm, fun a u e => ?_, fun a u hS e => ?_, fun a e n => w.ow a e (by rw [upd_ne (ne a n)]; exact n), fun a n => ?_⟩
  · rw [less_ne _ (fun z => by rw [z, m2D] at e; cases e)]; exact w.mh a u e
  · have nD := ne a (by rw [e]; exact fun z => nomatch z)
    rw [less_ne _ nD]; exact w.hh a u hS (by rw [upd_ne nD]; exact e)
  · rw [less_ne _ (ne a n)]; exact w.dm a (by rw [upd_ne (ne a n)]; exact n)
theorem rd_lcI {wi : TI} {g : TG} {tt : TT} {te : TE} {vs is : List Nat} {t : Ty A} {u : Ty B} {x : MM T (List A)} {ts : A → MM T Bool} {f : A → MM T B} {bd : A → List Desc → List Desc} {σ : L2.St} {H : Hp} {Q : VK}
    (hw : ∀ σ H R, SrcTI c ds t x σ H R → wi σ H R) (ht : TgtOk c.nox g t is bd) (hv : ∀ i ∈ is, i ∈ vs) (hts : ∀ a σ H Q, TTX c.nox (bd a (wipeD ds vs)) (ts a) σ H Q → tt σ H Q) (hte : ∀ a σ H Q, TX c.nox (bd a (wipeD ds vs)) u (f a) σ H Q → te σ H Q)
    (h : TXO c ds (oList u) (bnd x (lcIL ts f)) σ H Q) : tLc wi g tt te vs σ H Q := by
  obtain ⟨m, st, env, p⟩ := h
  refine hw σ H _ ⟨m, st, env, (Post.bnd.mp p).imp fun xs s1 p J q m1 H1 w1 a1 hq q1 sv D hD => ?_⟩
  unfold lcIL at p
  by_cases hlen : xs.length ≤ 100000
  rotate_left
  · rw [if_neg hlen] at p; exact p.elim
  rw [if_pos hlen] at p
  let FIN : List B → T → Prop := fun a st' => ∀ v fp m' H', WStep c.afp m H m' H' → c.amb st' H' m' → (∀ p ∈ fp, H p = none ∧ m' p = none) → (oList u).rep a v fp H' m' → Q v H'
  refine ⟨fun i n Hc => n = xs.length - i ∧ i ≤ xs.length ∧ ∃ m G st done ws, Hc = upd G D (.lst ws) ∧ G D = none ∧ EnvOk c σ m G ds st ∧ WStep c.afp m1 H1 m G ∧ q m ∧ Reps u m done ws ∧ done.length ≤ i ∧
      Post (lcI (fun a => noE (ts a)) (fun a => noE (f a)) (xs.drop i) st) (fun ys st' => FIN (done ++ ys) st') c.err,
    ⟨xs.length, by simp, Nat.zero_le _, m1, H1, s1, [], [], rfl, hD, env.go w1 a1, .refl w1.mh, q1, .nil, Nat.le_refl _, p⟩, ?_⟩
  rintro i n Hc ⟨rfl, hi, m2, G, st2, done, ws, rfl, hG, env2, w2, q2, r2, hdl, p2⟩
  have hmD : m2 D = none := env2.mh.free hG
  have wn : WStep [] m2 G m2 (upd G D (.lst ws)) := .own env2.mh hG
  obtain ⟨sv1, sv2⟩ := sv i (upd G D (.lst ws)) ⟨m2, q2, wn.mh⟩
  by_cases hlt : i < xs.length
  · obtain ⟨g1, g2⟩ := sv1 hlt
    refine .inr ⟨g1, fun Hc => ∃ m G st done ws, Hc = upd G D (.lst ws) ∧ G D = none ∧ EnvOk c σ m G ds st ∧ WStep c.afp m1 H1 m G ∧ q m ∧ Reps u m done ws ∧ done.length ≤ i + 1 ∧
      Post (lcI (fun a => noE (ts a)) (fun a => noE (f a)) (xs.drop (i + 1)) st) (fun ys st' => FIN (done ++ ys) st') c.err, fun Hc h => ⟨xs.length - (i + 1), by omega, rfl, hlt, h⟩, fun v H' y => ?_⟩
    obtain ⟨rfl, y2⟩ := g2 v H' y
    obtain ⟨a, ha, ra⟩ := y2 m2 q2 wn.mh
    rw [List.getElem?_eq_getElem hlt] at ha
    cases ha
    rw [List.drop_eq_getElem_cons hlt] at p2
    have envc : EnvOk c.nox (wipe σ vs) m2 (upd G D (.lst ws)) (wipeD ds vs) st2 := ((env2.grow wn).wipe vs).nox
    refine ht xs[i] v (wipe σ vs) m2 _ _ st2 _ ra envc fun σ3 env3 b3 => ⟨wipe_but b3 hv, ?_⟩
    refine hts xs[i] σ3 _ _ ⟨m2, st2, env3, (Post.noE.mp (Post.bnd.mp p2)).imp fun b s3 p3 m3 H3 w3 a3 => ?_⟩
    have hDa : D ∉ c.afp := fun z => (c.ambD env2.amb D z) hG
    have hH3 : H3 D = some (.lst ws) := w3.hh D _ hDa upd_same
    have k3 : WStep c.afp m2 G m3 (less H3 D) := less_step w3 hG hmD
    have am3 : c.amb s3 (less H3 D) m3 := c.ambF (fun y hy => less_ne _ fun z => hDa (by rw [← z]; exact hy)) (.refl _) a3
    have e3 : upd (less H3 D) D (.lst ws) = H3 := by
      rw [upd_less]; funext y; by_cases z : y = D
      · subst z; rw [upd_same]; exact hH3.symm
      · rw [upd_ne z]
    cases b with
    | true =>
      rw [if_pos rfl] at p3
      refine iteT ?_
      refine hte xs[i] σ3 _ _ ⟨m3, s3, env3.go w3 a3, (Post.noE.mp (Post.bnd.mp p3)).imp fun yv s4 p4 v4 m4 H4 w4 a4 r4 => ?_⟩
      have hH4 : H4 D = some (.lst ws) := w4.hh D _ hDa hH3
      have w4' : WStep c.afp m3 (upd (less H3 D) D (.lst ws)) m4 H4 := by rw [e3]; exact w4
      have k4 : WStep c.afp m3 (less H3 D) m4 (less H4 D) := less_step w4' (less_same _ _) (k3.mh.free (less_same _ _))
      have am4 : c.amb s4 (less H4 D) m4 := c.ambF (fun y hy => less_ne _ fun z => hDa (by rw [← z]; exact hy)) (.refl _) a4
      have hwl : ws.length < sizeLine := by rw [← r2.length]; exact Nat.lt_of_lt_of_le (show done.length < 100000 by omega) (by decide)
      refine ⟨ws, hH4, hwl, m4, less H4 D, s4, done ++ [yv], ws ++ [v4], (upd_less _ _ _).symm, less_same _ _, (env2.go k3 am3).go k4 am4, (w2.trans k3).trans k4, hq (k3.mm.trans k4.mm) q2, (r2.mono (k3.mm.trans k4.mm)).append (.cons r4 .nil), by simp; omega, ?_⟩
      refine (Post.bnd.mp p4).imp fun ys s5 p5 => ?_
      show FIN (done ++ [yv] ++ ys) s5
      rw [List.append_assoc]
      exact p5
    | false =>
      rw [if_neg Bool.false_ne_true] at p3
      exact iteF ⟨m3, less H3 D, s3, done, ws, e3.symm, less_same _ _, env2.go k3 am3, w2.trans k3, hq k3.mm q2, r2.mono k3.mm, by omega, p3⟩
  · have e : xs.drop i = [] := List.drop_eq_nil_of_le (by omega)
    rw [e] at p2
    refine .inl ⟨sv2 (by omega), ?_⟩
    have p2 : FIN (done ++ []) st2 := p2
    rw [List.append_nil] at p2
    have w := w1.trans w2
    exact p2 (.ref D) [D] m2 _ (w.trans wn.wide) (EnvOk.ambGrow env2.amb wn) (fun y hy => by obtain rfl := List.mem_singleton.mp hy; exact ⟨fresh_up w hG, hmD⟩) ⟨D, ws, rfl, rfl, upd_same, r2⟩
end
section
variable {X : Cx} {T A B F : Type} {c : Ctx T} {ds : List Desc} {pos spos py : Pos} {elt tg iter cnd : Expr} {scope : Scope} {own : List (Str × Nat)} {g : TG} {is : List Nat} {t : Ty A} {u : Ty B} {x : MM T (List A)} {ts : A → MM T Bool} {f : A → MM T B} {bd : A → List Desc → List Desc} {P : F → T → Ends → Prop} {rest : List Stmt}
/-- [elt for tg in iter] -/
theorem x_lc (hc : X.calm = true) (hN : X.N.Nodup) (hi : PI X tg iter (SrcTI c ds t x)) (ok : BlkOk X.N X.env.scope scope own) (ht : TgtOk c.nox g t is bd) (hv : ∀ i ∈ is, i ∈ own.map (·.2))
    (hg : ∀ (s : Shared) (H : Hp) (C : Addr) (cl : List (Str × Addr)) (fp : List Addr), PG (X.blk s H scope (compEnvC scope cl C X.env) fp) tg g)
    (he : ∀ (s : Shared) (H : Hp) (C : Addr) (cl : List (Str × Addr)) (fp : List Addr) (a : A), PE (X.blk s H scope (compEnvC scope cl C X.env) fp) elt (TX c.nox (bd a (wipeD ds (own.map (·.2)))) u (f a))) (hs : ∀ x, foldedSetIterable iter X.env x = pure x := by intro _; rfl) :
    PE X (.ListComp elt [⟨tg, iter, [], 0⟩] scope pos) (TXO c ds (oList u) (bnd x (lcL f))) := by
  have e : (lcL f : List A → MM T (List B)) = lcIL (fun _ => ret true) f := funext fun xs => (lcIL_true f xs).symm
  rw [e]
  exact PE.imp (pe_lc hc hN hi ok hg (fun _ _ _ _ _ => pts_nil) (fun s H C cl fp => PE.any (he s H C cl fp)) hs) fun σ H Q h =>
    rd_lcI (fun _ _ _ q => q) ht hv (fun a σ H Q ⟨m, st, env, p⟩ => p m H (.refl env.mh) env.amb) (fun a σ H Q q => ⟨a, q⟩) h
theorem PTs.any {X : Cx} {ifs : List Expr} {I : Type} {t : I → TT} (h : ∀ i, PTs X ifs (t i)) : PTs X ifs (fun σ H Q => ∃ i, t i σ H Q) := ⟨fun pins s σ H Q J ⟨i, q⟩ => (h i).run pins s σ H Q J q⟩
theorem x_lcI (hc : X.calm = true) (hN : X.N.Nodup) (hi : PI X tg iter (SrcTI c ds t x)) (ok : BlkOk X.N X.env.scope scope own) (ht : TgtOk c.nox g t is bd) (hv : ∀ i ∈ is, i ∈ own.map (·.2))
    (hg : ∀ (s : Shared) (H : Hp) (C : Addr) (cl : List (Str × Addr)) (fp : List Addr), PG (X.blk s H scope (compEnvC scope cl C X.env) fp) tg g)
    (hts : ∀ (s : Shared) (H : Hp) (C : Addr) (cl : List (Str × Addr)) (fp : List Addr) (a : A), PT (X.blk s H scope (compEnvC scope cl C X.env) fp) cnd (TTX c.nox (bd a (wipeD ds (own.map (·.2)))) (ts a)))
    (he : ∀ (s : Shared) (H : Hp) (C : Addr) (cl : List (Str × Addr)) (fp : List Addr) (a : A), PE (X.blk s H scope (compEnvC scope cl C X.env) fp) elt (TX c.nox (bd a (wipeD ds (own.map (·.2)))) u (f a))) (hs : ∀ x, foldedSetIterable iter X.env x = pure x := by intro _; rfl) :
    PE X (.ListComp elt [⟨tg, iter, [cnd], 0⟩] scope pos) (TXO c ds (oList u) (bnd x (lcIL ts f))) :=
  PE.imp (pe_lc hc hN hi ok hg (fun s H C cl fp => PTs.any fun a => pts_one (hts s H C cl fp a)) (fun s H C cl fp => PE.any (he s H C cl fp)) hs) fun σ H Q h =>
    rd_lcI (fun _ _ _ q => q) ht hv (fun a σ H Q q => ⟨a, q⟩) (fun a σ H Q q => ⟨a, q⟩) h
/-- name = [elt for tg in iter], the list owned -/
theorem b_setLc (i : Nat) {y : Str} {k : List B → MM T F} (hc : X.calm = true) (hN : X.N.Nodup) (hi : PI X tg iter (SrcTI c ds t x)) (ok : BlkOk X.N X.env.scope scope own) (ht : TgtOk c.nox g t is bd) (hv : ∀ i ∈ is, i ∈ own.map (·.2))
    (hg : ∀ (s : Shared) (H : Hp) (C : Addr) (cl : List (Str × Addr)) (fp : List Addr), PG (X.blk s H scope (compEnvC scope cl C X.env) fp) tg g)
    (he : ∀ (s : Shared) (H : Hp) (C : Addr) (cl : List (Str × Addr)) (fp : List Addr) (a : A), PE (X.blk s H scope (compEnvC scope cl C X.env) fp) elt (TX c.nox (bd a (wipeD ds (own.map (·.2)))) u (f a)))
    (h2 : ∀ ys, PSs X rest (BX c (ds.set i (.own (oList u) ys)) (k ys) P)) (hy : X.N[i]? = some y := by rfl) (hyl : X.env.scope.names.lookup y = some .local := by rfl) (hk : X.env.scope.kind = .function := by rfl) (hl : (py.line == pos.line) = true := by rfl)
    (hsn : (scope.names.any fun (n, k) => n == y && (k == .local || k == .cell)) = false := by decide +kernel) (hs : ∀ x, foldedSetIterable iter X.env x = pure x := by intro _; rfl) :
    PSs X (.Assign [.Name y py] (.ListComp elt [⟨tg, iter, [], 0⟩] scope pos) spos :: rest) (BX c ds (bnd (bnd x (lcL f)) k) P) := by
  have e : (lcL f : List A → MM T (List B)) = lcIL (fun _ => ret true) f := funext fun xs => (lcIL_true f xs).symm
  rw [e]
  exact PSs.imp (pss_cons (ps_setLc hc hN hy hyl (sw_true hk hyl hl hsn) hi ok hg (fun _ _ _ _ _ => pts_nil) (fun s H C cl fp => PE.any (he s H C cl fp)) hs) (PSs.any h2)) fun D σ H ⟨m, st, env, p⟩ =>
    show tLc (SrcTI c ds t x) g tYes (fun σ H Q => ∃ i, TX c.nox (bd i (wipeD ds (own.map (·.2)))) u (f i) σ H Q) (own.map (·.2)) σ H (fun v H1 => gName i v σ H1 (fun σ H => ∃ a, BX c (ds.set i (.own (oList u) a)) (k a) P D σ H)) from
    rd_lcI (fun _ _ _ q => q) ht hv (fun a σ H Q ⟨m, st, env, p⟩ => p m H (.refl env.mh) env.amb) (fun a σ H Q q => ⟨a, q⟩) ⟨m, st, env, (Post.bnd.mp p).imp fun a s1 p v fp m1 H1 w1 a1 n1 r1 => ⟨a, m1, s1, bindNew i env w1 a1 n1 r1, p⟩⟩
theorem b_setLcI (i : Nat) {y : Str} {k : List B → MM T F} (hc : X.calm = true) (hN : X.N.Nodup) (hi : PI X tg iter (SrcTI c ds t x)) (ok : BlkOk X.N X.env.scope scope own) (ht : TgtOk c.nox g t is bd) (hv : ∀ i ∈ is, i ∈ own.map (·.2))
    (hg : ∀ (s : Shared) (H : Hp) (C : Addr) (cl : List (Str × Addr)) (fp : List Addr), PG (X.blk s H scope (compEnvC scope cl C X.env) fp) tg g)
    (hts : ∀ (s : Shared) (H : Hp) (C : Addr) (cl : List (Str × Addr)) (fp : List Addr) (a : A), PT (X.blk s H scope (compEnvC scope cl C X.env) fp) cnd (TTX c.nox (bd a (wipeD ds (own.map (·.2)))) (ts a)))
    (he : ∀ (s : Shared) (H : Hp) (C : Addr) (cl : List (Str × Addr)) (fp : List Addr) (a : A), PE (X.blk s H scope (compEnvC scope cl C X.env) fp) elt (TX c.nox (bd a (wipeD ds (own.map (·.2)))) u (f a)))
    (h2 : ∀ ys, PSs X rest (BX c (ds.set i (.own (oList u) ys)) (k ys) P)) (hy : X.N[i]? = some y := by rfl) (hyl : X.env.scope.names.lookup y = some .local := by rfl) (hk : X.env.scope.kind = .function := by rfl) (hl : (py.line == pos.line) = true := by rfl)
    (hsn : (scope.names.any fun (n, k) => n == y && (k == .local || k == .cell)) = false := by decide +kernel) (hs : ∀ x, foldedSetIterable iter X.env x = pure x := by intro _; rfl) :
    PSs X (.Assign [.Name y py] (.ListComp elt [⟨tg, iter, [cnd], 0⟩] scope pos) spos :: rest) (BX c ds (bnd (bnd x (lcIL ts f)) k) P) :=
  PSs.imp (pss_cons (ps_setLc hc hN hy hyl (sw_true hk hyl hl hsn) hi ok hg (fun s H C cl fp => PTs.any fun a => pts_one (hts s H C cl fp a)) (fun s H C cl fp => PE.any (he s H C cl fp)) hs) (PSs.any h2)) fun D σ H ⟨m, st, env, p⟩ =>
    show tLc (SrcTI c ds t x) g (fun σ H Q => ∃ i, TTX c.nox (bd i (wipeD ds (own.map (·.2)))) (ts i) σ H Q) (fun σ H Q => ∃ i, TX c.nox (bd i (wipeD ds (own.map (·.2)))) u (f i) σ H Q) (own.map (·.2)) σ H (fun v H1 => gName i v σ H1 (fun σ H => ∃ a, BX c (ds.set i (.own (oList u) a)) (k a) P D σ H)) from
    rd_lcI (fun _ _ _ q => q) ht hv (fun a σ H Q q => ⟨a, q⟩) (fun a σ H Q q => ⟨a, q⟩) ⟨m, st, env, (Post.bnd.mp p).imp fun a s1 p v fp m1 H1 w1 a1 n1 r1 => ⟨a, m1, s1, bindNew i env w1 a1 n1 r1, p⟩⟩
end

/-! ### the defs -/
/-- the slots at the entry -/
structure LDesc {A : Type} (l : LTy A) (n : Nat) (D : A → List Desc) : Prop where
  len : ∀ a vs m, l.rep a vs m → vs.length = n
  ok : ∀ a vs m h, l.rep a vs m → Slots m h (vs.map some) (List.replicate n []) (D a)
theorem ld_0 : LDesc l0 0 (fun _ => []) := ⟨fun a vs m h => by cases h; rfl, fun a vs m h e => by cases e; exact .nil⟩
theorem ld_1 {A : Type} {t : Ty A} : LDesc (l1 t) 1 (fun a => [.val t a]) := ⟨fun a vs m ⟨v, e, r⟩ => by subst e; rfl, fun a vs m h ⟨v, e, r⟩ => by subst e; exact .cons ⟨rfl, v, rfl, r⟩ .nil⟩
theorem ld_c {A B : Type} {t : Ty A} {l : LTy B} {n : Nat} {D : B → List Desc} (h : LDesc l n D) : LDesc (lc t l) (n + 1) (fun a => .val t a.1 :: D a.2) :=
  ⟨fun a vs m ⟨v, ws, e, r, q⟩ => by subst e; rw [List.length_cons, h.len a.2 ws m q], fun a vs m hh ⟨v, ws, e, r, q⟩ => by subst e; exact .cons ⟨rfl, v, rfl, r⟩ (h.ok a.2 ws m hh q)⟩
theorem Slots.more {m h : Hp} {σ : L2.St} {fps : List (List Addr)} {ds : List Desc} (x : Slots m h σ fps ds) : ∀ k : Nat, Slots m h (σ ++ List.replicate k none) (fps ++ List.replicate k []) (ds ++ List.replicate k .any) := by
  intro k
  induction x with
  | nil =>
    induction k with
    | zero => exact .nil
    | succ k ih => exact .cons rfl ih
  | cons a _ ih => exact .cons a ih
theorem disj_nils (n k : Nat) : Disj (List.replicate n ([] : List Addr) ++ List.replicate k []) := by
  unfold Disj
  rw [List.pairwise_iff_getElem]
  intro i j hi hj _ p hp
  have : ∀ x ∈ List.replicate n ([] : List Addr) ++ List.replicate k [], x = [] := fun x hx => by
    rcases List.mem_append.mp hx with z | z
    · exact (List.mem_replicate.mp z).2
    · exact (List.mem_replicate.mp z).2
  rw [this _ (List.getElem_mem hi)] at hp
  exact absurd hp (by simp)
section
variable {P : Program} {w : World} {K : PySem.W.Frag} {mg : Str → Option Value} {base : Heap} {x qual : Str} {st : Stmt} {f : Addr} {fd : FuncData} {N ps : List Str} {k r : Nat} {T A B : Type} {cls : Nat → Addr}
/-- the setting of a def's body -/
abbrev bX (P : Program) (w : World) (K : PySem.W.Frag) (mg : Str → Option Value) (base : Heap) (N : List Str) (qual : Str) (st : Stmt) (f : Addr) (cdv : Value) (A : Around) (outer : List Env) (s : Shared) (H : Hp) (E : XK) : Cx :=
  cxOf (L2.CX P w) P w K mg base N qual (defScope st) f cdv A outer s H E
theorem bTakes {cdv : Value} {A : Around} {outer : List Env} {s : Shared} {H : Hp} {E : XK} : Takes (bX P w K mg base N qual st f cdv A outer s H E) (fun c d _ H => E c d H) := takes_of rfl rfl rfl rfl
theorem bPass {cdv : Value} {A : Around} {outer : List Env} {s : Shared} {H : Hp} {E : XK} : PassesOwn (model (bX P w K mg base N qual st f cdv A outer s H E).prog (bX P w K mg base N qual st f cdv A outer s H E).w) (bX P w K mg base N qual st f cdv A outer s H E).A (bX P w K mg base N qual st f cdv A outer s H E).env (bX P w K mg base N qual st f cdv A outer s H E).xe := passes_of rfl
theorem start_eq {N : List Str} {vs : List V} {n r : Nat} (h : vs.length = n) (hn : N.length = n + r) : L2.start N vs = vs.map some ++ List.replicate r none := by
  unfold L2.start
  rw [hn, h, Nat.add_sub_cancel_left]
theorem env_start {c : Ctx T} {l : LTy A} {n : Nat} {D : A → List Desc} {a : A} {vs : List V} {m H : Hp} {st : T} (hl : LDesc l n D) (h : l.rep a vs m) (hn : N.length = n + r) (hm : Sub m H) (e1 : c.m0 = m) (e2 : c.H0 = H) (am : c.amb st H m) (ow : ∀ p ∈ c.afp, m p = none) (pn : c.pin m) :
    EnvOk c (L2.start N vs) m H (D a ++ List.replicate r .any) st := by
  subst e1 e2
  refine ⟨.refl hm, ⟨_, by rw [start_eq (hl.len a vs _ h) hn]; exact (hl.ok a vs _ _ h).more r, disj_nils _ _, fun fp hf p hp => ?_⟩, am, ow, pn⟩
  rcases List.mem_append.mp hf with z | z
  · rw [(List.mem_replicate.mp z).2] at hp; exact absurd hp (by simp)
  · rw [(List.mem_replicate.mp z).2] at hp; exact absurd hp (by simp)
theorem fn_pure {l : LTy A} {t : Ty B} {fn : A → MM Unit B} {D : A → List Desc} (F : Fun K x qual st f fd) (S : FnScope N ps (defScope st)) (hl : LDesc l ps.length D) (hn : N.length = ps.length + r)
    (body : ∀ (cdv : Value) (A : Around) (outer : List Env) (s : Shared) (H : Hp) (E : XK) (m : Hp) a, Room k (A.deeper (envOfC qual (defScope st) s.heap.objs.size f cdv)) →
      PSs (bX P w K mg base N qual st f cdv A outer s H E) (defBody st) (BX (uCtx K cls m H E) (D a ++ List.replicate r .any) (fn a) (ER (uCtx K cls m H E) t))) :
    FnOk P w K mg base (L2.CX P w) (k + 1) f fd ps (SpF cls l t fn) := by
  obtain ⟨oc, od, kV, doc, pm, an, cdv, ct, osl, rfl, lk, hcd⟩ := F.ex
  refine fn_of lk hcd S (fun vs H Q E ⟨a, m, h, _⟩ => hl.len a vs m h) fun A outer s H vs Q E hr ⟨a, m, h, hm, q⟩ => ?_
  exact ⟨_, body cdv A outer s H E m a hr, m, (), env_start hl h hn hm rfl rfl trivial (fun p hp => absurd hp (by simp [uCtx])) trivial, q.mono (fun b _ q v m' H' w' _ r' => q v m' H' w' r') fun e _ q => q⟩
/-- a def that hands nothing back -/
theorem fn_none {l : LTy A} {fn : A → MM Unit Unit} {D : A → List Desc} {dsN : Unit → List Desc} (F : Fun K x qual st f fd) (S : FnScope N ps (defScope st)) (hl : LDesc l ps.length D) (hn : N.length = ps.length + r)
    (body : ∀ (cdv : Value) (A : Around) (outer : List Env) (s : Shared) (H : Hp) (E : XK) (m : Hp) a, Room k (A.deeper (envOfC qual (defScope st) s.heap.objs.size f cdv)) →
      PSs (bX P w K mg base N qual st f cdv A outer s H E) (defBody st) (BX (uCtx K cls m H E) (D a ++ List.replicate r .any) (fn a) (EN (uCtx K cls m H E) dsN))) :
    FnOk P w K mg base (L2.CX P w) (k + 1) f fd ps (SpF cls l tNon fn) := by
  obtain ⟨oc, od, kV, doc, pm, an, cdv, ct, osl, rfl, lk, hcd⟩ := F.ex
  refine fn_of lk hcd S (fun vs H Q E ⟨a, m, h, _⟩ => hl.len a vs m h) fun A outer s H vs Q E hr ⟨a, m, h, hm, q⟩ => ?_
  exact ⟨_, body cdv A outer s H E m a hr, m, (), env_start hl h hn hm rfl rfl trivial (fun p hp => absurd hp (by simp [uCtx])) trivial, q.mono (fun b _ q σ' m' H' env' => q .non m' H' env'.step rfl) fun e _ q => q⟩
theorem fn_pool {l : LTy T} {la : Addr → LTy A} {t : Ty B} {fn : A → MM T B} {D : Addr → A → List Desc} (F : Fun K x qual st f fd) (S : FnScope N ps (defScope st)) (hl : ∀ p, LDesc (la p) ps.length (D p)) (hn : N.length = ps.length + r)
    (body : ∀ (cdv : Value) (A : Around) (outer : List Env) (s : Shared) (H : Hp) (E : XK) (m : Hp) (p : Addr) a, Room k (A.deeper (envOfC qual (defScope st) s.heap.objs.size f cdv)) →
      PSs (bX P w K mg base N qual st f cdv A outer s H E) (defBody st) (BX (pCtx K cls l p m H E) (D p a ++ List.replicate r .any) (fn a) (ER (pCtx K cls l p m H E) t))) :
    FnOk P w K mg base (L2.CX P w) (k + 1) f fd ps (SpP cls l la t fn) := by
  obtain ⟨oc, od, kV, doc, pm, an, cdv, ct, osl, rfl, lk, hcd⟩ := F.ex
  refine fn_of lk hcd S (fun vs H Q E ⟨p, a, m, st', h, _⟩ => (hl p).len a vs m h) fun A outer s H vs Q E hr ⟨p, a, m, st', h, hm, hp, am, q⟩ => ?_
  exact ⟨_, body cdv A outer s H E m p a hr, m, st', env_start (hl p) h hn hm rfl rfl am (fun y hy => by obtain rfl := List.mem_singleton.mp (show y ∈ [p] from hy); exact hp) trivial, q.mono (fun b s1 q v m' H' w' a' r' => q v m' H' w' a' r') fun e _ q => q⟩
end
end WL

/-! WLF: chains of comparisons, isinstance, lists of places made, a pool made within a def. -/
namespace WL
open PySem PySem.Spec PyProof.Rows L2

section
variable {T A B C G : Type}
def eChain (f : A → B → Option Bool) (g : B → C → Option Bool) (x : MM T A) (y : MM T B) (z : MM T C) : MM T Bool := bnd x fun a => bnd y fun b => bnd (lft (f a b)) fun k => if k = true then bnd z fun d => lft (g b d) else ret false
/-- names of two and more arguments -/
abbrev eC1 (f : A → MM Unit B) (x : MM T A) : MM T B := eCall f x
abbrev eC2 (f : A → B → MM Unit C) (x : MM T A) (y : MM T B) : MM T C := eCall (fun a => f a.1 a.2) (eArg x y)
abbrev eC3 (f : A → B → C → MM Unit G) (x : MM T A) (y : MM T B) (z : MM T C) : MM T G := eCall (fun a => f a.1 a.2.1 a.2.2) (eArg x (eArg y z))
end
section
variable {X : Cx} {T A B C : Type} {c : Ctx T} {ds : List Desc} {t1 : Ty A} {t2 : Ty B} {t3 : Ty C} {pos : Pos} {a b d e : Expr}
theorem rd_chain {r r' : R2} {f : A → B → Option Bool} {g : B → C → Option Bool} {xa : MM T A} {xb : MM T B} {xd : MM T C} {σ : L2.St} {H : Hp} {Q : VK} (hs : Op2 r t1 t2 tBool f) (hs' : Op2 r' t2 t3 tBool g) (h : TX c ds tBool (eChain f g xa xb xd) σ H Q) :
    tChain r r' (TX c ds t1 xa) (TX c ds t2 xb) (TX c ds t3 xd) σ H Q := by
  obtain ⟨m, st, env, p⟩ := h
  unfold eChain at p
  refine ⟨m, st, env, (Post.bnd.mp p).imp fun a s1 p v1 m1 H1 w1 a1 r1 => ?_⟩
  refine ⟨m1, s1, env.go w1 a1, (Post.bnd.mp p).imp fun b s2 p v2 m2 H2 w2 a2 r2 => ?_⟩
  obtain ⟨k, e, p⟩ := Post.lft.mp (Post.bnd.mp p)
  refine hs a b k v1 v2 m2 H2 _ (t1.mono w2.mm r1) r2 w2.mh e fun v m3 H3 w3 r3 => ⟨k, r3, ?_⟩
  have env3 := ((env.go w1 a1).go w2 a2).grow w3
  cases k with
  | true =>
    rw [if_pos rfl] at p
    refine iteT ⟨m3, s2, env3, (Post.bnd.mp p).imp fun d s4 p v4 m4 H4 w4 a4 r4 => ?_⟩
    obtain ⟨k2, e2, p⟩ := Post.lft.mp p
    exact hs' b d k2 v2 v4 m4 H4 Q (t2.mono (w3.mm.trans w4.mm) r2) r4 w4.mh e2 fun v m5 H5 w5 r5 => p v m5 H5 ((((w1.trans w2).trans w3.wide).trans w4).trans w5.wide) (EnvOk.ambGrow a4 w5) r5
  | false =>
    rw [if_neg Bool.false_ne_true] at p
    exact iteF (p _ m3 H3 ((w1.trans w2).trans w3.wide) (EnvOk.ambGrow a2 w3) rfl)
theorem x_chain {op op' : CmpOp} {r r' : R2} {f : A → B → Option Bool} {g : B → C → Option Bool} {xa : MM T A} {xb : MM T B} {xd : MM T C} (ho : OpR X (compareOp op) r) (hs : Op2 r t1 t2 tBool f) (ho' : OpR X (compareOp op') r') (hs' : Op2 r' t2 t3 tBool g)
    (ha : PE X a (TX c ds t1 xa)) (hb : PE X b (TX c ds t2 xb)) (hd : PE X d (TX c ds t3 xd)) (hm : lastMarks [op, op'] [b, d] = false := by with_unfolding_all rfl) : PE X (.Compare a [op, op'] [b, d] pos) (TX c ds tBool (eChain f g xa xb xd)) :=
  PE.imp (pe_chain ho ho' ha hb hd hm) fun σ H Q h => rd_chain hs hs' h
theorem t_chain {op op' : CmpOp} {r r' : R2} {f : A → B → Option Bool} {g : B → C → Option Bool} {xa : MM T A} {xb : MM T B} {xd : MM T C} (ho : OpR X (compareOp op) r) (hs : Op2 r t1 t2 tBool f) (ho' : OpR X (compareOp op') r') (hs' : Op2 r' t2 t3 tBool g)
    (ha : PE X a (TX c ds t1 xa)) (hb : PE X b (TX c ds t2 xb)) (hd : PE X d (TX c ds t3 xd)) (hm : lastMarks [op, op'] [b, d] = false := by with_unfolding_all rfl) : PT X (.Compare a [op, op'] [b, d] pos) (TTX c ds (eChain f g xa xb xd)) :=
  PT.imp (pt_chain ho ho' ha hb hd hm) fun σ H Q ⟨m, st, env, p⟩ => by
    have h : TX c ds tBool (eChain f g xa xb xd) σ H (fun x H' => ∃ k, x = .bl k ∧ Q k H') := ⟨m, st, env, p.imp fun a s1 p v m1 H1 w1 a1 r1 => ⟨a, r1, p m1 H1 w1 a1⟩⟩
    exact rd_chain hs hs' h
end
theorem ldLen {A : Type} {l : LTy A} {n : Nat} {D : A → List Desc} (h : LDesc l n D) (hn : n ≤ 100 := by decide) : ∀ a vs m, l.rep a vs m → vs.length ≤ 100 := fun a vs m r => by rw [h.len a vs m r]; exact hn
/-! isinstance, with an answer that the type tells -/
def tTy (n : String) : Ty Unit := ⟨fun _ v _ => v = .ty n, fun _ r => r⟩
structure KindT {A : Type} (K : PySem.W.Frag) (t : Ty A) (n : String) : Prop where
  ty : ∀ a v m H, t.rep a v m → Sub m H → TyX K H v (.type n)
section
variable {A : Type} {K : PySem.W.Frag} {t : Ty A}
theorem kt_int : KindT K tInt "int" := ⟨fun a v m H r _ => by cases rep_int r; exact .base (.int a)⟩
theorem kt_bool : KindT K tBool "bool" := ⟨fun a v m H r _ => by cases rep_bool r; exact .base (.bl a)⟩
theorem kt_str : KindT K tStr "str" := ⟨fun a v m H r _ => by cases rep_str r; exact .base (.str a)⟩
theorem kt_non : KindT K tNon "NoneType" := ⟨fun a v m H r _ => by have e : v = .non := r; subst e; exact .base .non⟩
theorem kt_list : KindT K (tList t) "list" := ⟨fun a v m H ⟨p, vs, e, k, r⟩ hm => by subst e; exact .base (.lst (hm _ _ k))⟩
theorem sqT_ty {H : Hp} {p : Addr} {vs : List V} (h : SqT K H p vs) : TyX K H (.ref p) (.type "tuple") := by
  rcases h with (h | ⟨o, h⟩) | ⟨o, its, n, hk, hc, _⟩
  · exact .base (.tup h)
  · exact .fTuple h
  · exact .kTuple hk hc
theorem kt_vt : KindT K (tVT K t) "tuple" := ⟨fun a v m H ⟨p, vs, e, k, r⟩ hm => by subst e; exact sqT_ty (hm.sqT k)⟩
theorem kt_tup {l : LTy A} : KindT K (tTup K l) "tuple" := ⟨fun a v m H ⟨p, vs, e, k, r⟩ hm => by subst e; exact sqT_ty (hm.sqT k)⟩
def oConst {A : Type} (b : Bool) (_ : A × Unit) : Option Bool := some b
theorem sp_isi {n k : String} {b : Bool} (kt : KindT K t n) (h : kitB n k = some b) : OpL (rIsi K) (lc t (l1 (tTy k))) tBool (oConst b) := fun a g vs m H Q ⟨v, ws, ev, r, u, eu, ru⟩ hm e q => by
  subst ev eu; cases e
  have e2 : u = .ty k := ru
  subst e2
  exact ⟨v, _, .type n, .type k, b, rfl, .ty k, kt.ty a.1 v m H r hm, kit_ty h, q _ m H (.refl hm) rfl⟩
/-- a value or None -/
def oConstO {A : Type} (b : Bool) (a : Option A × Unit) : Option Bool := some (match a.1 with
  | none => false
  | some _ => b)
theorem sp_isiO {n k : String} {b : Bool} (kt : KindT K t n) (h : kitB n k = some b) (h2 : kitB "NoneType" k = some false) : OpL (rIsi K) (lc (tOpt t) (l1 (tTy k))) tBool (oConstO b) := fun a g vs m H Q ⟨v, ws, ev, r, u, eu, ru⟩ hm e q => by
  subst ev eu; cases e
  have e2 : u = .ty k := ru
  subst e2
  obtain ⟨o, z⟩ := a
  cases o with
  | none =>
    have e3 : v = .non := r
    subst e3
    exact ⟨_, _, .type "NoneType", .type k, false, rfl, .ty k, .base .non, kit_ty h2, q _ m H (.refl hm) rfl⟩
  | some a => exact ⟨v, _, .type n, .type k, b, rfl, .ty k, kt.ty a v m H r hm, kit_ty h, q _ m H (.refl hm) rfl⟩
end
theorem x_ty {X : Cx} {T : Type} {c : Ctx T} {ds : List Desc} {pos : Pos} {x : Str} {n : String} (hm : X.mg x = none) (hv : bootBuiltins x = some (.type n) := by decide +kernel) (hg : Gl X x := by rfl) (hn : x ≠ "__name__" := by decide) (hd : (x == ("__debug__" : Str)) = false := by decide) :
    PE X (.Name x pos) (TX c ds (tTy n) (ret ())) := PE.imp (pe_bltn (v := .ty n) hg hm hv rfl hn hd) fun _ _ _ h => rd_c (fun _ => rfl) h
/-! is True, is False -/
def oIsB (a b : Bool) : Option Bool := some (decide (a = b))
def oNotB (a b : Bool) : Option Bool := some (!decide (a = b))
theorem sp_isB : Op2 rIsB tBool tBool tBool oIsB := fun a b g v1 v2 m H Q r1 r2 hm e q => by
  cases rep_bool r1; cases rep_bool r2; cases e
  exact ⟨a, b, rfl, rfl, q _ m H (.refl hm) rfl⟩
theorem sp_notB : Op2 rNotB tBool tBool tBool oNotB := fun a b g v1 v2 m H Q r1 r2 hm e q => by
  cases rep_bool r1; cases rep_bool r2; cases e
  exact ⟨a, b, rfl, rfl, q _ m H (.refl hm) rfl⟩
/-! a list of places is made -/
section
variable {X : Cx} {T A B F R : Type} {c : Ctx T} {ds : List Desc} {pos : Pos} {e : Expr}
theorem x_lstR {es : List Expr} {l : LTy A} {xa : MM T A} (h : PA X es (TAX c ds l xa)) (hl : ∀ a vs m, l.rep a vs m → vs.length ≤ 100) : PE X (.List es pos) (TXO c ds (oRec l) xa) :=
  PE.imp (pe_lst h) fun σ H Q ⟨m, st, env, p⟩ => ⟨m, st, env, p.imp fun a s1 p vs m1 H1 w1 a1 r1 => ⟨Nat.le_trans (hl a vs m1 r1) (by decide), fun q hq => by
    have w2 : WStep [] m1 H1 m1 (upd H1 q (.lst vs)) := .own w1.mh hq
    exact p (.ref q) [q] m1 _ (w1.trans w2.wide) (EnvOk.ambGrow a1 w2) (fun y hy => by obtain rfl := List.mem_singleton.mp hy; exact ⟨fresh_up w1 hq, w1.mh.free hq⟩) ⟨q, vs, rfl, rfl, upd_same, r1⟩⟩⟩
/-- a list of places that stays -/
def tRec (l : LTy A) : Ty A := ⟨fun a v m => ∃ p vs, v = .ref p ∧ m p = some (.lst vs) ∧ l.rep a vs m, fun h ⟨p, vs, e, k, r⟩ => ⟨p, vs, e, h _ _ k, l.mono h r⟩⟩
theorem frz_rec {l : LTy A} : Freezes (oRec l) (tRec l) := fun as v fp h m ⟨p, vs, e, ef, k, r⟩ hm n => by
  subst ef
  obtain ⟨a1, a2, a3⟩ := frz_put hm k (n p (by simp))
  exact ⟨_, a1, a2, a3, p, vs, e, upd_same, l.mono a1 r⟩
theorem sp_projR {K : PySem.W.Frag} {l : LTy A} {t : Ty B} {f : A → B} (n : Nat) (hp : LProj l n t f) : ∀ (a : A) (v1 : V) (m H : Hp) (Q : VK), (tRec l).rep a v1 m → Sub m H → (∀ v, t.rep (f a) v m → Q v H) → rIxL K v1 (.int (n : Int)) H Q := fun a v1 m H Q ⟨p, vs, e, k, r⟩ hm q => by
  obtain ⟨u, hu, ru⟩ := hp.at_ a vs m r
  exact ⟨p, vs, n, u, e, rfl, .of (hm _ _ k), atI_nat hu, q u ru⟩
theorem x_projR {l : LTy A} {t : Ty B} {f : A → B} {xa : MM T A} {j : _} {p2 : Pos} {a : Expr} (n : Nat) (hp : LProj l n t f) (ha : PE X a (TX c ds (tRec l) xa)) : PE X (.Subscript a (.Constant (.int (n : Int)) j p2) pos) (TX c ds t (eProj f xa)) :=
  PE.imp (pe_ix ix_list ha pe_int (fun _ _ => rfl)) fun σ H Q ⟨m, st, env, p⟩ =>
    ⟨m, st, env, (Post.bnd.mp p).imp fun a s1 p v m1 H1 w1 a1 r1 => sp_projR n hp a v m1 H1 Q r1 w1.mh fun u ru => p u m1 H1 w1 a1 ru⟩
/-- a def whose answer is a new object -/
def SpFO {A B : Type} (cls : Nat → Addr) (l : LTy A) (o : OTy B) (f : A → MM Unit B) : Sp := fun vs H Q E => ∃ a m, l.rep a vs m ∧ Sub m H ∧
  Post (f a ()) (fun b _ => ∀ v fp m' H', WStep [] m H m' H' → (∀ p ∈ fp, H p = none ∧ m' p = none) → o.rep b v fp H' m' → Q v H') (fun e _ => ∀ d m' H', WStep [] m H m' H' → XdAt H m' H' d e → E (.ref (cls e.k)) (some d) H')
theorem x_callO {k : Nat} {f : Addr} {fd : FuncData} {ps : List Str} {x : Str} {p : Pos} {es : List Expr} {W : WX} {l : LTy A} {o : OTy B} {fn : A → MM Unit B} {xa : MM T A} (G : FnOk X.prog X.w X.K X.mg X.base (L2.CX X.prog X.w) k f fd ps (SpFO c.cls l o fn)) (hr : Room k X.A) (hm : X.mg x = some (.ref f)) (hk : PySem.W.keepIn X.K (.ref f) = true) (hb : Binds X.K fd ps [])
    (tk : Takes X W) (he : ErrC c W) (ha : PA X (e :: es) (TAX c ds l xa)) (hg : Gl X x := by rfl) (hdb : (x == ("__debug__" : Str)) = false := by decide)
    (h1 : starEach (e :: es) X.env = (false, eval e X.env) :: starEach es X.env := by rfl) (h2 : (backTo pos (starEach es X.env)).any (·.1) = false := by rfl) :
    PE X (.Call (.Name x p) (e :: es) [] pos) (TXO c ds o (eCall fn xa)) := PE.imp (pe_callS G hr hg hm hk hb (fun σ => passAt tk σ) ha hdb h1 h2) fun σ H Q ⟨m, st, env, q⟩ =>
  ⟨m, st, env, (Post.bnd.mp q).imp fun a s1 q vs m1 H1 w1 a1 r1 => ⟨a, m1, r1, w1.mh, (Post.up.mp q).mono (fun b _ q v fp m' H' w2 n2 r2 => q v fp m' H' (w1.trans w2.wide) (EnvOk.ambGrow a1 w2) (fun y hy => ⟨fresh_up w1 (n2 y hy).1, (n2 y hy).2⟩) r2)
    fun e _ q d m' H' w2 hd => he e s1 d σ m' H' ds q ((env.go w1 a1).grow w2) (xd_up (env.go w1 a1) hd).1 (xd_up (env.go w1 a1) hd).2⟩⟩
def ERO (c : Ctx T) (o : OTy A) : A → T → Ends → Prop := fun a st D => ∀ v fp m H, WStep c.S c.m0 c.H0 m H → c.amb st H m → (∀ p ∈ fp, c.H0 p = none ∧ m p = none) → o.rep a v fp H m → D.rt v H
theorem b_retO {o : OTy A} {xa : MM T A} (he : PE X e (TXO c ds o xa)) : PSs X [.Return (some e) pos] (BX c ds xa (ERO c o)) :=
  PSs.imp (pss_one (ps_ret he)) fun D σ H ⟨m, st, env, p⟩ => ⟨m, st, env, p.imp fun a s1 p v fp m1 H1 w1 a1 n1 r1 => p v fp m1 H1 (env.step.comp w1 c.afr) a1 (fun y hy => ⟨by
    cases z : c.H0 y with
    | none => rfl
    | some u => exact absurd (n1 y hy).1 (env.step.dm y (by rw [z]; exact fun q => nomatch q)), (n1 y hy).2⟩) r1⟩
theorem b_ifretO {rest : List Stmt} {cnd : Expr} {a : List Stmt} {xc : MM T Bool} {xa : MM T R} {xb : MM T R} {o : OTy R} (hc : PT X cnd (TTX c ds xc)) (ha : PSs X a (BX c ds xa (ERO c o))) (hb : PSs X rest (BX c ds xb (ERO c o))) :
    PSs X (.If cnd a [] pos :: rest) (BX c ds (eIf xc xa xb) (ERO c o)) :=
  PSs.imp (pss_cons (ps_if hc ha pss_nil) hb) fun D σ H ⟨m, st, env, p⟩ => by
    unfold eIf at p
    refine ⟨m, st, env, (Post.bnd.mp p).imp fun t s1 p m1 H1 w1 a1 => ?_⟩
    cases t with
    | true => rw [if_pos rfl] at p ⊢; exact ⟨m1, s1, env.go w1 a1, p⟩
    | false => rw [if_neg Bool.false_ne_true] at p ⊢; exact ⟨m1, s1, env.go w1 a1, p⟩
theorem fn_new {P : Program} {w : World} {K : PySem.W.Frag} {mg : Str → Option Value} {base : Heap} {x qual : Str} {st : Stmt} {f : Addr} {fd : FuncData} {N ps : List Str} {k r : Nat} {cls : Nat → Addr} {l : LTy A} {o : OTy B} {fn : A → MM Unit B} {D : A → List Desc} (F : Fun K x qual st f fd) (S : FnScope N ps (defScope st)) (hl : LDesc l ps.length D) (hn : N.length = ps.length + r)
    (body : ∀ (cdv : Value) (A : Around) (outer : List Env) (s : Shared) (H : Hp) (E : XK) (m : Hp) a, Room k (A.deeper (envOfC qual (defScope st) s.heap.objs.size f cdv)) →
      PSs (bX P w K mg base N qual st f cdv A outer s H E) (defBody st) (BX (uCtx K cls m H E) (D a ++ List.replicate r .any) (fn a) (ERO (uCtx K cls m H E) o))) :
    FnOk P w K mg base (L2.CX P w) (k + 1) f fd ps (SpFO cls l o fn) := by
  obtain ⟨oc, od, kV, doc, pm, an, cdv, ct, osl, rfl, lk, hcd⟩ := F.ex
  refine fn_of lk hcd S (fun vs H Q E ⟨a, m, h, _⟩ => hl.len a vs m h) fun A outer s H vs Q E hr ⟨a, m, h, hm, q⟩ => ?_
  exact ⟨_, body cdv A outer s H E m a hr, m, (), env_start hl h hn hm rfl rfl trivial (fun p hp => absurd hp (by simp [uCtx])) trivial, q.mono (fun b _ q v fp m' H' w' _ n' r' => q v fp m' H' w' n' r') fun e _ q => q⟩
end
/-! a pool made within a def -/
def runP {T F : Type} (st0 : T) (y : MM T F) : MM Unit F := fun _ => match y st0 with
  | .ok a _ => .ok a ()
  | .err e _ => .err e ()
  | .stuck => .stuck
theorem Post.runP {T F : Type} {st0 : T} {y : MM T F} {P : F → Unit → Prop} {E : Exn → Unit → Prop} : Post (runP st0 y ()) P E ↔ Post (y st0) (fun a _ => P a ()) (fun e _ => E e ()) := by
  unfold WL.runP
  cases y st0 <;> rfl
theorem step_one {m0 H0 m H : Hp} {p : Addr} (w : WStep [p] m0 H0 m H) (h : H0 p = none) : WStep [] m0 H0 m H :=
  ⟨w.mm, w.mh, fun a o _ e => w.hh a o (fun z => by obtain rfl := List.mem_singleton.mp z; rw [h] at e; cases e) e, w.ow, w.dm⟩
section
variable {X : Cx} {T B F : Type} {K : PySem.W.Frag} {cls : Nat → Addr} {m0 H0 : Hp} {E : XK} {ds : List Desc} {pos p2 : Pos} {e : Expr} {rest : List Stmt} {l : LTy T}
theorem b_pool (i : Nat) {x : Str} {t : Ty F} {xa : MM Unit T} {k : MM T F} (he : PE X e (TXO (uCtx K cls m0 H0 E) ds (oRec l) xa))
    (h2 : ∀ p, PSs X rest (BX (pCtx K cls l p m0 H0 E) (ds.set i (.val (tIs p) ())) k (ER (pCtx K cls l p m0 H0 E) t))) (hN : X.N.Nodup) (hi : X.N[i]? = some x := by rfl) (hx : Loc X.env.scope x := by first | exact Or.inl rfl | exact Or.inr rfl)
    (hs : swapsWith e (some (.Name x p2)) pos.line X.env = pure false := by rfl) (hf : X.fn x = true ∨ X.env.scope.names.lookup x = some .local := by first | exact .inl rfl | exact .inr rfl) :
    PSs X (.Assign [.Name x p2] e pos :: rest) (BX (uCtx K cls m0 H0 E) ds (bnd xa fun st0 => runP st0 k) (ER (uCtx K cls m0 H0 E) t)) :=
  PSs.imp (pss_cons (ps_set hN hi hx he hs hf) (PSs.any h2)) fun D σ H ⟨m, st, env, p⟩ => ⟨m, st, env, (Post.bnd.mp p).imp fun a s1 p v fp m1 H1 w1 a1 n1 ⟨q, us, ev, ef, kk, r⟩ => by
    subst ev ef
    have hq := n1 q (by simp)
    have e0 : H0 q = none := by
      cases z : H0 q with
      | none => rfl
      | some u => exact absurd hq.1 (env.step.dm q (by show H0 q ≠ none; rw [z]; exact fun y => nomatch y))
    have ev1 := env.go w1 a1
    have ev2 : EnvOk (uCtx K cls m0 H0 E) (σ.set i (some (.ref q))) m1 H1 (ds.set i (.val (tIs q) ())) () := ev1.bind i rfl
    obtain ⟨fps, sl, dj, fr⟩ := ev2.slots
    obtain ⟨fps0, sl0, _, _⟩ := env.slots
    refine ⟨q, m1, a, ⟨ev2.step.wide, ?_, ⟨us, kk, r⟩, fun y hy => by obtain rfl := List.mem_singleton.mp (show y ∈ [q] from hy); exact hq.2, trivial⟩, (Post.runP.mp p).mono (fun b s2 p v2 m2 H2 w2 _ r2 => p v2 m2 H2 (step_one w2 e0) trivial r2) fun e s2 p d m' H' w' _ hd => p d m' H' (step_one w' e0) hd⟩
    obtain ⟨fpe, sle, dje, fre⟩ := env.slots
    refine ⟨fpe.set i [], (sle.go (fun gp hg y hy => ?_) w1.mm fun gp hg y hy e => w1.ow y e (sle.dom gp hg y hy).1).set (d := .val (tIs q) ()) ⟨rfl, _, rfl, rfl⟩, dje.set fun gp hg => .inl fun y _ z => absurd z (by simp), fun gp hg y hy => ?_⟩
    · cases z : H y with
      | none => exact absurd z (sle.dom gp hg y hy).1
      | some u => exact w1.hh y u (fre gp hg y hy).1 z
    · rcases List.mem_or_eq_of_mem_set hg with z | z
      · refine ⟨fun w => ?_, (fre gp z y hy).2⟩
        obtain rfl := List.mem_singleton.mp (show y ∈ [q] from w)
        exact (sle.dom gp z y hy).1 hq.1
      · subst z; exact absurd hy (by simp)⟩
end
/-! ### the text's defs -/
structure DefI (K : PySem.W.Frag) (mg : Str → Option Value) (x qual : Str) (st : Stmt) (ps : List Str) where
  a : Addr
  d : FuncData
  F : Fun K x qual st a d
  g : mg x = some (.ref a)
  b : Binds K d ps []
theorem noCX {P : Program} {w : World} {H : Hp} {s : Shared} {e : Value} {s' : Shared} (h : L2.CX P w [] H s (fun _ _ _ => False) e s') : False := by
  obtain ⟨_, _, _, _, _, _, _, _, _, _, _, _, z⟩ := h
  exact z
end WL

/-! WLG: objects of the text's own classes: fields, making, methods, properties. -/
namespace WL
open PySem PySem.Spec PyProof.Rows L2

/-- a field: its name, and what its value is -/
structure FD where
  n : Str
  P : V → Hp → Prop
  mono : ∀ {v : V} {m m' : Hp}, Sub m m' → P v m → P v m'
def fd {A : Type} (n : Str) (t : Ty A) (a : A) : FD := ⟨n, fun v m => t.rep a v m, fun h r => t.mono h r⟩
inductive FRep (m : Hp) : List FD → List (Str × V) → Prop where
  | nil : FRep m [] []
  | cons {d : FD} {v : V} {ds : List FD} {fs : List (Str × V)} : d.P v m → FRep m ds fs → FRep m (d :: ds) ((d.n, v) :: fs)
section
variable {m n : Hp} {ds : List FD} {fs : List (Str × V)}
theorem FRep.mono (h : Sub m n) (r : FRep m ds fs) : FRep n ds fs := by
  induction r with
  | nil => exact .nil
  | cons a _ ih => exact .cons (FD.mono _ h a) ih
theorem FRep.length (r : FRep m ds fs) : ds.length = fs.length := by
  induction r with
  | nil => rfl
  | cons _ _ ih => simp [ih]
theorem FRep.snoc {d : FD} {v : V} (r : FRep m ds fs) (q : d.P v m) : (∀ x ∈ ds, ¬ x.n = d.n) → FRep m (ds ++ [d]) (putF d.n v fs) := by
  induction r with
  | nil => intro _; exact .cons q .nil
  | cons a _ ih =>
    intro h
    show FRep m (_ :: (_ ++ [d])) (if _ then _ else _)
    rw [if_neg (h _ List.mem_cons_self)]
    exact .cons a (ih fun x hx => h x (List.mem_cons_of_mem _ hx))
end
/-- an object in the making -/
def oIns (x C : Addr) : OTy (List FD) where
  rep := fun ds v fp h m => v = .ref x ∧ fp = [x] ∧ ∃ dx fs, h x = some (.ins C dx fs) ∧ FRep m ds fs
  frame := fun hk hm ⟨e, ef, dx, fs, k, r⟩ => ⟨e, ef, dx, fs, by rw [hk x (by rw [ef]; simp)]; exact k, r.mono hm⟩
  dom := fun ⟨e, ef, dx, fs, k, r⟩ q hq => by rw [ef] at hq; obtain rfl := List.mem_singleton.mp hq; rw [k]; exact fun z => nomatch z
/-- an object that stays -/
def tIns {R : Type} (C : Addr) (F : R → List FD) : Ty R := ⟨fun r v m => ∃ x dx fs, v = .ref x ∧ m x = some (.ins C dx fs) ∧ FRep m (F r) fs, fun h ⟨x, dx, fs, e, k, r⟩ => ⟨x, dx, fs, e, h _ _ k, r.mono h⟩⟩
/-- a field of it -/
def FAt {R B : Type} (F : R → List FD) (f : Str) (t : Ty B) (g : R → B) : Prop := ∀ r m fs, FRep m (F r) fs → ∃ v, fs.lookup f = some v ∧ t.rep (g r) v m
theorem fat_z {R B : Type} {f : Str} {t : Ty B} {g : R → B} {F : R → List FD} : FAt (fun r => fd f t (g r) :: F r) f t g := fun r m fs h => by
  cases h with
  | cons a _ => exact ⟨_, by simp [List.lookup, fd], a⟩
theorem fat_s {R B : Type} {f : Str} {t : Ty B} {g : R → B} {F : R → List FD} {d : R → FD} (h : FAt F f t g) (hd : ∀ r, (f == (d r).n) = false) : FAt (fun r => d r :: F r) f t g := fun r m fs q => by
  cases q with
  | cons a q =>
    obtain ⟨v, e, k⟩ := h r m _ q
    exact ⟨v, by simp only [List.lookup, hd r]; exact e, k⟩
/-- no field of it -/
def FNo {R : Type} (F : R → List FD) (f : Str) : Prop := ∀ r m fs, FRep m (F r) fs → fs.lookup f = none
theorem fno_n {R : Type} {f : Str} : FNo (fun _ : R => []) f := fun r m fs h => by cases h; rfl
theorem fno_c {R : Type} {f : Str} {F : R → List FD} {d : R → FD} (h : FNo F f) (hd : ∀ r, (f == (d r).n) = false) : FNo (fun r => d r :: F r) f := fun r m fs q => by
  cases q with
  | cons a q => simp only [List.lookup, hd r]; exact h r m _ q
theorem fno_all {R : Type} {F : R → List FD} {f : Str} (h : ∀ r, (F r).all (fun d => !(f == d.n)) = true) : FNo F f := fun r m fs q => by
  have h := h r
  generalize F r = ds at h q
  induction q with
  | nil => rfl
  | @cons d _ _ _ a q ih =>
    rw [List.all_cons, Bool.and_eq_true] at h
    have e : (f == d.n) = false := by simpa using h.1
    simp only [List.lookup, e]
    exact ih h.2
/-- what an __init__ promises -/
def SpI {A R : Type} (cls : Nat → Addr) (C : Addr) (l : LTy A) (tr : Ty R) (f : A → MM Unit R) : Sp := fun vs G Q E => ∃ a m H x dx ws, vs = .ref x :: ws ∧ H x = none ∧ H dx = none ∧ dx ≠ x ∧ G = upd (upd H dx (.own x)) x (.ins C dx []) ∧ l.rep a ws m ∧ Sub m H ∧
  Post (f a ()) (fun r _ => ∀ m' H', WStep [] m H m' H' → tr.rep r (.ref x) m' → Q .non H') (fun e _ => ∀ d m' H', WStep [] m H m' H' → XdAt H m' H' d e → E (.ref (cls e.k)) (some d) H')
section
variable {P : Program} {w : World} {K : PySem.W.Frag} {mg : Str → Option Value} {base : Heap} {x qual : Str} {st : Stmt} {f C : Addr} {fdd : FuncData} {N ps : List Str} {k r n : Nat} {A R : Type} {cls : Nat → Addr}
theorem fn_init {l : LTy A} {F : R → List FD} {fn : A → MM Unit R} {D : A → List Desc} (Fn : Fun K x qual st f fdd) (S : FnScope N ps (defScope st)) (hl : LDesc l n D) (hp : ps.length = n + 1) (hn : N.length = n + 1 + r) (dsN : Addr → R → List Desc) (h0 : ∀ x r, (dsN x r)[0]? = some (.own (oIns x C) (F r)))
    (body : ∀ (cdv : Value) (A : Around) (outer : List Env) (s : Shared) (G : Hp) (E : XK) (m H : Hp) (x : Addr) a, Room k (A.deeper (envOfC qual (defScope st) s.heap.objs.size f cdv)) →
      PSs (bX P w K mg base N qual st f cdv A outer s G E) (defBody st) (BX (uCtx K cls m H E) (.own (oIns x C) [] :: (D a ++ List.replicate r .any)) (fn a) (EN (uCtx K cls m H E) (dsN x)))) :
    FnOk P w K mg base (L2.CX P w) (k + 1) f fdd ps (SpI cls C l (tIns C F) fn) := by
  obtain ⟨oc, od, kV, doc, pm, an, cdv, ct, osl, rfl, lk, hcd⟩ := Fn.ex
  refine fn_of lk hcd S (fun vs H Q E ⟨a, m, H0, x, dx, ws, e, _, _, _, _, h, _⟩ => by rw [e, List.length_cons, hl.len a ws m h, hp]) fun A outer s G vs Q E hr ⟨a, m, H, x, dx, ws, e, nx, nd, ne, eg, h, hm, q⟩ => ?_
  subst e
  have w1 : WStep [] m H m (upd H dx (.own x)) := .own hm nd
  have nx2 : upd H dx (.own x) x = none := by rw [upd_ne ne.symm]; exact nx
  have w2 : WStep [] m H m G := by rw [eg]; exact w1.trans (.own w1.mh nx2)
  have kG : G x = some (.ins C dx []) := by rw [eg]; exact upd_same
  refine ⟨_, body cdv A outer s G E m H x a hr, m, (), ⟨w2, ⟨[x] :: (List.replicate n [] ++ List.replicate r []), ?_, ?_, ?_⟩, trivial, fun p hp => absurd hp (by simp [uCtx]), trivial⟩, q.mono (fun b _ q σ' m' H' env' => ?_) fun e _ q => q⟩
  · have e : L2.start N (.ref x :: ws) = some (.ref x) :: (ws.map some ++ List.replicate r none) := by
      rw [start_eq (n := n + 1) (by rw [List.length_cons, hl.len a ws m h]) hn]
      rfl
    rw [e]
    refine .cons ⟨_, rfl, ⟨rfl, rfl, dx, [], kG, .nil⟩, fun p hp => ?_⟩ ((hl.ok a ws m G h).more r)
    obtain rfl := List.mem_singleton.mp hp
    exact hm.free nx
  · refine List.pairwise_cons.mpr ⟨fun b hb p _ => ?_, disj_nils _ _⟩
    have : b = [] := by
      rcases List.mem_append.mp hb with z | z
      · exact (List.mem_replicate.mp z).2
      · exact (List.mem_replicate.mp z).2
    rw [this]; simp
  · intro gp hg p hp
    rcases List.mem_cons.mp hg with z | z
    · subst z
      obtain rfl := List.mem_singleton.mp hp
      exact ⟨by simp [uCtx], nx⟩
    · have : gp = [] := by
        rcases List.mem_append.mp z with z | z
        · exact (List.mem_replicate.mp z).2
        · exact (List.mem_replicate.mp z).2
      rw [this] at hp; exact absurd hp (by simp)
  · obtain ⟨fps, sl, dj, fr⟩ := env'.slots
    obtain ⟨s0, fp, g1, g2, v, g3, ⟨e4, e5, dx', fs, k4, r4⟩, nm⟩ := sl.get (h0 x b)
    obtain ⟨a1, a2, a3⟩ := frz_put env'.mh k4 (nm x (by rw [e5]; simp))
    have st := env'.step
    exact q _ H' ⟨st.mm.trans a1, a2, st.hh, fun y e nn => by rw [upd_ne (fun z => nn (by rw [z]; exact nx))]; exact st.ow y e nn, st.dm⟩ ⟨x, dx', fs, rfl, upd_same, r4.mono a1⟩
end

/-! self.f = e within __init__ -/
section
variable {X : Cx} {T A B C R F : Type} {c : Ctx T} {ds : List Desc} {pos p2 p3 : Pos} {e : Expr} {P : F → T → Ends → Prop} {rest : List Stmt} {t : Ty A}
theorem b_setfld (i : Nat) {x0 D : Addr} {fds : List FD} {x f : Str} {xa : MM T A} {k : A → MM T F} (cl : Cls X.K D) (na : NoAttr X.K D f) (he : PE X e (TX c ds t xa)) (h2 : ∀ a, PSs X rest (BX c (ds.set i (.own (oIns x0 D) (fds ++ [fd f t a]))) (k a) P)) (hd : ds[i]? = some (.own (oIns x0 D) fds) := by rfl)
    (hl : fds.length < 1000 := by simp) (hf : (fds.all fun d => !(d.n == f)) = true := by rfl) (hN : X.N[i]? = some x := by rfl) (hv : Vis X.env.scope x := by first | exact Or.inl rfl | exact Or.inr (Or.inl rfl) | exact Or.inr (Or.inr rfl))
    (h1 : (x == ("__debug__" : Str)) = false := by decide) (h3 : (x == ("__classdict__" : Str)) = false := by decide) (hs : swapsWith e (some (.Attribute (.Name x p2) f p3)) pos.line X.env = pure false := by rfl) :
    PSs X (.Assign [.Attribute (.Name x p2) f p3] e pos :: rest) (BX c ds (bnd xa k) P) :=
  PSs.imp (pss_cons (ps_fld (pe_var hN hv h1 h3) he hs) (PSs.any h2)) fun D σ H ⟨m, st, env, p⟩ => ⟨m, st, env, (Post.bnd.mp p).imp fun a s1 p v1 m1 H1 w1 a1 r1 => by
    have env1 := env.go w1 a1
    obtain ⟨v, fp, e1, e2, e3, dx, fs, k1, r2⟩ := own_at env1 hd
    subst e2
    refine ⟨_, e1, x0, _, dx, fs, rfl, k1, cl, na, by rw [← r2.length]; exact hl, a, m1, s1, env1.put hd fun v' fp' e' ⟨g1, g2, dx', fs', k', r'⟩ => ?_, p⟩
    rw [k1] at k'; cases k'
    exact ⟨by rw [g2]; simp, g1, g2, dx, _, upd_same, FRep.snoc (d := fd f t a) r' r1 fun y hy z => by have := List.all_eq_true.mp hf y hy; rw [z] at this; simp [fd] at this⟩⟩
/-- e.f -/
theorem x_fld {D : Addr} {Fs : R → List FD} {f : Str} {t : Ty B} {g : R → B} {xa : MM T R} (cl : Cls X.K D) (na : NoAttr X.K D f) (ha : FAt Fs f t g) (he : PE X e (TX c ds (tIns D Fs) xa)) (hb : attributeBase e f X.env (eval e X.env) = eval e X.env := by rfl) :
    PE X (.Attribute e f pos) (TX c ds t (eProj g xa)) := PE.imp (pe_fld he hb) fun σ H Q ⟨m, st, env, p⟩ =>
  ⟨m, st, env, (Post.bnd.mp p).imp fun a s1 p v1 m1 H1 w1 a1 ⟨q, dx, fs, e1, k1, r1⟩ => by
    obtain ⟨v, l, rv⟩ := ha a m1 fs r1
    exact ⟨q, D, dx, fs, v, e1, w1.mh _ _ k1, cl, na, l, p v m1 H1 w1 a1 rv⟩⟩
end
/-! calls, by what the ends take -/
section
variable {X : Cx} {CX : CXT} {k : Nat} {f C : Addr} {fdd : FuncData} {ps : List Str} {sp : Sp} {E : L2.St → XK} {x m : Str} {p pos apos : Pos} {e o : Expr} {es : List Expr} {ta : TE} {t : TA}
theorem run_makeS {pins : List (Addr × Obj)} {σ : L2.St} {H : Hp} {s : Shared} {Q : VK} {us : List Value} {vs : List V} (M : Mk X.K C f) (F : FnOk X.prog X.w X.K X.mg X.base CX k f fdd ps sp) (hr : Room (k + 1) X.A) (hb : Binds X.K fdd ps [])
    (hx : PassesAt CX X σ (E σ)) (I : Inv X pins σ H s) (r : Vals vs us)
    (h : ∀ x dx, H x = none → H dx = none → dx ≠ x → sp (.ref x :: vs) (upd (upd H dx (.own x)) x (.ins C dx [])) (fun v H2 => v = .non ∧ Q (.ref x) H2) (E σ)) :
    wpAny (model X.prog X.w) X.A (call (.ref C) us) (EP X pins σ Q) X.xe s := by
  have hq := h (s.heap.objs.size + 1) s.heap.objs.size (I.hok.fresh (Nat.le_succ _)) (I.hok.fresh (Nat.le_refl _)) (Nat.ne_of_lt (Nat.lt_succ_self _))
  have I2 := Inv.made (C := C) I
  have r2 : Vals (V.ref (s.heap.objs.size + 1) :: vs) (Value.ref (s.heap.objs.size + 1) :: us) := .cons rfl r
  have hl : (Value.ref (s.heap.objs.size + 1) :: us).length = ps.length := by
    have e := r2.length
    rw [F.len _ _ _ _ hq] at e
    exact e.symm
  have b := hb { s with heap := (s.heap.push PySem.W.emptyDict).push (PySem.W.instObj C s.heap.objs.size) } (Value.ref (s.heap.objs.size + 1) :: us) I2.kIn (by rw [List.append_nil]; exact hl)
  rw [List.append_nil] at b
  refine wpAny_call (make_map (f := f) I.kIn M.makes M.init (beq_iff_eq.mp M.fn) (codeAny_mono (F.run _ X.stack _ _ ⟨Value.ref (s.heap.objs.size + 1) :: us, []⟩ (Value.ref (s.heap.objs.size + 1) :: us) _ _ (E σ) (hr.make C us [])
    (I2.env0.make C us []) b r2 hq) fun r s' hq' => ?_))
  cases r with
  | error e => exact hx pins _ _ e s' I2 hq'
  | ok fl =>
    cases fl with
    | ret u =>
      obtain ⟨v, H', I3, rv, ev, q3⟩ := I2.after hq'
      subst ev
      exact ⟨rv, ⟨V.ref (s.heap.objs.size + 1), H', I3, rfl, q3⟩⟩
    | next => exact False.elim hq'
    | brk => exact False.elim hq'
    | cont => exact False.elim hq'
def tMakeS (C : Addr) (sp : Sp) (E : L2.St → XK) (t : TA) : TE := fun σ H Q => t σ H fun vs H1 => ∀ x dx, H1 x = none → H1 dx = none → dx ≠ x → sp (.ref x :: vs) (upd (upd H1 dx (.own x)) x (.ins C dx [])) (fun v H2 => v = .non ∧ Q (.ref x) H2) (E σ)
theorem pe_makeS (M : Mk X.K C f) (F : FnOk X.prog X.w X.K X.mg X.base CX k f fdd ps sp) (hr : Room (k + 1) X.A) (hg : Gl X x) (hm : X.mg x = some (.ref C)) (hb : Binds X.K fdd ps []) (hx : ∀ σ, PassesAt CX X σ (E σ))
    (ha : PA X (e :: es) t) (hdb : (x == ("__debug__" : Str)) = false := by decide) (he : starEach (e :: es) X.env = (false, eval e X.env) :: starEach es X.env := by rfl) (hpl : (backTo pos (starEach es X.env)).any (·.1) = false := by rfl) :
    PE X (.Call (.Name x p) (e :: es) [] pos) (tMakeS C sp E t) := by
  refine ⟨fun pins s σ H Q I h => ?_⟩
  refine wpAny_Call_Name_kw (ld_glob I hg hm ?_ hdb)
  refine PySem.W.callWith_K (h₀ := X.base) I.ok.mod.kin M.kp (thn (ha.run pos pins s σ H _ I h) fun us s1 ⟨vs, H1, I1, r, q⟩ => ⟨I1.kIn, ?_⟩) he hpl
  exact run_makeS M F hr hb (hx σ) I1 r q
def tMethS (C : Addr) (m : Str) (sp : Sp) (E : L2.St → XK) (ta : TE) (t : TA) : TE := fun σ H Q => ta σ H fun x H1 => ∃ a dx fs, x = .ref a ∧ H1 a = some (.ins C dx fs) ∧ fs.lookup m = none ∧ t σ H1 fun vs H2 => sp (x :: vs) H2 Q (E σ)
theorem pe_methE {pl : Sem Bool} (he : PE X o ta) (c : Cls X.K C) (hm : Meth X.K C m f) (F : FnOk X.prog X.w X.K X.mg X.base CX k f fdd ps sp) (hr : Room k X.A) (hb : Binds X.K fdd ps []) (hx : ∀ σ, PassesAt CX X σ (E σ)) (ha : PA X (e :: es) t)
    (hst : starEach (e :: es) X.env = (false, eval e X.env) :: starEach es X.env := by rfl) (hpl : (backTo pos (starEach es X.env)).any (·.1) = false := by rfl)
    (ht : eval (.Call (.Attribute o m apos) (e :: es) [] pos) X.env = (do
      let ov ← eval o X.env
      standAt apos.atName
      let (f, first) ← holding [ov] (getMethod ov m pl)
      callWith pos f first (backTo pos (starEach (e :: es) X.env)) (backToKw pos (keywordEach [] X.env))) := by rfl) :
    PE X (.Call (.Attribute o m apos) (e :: es) [] pos) (tMethS C m sp E ta t) := by
  refine ⟨fun pins s σ H Q I h => ?_⟩
  refine PySem.W.methodCall_KW (pl := pl) (thn (he.run pins s σ H _ I h) fun u s1 ⟨x, H1, I1, rx, a, dx, fs, ex, ea, l, q⟩ => ?_) ht
  subst ex
  obtain rfl : u = Value.ref a := rx
  refine getmeth_ok I1 ea c hm l ?_
  refine PySem.W.callWith_K (first := [.ref a]) (h₀ := X.base) I.ok.mod.kin hm.kp (thn (ha.run pos pins s1 σ H1 _ I1 q) fun us s2 ⟨vs, H2, I2, r, q2⟩ => ⟨I2.kIn, ?_⟩) hst hpl
  exact run_fnS (us := .ref a :: us) (vs := .ref a :: vs) F hr hb (hx σ) I2 (.cons rfl r) q2
theorem pe_methE0 {pl : Sem Bool} (he : PE X o ta) (c : Cls X.K C) (hm : Meth X.K C m f) (F : FnOk X.prog X.w X.K X.mg X.base CX k f fdd ps sp) (hr : Room k X.A) (hb : Binds X.K fdd ps []) (hx : ∀ σ, PassesAt CX X σ (E σ))
    (ht : eval (.Call (.Attribute o m apos) [] [] pos) X.env = (do
      let ov ← eval o X.env
      standAt apos.atName
      let (f, first) ← holding [ov] (getMethod ov m pl)
      callWith pos f first (backTo pos (starEach [] X.env)) (backToKw pos (keywordEach [] X.env))) := by rfl) :
    PE X (.Call (.Attribute o m apos) [] [] pos) (tMethS C m sp E ta tNil) := by
  refine ⟨fun pins s σ H Q I h => ?_⟩
  refine PySem.W.methodCall_KW (pl := pl) (thn (he.run pins s σ H _ I h) fun u s1 ⟨x, H1, I1, rx, a, dx, fs, ex, ea, l, q⟩ => ?_) ht
  subst ex
  obtain rfl : u = Value.ref a := rx
  refine getmeth_ok I1 ea c hm l ?_
  exact PySem.W.callWith_K0 (first := [.ref a]) I1.kIn hm.kp (run_fnS (us := [.ref a]) (vs := [.ref a]) F hr hb (hx σ) I1 (.cons rfl .nil) q)
theorem pe_callS0 (F : FnOk X.prog X.w X.K X.mg X.base CX k f fdd ps sp) (hr : Room k X.A) (hg : Gl X x) (hm : X.mg x = some (.ref f)) (hk : PySem.W.keepIn X.K (.ref f) = true) (hb : Binds X.K fdd ps []) (hx : ∀ σ, PassesAt CX X σ (E σ))
    (hdb : (x == ("__debug__" : Str)) = false := by decide) : PE X (.Call (.Name x p) [] [] pos) (fun σ H Q => sp [] H Q (E σ)) := by
  refine ⟨fun pins s σ H Q I h => ?_⟩
  refine wpAny_Call_Name_kw (ld_glob I hg hm ?_ hdb)
  exact PySem.W.callWith_K0 I.kIn hk (run_fnS (us := []) (vs := []) F hr hb (hx σ) I .nil h)
end
section
variable {X : Cx} {T A B R : Type} {c : Ctx T} {ds : List Desc} {k : Nat} {f D : Addr} {fdd : FuncData} {ps : List Str} {x m : Str} {p pos apos : Pos} {e o : Expr} {es : List Expr} {W : WX} {Fs : R → List FD}
/-- C(..) -/
theorem x_make {l : LTy A} {fn : A → MM Unit R} {xa : MM T A} (F : FnOk X.prog X.w X.K X.mg X.base (L2.CX X.prog X.w) k f fdd ps (SpI c.cls D l (tIns D Fs) fn)) (M : Mk X.K D f) (hr : Room (k + 1) X.A) (hm : X.mg x = some (.ref D)) (hb : Binds X.K fdd ps [])
    (tk : Takes X W) (he : ErrC c W) (ha : PA X (e :: es) (TAX c ds l xa)) (hg : Gl X x := by rfl) (hdb : (x == ("__debug__" : Str)) = false := by decide)
    (h1 : starEach (e :: es) X.env = (false, eval e X.env) :: starEach es X.env := by rfl) (h2 : (backTo pos (starEach es X.env)).any (·.1) = false := by rfl) :
    PE X (.Call (.Name x p) (e :: es) [] pos) (TX c ds (tIns D Fs) (eCall fn xa)) := PE.imp (pe_makeS M F hr hg hm hb (fun σ => passAt tk σ) ha hdb h1 h2) fun σ H Q ⟨m, st, env, q⟩ =>
  ⟨m, st, env, (Post.bnd.mp q).imp fun a s1 q vs m1 H1 w1 a1 r1 y dx ny nd ne => ⟨a, m1, H1, y, dx, vs, rfl, ny, nd, ne, rfl, r1, w1.mh, (Post.up.mp q).mono (fun b _ q m' H' w2 r2 => ⟨rfl, q (.ref y) m' H' (w1.trans w2.wide) (EnvOk.ambGrow a1 w2) r2⟩)
    fun e _ q d m' H' w2 hd => he e s1 d σ m' H' ds q ((env.go w1 a1).grow w2) (xd_up (env.go w1 a1) hd).1 (xd_up (env.go w1 a1) hd).2⟩⟩
/-- o.m(..) -/
theorem x_meth {l : LTy A} {t : Ty B} {fn : R × A → MM Unit B} {xo : MM T R} {xa : MM T A} {pl : Sem Bool} (he : PE X o (TX c ds (tIns D Fs) xo)) (cl : Cls X.K D) (hm : Meth X.K D m f) (hn : FNo Fs m) (F : FnOk X.prog X.w X.K X.mg X.base (L2.CX X.prog X.w) k f fdd ps (SpF c.cls (lc (tIns D Fs) l) t fn)) (hr : Room k X.A) (hb : Binds X.K fdd ps [])
    (tk : Takes X W) (hE : ErrC c W) (ha : PA X (e :: es) (TAX c ds l xa))
    (hst : starEach (e :: es) X.env = (false, eval e X.env) :: starEach es X.env := by rfl) (hpl : (backTo pos (starEach es X.env)).any (·.1) = false := by rfl)
    (ht : eval (.Call (.Attribute o m apos) (e :: es) [] pos) X.env = (do
      let ov ← eval o X.env
      standAt apos.atName
      let (f, first) ← holding [ov] (getMethod ov m pl)
      callWith pos f first (backTo pos (starEach (e :: es) X.env)) (backToKw pos (keywordEach [] X.env))) := by rfl) :
    PE X (.Call (.Attribute o m apos) (e :: es) [] pos) (TX c ds t (eCall fn (eArg xo xa))) := PE.imp (pe_methE he cl hm F hr hb (fun σ => passAt tk σ) ha hst hpl ht) fun σ H Q ⟨m, st, env, q⟩ => by
  unfold eCall eArg at q
  refine ⟨m, st, env, (Post.bnd.mp (Post.bnd.mp q)).imp fun r s1 q v1 m1 H1 w1 a1 ⟨y, dx, fs, e1, k1, r1⟩ => ?_⟩
  subst e1
  refine ⟨y, dx, fs, rfl, w1.mh _ _ k1, hn r m1 fs r1, m1, s1, env.go w1 a1, (Post.bnd.mp q).imp fun a s2 q vs m2 H2 w2 a2 r2 => ?_⟩
  refine ⟨(r, a), m2, ⟨_, vs, rfl, (tIns D Fs).mono w2.mm ⟨y, dx, fs, rfl, k1, r1⟩, r2⟩, w2.mh, (Post.up.mp q).mono (fun b _ q v m' H' w3 r3 => q v m' H' ((w1.trans w2).trans w3.wide) (EnvOk.ambGrow a2 w3) r3)
    fun e _ q d m' H' w3 hd => hE e s2 d σ m' H' ds q (((env.go w1 a1).go w2 a2).grow w3) (xd_up ((env.go w1 a1).go w2 a2) hd).1 (xd_up ((env.go w1 a1).go w2 a2) hd).2⟩
theorem x_meth0 {t : Ty B} {fn : R → MM Unit B} {xo : MM T R} {pl : Sem Bool} (he : PE X o (TX c ds (tIns D Fs) xo)) (cl : Cls X.K D) (hm : Meth X.K D m f) (hn : FNo Fs m) (F : FnOk X.prog X.w X.K X.mg X.base (L2.CX X.prog X.w) k f fdd ps (SpF c.cls (l1 (tIns D Fs)) t fn)) (hr : Room k X.A) (hb : Binds X.K fdd ps [])
    (tk : Takes X W) (hE : ErrC c W)
    (ht : eval (.Call (.Attribute o m apos) [] [] pos) X.env = (do
      let ov ← eval o X.env
      standAt apos.atName
      let (f, first) ← holding [ov] (getMethod ov m pl)
      callWith pos f first (backTo pos (starEach [] X.env)) (backToKw pos (keywordEach [] X.env))) := by rfl) :
    PE X (.Call (.Attribute o m apos) [] [] pos) (TX c ds t (eCall fn xo)) := PE.imp (pe_methE0 he cl hm F hr hb (fun σ => passAt tk σ) ht) fun σ H Q ⟨m, st, env, q⟩ => by
  refine ⟨m, st, env, (Post.bnd.mp q).imp fun r s1 q v1 m1 H1 w1 a1 ⟨y, dx, fs, e1, k1, r1⟩ => ?_⟩
  subst e1
  refine ⟨y, dx, fs, rfl, w1.mh _ _ k1, hn r m1 fs r1, r, m1, ⟨_, rfl, ⟨y, dx, fs, rfl, k1, r1⟩⟩, w1.mh, (Post.up.mp q).mono (fun b _ q v m' H' w3 r3 => q v m' H' (w1.trans w3.wide) (EnvOk.ambGrow a1 w3) r3)
    fun e _ q d m' H' w3 hd => hE e s1 d σ m' H' ds q ((env.go w1 a1).grow w3) (xd_up (env.go w1 a1) hd).1 (xd_up (env.go w1 a1) hd).2⟩
/-- a def without arguments -/
theorem x_call00 {t : Ty B} {fn : Unit → MM Unit B} (F : FnOk X.prog X.w X.K X.mg X.base (L2.CX X.prog X.w) k f fdd ps (SpF c.cls l0 t fn)) (hr : Room k X.A) (hm : X.mg x = some (.ref f)) (hk : PySem.W.keepIn X.K (.ref f) = true) (hb : Binds X.K fdd ps [])
    (tk : Takes X W) (he : ErrC c W) (hg : Gl X x := by rfl) (hdb : (x == ("__debug__" : Str)) = false := by decide) :
    PE X (.Call (.Name x p) [] [] pos) (TX c ds t (eCall fn (ret ()))) := PE.imp (pe_callS0 F hr hg hm hk hb (fun σ => passAt tk σ) hdb) fun σ H Q ⟨m, st, env, q⟩ =>
  ⟨(), m, rfl, env.mh, (Post.up.mp (show Post (up (fn ()) st) _ _ from q)).mono (fun b _ q v m' H' w2 r2 => q v m' H' w2.wide (EnvOk.ambGrow env.amb w2) r2) fun e _ q d m' H' w2 hd => he e st d σ m' H' ds q (env.grow w2) (xd_up env hd).1 (xd_up env hd).2⟩
/-- e.f, a property; it raises nothing -/
theorem x_prop {t : Ty B} {fn : R → MM Unit B} {xo : MM T R} {g gp : Addr} (he : PE X e (TX c ds (tIns D Fs) xo)) (cl : Cls X.K D) (hp : PropOf X.K D m gp f) (F : FnOk X.prog X.w X.K X.mg X.base (L2.CX X.prog X.w) k f fdd ps (SpF c.cls (l1 (tIns D Fs)) t fn)) (hr : Room (k + 1) X.A) (hb : Binds X.K fdd ps [])
    (hab : attributeBase e m X.env (eval e X.env) = eval e X.env := by rfl) : PE X (.Attribute e m pos) (TX c ds t (eCall (fun a => noE (fn a)) xo)) :=
  PE.imp (pe_prop (E := fun _ _ _ => False) he cl hp F hr hb .nil (fun _ _ _ _ _ _ _ h => by
      obtain ⟨_, _, _, _, _, _, _, _, _, _, _, _, z⟩ := h
      exact z.elim) hab) fun σ H Q ⟨m, st, env, q⟩ => by
  refine ⟨m, st, env, (Post.bnd.mp q).imp fun r s1 q v1 m1 H1 w1 a1 ⟨y, dx, fs, e1, k1, r1⟩ => ?_⟩
  subst e1
  refine ⟨y, dx, fs, rfl, w1.mh _ _ k1, r, m1, ⟨_, rfl, ⟨y, dx, fs, rfl, k1, r1⟩⟩, w1.mh, (Post.noE.mp (Post.up.mp q)).mono (fun b _ q v m' H' w3 r3 => q v m' H' (w1.trans w3.wide) (EnvOk.ambGrow a1 w3) r3) fun e _ q => q.elim⟩
end
/-! what is never reached -/
theorem b_stk {X : Cx} {T F : Type} {c : Ctx T} {ds : List Desc} {P : F → T → Ends → Prop} {s : Stmt} {rest : List Stmt} : PSs X (s :: rest) (BX c ds stk P) := PSs.imp (pss_cons ps_never (u := fun _ _ _ => False) ⟨fun _ _ _ _ _ _ h => h.elim⟩) fun D σ H ⟨m, st, env, p⟩ => p.elim
/-! truth -/
structure TruT {A : Type} (K : PySem.W.Frag) (t : Ty A) (f : A → Option Bool) : Prop where
  tr : ∀ a v m H k, t.rep a v m → Sub m H → f a = some k → TruV K v H k
def fNe {A : Type} (xs : List A) : Option Bool := some (!xs.isEmpty)
def fNz (i : Int) : Option Bool := some (i != 0)
def fStr (x : Str) : Option Bool := if x.length ≤ 100000 then some ((x.length : Int) != 0) else none
section
variable {A : Type} {K : PySem.W.Frag} {t : Ty A}
theorem reps_emp {m : Hp} {xs : List A} {vs : List V} (r : Reps t m xs vs) : (!xs.isEmpty) = !vs.isEmpty := by
  cases r <;> rfl
theorem tru_list : TruT K (tList t) fNe := ⟨fun a v m H k ⟨p, vs, e, q, r⟩ hm z => by cases z; subst e; exact .inl ⟨vs, .of (hm _ _ q), reps_emp r⟩⟩
theorem tru_seq : TruT K (tSeq K t) fNe := ⟨fun a v m H k ⟨p, vs, e, q, r⟩ hm z => by cases z; subst e; exact .inl ⟨vs, hm.sqL q, reps_emp r⟩⟩
theorem tru_vt : TruT K (tVT K t) fNe := ⟨fun a v m H k ⟨p, vs, e, q, r⟩ hm z => by cases z; subst e; exact .inr (.inl ⟨vs, hm.sqT q, reps_emp r⟩)⟩
theorem tru_int : TruT K tInt fNz := ⟨fun a v m H k r hm z => by cases rep_int r; cases z; rfl⟩
theorem tru_str : TruT K tStr fStr := ⟨fun a v m H k r hm z => by
  cases rep_str r
  unfold fStr at z
  by_cases y : a.length ≤ 100000
  · rw [if_pos y] at z; cases z; exact ⟨Nat.le_trans y (by decide), rfl⟩
  · rw [if_neg y] at z; cases z⟩
variable {X : Cx} {T : Type} {c : Ctx T} {ds : List Desc} {e : Expr} {f : A → Option Bool} {xa : MM T A} {pos p2 : Pos}
theorem t_tru (h : TruT X.K t f) (he : PE X e (TX c ds t xa)) (hi : ∀ whole, isTrue e X.env whole = (do let v ← whole; standAt e.pos; holding [v] (truthy v)) := by intro _; rfl) : PT X e (TTX c ds (e1 f xa)) :=
  PT.imp (pt_truth he hi) fun σ H Q ⟨m, st, env, p⟩ => ⟨m, st, env, (Post.bnd.mp p).imp fun a s1 p v m1 H1 w1 a1 r1 => by
    obtain ⟨k, hk, p⟩ := Post.lft.mp p
    exact ⟨k, h.tr a v m1 H1 k r1 w1.mh hk, p m1 H1 w1 a1⟩⟩
theorem x_notT (h : TruT X.K t f) (he : PE X e (TX c ds t xa)) : PE X (.UnaryOp .Not e pos) (TX c ds tBool (e1 (fun a => (f a).map (!·)) xa)) :=
  PE.imp (pe_notT he) fun σ H Q ⟨m, st, env, p⟩ => ⟨m, st, env, (Post.bnd.mp p).imp fun a s1 p v m1 H1 w1 a1 r1 => by
    obtain ⟨k, hk, p⟩ := Post.lft.mp p
    obtain ⟨k0, h0, rfl⟩ := Option.map_eq_some_iff.mp hk
    exact ⟨k0, h.tr a v m1 H1 k0 r1 w1.mh h0, p _ m1 H1 w1 a1 rfl⟩⟩
/-- an owned list -/
theorem t_truO (i : Nat) {x : Str} {xs : List A} (hd : ds[i]? = some (.own (oList t) xs) := by rfl) (hN : X.N[i]? = some x := by rfl) (hv : Vis X.env.scope x := by first | exact Or.inl rfl | exact Or.inr (Or.inl rfl) | exact Or.inr (Or.inr rfl))
    (h1 : (x == ("__debug__" : Str)) = false := by decide) (h2 : (x == ("__classdict__" : Str)) = false := by decide) (hi : ∀ whole, isTrue (.Name x p2) X.env whole = (do let v ← whole; standAt (Expr.Name x p2).pos; holding [v] (truthy v)) := by intro _; rfl) : PT X (.Name x p2) (TTX c ds (ret (!xs.isEmpty))) :=
  PT.imp (pt_truth (pe_var hN hv h1 h2) hi) fun σ H Q ⟨m, st, env, p⟩ => by
    obtain ⟨v, fp, e1, q, us, ev, ef, k, r⟩ := own_at env hd
    subst ev
    exact ⟨_, e1, _, .inl ⟨us, .of k, reps_emp r⟩, p m H (.refl env.mh) env.amb⟩
end
/-! in -/
structure FlatT {A : Type} [DecidableEq A] (t : Ty A) : Prop where
  fl : ∀ a v m, t.rep a v m → flatV v = true
  eq : ∀ a b v w m n, t.rep a v m → t.rep b w n → eqV w v = decide (b = a)
theorem beq_dec {A : Type} [DecidableEq A] (a b : A) [BEq A] [LawfulBEq A] : (a == b) = decide (a = b) := by
  by_cases h : a = b
  · simp [h]
  · rw [decide_eq_false h]; exact beq_eq_false_iff_ne.mpr h
theorem flat_int : FlatT tInt := ⟨fun a v m h => by cases rep_int h; rfl, fun a b v w m n h k => by cases rep_int h; cases rep_int k; exact beq_dec _ _⟩
theorem flat_bool : FlatT tBool := ⟨fun a v m h => by cases rep_bool h; rfl, fun a b v w m n h k => by cases rep_bool h; cases rep_bool k; exact beq_dec _ _⟩
theorem flat_str : FlatT tStr := ⟨fun a v m h => by cases rep_str h; rfl, fun a b v w m n h k => by cases rep_str h; cases rep_str k; exact beq_dec _ _⟩
theorem flat_optI : FlatT (tOpt tInt) := ⟨fun a v m h => by cases a <;> simp only [tOpt, repO, tInt] at h <;> subst h <;> rfl, fun a b v w m n h k => by
  cases a <;> cases b <;> simp only [tOpt, repO, tInt] at h k <;> subst h <;> subst k <;> simp [eqV, beq_dec]⟩
def oIn {A : Type} [DecidableEq A] (a : A) (xs : List A) : Option Bool := some (decide (a ∈ xs))
def oNotIn {A : Type} [DecidableEq A] (a : A) (xs : List A) : Option Bool := some (!decide (a ∈ xs))
section
variable {A : Type} [DecidableEq A] {K : PySem.W.Frag} {t : Ty A}
theorem reps_flat (h : FlatT t) {m : Hp} {xs : List A} {vs : List V} (r : Reps t m xs vs) : vs.all flatV = true := by
  induction r with
  | nil => rfl
  | cons a _ ih => rw [List.all_cons, h.fl _ _ _ a, ih]; rfl
theorem reps_in (h : FlatT t) {m n : Hp} {a : A} {v : V} (q : t.rep a v n) {xs : List A} {vs : List V} (r : Reps t m xs vs) : inV v vs = decide (a ∈ xs) := by
  induction r with
  | nil => rfl
  | @cons b w bs ws x _ ih =>
    unfold inV at ih ⊢
    rw [List.any_cons, ih, h.eq a b v w n m q x]
    by_cases z : b = a
    · simp [z]
    · have : ¬ a = b := fun e => z e.symm
      simp [z, this]
theorem sp_inL (h : FlatT t) : Op2 (rIn K false) t (tList t) tBool oIn := fun a b g v1 v2 m H Q r1 ⟨p, us, e1, k, r⟩ hm e q => by
  cases e
  exact ⟨p, us, e1, .inl (.of (hm _ _ k)), h.fl _ _ _ r1, reps_flat h r, q _ m H (.refl hm) (by show V.bl _ = V.bl _; rw [if_neg Bool.false_ne_true, reps_in h r1 r])⟩
theorem sp_ninL (h : FlatT t) : Op2 (rIn K true) t (tList t) tBool oNotIn := fun a b g v1 v2 m H Q r1 ⟨p, us, e1, k, r⟩ hm e q => by
  cases e
  exact ⟨p, us, e1, .inl (.of (hm _ _ k)), h.fl _ _ _ r1, reps_flat h r, q _ m H (.refl hm) (by show V.bl _ = V.bl _; rw [if_pos rfl, reps_in h r1 r])⟩
theorem sp_inT (h : FlatT t) : Op2 (rIn K false) t (tVT K t) tBool oIn := fun a b g v1 v2 m H Q r1 ⟨p, us, e1, k, r⟩ hm e q => by
  cases e
  exact ⟨p, us, e1, .inr (hm.sqT k), h.fl _ _ _ r1, reps_flat h r, q _ m H (.refl hm) (by show V.bl _ = V.bl _; rw [if_neg Bool.false_ne_true, reps_in h r1 r])⟩
theorem sp_ninT (h : FlatT t) : Op2 (rIn K true) t (tVT K t) tBool oNotIn := fun a b g v1 v2 m H Q r1 ⟨p, us, e1, k, r⟩ hm e q => by
  cases e
  exact ⟨p, us, e1, .inr (hm.sqT k), h.fl _ _ _ r1, reps_flat h r, q _ m H (.refl hm) (by show V.bl _ = V.bl _; rw [if_pos rfl, reps_in h r1 r])⟩
variable {X : Cx} {T : Type} {c : Ctx T} {ds : List Desc} {e : Expr} {xa : MM T A} {pos p2 : Pos}
/-- in an owned list -/
theorem rd_inO {r : Bool} {σ : L2.St} {H : Hp} {Q : VK} (h : FlatT t) (i : Nat) {xs : List A} (hd : ds[i]? = some (.own (oList t) xs)) (f : A → List A → Option Bool) (hf : ∀ a xs, f a xs = some (if r then !decide (a ∈ xs) else decide (a ∈ xs)))
    (q : TX c ds tBool (e1 (fun a => f a xs) xa) σ H Q) : tOp (rIn X.K r) (TX c ds t xa) (tVar i) σ H Q := by
  obtain ⟨m, st, env, p⟩ := q
  refine ⟨m, st, env, (Post.bnd.mp p).imp fun a s1 p v m1 H1 w1 a1 r1 => ?_⟩
  obtain ⟨k, hk, p⟩ := Post.lft.mp p
  have hk := (hf a xs).symm.trans hk
  cases hk
  obtain ⟨v', fp, e1, q, us, ev, ef, k, r2⟩ := own_at (env.go w1 a1) hd
  subst ev
  refine ⟨_, e1, q, us, rfl, .inl (.of k), h.fl _ _ _ r1, reps_flat h r2, ?_⟩
  rw [reps_in h r1 r2]
  exact p _ m1 H1 w1 a1 rfl
theorem x_inO (i : Nat) {x : Str} {xs : List A} (h : FlatT t) (he : PE X e (TX c ds t xa)) (hd : ds[i]? = some (.own (oList t) xs) := by rfl) (hN : X.N[i]? = some x := by rfl) (hv : Vis X.env.scope x := by first | exact Or.inl rfl | exact Or.inr (Or.inl rfl) | exact Or.inr (Or.inr rfl))
    (h1 : (x == ("__debug__" : Str)) = false := by decide) (h2 : (x == ("__classdict__" : Str)) = false := by decide) (hm : behindInMarks .In (.Name x p2) = false := by first | exact nomark _ | rfl) :
    PE X (.Compare e [.In] [.Name x p2] pos) (TX c ds tBool (e1 (fun a => oIn a xs) xa)) := PE.imp (pe_cmpR op_in_seq he (pe_var hN hv h1 h2) hm) fun σ H Q q => rd_inO (r := false) h i hd oIn (fun _ _ => rfl) q
theorem x_ninO (i : Nat) {x : Str} {xs : List A} (h : FlatT t) (he : PE X e (TX c ds t xa)) (hd : ds[i]? = some (.own (oList t) xs) := by rfl) (hN : X.N[i]? = some x := by rfl) (hv : Vis X.env.scope x := by first | exact Or.inl rfl | exact Or.inr (Or.inl rfl) | exact Or.inr (Or.inr rfl))
    (h1 : (x == ("__debug__" : Str)) = false := by decide) (h2 : (x == ("__classdict__" : Str)) = false := by decide) (hm : behindInMarks .NotIn (.Name x p2) = false := by first | exact nomark _ | rfl) :
    PE X (.Compare e [.NotIn] [.Name x p2] pos) (TX c ds tBool (e1 (fun a => oNotIn a xs) xa)) := PE.imp (pe_cmpR op_notIn_seq he (pe_var hN hv h1 h2) hm) fun σ H Q q => rd_inO (r := true) h i hd oNotIn (fun _ _ => rfl) q
theorem t_inO (i : Nat) {x : Str} {xs : List A} (h : FlatT t) (he : PE X e (TX c ds t xa)) (hd : ds[i]? = some (.own (oList t) xs) := by rfl) (hN : X.N[i]? = some x := by rfl) (hv : Vis X.env.scope x := by first | exact Or.inl rfl | exact Or.inr (Or.inl rfl) | exact Or.inr (Or.inr rfl))
    (h1 : (x == ("__debug__" : Str)) = false := by decide) (h2 : (x == ("__classdict__" : Str)) = false := by decide) (hm : behindInMarks .In (.Name x p2) = false := by first | exact nomark _ | rfl) :
    PT X (.Compare e [.In] [.Name x p2] pos) (TTX c ds (e1 (fun a => oIn a xs) xa)) := PT.imp (pt_cmpR op_in_seq he (pe_var hN hv h1 h2) hm) fun σ H Q ⟨m, st, env, p⟩ => by
  have q : TX c ds tBool (e1 (fun a => oIn a xs) xa) σ H (fun x H' => ∃ k, x = .bl k ∧ Q k H') := ⟨m, st, env, p.imp fun a s1 p v m1 H1 w1 a1 r1 => ⟨a, r1, p m1 H1 w1 a1⟩⟩
  exact rd_inO (r := false) h i hd oIn (fun _ _ => rfl) q
theorem t_ninO (i : Nat) {x : Str} {xs : List A} (h : FlatT t) (he : PE X e (TX c ds t xa)) (hd : ds[i]? = some (.own (oList t) xs) := by rfl) (hN : X.N[i]? = some x := by rfl) (hv : Vis X.env.scope x := by first | exact Or.inl rfl | exact Or.inr (Or.inl rfl) | exact Or.inr (Or.inr rfl))
    (h1 : (x == ("__debug__" : Str)) = false := by decide) (h2 : (x == ("__classdict__" : Str)) = false := by decide) (hm : behindInMarks .NotIn (.Name x p2) = false := by first | exact nomark _ | rfl) :
    PT X (.Compare e [.NotIn] [.Name x p2] pos) (TTX c ds (e1 (fun a => oNotIn a xs) xa)) := PT.imp (pt_cmpR op_notIn_seq he (pe_var hN hv h1 h2) hm) fun σ H Q ⟨m, st, env, p⟩ => by
  have q : TX c ds tBool (e1 (fun a => oNotIn a xs) xa) σ H (fun x H' => ∃ k, x = .bl k ∧ Q k H') := ⟨m, st, env, p.imp fun a s1 p v m1 H1 w1 a1 r1 => ⟨a, r1, p m1 H1 w1 a1⟩⟩
  exact rd_inO (r := true) h i hd oNotIn (fun _ _ => rfl) q
end
/-! an if whose branch never ends in the plain way -/
def nv {T A : Type} (x : MM T Empty) : MM T A := bnd x fun e => nomatch e
section
variable {X : Cx} {T F R A : Type} {c : Ctx T} {ds : List Desc} {P : F → T → Ends → Prop} {rest : List Stmt} {pos : Pos}
theorem b_ifnv {cnd : Expr} {a : List Stmt} {xc : MM T Bool} {xa : MM T Empty} {xb : MM T F} (hc : PT X cnd (TTX c ds xc)) (ha : PSs X a (BX c ds xa (fun _ _ _ => False))) (hb : PSs X rest (BX c ds xb P)) :
    PSs X (.If cnd a [] pos :: rest) (BX c ds (eIf xc (nv xa) xb) P) :=
  PSs.imp (pss_cons (ps_if hc ha pss_nil) hb) fun D σ H ⟨m, st, env, p⟩ => by
    unfold eIf at p
    refine ⟨m, st, env, (Post.bnd.mp p).imp fun t s1 p m1 H1 w1 a1 => ?_⟩
    cases t with
    | true => rw [if_pos rfl] at p ⊢; exact ⟨m1, s1, env.go w1 a1, (Post.bnd.mp p).imp fun e _ _ => nomatch e⟩
    | false => rw [if_neg Bool.false_ne_true] at p ⊢; exact ⟨m1, s1, env.go w1 a1, p⟩
theorem i_rev {tg e : Expr} {t : Ty A} {x : MM T (List A)} {p : Pos} (hm : X.mg "reversed" = none) (he : PA X [e] (TAX c ds (l1 (tList t)) x)) (hg : Gl X "reversed" := by rfl) (hs : starEach [e] X.env = [(false, eval e X.env)] := by rfl) :
    PI X tg (.Call (.Name "reversed" p) [e] [] pos) (SrcTI c ds t (bnd x fun xs => ret xs.reverse)) := PI.imp (pi_reversed hg hm he hs) fun σ H R ⟨m, st, env, p⟩ => ⟨m, st, env, (Post.bnd.mp p).imp fun xs s1 p vs0 m1 H1 w1 a1 ⟨v, ev, q, vs, e, k, r⟩ => by
  subst ev e
  refine ⟨q, vs, rfl, .of (w1.mh _ _ k), p (Itv X.K q vs.length) (fun m => SqL X.K m q vs ∧ Reps t m xs vs) m1 H1 w1 a1 (fun hs ⟨k2, r2⟩ => ⟨hs.sqL k2, r2.mono hs⟩) ⟨.of k, r⟩ fun i H2 ⟨m2, ⟨k2, r2⟩, hm2⟩ => ?_⟩
  rw [List.length_reverse]
  refine ⟨fun hi => ?_, fun hi => by rw [← r.length]; exact hi⟩
  have hi' : i < vs.length := by rw [← r.length]; exact hi
  have hj : vs.length - 1 - i < xs.length := by rw [← r.length] at hi' ⊢; omega
  obtain ⟨u, hu, _⟩ := r2.get (List.getElem?_eq_getElem hj)
  refine ⟨⟨hi', vs, u, hm2.sqL k2, hu⟩, fun w H3 ⟨e3, y⟩ => ⟨e3, fun m3 ⟨k3, r3⟩ hm3 => ?_⟩⟩
  have hw := y vs (hm3.sqL k3)
  obtain ⟨u', hu', ru'⟩ := r3.get (List.getElem?_eq_getElem hj)
  rw [hu'] at hw
  cases hw
  refine ⟨xs[vs.length - 1 - i], ?_, ru'⟩
  rw [List.getElem?_reverse hi, r.length]
  exact List.getElem?_eq_getElem hj⟩
end
/-- a method's def -/
structure MetI (K : PySem.W.Frag) (C : Addr) (x qual : Str) (st : Stmt) (ps : List Str) where
  a : Addr
  d : FuncData
  F : Fun K x qual st a d
  m : Meth K C x a
  b : Binds K d ps []
/-! a comprehension within a comprehension -/
def freeC (sc scope : Scope) : Bool := scope.names.all fun y => match y.2 with
  | .free => (match sc.names.lookup y.1 with
    | some .cell => true
    | some .free => true
    | _ => false)
  | _ => true
theorem blkOk_nest {N : List Str} {sc scope : Scope} {own : List (Str × Nat)} (h : blkC N scope scope own = true) (hf : freeC sc scope = true) : BlkOk N sc scope own := by
  have b := blkOk_by h
  refine ⟨b.kind, b.uniq, b.ix, fun y hy e => ?_, b.own⟩
  have q := List.all_eq_true.mp hf y hy
  simp only [e] at q
  split at q
  · exact .inl (by assumption)
  · exact .inr (by assumption)
  · cases q
/-! a value that is not None -/
theorem x_un_opt {X : Cx} {T A : Type} {c : Ctx T} {ds : List Desc} {t : Ty A} {e : Expr} {xa : MM T (Option A)} (he : PE X e (TX c ds (tOpt t) xa)) : PE X e (TX c ds t (e1 (fun o => o) xa)) := PE.imp he fun σ H Q ⟨m, st, env, p⟩ =>
  ⟨m, st, env, (Post.bnd.mp p).imp fun o s1 p v m1 H1 w1 a1 r1 => by
    obtain ⟨a, ha, p⟩ := Post.lft.mp p
    subst ha
    exact p v m1 H1 w1 a1 r1⟩
end WL

/-! WLH: dicts whose keys are carried by value: ints, bools, texts, None. -/
namespace WL
open PySem PySem.Spec PyProof.Rows L2

/-- the dict at a -/
def DE (P : Program) (w : World) (a : Addr) (kvs : List (PySem.Leaf × V)) : HO := .ext fun h => kvs.length ≤ sizeLine ∧ (a == sysModules) = false ∧ ∃ vs, KV kvs vs ∧ h.DictOf (leafKind P w) a vs
theorem de_inj {P : Program} {w : World} {a : Addr} {o : HO} {kvs : List (PySem.Leaf × V)} (h : o = DE P w a kvs) : o = DE P w a kvs := h
section
variable {P : Program} {w : World} {H : Hp} {h : Heap} {a : Addr} {kvs : List (PySem.Leaf × V)}
theorem de_new (z : kvs.length ≤ sizeLine) (hd : (a == sysModules) = false) {vs : List (PySem.Leaf × Value)} (r : KV kvs vs) (dd : h.DictOf (leafKind P w) a vs) : ObjOk P w H h a (DE P w a kvs) := by
  have ⟨o, es, ep, ho, _⟩ := dd
  refine ⟨⟨z, hd, vs, r, dd⟩, ⟨o, ho⟩, fun h1 h2 ⟨z, hd, vs, r, o, es, ep, ho, q⟩ k => ⟨z, hd, vs, r, o, es, ep, k o ho, q⟩⟩
theorem de_get {X : Cx} {pins : List (Addr × Obj)} {σ : L2.St} {H : Hp} {s : Shared} (I : L2.Inv X pins σ H s) (e : H a = some (DE X.prog X.w a kvs)) : kvs.length ≤ sizeLine ∧ (a == sysModules) = false ∧ ∃ vs, KV kvs vs ∧ s.heap.DictOf (leafKind X.prog X.w) a vs := (I.hok a _ e).1
theorem de_empty (h : Heap) (hb : sysModules < h.objs.size) : ObjOk P w H (h.push { cls := .type "dict", data := .dict #[] }) h.objs.size (DE P w h.objs.size []) :=
  de_new (Nat.zero_le _) (beq_eq_false_iff_ne.mpr (Ne.symm (Nat.ne_of_lt hb))) .nil (Heap.DictOf.new h)
end
/-- the keys of a type -/
structure KeyT {A : Type} (t : Ty A) (enc : A → PySem.Leaf) : Prop where
  is : ∀ a v m u, t.rep a v m → RelV v u → Leaf.isOf (enc a) u = true
  inj : ∀ a b, enc a = enc b → a = b
theorem key_int : KeyT tInt (fun i => .num i) := ⟨fun a v m u r h => by
  cases rep_int r
  obtain ⟨t, rfl⟩ := (show ∃ t, u = Value.int a t from h)
  exact decide_eq_true rfl, fun a b e => by injection e⟩
def encO : Option Int → PySem.Leaf
  | none => .none
  | some i => .num i
theorem key_optI : KeyT (tOpt tInt) encO := ⟨fun a v m u r h => by
  cases a with
  | none =>
    have e : v = .non := r
    subst e
    have e2 : u = Value.none := h
    subst e2
    rfl
  | some i =>
    have e : v = .int i := r
    subst e
    obtain ⟨t, rfl⟩ := (show ∃ t, u = Value.int i t from h)
    exact decide_eq_true rfl, fun a b e => by
  cases a <;> cases b
  · rfl
  · cases e
  · cases e
  · injection e with e; rw [e]⟩
theorem key_str : KeyT tStr (fun i => .text i) := ⟨fun a v m u r h => by
  cases rep_str r
  obtain ⟨t, rfl⟩ := (show ∃ t, u = Value.str a t from h)
  show Value.isStrOf a (.str a t) = true
  simp [Value.isStrOf], fun a b e => by injection e⟩
/-! tables -/
section
variable {A B KK : Type} [DecidableEq A] [DecidableEq KK]
def aGet (ds : List (A × B)) (k : A) : Option B := (ds.find? fun d => decide (d.1 = k)).map (·.2)
def aHas (ds : List (A × B)) (k : A) : Bool := (aGet ds k).isSome
def aPut (ds : List (A × B)) (k : A) (v : B) : List (A × B) := if (ds.any fun d => decide (d.1 = k)) = true then ds.map (fun d => if d.1 = k then (d.1, v) else d) else ds ++ [(k, v)]
inductive DRep (enc : A → KK) (u : Ty B) (m : Hp) : List (A × B) → List (KK × V) → Prop where
  | nil : DRep enc u m [] []
  | cons {a : A} {b : B} {v : V} {ds : List (A × B)} {kvs : List (KK × V)} : u.rep b v m → DRep enc u m ds kvs → DRep enc u m ((a, b) :: ds) ((enc a, v) :: kvs)
variable {enc : A → KK} {u : Ty B} {m n : Hp} {ds : List (A × B)} {kvs : List (KK × V)}
theorem DRep.mono (h : Sub m n) (r : DRep enc u m ds kvs) : DRep enc u n ds kvs := by
  induction r with
  | nil => exact .nil
  | cons a _ ih => exact .cons (u.mono h a) ih
theorem DRep.length (r : DRep enc u m ds kvs) : ds.length = kvs.length := by
  induction r with
  | nil => rfl
  | cons _ _ ih => simp [ih]
theorem DRep.get (hi : ∀ a b, enc a = enc b → a = b) (r : DRep enc u m ds kvs) (k : A) : (aGet ds k = none ∧ valV kvs (enc k) = none) ∨ ∃ b v, aGet ds k = some b ∧ valV kvs (enc k) = some v ∧ u.rep b v m := by
  induction r with
  | nil => exact .inl ⟨rfl, rfl⟩
  | @cons a b v ds kvs x _ ih =>
    by_cases e : a = k
    · subst e
      exact .inr ⟨b, v, by unfold aGet; rw [List.find?_cons]; simp, valV_pos rfl, x⟩
    · have e2 : ¬ enc a = enc k := fun z => e (hi _ _ z)
      rw [valV_neg e2]
      have : aGet ((a, b) :: ds) k = aGet ds k := by unfold aGet; rw [List.find?_cons]; simp [e]
      rw [this]
      exact ih
theorem DRep.any (hi : ∀ a b, enc a = enc b → a = b) (r : DRep enc u m ds kvs) (k : A) : (ds.any fun d => decide (d.1 = k)) = kvs.any fun d => decide (d.1 = enc k) := by
  induction r with
  | nil => rfl
  | @cons a b v ds kvs x _ ih =>
    rw [List.any_cons, List.any_cons, ih]
    congr 1
    by_cases e : a = k
    · subst e; simp
    · have e2 : ¬ enc a = enc k := fun z => e (hi _ _ z)
      simp [e, e2]
theorem DRep.put (hi : ∀ a b, enc a = enc b → a = b) (r : DRep enc u m ds kvs) (k : A) {b : B} {v : V} (q : u.rep b v m) : DRep enc u m (aPut ds k b) (putK kvs (enc k) v) := by
  unfold aPut putK
  rw [← r.any hi k]
  split
  · induction r with
    | nil => exact .nil
    | @cons a b0 v0 ds kvs x t ih =>
      rename_i h
      rw [List.map_cons, List.map_cons]
      have ih : DRep enc u m (ds.map fun d => if d.1 = k then (d.1, b) else d) (kvs.map fun kv => if kv.1 = enc k then (kv.1, v) else kv) := by
        clear ih h
        induction t with
        | nil => exact .nil
        | @cons a1 b1 v1 ds1 kvs1 x1 t1 ih1 =>
          rw [List.map_cons, List.map_cons]
          by_cases e : a1 = k
          · subst e
            simp only [if_true]
            exact .cons q ih1
          · have e2 : ¬ enc a1 = enc k := fun z => e (hi _ _ z)
            simp only [e, e2, if_false]
            exact .cons x1 ih1
      by_cases e : a = k
      · subst e
        simp only [if_true]
        exact .cons q ih
      · have e2 : ¬ enc a = enc k := fun z => e (hi _ _ z)
        simp only [e, e2, if_false]
        exact .cons x ih
  · rename_i h
    clear h
    induction r with
    | nil => exact .cons q .nil
    | cons x _ ih => exact .cons x ih
end
/-- an owned dict -/
def oDict {A B : Type} [DecidableEq A] (P : Program) (w : World) (enc : A → PySem.Leaf) (u : Ty B) : OTy (List (A × B)) where
  rep := fun ds v fp h m => ∃ p kvs, v = .ref p ∧ fp = [p] ∧ h p = some (DE P w p kvs) ∧ DRep enc u m ds kvs
  frame := fun hk hm ⟨p, kvs, e, ef, k, r⟩ => ⟨p, kvs, e, ef, by rw [hk p (by rw [ef]; simp)]; exact k, r.mono hm⟩
  dom := fun ⟨p, kvs, e, ef, k, r⟩ q hq => by rw [ef] at hq; obtain rfl := List.mem_singleton.mp hq; rw [k]; exact fun z => nomatch z
/-! the rules below, by values -/
def IsKey (k : PySem.Leaf) (y : V) : Prop := ∀ u, RelV y u → Leaf.isOf k u = true
def rInE (P : Program) (w : World) (neg : Bool) : R2 := fun y x H Q => ∃ a kvs k, x = .ref a ∧ H a = some (DE P w a kvs) ∧ IsKey k y ∧ Q (.bl (if neg then !(valV kvs k).isSome else (valV kvs k).isSome)) H
section
variable {X : Cx}
theorem op_inE : OpR X (compareOp .In) (rInE X.prog X.w false) := by
  intro pins s σ H y x v u Q I ry rx h
  obtain ⟨a, kvs, k, rfl, e, ik, q⟩ := h
  cases rx
  obtain ⟨z, hd, vs, rel, dd⟩ := de_get I e
  refine wpAny_in_of (knd := leafKind X.prog X.w) (ik _ ry) hd dd.mapOf ?_
  rw [← (rel.val k).isSome_eq]
  exact ⟨.bl _, H, I.tok _, rfl, q⟩
theorem op_ninE : OpR X (compareOp .NotIn) (rInE X.prog X.w true) := by
  intro pins s σ H y x v u Q I ry rx h
  obtain ⟨a, kvs, k, rfl, e, ik, q⟩ := h
  cases rx
  obtain ⟨z, hd, vs, rel, dd⟩ := de_get I e
  refine wpAny_notIn_of (knd := leafKind X.prog X.w) (ik _ ry) hd dd.mapOf ?_
  rw [← (rel.val k).isSome_eq]
  exact ⟨.bl _, H, I.tok _, rfl, q⟩
variable {o i value : Expr} {pos pos' : Pos} {td ty tv : TE}
def tDGetE (P : Program) (w : World) (td ty : TE) : TE := fun σ H Q => td σ H fun x H1 => ty σ H1 fun y H2 => ∃ a kvs k v, x = .ref a ∧ H2 a = some (DE P w a kvs) ∧ IsKey k y ∧ valV kvs k = some v ∧ Q v H2
theorem pe_dgetE (ho : PE X o td) (hi : PE X i ty) (hs : NoSl i) : PE X (.Subscript o i pos) (tDGetE X.prog X.w td ty) := by
  refine ⟨fun pins s σ H Q I h => ?_⟩
  refine subD_of PySem.F.slot_dict_getitem.lookup hs (thn (ho.run pins s σ H _ I h) fun u s1 ⟨x, H1, I1, rx, q1⟩ => thn (hi.run pins s1 σ H1 _ I1 q1) fun iv s2 ⟨y, H2, I2, ry, a, kvs, k, v, ex, e, ik, l, q2⟩ => ?_)
  subst ex
  obtain rfl : u = Value.ref a := rx
  obtain ⟨z, hd, vs, rel, dd⟩ := de_get I2 e
  obtain ⟨w', hw, rw'⟩ := RelO.some_of (v := v) (o := valueAt vs k) (by rw [← l]; exact rel.val k)
  exact ⟨dd.typeIs, wpAny_getItem_of (knd := leafKind X.prog X.w) (ik _ ry) dd.mapOf hw ⟨v, H2, I2.tok _, rw', q2⟩⟩
def sDPutE (P : Program) (w : World) (td ty tv : TE) : TS := fun D σ H => tv σ H fun v H1 => td σ H1 fun x H2 => ty σ H2 fun y H3 => ∃ a kvs k, x = .ref a ∧ H3 a = some (DE P w a kvs) ∧ IsKey k y ∧ kvs.length < sizeLine ∧ D.nx σ (upd H3 a (DE P w a (putK kvs k v)))
theorem ps_dputE (ho : PE X o td) (hi : PE X i ty) (hv : PE X value tv) (hs : swapsWith value (some (.Subscript o i pos')) pos.line X.env = pure false) :
    PS X (.Assign [.Subscript o i pos'] value pos) (sDPutE X.prog X.w td ty tv) := by
  refine ⟨fun pins s σ H D I h => ?_⟩
  refine wpAny_Assign_Subscript (thn (hv.run pins s σ H _ I h) fun r s1 ⟨v, H1, I1, rv, q1⟩ => thn (ho.run pins s1 σ H1 _ I1 q1) fun u s2 ⟨x, H2, I2, rx, q2⟩ => thn (hi.run pins s2 σ H2 _ I2 q2) fun iv s3 ⟨y, H3, I3, ry, a, kvs, k, ex, e, ik, l, q3⟩ => ?_) hs
  subst ex
  obtain rfl : u = Value.ref a := rx
  obtain ⟨z, hd, vs, rel, dd⟩ := de_get I3 e
  have hz : vs.length ≤ sizeLine := by rw [← Paired.length rel]; exact z
  have hl : (putK kvs k v).length ≤ sizeLine := by have := length_putK kvs k v; omega
  refine wpAny_setItem_pairs (knd := leafKind X.prog X.w) (hsz := hz) (ik _ ry) dd fun h' dd' hs => ⟨σ, _, ?_, q3⟩
  have he : ∃ q, h'.get? a = some q := let ⟨q, _, _, hq, _⟩ := dd'; ⟨q, hq⟩
  exact d_write I3 (by rw [e]; exact True.intro) hs he (de_new hl hd (rel.put k rv) dd')
/-- {k: v} -/
def tDisp1 (P : Program) (w : World) (tk tv : TE) : TE := fun σ H Q => ∀ p, H p = none → tk σ (upd H p (DE P w p [])) fun y H1 => tv σ H1 fun v H2 => H2 p = some (DE P w p []) ∧ ∃ k, IsKey k y ∧ Q (.ref p) (upd H2 p (DE P w p [(k, v)]))
theorem pe_disp1 (hk : PE X i ty) (hv : PE X value tv) : PE X (.Dict [some i] [value] pos) (tDisp1 X.prog X.w ty tv) := by
  refine ⟨fun pins s σ H Q I q => ?_⟩
  have hn := I.hok.fresh (Nat.le_refl s.heap.objs.size)
  have I1 := I.laid (a := s.heap.objs.size) (o := DE X.prog X.w s.heap.objs.size []) (h' := s.heap.push { cls := .type "dict", data := .dict #[] }) (t' := s.toks) (fun _ _ q => Heap.get?_push_of_some _ q) (Nat.le_refl _) (de_empty s.heap I.big)
  refine wpAny_Dict_walk (knd := leafKind X.prog X.w) rfl rfl (by simp) (by simp) ?_
  refine pairTrees_cons_walk (thn (hk.run pins _ σ _ _ I1 (q _ hn)) fun u s1 ⟨y, H1, I2, ry, q1⟩ => thn (hv.run pins s1 σ H1 _ I2 q1) fun w2 s2 ⟨v, H2, I3, rv, e, k, ik, q2⟩ => pairTrees_nil_walk ?_)
  obtain ⟨z, hd, vs0, r0, dd⟩ := de_get I3 e
  cases r0
  refine ⟨[(k, w2)], ⟨ik _ ry, rfl, True.intro⟩, dd, fun h' dd' hs => ⟨.ref s.heap.objs.size, _, ?_, rfl, q2⟩⟩
  have he : ∃ q, h'.get? s.heap.objs.size = some q := let ⟨q, _, _, hq, _⟩ := dd'; ⟨q, hq⟩
  exact d_write I3 (by rw [e]; exact True.intro) hs he (de_new (by rw [sizeLine_eq]; simp) hd (.cons ⟨rfl, rv⟩ .nil) dd')
end
section
variable {X : Cx} {T A B F : Type} [DecidableEq A] {c : Ctx T} {ds : List Desc} {t : Ty A} {u : Ty B} {enc : A → PySem.Leaf} {pos p2 p3 : Pos} {e ev : Expr} {xk : MM T A} {xv : MM T B} {P : F → T → Ends → Prop} {rest : List Stmt}
/-- {k: v} -/
theorem x_disp1 (kt : KeyT t enc) (hk : PE X e (TX c ds t xk)) (hv : PE X ev (TX c ds u xv)) : PE X (.Dict [some e] [ev] pos) (TXO c ds (oDict X.prog X.w enc u) (e2 (fun a b => some [(a, b)]) xk xv)) :=
  PE.imp (pe_disp1 hk hv) fun σ H Q ⟨m, st, env, p⟩ q hq => by
    have w0 : WStep [] m H m (upd H q (DE X.prog X.w q [])) := .own env.mh hq
    unfold e2 at p
    refine ⟨m, st, env.grow w0, (Post.bnd.mp p).imp fun a s1 p v1 m1 H1 w1 a1 r1 => ?_⟩
    refine ⟨m1, s1, (env.grow w0).go w1 a1, (Post.bnd.mp p).imp fun b s2 p v2 m2 H2 w2 a2 r2 => ?_⟩
    have mq : m q = none := env.mh.free hq
    have nq : q ∉ c.afp := fun z => c.ambD env.amb q z hq
    have k1 : upd H q (DE X.prog X.w q []) q = some (DE X.prog X.w q []) := upd_same
    have k2 := (w1.trans w2).hh q _ nq k1
    have hmq : m2 q = none := (w1.trans w2).ow q mq (by rw [k1]; exact fun z => nomatch z)
    have p := Post.lft.mp p
    obtain ⟨z, hz, p⟩ := p
    cases hz
    have w3 : WStep c.afp m H m2 (upd H2 q (DE X.prog X.w q [(enc a, v2)])) := by
      have w12 := (w0.wide (S := c.afp)).trans (w1.trans w2)
      refine ⟨w12.mm, w12.mh.wr hmq, fun y o hy ey => ?_, w12.ow, fun y hy => ?_⟩
      · rw [upd_ne (ne_of_none ey hq)]; exact w12.hh y o hy ey
      · by_cases z : y = q
        · subst z; rw [upd_same]; exact fun q => nomatch q
        · rw [upd_ne z]; exact w12.dm y hy
    refine ⟨k2, enc a, fun u' ru => kt.is a v1 m1 u' r1 ru, p (.ref q) [q] m2 _ w3 (c.ambF (fun y hy => upd_ne fun z => nq (by rw [← z]; exact hy)) (.refl m2) a2) (fun y hy => by obtain rfl := List.mem_singleton.mp hy; exact ⟨hq, hmq⟩) ⟨q, _, rfl, rfl, upd_same, .cons r2 .nil⟩⟩
/-- k in d, an owned dict -/
theorem rd_inE {r : Bool} {σ : L2.St} {H : Hp} {Q : VK} (kt : KeyT t enc) (i : Nat) {xs : List (A × B)} (hd : ds[i]? = some (.own (oDict X.prog X.w enc u) xs)) (q : TX c ds tBool (e1 (fun a => some (if r then !aHas xs a else aHas xs a)) xk) σ H Q) :
    tOp (rInE X.prog X.w r) (TX c ds t xk) (tVar i) σ H Q := by
  obtain ⟨m, st, env, p⟩ := q
  refine ⟨m, st, env, (Post.bnd.mp p).imp fun a s1 p v m1 H1 w1 a1 r1 => ?_⟩
  obtain ⟨k, hk, p⟩ := Post.lft.mp p
  cases hk
  obtain ⟨v', fp, g1, q, kvs, ev, ef, kk, r2⟩ := own_at (env.go w1 a1) hd
  subst ev
  refine ⟨_, g1, q, kvs, enc a, rfl, kk, fun u' ru => kt.is a v m1 u' r1 ru, ?_⟩
  have e : (valV kvs (enc a)).isSome = aHas xs a := by
    unfold aHas
    rcases r2.get kt.inj a with ⟨z1, z2⟩ | ⟨b, y, z1, z2, _⟩
    · rw [z1, z2]; rfl
    · rw [z1, z2]; rfl
  rw [e]
  exact p _ m1 H1 w1 a1 rfl
def oHas (xs : List (A × B)) (a : A) : Option Bool := some (aHas xs a)
def oHasNot (xs : List (A × B)) (a : A) : Option Bool := some (!aHas xs a)
theorem x_inE (i : Nat) {x : Str} {xs : List (A × B)} (kt : KeyT t enc) (he : PE X e (TX c ds t xk)) (hd : ds[i]? = some (.own (oDict X.prog X.w enc u) xs) := by rfl) (hN : X.N[i]? = some x := by rfl) (hv : Vis X.env.scope x := by first | exact Or.inl rfl | exact Or.inr (Or.inl rfl) | exact Or.inr (Or.inr rfl))
    (h1 : (x == ("__debug__" : Str)) = false := by decide) (h2 : (x == ("__classdict__" : Str)) = false := by decide) (hm : behindInMarks .In (.Name x p2) = false := by first | exact nomark _ | rfl) :
    PE X (.Compare e [.In] [.Name x p2] pos) (TX c ds tBool (e1 (oHas xs) xk)) := PE.imp (pe_cmpR op_inE he (pe_var hN hv h1 h2) hm) fun σ H Q q => rd_inE (r := false) kt i hd q
theorem x_ninE (i : Nat) {x : Str} {xs : List (A × B)} (kt : KeyT t enc) (he : PE X e (TX c ds t xk)) (hd : ds[i]? = some (.own (oDict X.prog X.w enc u) xs) := by rfl) (hN : X.N[i]? = some x := by rfl) (hv : Vis X.env.scope x := by first | exact Or.inl rfl | exact Or.inr (Or.inl rfl) | exact Or.inr (Or.inr rfl))
    (h1 : (x == ("__debug__" : Str)) = false := by decide) (h2 : (x == ("__classdict__" : Str)) = false := by decide) (hm : behindInMarks .NotIn (.Name x p2) = false := by first | exact nomark _ | rfl) :
    PE X (.Compare e [.NotIn] [.Name x p2] pos) (TX c ds tBool (e1 (oHasNot xs) xk)) := PE.imp (pe_cmpR op_ninE he (pe_var hN hv h1 h2) hm) fun σ H Q q => rd_inE (r := true) kt i hd q
theorem t_inE (i : Nat) {x : Str} {xs : List (A × B)} (kt : KeyT t enc) (he : PE X e (TX c ds t xk)) (hd : ds[i]? = some (.own (oDict X.prog X.w enc u) xs) := by rfl) (hN : X.N[i]? = some x := by rfl) (hv : Vis X.env.scope x := by first | exact Or.inl rfl | exact Or.inr (Or.inl rfl) | exact Or.inr (Or.inr rfl))
    (h1 : (x == ("__debug__" : Str)) = false := by decide) (h2 : (x == ("__classdict__" : Str)) = false := by decide) (hm : behindInMarks .In (.Name x p2) = false := by first | exact nomark _ | rfl) :
    PT X (.Compare e [.In] [.Name x p2] pos) (TTX c ds (e1 (oHas xs) xk)) := PT.imp (pt_cmpR op_inE he (pe_var hN hv h1 h2) hm) fun σ H Q ⟨m, st, env, p⟩ => by
  have q : TX c ds tBool (e1 (oHas xs) xk) σ H (fun x H' => ∃ k, x = .bl k ∧ Q k H') := ⟨m, st, env, p.imp fun a s1 p v m1 H1 w1 a1 r1 => ⟨a, r1, p m1 H1 w1 a1⟩⟩
  exact rd_inE (r := false) kt i hd q
theorem t_ninE (i : Nat) {x : Str} {xs : List (A × B)} (kt : KeyT t enc) (he : PE X e (TX c ds t xk)) (hd : ds[i]? = some (.own (oDict X.prog X.w enc u) xs) := by rfl) (hN : X.N[i]? = some x := by rfl) (hv : Vis X.env.scope x := by first | exact Or.inl rfl | exact Or.inr (Or.inl rfl) | exact Or.inr (Or.inr rfl))
    (h1 : (x == ("__debug__" : Str)) = false := by decide) (h2 : (x == ("__classdict__" : Str)) = false := by decide) (hm : behindInMarks .NotIn (.Name x p2) = false := by first | exact nomark _ | rfl) :
    PT X (.Compare e [.NotIn] [.Name x p2] pos) (TTX c ds (e1 (oHasNot xs) xk)) := PT.imp (pt_cmpR op_ninE he (pe_var hN hv h1 h2) hm) fun σ H Q ⟨m, st, env, p⟩ => by
  have q : TX c ds tBool (e1 (oHasNot xs) xk) σ H (fun x H' => ∃ k, x = .bl k ∧ Q k H') := ⟨m, st, env, p.imp fun a s1 p v m1 H1 w1 a1 r1 => ⟨a, r1, p m1 H1 w1 a1⟩⟩
  exact rd_inE (r := true) kt i hd q
/-- d[k] -/
theorem x_getE (i : Nat) {x : Str} {xs : List (A × B)} (kt : KeyT t enc) (he : PE X e (TX c ds t xk)) (hd : ds[i]? = some (.own (oDict X.prog X.w enc u) xs) := by rfl) (hN : X.N[i]? = some x := by rfl) (hv : Vis X.env.scope x := by first | exact Or.inl rfl | exact Or.inr (Or.inl rfl) | exact Or.inr (Or.inr rfl))
    (h1 : (x == ("__debug__" : Str)) = false := by decide) (h2 : (x == ("__classdict__" : Str)) = false := by decide) (hs : NoSl e := by exact fun _ _ => rfl) : PE X (.Subscript (.Name x p2) e pos) (TX c ds u (bnd xk fun k => lft (aGet xs k))) :=
  PE.imp (pe_dgetE (pe_var hN hv h1 h2) he hs) fun σ H Q ⟨m, st, env, p⟩ => by
    obtain ⟨v, fp, g1, _⟩ := own_at env hd
    refine ⟨v, g1, m, st, env, (Post.bnd.mp p).imp fun k s1 p v1 m1 H1 w1 a1 r1 => ?_⟩
    obtain ⟨b, hb, p⟩ := Post.lft.mp p
    obtain ⟨v', fp', g1', q, kvs, ev, ef, kk, r2⟩ := own_at (env.go w1 a1) hd
    rw [g1] at g1'; cases g1'
    rcases r2.get kt.inj k with ⟨z1, _⟩ | ⟨b', y, z1, z2, z3⟩
    · rw [z1] at hb; cases hb
    · rw [z1] at hb; cases hb
      exact ⟨q, kvs, enc k, y, ev, kk, fun u' ru => kt.is k v1 m1 u' r1 ru, z2, p y m1 H1 w1 a1 z3⟩
/-- d[k] = v -/
def oPut (xs : List (A × B)) (k : A) (v : B) : Option (List (A × B)) := if xs.length < 100000 then some (aPut xs k v) else none
theorem b_putE (i : Nat) {x : Str} {xs : List (A × B)} {k : List (A × B) → MM T F} (kt : KeyT t enc) (hv1 : PE X ev (TX c ds u xv)) (he : PE X e (TX c ds t xk)) (h2 : ∀ ys, PSs X rest (BX c (ds.set i (.own (oDict X.prog X.w enc u) ys)) (k ys) P)) (hd : ds[i]? = some (.own (oDict X.prog X.w enc u) xs) := by rfl) (hN : X.N[i]? = some x := by rfl) (hv : Vis X.env.scope x := by first | exact Or.inl rfl | exact Or.inr (Or.inl rfl) | exact Or.inr (Or.inr rfl))
    (h1 : (x == ("__debug__" : Str)) = false := by decide) (h3 : (x == ("__classdict__" : Str)) = false := by decide) (hs : swapsWith ev (some (.Subscript (.Name x p2) e p3)) pos.line X.env = pure false := by rfl) :
    PSs X (.Assign [.Subscript (.Name x p2) e p3] ev pos :: rest) (BX c ds (bnd xv fun a => bnd xk fun j => bnd (lft (oPut xs j a)) k) P) :=
  PSs.imp (pss_cons (ps_dputE (pe_var hN hv h1 h3) he hv1 hs) (PSs.any h2)) fun D σ H ⟨m, st, env, p⟩ => by
    refine ⟨m, st, env, (Post.bnd.mp p).imp fun a s1 p v1 m1 H1 w1 a1 r1 => ?_⟩
    have env1 := env.go w1 a1
    obtain ⟨v, fp, g1, _⟩ := own_at env hd
    refine ⟨v, g1, m1, s1, env1, (Post.bnd.mp p).imp fun j s2 p v2 m2 H2 w2 a2 r2 => ?_⟩
    have env2 := env1.go w2 a2
    obtain ⟨ys, hy, p⟩ := Post.lft.mp (Post.bnd.mp p)
    obtain ⟨v', fp', g1', q, kvs, ev, ef, kk, r'⟩ := own_at env2 hd
    rw [g1] at g1'; cases g1'; subst ev
    unfold oPut at hy
    by_cases z : xs.length < 100000
    · rw [if_pos z] at hy; cases hy
      refine ⟨q, kvs, enc j, rfl, kk, fun u' ru => kt.is j v2 m2 u' r2 ru, by rw [← r'.length]; exact Nat.lt_of_lt_of_le z (by decide), _, m2, s2, env2.put hd fun v fp2 g2 ⟨q2, kvs2, ev2, ef2, k2, r3⟩ => ?_, p⟩
      rw [g1] at g2; cases g2; cases ev2
      rw [kk] at k2
      have hk : kvs2 = kvs ∨ True := .inr trivial
      exact ⟨by rw [ef2]; simp, q, _, rfl, ef2, upd_same, r'.put kt.inj j (u.mono w2.mm r1)⟩
    · rw [if_neg z] at hy; cases hy
end
theorem sp_lenTup {A : Type} {K : PySem.W.Frag} {l : LTy A} {n : Nat} (h : ∀ a vs m, l.rep a vs m → vs.length = n) : OpL (rLen K) (l1 (tTup K l)) tInt (fun _ => some (n : Int)) := fun a g vs m H Q ⟨v, ev, p, us, e1, k, r⟩ hm e q => by
  cases e; subst ev e1
  exact ⟨p, us, rfl, .inr (hm.sqT k), q _ m H (.refl hm) (by show V.int _ = V.int _; rw [h a us m r])⟩
theorem ldN {A : Type} {l : LTy A} {n : Nat} {D : A → List Desc} (h : LDesc l n D) : ∀ a vs m, l.rep a vs m → vs.length = n := fun a vs m r => h.len a vs m r
end WL

/-! WLM: to reckon with mirrors. -/
namespace WL
open PySem PySem.Spec PyProof.Rows L2

section
variable {T A B C G S R : Type}
/-! ### rewriting -/
theorem bnd_ret (a : A) (f : A → MM T B) : bnd (ret a) f = f a := id rfl
theorem bnd_assoc (x : MM T A) (f : A → MM T B) (g : B → MM T C) : bnd (bnd x f) g = bnd x fun a => bnd (f a) g := by
  funext s
  unfold bnd
  cases x s <;> rfl
theorem bnd_ret_r (x : MM T A) : bnd x ret = x := by
  funext s
  unfold bnd
  cases x s <;> rfl
theorem lft_some (a : A) : (lft (some a) : MM T A) = ret a := id rfl
theorem up_ret (a : A) : (up (ret a) : MM T A) = ret a := id rfl
theorem noE_ret (a : A) : noE (ret a : MM T A) = ret a := id rfl
theorem e1_ret (f : A → Option B) (a : A) : (e1 f (ret a) : MM T B) = lft (f a) := id rfl
theorem e2_ret (f : A → B → Option C) (a : A) (b : B) : (e2 f (ret a) (ret b) : MM T C) = lft (f a b) := id rfl
theorem e3p_ret (f : A → Option Int → Option Int → Option C) (a : A) (b d : Option Int) : (e3p f (ret a) (ret b) (ret d) : MM T C) = lft (f a b d) := id rfl
theorem eArg_ret (a : A) (b : B) : (eArg (ret a) (ret b) : MM T (A × B)) = ret (a, b) := id rfl
theorem eCall_ret (f : A → MM Unit B) (a : A) : (eCall f (ret a) : MM T B) = up (f a) := id rfl
theorem eCallS_ret (f : A → MM T B) (a : A) : eCallS f (ret a) = f a := id rfl
theorem eProj_ret (f : A → B) (a : A) : (eProj f (ret a) : MM T B) = ret (f a) := id rfl
theorem eNot_ret (a : Bool) : (eNot (ret a) : MM T Bool) = ret (!a) := id rfl
theorem eAnd_ret (a : Bool) (y : MM T Bool) : eAnd (ret a) y = if a = true then y else ret false := id rfl
theorem eOr_ret (a : Bool) (y : MM T Bool) : eOr (ret a) y = if a = true then ret true else y := id rfl
theorem eIf_ret (a : Bool) (y z : MM T A) : eIf (ret a) y z = if a = true then y else z := id rfl
theorem eAnd_rr (a b : Bool) : (eAnd (ret a) (ret b) : MM T Bool) = ret (a && b) := by cases a <;> rfl
theorem eOr_rr (a b : Bool) : (eOr (ret a) (ret b) : MM T Bool) = ret (a || b) := by cases a <;> rfl
theorem eIf_rr (a : Bool) (x y : A) : (eIf (ret a) (ret x) (ret y) : MM T A) = ret (if a = true then x else y) := by cases a <;> rfl
theorem eChain_ret (f : A → B → Option Bool) (g : B → C → Option Bool) (a : A) (b : B) (d : C) {k l : Bool} (h : f a b = some k) (h2 : g b d = some l) : (eChain f g (ret a) (ret b) (ret d) : MM T Bool) = ret (k && l) := by
  show bnd (lft (f a b)) (fun k => if k = true then lft (g b d) else ret false) = _
  rw [h, h2]
  cases k <;> rfl
theorem oAdd_eq (a b : Int) : oAdd a b = some (a + b) := id rfl
theorem oSub_eq (a b : Int) : oSub a b = some (a - b) := id rfl
theorem oNeg_eq (a : Int) : oNeg a = some (-a) := id rfl
theorem oLt_eq (a b : Int) : oLt a b = some (decide (a < b)) := id rfl
theorem oLe_eq (a b : Int) : oLe a b = some (decide (a ≤ b)) := id rfl
theorem oGt_eq (a b : Int) : oGt a b = some (decide (b < a)) := id rfl
theorem oGe_eq (a b : Int) : oGe a b = some (decide (b ≤ a)) := id rfl
theorem oEq_eq [DecidableEq A] (a b : A) : oEq a b = some (decide (a = b)) := id rfl
theorem oNe_eq [DecidableEq A] (a b : A) : oNe a b = some (!decide (a = b)) := id rfl
theorem oLen_eq (xs : List A) : oLen xs = some (xs.length : Int) := id rfl
theorem oCopy_eq (xs : List A) : oCopy xs = some xs := id rfl
theorem oIntI_eq (i : Int) : oIntI i = some i := id rfl
theorem oCut_eq (xs : List A) (l h : Option Int) : oCut xs l h = some (cutL xs l h) := id rfl
theorem oConst_eq (b : Bool) (a : A × Unit) : oConst b a = some b := id rfl
theorem oSum_eq (xs : List Int) : oSum xs = some xs.sum := id rfl
theorem oAny_eq (xs : List Bool) : oAny xs = some (xs.any id) := id rfl
theorem oAll_eq (xs : List Bool) : oAll xs = some (xs.all id) := id rfl
theorem oIsN_eq (o : Option A) : oIsN o () = some o.isNone := id rfl
theorem oNotN_eq (o : Option A) : oNotN o () = some (!o.isNone) := id rfl
theorem oMul_r (a b : Int) (h : -(2 ^ 64) < b ∧ b < 2 ^ 64) : oMul a b = some (a * b) := if_pos (.inr h)
theorem oMul_l (a b : Int) (h : -(2 ^ 64) < a ∧ a < 2 ^ 64) : oMul a b = some (a * b) := if_pos (.inl h)
theorem oDiv_eq (a b : Int) (h : 0 < b ∧ b < 2 ^ 200) : oDiv a b = some (a / b) := if_pos h
theorem oMod_eq (a b : Int) (h : 0 < b) : oMod a b = some (a % b) := if_pos h
theorem oShl_eq (a b : Int) (h : 0 ≤ b ∧ b ≤ 1000000 ∧ a.natAbs < 2 ^ 64) : oShl a b = some (a * 2 ^ b.toNat) := if_pos h
theorem oShr_eq (a b : Int) (h : 0 ≤ b) : oShr a b = some (a / 2 ^ b.toNat) := if_pos h
theorem oRange_eq (n : Int) (h : -(2 ^ 62) ≤ n ∧ n < 2 ^ 62) : oRange n = some (rangeL 0 n) := if_pos h
theorem oApp_eq (xs : List A) (a : A) (h : xs.length < 100000) : oApp xs a = some (xs ++ [a]) := if_pos h
theorem oCat_eq (xs ys : List A) (h : xs.length + ys.length ≤ 100000) : oCat xs ys = some (xs ++ ys) := if_pos h
theorem oRep_eq (xs : List A) (n : Int) (h : -(2 ^ 62) ≤ n ∧ n < 2 ^ 62 ∧ xs.length * n.toNat ≤ 100000) : oRep xs n = some (List.replicate n.toNat xs).flatten := if_pos h
theorem oAt_nat (xs : List A) (i : Nat) (h : i < xs.length) : oAt xs (i : Int) = some xs[i] := by
  unfold oAt
  exact atI_nat (List.getElem?_eq_getElem h)
theorem oAt_int (xs : List A) (i : Int) (h0 : 0 ≤ i) (h : i.toNat < xs.length) : oAt xs i = some xs[i.toNat] := by
  have := oAt_nat xs i.toNat h
  rwa [Int.toNat_of_nonneg h0] at this
theorem oAt_neg (xs : List A) (h : xs ≠ []) : oAt xs (-1) = some (xs.getLast h) := by
  unfold oAt atI
  have hl : 0 < xs.length := List.length_pos_iff.mpr h
  have e : ixN xs.length (-1) = some (xs.length - 1) := by
    unfold ixN
    rw [if_neg (by omega), if_pos (by omega)]
    congr 1
    omega
  rw [e]
  show xs[xs.length - 1]? = _
  rw [List.getLast_eq_getElem, List.getElem?_eq_getElem (by omega)]
theorem oSet_nat (xs : List A) (i : Nat) (a : A) (h : i < xs.length) : oSet xs (i : Int) a = some (xs.set i a) := by
  unfold oSet ixN
  rw [if_pos (by omega), if_pos (by omega)]
  rfl
/-! comprehensions and loops whose parts only compute -/
theorem lcM_ret {f : A → MM T B} {g : A → B} : ∀ (xs : List A), (∀ x ∈ xs, f x = ret (g x)) → lcM f xs = ret (xs.map g)
  | [], _ => rfl
  | x :: r, h => by
    show bnd (f x) (fun y => bnd (lcM f r) fun ys => ret (y :: ys)) = _
    rw [h x List.mem_cons_self, lcM_ret r fun y hy => h y (List.mem_cons_of_mem _ hy)]
    rfl
theorem lcL_ret {f : A → MM T B} (g : A → B) (xs : List A) (hl : xs.length ≤ 100000) (h : ∀ x ∈ xs, f x = ret (g x)) : lcL f xs = ret (xs.map g) := by
  unfold lcL
  rw [if_pos hl]
  exact lcM_ret xs fun x hx => by rw [h x hx]; rfl
theorem lcI_ret {ts : A → MM T Bool} {f : A → MM T B} {p : A → Bool} {g : A → B} : ∀ (xs : List A), (∀ x ∈ xs, ts x = ret (p x)) → (∀ x ∈ xs, p x = true → f x = ret (g x)) → lcI ts f xs = ret ((xs.filter p).map g)
  | [], _, _ => rfl
  | x :: r, h, k => by
    show bnd (ts x) (fun b => if b = true then bnd (f x) fun y => bnd (lcI ts f r) fun ys => ret (y :: ys) else lcI ts f r) = _
    rw [h x List.mem_cons_self, bnd_ret, lcI_ret r (fun y hy => h y (List.mem_cons_of_mem _ hy)) fun y hy => k y (List.mem_cons_of_mem _ hy)]
    cases e : p x with
    | true => rw [if_pos rfl, k x List.mem_cons_self e, List.filter_cons, if_pos e]; rfl
    | false => rw [if_neg Bool.false_ne_true, List.filter_cons, if_neg (by rw [e]; exact Bool.false_ne_true)]
theorem lcIL_ret {ts : A → MM T Bool} {f : A → MM T B} (p : A → Bool) (g : A → B) (xs : List A) (hl : xs.length ≤ 100000) (h : ∀ x ∈ xs, ts x = ret (p x)) (k : ∀ x ∈ xs, p x = true → f x = ret (g x)) : lcIL ts f xs = ret ((xs.filter p).map g) := by
  unfold lcIL
  rw [if_pos hl]
  exact lcI_ret xs (fun x hx => by rw [h x hx]; rfl) fun x hx e => by rw [k x hx e]; rfl
/-- a loop, by what holds of what is taken so far -/
theorem forM_inv {xs : List A} {f : S → A → MM T S} (I : List A → S → Prop) (s0 : S) (h0 : I [] s0) (h : ∀ pre x post s, xs = pre ++ x :: post → I pre s → ∃ s', f s x = ret s' ∧ I (pre ++ [x]) s') : ∃ s', forM xs s0 f = ret s' ∧ I xs s' := by
  suffices H : ∀ (post pre : List A) (s : S), xs = pre ++ post → I pre s → ∃ s', forM post s f = ret s' ∧ I xs s' from H xs [] s0 rfl h0
  intro post
  induction post with
  | nil => intro pre s e i; rw [List.append_nil] at e; exact ⟨s, rfl, e ▸ i⟩
  | cons x r ih =>
    intro pre s e i
    obtain ⟨s1, h1, i1⟩ := h pre x r s e i
    obtain ⟨s2, h2, i2⟩ := ih (pre ++ [x]) s1 (by rw [e, List.append_assoc]; rfl) i1
    exact ⟨s2, by show bnd (f s x) _ = _; rw [h1, bnd_ret, h2], i2⟩
theorem forM_fold {xs : List A} {f : S → A → MM T S} (g : S → A → S) (s0 : S) (h : ∀ s, ∀ x ∈ xs, f s x = ret (g s x)) : forM xs s0 f = ret (xs.foldl g s0) := by
  induction xs generalizing s0 with
  | nil => rfl
  | cons x r ih =>
    show bnd (f s0 x) _ = _
    rw [h s0 x List.mem_cons_self, bnd_ret, ih _ fun s y hy => h s y (List.mem_cons_of_mem _ hy)]
    rfl
/-- a loop that no turn leaves -/
theorem forR_inv {xs : List A} {f : S → A → MM T (Sum R S)} (I : List A → S → Prop) (s0 : S) (h0 : I [] s0) (h : ∀ pre x post s, xs = pre ++ x :: post → I pre s → ∃ s', f s x = ret (.inr s') ∧ I (pre ++ [x]) s') : ∃ s', forR xs s0 f = ret (.inr s') ∧ I xs s' := by
  suffices H : ∀ (post pre : List A) (s : S), xs = pre ++ post → I pre s → ∃ s', forR post s f = ret (.inr s') ∧ I xs s' from H xs [] s0 rfl h0
  intro post
  induction post with
  | nil => intro pre s e i; rw [List.append_nil] at e; exact ⟨s, rfl, e ▸ i⟩
  | cons x r ih =>
    intro pre s e i
    obtain ⟨s1, h1, i1⟩ := h pre x r s e i
    obtain ⟨s2, h2, i2⟩ := ih (pre ++ [x]) s1 (by rw [e, List.append_assoc]; rfl) i1
    exact ⟨s2, by show bnd (f s x) _ = _; rw [h1, bnd_ret]; exact h2, i2⟩
theorem rangeL_nat (n : Nat) : rangeL 0 (n : Int) = (List.range n).map fun (k : Nat) => (k : Int) := by
  unfold rangeL
  simp
theorem rangeL_split {lo hi : Int} {pre post : List Int} {x : Int} (h : rangeL lo hi = pre ++ x :: post) : x = lo + (pre.length : Int) ∧ pre.length < (hi - lo).toNat := by
  have hl : pre.length < (rangeL lo hi).length := by rw [h]; simp
  rw [rangeL_length] at hl
  have e := rangeL_get lo hi hl
  rw [h, List.getElem?_append_right (Nat.le_refl _)] at e
  simp at e
  exact ⟨e, hl⟩
theorem rangeL_mem {lo hi x : Int} (h : x ∈ rangeL lo hi) : lo ≤ x ∧ x < hi := by
  unfold rangeL at h
  obtain ⟨k, hk, rfl⟩ := List.mem_map.mp h
  have := List.mem_range.mp hk
  omega
/-! ### with a state -/
/-- from each state of I x ends well, in a state of I, with a value of Q -/
def Sat (I : T → Prop) (x : MM T A) (Q : A → Prop) : Prop := ∀ s, I s → ∃ a s1, x s = .ok a s1 ∧ I s1 ∧ Q a
variable {I : T → Prop} {x : MM T A} {y : MM T B} {Q : A → Prop} {Q2 : B → Prop} {Q3 : C → Prop}
theorem Sat.ret {a : A} (h : Q a) : Sat I (ret a) Q := fun s hs => ⟨a, s, rfl, hs, h⟩
theorem Sat.imp {Q' : A → Prop} (h : Sat I x Q) (k : ∀ a, Q a → Q' a) : Sat I x Q' := fun s hs => let ⟨a, s1, e, i, q⟩ := h s hs; ⟨a, s1, e, i, k a q⟩
theorem Sat.bnd {f : A → MM T B} (h : Sat I x Q) (k : ∀ a, Q a → Sat I (f a) Q2) : Sat I (bnd x f) Q2 := fun s hs => by
  obtain ⟨a, s1, e, i, q⟩ := h s hs
  obtain ⟨b, s2, e2, i2, q2⟩ := k a q s1 i
  exact ⟨b, s2, by show (match x s with | .ok a s1 => f a s1 | .err e s1 => .err e s1 | .stuck => .stuck) = _; rw [e]; exact e2, i2, q2⟩
theorem Sat.lft {o : Option A} {a : A} (h : o = some a) (q : Q a) : Sat I (lft o) Q := by rw [h]; exact Sat.ret q
theorem Sat.up {x : MM Unit A} (h : Sat (fun _ => True) x Q) : Sat I (up x) Q := fun s hs => by
  obtain ⟨a, s1, e, _, q⟩ := h () trivial
  exact ⟨a, s, by show (match x () with | .ok a _ => RS.ok a s | .err e _ => .err e s | .stuck => .stuck) = _; rw [e], hs, q⟩
theorem Sat.e1 {f : A → Option B} (h : Sat I x Q) (k : ∀ a, Q a → ∃ b, f a = some b ∧ Q2 b) : Sat I (e1 f x) Q2 := h.bnd fun a q => by
  obtain ⟨b, e, q2⟩ := k a q
  exact Sat.lft e q2
theorem Sat.e2 {f : A → B → Option C} (h : Sat I x Q) (h2 : Sat I y Q2) (k : ∀ a b, Q a → Q2 b → ∃ d, f a b = some d ∧ Q3 d) : Sat I (e2 f x y) Q3 := h.bnd fun a q => h2.bnd fun b q2 => by
  obtain ⟨d, e, q3⟩ := k a b q q2
  exact Sat.lft e q3
theorem Sat.arg (h : Sat I x Q) (h2 : Sat I y Q2) : Sat I (eArg x y) (fun p => Q p.1 ∧ Q2 p.2) := h.bnd fun a q => h2.bnd fun b q2 => Sat.ret ⟨q, q2⟩
theorem Sat.call {f : A → MM Unit B} (h : Sat I x Q) (k : ∀ a, Q a → Sat (fun _ => True) (f a) Q2) : Sat I (eCall f x) Q2 := h.bnd fun a q => (k a q).up
theorem Sat.callS {f : A → MM T B} (h : Sat I x Q) (k : ∀ a, Q a → Sat I (f a) Q2) : Sat I (eCallS f x) Q2 := h.bnd k
theorem Sat.cond {xc : MM T Bool} {y z : MM T A} {Qc : Bool → Prop} (h : Sat I xc Qc) (h1 : Qc true → Sat I y Q) (h2 : Qc false → Sat I z Q) : Sat I (eIf xc y z) Q := h.bnd fun a q => by
  cases a with
  | true => rw [if_pos rfl]; exact h1 q
  | false => rw [if_neg Bool.false_ne_true]; exact h2 q
/-- a test that comes out False -/
theorem Sat.orF {x y : MM T Bool} (h : Sat I x (· = false)) (h2 : Sat I y (· = false)) : Sat I (eOr x y) (· = false) := h.bnd fun a q => by
  rw [q, if_neg Bool.false_ne_true]; exact h2
theorem Sat.noE (h : Sat I x Q) : Sat I (noE x) Q := fun s hs => by
  obtain ⟨a, s1, e, i, q⟩ := h s hs
  exact ⟨a, s1, by show (match x s with | .ok a s1 => RS.ok a s1 | .err _ _ => .stuck | .stuck => .stuck) = _; rw [e], i, q⟩
theorem Sat.lcM {f : A → MM T B} {P : A → B → Prop} : ∀ (xs : List A), (∀ x ∈ xs, Sat I (f x) (P x)) → Sat I (lcM f xs) (fun ys => ys.length = xs.length ∧ ∀ i (h : i < xs.length) (h' : i < ys.length), P xs[i] ys[i])
  | [], _ => Sat.ret ⟨rfl, fun i h => absurd h (by simp)⟩
  | x :: r, h => (h x List.mem_cons_self).bnd fun y q => (Sat.lcM r fun z hz => h z (List.mem_cons_of_mem _ hz)).bnd fun ys ⟨q1, q2⟩ => Sat.ret ⟨by simp [q1], fun i h1 h2 => by
    cases i with
    | zero => exact q
    | succ i => exact q2 i (by simpa using h1) (by simpa using h2)⟩
theorem Sat.lcL {f : A → MM T B} {P : A → B → Prop} (xs : List A) (hl : xs.length ≤ 100000) (h : ∀ x ∈ xs, Sat I (f x) (P x)) : Sat I (lcL f xs) (fun ys => ys.length = xs.length ∧ ∀ i (h : i < xs.length) (h' : i < ys.length), P xs[i] ys[i]) := by
  unfold WL.lcL
  rw [if_pos hl]
  exact Sat.lcM xs fun x hx => (h x hx).noE
theorem Sat.forM {xs : List A} {f : S → A → MM T S} (J : List A → S → Prop) (s0 : S) (h0 : J [] s0) (h : ∀ pre x post s, xs = pre ++ x :: post → J pre s → Sat I (f s x) (J (pre ++ [x]))) : Sat I (forM xs s0 f) (J xs) := by
  suffices H : ∀ (post pre : List A) (s : S), xs = pre ++ post → J pre s → Sat I (WL.forM post s f) (J xs) from H xs [] s0 rfl h0
  intro post
  induction post with
  | nil => intro pre s e i; rw [List.append_nil] at e; exact Sat.ret (e ▸ i)
  | cons x r ih => intro pre s e i; exact (h pre x r s e i).bnd fun s1 i1 => ih (pre ++ [x]) s1 (by rw [e, List.append_assoc]; rfl) i1
theorem Sat.forR {xs : List A} {f : S → A → MM T (Sum R S)} (J : List A → S → Prop) (s0 : S) (h0 : J [] s0) (h : ∀ pre x post s, xs = pre ++ x :: post → J pre s → Sat I (f s x) (fun o => ∃ s', o = .inr s' ∧ J (pre ++ [x]) s')) : Sat I (forR xs s0 f) (fun o => ∃ s', o = .inr s' ∧ J xs s') := by
  suffices H : ∀ (post pre : List A) (s : S), xs = pre ++ post → J pre s → Sat I (WL.forR post s f) (fun o => ∃ s', o = .inr s' ∧ J xs s') from H xs [] s0 rfl h0
  intro post
  induction post with
  | nil => intro pre s e i; rw [List.append_nil] at e; exact Sat.ret ⟨s, rfl, e ▸ i⟩
  | cons x r ih =>
    intro pre s e i
    refine (h pre x r s e i).bnd fun o ⟨s1, eo, i1⟩ => ?_
    subst eo
    exact ih (pre ++ [x]) s1 (by rw [e, List.append_assoc]; rfl) i1
theorem Sat.seqR {x : MM T (Sum R S)} {k : S → MM T B} {emb : R → B} {J : S → Prop} (h : Sat I x (fun o => ∃ s', o = .inr s' ∧ J s')) (h2 : ∀ s, J s → Sat I (k s) Q2) : Sat I (WL.bnd x (WL.seqR emb k)) Q2 := h.bnd fun o ⟨s1, e, i⟩ => by
  subst e
  exact h2 s1 i
theorem Sat.getP {f : T → A} (h : ∀ s, I s → Q (f s)) : Sat I (getP f) Q := fun s hs => ⟨f s, s, rfl, hs, h s hs⟩
theorem Sat.modP {f : T → T} (h : ∀ s, I s → I (f s)) : Sat I (modP f) (fun _ => True) := fun s hs => ⟨(), f s, rfl, h s hs, trivial⟩
theorem Sat.of_ret {a : A} (e : x = WL.ret a) (h : Q a) : Sat I x Q := by rw [e]; exact Sat.ret h
/-- a law that draws from a pool -/
theorem runP_true {st0 : T} {y : MM T Bool} (h0 : I st0) (h : Sat I y (· = true)) : runP st0 y () = .ok true () := by
  obtain ⟨a, s1, e, _, q⟩ := h st0 h0
  unfold runP
  rw [e, q]
end
/-! ### digits -/
/-- the number of digits, the least significant first -/
def val : List Int → Int
  | [] => 0
  | d :: r => d + 2 * val r
theorem val_append : ∀ (a b : List Int), val (a ++ b) = val a + 2 ^ a.length * val b
  | [], b => by simp [val]
  | d :: a, b => by
    show d + 2 * val (a ++ b) = d + 2 * val a + 2 ^ (a.length + 1) * val b
    rw [val_append a b, Int.pow_succ, Int.mul_add, ← Int.mul_assoc, Int.mul_comm (2 ^ a.length) 2]
    omega
def Bits (l : List Int) : Prop := ∀ d ∈ l, d = 0 ∨ d = 1
theorem val_bound {l : List Int} (h : Bits l) : 0 ≤ val l ∧ val l < 2 ^ l.length := by
  induction l with
  | nil => exact ⟨Int.le_refl _, by decide⟩
  | cons d r ih =>
    have h1 := h d List.mem_cons_self
    obtain ⟨i1, i2⟩ := ih fun x hx => h x (List.mem_cons_of_mem _ hx)
    show 0 ≤ d + 2 * val r ∧ d + 2 * val r < 2 ^ (r.length + 1)
    rw [Int.pow_succ]
    omega
end WL

/-! WLN: digits, words and lists, without a program; tactics. -/
namespace Law
open WL
open PySem (Str)
section
variable {T : Type}

theorem pow2_pos (n : Nat) : (0 : Int) < 2 ^ n := Int.pow_pos (by decide)
theorem pow2_le {a b : Nat} (h : a ≤ b) : (2 : Int) ^ a ≤ 2 ^ b := by
  obtain ⟨k, rfl⟩ := Nat.le.dest h
  rw [Int.pow_add]
  have h1 := pow2_pos a
  have h2 := pow2_pos k
  have : (2 : Int) ^ a * 1 ≤ 2 ^ a * 2 ^ k := Int.mul_le_mul_of_nonneg_left (by omega) (by omega)
  omega
/-- digits that fit -/
def Small (ds : List Int) : Prop := ∀ d ∈ ds, d.natAbs < 2 ^ 64
/-- the w least digits of l -/
def dg : Nat → Int → List Int
  | 0, _ => []
  | w + 1, l => l % 2 :: dg w (l / 2)
theorem dg_length : ∀ (w : Nat) (l : Int), (dg w l).length = w
  | 0, _ => rfl
  | w + 1, l => by show (dg w (l / 2)).length + 1 = w + 1; rw [dg_length]
theorem dg_bits : ∀ (w : Nat) (l : Int), Bits (dg w l)
  | 0, _ => fun d h => absurd h (by simp [dg])
  | w + 1, l => fun d h => by
    rcases List.mem_cons.mp h with rfl | h
    · omega
    · exact dg_bits w (l / 2) d h
theorem val_dg : ∀ (w : Nat) (l : Int), val (dg w l) = l % 2 ^ w
  | 0, l => by show (0 : Int) = l % 2 ^ 0; rw [Int.pow_zero, Int.emod_one]
  | w + 1, l => by
    show l % 2 + 2 * val (dg w (l / 2)) = _
    rw [val_dg w (l / 2), Int.pow_succ, Int.mul_comm (2 ^ w) 2]
    have h1 := Int.mul_ediv_add_emod l (2 * 2 ^ w)
    have h2 := Int.mul_ediv_add_emod (l / 2) (2 ^ w)
    have h3 := Int.mul_ediv_add_emod l 2
    have h4 : l / (2 * 2 ^ w) = l / 2 / 2 ^ w := (Int.ediv_ediv_of_nonneg (by decide)).symm
    rw [h4, Int.mul_assoc] at h1
    generalize l / 2 / 2 ^ w = q at *
    generalize (2 : Int) ^ w = p at *
    generalize l % (2 * p) = r at *
    have h5 : 2 * (p * q) + r = l := h1
    omega
theorem dg_get : ∀ (w : Nat) (l : Int) (i : Nat), i < w → (dg w l)[i]? = some (l / 2 ^ i % 2)
  | 0, _, _, h => absurd h (by omega)
  | w + 1, l, 0, _ => by show some (l % 2) = _; rw [Int.pow_zero, Int.ediv_one]
  | w + 1, l, i + 1, h => by
    show (dg w (l / 2))[i]? = _
    rw [dg_get w (l / 2) i (by omega), Int.pow_succ, Int.mul_comm, Int.ediv_ediv_of_nonneg (by decide)]
theorem Bits.small {l : List Int} (h : Bits l) : Small l := fun d hd => by rcases h d hd with e | e <;> subst e <;> decide
theorem Bits.append {a b : List Int} (h : Bits a) (k : Bits b) : Bits (a ++ b) := fun d hd => by
  rcases List.mem_append.mp hd with z | z
  · exact h d z
  · exact k d z
theorem dg_val {l : List Int} (h : Bits l) : dg l.length (val l) = l := by
  induction l with
  | nil => rfl
  | cons d r ih =>
    have h1 := h d List.mem_cons_self
    have ih := ih fun x hx => h x (List.mem_cons_of_mem _ hx)
    show (d + 2 * val r) % 2 :: dg r.length ((d + 2 * val r) / 2) = _
    have q1 : (d + 2 * val r) % 2 = d := by omega
    have q2 : (d + 2 * val r) / 2 = val r := by omega
    rw [q1, q2, ih]
/-! words -/
/-- the letter of the digits of place k -/
def let_ (ns : List Int) : Int := val (ns.map (· % 2))
def half (ns : List Int) : List Int := ns.map (· / 2)
/-- the word of numbers below 2 ^ B -/
def wd : Nat → List Int → List Int
  | 0, _ => []
  | B + 1, ns => if ns.any (fun n => decide (0 < n)) = true then let_ ns :: wd B (half ns) else []
def Below (B : Nat) (ns : List Int) : Prop := ∀ n ∈ ns, 0 ≤ n ∧ n < 2 ^ B
theorem Below.half {B : Nat} {ns : List Int} (h : Below (B + 1) ns) : Below B (half ns) := fun n hn => by
  obtain ⟨m, hm, rfl⟩ := List.mem_map.mp hn
  obtain ⟨h1, h2⟩ := h m hm
  rw [Int.pow_succ] at h2
  omega
theorem Below.zero {ns : List Int} (h : Below 0 ns) : ns.any (fun n => decide (0 < n)) = false := by
  rw [List.any_eq_false]
  intro n hn
  obtain ⟨h1, h2⟩ := h n hn
  rw [Int.pow_zero] at h2
  have : ¬ 0 < n := by omega
  simp [this]
theorem mod2_bits (ns : List Int) : Bits (ns.map (· % 2)) := fun d hd => by
  obtain ⟨n, _, rfl⟩ := List.mem_map.mp hd
  show n % 2 = 0 ∨ n % 2 = 1
  omega
theorem wd_length : ∀ (B : Nat) (ns : List Int), (wd B ns).length ≤ B
  | 0, _ => Nat.le_refl _
  | B + 1, ns => by
    unfold wd
    split
    · have := wd_length B (half ns)
      show (wd B (half ns)).length + 1 ≤ B + 1
      omega
    · exact Nat.zero_le _
theorem wd_pos {B : Nat} {ns : List Int} (h : ns.any (fun n => decide (0 < n)) = true) : wd (B + 1) ns = let_ ns :: wd B (half ns) := by
  show (if ns.any (fun n => decide (0 < n)) = true then let_ ns :: wd B (half ns) else []) = _
  rw [h, if_pos rfl]
theorem wd_nil {B : Nat} {ns : List Int} (h : ns.any (fun n => decide (0 < n)) = false) : wd B ns = [] := by
  cases B with
  | zero => rfl
  | succ B => unfold wd; rw [h, if_neg Bool.false_ne_true]
theorem maxL_le (ns : List Int) (x : Int) (hx : x ∈ ns) : x ≤ (maxL ns).getD 0 := by
  cases ns with
  | nil => simp at hx
  | cons y r =>
    obtain ⟨_, h2, h3⟩ := foldMax r y
    show x ≤ r.foldl _ y
    rcases List.mem_cons.mp hx with rfl | h
    · exact h2
    · exact h3 x h
theorem maxL_mem (ns : List Int) (h : ns ≠ []) : (maxL ns).getD 0 ∈ ns := by
  cases ns with
  | nil => exact absurd rfl h
  | cons y r =>
    obtain ⟨h1, _, _⟩ := foldMax r y
    show r.foldl _ y ∈ y :: r
    rcases h1 with e | e
    · rw [e]; exact List.mem_cons_self
    · exact List.mem_cons_of_mem _ e
theorem max_half (ns : List Int) (h : ∀ n ∈ ns, 0 ≤ n) (ha : ns.any (fun n => decide (0 < n)) = true) : ((maxL (half ns)).getD 0).toNat < ((maxL ns).getD 0).toNat := by
  obtain ⟨x, hx, hp⟩ := List.any_eq_true.mp ha
  have hp := of_decide_eq_true hp
  have h1 := maxL_le ns x hx
  have hne : half ns ≠ [] := by
    intro e
    have : ns = [] := by
      unfold half at e
      exact List.map_eq_nil_iff.mp e
    subst this
    simp at hx
  obtain ⟨y, hy, e⟩ := List.mem_map.mp (maxL_mem (half ns) hne)
  have h2 := maxL_le ns y hy
  have e : (maxL (half ns)).getD 0 = y / 2 := e.symm
  have h3 := h y hy
  rw [e]
  omega
theorem none_pos {B : Nat} {ns : List Int} (hb : Below B ns) (h : ns.any (fun n => decide (0 < n)) = false) : ∀ n ∈ ns, n = 0 := fun n hn => by
  have h1 := List.any_eq_false.mp h n hn
  have h1 : ¬ 0 < n := by simpa using h1
  have := (hb n hn).1
  omega
theorem half_shift (ns : List Int) (k : Nat) : (half ns).map (· / 2 ^ k) = ns.map (· / 2 ^ (k + 1)) := by
  unfold half
  rw [List.map_map]
  congr 1
  funext n
  show n / 2 / 2 ^ k = n / 2 ^ (k + 1)
  rw [Int.ediv_ediv_of_nonneg (by decide), Int.pow_succ, Int.mul_comm]
/-- the k-th letter of the word -/
theorem wd_get : ∀ (B : Nat) (ns : List Int) (k : Nat), Below B ns → (∀ x, (wd B ns)[k]? = some x → x = let_ (ns.map (· / 2 ^ k))) ∧ ((wd B ns).length ≤ k → ∀ n ∈ ns, n / 2 ^ k = 0)
  | 0, ns, k, h => by
    refine ⟨fun x z => by simp [wd] at z, fun _ n hn => ?_⟩
    rw [none_pos h h.zero n hn, Int.zero_ediv]
  | B + 1, ns, k, h => by
    cases ha : ns.any fun n => decide (0 < n) with
    | false =>
      rw [wd_nil ha]
      refine ⟨fun x z => by simp at z, fun _ n hn => ?_⟩
      rw [none_pos h ha n hn, Int.zero_ediv]
    | true =>
      rw [wd_pos ha]
      cases k with
      | zero =>
        refine ⟨fun x z => ?_, fun z => absurd z (by simp)⟩
        have z : let_ ns = x := by simpa using z
        rw [← z]
        congr 1
        have : (fun n : Int => n / 2 ^ 0) = id := by funext n; rw [Int.pow_zero, Int.ediv_one]; rfl
        rw [this, List.map_id]
      | succ k =>
        obtain ⟨i1, i2⟩ := wd_get B (half ns) k h.half
        refine ⟨fun x z => ?_, fun z n hn => ?_⟩
        · have z : (wd B (half ns))[k]? = some x := by simpa using z
          rw [i1 x z, half_shift]
        · have z : (wd B (half ns)).length ≤ k := by simpa using z
          have := i2 z (n / 2) (List.mem_map.mpr ⟨n, hn, rfl⟩)
          rw [Int.ediv_ediv_of_nonneg (by decide)] at this
          rw [Int.pow_succ, Int.mul_comm]
          exact this
theorem val_zero : ∀ (l : List Int), Bits l → val l = 0 → ∀ d ∈ l, d = 0
  | [], _, _ => fun d h => absurd h (by simp)
  | x :: r, h, e => fun d hd => by
    have h1 := h x List.mem_cons_self
    have h2 := val_bound fun y hy => h y (List.mem_cons_of_mem _ hy)
    have e : x + 2 * val r = 0 := e
    rcases List.mem_cons.mp hd with rfl | hd
    · omega
    · exact val_zero r (fun y hy => h y (List.mem_cons_of_mem _ hy)) (by omega) d hd
/-- the last letter is not 0 -/
theorem wd_last : ∀ (B : Nat) (ns : List Int), Below B ns → ∀ x, (wd B ns).getLast? = some x → x ≠ 0
  | 0, ns, _, x, h => by simp [wd] at h
  | B + 1, ns, hb, x, h => by
    cases ha : ns.any fun n => decide (0 < n) with
    | false => rw [wd_nil ha] at h; simp at h
    | true =>
      rw [wd_pos ha] at h
      cases hr : wd B (half ns) with
      | nil =>
        rw [hr] at h
        have h : let_ ns = x := by simpa using h
        intro hz
        have h1 := val_zero _ (mod2_bits ns) (h.trans hz)
        have h2 : ∀ n ∈ half ns, n = 0 := by
          have := (wd_get B (half ns) 0 hb.half).2 (by rw [hr]; exact Nat.le_refl _)
          intro n hn
          have := this n hn
          rwa [Int.pow_zero, Int.ediv_one] at this
        obtain ⟨y, hy, hp⟩ := List.any_eq_true.mp ha
        have hp := of_decide_eq_true hp
        have a1 : y % 2 = 0 := h1 (y % 2) (List.mem_map.mpr ⟨y, hy, rfl⟩)
        have a2 : y / 2 = 0 := h2 (y / 2) (List.mem_map.mpr ⟨y, hy, rfl⟩)
        omega
      | cons w ws =>
        refine wd_last B (half ns) hb.half x ?_
        rw [hr] at h ⊢
        rw [List.getLast?_cons_cons] at h
        exact h
/-- the digit of a letter of digits -/
theorem val_digit {l : List Int} (h : Bits l) {t : Nat} (ht : t < l.length) : val l / 2 ^ t % 2 = l[t] := by
  have q := dg_get l.length (val l) t ht
  rw [dg_val h, List.getElem?_eq_getElem ht] at q
  exact (Option.some.inj q).symm
theorem val_zeros : ∀ (n : Nat), val (List.replicate n 0) = 0
  | 0 => rfl
  | n + 1 => by show 0 + 2 * val (List.replicate n 0) = 0; rw [val_zeros n]; rfl
def digitsOf (w : List Int) (t : Nat) : List Int := w.map fun l => l / 2 ^ t % 2
theorem digitsOf_bits (w : List Int) (t : Nat) : Bits (digitsOf w t) := fun d hd => by
  obtain ⟨l, _, rfl⟩ := List.mem_map.mp hd
  show l / 2 ^ t % 2 = 0 ∨ l / 2 ^ t % 2 = 1
  omega
end
section
variable {T A B R S : Type}
theorem eIf_t (y z : MM T A) : eIf (ret true) y z = y := id rfl
theorem eIf_f (y z : MM T A) : eIf (ret false) y z = z := id rfl
theorem eOr_t (y : MM T Bool) : eOr (ret true) y = ret true := id rfl
theorem eOr_f (y : MM T Bool) : eOr (ret false) y = y := id rfl
theorem eAnd_t (y : MM T Bool) : eAnd (ret true) y = y := id rfl
theorem eAnd_f (y : MM T Bool) : eAnd (ret false) y = ret false := id rfl
theorem bnd_at {x : MM T A} {f : A → MM T B} {s s1 : T} {a : A} (h : x s = .ok a s1) : bnd x f s = f a s1 := by unfold bnd; rw [h]
theorem oIntB_eq (b : Bool) : oIntB b = some (if b then 1 else 0) := id rfl
theorem oIsB_eq (a b : Bool) : oIsB a b = some (decide (a = b)) := id rfl
theorem oNotB_eq (a b : Bool) : oNotB a b = some (!decide (a = b)) := id rfl
theorem oIn_eq [DecidableEq A] (a : A) (xs : List A) : oIn a xs = some (decide (a ∈ xs)) := id rfl
theorem oNotIn_eq [DecidableEq A] (a : A) (xs : List A) : oNotIn a xs = some (!decide (a ∈ xs)) := id rfl
theorem oAbs_eq (i : Int) : oAbs i = some (if i < 0 then -i else i) := id rfl
theorem oMax2_eq (p : Int × Int) : oMax2 p = some (if p.2 > p.1 then p.2 else p.1) := id rfl
theorem oMin2_eq (p : Int × Int) : oMin2 p = some (if p.2 < p.1 then p.2 else p.1) := id rfl
theorem oRange2_eq (p : Int × Int) (h : -(2 ^ 62) ≤ p.1 ∧ p.1 < 2 ^ 62 ∧ -(2 ^ 62) ≤ p.2 ∧ p.2 < 2 ^ 62) : oRange2 p = some (rangeL p.1 p.2) := if_pos h
theorem oAt_getD (xs : List A) (i : Int) (d : A) (h0 : 0 ≤ i) (h : i < xs.length) : oAt xs i = some (xs.getD i.toNat d) := by
  rw [oAt_int xs i h0 (by omega), List.getD_eq_getElem?_getD, List.getElem?_eq_getElem (by omega)]
  rfl
theorem oSet_int (xs : List A) (i : Int) (a : A) (h0 : 0 ≤ i) (h : i < xs.length) : oSet xs i a = some (xs.set i.toNat a) := by
  have := oSet_nat xs i.toNat a (by omega)
  rwa [Int.toNat_of_nonneg h0] at this
theorem oSet_0 (xs : List A) (a : A) (h : 0 < xs.length) : oSet xs 0 a = some (xs.set 0 a) := oSet_int xs 0 a (Int.le_refl 0) (by omega)
theorem take_snoc (xs : List A) (i : Nat) (d : A) (h : i < xs.length) : xs.take (i + 1) = xs.take i ++ [xs.getD i d] := by
  rw [List.take_succ, List.getElem?_eq_getElem h, List.getD_eq_getElem?_getD, List.getElem?_eq_getElem h]
  rfl
theorem getD_at (xs : List A) (i : Nat) (d : A) (h : i < xs.length) : xs.getD i d = xs[i] := by
  rw [List.getD_eq_getElem?_getD, List.getElem?_eq_getElem h]
  rfl
theorem getD_mem (xs : List A) (i : Nat) (d : A) (h : i < xs.length) : xs.getD i d ∈ xs := by
  rw [List.getD_eq_getElem?_getD, List.getElem?_eq_getElem h]
  exact List.getElem_mem h
/-- a loop that leaves at the first x of p -/
theorem forR_any {xs : List A} {f : Unit → A → MM T (Sum R Unit)} (p : A → Bool) (r : R) (h : ∀ x ∈ xs, f () x = if p x = true then ret (Sum.inl r) else ret (Sum.inr ())) : forR xs () f = ret (if xs.any p = true then Sum.inl r else Sum.inr ()) := by
  induction xs with
  | nil => rfl
  | cons x q ih =>
    show bnd (f () x) _ = _
    rw [h x List.mem_cons_self, List.any_cons]
    cases e : p x with
    | true => rfl
    | false =>
      rw [if_neg Bool.false_ne_true, bnd_ret, Bool.false_or]
      exact ih fun y hy => h y (List.mem_cons_of_mem _ hy)
theorem forR_none {xs : List A} {f : Unit → A → MM T (Sum R Unit)} (h : ∀ x ∈ xs, f () x = ret (Sum.inr ())) : forR xs () f = ret (Sum.inr ()) := by
  induction xs with
  | nil => rfl
  | cons x q ih =>
    show bnd (f () x) _ = _
    rw [h x List.mem_cons_self, bnd_ret]
    exact ih fun y hy => h y (List.mem_cons_of_mem _ hy)
theorem forM_unit {xs : List A} {f : Unit → A → MM T Unit} (h : ∀ x ∈ xs, f () x = ret ()) : forM xs () f = ret () := by
  rw [forM_fold (fun _ _ => ()) () fun s x hx => h x hx]
theorem forM_foldl {xs : List A} {f : S → A → MM T S} (g : S → A → S) (J : S → Prop) (s0 : S) (h0 : J s0) (h : ∀ s, ∀ x ∈ xs, J s → f s x = ret (g s x) ∧ J (g s x)) : forM xs s0 f = ret (xs.foldl g s0) ∧ J (xs.foldl g s0) := by
  induction xs generalizing s0 with
  | nil => exact ⟨rfl, h0⟩
  | cons x r ih =>
    obtain ⟨h1, h2⟩ := h s0 x List.mem_cons_self h0
    obtain ⟨i1, i2⟩ := ih (g s0 x) h2 fun s y hy => h s y (List.mem_cons_of_mem _ hy)
    refine ⟨?_, i2⟩
    show bnd (f s0 x) _ = _
    rw [h1, bnd_ret, i1]
    rfl
end

section
variable {T A B R S : Type}
theorem forM_eq {xs : List A} {f : S → A → MM T S} {s0 : S} (g : Nat → S) (h0 : s0 = g 0) (h : ∀ i (hi : i < xs.length), f (g i) xs[i] = ret (g (i + 1))) : forM xs s0 f = ret (g xs.length) := by
  subst h0
  induction xs generalizing g with
  | nil => rfl
  | cons x r ih =>
    show bnd (f (g 0) x) _ = _
    rw [show f (g 0) x = ret (g 1) from h 0 (by simp), bnd_ret]
    exact ih (fun i => g (i + 1)) fun i hi => h (i + 1) (by simpa using hi)
theorem rangeL_at (n : Nat) (i : Nat) (hi : i < (rangeL 0 (n : Int)).length) : (rangeL 0 (n : Int))[i] = (i : Int) ∧ i < n := by
  rw [rangeL_length] at hi
  have hn : i < n := by omega
  have := rangeL_get 0 (n : Int) (i := i) (by omega)
  rw [List.getElem?_eq_getElem (by rw [rangeL_length]; omega)] at this
  exact ⟨by rw [Option.some.inj this]; omega, hn⟩
theorem rangeL_len (n : Nat) : (rangeL 0 (n : Int)).length = n := by rw [rangeL_length]; omega
theorem forM_range {n : Nat} {f : S → Int → MM T S} {s0 : S} (g : Nat → S) (h0 : s0 = g 0) (h : ∀ i : Nat, i < n → f (g i) (i : Int) = ret (g (i + 1))) : forM (rangeL 0 (n : Int)) s0 f = ret (g n) := by
  rw [forM_eq g h0 fun i hi => by obtain ⟨e, k⟩ := rangeL_at n i hi; rw [e]; exact h i k, rangeL_len]
theorem map_range {B : Type} (n : Nat) (g : Int → B) : (rangeL 0 (n : Int)).map g = (List.range n).map fun (k : Nat) => g (k : Int) := by
  rw [rangeL_nat, List.map_map]
  rfl
theorem lcL_range {f : Int → MM T B} (n : Nat) (g : Nat → B) (hl : n ≤ 100000) (h : ∀ i : Nat, i < n → f (i : Int) = ret (g i)) : lcL f (rangeL 0 (n : Int)) = ret ((List.range n).map g) := by
  rw [lcL_ret (fun i => g i.toNat) _ (by rw [rangeL_len]; exact hl) fun x hx => by
    obtain ⟨h0, h1⟩ := rangeL_mem hx
    have := h x.toNat (by omega)
    rwa [Int.toNat_of_nonneg h0] at this, map_range]
  rfl
/-- iterates -/
def it (f : Int → Int) : Nat → Int → Int
  | 0, s => s
  | k + 1, s => f (it f k s)
theorem it_add (f : Int → Int) (a : Nat) : ∀ (b : Nat) (s : Int), it f (a + b) s = it f a (it f b s) := by
  induction a with
  | zero => intro b s; rw [Nat.zero_add]; rfl
  | succ a ih => intro b s; rw [show a + 1 + b = (a + b) + 1 by omega]; show f (it f (a + b) s) = f (it f a (it f b s)); rw [ih]
theorem it_in {f : Int → Int} {n : Nat} (h : ∀ x, 0 ≤ x → x < (n : Int) → 0 ≤ f x ∧ f x < (n : Int)) {s : Int} (h0 : 0 ≤ s) (h1 : s < n) : ∀ k, 0 ≤ it f k s ∧ it f k s < (n : Int)
  | 0 => ⟨h0, h1⟩
  | k + 1 => h _ (it_in h h0 h1 k).1 (it_in h h0 h1 k).2
theorem pigeon : ∀ (n : Nat) (l : List Nat), l.Nodup → (∀ x ∈ l, x < n) → l.length ≤ n
  | 0, l, _, h => by
    cases l with
    | nil => exact Nat.le_refl _
    | cons x r => exact absurd (h x List.mem_cons_self) (by omega)
  | n + 1, l, hd, h => by
    have h2 : (l.erase n).length ≤ n := pigeon n (l.erase n) (hd.erase n) fun x hx => by
      have := h x (List.mem_of_mem_erase hx)
      have hne : x ≠ n := fun e => by
        rw [e] at hx
        exact (List.Nodup.mem_erase_iff hd).mp hx |>.1 rfl
      omega
    have h3 : l.length ≤ (l.erase n).length + 1 := by
      rw [List.length_erase]
      split <;> omega
    omega
theorem it_rep {f : Int → Int} {n : Nat} (h : ∀ x, 0 ≤ x → x < (n : Int) → 0 ≤ f x ∧ f x < (n : Int)) {s : Int} (h0 : 0 ≤ s) (h1 : s < n) : ∃ a p, a + p ≤ n ∧ 0 < p ∧ it f a s = it f (a + p) s := by
  have key : ¬ ((List.range (n + 1)).map fun k => (it f k s).toNat).Nodup := fun hd => by
    have := pigeon n _ hd fun x hx => by
      obtain ⟨k, _, rfl⟩ := List.mem_map.mp hx
      have := it_in h h0 h1 k
      omega
    rw [List.length_map, List.length_range] at this
    omega
  rw [List.nodup_iff_pairwise_ne, List.pairwise_iff_getElem] at key
  have : ∃ i j, i < j ∧ j < n + 1 ∧ it f i s = it f j s := by
    refine Classical.byContradiction fun hn => key fun i j hi hj hij => ?_
    simp only [List.length_map, List.length_range] at hi hj
    simp only [List.getElem_map, List.getElem_range]
    intro e
    have a := it_in h h0 h1 i
    have b := it_in h h0 h1 j
    exact hn ⟨i, j, hij, hj, by omega⟩
  obtain ⟨i, j, hij, hj, e⟩ := this
  exact ⟨i, j - i, by omega, by omega, by rw [show i + (j - i) = j by omega]; exact e⟩
theorem it_per {f : Int → Int} {s : Int} {a p : Nat} (e : it f a s = it f (a + p) s) (k : Nat) (hk : a ≤ k) : it f k s = it f (k + p) s := by
  obtain ⟨d, rfl⟩ := Nat.le.dest hk
  rw [Nat.add_comm a d, it_add, e, ← it_add]
  congr 1
  omega
/-- the states that s leads to by f, once it is on a ring -/
def ring (f : Int → Int) (n : Nat) (s : Int) : List Int := (List.range (n + 1)).map fun k => it f (n + k) s
theorem ring_in {f : Int → Int} {n : Nat} (h : ∀ x, 0 ≤ x → x < (n : Int) → 0 ≤ f x ∧ f x < (n : Int)) {s : Int} (h0 : 0 ≤ s) (h1 : s < n) : ∀ x ∈ ring f n s, 0 ≤ x ∧ x < (n : Int) := fun x hx => by
  obtain ⟨k, _, rfl⟩ := List.mem_map.mp hx
  exact it_in h h0 h1 _
theorem ring_mem {f : Int → Int} {n : Nat} {s x : Int} : x ∈ ring f n s ↔ ∃ k, k ≤ n ∧ x = it f (n + k) s := by
  unfold ring
  rw [List.mem_map]
  exact ⟨fun ⟨k, hk, e⟩ => ⟨k, by have := List.mem_range.mp hk; omega, e.symm⟩, fun ⟨k, hk, e⟩ => ⟨k, List.mem_range.mpr (by omega), e.symm⟩⟩
theorem ring_next {f : Int → Int} {n : Nat} (h : ∀ x, 0 ≤ x → x < (n : Int) → 0 ≤ f x ∧ f x < (n : Int)) {s : Int} (h0 : 0 ≤ s) (h1 : s < n) (x : Int) : x ∈ ring f n s ↔ x ∈ ring f n (f s) := by
  obtain ⟨a, p, hap, hp, e⟩ := it_rep h h0 h1
  have sh : ∀ k, it f k (f s) = it f (k + 1) s := fun k => by rw [it_add f k 1 s]; rfl
  rw [ring_mem, ring_mem]
  constructor
  · rintro ⟨k, hk, rfl⟩
    cases k with
    | zero =>
      refine ⟨p - 1, by omega, ?_⟩
      rw [sh, it_per e (n + 0) (by omega)]
      congr 1
      omega
    | succ k => exact ⟨k, by omega, by rw [sh]; rfl⟩
  · rintro ⟨k, hk, rfl⟩
    rw [sh]
    by_cases hkn : k = n
    · subst hkn
      refine ⟨k + 1 - p, by omega, ?_⟩
      have := it_per e (k + (k + 1 - p)) (by omega)
      rw [this]
      congr 1
      omega
    · exact ⟨k + 1, by omega, rfl⟩
theorem minL_spec (xs : List Int) (h : xs ≠ []) : ∃ m, minL xs = some m ∧ m ∈ xs ∧ ∀ x ∈ xs, m ≤ x := by
  cases xs with
  | nil => exact absurd rfl h
  | cons x r =>
    obtain ⟨h1, h2, h3⟩ := foldMin r x
    refine ⟨_, rfl, ?_, fun y hy => ?_⟩
    · rcases h1 with e | e
      · rw [e]; exact List.mem_cons_self
      · exact List.mem_cons_of_mem _ e
    · rcases List.mem_cons.mp hy with rfl | hy
      · exact h2
      · exact h3 y hy
theorem minL_set {xs ys : List Int} (h : xs ≠ []) (k : ys ≠ []) (e : ∀ x, x ∈ xs ↔ x ∈ ys) : minL xs = minL ys := by
  obtain ⟨a, ha, a1, a2⟩ := minL_spec xs h
  obtain ⟨b, hb, b1, b2⟩ := minL_spec ys k
  rw [ha, hb]
  congr 1
  exact Int.le_antisymm (a2 b ((e b).mpr b1)) (b2 a ((e a).mp a1))
theorem ring_ne (f : Int → Int) (n : Nat) (s : Int) : ring f n s ≠ [] := fun e => by
  have := congrArg List.length e
  simp [ring] at this
end
section
variable {T A B R S : Type}
theorem cut_take (xs : List A) (t : Nat) (h : t ≤ xs.length) : cutL xs none (some (t : Int)) = xs.take t := by
  unfold cutL
  rw [HT.sIx_none, HT.sIx_nat, Nat.min_eq_left h]
  simp
theorem cut_drop (xs : List A) (t : Nat) (h : t ≤ xs.length) : cutL xs (some (t : Int)) none = xs.drop t := by
  unfold cutL
  rw [HT.sIx_none, HT.sIx_nat, Nat.min_eq_left h]
  rw [← List.length_drop, List.take_length]
theorem forR_eq {xs : List A} {f : S → A → MM T (Sum R S)} {s0 : S} (g : Nat → S) (p : Nat → Bool) (r : R) (h0 : s0 = g 0) (h : ∀ i (hi : i < xs.length), f (g i) xs[i] = if p i = true then ret (Sum.inl r) else ret (Sum.inr (g (i + 1)))) :
    forR xs s0 f = ret (if (List.range xs.length).any p = true then Sum.inl r else Sum.inr (g xs.length)) := by
  subst h0
  induction xs generalizing g p with
  | nil => rfl
  | cons x q ih =>
    show bnd (f (g 0) x) _ = _
    rw [show f (g 0) x = _ from h 0 (by simp), List.length_cons, List.range_succ_eq_map, List.any_cons, List.any_map]
    cases e : p 0 with
    | true => rfl
    | false =>
      rw [if_neg Bool.false_ne_true, bnd_ret, Bool.false_or]
      exact ih (fun i => g (i + 1)) (fun i => p (i + 1)) fun i hi => h (i + 1) (by simpa using hi)
theorem cut_dropLast (xs : List A) : cutL xs none (some (-1)) = xs.dropLast := by
  unfold cutL
  rw [HT.sIx_none, List.drop_zero, List.dropLast_eq_take]
  have e : HT.sIx xs.length xs.length (some (-1)) = xs.length - 1 := by
    show (if (-1 : Int) < 0 then ((-1 : Int) + (xs.length : Int)).toNat else min (-1 : Int).toNat xs.length) = xs.length - 1
    rw [if_pos (by decide)]
    omega
  rw [e, Nat.sub_zero]
end
section
variable {T A B R S : Type}
theorem forR_first {xs : List A} {f : S → A → MM T (Sum R S)} {s0 : S} (g : Nat → S) (p : Nat → Bool) (r : Nat → R) (h0 : s0 = g 0) (h : ∀ i (hi : i < xs.length), f (g i) xs[i] = if p i = true then ret (Sum.inl (r i)) else ret (Sum.inr (g (i + 1)))) :
    forR xs s0 f = ret (match (List.range xs.length).find? p with
      | some i => Sum.inl (r i)
      | none => Sum.inr (g xs.length)) := by
  subst h0
  induction xs generalizing g p r with
  | nil => rfl
  | cons x q ih =>
    show bnd (f (g 0) x) _ = _
    rw [show f (g 0) x = _ from h 0 (by simp), List.length_cons, List.range_succ_eq_map, List.find?_cons, List.find?_map]
    cases e : p 0 with
    | true => rfl
    | false =>
      rw [if_neg Bool.false_ne_true, bnd_ret]
      have := ih (fun i => g (i + 1)) (fun i => p (i + 1)) (fun i => r (i + 1)) fun i hi => h (i + 1) (by simpa using hi)
      refine this.trans ?_
      show _ = ret (match Option.map Nat.succ ((List.range q.length).find? fun i => p (i + 1)) with
        | some i => Sum.inl (r i)
        | none => Sum.inr (g (q.length + 1)))
      cases (List.range q.length).find? fun i => p (i + 1) <;> rfl
theorem find_succ (p : Nat → Bool) (n : Nat) : (List.range (n + 1)).find? p = ((List.range n).find? p).or (if p n = true then some n else none) := by
  rw [List.range_succ, List.find?_append]
  congr 1
  rw [List.find?_cons, List.find?_nil]
  cases p n <;> rfl
theorem find_none (p : Nat → Bool) (n : Nat) (h : ∀ i, i < n → p i = false) : (List.range n).find? p = none := by
  rw [List.find?_eq_none]
  intro x hx
  rw [h x (List.mem_range.mp hx)]
  exact Bool.false_ne_true
theorem find_some (p : Nat → Bool) (m : Nat) (hp : p m = true) (hl : ∀ i, i < m → p i = false) : ∀ (n : Nat), m < n → (List.range n).find? p = some m
  | 0, h => absurd h (by omega)
  | n + 1, h => by
    rw [find_succ]
    by_cases e : m = n
    · subst e
      rw [find_none p m hl, if_pos hp]
      rfl
    · rw [find_some p m hp hl n (by omega)]
      rfl
theorem find_iff (p : Nat → Bool) (n m : Nat) (h : (List.range n).find? p = some m) : m < n ∧ p m = true ∧ ∀ i, i < m → p i = false := by
  have h1 := List.find?_some h
  have h2 := List.mem_range.mp (List.mem_of_find?_eq_some h)
  refine ⟨h2, h1, fun i hi => ?_⟩
  cases e : p i with
  | false => rfl
  | true =>
    exfalso
    have : ∃ j, j ≤ i ∧ p j = true ∧ ∀ k, k < j → p k = false := by
      induction i using Nat.strongRecOn with
      | ind i ih =>
        by_cases hk : ∃ k, k < i ∧ p k = true
        · obtain ⟨k, k1, k2⟩ := hk
          obtain ⟨j, j1, j2, j3⟩ := ih k k1 (by omega) k2
          exact ⟨j, by omega, j2, j3⟩
        · refine ⟨i, Nat.le_refl _, e, fun k hk2 => ?_⟩
          cases ek : p k with
          | false => rfl
          | true => exact absurd ⟨k, hk2, ek⟩ hk
    obtain ⟨j, j1, j2, j3⟩ := this
    rw [find_some p j j2 j3 n (by omega)] at h
    have := Option.some.inj h
    omega
theorem fNe_eq (xs : List A) : fNe xs = some (!xs.isEmpty) := id rfl
theorem opt_map_some (f : A → B) (a : A) : (some a).map f = some (f a) := id rfl
end
end Law

/-! WLO: a search that numbers what it finds, in the order in which it is found. -/
namespace Law
open WL
open PySem (Str)
section
variable {K : Type} [DecidableEq K]
/-- k is added if it is new -/
def enter (ls : List K) (k : K) : List K := if k ∈ ls then ls else ls ++ [k]
def enterAll (ls ks : List K) : List K := ks.foldl enter ls
/-- the place of k, the length if it is not there -/
def plc : List K → K → Nat
  | [], _ => 0
  | x :: r, k => if x = k then 0 else plc r k + 1
theorem enter_mem {ls : List K} {k y : K} : y ∈ enter ls k ↔ y ∈ ls ∨ y = k := by
  unfold enter
  split
  · rename_i h
    exact ⟨.inl, fun z => z.elim id fun e => e ▸ h⟩
  · simp
theorem enter_nodup {ls : List K} {k : K} (h : ls.Nodup) : (enter ls k).Nodup := by
  unfold enter
  split
  · exact h
  · rename_i hx
    rw [List.nodup_append]
    exact ⟨h, by simp, fun a ha b hb => by rw [List.mem_singleton.mp hb]; intro e; exact hx (e ▸ ha)⟩
theorem enter_pre (ls : List K) (k : K) : ∃ m, enter ls k = ls ++ m := by
  unfold enter
  split
  · exact ⟨[], by simp⟩
  · exact ⟨[k], rfl⟩
theorem enterAll_mem : ∀ {ks ls : List K} {y : K}, y ∈ enterAll ls ks ↔ y ∈ ls ∨ y ∈ ks
  | [], ls, y => by simp [enterAll]
  | x :: r, ls, y => by
    show y ∈ enterAll (enter ls x) r ↔ _
    rw [enterAll_mem, enter_mem, List.mem_cons, or_assoc]
theorem enterAll_nodup : ∀ {ks ls : List K}, ls.Nodup → (enterAll ls ks).Nodup
  | [], _, h => h
  | x :: r, ls, h => enterAll_nodup (ks := r) (enter_nodup h)
theorem enterAll_pre : ∀ (ks ls : List K), ∃ m, enterAll ls ks = ls ++ m
  | [], ls => ⟨[], by simp [enterAll]⟩
  | x :: r, ls => by
    obtain ⟨m1, h1⟩ := enter_pre ls x
    obtain ⟨m2, h2⟩ := enterAll_pre r (enter ls x)
    exact ⟨m1 ++ m2, by show enterAll (enter ls x) r = _; rw [h2, h1, List.append_assoc]⟩
theorem plc_mem : ∀ {ls : List K} {k : K}, k ∈ ls → plc ls k < ls.length ∧ ls[plc ls k]? = some k
  | [], _, h => by simp at h
  | x :: r, k, h => by
    unfold plc
    by_cases e : x = k
    · rw [if_pos e]
      exact ⟨Nat.zero_lt_succ _, by simp [e]⟩
    · rw [if_neg e]
      have hk : k ∈ r := by
        rcases List.mem_cons.mp h with z | z
        · exact absurd z.symm e
        · exact z
      obtain ⟨a, b⟩ := plc_mem hk
      exact ⟨by simp; omega, by simpa using b⟩
theorem plc_not : ∀ {ls : List K} {k : K}, k ∉ ls → plc ls k = ls.length
  | [], _, _ => rfl
  | x :: r, k, h => by
    unfold plc
    rw [if_neg fun e => h (by rw [e]; exact List.mem_cons_self), plc_not fun z => h (List.mem_cons_of_mem _ z)]
    rfl
theorem plc_pre : ∀ {ls : List K} (m : List K) {k : K}, k ∈ ls → plc (ls ++ m) k = plc ls k
  | [], _, _, h => by simp at h
  | x :: r, m, k, h => by
    show plc (x :: (r ++ m)) k = _
    unfold plc
    by_cases e : x = k
    · rw [if_pos e, if_pos e]
    · rw [if_neg e, if_neg e, plc_pre m (by
        rcases List.mem_cons.mp h with z | z
        · exact absurd z.symm e
        · exact z)]
theorem plc_get : ∀ {ls : List K} (hd : ls.Nodup) {i : Nat} {k : K}, ls[i]? = some k → plc ls k = i
  | [], _, i, k, h => by simp at h
  | x :: r, hd, i, k, h => by
    unfold plc
    have hx := (List.nodup_cons.mp hd).1
    cases i with
    | zero =>
      have : x = k := by simpa using h
      rw [if_pos this]
    | succ i =>
      have h' : r[i]? = some k := by simpa using h
      rw [if_neg (fun e => hx (by rw [e]; exact List.mem_of_getElem? h')), plc_get (List.nodup_cons.mp hd).2 h']
/-- the dict of the places -/
def enumI : Nat → List K → List (K × Int)
  | _, [] => []
  | n, x :: r => (x, (n : Int)) :: enumI (n + 1) r
theorem enumI_any (k : K) : ∀ (n : Nat) (ls : List K), ((enumI n ls).any fun d => decide (d.1 = k)) = decide (k ∈ ls)
  | _, [] => rfl
  | n, x :: r => by
    show (decide (x = k) || (enumI (n + 1) r).any _) = _
    rw [enumI_any k (n + 1) r]
    by_cases e : x = k
    · simp [e]
    · have : ¬ k = x := fun z => e z.symm
      simp [e, this]
theorem enumI_get (k : K) : ∀ (n : Nat) (ls : List K), aGet (enumI n ls) k = if k ∈ ls then some ((n + plc ls k : Nat) : Int) else none
  | _, [] => rfl
  | n, x :: r => by
    have ih := enumI_get k (n + 1) r
    unfold aGet at ih ⊢
    show Option.map _ (List.find? _ ((x, (n : Int)) :: enumI (n + 1) r)) = _
    rw [List.find?_cons]
    by_cases e : x = k
    · subst e
      simp [plc]
    · have e2 : ¬ k = x := fun z => e z.symm
      simp only [decide_eq_false e]
      rw [ih]
      by_cases hm : k ∈ r
      · rw [if_pos hm, if_pos (List.mem_cons_of_mem _ hm)]
        rw [show plc (x :: r) k = plc r k + 1 from if_neg e]
        congr 2
        omega
      · rw [if_neg hm, if_neg (by simp [e2, hm])]
theorem enumI_len : ∀ (n : Nat) (ls : List K), (enumI n ls).length = ls.length
  | _, [] => rfl
  | n, x :: r => by show (enumI (n + 1) r).length + 1 = _; rw [enumI_len (n + 1) r]; rfl
theorem enumI_snoc (k : K) : ∀ (n : Nat) (ls : List K), enumI n (ls ++ [k]) = enumI n ls ++ [(k, ((n + ls.length : Nat) : Int))]
  | _, [] => rfl
  | n, x :: r => by
    show (x, (n : Int)) :: enumI (n + 1) (r ++ [k]) = (x, (n : Int)) :: (enumI (n + 1) r ++ _)
    rw [enumI_snoc k (n + 1) r]
    congr 4
    simp
    omega
theorem enumI_put {k : K} {ls : List K} (h : k ∉ ls) : aPut (enumI 0 ls) k (ls.length : Int) = enumI 0 (ls ++ [k]) := by
  unfold aPut
  rw [enumI_any, decide_eq_false h, if_neg Bool.false_ne_true, enumI_snoc]
  simp
theorem enumI_has (ls : List K) (k : K) : aHas (enumI 0 ls) k = decide (k ∈ ls) := by
  unfold aHas
  rw [enumI_get]
  by_cases h : k ∈ ls
  · rw [if_pos h, decide_eq_true h]; rfl
  · rw [if_neg h, decide_eq_false h]; rfl
/-- what is found behind i rows -/
def grow (succ : K → List K) (start : K) : Nat → List K
  | 0 => [start]
  | i + 1 => match (grow succ start i)[i]? with
    | some l => enterAll (grow succ start i) (succ l)
    | none => grow succ start i
variable {succ : K → List K} {start : K}
theorem grow_some {i : Nat} {l : K} (h : (grow succ start i)[i]? = some l) : grow succ start (i + 1) = enterAll (grow succ start i) (succ l) := by
  show (match (grow succ start i)[i]? with
    | some l => enterAll (grow succ start i) (succ l)
    | none => grow succ start i) = _
  rw [h]
theorem grow_nodup : ∀ i, (grow succ start i).Nodup
  | 0 => by simp [grow]
  | i + 1 => by
    unfold grow
    split
    · exact enterAll_nodup (grow_nodup i)
    · exact grow_nodup i
theorem grow_next (i : Nat) : ∃ m, grow succ start (i + 1) = grow succ start i ++ m := by
  show ∃ m, (match (grow succ start i)[i]? with
    | some l => enterAll (grow succ start i) (succ l)
    | none => grow succ start i) = _
  split
  · exact enterAll_pre _ _
  · exact ⟨[], by simp⟩
theorem grow_pre (i : Nat) : ∀ d, ∃ m, grow succ start (i + d) = grow succ start i ++ m
  | 0 => ⟨[], by simp⟩
  | d + 1 => by
    obtain ⟨m1, h1⟩ := grow_pre i d
    obtain ⟨m2, h2⟩ := grow_next (succ := succ) (start := start) (i + d)
    exact ⟨m1 ++ m2, by rw [show i + (d + 1) = i + d + 1 by omega, h2, h1, List.append_assoc]⟩
/-- what is found lies in each set that holds the start and is closed -/
theorem grow_in (B : K → Prop) (h0 : B start) (h : ∀ k, B k → ∀ y ∈ succ k, B y) : ∀ i, ∀ y ∈ grow succ start i, B y
  | 0, y, hy => by rw [List.mem_singleton.mp hy]; exact h0
  | i + 1, y, hy => by
    have ih := grow_in B h0 h i
    unfold grow at hy
    split at hy
    · rename_i l hl
      rcases enterAll_mem.mp hy with z | z
      · exact ih y z
      · exact h l (ih l (List.mem_of_getElem? hl)) y z
    · exact ih y hy
theorem grow_pos (i : Nat) : 0 < (grow succ start i).length := by
  obtain ⟨m, h⟩ := grow_pre (succ := succ) (start := start) 0 i
  rw [Nat.zero_add] at h
  rw [h]
  simp [grow]
/-- the search ends if it finds at most N -/
theorem grow_end (N : Nat) (hN : ∀ i, (grow succ start i).length ≤ N) : ∃ n, 0 < n ∧ n ≤ N ∧ (grow succ start n).length = n ∧ ∀ i, i < n → i < (grow succ start i).length := by
  have : ∃ n, n ≤ N ∧ (grow succ start n).length ≤ n ∧ ∀ i, i < n → i < (grow succ start i).length := by
    refine Classical.byContradiction fun hc => ?_
    have all : ∀ n, n ≤ N + 1 → ∀ i, i < n → i < (grow succ start i).length := by
      intro n
      induction n with
      | zero => intro _ i hi; omega
      | succ n ih =>
        intro hn i hi
        have ih := ih (by omega)
        by_cases e : i = n
        · subst e
          refine Classical.byContradiction fun hlt => hc ⟨i, by omega, by omega, ih⟩
        · exact ih i (by omega)
    have := all (N + 1) (by omega) N (by omega)
    have := hN N
    omega
  obtain ⟨n, h1, h2, h3⟩ := this
  have hp := grow_pos (succ := succ) (start := start) n
  refine ⟨n, by omega, h1, ?_, h3⟩
  cases n with
  | zero => omega
  | succ n =>
    obtain ⟨m, hm⟩ := grow_next (succ := succ) (start := start) n
    have := h3 n (by omega)
    have hl := congrArg List.length hm
    rw [List.length_append] at hl
    omega
/-- at the end all that follows is found -/
theorem grow_closed {n : Nat} (hn : (grow succ start n).length = n) (hl : ∀ i, i < n → i < (grow succ start i).length) {i : Nat} (hi : i < n) {l : K} (h : (grow succ start n)[i]? = some l) : (grow succ start i)[i]? = some l ∧ ∀ y ∈ succ l, y ∈ grow succ start n := by
  have hii := hl i hi
  obtain ⟨m, hm⟩ := grow_pre (succ := succ) (start := start) i (n - i)
  rw [show i + (n - i) = n by omega] at hm
  have e : (grow succ start i)[i]? = some l := by
    rw [hm, List.getElem?_append_left hii] at h
    exact h
  refine ⟨e, fun y hy => ?_⟩
  obtain ⟨m2, hm2⟩ := grow_pre (succ := succ) (start := start) (i + 1) (n - (i + 1))
  rw [show i + 1 + (n - (i + 1)) = n by omega] at hm2
  rw [hm2]
  refine List.mem_append_left _ ?_
  show y ∈ (match (grow succ start i)[i]? with
    | some l => enterAll (grow succ start i) (succ l)
    | none => grow succ start i)
  rw [e]
  exact enterAll_mem.mpr (.inr hy)
end
section
variable {T S : Type}
theorem whileM_eq {t : S → MM T Bool} {f : S → MM T S} (g : Nat → S) (n : Nat) (h1 : ∀ i, i < n → t (g i) = ret true ∧ f (g i) = ret (g (i + 1))) (h2 : t (g n) = ret false) : ∀ (k fuel : Nat), k ≤ n → n - k < fuel → whileM fuel t f (g k) = ret (g n) := by
  intro k fuel
  induction fuel generalizing k with
  | zero => intro _ h; omega
  | succ fuel ih =>
    intro hk hf
    unfold whileM
    by_cases e : k = n
    · subst e
      rw [h2, bnd_ret, if_neg Bool.false_ne_true]
    · obtain ⟨a, b⟩ := h1 k (by omega)
      rw [a, bnd_ret, if_pos rfl, b, bnd_ret]
      exact ih (k + 1) (by omega) (by omega)
end
end Law

/-! WLR: more of lists. -/
namespace WL
open PySem PySem.Spec PyProof.Rows L2
open Law (plc plc_mem)
section
variable {A : Type} [DecidableEq A] {K : PySem.W.Frag} {t : Ty A} {X : Cx} {T : Type} {c : Ctx T} {ds : List Desc} {e : Expr} {xa : MM T A}
def oIdx (xs : List A) (a : A) : Option Int := if a ∈ xs then some (plc xs a : Int) else none
theorem plc_lt : ∀ {ls : List A} {k : A} {i : Nat} {y : A}, i < plc ls k → ls[i]? = some y → ¬ y = k
  | [], k, i, y, _, e => by simp at e
  | x :: r, k, i, y, h, e => by
    unfold plc at h
    by_cases z : x = k
    · rw [if_pos z] at h; omega
    · rw [if_neg z] at h
      cases i with
      | zero => have : x = y := by simpa using e
                rw [← this]; exact z
      | succ i => exact plc_lt (ls := r) (k := k) (i := i) (by omega) (by simpa using e)
theorem x_idxO (i : Nat) {call : Expr} {xs : List A} (h : FlatT t) (he : PE X call (tBM X.K "list" (rIndex X.K) (tVar i) (tCons (TX c ds t xa) tNil))) (hd : ds[i]? = some (.own (oList t) xs) := by rfl) : PE X call (TX c ds tInt (bnd xa fun a => lft (oIdx xs a))) :=
  PE.imp he fun σ H Q ⟨m, st, env, p⟩ => by
    obtain ⟨v, fp, e1, q, us, ev, ef, kk, r⟩ := own_at env hd
    subst ev
    refine ⟨_, e1, .inl ⟨rfl, us, .of kk⟩, m, st, env, (Post.bnd.mp p).imp fun a s1 p v1 m1 H1 w1 a1 r1 => ?_⟩
    obtain ⟨k, hk, p⟩ := Post.lft.mp p
    obtain ⟨v', fp', e1', q', us', ev', ef', kk', r'⟩ := own_at (env.go w1 a1) hd
    rw [e1] at e1'; cases e1'; cases ev'
    unfold oIdx at hk
    by_cases z : a ∈ xs
    · rw [if_pos z] at hk; cases hk
      obtain ⟨z1, z2⟩ := plc_mem z
      obtain ⟨u, hu, ru⟩ := r'.get z2
      refine ⟨q, us', v1, plc xs a, u, rfl, rfl, .inl (.inl kk'), h.fl _ _ _ r1, reps_flat h r', hu, by rw [h.eq a a v1 u m1 m1 r1 ru]; simp, fun j y hj ey => ?_, p _ m1 H1 w1 a1 rfl⟩
      have hjl : j < xs.length := by omega
      obtain ⟨u', hu', ru'⟩ := r'.get (List.getElem?_eq_getElem hjl)
      rw [ey] at hu'; cases hu'
      rw [h.eq a _ v1 y m1 m1 r1 ru']
      exact decide_eq_false (plc_lt hj (List.getElem?_eq_getElem hjl))
    · rw [if_neg z] at hk; cases hk
end
end WL
namespace WL
open PySem PySem.Spec PyProof.Rows L2
/-! one of two types -/
def repA {A B : Type} (t : Ty A) (u : Ty B) (v : V) (m : Hp) : Sum A B → Prop
  | .inl a => t.rep a v m
  | .inr b => u.rep b v m
def tAlt {A B : Type} (t : Ty A) (u : Ty B) : Ty (Sum A B) := ⟨fun o v m => repA t u v m o, fun {o} _ _ _ h r => by
  cases o with
  | inl a => exact t.mono h r
  | inr b => exact u.mono h r⟩
section
variable {X : Cx} {T A B : Type} {c : Ctx T} {ds : List Desc} {t : Ty A} {u : Ty B} {e : Expr}
theorem x_inl {x : MM T A} (h : PE X e (TX c ds t x)) : PE X e (TX c ds (tAlt t u) (e1 (fun a => some (Sum.inl a)) x)) := PE.imp h fun σ H Q ⟨m, st, env, p⟩ =>
  ⟨m, st, env, (Post.bnd.mp p).imp fun a s1 p v1 m1 H1 w1 a1 r1 => p v1 m1 H1 w1 a1 r1⟩
theorem x_inr {x : MM T B} (h : PE X e (TX c ds u x)) : PE X e (TX c ds (tAlt t u) (e1 (fun a => some (Sum.inr a)) x)) := PE.imp h fun σ H Q ⟨m, st, env, p⟩ =>
  ⟨m, st, env, (Post.bnd.mp p).imp fun a s1 p v1 m1 H1 w1 a1 r1 => p v1 m1 H1 w1 a1 r1⟩
variable [DecidableEq A] [DecidableEq B] {K : PySem.W.Frag} {n k : Nat}
end
/-- == of data with texts, as far as ok tells -/
structure EqS {A : Type} [DecidableEq A] (K : PySem.W.Frag) (t : Ty A) (n : Nat) (ok : A → Bool) where
  enc : A → PyData
  dp : ∀ a v m H, t.rep a v m → Sub m H → Dp K H v (enc a)
  eqv : ∀ a b, PyData.eqv (enc a) (enc b) = decide (a = b)
  lay : ∀ a, ok a = true → (enc a).canLay0 = true
  dep : ∀ a, (enc a).depth ≤ n
def okT {A : Type} (_ : A) : Bool := true
def okStr (x : Str) : Bool := (PyData.str x).canLay0
def okAlt {A B : Type} (f : A → Bool) (g : B → Bool) : Sum A B → Bool
  | .inl a => f a
  | .inr b => g b
section
variable {A B : Type} [DecidableEq A] [DecidableEq B] {K : PySem.W.Frag} {t : Ty A} {u : Ty B} {n k : Nat} {f : A → Bool} {g : B → Bool}
def eqs_of (e : EqT K t n) : EqS K t n okT := ⟨e.enc, e.dp, e.eqv, fun a _ => e.lay a, e.dep⟩
def eqs_str : EqS K tStr 0 okStr where
  enc := .str
  dp := fun a v m H r _ => by cases rep_str r; exact .str a
  eqv := fun a b => by by_cases h : a = b <;> simp [PyData.eqv, h]
  lay := fun a h => h
  dep := fun a => Nat.le_refl _
def eqs_alt (e : EqS K t n f) (e' : EqS K u k g) (h : ∀ a b, PyData.eqv (e.enc a) (e'.enc b) = false ∧ PyData.eqv (e'.enc b) (e.enc a) = false) : EqS K (tAlt t u) (max n k) (okAlt f g) where
  enc := fun o => match o with
    | .inl a => e.enc a
    | .inr b => e'.enc b
  dp := fun a v m H r hm => by
    cases a with
    | inl a => exact e.dp _ _ _ _ r hm
    | inr b => exact e'.dp _ _ _ _ r hm
  eqv := fun a b => by
    cases a <;> cases b
    · simp [e.eqv]
    · simp [(h _ _).1]
    · simp [(h _ _).2]
    · simp [e'.eqv]
  lay := fun a h => by cases a with
    | inl a => exact e.lay a h
    | inr b => exact e'.lay b h
  dep := fun a => by cases a with
    | inl a => exact Nat.le_trans (e.dep a) (Nat.le_max_left _ _)
    | inr b => exact Nat.le_trans (e'.dep b) (Nat.le_max_right _ _)
def oEqK (ok : A → Bool) (a b : A) : Option Bool := if ok a = true ∧ ok b = true then some (decide (a = b)) else none
def oNeK (ok : A → Bool) (a b : A) : Option Bool := if ok a = true ∧ ok b = true then some (!decide (a = b)) else none
theorem shaped_ofS (e : EqS K t n f) (h : n ≤ 64) (a : A) (ha : f a = true) : SeqAt.shaped (e.enc a) = true := by
  unfold SeqAt.shaped
  rw [e.lay a ha, decide_eq_true (Nat.le_trans (e.dep a) h)]
  rfl
theorem sp_deqS (e : EqS K t n f) (h : n ≤ 64 := by decide) : Op2 (rEqD K) t t tBool (oEqK f) := fun a b g v1 v2 m H Q r1 r2 hm eg q => by
  unfold oEqK at eg
  by_cases z : f a = true ∧ f b = true
  · rw [if_pos z] at eg; cases eg
    exact ⟨e.enc a, e.enc b, e.dp _ _ _ _ r1 hm, e.dp _ _ _ _ r2 hm, shaped_ofS e h a z.1, shaped_ofS e h b z.2, q _ m H (.refl hm) (by rw [e.eqv]; rfl)⟩
  · rw [if_neg z] at eg; cases eg
theorem sp_dneS' (e : EqS K t n f) (h : n ≤ 64 := by decide) : Op2 (rNeD K) t t tBool (oNeK f) := fun a b g v1 v2 m H Q r1 r2 hm eg q => by
  unfold oNeK at eg
  by_cases z : f a = true ∧ f b = true
  · rw [if_pos z] at eg; cases eg
    exact ⟨e.enc a, e.enc b, e.dp _ _ _ _ r1 hm, e.dp _ _ _ _ r2 hm, shaped_ofS e h a z.1, shaped_ofS e h b z.2, q _ m H (.refl hm) (by rw [e.eqv]; rfl)⟩
  · rw [if_neg z] at eg; cases eg
end
theorem sc_optS : Scal (tOpt tStr) := ⟨fun a b v w m n h k => by
    cases a <;> cases b <;> simp only [tOpt, repO, tStr] at h k <;> subst h k <;> rfl, fun a b v w m n h k => by
    cases a <;> cases b <;> simp only [tOpt, repO, tStr] at h k <;> subst h k <;> simp⟩
/-! len of a dict -/
def rLenE (P : Program) (w : World) : List V → Hp → VK → Prop := fun xs H Q => ∃ a kvs, xs = [.ref a] ∧ H a = some (DE P w a kvs) ∧ Q (.int kvs.length) H
theorem call_lenE {X : Cx} : CallR X (.builtin "len") (rLenE X.prog X.w) := fun pins s σ H xs us Q I r ⟨a, kvs, e, ha, q⟩ => by
  subst e
  cases r with
  | cons ra rn =>
    cases rn
    obtain rfl : _ = Value.ref a := ra
    obtain ⟨z, hd, vs, rel, dd⟩ := de_get I ha
    refine call_len_dict hd dd (by rw [← KV.length rel]; rw [sizeLine_eq] at z; omega) ?_
    exact ⟨.int kvs.length, H, (I.tok _).tok _, ⟨_, by rw [KV.length rel]⟩, q⟩
theorem x_lenE {X : Cx} {T A B : Type} [DecidableEq A] {c : Ctx T} {ds : List Desc} {u : Ty B} {enc : A → PySem.Leaf} {pos p2 p3 : Pos} (i : Nat) {x : Str} {xs : List (A × B)} (hm : X.mg "len" = none) (hd : ds[i]? = some (.own (oDict X.prog X.w enc u) xs) := by rfl) (hN : X.N[i]? = some x := by rfl) (hv : Vis X.env.scope x := by first | exact Or.inl rfl | exact Or.inr (Or.inl rfl) | exact Or.inr (Or.inr rfl))
    (h1 : (x == ("__debug__" : Str)) = false := by decide) (h2 : (x == ("__classdict__" : Str)) = false := by decide) (hg : Gl X "len" := by rfl)
    (he : starEach [.Name x p3] X.env = (false, eval (.Name x p3) X.env) :: starEach [] X.env := by rfl) (hpl : (backTo pos (starEach [] X.env)).any (·.1) = false := by rfl) :
    PE X (.Call (.Name "len" p2) [.Name x p3] [] pos) (TX c ds tInt (ret (xs.length : Int))) :=
  PE.imp (pe_callB call_lenE hg hm PySem.boot_len (pa_cons (pe_var hN hv h1 h2) pa_nil he) (by decide) (by decide) he hpl) fun σ H Q ⟨m, st, env, p⟩ => by
    obtain ⟨v, fp, e1, q, kvs, ev, ef, k, r⟩ := own_at env hd
    subst ev
    exact ⟨_, e1, q, kvs, rfl, k, p _ m H (.refl env.mh) env.amb (by show V.int _ = V.int _; rw [r.length])⟩
end WL

/-! WLS: tuples of texts among a module's names. -/
namespace WL
open PySem PySem.Spec PyProof.Rows L2
structure TxtC (K : PySem.W.Frag) (mg : Str → Option Value) (x : Str) (ss : List Str) where
  p : Addr
  g : mg x = some (.ref p)
  s : ∀ m, SqT K m p (ss.map .str)
theorem reps_str (m : Hp) : ∀ ss : List Str, Reps tStr m ss (ss.map .str)
  | [] => .nil
  | s :: r => .cons rfl (reps_str m r)
theorem TxtC.rep {K : PySem.W.Frag} {mg : Str → Option Value} {x : Str} {ss : List Str} (Z : TxtC K mg x ss) (m : Hp) : (tVT K tStr).rep ss (.ref Z.p) m := ⟨Z.p, _, rfl, Z.s m, reps_str m ss⟩
theorem sqT_txt {K : PySem.W.Frag} {p : Addr} {xs : List V} {o : Option Addr} {its : Array Value} {n : Nat} {sl : Array (Option Value)} (h : K.lookup p = some ⟨.type "tuple", o, .seq its n, sl⟩) (hz : its.size ≤ sizeLine) (hv : Vals xs its.toList) (m : Hp) : SqT K m p xs :=
  .inr ⟨_, its, n, h, rfl, rfl, hz, hv⟩
/-! x.bit_length() -/
def oBits (i : Int) : Option Int := some (Builtin.Int.intBits i : Nat)
def rBits : V → Hp → VK → Prop := fun x H Q => ∃ i, x = .int i ∧ Q (.int (Builtin.Int.intBits i : Nat)) H
theorem sp_bits : Op1 rBits tInt tInt oBits := fun a x v m H Q r hm e q => by
  cases rep_int r; cases e
  exact ⟨a, rfl, q _ m H (.refl hm) rfl⟩
section
variable {X : Cx} {T : Type} {c : Ctx T} {ds : List Desc} {o : Expr} {apos pos : Pos} {xa : MM T Int}
theorem x_bits (ho : PE X o (TX c ds tInt xa)) (hbase : attributeBase o "bit_length" X.env (eval o X.env) = eval o X.env := by rfl) (hline : (apos.endLine == pos.line) = true := by rfl) :
    PE X (.Call (.Attribute o "bit_length" apos) [] [] pos) (TX c ds tInt (e1 oBits xa)) := PE.imp (pe_bits ho hbase hline) fun σ H Q h => show tUn rBits (TX c ds tInt xa) σ H Q from rd_op1 sp_bits h
end
/-! list(range(n)) -/
theorem cr_range1 {X : Cx} : CallR X (.type "range") (fun vs H Q => ∃ j, vs = [V.int j] ∧ ∀ p, H p = none → Q (.ref p) (upd H p (.rng 0 j))) := by
  intro pins s σ H vs us Q I r h
  obtain ⟨j, rfl, q⟩ := h
  obtain ⟨u1, rfl, ri⟩ := vals1 r
  obtain ⟨t, rfl⟩ := ri
  refine call_range_1 ⟨.ref s.heap.objs.size, upd H s.heap.objs.size (.rng 0 j), I.laid (t' := s.toks + 1 + 1) (fun b o e => Heap.get?_push_of_some _ e) (Nat.le_refl _) ?_, rfl, q _ (I.hok.fresh (Nat.le_refl _))⟩
  exact ⟨s.toks, t, s.toks + 1, Heap.get?_push_size _ rfl⟩
theorem vals_ints (a : Int) (n : Nat) (vs : List Value) (h : vs.length = n) (k : ∀ (j : Nat) (v : Value), vs[j]? = some v → ∃ t, v = .int (a + j * 1) t) : Vals ((rangeL a (a + n)).map .int) vs := by
  refine vals_of_at (by rw [List.length_map, rangeL_length, h]; omega) fun j x u h1 h2 => ?_
  obtain ⟨t, rfl⟩ := k j u h2
  have hj : j < n := by
    obtain ⟨hj, _⟩ := List.getElem?_eq_some_iff.mp h2
    omega
  rw [List.getElem?_map, rangeL_get _ _ (by omega)] at h1
  cases h1
  exact ⟨t, by rw [Int.mul_one]⟩
theorem call_listRng {X : Cx} (hc : X.calm = true) : CallR X (.type "list") (fun xs H Q => ∃ (p : Addr) (n : Nat), xs = [.ref p] ∧ n ≤ 100000 ∧ H p = some (.rng 0 n) ∧ ∀ l, H l = none → Q (.ref l) (upd H l (.lst ((rangeL 0 n).map .int)))) := by
  intro pins s σ H xs us Q I r h
  obtain ⟨p, n, e, hn, hk, q⟩ := h
  subst e
  obtain ⟨u, eu, rx⟩ := vals1 r
  subst eu
  obtain rfl : u = Value.ref p := rx
  obtain ⟨t1, t2, t3, ho⟩ := (show ObjOk X.prog X.w H s.heap p (.rng 0 n) from I.hok p _ hk)
  have hz := sizeLine_eq
  refine call_list_range (a := 0) (b := n) (c := 1) (n := n) (I.ok.hd hc) ho (small_one (by decide) (by decide) (by omega) (by omega)) (by rw [PyProof.Rows.rangeSize_nat]; omega) (by omega) fun h' tk acc c' hkeep hS hacc => ?_
  refine ⟨.ref s.heap.objs.size, upd H s.heap.objs.size (.lst ((rangeL 0 n).map .int)), I.laid hkeep (Nat.le_refl _) (show ObjOk X.prog X.w _ _ _ (.lst ((rangeL 0 n).map .int)) from ⟨?_, acc.toList, c', ?_, ?_⟩), rfl, q _ (I.hok.fresh (Nat.le_refl _))⟩
  · rw [List.length_map, rangeL_length, hz]; omega
  · have := vals_ints 0 n acc.toList (by rw [Array.length_toList]; exact hacc.1) fun j v hj => hacc.2 j v (by rw [← hj, Array.getElem?_toList])
    rw [Int.zero_add] at this
    exact this
  · rw [Array.toArray_toList]; exact hS
/-- a range object -/
def tRng : Ty Int := ⟨fun n v m => ∃ p, v = .ref p ∧ m p = some (.rng 0 n), fun h ⟨p, e, k⟩ => ⟨p, e, h _ _ k⟩⟩
theorem sp_rng1 : OpL (fun vs H Q => ∃ j, vs = [V.int j] ∧ ∀ p, H p = none → Q (.ref p) (upd H p (.rng 0 j))) (l1 tInt) tRng (fun n => some n) := fun a g vs m H Q ⟨v, ev, r⟩ hm e q => by
  cases e; subst ev; cases rep_int r
  exact ⟨_, rfl, fun p hp => q _ _ _ (.new hm hp) ⟨p, rfl, upd_same⟩⟩
def oRgL (n : Int) : Option (List Int) := if n ≤ 100000 ∧ 0 ≤ n then some (rangeL 0 n) else none
theorem reps_ints (m : Hp) : ∀ xs : List Int, Reps tInt m xs (xs.map .int)
  | [] => .nil
  | x :: r => .cons rfl (reps_ints m r)
theorem sp_lrng : OpLO (fun xs H Q => ∃ (p : Addr) (n : Nat), xs = [.ref p] ∧ n ≤ 100000 ∧ H p = some (.rng 0 n) ∧ ∀ l, H l = none → Q (.ref l) (upd H l (.lst ((rangeL 0 n).map .int)))) (l1 tRng) (oList tInt) oRgL := fun a g vs m H Q ⟨v, ev, p, e1, k⟩ hm e q => by
  unfold oRgL at e
  by_cases z : a ≤ 100000 ∧ 0 ≤ a
  · rw [if_pos z] at e
    cases e
    subst ev e1
    obtain ⟨n, rfl⟩ := Int.eq_ofNat_of_zero_le z.2
    exact ⟨p, n, rfl, by omega, hm _ _ k, fun l hl => newList hm (reps_ints m _) hl q⟩
  · rw [if_neg z] at e; cases e
section
variable {X : Cx} {T : Type} {c : Ctx T} {ds : List Desc} {e : Expr} {p p2 pos pos2 : Pos} {xa : MM T Int}
theorem x_listRng (hc : X.calm = true) (hml : X.mg "list" = none) (hmr : X.mg "range" = none) (ha : PE X e (TX c ds tInt xa)) (hgl : Gl X "list" := by rfl) (hgr : Gl X "range" := by rfl)
    (he : starEach [e] X.env = (false, eval e X.env) :: starEach [] X.env := by rfl) (hpl : (backTo pos2 (starEach [] X.env)).any (·.1) = false := by rfl)
    (he2 : starEach [.Call (.Name "range" p2) [e] [] pos2] X.env = (false, eval (.Call (.Name "range" p2) [e] [] pos2) X.env) :: starEach [] X.env := by rfl) (hpl2 : (backTo pos (starEach [] X.env)).any (·.1) = false := by rfl) :
    PE X (.Call (.Name "list" p) [.Call (.Name "range" p2) [e] [] pos2] [] pos) (TXO c ds (oList tInt) (e1 oRgL (e1 (fun n => some n) xa))) :=
  x_callTyO (call_listRng hc) sp_lrng hml (by decide +kernel) (a_one (x_callTy cr_range1 sp_rng1 hmr (by decide +kernel) (a_one ha he) hgr (by decide) (by decide) he hpl) he2) hgl (by decide) (by decide) he2 hpl2
end
/-! a value of any kind in a list -/
section
variable {A : Type} [DecidableEq A] {K : PySem.W.Frag} {t : Ty A} {n : Nat}
theorem any_eqv (e : EqT K t n) (a : A) (xs : List A) : ((xs.map e.enc).any fun z => PyData.eqv z (e.enc a)) = decide (a ∈ xs) := by
  induction xs with
  | nil => rfl
  | cons x r ih =>
    rw [List.map_cons, List.any_cons, ih, e.eqv]
    by_cases h : x = a
    · subst h; simp
    · have h2 : ¬ a = x := fun z => h z.symm
      simp [h, h2]
theorem sp_inD (e : EqT K t n) (h : n + 1 ≤ 64 := by decide) : Op2 (rInD K) t (tList t) tBool oIn := fun a b g v1 v2 m H Q r1 r2 hm eg q => by
  cases eg
  have e2 := eq_list e
  exact ⟨e.enc a, b.map e.enc, e.dp _ _ _ _ r1 hm, (eq_list e).dp _ _ _ _ r2 hm, shaped_of e (by omega) a, shaped_of (eq_list e) h b, q _ m H (.refl hm) (by rw [any_eqv]; rfl)⟩
theorem sp_ninD (e : EqT K t n) (h : n + 1 ≤ 64 := by decide) : Op2 (rNotInD K) t (tList t) tBool oNotIn := fun a b g v1 v2 m H Q r1 r2 hm eg q => by
  cases eg
  exact ⟨e.enc a, b.map e.enc, e.dp _ _ _ _ r1 hm, (eq_list e).dp _ _ _ _ r2 hm, shaped_of e (by omega) a, shaped_of (eq_list e) h b, q _ m H (.refl hm) (by rw [any_eqv]; rfl)⟩
end
theorem hu65 {A : Around} {k : Nat} (hr : Room k A) : A.units + 65 < cLine := by have := hr.un; omega
/-! a property among a class's names -/
structure PrpI (K : PySem.W.Frag) (C : Addr) (x qual : Str) (st : Stmt) (ps : List Str) where
  p : Addr
  a : Addr
  d : FuncData
  F : Fun K x qual st a d
  pr : PropOf K C x p a
  b : Binds K d ps []
end WL

/-! WLP: objects that change: their fields, methods that change them; dicts by ints, texts and tuples of these. -/
namespace WL
open PySem PySem.Spec PyProof.Rows L2

/-! ### tuples that are tracked -/
def tTupS {A : Type} (l : LTy A) : Ty A := ⟨fun a v m => ∃ p vs, v = .ref p ∧ m p = some (.tup vs) ∧ l.rep a vs m, fun h ⟨p, vs, e, k, r⟩ => ⟨p, vs, e, h _ _ k, l.mono h r⟩⟩
def tVTS {A : Type} (t : Ty A) : Ty (List A) := ⟨fun a v m => ∃ p vs, v = .ref p ∧ m p = some (.tup vs) ∧ Reps t m a vs, fun h ⟨p, vs, e, k, r⟩ => ⟨p, vs, e, h _ _ k, r.mono h⟩⟩
section
variable {X : Cx} {T A B C F : Type} {c : Ctx T} {ds : List Desc} {pos : Pos} {e : Expr} {t : Ty A}
theorem x_wkS {l : LTy A} {xa : MM T A} (h : PE X e (TX c ds (tTupS l) xa)) : PE X e (TX c ds (tTup X.K l) xa) := PE.imp h fun σ H Q ⟨m, st, env, p⟩ =>
  ⟨m, st, env, p.imp fun a s1 p v m1 H1 w1 a1 ⟨q, vs, e, k, r⟩ => p v m1 H1 w1 a1 ⟨q, vs, e, .of k, r⟩⟩
theorem x_wkVS {xa : MM T (List A)} (h : PE X e (TX c ds (tVTS t) xa)) : PE X e (TX c ds (tVT X.K t) xa) := PE.imp h fun σ H Q ⟨m, st, env, p⟩ =>
  ⟨m, st, env, p.imp fun a s1 p v m1 H1 w1 a1 ⟨q, vs, e, k, r⟩ => p v m1 H1 w1 a1 ⟨q, vs, e, .of k, r⟩⟩
theorem tg_tupS {K : PySem.W.Frag} {gs : TGs} {l : LTy A} {n : Nat} {is : List Nat} {bd : A → List Desc → List Desc} (h : GsOk c gs l n is bd) : TgtOk c (gTup K n gs) (tTupS l) is bd := fun a v σ m H ds st Q ⟨p, vs, e, k, r⟩ env q =>
  ⟨p, vs, e, .of (env.mh _ _ k), (h a vs σ m H ds st Q r env).1, (h a vs σ m H ds st Q r env).2 q⟩
theorem x_tupS {es : List Expr} {l : LTy A} {xa : MM T A} {x1} (h : PA X es (TAX c ds l xa)) (hl : ∀ a vs m, l.rep a vs m → vs.length ≤ 100) : PE X (.Tuple es x1 pos) (TX c ds (tTupS l) xa) :=
  PE.imp (pe_tup h) fun σ H Q ⟨m, st, env, p⟩ => ⟨m, st, env, p.imp fun a s1 p vs m1 H1 w1 a1 r1 => ⟨Nat.le_trans (hl a vs m1 r1) (by decide), fun q hq => by
    have w2 : WStep [] m1 H1 (upd m1 q (.tup vs)) (upd H1 q (.tup vs)) := .new w1.mh hq
    exact p (.ref q) _ _ (w1.trans w2.wide) (EnvOk.ambGrow a1 w2) ⟨q, vs, rfl, upd_same, l.mono w2.mm r1⟩⟩⟩
theorem x_tupVS {es : List Expr} {l : LTy B} {xa : MM T B} {f : B → List A} {n : Nat} {x1} (h : PA X es (TAX c ds l xa)) (hl : LRep t l n f) (hn : n ≤ 10000 := by decide) : PE X (.Tuple es x1 pos) (TX c ds (tVTS t) (e1 (fun b => some (f b)) xa)) :=
  PE.imp (pe_tup h) fun σ H Q ⟨m, st, env, p⟩ => ⟨m, st, env, (Post.bnd.mp p).imp fun a s1 p vs m1 H1 w1 a1 r1 => ⟨Nat.le_trans (Nat.le_trans (Nat.le_of_eq (hl.len a vs m1 r1)) hn) (by decide), fun q hq => by
    have w2 : WStep [] m1 H1 (upd m1 q (.tup vs)) (upd H1 q (.tup vs)) := .new w1.mh hq
    exact p (.ref q) _ _ (w1.trans w2.wide) (EnvOk.ambGrow a1 w2) ⟨q, vs, rfl, upd_same, (hl.rep a vs m1 r1).mono w2.mm⟩⟩⟩
theorem sp_tupLS {K : PySem.W.Frag} : OpL (rTupleOf K) (l1 (tList t)) (tVTS t) oCopy := fun a g vs m H Q ⟨v, ev, p, us, e1, k, r⟩ hm e q => by
  cases e; subst ev e1
  refine ⟨p, us, rfl, .inl ⟨.of (hm _ _ k), fun l hl => ?_⟩⟩
  have w : WStep [] m H (upd m l (.tup us)) (upd H l (.tup us)) := .new hm hl
  exact q _ _ _ w ⟨l, us, rfl, upd_same, r.mono w.mm⟩
variable [DecidableEq A] {K : PySem.W.Frag} {n : Nat}
def eq_tupS {l : LTy A} (f : EqL K l n) : EqT K (tTupS l) (n + 1) where
  enc := fun a => .tuple (f.enc a)
  dp := fun a v m H ⟨p, vs, ev, k, r⟩ hm => by subst ev; exact .tup (.of (hm _ _ k)) (f.dp _ _ _ _ r hm)
  eqv := fun a b => by simp only [PyData.eqv]; exact f.eqv a b
  lay := fun a => by simp only [PyData.canLay0]; exact f.lay a
  dep := fun a => by simp only [PyData.depth]; exact Nat.succ_le_succ (f.dep a)
def eq_vtS (e : EqT K t n) : EqT K (tVTS t) (n + 1) where
  enc := fun xs => .tuple (xs.map e.enc)
  dp := fun a v m H ⟨p, vs, ev, k, r⟩ hm => by subst ev; exact .tup (.of (hm _ _ k)) (dpAll_map e hm r)
  eqv := fun a b => by simp only [PyData.eqv]; exact eqvAll_map e a b
  lay := fun a => by simp only [PyData.canLay0]; exact layAll_map e a
  dep := fun a => by simp only [PyData.depth]; exact Nat.succ_le_succ (depAll_map e a)
end

/-! ### dicts by ints, texts, tuples of these -/
structure DKind {A KK : Type} [DecidableEq KK] (t : Ty A) (ho : List (KK × V) → HO) (enc : A → KK) : Prop where
  inj : ∀ a b, enc a = enc b → a = b
  get : ∀ {a : A} {y : V} {m H : Hp} {d : Addr} {kvs : List (KK × V)}, t.rep a y m → Sub m H → H d = some (ho kvs) → DGet H d y (valV kvs (enc a))
  put : ∀ {a : A} {y v : V} {m H : Hp} {d : Addr} {kvs : List (KK × V)}, t.rep a y m → Sub m H → H d = some (ho kvs) → kvs.length < sizeLine → DPut H d y v (upd H d (ho (putK kvs (enc a) v)))
theorem dk_int : DKind tInt HO.dK (Sum.inl : Int → Key) := ⟨fun a b e => by injection e, fun r hm e => by cases rep_int r; exact DGet.k (k := .inl _) e, fun r hm e hl => by cases rep_int r; exact DPut.k (k := .inl _) e hl⟩
theorem dk_str : DKind tStr HO.dK (Sum.inr : Str → Key) := ⟨fun a b e => by injection e, fun r hm e => by cases rep_str r; exact DGet.k (k := .inr _) e, fun r hm e hl => by cases rep_str r; exact DPut.k (k := .inr _) e hl⟩
def encP (a : Int × Int) : List Key := [.inl a.1, .inl a.2]
theorem dk_pair : DKind (tTupS (lc tInt (l1 tInt))) HO.dT encP := by
  have key : ∀ {a : Int × Int} {y : V} {m H : Hp}, (tTupS (lc tInt (l1 tInt))).rep a y m → Sub m H → ∃ b, y = .ref b ∧ H b = some (.tup ((encP a).map kV)) := fun ⟨p, vs, e, k, v, ws, ev, r1, u, ew, r2⟩ hm => by
    cases rep_int r1; cases rep_int r2; subst ev ew e
    exact ⟨p, rfl, hm _ _ k⟩
  refine ⟨fun a b e => ?_, fun r hm e => ?_, fun r hm e hl => ?_⟩
  · obtain ⟨a1, a2⟩ := a; obtain ⟨b1, b2⟩ := b
    unfold encP at e
    injection e with e e2
    injection e2 with e2 _
    injection e with e; injection e2 with e2
    rw [show a1 = b1 from e, show a2 = b2 from e2]
  · obtain ⟨b, rfl, eb⟩ := key r hm; exact DGet.t e eb
  · obtain ⟨b, rfl, eb⟩ := key r hm; exact DPut.t e eb hl
def encV (a : List Int) : List Key := a.map .inl
theorem dk_ints : DKind (tVTS tInt) HO.dT encV := by
  have key : ∀ {a : List Int} {y : V} {m H : Hp}, (tVTS tInt).rep a y m → Sub m H → ∃ b, y = .ref b ∧ H b = some (.tup ((encV a).map kV)) := fun {a y m H} ⟨p, vs, e, k, r⟩ hm => by
    refine ⟨p, e, ?_⟩
    rw [show (encV a).map kV = vs by rw [r.ints]; unfold encV; rw [List.map_map]; rfl]
    exact hm _ _ k
  refine ⟨fun a b e => ?_, fun r hm e => ?_, fun r hm e hl => ?_⟩
  · unfold encV at e
    induction a generalizing b with
    | nil => cases b with
      | nil => rfl
      | cons => cases e
    | cons x a ih => cases b with
      | nil => cases e
      | cons y b =>
        injection e with e1' e2'
        injection e1' with e1'
        rw [e1', ih b e2']
  · obtain ⟨b, rfl, eb⟩ := key r hm; exact DGet.t e eb
  · obtain ⟨b, rfl, eb⟩ := key r hm; exact DPut.t e eb hl
def oDictK {A B KK : Type} [DecidableEq A] [DecidableEq KK] (ho : List (KK × V) → HO) (enc : A → KK) (u : Ty B) : OTy (List (A × B)) where
  rep := fun ds v fp h m => ∃ p kvs, v = .ref p ∧ fp = [p] ∧ h p = some (ho kvs) ∧ DRep enc u m ds kvs
  frame := fun hk hm ⟨p, kvs, e, ef, k, r⟩ => ⟨p, kvs, e, ef, by rw [hk p (by rw [ef]; simp)]; exact k, r.mono hm⟩
  dom := fun ⟨p, kvs, e, ef, k, r⟩ q hq => by rw [ef] at hq; obtain rfl := List.mem_singleton.mp hq; rw [k]; exact fun z => nomatch z
/-- a dict that stays -/
def tDictK {A B KK : Type} [DecidableEq A] [DecidableEq KK] (ho : List (KK × V) → HO) (enc : A → KK) (u : Ty B) : Ty (List (A × B)) :=
  ⟨fun ds v m => ∃ p kvs, v = .ref p ∧ m p = some (ho kvs) ∧ DRep enc u m ds kvs, fun h ⟨p, kvs, e, k, r⟩ => ⟨p, kvs, e, h _ _ k, r.mono h⟩⟩
theorem frz_dictK {A B KK : Type} [DecidableEq A] [DecidableEq KK] {ho : List (KK × V) → HO} {enc : A → KK} {u : Ty B} : Freezes (oDictK ho enc u) (tDictK ho enc u) := fun as v fp h m ⟨p, kvs, e, ef, k, r⟩ hm n => by
  subst ef
  obtain ⟨a1, a2, a3⟩ := frz_put hm k (n p (by simp))
  exact ⟨_, a1, a2, a3, p, kvs, e, upd_same, r.mono a1⟩
/-! displays of one pair -/
def tDispT1 (tk tv : TE) : TE := fun σ H Q => ∀ p, H p = none → tk σ (upd H p (.dT [])) fun y H1 => tv σ H1 fun v H2 => H2 p = some (.dT []) ∧ ∃ k b, y = .ref b ∧ H2 b = some (.tup (k.map kV)) ∧ Q (.ref p) (upd H2 p (.dT [(k, v)]))
theorem dt_rd1 {X : Cx} {pins : List (Addr × Obj)} {σ : L2.St} {H : Hp} {s : Shared} {p : Addr} (I : L2.Inv X pins σ H s) (e : H p = some (.dT [])) : (p == sysModules) = false ∧ s.heap.DictOfH (tupleKind (mixKind X.prog X.w)) p [] := by
  obtain ⟨z, hd, xs, rel, dd⟩ := dt_of I.hok e
  cases rel
  exact ⟨hd, dd⟩
theorem pe_dispT1 {X : Cx} {i value : Expr} {pos : Pos} {ty tv : TE} (hu : X.A.units + 1 < cLine) (hk : PE X i ty) (hv : PE X value tv) : PE X (.Dict [some i] [value] pos) (tDispT1 ty tv) := by
  refine ⟨fun pins s σ H Q I q => ?_⟩
  have hn := I.hok.fresh (Nat.le_refl s.heap.objs.size)
  have I1 := I.laid (a := s.heap.objs.size) (o := .dT []) (h' := s.heap.push { cls := .type "dict", data := .dict #[] }) (t' := s.toks) (fun _ _ q => Heap.get?_push_of_some _ q) (Nat.le_refl _) (dt_empty s.heap I.big)
  have hz := zip_pairTrees [some i] [value] X.env pos rfl rfl
  rw [arm_eval_Dict, hz, dictDisplay_pairs _ (by simp [pairTrees]) (by simp [pairTrees])]
  refine wpAny_bind (wpAny_standAt (wpAny_bind (wpAny_subDictH (knd := tupleKind (mixKind X.prog X.w)) (show X.A.units < cLine by omega) (by simp [pairTrees]) ?_)))
  refine pairTrees_cons_walk (thn (hk.run pins _ σ _ _ I1 (q _ hn)) fun u s1 ⟨y, H1, I2, ry, q1⟩ => thn (hv.run pins s1 σ H1 _ I2 q1) fun w2 s2 ⟨v, H2, I3, rv, e, k, b, ey, eb, q2⟩ => pairTrees_nil_walk ?_)
  subst ey
  cases (show u = Value.ref b from ry)
  obtain ⟨hd, dd⟩ := dt_rd1 I3 e
  refine ⟨[(k, b, w2)], ⟨rfl, rfl, key_of I3.hok eb, trivial⟩, dd, fun h' tk dd' hs => wpAny_pure ⟨.ref s.heap.objs.size, _, ?_, rfl, q2⟩⟩
  obtain ⟨o, es, ep, ho, hx, hdt, he, his, hnd⟩ := dd'
  refine d_write I3 (by rw [e]; exact True.intro) hs ⟨o, ho⟩ ⟨by rw [sizeLine_eq]; simp, hd, [(k, b, w2)], .cons ⟨rfl, ?_, rv⟩ .nil, o, es, ep, ho, hx, hdt, he, hnd⟩
  rw [upd_ne (ne_of eb e (fun z => nomatch z))]
  exact eb
section
variable {X : Cx} {T A B : Type} [DecidableEq A] {c : Ctx T} {ds : List Desc} {t : Ty A} {u : Ty B} {pos : Pos} {e ev : Expr} {xk : MM T A} {xv : MM T B}
/-- {k: v}, the key an int or a text -/
theorem x_dispK {enc : A → Key} (hkv : ∀ a v m, t.rep a v m → v = kV (enc a)) (hk : PE X e (TX c ds t xk)) (hv : PE X ev (TX c ds u xv)) : PE X (.Dict [some e] [ev] pos) (TXO c ds (oDictK HO.dK enc u) (e2 (fun a b => some [(a, b)]) xk xv)) :=
  PE.imp (pe_disp (pps_cons hk hv pps_nil) rfl rfl (by simp) (by simp)) fun σ H Q ⟨m, st, env, p⟩ q hq => by
    have w0 : WStep [] m H m (upd H q (.dK [])) := .own env.mh hq
    unfold e2 at p
    refine ⟨m, st, env.grow w0, (Post.bnd.mp p).imp fun a s1 p v1 m1 H1 w1 a1 r1 => ?_⟩
    refine ⟨m1, s1, (env.grow w0).go w1 a1, (Post.bnd.mp p).imp fun b s2 p v2 m2 H2 w2 a2 r2 => ?_⟩
    have mq : m q = none := env.mh.free hq
    have nq : q ∉ c.afp := fun z => c.ambD env.amb q z hq
    have k1 : upd H q (.dK []) q = some (.dK []) := upd_same
    have k2 := (w1.trans w2).hh q _ nq k1
    have hmq : m2 q = none := (w1.trans w2).ow q mq (by rw [k1]; exact fun z => nomatch z)
    obtain ⟨z, hz, p⟩ := Post.lft.mp p
    cases hz
    have w3 : WStep c.afp m H m2 (upd H2 q (.dK [(enc a, v2)])) := by
      have w12 := (w0.wide (S := c.afp)).trans (w1.trans w2)
      refine ⟨w12.mm, w12.mh.wr hmq, fun y o hy ey => ?_, w12.ow, fun y hy => ?_⟩
      · rw [upd_ne (ne_of_none ey hq)]; exact w12.hh y o hy ey
      · by_cases z : y = q
        · subst z; rw [upd_same]; exact fun q => nomatch q
        · rw [upd_ne z]; exact w12.dm y hy
    refine ⟨k2, [(enc a, v2)], by rw [hkv a v1 m1 r1]; rfl, by simp, p (.ref q) [q] m2 _ w3 (c.ambF (fun y hy => upd_ne fun z => nq (by rw [← z]; exact hy)) (.refl m2) a2) (fun y hy => by obtain rfl := List.mem_singleton.mp hy; exact ⟨hq, hmq⟩) ⟨q, _, rfl, rfl, upd_same, .cons r2 .nil⟩⟩
theorem x_dispT {enc : A → List Key} (hu : X.A.units + 1 < cLine) (hkv : ∀ a v m, t.rep a v m → ∃ b, v = .ref b ∧ m b = some (.tup ((enc a).map kV))) (hk : PE X e (TX c ds t xk)) (hv : PE X ev (TX c ds u xv)) : PE X (.Dict [some e] [ev] pos) (TXO c ds (oDictK HO.dT enc u) (e2 (fun a b => some [(a, b)]) xk xv)) :=
  PE.imp (pe_dispT1 hu hk hv) fun σ H Q ⟨m, st, env, p⟩ q hq => by
    have w0 : WStep [] m H m (upd H q (.dT [])) := .own env.mh hq
    unfold e2 at p
    refine ⟨m, st, env.grow w0, (Post.bnd.mp p).imp fun a s1 p v1 m1 H1 w1 a1 r1 => ?_⟩
    refine ⟨m1, s1, (env.grow w0).go w1 a1, (Post.bnd.mp p).imp fun b s2 p v2 m2 H2 w2 a2 r2 => ?_⟩
    have mq : m q = none := env.mh.free hq
    have nq : q ∉ c.afp := fun z => c.ambD env.amb q z hq
    have k1 : upd H q (.dT []) q = some (.dT []) := upd_same
    have k2 := (w1.trans w2).hh q _ nq k1
    have hmq : m2 q = none := (w1.trans w2).ow q mq (by rw [k1]; exact fun z => nomatch z)
    obtain ⟨z, hz, p⟩ := Post.lft.mp p
    cases hz
    have w3 : WStep c.afp m H m2 (upd H2 q (.dT [(enc a, v2)])) := by
      have w12 := (w0.wide (S := c.afp)).trans (w1.trans w2)
      refine ⟨w12.mm, w12.mh.wr hmq, fun y o hy ey => ?_, w12.ow, fun y hy => ?_⟩
      · rw [upd_ne (ne_of_none ey hq)]; exact w12.hh y o hy ey
      · by_cases z : y = q
        · subst z; rw [upd_same]; exact fun q => nomatch q
        · rw [upd_ne z]; exact w12.dm y hy
    obtain ⟨bb, eb1, eb2⟩ := hkv a v1 m1 r1
    refine ⟨k2, enc a, bb, eb1, w2.mh _ _ (w2.mm _ _ eb2), p (.ref q) [q] m2 _ w3 (c.ambF (fun y hy => upd_ne fun z => nq (by rw [← z]; exact hy)) (.refl m2) a2) (fun y hy => by obtain rfl := List.mem_singleton.mp hy; exact ⟨hq, hmq⟩) ⟨q, _, rfl, rfl, upd_same, .cons r2 .nil⟩⟩
end
theorem kv_int : ∀ (a : Int) (v : V) (m : Hp), tInt.rep a v m → v = kV (Sum.inl a) := fun a v m r => r
theorem kv_str : ∀ (a : Str) (v : V) (m : Hp), tStr.rep a v m → v = kV (Sum.inr a) := fun a v m r => r
theorem kv_pair : ∀ (a : Int × Int) (v : V) (m : Hp), (tTupS (lc tInt (l1 tInt))).rep a v m → ∃ b, v = .ref b ∧ m b = some (.tup ((encP a).map kV)) := fun a v m ⟨p, vs, e, k, w, ws, ev, r1, u, ew, r2⟩ => by
  cases rep_int r1; cases rep_int r2; subst ev ew e
  exact ⟨p, rfl, k⟩
theorem kv_ints : ∀ (a : List Int) (v : V) (m : Hp), (tVTS tInt).rep a v m → ∃ b, v = .ref b ∧ m b = some (.tup ((encV a).map kV)) := fun a v m ⟨p, vs, e, k, r⟩ => by
  refine ⟨p, e, ?_⟩
  rw [show (encV a).map kV = vs by rw [r.ints]; unfold encV; rw [List.map_map]; rfl]
  exact k

/-! ### parts of the state -/
/-- the state's part that get tells is the object v -/
structure PartC {T A : Type} (c : Ctx T) (o : OTy A) (v : V) (get : T → A) (put : A → T → T) where
  fp : List Addr
  sub : ∀ p ∈ fp, p ∈ c.afp
  gt : ∀ {st : T} {h m : Hp}, c.amb st h m → o.rep (get st) v fp h m
  pt : ∀ {st : T} {h m h' : Hp} {a : A}, c.amb st h m → (∀ p, p ∉ fp → h' p = h p) → o.rep a v fp h' m → c.amb (put a st) h' m
def PartC.pin {T A : Type} {c : Ctx T} {o : OTy A} {v : V} {get : T → A} {put : A → T → T} {q : Hp → Prop} {hq : ∀ {m n : Hp}, Sub m n → q m → q n} (h : PartC c o v get put) : PartC (c.pinned q hq) o v get put := ⟨h.fp, h.sub, h.gt, h.pt⟩
def PartC.nox {T A : Type} {c : Ctx T} {o : OTy A} {v : V} {get : T → A} {put : A → T → T} (h : PartC c o v get put) : PartC c.nox o v get put := ⟨h.fp, h.sub, h.gt, h.pt⟩
/-- e is this object -/
def PlTE {T : Type} (c : Ctx T) (ds : List Desc) (v : V) : TE := fun σ H Q => ∃ m st, EnvOk c σ m H ds st ∧ Q v H
theorem one_wr {p q : Addr} {H : Hp} {u : HO} (h : q ∉ [p]) : upd H p u q = H q := upd_ne (by simpa using h)
section
variable {X : Cx} {T A B F : Type} {c : Ctx T} {ds : List Desc} {t : Ty A} {pos p2 p3 : Pos} {e o : Expr} {P : F → T → Ends → Prop} {rest : List Stmt} {v : V}
theorem EnvOk.wrote {σ : L2.St} {m h : Hp} {st st' : T} {p : Addr} {u : HO} (x : EnvOk c σ m h ds st) (hp : p ∈ c.afp) (am : c.amb st' (upd h p u) m) : EnvOk c σ m (upd h p u) ds st' :=
  x.go (.put x.mh (x.own p hp) hp) am
/-- len(o) -/
theorem p_len {get : T → List A} {put : List A → T → T} (hp : PartC c (oList t) v get put) (ho : PE X o (PlTE c ds v)) (hm : X.mg "len" = none) (hg : Gl X "len" := by rfl)
    (he : starEach [o] X.env = (false, eval o X.env) :: starEach [] X.env := by rfl) (hpl : (backTo pos (starEach [] X.env)).any (·.1) = false := by rfl) :
    PE X (.Call (.Name "len" p2) [o] [] pos) (TX c ds tInt (getP fun st => ((get st).length : Int))) :=
  PE.imp (pe_callB call_len' hg hm PySem.boot_len (pa_cons ho pa_nil he) (by decide) (by decide) he hpl) fun σ H Q ⟨m, st, env, p⟩ => by
    obtain ⟨q, us, ev, ef, k, r⟩ := hp.gt env.amb
    subst ev
    exact ⟨m, st, env, q, us, rfl, .inl (.of k), p _ m H (.refl env.mh) env.amb (by show V.int (us.length : Int) = V.int ((get st).length : Int); rw [r.length])⟩
/-- o[b] -/
theorem p_at {get : T → List A} {put : List A → T → T} {b : Expr} {xb : MM T Int} (hp : PartC c (oList t) v get put) (ho : PE X o (PlTE c ds v)) (hb : PE X b (TX c ds tInt xb)) (hpx : PlainIx b := by exact fun _ _ => rfl) :
    PE X (.Subscript o b pos) (TX c ds t (bnd xb fun k => bnd (getP get) fun xs => lft (oAt xs k))) := PE.imp (pe_ix ix_list ho hb hpx) fun σ H Q ⟨m, st, env, p⟩ =>
  ⟨m, st, env, m, st, env, (Post.bnd.mp p).imp fun k s1 p v1 m1 H1 w1 a1 r1 => by
    cases rep_int r1
    obtain ⟨a, ha, p⟩ := Post.lft.mp (show Post (lft (oAt (get s1) k) s1) _ _ from p)
    obtain ⟨q, us, ev, ef, kk, r⟩ := hp.gt a1
    obtain ⟨u, hu, ru⟩ := at_reps r ha
    exact ⟨q, us, k, u, ev, rfl, .of kk, hu, p u m1 H1 w1 a1 ru⟩⟩
/-- o.append(e) -/
theorem b_papp {get : T → List A} {put : List A → T → T} {call : Expr} {xa : MM T A} {k : MM T F} (hp : PartC c (oList t) v get put) (he : PE X call (tBM X.K "list" rAppend (PlTE c ds v) (tCons (TX c ds t xa) tNil))) (h2 : PSs X rest (BX c ds k P))
    (hs : swapsWith call none pos.line X.env = pure false := by rfl) :
    PSs X (.Expr call pos :: rest) (BX c ds (bnd xa fun a => bnd (getP get) fun xs => bnd (lft (oApp xs a)) fun ys => bnd (modP (put ys)) fun _ => k) P) :=
  PSs.imp (pss_cons (ps_expr he hs) h2) fun D σ H ⟨m, st, env, p⟩ => by
    obtain ⟨q, us, ev, ef, kk, r⟩ := hp.gt env.amb
    subst ev
    refine ⟨m, st, env, .inl ⟨rfl, us, .of kk⟩, m, st, env, (Post.bnd.mp p).imp fun a s1 p v1 m1 H1 w1 a1 r1 => ?_⟩
    have env1 := env.go w1 a1
    obtain ⟨ys, hy, p⟩ := Post.lft.mp (Post.bnd.mp (show Post (bnd (lft (oApp (get s1) a)) (fun ys => bnd (modP (put ys)) fun _ => k) s1) _ _ from p))
    unfold oApp at hy
    by_cases z : (get s1).length < 100000
    · rw [if_pos z] at hy; cases hy
      obtain ⟨q', us', ev', ef', kk', r'⟩ := hp.gt a1
      cases ev'
      refine ⟨q, us', v1, rfl, rfl, kk', by rw [← r'.length]; exact Nat.lt_of_lt_of_le z (by decide), m1, _, ?_, p⟩
      refine env1.wrote (hp.sub q (by rw [ef']; simp)) (hp.pt a1 (fun y hy => upd_ne fun z => hy (by rw [ef', z]; simp)) ⟨q, _, rfl, ef', upd_same, r'.append (.cons r1 .nil)⟩)
    · rw [if_neg z] at hy; cases hy
/-! dicts -/
variable {KK : Type} [DecidableEq A] [DecidableEq KK] {ho : List (KK × V) → HO} {enc : A → KK} {u : Ty B} {xk : MM T A} {get : T → List (A × B)} {put : List (A × B) → T → T}
theorem rd_pin {r : Bool} {σ : L2.St} {H : Hp} {Q : VK} (hp : PartC c (oDictK ho enc u) v get put) (dk : DKind t ho enc) (q : TX c ds tBool (bnd xk fun a => getP fun st => if r then !aHas (get st) a else aHas (get st) a) σ H Q) :
    TX c ds t xk σ H fun y H1 => PlTE c ds v σ H1 fun x H2 => ∃ a o, x = .ref a ∧ DGet H2 a y o ∧ Q (.bl (if r then !o.isSome else o.isSome)) H2 := by
  obtain ⟨m, st, env, p⟩ := q
  refine ⟨m, st, env, (Post.bnd.mp p).imp fun a s1 p v1 m1 H1 w1 a1 r1 => ⟨m1, s1, env.go w1 a1, ?_⟩⟩
  obtain ⟨q, kvs, ev, ef, kk, r2⟩ := hp.gt a1
  refine ⟨q, _, ev, dk.get r1 w1.mh kk, ?_⟩
  have e : (valV kvs (enc a)).isSome = aHas (get s1) a := by
    unfold aHas
    rcases r2.get dk.inj a with ⟨z1, z2⟩ | ⟨b, y, z1, z2, _⟩
    · rw [z1, z2]; rfl
    · rw [z1, z2]; rfl
  rw [e]
  exact p _ m1 H1 w1 a1 rfl
theorem p_in (hp : PartC c (oDictK ho enc u) v get put) (dk : DKind t ho enc) (hu : X.A.units + 1 < cLine) (ho : PE X o (PlTE c ds v)) (he : PE X e (TX c ds t xk)) (hm : behindInMarks .In o = false := by first | exact nomark _ | rfl) :
    PE X (.Compare e [.In] [o] pos) (TX c ds tBool (bnd xk fun a => getP fun st => aHas (get st) a)) := PE.imp (pe_cmp (pc_din hu he ho) hm) fun σ H Q q => rd_pin (r := false) hp dk q
theorem p_nin (hp : PartC c (oDictK ho enc u) v get put) (dk : DKind t ho enc) (hu : X.A.units + 1 < cLine) (ho : PE X o (PlTE c ds v)) (he : PE X e (TX c ds t xk)) (hm : behindInMarks .NotIn o = false := by first | exact nomark _ | rfl) :
    PE X (.Compare e [.NotIn] [o] pos) (TX c ds tBool (bnd xk fun a => getP fun st => !aHas (get st) a)) := PE.imp (pe_cmp (pc_dnotin hu he ho) hm) fun σ H Q q => rd_pin (r := true) hp dk q
theorem t_pin (hp : PartC c (oDictK ho enc u) v get put) (dk : DKind t ho enc) (hu : X.A.units + 1 < cLine) (ho : PE X o (PlTE c ds v)) (he : PE X e (TX c ds t xk)) (hm : behindInMarks .In o = false := by first | exact nomark _ | rfl) :
    PT X (.Compare e [.In] [o] pos) (TTX c ds (bnd xk fun a => getP fun st => aHas (get st) a)) := PT.imp (pt_cmp (pc_din hu he ho) hm) fun σ H Q ⟨m, st, env, p⟩ => by
  have q : TX c ds tBool (bnd xk fun a => getP fun st => aHas (get st) a) σ H (fun x H' => ∃ k, x = .bl k ∧ Q k H') := ⟨m, st, env, p.imp fun a s1 p v m1 H1 w1 a1 r1 => ⟨a, r1, p m1 H1 w1 a1⟩⟩
  exact rd_pin (r := false) hp dk q
theorem t_pnin (hp : PartC c (oDictK ho enc u) v get put) (dk : DKind t ho enc) (hu : X.A.units + 1 < cLine) (ho : PE X o (PlTE c ds v)) (he : PE X e (TX c ds t xk)) (hm : behindInMarks .NotIn o = false := by first | exact nomark _ | rfl) :
    PT X (.Compare e [.NotIn] [o] pos) (TTX c ds (bnd xk fun a => getP fun st => !aHas (get st) a)) := PT.imp (pt_cmp (pc_dnotin hu he ho) hm) fun σ H Q ⟨m, st, env, p⟩ => by
  have q : TX c ds tBool (bnd xk fun a => getP fun st => !aHas (get st) a) σ H (fun x H' => ∃ k, x = .bl k ∧ Q k H') := ⟨m, st, env, p.imp fun a s1 p v m1 H1 w1 a1 r1 => ⟨a, r1, p m1 H1 w1 a1⟩⟩
  exact rd_pin (r := true) hp dk q
theorem p_get (hp : PartC c (oDictK ho enc u) v get put) (dk : DKind t ho enc) (hu : X.A.units + 1 < cLine) (ho : PE X o (PlTE c ds v)) (he : PE X e (TX c ds t xk)) (hs : NoSl e := by exact fun _ _ => rfl) :
    PE X (.Subscript o e pos) (TX c ds u (bnd xk fun k => bnd (getP get) fun xs => lft (aGet xs k))) := PE.imp (pe_dget hu ho he hs) fun σ H Q ⟨m, st, env, p⟩ =>
  ⟨m, st, env, m, st, env, (Post.bnd.mp p).imp fun k s1 p v1 m1 H1 w1 a1 r1 => by
    obtain ⟨b, hb, p⟩ := Post.lft.mp (show Post (lft (aGet (get s1) k) s1) _ _ from p)
    obtain ⟨q, kvs, ev, ef, kk, r2⟩ := hp.gt a1
    rcases r2.get dk.inj k with ⟨z1, _⟩ | ⟨b', y, z1, z2, z3⟩
    · rw [z1] at hb; cases hb
    · rw [z1] at hb; cases hb
      have g := dk.get r1 w1.mh kk
      rw [z2] at g
      exact ⟨q, y, ev, g, p y m1 H1 w1 a1 z3⟩⟩
theorem b_pput {ev : Expr} {xv : MM T B} {k : MM T F} (hp : PartC c (oDictK ho enc u) v get put) (dk : DKind t ho enc) (hu : X.A.units + 1 < cLine) (ho : PE X o (PlTE c ds v)) (hv : PE X ev (TX c ds u xv)) (he : PE X e (TX c ds t xk)) (h2 : PSs X rest (BX c ds k P))
    (hs : swapsWith ev (some (.Subscript o e p3)) pos.line X.env = pure false := by rfl) :
    PSs X (.Assign [.Subscript o e p3] ev pos :: rest) (BX c ds (bnd xv fun a => bnd xk fun j => bnd (getP get) fun xs => bnd (lft (oPut xs j a)) fun ys => bnd (modP (put ys)) fun _ => k) P) :=
  PSs.imp (pss_cons (ps_dput hu ho he hv hs) h2) fun D σ H ⟨m, st, env, p⟩ => by
    refine ⟨m, st, env, (Post.bnd.mp p).imp fun a s1 p v1 m1 H1 w1 a1 r1 => ?_⟩
    have env1 := env.go w1 a1
    refine ⟨m1, s1, env1, m1, s1, env1, (Post.bnd.mp p).imp fun j s2 p v2 m2 H2 w2 a2 r2 => ?_⟩
    have env2 := env1.go w2 a2
    obtain ⟨ys, hy, p⟩ := Post.lft.mp (Post.bnd.mp (show Post (bnd (lft (oPut (get s2) j a)) (fun ys => bnd (modP (put ys)) fun _ => k) s2) _ _ from p))
    obtain ⟨q, kvs, ev, ef, kk, r'⟩ := hp.gt a2
    unfold oPut at hy
    by_cases z : (get s2).length < 100000
    · rw [if_pos z] at hy; cases hy
      refine ⟨q, _, ev, dk.put r2 w2.mh kk (by rw [← r'.length]; exact Nat.lt_of_lt_of_le z (by decide)), m2, _, ?_, p⟩
      exact env2.wrote (hp.sub q (by rw [ef]; simp)) (hp.pt a2 (fun y hy => upd_ne fun z => hy (by rw [ef, z]; simp)) ⟨q, _, ev, ef, upd_same, r'.put dk.inj j (u.mono w2.mm r1)⟩)
    · rw [if_neg z] at hy; cases hy
end
end WL

/-! WLQ: objects that change: fields, methods, making, the state of a def's body. -/
namespace WL
open PySem PySem.Spec PyProof.Rows L2

/-- a field of an object that changes: what it holds in the state, L where its own objects stand -/
structure FO (T : Type) where
  n : Str
  P : T → (Str → V) → V → List Addr → Hp → Hp → Prop
  frame : ∀ {st : T} {L : Str → V} {v : V} {fp : List Addr} {h m h' m' : Hp}, (∀ p ∈ fp, h' p = h p) → Sub m m' → P st L v fp h m → P st L v fp h' m'
  dom : ∀ {st : T} {L : Str → V} {v : V} {fp : List Addr} {h m : Hp}, P st L v fp h m → ∀ p ∈ fp, h p ≠ none
  loc : ∀ {st : T} {L L' : Str → V} {v : V} {fp : List Addr} {h m : Hp}, L n = L' n → P st L v fp h m → P st L' v fp h m
def fov {T A : Type} (n : Str) (t : Ty A) (g : T → A) : FO T := ⟨n, fun st L v fp h m => fp = [] ∧ t.rep (g st) v m, fun _ hm ⟨e, r⟩ => ⟨e, t.mono hm r⟩, fun ⟨e, _⟩ p hp => by rw [e] at hp; simp at hp, fun _ h => h⟩
def foo {T A : Type} (n : Str) (o : OTy A) (g : T → A) : FO T := ⟨n, fun st L v fp h m => v = L n ∧ o.rep (g st) v fp h m, fun hk hm ⟨e, r⟩ => ⟨e, o.frame hk hm r⟩, fun ⟨_, r⟩ => o.dom r, fun e ⟨q, r⟩ => ⟨by rw [q, e], r⟩⟩
inductive FReps {T : Type} (L : Str → V) (h m : Hp) (st : T) : List (FO T) → List (Str × V) → List (List Addr) → Prop where
  | nil : FReps L h m st [] [] []
  | cons {d : FO T} {F : List (FO T)} {v : V} {fs : List (Str × V)} {fp : List Addr} {fps : List (List Addr)} : d.P st L v fp h m → FReps L h m st F fs fps → FReps L h m st (d :: F) ((d.n, v) :: fs) (fp :: fps)
section
variable {T : Type} {L L' : Str → V} {h m h' m' : Hp} {st st' : T} {F : List (FO T)} {fs : List (Str × V)} {fps : List (List Addr)}
theorem FReps.go (r : FReps L h m st F fs fps) (hm : Sub m m') : (∀ p ∈ fps.flatten, h' p = h p) → FReps L h' m' st F fs fps := by
  induction r with
  | nil => intro _; exact .nil
  | cons a _ ih => intro hk; exact .cons (FO.frame _ (fun p hp => hk p (by simp [hp])) hm a) (ih fun p hp => hk p (by rw [List.flatten_cons]; exact List.mem_append_right _ hp))
theorem FReps.dom (r : FReps L h m st F fs fps) : ∀ p ∈ fps.flatten, h p ≠ none := by
  induction r with
  | nil => intro p hp; simp at hp
  | cons a _ ih =>
    intro p hp
    rw [List.flatten_cons] at hp
    rcases List.mem_append.mp hp with z | z
    · exact FO.dom _ a p z
    · exact ih p z
theorem FReps.loc (r : FReps L h m st F fs fps) : (∀ d ∈ F, L d.n = L' d.n) → FReps L' h m st F fs fps := by
  induction r with
  | nil => intro _; exact .nil
  | cons a _ ih => intro hk; exact .cons (FO.loc _ (hk _ List.mem_cons_self) a) (ih fun d hd => hk d (List.mem_cons_of_mem _ hd))
theorem FReps.len (r : FReps L h m st F fs fps) : F.length = fs.length := by
  induction r with
  | nil => rfl
  | cons _ _ ih => simp [ih]
theorem FReps.snoc {d : FO T} {v : V} {fp : List Addr} (r : FReps L h m st F fs fps) (q : d.P st L v fp h m) : (∀ x ∈ F, ¬ x.n = d.n) → FReps L h m st (F ++ [d]) (putF d.n v fs) (fps ++ [fp]) := by
  induction r with
  | nil => intro _; exact .cons q .nil
  | cons a _ ih =>
    intro hk
    show FReps L h m st (_ :: (_ ++ [d])) (if _ then _ else _) _
    rw [if_neg (hk _ List.mem_cons_self)]
    exact .cons a (ih fun x hx => hk x (List.mem_cons_of_mem _ hx))
end
/-- fields that put leaves alone -/
inductive Ind {T A : Type} (put : A → T → T) : List (FO T) → Prop where
  | nil : Ind put []
  | cons {d : FO T} {F : List (FO T)} : (∀ a st L v fp h m, d.P st L v fp h m → d.P (put a st) L v fp h m) → Ind put F → Ind put (d :: F)
theorem Ind.go {T A : Type} {put : A → T → T} {F : List (FO T)} (i : Ind put F) {L : Str → V} {h m : Hp} {st : T} {a : A} : ∀ {fs : List (Str × V)} {fps : List (List Addr)}, FReps L h m st F fs fps → FReps L h m (put a st) F fs fps := by
  induction i with
  | nil => intro fs fps r; cases r; exact .nil
  | cons q _ ih => intro fs fps r; cases r with | cons a t => exact .cons (q _ _ _ _ _ _ _ a) (ih t)
structure FOwn {T A : Type} (F : List (FO T)) (f : Str) (k : Nat) (o : OTy A) (g : T → A) (put : A → T → T) : Prop where
  acc : ∀ {L : Str → V} {st : T} {h m : Hp} {fs : List (Str × V)} {fps : List (List Addr)}, FReps L h m st F fs fps → ∃ fp, fps[k]? = some fp ∧ fs.lookup f = some (L f) ∧ o.rep (g st) (L f) fp h m
  put : ∀ {L : Str → V} {st : T} {h m h' : Hp} {fs : List (Str × V)} {fps : List (List Addr)} {fp : List Addr} {a : A}, FReps L h m st F fs fps → fps[k]? = some fp → fps.flatten.Nodup → (∀ p, p ∉ fp → h' p = h p) → o.rep a (L f) fp h' m → FReps L h' m (put a st) F fs fps
section
variable {T A : Type} {F : List (FO T)} {f : Str} {k : Nat} {o : OTy A} {t : Ty A} {g : T → A} {put : A → T → T}
theorem fow_z (hi : Ind put F) (hg : ∀ a st, g (put a st) = a) : FOwn (foo f o g :: F) f 0 o g put := ⟨fun r => by
    cases r with
    | cons a _ =>
      obtain ⟨e, a⟩ := a
      exact ⟨_, rfl, by simp only [List.lookup, foo, beq_self_eq_true]; rw [e], by rw [e] at a; exact a⟩, fun r hk nd hh q => by
    cases r with
    | cons a t =>
      obtain ⟨e, a⟩ := a
      cases hk
      refine .cons ⟨e, by rw [hg, e]; exact q⟩ (hi.go (t.go (.refl _) fun p hp => hh p fun z => ?_))
      rw [List.flatten_cons, List.nodup_append] at nd
      exact nd.2.2 p z p hp rfl⟩
theorem fow_s {d : FO T} (h : FOwn F f k o g put) (hn : (f == d.n) = false) (hd : ∀ a st L v fp h m, d.P st L v fp h m → d.P (put a st) L v fp h m) : FOwn (d :: F) f (k + 1) o g put := ⟨fun r => by
    cases r with
    | cons a t =>
      obtain ⟨fp, e1', e2', q⟩ := h.acc t
      exact ⟨fp, by simpa using e1', by simp only [List.lookup, hn]; exact e2', q⟩, fun {L st hh m h' fs fps fp a} r hk nd hp q => by
    cases r with
    | @cons _ _ v fs fp0 fps x t =>
      have hk : fps[k]? = some fp := by simpa using hk
      rw [List.flatten_cons, List.nodup_append] at nd
      refine .cons (hd _ _ _ _ _ _ _ (d.frame (fun p hp0 => hp p fun z => ?_) (.refl _) x)) (h.put t hk nd.2.1 hp q)
      exact nd.2.2 p hp0 p (List.mem_flatten.mpr ⟨fp, List.mem_of_getElem? hk, z⟩) rfl⟩
structure FVal (F : List (FO T)) (f : Str) (t : Ty A) (g : T → A) (put : A → T → T) : Prop where
  acc : ∀ {L : Str → V} {st : T} {h m : Hp} {fs : List (Str × V)} {fps : List (List Addr)}, FReps L h m st F fs fps → ∃ v, fs.lookup f = some v ∧ t.rep (g st) v m
  put : ∀ {L : Str → V} {st : T} {h m : Hp} {fs : List (Str × V)} {fps : List (List Addr)} {a : A} {v : V}, FReps L h m st F fs fps → t.rep a v m → FReps L h m (put a st) F (putF f v fs) fps
theorem fva_z (hi : Ind put F) (hg : ∀ a st, g (put a st) = a) : FVal (fov f t g :: F) f t g put := ⟨fun r => by
    cases r with
    | cons a _ => exact ⟨_, by simp only [List.lookup, fov, beq_self_eq_true], a.2⟩, fun {L st h m fs fps a v} r q => by
    cases r with
    | cons x y =>
      show FReps L h m (put a st) _ (if _ then _ else _) _
      rw [if_pos (show (fov f t g).n = f from rfl)]
      exact .cons (d := fov f t g) ⟨x.1, by rw [hg]; exact q⟩ (hi.go y)⟩
theorem fva_s {d : FO T} (h : FVal F f t g put) (hn : (f == d.n) = false) (hd : ∀ a st L v fp h m, d.P st L v fp h m → d.P (put a st) L v fp h m) : FVal (d :: F) f t g put := ⟨fun r => by
    cases r with
    | cons a y =>
      obtain ⟨v, e2', q⟩ := h.acc y
      exact ⟨v, by simp only [List.lookup, hn]; exact e2', q⟩, fun {L st hh m fs fps a v} r q => by
    cases r with
    | cons x y =>
      show FReps L hh m (put a st) _ (if _ then _ else _) _
      rw [if_neg fun z => by rw [z] at hn; simp at hn]
      exact .cons (hd _ _ _ _ _ _ _ x) (h.put y q)⟩
/-- no field has the name -/
def FNoO (F : List (FO T)) (f : Str) : Prop := ∀ (L : Str → V) (st : T) (h m : Hp) (fs : List (Str × V)) (fps : List (List Addr)), FReps L h m st F fs fps → fs.lookup f = none
theorem fnoO (h : F.all (fun d => !(f == d.n)) = true) : FNoO F f := fun L st hh m fs fps r => by
  induction r with
  | nil => rfl
  | @cons d _ _ _ _ _ a _ ih =>
    rw [List.all_cons, Bool.and_eq_true] at h
    have e : (f == d.n) = false := by simpa using h.1
    simp only [List.lookup, e]
    exact ih h.2
end
/-- where an object stands: its address, its own objects -/
structure OLoc where
  x : Addr
  L : Str → V
  fps : List (List Addr)
def OLoc.fp (j : OLoc) : List Addr := j.x :: j.fps.flatten
def ambA {T : Type} (C : Addr) (F : List (FO T)) (j : OLoc) (st : T) (h m : Hp) : Prop := j.fp.Nodup ∧ ∃ dx fs, h j.x = some (.ins C dx fs) ∧ FReps j.L h m st F fs j.fps
section
variable {T : Type} {C : Addr} {F : List (FO T)} {j : OLoc} {st st' : T} {h m h' m' : Hp}
theorem ambA.frame (hk : ∀ p ∈ j.fp, h' p = h p) (hm : Sub m m') (r : ambA C F j st h m) : ambA C F j st h' m' := by
  obtain ⟨nd, dx, fs, k, r⟩ := r
  exact ⟨nd, dx, fs, by rw [hk j.x List.mem_cons_self]; exact k, r.go hm fun p hp => hk p (List.mem_cons_of_mem _ hp)⟩
theorem ambA.dom (r : ambA C F j st h m) : ∀ p ∈ j.fp, h p ≠ none := by
  obtain ⟨nd, dx, fs, k, r⟩ := r
  intro p hp
  rcases List.mem_cons.mp hp with z | z
  · subst z; rw [k]; exact fun z => nomatch z
  · exact r.dom p z
end
/-- an object that changes, owned -/
def oObj {T : Type} (C : Addr) (F : List (FO T)) : OTy T where
  rep := fun st v fp h m => ∃ j : OLoc, v = .ref j.x ∧ fp = j.fp ∧ ambA C F j st h m
  frame := fun hk hm ⟨j, e, ef, r⟩ => ⟨j, e, ef, r.frame (by rw [← ef]; exact hk) hm⟩
  dom := fun ⟨j, e, ef, r⟩ => by rw [ef]; exact r.dom
/-- an object that is part of the state -/
structure ObjC {T S : Type} (c : Ctx T) (C : Addr) (F : List (FO S)) (j : OLoc) (get : T → S) (put : S → T → T) : Prop where
  sub : ∀ p ∈ j.fp, p ∈ c.afp
  gt : ∀ {st : T} {h m : Hp}, c.amb st h m → ambA C F j (get st) h m
  pt : ∀ {st : T} {s : S} {h m h' m' : Hp}, c.amb st h m → (∀ p o, p ∉ j.fp → h p = some o → h' p = some o) → Sub m m' → ambA C F j s h' m' → c.amb (put s st) h' m'
theorem ObjC.pin {T S : Type} {c : Ctx T} {C : Addr} {F : List (FO S)} {j : OLoc} {get : T → S} {put : S → T → T} {q : Hp → Prop} {hq : ∀ {m n : Hp}, Sub m n → q m → q n} (h : ObjC c C F j get put) : ObjC (c.pinned q hq) C F j get put := ⟨h.sub, h.gt, h.pt⟩
theorem ObjC.nox {T S : Type} {c : Ctx T} {C : Addr} {F : List (FO S)} {j : OLoc} {get : T → S} {put : S → T → T} (h : ObjC c C F j get put) : ObjC c.nox C F j get put := ⟨h.sub, h.gt, h.pt⟩
def aCtx {T : Type} (K : PySem.W.Frag) (cls : Nat → Addr) (C : Addr) (F : List (FO T)) (j : OLoc) (m H : Hp) (E : XK) : Ctx T where
  K := K
  cls := cls
  S := j.fp
  m0 := m
  H0 := H
  afp := j.fp
  amb := ambA C F j
  ambF := fun hk hm r => r.frame hk hm
  ambD := fun r => r.dom
  afr := fun q hq => .inl hq
  pin := fun _ => True
  pinM := fun _ _ => trivial
  err := fun e st => ∀ d m' H', WStep j.fp m H m' H' → ambA C F j st H' m' → XdAt H m' H' d e → E (.ref (cls e.k)) (some d) H'
theorem aErr {T : Type} {K : PySem.W.Frag} {cls : Nat → Addr} {C : Addr} {F : List (FO T)} {j : OLoc} {m H : Hp} {E : XK} : ErrC (aCtx K cls C F j m H E) (fun c d _ H => E c d H) := fun e st d σ m' H' ds h env hd _ => h d m' H' env.step env.amb hd
theorem aObj {T : Type} {K : PySem.W.Frag} {cls : Nat → Addr} {C : Addr} {F : List (FO T)} {j : OLoc} {m H : Hp} {E : XK} : ObjC (aCtx K cls C F j m H E) C F j id (fun s _ => s) := ⟨fun _ h => h, fun h => h, fun _ _ _ h => h⟩
/-- its own part f -/
def ObjC.part {T S A : Type} {c : Ctx T} {C : Addr} {F : List (FO S)} {j : OLoc} {get : T → S} {put : S → T → T} {f : Str} {k : Nat} {o : OTy A} {g : S → A} {pf : A → S → S} (hc : ObjC c C F j get put) (hf : FOwn F f k o g pf) :
    PartC c o (j.L f) (fun st => g (get st)) (fun a st => put (pf a (get st)) st) where
  fp := j.fps.getD k []
  sub := fun p hp => hc.sub p (List.mem_cons_of_mem _ (by
    rw [List.getD_eq_getElem?_getD] at hp
    cases e : j.fps[k]? with
    | none => rw [e] at hp; simp at hp
    | some fp => rw [e] at hp; exact List.mem_flatten.mpr ⟨fp, List.mem_of_getElem? e, hp⟩))
  gt := fun am => by
    obtain ⟨nd, dx, fs, kk, r⟩ := hc.gt am
    obtain ⟨fp, e, _, q⟩ := hf.acc r
    rw [List.getD_eq_getElem?_getD, e]
    exact q
  pt := fun {st h m h' a} am hh q => by
    obtain ⟨nd, dx, fs, kk, r⟩ := hc.gt am
    obtain ⟨fp, e, _, q0⟩ := hf.acc r
    have e2 : j.fps.getD k [] = fp := by rw [List.getD_eq_getElem?_getD, e]; rfl
    rw [e2] at hh q
    have hx : j.x ∉ j.fps.flatten := (List.nodup_cons.mp nd).1
    have hin : ∀ p ∈ fp, p ∈ j.fps.flatten := fun p hp => List.mem_flatten.mpr ⟨fp, List.mem_of_getElem? e, hp⟩
    refine hc.pt am (fun p o hp ep => ?_) (.refl m) ⟨nd, dx, fs, ?_, hf.put r e (List.nodup_cons.mp nd).2 hh q⟩
    · rw [hh p fun z => hp (List.mem_cons_of_mem _ (hin p z))]; exact ep
    · rw [hh j.x fun z => hx (hin _ z)]; exact kk
/-- a def or method that changes an object -/
def SpA {T A B : Type} (cls : Nat → Addr) (C : Addr) (F : List (FO T)) (la : Addr → LTy A) (t : Ty B) (f : A → MM T B) : Sp := fun vs H Q E => ∃ j a m st, (la j.x).rep a vs m ∧ Sub m H ∧ (∀ p ∈ j.fp, m p = none) ∧ ambA C F j st H m ∧
  Post (f a st) (fun b st' => ∀ v m' H', WStep j.fp m H m' H' → ambA C F j st' H' m' → t.rep b v m' → Q v H') (fun e st' => ∀ d m' H', WStep j.fp m H m' H' → ambA C F j st' H' m' → XdAt H m' H' d e → E (.ref (cls e.k)) (some d) H')
/-- a computation on a part of the state -/
def zoom {T S B : Type} (get : T → S) (put : S → T → T) (x : MM S B) : MM T B := fun s => match x (get s) with
  | .ok a s1 => .ok a (put s1 s)
  | .err e s1 => .err e (put s1 s)
  | .stuck => .stuck
theorem Post.zoom {T S B : Type} {get : T → S} {put : S → T → T} {x : MM S B} {s : T} {P : B → T → Prop} {E : Exn → T → Prop} : Post (zoom get put x s) P E ↔ Post (x (get s)) (fun a s1 => P a (put s1 s)) (fun e s1 => E e (put s1 s)) := by
  unfold WL.zoom
  cases x (get s) <;> rfl
theorem zoom_id {T B : Type} (x : MM T B) : zoom id (fun s _ => s) x = x := by
  funext s
  unfold zoom
  show (match x s with
    | .ok a s1 => RS.ok a s1
    | .err e s1 => .err e s1
    | .stuck => .stuck) = x s
  cases x s <;> rfl
section
variable {X : Cx} {T S A B R : Type} {c : Ctx T} {ds : List Desc} {k : Nat} {f C : Addr} {fdd : FuncData} {ps : List Str} {x m : Str} {p pos apos p2 : Pos} {e o : Expr} {es : List Expr} {W : WX} {F : List (FO S)} {j : OLoc} {get : T → S} {put : S → T → T}
/-- self.f, its own object -/
theorem p_fld (i : Nat) {fl : Str} {n : Nat} {ot : OTy A} {g : S → A} {pf : A → S → S} (hc : ObjC c C F j get put) (cl : Cls X.K C) (na : NoAttr X.K C fl) (hf : FOwn F fl n ot g pf) (hd : ds[i]? = some (.val (tIs j.x) ()) := by rfl) (hN : X.N[i]? = some x := by rfl) (hv : Vis X.env.scope x := by first | exact Or.inl rfl | exact Or.inr (Or.inl rfl) | exact Or.inr (Or.inr rfl))
    (h1 : (x == ("__debug__" : Str)) = false := by decide) (h2 : (x == ("__classdict__" : Str)) = false := by decide) (hb : attributeBase (.Name x p2) fl X.env (eval (.Name x p2) X.env) = eval (.Name x p2) X.env := by rfl) :
    PE X (.Attribute (.Name x p2) fl pos) (PlTE c ds (j.L fl)) := PE.imp (pe_fld (pe_var hN hv h1 h2) hb) fun σ H Q ⟨m, st, env, q⟩ => by
  obtain ⟨v, e1', r⟩ := val_at env hd
  obtain ⟨nd, dx, fs, kk, r2⟩ := hc.gt env.amb
  obtain ⟨fp, _, e2', _⟩ := hf.acc r2
  exact ⟨v, e1', j.x, C, dx, fs, j.L fl, r, kk, cl, na, e2', q⟩
/-- self.f, a value -/
theorem x_afld (i : Nat) {fl : Str} {t : Ty A} {g : S → A} {pf : A → S → S} (hc : ObjC c C F j get put) (cl : Cls X.K C) (na : NoAttr X.K C fl) (hf : FVal F fl t g pf) (hd : ds[i]? = some (.val (tIs j.x) ()) := by rfl) (hN : X.N[i]? = some x := by rfl) (hv : Vis X.env.scope x := by first | exact Or.inl rfl | exact Or.inr (Or.inl rfl) | exact Or.inr (Or.inr rfl))
    (h1 : (x == ("__debug__" : Str)) = false := by decide) (h2 : (x == ("__classdict__" : Str)) = false := by decide) (hb : attributeBase (.Name x p2) fl X.env (eval (.Name x p2) X.env) = eval (.Name x p2) X.env := by rfl) :
    PE X (.Attribute (.Name x p2) fl pos) (TX c ds t (getP fun st => g (get st))) := PE.imp (pe_fld (pe_var hN hv h1 h2) hb) fun σ H Q ⟨m, st, env, q⟩ => by
  obtain ⟨v, e1', r⟩ := val_at env hd
  obtain ⟨nd, dx, fs, kk, r2⟩ := hc.gt env.amb
  obtain ⟨u, e2', ru⟩ := hf.acc r2
  exact ⟨v, e1', j.x, C, dx, fs, u, r, kk, cl, na, e2', q u m H (.refl env.mh) env.amb ru⟩
/-- self.f = e, a value -/
theorem b_afset {G : Type} {P : G → T → Ends → Prop} {rest : List Stmt} (i : Nat) {fl : Str} {t : Ty A} {g : S → A} {pf : A → S → S} {xa : MM T A} {kk : MM T G} {p3 : Pos} (hc : ObjC c C F j get put) (cl : Cls X.K C) (na : NoAttr X.K C fl) (hf : FVal F fl t g pf) (he : PE X e (TX c ds t xa)) (h2 : PSs X rest (BX c ds kk P)) (hl : F.length < 1000 := by simp) (hd : ds[i]? = some (.val (tIs j.x) ()) := by rfl) (hN : X.N[i]? = some x := by rfl) (hv : Vis X.env.scope x := by first | exact Or.inl rfl | exact Or.inr (Or.inl rfl) | exact Or.inr (Or.inr rfl))
    (h1 : (x == ("__debug__" : Str)) = false := by decide) (h3 : (x == ("__classdict__" : Str)) = false := by decide) (hs : swapsWith e (some (.Attribute (.Name x p2) fl p3)) pos.line X.env = pure false := by rfl) :
    PSs X (.Assign [.Attribute (.Name x p2) fl p3] e pos :: rest) (BX c ds (bnd xa fun a => bnd (modP fun st => put (pf a (get st)) st) fun _ => kk) P) :=
  PSs.imp (pss_cons (ps_fld (pe_var hN hv h1 h3) he hs) h2) fun D σ H ⟨m, st, env, q⟩ => ⟨m, st, env, (Post.bnd.mp q).imp fun a s1 q v1 m1 H1 w1 a1 r1 => by
    have env1 := env.go w1 a1
    obtain ⟨v, e1', r⟩ := val_at env1 hd
    obtain ⟨nd, dx, fs, kk, r2⟩ := hc.gt a1
    have hx : j.x ∉ j.fps.flatten := (List.nodup_cons.mp nd).1
    refine ⟨v, e1', j.x, C, dx, fs, r, kk, cl, na, by rw [← r2.len]; exact hl, m1, _, env1.wrote (hc.sub _ List.mem_cons_self) (hc.pt a1 (fun p o hp ep => ?_) (.refl m1) ⟨nd, dx, _, upd_same, hf.put (r2.go (.refl m1) fun p hp => upd_ne fun z => hx (by rw [← z]; exact hp)) r1⟩), q⟩
    rw [upd_ne fun z => hp (by rw [z]; exact List.mem_cons_self)]; exact ep⟩
/-- self.m(..) -/
theorem x_methA (i : Nat) {A' : Type} {l : LTy A'} {t : Ty B} {fn : Unit × A' → MM S B} {xa : MM T A'} {pl : Sem Bool} (hc : ObjC c C F j get put) (cl : Cls X.K C) (hm : Meth X.K C m f) (hn : FNoO F m) (G : FnOk X.prog X.w X.K X.mg X.base (L2.CX X.prog X.w) k f fdd ps (SpA c.cls C F (fun p => lc (tIs p) l) t fn)) (hr : Room k X.A) (hb : Binds X.K fdd ps [])
    (tk : Takes X W) (hE : ErrC c W) (ha : PA X (e :: es) (TAX c ds l xa)) (hd : ds[i]? = some (.val (tIs j.x) ()) := by rfl) (hN : X.N[i]? = some x := by rfl) (hv : Vis X.env.scope x := by first | exact Or.inl rfl | exact Or.inr (Or.inl rfl) | exact Or.inr (Or.inr rfl))
    (h1 : (x == ("__debug__" : Str)) = false := by decide) (h2 : (x == ("__classdict__" : Str)) = false := by decide)
    (hst : starEach (e :: es) X.env = (false, eval e X.env) :: starEach es X.env := by rfl) (hpl : (backTo pos (starEach es X.env)).any (·.1) = false := by rfl)
    (ht : eval (.Call (.Attribute (.Name x p2) m apos) (e :: es) [] pos) X.env = (do
      let ov ← eval (.Name x p2) X.env
      standAt apos.atName
      let (f, first) ← holding [ov] (getMethod ov m pl)
      callWith pos f first (backTo pos (starEach (e :: es) X.env)) (backToKw pos (keywordEach [] X.env))) := by rfl) :
    PE X (.Call (.Attribute (.Name x p2) m apos) (e :: es) [] pos) (TX c ds t (bnd xa fun a => zoom get put (fn ((), a)))) := PE.imp (pe_methE (pe_var hN hv h1 h2) cl hm G hr hb (fun σ => passAt tk σ) ha hst hpl ht) fun σ H Q ⟨m, st, env, q⟩ => by
  obtain ⟨v, e1', r⟩ := val_at env hd
  have r : v = .ref j.x := r
  subst r
  obtain ⟨nd, dx, fs, kk, r2⟩ := hc.gt env.amb
  refine ⟨_, e1', j.x, dx, fs, rfl, kk, hn _ _ _ _ _ _ r2, m, st, env, (Post.bnd.mp q).imp fun a s1 q vs m1 H1 w1 a1 r1 => ?_⟩
  have env1 := env.go w1 a1
  refine ⟨j, ((), a), m1, get s1, ⟨_, vs, rfl, rfl, r1⟩, w1.mh, fun p hp => env1.own p (hc.sub p hp), hc.gt a1, (Post.zoom.mp q).mono (fun b s2 q v m' H' w2 a2 r2 => ?_) fun e s2 q d m' H' w2 a2 hd => ?_⟩
  · have w2' : WStep c.afp m1 H1 m' H' := ⟨w2.mm, w2.mh, fun a o ha e => w2.hh a o (fun z => ha (hc.sub a z)) e, w2.ow, w2.dm⟩
    exact q v m' H' (w1.trans w2') (hc.pt a1 (fun p o hp e => w2.hh p o hp e) w2.mm a2) r2
  · have w2' : WStep c.afp m1 H1 m' H' := ⟨w2.mm, w2.mh, fun a o ha e => w2.hh a o (fun z => ha (hc.sub a z)) e, w2.ow, w2.dm⟩
    exact hE e _ d σ m' H' ds q (env1.go w2' (hc.pt a1 (fun p o hp e => w2.hh p o hp e) w2.mm a2)) (xd_up env1 hd).1 (xd_up env1 hd).2
theorem x_methA0 (i : Nat) {t : Ty B} {fn : Unit → MM S B} {pl : Sem Bool} (hc : ObjC c C F j get put) (cl : Cls X.K C) (hm : Meth X.K C m f) (hn : FNoO F m) (G : FnOk X.prog X.w X.K X.mg X.base (L2.CX X.prog X.w) k f fdd ps (SpA c.cls C F (fun p => l1 (tIs p)) t fn)) (hr : Room k X.A) (hb : Binds X.K fdd ps [])
    (tk : Takes X W) (hE : ErrC c W) (hd : ds[i]? = some (.val (tIs j.x) ()) := by rfl) (hN : X.N[i]? = some x := by rfl) (hv : Vis X.env.scope x := by first | exact Or.inl rfl | exact Or.inr (Or.inl rfl) | exact Or.inr (Or.inr rfl))
    (h1 : (x == ("__debug__" : Str)) = false := by decide) (h2 : (x == ("__classdict__" : Str)) = false := by decide)
    (ht : eval (.Call (.Attribute (.Name x p2) m apos) [] [] pos) X.env = (do
      let ov ← eval (.Name x p2) X.env
      standAt apos.atName
      let (f, first) ← holding [ov] (getMethod ov m pl)
      callWith pos f first (backTo pos (starEach [] X.env)) (backToKw pos (keywordEach [] X.env))) := by rfl) :
    PE X (.Call (.Attribute (.Name x p2) m apos) [] [] pos) (TX c ds t (zoom get put (fn ()))) := PE.imp (pe_methE0 (pe_var hN hv h1 h2) cl hm G hr hb (fun σ => passAt tk σ) ht) fun σ H Q ⟨m, st, env, q⟩ => by
  obtain ⟨v, e1', r⟩ := val_at env hd
  have r : v = .ref j.x := r
  subst r
  obtain ⟨nd, dx, fs, kk, r2⟩ := hc.gt env.amb
  refine ⟨_, e1', j.x, dx, fs, rfl, kk, hn _ _ _ _ _ _ r2, j, (), m, get st, ⟨_, rfl, rfl⟩, env.mh, fun p hp => env.own p (hc.sub p hp), hc.gt env.amb, (Post.zoom.mp q).mono (fun b s2 q v m' H' w2 a2 r2 => ?_) fun e s2 q d m' H' w2 a2 hd => ?_⟩
  · have w2' : WStep c.afp m H m' H' := ⟨w2.mm, w2.mh, fun a o ha e => w2.hh a o (fun z => ha (hc.sub a z)) e, w2.ow, w2.dm⟩
    exact q v m' H' w2' (hc.pt env.amb (fun p o hp e => w2.hh p o hp e) w2.mm a2) r2
  · have w2' : WStep c.afp m H m' H' := ⟨w2.mm, w2.mh, fun a o ha e => w2.hh a o (fun z => ha (hc.sub a z)) e, w2.ow, w2.dm⟩
    exact hE e _ d σ m' H' ds q (env.go w2' (hc.pt env.amb (fun p o hp e => w2.hh p o hp e) w2.mm a2)) (xd_up env hd).1 (xd_up env hd).2
end
/-! the defs -/
section
variable {P : Program} {w : World} {K : PySem.W.Frag} {mg : Str → Option Value} {base : Heap} {x qual : Str} {st : Stmt} {f C : Addr} {fd fdd : FuncData} {N ps : List Str} {k r n : Nat} {T A B : Type} {cls : Nat → Addr} {F : List (FO T)}
theorem fn_meth {la : Addr → LTy A} {t : Ty B} {fn : A → MM T B} {D : Addr → A → List Desc} (Fn : Fun K x qual st f fd) (S : FnScope N ps (defScope st)) (hl : ∀ p, LDesc (la p) ps.length (D p)) (hn : N.length = ps.length + r)
    (body : ∀ (cdv : Value) (A : Around) (outer : List Env) (s : Shared) (H : Hp) (E : XK) (m : Hp) (j : OLoc) a, Room k (A.deeper (envOfC qual (defScope st) s.heap.objs.size f cdv)) →
      PSs (bX P w K mg base N qual st f cdv A outer s H E) (defBody st) (BX (aCtx K cls C F j m H E) (D j.x a ++ List.replicate r .any) (fn a) (ER (aCtx K cls C F j m H E) t))) :
    FnOk P w K mg base (L2.CX P w) (k + 1) f fd ps (SpA cls C F la t fn) := by
  obtain ⟨oc, od, kV, doc, pm, an, cdv, ct, osl, rfl, lk, hcd⟩ := Fn.ex
  refine fn_of lk hcd S (fun vs H Q E ⟨j, a, m, st', h, _⟩ => (hl j.x).len a vs m h) fun A outer s H vs Q E hr ⟨j, a, m, st', h, hm, hp, am, q⟩ => ?_
  exact ⟨_, body cdv A outer s H E m j a hr, m, st', env_start (hl j.x) h hn hm rfl rfl am hp trivial, q.mono (fun b s1 q v m' H' w' a' r' => q v m' H' w' a' r') fun e _ q => q⟩
theorem fn_methN {la : Addr → LTy A} {fn : A → MM T Unit} {D : Addr → A → List Desc} {dsN : Addr → Unit → List Desc} (Fn : Fun K x qual st f fd) (S : FnScope N ps (defScope st)) (hl : ∀ p, LDesc (la p) ps.length (D p)) (hn : N.length = ps.length + r)
    (body : ∀ (cdv : Value) (A : Around) (outer : List Env) (s : Shared) (H : Hp) (E : XK) (m : Hp) (j : OLoc) a, Room k (A.deeper (envOfC qual (defScope st) s.heap.objs.size f cdv)) →
      PSs (bX P w K mg base N qual st f cdv A outer s H E) (defBody st) (BX (aCtx K cls C F j m H E) (D j.x a ++ List.replicate r .any) (fn a) (EN (aCtx K cls C F j m H E) (dsN j.x)))) :
    FnOk P w K mg base (L2.CX P w) (k + 1) f fd ps (SpA cls C F la tNon fn) := by
  obtain ⟨oc, od, kV, doc, pm, an, cdv, ct, osl, rfl, lk, hcd⟩ := Fn.ex
  refine fn_of lk hcd S (fun vs H Q E ⟨j, a, m, st', h, _⟩ => (hl j.x).len a vs m h) fun A outer s H vs Q E hr ⟨j, a, m, st', h, hm, hp, am, q⟩ => ?_
  exact ⟨_, body cdv A outer s H E m j a hr, m, st', env_start (hl j.x) h hn hm rfl rfl am hp trivial, q.mono (fun b s1 q σ' m' H' env' => q .non m' H' env'.step env'.amb rfl) fun e _ q => q⟩
end
/-! making -/
/-- an object in the making, whose fields may be objects of its own -/
def oMk (x C : Addr) : OTy (List (FO Unit)) where
  rep := fun ds v fp h m => v = .ref x ∧ ∃ dx fs fps L, fp = x :: fps.flatten ∧ fp.Nodup ∧ h x = some (.ins C dx fs) ∧ FReps L h m () ds fs fps
  frame := fun hk hm r => by
    obtain ⟨e, dx, fs, fps, L, ef, nd, k, r⟩ := r
    exact ⟨e, dx, fs, fps, L, ef, nd, by rw [hk x (by rw [ef]; simp)]; exact k, r.go hm fun p hp => hk p (by rw [ef]; exact List.mem_cons_of_mem _ hp)⟩
  dom := fun r q hq => by
    obtain ⟨e, dx, fs, fps, L, ef, nd, k, r⟩ := r
    rw [ef] at hq
    rcases List.mem_cons.mp hq with z | z
    · subst z; rw [k]; exact fun z => nomatch z
    · exact r.dom q z
theorem Slots.put1 {m h h' : Hp} {σ : L2.St} {fps : List (List Addr)} {ds : List Desc} (x : Slots m h σ fps ds) : ∀ {i : Nat} {s : Option V} {fp' : List Addr} {d' : Desc}, (∀ j gp, j ≠ i → fps[j]? = some gp → ∀ q ∈ gp, h' q = h q) → σ[i]? = some s → SlotOk m h' s fp' d' → Slots m h' σ (fps.set i fp') (ds.set i d') := by
  induction x with
  | nil => intro i s fp' d' _ e; simp at e
  | @cons s0 fp0 d0 σ0 fps0 ds0 a t ih =>
    intro i s fp' d' hk e y
    cases i with
    | zero =>
      have e : s0 = s := by simpa using e
      subst e
      refine .cons y (t.go (fun gp hg q hq => ?_) (.refl m) fun _ _ _ _ z => z)
      obtain ⟨j, hj⟩ := List.mem_iff_getElem?.mp hg
      exact hk (j + 1) gp (by omega) (by simpa using hj) q hq
    | succ i =>
      exact .cons (a.go (fun q hq => hk 0 _ (by omega) rfl q hq) (.refl m) fun _ _ z => z) (ih (i := i) (fun j gp hj ej q hq => hk (j + 1) gp (by omega) (by simpa using ej) q hq) (by simpa using e) y)
theorem Disj.set2 {fps : List (List Addr)} {i : Nat} {fp : List Addr} (hd : Disj fps) (hn : ∀ j gp, j ≠ i → fps[j]? = some gp → ∀ p ∈ gp, p ∉ fp) : Disj (fps.set i fp) := by
  unfold Disj at hd ⊢
  rw [List.pairwise_iff_getElem] at hd ⊢
  intro a b ha hb hab p hp hq
  rw [List.getElem_set] at hp hq
  simp only [List.length_set] at ha hb
  by_cases h1 : i = a
  · have h2 : ¬ i = b := by omega
    rw [if_pos h1] at hp
    rw [if_neg h2] at hq
    exact hn b _ (fun z => h2 z.symm) (List.getElem?_eq_getElem hb) p hq hp
  · rw [if_neg h1] at hp
    by_cases h2 : i = b
    · rw [if_pos h2] at hq
      exact hn a _ (fun z => h1 z.symm) (List.getElem?_eq_getElem ha) p hp hq
    · rw [if_neg h2] at hq
      exact hd a b ha hb hab p hp hq
section
variable {T A B : Type} {c : Ctx T} {ds : List Desc}
/-- what is owned at slot i is written, and takes new objects in -/
theorem bindGrow {σ : L2.St} {m H m1 H1 : Hp} {st s1 : T} {o : OTy A} {o' : OTy B} {a : A} {b : B} {N : List Addr} {p : Addr} {u : HO} (i : Nat) (env : EnvOk c σ m H ds st) (w : WStep c.afp m H m1 H1) (am : c.amb s1 H1 m1) (hd : ds[i]? = some (.own o a)) (nw : ∀ q ∈ N, H q = none ∧ m1 q = none)
    (hr : ∀ v fp, σ[i]? = some (some v) → o.rep a v fp H1 m1 → (∀ q ∈ fp, H q ≠ none) → p ∈ fp ∧ ∃ fp', (∀ q ∈ fp', q ∈ fp ∨ q ∈ N) ∧ o'.rep b v fp' (upd H1 p u) m1) : EnvOk c σ m1 (upd H1 p u) (ds.set i (.own o' b)) s1 := by
  obtain ⟨fps, sl, dj, fr⟩ := env.slots
  have ev1 := env.go w am
  have sl1 : Slots m1 H1 σ fps ds := sl.go (fun gp hg q hq => by
    cases z : H q with
    | none => exact absurd z (sl.dom gp hg q hq).1
    | some u => exact w.hh q u (fr gp hg q hq).1 z) w.mm fun gp hg q hq e => w.ow q e (sl.dom gp hg q hq).1
  obtain ⟨s, fp, g1, g2, v, rfl, r, n⟩ := sl1.get hd
  have hfp := List.mem_of_getElem? g2
  obtain ⟨hp, fp', hs, r'⟩ := hr v fp g1 r fun q hq => (sl.dom fp hfp q hq).1
  have hne : ∀ j gp, j ≠ i → fps[j]? = some gp → ∀ q ∈ gp, q ∉ fp := fun j gp hj e q hq hq2 => by
    unfold Disj at dj
    rw [List.pairwise_iff_getElem] at dj
    obtain ⟨hj', ej⟩ := List.getElem?_eq_some_iff.mp e
    obtain ⟨hi', ei⟩ := List.getElem?_eq_some_iff.mp g2
    rcases Nat.lt_or_gt_of_ne hj with z | z
    · exact dj j i hj' hi' z q (by rw [ej]; exact hq) (by rw [ei]; exact hq2)
    · exact dj i j hi' hj' z q (by rw [ei]; exact hq2) (by rw [ej]; exact hq)
  have hp0 := (fr fp hfp p hp).2
  have hpa := (fr fp hfp p hp).1
  refine ⟨⟨ev1.step.mm, ev1.step.mh.wr (n p hp), fun y o' hy e => ?_, ev1.step.ow, fun y e => ?_⟩, ⟨fps.set i fp', sl1.put1 (fun j gp hj e q hq => upd_ne fun z => hne j gp hj e q hq (by rw [z]; exact hp)) g1 ⟨v, rfl, r', fun q hq => ?_⟩, dj.set2 fun j gp hj e q hq hq2 => ?_, fun gp hg q hq => ?_⟩, c.ambF (fun y hy => upd_ne fun z => hpa (by rw [← z]; exact hy)) (.refl m1) ev1.amb, ev1.own, ev1.pin⟩
  · rw [upd_ne (ne_of_none e hp0)]; exact ev1.step.hh y o' hy e
  · by_cases z : y = p
    · subst z; rw [upd_same]; exact fun q => nomatch q
    · rw [upd_ne z]; exact ev1.step.dm y e
  · rcases hs q hq with z | z
    · exact n q z
    · exact (nw q z).2
  · rcases hs q hq2 with z | z
    · exact hne j gp hj e q hq z
    · exact (sl.dom gp (List.mem_of_getElem? e) q hq).1 (nw q z).1
  · rcases List.mem_or_eq_of_mem_set hg with z | z
    · exact fr gp z q hq
    · subst z
      rcases hs q hq with z | z
      · exact fr fp hfp q z
      · refine ⟨fun y => (c.ambD env.amb q y) (nw q z).1, ?_⟩
        cases y : c.H0 q with
        | none => rfl
        | some o => exact absurd (nw q z).1 (env.step.dm q (by rw [y]; exact fun y => nomatch y))
end
theorem nd_list {A : Type} {t : Ty A} : ∀ (a : List A) v fp h m, (oList t).rep a v fp h m → fp.Nodup := fun a v fp h m ⟨p, vs, e, ef, _⟩ => by rw [ef]; simp
theorem nd_dict {A B KK : Type} [DecidableEq A] [DecidableEq KK] {ho : List (KK × V) → HO} {enc : A → KK} {u : Ty B} : ∀ (a : List (A × B)) v fp h m, (oDictK ho enc u).rep a v fp h m → fp.Nodup := fun a v fp h m ⟨p, vs, e, ef, _⟩ => by rw [ef]; simp
section
variable {X : Cx} {T A B C R F : Type} {c : Ctx T} {ds : List Desc} {pos p2 p3 : Pos} {e : Expr} {P : F → T → Ends → Prop} {rest : List Stmt} {t : Ty A} {o : OTy A}
theorem b_mkO (i : Nat) {x0 D : Addr} {fds : List (FO Unit)} {x f : Str} {xa : MM T A} {k : A → MM T F} (hnd : ∀ a v fp h m, o.rep a v fp h m → fp.Nodup) (cl : Cls X.K D) (na : NoAttr X.K D f) (he : PE X e (TXO c ds o xa)) (h2 : ∀ a, PSs X rest (BX c (ds.set i (.own (oMk x0 D) (fds ++ [foo f o fun _ => a]))) (k a) P)) (hd : ds[i]? = some (.own (oMk x0 D) fds) := by rfl)
    (hl : fds.length < 1000 := by simp) (hf : (fds.all fun d => !(d.n == f)) = true := by rfl) (hN : X.N[i]? = some x := by rfl) (hv : Vis X.env.scope x := by first | exact Or.inl rfl | exact Or.inr (Or.inl rfl) | exact Or.inr (Or.inr rfl))
    (h1 : (x == ("__debug__" : Str)) = false := by decide) (h3 : (x == ("__classdict__" : Str)) = false := by decide) (hs : swapsWith e (some (.Attribute (.Name x p2) f p3)) pos.line X.env = pure false := by rfl) :
    PSs X (.Assign [.Attribute (.Name x p2) f p3] e pos :: rest) (BX c ds (bnd xa k) P) :=
  PSs.imp (pss_cons (ps_fld (pe_var hN hv h1 h3) he hs) (PSs.any h2)) fun D σ H ⟨m, st, env, p⟩ => ⟨m, st, env, (Post.bnd.mp p).imp fun a s1 p v1 fp1 m1 H1 w1 a1 n1 r1 => by
    have env1 := env.go w1 a1
    obtain ⟨v, fp, e1, e2, dx, fs, fps, L, e3, nd, k1, r2⟩ := own_at env1 hd
    subst e2
    refine ⟨_, e1, x0, _, dx, fs, rfl, k1, cl, na, by rw [← r2.len]; exact hl, a, m1, s1, bindGrow (N := fp1) i env w1 a1 hd n1 fun v' fp' e' ⟨g1, dx', fs', fps', L', g2, nd', k', r'⟩ hold => ?_, p⟩
    rw [k1] at k'; cases k'
    subst g2
    obtain ⟨nx, nf⟩ := List.nodup_cons.mp nd'
    have hx : x0 ∉ fp1 := fun z => hold x0 List.mem_cons_self (n1 x0 z).1
    have hdj : ∀ y ∈ fps'.flatten, y ∉ fp1 := fun y hy z => hold y (List.mem_cons_of_mem _ hy) (n1 y z).1
    refine ⟨List.mem_cons_self, x0 :: (fps' ++ [fp1]).flatten, fun y hy => ?_, g1, dx, _, _, fun n => if n = f then v1 else L' n, rfl, ?_, upd_same, ?_⟩
    · rw [List.flatten_append] at hy
      rcases List.mem_cons.mp hy with z | z
      · exact .inl (by rw [z]; exact List.mem_cons_self)
      · rcases List.mem_append.mp z with z | z
        · exact .inl (List.mem_cons_of_mem _ z)
        · exact .inr (by simpa using z)
    · rw [List.flatten_append]
      refine List.nodup_cons.mpr ⟨fun z => ?_, List.nodup_append.mpr ⟨nf, by simpa using hnd a v1 fp1 H1 m1 r1, fun y hy z hz e => hdj y hy (by rw [e]; simpa using hz)⟩⟩
      rcases List.mem_append.mp z with z | z
      · exact nx z
      · exact hx (by simpa using z)
    · refine FReps.snoc (d := foo f o fun _ => a) ((r'.go (.refl m1) fun y hy => upd_ne fun z => nx (by rw [← z]; exact hy)).loc fun d hd => ?_) ⟨by show v1 = if f = f then v1 else L' f; rw [if_pos rfl], o.frame (fun y hy => upd_ne fun z => hx (by rw [← z]; exact hy)) (.refl m1) r1⟩ fun d hd z => ?_
      · have := List.all_eq_true.mp hf d hd
        show L' d.n = if d.n = f then v1 else L' d.n
        rw [if_neg fun z => by rw [z] at this; simp at this]
      · have := List.all_eq_true.mp hf d hd
        have z : d.n = f := z
        rw [z] at this; simp at this⟩
theorem b_mkV (i : Nat) {x0 D : Addr} {fds : List (FO Unit)} {x f : Str} {xa : MM T A} {k : A → MM T F} (cl : Cls X.K D) (na : NoAttr X.K D f) (he : PE X e (TX c ds t xa)) (h2 : ∀ a, PSs X rest (BX c (ds.set i (.own (oMk x0 D) (fds ++ [fov f t fun _ => a]))) (k a) P)) (hd : ds[i]? = some (.own (oMk x0 D) fds) := by rfl)
    (hl : fds.length < 1000 := by simp) (hf : (fds.all fun d => !(d.n == f)) = true := by rfl) (hN : X.N[i]? = some x := by rfl) (hv : Vis X.env.scope x := by first | exact Or.inl rfl | exact Or.inr (Or.inl rfl) | exact Or.inr (Or.inr rfl))
    (h1 : (x == ("__debug__" : Str)) = false := by decide) (h3 : (x == ("__classdict__" : Str)) = false := by decide) (hs : swapsWith e (some (.Attribute (.Name x p2) f p3)) pos.line X.env = pure false := by rfl) :
    PSs X (.Assign [.Attribute (.Name x p2) f p3] e pos :: rest) (BX c ds (bnd xa k) P) :=
  PSs.imp (pss_cons (ps_fld (pe_var hN hv h1 h3) he hs) (PSs.any h2)) fun D σ H ⟨m, st, env, p⟩ => ⟨m, st, env, (Post.bnd.mp p).imp fun a s1 p v1 m1 H1 w1 a1 r1 => by
    have env1 := env.go w1 a1
    obtain ⟨v, fp, e1, e2, dx, fs, fps, L, e3, nd, k1, r2⟩ := own_at env1 hd
    subst e2
    refine ⟨_, e1, x0, _, dx, fs, rfl, k1, cl, na, by rw [← r2.len]; exact hl, a, m1, s1, env1.put hd fun v' fp' e' ⟨g1, dx', fs', fps', L', g2, nd', k', r'⟩ => ?_, p⟩
    rw [k1] at k'; cases k'
    subst g2
    obtain ⟨nx, nf⟩ := List.nodup_cons.mp nd'
    refine ⟨List.mem_cons_self, g1, dx, _, fps' ++ [[]], L', by simp, by simpa using nd', upd_same, ?_⟩
    refine FReps.snoc (d := fov f t fun _ => a) (r'.go (.refl m1) fun y hy => upd_ne fun z => nx (by rw [← z]; exact hy)) ⟨rfl, r1⟩ fun d hd z => ?_
    have := List.all_eq_true.mp hf d hd
    have z : d.n = f := z
    rw [z] at this; simp at this⟩
end
/-! __init__ -/
/-- the fields that were made are those of the state -/
inductive FCv {T : Type} (st : T) : List (FO Unit) → List (FO T) → Prop where
  | nil : FCv st [] []
  | cons {d : FO Unit} {d' : FO T} {F : List (FO Unit)} {G : List (FO T)} : d.n = d'.n → (∀ L v fp h m, d.P () L v fp h m → d'.P st L v fp h m) → FCv st F G → FCv st (d :: F) (d' :: G)
theorem FCv.go {T : Type} {st : T} {F : List (FO Unit)} {G : List (FO T)} (i : FCv st F G) {L : Str → V} {h m : Hp} : ∀ {fs : List (Str × V)} {fps : List (List Addr)}, FReps L h m () F fs fps → FReps L h m st G fs fps := by
  induction i with
  | nil => intro fs fps r; cases r; exact .nil
  | cons e q _ ih =>
    intro fs fps r
    cases r with
    | cons a t => rw [e]; exact .cons (q _ _ _ _ _ a) (ih t)
def SpIA {A T : Type} (cls : Nat → Addr) (C : Addr) (l : LTy A) (F : List (FO T)) (f : A → MM Unit T) : Sp := fun vs G Q E => ∃ a m H x dx ws, vs = .ref x :: ws ∧ H x = none ∧ H dx = none ∧ dx ≠ x ∧ G = upd (upd H dx (.own x)) x (.ins C dx []) ∧ l.rep a ws m ∧ Sub m H ∧
  Post (f a ()) (fun r _ => ∀ fp m' H', WStep [] m H m' H' → (∀ p ∈ fp, H p = none ∧ m' p = none) → (oObj C F).rep r (.ref x) fp H' m' → Q .non H') (fun e _ => ∀ d m' H', WStep [] m H m' H' → XdAt H m' H' d e → E (.ref (cls e.k)) (some d) H')
section
variable {P : Program} {w : World} {K : PySem.W.Frag} {mg : Str → Option Value} {base : Heap} {x qual : Str} {st : Stmt} {f C : Addr} {fdd : FuncData} {N ps : List Str} {k r n : Nat} {A T : Type} {cls : Nat → Addr}
theorem fn_initA {l : LTy A} {F : List (FO T)} {fn : A → MM Unit T} {D : A → List Desc} (dsF : T → List (FO Unit)) (hcv : ∀ r, FCv r (dsF r) F) (Fn : Fun K x qual st f fdd) (S : FnScope N ps (defScope st)) (hl : LDesc l n D) (hp : ps.length = n + 1) (hn : N.length = n + 1 + r) (dsN : Addr → T → List Desc) (h0 : ∀ x r, (dsN x r)[0]? = some (.own (oMk x C) (dsF r)))
    (body : ∀ (cdv : Value) (A : Around) (outer : List Env) (s : Shared) (G : Hp) (E : XK) (m H : Hp) (x : Addr) a, Room k (A.deeper (envOfC qual (defScope st) s.heap.objs.size f cdv)) →
      PSs (bX P w K mg base N qual st f cdv A outer s G E) (defBody st) (BX (uCtx K cls m H E) (.own (oMk x C) [] :: (D a ++ List.replicate r .any)) (fn a) (EN (uCtx K cls m H E) (dsN x)))) :
    FnOk P w K mg base (L2.CX P w) (k + 1) f fdd ps (SpIA cls C l F fn) := by
  obtain ⟨oc, od, kV, doc, pm, an, cdv, ct, osl, rfl, lk, hcd⟩ := Fn.ex
  refine fn_of lk hcd S (fun vs H Q E ⟨a, m, H0, x, dx, ws, e, _, _, _, _, h, _⟩ => by rw [e, List.length_cons, hl.len a ws m h, hp]) fun A outer s G vs Q E hr ⟨a, m, H, x, dx, ws, e, nx, nd, ne, eg, h, hm, q⟩ => ?_
  subst e
  have w1 : WStep [] m H m (upd H dx (.own x)) := .own hm nd
  have nx2 : upd H dx (.own x) x = none := by rw [upd_ne ne.symm]; exact nx
  have w2 : WStep [] m H m G := by rw [eg]; exact w1.trans (.own w1.mh nx2)
  have kG : G x = some (.ins C dx []) := by rw [eg]; exact upd_same
  refine ⟨_, body cdv A outer s G E m H x a hr, m, (), ⟨w2, ⟨[x] :: (List.replicate n [] ++ List.replicate r []), ?_, ?_, ?_⟩, trivial, fun p hp => absurd hp (by simp [uCtx]), trivial⟩, q.mono (fun b _ q σ' m' H' env' => ?_) fun e _ q => q⟩
  · have e : L2.start N (.ref x :: ws) = some (.ref x) :: (ws.map some ++ List.replicate r none) := by
      rw [start_eq (n := n + 1) (by rw [List.length_cons, hl.len a ws m h]) hn]
      rfl
    rw [e]
    refine .cons ⟨_, rfl, ⟨rfl, dx, [], [], fun _ => .non, rfl, by simp, kG, .nil⟩, fun p hp => ?_⟩ ((hl.ok a ws m G h).more r)
    obtain rfl := List.mem_singleton.mp hp
    exact hm.free nx
  · refine List.pairwise_cons.mpr ⟨fun b hb p _ => ?_, disj_nils _ _⟩
    have : b = [] := by
      rcases List.mem_append.mp hb with z | z
      · exact (List.mem_replicate.mp z).2
      · exact (List.mem_replicate.mp z).2
    rw [this]; simp
  · intro gp hg p hp
    rcases List.mem_cons.mp hg with z | z
    · subst z
      obtain rfl := List.mem_singleton.mp hp
      exact ⟨by simp [uCtx], nx⟩
    · have : gp = [] := by
        rcases List.mem_append.mp z with z | z
        · exact (List.mem_replicate.mp z).2
        · exact (List.mem_replicate.mp z).2
      rw [this] at hp; exact absurd hp (by simp)
  · obtain ⟨fps, sl, dj, fr⟩ := env'.slots
    obtain ⟨s0, fp, g1, g2, v, g3, ⟨e4, dx', fs, fps', L, e5, nd5, k4, r4⟩, nm⟩ := sl.get (h0 x b)
    have fr0 := fr fp (List.mem_of_getElem? g2)
    exact q fp m' H' env'.step (fun y hy => ⟨(fr0 y hy).2, nm y hy⟩) ⟨⟨x, L, fps'⟩, rfl, e5, by rw [OLoc.fp, ← e5]; exact nd5, dx', fs, k4, (hcv b).go r4⟩
end
section
variable {X : Cx} {T S A B : Type} {c : Ctx T} {ds : List Desc} {k : Nat} {f D : Addr} {fdd : FuncData} {ps : List Str} {x m : Str} {p pos apos : Pos} {e o : Expr} {es : List Expr} {W : WX} {F : List (FO S)}
theorem x_makeA {l : LTy A} {fn : A → MM Unit S} {xa : MM T A} (G : FnOk X.prog X.w X.K X.mg X.base (L2.CX X.prog X.w) k f fdd ps (SpIA c.cls D l F fn)) (M : Mk X.K D f) (hr : Room (k + 1) X.A) (hm : X.mg x = some (.ref D)) (hb : Binds X.K fdd ps [])
    (tk : Takes X W) (he : ErrC c W) (ha : PA X (e :: es) (TAX c ds l xa)) (hg : Gl X x := by rfl) (hdb : (x == ("__debug__" : Str)) = false := by decide)
    (h1 : starEach (e :: es) X.env = (false, eval e X.env) :: starEach es X.env := by rfl) (h2 : (backTo pos (starEach es X.env)).any (·.1) = false := by rfl) :
    PE X (.Call (.Name x p) (e :: es) [] pos) (TXO c ds (oObj D F) (eCall fn xa)) := PE.imp (pe_makeS M G hr hg hm hb (fun σ => passAt tk σ) ha hdb h1 h2) fun σ H Q ⟨m, st, env, q⟩ =>
  ⟨m, st, env, (Post.bnd.mp q).imp fun a s1 q vs m1 H1 w1 a1 r1 y dx ny nd ne => ⟨a, m1, H1, y, dx, vs, rfl, ny, nd, ne, rfl, r1, w1.mh, (Post.up.mp q).mono (fun b _ q fp m' H' w2 n2 r2 => ⟨rfl, q (.ref y) fp m' H' (w1.trans w2.wide) (EnvOk.ambGrow a1 w2) (fun z hz => ⟨fresh_up w1 (n2 z hz).1, (n2 z hz).2⟩) r2⟩)
    fun e _ q d m' H' w2 hd => he e s1 d σ m' H' ds q ((env.go w1 a1).grow w2) (xd_up (env.go w1 a1) hd).1 (xd_up (env.go w1 a1) hd).2⟩⟩
end
/-! an object made within a def -/
def runS {T B : Type} (st0 : T) (y : MM T B) : MM Unit (B × T) := fun _ => match y st0 with
  | .ok a s => .ok (a, s) ()
  | .err e _ => .err e ()
  | .stuck => .stuck
theorem Post.runS {T B : Type} {st0 : T} {y : MM T B} {P : B × T → Unit → Prop} {E : Exn → Unit → Prop} : Post (runS st0 y ()) P E ↔ Post (y st0) (fun a s => P (a, s) ()) (fun e _ => E e ()) := by
  unfold WL.runS
  cases y st0 <;> rfl
def bndS {T B G : Type} (st0 : T) (y : MM T B) (k : B → T → MM Unit G) : MM Unit G := bnd (runS st0 y) fun q => k q.1 q.2
theorem step_fp {fp : List Addr} {m0 H0 m H : Hp} (w : WStep fp m0 H0 m H) (h : ∀ p ∈ fp, H0 p = none) : WStep [] m0 H0 m H :=
  ⟨w.mm, w.mh, fun a o _ e => w.hh a o (fun z => by rw [h a z] at e; cases e) e, w.ow, w.dm⟩
/-- fields that are handed to the facts that stay -/
inductive FFz {T : Type} (st : T) : List (FO T) → List FD → Prop where
  | nil : FFz st [] []
  | v {A : Type} {n : Str} {t : Ty A} {g : T → A} {F : List (FO T)} {G : List FD} : FFz st F G → FFz st (fov n t g :: F) (fd n t (g st) :: G)
  | o {A : Type} {n : Str} {o : OTy A} {t : Ty A} {g : T → A} {F : List (FO T)} {G : List FD} : Freezes o t → FFz st F G → FFz st (foo n o g :: F) (fd n t (g st) :: G)
theorem FFz.go {T : Type} {st : T} {F : List (FO T)} {G : List FD} (z : FFz st F G) {L : Str → V} {h : Hp} : ∀ {m : Hp} {fs : List (Str × V)} {fps : List (List Addr)}, FReps L h m st F fs fps → Sub m h → fps.flatten.Nodup → (∀ p ∈ fps.flatten, m p = none) →
    ∃ m', Sub m m' ∧ Sub m' h ∧ (∀ q, q ∉ fps.flatten → m' q = m q) ∧ FRep m' G fs := by
  induction z with
  | nil => intro m fs fps r hm nd hn; cases r; exact ⟨m, .refl m, hm, fun _ _ => rfl, .nil⟩
  | v _ ih =>
    intro m fs fps r hm nd hn
    cases r with
    | cons a t =>
      obtain ⟨ef, a⟩ := a
      subst ef
      obtain ⟨m', a1, a2, a3, q⟩ := ih t hm (by simpa using nd) (by simpa using hn)
      exact ⟨m', a1, a2, by simpa using a3, .cons (Ty.mono _ a1 a) q⟩
  | o fz _ ih =>
    intro m fs fps r hm nd hn
    cases r with
    | @cons _ _ v fs fp fps a t =>
      obtain ⟨ev, a⟩ := a
      rw [List.flatten_cons] at nd hn
      obtain ⟨n1, n2, n3⟩ := List.nodup_append.mp nd
      obtain ⟨m1, b1, b2, b3, r1⟩ := fz _ _ _ _ _ a hm fun p hp => hn p (List.mem_append_left _ hp)
      obtain ⟨m', a1, a2, a3, q⟩ := ih (t.go b1 fun _ _ => rfl) b2 n2 fun p hp => by
        rw [b3 p fun z => n3 p z p hp rfl]; exact hn p (List.mem_append_right _ hp)
      refine ⟨m', b1.trans a1, a2, fun q hq => ?_, .cons (Ty.mono _ a1 r1) q⟩
      rw [List.flatten_cons] at hq
      rw [a3 q fun z => hq (List.mem_append_right _ z), b3 q fun z => hq (List.mem_append_left _ z)]
section
variable {T B G : Type} {K : PySem.W.Frag} {cls : Nat → Addr} {m0 H0 : Hp} {E : XK} {ds : List Desc} {C : Addr} {F : List (FO T)} {Fs : T → List FD} {j : OLoc}
/-- the object stays from now on -/
theorem EnvOk.unamb {σ : L2.St} {m h : Hp} {st : T} {i : Nat} (x : EnvOk (aCtx K cls C F j m0 H0 E) σ m h ds st) (h0 : ∀ p ∈ j.fp, H0 p = none) (hz : ∀ st, FFz st F (Fs st)) (hd : ds[i]? = some (.val (tIs j.x) ())) :
    ∃ m', EnvOk (uCtx K cls m0 H0 E) σ m' h (ds.set i (.val (tIns C Fs) st)) () := by
  obtain ⟨nd, dx, fs, kk, r⟩ := x.amb
  obtain ⟨nx, nf⟩ := List.nodup_cons.mp nd
  have own := x.own
  obtain ⟨m1, a1, a2, a3, q⟩ := (hz st).go r x.mh nf fun p hp => own p (List.mem_cons_of_mem _ hp)
  have m1x : m1 j.x = none := by rw [a3 _ nx]; exact own _ List.mem_cons_self
  obtain ⟨b1, b2, b3⟩ := frz_put a2 kk m1x
  have off : ∀ y, y ∉ j.fp → upd m1 j.x (.ins C dx fs) y = m y := fun y hy => by
    rw [upd_ne fun z => hy (by rw [z]; exact List.mem_cons_self), a3 y fun z => hy (List.mem_cons_of_mem _ z)]
  obtain ⟨fps, sl, dj, fr⟩ := x.slots
  have st1 := step_fp x.step h0
  obtain ⟨s, fp, g1, g2, gf, v, rfl, gr⟩ := sl.get hd
  have gr : v = .ref j.x := gr
  subst gr
  refine ⟨upd m1 j.x (.ins C dx fs), ⟨st1.mm.trans (a1.trans b1), b2, st1.hh, fun y e n => ?_, st1.dm⟩, ⟨fps.set i [], ?_, dj.set fun gp hg => .inl fun p _ z => absurd z (by simp), fun gp hg p hp => ?_⟩, trivial, fun p hp => absurd hp (by simp [uCtx]), trivial⟩
  · rw [off y fun z => n (h0 y z)]; exact st1.ow y e n
  · have sl2 := sl.go (h' := h) (fun _ _ _ _ => rfl) (a1.trans b1) fun gp hg p hp e => by rw [off p (fr gp hg p hp).1]; exact e
    have e : σ = σ.set i (some (.ref j.x)) := by
      refine List.ext_getElem? fun k => ?_
      by_cases hk : i = k
      · subst hk
        obtain ⟨hl, hv⟩ := List.getElem?_eq_some_iff.mp g1
        rw [List.getElem?_set_self hl, g1]
      · rw [List.getElem?_set_ne hk]
    rw [e]
    exact sl2.set (d := .val (tIns C Fs) st) ⟨rfl, _, rfl, j.x, dx, fs, rfl, upd_same, q.mono b1⟩
  · rcases List.mem_or_eq_of_mem_set hg with z | z
    · exact ⟨by simp [uCtx], (fr gp z p hp).2⟩
    · subst z; exact absurd hp (by simp)
theorem EnvOk.toamb {σ : L2.St} {m H m1 H1 : Hp} {a : T} (i : Nat) (env : EnvOk (uCtx K cls m0 H0 E) σ m H ds ()) (w1 : WStep [] m H m1 H1) (n1 : ∀ p ∈ j.fp, H p = none ∧ m1 p = none) (r : ambA C F j a H1 m1) :
    EnvOk (aCtx K cls C F j m0 H0 E) (σ.set i (some (.ref j.x))) m1 H1 (ds.set i (.val (tIs j.x) ())) a ∧ ∀ p ∈ j.fp, H0 p = none := by
  have e0 : ∀ p ∈ j.fp, H0 p = none := fun p hp => by
    cases z : H0 p with
    | none => rfl
    | some u => exact absurd (n1 p hp).1 (env.step.dm p (by show H0 p ≠ none; rw [z]; exact fun y => nomatch y))
  have ev1 : EnvOk (uCtx K cls m0 H0 E) σ m1 H1 ds () := env.grow w1
  obtain ⟨fpe, sle, dje, fre⟩ := env.slots
  refine ⟨⟨ev1.step.wide, ⟨fpe.set i [], (sle.go (fun gp hg y hy => ?_) w1.mm fun gp hg y hy e => w1.ow y e (sle.dom gp hg y hy).1).set (d := .val (tIs j.x) ()) ⟨rfl, _, rfl, rfl⟩, dje.set fun gp hg => .inl fun y _ z => absurd z (by simp), fun gp hg y hy => ?_⟩, r, fun p hp => (n1 p hp).2, trivial⟩, e0⟩
  · cases z : H y with
    | none => exact absurd z (sle.dom gp hg y hy).1
    | some u => exact w1.hh y u (by simp) z
  · rcases List.mem_or_eq_of_mem_set hg with z | z
    · exact ⟨fun w => (sle.dom gp z y hy).1 (n1 y w).1, (fre gp z y hy).2⟩
    · subst z; exact absurd hy (by simp)
variable {X : Cx} {pos p2 : Pos} {e : Expr} {s1 : Stmt} {rest : List Stmt} {P : G → Unit → Ends → Prop}
/-- an object is made, a statement changes it, then it stays -/
theorem b_obj (i : Nat) {x : Str} (dsJ : Addr → List Desc) {xa : MM Unit T} {k1 : MM T B} {k2 : B → T → MM Unit G} (dsN : Addr → B → List Desc) (dsR : B → T → List Desc) (he : PE X e (TXO (uCtx K cls m0 H0 E) ds (oObj C F) xa)) (hz : ∀ st, FFz st F (Fs st))
    (h1 : ∀ j, PS X s1 (BX (aCtx K cls C F j m0 H0 E) (dsJ j.x) k1 (EN (aCtx K cls C F j m0 H0 E) (dsN j.x)))) (h2 : ∀ b s, PSs X rest (BX (uCtx K cls m0 H0 E) (dsR b s) (k2 b s) P)) (hN : X.N.Nodup)
    (hJ : ∀ p, ds.set i (.val (tIs p) ()) = dsJ p := by intros; rfl) (hd : ∀ p b, (dsN p b)[i]? = some (.val (tIs p) ()) := by intros; rfl) (hR : ∀ p b s, (dsN p b).set i (.val (tIns C Fs) s) = dsR b s := by intros; rfl) (hi : X.N[i]? = some x := by rfl) (hx : Loc X.env.scope x := by first | exact Or.inl rfl | exact Or.inr rfl)
    (hs : swapsWith e (some (.Name x p2)) pos.line X.env = pure false := by rfl) (hf : X.fn x = true ∨ X.env.scope.names.lookup x = some .local := by first | exact .inl rfl | exact .inr rfl) :
    PSs X (.Assign [.Name x p2] e pos :: s1 :: rest) (BX (uCtx K cls m0 H0 E) ds (bnd xa fun st0 => bndS st0 k1 k2) P) :=
  PSs.imp (pss_cons (ps_set hN hi hx he hs hf) (PSs.any fun j => pss_cons (h1 j) (PSs.any fun q : B × T => h2 q.1 q.2))) fun D σ H ⟨m, st, env, p⟩ => ⟨m, st, env, (Post.bnd.mp p).imp fun a s1 p v fp m1 H1 w1 a1 n1 ⟨j, ev, ef, r⟩ => by
    subst ev ef
    obtain ⟨env2, e0⟩ := EnvOk.toamb (E := E) i env w1 n1 r
    rw [hJ] at env2
    refine ⟨j, m1, a, env2, (Post.runS.mp (Post.bnd.mp p)).mono (fun b s2 p σ' m' H' env' => ?_) fun e s2 p d m' H' w' _ hd => p d m' H' (step_fp w' e0) hd⟩
    obtain ⟨m2, env3⟩ := env'.unamb e0 hz (hd j.x b)
    rw [hR] at env3
    exact ⟨(b, s2), m2, (), env3, p⟩⟩
/-- an object is made, and changes until the def returns -/
theorem b_objR (i : Nat) {x : Str} (dsJ : Addr → List Desc) {t : Ty B} {xa : MM Unit T} {k : MM T B} (he : PE X e (TXO (uCtx K cls m0 H0 E) ds (oObj C F) xa))
    (h2 : ∀ j, PSs X rest (BX (aCtx K cls C F j m0 H0 E) (dsJ j.x) k (ER (aCtx K cls C F j m0 H0 E) t))) (hN : X.N.Nodup) (hJ : ∀ p, ds.set i (.val (tIs p) ()) = dsJ p := by intros; rfl) (hi : X.N[i]? = some x := by rfl) (hx : Loc X.env.scope x := by first | exact Or.inl rfl | exact Or.inr rfl)
    (hs : swapsWith e (some (.Name x p2)) pos.line X.env = pure false := by rfl) (hf : X.fn x = true ∨ X.env.scope.names.lookup x = some .local := by first | exact .inl rfl | exact .inr rfl) :
    PSs X (.Assign [.Name x p2] e pos :: rest) (BX (uCtx K cls m0 H0 E) ds (bnd xa fun st0 => runP st0 k) (ER (uCtx K cls m0 H0 E) t)) :=
  PSs.imp (pss_cons (ps_set hN hi hx he hs hf) (PSs.any h2)) fun D σ H ⟨m, st, env, p⟩ => ⟨m, st, env, (Post.bnd.mp p).imp fun a s1 p v fp m1 H1 w1 a1 n1 ⟨j, ev, ef, r⟩ => by
    subst ev ef
    obtain ⟨env2, e0⟩ := EnvOk.toamb (E := E) i env w1 n1 r
    rw [hJ] at env2
    exact ⟨j, m1, a, env2, (Post.runP.mp p).mono (fun b s2 p v2 m2 H2 w2 _ r2 => p v2 m2 H2 (step_fp w2 e0) trivial r2) fun e s2 p d m' H' w' _ hd => p d m' H' (step_fp w' e0) hd⟩⟩
end
end WL

/-! WLV: owned objects that are lent to readers; lists of owned rows. -/
namespace WL
open PySem PySem.Spec PyProof.Rows L2

/-! ### lending -/
def Ctx.pure {T : Type} (c : Ctx T) : Ctx Unit where
  K := c.K
  cls := c.cls
  S := c.S
  m0 := c.m0
  H0 := c.H0
  afp := []
  amb := fun _ _ _ => True
  ambF := fun _ _ _ => trivial
  ambD := fun _ q hq => by simp at hq
  afr := fun q hq => by simp at hq
  pin := c.pin
  pinM := c.pinM
  err := fun _ _ => False
theorem ErrC.pureN {T : Type} {c : Ctx T} : ErrC c.pure (fun _ _ _ _ => False) := fun _ _ _ _ _ _ _ h => h.elim
theorem EnvOk.pure {T : Type} {c : Ctx T} {σ : L2.St} {m h : Hp} {ds : List Desc} {st : T} (x : EnvOk c σ m h ds st) : EnvOk c.pure σ m h ds () := by
  obtain ⟨fps, sl, dj, fr⟩ := x.slots
  exact ⟨x.step, ⟨fps, sl, dj, fun fp hf p hp => ⟨by simp [Ctx.pure], (fr fp hf p hp).2⟩⟩, trivial, fun p hp => absurd hp (by simp [Ctx.pure]), x.pin⟩
/-- a computation without state that lets no error out -/
def pu {T A : Type} (y : MM Unit A) : MM T A := up (noE y)
theorem Post.pu {T A : Type} {y : MM Unit A} {s : T} {P : A → T → Prop} {E : Exn → T → Prop} (h : Post (pu y s) P E) : Post (y ()) (fun a _ => P a s) (fun _ _ => False) := Post.noE.mp (Post.up.mp h)
/-- what does not lean on the facts that stay -/
def MF {A : Type} (t : Ty A) : Prop := ∀ a v m n, t.rep a v m → t.rep a v n
def MFo {A : Type} (o : OTy A) : Prop := ∀ a v fp h m n, o.rep a v fp h m → o.rep a v fp h n
theorem mf_int : MF tInt := fun _ _ _ _ r => r
theorem mf_bool : MF tBool := fun _ _ _ _ r => r
theorem mf_str : MF tStr := fun _ _ _ _ r => r
theorem mf_non : MF tNon := fun _ _ _ _ r => r
theorem mf_opt {A : Type} {t : Ty A} (h : MF t) : MF (tOpt t) := fun a v m n r => by
  cases a with
  | none => exact r
  | some a => exact h a v m n r
theorem Reps.mf {A : Type} {t : Ty A} (h : MF t) {m n : Hp} {as : List A} {vs : List V} (r : Reps t m as vs) : Reps t n as vs := by
  induction r with
  | nil => exact .nil
  | cons x _ ih => exact .cons (h _ _ _ _ x) ih
theorem mfo_list {A : Type} {t : Ty A} (h : MF t) : MFo (oList t) := fun a v fp hh m n ⟨p, vs, e, ef, k, r⟩ => ⟨p, vs, e, ef, k, Reps.mf h r⟩
inductive FMF {T : Type} : List (FO T) → Prop where
  | nil : FMF []
  | v {A : Type} {n : Str} {t : Ty A} {g : T → A} {F : List (FO T)} : MF t → FMF F → FMF (fov n t g :: F)
  | o {A : Type} {n : Str} {o : OTy A} {g : T → A} {F : List (FO T)} : MFo o → FMF F → FMF (foo n o g :: F)
theorem FMF.go {T : Type} {F : List (FO T)} (z : FMF F) {L : Str → V} {h m n : Hp} {st : T} : ∀ {fs : List (Str × V)} {fps : List (List Addr)}, FReps L h m st F fs fps → FReps L h n st F fs fps := by
  induction z with
  | nil => intro fs fps r; cases r; exact .nil
  | v hm _ ih => intro fs fps r; cases r with | cons a t => exact .cons (d := fov _ _ _) ⟨a.1, hm _ _ _ _ a.2⟩ (ih t)
  | o hm _ ih => intro fs fps r; cases r with | cons a t => exact .cons (d := foo _ _ _) ⟨a.1, hm _ _ _ _ _ _ a.2⟩ (ih t)
theorem mfo_obj {T : Type} {C : Addr} {F : List (FO T)} (h : FMF F) : MFo (oObj C F) := fun a v fp hh m n ⟨j, e, ef, nd, dx, fs, k, r⟩ => ⟨j, e, ef, nd, dx, fs, k, h.go r⟩
theorem frz_obj {T : Type} {C : Addr} {F : List (FO T)} {Fs : T → List FD} (hz : ∀ st, FFz st F (Fs st)) : Freezes (oObj C F) (tIns C Fs) := fun st v fp h m ⟨j, ev, ef, nd, dx, fs, kk, r⟩ hm n => by
  subst ev ef
  obtain ⟨nx, nf⟩ := List.nodup_cons.mp nd
  obtain ⟨m1, a1, a2, a3, q⟩ := (hz st).go r hm nf fun p hp => n p (List.mem_cons_of_mem _ hp)
  have m1x : m1 j.x = none := by rw [a3 _ nx]; exact n _ List.mem_cons_self
  obtain ⟨b1, b2, b3⟩ := frz_put a2 kk m1x
  exact ⟨_, a1.trans b1, b2, fun y hy => by rw [upd_ne fun z => hy (by rw [z]; exact List.mem_cons_self), a3 y fun z => hy (List.mem_cons_of_mem _ z)], j.x, dx, fs, rfl, upd_same, q.mono b1⟩
/-- the objects fp are nobody's again -/
def unl (m : Hp) (fp : List Addr) : Hp := fun a => if a ∈ fp then none else m a
theorem WStep.unl {m m' H m2 H2 : Hp} {fp : List Addr} (mm : Sub m m') (off : ∀ q, q ∉ fp → m' q = m q) (nn : ∀ p ∈ fp, m p = none) (w : WStep [] m' H m2 H2) : WStep [] m H (unl m2 fp) H2 := by
  refine ⟨fun a o e => ?_, fun a o e => ?_, w.hh, fun a e n => ?_, w.dm⟩
  · have z : a ∉ fp := fun z => by rw [nn a z] at e; cases e
    show (if a ∈ fp then none else m2 a) = some o
    rw [if_neg z]
    exact w.mm a o (mm a o e)
  · have e : (if a ∈ fp then none else m2 a) = some o := e
    by_cases z : a ∈ fp
    · rw [if_pos z] at e; cases e
    · rw [if_neg z] at e; exact w.mh a o e
  · show (if a ∈ fp then none else m2 a) = none
    by_cases z : a ∈ fp
    · rw [if_pos z]
    · rw [if_neg z]; exact w.ow a (by rw [off a z]; exact e) n
section
variable {T : Type} {c : Ctx T} {σ : L2.St} {m h : Hp} {ds : List Desc} {st : T}
theorem EnvOk.frz2 {A : Type} {o : OTy A} {t : Ty A} {a : A} {i : Nat} (x : EnvOk c σ m h ds st) (hd : ds[i]? = some (.own o a)) (hf : Freezes o t) :
    ∃ (m' : Hp) (fp : List Addr), Sub m m' ∧ (∀ q, q ∉ fp → m' q = m q) ∧ (∀ p ∈ fp, m p = none) ∧ EnvOk c σ m' h (ds.set i (.val t a)) st := by
  obtain ⟨fps, sl, dj, fr⟩ := x.slots
  obtain ⟨s, fp, e1, e2, v, rfl, r, n⟩ := sl.get hd
  obtain ⟨m', a1, a2, a3, q⟩ := hf a v fp h m r x.mh n
  have hfp := List.mem_of_getElem? e2
  have ow : ∀ y, m y = none → y ∉ fp → m' y = none := fun y e z => by rw [a3 y z]; exact e
  have hne : ∀ j gp, j ≠ i → fps[j]? = some gp → ∀ p ∈ gp, p ∉ fp := fun j gp hj e p hp hq => by
    unfold Disj at dj
    rw [List.pairwise_iff_getElem] at dj
    obtain ⟨hj', ej⟩ := List.getElem?_eq_some_iff.mp e
    obtain ⟨hi', ei⟩ := List.getElem?_eq_some_iff.mp e2
    rcases Nat.lt_or_gt_of_ne hj with z | z
    · exact dj j i hj' hi' z p (by rw [ej]; exact hp) (by rw [ei]; exact hq)
    · exact dj i j hi' hj' z p (by rw [ei]; exact hq) (by rw [ej]; exact hp)
  have key : ∀ {σ : L2.St} {fps : List (List Addr)} {ds : List Desc}, Slots m h σ fps ds → ∀ i, σ[i]? = some (some v) → (∀ j gp, j ≠ i → fps[j]? = some gp → ∀ p ∈ gp, p ∉ fp) → Slots m' h σ (fps.set i []) (ds.set i (.val t a)) := by
    intro σ fps ds sl
    induction sl with
    | nil => intro i _ _; exact .nil
    | cons b sl' ih =>
      intro i hi hn
      cases i with
      | zero =>
        refine .cons ⟨rfl, v, by simpa using hi, q⟩ (sl'.go (fun _ _ _ _ => rfl) a1 fun gp hg p hp e => ?_)
        obtain ⟨j, hj⟩ := List.mem_iff_getElem?.mp hg
        exact ow p e (hn (j + 1) gp (by omega) (by simpa using hj) p hp)
      | succ i =>
        refine .cons (b.go (fun _ _ => rfl) a1 fun p hp e => ow p e (hn 0 _ (by omega) rfl p hp)) (ih i (by simpa using hi) fun j gp hj e => hn (j + 1) gp (by omega) (by simpa using e))
  refine ⟨m', fp, a1, a3, n, ⟨⟨x.step.mm.trans a1, a2, x.step.hh, fun y e nn => ow y (x.step.ow y e nn) fun z => nn (fr fp hfp y z).2, x.step.dm⟩, ⟨fps.set i [], key sl i e1 hne, dj.set fun gp hg => .inl fun p _ z => absurd z (by simp), fun gp hg p hp => ?_⟩,
    c.ambF (fun _ _ => rfl) a1 x.amb, fun p hp => ow p (x.own p hp) fun z => (fr fp hfp p z).1 hp, c.pinM a1 x.pin⟩⟩
  rcases List.mem_or_eq_of_mem_set hg with z | z
  · exact fr gp z p hp
  · subst z; exact absurd hp (by simp)
end
section
variable {X : Cx} {T A B : Type} {c : Ctx T} {ds : List Desc} {e : Expr} {o : OTy A} {t : Ty A} {a : A}
/-- an expression reads what is owned at i -/
theorem x_lend (i : Nat) {u : Ty B} {y : MM Unit B} (hf : Freezes o t) (mf : MF u) (hd : ds[i]? = some (.own o a)) (hx : PE X e (TX c.pure (ds.set i (.val t a)) u y)) : PE X e (TX c ds u (pu y)) := PE.imp hx fun σ H Q ⟨m, st, env, p⟩ => by
  obtain ⟨m', fp, a1, off, nn, env'⟩ := env.frz2 hd hf
  exact ⟨m', (), env'.pure, (Post.pu p).mono (fun b _ q v m1 H1 w _ r => q v _ H1 (w.unl a1 off nn).wide (EnvOk.ambGrow env.amb (w.unl a1 off nn)) (mf _ _ _ _ r)) fun _ _ z => z⟩
theorem t_lend (i : Nat) {y : MM Unit Bool} (hf : Freezes o t) (hd : ds[i]? = some (.own o a)) (hx : PT X e (TTX c.pure (ds.set i (.val t a)) y)) : PT X e (TTX c ds (pu y)) := PT.imp hx fun σ H Q ⟨m, st, env, p⟩ => by
  obtain ⟨m', fp, a1, off, nn, env'⟩ := env.frz2 hd hf
  exact ⟨m', (), env'.pure, (Post.pu p).mono (fun b _ q m1 H1 w _ => q _ H1 (w.unl a1 off nn).wide (EnvOk.ambGrow env.amb (w.unl a1 off nn))) fun _ _ z => z⟩
theorem x_lendO (i : Nat) {u : OTy B} {y : MM Unit B} (hf : Freezes o t) (mf : MFo u) (hd : ds[i]? = some (.own o a)) (hx : PE X e (TXO c.pure (ds.set i (.val t a)) u y)) : PE X e (TXO c ds u (pu y)) := PE.imp hx fun σ H Q ⟨m, st, env, p⟩ => by
  obtain ⟨m', fp, a1, off, nn, env'⟩ := env.frz2 hd hf
  refine ⟨m', (), env'.pure, (Post.pu p).mono (fun b _ q v fp2 m1 H1 w _ n2 r => q v fp2 _ H1 (w.unl a1 off nn).wide (EnvOk.ambGrow env.amb (w.unl a1 off nn)) (fun z hz => ⟨(n2 z hz).1, ?_⟩) (mf _ _ _ _ _ _ r)) fun _ _ z => z⟩
  show (if z ∈ fp then none else m1 z) = none
  rw [(n2 z hz).2, ite_self]
end

/-! ### lists of owned rows of whole numbers -/
inductive Rows (h : Hp) : List (List Int) → List Addr → Prop where
  | nil : Rows h [] []
  | cons {p : Addr} {a : List Int} {as : List (List Int)} {ps : List Addr} : h p = some (.lst (a.map .int)) → Rows h as ps → Rows h (a :: as) (p :: ps)
section
variable {h h' : Hp} {as bs : List (List Int)} {ps qs : List Addr}
theorem Rows.go (r : Rows h as ps) : (∀ p ∈ ps, h' p = h p) → Rows h' as ps := by
  induction r with
  | nil => intro _; exact .nil
  | cons k _ ih => intro hk; exact .cons (by rw [hk _ List.mem_cons_self]; exact k) (ih fun p hp => hk p (List.mem_cons_of_mem _ hp))
theorem Rows.dom (r : Rows h as ps) : ∀ p ∈ ps, h p ≠ none := by
  induction r with
  | nil => intro p hp; simp at hp
  | cons k _ ih =>
    intro p hp
    rcases List.mem_cons.mp hp with z | z
    · rw [z, k]; exact fun z => nomatch z
    · exact ih p z
theorem Rows.length (r : Rows h as ps) : as.length = ps.length := by
  induction r with
  | nil => rfl
  | cons _ _ ih => simp [ih]
theorem Rows.append (r : Rows h as ps) (q : Rows h bs qs) : Rows h (as ++ bs) (ps ++ qs) := by
  induction r with
  | nil => exact q
  | cons k _ ih => exact .cons k ih
theorem Rows.get (r : Rows h as ps) : ∀ {i : Nat} {a : List Int}, as[i]? = some a → ∃ p, ps[i]? = some p ∧ h p = some (.lst (a.map .int)) := by
  induction r with
  | nil => intro i a e; simp at e
  | cons k _ ih =>
    intro i a e
    cases i with
    | zero => simp at e; subst e; exact ⟨_, rfl, k⟩
    | succ i => obtain ⟨p, g1, g2⟩ := ih (i := i) (a := a) (by simpa using e); exact ⟨p, by simpa using g1, g2⟩
/-- a row is written -/
theorem Rows.set (r : Rows h as ps) : ∀ {i : Nat} {b : List Int} {p : Addr}, ps.Nodup → ps[i]? = some p → Rows (upd h p (.lst (b.map .int))) (as.set i b) ps := by
  induction r with
  | nil => intro i b p _ e; simp at e
  | @cons p0 a0 as0 ps0 k t ih =>
    intro i b p nd e
    obtain ⟨n1, n2⟩ := List.nodup_cons.mp nd
    cases i with
    | zero =>
      simp at e; subst e
      exact .cons upd_same (t.go fun q hq => upd_ne fun z => n1 (by rw [← z]; exact hq))
    | succ i =>
      have e : ps0[i]? = some p := by simpa using e
      exact .cons (by rw [upd_ne fun z => n1 (by rw [z]; exact List.mem_of_getElem? e)]; exact k) (ih n2 e)
theorem Rows.reps {m : Hp} (r : Rows h as ps) : (∀ p ∈ ps, m p = h p) → Reps (tList tInt) m as (ps.map .ref) := by
  induction r with
  | nil => intro _; exact .nil
  | @cons p0 a0 as0 ps0 k t ih => intro hk; exact .cons ⟨p0, _, rfl, by rw [hk _ List.mem_cons_self]; exact k, Reps.ofInts a0⟩ (ih fun p hp => hk p (List.mem_cons_of_mem _ hp))
end
def oLL : OTy (List (List Int)) where
  rep := fun as v fp h _ => ∃ p ps, v = .ref p ∧ fp = p :: ps ∧ fp.Nodup ∧ h p = some (.lst (ps.map .ref)) ∧ Rows h as ps
  frame := fun hk hm ⟨p, ps, e, ef, nd, k, r⟩ => ⟨p, ps, e, ef, nd, by rw [hk p (by rw [ef]; simp)]; exact k, r.go fun q hq => hk q (by rw [ef]; exact List.mem_cons_of_mem _ hq)⟩
  dom := fun ⟨p, ps, e, ef, nd, k, r⟩ q hq => by
    rw [ef] at hq
    rcases List.mem_cons.mp hq with z | z
    · rw [z, k]; exact fun z => nomatch z
    · exact r.dom q z
theorem nd_LL : ∀ (a : List (List Int)) v fp h m, oLL.rep a v fp h m → fp.Nodup := fun a v fp h m ⟨p, ps, e, ef, nd, _⟩ => nd
theorem mfo_LL : MFo oLL := fun _ _ _ _ _ _ r => r
/-- the objects fp as they are in h -/
def tak (m h : Hp) (fp : List Addr) : Hp := fun a => if a ∈ fp then h a else m a
theorem tak_in {m h : Hp} {fp : List Addr} {a : Addr} (z : a ∈ fp) : tak m h fp a = h a := if_pos z
theorem tak_out {m h : Hp} {fp : List Addr} {a : Addr} (z : a ∉ fp) : tak m h fp a = m a := if_neg z
theorem frz_LL : Freezes oLL (tList (tList tInt)) := fun as v fp h m ⟨p, ps, e, ef, nd, k, r⟩ hm n => by
  refine ⟨tak m h fp, fun a o q => ?_, fun a o q => ?_, fun q hq => tak_out hq, p, _, e, by rw [tak_in (by rw [ef]; simp)]; exact k, r.reps fun q hq => tak_in (by rw [ef]; exact List.mem_cons_of_mem _ hq)⟩
  · rw [tak_out fun z => by rw [n a z] at q; cases q]; exact q
  · by_cases z : a ∈ fp
    · rw [tak_in z] at q; exact q
    · rw [tak_out z] at q; exact hm a o q
/-- a list of two owned objects -/
def oPair {A B : Type} (o1 : OTy A) (o2 : OTy B) : OTy (A × B) where
  rep := fun ab v fp h m => ∃ p v1 v2 f1 f2, v = .ref p ∧ fp = p :: (f1 ++ f2) ∧ fp.Nodup ∧ h p = some (.lst [v1, v2]) ∧ o1.rep ab.1 v1 f1 h m ∧ o2.rep ab.2 v2 f2 h m
  frame := fun hk hm ⟨p, v1, v2, f1, f2, e, ef, nd, k, r1, r2⟩ => ⟨p, v1, v2, f1, f2, e, ef, nd, by rw [hk p (by rw [ef]; simp)]; exact k, o1.frame (fun q hq => hk q (by rw [ef]; simp [hq])) hm r1, o2.frame (fun q hq => hk q (by rw [ef]; simp [hq])) hm r2⟩
  dom := fun ⟨p, v1, v2, f1, f2, e, ef, nd, k, r1, r2⟩ q hq => by
    rw [ef] at hq
    rcases List.mem_cons.mp hq with z | z
    · rw [z, k]; exact fun z => nomatch z
    · rcases List.mem_append.mp z with z | z
      · exact o1.dom r1 q z
      · exact o2.dom r2 q z
theorem frz_pair {A B : Type} {o1 : OTy A} {o2 : OTy B} {t1 : Ty A} {t2 : Ty B} (z1 : Freezes o1 t1) (z2 : Freezes o2 t2) : Freezes (oPair o1 o2) (tRec (lc t1 (l1 t2))) := fun ab v fp h m ⟨p, v1, v2, f1, f2, e, ef, nd, k, r1, r2⟩ hm n => by
  subst ef
  obtain ⟨nx, nf⟩ := List.nodup_cons.mp nd
  obtain ⟨n1, n2, n3⟩ := List.nodup_append.mp nf
  obtain ⟨m1, a1, a2, a3, q1⟩ := z1 _ _ _ _ _ r1 hm fun q hq => n q (by simp [hq])
  obtain ⟨m2, b1, b2, b3, q2⟩ := z2 _ _ _ _ _ (o2.frame (fun _ _ => rfl) a1 r2) a2 fun q hq => by
    rw [a3 q fun z => n3 q z q hq rfl]; exact n q (by simp [hq])
  have mp : m2 p = none := by
    rw [b3 p fun z => nx (by simp [z]), a3 p fun z => nx (by simp [z])]
    exact n p (by simp)
  obtain ⟨c1, c2, c3⟩ := frz_put b2 k mp
  refine ⟨_, (a1.trans b1).trans c1, c2, fun q hq => ?_, p, _, e, upd_same, v1, [v2], rfl, t1.mono (b1.trans c1) q1, v2, rfl, t2.mono c1 q2⟩
  have hq : ¬ (q = p ∨ q ∈ f1 ∨ q ∈ f2) := by simpa using hq
  rw [c3 q (by simp; exact fun z => hq (.inl z)), b3 q fun z => hq (.inr (.inr z)), a3 q fun z => hq (.inr (.inl z))]
theorem mfo_pair {A B : Type} {o1 : OTy A} {o2 : OTy B} (h1 : MFo o1) (h2 : MFo o2) : MFo (oPair o1 o2) := fun ab v fp h m n ⟨p, v1, v2, f1, f2, e, ef, nd, k, r1, r2⟩ => ⟨p, v1, v2, f1, f2, e, ef, nd, k, h1 _ _ _ _ _ _ r1, h2 _ _ _ _ _ _ r2⟩
/-! == of lists of places -/
def eq_rec {A : Type} [DecidableEq A] {K : PySem.W.Frag} {n : Nat} {l : LTy A} (f : EqL K l n) : EqT K (tRec l) (n + 1) where
  enc := fun a => .list (f.enc a)
  dp := fun a v m H ⟨p, vs, ev, k, r⟩ hm => by subst ev; exact .lst (.of (hm _ _ k)) (f.dp _ _ _ _ r hm)
  eqv := fun a b => by simp only [PyData.eqv]; exact f.eqv a b
  lay := fun a => by simp only [PyData.canLay0]; exact f.lay a
  dep := fun a => by simp only [PyData.depth]; exact Nat.succ_le_succ (f.dep a)
/-! ### they are made -/
section
variable {X : Cx} {T A B : Type} {c : Ctx T} {ds : List Desc} {pos : Pos}
theorem x_lst2O {ea eb : Expr} {o1 : OTy A} {o2 : OTy B} {xa : MM T A} {xb : MM T B} (d1 : ∀ a v fp h m, o1.rep a v fp h m → fp.Nodup) (d2 : ∀ a v fp h m, o2.rep a v fp h m → fp.Nodup) (ha : PE X ea (TXO c ds o1 xa)) (hb : PE X eb (TXO c ds o2 xb))
    (hs : starEach [ea, eb] X.env = (false, eval ea X.env) :: starEach [eb] X.env := by rfl) (hs2 : starEach [eb] X.env = (false, eval eb X.env) :: starEach [] X.env := by rfl) : PE X (.List [ea, eb] pos) (TXO c ds (oPair o1 o2) (eArg xa xb)) :=
  PE.imp (pe_lst (pa_cons ha (pa_cons hb pa_nil hs2) hs)) fun σ H Q ⟨m, st, env, p⟩ => by
    unfold eArg at p
    refine ⟨m, st, env, (Post.bnd.mp p).imp fun a s1 p v1 f1 m1 H1 w1 a1 n1 r1 => ?_⟩
    refine ⟨m1, s1, env.go w1 a1, (Post.bnd.mp p).imp fun b s2 p v2 f2 m2 H2 w2 a2 n2 r2 => ⟨(show 2 ≤ sizeLine from by rw [sizeLine_eq]; decide), fun q hq => ?_⟩⟩
    have keep1 : ∀ y ∈ f1, H2 y = H1 y := fun y hy => by
      cases hz : H1 y with
      | none => exact absurd hz (o1.dom r1 y hy)
      | some o => exact w2.hh y o (fun z => (c.ambD env.amb y z) (n1 y hy).1) hz
    have q1 : ∀ y ∈ f1, y ≠ q := fun y hy z => by
      have := keep1 y hy
      rw [z, hq] at this
      exact o1.dom r1 q (by rw [← z]; exact hy) this.symm
    have q2 : ∀ y ∈ f2, y ≠ q := fun y hy z => o2.dom r2 y hy (by rw [z]; exact hq)
    have w3 : WStep [] m2 H2 m2 (upd H2 q (.lst [v1, v2])) := .own w2.mh hq
    refine (show ∀ v fp m' H', _ from p) (.ref q) (q :: (f1 ++ f2)) m2 _ ((w1.trans w2).trans w3.wide) (EnvOk.ambGrow a2 w3) (fun y hy => ?_) ⟨q, v1, v2, f1, f2, rfl, rfl, ?_, upd_same, o1.frame (fun y hy => (upd_ne (q1 y hy)).trans (keep1 y hy)) w2.mm r1, o2.frame (fun y hy => upd_ne (q2 y hy)) (.refl m2) r2⟩
    · rcases List.mem_cons.mp hy with z | z
      · subst z; exact ⟨fresh_up (w1.trans w2) hq, w2.mh.free hq⟩
      · rcases List.mem_append.mp z with z | z
        · exact ⟨(n1 y z).1, w2.ow y (n1 y z).2 (o1.dom r1 y z)⟩
        · exact ⟨fresh_up w1 (n2 y z).1, (n2 y z).2⟩
    · refine List.nodup_cons.mpr ⟨fun z => ?_, List.nodup_append.mpr ⟨d1 _ _ _ _ _ r1, d2 _ _ _ _ _ r2, fun y hy z hz e => ?_⟩⟩
      · rcases List.mem_append.mp z with z | z
        · exact q1 q z rfl
        · exact q2 q z rfl
      · subst e; exact o1.dom r1 y hy (n2 y hz).1
theorem yes_if {σ : L2.St} {H : Hp} {P R : Hp → Prop} (h : P H) : tYes σ H fun b H3 => if b = true then P H3 else R H3 := by
  show (if true = true then P H else R H)
  rw [if_pos rfl]
  exact h
theorem rd_lcLL {wi : TI} {g : TG} {te : TE} {vs is : List Nat} {t : Ty A} {x : MM T (List A)} {f : A → MM T (List Int)} {bd : A → List Desc → List Desc} {σ : L2.St} {H : Hp} {Q : VK}
    (hw : ∀ σ H R, SrcTI c ds t x σ H R → wi σ H R) (ht : TgtOk c.nox g t is bd) (hv : ∀ i ∈ is, i ∈ vs) (hte : ∀ a σ H Q, TXO c.nox (bd a (wipeD ds vs)) (oList tInt) (f a) σ H Q → te σ H Q)
    (h : TXO c ds oLL (bnd x (lcL f)) σ H Q) : tLc wi g tYes te vs σ H Q := by
  obtain ⟨m, st, env, p⟩ := h
  refine hw σ H _ ⟨m, st, env, (Post.bnd.mp p).imp fun xs s1 p J q m1 H1 w1 a1 hq q1 sv D hD => ?_⟩
  unfold lcL at p
  by_cases hlen : xs.length ≤ 100000
  rotate_left
  · rw [if_neg hlen] at p; exact p.elim
  rw [if_pos hlen] at p
  let FIN : List (List Int) → T → Prop := fun a st' => ∀ v fp m' H', WStep c.afp m H m' H' → c.amb st' H' m' → (∀ p ∈ fp, H p = none ∧ m' p = none) → oLL.rep a v fp H' m' → Q v H'
  refine ⟨fun i n Hc => n = xs.length - i ∧ i ≤ xs.length ∧ ∃ m G st done ps, Hc = upd G D (.lst (ps.map .ref)) ∧ G D = none ∧ EnvOk c σ m G ds st ∧ WStep c.afp m1 H1 m G ∧ q m ∧ Rows G done ps ∧ ps.Nodup ∧ (∀ p ∈ ps, H1 p = none ∧ m p = none) ∧ done.length ≤ i ∧
      Post (lcM (fun a => noE (f a)) (xs.drop i) st) (fun ys st' => FIN (done ++ ys) st') c.err,
    ⟨xs.length, by simp, Nat.zero_le _, m1, H1, s1, [], [], rfl, hD, env.go w1 a1, .refl w1.mh, q1, .nil, .nil, by simp, Nat.le_refl _, p⟩, ?_⟩
  rintro i n Hc ⟨rfl, hi, m2, G, st2, done, ps, rfl, hG, env2, w2, q2, r2, nd2, n2, hdl, p2⟩
  have hmD : m2 D = none := env2.mh.free hG
  have wn : WStep [] m2 G m2 (upd G D (.lst (ps.map .ref))) := .own env2.mh hG
  obtain ⟨sv1, sv2⟩ := sv i (upd G D (.lst (ps.map .ref))) ⟨m2, q2, wn.mh⟩
  have psD : ∀ y ∈ ps, y ≠ D := fun y hy z => r2.dom y hy (by rw [z]; exact hG)
  by_cases hlt : i < xs.length
  · obtain ⟨g1, g2⟩ := sv1 hlt
    refine .inr ⟨g1, fun Hc => ∃ m G st done ps, Hc = upd G D (.lst (ps.map .ref)) ∧ G D = none ∧ EnvOk c σ m G ds st ∧ WStep c.afp m1 H1 m G ∧ q m ∧ Rows G done ps ∧ ps.Nodup ∧ (∀ p ∈ ps, H1 p = none ∧ m p = none) ∧ done.length ≤ i + 1 ∧
      Post (lcM (fun a => noE (f a)) (xs.drop (i + 1)) st) (fun ys st' => FIN (done ++ ys) st') c.err, fun Hc h => ⟨xs.length - (i + 1), by omega, rfl, hlt, h⟩, fun v H' y => ?_⟩
    obtain ⟨rfl, y2⟩ := g2 v H' y
    obtain ⟨a, ha, ra⟩ := y2 m2 q2 wn.mh
    rw [List.getElem?_eq_getElem hlt] at ha
    cases ha
    rw [List.drop_eq_getElem_cons hlt] at p2
    have envc : EnvOk c.nox (wipe σ vs) m2 (upd G D (.lst (ps.map .ref))) (wipeD ds vs) st2 := ((env2.grow wn).wipe vs).nox
    refine ht xs[i] v (wipe σ vs) m2 _ _ st2 _ ra envc fun σ3 env3 b3 => ⟨wipe_but b3 hv, yes_if ?_⟩
    refine hte xs[i] σ3 _ _ ⟨m2, st2, env3, (Post.noE.mp (Post.bnd.mp p2)).imp fun yv s4 p4 v4 fp4 m4 H4 w4 a4 nn4 r4 => ?_⟩
    obtain ⟨p, us, ev, ef, kp, rr⟩ := r4
    subst ev ef
    cases rr.ints
    have hDa : D ∉ c.afp := fun z => (c.ambD env2.amb D z) hG
    have hH4 : H4 D = some (.lst (ps.map .ref)) := w4.hh D _ hDa upd_same
    have k4 : WStep c.afp m2 G m4 (less H4 D) := less_step w4 hG hmD
    have am4 : c.amb s4 (less H4 D) m4 := c.ambF (fun y hy => less_ne _ fun z => hDa (by rw [← z]; exact hy)) (.refl _) a4
    obtain ⟨np, mp⟩ := nn4 p (by simp)
    have pD : p ≠ D := fun z => by rw [z, upd_same] at np; cases np
    rw [upd_ne pD] at np
    have H1p : H1 p = none := fresh_up w2 np
    have pps : p ∉ ps := fun z => r2.dom p z np
    have rows4 : Rows (less H4 D) done ps := r2.go fun y hy => by
      rw [less_ne _ (psD y hy)]
      cases hz : G y with
      | none => exact absurd hz (r2.dom y hy)
      | some o => exact w4.hh y o (fun z => (c.ambD a1 y z) (n2 y hy).1) (by rw [upd_ne (psD y hy)]; exact hz)
    refine ⟨ps.map .ref, hH4, ?_, m4, less H4 D, s4, done ++ [yv], ps ++ [p], ?_, less_same _ _, env2.go k4 am4, w2.trans k4, hq k4.mm q2, rows4.append (.cons (by rw [less_ne _ pD]; exact kp) .nil), ?_, fun y hy => ?_, by simp; omega, ?_⟩
    · rw [List.length_map, ← r2.length]; exact Nat.lt_of_lt_of_le (show done.length < 100000 by omega) (by decide)
    · rw [upd_less, List.map_append]; rfl
    · exact List.nodup_append.mpr ⟨nd2, by simp, fun y hy z hz e => by
        obtain rfl := List.mem_singleton.mp hz
        exact pps (by rw [← e]; exact hy)⟩
    · rcases List.mem_append.mp hy with z | z
      · exact ⟨(n2 y z).1, k4.ow y (n2 y z).2 (r2.dom y z)⟩
      · obtain rfl := List.mem_singleton.mp z
        exact ⟨H1p, mp⟩
    · refine (Post.bnd.mp p4).imp fun ys s5 p5 => ?_
      show FIN (done ++ [yv] ++ ys) s5
      rw [List.append_assoc]
      exact p5
  · have e : xs.drop i = [] := List.drop_eq_nil_of_le (by omega)
    rw [e] at p2
    refine .inl ⟨sv2 (by omega), ?_⟩
    have p2 : FIN (done ++ []) st2 := p2
    rw [List.append_nil] at p2
    have w := w1.trans w2
    exact p2 (.ref D) (D :: ps) m2 _ (w.trans wn.wide) (EnvOk.ambGrow env2.amb wn) (fun y hy => by
      rcases List.mem_cons.mp hy with z | z
      · subst z; exact ⟨fresh_up w hG, hmD⟩
      · exact ⟨fresh_up w1 (n2 y z).1, (n2 y z).2⟩) ⟨D, ps, rfl, rfl, List.nodup_cons.mpr ⟨fun z => psD D z rfl, nd2⟩, upd_same, r2.go fun y hy => upd_ne (psD y hy)⟩
variable {elt tg iter : Expr} {scope : Scope} {own : List (Str × Nat)} {g : TG} {is : List Nat} {t : Ty A} {x : MM T (List A)} {f : A → MM T (List Int)} {bd : A → List Desc → List Desc}
/-- [row for tg in iter], the rows owned -/
theorem x_lcLL (hc : X.calm = true) (hN : X.N.Nodup) (hi : PI X tg iter (SrcTI c ds t x)) (ok : BlkOk X.N X.env.scope scope own) (ht : TgtOk c.nox g t is bd) (hv : ∀ i ∈ is, i ∈ own.map (·.2))
    (hg : ∀ (s : Shared) (H : Hp) (C : Addr) (cl : List (Str × Addr)) (fp : List Addr), PG (X.blk s H scope (compEnvC scope cl C X.env) fp) tg g)
    (he : ∀ (s : Shared) (H : Hp) (C : Addr) (cl : List (Str × Addr)) (fp : List Addr) (a : A), PE (X.blk s H scope (compEnvC scope cl C X.env) fp) elt (TXO c.nox (bd a (wipeD ds (own.map (·.2)))) (oList tInt) (f a))) (hs : ∀ x, foldedSetIterable iter X.env x = pure x := by intro _; rfl) :
    PE X (.ListComp elt [⟨tg, iter, [], 0⟩] scope pos) (TXO c ds oLL (bnd x (lcL f))) :=
  PE.imp (pe_lc hc hN hi ok hg (fun _ _ _ _ _ => pts_nil) (fun s H C cl fp => PE.any (he s H C cl fp)) hs) fun σ H Q h =>
    rd_lcLL (fun _ _ _ q => q) ht hv (fun a σ H Q q => ⟨a, q⟩) h
end
/-! ### they are changed -/
section
variable {X : Cx} {T A B F : Type} {c : Ctx T} {ds : List Desc} {t : Ty A} {pos pos2 pos3 p2 p3 p4 p5 p6 : Pos} {e : Expr} {P : F → T → Ends → Prop} {rest : List Stmt}
theorem refs_inj : ∀ {a b : List Addr}, a.map V.ref = b.map V.ref → a = b
  | [], [], _ => rfl
  | [], _ :: _, h => by simp at h
  | _ :: _, [], h => by simp at h
  | x :: a, y :: b, h => by
    rw [List.map_cons, List.map_cons] at h
    obtain ⟨h1, h2⟩ := List.cons.inj h
    rw [V.ref.inj h1, refs_inj h2]
theorem own_at2 {σ : L2.St} {m H : Hp} {st : T} {i : Nat} {o : OTy A} {a : A} (env : EnvOk c σ m H ds st) (hd : ds[i]? = some (.own o a)) : ∃ v fp, σ[i]? = some (some v) ∧ o.rep a v fp H m ∧ ∀ p ∈ fp, p ∉ c.afp := by
  obtain ⟨fps, sl, _, fr⟩ := env.slots
  obtain ⟨s, fp, e1, e2, v, rfl, r, n⟩ := sl.get hd
  exact ⟨v, fp, e1, r, fun p hp => (fr fp (List.mem_of_getElem? e2) p hp).1⟩
/-- x[0][b] = e -/
theorem b_setP0 (i : Nat) {x : Str} {o2 : OTy B} {v0 : List A × B} {b : Expr} {xa : MM T A} {xb : MM T Int} {k : List A → MM T F} {j} (he : PE X e (TX c ds t xa)) (hb : PE X b (TX c ds tInt xb)) (h2 : ∀ ys, PSs X rest (BX c (ds.set i (.own (oPair (oList t) o2) (ys, v0.2))) (k ys) P)) (hd : ds[i]? = some (.own (oPair (oList t) o2) v0) := by rfl) (hN : X.N[i]? = some x := by rfl) (hv : Vis X.env.scope x := by first | exact Or.inl rfl | exact Or.inr (Or.inl rfl) | exact Or.inr (Or.inr rfl))
    (h1 : (x == ("__debug__" : Str)) = false := by decide) (h3 : (x == ("__classdict__" : Str)) = false := by decide) (hs : swapsWithSole [.Subscript (.Subscript (.Name x p2) (.Constant (.int 0) j p3) p4) b p5] e pos.line X.env = pure false := by rfl)
    (hw : swappedStores [.Subscript (.Subscript (.Name x p2) (.Constant (.int 0) j p3) p4) b p5] e X.env = pure none := by rfl) (h4 : (assignEach [.Subscript (.Subscript (.Name x p2) (.Constant (.int 0) j p3) p4) b p5] X.env).map (·.2) = [assign (.Subscript (.Subscript (.Name x p2) (.Constant (.int 0) j p3) p4) b p5) X.env] := by rfl)
    (ha : ∀ v, assign (.Subscript (.Subscript (.Name x p2) (.Constant (.int 0) j p3) p4) b p5) X.env v = (do
      let ov ← holding [v] (eval (.Subscript (.Name x p2) (.Constant (.int 0) j p3) p4) X.env)
      let iv ← holding [v, ov] (eval b X.env)
      standAt p5
      holding [v, ov, iv] (setItem ov iv v)
      release [v, ov, iv] []) := by intro _; rfl) :
    PSs X (.Assign [.Subscript (.Subscript (.Name x p2) (.Constant (.int 0) j p3) p4) b p5] e pos :: rest) (BX c ds (bnd xa fun a => bnd xb fun j => bnd (lft (oSet v0.1 j a)) k) P) :=
  PSs.imp (pss_cons (ps_asg he (pg_sub (pe_ix ix_list (pe_var hN hv h1 h3) pe_int (fun _ _ => rfl)) hb set_list ha) hs hw h4) (PSs.any h2)) fun D σ H ⟨m, st, env, p⟩ => by
    refine ⟨m, st, env, (Post.bnd.mp p).imp fun a s1 p v1 m1 H1 w1 a1 r1 => ?_⟩
    have env1 := env.go w1 a1
    obtain ⟨u, fp, g1, ⟨q, v01, v02, f1, f2, ev, ef, nd, k1, r01, r02⟩, na⟩ := own_at2 env1 hd
    subst ev
    refine ⟨_, g1, q, [v01, v02], 0, v01, rfl, rfl, .of k1, atI_nat (j := 0) rfl, m1, s1, env1, (Post.bnd.mp p).imp fun j s2 p v2 m2 H2 w2 a2 r2 => ?_⟩
    cases rep_int r2
    have env2 := env1.go w2 a2
    obtain ⟨ys, hy, p⟩ := Post.lft.mp (Post.bnd.mp p)
    obtain ⟨u', fp', g1', q', v01', v02', f1', f2', ev', ef', nd', k1', r01', r02'⟩ := own_at env2 hd
    rw [g1] at g1'; cases g1'; cases ev'
    have kq := w2.hh q _ (na q (by rw [ef]; simp)) k1
    rw [kq] at k1'; cases k1'
    obtain ⟨p0, us, ev0, ef0, kk0, rr0⟩ := r01'
    subst ev0
    unfold oSet at hy
    cases z : ixN v0.1.length j with
    | none => rw [z] at hy; cases hy
    | some n =>
      rw [z] at hy; cases hy
      refine ⟨p0, us, j, n, rfl, rfl, kk0, by rw [← rr0.length]; exact z, _, m2, s2, env2.put hd fun v fp2 g2 ⟨q2, x1, x2, y1, y2, e2, ef2, nd2, k2, r12, r22⟩ => ?_, p⟩
      rw [g1] at g2; cases g2; cases e2
      rw [kq] at k2; cases k2
      obtain ⟨p0', us', ev0', ef0', kk0', rr0'⟩ := r12
      cases ev0'
      rw [kk0] at kk0'; cases kk0'
      subst ef2
      obtain ⟨nx, nf⟩ := List.nodup_cons.mp nd2
      obtain ⟨n1, n2, n3⟩ := List.nodup_append.mp nf
      have hp0 : p0 ∈ y1 := by rw [ef0']; simp
      refine ⟨by simp [hp0], q, _, _, y1, y2, rfl, rfl, nd2, by rw [upd_ne fun z => nx (by rw [z]; simp [hp0])]; exact kq, ⟨p0, _, rfl, ef0', upd_same, rr0'.set (t.mono w2.mm r1) n⟩, o2.frame (fun y hy => upd_ne fun z => n3 p0 hp0 y hy z.symm) (.refl m2) r22⟩
/-- x[1][n][b] = e -/
theorem b_setP1 (i n : Nat) {x : Str} {o1 : OTy A} {v0 : A × List (List Int)} {b : Expr} {xa xb : MM T Int} {k : List (List Int) → MM T F} {j j2} (he : PE X e (TX c ds tInt xa)) (hb : PE X b (TX c ds tInt xb)) (h2 : ∀ ys, PSs X rest (BX c (ds.set i (.own (oPair o1 oLL) (v0.1, ys))) (k ys) P)) (hd : ds[i]? = some (.own (oPair o1 oLL) v0) := by rfl) (hN : X.N[i]? = some x := by rfl) (hv : Vis X.env.scope x := by first | exact Or.inl rfl | exact Or.inr (Or.inl rfl) | exact Or.inr (Or.inr rfl))
    (h1 : (x == ("__debug__" : Str)) = false := by decide) (h3 : (x == ("__classdict__" : Str)) = false := by decide) (hs : swapsWithSole [.Subscript (.Subscript (.Subscript (.Name x p2) (.Constant (.int 1) j p3) p4) (.Constant (.int (n : Int)) j2 pos2) pos3) b p5] e pos.line X.env = pure false := by rfl)
    (hw : swappedStores [.Subscript (.Subscript (.Subscript (.Name x p2) (.Constant (.int 1) j p3) p4) (.Constant (.int (n : Int)) j2 pos2) pos3) b p5] e X.env = pure none := by rfl) (h4 : (assignEach [.Subscript (.Subscript (.Subscript (.Name x p2) (.Constant (.int 1) j p3) p4) (.Constant (.int (n : Int)) j2 pos2) pos3) b p5] X.env).map (·.2) = [assign (.Subscript (.Subscript (.Subscript (.Name x p2) (.Constant (.int 1) j p3) p4) (.Constant (.int (n : Int)) j2 pos2) pos3) b p5) X.env] := by rfl)
    (ha : ∀ v, assign (.Subscript (.Subscript (.Subscript (.Name x p2) (.Constant (.int 1) j p3) p4) (.Constant (.int (n : Int)) j2 pos2) pos3) b p5) X.env v = (do
      let ov ← holding [v] (eval (.Subscript (.Subscript (.Name x p2) (.Constant (.int 1) j p3) p4) (.Constant (.int (n : Int)) j2 pos2) pos3) X.env)
      let iv ← holding [v, ov] (eval b X.env)
      standAt p5
      holding [v, ov, iv] (setItem ov iv v)
      release [v, ov, iv] []) := by intro _; rfl) :
    PSs X (.Assign [.Subscript (.Subscript (.Subscript (.Name x p2) (.Constant (.int 1) j p3) p4) (.Constant (.int (n : Int)) j2 pos2) pos3) b p5] e pos :: rest) (BX c ds (bnd xa fun a => bnd (lft v0.2[n]?) fun r => bnd xb fun j => bnd (lft ((oSet r j a).map fun r2 => v0.2.set n r2)) k) P) :=
  PSs.imp (pss_cons (ps_asg he (pg_sub (pe_ix ix_list (pe_ix ix_list (pe_var hN hv h1 h3) pe_int (fun _ _ => rfl)) pe_int (fun _ _ => rfl)) hb set_list ha) hs hw h4) (PSs.any h2)) fun D σ H ⟨m, st, env, p⟩ => by
    refine ⟨m, st, env, (Post.bnd.mp p).imp fun a s1 p v1 m1 H1 w1 a1 r1 => ?_⟩
    cases rep_int r1
    have env1 := env.go w1 a1
    obtain ⟨u, fp, g1, ⟨q, v01, v02, f1, f2, ev, ef, nd, k1, r01, pt, ps, ev2, ef2, nd2, kt, rr⟩, na⟩ := own_at2 env1 hd
    subst ev ev2
    obtain ⟨r0, hr0, p⟩ := Post.lft.mp (Post.bnd.mp p)
    obtain ⟨pr, hpr, kr⟩ := rr.get hr0
    refine ⟨_, g1, q, [v01, .ref pt], 1, .ref pt, rfl, rfl, .of k1, atI_nat (j := 1) rfl, pt, ps.map .ref, n, .ref pr, rfl, rfl, .of kt, atI_nat (by rw [List.getElem?_map, hpr]; rfl), m1, s1, env1, (Post.bnd.mp p).imp fun j s2 p v2 m2 H2 w2 a2 r2 => ?_⟩
    cases rep_int r2
    have env2 := env1.go w2 a2
    obtain ⟨ys, hy, p⟩ := Post.lft.mp (Post.bnd.mp p)
    have kq := w2.hh q _ (na q (by rw [ef]; simp)) k1
    have kt2 := w2.hh pt _ (na pt (by rw [ef, ef2]; simp)) kt
    have kr2 := w2.hh pr _ (na pr (by rw [ef, ef2]; simp [List.mem_of_getElem? hpr])) kr
    unfold oSet at hy
    cases z : ixN r0.length j with
    | none => rw [z] at hy; cases hy
    | some l =>
      rw [z] at hy; cases hy
      refine ⟨pr, _, j, l, rfl, rfl, kr2, by rw [List.length_map]; exact z, _, m2, s2, env2.put hd fun v fp2 g2 ⟨q2, x1, x2, y1, y2, e2, eg2, nd3, k2, r12, pt', ps', e3, eg3, nd4, kt', rr'⟩ => ?_, p⟩
      rw [g1] at g2; cases g2; cases e2
      rw [kq] at k2; cases k2
      cases e3
      rw [kt2] at kt'
      have eps : ps = ps' := by
        have z := (HO.lst.inj (Option.some.inj kt'))
        exact refs_inj z
      subst eps
      subst eg2 eg3
      obtain ⟨nx, nf⟩ := List.nodup_cons.mp nd3
      obtain ⟨n1, n2, n3⟩ := List.nodup_append.mp nf
      obtain ⟨nt, np⟩ := List.nodup_cons.mp n2
      have hin : pr ∈ ps := List.mem_of_getElem? hpr
      refine ⟨by simp [hin], q, _, _, y1, pt :: ps, rfl, rfl, nd3, by rw [upd_ne fun z => nx (by rw [z]; simp [hin])]; exact kq, o1.frame (fun y hy => upd_ne fun z => n3 y hy pr (by simp [hin]) z) (.refl m2) r12, pt, ps, rfl, rfl, n2, by rw [upd_ne fun z => nt (by rw [z]; exact hin)]; exact kt2, ?_⟩
      have := rr'.set (b := r0.set l a) np hpr
      rw [List.map_set] at this
      exact this
/-- x[1].append(row) -/
theorem b_appP1 (i : Nat) {call : Expr} {o1 : OTy A} {v0 : A × List (List Int)} {xa : MM T (List Int)} {k : List (List Int) → MM T F} (he : PE X call (tBM X.K "list" rAppend (tOp (rIxL X.K) (tVar i) (tC (.int 1))) (tCons (TXO c ds (oList tInt) xa) tNil))) (h2 : ∀ ys, PSs X rest (BX c (ds.set i (.own (oPair o1 oLL) (v0.1, ys))) (k ys) P)) (hd : ds[i]? = some (.own (oPair o1 oLL) v0) := by rfl)
    (hs : swapsWith call none pos.line X.env = pure false := by rfl) :
    PSs X (.Expr call pos :: rest) (BX c ds (bnd xa fun a => bnd (lft (oApp v0.2 a)) k) P) :=
  PSs.imp (pss_cons (ps_expr he hs) (PSs.any h2)) fun D σ H ⟨m, st, env, p⟩ => by
    obtain ⟨u, fp, g1, ⟨q, v01, v02, f1, f2, ev, ef, nd, k1, r01, pt, ps, ev2, ef2, nd2, kt, rr⟩, na⟩ := own_at2 env hd
    subst ev ev2
    refine ⟨_, g1, q, [v01, .ref pt], 1, .ref pt, rfl, rfl, .of k1, atI_nat (j := 1) rfl, .inl ⟨rfl, _, .of kt⟩, m, st, env, (Post.bnd.mp p).imp fun a s1 p v1 fpN m1 H1 w1 a1 n1 r1 => ?_⟩
    obtain ⟨ys, hy, p⟩ := Post.lft.mp (Post.bnd.mp p)
    have kq := w1.hh q _ (na q (by rw [ef]; simp)) k1
    have kt2 := w1.hh pt _ (na pt (by rw [ef, ef2]; simp)) kt
    unfold oApp at hy
    by_cases z : v0.2.length < 100000
    · rw [if_pos z] at hy; cases hy
      obtain ⟨pn, us, ev1, ef1, kn, rn⟩ := r1
      subst ev1 ef1
      cases rn.ints
      refine ⟨pt, _, _, rfl, rfl, kt2, by rw [List.length_map, ← rr.length]; exact Nat.lt_of_lt_of_le z (by decide), _, m1, s1, bindGrow (N := [pn]) i env w1 a1 hd n1 fun v' fp' g2 ⟨q2, x1, x2, y1, y2, e2, eg2, nd3, k2, r12, pt', ps', e3, eg3, nd4, kt', rr'⟩ hold => ?_, p⟩
      rw [g1] at g2; cases g2; cases e2
      rw [kq] at k2; cases k2
      cases e3
      rw [kt2] at kt'
      have eps : ps = ps' := by
        have z := (HO.lst.inj (Option.some.inj kt'))
        exact refs_inj z
      subst eps
      subst eg2 eg3
      obtain ⟨nx, nf⟩ := List.nodup_cons.mp nd3
      obtain ⟨m1', m2', n3⟩ := List.nodup_append.mp nf
      obtain ⟨nt, np⟩ := List.nodup_cons.mp m2'
      have pnO : ∀ y ∈ q :: (y1 ++ pt :: ps), y ≠ pn := fun y hy z => hold y hy (by rw [z]; exact (n1 pn (by simp)).1)
      refine ⟨by simp, q :: (y1 ++ (pt :: (ps ++ [pn]))), fun y hy => ?_, q, _, _, y1, pt :: (ps ++ [pn]), rfl, rfl, ?_, by rw [upd_ne fun z => nx (by rw [z]; simp)]; exact kq, o1.frame (fun y hy => upd_ne fun z => n3 y hy pt (by simp) z) (.refl m1) r12, pt, ps ++ [pn], rfl, rfl, ?_, by rw [upd_same, List.map_append]; rfl, ?_⟩
      · simp only [List.mem_cons, List.mem_append, List.not_mem_nil, or_false] at hy ⊢
        rcases hy with z | z | z | z | z
        · exact .inl (.inl z)
        · exact .inl (.inr (.inl z))
        · exact .inl (.inr (.inr (.inl z)))
        · exact .inl (.inr (.inr (.inr z)))
        · exact .inr z
      · have ee : q :: (y1 ++ (pt :: (ps ++ [pn]))) = (q :: (y1 ++ pt :: ps)) ++ [pn] := by simp
        rw [ee]
        exact List.nodup_append.mpr ⟨nd3, by simp, fun y hy z hz e => by
          obtain rfl := List.mem_singleton.mp hz
          exact pnO y hy e⟩
      · have ee : pt :: (ps ++ [pn]) = (pt :: ps) ++ [pn] := by simp
        rw [ee]
        exact List.nodup_append.mpr ⟨m2', by simp, fun y hy z hz e => by
          obtain rfl := List.mem_singleton.mp hz
          exact pnO y (List.mem_cons_of_mem _ (List.mem_append_right _ hy)) e⟩
      · refine (rr'.go fun y hy => upd_ne fun z => nt (by rw [← z]; exact hy)).append (.cons ?_ .nil)
        rw [upd_ne fun z => pnO pt (by simp) z.symm]
        exact kn
    · rw [if_neg z] at hy; cases hy
end
end WL

/-! WLW: sorted({e for x in xs}), e whole numbers. -/
namespace WL
open PySem PySem.Spec PyProof.Rows L2
section
variable {X : Cx}
/-- {elt for tg in iter}, elt whole numbers: D the set, Z what holds ahead of turn i -/
def tSci (w : World) (wi : TI) (g : TG) (te : TE) (vs : List Nat) : TE := fun σ H Q => wi σ H fun J H1 => ∀ D, H1 D = none → ∃ Z : Nat → Nat → Hp → Prop, (∃ k, Z 0 k (upd H1 D (SetO w D (fun _ => false) 0))) ∧
  ∀ i k G, Z i k G → (J.stop i G ∧ Q (.ref D) G) ∨ (J.go i G ∧ ∀ x G', J.yld i G x G' → g x (wipe σ vs) G' fun σ2 G2 => wipe σ2 vs = wipe σ vs ∧ te σ2 G2 fun y G4 =>
    ∃ (c : Int) (S : Int → Bool) (n : Nat), y = .int c ∧ G4 D = some (SetO w D S n) ∧ n + 1 < scanBound ∧ ∃ k', k' < k ∧ Z (i + 1) k' (upd G4 D (SetO w D (fun j => S j || decide (j = c)) (if S c = true then n else n + 1))))
/-- the turns of the block -/
theorem sci_turns {elt tg iter : Expr} {scope : Scope} {own : List (Str × Nat)} {pos : Pos} {g : TG} {te : TE} {pins : List (Addr × Obj)} {σ : L2.St} {s3 : Shared} {H3 : Hp} {D it : Addr} {fp : List Addr} {tn : Nat → Heap → Prop} {J : It} {Q : VK} {Qf : Value → Shared → Prop} {B : Env} {Z : Nat → Nat → Hp → Prop} {k0 : Nat}
    (hB : compEnvC scope (cellsFrom (s3.heap.objs.size + 1) scope.names (cloFrom X.env.cells scope.names [])) s3.heap.objs.size X.env = B) (hc : X.calm = true) (hN : X.N.Nodup) (ok : BlkOk X.N X.env.scope scope own) (I3 : Inv X pins σ H3 s3)
    (T : Turn X.prog X.w X.K tg J fp it tn) (st3 : tn 0 s3.heap) (off : ∀ b ∈ fp, FpOk X pins H3 b ∧ b < s3.heap.objs.size) (pg : PG (X.blk s3 H3 scope B fp) tg g) (pe : PE (X.blk s3 H3 scope B fp) elt te) (z0 : Z 0 k0 H3)
    (turn : ∀ i k G, Z i k G → (J.stop i G ∧ Q (.ref D) G) ∨ (J.go i G ∧ ∀ x G', J.yld i G x G' → g x (wipe σ (own.map (·.2))) G' fun σ2 G2 => wipe σ2 (own.map (·.2)) = wipe σ (own.map (·.2)) ∧ te σ2 G2 fun y G4 =>
      ∃ (c : Int) (S : Int → Bool) (n : Nat), y = .int c ∧ G4 D = some (SetO X.w D S n) ∧ n + 1 < scanBound ∧ ∃ k', k' < k ∧ Z (i + 1) k' (upd G4 D (SetO X.w D (fun j => S j || decide (j = c)) (if S c = true then n else n + 1)))))
    (fin : ∀ s' m G, Inv X pins σ G s' → Q (.ref D) G → s'.heap.Ns s3.heap.objs.size m → FpOk X pins G s3.heap.objs.size → compPost (model X.prog X.w) X.A X.xe none Qf (.ref D) s3.heap.objs.size (.ok .next) s') :
    codeAny (model X.prog X.w) X.A (.compStart (.SetComp elt [⟨tg, iter, [], 0⟩] scope pos) 0 (.ref it) (.ref D) B) (compPost (model X.prog X.w) X.A X.xe none Qf (.ref D) s3.heap.objs.size) { s3 with heap := pushCells (s3.heap.push { cls := .type "dict", data := .dict #[] }) scope.names } := by
  have I4 := block_start I3 ok hN off
  rw [hB] at I4
  have loc : B.locals = s3.heap.objs.size := by rw [← hB]; rfl
  generalize es : ({ s3 with heap := pushCells (s3.heap.push { cls := .type "dict", data := .dict #[] }) scope.names } : Shared) = s4 at I4 ⊢
  have st4 : tn 0 s4.heap := T.keep _ _ _ st3 fun b _ o e => by
    rw [← es]
    exact pushCells_keeps _ _ _ _ (Heap.get?_push_of_some _ e)
  have hold : ∀ (τ : L2.St) (G : Hp) (u : Shared), Inv (X.blk s3 H3 scope B fp) [] τ G u → (∀ b ∈ fp, G b = none) → ∀ b ∈ fp, FpOk (X.blk s3 H3 scope B fp) [] G b := fun τ G u Iu nb b hb =>
    ⟨nb b hb, (Iu.ok.exf b hb).1, Iu.ok.exfs b hb, .inl hb, (Iu.ok.exf b hb).2, fun p hp => absurd hp (by simp)⟩
  have go : codeAny (model X.prog X.w) X.A (.compLoop (.SetComp elt [⟨tg, iter, [], 0⟩] scope pos) 0 (.ref it) (.ref D) B) (compPost (model X.prog X.w) X.A X.xe none Qf (.ref D) s3.heap.objs.size) s4 := by
    refine PpSet.compLoopS_any (fun k u => ∃ i G, Z i k G ∧ (∀ b ∈ fp, G b = none) ∧ tn i u.heap ∧ Inv (X.blk s3 H3 scope B fp) [] (wipe σ (own.map (·.2))) G u) (fun k u h => ?_) k0 ⟨0, H3, z0, fun b hb => (off b hb).1.1, st4, I4⟩
    obtain ⟨i, G, z, nb, su, Iu⟩ := h
    rcases turn i k G z with ⟨stop, qD⟩ | ⟨goes, step⟩
    · refine thnF (T.done (X.blk s3 H3 scope B fp) rfl rfl rfl hc i [] u _ G (fun _ _ => False) Iu (hold _ _ _ Iu nb) su stop) fun r u1 ⟨er, I1⟩ => ?_
      subst er
      obtain ⟨m, hm, _⟩ := I1.loc
      have nC : G B.locals = none := I1.free
      have hm : u1.heap.Ns B.locals m := hm
      rw [loc] at nC hm
      exact fin u1 m G (I3.call' (ch := fp) I1.os I1.base I1.hok I1.bare fun b hb => let ⟨_, x1, _, x2, x3, x4⟩ := (off b hb).1; ⟨x2, x1, x3, x4⟩) qD hm (I3.fpOk (Nat.le_refl _) nC)
    · refine thnF (T.item (X.blk s3 H3 scope B fp) rfl rfl rfl hc i [] u _ G (fun _ _ => False) Iu (hold _ _ _ Iu nb) su goes) fun r u1 ⟨v, er, h1⟩ => ?_
      subst er
      refine thnF h1 fun _ u2 ⟨x, G2, I2, r2, y2, su2, nb2⟩ => ?_
      refine thnF (pg.run _ u2 _ G2 x v _ (I2.pinned (hold _ _ _ I2 nb2) (T.obj _ _ su2)) r2 (step x G2 y2)) fun _ u3 ⟨τ, G3, I5, w5, q5⟩ => ?_
      refine thnF ((pts_nil (X := X.blk s3 H3 scope B fp)).run _ u3 τ G3 (fun b G => b = true ∧ te τ G _) I5 ⟨rfl, q5⟩) fun b u4 ⟨G4, I6, eb, q6⟩ => ?_
      subst eb
      rw [if_pos rfl]
      refine thnF (pe.run _ u4 τ G4 _ I6 q6) fun z u5 ⟨y, G5, I7, r7, c, S, n, ey, hD, room, k', hk, zz⟩ => ?_
      subst ey
      refine thnF (mt_sadd (X := X.blk s3 H3 scope B fp) _ u5 τ G5 (.ref D) [.int c] (.ref D) [z] (fun _ G' => G' = upd G5 D (SetO X.w D (fun j => S j || decide (j = c)) (if S c = true then n else n + 1))) I7 rfl (.cons r7 .nil) ⟨D, c, S, n, rfl, rfl, hD, room, rfl⟩) fun _ u6 ⟨_, G6, I8, _, eG⟩ => ?_
      subst eG
      have still : ∀ b ∈ fp, ∀ o, u2.heap.get? b = some o → u6.heap.get? b = some o ∧ upd G5 D (SetO X.w D (fun j => S j || decide (j = c)) (if S c = true then n else n + 1)) b = none := fun b hb o e =>
        let p := I8.pin (b, o) (List.mem_append_right _ (List.mem_append_right _ (mem_pinsAt hb e)))
        ⟨p.1, p.2.1⟩
      refine ⟨k', hk, i + 1, _, zz, fun b hb => ?_, T.keep _ _ _ su2 fun b hb o e => (still b hb o e).1, (I8.unpinned (pins := [])).weak (by rw [← w5, wipe_length]) fun j v e => ?_⟩
      · obtain ⟨o, e, _⟩ := T.obj _ _ su2 b hb
        exact (still b hb o e).2
      · rw [← w5] at e
        exact (wipe_some e).1
  exact PpSet.codeAny_compStart_set go (T.self X.A 0 _ _ _ st4 go)
theorem pe_sci {elt tg iter : Expr} {scope : Scope} {own : List (Str × Nat)} {pos : Pos} {wi : TI} {g : TG} {te : TE} (hc : X.calm = true) (hN : X.N.Nodup) (hi : PI X tg iter wi) (ok : BlkOk X.N X.env.scope scope own)
    (hg : ∀ (s : Shared) (H : Hp) (C : Addr) (cl : List (Str × Addr)) (fp : List Addr), PG (X.blk s H scope (compEnvC scope cl C X.env) fp) tg g)
    (he : ∀ (s : Shared) (H : Hp) (C : Addr) (cl : List (Str × Addr)) (fp : List Addr), PE (X.blk s H scope (compEnvC scope cl C X.env) fp) elt te) (hs : ∀ x, foldedSetIterable iter X.env x = pure x := by intro _; rfl) :
    PE X (.SetComp elt [⟨tg, iter, [], 0⟩] scope pos) (tSci X.w wi g te (own.map (·.2))) := by
  refine ⟨fun pins s σ H Q I q0 => ?_⟩
  rw [PpSet.eval_SetComp]
  have free : ∀ y ∈ scope.names, y.2 = .free → ∃ b, X.env.cells.lookup y.1 = some b := fun y hy e => (ok.free y hy e).elim (fun z => I.ok.has _ (.inl z)) fun z => I.ok.has _ (.inr z)
  refine wpAny_comprehension_free (use := none) rfl hs (closure_ok free) ok.kind (fun y hy e => by rw [ok.uniq y hy, e]) (thn (hi.run pins s σ H _ I q0) fun _ s1 a1 => thn a1 fun _ s2 a2 => ?_)
  obtain ⟨it, fp, tn, J, G, rfl, I2, T, st2, f2, q⟩ := a2
  refine PpSet.newSet_ok (newEnv_comp ?_)
  obtain ⟨Z, ⟨k0, z0⟩, turn⟩ := q s2.heap.objs.size (I2.hok.fresh (Nat.le_refl _))
  -- the set is laid
  have low : ∀ b ∈ fp, b < s2.heap.objs.size := fun b hb => let ⟨_, e, _⟩ := T.obj _ _ st2 b hb; Heap.lt_size e
  have J3 := I2.laid (t' := s2.toks) (fun b o e => Heap.get?_push_of_some _ e) (Nat.le_refl _) (setO_new (setR_fresh (h := s2.heap) X.w))
  have off : ∀ b ∈ fp, FpOk X pins (upd G s2.heap.objs.size (SetO X.w s2.heap.objs.size (fun _ => false) 0)) b := fun b hb => ⟨by rw [upd_ne (Nat.ne_of_lt (low b hb))]; exact (f2 b hb).1, (f2 b hb).2⟩
  have far : ∀ b ∈ fp, b < (s2.heap.push { cls := .type "set", dict := none, data := .set #[] 0 (.fresh 0 0 (!X.w.params.followText "set-order")) }).objs.size := fun b hb => by
    rw [Heap.size_push]
    exact Nat.lt_succ_of_lt (low b hb)
  refine sci_turns (s3 := { s2 with heap := s2.heap.push { cls := .type "set", dict := none, data := .set #[] 0 (.fresh 0 0 (!X.w.params.followText "set-order")) } }) rfl hc hN ok J3 T (T.keep _ _ _ st2 fun b _ o e => Heap.get?_push_of_some _ e) (fun b hb => ⟨off b hb, far b hb⟩) (hg _ _ _ _ _) (he _ _ _ _ _) z0 turn fun u m G2 Iu qD hm f => ⟨m, hm, fun h2 sb => ?_⟩
  obtain ⟨f0, f1, _, f3, f4, f5⟩ := f
  exact ⟨.ref s2.heap.objs.size, G2, Iu.turned (t' := u.toks) (fun b o hb e => (sb.2 b hb).trans e) f0 f1 f3 f4 f5, rfl, qD⟩
end
/-! ### in order, each once -/
def insU (k : Int) : List Int → List Int
  | [] => [k]
  | x :: r => if k < x then k :: x :: r else if k = x then x :: r else x :: insU k r
def srtU (ys : List Int) : List Int := ys.foldl (fun s k => insU k s) []
def oSortU (ys : List Int) : Option (List Int) := if (srtU ys).length < 64 then some (srtU ys) else none
theorem insU_mem (k x : Int) : ∀ l : List Int, x ∈ insU k l ↔ x = k ∨ x ∈ l
  | [] => by simp [insU]
  | y :: r => by
    unfold insU
    have ih := insU_mem k x r
    by_cases h1 : k < y
    · rw [if_pos h1]; simp
    · rw [if_neg h1]
      by_cases h2 : k = y
      · rw [if_pos h2]; subst h2; simp
      · rw [if_neg h2, List.mem_cons, ih, List.mem_cons]
        constructor
        · rintro (z | z | z)
          · exact .inr (.inl z)
          · exact .inl z
          · exact .inr (.inr z)
        · rintro (z | z | z)
          · exact .inr (.inl z)
          · exact .inl z
          · exact .inr (.inr z)
theorem insU_up (k : Int) : ∀ l : List Int, l.Pairwise (· < ·) → (insU k l).Pairwise (· < ·)
  | [], _ => by simp [insU]
  | y :: r, h => by
    obtain ⟨h1, h2⟩ := List.pairwise_cons.mp h
    unfold insU
    by_cases z : k < y
    · rw [if_pos z]
      exact List.pairwise_cons.mpr ⟨fun x hx => by
        rcases List.mem_cons.mp hx with e | e
        · omega
        · have := h1 x e; omega, h⟩
    · rw [if_neg z]
      by_cases z2 : k = y
      · rw [if_pos z2]; exact h
      · rw [if_neg z2]
        exact List.pairwise_cons.mpr ⟨fun x hx => by
          rcases (insU_mem k x r).mp hx with e | e
          · omega
          · exact h1 x e, insU_up k r h2⟩
theorem insU_length (k : Int) : ∀ l : List Int, l.Pairwise (· < ·) → (insU k l).length = if k ∈ l then l.length else l.length + 1
  | [], _ => by simp [insU]
  | y :: r, h => by
    obtain ⟨h1, h2⟩ := List.pairwise_cons.mp h
    have ih := insU_length k r h2
    unfold insU
    by_cases z : k < y
    · have : k ∉ y :: r := fun hm => by
        rcases List.mem_cons.mp hm with e | e
        · omega
        · have := h1 k e; omega
      rw [if_pos z, if_neg this]; rfl
    · rw [if_neg z]
      by_cases z2 : k = y
      · rw [if_pos z2, if_pos (by rw [z2]; simp)]
      · rw [if_neg z2, List.length_cons, ih]
        by_cases z3 : k ∈ r
        · rw [if_pos z3, if_pos (List.mem_cons_of_mem _ z3)]; rfl
        · rw [if_neg z3, if_neg fun hm => by
            rcases List.mem_cons.mp hm with e | e
            · exact z2 e
            · exact z3 e]
          rfl
theorem srtU_snoc (ys : List Int) (c : Int) : srtU (ys ++ [c]) = insU c (srtU ys) := by unfold srtU; rw [List.foldl_append]; rfl
theorem srtU_spec (ys : List Int) : (srtU ys).Pairwise (· < ·) ∧ ∀ x, x ∈ srtU ys ↔ x ∈ ys := by
  suffices H : ∀ (ys acc : List Int), acc.Pairwise (· < ·) → (ys.foldl (fun s k => insU k s) acc).Pairwise (· < ·) ∧ ∀ x, x ∈ ys.foldl (fun s k => insU k s) acc ↔ x ∈ ys ∨ x ∈ acc by
    obtain ⟨a, b⟩ := H ys [] .nil
    exact ⟨a, fun x => (b x).trans (by simp)⟩
  intro ys
  induction ys with
  | nil => intro acc h; exact ⟨h, fun x => by simp⟩
  | cons y r ih =>
    intro acc h
    obtain ⟨a, b⟩ := ih (insU y acc) (insU_up y acc h)
    refine ⟨a, fun x => ?_⟩
    show x ∈ r.foldl _ (insU y acc) ↔ _
    rw [b x, insU_mem, List.mem_cons]
    constructor
    · rintro (z | z | z)
      · exact .inl (.inr z)
      · exact .inl (.inl z)
      · exact .inr z
    · rintro ((z | z) | z)
      · exact .inr (.inl z)
      · exact .inl z
      · exact .inr (.inr z)
theorem up_unique : ∀ {a b : List Int}, a.Pairwise (· < ·) → b.Pairwise (· < ·) → (∀ x, x ∈ a ↔ x ∈ b) → a = b
  | [], [], _, _, _ => rfl
  | [], y :: b, _, _, h => by have := (h y).mpr (by simp); simp at this
  | x :: a, [], _, _, h => by have := (h x).mp (by simp); simp at this
  | x :: a, y :: b, ha, hb, h => by
    obtain ⟨a1, a2⟩ := List.pairwise_cons.mp ha
    obtain ⟨b1, b2⟩ := List.pairwise_cons.mp hb
    have e : x = y := by
      rcases List.mem_cons.mp ((h x).mp (by simp)) with z | z
      · exact z
      rcases List.mem_cons.mp ((h y).mpr (by simp)) with w | w
      · exact w.symm
      have := b1 x z
      have := a1 y w
      omega
    subst e
    rw [up_unique a2 b2 fun z => ?_]
    constructor
    · intro hz
      rcases List.mem_cons.mp ((h z).mp (List.mem_cons_of_mem _ hz)) with w | w
      · have := a1 z hz; omega
      · exact w
    · intro hz
      rcases List.mem_cons.mp ((h z).mpr (List.mem_cons_of_mem _ hz)) with w | w
      · have := b1 z hz; omega
      · exact w
/-! ### the rule -/
def srtL {T A : Type} (f : A → MM T Int) (xs : List A) : MM T (List Int) := if xs.length ≤ 4000 then bnd (lcM (fun a => noE (f a)) xs) fun ys => lft (oSortU ys) else stk
section
variable {X : Cx} {T A : Type} {c : Ctx T} {ds : List Desc} {pos cpos p : Pos}
theorem rd_sci {w : World} {wi : TI} {g : TG} {te : TE} {vs is : List Nat} {t : Ty A} {x : MM T (List A)} {f : A → MM T Int} {bd : A → List Desc → List Desc} {σ : L2.St} {H : Hp} {Q : VK}
    (hw : ∀ σ H R, SrcTI c ds t x σ H R → wi σ H R) (ht : TgtOk c.nox g t is bd) (hv : ∀ i ∈ is, i ∈ vs) (hte : ∀ a σ H Q, TX c.nox (bd a (wipeD ds vs)) tInt (f a) σ H Q → te σ H Q)
    (h : TXO c ds (oList tInt) (bnd x (srtL f)) σ H Q) : tSci w wi g te vs σ H (fun y H1 => rSortedSet w [y] H1 Q) := by
  obtain ⟨m, st, env, p⟩ := h
  refine hw σ H _ ⟨m, st, env, (Post.bnd.mp p).imp fun xs s1 p J q m1 H1 w1 a1 hq q1 sv D hD => ?_⟩
  unfold srtL at p
  by_cases hlen : xs.length ≤ 4000
  rotate_left
  · rw [if_neg hlen] at p; exact p.elim
  rw [if_pos hlen] at p
  have p := Post.bnd.mp p
  let FIN : List Int → T → Prop := fun a st' => ∀ v fp m' H', WStep c.afp m H m' H' → c.amb st' H' m' → (∀ p ∈ fp, H p = none ∧ m' p = none) → (oList tInt).rep a v fp H' m' → Q v H'
  have sO : ∀ (done : List Int) (b : Int), SetO w D (fun j => decide (j ∈ done) || decide (j = b)) (if decide (b ∈ done) = true then (srtU done).length else (srtU done).length + 1) = SetO w D (fun j => decide (j ∈ done ++ [b])) (srtU (done ++ [b])).length := fun done b => by
    have e1 : (fun j => decide (j ∈ done) || decide (j = b)) = fun j => decide (j ∈ done ++ [b]) := funext fun j => by simp
    have e2 : (if decide (b ∈ done) = true then (srtU done).length else (srtU done).length + 1) = (srtU (done ++ [b])).length := by
      rw [srtU_snoc, insU_length b _ (srtU_spec done).1]
      by_cases z : b ∈ done
      · rw [if_pos (decide_eq_true z), if_pos (((srtU_spec done).2 b).mpr z)]
      · rw [if_neg (by rw [decide_eq_false z]; exact Bool.false_ne_true), if_neg fun y => z (((srtU_spec done).2 b).mp y)]
    rw [e1, e2]
  refine ⟨fun i n Hc => n = xs.length - i ∧ i ≤ xs.length ∧ ∃ m G st done, Hc = upd G D (SetO w D (fun j => decide (j ∈ done)) (srtU done).length) ∧ G D = none ∧ EnvOk c σ m G ds st ∧ WStep c.afp m1 H1 m G ∧ q m ∧ (srtU done).length ≤ i ∧
      Post (lcM (fun a => noE (f a)) (xs.drop i) st) (fun ys st' => Post (lft (oSortU (done ++ ys)) st') FIN c.err) c.err,
    ⟨xs.length, by simp, Nat.zero_le _, m1, H1, s1, [], by congr 1, hD, env.go w1 a1, .refl w1.mh, q1, Nat.le_refl _, p⟩, ?_⟩
  rintro i n Hc ⟨rfl, hi, m2, G, st2, done, rfl, hG, env2, w2, q2, hdl, p2⟩
  generalize eO : SetO w D (fun j => decide (j ∈ done)) (srtU done).length = so
  have hmD : m2 D = none := env2.mh.free hG
  have wn : WStep [] m2 G m2 (upd G D so) := .own env2.mh hG
  obtain ⟨sv1, sv2⟩ := sv i (upd G D so) ⟨m2, q2, wn.mh⟩
  by_cases hlt : i < xs.length
  · obtain ⟨g1, g2⟩ := sv1 hlt
    refine .inr ⟨g1, fun v H' y => ?_⟩
    obtain ⟨rfl, y2⟩ := g2 v H' y
    obtain ⟨a, ha, ra⟩ := y2 m2 q2 wn.mh
    rw [List.getElem?_eq_getElem hlt] at ha
    cases ha
    rw [List.drop_eq_getElem_cons hlt] at p2
    have envc : EnvOk c.nox (wipe σ vs) m2 (upd G D so) (wipeD ds vs) st2 := ((env2.grow wn).wipe vs).nox
    refine ht xs[i] v (wipe σ vs) m2 _ _ st2 _ ra envc fun σ3 env3 b3 => ⟨wipe_but b3 hv, ?_⟩
    refine hte xs[i] σ3 _ _ ⟨m2, st2, env3, (Post.noE.mp (Post.bnd.mp p2)).imp fun b s4 p4 v4 m4 H4 w4 a4 r4 => ?_⟩
    cases rep_int r4
    have hDa : D ∉ c.afp := fun z => (c.ambD env2.amb D z) hG
    have hH4 : H4 D = some so := w4.hh D _ hDa upd_same
    have k4 : WStep c.afp m2 G m4 (less H4 D) := less_step w4 hG hmD
    have am4 : c.amb s4 (less H4 D) m4 := c.ambF (fun y hy => less_ne _ fun z => hDa (by rw [← z]; exact hy)) (.refl _) a4
    refine ⟨b, fun j => decide (j ∈ done), (srtU done).length, rfl, by rw [eO]; exact hH4, Nat.lt_of_le_of_lt (show _ ≤ 4001 by omega) (by decide), xs.length - (i + 1), by omega, rfl, hlt, m4, less H4 D, s4, done ++ [b], ?_, less_same _ _, env2.go k4 am4, w2.trans k4, hq k4.mm q2, ?_, ?_⟩
    · rw [upd_less, sO]
    · rw [srtU_snoc, insU_length b _ (srtU_spec done).1]
      split <;> omega
    · refine (Post.bnd.mp p4).imp fun ys s5 p5 => ?_
      show Post (lft (oSortU (done ++ [b] ++ ys)) s5) FIN c.err
      rw [List.append_assoc]
      exact p5
  · have e : xs.drop i = [] := List.drop_eq_nil_of_le (by omega)
    rw [e] at p2
    refine .inl ⟨sv2 (by omega), ?_⟩
    have p2 : Post (lft (oSortU (done ++ [])) st2) FIN c.err := p2
    rw [List.append_nil] at p2
    obtain ⟨out, ho, p2⟩ := Post.lft.mp p2
    unfold oSortU at ho
    by_cases h64 : (srtU done).length < 64
    rotate_left
    · rw [if_neg h64] at ho; cases ho
    rw [if_pos h64] at ho
    cases ho
    refine ⟨D, _, _, rfl, by rw [← eO]; exact upd_same, h64, fun ns pn up mem len fr => ?_⟩
    have en : ns = srtU done := up_unique up (srtU_spec done).1 fun x => by rw [mem x, (srtU_spec done).2 x]; simp
    subst en
    have w3 : WStep [] m2 (upd G D so) m2 (upd (upd G D so) pn (.lst ((srtU done).map .int))) := .own wn.mh fr
    have w := ((w1.trans w2).trans wn.wide).trans w3.wide
    exact p2 (.ref pn) [pn] m2 _ w (EnvOk.ambGrow (EnvOk.ambGrow env2.amb wn) w3) (fun y hy => by
      obtain rfl := List.mem_singleton.mp hy
      exact ⟨fresh_up ((w1.trans w2).trans wn.wide) fr, wn.mh.free fr⟩) ⟨pn, _, rfl, rfl, upd_same, Reps.ofInts _⟩
variable {elt tg iter : Expr} {scope : Scope} {own : List (Str × Nat)} {g : TG} {is : List Nat} {t : Ty A} {x : MM T (List A)} {f : A → MM T Int} {bd : A → List Desc → List Desc}
/-- sorted({elt for tg in iter}) -/
theorem x_sortS (hms : X.mg "sorted" = none) (hc : X.calm = true) (hN : X.N.Nodup) (hi : PI X tg iter (SrcTI c ds t x)) (ok : BlkOk X.N X.env.scope scope own) (ht : TgtOk c.nox g t is bd) (hv : ∀ i ∈ is, i ∈ own.map (·.2))
    (hg : ∀ (s : Shared) (H : Hp) (C : Addr) (cl : List (Str × Addr)) (fp : List Addr), PG (X.blk s H scope (compEnvC scope cl C X.env) fp) tg g)
    (he : ∀ (s : Shared) (H : Hp) (C : Addr) (cl : List (Str × Addr)) (fp : List Addr) (a : A), PE (X.blk s H scope (compEnvC scope cl C X.env) fp) elt (TX c.nox (bd a (wipeD ds (own.map (·.2)))) tInt (f a))) (hs : ∀ x, foldedSetIterable iter X.env x = pure x := by intro _; rfl)
    (hgl : Gl X "sorted" := by rfl)
    (h1 : starEach [.SetComp elt [⟨tg, iter, [], 0⟩] scope cpos] X.env = (false, eval (.SetComp elt [⟨tg, iter, [], 0⟩] scope cpos) X.env) :: starEach [] X.env := by rfl) (hpl : (backTo pos (starEach [] X.env)).any (·.1) = false := by rfl) :
    PE X (.Call (.Name "sorted" p) [.SetComp elt [⟨tg, iter, [], 0⟩] scope cpos] [] pos) (TXO c ds (oList tInt) (bnd x (srtL f))) :=
  PE.imp (pe_callB (cr_sortedSet hc) hgl hms (by decide +kernel) (pa_cons (pe_sci hc hN hi ok hg (fun s H C cl fp => PE.any (he s H C cl fp)) hs) pa_nil h1) (by decide) (by decide) h1 hpl) fun σ H Q h =>
    show tSci X.w (SrcTI c ds t x) g (fun σ H Q => ∃ a, TX c.nox (bd a (wipeD ds (own.map (·.2)))) tInt (f a) σ H Q) (own.map (·.2)) σ H (fun y H1 => rSortedSet X.w [y] H1 Q) from rd_sci (fun _ _ _ q => q) ht hv (fun a σ H Q q => ⟨a, q⟩) h
end
/-! a part of a tuple -/
section
variable {X : Cx} {T A : Type} {c : Ctx T} {ds : List Desc} {t : Ty A} {pos p2 : Pos} {e : Expr}
theorem x_slT {lo hi : Option Expr} {xe : MM T (List A)} {xl xh : MM T (Option Int)} (he : PE X e (TX c ds (tVT X.K t) xe)) (hl : PO X lo (TPX c ds xl)) (hh : PO X hi (TPX c ds xh)) :
    PE X (.Subscript e (.Slice lo hi none p2) pos) (TX c ds (tVT X.K t) (e3p oCut xe xl xh)) := PE.imp (pe_slice sl_tupA he hl hh) fun σ H Q ⟨m, st, env, p⟩ => by
  unfold e3p at p
  refine ⟨m, st, env, (Post.bnd.mp p).imp fun xs s1 p v1 m1 H1 w1 a1 ⟨q, us, e1, k, r⟩ => ?_⟩
  refine ⟨m1, s1, env.go w1 a1, (Post.bnd.mp p).imp fun l s2 p m2 H2 w2 a2 => ?_⟩
  refine ⟨m2, s2, (env.go w1 a1).go w2 a2, (Post.bnd.mp p).imp fun h s3 p m3 H3 w3 a3 => ?_⟩
  subst e1
  have k3 := (w2.mm.trans w3.mm).sqT k
  have r3 := (r.mono (w2.mm.trans w3.mm)).cut l h
  refine ⟨q, us, rfl, w3.mh.sqT k3, fun ⟨z1, z2⟩ => ?_, fun _ x hx => ?_⟩
  · have ez : cutV us l h = us := by unfold cutV; rw [z1, z2, List.drop_zero, Nat.sub_zero, List.take_length]
    rw [ez] at r3
    exact p _ m3 H3 ((w1.trans w2).trans w3) a3 ⟨q, us, rfl, k3, r3⟩
  · have w4 : WStep [] m3 H3 (upd m3 x (.tup (cutV us l h))) (upd H3 x (.tup (cutV us l h))) := .new w3.mh hx
    exact p _ _ _ (((w1.trans w2).trans w3).trans w4.wide) (EnvOk.ambGrow a3 w4) ⟨x, _, rfl, .of upd_same, r3.mono w4.mm⟩
end
end WL

/-! WLZ: local dicts by whole numbers, their keys in order; tuples in order. -/
namespace WL
open PySem PySem.Spec PyProof.Rows L2
section
variable {X : Cx} {T A B F KK : Type} [DecidableEq A] [DecidableEq KK] {c : Ctx T} {ds : List Desc} {t : Ty A} {u : Ty B} {ho : List (KK × V) → HO} {enc : A → KK} {pos p2 p3 : Pos} {e ev o : Expr} {xk : MM T A} {xv : MM T B} {P : F → T → Ends → Prop} {rest : List Stmt}
theorem x_disp0K {enc : A → Key} : PE X (.Dict [] [] pos) (TXO c ds (oDictK HO.dK enc u) (e1 (fun _ => some ([] : List (A × B))) (ret ()))) := PE.imp pe_dnewK fun σ H Q ⟨m, st, env, p⟩ q hq =>
  (show Post (ret ([] : List (A × B)) st) _ _ from p) (.ref q) [q] m _ (.own env.mh hq) (c.ambF (fun y hy => upd_ne fun z => c.ambD env.amb y hy (by rw [z]; exact hq)) (.refl m) env.amb) (fun y hy => by obtain rfl := List.mem_singleton.mp hy; exact ⟨hq, env.mh.free hq⟩) ⟨q, _, rfl, rfl, upd_same, .nil⟩
theorem DRep.isSome {m : Hp} {xs : List (A × B)} {kvs : List (KK × V)} (hi : ∀ a b, enc a = enc b → a = b) (r : DRep enc u m xs kvs) (a : A) : (valV kvs (enc a)).isSome = aHas xs a := by
  unfold aHas
  rcases r.get hi a with ⟨z1, z2⟩ | ⟨b, y, z1, z2, _⟩ <;> rw [z1, z2] <;> rfl
/-- k in d, d a local dict -/
theorem rd_inK {r : Bool} {σ : L2.St} {H : Hp} {Q : VK} (i : Nat) {xs : List (A × B)} (dk : DKind t ho enc) (hd : ds[i]? = some (.own (oDictK ho enc u) xs)) (q : TX c ds tBool (e1 (fun a => some (if r then !aHas xs a else aHas xs a)) xk) σ H Q) :
    TX c ds t xk σ H fun y H1 => tVar i σ H1 fun x H2 => ∃ a o, x = .ref a ∧ DGet H2 a y o ∧ Q (.bl (if r then !o.isSome else o.isSome)) H2 := by
  obtain ⟨m, st, env, p⟩ := q
  refine ⟨m, st, env, (Post.bnd.mp p).imp fun a s1 p v1 m1 H1 w1 a1 r1 => ?_⟩
  obtain ⟨k, hk, p⟩ := Post.lft.mp p
  cases hk
  obtain ⟨v', fp, g1, q, kvs, ev, ef, kk, r2⟩ := own_at (env.go w1 a1) hd
  refine ⟨v', g1, q, _, ev, dk.get r1 w1.mh kk, ?_⟩
  rw [r2.isSome dk.inj a]
  exact p _ m1 H1 w1 a1 rfl
theorem t_inK (i : Nat) {x : Str} {xs : List (A × B)} (dk : DKind t ho enc) (hu : X.A.units + 1 < cLine) (he : PE X e (TX c ds t xk)) (hd : ds[i]? = some (.own (oDictK ho enc u) xs) := by rfl) (hN : X.N[i]? = some x := by rfl) (hv : Vis X.env.scope x := by first | exact Or.inl rfl | exact Or.inr (Or.inl rfl) | exact Or.inr (Or.inr rfl))
    (h1 : (x == ("__debug__" : Str)) = false := by decide) (h2 : (x == ("__classdict__" : Str)) = false := by decide) (hm : behindInMarks .In (.Name x p2) = false := by first | exact nomark _ | rfl) :
    PT X (.Compare e [.In] [.Name x p2] pos) (TTX c ds (e1 (oHas xs) xk)) := PT.imp (pt_cmp (pc_din hu he (pe_var hN hv h1 h2)) hm) fun σ H Q ⟨m, st, env, p⟩ => by
  have q : TX c ds tBool (e1 (oHas xs) xk) σ H (fun x H' => ∃ k, x = .bl k ∧ Q k H') := ⟨m, st, env, p.imp fun a s1 p v m1 H1 w1 a1 r1 => ⟨a, r1, p m1 H1 w1 a1⟩⟩
  exact rd_inK (r := false) i dk hd q
theorem t_ninK (i : Nat) {x : Str} {xs : List (A × B)} (dk : DKind t ho enc) (hu : X.A.units + 1 < cLine) (he : PE X e (TX c ds t xk)) (hd : ds[i]? = some (.own (oDictK ho enc u) xs) := by rfl) (hN : X.N[i]? = some x := by rfl) (hv : Vis X.env.scope x := by first | exact Or.inl rfl | exact Or.inr (Or.inl rfl) | exact Or.inr (Or.inr rfl))
    (h1 : (x == ("__debug__" : Str)) = false := by decide) (h2 : (x == ("__classdict__" : Str)) = false := by decide) (hm : behindInMarks .NotIn (.Name x p2) = false := by first | exact nomark _ | rfl) :
    PT X (.Compare e [.NotIn] [.Name x p2] pos) (TTX c ds (e1 (oHasNot xs) xk)) := PT.imp (pt_cmp (pc_dnotin hu he (pe_var hN hv h1 h2)) hm) fun σ H Q ⟨m, st, env, p⟩ => by
  have q : TX c ds tBool (e1 (oHasNot xs) xk) σ H (fun x H' => ∃ k, x = .bl k ∧ Q k H') := ⟨m, st, env, p.imp fun a s1 p v m1 H1 w1 a1 r1 => ⟨a, r1, p m1 H1 w1 a1⟩⟩
  exact rd_inK (r := true) i dk hd q
/-- d[k] -/
theorem x_getK (i : Nat) {x : Str} {xs : List (A × B)} (dk : DKind t ho enc) (hu : X.A.units + 1 < cLine) (he : PE X e (TX c ds t xk)) (hd : ds[i]? = some (.own (oDictK ho enc u) xs) := by rfl) (hN : X.N[i]? = some x := by rfl) (hv : Vis X.env.scope x := by first | exact Or.inl rfl | exact Or.inr (Or.inl rfl) | exact Or.inr (Or.inr rfl))
    (h1 : (x == ("__debug__" : Str)) = false := by decide) (h2 : (x == ("__classdict__" : Str)) = false := by decide) (hs : NoSl e := by exact fun _ _ => rfl) : PE X (.Subscript (.Name x p2) e pos) (TX c ds u (bnd xk fun k => lft (aGet xs k))) :=
  PE.imp (pe_dget hu (pe_var hN hv h1 h2) he hs) fun σ H Q ⟨m, st, env, p⟩ => by
    obtain ⟨v, fp, g1, _⟩ := own_at env hd
    refine ⟨v, g1, m, st, env, (Post.bnd.mp p).imp fun k s1 p v1 m1 H1 w1 a1 r1 => ?_⟩
    obtain ⟨b, hb, p⟩ := Post.lft.mp p
    obtain ⟨v', fp', g1', q, kvs, ev, ef, kk, r2⟩ := own_at (env.go w1 a1) hd
    rw [g1] at g1'; cases g1'
    rcases r2.get dk.inj k with ⟨z1, _⟩ | ⟨b', y, z1, z2, z3⟩
    · rw [z1] at hb; cases hb
    · rw [z1] at hb; cases hb
      have g := dk.get r1 w1.mh kk
      rw [z2] at g
      exact ⟨q, y, ev, g, p y m1 H1 w1 a1 z3⟩
/-- d[k], d a dict that stays -/
theorem x_getKF {xo : MM T (List (A × B))} (dk : DKind t ho enc) (hu : X.A.units + 1 < cLine) (hx : PE X o (TX c ds (tDictK ho enc u) xo)) (he : PE X e (TX c ds t xk)) (hs : NoSl e := by exact fun _ _ => rfl) : PE X (.Subscript o e pos) (TX c ds u (e2 aGet xo xk)) :=
  PE.imp (pe_dget hu hx he hs) fun σ H Q ⟨m, st, env, p⟩ => by
    unfold e2 at p
    refine ⟨m, st, env, (Post.bnd.mp p).imp fun xs s1 p v1 m1 H1 w1 a1 ⟨q, kvs, ev, kk, r⟩ => ?_⟩
    refine ⟨m1, s1, env.go w1 a1, (Post.bnd.mp p).imp fun k s2 p v2 m2 H2 w2 a2 r2 => ?_⟩
    obtain ⟨b, hb, p⟩ := Post.lft.mp p
    have r' := r.mono w2.mm
    rcases r'.get dk.inj k with ⟨z1, _⟩ | ⟨b', y, z1, z2, z3⟩
    · rw [z1] at hb; cases hb
    · rw [z1] at hb; cases hb
      have g := dk.get r2 w2.mh (w2.mh _ _ (w2.mm _ _ kk))
      rw [z2] at g
      exact ⟨q, y, ev, g, p y m2 H2 (w1.trans w2) a2 z3⟩
/-- d[k] = v -/
theorem b_putK (i : Nat) {x : Str} {xs : List (A × B)} {k : List (A × B) → MM T F} (dk : DKind t ho enc) (hu : X.A.units + 1 < cLine) (hv1 : PE X ev (TX c ds u xv)) (he : PE X e (TX c ds t xk)) (h2 : ∀ ys, PSs X rest (BX c (ds.set i (.own (oDictK ho enc u) ys)) (k ys) P)) (hd : ds[i]? = some (.own (oDictK ho enc u) xs) := by rfl) (hN : X.N[i]? = some x := by rfl) (hv : Vis X.env.scope x := by first | exact Or.inl rfl | exact Or.inr (Or.inl rfl) | exact Or.inr (Or.inr rfl))
    (h1 : (x == ("__debug__" : Str)) = false := by decide) (h3 : (x == ("__classdict__" : Str)) = false := by decide) (hs : swapsWith ev (some (.Subscript (.Name x p2) e p3)) pos.line X.env = pure false := by rfl) :
    PSs X (.Assign [.Subscript (.Name x p2) e p3] ev pos :: rest) (BX c ds (bnd xv fun a => bnd xk fun j => bnd (lft (oPut xs j a)) k) P) :=
  PSs.imp (pss_cons (ps_dput hu (pe_var hN hv h1 h3) he hv1 hs) (PSs.any h2)) fun D σ H ⟨m, st, env, p⟩ => by
    refine ⟨m, st, env, (Post.bnd.mp p).imp fun a s1 p v1 m1 H1 w1 a1 r1 => ?_⟩
    have env1 := env.go w1 a1
    obtain ⟨v, fp, g1, _⟩ := own_at env hd
    refine ⟨v, g1, m1, s1, env1, (Post.bnd.mp p).imp fun j s2 p v2 m2 H2 w2 a2 r2 => ?_⟩
    have env2 := env1.go w2 a2
    obtain ⟨ys, hy, p⟩ := Post.lft.mp (Post.bnd.mp p)
    obtain ⟨v', fp', g1', q, kvs, ev, ef, kk, r'⟩ := own_at env2 hd
    rw [g1] at g1'; cases g1'
    unfold oPut at hy
    by_cases z : xs.length < 100000
    · rw [if_pos z] at hy; cases hy
      refine ⟨q, _, ev, dk.put r2 w2.mh kk (by rw [← r'.length]; exact Nat.lt_of_lt_of_le z (by decide)), _, m2, s2, env2.put hd fun v fp2 g2 ⟨q2, kvs2, ev2, ef2, k2, r3⟩ => ?_, p⟩
      rw [g1] at g2; cases g2
      rw [ev] at ev2; cases ev2
      exact ⟨by rw [ef2]; simp, q, _, ev, ef2, upd_same, r'.put dk.inj j (u.mono w2.mm r1)⟩
    · rw [if_neg z] at hy; cases hy
end
/-! ### keys in order -/
def oSortK {B : Type} (xs : List (Int × B)) : Option (List Int) := if xs.length < 64 ∧ (xs.map (·.1)).Nodup then some (srtU (xs.map (·.1))) else none
theorem DRep.keysI {B : Type} {u : Ty B} {m : Hp} {xs : List (Int × B)} {kvs : List (Key × V)} (r : DRep (Sum.inl : Int → Key) u m xs kvs) : kvs.map (·.1) = (xs.map (·.1)).map Sum.inl := by
  induction r with
  | nil => rfl
  | cons _ _ ih => rw [List.map_cons, List.map_cons, List.map_cons, ih]
theorem up_srt {ys ks : List Int} (hp : ys.Perm ks) (hs : ys.Pairwise (· ≤ ·)) (nd : ks.Nodup) : ys = srtU ks := by
  refine up_unique ?_ (srtU_spec ks).1 fun x => ?_
  · exact lt_of_le_nodup ys hs (hp.nodup_iff.mpr nd)
  · rw [hp.mem_iff, (srtU_spec ks).2]
theorem sp_sortK {B : Type} {u : Ty B} : OpLO (fun xs H Q => ∃ (a : Addr) (kvs : List (Key × V)) (ks : List Int), xs = [.ref a] ∧ Rd H a (.dK kvs) ∧ kvs.map (·.1) = ks.map Sum.inl ∧ ks.length < 64 ∧
    ∀ (ys : List Int) (p : Addr), ys.Perm ks → ys.Pairwise (· ≤ ·) → H p = none → Q (.ref p) (upd H p (.lst (ys.map V.int)))) (l1 (tDictK HO.dK (Sum.inl : Int → Key) u)) (oList tInt) oSortK := fun a g vs m H Q ⟨v, ev, p, kvs, e1, k, r⟩ hm e q => by
  unfold oSortK at e
  by_cases z : a.length < 64 ∧ (a.map (·.1)).Nodup
  · rw [if_pos z] at e
    cases e
    subst ev e1
    refine ⟨p, kvs, a.map (·.1), rfl, .inl (hm _ _ k), r.keysI, by rw [List.length_map]; exact z.1, fun ys y hp hs hy => ?_⟩
    rw [up_srt hp hs z.2]
    exact newList hm (Reps.ofInts _) hy q
  · rw [if_neg z] at e; cases e
/-! ### tuples in order -/
def rSortT (K : PySem.W.Frag) : List V → Hp → VK → Prop := fun vs H Q => ∃ (a : Addr) (ns : List Int), vs = [V.ref a] ∧ SqT K H a (ns.map V.int) ∧ ns.length < 64 ∧ ∀ (ys : List Int) (p : Addr), ys.Perm ns → ys.Pairwise (· ≤ ·) → H p = none → Q (.ref p) (upd H p (.lst (ys.map V.int)))
theorem call_sortT {X : Cx} : CallR X (.builtin "sorted") (rSortT X.K) := by
  intro pins s σ H vs us Q I r h
  obtain ⟨a, ns, e, hs, h64, q⟩ := h
  subst e
  obtain ⟨its, rv, ht, hz⟩ := I.tuple hs
  rw [Vals.ref1 r]
  obtain ⟨o, ho, hcl, n, hd⟩ := ht
  have iRel := rv.ints
  have hl : its.length < 64 := by rw [iRel.length]; exact h64
  refine Calls.call_function_entry kind_sorted plain_sorted entry_sorted (args_sorted1 _) ?_
  unfold Builtin.«sorted»
  refine wpAny_bind (m := checkCount "sorted" 1 1 _) (wpAny_pure (wpAny_bind ?_))
  refine wpAny_collect_seq a (.inr rfl) ho hcl hd (fun h1 keep => ?_) (by rw [List.size_toArray, sizeLine_eq]; omega)
  have J : Inv X pins σ H { s with heap := h1 } := I.kept (t' := s.toks) keep
  have fits : its.toArray.toList.length ≤ sizeLine := by rw [sizeLine_eq]; show its.length ≤ _; omega
  refine wpAny_bind (wpAny_newList ?_ fits)
  have at1 : (h1.push (seqObj "list" its.toArray.toList.toArray 0)).get? h1.objs.size = some (seqObj "list" its.toArray.toList.toArray 0) := Heap.get?_push_size _ rfl
  refine wpAny_bind (wpAny_holding (wpAny_call_entry slot_list_sort ⟨_, at1, rfl⟩ entry_list_sort (list_sort_tree (s := { s with heap := h1.push (seqObj "list" its.toArray.toList.toArray 0) }) at1 iRel hl fun out ys o1 o2 o3 => ⟨_, rfl, ?_⟩) (args_list_sort _)))
  obtain ⟨c, hc⟩ := sortedHeap_at (vs := its.toArray.toList) (out := out) at1
  have small : (ys.map V.int).length ≤ sizeLine := by
    rw [List.length_map, o2.length_eq, sizeLine_eq]
    omega
  refine wpAny_pure ⟨_, rfl, .ref h1.objs.size, upd H h1.objs.size (.lst (ys.map V.int)), J.laid (t' := s.toks) (fun b w e => ?_) (Nat.le_refl _) ⟨small, out.toList, c, vals_of_ints o1, by rw [Array.toArray_toList]; exact hc⟩, rfl, q ys _ o2 o3 (J.hok.fresh (Nat.le_refl _))⟩
  have lt := Heap.lt_size e
  rw [sortedHeap_old (Nat.ne_of_lt lt) (by rw [size_push']; exact Nat.lt_succ_of_lt lt)]
  exact Heap.get?_push_of_some _ e
/-- in order, doubles as they are -/
def insD (k : Int) : List Int → List Int
  | [] => [k]
  | x :: r => if k ≤ x then k :: x :: r else x :: insD k r
def srtD (ys : List Int) : List Int := ys.foldr insD []
theorem insD_perm (k : Int) : ∀ l : List Int, (insD k l).Perm (k :: l)
  | [] => .refl _
  | x :: r => by
    unfold insD
    split
    · exact .refl _
    · exact ((insD_perm k r).cons x).trans (.swap k x r)
theorem srtD_perm : ∀ l : List Int, (srtD l).Perm l
  | [] => .refl _
  | x :: r => (insD_perm x (srtD r)).trans ((srtD_perm r).cons x)
theorem insD_up (k : Int) : ∀ l : List Int, l.Pairwise (· ≤ ·) → (insD k l).Pairwise (· ≤ ·)
  | [], _ => by simp [insD]
  | x :: r, h => by
    obtain ⟨h1, h2⟩ := List.pairwise_cons.mp h
    unfold insD
    by_cases z : k ≤ x
    · rw [if_pos z]
      exact List.pairwise_cons.mpr ⟨fun y hy => by
        rcases List.mem_cons.mp hy with e | e
        · omega
        · have := h1 y e; omega, h⟩
    · rw [if_neg z]
      exact List.pairwise_cons.mpr ⟨fun y hy => by
        rcases List.mem_cons.mp ((insD_perm k r).mem_iff.mp hy) with e | e
        · omega
        · exact h1 y e, insD_up k r h2⟩
theorem srtD_up : ∀ l : List Int, (srtD l).Pairwise (· ≤ ·)
  | [] => .nil
  | x :: r => insD_up x _ (srtD_up r)
theorem perm_unique : ∀ {a b : List Int}, a.Perm b → a.Pairwise (· ≤ ·) → b.Pairwise (· ≤ ·) → a = b
  | [], b, h, _, _ => (List.nil_perm.mp h).symm
  | x :: a, [], h, _, _ => by have := h.length_eq; simp at this
  | x :: a, y :: b, h, ha, hb => by
    obtain ⟨a1, a2⟩ := List.pairwise_cons.mp ha
    obtain ⟨b1, b2⟩ := List.pairwise_cons.mp hb
    have e : x = y := by
      rcases List.mem_cons.mp (h.mem_iff.mp (List.mem_cons_self (a := x))) with z | z
      · exact z
      rcases List.mem_cons.mp (h.mem_iff.mpr (List.mem_cons_self (a := y))) with w | w
      · exact w.symm
      have := b1 x z
      have := a1 y w
      omega
    subst e
    rw [perm_unique h.cons_inv a2 b2]
def oSortT (xs : List Int) : Option (List Int) := if xs.length < 64 then some (srtD xs) else none
theorem sp_sortT {K : PySem.W.Frag} : OpLO (rSortT K) (l1 (tVT K tInt)) (oList tInt) oSortT := fun a g vs m H Q ⟨v, ev, p, us, e1, k, r⟩ hm e q => by
  unfold oSortT at e
  by_cases z : a.length < 64
  · rw [if_pos z] at e
    cases e
    subst ev e1
    cases r.ints
    refine ⟨p, a, rfl, hm.sqT k, z, fun ys y hp hs hy => ?_⟩
    rw [perm_unique (hp.trans (srtD_perm a).symm) hs (srtD_up a)]
    exact newList hm (Reps.ofInts _) hy q
  · rw [if_neg z] at e; cases e
end WL

/-! WLK: dicts that stay: d.get(k). -/
namespace WL
open PySem PySem.Spec PyProof.Rows L2
section
variable {X : Cx} {T A B F KK : Type} [DecidableEq A] [DecidableEq KK] {c : Ctx T} {ds : List Desc} {t : Ty A} {u : Ty B} {ho : List (KK × V) → HO} {enc : A → KK} {pos p2 p3 apos cpos : Pos} {e ev o : Expr} {xk : MM T A}
def aGetO {A B : Type} [DecidableEq A] (ds : List (A × B)) (k : A) : Option (Option B) := some (aGet ds k)
theorem isD_K {kvs : List (Key × V)} {H : Hp} {a : Addr} (h : H a = some (HO.dK kvs)) : IsD H a := .inl ⟨kvs, .inl h⟩
theorem x_getOF {xo : MM T (List (A × B))} (dk : DKind t ho enc) (hid : ∀ {kvs : List (KK × V)} {H : Hp} {a : Addr}, H a = some (ho kvs) → IsD H a) (hu : X.A.units + 1 < cLine) (hx : PE X o (TX c ds (tDictK ho enc u) xo)) (he : PE X e (TX c ds t xk)) (hm : M1 X o "get" apos e cpos) :
    PE X (.Call (.Attribute o "get" apos) [e] [] cpos) (TX c ds (tOpt u) (e2 aGetO xo xk)) :=
  PE.imp (pe_dget1 hu hx he hm) fun σ H Q ⟨m, st, env, p⟩ => by
    unfold e2 at p
    refine ⟨m, st, env, (Post.bnd.mp p).imp fun xs s1 p v1 m1 H1 w1 a1 ⟨q, kvs, ev, kk, r⟩ => ?_⟩
    have hH1 := w1.mh _ _ kk
    refine ⟨q, ev, hid hH1, ?_⟩
    refine ⟨m1, s1, env.go w1 a1, (Post.bnd.mp p).imp fun k s2 p v2 m2 H2 w2 a2 r2 => ?_⟩
    obtain ⟨b, hb, p⟩ := Post.lft.mp p
    cases hb
    have r' := r.mono w2.mm
    have g := dk.get r2 w2.mh (w2.mh _ _ (w2.mm _ _ kk))
    rcases r'.get dk.inj k with ⟨z1, z2⟩ | ⟨b', y, z1, z2, z3⟩
    · rw [z2] at g
      rw [z1] at p
      exact ⟨none, g, p _ m2 H2 (w1.trans w2) a2 rfl⟩
    · rw [z2] at g
      rw [z1] at p
      exact ⟨some y, g, p _ m2 H2 (w1.trans w2) a2 z3⟩
end
/-! ### (x,) * n -/
def oRepT {A : Type} (xs : List A) (n : Int) : Option (List A) := if 0 < xs.length ∧ 2 ≤ n ∧ n ≤ 1000 ∧ xs.length ≤ 1000 then some (List.replicate n.toNat xs).flatten else none
section
variable {X : Cx} {T A : Type} {c : Ctx T} {ds : List Desc} {t : Ty A} {pos : Pos} {a b : Expr}
theorem x_repT {xa : MM T (List A)} {xb : MM T Int} (ha : PE X a (TX c ds (tVT X.K t) xa)) (hb : PE X b (TX c ds tInt xb)) : PE X (.BinOp a .Mult b pos) (TX c ds (tVT X.K t) (e2 oRepT xa xb)) :=
  PE.imp (pe_op op_repT ha hb) fun σ H Q ⟨m, st, env, p⟩ => by
    unfold e2 at p
    refine ⟨m, st, env, (Post.bnd.mp p).imp fun xs s1 p v1 m1 H1 w1 a1 ⟨q, us, e1, k, r⟩ => ?_⟩
    refine ⟨m1, s1, env.go w1 a1, (Post.bnd.mp p).imp fun n s2 p v2 m2 H2 w2 a2 r2 => ?_⟩
    obtain ⟨g, hg, p⟩ := Post.lft.mp p
    cases rep_int r2
    subst e1
    unfold oRepT at hg
    by_cases z : 0 < xs.length ∧ 2 ≤ n ∧ n ≤ 1000 ∧ xs.length ≤ 1000
    · rw [if_pos z] at hg; cases hg
      have hl := r.length
      have k3 := w2.mm.sqT k
      have r3 := (r.mono w2.mm).flat n.toNat
      refine ⟨q, n, us, rfl, rfl, w2.mh.sqT k3, fun e => ?_, z.2.1, z.2.2.1, by omega, fun x hx => ?_⟩
      · rw [e] at hl; rw [hl] at z; exact absurd z.1 (by decide)
      · have w4 : WStep [] m2 H2 (upd m2 x (.tup (List.replicate n.toNat us).flatten)) (upd H2 x (.tup (List.replicate n.toNat us).flatten)) := .new w2.mh hx
        exact p _ _ _ ((w1.trans w2).trans w4.wide) (EnvOk.ambGrow a2 w4) ⟨x, _, rfl, .of upd_same, r3.mono w4.mm⟩
    · rw [if_neg z] at hg; cases hg
end
end WL

/-! WLI: lists of owned rows; a name for a row. -/
namespace WL
open PySem PySem.Spec PyProof.Rows L2
section
variable {A : Type} {t : Ty A}
/-- the rows as at the places ps -/
inductive RowsT (t : Ty A) (h m : Hp) : List (List A) → List Addr → Prop where
  | nil : RowsT t h m [] []
  | cons {p : Addr} {us : List V} {a : List A} {as : List (List A)} {ps : List Addr} : h p = some (.lst us) → Reps t m a us → RowsT t h m as ps → RowsT t h m (a :: as) (p :: ps)
variable {h h' m m' : Hp} {as bs : List (List A)} {ps qs : List Addr}
theorem RowsT.go (r : RowsT t h m as ps) (hm : Sub m m') : (∀ p ∈ ps, h' p = h p) → RowsT t h' m' as ps := by
  induction r with
  | nil => intro _; exact .nil
  | cons k u _ ih => intro hk; exact .cons (by rw [hk _ List.mem_cons_self]; exact k) (u.mono hm) (ih fun p hp => hk p (List.mem_cons_of_mem _ hp))
theorem RowsT.dom (r : RowsT t h m as ps) : ∀ p ∈ ps, h p ≠ none := by
  induction r with
  | nil => intro p hp; simp at hp
  | cons k _ _ ih =>
    intro p hp
    rcases List.mem_cons.mp hp with z | z
    · rw [z, k]; exact fun z => nomatch z
    · exact ih p z
theorem RowsT.length (r : RowsT t h m as ps) : as.length = ps.length := by
  induction r with
  | nil => rfl
  | cons _ _ _ ih => simp [ih]
theorem RowsT.append (r : RowsT t h m as ps) (q : RowsT t h m bs qs) : RowsT t h m (as ++ bs) (ps ++ qs) := by
  induction r with
  | nil => exact q
  | cons k u _ ih => exact .cons k u ih
theorem RowsT.get (r : RowsT t h m as ps) : ∀ {i : Nat} {a : List A}, as[i]? = some a → ∃ p us, ps[i]? = some p ∧ h p = some (.lst us) ∧ Reps t m a us := by
  induction r with
  | nil => intro i a e; simp at e
  | cons k u _ ih =>
    intro i a e
    cases i with
    | zero => simp at e; subst e; exact ⟨_, _, rfl, k, u⟩
    | succ i => exact ih (i := i) (by simpa using e)
theorem RowsT.getP (r : RowsT t h m as ps) : ∀ {i : Nat} {p : Addr}, ps[i]? = some p → ∃ a us, as[i]? = some a ∧ h p = some (.lst us) ∧ Reps t m a us := by
  induction r with
  | nil => intro i a e; simp at e
  | cons k u _ ih =>
    intro i a e
    cases i with
    | zero => simp at e; subst e; exact ⟨_, _, rfl, k, u⟩
    | succ i => exact ih (i := i) (by simpa using e)
theorem RowsT.set (r : RowsT t h m as ps) : ∀ {i : Nat} {b : List A} {p : Addr} {us : List V}, ps.Nodup → ps[i]? = some p → Reps t m b us → RowsT t (upd h p (.lst us)) m (as.set i b) ps := by
  induction r with
  | nil => intro i b p us _ e; simp at e
  | @cons p0 us0 a0 as0 ps0 k u tl ih =>
    intro i b p us nd e hb
    obtain ⟨n1, n2⟩ := List.nodup_cons.mp nd
    cases i with
    | zero =>
      have e : p0 = p := by simpa using e
      subst e
      exact .cons upd_same hb (tl.go (.refl m) fun q hq => upd_ne fun z => n1 (by rw [← z]; exact hq))
    | succ i =>
      have e : ps0[i]? = some p := by simpa using e
      have hp : p ∈ ps0 := List.mem_of_getElem? e
      exact .cons (by rw [upd_ne fun z => n1 (by rw [z]; exact hp)]; exact k) u (ih (i := i) n2 e hb)
theorem RowsT.reps (r : RowsT t h m as ps) (hm : Sub m m') : (∀ p ∈ ps, m' p = h p) → Reps (tList t) m' as (ps.map .ref) := by
  induction r with
  | nil => intro _; exact .nil
  | @cons p0 us0 a0 as0 ps0 k u tl ih => intro hk; exact .cons ⟨p0, _, rfl, by rw [hk _ List.mem_cons_self]; exact k, u.mono hm⟩ (ih fun p hp => hk p (List.mem_cons_of_mem _ hp))
end
section
variable {A : Type}
def oLTat (t : Ty A) (ps : List Addr) : OTy (List (List A)) where
  rep := fun as v fp h m => ∃ p, v = .ref p ∧ fp = p :: ps ∧ fp.Nodup ∧ h p = some (.lst (ps.map .ref)) ∧ RowsT t h m as ps
  frame := fun hk hm ⟨p, e, ef, nd, k, r⟩ => ⟨p, e, ef, nd, by rw [hk p (by rw [ef]; simp)]; exact k, r.go hm fun q hq => hk q (by rw [ef]; exact List.mem_cons_of_mem _ hq)⟩
  dom := fun ⟨p, e, ef, nd, k, r⟩ q hq => by
    rw [ef] at hq
    rcases List.mem_cons.mp hq with z | z
    · rw [z, k]; exact fun z => nomatch z
    · exact r.dom q z
def oLT (t : Ty A) : OTy (List (List A)) where
  rep := fun as v fp h m => ∃ ps, (oLTat t ps).rep as v fp h m
  frame := fun hk hm ⟨ps, r⟩ => ⟨ps, (oLTat t ps).frame hk hm r⟩
  dom := fun ⟨ps, r⟩ => (oLTat t ps).dom r
/-- owned lists of rows, wherever the rows are -/
def LTo (t : Ty A) (o : OTy (List (List A))) : Prop := ∀ a v fp h m, o.rep a v fp h m → ∃ ps, (oLTat t ps).rep a v fp h m
theorem lto_at {t : Ty A} (ps : List Addr) : LTo t (oLTat t ps) := fun _ _ _ _ _ r => ⟨ps, r⟩
theorem lto_LT {t : Ty A} : LTo t (oLT t) := fun _ _ _ _ _ r => r
theorem frz_LTo {t : Ty A} {o : OTy (List (List A))} (ho : LTo t o) : Freezes o (tList (tList t)) := fun as v fp h m ro hm n => by
  obtain ⟨ps, p, e, ef, nd, k, r⟩ := ho _ _ _ _ _ ro
  have hm' : Sub m (tak m h fp) := fun a o q => by rw [tak_out fun z => by rw [n a z] at q; cases q]; exact q
  refine ⟨tak m h fp, hm', fun a o q => ?_, fun q hq => tak_out hq, p, _, e, by rw [tak_in (by rw [ef]; simp)]; exact k, r.reps hm' fun q hq => tak_in (by rw [ef]; exact List.mem_cons_of_mem _ hq)⟩
  by_cases z : a ∈ fp
  · rw [tak_in z] at q; exact q
  · rw [tak_out z] at q; exact hm a o q
theorem frz_LT {t : Ty A} : Freezes (oLT t) (tList (tList t)) := frz_LTo lto_LT
theorem frz_LTat {t : Ty A} {ps : List Addr} : Freezes (oLTat t ps) (tList (tList t)) := frz_LTo (lto_at ps)
end
/-! ### a list of rows made -/
section
variable {X : Cx} {T A B : Type} {c : Ctx T} {ds : List Desc} {pos : Pos} {u : Ty B}
theorem rd_lcLT {wi : TI} {g : TG} {te : TE} {vs is : List Nat} {t : Ty A} {x : MM T (List A)} {f : A → MM T (List B)} {bd : A → List Desc → List Desc} {σ : L2.St} {H : Hp} {Q : VK}
    (hw : ∀ σ H R, SrcTI c ds t x σ H R → wi σ H R) (ht : TgtOk c.nox g t is bd) (hv : ∀ i ∈ is, i ∈ vs) (hte : ∀ a σ H Q, TXO c.nox (bd a (wipeD ds vs)) (oList u) (f a) σ H Q → te σ H Q)
    (h : TXO c ds (oLT u) (bnd x (lcL f)) σ H Q) : tLc wi g tYes te vs σ H Q := by
  obtain ⟨m, st, env, p⟩ := h
  refine hw σ H _ ⟨m, st, env, (Post.bnd.mp p).imp fun xs s1 p J q m1 H1 w1 a1 hq q1 sv D hD => ?_⟩
  unfold lcL at p
  by_cases hlen : xs.length ≤ 100000
  rotate_left
  · rw [if_neg hlen] at p; exact p.elim
  rw [if_pos hlen] at p
  let FIN : List (List B) → T → Prop := fun a st' => ∀ v fp m' H', WStep c.afp m H m' H' → c.amb st' H' m' → (∀ p ∈ fp, H p = none ∧ m' p = none) → (oLT u).rep a v fp H' m' → Q v H'
  refine ⟨fun i n Hc => n = xs.length - i ∧ i ≤ xs.length ∧ ∃ m G st done ps, Hc = upd G D (.lst (ps.map .ref)) ∧ G D = none ∧ EnvOk c σ m G ds st ∧ WStep c.afp m1 H1 m G ∧ q m ∧ RowsT u G m done ps ∧ ps.Nodup ∧ (∀ p ∈ ps, H1 p = none ∧ m p = none) ∧ done.length ≤ i ∧
      Post (lcM (fun a => noE (f a)) (xs.drop i) st) (fun ys st' => FIN (done ++ ys) st') c.err,
    ⟨xs.length, by simp, Nat.zero_le _, m1, H1, s1, [], [], rfl, hD, env.go w1 a1, .refl w1.mh, q1, .nil, .nil, by simp, Nat.le_refl _, p⟩, ?_⟩
  rintro i n Hc ⟨rfl, hi, m2, G, st2, done, ps, rfl, hG, env2, w2, q2, r2, nd2, n2, hdl, p2⟩
  have hmD : m2 D = none := env2.mh.free hG
  have wn : WStep [] m2 G m2 (upd G D (.lst (ps.map .ref))) := .own env2.mh hG
  obtain ⟨sv1, sv2⟩ := sv i (upd G D (.lst (ps.map .ref))) ⟨m2, q2, wn.mh⟩
  have psD : ∀ y ∈ ps, y ≠ D := fun y hy z => r2.dom y hy (by rw [z]; exact hG)
  by_cases hlt : i < xs.length
  · obtain ⟨g1, g2⟩ := sv1 hlt
    refine .inr ⟨g1, fun Hc => ∃ m G st done ps, Hc = upd G D (.lst (ps.map .ref)) ∧ G D = none ∧ EnvOk c σ m G ds st ∧ WStep c.afp m1 H1 m G ∧ q m ∧ RowsT u G m done ps ∧ ps.Nodup ∧ (∀ p ∈ ps, H1 p = none ∧ m p = none) ∧ done.length ≤ i + 1 ∧
      Post (lcM (fun a => noE (f a)) (xs.drop (i + 1)) st) (fun ys st' => FIN (done ++ ys) st') c.err, fun Hc h => ⟨xs.length - (i + 1), by omega, rfl, hlt, h⟩, fun v H' y => ?_⟩
    obtain ⟨rfl, y2⟩ := g2 v H' y
    obtain ⟨a, ha, ra⟩ := y2 m2 q2 wn.mh
    rw [List.getElem?_eq_getElem hlt] at ha
    cases ha
    rw [List.drop_eq_getElem_cons hlt] at p2
    have envc : EnvOk c.nox (wipe σ vs) m2 (upd G D (.lst (ps.map .ref))) (wipeD ds vs) st2 := ((env2.grow wn).wipe vs).nox
    refine ht xs[i] v (wipe σ vs) m2 _ _ st2 _ ra envc fun σ3 env3 b3 => ⟨wipe_but b3 hv, yes_if ?_⟩
    refine hte xs[i] σ3 _ _ ⟨m2, st2, env3, (Post.noE.mp (Post.bnd.mp p2)).imp fun yv s4 p4 v4 fp4 m4 H4 w4 a4 nn4 r4 => ?_⟩
    obtain ⟨p, us, ev, ef, kp, rr⟩ := r4
    subst ev ef
    have hDa : D ∉ c.afp := fun z => (c.ambD env2.amb D z) hG
    have hH4 : H4 D = some (.lst (ps.map .ref)) := w4.hh D _ hDa upd_same
    have k4 : WStep c.afp m2 G m4 (less H4 D) := less_step w4 hG hmD
    have am4 : c.amb s4 (less H4 D) m4 := c.ambF (fun y hy => less_ne _ fun z => hDa (by rw [← z]; exact hy)) (.refl _) a4
    obtain ⟨np, mp⟩ := nn4 p (by simp)
    have pD : p ≠ D := fun z => by rw [z, upd_same] at np; cases np
    rw [upd_ne pD] at np
    have H1p : H1 p = none := fresh_up w2 np
    have pps : p ∉ ps := fun z => r2.dom p z np
    have rows4 : RowsT u (less H4 D) m4 done ps := r2.go k4.mm fun y hy => by
      rw [less_ne _ (psD y hy)]
      cases hz : G y with
      | none => exact absurd hz (r2.dom y hy)
      | some o => exact w4.hh y o (fun z => (c.ambD a1 y z) (n2 y hy).1) (by rw [upd_ne (psD y hy)]; exact hz)
    refine ⟨ps.map .ref, hH4, ?_, m4, less H4 D, s4, done ++ [yv], ps ++ [p], ?_, less_same _ _, env2.go k4 am4, w2.trans k4, hq k4.mm q2, rows4.append (.cons (by rw [less_ne _ pD]; exact kp) rr .nil), ?_, fun y hy => ?_, by simp; omega, ?_⟩
    · rw [List.length_map, ← r2.length]; exact Nat.lt_of_lt_of_le (show done.length < 100000 by omega) (by decide)
    · rw [upd_less, List.map_append]; rfl
    · exact List.nodup_append.mpr ⟨nd2, by simp, fun y hy z hz e => by
        obtain rfl := List.mem_singleton.mp hz
        exact pps (by rw [← e]; exact hy)⟩
    · rcases List.mem_append.mp hy with z | z
      · exact ⟨(n2 y z).1, k4.ow y (n2 y z).2 (r2.dom y z)⟩
      · obtain rfl := List.mem_singleton.mp z
        exact ⟨H1p, mp⟩
    · refine (Post.bnd.mp p4).imp fun ys s5 p5 => ?_
      show FIN (done ++ [yv] ++ ys) s5
      rw [List.append_assoc]
      exact p5
  · have e : xs.drop i = [] := List.drop_eq_nil_of_le (by omega)
    rw [e] at p2
    refine .inl ⟨sv2 (by omega), ?_⟩
    have p2 : FIN (done ++ []) st2 := p2
    rw [List.append_nil] at p2
    have w := w1.trans w2
    exact p2 (.ref D) (D :: ps) m2 _ (w.trans wn.wide) (EnvOk.ambGrow env2.amb wn) (fun y hy => by
      rcases List.mem_cons.mp hy with z | z
      · subst z; exact ⟨fresh_up w hG, hmD⟩
      · exact ⟨fresh_up w1 (n2 y z).1, (n2 y z).2⟩) ⟨ps, D, rfl, rfl, List.nodup_cons.mpr ⟨fun z => psD D z rfl, nd2⟩, upd_same, r2.go (.refl m2) fun y hy => upd_ne (psD y hy)⟩
variable {elt tg iter : Expr} {scope : Scope} {own : List (Str × Nat)} {g : TG} {is : List Nat} {t : Ty A} {x : MM T (List A)} {f : A → MM T (List B)} {bd : A → List Desc → List Desc}
/-- [row for tg in iter], the rows owned -/
theorem x_lcLT (hc : X.calm = true) (hN : X.N.Nodup) (hi : PI X tg iter (SrcTI c ds t x)) (ok : BlkOk X.N X.env.scope scope own) (ht : TgtOk c.nox g t is bd) (hv : ∀ i ∈ is, i ∈ own.map (·.2))
    (hg : ∀ (s : Shared) (H : Hp) (C : Addr) (cl : List (Str × Addr)) (fp : List Addr), PG (X.blk s H scope (compEnvC scope cl C X.env) fp) tg g)
    (he : ∀ (s : Shared) (H : Hp) (C : Addr) (cl : List (Str × Addr)) (fp : List Addr) (a : A), PE (X.blk s H scope (compEnvC scope cl C X.env) fp) elt (TXO c.nox (bd a (wipeD ds (own.map (·.2)))) (oList u) (f a))) (hs : ∀ x, foldedSetIterable iter X.env x = pure x := by intro _; rfl) :
    PE X (.ListComp elt [⟨tg, iter, [], 0⟩] scope pos) (TXO c ds (oLT u) (bnd x (lcL f))) :=
  PE.imp (pe_lc hc hN hi ok hg (fun _ _ _ _ _ => pts_nil) (fun s H C cl fp => PE.any (he s H C cl fp)) hs) fun σ H Q h =>
    rd_lcLT (fun _ _ _ q => q) ht hv (fun a σ H Q q => ⟨a, q⟩) h
/-- y = [row for tg in iter], the rows owned -/
theorem b_setLcT {F : Type} {P : F → T → Ends → Prop} {rest : List Stmt} {py spos : Pos} (i : Nat) {y : Str} {k : List (List B) → MM T F} (hc : X.calm = true) (hN : X.N.Nodup) (hi : PI X tg iter (SrcTI c ds t x)) (ok : BlkOk X.N X.env.scope scope own) (ht : TgtOk c.nox g t is bd) (hv : ∀ i ∈ is, i ∈ own.map (·.2))
    (hg : ∀ (s : Shared) (H : Hp) (C : Addr) (cl : List (Str × Addr)) (fp : List Addr), PG (X.blk s H scope (compEnvC scope cl C X.env) fp) tg g)
    (he : ∀ (s : Shared) (H : Hp) (C : Addr) (cl : List (Str × Addr)) (fp : List Addr) (a : A), PE (X.blk s H scope (compEnvC scope cl C X.env) fp) elt (TXO c.nox (bd a (wipeD ds (own.map (·.2)))) (oList u) (f a)))
    (h2 : ∀ ys, PSs X rest (BX c (ds.set i (.own (oLT u) ys)) (k ys) P)) (hy : X.N[i]? = some y := by rfl) (hyl : X.env.scope.names.lookup y = some .local := by rfl) (hk : X.env.scope.kind = .function := by rfl) (hl : (py.line == pos.line) = true := by rfl)
    (hsn : (scope.names.any fun (n, k) => n == y && (k == .local || k == .cell)) = false := by decide +kernel) (hs : ∀ x, foldedSetIterable iter X.env x = pure x := by intro _; rfl) :
    PSs X (.Assign [.Name y py] (.ListComp elt [⟨tg, iter, [], 0⟩] scope pos) spos :: rest) (BX c ds (bnd (bnd x (lcL f)) k) P) :=
  PSs.imp (pss_cons (ps_setLc hc hN hy hyl (sw_true hk hyl hl hsn) hi ok hg (fun _ _ _ _ _ => pts_nil) (fun s H C cl fp => PE.any (he s H C cl fp)) hs) (PSs.any h2)) fun D σ H ⟨m, st, env, p⟩ =>
    show tLc (SrcTI c ds t x) g tYes (fun σ H Q => ∃ i, TXO c.nox (bd i (wipeD ds (own.map (·.2)))) (oList u) (f i) σ H Q) (own.map (·.2)) σ H (fun v H1 => gName i v σ H1 (fun σ H => ∃ a, BX c (ds.set i (.own (oLT u) a)) (k a) P D σ H)) from
    rd_lcLT (fun _ _ _ q => q) ht hv (fun a σ H Q q => ⟨a, q⟩) ⟨m, st, env, (Post.bnd.mp p).imp fun a s1 p v fp m1 H1 w1 a1 n1 r1 => ⟨a, m1, s1, bindNew i env w1 a1 n1 r1, p⟩⟩
end
/-! ### rows named, read and changed -/
theorem EnvOk.redesc {T A : Type} {c : Ctx T} {σ : L2.St} {m H : Hp} {ds : List Desc} {st : T} {i : Nat} {o o' : OTy A} {a : A} (env : EnvOk c σ m H ds st) (hd : ds[i]? = some (.own o a)) (hr : ∀ v fp, σ[i]? = some (some v) → o.rep a v fp H m → o'.rep a v fp H m) : EnvOk c σ m H (ds.set i (.own o' a)) st := by
  obtain ⟨fps, sl, dj, fr⟩ := env.slots
  obtain ⟨s, fp, e1, e2, v, rfl, r, n⟩ := sl.get hd
  have sl' := sl.desc (i := i) (fp := fp) (d := .own o' a) fun s fp' g1 g2 => by
    rw [e1] at g1; cases g1
    exact ⟨v, rfl, hr v fp e1 r, n⟩
  have e : fps.set i fp = fps := by
    refine List.ext_getElem? fun j => ?_
    rw [List.getElem?_set]
    by_cases z : i = j
    · subst z
      rw [if_pos rfl]
      obtain ⟨hl, _⟩ := List.getElem?_eq_some_iff.mp e2
      rw [if_pos hl, e2]
    · rw [if_neg z]
  rw [e] at sl'
  exact ⟨env.step, ⟨fps, sl', dj, fr⟩, env.amb, env.own, env.pin⟩
def rowIx {A : Type} (xs : List (List A)) (j : Int) : Option Nat := ixN xs.length j
def rowLen {A : Type} (xs : List (List A)) (n : Nat) : Option Int := xs[n]?.map fun r => (r.length : Int)
def rowAt {A : Type} (xs : List (List A)) (n : Nat) (k : Int) : Option A := xs[n]?.bind fun r => oAt r k
def rowSet {A : Type} (xs : List (List A)) (n : Nat) (j : Int) (a : A) : Option (List (List A)) := xs[n]?.bind fun r => (oSet r j a).map fun r2 => xs.set n r2
section
variable {X : Cx} {T A B F : Type} {c : Ctx T} {ds : List Desc} {t : Ty A} {pos pos2 p2 p3 p4 p5 p6 : Pos} {e : Expr} {P : F → T → Ends → Prop} {rest : List Stmt}
theorem b_openLT (i : Nat) {xs : List (List A)} {x : MM T F} {sts : List Stmt} (h : ∀ ps, PSs X sts (BX c (ds.set i (.own (oLTat t ps) xs)) x P)) (hd : ds[i]? = some (.own (oLT t) xs) := by rfl) : PSs X sts (BX c ds x P) :=
  PSs.imp (PSs.any h) fun D σ H ⟨m, st, env, p⟩ => by
    obtain ⟨v, fp, e1, ps, r⟩ := own_at env hd
    exact ⟨ps, m, st, env.redesc hd fun v' fp' g ⟨qs, r'⟩ => by
      rw [e1] at g; cases g
      obtain ⟨p, ev, ef, nd, k, rr⟩ := r
      obtain ⟨p', ev', ef', nd', k', rr'⟩ := r'
      rw [ev] at ev'; cases ev'
      rw [k] at k'
      have := refs_inj (HO.lst.inj (Option.some.inj k'))
      subst this
      exact ⟨p, ev, ef', nd', k, rr'⟩, p⟩
theorem b_closeLT (i : Nat) {ps : List Addr} {xs : List (List A)} {x : MM T F} {sts : List Stmt} (h : PSs X sts (BX c (ds.set i (.own (oLT t) xs)) x P)) (hd : ds[i]? = some (.own (oLTat t ps) xs) := by rfl) : PSs X sts (BX c ds x P) :=
  PSs.imp h fun D σ H ⟨m, st, env, p⟩ => ⟨m, st, env.redesc hd fun v fp _ r => ⟨ps, r⟩, p⟩
/-- len of a list of rows -/
theorem x_lenLT (i : Nat) {x : Str} {o : OTy (List (List A))} {xs : List (List A)} (ho : LTo t o) (hm : X.mg "len" = none) (hd : ds[i]? = some (.own o xs) := by rfl) (hN : X.N[i]? = some x := by rfl) (hv : Vis X.env.scope x := by first | exact Or.inl rfl | exact Or.inr (Or.inl rfl) | exact Or.inr (Or.inr rfl))
    (h1 : (x == ("__debug__" : Str)) = false := by decide) (h2 : (x == ("__classdict__" : Str)) = false := by decide) (hg : Gl X "len" := by rfl)
    (he : starEach [.Name x p3] X.env = (false, eval (.Name x p3) X.env) :: starEach [] X.env := by rfl) (hpl : (backTo pos (starEach [] X.env)).any (·.1) = false := by rfl) :
    PE X (.Call (.Name "len" p2) [.Name x p3] [] pos) (TX c ds tInt (ret (xs.length : Int))) :=
  PE.imp (pe_callB call_len' hg hm PySem.boot_len (pa_cons (pe_var hN hv h1 h2) pa_nil he) (by decide) (by decide) he hpl) fun σ H Q ⟨m, st, env, p⟩ => by
    obtain ⟨v, fp, e1, ro⟩ := own_at env hd
    obtain ⟨ps, q, ev, ef, nd, k, r⟩ := ho _ _ _ _ _ ro
    subst ev
    exact ⟨_, e1, q, _, rfl, .inl (.of k), p _ m H (.refl env.mh) env.amb (by show V.int _ = V.int _; rw [r.length, List.length_map])⟩
/-- len of a named row -/
theorem x_lenRow (r i : Nat) {x : Str} {ps : List Addr} {q : Addr} {n : Nat} {xs : List (List A)} (hq : ps[n]? = some q) (hm : X.mg "len" = none) (hr : ds[r]? = some (.val (tIs q) ()) := by rfl) (hd : ds[i]? = some (.own (oLTat t ps) xs) := by rfl) (hN : X.N[r]? = some x := by rfl) (hv : Vis X.env.scope x := by first | exact Or.inl rfl | exact Or.inr (Or.inl rfl) | exact Or.inr (Or.inr rfl))
    (h1 : (x == ("__debug__" : Str)) = false := by decide) (h2 : (x == ("__classdict__" : Str)) = false := by decide) (hg : Gl X "len" := by rfl)
    (he : starEach [.Name x p3] X.env = (false, eval (.Name x p3) X.env) :: starEach [] X.env := by rfl) (hpl : (backTo pos (starEach [] X.env)).any (·.1) = false := by rfl) :
    PE X (.Call (.Name "len" p2) [.Name x p3] [] pos) (TX c ds tInt (lft (rowLen xs n))) :=
  PE.imp (pe_callB call_len' hg hm PySem.boot_len (pa_cons (pe_var hN hv h1 h2) pa_nil he) (by decide) (by decide) he hpl) fun σ H Q ⟨m, st, env, p⟩ => by
    obtain ⟨v, fp, e1, p0, ev, ef, nd, k, rr⟩ := own_at env hd
    obtain ⟨a, us, ea, ku, ru⟩ := rr.getP hq
    obtain ⟨g, hg, p⟩ := Post.lft.mp p
    unfold rowLen at hg
    rw [ea] at hg; cases hg
    obtain ⟨w, e2, rw2⟩ := val_at env hr
    have rw2 : w = .ref q := rw2
    subst rw2
    exact ⟨_, e2, q, us, rfl, .inl (.of ku), p _ m H (.refl env.mh) env.amb (by show V.int _ = V.int (a.length : Int); rw [ru.length])⟩
/-- an item of a named row -/
theorem x_atRow (r i : Nat) {x : Str} {ps : List Addr} {q : Addr} {n : Nat} {xs : List (List A)} {b : Expr} {xb : MM T Int} (hq : ps[n]? = some q) (hb : PE X b (TX c ds tInt xb)) (hr : ds[r]? = some (.val (tIs q) ()) := by rfl) (hd : ds[i]? = some (.own (oLTat t ps) xs) := by rfl) (hN : X.N[r]? = some x := by rfl) (hv : Vis X.env.scope x := by first | exact Or.inl rfl | exact Or.inr (Or.inl rfl) | exact Or.inr (Or.inr rfl))
    (h1 : (x == ("__debug__" : Str)) = false := by decide) (h2 : (x == ("__classdict__" : Str)) = false := by decide) (hp : PlainIx b := by exact fun _ _ => rfl) :
    PE X (.Subscript (.Name x p2) b pos) (TX c ds t (bnd xb fun k => lft (rowAt xs n k))) := PE.imp (pe_ix ix_list (pe_var hN hv h1 h2) hb hp) fun σ H Q ⟨m, st, env, p⟩ => by
  obtain ⟨w, e2, rw2⟩ := val_at env hr
  have rw2 : w = .ref q := rw2
  subst rw2
  refine ⟨_, e2, m, st, env, (Post.bnd.mp p).imp fun k s1 p v1 m1 H1 w1 a1 r1 => ?_⟩
  cases rep_int r1
  obtain ⟨a, ha, p⟩ := Post.lft.mp p
  obtain ⟨v, fp, e1, p0, ev, ef, nd, kk, rr⟩ := own_at (env.go w1 a1) hd
  obtain ⟨l, us, ea, ku, ru⟩ := rr.getP hq
  unfold rowAt at ha
  rw [ea] at ha
  obtain ⟨u, hu, ru'⟩ := at_reps ru (show oAt l k = some a from ha)
  exact ⟨q, us, k, u, rfl, rfl, .of ku, hu, p u m1 H1 w1 a1 ru'⟩
/-- an item of a row of a list of rows -/
theorem x_at2 (i : Nat) {x : Str} {o : OTy (List (List A))} {xs : List (List A)} {b b2 : Expr} {xb xb2 : MM T Int} (ho : LTo t o) (hb : PE X b (TX c ds tInt xb)) (hb2 : PE X b2 (TX c ds tInt xb2)) (hd : ds[i]? = some (.own o xs) := by rfl) (hN : X.N[i]? = some x := by rfl) (hv : Vis X.env.scope x := by first | exact Or.inl rfl | exact Or.inr (Or.inl rfl) | exact Or.inr (Or.inr rfl))
    (h1 : (x == ("__debug__" : Str)) = false := by decide) (h2 : (x == ("__classdict__" : Str)) = false := by decide) (hp : PlainIx b := by exact fun _ _ => rfl) (hp2 : PlainIx b2 := by exact fun _ _ => rfl) :
    PE X (.Subscript (.Subscript (.Name x p2) b p3) b2 pos) (TX c ds t (bnd xb fun k => bnd (lft (oAt xs k)) fun l => bnd xb2 fun j => lft (oAt l j))) := PE.imp (pe_ix ix_list (pe_ix ix_list (pe_var hN hv h1 h2) hb hp) hb2 hp2) fun σ H Q ⟨m, st, env, p⟩ => by
  obtain ⟨v, fp, e1, _⟩ := own_at env hd
  refine ⟨v, e1, m, st, env, (Post.bnd.mp p).imp fun k s1 p v1 m1 H1 w1 a1 r1 => ?_⟩
  cases rep_int r1
  obtain ⟨l, hl, p⟩ := Post.lft.mp (Post.bnd.mp p)
  have env1 := env.go w1 a1
  obtain ⟨v', fp', e1', ro, na⟩ := own_at2 env1 hd
  rw [e1] at e1'; cases e1'
  obtain ⟨ps, q, ev, ef, nd, kk, rr⟩ := ho _ _ _ _ _ ro
  subst ev
  obtain ⟨n, hn, hi⟩ : ∃ n, xs[n]? = some l ∧ atI (ps.map V.ref) k = (ps.map V.ref)[n]? := by
    unfold oAt atI at hl
    unfold atI
    rw [List.length_map, ← rr.length]
    cases z : ixN xs.length k with
    | none => rw [z] at hl; cases hl
    | some n => rw [z] at hl; exact ⟨n, hl, rfl⟩
  obtain ⟨pr, us, hpr, kr, rr2⟩ := rr.get hn
  refine ⟨q, _, k, .ref pr, rfl, rfl, .of kk, by rw [hi, List.getElem?_map, hpr]; rfl, m1, s1, env1, (Post.bnd.mp p).imp fun j s2 p v2 m2 H2 w2 a2 r2 => ?_⟩
  cases rep_int r2
  obtain ⟨a, ha, p⟩ := Post.lft.mp p
  have kr2 := w2.hh pr _ (na pr (by rw [ef]; simp [List.mem_of_getElem? hpr])) kr
  obtain ⟨u, hu, ru'⟩ := at_reps (rr2.mono w2.mm) ha
  exact ⟨pr, us, j, u, rfl, rfl, .of kr2, hu, p u m2 H2 (w1.trans w2) a2 ru'⟩
/-- row[b] = e, row named -/
theorem b_setRow (r i : Nat) {x : Str} {ps : List Addr} {q : Addr} {n : Nat} {xs : List (List A)} {b : Expr} {xa : MM T A} {xb : MM T Int} {k : List (List A) → MM T F} (hq : ps[n]? = some q) (he : PE X e (TX c ds t xa)) (hb : PE X b (TX c ds tInt xb)) (h2 : ∀ ys, PSs X rest (BX c (ds.set i (.own (oLTat t ps) ys)) (k ys) P)) (hr : ds[r]? = some (.val (tIs q) ()) := by rfl) (hd : ds[i]? = some (.own (oLTat t ps) xs) := by rfl) (hN : X.N[r]? = some x := by rfl) (hv : Vis X.env.scope x := by first | exact Or.inl rfl | exact Or.inr (Or.inl rfl) | exact Or.inr (Or.inr rfl))
    (h1 : (x == ("__debug__" : Str)) = false := by decide) (h3 : (x == ("__classdict__" : Str)) = false := by decide) (hs : swapsWithSole [.Subscript (.Name x p2) b p3] e pos.line X.env = pure false := by rfl)
    (hw : swappedStores [.Subscript (.Name x p2) b p3] e X.env = pure none := by rfl) (h4 : (assignEach [.Subscript (.Name x p2) b p3] X.env).map (·.2) = [assign (.Subscript (.Name x p2) b p3) X.env] := by rfl)
    (ha : ∀ v, assign (.Subscript (.Name x p2) b p3) X.env v = (do
      let ov ← holding [v] (eval (.Name x p2) X.env)
      let iv ← holding [v, ov] (eval b X.env)
      standAt p3
      holding [v, ov, iv] (setItem ov iv v)
      release [v, ov, iv] []) := by intro _; rfl) :
    PSs X (.Assign [.Subscript (.Name x p2) b p3] e pos :: rest) (BX c ds (bnd xa fun a => bnd xb fun j => bnd (lft (rowSet xs n j a)) k) P) :=
  PSs.imp (pss_cons (ps_asg he (pg_sub (pe_var hN hv h1 h3) hb set_list ha) hs hw h4) (PSs.any h2)) fun D σ H ⟨m, st, env, p⟩ => by
    refine ⟨m, st, env, (Post.bnd.mp p).imp fun a s1 p v1 m1 H1 w1 a1 r1 => ?_⟩
    have env1 := env.go w1 a1
    obtain ⟨w, e2, rw2⟩ := val_at env1 hr
    have rw2 : w = .ref q := rw2
    subst rw2
    refine ⟨_, e2, m1, s1, env1, (Post.bnd.mp p).imp fun j s2 p v2 m2 H2 w2 a2 r2 => ?_⟩
    cases rep_int r2
    have env2 := env1.go w2 a2
    obtain ⟨ys, hy, p⟩ := Post.lft.mp (Post.bnd.mp p)
    obtain ⟨v', fp', e1', p0, ev', ef', nd', kk', rr'⟩ := own_at env2 hd
    obtain ⟨l, us, ea, ku, ru⟩ := rr'.getP hq
    unfold rowSet at hy
    rw [ea] at hy
    have hy : (oSet l j a).map (fun r2 => xs.set n r2) = some ys := hy
    unfold oSet at hy
    cases z : ixN l.length j with
    | none => rw [z] at hy; cases hy
    | some y =>
      rw [z] at hy; cases hy
      refine ⟨q, us, j, y, rfl, rfl, ku, by rw [← ru.length]; exact z, ?_⟩
      refine ⟨_, m2, s2, env2.put hd fun v fp2 g2 ⟨p2, ev2, ef2, nd2, k2, r2⟩ => ?_, p⟩
      have hin : q ∈ ps := List.mem_of_getElem? hq
      obtain ⟨nx, np⟩ := List.nodup_cons.mp (ef2 ▸ nd2)
      exact ⟨by rw [ef2]; simp [hin], p2, ev2, ef2, nd2, by rw [upd_ne fun z => nx (by rw [z]; exact hin)]; exact k2, r2.set np hq (ru.set (t.mono w2.mm r1) y)⟩
/-- row = rows[b] -/
theorem b_alias (r i : Nat) {x y : Str} {ps : List Addr} {xs : List (List A)} {b : Expr} {xb : MM T Int} {k : Nat → MM T F} (hb : PE X b (TX c ds tInt xb)) (h2 : ∀ n q, ps[n]? = some q → PSs X rest (BX c (ds.set r (.val (tIs q) ())) (k n) P)) (hN : X.N.Nodup) (hd : ds[i]? = some (.own (oLTat t ps) xs) := by rfl) (hx : X.N[i]? = some x := by rfl) (hi : X.N[r]? = some y := by rfl) (hv : Vis X.env.scope x := by first | exact Or.inl rfl | exact Or.inr (Or.inl rfl) | exact Or.inr (Or.inr rfl))
    (h1 : (x == ("__debug__" : Str)) = false := by decide) (h3 : (x == ("__classdict__" : Str)) = false := by decide) (hp : PlainIx b := by exact fun _ _ => rfl) (hy : Loc X.env.scope y := by first | exact Or.inl rfl | exact Or.inr rfl)
    (hs : swapsWith (.Subscript (.Name x p2) b p3) (some (.Name y p4)) pos.line X.env = pure false := by rfl) (hf : X.fn y = true ∨ X.env.scope.names.lookup y = some .local := by first | exact .inl rfl | exact .inr rfl) :
    PSs X (.Assign [.Name y p4] (.Subscript (.Name x p2) b p3) pos :: rest) (BX c ds (bnd xb fun j => bnd (lft (rowIx xs j)) k) P) :=
  PSs.imp (pss_cons (ps_set hN hi hy (pe_ix ix_list (pe_var hx hv h1 h3) hb hp) hs hf) (PSs.any fun (a : {a : Nat × Addr // ps[a.1]? = some a.2}) => h2 a.1.1 a.1.2 a.2)) fun D σ H ⟨m, st, env, p⟩ => by
    obtain ⟨v, fp, e1, p0, ev, ef, nd, kk, rr⟩ := own_at env hd
    subst ev
    refine ⟨_, e1, m, st, env, (Post.bnd.mp p).imp fun j s1 p v1 m1 H1 w1 a1 r1 => ?_⟩
    cases rep_int r1
    obtain ⟨n, hn, p⟩ := Post.lft.mp (Post.bnd.mp p)
    unfold rowIx at hn
    have env1 := env.go w1 a1
    obtain ⟨v', fp', e1', p0', ev', ef', nd', kk', rr'⟩ := own_at env1 hd
    rw [e1] at e1'; cases e1'; cases ev'
    have hlt : n < ps.length := by
      rw [← rr'.length]
      unfold ixN at hn
      revert hn
      repeat' split
      all_goals intro hn; first | (cases hn; omega) | cases hn
    have hq : ps[n]? = some ps[n] := List.getElem?_eq_getElem hlt
    refine ⟨p0, _, j, .ref ps[n], rfl, rfl, .of kk', ?_, ⟨(n, ps[n]), hq⟩, m1, s1, env1.bind r rfl, p⟩
    unfold atI
    rw [List.length_map, ← rr'.length, hn]
    show (ps.map V.ref)[n]? = _
    rw [List.getElem?_map, hq]
    rfl
/-- rows.append(row) -/
theorem b_appLT (i : Nat) {call : Expr} {xs : List (List A)} {xa : MM T (List A)} {k : List (List A) → MM T F} (he : PE X call (tBM X.K "list" rAppend (tVar i) (tCons (TXO c ds (oList t) xa) tNil))) (h2 : ∀ ys, PSs X rest (BX c (ds.set i (.own (oLT t) ys)) (k ys) P)) (hd : ds[i]? = some (.own (oLT t) xs) := by rfl)
    (hs : swapsWith call none pos.line X.env = pure false := by rfl) :
    PSs X (.Expr call pos :: rest) (BX c ds (bnd xa fun a => bnd (lft (oApp xs a)) k) P) :=
  PSs.imp (pss_cons (ps_expr he hs) (PSs.any h2)) fun D σ H ⟨m, st, env, p⟩ => by
    obtain ⟨u, fp, g1, ⟨ps, q, ev, ef, nd, k1, rr⟩, na⟩ := own_at2 env hd
    subst ev
    refine ⟨_, g1, .inl ⟨rfl, _, .of k1⟩, m, st, env, (Post.bnd.mp p).imp fun a s1 p v1 fpN m1 H1 w1 a1 n1 r1 => ?_⟩
    obtain ⟨ys, hy, p⟩ := Post.lft.mp (Post.bnd.mp p)
    have kq := w1.hh q _ (na q (by rw [ef]; simp)) k1
    unfold oApp at hy
    by_cases z : xs.length < 100000
    · rw [if_pos z] at hy; cases hy
      obtain ⟨pn, us, ev1, ef1, kn, rn⟩ := r1
      subst ev1 ef1
      refine ⟨q, _, _, rfl, rfl, kq, by rw [List.length_map, ← rr.length]; exact Nat.lt_of_lt_of_le z (by decide), _, m1, s1, bindGrow (N := [pn]) i env w1 a1 hd n1 fun v' fp' g2 ⟨ps2, q2, e2, eg2, nd2, k2, rr'⟩ hold => ?_, p⟩
      rw [g1] at g2; cases g2; cases e2
      rw [kq] at k2
      have eps : ps = ps2 := refs_inj (HO.lst.inj (Option.some.inj k2))
      subst eps
      subst eg2
      obtain ⟨nx, nf⟩ := List.nodup_cons.mp nd2
      have pnO : ∀ y ∈ q :: ps, y ≠ pn := fun y hy z => hold y hy (by rw [z]; exact (n1 pn (by simp)).1)
      refine ⟨by simp, q :: (ps ++ [pn]), fun y hy => ?_, ps ++ [pn], q, rfl, rfl, ?_, by rw [upd_same, List.map_append]; rfl, ?_⟩
      · simp only [List.mem_cons, List.mem_append, List.not_mem_nil, or_false] at hy ⊢
        rcases hy with z | z | z
        · exact .inl (.inl z)
        · exact .inl (.inr z)
        · exact .inr z
      · have ee : q :: (ps ++ [pn]) = (q :: ps) ++ [pn] := by simp
        rw [ee]
        exact List.nodup_append.mpr ⟨nd2, by simp, fun y hy z hz e => by
          obtain rfl := List.mem_singleton.mp hz
          exact pnO y hy e⟩
      · refine (rr'.go (.refl m1) fun y hy => upd_ne fun z => nx (by rw [← z]; exact hy)).append (.cons ?_ rn .nil)
        rw [upd_ne fun z => pnO q (by simp) z.symm]
        exact kn
    · rw [if_neg z] at hy; cases hy
/-- list(rows[b]) -/
theorem x_listRow (i : Nat) {x f : Str} {o : OTy (List (List A))} {xs : List (List A)} {b : Expr} {xb : MM T Int} (ho : LTo t o) (hm : X.mg f = none) (hvf : bootBuiltins f = some (.type "list")) (hb : PE X b (TX c ds tInt xb)) (hd : ds[i]? = some (.own o xs) := by rfl) (hN : X.N[i]? = some x := by rfl) (hv : Vis X.env.scope x := by first | exact Or.inl rfl | exact Or.inr (Or.inl rfl) | exact Or.inr (Or.inr rfl))
    (h1 : (x == ("__debug__" : Str)) = false := by decide) (h2 : (x == ("__classdict__" : Str)) = false := by decide) (hp : PlainIx b := by exact fun _ _ => rfl) (hg : Gl X f := by rfl) (hn : f ≠ "__name__" := by decide) (hdb : (f == ("__debug__" : Str)) = false := by decide)
    (he : starEach [.Subscript (.Name x p2) b p3] X.env = (false, eval (.Subscript (.Name x p2) b p3) X.env) :: starEach [] X.env := by rfl) (hpl : (backTo pos (starEach [] X.env)).any (·.1) = false := by rfl) :
    PE X (.Call (.Name f p4) [.Subscript (.Name x p2) b p3] [] pos) (TXO c ds (oList t) (bnd xb fun k => lft (oAt xs k))) :=
  PE.imp (pe_callTy call_list' hg hm hvf (pa_cons (pe_ix ix_list (pe_var hN hv h1 h2) hb hp) pa_nil he) hn hdb he hpl) fun σ H Q ⟨m, st, env, p⟩ => by
    obtain ⟨v, fp, e1, _⟩ := own_at env hd
    refine ⟨v, e1, m, st, env, (Post.bnd.mp p).imp fun k s1 p v1 m1 H1 w1 a1 r1 => ?_⟩
    cases rep_int r1
    obtain ⟨l, hl, p⟩ := Post.lft.mp p
    have env1 := env.go w1 a1
    obtain ⟨v', fp', e1', ro, na⟩ := own_at2 env1 hd
    rw [e1] at e1'; cases e1'
    obtain ⟨ps, q, ev, ef, nd, kk, rr⟩ := ho _ _ _ _ _ ro
    subst ev
    obtain ⟨n, hn, hi⟩ : ∃ n, xs[n]? = some l ∧ atI (ps.map V.ref) k = (ps.map V.ref)[n]? := by
      unfold oAt atI at hl
      unfold atI
      rw [List.length_map, ← rr.length]
      cases z : ixN xs.length k with
      | none => rw [z] at hl; cases hl
      | some n => rw [z] at hl; exact ⟨n, hl, rfl⟩
    obtain ⟨pr, us, hpr, kr, rr2⟩ := rr.get hn
    refine ⟨q, _, k, .ref pr, rfl, rfl, .of kk, by rw [hi, List.getElem?_map, hpr]; rfl, pr, us, rfl, .inl (.of kr), fun y hy => ?_⟩
    have w3 : WStep [] m1 H1 m1 (upd H1 y (.lst us)) := .own w1.mh hy
    exact p (.ref y) [y] m1 _ (w1.trans w3.wide) (EnvOk.ambGrow a1 w3) (fun z hz => by obtain rfl := List.mem_singleton.mp hz; exact ⟨fresh_up w1 hy, w1.mh.free hy⟩) ⟨y, us, rfl, rfl, upd_same, rr2⟩
end
/-! ### in an owned list, by == -/
section
variable {X : Cx} {T A : Type} {c : Ctx T} {ds : List Desc} {t : Ty A} {pos p2 : Pos} {e : Expr} {xa : MM T A} {n : Nat}
theorem own_at3 {σ : L2.St} {m H : Hp} {st : T} {i : Nat} {o : OTy A} {a : A} (env : EnvOk c σ m H ds st) (hd : ds[i]? = some (.own o a)) : ∃ v fp, σ[i]? = some (some v) ∧ o.rep a v fp H m ∧ ∀ p ∈ fp, m p = none := by
  obtain ⟨fps, sl, _, fr⟩ := env.slots
  obtain ⟨s, fp, e1, e2, v, rfl, r, n⟩ := sl.get hd
  exact ⟨v, fp, e1, r, n⟩
variable [DecidableEq A]
theorem rd_inDO {σ : L2.St} {H : Hp} {Q : VK} (q : EqT X.K t n) (h : n + 1 ≤ 64) (i : Nat) {xs : List A} (hd : ds[i]? = some (.own (oList t) xs)) (r : TX c ds tBool (e1 (fun a => oIn a xs) xa) σ H Q) : tOp (rInD X.K) (TX c ds t xa) (tVar i) σ H Q := by
  obtain ⟨m, st, env, p⟩ := r
  refine ⟨m, st, env, (Post.bnd.mp p).imp fun a s1 p v1 m1 H1 w1 a1 r1 => ?_⟩
  obtain ⟨k, hk, p⟩ := Post.lft.mp p
  cases hk
  have env1 := env.go w1 a1
  obtain ⟨v', fp, e1, ⟨q2, us, ev, ef, k2, r2⟩, nn⟩ := own_at3 env1 hd
  obtain ⟨a1', a2', _⟩ := frz_put w1.mh k2 (nn q2 (by rw [ef]; simp))
  refine ⟨v', e1, q.enc a, xs.map q.enc, q.dp _ _ _ _ r1 w1.mh, (eq_list q).dp _ _ _ _ (show (tList t).rep xs v' _ from ⟨q2, us, ev, upd_same, r2.mono a1'⟩) a2', shaped_of q (by omega) a, shaped_of (eq_list q) h xs, ?_⟩
  rw [any_eqv]
  exact p _ m1 H1 w1 a1 rfl
theorem rd_ninDO {σ : L2.St} {H : Hp} {Q : VK} (q : EqT X.K t n) (h : n + 1 ≤ 64) (i : Nat) {xs : List A} (hd : ds[i]? = some (.own (oList t) xs)) (r : TX c ds tBool (e1 (fun a => oNotIn a xs) xa) σ H Q) : tOp (rNotInD X.K) (TX c ds t xa) (tVar i) σ H Q := by
  obtain ⟨m, st, env, p⟩ := r
  refine ⟨m, st, env, (Post.bnd.mp p).imp fun a s1 p v1 m1 H1 w1 a1 r1 => ?_⟩
  obtain ⟨k, hk, p⟩ := Post.lft.mp p
  cases hk
  have env1 := env.go w1 a1
  obtain ⟨v', fp, e1, ⟨q2, us, ev, ef, k2, r2⟩, nn⟩ := own_at3 env1 hd
  obtain ⟨a1', a2', _⟩ := frz_put w1.mh k2 (nn q2 (by rw [ef]; simp))
  refine ⟨v', e1, q.enc a, xs.map q.enc, q.dp _ _ _ _ r1 w1.mh, (eq_list q).dp _ _ _ _ (show (tList t).rep xs v' _ from ⟨q2, us, ev, upd_same, r2.mono a1'⟩) a2', shaped_of q (by omega) a, shaped_of (eq_list q) h xs, ?_⟩
  rw [any_eqv]
  exact p _ m1 H1 w1 a1 rfl
theorem x_inDO (i : Nat) {x : Str} {xs : List A} (hu : X.A.units + 65 < cLine) (q : EqT X.K t n) (he : PE X e (TX c ds t xa)) (h : n + 1 ≤ 64 := by decide) (hd : ds[i]? = some (.own (oList t) xs) := by rfl) (hN : X.N[i]? = some x := by rfl) (hv : Vis X.env.scope x := by first | exact Or.inl rfl | exact Or.inr (Or.inl rfl) | exact Or.inr (Or.inr rfl))
    (h1 : (x == ("__debug__" : Str)) = false := by decide) (h2 : (x == ("__classdict__" : Str)) = false := by decide) (hm : behindInMarks .In (.Name x p2) = false := by first | exact nomark _ | rfl) :
    PE X (.Compare e [.In] [.Name x p2] pos) (TX c ds tBool (e1 (fun a => oIn a xs) xa)) := PE.imp (pe_cmpR (op_inD hu) he (pe_var hN hv h1 h2) hm) fun σ H Q r => rd_inDO q h i hd r
theorem x_ninDO (i : Nat) {x : Str} {xs : List A} (hu : X.A.units + 65 < cLine) (q : EqT X.K t n) (he : PE X e (TX c ds t xa)) (h : n + 1 ≤ 64 := by decide) (hd : ds[i]? = some (.own (oList t) xs) := by rfl) (hN : X.N[i]? = some x := by rfl) (hv : Vis X.env.scope x := by first | exact Or.inl rfl | exact Or.inr (Or.inl rfl) | exact Or.inr (Or.inr rfl))
    (h1 : (x == ("__debug__" : Str)) = false := by decide) (h2 : (x == ("__classdict__" : Str)) = false := by decide) (hm : behindInMarks .NotIn (.Name x p2) = false := by first | exact nomark _ | rfl) :
    PE X (.Compare e [.NotIn] [.Name x p2] pos) (TX c ds tBool (e1 (fun a => oNotIn a xs) xa)) := PE.imp (pe_cmpR (op_notInD hu) he (pe_var hN hv h1 h2) hm) fun σ H Q r => rd_ninDO q h i hd r
theorem t_inDO (i : Nat) {x : Str} {xs : List A} (hu : X.A.units + 65 < cLine) (q : EqT X.K t n) (he : PE X e (TX c ds t xa)) (h : n + 1 ≤ 64 := by decide) (hd : ds[i]? = some (.own (oList t) xs) := by rfl) (hN : X.N[i]? = some x := by rfl) (hv : Vis X.env.scope x := by first | exact Or.inl rfl | exact Or.inr (Or.inl rfl) | exact Or.inr (Or.inr rfl))
    (h1 : (x == ("__debug__" : Str)) = false := by decide) (h2 : (x == ("__classdict__" : Str)) = false := by decide) (hm : behindInMarks .In (.Name x p2) = false := by first | exact nomark _ | rfl) :
    PT X (.Compare e [.In] [.Name x p2] pos) (TTX c ds (e1 (fun a => oIn a xs) xa)) := PT.imp (pt_cmpR (op_inD hu) he (pe_var hN hv h1 h2) hm) fun σ H Q ⟨m, st, env, p⟩ =>
  rd_inDO q h i hd (show TX c ds tBool (e1 (fun a => oIn a xs) xa) σ H (fun x H' => ∃ k, x = .bl k ∧ Q k H') from ⟨m, st, env, p.imp fun a s1 p v m1 H1 w1 a1 r1 => ⟨a, r1, p m1 H1 w1 a1⟩⟩)
theorem t_ninDO (i : Nat) {x : Str} {xs : List A} (hu : X.A.units + 65 < cLine) (q : EqT X.K t n) (he : PE X e (TX c ds t xa)) (h : n + 1 ≤ 64 := by decide) (hd : ds[i]? = some (.own (oList t) xs) := by rfl) (hN : X.N[i]? = some x := by rfl) (hv : Vis X.env.scope x := by first | exact Or.inl rfl | exact Or.inr (Or.inl rfl) | exact Or.inr (Or.inr rfl))
    (h1 : (x == ("__debug__" : Str)) = false := by decide) (h2 : (x == ("__classdict__" : Str)) = false := by decide) (hm : behindInMarks .NotIn (.Name x p2) = false := by first | exact nomark _ | rfl) :
    PT X (.Compare e [.NotIn] [.Name x p2] pos) (TTX c ds (e1 (fun a => oNotIn a xs) xa)) := PT.imp (pt_cmpR (op_notInD hu) he (pe_var hN hv h1 h2) hm) fun σ H Q ⟨m, st, env, p⟩ =>
  rd_ninDO q h i hd (show TX c ds tBool (e1 (fun a => oNotIn a xs) xa) σ H (fun x H' => ∃ k, x = .bl k ∧ Q k H') from ⟨m, st, env, p.imp fun a s1 p v m1 H1 w1 a1 r1 => ⟨a, r1, p m1 H1 w1 a1⟩⟩)
end
end WL

/-! WLJ: how many different numbers; copies of owned lists; lists of numbers as lists of numbers or None. -/
namespace WL
open PySem PySem.Spec PyProof.Rows L2
def metI (ns : List Int) (k : Int) : List Int := if k ∈ ns then ns else ns ++ [k]
/-- the different numbers, as they are met first -/
def diffI (ns : List Int) : List Int := ns.foldl metI []
theorem firstMet_diff (ns : List Int) : ∀ i, i ≤ ns.length → firstMet (fun i => ns.getD i 0) i = diffI (ns.take i)
  | 0, _ => rfl
  | i + 1, h => by
    have ih := firstMet_diff ns i (Nat.le_of_lt h)
    have ht : ns.take (i + 1) = ns.take i ++ [ns.getD i 0] := by
      rw [List.take_add_one, List.getElem?_eq_getElem h, List.getD_eq_getElem?_getD, List.getElem?_eq_getElem h] <;> rfl
    rw [firstMet_succ, ih, ht]
    unfold diffI
    rw [List.foldl_append]
    show (if ((ns.take i).foldl metI []).any (· == ns.getD i 0) then _ else _) = metI ((ns.take i).foldl metI []) (ns.getD i 0)
    generalize (ns.take i).foldl metI [] = D
    unfold metI
    by_cases z : ns.getD i 0 ∈ D
    · rw [if_pos z, if_pos (show (D.any fun x => x == ns.getD i 0) = true from List.any_eq_true.mpr ⟨_, z, beq_self_eq_true _⟩)]
    · rw [if_neg z, if_neg fun y => by
        obtain ⟨x, hx, e⟩ := List.any_eq_true.mp y
        exact z (eq_of_beq e ▸ hx)]
theorem diffI_len (ns : List Int) : (diffI ns).length ≤ ns.length := by
  have : ∀ (ns acc : List Int), (ns.foldl metI acc).length ≤ acc.length + ns.length := by
    intro ns
    induction ns with
    | nil => intro acc; exact Nat.le_refl _
    | cons x r ih =>
      intro acc
      have h := ih (metI acc x)
      have h2 : (metI acc x).length ≤ acc.length + 1 := by
        unfold metI
        split
        · omega
        · rw [List.length_append, List.length_singleton]; exact Nat.le_refl _
      rw [List.length_cons]
      show (r.foldl metI (metI acc x)).length ≤ _
      omega
  have h := this ns []
  rw [List.length_nil, Nat.zero_add] at h
  exact h
def tLenSetD (K : PySem.W.Frag) (ta : TE) : TE := fun σ H Q => ta σ H fun x H1 => ∃ (l : Addr) (ns : List Int), x = .ref l ∧ SqL K H1 l (ns.map V.int) ∧ ns.length ≤ 4000 ∧ Q (.int ((diffI ns).length : Nat)) H1
theorem pe_lenSetD {X : Cx} {a : Expr} {ta : TE} {p p2 q pos : Pos} (hm : X.mg "len" = none) (hm2 : X.mg "set" = none) (ha : PE X a ta) (hg : Gl X "len" := by rfl) (hg2 : Gl X "set" := by rfl) (hc : X.calm = true := by rfl)
    (na : starEach [a] X.env = (false, eval a X.env) :: starEach [] X.env := by rfl) : PE X (.Call (.Name "len" p) [.Call (.Name "set" p2) [a] [] q] [] pos) (tLenSetD X.K ta) := by
  refine ⟨fun pins s σ H Q I h => ?_⟩
  refine Call_ (ld_blt I hg hm boot_len ?_)
  refine callWith_builtin1 (args_cons ?_ rfl) rfl rfl
  refine Call_ (ld_blt I hg2 hm2 boot_set ?_)
  refine callWith_type1 (args_cons (thn (ha.run pins s σ H _ I h) fun v s1 ⟨x, H1, I1, r1, q1⟩ => args_nil ?_) na) na rfl
  obtain ⟨l, ns, rfl, hq, hl, q1⟩ := q1
  cases r1
  obtain ⟨its, r, pl, hz⟩ := I1.list hq
  have hlen : its.toArray.size = ns.length := by rw [List.size_toArray, ← r.length, List.length_map]
  refine call_set_list (I1.ok.hd hc) pl.isList (by simpa using RZ.intsAre_vals r) (by rw [hlen]; unfold scanBound; omega) fun h' tk hS hk => ?_
  refine args_nil ?_
  have hd0 := diffI_len ns
  rw [hlen, firstMet_diff ns ns.length (Nat.le_refl _), List.take_length] at hS
  obtain ⟨o, es, ep, t, ho, hex, hd, _, _, _, hf, hn⟩ := hS
  have I2 : Inv X pins σ H1 { s1 with heap := h', toks := tk } := I1.kept fun b o e => hk b o (Heap.lt_size e) e
  exact call_len_set ho hex hd hf (by rw [hn]; omega) ⟨.int (diffI ns).length, H1, I2.tok _, ⟨_, by rw [hn]⟩, q1⟩
def oDiff (ns : List Int) : Option Int := if ns.length ≤ 4000 then some ((diffI ns).length : Int) else none
section
variable {X : Cx} {T : Type} {c : Ctx T} {ds : List Desc} {a : Expr} {p p2 p3 q pos : Pos}
theorem x_lenSetF {xa : MM T (List Int)} (hm : X.mg "len" = none) (hm2 : X.mg "set" = none) (ha : PE X a (TX c ds (tList tInt) xa)) (hg : Gl X "len" := by rfl) (hg2 : Gl X "set" := by rfl) (hc : X.calm = true := by rfl)
    (na : starEach [a] X.env = (false, eval a X.env) :: starEach [] X.env := by rfl) : PE X (.Call (.Name "len" p) [.Call (.Name "set" p2) [a] [] q] [] pos) (TX c ds tInt (e1 oDiff xa)) :=
  PE.imp (pe_lenSetD hm hm2 ha hg hg2 hc na) fun σ H Q ⟨m, st, env, p⟩ => by
    unfold e1 at p
    refine ⟨m, st, env, (Post.bnd.mp p).imp fun ns s1 p v1 m1 H1 w1 a1 ⟨l, us, e1, k, r⟩ => ?_⟩
    obtain ⟨g, hg, p⟩ := Post.lft.mp p
    unfold oDiff at hg
    by_cases z : ns.length ≤ 4000
    · rw [if_pos z] at hg; cases hg
      cases r.ints
      exact ⟨l, ns, e1, .of (w1.mh _ _ k), z, p _ m1 H1 w1 a1 rfl⟩
    · rw [if_neg z] at hg; cases hg
theorem x_lenSetO (i : Nat) {x : Str} {xs : List Int} (hm : X.mg "len" = none) (hm2 : X.mg "set" = none) (hd : ds[i]? = some (.own (oList tInt) xs) := by rfl) (hN : X.N[i]? = some x := by rfl) (hv : Vis X.env.scope x := by first | exact Or.inl rfl | exact Or.inr (Or.inl rfl) | exact Or.inr (Or.inr rfl))
    (h1 : (x == ("__debug__" : Str)) = false := by decide) (h2 : (x == ("__classdict__" : Str)) = false := by decide) (hg : Gl X "len" := by rfl) (hg2 : Gl X "set" := by rfl) (hc : X.calm = true := by rfl)
    (na : starEach [.Name x p3] X.env = (false, eval (.Name x p3) X.env) :: starEach [] X.env := by rfl) : PE X (.Call (.Name "len" p) [.Call (.Name "set" p2) [.Name x p3] [] q] [] pos) (TX c ds tInt (lft (oDiff xs))) :=
  PE.imp (pe_lenSetD hm hm2 (pe_var hN hv h1 h2) hg hg2 hc na) fun σ H Q ⟨m, st, env, p⟩ => by
    obtain ⟨g, hg, p⟩ := Post.lft.mp p
    obtain ⟨v, fp, e1, l, us, ev, ef, k, r⟩ := own_at env hd
    unfold oDiff at hg
    by_cases z : xs.length ≤ 4000
    · rw [if_pos z] at hg; cases hg
      cases r.ints
      exact ⟨v, e1, l, xs, ev, .of k, z, p _ m H (.refl env.mh) env.amb rfl⟩
    · rw [if_neg z] at hg; cases hg
/-- list(x), x an owned list -/
theorem x_copyO {A : Type} {t : Ty A} (i : Nat) {x f : Str} {xs : List A} (hm : X.mg f = none) (hvf : bootBuiltins f = some (.type "list")) (hd : ds[i]? = some (.own (oList t) xs) := by rfl) (hN : X.N[i]? = some x := by rfl) (hv : Vis X.env.scope x := by first | exact Or.inl rfl | exact Or.inr (Or.inl rfl) | exact Or.inr (Or.inr rfl))
    (h1 : (x == ("__debug__" : Str)) = false := by decide) (h2 : (x == ("__classdict__" : Str)) = false := by decide) (hg : Gl X f := by rfl) (hn : f ≠ "__name__" := by decide) (hdb : (f == ("__debug__" : Str)) = false := by decide)
    (he : starEach [.Name x p3] X.env = (false, eval (.Name x p3) X.env) :: starEach [] X.env := by rfl) (hpl : (backTo pos (starEach [] X.env)).any (·.1) = false := by rfl) :
    PE X (.Call (.Name f p) [.Name x p3] [] pos) (TXO c ds (oList t) (ret xs)) :=
  PE.imp (pe_callTy call_list' hg hm hvf (pa_cons (pe_var hN hv h1 h2) pa_nil he) hn hdb he hpl) fun σ H Q ⟨m, st, env, p⟩ => by
    obtain ⟨v, fp, e1, l, us, ev, ef, k, r⟩ := own_at env hd
    subst ev
    refine ⟨_, e1, l, us, rfl, .inl (.of k), fun y hy => ?_⟩
    have w3 : WStep [] m H m (upd H y (.lst us)) := .own env.mh hy
    exact p (.ref y) [y] m _ w3.wide (EnvOk.ambGrow env.amb w3) (fun z hz => by obtain rfl := List.mem_singleton.mp hz; exact ⟨hy, env.mh.free hy⟩) ⟨y, us, rfl, rfl, upd_same, r⟩
theorem Reps.optS {A : Type} {t : Ty A} {m : Hp} {xs : List A} {us : List V} (r : Reps t m xs us) : Reps (tOpt t) m (xs.map some) us := by
  induction r with
  | nil => exact .nil
  | cons h _ ih => exact .cons h ih
/-- numbers are numbers or None -/
theorem x_wkLO {A : Type} {t : Ty A} {xa : MM T (List A)} (ha : PE X a (TX c ds (tList t) xa)) : PE X a (TX c ds (tList (tOpt t)) (e1 (fun xs => some (xs.map some)) xa)) :=
  PE.imp ha fun σ H Q ⟨m, st, env, p⟩ => by
    unfold e1 at p
    refine ⟨m, st, env, (Post.bnd.mp p).imp fun xs s1 p v1 m1 H1 w1 a1 ⟨l, us, ev, k, r⟩ => ?_⟩
    obtain ⟨g, hg, p⟩ := Post.lft.mp p
    cases hg
    exact p v1 m1 H1 w1 a1 ⟨l, us, ev, k, r.optS⟩
end
end WL

/-! WLAA: defs over the pool that return objects of their own; owned names moved; lending to such defs. -/
namespace WL
open PySem PySem.Spec PyProof.Rows L2
/-! ### what leans on facts X0 alone -/
def tQ {A : Type} (X0 : Hp) (t : Ty A) : Ty A := ⟨fun a v m => t.rep a v X0 ∧ Sub X0 m, fun h ⟨r, s⟩ => ⟨r, s.trans h⟩⟩
/-- a list of places, of which each leans on X0 at most -/
def LMF {T : Type} (X0 : Hp) (l : LTy T) : Prop := ∀ a vs m n, Sub X0 n → l.rep a vs m → l.rep a vs n
/-- a list of places that holds the facts X0 -/
def LHas {T : Type} (X0 : Hp) (l : LTy T) : Prop := ∀ a vs m, l.rep a vs m → Sub X0 m
theorem lhas_q {A B : Type} {X0 : Hp} {t : Ty A} {l : LTy B} : LHas X0 (lc (tQ X0 t) l) := fun a vs m ⟨v, ws, e, r, k⟩ => r.2
theorem lmf_c {A B : Type} {X0 : Hp} {t : Ty A} {l : LTy B} (h : MF t) (k : LMF X0 l) : LMF X0 (lc t l) := fun a vs m n s ⟨v, ws, e, r, q⟩ => ⟨v, ws, e, h _ _ _ _ r, k _ _ _ _ s q⟩
theorem lmf_q {A B : Type} {X0 : Hp} {t : Ty A} {l : LTy B} (k : LMF X0 l) : LMF X0 (lc (tQ X0 t) l) := fun a vs m n s ⟨v, ws, e, r, q⟩ => ⟨v, ws, e, ⟨r.1, s⟩, k _ _ _ _ s q⟩
theorem lmf_1 {A : Type} {X0 : Hp} {t : Ty A} (h : MF t) : LMF X0 (l1 t) := fun a vs m n s ⟨v, e, r⟩ => ⟨v, e, h _ _ _ _ r⟩
section
variable {X : Cx} {T A B F : Type} {c : Ctx T} {ds : List Desc} {e : Expr} {P : F → T → Ends → Prop}
theorem x_unQ {X0 : Hp} {t : Ty A} {xa : MM T A} (he : PE X e (TX c ds (tQ X0 t) xa)) : PE X e (TX c ds t xa) := PE.imp he fun σ H Q ⟨m, st, env, p⟩ => ⟨m, st, env, p.imp fun a s1 p v m1 H1 w1 a1 r1 => p v m1 H1 w1 a1 (t.mono r1.2 r1.1)⟩
/-- what the entry gave leans on the facts of the entry -/
theorem b_anchor (i : Nat) {t : Ty A} {a : A} {x : MM T F} {sts : List Stmt} (h : ∀ X0, PSs X sts (BX c (ds.set i (.val (tQ X0 t) a)) x P)) (hd : ds[i]? = some (.val t a) := by rfl) : PSs X sts (BX c ds x P) :=
  PSs.imp (PSs.any h) fun D σ H ⟨m, st, env, p⟩ => by
    refine ⟨m, m, st, ?_, p⟩
    obtain ⟨fps, sl, dj, fr⟩ := env.slots
    obtain ⟨s, fp, e1, e2, ef, v, ev, r⟩ := sl.get hd
    have sl' := sl.desc (i := i) (fp := fp) (d := .val (tQ m t) a) fun s' fp' g1 g2 => by
      rw [e1] at g1; cases g1
      exact ⟨ef, v, ev, r, .refl m⟩
    have e : fps.set i fp = fps := by
      refine List.ext_getElem? fun j => ?_
      rw [List.getElem?_set]
      by_cases z : i = j
      · subst z
        rw [if_pos rfl]
        obtain ⟨hl, _⟩ := List.getElem?_eq_some_iff.mp e2
        rw [if_pos hl, e2]
      · rw [if_neg z]
    rw [e] at sl'
    exact ⟨env.step, ⟨fps, sl', dj, fr⟩, env.amb, env.own, env.pin⟩
end
/-! ### lending to what changes the pool -/
theorem WStep.unlS {S : List Addr} {m m' H m2 H2 : Hp} {fp : List Addr} (mm : Sub m m') (off : ∀ q, q ∉ fp → m' q = m q) (nn : ∀ p ∈ fp, m p = none) (w : WStep S m' H m2 H2) : WStep S m H (WL.unl m2 fp) H2 := by
  refine ⟨fun a o e => ?_, fun a o e => ?_, w.hh, fun a e n => ?_, w.dm⟩
  · have z : a ∉ fp := fun z => by rw [nn a z] at e; cases e
    show (if a ∈ fp then none else m2 a) = some o
    rw [if_neg z]
    exact w.mm a o (mm a o e)
  · have e : (if a ∈ fp then none else m2 a) = some o := e
    by_cases z : a ∈ fp
    · rw [if_pos z] at e; cases e
    · rw [if_neg z] at e; exact w.mh a o e
  · show (if a ∈ fp then none else m2 a) = none
    by_cases z : a ∈ fp
    · rw [if_pos z]
    · rw [if_neg z]; exact w.ow a (by rw [off a z]; exact e) n
section
variable {X : Cx} {T A B : Type} {c : Ctx T} {ds : List Desc} {e : Expr} {o : OTy A} {t : Ty A} {a : A} {l : LTy T} {p : Addr}
theorem x_lendPO (i : Nat) {X0 : Hp} {u : OTy B} {y : MM T B} (hc : PoolC c l p) (hl : LMF X0 l) (hh : LHas X0 l) (hf : Freezes o t) (mf : MFo u) (hd : ds[i]? = some (.own o a)) (hx : PE X e (TXO c (ds.set i (.val t a)) u y)) : PE X e (TXO c ds u y) := PE.imp hx fun σ H Q ⟨m, st, env, q⟩ => by
  obtain ⟨m', fp, a1, off, nn, env'⟩ := env.frz2 hd hf
  have am := env.amb
  rw [hc.amb] at am
  obtain ⟨us, k, r⟩ := am
  have sX := hh _ _ _ r
  refine ⟨m', st, env', q.imp fun b s1 q v fp2 m1 H1 w am1 n2 r2 => q v fp2 (unl m1 fp) H1 (w.unlS a1 off nn) ?_ (fun z hz => ⟨(n2 z hz).1, ?_⟩) (mf _ _ _ _ _ _ r2)⟩
  · rw [hc.amb] at am1 ⊢
    obtain ⟨us1, k1, r1⟩ := am1
    refine ⟨us1, k1, hl _ _ _ _ (fun y o e => ?_) r1⟩
    have hy : y ∉ fp := fun z => by have := sX y o e; rw [nn y z] at this; cases this
    show (if y ∈ fp then none else m1 y) = some o
    rw [if_neg hy]
    exact w.mm y o (a1 y o (sX y o e))
  · show (if z ∈ fp then none else m1 z) = none
    rw [(n2 z hz).2, ite_self]
end
/-! ### defs over the pool, their result owned -/
def SpPO {T A B : Type} (cls : Nat → Addr) (l : LTy T) (la : Addr → LTy A) (o : OTy B) (f : A → MM T B) : Sp := fun vs H Q E => ∃ p a m st, (la p).rep a vs m ∧ Sub m H ∧ m p = none ∧ ambP l p st H m ∧
  Post (f a st) (fun b st' => ∀ v fp m' H', WStep [p] m H m' H' → ambP l p st' H' m' → (∀ q ∈ fp, H q = none ∧ m' q = none) → o.rep b v fp H' m' → Q v H') (fun e st' => ∀ d m' H', WStep [p] m H m' H' → ambP l p st' H' m' → XdAt H m' H' d e → E (.ref (cls e.k)) (some d) H')
section
variable {X : Cx} {T A B : Type} {c : Ctx T} {ds : List Desc} {l : LTy T} {p : Addr} {pos p2 : Pos} {e : Expr}
theorem x_callPO {la : Addr → LTy A} {o : OTy B} {fn : A → MM T B} {xa : MM T A} {k : Nat} {f : Addr} {fd : FuncData} {ps : List Str} {x : Str} {es : List Expr} {W : WX} (hc : PoolC c l p) (G : FnOk X.prog X.w X.K X.mg X.base (L2.CX X.prog X.w) k f fd ps (SpPO c.cls l la o fn)) (hr : Room k X.A) (hm : X.mg x = some (.ref f)) (hk : PySem.W.keepIn X.K (.ref f) = true) (hb : Binds X.K fd ps [])
    (tk : Takes X W) (he : ErrC c W) (ha : PA X (e :: es) (TAX c ds (la p) xa)) (hg : Gl X x := by rfl) (hdb : (x == ("__debug__" : Str)) = false := by decide)
    (h1 : starEach (e :: es) X.env = (false, eval e X.env) :: starEach es X.env := by rfl) (h2 : (backTo pos (starEach es X.env)).any (·.1) = false := by rfl) :
    PE X (.Call (.Name x p2) (e :: es) [] pos) (TXO c ds o (eCallS fn xa)) := PE.imp (pe_callS G hr hg hm hk hb (fun σ => passAt tk σ) ha hdb h1 h2) fun σ H Q ⟨m, st, env, q⟩ =>
  ⟨m, st, env, (Post.bnd.mp q).imp fun a s1 q vs m1 H1 w1 a1 r1 => by
    have env1 := env.go w1 a1
    have hpa : p ∈ c.afp := by rw [hc.afp]; simp
    have e3 := hc.afp
    have e4 := hc.amb
    refine ⟨p, a, m1, s1, r1, w1.mh, env1.own p hpa, by rw [← e4]; exact a1, q.mono (fun b s2 q v fp m' H' w2 a2 n2 r2 => ?_) fun e s2 q d m' H' w2 a2 hd => ?_⟩
    · rw [← e3] at w2
      rw [← e4] at a2
      exact q v fp m' H' (w1.trans w2) a2 (fun y hy => ⟨fresh_up w1 (n2 y hy).1, (n2 y hy).2⟩) r2
    · rw [← e3] at w2
      rw [← e4] at a2
      exact he e s2 d σ m' H' ds q (env1.go w2 a2) (xd_up env1 hd).1 (xd_up env1 hd).2⟩
theorem fn_poolO {P : Program} {w : World} {K : PySem.W.Frag} {mg : Str → Option Value} {base : Heap} {x qual : Str} {st : Stmt} {f : Addr} {fd : FuncData} {N ps : List Str} {k r : Nat} {cls : Nat → Addr} {l : LTy T} {la : Addr → LTy A} {o : OTy B} {fn : A → MM T B} {D : Addr → A → List Desc} (F : Fun K x qual st f fd) (S : FnScope N ps (defScope st)) (hl : ∀ p, LDesc (la p) ps.length (D p)) (hn : N.length = ps.length + r)
    (body : ∀ (cdv : Value) (A : Around) (outer : List Env) (s : Shared) (H : Hp) (E : XK) (m : Hp) (p : Addr) a, Room k (A.deeper (envOfC qual (defScope st) s.heap.objs.size f cdv)) →
      PSs (bX P w K mg base N qual st f cdv A outer s H E) (defBody st) (BX (pCtx K cls l p m H E) (D p a ++ List.replicate r .any) (fn a) (ERO (pCtx K cls l p m H E) o))) :
    FnOk P w K mg base (L2.CX P w) (k + 1) f fd ps (SpPO cls l la o fn) := by
  obtain ⟨oc, od, kV, doc, pm, an, cdv, ct, osl, rfl, lk, hcd⟩ := F.ex
  refine fn_of lk hcd S (fun vs H Q E ⟨p, a, m, st', h, _⟩ => (hl p).len a vs m h) fun A outer s H vs Q E hr ⟨p, a, m, st', h, hm, hp, am, q⟩ => ?_
  exact ⟨_, body cdv A outer s H E m p a hr, m, st', env_start (hl p) h hn hm rfl rfl am (fun y hy => by obtain rfl := List.mem_singleton.mp (show y ∈ [p] from hy); exact hp) trivial, q.mono (fun b s1 q v fp m' H' w' a' n' r' => q v fp m' H' w' a' n' r') fun e _ q => q⟩
end
/-! ### two owned objects in a tuple -/
def oTP {A B : Type} (o1 : OTy A) (o2 : OTy B) : OTy (A × B) where
  rep := fun ab v fp h m => ∃ p v1 v2 f1 f2, v = .ref p ∧ fp = p :: (f1 ++ f2) ∧ fp.Nodup ∧ h p = some (.tup [v1, v2]) ∧ o1.rep ab.1 v1 f1 h m ∧ o2.rep ab.2 v2 f2 h m
  frame := fun hk hm ⟨p, v1, v2, f1, f2, e, ef, nd, k, r1, r2⟩ => ⟨p, v1, v2, f1, f2, e, ef, nd, by rw [hk p (by rw [ef]; simp)]; exact k, o1.frame (fun q hq => hk q (by rw [ef]; simp [hq])) hm r1, o2.frame (fun q hq => hk q (by rw [ef]; simp [hq])) hm r2⟩
  dom := fun ⟨p, v1, v2, f1, f2, e, ef, nd, k, r1, r2⟩ q hq => by
    rw [ef] at hq
    rcases List.mem_cons.mp hq with z | z
    · rw [z, k]; exact fun z => nomatch z
    · rcases List.mem_append.mp z with z | z
      · exact o1.dom r1 q z
      · exact o2.dom r2 q z
theorem nd_LT {A : Type} {t : Ty A} : ∀ (a : List (List A)) v fp h m, (oLT t).rep a v fp h m → fp.Nodup := fun a v fp h m ⟨ps, p, e, ef, nd, _⟩ => nd
theorem own_at4 {T A : Type} {c : Ctx T} {ds : List Desc} {σ : L2.St} {m H : Hp} {st : T} {i : Nat} {o : OTy A} {a : A} (env : EnvOk c σ m H ds st) (hd : ds[i]? = some (.own o a)) : ∃ v fp, σ[i]? = some (some v) ∧ o.rep a v fp H m ∧ ∀ p ∈ fp, p ∉ c.afp ∧ c.H0 p = none ∧ m p = none := by
  obtain ⟨fps, sl, _, fr⟩ := env.slots
  obtain ⟨s, fp, e1, e2, v, rfl, r, n⟩ := sl.get hd
  exact ⟨v, fp, e1, r, fun p hp => ⟨(fr fp (List.mem_of_getElem? e2) p hp).1, (fr fp (List.mem_of_getElem? e2) p hp).2, n p hp⟩⟩
section
variable {X : Cx} {T A B F : Type} {c : Ctx T} {ds : List Desc} {pos p2 p3 p4 : Pos} {e : Expr} {P : F → T → Ends → Prop} {rest : List Stmt} {o1 : OTy A} {o2 : OTy B}
/-- return (x, e), x owned -/
theorem b_ret2O (i : Nat) {x : Str} {a : A} {kk} {xb : MM T B} (d1 : ∀ a v fp h m, o1.rep a v fp h m → fp.Nodup) (d2 : ∀ a v fp h m, o2.rep a v fp h m → fp.Nodup) (he : PE X e (TXO c ds o2 xb)) (hd : ds[i]? = some (.own o1 a) := by rfl) (hN : X.N[i]? = some x := by rfl) (hv : Vis X.env.scope x := by first | exact Or.inl rfl | exact Or.inr (Or.inl rfl) | exact Or.inr (Or.inr rfl))
    (h1 : (x == ("__debug__" : Str)) = false := by decide) (h3 : (x == ("__classdict__" : Str)) = false := by decide)
    (hs : starEach [.Name x p2, e] X.env = (false, eval (.Name x p2) X.env) :: starEach [e] X.env := by rfl) (hs2 : starEach [e] X.env = (false, eval e X.env) :: starEach [] X.env := by rfl) :
    PSs X [.Return (some (.Tuple [.Name x p2, e] kk p3)) pos] (BX c ds (bnd xb fun b => ret (a, b)) (ERO c (oTP o1 o2))) :=
  PSs.imp (pss_one (ps_ret (pe_tup (pa_cons (pe_var hN hv h1 h3) (pa_cons he pa_nil hs2) hs)))) fun D σ H ⟨m, st, env, p⟩ => by
    obtain ⟨v1, f1, e1, r0, n0⟩ := own_at4 env hd
    refine ⟨v1, e1, m, st, env, (Post.bnd.mp p).imp fun b s1 p v2 fp2 m1 H1 w1 a1 n2 r2 => ⟨(show 2 ≤ sizeLine from by rw [sizeLine_eq]; decide), fun q hq => ?_⟩⟩
    have f1H : ∀ y ∈ f1, H y ≠ none := fun y hy => o1.dom r0 y hy
    have r1 : o1.rep a v1 f1 H1 m1 := o1.frame (fun y hy => by
      cases z : H y with
      | none => exact absurd z (f1H y hy)
      | some u => exact w1.hh y u (n0 y hy).1 z) w1.mm r0
    have n1 : ∀ y ∈ f1, c.H0 y = none ∧ m1 y = none := fun y hy => ⟨(n0 y hy).2.1, w1.ow y (n0 y hy).2.2 (f1H y hy)⟩
    have w3 : WStep [] m1 H1 m1 (upd H1 q (.tup [v1, v2])) := .own w1.mh hq
    have back : ∀ y, H y = none → c.H0 y = none := fun y hy => by
      cases z : c.H0 y with
      | none => rfl
      | some u => exact absurd hy (env.step.dm y (by rw [z]; exact fun q => nomatch q))
    have q1 : ∀ y ∈ f1, y ≠ q := fun y hy z => o1.dom r1 y hy (by rw [z]; exact hq)
    have q2 : ∀ y ∈ fp2, y ≠ q := fun y hy z => o2.dom r2 y hy (by rw [z]; exact hq)
    have Hq : H q = none := fresh_up w1 hq
    have p : (ERO c (oTP o1 o2)) (a, b) s1 D := p
    refine p (.ref q) (q :: (f1 ++ fp2)) m1 _ (env.step.comp (w1.trans w3.wide) c.afr) (EnvOk.ambGrow a1 w3) (fun y hy => ?_) ⟨q, v1, v2, f1, fp2, rfl, rfl, ?_, upd_same, o1.frame (fun y hy => upd_ne (q1 y hy)) (.refl m1) r1, o2.frame (fun y hy => upd_ne (q2 y hy)) (.refl m1) r2⟩
    · rcases List.mem_cons.mp hy with z | z
      · subst z; exact ⟨back _ Hq, w1.mh.free hq⟩
      · rcases List.mem_append.mp z with z | z
        · exact n1 y z
        · exact ⟨back _ (n2 y z).1, (n2 y z).2⟩
    · refine List.nodup_cons.mpr ⟨fun z => ?_, List.nodup_append.mpr ⟨d1 _ _ _ _ _ r1, d2 _ _ _ _ _ r2, fun y hy z hz e => ?_⟩⟩
      · rcases List.mem_append.mp z with z | z
        · exact q1 q z rfl
        · exact q2 q z rfl
      · subst e; exact f1H y hy (n2 y hz).1
/-- return x, x owned -/
theorem b_ret1O (i : Nat) {x : Str} {a : A} (hd : ds[i]? = some (.own o1 a) := by rfl) (hN : X.N[i]? = some x := by rfl) (hv : Vis X.env.scope x := by first | exact Or.inl rfl | exact Or.inr (Or.inl rfl) | exact Or.inr (Or.inr rfl))
    (h1 : (x == ("__debug__" : Str)) = false := by decide) (h3 : (x == ("__classdict__" : Str)) = false := by decide) :
    PSs X [.Return (some (.Name x p2)) pos] (BX c ds (ret a) (ERO c o1)) :=
  PSs.imp (pss_one (ps_ret (pe_var hN hv h1 h3))) fun D σ H ⟨m, st, env, p⟩ => by
    obtain ⟨v1, f1, e1, r0, n0⟩ := own_at4 env hd
    have p : (ERO c o1) a st D := p
    exact ⟨v1, e1, p v1 f1 m H env.step env.amb (fun y hy => (n0 y hy).2) r0⟩
theorem bindNew2 {σ : L2.St} {m H m1 H1 : Hp} {st s1 : T} {a : A} {b : B} {v1 v2 : V} {f1 f2 : List Addr} (i j : Nat) (env : EnvOk c σ m H ds st) (w : WStep c.afp m H m1 H1) (am : c.amb s1 H1 m1) (n1 : ∀ p ∈ f1, H p = none ∧ m1 p = none) (n2 : ∀ p ∈ f2, H p = none ∧ m1 p = none) (dj12 : ∀ p ∈ f1, p ∉ f2)
    (r1 : o1.rep a v1 f1 H1 m1) (r2 : o2.rep b v2 f2 H1 m1) : EnvOk c ((σ.set i (some v1)).set j (some v2)) m1 H1 ((ds.set i (.own o1 a)).set j (.own o2 b)) s1 := by
  have back : ∀ p, H p = none → c.H0 p = none := fun p hp => by
    cases z : c.H0 p with
    | none => rfl
    | some o => exact absurd hp (env.step.dm p (by rw [z]; exact fun y => nomatch y))
  obtain ⟨fps, sl, dj, fr⟩ := env.slots
  have ev1 := env.go w am
  have sl1 : Slots m1 H1 σ fps ds := sl.go (fun gp hg p hp => by
    cases q : H p with
    | none => exact absurd q (sl.dom gp hg p hp).1
    | some u => exact w.hh p u (fr gp hg p hp).1 q) w.mm fun gp hg p hp e => w.ow p e (sl.dom gp hg p hp).1
  have slA := Slots.set (i := i) (d := .own o1 a) sl1 ⟨v1, rfl, r1, fun p hp => (n1 p hp).2⟩
  have slB := Slots.set (i := j) (d := .own o2 b) slA ⟨v2, rfl, r2, fun p hp => (n2 p hp).2⟩
  have djA : Disj (fps.set i f1) := dj.set fun gp hg => .inl fun p hp hq => (sl.dom gp hg p hp).1 (n1 p hq).1
  refine ⟨ev1.step, ⟨(fps.set i f1).set j f2, slB, djA.set fun gp hg => .inl fun p hp hq => ?_, fun gp hg p hp => ?_⟩, ev1.amb, ev1.own, ev1.pin⟩
  · rcases List.mem_or_eq_of_mem_set hg with z | z
    · exact (sl.dom gp z p hp).1 (n2 p hq).1
    · subst z; exact dj12 p hp hq
  · rcases List.mem_or_eq_of_mem_set hg with z | z
    · rcases List.mem_or_eq_of_mem_set z with z | z
      · exact fr gp z p hp
      · subst z; exact ⟨fun q => (c.ambD env.amb p q) (n1 p hp).1, back p (n1 p hp).1⟩
    · subst z; exact ⟨fun q => (c.ambD env.amb p q) (n2 p hp).1, back p (n2 p hp).1⟩
/-- x, y = e, both owned -/
theorem b_asg2O (i j : Nat) {x y : Str} {kk} {xa : MM T (A × B)} {k : A × B → MM T F} (hc : X.calm = true) (he : PE X e (TXO c ds (oTP o1 o2) xa)) (h2 : ∀ ab : A × B, PSs X rest (BX c ((ds.set i (.own o1 ab.1)).set j (.own o2 ab.2)) (k ab) P)) (hN : X.N.Nodup) (hi : X.N[i]? = some x := by rfl) (hj : X.N[j]? = some y := by rfl) (hx : Loc X.env.scope x := by first | exact Or.inl rfl | exact Or.inr rfl) (hy : Loc X.env.scope y := by first | exact Or.inl rfl | exact Or.inr rfl)
    (hs : swapsWithSole [.Tuple [.Name x p2, .Name y p3] kk p4] e pos.line X.env = pure false := by rfl) (hw : swappedStores [.Tuple [.Name x p2, .Name y p3] kk p4] e X.env = pure none := by rfl) (h1 : (assignEach [.Tuple [.Name x p2, .Name y p3] kk p4] X.env).map (·.2) = [assign (.Tuple [.Name x p2, .Name y p3] kk p4) X.env] := by rfl)
    (hf : X.fn x = true ∨ X.env.scope.names.lookup x = some .local := by first | exact .inl rfl | exact .inr rfl) (hf2 : X.fn y = true ∨ X.env.scope.names.lookup y = some .local := by first | exact .inl rfl | exact .inr rfl)
    (g1 : (assignEach [.Name x p2, .Name y p3] X.env).map (·.2) = assign (.Name x p2) X.env :: (assignEach [.Name y p3] X.env).map (·.2) := by rfl) (g2 : (assignEach [.Name y p3] X.env).map (·.2) = assign (.Name y p3) X.env :: (assignEach [] X.env).map (·.2) := by rfl)
    (g3 : (assignEach [.Name x p2, .Name y p3] X.env).length = 2 := by rfl) (g4 : (assignEach [.Name x p2, .Name y p3] X.env).findIdx? (·.1) = none := by rfl) :
    PSs X (.Assign [.Tuple [.Name x p2, .Name y p3] kk p4] e pos :: rest) (BX c ds (bnd xa k) P) :=
  PSs.imp (pss_cons (ps_asg he (pg_tup hc (pgs_cons (pg_name hN hi hx hf) (pgs_cons (pg_name hN hj hy hf2) pgs_nil g2) g1) g3 g4) hs hw h1) (PSs.any h2)) fun D σ H ⟨m, st, env, p⟩ => ⟨m, st, env, (Post.bnd.mp p).imp fun ab s1 p v fp m1 H1 w1 a1 n1 ⟨q, v1, v2, f1, f2, ev, ef, nd, k1, r1, r2⟩ => by
    subst ev ef
    obtain ⟨nx, nf⟩ := List.nodup_cons.mp nd
    obtain ⟨m1', m2', n3⟩ := List.nodup_append.mp nf
    refine ⟨q, [v1, v2], rfl, .of k1, rfl, v1, [v2], rfl, v2, [], rfl, rfl, ab, m1, s1, ?_, p⟩
    exact bindNew2 i j env w1 a1 (fun z hz => n1 z (by simp [hz])) (fun z hz => n1 z (by simp [hz])) (fun z hz hz2 => n3 z hz z hz2 rfl) r1 r2⟩
end
section
variable {X : Cx} {T A F : Type} {c : Ctx T} {ds : List Desc} {t : Ty A} {pos : Pos} {P : F → T → Ends → Prop} {rest : List Stmt}
/-- rows.append(row), row an owned name, which is nobody's from now on -/
theorem b_mvLT (i r : Nat) {call : Expr} {xs : List A} {ys : List (List A)} {k : List (List A) → MM T F} (hir : i ≠ r) (he : PE X call (tBM X.K "list" rAppend (tVar i) (tCons (tVar r) tNil))) (h2 : ∀ zs, PSs X rest (BX c ((ds.set r .any).set i (.own (oLT t) zs)) (k zs) P)) (hd : ds[i]? = some (.own (oLT t) ys) := by rfl) (hr : ds[r]? = some (.own (oList t) xs) := by rfl)
    (hs : swapsWith call none pos.line X.env = pure false := by rfl) :
    PSs X (.Expr call pos :: rest) (BX c ds (bnd (lft (oApp ys xs)) k) P) :=
  PSs.imp (pss_cons (ps_expr he hs) (PSs.any h2)) fun D σ H ⟨m, st, env, p⟩ => by
    obtain ⟨zs, hz, p⟩ := Post.lft.mp (Post.bnd.mp p)
    obtain ⟨fps, sl, dj, fr⟩ := env.slots
    obtain ⟨s, fp, e1, e2, v, rfl, ⟨ps, q, ev, ef, nd, k1, rr⟩, n⟩ := sl.get hd
    obtain ⟨s', fp', e1', e2', v', rfl, ⟨pr, us, ev', ef', k2, ru⟩, n'⟩ := sl.get hr
    subst ev ev'
    unfold oApp at hz
    by_cases z : ys.length < 100000
    rotate_left
    · rw [if_neg z] at hz; cases hz
    rw [if_pos z] at hz; cases hz
    have djp : ∀ j j' gp gp', j ≠ j' → fps[j]? = some gp → fps[j']? = some gp' → ∀ y ∈ gp, y ∉ gp' := fun j j' gp gp' hj g g' y hy hy' => by
      unfold Disj at dj
      rw [List.pairwise_iff_getElem] at dj
      obtain ⟨hj1, ej1⟩ := List.getElem?_eq_some_iff.mp g
      obtain ⟨hj2, ej2⟩ := List.getElem?_eq_some_iff.mp g'
      rcases Nat.lt_or_gt_of_ne hj with z | z
      · exact dj j j' hj1 hj2 z y (by rw [ej1]; exact hy) (by rw [ej2]; exact hy')
      · exact dj j' j hj2 hj1 z y (by rw [ej2]; exact hy') (by rw [ej1]; exact hy)
    have hqf : q ∈ fp := by rw [ef]; simp
    have hpf : pr ∈ fp' := by rw [ef']; simp
    have hprfp : pr ∉ fp := djp r i fp' fp (fun z => hir z.symm) e2' e2 pr hpf
    have hqa := (fr fp (List.mem_of_getElem? e2) q hqf)
    have hpa := (fr fp' (List.mem_of_getElem? e2') pr hpf)
    have hprq : pr ≠ q := fun z => hprfp (by rw [z]; exact hqf)
    refine ⟨_, e1, .inl ⟨rfl, _, .of k1⟩, _, e1', q, _, _, rfl, rfl, k1, by rw [List.length_map, ← rr.length]; exact Nat.lt_of_lt_of_le z (by decide), ys ++ [xs], m, st, ?_, p⟩
    have slA := sl.desc (i := r) (fp := []) (d := .any) fun _ _ _ _ => rfl
    have hlr : r < fps.length := (List.getElem?_eq_some_iff.mp e2').1
    have getA : ∀ j gp, (fps.set r [])[j]? = some gp → gp = [] ∨ j ≠ r ∧ fps[j]? = some gp := fun j gp g => by
      rw [List.getElem?_set] at g
      by_cases c : r = j
      · rw [if_pos c, if_pos hlr] at g
        exact .inl (Option.some.inj g).symm
      · rw [if_neg c] at g; exact .inr ⟨fun z => c z.symm, g⟩
    have djA : Disj (fps.set r []) := dj.set fun gp _ => .inl fun p _ hq => by simp at hq
    have e1A : σ[i]? = some (some (V.ref q)) := e1
    have hRow : RowsT t (upd H q (.lst ((ps ++ [pr]).map V.ref))) m (ys ++ [xs]) (ps ++ [pr]) := by
      obtain ⟨nx, np⟩ := List.nodup_cons.mp (ef ▸ nd)
      refine (rr.go (.refl m) fun y hy => upd_ne fun z => nx (by rw [← z]; exact hy)).append (.cons ?_ ru .nil)
      rw [upd_ne hprq]; exact k2
    have hnd : (q :: (ps ++ [pr])).Nodup := by
      have ee : q :: (ps ++ [pr]) = (q :: ps) ++ [pr] := by simp
      rw [ee]
      exact List.nodup_append.mpr ⟨ef ▸ nd, by simp, fun y hy z hz e => by
        obtain rfl := List.mem_singleton.mp hz
        exact hprfp (by rw [ef, ← e]; exact hy)⟩
    have memfp : ∀ y ∈ q :: (ps ++ [pr]), y ∈ fp ∨ y ∈ fp' := fun y hy => by
      rw [ef, ef']
      simp only [List.mem_cons, List.mem_append, List.not_mem_nil, or_false] at hy ⊢
      rcases hy with z | z | z
      · exact .inl (.inl z)
      · exact .inl (.inr z)
      · exact .inr z
    have heap : upd H q (.lst (ps.map V.ref ++ [V.ref pr])) = upd H q (.lst ((ps ++ [pr]).map V.ref)) := by rw [List.map_append]; rfl
    rw [heap]
    refine ⟨⟨env.step.mm, env.step.mh.wr (n q hqf), fun y o' hy e => ?_, env.step.ow, fun y e => ?_⟩, ⟨(fps.set r []).set i (q :: (ps ++ [pr])), slA.put1 (fun j gp hj g y hy => ?_) e1A ⟨_, rfl, ⟨ps ++ [pr], q, rfl, rfl, hnd, upd_same, hRow⟩, fun y hy => ?_⟩, djA.set2 fun j gp hj g y hy hy2 => ?_, fun gp hg y hy => ?_⟩, c.ambF (fun y hy => upd_ne fun z => hqa.1 (by rw [← z]; exact hy)) (.refl m) env.amb, env.own, env.pin⟩
    · rw [upd_ne (ne_of_none e hqa.2)]; exact env.step.hh y o' hy e
    · by_cases z : y = q
      · subst z; rw [upd_same]; exact fun q => nomatch q
      · rw [upd_ne z]; exact env.step.dm y e
    · refine upd_ne fun z => ?_
      rcases getA j gp g with a | ⟨a, b⟩
      · rw [a] at hy; simp at hy
      · exact djp j i gp fp hj b e2 y hy (by rw [z]; exact hqf)
    · rcases memfp y hy with a | a
      · exact n y a
      · exact n' y a
    · rcases getA j gp g with a | ⟨a, b⟩
      · rw [a] at hy; simp at hy
      · rcases memfp y hy2 with x | x
        · exact djp j i gp fp hj b e2 y hy x
        · exact djp j r gp fp' a b e2' y hy x
    · rcases List.mem_or_eq_of_mem_set hg with a | a
      · rcases List.mem_or_eq_of_mem_set a with a | a
        · exact fr gp a y hy
        · subst a; simp at hy
      · subst a
        rcases memfp y hy with x | x
        · exact fr fp (List.mem_of_getElem? e2) y x
        · exact fr fp' (List.mem_of_getElem? e2') y x
end
/-- [] as a list of rows -/
theorem x_lst0LT {X : Cx} {T A : Type} {c : Ctx T} {ds : List Desc} {t : Ty A} {pos : Pos} : PE X (.List [] pos) (TXO c ds (oLT t) (ret ([] : List (List A)))) :=
  PE.imp (pe_lst pa_nil) fun σ H Q ⟨m, st, env, p⟩ => ⟨Nat.zero_le _, fun q hq => by
    have w2 : WStep [] m H m (upd H q (.lst [])) := .own env.mh hq
    exact p (.ref q) [q] m _ w2.wide (EnvOk.ambGrow env.amb w2) (fun y hy => by obtain rfl := List.mem_singleton.mp hy; exact ⟨hq, env.mh.free hq⟩) ⟨[], q, rfl, rfl, by simp, upd_same, .nil⟩⟩
end WL

/-! WLBB: texts. -/
namespace WL
open PySem PySem.Spec PyProof.Rows L2
/-! ### texts joined, compared, repeated -/
def oCatS (a b : Str) : Option Str := if a.length + b.length ≤ 100000 then some (a ++ b) else none
theorem sp_catS : Op2 (fun x y H Q => ∃ i j, x = .str i ∧ y = .str j ∧ i.length + j.length ≤ sizeLine ∧ Q (.str (i ++ j)) H) tStr tStr tStr oCatS := fun a b g v1 v2 m H Q r1 r2 hm e q => by
  cases rep_str r1; cases rep_str r2
  unfold oCatS at e
  by_cases z : a.length + b.length ≤ 100000
  · rw [if_pos z] at e; cases e
    exact ⟨a, b, rfl, rfl, Nat.le_trans z (by rw [sizeLine_eq]; decide), q _ m H (.refl hm) rfl⟩
  · rw [if_neg z] at e; cases e
def ltS (a b : Str) : Bool := decide (a.cps.toList < b.cps.toList)
def oLtS (a b : Str) : Option Bool := some (ltS a b)
def oLeS (a b : Str) : Option Bool := some (!ltS b a)
def oGtS (a b : Str) : Option Bool := some (ltS b a)
def oGeS (a b : Str) : Option Bool := some (!ltS a b)
theorem sp_ltS : Op2 (fun x y H Q => ∃ i j, x = .str i ∧ y = .str j ∧ Q (.bl (decide (i.cps.toList < j.cps.toList))) H) tStr tStr tBool oLtS := fun a b g v1 v2 m H Q r1 r2 hm e q => by
  cases rep_str r1; cases rep_str r2; cases e; exact ⟨a, b, rfl, rfl, q _ m H (.refl hm) rfl⟩
theorem sp_leS : Op2 (fun x y H Q => ∃ i j, x = .str i ∧ y = .str j ∧ Q (.bl (!decide (j.cps.toList < i.cps.toList))) H) tStr tStr tBool oLeS := fun a b g v1 v2 m H Q r1 r2 hm e q => by
  cases rep_str r1; cases rep_str r2; cases e; exact ⟨a, b, rfl, rfl, q _ m H (.refl hm) rfl⟩
theorem sp_gtS : Op2 (fun x y H Q => ∃ i j, x = .str i ∧ y = .str j ∧ Q (.bl (decide (j.cps.toList < i.cps.toList))) H) tStr tStr tBool oGtS := fun a b g v1 v2 m H Q r1 r2 hm e q => by
  cases rep_str r1; cases rep_str r2; cases e; exact ⟨a, b, rfl, rfl, q _ m H (.refl hm) rfl⟩
theorem sp_geS : Op2 (fun x y H Q => ∃ i j, x = .str i ∧ y = .str j ∧ Q (.bl (!decide (i.cps.toList < j.cps.toList))) H) tStr tStr tBool oGeS := fun a b g v1 v2 m H Q r1 r2 hm e q => by
  cases rep_str r1; cases rep_str r2; cases e; exact ⟨a, b, rfl, rfl, q _ m H (.refl hm) rfl⟩
/-- so many times the text -/
def repS (a : Str) (n : Nat) : Str := ⟨(List.replicate n a.cps.toList).flatten.toArray⟩
def rRepS : R2 := fun x y H Q => ∃ (a : Str) (k : Int), x = .str a ∧ y = .int k ∧ 0 ≤ k ∧ k ≤ 100000 ∧ a.length * k.toNat ≤ 100000 ∧ Q (.str (repS a k.toNat)) H
theorem foldl_repS (l : List Nat) : ∀ (n : Nat) (acc : List Nat), List.foldl (fun x1 x2 => x1 ++ x2) acc.toArray (List.replicate n l.toArray) = (acc ++ (List.replicate n l).flatten).toArray
  | 0, acc => by simp
  | n + 1, acc => by
    rw [List.replicate_succ, List.foldl_cons, List.append_toArray, foldl_repS l n, List.replicate_succ, List.flatten_cons, List.append_assoc]
theorem repS_one (a : Str) : repS a 1 = a := by
  obtain ⟨c⟩ := a
  unfold repS
  rw [List.replicate_one, List.flatten_singleton]
theorem repS_empty (n : Nat) : repS Str.empty n = Str.empty := by
  have : ∀ n : Nat, (List.replicate n ([] : List Nat)).flatten = [] := fun n => by
    induction n with
    | zero => rfl
    | succ n ih => rw [List.replicate_succ, List.flatten_cons, ih]; rfl
  show (⟨(List.replicate n ([] : List Nat)).flatten.toArray⟩ : Str) = _
  rw [this]
  rfl
theorem repS_len (a : Str) (n : Nat) : (repS a n).length = a.length * n := by
  unfold repS Str.length
  rw [List.size_toArray]
  induction n with
  | zero => simp
  | succ n ih => rw [List.replicate_succ, List.flatten_cons, List.length_append, ih, Nat.mul_succ, Nat.add_comm]; simp
theorem op_repS {X : Cx} : OpR X (binaryOp .Mult) rRepS := by
  intro pins s σ H x y v u Q I rx ry h
  obtain ⟨a, k, rfl, rfl, h0, h1, hz, q⟩ := h
  obtain ⟨t, rfl⟩ := rx
  obtain ⟨t', rfl⟩ := ry
  have hs : sizeLine = 16777216 := sizeLine_eq
  refine P.mul_str (by
      have a1 : ¬ k < -(2 ^ 63 : Int) := by omega
      have a2 : ¬ k ≥ 2 ^ 63 := by omega
      rw [decide_eq_false a1, decide_eq_false a2]; rfl) (fun h2 _ => ?_) (fun _ _ => ?_) ?_
  · have b1 : (a.length : Int) * k ≤ 100000 := by
      have : ((a.length * k.toNat : Nat) : Int) ≤ ((100000 : Nat) : Int) := Int.ofNat_le.mpr hz
      rw [Int.natCast_mul, Int.toNat_of_nonneg h0] at this
      exact this
    intro z
    have hk : 0 < k := by omega
    have b2 : ((2 : Int) ^ 63 - 1) < (a.length : Int) * k := (Int.ediv_lt_iff_lt_mul hk).mp z
    omega
  · unfold Builtin.Str.tooLong
    exact decide_eq_false (by rw [hs]; omega)
  · split
    · rename_i h2
      obtain rfl : k = 0 := by omega
      exact ⟨by rw [hs]; decide, .str (repS a 0), H, I.tok _, ⟨_, rfl⟩, q⟩
    · rename_i h2
      split
      · rename_i h3
        refine ⟨.str (repS a k.toNat), H, I, ⟨t, ?_⟩, q⟩
        rcases Bool.or_eq_true_iff.mp h3 with z | z
        · have : k = 1 := eq_of_beq z
          subst this
          show Value.str a t = Value.str (repS a 1) t
          rw [repS_one]
        · have z2 : a.cps.size = 0 := eq_of_beq z
          have ea : a = Str.empty := by
            obtain ⟨c⟩ := a
            have : c = #[] := Array.eq_empty_of_size_eq_zero z2
            subst this; rfl
          subst ea
          show Value.str _ t = Value.str (repS Str.empty _) t
          rw [repS_empty]
      · have e : (⟨(List.replicate k.toNat a.cps).foldl (· ++ ·) #[]⟩ : Str) = repS a k.toNat := by
          have := foldl_repS a.cps.toList k.toNat []
          rw [List.nil_append, Array.toArray_toList] at this
          unfold repS
          rw [← this]
        rw [e]
        exact ⟨by rw [repS_len, hs]; omega, .str (repS a k.toNat), H, I.tok _, ⟨_, rfl⟩, q⟩
def oRepS (a : Str) (k : Int) : Option Str := if 0 ≤ k ∧ k ≤ 100000 ∧ a.length * k.toNat ≤ 100000 then some (repS a k.toNat) else none
theorem sp_repS : Op2 rRepS tStr tInt tStr oRepS := fun a b g v1 v2 m H Q r1 r2 hm e q => by
  cases rep_str r1; cases rep_int r2
  unfold oRepS at e
  by_cases z : 0 ≤ b ∧ b ≤ 100000 ∧ a.length * b.toNat ≤ 100000
  · rw [if_pos z] at e; cases e
    exact ⟨a, b, rfl, rfl, z.1, z.2.1, z.2.2, q _ m H (.refl hm) rfl⟩
  · rw [if_neg z] at e; cases e
/-! ### the signs of a text, one by one -/
def strC (x : Str) : List Str := x.cps.toList.map fun c => (⟨#[c]⟩ : Str)
section
variable {X : Cx} {T A B C : Type} {c : Ctx T} {ds : List Desc} {pos p2 : Pos} {a b e l tg : Expr}
theorem serves_str {x : Str} : Serves (Its x) tStr (strC x) (fun _ => True) := fun i H ⟨m, _, hm⟩ => by
  have hl : (strC x).length = x.cps.size := by unfold strC; simp
  refine ⟨fun hi => ⟨by rw [hl] at hi; exact hi, fun v H' ⟨e, cc, hc, ev⟩ => ⟨e, fun m2 _ _ => ⟨⟨#[cc]⟩, ?_, ev⟩⟩⟩, fun hi => by rw [hl] at hi; exact hi⟩
  unfold strC
  rw [List.getElem?_map, Array.getElem?_toList, hc]
  rfl
theorem i_str {x : MM T Str} (h : PE X l (TX c ds tStr x)) : PI X tg l (SrcTI c ds tStr (bnd x fun s => ret (strC s))) := PI.imp (pi_str h) fun σ H R ⟨m, st, env, p⟩ => ⟨m, st, env, (Post.bnd.mp p).imp fun xs s1 p v m1 H1 w1 a1 r => by
  cases rep_str r
  exact ⟨xs, rfl, p (Its xs) _ m1 H1 w1 a1 (fun _ _ => trivial) trivial serves_str⟩⟩
/-! ### slices of texts -/
def oCutS (x : Str) (lo hi : Option Int) : Option Str := if x.length ≤ 100000 then some (cutS x lo hi) else none
theorem x_slStr {lo hi : Option Expr} {xe : MM T Str} {xl xh : MM T (Option Int)} (he : PE X e (TX c ds tStr xe)) (hl : PO X lo (TPX c ds xl)) (hh : PO X hi (TPX c ds xh)) :
    PE X (.Subscript e (.Slice lo hi none p2) pos) (TX c ds tStr (e3p oCutS xe xl xh)) := PE.imp (pe_slice sl_str he hl hh) fun σ H Q ⟨m, st, env, p⟩ => by
  unfold e3p at p
  refine ⟨m, st, env, (Post.bnd.mp p).imp fun xs s1 p v1 m1 H1 w1 a1 r => ?_⟩
  refine ⟨m1, s1, env.go w1 a1, (Post.bnd.mp p).imp fun l s2 p m2 H2 w2 a2 => ?_⟩
  refine ⟨m2, s2, (env.go w1 a1).go w2 a2, (Post.bnd.mp p).imp fun h s3 p m3 H3 w3 a3 => ?_⟩
  obtain ⟨g, e, p⟩ := Post.lft.mp p
  cases rep_str r
  unfold oCutS at e
  by_cases z : xs.length ≤ 100000
  · rw [if_pos z] at e; cases e
    exact ⟨xs, rfl, Nat.le_trans z (by rw [sizeLine_eq]; decide), p _ m3 H3 ((w1.trans w2).trans w3) a3 rfl⟩
  · rw [if_neg z] at e; cases e
/-! ### methods of built-in values -/
/-- a method's rule, by types -/
def OpM {A B C : Type} (K : PySem.W.Frag) (N : String) (r : V → List V → Hp → VK → Prop) (t1 : Ty A) (l : LTy B) (t3 : Ty C) (f : A → B → Option C) : Prop := ∀ (a : A) (b : B) (g : C) (v : V) (vs : List V) (m H : Hp) (Q : VK), t1.rep a v m → l.rep b vs m → Sub m H → f a b = some g →
  (∀ w m' H', WStep [] m H m' H' → t3.rep g w m' → Q w H') → r v vs H Q
def IsTy {A : Type} (K : PySem.W.Frag) (N : String) (t : Ty A) : Prop := ∀ (a : A) (v : V) (m H : Hp), t.rep a v m → Sub m H → tyV K N v H
theorem is_str {K : PySem.W.Frag} : IsTy K "str" tStr := fun a v m H r hm => by cases rep_str r; exact rfl
theorem rd_m {N : String} {r : V → List V → Hp → VK → Prop} {t1 : Ty A} {l : LTy B} {t3 : Ty C} {f : A → B → Option C} {xo : MM T A} {xa : MM T B} {σ : L2.St} {H : Hp} {Q : VK} (hi : IsTy X.K N t1) (hs : OpM X.K N r t1 l t3 f) (h : TX c ds t3 (e2 f xo xa) σ H Q) : tBM X.K N r (TX c ds t1 xo) (TAX c ds l xa) σ H Q := by
  obtain ⟨m, st, env, p⟩ := h
  refine ⟨m, st, env, (Post.bnd.mp p).imp fun a s1 p v m1 H1 w1 a1 r1 => ⟨hi a v m1 H1 r1 w1.mh, m1, s1, env.go w1 a1, (Post.bnd.mp p).imp fun b s2 p vs m2 H2 w2 a2 r2 => ?_⟩⟩
  obtain ⟨g, e, p⟩ := Post.lft.mp p
  exact hs a b g v vs m2 H2 Q (t1.mono w2.mm r1) r2 w2.mh e fun w m' H' w3 r3 => p w m' H' ((w1.trans w2).trans w3.wide) (EnvOk.ambGrow a2 w3) r3
theorem rd_m0 {N : String} {r : V → List V → Hp → VK → Prop} {t1 : Ty A} {t3 : Ty C} {f : A → Option C} {xo : MM T A} {σ : L2.St} {H : Hp} {Q : VK} (hi : IsTy X.K N t1) (hs : OpM X.K N r t1 l0 t3 (fun a _ => f a)) (h : TX c ds t3 (e1 f xo) σ H Q) : tBM0 X.K N r (TX c ds t1 xo) σ H Q := by
  obtain ⟨m, st, env, p⟩ := h
  refine ⟨m, st, env, (Post.bnd.mp p).imp fun a s1 p v m1 H1 w1 a1 r1 => ⟨hi a v m1 H1 r1 w1.mh, ?_⟩⟩
  obtain ⟨g, e, p⟩ := Post.lft.mp p
  exact hs a () g v [] m1 H1 Q r1 rfl w1.mh e fun w m' H' w3 r3 => p w m' H' (w1.trans w3.wide) (EnvOk.ambGrow a1 w3) r3
theorem x_m {call : Expr} {N : String} {r : V → List V → Hp → VK → Prop} {t1 : Ty A} {l : LTy B} {t3 : Ty C} {f : A → B → Option C} {xo : MM T A} {xa : MM T B} (hi : IsTy X.K N t1) (hs : OpM X.K N r t1 l t3 f) (he : PE X call (tBM X.K N r (TX c ds t1 xo) (TAX c ds l xa))) : PE X call (TX c ds t3 (e2 f xo xa)) := PE.imp he fun _ _ _ h => rd_m hi hs h
theorem x_m0 {call : Expr} {N : String} {r : V → List V → Hp → VK → Prop} {t1 : Ty A} {t3 : Ty C} {f : A → Option C} {xo : MM T A} (hi : IsTy X.K N t1) (hs : OpM X.K N r t1 l0 t3 (fun a _ => f a)) (he : PE X call (tBM0 X.K N r (TX c ds t1 xo))) : PE X call (TX c ds t3 (e1 f xo)) := PE.imp he fun _ _ _ h => rd_m0 hi hs h
def oStarts (a b : Str) : Option Bool := some (Txt.startswith a b)
def oStarts3 (a : Str) (b : Str × Int) : Option Bool := some (Txt.startswith3 a b.1 b.2)
def oAlnum (a : Str) : Option Bool := some (Txt.isalnum a)
theorem sp_starts {K : PySem.W.Frag} : OpM K "str" (fun x xs H Q => ∃ a b, x = .str a ∧ xs = [.str b] ∧ Q (.bl (Txt.startswith a b)) H) tStr (l1 tStr) tBool oStarts := fun a b g v vs m H Q r1 ⟨u, ev, r2⟩ hm e q => by
  cases rep_str r1; cases rep_str r2; subst ev; cases e
  exact ⟨a, b, rfl, rfl, q _ m H (.refl hm) rfl⟩
theorem sp_starts3 {K : PySem.W.Frag} : OpM K "str" (fun x xs H Q => ∃ (a b : Str) (i : Int), x = .str a ∧ xs = [.str b, .int i] ∧ Q (.bl (Txt.startswith3 a b i)) H) tStr (lc tStr (l1 tInt)) tBool oStarts3 := fun a b g v vs m H Q r1 ⟨u, ws, ev, r2, u2, ew, r3⟩ hm e q => by
  cases rep_str r1; cases rep_str r2; cases rep_int r3; subst ew ev; cases e
  exact ⟨a, b.1, b.2, rfl, rfl, q _ m H (.refl hm) rfl⟩
theorem sp_alnum {K : PySem.W.Frag} : OpM K "str" (fun x xs H Q => ∃ a, x = .str a ∧ xs = [] ∧ True ∧ Q (.bl (Txt.isalnum a)) H) tStr l0 tBool (fun a _ => oAlnum a) := fun a b g v vs m H Q r1 r2 hm e q => by
  cases rep_str r1; cases e
  exact ⟨a, rfl, r2, trivial, q _ m H (.refl hm) rfl⟩
def oJoin (a : Str) (ys : List Str) : Option Str := if (ys.map (·.length)).sum + ys.length * a.length ≤ 100000 then some (Txt.join a ys) else none
theorem sp_join {K : PySem.W.Frag} : OpM K "str" (fun x xs H Q => ∃ a p, ∃ ys : List Str, x = .str a ∧ xs = [.ref p] ∧ (SqL K H p (ys.map V.str) ∨ SqT K H p (ys.map V.str)) ∧ (ys.map (·.length)).sum + ys.length * a.length ≤ 16777216 ∧ Q (.str (Txt.join a ys)) H) tStr (l1 (tList tStr)) tStr oJoin := fun a b g v vs m H Q r1 ⟨u, ev, p, us, eu, k, r2⟩ hm e q => by
  cases rep_str r1; subst ev eu
  unfold oJoin at e
  by_cases z : (b.map (·.length)).sum + b.length * a.length ≤ 100000
  · rw [if_pos z] at e; cases e
    rw [r2.strs] at k
    exact ⟨a, p, b, rfl, rfl, .inl (.of (hm _ _ k)), by omega, q _ m H (.refl hm) rfl⟩
  · rw [if_neg z] at e; cases e
/-! ### numbers and texts -/
def strI (i : Int) : Str := toString i
def oStrI (i : Int) : Option Str := if i.natAbs.log2 < 1920 then some (strI i) else none
theorem sp_strI : OpL (fun xs H Q => ∃ i, xs = [.int i] ∧ i.natAbs.log2 < 1920 ∧ Q (.str (toString i)) H) (l1 tInt) tStr oStrI := fun a g vs m H Q ⟨v, ev, r⟩ hm e q => by
  cases rep_int r; subst ev
  unfold oStrI at e
  by_cases z : a.natAbs.log2 < 1920
  · rw [if_pos z] at e; cases e
    exact ⟨a, rfl, z, q _ m H (.refl hm) rfl⟩
  · rw [if_neg z] at e; cases e
def oIntS (a : Str) : Option Int := if a.length ≤ 640 then PySem.intText? a else none
theorem sp_intS : OpL (fun xs H Q => ∃ a n, xs = [.str a] ∧ PySem.intText? a = some n ∧ a.length ≤ 640 ∧ Q (.int n) H) (l1 tStr) tInt oIntS := fun a g vs m H Q ⟨v, ev, r⟩ hm e q => by
  cases rep_str r; subst ev
  unfold oIntS at e
  by_cases z : a.length ≤ 640
  · rw [if_pos z] at e
    exact ⟨a, g, rfl, e, z, q _ m H (.refl hm) rfl⟩
  · rw [if_neg z] at e; cases e
end
end WL

/-! WLCC: dicts by texts: get with a default, in, displays, copies, keys in order. -/
namespace WL
open PySem PySem.Spec PyProof.Rows L2
section
variable {X : Cx} {T A B F KK : Type} [DecidableEq A] [DecidableEq KK] {c : Ctx T} {ds : List Desc} {t : Ty A} {u : Ty B} {ho : List (KK × V) → HO} {enc : A → KK} {pos p2 p3 apos cpos : Pos} {e e2' ev o : Expr} {xk : MM T A} {xv : MM T B} {P : F → T → Ends → Prop} {rest : List Stmt}
/-- d.get(k, z), d a local dict -/
theorem x_getD (i : Nat) {x : Str} {xs : List (A × B)} (dk : DKind t ho enc) (hid : ∀ {kvs : List (KK × V)} {H : Hp} {a : Addr}, H a = some (ho kvs) → IsD H a) (hu : X.A.units + 1 < cLine) (he : PE X e (TX c ds t xk)) (hv1 : PE X ev (TX c ds u xv)) (hm : M2 X (.Name x p2) "get" apos e ev cpos)
    (hd : ds[i]? = some (.own (oDictK ho enc u) xs) := by rfl) (hN : X.N[i]? = some x := by rfl) (hv : Vis X.env.scope x := by first | exact Or.inl rfl | exact Or.inr (Or.inl rfl) | exact Or.inr (Or.inr rfl))
    (h1 : (x == ("__debug__" : Str)) = false := by decide) (h2 : (x == ("__classdict__" : Str)) = false := by decide) :
    PE X (.Call (.Attribute (.Name x p2) "get" apos) [e, ev] [] cpos) (TX c ds u (bnd xk fun k => bnd xv fun z => ret ((aGet xs k).getD z))) :=
  PE.imp (pe_dget2 hu (pe_var hN hv h1 h2) he hv1 hm) fun σ H Q ⟨m, st, env, p⟩ => by
    obtain ⟨v, fp, g1, q0, kvs0, ev0, ef0, kk0, r0⟩ := own_at env hd
    refine ⟨v, g1, q0, ev0, hid kk0, m, st, env, (Post.bnd.mp p).imp fun k s1 p v1 m1 H1 w1 a1 r1 => ?_⟩
    refine ⟨m1, s1, env.go w1 a1, (Post.bnd.mp p).imp fun z s2 p v2 m2 H2 w2 a2 r2 => ?_⟩
    obtain ⟨v', fp', g1', q, kvs, ev, ef, kk, r3⟩ := own_at ((env.go w1 a1).go w2 a2) hd
    rw [g1] at g1'; cases g1'
    rw [ev0] at ev; cases ev
    have g := dk.get (t.mono w2.mm r1) w2.mh kk
    rcases r3.get dk.inj k with ⟨z1, z2⟩ | ⟨b', y, z1, z2, z3⟩
    · rw [z2] at g
      rw [z1] at p
      exact ⟨none, g, p _ m2 H2 (w1.trans w2) a2 r2⟩
    · rw [z2] at g
      rw [z1] at p
      exact ⟨some y, g, p _ m2 H2 (w1.trans w2) a2 z3⟩
/-- the same, of a dict that stays -/
theorem x_getDF {xo : MM T (List (A × B))} (dk : DKind t ho enc) (hid : ∀ {kvs : List (KK × V)} {H : Hp} {a : Addr}, H a = some (ho kvs) → IsD H a) (hu : X.A.units + 1 < cLine) (hx : PE X o (TX c ds (tDictK ho enc u) xo)) (he : PE X e (TX c ds t xk)) (hv1 : PE X ev (TX c ds u xv)) (hm : M2 X o "get" apos e ev cpos) :
    PE X (.Call (.Attribute o "get" apos) [e, ev] [] cpos) (TX c ds u (bnd xo fun xs => bnd xk fun k => bnd xv fun z => ret ((aGet xs k).getD z))) :=
  PE.imp (pe_dget2 hu hx he hv1 hm) fun σ H Q ⟨m, st, env, p⟩ => by
    refine ⟨m, st, env, (Post.bnd.mp p).imp fun xs s0 p v0 m0 H0 w0 a0 ⟨q, kvs, ev, kk, r⟩ => ?_⟩
    refine ⟨q, ev, hid (w0.mh _ _ kk), m0, s0, env.go w0 a0, (Post.bnd.mp p).imp fun k s1 p v1 m1 H1 w1 a1 r1 => ?_⟩
    refine ⟨m1, s1, (env.go w0 a0).go w1 a1, (Post.bnd.mp p).imp fun z s2 p v2 m2 H2 w2 a2 r2 => ?_⟩
    have r' := r.mono (w1.mm.trans w2.mm)
    have g := dk.get (t.mono w2.mm r1) w2.mh (w2.mh _ _ (w2.mm _ _ (w1.mm _ _ kk)))
    rcases r'.get dk.inj k with ⟨z1, z2⟩ | ⟨b', y, z1, z2, z3⟩
    · rw [z2] at g
      rw [z1] at p
      exact ⟨none, g, p _ m2 H2 ((w0.trans w1).trans w2) a2 r2⟩
    · rw [z2] at g
      rw [z1] at p
      exact ⟨some y, g, p _ m2 H2 ((w0.trans w1).trans w2) a2 z3⟩
/-- k in d, d a dict that stays -/
theorem rd_inKF {r : Bool} {σ : L2.St} {H : Hp} {Q : VK} {xo : MM T (List (A × B))} (dk : DKind t ho enc) (q : TX c ds tBool (e2 (fun a xs => some (if r then !aHas xs a else aHas xs a)) xk xo) σ H Q) :
    TX c ds t xk σ H fun y H1 => TX c ds (tDictK ho enc u) xo σ H1 fun x H2 => ∃ a o, x = .ref a ∧ DGet H2 a y o ∧ Q (.bl (if r then !o.isSome else o.isSome)) H2 := by
  obtain ⟨m, st, env, p⟩ := q
  refine ⟨m, st, env, (Post.bnd.mp p).imp fun a s1 p v1 m1 H1 w1 a1 r1 => ?_⟩
  refine ⟨m1, s1, env.go w1 a1, (Post.bnd.mp p).imp fun xs s2 p v2 m2 H2 w2 a2 ⟨q, kvs, ev, kk, r2⟩ => ?_⟩
  obtain ⟨k, hk, p⟩ := Post.lft.mp p
  cases hk
  refine ⟨q, _, ev, dk.get (t.mono w2.mm r1) w2.mh (w2.mh _ _ kk), ?_⟩
  rw [r2.isSome dk.inj a]
  exact p _ m2 H2 (w1.trans w2) a2 rfl
theorem x_inKF {xo : MM T (List (A × B))} (dk : DKind t ho enc) (hu : X.A.units + 1 < cLine) (he : PE X e (TX c ds t xk)) (hx : PE X o (TX c ds (tDictK ho enc u) xo)) (hm : behindInMarks .In o = false := by first | exact nomark _ | rfl) :
    PE X (.Compare e [.In] [o] pos) (TX c ds tBool (e2 (fun a xs => some (aHas xs a)) xk xo)) := PE.imp (pe_cmp (pc_din hu he hx) hm) fun _ _ _ q => rd_inKF (r := false) dk q
theorem x_ninKF {xo : MM T (List (A × B))} (dk : DKind t ho enc) (hu : X.A.units + 1 < cLine) (he : PE X e (TX c ds t xk)) (hx : PE X o (TX c ds (tDictK ho enc u) xo)) (hm : behindInMarks .NotIn o = false := by first | exact nomark _ | rfl) :
    PE X (.Compare e [.NotIn] [o] pos) (TX c ds tBool (e2 (fun a xs => some (!aHas xs a)) xk xo)) := PE.imp (pe_cmp (pc_dnotin hu he hx) hm) fun _ _ _ q => rd_inKF (r := true) dk q
theorem t_inKF {xo : MM T (List (A × B))} (dk : DKind t ho enc) (hu : X.A.units + 1 < cLine) (he : PE X e (TX c ds t xk)) (hx : PE X o (TX c ds (tDictK ho enc u) xo)) (hm : behindInMarks .In o = false := by first | exact nomark _ | rfl) :
    PT X (.Compare e [.In] [o] pos) (TTX c ds (e2 (fun a xs => some (aHas xs a)) xk xo)) := PT.imp (pt_cmp (pc_din hu he hx) hm) fun σ H Q ⟨m, st, env, p⟩ => by
  have q : TX c ds tBool (e2 (fun a xs => some (aHas xs a)) xk xo) σ H (fun x H' => ∃ k, x = .bl k ∧ Q k H') := ⟨m, st, env, p.imp fun a s1 p v m1 H1 w1 a1 r1 => ⟨a, r1, p m1 H1 w1 a1⟩⟩
  exact rd_inKF (r := false) dk q
theorem t_ninKF {xo : MM T (List (A × B))} (dk : DKind t ho enc) (hu : X.A.units + 1 < cLine) (he : PE X e (TX c ds t xk)) (hx : PE X o (TX c ds (tDictK ho enc u) xo)) (hm : behindInMarks .NotIn o = false := by first | exact nomark _ | rfl) :
    PT X (.Compare e [.NotIn] [o] pos) (TTX c ds (e2 (fun a xs => some (!aHas xs a)) xk xo)) := PT.imp (pt_cmp (pc_dnotin hu he hx) hm) fun σ H Q ⟨m, st, env, p⟩ => by
  have q : TX c ds tBool (e2 (fun a xs => some (!aHas xs a)) xk xo) σ H (fun x H' => ∃ k, x = .bl k ∧ Q k H') := ⟨m, st, env, p.imp fun a s1 p v m1 H1 w1 a1 r1 => ⟨a, r1, p m1 H1 w1 a1⟩⟩
  exact rd_inKF (r := true) dk q
theorem x_inK (i : Nat) {x : Str} {xs : List (A × B)} (dk : DKind t ho enc) (hu : X.A.units + 1 < cLine) (he : PE X e (TX c ds t xk)) (hd : ds[i]? = some (.own (oDictK ho enc u) xs) := by rfl) (hN : X.N[i]? = some x := by rfl) (hv : Vis X.env.scope x := by first | exact Or.inl rfl | exact Or.inr (Or.inl rfl) | exact Or.inr (Or.inr rfl))
    (h1 : (x == ("__debug__" : Str)) = false := by decide) (h2 : (x == ("__classdict__" : Str)) = false := by decide) (hm : behindInMarks .In (.Name x p2) = false := by first | exact nomark _ | rfl) :
    PE X (.Compare e [.In] [.Name x p2] pos) (TX c ds tBool (e1 (fun a => some (aHas xs a)) xk)) := PE.imp (pe_cmp (pc_din hu he (pe_var hN hv h1 h2)) hm) fun _ _ _ q => rd_inK (r := false) i dk hd q
theorem x_ninK (i : Nat) {x : Str} {xs : List (A × B)} (dk : DKind t ho enc) (hu : X.A.units + 1 < cLine) (he : PE X e (TX c ds t xk)) (hd : ds[i]? = some (.own (oDictK ho enc u) xs) := by rfl) (hN : X.N[i]? = some x := by rfl) (hv : Vis X.env.scope x := by first | exact Or.inl rfl | exact Or.inr (Or.inl rfl) | exact Or.inr (Or.inr rfl))
    (h1 : (x == ("__debug__" : Str)) = false := by decide) (h2 : (x == ("__classdict__" : Str)) = false := by decide) (hm : behindInMarks .NotIn (.Name x p2) = false := by first | exact nomark _ | rfl) :
    PE X (.Compare e [.NotIn] [.Name x p2] pos) (TX c ds tBool (e1 (fun a => some (!aHas xs a)) xk)) := PE.imp (pe_cmp (pc_dnotin hu he (pe_var hN hv h1 h2)) hm) fun _ _ _ q => rd_inK (r := true) i dk hd q
end
/-! ### displays -/
def mergeA {A B : Type} [DecidableEq A] (ps : List (A × B)) : List (A × B) := ps.foldl (fun acc kv => aPut acc kv.1 kv.2) []
theorem DRep.merge {A B : Type} [DecidableEq A] {u : Ty B} {enc : A → Key} (hi : ∀ a b, enc a = enc b → a = b) {m : Hp} {ps : List (A × B)} {kvs : List (Key × V)} (r : DRep enc u m ps kvs) : ∀ {acc : List (A × B)} {bcc : List (Key × V)}, DRep enc u m acc bcc → DRep enc u m (ps.foldl (fun acc kv => aPut acc kv.1 kv.2) acc) (L2.mergeK bcc kvs) := by
  induction r with
  | nil => intro acc bcc q; exact q
  | cons x _ ih => intro acc bcc q; exact ih (q.put hi _ x)
structure PPD {T A B : Type} [DecidableEq A] (X : Cx) (c : Ctx T) (ds : List Desc) (u : Ty B) (enc : A → Key) (pos : Pos) (keys : List (Option Expr)) (values : List Expr) (trs : List (TE × TE)) (x : MM T (List (A × B))) : Prop where
  pps : PPs X pos keys values trs
  rd : ∀ (σ : L2.St) (H m : Hp) (st : T) (Q : List (V × V) → Hp → Prop), EnvOk c σ m H ds st → Post (x st) (fun ps s1 => ∀ kvs m' H', WStep c.afp m H m' H' → c.amb s1 H' m' → DRep enc u m' ps kvs → Q (kvs.map fun kv => (kV kv.1, kv.2)) H') c.err → tPairs trs σ H Q
section
variable {X : Cx} {T A B : Type} [DecidableEq A] {c : Ctx T} {ds : List Desc} {t : Ty A} {u : Ty B} {enc : A → Key} {pos : Pos} {e ev : Expr} {xk : MM T A} {xv : MM T B} {keys : List (Option Expr)} {values : List Expr} {trs : List (TE × TE)}
theorem ppd_nil : PPD X c ds u enc pos [] [] [] (ret ([] : List (A × B))) := ⟨pps_nil, fun σ H m st Q env p => p [] m H (.refl env.mh) env.amb .nil⟩
theorem ppd_cons {r : MM T (List (A × B))} (hkv : ∀ a v m, t.rep a v m → v = kV (enc a)) (hk : PE X e (TX c ds t xk)) (hv : PE X ev (TX c ds u xv)) (hr : PPD X c ds u enc pos keys values trs r) :
    PPD X c ds u enc pos (some e :: keys) (ev :: values) ((TX c ds t xk, TX c ds u xv) :: trs) (bnd xk fun a => bnd xv fun b => bnd r fun ps => ret ((a, b) :: ps)) := ⟨pps_cons hk hv hr.pps, fun σ H m st Q env p => by
  refine ⟨m, st, env, (Post.bnd.mp p).imp fun a s1 p v1 m1 H1 w1 a1 r1 => ?_⟩
  refine ⟨m1, s1, env.go w1 a1, (Post.bnd.mp p).imp fun b s2 p v2 m2 H2 w2 a2 r2 => ?_⟩
  refine hr.rd σ H2 m2 s2 _ ((env.go w1 a1).go w2 a2) ((Post.bnd.mp p).imp fun ps s3 p kvs m3 H3 w3 a3 r3 => ?_)
  have := p ((enc a, v2) :: kvs) m3 H3 ((w1.trans w2).trans w3) a3 (.cons (u.mono w3.mm r2) r3)
  rw [List.map_cons, ← hkv a v1 m1 r1] at this
  exact this⟩
/-- {k: v, ..} -/
theorem x_dispP {r : MM T (List (A × B))} (hi : ∀ a b : A, enc a = enc b → a = b) (hr : PPD X c ds u enc pos keys values trs r) (hall : keys.all (·.isSome) = true := by rfl) (hl : keys.length = values.length := by rfl) (h0 : keys ≠ [] := by simp) (h15 : keys.length ≤ 15 := by decide) :
    PE X (.Dict keys values pos) (TXO c ds (oDictK HO.dK enc u) (bnd r fun ps => bnd (lft (if ps.length ≤ 15 then some (mergeA ps) else none)) fun d => ret d)) :=
  PE.imp (pe_disp hr.pps hall hl h0 h15) fun σ H Q ⟨m, st, env, p⟩ q hq => by
    have w0 : WStep [] m H m (upd H q (.dK [])) := .own env.mh hq
    refine hr.rd σ _ m st _ (env.grow w0) ((Post.bnd.mp p).imp fun ps s1 p kvs m1 H1 w1 a1 r1 => ?_)
    have mq : m q = none := env.mh.free hq
    have nq : q ∉ c.afp := fun z => c.ambD env.amb q z hq
    have k1 : upd H q (.dK []) q = some (.dK []) := upd_same
    have k2 := w1.hh q _ nq k1
    have hmq : m1 q = none := w1.ow q mq (by rw [k1]; exact fun z => nomatch z)
    obtain ⟨z, hz, p⟩ := Post.lft.mp (Post.bnd.mp p)
    by_cases hl15 : ps.length ≤ 15
    rotate_left
    · rw [if_neg hl15] at hz; cases hz
    rw [if_pos hl15] at hz; cases hz
    refine ⟨k2, kvs, rfl, by rw [← r1.length]; exact hl15, ?_⟩
    have w3 : WStep c.afp m H m1 (upd H1 q (.dK (L2.mergeK [] kvs))) := by
      have w12 := (w0.wide (S := c.afp)).trans w1
      refine ⟨w12.mm, w12.mh.wr hmq, fun y o hy ey => ?_, w12.ow, fun y hy => ?_⟩
      · rw [upd_ne (ne_of_none ey hq)]; exact w12.hh y o hy ey
      · by_cases z : y = q
        · subst z; rw [upd_same]; exact fun q => nomatch q
        · rw [upd_ne z]; exact w12.dm y hy
    exact p (.ref q) [q] m1 _ w3 (c.ambF (fun y hy => upd_ne fun z => nq (by rw [← z]; exact hy)) (.refl m1) a1) (fun y hy => by obtain rfl := List.mem_singleton.mp hy; exact ⟨hq, hmq⟩) ⟨q, _, rfl, rfl, upd_same, DRep.merge hi r1 .nil⟩
end
/-! ### dict(d) -/
theorem sp_dictD {A B : Type} [DecidableEq A] {u : Ty B} {enc : A → Key} : OpLO (fun xs H Q => ∃ (a : Addr) (kvs : List (Key × V)), xs = [.ref a] ∧ Rd H a (.dK kvs) ∧ ∀ p, H p = none → Q (.ref p) (upd H p (.dK kvs))) (l1 (tDictK HO.dK enc u)) (oDictK HO.dK enc u) (fun xs => some xs) := fun a g vs m H Q ⟨v, ev, p, kvs, e1, k, r⟩ hm e q => by
  cases e
  subst ev e1
  exact ⟨p, kvs, rfl, .inl (hm _ _ k), fun y hy => q (.ref y) [y] m _ (.own hm hy) (fun z hz => by obtain rfl := List.mem_singleton.mp hz; exact ⟨hy, hm.free hy⟩) ⟨y, kvs, rfl, rfl, upd_same, r⟩⟩
/-! ### texts in order -/
def leS (a b : Str) : Prop := ltS b a = false
theorem Str.ext' {a b : Str} (h : a.cps.toList = b.cps.toList) : a = b := by
  obtain ⟨x⟩ := a
  obtain ⟨y⟩ := b
  have : x = y := Array.toList_inj.mp h
  rw [this]
theorem ltL_irrefl : ∀ l : List Nat, ¬ l < l := fun l => List.lt_irrefl l
theorem leS_refl (a : Str) : leS a a := decide_eq_false (List.lt_irrefl _)
theorem leS_total (a b : Str) : leS a b ∨ leS b a := by
  unfold leS ltS
  by_cases h : b.cps.toList < a.cps.toList
  · exact .inr (decide_eq_false fun z => List.lt_irrefl _ (List.lt_trans h z))
  · exact .inl (decide_eq_false h)
theorem leS_trans {a b c : Str} (h : leS a b) (k : leS b c) : leS a c := by
  unfold leS ltS at *
  have h := of_decide_eq_false h
  have k := of_decide_eq_false k
  exact decide_eq_false fun z => (List.not_lt.mp h |> fun h1 => List.not_lt.mp k |> fun k1 => List.not_lt.mpr (List.le_trans h1 k1)) z
theorem leS_antisymm {a b : Str} (h : leS a b) (k : leS b a) : a = b := by
  unfold leS ltS at *
  have h := of_decide_eq_false h
  have k := of_decide_eq_false k
  exact Str.ext' (List.le_antisymm (List.not_lt.mp h) (List.not_lt.mp k))
instance (a b : Str) : Decidable (leS a b) := by unfold leS; exact inferInstance
def insS (k : Str) : List Str → List Str
  | [] => [k]
  | x :: r => if leS k x then k :: x :: r else x :: insS k r
/-- the texts in ascending order -/
def srtS (ys : List Str) : List Str := ys.foldr insS []
theorem insS_perm (k : Str) : ∀ l : List Str, (insS k l).Perm (k :: l)
  | [] => .refl _
  | x :: r => by
    unfold insS
    split
    · exact .refl _
    · exact (List.Perm.cons x (insS_perm k r)).trans (List.Perm.swap k x r)
theorem srtS_perm : ∀ l : List Str, (srtS l).Perm l
  | [] => .refl _
  | x :: r => (insS_perm x (srtS r)).trans (List.Perm.cons x (srtS_perm r))
theorem insS_up (k : Str) : ∀ l : List Str, l.Pairwise leS → (insS k l).Pairwise leS
  | [], _ => by unfold insS; simp
  | x :: r, h => by
    obtain ⟨h1, h2⟩ := List.pairwise_cons.mp h
    unfold insS
    split
    · rename_i q
      refine List.pairwise_cons.mpr ⟨fun y hy => ?_, h⟩
      rcases List.mem_cons.mp hy with z | z
      · rw [z]; exact q
      · exact leS_trans q (h1 y z)
    · rename_i q
      refine List.pairwise_cons.mpr ⟨fun y hy => ?_, insS_up k r h2⟩
      rcases List.mem_cons.mp ((insS_perm k r).mem_iff.mp hy) with z | z
      · rw [z]; exact (leS_total k x).resolve_left q
      · exact h1 y z
theorem srtS_up : ∀ l : List Str, (srtS l).Pairwise leS
  | [] => .nil
  | x :: r => insS_up x _ (srtS_up r)
theorem permS_unique : ∀ {a b : List Str}, a.Perm b → a.Pairwise leS → b.Pairwise leS → a = b
  | [], b, p, _, _ => (List.nil_perm.mp p).symm
  | x :: a, [], p, _, _ => by have := p.length_eq; simp at this
  | x :: a, y :: b, p, ha, hb => by
    obtain ⟨a1, a2⟩ := List.pairwise_cons.mp ha
    obtain ⟨b1, b2⟩ := List.pairwise_cons.mp hb
    have e : x = y := by
      rcases List.mem_cons.mp (p.mem_iff.mp List.mem_cons_self) with z | z
      · exact z
      · rcases List.mem_cons.mp (p.mem_iff.mpr (List.mem_cons_self (a := y) (l := b))) with z2 | z2
        · exact z2.symm
        · exact leS_antisymm (a1 y z2) (b1 x z)
    subst e
    rw [permS_unique (List.Perm.cons_inv p) a2 b2]
theorem ltCps_dec : ∀ a b : List Nat, ltCps a b = decide (a < b) := by
  intro a
  induction a with
  | nil =>
    intro b
    cases b with
    | nil => rfl
    | cons y b => simp [ltCps]
  | cons x a ih =>
    intro b
    cases b with
    | nil => simp [ltCps]
    | cons y b =>
      simp only [ltCps, ih]
      rw [Bool.eq_iff_iff]
      simp [List.cons_lt_cons_iff]
theorem rising_up : ∀ (l : List Str) (p : Str), risingS p l = true → (p :: l).Pairwise leS
  | [], p, _ => by simp
  | x :: r, p, h => by
    unfold risingS at h
    obtain ⟨h1, h2⟩ := Bool.and_eq_true_iff.mp h
    have ih := rising_up r x h2
    obtain ⟨i1, i2⟩ := List.pairwise_cons.mp ih
    have le : leS p x := by
      unfold leS ltS
      rw [ltCps_dec] at h1
      simpa using h1
    refine List.pairwise_cons.mpr ⟨fun y hy => ?_, ih⟩
    rcases List.mem_cons.mp hy with z | z
    · rw [z]; exact le
    · exact leS_trans le (i1 y z)
theorem sorted_up : ∀ (l : List Str), sortedS l = true → l.Pairwise leS
  | [], _ => .nil
  | x :: r, h => rising_up r x h
theorem DRep.keysS {B : Type} {u : Ty B} {m : Hp} {xs : List (Str × B)} {kvs : List (Key × V)} (r : DRep (Sum.inr : Str → Key) u m xs kvs) : kvs.map (·.1) = (xs.map (·.1)).map Sum.inr := by
  induction r with
  | nil => rfl
  | cons _ _ ih => rw [List.map_cons, List.map_cons, List.map_cons, ih]
theorem repsS (m : Hp) : ∀ xs : List Str, Reps tStr m xs (xs.map .str)
  | [] => .nil
  | _ :: xs => .cons rfl (repsS m xs)
/-- sorted(d), d by texts -/
def oSortS {B : Type} (xs : List (Str × B)) : Option (List Str) := if xs.length < 64 then some (srtS (xs.map (·.1))) else none
theorem sp_sortS {B : Type} {u : Ty B} : OpLO (fun xs H Q => ∃ (a : Addr) (kvs : List (Key × V)) (ks : List Str), xs = [.ref a] ∧ Rd H a (.dK kvs) ∧ kvs.map (·.1) = ks.map Sum.inr ∧ ks.length < 64 ∧
    ∀ ys p, ys.Perm ks → sortedS ys = true → H p = none → Q (.ref p) (upd H p (.lst (ys.map V.str)))) (l1 (tDictK HO.dK (Sum.inr : Str → Key) u)) (oList tStr) oSortS := fun a g vs m H Q ⟨v, ev, p, kvs, e1, k, r⟩ hm e q => by
  unfold oSortS at e
  by_cases z : a.length < 64
  · rw [if_pos z] at e
    cases e
    subst ev e1
    refine ⟨p, kvs, a.map (·.1), rfl, .inl (hm _ _ k), r.keysS, by rw [List.length_map]; exact z, fun ys y hp hs hy => ?_⟩
    rw [permS_unique (hp.trans (srtS_perm _).symm) (sorted_up _ hs) (srtS_up _)]
    exact newList hm (repsS _ _) hy q
  · rw [if_neg z] at e; cases e
end WL

/-! WLX: own exception classes whose __init__ says super().__init__(str(x)); self.f = x. -/
namespace WL
open PySem PySem.Spec PyProof.Rows L2

/-- what the written part says of such a class: its __init__ at f with the code cdv, the cell of __class__ at cc -/
structure SupC (P : Program) (K : PySem.W.Frag) (C cc : Addr) (fl : Str) (cdv : Value) : Prop where
  T : OexC K C
  no : PySem.W.findIn K (.ref C) fl = some none
  si : PySem.W.ks_superIn K C C "__init__" = some (some (.builtin "ValueError.__init__"))
  sub : PySem.W.subIn K (.ref C) (.type "ValueError") = some true
  subC : PySem.W.subIn K (.ref C) (.ref C) = some true
  any : PySem.W.nsIn K cStatics "thirdparty.any" = some none
  cell : ∃ o, K.lookup cc = some o ∧ o.data = .cell (some (.ref C))
  code : ∃ c oc vs file tf, cdv = .ref c ∧ K.lookup c = some oc ∧ oc.data = .fields vs ∧ vs[2]? = some (.str file tf) ∧ ((P.main.file : Str) == file) = true
  top : (P.main.scope.names.lookup ("super" : Str)).isSome = false
/-- what it promises -/
def SpX (C : Addr) (fl : Str) : Sp := fun vs H Q E => ∃ a v, vs = [.ref a, v] ∧ ((∃ x, v = .str x) ∨ ∃ i : Int, v = .int i ∧ i.natAbs.log2 < 1920) ∧ H a = some (exo a C none) ∧ ∀ dx, H dx = none → dx ≠ a → Q .non (upd (upd H dx (exd dx [(fl, v)])) a (exo a C (some dx)))
/-- the setting of its body -/
def sX (CX : CXT) (P : Program) (w : World) (K : PySem.W.Frag) (mg : Str → Option Value) (base : Heap) (N : List Str) (qual : Str) (scope : Scope) (f : Addr) (cd : Value) (cc : Addr) (A : Around) (outer : List Env) (s : Shared) (H : Hp) (E : XK) : Cx where
  prog := P
  w := w
  K := K
  mg := mg
  base := base
  A := A.deeper (PySem.W.ksEnv qual scope s.heap.objs.size f cd cc)
  N := N
  s_0 := s
  H_0 := H
  env := PySem.W.ksEnv qual scope s.heap.objs.size f cd cc
  outer := outer
  stack := PySem.W.ksEnv qual scope s.heap.objs.size f cd cc :: outer
  ex := []
  calm := true
  fn := fun _ => false
  pn := []
  xe := fun e s' => wpAny (model P w) (A.deeper (PySem.W.ksEnv qual scope s.heap.objs.size f cd cc)) (leaving (PySem.W.ksEnv qual scope s.heap.objs.size f cd cc) e) (fun _ s'' => CX outer H s E e s'') (fun e' s'' => CX outer H s E e' s'') s'
theorem sX_start {CX : CXT} {P : Program} {w : World} {K : PySem.W.Frag} {mg : Str → Option Value} {base : Heap} {px qual : Str} {scope : Scope} {f : Addr} {cd : Value} {C cc : Addr} {A : Around} {outer : List Env} {s : Shared} {H : Hp} {E : XK} {a : Addr} {v : V} {u : Value} {h1 : Heap} {t1 : Nat}
    (hd : A.handled = none) (e0 : Env0 P w K mg base A outer s H) (r : RelV v u) (hc : ∃ o, K.lookup cc = some o ∧ o.data = .cell (some (.ref C)))
    (hk : scope.kind = .function) (n0 : scope.names.lookup ("self" : Str) = some .local) (n1 : scope.names.lookup px = some .local) (n2 : scope.names.lookup ("__class__" : Str) = some .free) (nf : ∀ y ∈ scope.names, y.2 = .cell ∨ y.2 = .free → y.1 = "__class__") (hp : ¬ px = "self")
    (hns : h1.Ns s.heap.objs.size (fun y => [(("self" : Str), Value.ref a), (px, u)].reverse.lookup y)) (kk : ∀ b o, s.heap.get? b = some o → h1.get? b = some o) :
    Inv (sX CX P w K mg base ["self", px, "__class__"] qual scope f cd cc A outer s H E) [] [some (.ref a), some v, some (.ref C)] H { s with heap := h1, toks := t1 } := by
  obtain ⟨oc, lc, dc⟩ := hc
  have gc : base.get? cc = some oc := e0.mod.kin _ _ lc
  have gs := (e0.bs _ _ gc).1
  have hcell : h1.IsCell cc (some (.ref C)) := ⟨oc, kk _ _ gs, dc⟩
  have cl : ∀ y c, (PySem.W.ksEnv qual scope s.heap.objs.size f cd cc).cells.lookup y = some c → y = "__class__" ∧ c = cc := fun y c h => by
    have h : (match y == ("__class__" : Str) with
      | true => some cc
      | false => none) = some c := h
    cases e : (y == ("__class__" : Str)) with
    | true => rw [e] at h; exact ⟨eq_of_beq e, (Option.some.inj h).symm⟩
    | false => rw [e] at h; cases h
  have noA : ∀ b : Addr, b ∉ (sX CX P w K mg base ["self", px, "__class__"] qual scope f cd cc A outer s H E).ex := fun b z => absurd (show b ∈ ([] : List Addr) from z) (by simp)
  refine ⟨⟨e0.mod, hk, rfl, rfl, Nat.le_refl _, fun y z c h1 h2 => ?_, fun y hy => ?_, fun y c h => (nomatch h), fun _ => hd, Around.frames_deeper e0.frames, .inr ⟨rfl, rfl⟩, fun b z => absurd z (noA b), e0.bs, e0.bsz, fun b _ _ => noA b, fun b z => absurd z (noA b), e0.funs, e0.frf⟩,
    rfl, e0.bare, Un.kept kk, ⟨_, hns, fun i y x g1 g2 g3 => ?_⟩, fun y c h => ?_, e0.hok.fresh (Nat.le_refl _), fun y c h => ?_, fun p hp => absurd (show p ∈ ([] : List (Addr × Obj)) from hp) (by simp), e0.hok.kept kk, rfl⟩
  · rw [(cl y c h1).1, (cl z c h2).1]
  · have hy : scope.names.lookup y = some .cell ∨ scope.names.lookup y = some .free := hy
    have : y = "__class__" := by
      rcases hy with hy | hy
      · exact nf _ (PySem.mem_of_lookup hy) (.inl rfl)
      · exact nf _ (PySem.mem_of_lookup hy) (.inr rfl)
    rw [this]
    exact ⟨cc, rfl⟩
  · match i, g1, g2 with
    | 0, g1, g2 =>
      have g1 : ("self" : Str) = y := Option.some.inj g1
      have g2 : V.ref a = x := Option.some.inj (Option.some.inj g2)
      subst g1 g2
      refine ⟨.ref a, rfl, .inl ⟨n0, ?_⟩⟩
      have : (("self" : Str) == px) = false := beq_eq_false_iff_ne.mpr fun z => hp z.symm
      simp [List.lookup, this]
    | 1, g1, g2 =>
      have g1 : px = y := Option.some.inj g1
      have g2 : v = x := Option.some.inj (Option.some.inj g2)
      subst g1 g2
      exact ⟨u, r, .inl ⟨n1, by simp [List.lookup]⟩⟩
    | 2, g1, g2 =>
      have g1 : ("__class__" : Str) = y := Option.some.inj g1
      have g2 : V.ref C = x := Option.some.inj (Option.some.inj g2)
      subst g1 g2
      exact ⟨.ref C, rfl, .inr ⟨.inr n2, cc, rfl, hcell⟩⟩
    | i + 3, g1, g2 => simp at g2
  · obtain ⟨rfl, rfl⟩ := cl y c h
    exact ⟨_, hcell⟩
  · obtain ⟨rfl, rfl⟩ := cl y c h
    exact (e0.bs _ _ gc).2
/-- str(x) of what such an exception takes -/
def rStr2 : List V → Hp → VK → Prop := fun xs H Q => ∃ v, xs = [v] ∧ (((∃ x, v = .str x) ∨ ∃ i : Int, v = .int i ∧ i.natAbs.log2 < 1920)) ∧ ∀ x, Q (.str x) H
theorem call_str2 {X : Cx} : CallR X (.type "str") rStr2 := fun pins s σ H xs us Q I r ⟨v, e, h, q⟩ => by
  rcases h with ⟨x, rfl⟩ | ⟨i, rfl, hi⟩
  · exact SkE.call_str_str pins s σ H xs us Q I r ⟨x, e, q x⟩
  · exact call_str_int pins s σ H xs us Q I r ⟨i, e, hi, q _⟩
section
variable {P : Program} {w : World} {K : PySem.W.Frag} {mg : Str → Option Value} {base : Heap} {CX : CXT}
theorem fn_sup {name qual px fl : Str} {params : Arguments} {scope : Scope} {body : List Stmt} {dV kV doc pm cdv ct oc : Value} {an od : Option Addr} {osl : Array (Option Value)} {f C cc : Addr} {p0 p1 p2 p3 p4 p5 p6 p7 p8 p9 p10 p11 : Pos} {ar : Arg}
    (S : SupC P K C cc fl cdv) (lk : K.lookup f = some ⟨oc, od, .func (PySem.W.ksFn name qual params body scope dV kV doc pm an cdv ct cc), osl⟩) (hcd : PySem.W.codeIn K cdv qual = true)
    (hb : body = [.Expr (.Call (.Attribute (.Call (.Name "super" p0) [] [] p1) "__init__" p2) [.Call (.Name "str" p3) [.Name px p4] [] p5] [] p6) p7, .Assign [.Attribute (.Name "self" p8) fl p9] (.Name px p10) p11])
    (hp : (params.posonlyargs ++ params.args).head? = some ar) (ha : ar.arg = "self") (mS : mg "super" = none) (mT : mg "str" = none)
    (hk : scope.kind = .function) (n0 : scope.names.lookup ("self" : Str) = some .local) (n1 : scope.names.lookup px = some .local) (n2 : scope.names.lookup ("__class__" : Str) = some .free) (n3 : scope.names.lookup ("super" : Str) = some .globalImplicit) (n4 : scope.names.lookup ("str" : Str) = some .globalImplicit)
    (nf : ∀ y ∈ scope.names, y.2 = .cell ∨ y.2 = .free → y.1 = "__class__") (nc : ∀ y ∈ scope.names, y.2 ≠ .cell) (hpx : ¬ px = "self") (hpd : (px == ("__debug__" : Str)) = false) (hpc : (px == ("__classdict__" : Str)) = false) {pl : Addr → Sem Bool}
    (hev : ∀ L, eval (.Call (.Attribute (.Call (.Name "super" p0) [] [] p1) "__init__" p2) [.Call (.Name "str" p3) [.Name px p4] [] p5] [] p6) (PySem.W.ksEnv qual scope L f cdv cc) = (do
      let ov ← attributeBase (.Call (.Name "super" p0) [] [] p1) "__init__" (PySem.W.ksEnv qual scope L f cdv cc) (eval (.Call (.Name "super" p0) [] [] p1) (PySem.W.ksEnv qual scope L f cdv cc))
      standAt p2.atName
      let (g, first) ← holding [ov] (getMethod ov "__init__" (pl L))
      callWith p6 g first (backTo p6 (starEach [.Call (.Name "str" p3) [.Name px p4] [] p5] (PySem.W.ksEnv qual scope L f cdv cc))) []))
    (hsw : ∀ L, swapsWith (.Call (.Attribute (.Call (.Name "super" p0) [] [] p1) "__init__" p2) [.Call (.Name "str" p3) [.Name px p4] [] p5] [] p6) none p7.line (PySem.W.ksEnv qual scope L f cdv cc) = pure false)
    (hsw2 : ∀ L, swapsWith (.Name px p10) (some (.Attribute (.Name "self" p8) fl p9)) p11.line (PySem.W.ksEnv qual scope L f cdv cc) = pure false)
    (hco : scope.isCoroutine = false) (hgen : scope.isGenerator = false) :
    FnOk P w K mg base CX 1 f (PySem.W.ksFn name qual params body scope dV kV doc pm an cdv ct cc) ["self", px] (SpX C fl) := by
  refine ⟨fun vs H Q E ⟨a, v, e, _⟩ => by rw [e]; rfl, fun A outer s H args us vs Q E hr e0 hbd r ⟨a, v, ev, hv, he, q⟩ => ?_⟩
  subst ev
  have KX : K.In s.heap := e0.mod.kin.keeps fun b o e => (e0.bs b o e).1
  have lim : s.heap.NoLimit := e0.mod.nolimit.keeps fun b o e => (e0.bs b o e).1
  cases r with
  | @cons _ u0 _ us ra rr =>
  cases rr with
  | @cons _ u _ us rv rn =>
  cases rn
  have ra : u0 = Value.ref a := ra
  subst ra
  refine ks_codeAny_call_defAt hr.depth (KX _ _ lk) rfl lim (PySem.W.codeRec_of KX hcd) rfl hbd nc (fun y hy => ?_) (fun h1 hns kk => ?_) hco hgen hk
  · have hy : y = (("self" : Str), Value.ref a) ∨ y = (px, u) := by simpa using hy
    rcases hy with rfl | rfl
    · exact n0
    · exact n1
  obtain ⟨hp0, g, d, t, os⟩ := s
  have I := sX_start (CX := CX) (qual := qual) (f := f) (cd := cdv) (E := E) (t1 := t + 2) hr.hd e0 rv S.cell hk n0 n1 n2 nf hpx hns kk
  subst hb
  obtain ⟨ncc, occ, vcc, file, tf, ecd, lcc, dcc, fcc, hfile⟩ := S.code
  obtain ⟨nm, q', N, bs, bm, sn, sub, ab, col, dd, k0, k1, k2, k3, k5, hC, hbm⟩ := S.T.cls
  have hcl : PySem.W.clsIn K C = some { name := nm, bases := bs, mro := .ref C :: bm, ns := N, qualname := q', hasDict := true, slotNames := sn, subclasses := sub, abstract := ab, collection := col, hasDel := false } := by unfold PySem.W.clsIn; rw [hC] <;> rfl
  have up1 : ∀ b o, K.lookup b = some o → h1.get? b = some o := fun b o e => kk _ _ (KX _ _ e)
  have K1 : K.In h1 := KX.keeps kk
  have gC := up1 _ _ hC
  obtain ⟨t1, ho⟩ := exo_at I.hok he
  obtain ⟨mb, hb1, hb2⟩ := I.mod.blt
  obtain ⟨ocl, lcl, dcl⟩ := S.cell
  refine ks_wpAt_execs_cons (ks_wpAt_Expr_any (ks_wpAt_MethodCall (ks_wpAt_super_base (f := f) (ar := ar) n3 n2 (by decide) rfl (up1 _ _ lk) rfl hp ecd (up1 _ _ lcc) dcc fcc hfile S.top ?_) (hev _)) (I.quiet) (hsw _))
  refine PySem.W.ks_loadName_global hk n3 (Calls.loadGlobal_builtin (I.mod.glob.keeps I.bk) mS (hb1.keeps I.bk) ((hb2 "super" (by decide)).trans PyProof.Rows.Boot.«super») ⟨rfl, ?_⟩)
  refine wpAny_loadName_free (c := cc) hk n2 rfl ⟨_, up1 _ _ lcl, dcl⟩ ?_
  rw [ha]
  have hpx' : (("self" : Str) == px) = false := beq_eq_false_iff_ne.mpr fun z => hpx z.symm
  refine wpAny_loadName_local hk n0 hns (v := .ref a) (by simp [List.lookup, hpx']) ?_
  refine ks_wpAny_isType_cls gC rfl ⟨rfl, ?_⟩
  refine ks_wpAny_call_super gC rfl ho rfl (fun c z => nomatch z) (PySem.W.looks_subIn K1 S.subC) fun h2 hso kk2 => ?_
  have K2 : K.In h2 := K1.keeps kk2
  have hsi : PySem.W.alongIn K "__init__" (((Value.ref C :: bm).dropWhile (· != .ref C)).drop 1) = some (some (.builtin "ValueError.__init__")) := by
    have e := S.si
    unfold PySem.W.ks_superIn at e
    rw [hcl] at e
    exact e
  have hI : PySem.W.Looks (model P w) h2 (isInstance (.ref a) (.type "ValueError")) true := (PySem.W.InstAt.type (od := none) ⟨kk2 _ _ ho, rfl, rfl, trivial⟩).andThen (PySem.W.looks_subIn K2 S.sub)
  have naC : a ≠ C := fun z => by
    rw [z] at ho
    rw [gC] at ho
    cases ho
  refine PySem.W.kxs_getMethod PySem.W.kxs_ValueError hso (PySem.W.looks_opaque K2 S.any) (l₀ := .ref C :: bm) ((PySem.W.looks_clsIn K2 hcl).andThen .now) rfl K2 hsi hI naC (by decide) ?_
  have kk3 : ∀ b o, h1.get? b = some o → (h2.push (PySem.W.kxs_mw "ValueError.__init__" a)).get? b = some o := fun b o e => Heap.get?_push_of_some _ (kk2 b o e)
  have hu : (h2.push (PySem.W.kxs_mw "ValueError.__init__" a)).get? h2.objs.size = some (PySem.W.kxs_mw "ValueError.__init__" a) := Heap.get?_push_at rfl rfl
  have hsz : h1.objs.size ≤ h2.objs.size := Nat.le_of_lt (Heap.lt_size hso)
  have I3 := (I.kept (t' := t + 2 + 1) kk3).pins_of (pins' := [(h2.objs.size, PySem.W.kxs_mw "ValueError.__init__" a)]) fun p hp => by
    obtain rfl := List.mem_singleton.mp hp
    refine ⟨hu, I.hok.fresh hsz, Nat.ne_of_gt (Nat.lt_of_lt_of_le I.lt hsz), I.nofs hsz, fun v z => nomatch z⟩
  generalize hX : sX CX P w K mg base ["self", px, "__class__"] qual scope f cdv cc A outer ⟨hp0, g, d, t, os⟩ H E = X at I I3
  have eX : X = sX CX P w K mg base ["self", px, "__class__"] qual scope f cdv cc A outer ⟨hp0, g, d, t, os⟩ H E := hX.symm
  have pav : PA X [.Call (.Name "str" p3) [.Name px p4] [] p5] (tCons (tCB rStr2 (tCons (tVar 1) tNil)) tNil) := by
    subst eX
    exact pa_cons (pe_callTy call_str2 (show _ = _ from n4) mT PyProof.Rows.Boot.«str» (pa_cons (pe_var (i := 1) rfl (.inl n1) hpd hpc) pa_nil rfl)) pa_nil rfl
  refine PySem.W.kxs_callWith (i := "ValueError.__init__") (x := a) rfl (Calls.evalArgs_plain ?_)
  have hA := pav.run p6 _ _ _ H (fun vs H' => ∃ x, vs = [.str x] ∧ H' = H) I3 ⟨v, rfl, v, rfl, hv, fun x => ⟨x, rfl, rfl⟩⟩
  subst eX
  refine wpAny_mono hA (fun us4 s4 ⟨vs4, H4, I4, r4, x4, ev4, eH4⟩ => ?_) fun _ _ z => z
  subst ev4
  rw [eH4] at I4
  obtain ⟨gu, _⟩ := I4.pin (h2.objs.size, PySem.W.kxs_mw "ValueError.__init__" a) (by simp [sX])
  refine ⟨gu, ?_⟩
  obtain ⟨ua, r5, ru, rn⟩ : ∃ ua r5, us4 = ua :: r5 ∧ r5 = [] := by
    cases r4 with
    | cons q rr => cases rr; exact ⟨_, _, rfl, rfl⟩
  subst rn
  subst ru
  obtain ⟨h4, g4, d4, tk4, os4⟩ := s4
  obtain ⟨t4, ho4⟩ := exo_at I4.hok he
  have gC4 : h4.get? C = some (excClassObj nm q' C N bs bm true sn sub ab col dd k0 k1 k2 k3 k5 "ValueError.__new__") := I4.kIn _ _ hC
  have FB := PySem.F.excBase_ValueError
  refine wpAny_call (codeAny_of_tree ?_)
  show wpAny _ _ (callAny (.ref h2.objs.size) ⟨[ua], []⟩) _ _ _
  simp only [callAny]
  refine wpAny_bind (wpAny_load gu ?_)
  simp only [PySem.W.kxs_mw, show (Value.type "method-wrapper" == Value.type "method" || Value.type "method-wrapper" == Value.type "builtin_function_or_method" || Value.type "method-wrapper" == Value.type "method-wrapper") = true by decide, if_true]
  refine PySem.W.KFB.if_so (by decide) ?_
  refine wpAny_bind (PySem.W.check_bound_init FB.toExcCallFacts gC4 ho4 rfl ?_)
  refine wpAny_bind (wpAny_pure (wpAny_pure ?_))
  refine ⟨plainId_quiet FB.init.plain _, codeAny_builtin FB.initEntry ?_⟩
  refine PySem.W.exc_init_tree (cls := .ref C) (t0 := t4) (dv := none) (c2 := .none) (c3 := .none) (b4 := .bool false) ho4 (by simp [sizeLine_eq]) fun h5 k5' e5 t5 => ?_
  have I5 := I4.write (t' := tk4) (x := a) (e := a) (o := exo a C none) (by rw [he]; exact True.intro) (.inl rfl) k5' ⟨_, e5⟩ (exo_ok e5)
  have eu : upd H a (exo a C none) = H := by
    funext b
    by_cases hb : b = a
    · rw [hb, upd_same, he]
    · rw [upd_ne hb]
  rw [eu] at I5
  have I6 := I5.pins_of (pins' := []) fun p hp => absurd hp (by simp)
  have pst : PSs (sX CX P w K mg base ["self", px, "__class__"] qual scope f cdv cc A outer ⟨hp0, g, d, t, os⟩ H E) [.Assign [.Attribute (.Name "self" p8) fl p9] (.Name px p10) p11] (tOst K fl (tVar 0) (tVar 1)) :=
    pss_one (ps_ost (pe_var (i := 0) rfl (.inl n0)) (pe_var (i := 1) rfl (.inl n1) hpd hpc) (hsw2 _))
  refine wpAt_of_wpAny (wpAny_mono (pst.run [] _ _ _ { nx := fun _ H' => Q .non H', rt := Q } I6 ⟨v, rfl, .ref a, rfl, a, C, rfl, S.T, S.no, .inl ⟨he, fun dx n ne => q dx n ne⟩⟩) (fun fl s' hs => ?_) fun e s' hs => hs)
  have fin : ∀ {σ' : L2.St} {H' : Hp} {v : V} {u : Value}, Inv (sX CX P w K mg base ["self", px, "__class__"] qual scope f cdv cc A outer ⟨hp0, g, d, t, os⟩ H E) [] σ' H' s' → RelV v u → Q v H' → CE outer P w H ⟨hp0, g, d, t, os⟩ Q u s' :=
    fun {σ' H' v u} J rv q => ⟨v, H', J.os, J.bare, J.base, J.hok, rv, q⟩
  cases fl with
  | ret u =>
    obtain ⟨v, σ', H', J, rv, q⟩ := hs
    exact fin J rv q
  | next =>
    obtain ⟨σ', H', J, q⟩ := hs
    exact fin (v := V.non) (u := Value.none) J rfl q
  | brk =>
    obtain ⟨_, _, _, q⟩ := hs
    exact False.elim q
  | cont =>
    obtain ⟨_, _, _, q⟩ := hs
    exact False.elim q
end
end WL

/-! WLY: raise, try. -/
namespace WL
open PySem PySem.Spec PyProof.Rows L2

/-! ### raise C(e) -/
/-- what the written part says of such a class and its __init__ -/
structure ExcI (P : Program) (w : World) (K : PySem.W.Frag) (mg : Str → Option Value) (base : Heap) (x : Str) (C : Addr) (fl : Str) where
  f : Addr
  fd : FuncData
  px : Str
  T : OexC K C
  g : mg x = some (.ref C)
  iC : PySem.W.findIn K (.ref C) "__init__" = some (some (.ref f))
  tI : PySem.W.typeIn K (.ref f) = some (.type "function")
  F : FnOk P w K mg base (L2.CX P w) 1 f fd ["self", px] (SpX C fl)
  b : Binds K fd ["self", px] []
  xf : XfC K C
  no : PySem.W.findIn K (.ref C) fl = some none
/-- the values that such a class takes -/
structure ExT {A : Type} (t : Ty A) (enc : A → V) : Prop where
  is : ∀ a v m, t.rep a v m → v = enc a ∧ ((∃ x, v = .str x) ∨ ∃ i : Int, v = .int i ∧ i.natAbs.log2 < 1920)
theorem ext_str : ExT tStr V.str := ⟨fun a v m r => by cases rep_str r; exact ⟨rfl, .inl ⟨_, rfl⟩⟩⟩
section
variable {X : Cx} {T A F R B : Type} {c : Ctx T} {ds : List Desc} {P : F → T → Ends → Prop} {rest : List Stmt} {pos pos' p : Pos} {e : Expr} {W : WX} {x : Str} {C : Addr} {fl : Str} {t : Ty A}
theorem b_raise {xa : MM T A} {enc : A → V} (k : Nat) (I : ExcI X.prog X.w X.K X.mg X.base x C fl) (hC : c.cls k = C) (hf : fld k = fl) (ht : ExT t enc) (hr : Room 2 X.A) (hc : X.calm = true) (tk : Takes X W) (he : ErrC c W) (ha : PE X e (TX c ds t xa)) (hg : Gl X x := by rfl) (hdb : (x == ("__debug__" : Str)) = false := by decide)
    (h1 : starEach [e] X.env = [(false, eval e X.env)] := by rfl) : PSs X (.Raise (some (.Call (.Name x p) [e] [] pos)) none pos' :: rest) (BX c ds (bnd xa fun a => thw ⟨k, enc a⟩) P) :=
  PSs.imp (pss_cons (ps_raise hc tk (pmk_oex I.T I.iC I.tI I.F hr I.b .nil (fun _ _ _ _ _ _ _ h => by
      obtain ⟨_, _, _, _, _, _, _, _, _, _, _, _, z⟩ := h
      exact z.elim) hg I.g (pa_cons ha pa_nil h1) hdb h1 rfl)) (u := fun _ _ _ => False) ⟨fun _ _ _ _ _ _ h => h.elim⟩) fun D σ H ⟨m, st, env, q⟩ => ⟨m, st, env, (Post.bnd.mp q).imp fun a s1 q v1 m1 H1 w1 a1 r1 => by
    have env1 := env.go w1 a1
    obtain ⟨ev, hv⟩ := ht.is a v1 m1 r1
    refine ⟨by simp, fun y hy => ⟨y, v1, rfl, hv, upd_same, fun dx hdx ne => ⟨rfl, dx, [(fl, v1)], upd_same, ?_, ?_, ?_⟩⟩⟩
    · rw [upd_ne ne, upd_same]
    · rw [upd_ne ne] at hdx; exact hdx
    · rw [upd_ne ne] at hdx
      have eH : upd (del (upd (upd (upd H1 y (exo y C none)) dx (exd dx [(fl, v1)])) y (exo y C (some dx))) y) dx (.xd [(fl, v1)]) = upd H1 dx (.xd [(fl, v1)]) := by
        funext b
        by_cases hb : b = dx
        · subst hb; rw [upd_same, upd_same]
        · rw [upd_ne hb, upd_ne hb]
          by_cases hb2 : b = y
          · subst hb2; rw [del_same, hy]
          · rw [del_ne hb2, upd_ne hb2, upd_ne hb, upd_ne hb2]
      rw [eH]
      have w2 : WStep [] m1 H1 m1 (upd H1 dx (.xd [(fl, v1)])) := .own env1.mh hdx
      have xd := xd_up env1 (e := ⟨k, enc a⟩) (d := dx) (H := upd H1 dx (.xd [(fl, v1)])) (m := m1) ⟨by rw [upd_same, hf, ev], env1.mh.free hdx, hdx⟩
      have := he ⟨k, enc a⟩ s1 dx σ m1 _ ds q (env1.grow w2) xd.1 xd.2
      rw [hC] at this
      exact this⟩
end

/-! ### try -/
def tryM {T A : Type} (x : MM T A) (h : Exn → MM T A) : MM T A := fun s => match x s with
  | .ok a s1 => .ok a s1
  | .err e s1 => h e s1
  | .stuck => .stuck
theorem Post.tryM {T A : Type} {x : MM T A} {h : Exn → MM T A} {s : T} {P : A → T → Prop} {E : Exn → T → Prop} : Post (tryM x h s) P E ↔ Post (x s) P (fun e s1 => Post (h e s1) P E) := by
  unfold WL.tryM
  cases x s <;> rfl
/-- other errors are let out -/
def Ctx.errs {T : Type} (c : Ctx T) (E : Exn → T → Prop) : Ctx T := { c with err := E }
theorem EnvOk.errs {T : Type} {c : Ctx T} {E : Exn → T → Prop} {σ : L2.St} {m h : Hp} {ds : List Desc} {st : T} (x : EnvOk c σ m h ds st) : EnvOk (c.errs E) σ m h ds st := ⟨x.step, x.slots, x.amb, x.own, x.pin⟩
theorem EnvOk.unerrs {T : Type} {c : Ctx T} {E : Exn → T → Prop} {σ : L2.St} {m h : Hp} {ds : List Desc} {st : T} (x : EnvOk (c.errs E) σ m h ds st) : EnvOk c σ m h ds st := ⟨x.step, x.slots, x.amb, x.own, x.pin⟩
theorem PoolC.errs {T : Type} {c : Ctx T} {l : LTy T} {p : Addr} {E : Exn → T → Prop} (h : PoolC c l p) : PoolC (c.errs E) l p := ⟨h.afp, h.amb⟩
/-- within an except suite: the dict of the error stands at d -/
def Ctx.inH {T : Type} (c : Ctx T) (d : Addr) (e : Exn) : Ctx T := c.nox.pinned (fun m => m d = some (.xd [(fld e.k, e.a)])) (fun h x => h _ _ x)
/-- what the clauses wish, one after the other; a clause may name the error -/
def wManyA (K : PySem.W.Frag) (n : Nat) (Wout : WX) (D : Ends) : List (Value × Option Nat × (Addr → Value → Option Addr → TS)) → WX
  | [] => Wout
  | (c, oi, ts) :: r => fun cls d σ H => ∃ b, PySem.W.exmOne K cls c = some b ∧ (b = true → σ.length = n → ∀ a, H a = none → match oi with
    | none => ts a cls d D σ H
    | some i => ts a cls d { nx := fun σ' H' => D.nx (σ'.set i none) H', rt := D.rt, bk := fun σ' H' => D.bk (σ'.set i none) H', ct := fun σ' H' => D.ct (σ'.set i none) H' } (σ.set i (some (.ref a))) H) ∧ (b = false → wManyA K n Wout D r cls d σ H)
inductive HdsA (X : Cx) : List ExceptHandler → List (Value × Option Nat × (Addr → Value → Option Addr → TS)) → Prop
  | nil : HdsA X [] []
  | cons {x : Str} {c : Value} {ts : Addr → Value → Option Addr → TS} {b₀ : Stmt} {suite : List Stmt} {np pos' : Pos} {hds : List ExceptHandler} {l : List (Value × Option Nat × (Addr → Value → Option Addr → TS))} (hc : Names X x c)
      (hsu : ∀ (a : Addr) (oe : Obj) (cls : Value) (d : Option Addr) (pn : List (Addr × Obj)), Zc cls d oe → (∃ vs, oe.data = .fields vs) → PSs (X.suite a ((a, oe) :: pn)) (b₀ :: suite) (ts a cls d)) (r : HdsA X hds l) :
      HdsA X (.ExceptHandler (some (.Name x np)) none (b₀ :: suite) pos' :: hds) ((c, none, ts) :: l)
  | as {x n : Str} {i : Nat} {c : Value} {ts : Addr → Value → Option Addr → TS} {b₀ : Stmt} {suite : List Stmt} {np pos' : Pos} {hds : List ExceptHandler} {l : List (Value × Option Nat × (Addr → Value → Option Addr → TS))} (hc : Names X x c) (hi : X.N[i]? = some n) (hln : X.env.kindOf n = some .local)
      (hsu : ∀ (a : Addr) (oe : Obj) (cls : Value) (d : Option Addr) (pn : List (Addr × Obj)), Zc cls d oe → (∃ vs, oe.data = .fields vs) → PSs (X.suite a ((a, oe) :: pn)) (b₀ :: suite) (ts a cls d)) (r : HdsA X hds l) :
      HdsA X (.ExceptHandler (some (.Name x np)) (some n) (b₀ :: suite) pos' :: hds) ((c, some i, ts) :: l)
section
variable {X : Cx} {body : List Stmt} {h₀ : ExceptHandler} {hds : List ExceptHandler} {l : List (Value × Option Nat × (Addr → Value → Option Addr → TS))} {pos : Pos} {tb : WX → TS} {Wout : WX}
theorem ps_try_manyA (hs : X.stack = X.env :: X.outer) (hf : X.env.frame = some X.env.locals) (hN : X.N.Nodup) (tk : Takes X Wout)
    (hb : ∀ (W : WX) (pn : List (Addr × Obj)) (xe : Value → Shared → Prop), Takes (X.tr pn xe) W → PassesOwn (model X.prog X.w) X.A X.env xe → PSs (X.tr pn xe) body (tb W))
    (hh : HdsA X (h₀ :: hds) l) : PS X (.Try body (h₀ :: hds) [] [] pos) (fun D σ H => tb (wManyA X.K X.N.length Wout D l) D σ H) := by
  refine ⟨fun pins s σ H D I h => ?_⟩
  have ok := I.ok
  have hfr : X.A.frames = some (X.env :: X.outer) := by rw [ok.frames, hs]
  refine wpAny_Try_except ?_
  refine wpAny_mono ((hb (wManyA X.K X.N.length Wout D l) (X.pn ++ pins) (fun e s₁ => wpAny (model X.prog X.w) X.A (noteFrame e X.env) (fun _ s₂ => wpAny (model X.prog X.w) X.A (setFlight e none) (fun _ s₃ =>
    wpAny (model X.prog X.w) X.A (handleBy e X.env (h₀ :: hds)) (SP X pins D) X.xe s₃) X.xe s₂) X.xe s₁) (fun u s' xx => ?_) PassesOwn.looking).run [] s σ H D (I.toTry _) h) (fun f s1 hsp => ?_) (fun e s1 he => he)
  · obtain ⟨a, B, sI, pins', σ', H', cls, d, rfl, J', nb, up, sky, na, os, ag, w⟩ := xx
    have J : Inv X pins σ' H' sI := J'.ofTry ok
    have sky' : Sky B (X.env :: X.outer) a (Zc cls d) X.env.locals s'.heap := by rw [← hs]; exact sky
    show wpAny (model X.prog X.w) X.A (noteFrame (.ref a) X.env) _ _ _
    refine Sky.land Zc.steady hfr hf sky' fun h3 fl3 up3 => ?_
    have J3 : Inv X pins σ' H' { s' with heap := h3 } := J.landed nb fl3.1 (up.trans up3) os ag
    obtain ⟨oe3, vs3, he3, hz3, hd3⟩ := fl3.there
    have notFr : ∀ {h : Heap} {o : Obj} {vs : Array Value}, h.FunFrames B (X.env :: X.outer) → h.get? a = some o → o.data = .fields vs → a ∉ frs (X.env :: X.outer) := fun {h o vs} ff e dd hm => by
      obtain ⟨_, o', e', hnf⟩ := ff.mem hm
      rw [e] at e'; cases e'
      exact hnf _ dd
    have nfr := notFr fl3.2.2.1 he3 hd3
    have nL : a ≠ X.env.locals := fun z => nfr (List.mem_filterMap.mpr ⟨X.env, List.mem_cons_self, by rw [hf, z]⟩)
    have nF : a ∉ X.fs := fun hm => by
      obtain ⟨e, he, q⟩ := List.mem_filterMap.mp hm
      exact nfr (List.mem_filterMap.mpr ⟨e, List.mem_cons_of_mem _ he, q⟩)
    have S3 := J3.suite he3 hd3 na nL nF
    have go : ∀ {hds' : List ExceptHandler} {l' : List (Value × Option Nat × (Addr → Value → Option Addr → TS))}, HdsA X hds' l' → wManyA X.K X.N.length Wout D l' cls d σ' H' →
        wpAny (model X.prog X.w) X.A (handleBy (.ref a) X.env hds') (SP X pins D) X.xe { s' with heap := h3 } := by
      intro hds' l' hk
      induction hk with
      | nil =>
        intro w
        refine wpAny_handleBy_nil ?_
        obtain ⟨k1, k2, k3, oe, vs, T, oT, ts', he, hz, hd, h1, hr⟩ := id fl3
        unfold PySem.passOn
        refine wpAny_bind (wpAny_field he hd h1 ?_)
        rw [if_neg (show ¬ ((Value.ref T == Value.none) = true) from by simp)]
        have fin : wpAny (model X.prog X.w) X.A (setFlight (.ref a) X.env.frame) (fun _ s4 => wpAny (model X.prog X.w) X.A (throw (.ref a) : Sem Flow) (SP X pins D) X.xe s4) X.xe { s' with heap := h3 } := by
          rw [hf]
          refine HandSPX.setFlight_upZ fl3 fun h4 hh4 up4 => wpAny_throw (tk _ _ ?_)
          exact ⟨a, B, sI, pins, σ', H', cls, d, rfl, J, nb, (up.trans up3).trans up4, .inr (.inr (by rw [hs]; exact hh4)), na, os, ag, w⟩
        first
          | exact wpAny_bind (wpAny_pure (wpAny_bind fin))
          | exact wpAny_bind fin
      | @cons x c ts b₀ suite np pos' hds2 l2 hc hsu r ih =>
        intro w
        obtain ⟨b, hb1, hyes, hno⟩ := w
        refine wpAny_handleBy_cons (codeAny_handlers_test ?_) (by intro q; cases q)
        have LT : PySem.W.Looks (model X.prog X.w) h3 (typeOf (.ref a)) cls := fun A Q E s k q => wpAny_typeOf_ref (k _ _ he3) (by rw [hz3.1]; exact q)
        have LM := PySem.W.exm_one (M := model X.prog X.w) (J3.kIn) LT hb1
        have test : ∀ {Q : Value → Shared → Prop} {E : Value → Shared → Prop}, Q c { s' with heap := h3 } → wpAny (model X.prog X.w) (X.A.mark (some (.ref a))) (eval (.Name x np) X.env) Q E { s' with heap := h3 } := fun {Q E} q => by
          obtain ⟨hg, hdbg, hm | ⟨hm, hv, hnn⟩⟩ := hc
          · exact ld_glob (X := X.suite a ((a, oe3) :: (X.pn ++ pins))) S3 hg hm q hdbg
          · exact ld_blt (X := X.suite a ((a, oe3) :: (X.pn ++ pins))) S3 hg hm hv q hnn hdbg
        refine test (LM.here ?_)
        cases b with
        | true =>
          refine codeAny_handlers_suite ?_
          refine HandSPX.lands_againZ fl3 fun h4 fl4 up4 => ?_
          have J4 : Inv X pins σ' H' { s' with heap := h4 } := J.landed nb fl4.1 ((up.trans up3).trans up4) os ag
          obtain ⟨oe4, vs4, he4, hz4, hd4⟩ := fl4.there
          have S4 := J4.suite he4 hd4 na nL nF
          refine wpAny_mono ((hsu a oe4 cls d (X.pn ++ pins) hz4 ⟨_, hd4⟩).run [] _ _ H' _ S4 (hyes rfl J.len a na)) (fun f s6 hsp => ?_) (fun _ _ z => False.elim z)
          cases f with
          | next =>
            obtain ⟨σ6, H6, S6, q6⟩ := hsp
            exact ⟨_, _, S6.unsuite ok, q6⟩
          | brk =>
            obtain ⟨σ6, H6, S6, q6⟩ := hsp
            exact ⟨_, _, S6.unsuite ok, q6⟩
          | cont =>
            obtain ⟨σ6, H6, S6, q6⟩ := hsp
            exact ⟨_, _, S6.unsuite ok, q6⟩
          | ret u =>
            obtain ⟨v6, σ6, H6, S6, r6, q6⟩ := hsp
            exact ⟨_, _, _, S6.unsuite ok, r6, q6⟩
        | false =>
          show wpAny _ X.A (handleBy (.ref a) X.env hds2) _ _ _
          exact ih (hno rfl)
      | @as x n i c ts b₀ suite np pos' hds2 l2 hc hi hln hsu r ih =>
        intro w
        obtain ⟨b, hb1, hyes, hno⟩ := w
        refine wpAny_handleBy_cons (codeAny_handlers_test ?_) (by intro q; cases q)
        have LT : PySem.W.Looks (model X.prog X.w) h3 (typeOf (.ref a)) cls := fun A Q E s k q => wpAny_typeOf_ref (k _ _ he3) (by rw [hz3.1]; exact q)
        have LM := PySem.W.exm_one (M := model X.prog X.w) (J3.kIn) LT hb1
        have test : ∀ {Q : Value → Shared → Prop} {E : Value → Shared → Prop}, Q c { s' with heap := h3 } → wpAny (model X.prog X.w) (X.A.mark (some (.ref a))) (eval (.Name x np) X.env) Q E { s' with heap := h3 } := fun {Q E} q => by
          obtain ⟨hg, hdbg, hm | ⟨hm, hv, hnn⟩⟩ := hc
          · exact ld_glob (X := X.suite a ((a, oe3) :: (X.pn ++ pins))) S3 hg hm q hdbg
          · exact ld_blt (X := X.suite a ((a, oe3) :: (X.pn ++ pins))) S3 hg hm hv q hnn hdbg
        refine test (LM.here ?_)
        cases b with
        | true =>
          refine codeAny_handlers_suite_as ?_
          refine HandSPX.lands_againZ fl3 fun h4 fl4 up4 => ?_
          have J4 : Inv X pins σ' H' { s' with heap := h4 } := J.landed nb fl4.1 ((up.trans up3).trans up4) os ag
          obtain ⟨oe4, vs4, he4, hz4, hd4⟩ := fl4.there
          have S4 := J4.suite he4 hd4 na nL nF
          refine store_ok (X := X.suite a ((a, oe4) :: (X.pn ++ pins))) (v := .ref a) S4 hN hi (.inl hln) rfl (fun s5 S5 => ?_) (.inr hln)
          refine wpAny_mono ((hsu a oe4 cls d (X.pn ++ pins) hz4 ⟨_, hd4⟩).run [] s5 _ H' _ S5 (hyes rfl J.len a na)) (fun f s6 hsp => ?_) (fun _ _ z => False.elim z)
          have end_ : ∀ {σ6 : L2.St} {H6 : Hp} {Q : Shared → Prop}, Inv (X.suite a ((a, oe4) :: (X.pn ++ pins))) [] σ6 H6 s6 → (∀ s7, Inv X pins (σ6.set i none) H6 s7 → Q s7) →
              wpAny (model X.prog X.w) X.A (do bindName X.env n .none; unbindBehindTheSuite X.env n pos') (fun _ s7 => Q s7) X.xe s6 := fun {σ6 H6 Q} S6 hq => gone_ok (S6.unsuite ok) hN hi hln hq
          cases f with
          | next =>
            obtain ⟨σ6, H6, S6, q6⟩ := hsp
            exact end_ S6 fun s7 J7 => ⟨_, _, J7, q6⟩
          | brk =>
            obtain ⟨σ6, H6, S6, q6⟩ := hsp
            exact end_ S6 fun s7 J7 => ⟨_, _, J7, q6⟩
          | cont =>
            obtain ⟨σ6, H6, S6, q6⟩ := hsp
            exact end_ S6 fun s7 J7 => ⟨_, _, J7, q6⟩
          | ret u =>
            obtain ⟨v6, σ6, H6, S6, r6, q6⟩ := hsp
            exact end_ S6 fun s7 J7 => ⟨_, _, _, J7, r6, q6⟩
        | false =>
          show wpAny _ X.A (handleBy (.ref a) X.env hds2) _ _ _
          exact ih (hno rfl)
    exact go hh w
  · cases f with
    | next =>
      obtain ⟨σ', H', J', q⟩ := hsp
      exact wpAny_execs_nil ⟨σ', H', J'.ofTry ok, q⟩
    | brk =>
      obtain ⟨σ', H', J', q⟩ := hsp
      exact ⟨σ', H', J'.ofTry ok, q⟩
    | cont =>
      obtain ⟨σ', H', J', q⟩ := hsp
      exact ⟨σ', H', J'.ofTry ok, q⟩
    | ret u =>
      obtain ⟨v, σ', H', J', r, q⟩ := hsp
      exact ⟨v, σ', H', J'.ofTry ok, r, q⟩
end
/-! try, as what it computes -/
theorem slots_len {m h : Hp} {σ : L2.St} {fps : List (List Addr)} {ds : List Desc} (x : Slots m h σ fps ds) : ds.length = σ.length := by
  induction x with
  | nil => rfl
  | cons _ _ ih => simp [ih]
theorem weak_all : ∀ ds : List Desc, Weak ds (List.replicate ds.length .any)
  | [] => .nil
  | _ :: ds => .any (weak_all ds)
theorem slots_any {m h : Hp} : ∀ {n : Nat} {σ : L2.St} {fps : List (List Addr)}, Slots m h σ fps (List.replicate n .any) → ∀ fp ∈ fps, fp = []
  | 0, _, _, x, fp, hf => by cases x; exact absurd hf (by simp)
  | n + 1, _, _, x, fp, hf => by
    rw [List.replicate_succ] at x
    cases x with
    | cons a t =>
      rcases List.mem_cons.mp hf with rfl | hf
      · exact a
      · exact slots_any t fp hf
section
variable {X : Cx} {T A R B : Type} {c : Ctx T} {σ : L2.St} {m h : Hp} {st : T} {n : Nat} {d : Addr} {u : HO}
theorem EnvOk.note (x : EnvOk c σ m h (List.replicate n .any) st) (hd : h d = some u) (md : m d = none) (na : d ∉ c.afp) (h0 : c.H0 d = none) : EnvOk c σ (upd m d u) h (List.replicate n .any) st := by
  obtain ⟨fps, sl, dj, fr⟩ := x.slots
  have s2 : Sub m (upd m d u) := Sub.new (.refl m) md
  refine ⟨⟨x.step.mm.trans s2, fun a o e => ?_, x.step.hh, fun a e nn => ?_, x.step.dm⟩, ⟨fps, sl.go (fun _ _ _ _ => rfl) s2 fun fp hf p hp => ?_, dj, fr⟩, c.ambF (fun _ _ => rfl) s2 x.amb, fun p hp => ?_, c.pinM s2 x.pin⟩
  · by_cases z : a = d
    · subst z; rw [upd_same] at e; cases e; exact hd
    · rw [upd_ne z] at e; exact x.step.mh a o e
  · rw [upd_ne fun z => nn (by rw [z]; exact h0)]; exact x.step.ow a e nn
  · rw [slots_any sl fp hf] at hp; exact absurd hp (by simp)
  · rw [upd_ne fun z => na (by rw [← z]; exact hp)]; exact x.own p hp
end
/-- what an except suite is, for an error of the class k0 -/
def tsH {T R B : Type} (c : Ctx T) (k0 : Nat) (ds : Addr → List Desc) (f : V → MM T (Sum R B)) (u : Ty R) (dsM : B → List Desc) (a : Addr) (cls : Value) (d : Option Addr) : TS := fun D σ H => ∃ q : { q : V × Addr // cls = .ref (c.cls k0) ∧ d = some q.2 },
  BX (c.inH q.1.2 ⟨k0, q.1.1⟩) (ds a) (f q.1.1) (ENR (c.inH q.1.2 ⟨k0, q.1.1⟩) u dsM) D σ H
inductive TryH {T R B : Type} (X : Cx) (c : Ctx T) (kn : List Nat) (u : Ty R) (dsM : B → List Desc) : List ExceptHandler → (Exn → MM T (Sum R B)) → List (Value × Option Nat × (Addr → Value → Option Addr → TS)) → Prop
  | nil : TryH X c kn u dsM [] thw []
  | as {x n : Str} {np pos' : Pos} {b₀ : Stmt} {suite : List Stmt} {hds : List ExceptHandler} {h : Exn → MM T (Sum R B)} {l : List (Value × Option Nat × (Addr → Value → Option Addr → TS))} {f : V → MM T (Sum R B)} (i k0 : Nat) (hc : Names X x (.ref (c.cls k0))) (ex : ∀ j ∈ kn, PySem.W.exmOne X.K (.ref (c.cls j)) (.ref (c.cls k0)) = some (decide (j = k0)))
      (hi : X.N[i]? = some n) (hln : X.env.kindOf n = some .local) (hdi : ∀ b, (dsM b).set i .any = dsM b)
      (hs : ∀ (a : Addr) (oe : Obj) (pn : List (Addr × Obj)) (v : V) (d : Addr), Zc (.ref (c.cls k0)) (some d) oe → (∃ vs, oe.data = .fields vs) → PSs (X.suite a ((a, oe) :: pn)) (b₀ :: suite) (BX (c.inH d ⟨k0, v⟩) ((List.replicate X.N.length .any).set i (.val (tIs a) ())) (f v) (ENR (c.inH d ⟨k0, v⟩) u dsM)))
      (r : TryH X c kn u dsM hds h l) : TryH X c kn u dsM (.ExceptHandler (some (.Name x np)) (some n) (b₀ :: suite) pos' :: hds) (fun e => if e.k = k0 then noE (f e.a) else h e) ((.ref (c.cls k0), some i, tsH c k0 (fun a => (List.replicate X.N.length .any).set i (.val (tIs a) ())) f u dsM) :: l)
  | on {x : Str} {np pos' : Pos} {b₀ : Stmt} {suite : List Stmt} {hds : List ExceptHandler} {h : Exn → MM T (Sum R B)} {l : List (Value × Option Nat × (Addr → Value → Option Addr → TS))} {f : V → MM T (Sum R B)} (k0 : Nat) (hc : Names X x (.ref (c.cls k0))) (ex : ∀ j ∈ kn, PySem.W.exmOne X.K (.ref (c.cls j)) (.ref (c.cls k0)) = some (decide (j = k0)))
      (hs : ∀ (a : Addr) (oe : Obj) (pn : List (Addr × Obj)) (v : V) (d : Addr), Zc (.ref (c.cls k0)) (some d) oe → (∃ vs, oe.data = .fields vs) → PSs (X.suite a ((a, oe) :: pn)) (b₀ :: suite) (BX (c.inH d ⟨k0, v⟩) (List.replicate X.N.length .any) (f v) (ENR (c.inH d ⟨k0, v⟩) u dsM)))
      (r : TryH X c kn u dsM hds h l) : TryH X c kn u dsM (.ExceptHandler (some (.Name x np)) none (b₀ :: suite) pos' :: hds) (fun e => if e.k = k0 then noE (f e.a) else h e) ((.ref (c.cls k0), none, tsH c k0 (fun _ => List.replicate X.N.length .any) f u dsM) :: l)
section
variable {X : Cx} {T R B : Type} {c : Ctx T} {kn : List Nat} {u : Ty R} {dsM : B → List Desc} {hds : List ExceptHandler} {h : Exn → MM T (Sum R B)} {l : List (Value × Option Nat × (Addr → Value → Option Addr → TS))} {Wout : WX}
theorem TryH.hdsA (y : TryH X c kn u dsM hds h l) : HdsA X hds l := by
  induction y with
  | nil => exact .nil
  | as i k0 hc ex hi hln hdi hs r ih =>
    refine .as hc hi hln (fun a oe cls d pn hz hf => PSs.any fun q => ?_) ih
    obtain ⟨⟨v, d'⟩, e1, e2⟩ := q
    dsimp only at e2
    subst e1 e2
    exact hs a oe pn v d' hz hf
  | on k0 hc ex hs r ih =>
    refine .cons hc (fun a oe cls d pn hz hf => PSs.any fun q => ?_) ih
    obtain ⟨⟨v, d'⟩, e1, e2⟩ := q
    dsimp only at e2
    subst e1 e2
    exact hs a oe pn v d' hz hf
theorem TryH.wish {e : Exn} {st : T} {D : Ends} {σ : L2.St} {m H : Hp} {ds' : List Desc} {d : Addr} (y : TryH X c kn u dsM hds h l) (he : ErrC c Wout) (hk : e.k ∈ kn) (env : EnvOk c σ m H ds' st) (xd : XdAt c.H0 m H d e) (na : d ∉ c.afp) :
    Post (h e st) (fun r st' => ENR c u dsM r st' D) c.err → wManyA X.K X.N.length Wout D l (.ref (c.cls e.k)) (some d) σ H := by
  have hlen : ds'.length = σ.length := let ⟨_, sl, _⟩ := env.slots; slots_len sl
  induction y with
  | nil => exact fun p => he e st d σ m H ds' p env xd na
  | as i k0 hc ex hi hln hdi hs r ih =>
    intro p
    refine ⟨decide (e.k = k0), ex e.k hk, fun hb hn a ha => ?_, fun hb => ih ?_⟩
    · have hb := of_decide_eq_true hb
      obtain ⟨k, v⟩ := e
      dsimp only at hb
      subst hb
      dsimp only at p
      rw [if_pos rfl] at p
      have p := Post.noE.mp p
      have en1 := (env.weak (weak_all ds')).note xd.1 xd.2.1 na xd.2.2
      rw [hlen, hn] at en1
      have en2 : EnvOk (c.inH d ⟨k, v⟩) σ _ H (List.replicate X.N.length .any) st := ⟨en1.step, en1.slots, en1.amb, en1.own, ⟨en1.pin, upd_same⟩⟩
      refine ⟨⟨(v, d), rfl, rfl⟩, _, st, en2.bind i (t := tIs a) (a := ()) (v := .ref a) rfl, p.mono (fun r s1 q => ?_) fun _ _ z => z⟩
      cases r with
      | inl r => exact q
      | inr b => exact fun σ' m' H' env' => q _ m' H' (by
          have z := (show EnvOk c σ' m' H' (dsM b) s1 from ⟨env'.step, env'.slots, env'.amb, env'.own, env'.pin.1⟩).clear i none
          rw [hdi] at z
          exact z)
    · dsimp only at p; rw [if_neg (of_decide_eq_false hb)] at p; exact p
  | on k0 hc ex hs r ih =>
    intro p
    refine ⟨decide (e.k = k0), ex e.k hk, fun hb hn a ha => ?_, fun hb => ih ?_⟩
    · have hb := of_decide_eq_true hb
      obtain ⟨k, v⟩ := e
      dsimp only at hb
      subst hb
      dsimp only at p
      rw [if_pos rfl] at p
      have p := Post.noE.mp p
      have en1 := (env.weak (weak_all ds')).note xd.1 xd.2.1 na xd.2.2
      rw [hlen, hn] at en1
      have en2 : EnvOk (c.inH d ⟨k, v⟩) σ _ H (List.replicate X.N.length .any) st := ⟨en1.step, en1.slots, en1.amb, en1.own, ⟨en1.pin, upd_same⟩⟩
      refine ⟨⟨(v, d), rfl, rfl⟩, _, st, en2, p.mono (fun r s1 q => ?_) fun _ _ z => z⟩
      cases r with
      | inl r => exact q
      | inr b => exact fun σ' m' H' env' => q _ m' H' ⟨env'.step, env'.slots, env'.amb, env'.own, env'.pin.1⟩
    · dsimp only at p; rw [if_neg (of_decide_eq_false hb)] at p; exact p
theorem s_try {ds : List Desc} {body : List Stmt} {h₀ : ExceptHandler} {pos : Pos} {x : MM T (Sum R B)} (hs : X.stack = X.env :: X.outer) (hf : X.env.frame = some X.env.locals) (hN : X.N.Nodup) (tk : Takes X Wout) (he : ErrC c Wout)
    (hb : ∀ (W : WX) (pn : List (Addr × Obj)) (xe : Value → Shared → Prop) (E' : Exn → T → Prop), Takes (X.tr pn xe) W → PassesOwn (model X.prog X.w) X.A X.env xe → ErrC (c.errs E') W → PSs (X.tr pn xe) body (BX (c.errs E') ds x (ENR (c.errs E') u dsM)))
    (y : TryH X c kn u dsM (h₀ :: hds) h l) : PS X (.Try body (h₀ :: hds) [] [] pos) (BX c ds (tryM x fun e => if e.k ∈ kn then h e else stk) (ENR c u dsM)) :=
  PS.imp (ps_try_manyA hs hf hN tk (tb := fun W => fun D σ H => ∃ E' : { E' : Exn → T → Prop // ErrC (c.errs E') W }, BX (c.errs E'.1) ds x (ENR (c.errs E'.1) u dsM) D σ H) (fun W pn xe tk' po => PSs.any fun E' => hb W pn xe E'.1 tk' po E'.2) y.hdsA) fun D σ H ⟨m, st, env, p⟩ =>
    ⟨⟨fun e st' => Post ((if e.k ∈ kn then h e else stk) st') (fun r s => ENR c u dsM r s D) c.err, fun e st' d σ' m' H' ds' q env' xd na => by
      have q : Post ((if e.k ∈ kn then h e else stk) st') (fun r s => ENR c u dsM r s D) c.err := q
      by_cases hk : e.k ∈ kn
      · rw [if_pos hk] at q
        exact y.wish he hk env'.unerrs xd na q
      · rw [if_neg hk] at q; exact q.elim⟩, m, st, env.errs, (Post.tryM.mp p).mono (fun r s1 q => by
      cases r with
      | inl r => exact q
      | inr b => exact fun σ' m' H' env' => q σ' m' H' env'.unerrs) fun _ _ q => q⟩
/-- n.f, n the error's name -/
theorem x_xf {A : Type} {ds : List Desc} {a d C : Addr} {oe : Obj} {pn : List (Addr × Obj)} {n fl : Str} {p2 pos : Pos} {e : Exn} {t : Ty A} {dec : V → Option A} (i : Nat) (hdec : ∀ v x m, dec v = some x → t.rep x v m) (Xf : XfC X.K C) (no : PySem.W.findIn X.K (.ref C) fl = some none) (hfl : fld e.k = fl) (hz : Zc (.ref C) (some d) oe) (hf : ∃ vs, oe.data = .fields vs)
    (hd : ds[i]? = some (.val (tIs a) ()) := by rfl) (hN : X.N[i]? = some n := by rfl) (hv : Vis X.env.scope n := by first | exact Or.inl rfl | exact Or.inr (Or.inl rfl) | exact Or.inr (Or.inr rfl)) (h1 : (n == ("__debug__" : Str)) = false := by decide) (h2 : (n == ("__classdict__" : Str)) = false := by decide)
    (hb : attributeBase (.Name n p2) fl X.env (eval (.Name n p2) X.env) = eval (.Name n p2) X.env := by rfl) : PE (X.suite a ((a, oe) :: pn)) (.Attribute (.Name n p2) fl pos) (TX (c.inH d e) ds t (lft (dec e.a))) :=
  PE.imp (pe_xf Xf no hz hf (pe_var (X := X.suite a ((a, oe) :: pn)) hN hv h1 h2) hb) fun σ H Q ⟨m, st, env, q⟩ => by
    obtain ⟨v, e1, r⟩ := val_at env hd
    obtain ⟨b, hb, q⟩ := Post.lft.mp q
    refine ⟨v, e1, r, rfl, d, [(fld e.k, e.a)], e.a, rfl, env.mh _ _ env.pin.2, by rw [hfl]; simp [List.lookup], q e.a m H (.refl env.mh) env.amb (hdec _ _ _ hb)⟩
end
def decStr : V → Option Str
  | .str x => some x
  | _ => none
theorem dec_str : ∀ (v : V) (x : Str) (m : Hp), decStr v = some x → tStr.rep x v m := fun v x m e => by
  cases v <;> simp only [decStr] at e <;> first | (cases e; rfl) | cases e
end WL
namespace WL
open PySem PySem.Spec PyProof.Rows L2
/-! the text's own exceptions -/
theorem exm_oex {K : PySem.W.Frag} {C D : Addr} {b : Bool} (T : OexC K C) (h : PySem.W.subIn K (.ref D) (.ref C) = some b) : PySem.W.exmOne K (.ref D) (.ref C) = some b := by
  obtain ⟨nm, q, N, bs, bm, sn, sub, ab, col, dd, k0, k1, k2, k3, k5, hC, hbm⟩ := T.cls
  have hcl : (PySem.W.clsIn K C).isSome = true := by unfold PySem.W.clsIn; rw [hC] <;> rfl
  unfold PySem.W.exmOne PySem.W.kitCls
  rw [T.exC]
  show (if ((PySem.W.clsIn K C).isSome && PySem.W.typeIn K (.ref C) == some (.type "type")) = true then PySem.W.subIn K (.ref D) (.ref C) else none) = some b
  rw [T.tyC, hcl]
  exact h
structure FunS (K : PySem.W.Frag) (name qual : Str) (st : Stmt) (f cc : Addr) (cdv : Value) (fd : FuncData) : Prop where
  ex : ∃ (oc : Value) (od : Option Addr) (dV kV doc pm : Value) (an : Option Addr) (ct : Value) (osl : Array (Option Value)),
    fd = PySem.W.ksFn name qual (defArgs st) (defBody st) (defScope st) dV kV doc pm an cdv ct cc ∧ K.lookup f = some ⟨oc, od, .func fd, osl⟩ ∧ PySem.W.codeIn K cdv qual = true
end WL
namespace WL
open PySem PySem.Spec PyProof.Rows L2
theorem b_stk0 {X : Cx} {T F : Type} {c : Ctx T} {ds : List Desc} {P : F → T → Ends → Prop} : PSs X [] (BX c ds stk P) := PSs.imp pss_nil fun D σ H ⟨m, st, env, p⟩ => p.elim
end WL

/-! WLDD: == of data with texts within; one of two; isinstance of an error. -/
namespace WL
open PySem PySem.Spec PyProof.Rows L2
def okL {A : Type} (f : A → Bool) (xs : List A) : Bool := xs.all f
def okP {A B : Type} (f : A → Bool) (g : B → Bool) (p : A × B) : Bool := f p.1 && g p.2
def okO {A : Type} (f : A → Bool) (o : Option A) : Bool := o.all f
/-- a list of places, some of them texts -/
structure EqLS {A : Type} [DecidableEq A] (K : PySem.W.Frag) (l : LTy A) (n : Nat) (ok : A → Bool) where
  enc : A → List PyData
  dp : ∀ a vs m H, l.rep a vs m → Sub m H → DpAll K H vs (enc a)
  eqv : ∀ a b, PyData.eqvAll (enc a) (enc b) = decide (a = b)
  lay : ∀ a, ok a = true → PyData.canLayAll0 (enc a) = true
  dep : ∀ a, PyData.depthAll (enc a) ≤ n
section
variable {A B : Type} [DecidableEq A] [DecidableEq B] {K : PySem.W.Frag} {t : Ty A} {u : Ty B} {l : LTy B} {n k : Nat} {f : A → Bool} {g : B → Bool}
theorem eqvAll_mapS (e : EqS K t n f) : ∀ (xs ys : List A), PyData.eqvAll (xs.map e.enc) (ys.map e.enc) = decide (xs = ys)
  | [], [] => by simp [PyData.eqvAll]
  | [], y :: ys => by simp [PyData.eqvAll]
  | x :: xs, [] => by simp [PyData.eqvAll]
  | x :: xs, y :: ys => by
    simp only [List.map_cons, PyData.eqvAll, e.eqv, eqvAll_mapS e xs ys, List.cons.injEq]
    by_cases h1 : x = y <;> by_cases h2 : xs = ys <;> simp [h1, h2]
theorem layAll_mapS (e : EqS K t n f) : ∀ (xs : List A), okL f xs = true → PyData.canLayAll0 (xs.map e.enc) = true
  | [], _ => rfl
  | x :: xs, h => by
    have h : (f x && okL f xs) = true := h
    obtain ⟨h1, h2⟩ := Bool.and_eq_true_iff.mp h
    simp only [List.map_cons, PyData.canLayAll0, e.lay x h1, layAll_mapS e xs h2, Bool.and_self]
theorem depAll_mapS (e : EqS K t n f) : ∀ (xs : List A), PyData.depthAll (xs.map e.enc) ≤ n
  | [] => Nat.zero_le _
  | x :: xs => by simp only [List.map_cons, PyData.depthAll]; exact Nat.max_le.mpr ⟨e.dep x, depAll_mapS e xs⟩
theorem dpAll_mapS (e : EqS K t n f) {m H : Hp} (hm : Sub m H) : ∀ {xs : List A} {vs : List V}, Reps t m xs vs → DpAll K H vs (xs.map e.enc) := by
  intro xs vs r
  induction r with
  | nil => exact .nil
  | cons x _ ih => exact .cons (e.dp _ _ _ _ x hm) ih
def eqs_list (e : EqS K t n f) : EqS K (tList t) (n + 1) (okL f) where
  enc := fun xs => .list (xs.map e.enc)
  dp := fun a v m H ⟨p, vs, ev, k, r⟩ hm => by subst ev; exact .lst (.of (hm _ _ k)) (dpAll_mapS e hm r)
  eqv := fun a b => by simp only [PyData.eqv]; exact eqvAll_mapS e a b
  lay := fun a h => by simp only [PyData.canLay0]; exact layAll_mapS e a h
  dep := fun a => by simp only [PyData.depth]; exact Nat.succ_le_succ (depAll_mapS e a)
def eqs_vt (e : EqS K t n f) : EqS K (tVT K t) (n + 1) (okL f) where
  enc := fun xs => .tuple (xs.map e.enc)
  dp := fun a v m H ⟨p, vs, ev, k, r⟩ hm => by subst ev; exact .tup (hm.sqT k) (dpAll_mapS e hm r)
  eqv := fun a b => by simp only [PyData.eqv]; exact eqvAll_mapS e a b
  lay := fun a h => by simp only [PyData.canLay0]; exact layAll_mapS e a h
  dep := fun a => by simp only [PyData.depth]; exact Nat.succ_le_succ (depAll_mapS e a)
def els_1 (e : EqS K t n f) : EqLS K (l1 t) n f where
  enc := fun a => [e.enc a]
  dp := fun a vs m H ⟨v, ev, r⟩ hm => by subst ev; exact .cons (e.dp _ _ _ _ r hm) .nil
  eqv := fun a b => by simp only [PyData.eqvAll, e.eqv, Bool.and_true]
  lay := fun a h => by simp only [PyData.canLayAll0, e.lay a h, Bool.and_self]
  dep := fun a => by simp only [PyData.depthAll]; exact Nat.max_le.mpr ⟨e.dep a, Nat.zero_le _⟩
def els_c (e : EqS K t n f) (q : EqLS K l k g) : EqLS K (lc t l) (max n k) (okP f g) where
  enc := fun a => e.enc a.1 :: q.enc a.2
  dp := fun a vs m H ⟨v, ws, ev, r, z⟩ hm => by subst ev; exact .cons (e.dp _ _ _ _ r hm) (q.dp _ _ _ _ z hm)
  eqv := fun a b => by
    obtain ⟨a1, a2⟩ := a
    obtain ⟨b1, b2⟩ := b
    simp only [PyData.eqvAll, e.eqv, q.eqv, Prod.mk.injEq]
    by_cases h1 : a1 = b1 <;> by_cases h2 : a2 = b2 <;> simp [h1, h2]
  lay := fun a h => by
    obtain ⟨h1, h2⟩ := Bool.and_eq_true_iff.mp h
    simp only [PyData.canLayAll0, e.lay _ h1, q.lay _ h2, Bool.and_self]
  dep := fun a => by
    simp only [PyData.depthAll]
    exact Nat.max_le.mpr ⟨Nat.le_trans (e.dep _) (Nat.le_max_left _ _), Nat.le_trans (q.dep _) (Nat.le_max_right _ _)⟩
def eqs_tup {l : LTy A} (q : EqLS K l n f) : EqS K (tTup K l) (n + 1) f where
  enc := fun a => .tuple (q.enc a)
  dp := fun a v m H ⟨p, vs, ev, k, r⟩ hm => by subst ev; exact .tup (hm.sqT k) (q.dp _ _ _ _ r hm)
  eqv := fun a b => by simp only [PyData.eqv]; exact q.eqv a b
  lay := fun a h => by simp only [PyData.canLay0]; exact q.lay a h
  dep := fun a => by simp only [PyData.depth]; exact Nat.succ_le_succ (q.dep a)
def eqs_rec {l : LTy A} (q : EqLS K l n f) : EqS K (tRec l) (n + 1) f where
  enc := fun a => .list (q.enc a)
  dp := fun a v m H ⟨p, vs, ev, k, r⟩ hm => by subst ev; exact .lst (.of (hm _ _ k)) (q.dp _ _ _ _ r hm)
  eqv := fun a b => by simp only [PyData.eqv]; exact q.eqv a b
  lay := fun a h => by simp only [PyData.canLay0]; exact q.lay a h
  dep := fun a => by simp only [PyData.depth]; exact Nat.succ_le_succ (q.dep a)
def eqs_opt (e : EqS K t n f) (nn : ∀ a, PyData.eqv .none (e.enc a) = false ∧ PyData.eqv (e.enc a) .none = false) : EqS K (tOpt t) n (okO f) where
  enc := fun o => match o with
    | none => .none
    | some a => e.enc a
  dp := fun a v m H r hm => by
    cases a with
    | none => have r : v = .non := r; subst r; exact .non
    | some a => exact e.dp _ _ _ _ r hm
  eqv := fun a b => by
    cases a <;> cases b
    · rfl
    · simp [(nn _).1]
    · simp [(nn _).2]
    · simp [e.eqv]
  lay := fun a h => by
    cases a with
    | none => rfl
    | some a => exact e.lay a h
  dep := fun a => by
    cases a with
    | none => exact Nat.zero_le _
    | some a => exact e.dep a
end
/-! ### tuples within comprehensions -/
section
variable {X : Cx} {T A B : Type} {c : Ctx T} {ds : List Desc} {t : Ty A} {pos : Pos}
theorem x_tupK (K : PySem.W.Frag) {es : List Expr} {l : LTy A} {xa : MM T A} {x1} (h : PA X es (TAX c ds l xa)) (hl : ∀ a vs m, l.rep a vs m → vs.length ≤ 100) (hK : X.K = K := by rfl) : PE X (.Tuple es x1 pos) (TX c ds (tTup K l) xa) := by subst hK; exact x_tup h hl
theorem x_tupVK (K : PySem.W.Frag) {es : List Expr} {l : LTy B} {xa : MM T B} {f : B → List A} {n : Nat} {x1} (h : PA X es (TAX c ds l xa)) (hl : LRep t l n f) (hn : n ≤ 10000 := by decide) (hK : X.K = K := by rfl) : PE X (.Tuple es x1 pos) (TX c ds (tVT K t) (e1 (fun b => some (f b)) xa)) := by subst hK; exact x_tupV h hl hn
end
/-! ### one of two, told -/
section
variable {X : Cx} {T A B : Type} {c : Ctx T} {ds : List Desc} {t : Ty A} {u : Ty B} {e : Expr}
def oGetL {A B : Type} : Sum A B → Option A
  | .inl a => some a
  | .inr _ => none
def oGetR {A B : Type} : Sum A B → Option B
  | .inl _ => none
  | .inr b => some b
theorem x_unl {xa : MM T (Sum A B)} (h : PE X e (TX c ds (tAlt t u) xa)) : PE X e (TX c ds t (e1 oGetL xa)) := PE.imp h fun σ H Q ⟨m, st, env, p⟩ => ⟨m, st, env, (Post.bnd.mp p).imp fun a s1 p v m1 H1 w1 a1 r => by
  obtain ⟨b, hb, p⟩ := Post.lft.mp p
  cases a with
  | inl a => cases hb; exact p v m1 H1 w1 a1 r
  | inr b => cases hb⟩
theorem x_unr {xa : MM T (Sum A B)} (h : PE X e (TX c ds (tAlt t u) xa)) : PE X e (TX c ds u (e1 oGetR xa)) := PE.imp h fun σ H Q ⟨m, st, env, p⟩ => ⟨m, st, env, (Post.bnd.mp p).imp fun a s1 p v m1 H1 w1 a1 r => by
  obtain ⟨b, hb, p⟩ := Post.lft.mp p
  cases a with
  | inl a => cases hb
  | inr b => cases hb; exact p v m1 H1 w1 a1 r⟩
end
/-! ### isinstance(e, C), e an error in its suite -/
/-- what isinstance asks of an error's class -/
structure IsxC (K : PySem.W.Frag) (C : Addr) : Prop where
  cl : (PySem.W.clsIn K C).isSome = true
  ga : PySem.W.findIn K (.ref C) "__getattribute__" = some (some (.builtin "BaseException.__getattribute__"))
  gg : PySem.W.findIn K (.ref C) "__getattr__" = some none
  su : PySem.W.subIn K (.ref C) (.type "BaseException") = some true
  ha : PySem.W.findIn K (.ref C) "__class__" = some (some (.builtin "object.__class__"))
  hn : PySem.W.specialIn K (.builtin "object.__class__") "__get__" = some (some (.builtin "getset_descriptor.__get__"))
  tk : PySem.W.takesIn K (.builtin "object.__class__") = some true
  hm : PySem.W.mroIn K C (.type "object") = some true
theorem cls_of {K : PySem.W.Frag} {C : Addr} {oc : Value} {od : Option Addr} {cd : ClassData} {sl : Array (Option Value)} (h : K.lookup C = some ⟨oc, od, .cls cd, sl⟩) : (PySem.W.clsIn K C).isSome = true := by
  unfold PySem.W.clsIn
  rw [h]
  rfl
theorem call_isX {X : Cx} {a C M d : Addr} {oe : Obj} {pn : List (Addr × Obj)} {b : Bool} (I : IsxC X.K C) (hz : Zc (.ref C) (some d) oe) (hf : ∃ vs, oe.data = .fields vs) (kit : PySem.W.kitOne X.K (.ref C) (.ref M) = some b) :
    CallR (X.suite a ((a, oe) :: pn)) (.builtin "isinstance") (fun xs H Q => xs = [.ref a, .ref M] ∧ (∃ fs, H d = some (.xd fs)) ∧ Q (.bl b) H) := by
  intro pins s σ H xs us Q J r ⟨ex, ⟨fs, ea⟩, q⟩
  subst ex
  obtain ⟨u1, u2, rfl, r1, r2⟩ := vals2 r
  cases (show u1 = Value.ref a from r1)
  cases (show u2 = Value.ref M from r2)
  obtain ⟨ha, _⟩ := J.pin (a, oe) (List.mem_append_left _ List.mem_cons_self)
  obtain ⟨vs, hd⟩ := hf
  obtain ⟨mA, hns, hr⟩ := (show ObjOk X.prog X.w H s.heap d (.xd fs) from J.hok d _ ea)
  obtain ⟨od, ho, hl⟩ := lookIn_ns hns
  have A : PySem.W.InstAt s.heap a oe C (some od) := ⟨ha, hz.1, by unfold PySem.W.notCls; rw [hd] <;> rfl, by rw [hz.2]; exact ho⟩
  exact PySem.W.kia_one (PySem.W.kitx_exc I.cl I.ga I.gg I.su I.ha I.hn I.tk I.hm) J.kIn A kit (fun z => nomatch z) fun tk => ⟨.bl b, H, J.tok tk, rfl, q⟩
theorem x_isX {X : Cx} {T : Type} {c : Ctx T} {ds : List Desc} {a C M d : Addr} {oe : Obj} {pn : List (Addr × Obj)} {b : Bool} {n y : Str} {p2 p3 p4 pos : Pos} {e : Exn} (i : Nat) (I : IsxC X.K C) (hz : Zc (.ref C) (some d) oe) (hf : ∃ vs, oe.data = .fields vs) (kit : PySem.W.kitOne X.K (.ref C) (.ref M) = some b)
    (hm : X.mg "isinstance" = none) (hM : X.mg y = some (.ref M)) (hd : ds[i]? = some (.val (tIs a) ()) := by rfl) (hN : X.N[i]? = some n := by rfl) (hv : Vis X.env.scope n := by first | exact Or.inl rfl | exact Or.inr (Or.inl rfl) | exact Or.inr (Or.inr rfl)) (h1 : (n == ("__debug__" : Str)) = false := by decide) (h2 : (n == ("__classdict__" : Str)) = false := by decide)
    (hg : Gl X "isinstance" := by rfl) (hgy : Gl X y := by rfl) (hdy : (y == ("__debug__" : Str)) = false := by decide)
    (he : starEach [.Name n p3, .Name y p4] X.env = (false, eval (.Name n p3) X.env) :: starEach [.Name y p4] X.env := by rfl) (he2 : starEach [.Name y p4] X.env = (false, eval (.Name y p4) X.env) :: starEach [] X.env := by rfl) (hpl : (backTo pos (starEach [.Name y p4] X.env)).any (·.1) = false := by rfl) :
    PE (X.suite a ((a, oe) :: pn)) (.Call (.Name "isinstance" p2) [.Name n p3, .Name y p4] [] pos) (TX (c.inH d e) ds tBool (ret b)) :=
  PE.imp (pe_callB (X := X.suite a ((a, oe) :: pn)) (call_isX I hz hf kit) hg hm (by decide +kernel) (pa_cons (pe_var (X := X.suite a ((a, oe) :: pn)) hN hv h1 h2) (pa_cons (pe_glob (v := V.ref M) (X := X.suite a ((a, oe) :: pn)) hgy hM rfl hdy) pa_nil he2) he) (by decide) (by decide) he hpl) fun σ H Q ⟨m, st, env, q⟩ => by
    obtain ⟨v, e1, r⟩ := val_at env hd
    have r : v = .ref a := r
    subst r
    exact ⟨_, e1, rfl, ⟨_, env.mh _ _ env.pin.2⟩, q _ m H (.refl env.mh) env.amb rfl⟩
end WL

/-! WLEE: data of any kind (none, truth values, whole numbers, texts, lists and tuples that stay). -/
namespace WL
open PySem PySem.Spec PyProof.Rows L2
mutual
theorem Dp.mono' {K : PySem.W.Frag} {m n : Hp} (s : Sub m n) : ∀ (d : PyData) (v : V), Dp K m v d → Dp K n v d
  | .none, _, h => by cases h; exact .non
  | .bool b, _, h => by cases h; exact .bl b
  | .int i, _, h => by cases h; exact .int i
  | .str x, _, h => by cases h; exact .str x
  | .list ds, _, h => by cases h with | lst q r => exact .lst (s.sqL q) (DpAll.mono' s ds _ r)
  | .tuple ds, _, h => by cases h with | tup q r => exact .tup (s.sqT q) (DpAll.mono' s ds _ r)
  | .dict kvs, _, h => nomatch h
theorem DpAll.mono' {K : PySem.W.Frag} {m n : Hp} (s : Sub m n) : ∀ (ds : List PyData) (vs : List V), DpAll K m vs ds → DpAll K n vs ds
  | [], _, h => by cases h; exact .nil
  | d :: ds, _, h => by cases h with | cons q r => exact .cons (Dp.mono' s d _ q) (DpAll.mono' s ds _ r)
end
abbrev Dat := PySem.PyData
/-- data -/
def tD (K : PySem.W.Frag) : Ty PyData := ⟨fun d v m => Dp K m v d, fun h r => Dp.mono' h _ _ r⟩
theorem dpAll_reps {K : PySem.W.Frag} {m : Hp} : ∀ {ds : List PyData} {vs : List V}, DpAll K m vs ds ↔ Reps (tD K) m ds vs
  | [], vs => ⟨fun h => by cases h; exact .nil, fun h => by cases h; exact .nil⟩
  | d :: ds, vs => ⟨fun h => by cases h with | cons q r => exact .cons q (dpAll_reps.mp r), fun h => by cases h with | cons q r => exact .cons q (dpAll_reps.mpr r)⟩
structure ToD {A : Type} (K : PySem.W.Frag) (t : Ty A) (enc : A → PyData) : Prop where
  to : ∀ a v m, t.rep a v m → Dp K m v (enc a)
structure OfD {A : Type} (K : PySem.W.Frag) (t : Ty A) (dec : PyData → Option A) : Prop where
  of : ∀ d a v m, dec d = some a → Dp K m v d → t.rep a v m
structure ToDL {A : Type} (K : PySem.W.Frag) (l : LTy A) (enc : A → List PyData) : Prop where
  to : ∀ a vs m, l.rep a vs m → DpAll K m vs (enc a)
structure OfDL {A : Type} (K : PySem.W.Frag) (l : LTy A) (dec : List PyData → Option A) : Prop where
  of : ∀ ds a vs m, dec ds = some a → DpAll K m vs ds → l.rep a vs m
def dInt : PyData → Option Int | .int i => some i | _ => none
def dBool : PyData → Option Bool | .bool b => some b | _ => none
def dStr : PyData → Option Str | .str x => some x | _ => none
def dNon : PyData → Option Unit | .none => some () | _ => none
def dOpt {A : Type} (f : PyData → Option A) : PyData → Option (Option A) | .none => some none | d => (f d).map some
def mapO {A B : Type} (f : A → Option B) : List A → Option (List B)
  | [] => some []
  | x :: r => (f x).bind fun y => (mapO f r).map (y :: ·)
def dVT {A : Type} (f : PyData → Option A) : PyData → Option (List A) | .tuple ds => mapO f ds | _ => none
def dSeq {A : Type} (f : PyData → Option A) : PyData → Option (List A) | .list ds => mapO f ds | _ => none
def dTup {A : Type} (g : List PyData → Option A) : PyData → Option A | .tuple ds => g ds | _ => none
def dL0 : List PyData → Option Unit | [] => some () | _ => none
def dL1 {A : Type} (f : PyData → Option A) : List PyData → Option A | [d] => f d | _ => none
def dLc {A B : Type} (f : PyData → Option A) (g : List PyData → Option B) : List PyData → Option (A × B)
  | d :: r => (f d).bind fun a => (g r).map fun b => (a, b)
  | [] => none
def dD (d : PyData) : Option PyData := some d
def nOpt {A : Type} (f : A → PyData) : Option A → PyData | none => .none | some a => f a
def nVT {A : Type} (f : A → PyData) (xs : List A) : PyData := .tuple (xs.map f)
def nList {A : Type} (f : A → PyData) (xs : List A) : PyData := .list (xs.map f)
def nTup {A : Type} (g : A → List PyData) (a : A) : PyData := .tuple (g a)
def nRec {A : Type} (g : A → List PyData) (a : A) : PyData := .list (g a)
def nAlt {A B : Type} (f : A → PyData) (g : B → PyData) : Sum A B → PyData | .inl a => f a | .inr b => g b
def nL0 (_ : Unit) : List PyData := []
def nL1 {A : Type} (f : A → PyData) (a : A) : List PyData := [f a]
def nLc {A B : Type} (f : A → PyData) (g : B → List PyData) (p : A × B) : List PyData := f p.1 :: g p.2
def nNon (_ : Unit) : PyData := .none
section
variable {A B : Type} {K : PySem.W.Frag} {t : Ty A} {u : Ty B} {l : LTy B} {f : A → PyData} {g : B → PyData} {q : B → List PyData} {df : PyData → Option A} {dq : List PyData → Option B}
theorem to_int : ToD K tInt .int := ⟨fun a v m r => by cases rep_int r; exact .int a⟩
theorem to_bool : ToD K tBool .bool := ⟨fun a v m r => by cases rep_bool r; exact .bl a⟩
theorem to_str : ToD K tStr .str := ⟨fun a v m r => by cases rep_str r; exact .str a⟩
theorem to_non : ToD K tNon nNon := ⟨fun a v m r => by have r : v = .non := r; subst r; exact .non⟩
theorem to_D : ToD K (tD K) id := ⟨fun a v m r => r⟩
theorem to_opt (h : ToD K t f) : ToD K (tOpt t) (nOpt f) := ⟨fun a v m r => by
  cases a with
  | none => have r : v = .non := r; subst r; exact .non
  | some a => exact h.to a v m r⟩
theorem reps_to (h : ToD K t f) {m : Hp} {xs : List A} {vs : List V} (r : Reps t m xs vs) : DpAll K m vs (xs.map f) := by
  induction r with
  | nil => exact .nil
  | cons x _ ih => exact .cons (h.to _ _ _ x) ih
theorem to_vt (h : ToD K t f) : ToD K (tVT K t) (nVT f) := ⟨fun a v m ⟨p, vs, e, k, r⟩ => by subst e; exact .tup k (reps_to h r)⟩
theorem to_vts (h : ToD K t f) : ToD K (tVTS t) (nVT f) := ⟨fun a v m ⟨p, vs, e, k, r⟩ => by subst e; exact .tup (.of k) (reps_to h r)⟩
theorem to_list (h : ToD K t f) : ToD K (tList t) (nList f) := ⟨fun a v m ⟨p, vs, e, k, r⟩ => by subst e; exact .lst (.of k) (reps_to h r)⟩
theorem to_seq (h : ToD K t f) : ToD K (tSeq K t) (nList f) := ⟨fun a v m ⟨p, vs, e, k, r⟩ => by subst e; exact .lst k (reps_to h r)⟩
theorem to_l0 : ToDL K l0 nL0 := ⟨fun a vs m r => by cases r; exact .nil⟩
theorem to_l1 (h : ToD K t f) : ToDL K (l1 t) (nL1 f) := ⟨fun a vs m ⟨v, e, r⟩ => by subst e; exact .cons (h.to _ _ _ r) .nil⟩
theorem to_lc (h : ToD K t f) (k : ToDL K l q) : ToDL K (lc t l) (nLc f q) := ⟨fun a vs m ⟨v, ws, e, r, z⟩ => by subst e; exact .cons (h.to _ _ _ r) (k.to _ _ _ z)⟩
theorem to_tup (k : ToDL K l q) : ToD K (tTup K l) (nTup q) := ⟨fun a v m ⟨p, vs, e, z, r⟩ => by subst e; exact .tup z (k.to _ _ _ r)⟩
theorem to_tups (k : ToDL K l q) : ToD K (tTupS l) (nTup q) := ⟨fun a v m ⟨p, vs, e, z, r⟩ => by subst e; exact .tup (.of z) (k.to _ _ _ r)⟩
theorem to_rec (k : ToDL K l q) : ToD K (tRec l) (nRec q) := ⟨fun a v m ⟨p, vs, e, z, r⟩ => by subst e; exact .lst (.of z) (k.to _ _ _ r)⟩
theorem to_alt (h : ToD K t f) (k : ToD K u g) : ToD K (tAlt t u) (nAlt f g) := ⟨fun a v m r => by
  cases a with
  | inl a => exact h.to a v m r
  | inr b => exact k.to b v m r⟩
theorem of_int : OfD K tInt dInt := ⟨fun d a v m e r => by cases d <;> simp only [dInt] at e <;> cases e; cases r; rfl⟩
theorem of_bool : OfD K tBool dBool := ⟨fun d a v m e r => by cases d <;> simp only [dBool] at e <;> cases e; cases r; rfl⟩
theorem of_str : OfD K tStr dStr := ⟨fun d a v m e r => by cases d <;> simp only [dStr] at e <;> cases e; cases r; rfl⟩
theorem of_non : OfD K tNon dNon := ⟨fun d a v m e r => by cases d <;> simp only [dNon] at e <;> cases e; cases r; rfl⟩
theorem of_D : OfD K (tD K) dD := ⟨fun d a v m e r => by cases e; exact r⟩
theorem of_opt (h : OfD K t df) : OfD K (tOpt t) (dOpt df) := ⟨fun d a v m e r => by
  have key : ∀ d, (df d).map some = some a → Dp K m v d → (tOpt t).rep a v m := fun d e r => by
    obtain ⟨b, hb, e⟩ := Option.map_eq_some_iff.mp e
    subst e
    exact h.of d b v m hb r
  cases d with
  | none => cases e; cases r; rfl
  | bool b => exact key _ e r
  | int b => exact key _ e r
  | str b => exact key _ e r
  | list b => exact key _ e r
  | tuple b => exact key _ e r
  | dict b => exact key _ e r⟩
theorem mapO_reps (h : OfD K t df) {m : Hp} : ∀ {ds : List PyData} {xs : List A} {vs : List V}, mapO df ds = some xs → DpAll K m vs ds → Reps t m xs vs
  | [], xs, vs, e, r => by cases e; cases r; exact .nil
  | d :: ds, xs, vs, e, r => by
    obtain ⟨y, hy, e⟩ := Option.bind_eq_some_iff.mp e
    obtain ⟨ys, hys, e⟩ := Option.map_eq_some_iff.mp e
    subst e
    cases r with
    | cons q r => exact .cons (h.of d y _ m hy q) (mapO_reps h hys r)
theorem of_vt (h : OfD K t df) : OfD K (tVT K t) (dVT df) := ⟨fun d a v m e r => by
  cases d <;> simp only [dVT] at e <;> try cases e
  cases r with
  | tup q r => exact ⟨_, _, rfl, q, mapO_reps h e r⟩⟩
theorem of_seq (h : OfD K t df) : OfD K (tSeq K t) (dSeq df) := ⟨fun d a v m e r => by
  cases d <;> simp only [dSeq] at e <;> try cases e
  cases r with
  | lst q r => exact ⟨_, _, rfl, q, mapO_reps h e r⟩⟩
theorem of_l0 : OfDL K l0 dL0 := ⟨fun ds a vs m e r => by
  cases ds with
  | nil => cases r; rfl
  | cons d ds => cases e⟩
theorem of_l1 (h : OfD K t df) : OfDL K (l1 t) (dL1 df) := ⟨fun ds a vs m e r => by
  cases ds with
  | nil => cases e
  | cons d ds =>
    cases ds with
    | cons _ _ => cases e
    | nil =>
      cases r with
      | cons q r => cases r; exact ⟨_, rfl, h.of d a _ m e q⟩⟩
theorem of_lc (h : OfD K t df) (k : OfDL K l dq) : OfDL K (lc t l) (dLc df dq) := ⟨fun ds a vs m e r => by
  cases ds with
  | nil => cases e
  | cons d ds =>
    obtain ⟨x, hx, e⟩ := Option.bind_eq_some_iff.mp e
    obtain ⟨y, hy, e⟩ := Option.map_eq_some_iff.mp e
    subst e
    cases r with
    | cons q r => exact ⟨_, _, rfl, h.of d x _ m hx q, k.of ds y _ m hy r⟩⟩
theorem of_tup (k : OfDL K l dq) : OfD K (tTup K l) (dTup dq) := ⟨fun d a v m e r => by
  cases d <;> simp only [dTup] at e <;> try cases e
  cases r with
  | tup q r => exact ⟨_, _, rfl, q, k.of _ a _ m e r⟩⟩
end
def dTuD : PyData → Option (List PyData) | .tuple ds => some ds | _ => none
def dLiD : PyData → Option (List PyData) | .list ds => some ds | _ => none
theorem to_vtD {K : PySem.W.Frag} : ToD K (tVT K (tD K)) PyData.tuple := ⟨fun a v m ⟨p, vs, e, k, r⟩ => by subst e; exact .tup k (dpAll_reps.mpr r)⟩
theorem to_listD {K : PySem.W.Frag} : ToD K (tList (tD K)) PyData.list := ⟨fun a v m ⟨p, vs, e, k, r⟩ => by subst e; exact .lst (.of k) (dpAll_reps.mpr r)⟩
theorem to_seqD {K : PySem.W.Frag} : ToD K (tSeq K (tD K)) PyData.list := ⟨fun a v m ⟨p, vs, e, k, r⟩ => by subst e; exact .lst k (dpAll_reps.mpr r)⟩
theorem of_vtD {K : PySem.W.Frag} : OfD K (tVT K (tD K)) dTuD := ⟨fun d a v m e r => by
  cases d <;> simp only [dTuD] at e <;> cases e
  cases r with
  | tup q r => exact ⟨_, _, rfl, q, dpAll_reps.mp r⟩⟩
theorem of_seqD {K : PySem.W.Frag} : OfD K (tSeq K (tD K)) dLiD := ⟨fun d a v m e r => by
  cases d <;> simp only [dLiD] at e <;> cases e
  cases r with
  | lst q r => exact ⟨_, _, rfl, q, dpAll_reps.mp r⟩⟩
section
variable {X : Cx} {T A B : Type} {c : Ctx T} {ds : List Desc} {t : Ty A} {e : Expr} {pos : Pos}
theorem x_toD (K : PySem.W.Frag) {f : A → PyData} {xa : MM T A} (h : ToD K t f) (he : PE X e (TX c ds t xa)) : PE X e (TX c ds (tD K) (e1 (fun a => some (f a)) xa)) := PE.imp he fun σ H Q ⟨m, st, env, p⟩ => ⟨m, st, env, (Post.bnd.mp p).imp fun a s1 p v m1 H1 w1 a1 r1 => p v m1 H1 w1 a1 (h.to a v m1 r1)⟩
theorem x_ofD {K : PySem.W.Frag} {f : PyData → Option A} {xa : MM T PyData} (h : OfD K t f) (he : PE X e (TX c ds (tD K) xa)) : PE X e (TX c ds t (e1 f xa)) := PE.imp he fun σ H Q ⟨m, st, env, p⟩ => ⟨m, st, env, (Post.bnd.mp p).imp fun d s1 p v m1 H1 w1 a1 r1 => by
  obtain ⟨a, ha, p⟩ := Post.lft.mp p
  exact p v m1 H1 w1 a1 (h.of d a v m1 ha r1)⟩
end
/-! ### == -/
def oEqD (a b : PyData) : Option Bool := if SeqAt.shaped a = true ∧ SeqAt.shaped b = true then some (PyData.eqv a b) else none
def oNeD (a b : PyData) : Option Bool := if SeqAt.shaped a = true ∧ SeqAt.shaped b = true then some (!PyData.eqv a b) else none
theorem sp_eqDD {K : PySem.W.Frag} : Op2 (rEqD K) (tD K) (tD K) tBool oEqD := fun a b g v1 v2 m H Q r1 r2 hm eg q => by
  unfold oEqD at eg
  by_cases z : SeqAt.shaped a = true ∧ SeqAt.shaped b = true
  · rw [if_pos z] at eg; cases eg
    exact ⟨a, b, Dp.mono' hm _ _ r1, Dp.mono' hm _ _ r2, z.1, z.2, q _ m H (.refl hm) rfl⟩
  · rw [if_neg z] at eg; cases eg
theorem sp_neDD {K : PySem.W.Frag} : Op2 (rNeD K) (tD K) (tD K) tBool oNeD := fun a b g v1 v2 m H Q r1 r2 hm eg q => by
  unfold oNeD at eg
  by_cases z : SeqAt.shaped a = true ∧ SeqAt.shaped b = true
  · rw [if_pos z] at eg; cases eg
    exact ⟨a, b, Dp.mono' hm _ _ r1, Dp.mono' hm _ _ r2, z.1, z.2, q _ m H (.refl hm) rfl⟩
  · rw [if_neg z] at eg; cases eg
/-! ### isinstance -/
def isT (k : String) : PyData → Bool
  | .none => false
  | .bool _ => k == "bool" || k == "int"
  | .int _ => k == "int"
  | .str _ => k == "str"
  | .list _ => k == "list"
  | .tuple _ => k == "tuple"
  | .dict _ => k == "dict"
structure IsK (k : String) : Prop where
  n : kitB "NoneType" k = some false
  b : kitB "bool" k = some (k == "bool" || k == "int")
  i : kitB "int" k = some (k == "int")
  s : kitB "str" k = some (k == "str")
  l : kitB "list" k = some (k == "list")
  t : kitB "tuple" k = some (k == "tuple")
theorem sqL_ty {K : PySem.W.Frag} {H : Hp} {p : Addr} {vs : List V} (h : SqL K H p vs) : TyX K H (.ref p) (.type "list") := by
  rcases h with (h | ⟨o, h⟩) | ⟨o, its, n, hk, hc, _⟩
  · exact .base (.lst h)
  · exact .base (.frz h)
  · exact .kList hk hc
theorem sp_isiD {K : PySem.W.Frag} {k : String} (h : IsK k) : OpL (rIsi K) (lc (tD K) (l1 (tTy k))) tBool (fun a => some (isT k a.1)) := fun a g vs m H Q ⟨v, ws, ev, r, u, eu, ru⟩ hm e q => by
  subst ev eu; cases e
  have e2 : u = .ty k := ru
  subst e2
  obtain ⟨d, z⟩ := a
  have r : Dp K H v d := Dp.mono' hm _ _ r
  have key : ∀ {n : String} {b : Bool}, TyX K H v (.type n) → kitB n k = some b → isT k d = b → rIsi K [v, .ty k] H Q := fun ty hk hb =>
    ⟨v, _, .type _, .type k, _, rfl, .ty k, ty, kit_ty hk, by rw [← hb]; exact q _ m H (.refl hm) rfl⟩
  cases r with
  | non => exact key (.base .non) h.n rfl
  | bl b => exact key (.base (.bl b)) h.b rfl
  | int b => exact key (.base (.int b)) h.i rfl
  | str b => exact key (.base (.str b)) h.s rfl
  | lst sq _ => exact key (sqL_ty sq) h.l rfl
  | tup sq _ => exact key (sqT_ty sq) h.t rfl
theorem isk_int : IsK "int" := ⟨by decide +kernel, by decide +kernel, by decide +kernel, by decide +kernel, by decide +kernel, by decide +kernel⟩
theorem isk_bool : IsK "bool" := ⟨by decide +kernel, by decide +kernel, by decide +kernel, by decide +kernel, by decide +kernel, by decide +kernel⟩
theorem isk_str : IsK "str" := ⟨by decide +kernel, by decide +kernel, by decide +kernel, by decide +kernel, by decide +kernel, by decide +kernel⟩
theorem isk_list : IsK "list" := ⟨by decide +kernel, by decide +kernel, by decide +kernel, by decide +kernel, by decide +kernel, by decide +kernel⟩
theorem isk_tuple : IsK "tuple" := ⟨by decide +kernel, by decide +kernel, by decide +kernel, by decide +kernel, by decide +kernel, by decide +kernel⟩
/-! ### None, truth, length -/
def oNoneD (d : PyData) (_ : Unit) : Option Bool := some (match d with | .none => true | _ => false)
def oNotNoneD (d : PyData) (_ : Unit) : Option Bool := some (match d with | .none => false | _ => true)
theorem sp_isND {K : PySem.W.Frag} : Op2 (fun x y H Q => y = .non ∧ Q (.bl (decide (x = .non))) H) (tD K) tNon tBool oNoneD := fun a b g v1 v2 m H Q r1 r2 hm e q => by
  cases e
  have r1 : Dp K m v1 a := r1
  refine ⟨r2, ?_⟩
  cases r1 <;> exact q _ m H (.refl hm) (by first | rfl | simp [tBool])
theorem sp_notND {K : PySem.W.Frag} : Op2 (fun x y H Q => y = .non ∧ Q (.bl (!decide (x = .non))) H) (tD K) tNon tBool oNotNoneD := fun a b g v1 v2 m H Q r1 r2 hm e q => by
  cases e
  have r1 : Dp K m v1 a := r1
  refine ⟨r2, ?_⟩
  cases r1 <;> exact q _ m H (.refl hm) (by first | rfl | simp [tBool])
def fD : PyData → Option Bool
  | .none => some false
  | .bool b => some b
  | .int i => some (i != 0)
  | .str x => if x.length ≤ 100000 then some ((x.length : Int) != 0) else none
  | .list xs => some (!xs.isEmpty)
  | .tuple xs => some (!xs.isEmpty)
  | .dict _ => none
theorem dpAll_emp {K : PySem.W.Frag} {m : Hp} {ds : List PyData} {vs : List V} (r : DpAll K m vs ds) : (!ds.isEmpty) = !vs.isEmpty := by cases r <;> rfl
theorem tru_D {K : PySem.W.Frag} : TruT K (tD K) fD := ⟨fun a v m H k r0 hm z => by
  have r0 : Dp K m v a := r0
  cases r0 with
  | non => cases z; rfl
  | bl b => cases z; rfl
  | int i => cases z; rfl
  | str x => exact (tru_str (K := K)).tr x _ m H k rfl hm z
  | lst sq rr => cases z; exact .inl ⟨_, hm.sqL sq, dpAll_emp rr⟩
  | tup sq rr => cases z; exact .inr (.inl ⟨_, hm.sqT sq, dpAll_emp rr⟩)⟩
theorem dpAll_len {K : PySem.W.Frag} {m : Hp} : ∀ {ds : List PyData} {vs : List V}, DpAll K m vs ds → ds.length = vs.length
  | [], _, h => by cases h; rfl
  | d :: ds, _, h => by cases h with | cons q r => rw [List.length_cons, List.length_cons, dpAll_len r]
def oLenD : PyData → Option Int
  | .str x => if x.length ≤ 100000 then some (x.length : Int) else none
  | .list xs => some (xs.length : Int)
  | .tuple xs => some (xs.length : Int)
  | _ => none
def rLenD (K : PySem.W.Frag) : List V → Hp → VK → Prop := fun xs H Q => rLen K xs H Q ∨ (∃ z, xs = [.str z] ∧ z.length ≤ sizeLine ∧ Q (.int z.length) H)
theorem call_lenD {X : Cx} : CallR X (.builtin "len") (rLenD X.K) := fun pins s σ H xs us Q I r h => by
  rcases h with h | h
  · exact call_len' pins s σ H xs us Q I r h
  · exact call_len_str pins s σ H xs us Q I r h
theorem sp_lenD {K : PySem.W.Frag} : OpL (rLenD K) (l1 (tD K)) tInt oLenD := fun a g vs m H Q ⟨v, ev, r0⟩ hm e q => by
  subst ev
  have r0 : Dp K m v a := r0
  cases r0 with
  | non => cases e
  | bl b => cases e
  | int i => cases e
  | str x =>
    refine .inr ?_
    simp only [oLenD] at e
    by_cases z : x.length ≤ 100000
    · rw [if_pos z] at e; cases e
      exact ⟨x, rfl, Nat.le_trans z (by decide), q _ m H (.refl hm) rfl⟩
    · rw [if_neg z] at e; cases e
  | lst sq rr => cases e; exact .inl ⟨_, _, rfl, .inl (hm.sqL sq), q _ m H (.refl hm) (by show V.int _ = V.int _; rw [dpAll_len rr])⟩
  | tup sq rr => cases e; exact .inl ⟨_, _, rfl, .inr (hm.sqT sq), q _ m H (.refl hm) (by show V.int _ = V.int _; rw [dpAll_len rr])⟩
/-! ### tuples joined -/
def oCatT {A : Type} (a b : List A) : Option (List A) := if a.length + b.length ≤ 100000 then some (a ++ b) else none
theorem sp_catT {A : Type} {K : PySem.W.Frag} {t : Ty A} : Op2 (rCatA K) (tVT K t) (tVT K t) (tVT K t) oCatT := fun a b g v1 v2 m H Q ⟨p, xs, e1, k1, r1⟩ ⟨q, ys, e2, k2, r2⟩ hm e qq => by
  unfold oCatT at e
  by_cases z : a.length + b.length ≤ 100000
  · rw [if_pos z] at e; cases e
    refine ⟨p, q, xs, ys, e1, e2, hm.sqT k1, hm.sqT k2, by rw [← r1.length, ← r2.length]; exact Nat.le_trans z (by rw [sizeLine_eq]; decide), fun hx => ?_, fun _ hy => ?_, fun _ _ w hw => ?_⟩
    · subst hx
      cases r1
      exact qq _ m H (.refl hm) ⟨q, ys, rfl, k2, r2⟩
    · subst hy
      cases r2
      rw [List.append_nil] at qq
      exact qq _ m H (.refl hm) ⟨p, xs, rfl, k1, r1⟩
    · have w4 : WStep [] m H (upd m w (.tup (xs ++ ys))) (upd H w (.tup (xs ++ ys))) := .new hm hw
      exact qq _ _ _ w4 ⟨w, _, rfl, .of upd_same, (r1.append r2).mono w4.mm⟩
  · rw [if_neg z] at e; cases e
end WL

/-! WLFF: defs that call themselves; dicts of the module. -/
namespace WL
open PySem PySem.Spec PyProof.Rows L2
/-! ### a promise that is never asked -/
theorem fn_false {P : Program} {w : World} {K : PySem.W.Frag} {mg : Str → Option Value} {base : Heap} {CX : CXT} {k : Nat} {f : Addr} {fd : FuncData} {ps : List Str} {sp : Sp} (h : ∀ vs H Q E, ¬ sp vs H Q E) : FnOk P w K mg base CX k f fd ps sp :=
  ⟨fun vs H Q E q => (h vs H Q E q).elim, fun _ _ _ H _ _ vs Q E _ _ _ _ q => (h vs H Q E q).elim⟩
section
variable {T A B : Type} {cls : Nat → Addr}
theorem spF_stk {l : LTy A} {t : Ty B} {f : A → MM Unit B} (h : ∀ a, f a = stk) : ∀ vs H Q E, ¬ SpF cls l t f vs H Q E := fun vs H Q E ⟨a, m, r, s, p⟩ => by rw [h] at p; exact p
theorem spFO_stk {l : LTy A} {o : OTy B} {f : A → MM Unit B} (h : ∀ a, f a = stk) : ∀ vs H Q E, ¬ SpFO cls l o f vs H Q E := fun vs H Q E ⟨a, m, r, s, p⟩ => by rw [h] at p; exact p
theorem spP_stk {l : LTy T} {la : Addr → LTy A} {t : Ty B} {f : A → MM T B} (h : ∀ a, f a = stk) : ∀ vs H Q E, ¬ SpP cls l la t f vs H Q E := fun vs H Q E ⟨p0, a, m, st, r, s, n, am, p⟩ => by rw [h] at p; exact p
theorem spPO_stk {l : LTy T} {la : Addr → LTy A} {o : OTy B} {f : A → MM T B} (h : ∀ a, f a = stk) : ∀ vs H Q E, ¬ SpPO cls l la o f vs H Q E := fun vs H Q E ⟨p0, a, m, st, r, s, n, am, p⟩ => by rw [h] at p; exact p
theorem spA_stk {C : Addr} {F : List (FO T)} {la : Addr → LTy A} {t : Ty B} {f : A → MM T B} (h : ∀ a, f a = stk) : ∀ vs H Q E, ¬ SpA cls C F la t f vs H Q E := fun vs H Q E ⟨j, a, m, st, r, s, n, am, p⟩ => by rw [h] at p; exact p
end
/-! ### dicts of the module, by texts -/
def Ents {A : Type} (t : Ty A) : List DictEntry → List (Str × A) → Prop
  | [], [] => True
  | e :: r, (k, b) :: ps => (∃ tok, e.key = .str k tok) ∧ (∃ v, RelV v e.val ∧ ∀ m, t.rep b v m) ∧ Ents t r ps
  | _, _ => False
theorem isStr_dec (k z : Str) (tok : Tok) : (Value.str k tok).isStr z = decide (k = z) := by
  show (k == z) = _
  by_cases h : k = z
  · subst h; simp
  · rw [decide_eq_false h]; simpa using h
theorem ents_find {A : Type} {t : Ty A} (z : Str) : ∀ {l : List DictEntry} {ps : List (Str × A)}, Ents t l ps → (aGet ps z = none ∧ l.find? (fun e => e.key.isStr z) = none) ∨ ∃ b e v, aGet ps z = some b ∧ l.find? (fun e => e.key.isStr z) = some e ∧ RelV v e.val ∧ ∀ m, t.rep b v m
  | [], [], _ => .inl ⟨rfl, rfl⟩
  | [], _ :: _, h => h.elim
  | _ :: _, [], h => h.elim
  | e :: r, (k, b) :: ps, ⟨⟨tok, hk⟩, ⟨v, rv, rt⟩, h⟩ => by
    unfold aGet
    rw [List.find?_cons, List.find?_cons, hk, isStr_dec]
    by_cases q : k = z
    · rw [decide_eq_true q]
      exact .inr ⟨b, e, v, rfl, rfl, rv, rt⟩
    · rw [decide_eq_false q]
      exact ents_find z h
theorem ents_ref {A : Type} {t : Ty A} : ∀ {l : List DictEntry} {ps : List (Str × A)}, Ents t l ps → l.any (·.refKey) = false
  | [], [], _ => rfl
  | [], _ :: _, h => h.elim
  | _ :: _, [], h => h.elim
  | e :: r, (k, b) :: ps, ⟨⟨tok, hk⟩, _, h⟩ => by
    rw [List.any_cons, ents_ref h, Bool.or_false]
    unfold DictEntry.refKey
    rw [hk]
structure DicC {A : Type} (K : PySem.W.Frag) (w : World) (mg : Str → Option Value) (x : Str) (t : Ty A) (ps : List (Str × A)) where
  p : Addr
  g : mg x = some (.ref p)
  es : Array DictEntry
  n : Nat
  D : KDict K w p es n
  e : Ents t es.toList ps
theorem DicC.ns {A : Type} {K : PySem.W.Frag} {w : World} {mg : Str → Option Value} {x : Str} {t : Ty A} {ps : List (Str × A)} (C : DicC K w mg x t ps) (z : Str) :
    (aGet ps z = none ∧ PySem.W.nsIn K C.p z = some none) ∨ ∃ b u v, aGet ps z = some b ∧ PySem.W.nsIn K C.p z = some (some u) ∧ RelV v u ∧ ∀ m, t.rep b v m := by
  unfold PySem.W.nsIn
  rw [C.D.at_]
  rcases ents_find z C.e with ⟨h1, h2⟩ | ⟨b, e, v, h1, h2, h3, h4⟩
  · left
    refine ⟨h1, ?_⟩
    dsimp only
    rw [h2, ents_ref C.e]
    rfl
  · right
    refine ⟨b, e.val, v, h1, ?_, h3, h4⟩
    dsimp only
    rw [h2]
theorem ix_kd {X : Cx} {d : Addr} {es : Array DictEntry} {n : Nat} (D : KDict X.K X.w d es n) : IxR X (fun x y H Q => ∃ (z : Str) (u0 : Value) (v0 : V), x = .ref d ∧ y = .str z ∧ PySem.W.nsIn X.K d z = some (some u0) ∧ RelV v0 u0 ∧ Q v0 H) := by
  intro value slice pins s σ H x y v u Q I rx ry h hs
  obtain ⟨z, u0, v0, rfl, rfl, e, r, q⟩ := h
  cases rx
  obtain ⟨t, rfl⟩ := ry
  exact tail_any (kd_type D I) PySem.F.slot_dict_getitem.lookup (wpAny_getItem_of (PySem.strKind_is X.prog X.w z t) (PySem.W.mapOf_K (prog := X.prog) I.kIn D.at_ D.lit) (PySem.W.find_K D.at_ e) ⟨v0, H, I.tok _, r, q⟩) hs
def tKGet2 (K : PySem.W.Frag) (d : Addr) (ty tx : TE) : TE := fun σ H Q => ty σ H fun y H1 => tx σ H1 fun z H2 => ∃ (k : Str) (r : Option Value), y = .str k ∧ PySem.W.nsIn K d k = some r ∧ (r = none → Q z H2) ∧ (∀ u, r = some u → ∃ v, RelV v u ∧ Q v H2)
theorem pe_kget2 {X : Cx} {o e f : Expr} {apos cpos : Pos} {ty tx : TE} {d : Addr} {es : Array DictEntry} {n : Nat} (D : KDict X.K X.w d es n) (ho : PE X o (tC (.ref d))) (he : PE X e ty) (hf : PE X f tx) (m : M2 X o "get" apos e f cpos) : PE X (.Call (.Attribute o "get" apos) [e, f] [] cpos) (tKGet2 X.K d ty tx) := by
  refine ⟨fun pins s σ H Q I h => ?_⟩
  refine wpAny_Call_method m.base m.few m.line PySem.F.plainAttrs_dict PySem.F.slot_dict_get PySem.F.type_dict_get (thn (ho.run pins s σ H (fun v H1 => v = .ref d ∧ tKGet2 X.K d ty tx σ H1 Q) I ⟨rfl, h⟩) fun u s1 ⟨x, H1, I1, rx, ex, q1⟩ => ?_)
  subst ex
  obtain rfl : u = Value.ref d := rx
  refine ⟨kd_type D I1, fun b q => ?_, ?_⟩
  · cases q
    exact ⟨_, I1.kIn _ _ D.at_, rfl⟩
  rw [m.trees]
  refine Calls.callWith_builtin rfl (Calls.evalArgs_plain (Calls.spliced_cons (thn (he.run pins s1 σ H1 _ I1 q1) fun iv s2 ⟨y, H2, I2, ry, q2⟩ =>
    Calls.spliced_cons (thn (hf.run pins s2 σ H2 _ I2 q2) fun fv s3 ⟨z, H3, I3, rz, k, r, ey, hr, q3, q4⟩ => Calls.spliced_nil ?_))))
  subst ey
  obtain ⟨t, rfl⟩ := ry
  refine call_meetsIn PySem.F.slot_dict_get (kd_type D I3) PySem.F.entry_dict_get (PySem.F.args_dict_get_3 _ _ _) (meets_dict_get_default (PySem.strKind X.prog X.w) d (PySem.strKind_is X.prog X.w k t) D.low fv) ⟨_, PySem.W.mapOf_K (prog := X.prog) I3.kIn D.at_ D.lit, ?_⟩
  rw [PySem.W.find_K D.at_ hr]
  cases r with
  | none => exact ⟨z, H3, I3.tok _, rz, q3 rfl⟩
  | some u => obtain ⟨v, rv, q⟩ := q4 u rfl; exact ⟨v, H3, I3.tok _, rv, q⟩
section
variable {X : Cx} {T A : Type} {c : Ctx T} {ds : List Desc} {t : Ty A} {pos p2 apos cpos : Pos} {x : Str} {ps : List (Str × A)} {e ev : Expr} {xk : MM T Str} {xv : MM T A}
theorem rd_inC {r : Bool} {σ : L2.St} {H : Hp} {Q : VK} (C : DicC X.K X.w X.mg x t ps) (h : TX c ds tBool (e1 (fun a => some (if r then !aHas ps a else aHas ps a)) xk) σ H Q) :
    tOp (fun x y H Q => ∃ (z : Str) (o : Option Value), x = .str z ∧ y = .ref C.p ∧ PySem.W.nsIn X.K C.p z = some o ∧ Q (.bl (if r then !o.isSome else o.isSome)) H) (TX c ds tStr xk) (tC (.ref C.p)) σ H Q := by
  obtain ⟨m, st, env, p⟩ := h
  refine ⟨m, st, env, (Post.bnd.mp p).imp fun a s1 p v m1 H1 w1 a1 r1 => ?_⟩
  obtain ⟨k, hk, p⟩ := Post.lft.mp p
  cases hk
  cases rep_str r1
  have key : ∀ o : Option Value, PySem.W.nsIn X.K C.p a = some o → o.isSome = aHas ps a → ∃ (z : Str) (o : Option Value), V.str a = .str z ∧ V.ref C.p = .ref C.p ∧ PySem.W.nsIn X.K C.p z = some o ∧ Q (.bl (if r then !o.isSome else o.isSome)) H1 := fun o ho hs =>
    ⟨a, o, rfl, rfl, ho, by rw [hs]; exact p _ m1 H1 w1 a1 rfl⟩
  rcases C.ns a with ⟨h1, h2⟩ | ⟨b, u, v, h1, h2, _, _⟩
  · exact key none h2 (by unfold aHas; rw [h1]; rfl)
  · exact key (some u) h2 (by unfold aHas; rw [h1]; rfl)
theorem x_inC (C : DicC X.K X.w X.mg x t ps) (he : PE X e (TX c ds tStr xk)) (hg : Gl X x := by rfl) (hd : (x == ("__debug__" : Str)) = false := by decide) (hm : behindInMarks .In (.Name x p2) = false := by first | exact nomark _ | rfl) :
    PE X (.Compare e [.In] [.Name x p2] pos) (TX c ds tBool (e1 (fun a => some (aHas ps a)) xk)) := PE.imp (pe_cmpR (op_in_kd C.D) he (pe_glob (v := V.ref C.p) hg C.g rfl hd) hm) fun _ _ _ h => rd_inC (r := false) C h
theorem x_ninC (C : DicC X.K X.w X.mg x t ps) (he : PE X e (TX c ds tStr xk)) (hg : Gl X x := by rfl) (hd : (x == ("__debug__" : Str)) = false := by decide) (hm : behindInMarks .NotIn (.Name x p2) = false := by first | exact nomark _ | rfl) :
    PE X (.Compare e [.NotIn] [.Name x p2] pos) (TX c ds tBool (e1 (fun a => some (!aHas ps a)) xk)) := PE.imp (pe_cmpR (op_notIn_kd C.D) he (pe_glob (v := V.ref C.p) hg C.g rfl hd) hm) fun _ _ _ h => rd_inC (r := true) C h
theorem t_inC (C : DicC X.K X.w X.mg x t ps) (he : PE X e (TX c ds tStr xk)) (hg : Gl X x := by rfl) (hd : (x == ("__debug__" : Str)) = false := by decide) (hm : behindInMarks .In (.Name x p2) = false := by first | exact nomark _ | rfl) :
    PT X (.Compare e [.In] [.Name x p2] pos) (TTX c ds (e1 (fun a => some (aHas ps a)) xk)) := PT.imp (pt_cmpR (op_in_kd C.D) he (pe_glob (v := V.ref C.p) hg C.g rfl hd) hm) fun σ H Q ⟨m, st, env, p⟩ => by
  have q : TX c ds tBool (e1 (fun a => some (aHas ps a)) xk) σ H (fun x H' => ∃ k, x = .bl k ∧ Q k H') := ⟨m, st, env, p.imp fun a s1 p v m1 H1 w1 a1 r1 => ⟨a, r1, p m1 H1 w1 a1⟩⟩
  exact rd_inC (r := false) C q
theorem t_ninC (C : DicC X.K X.w X.mg x t ps) (he : PE X e (TX c ds tStr xk)) (hg : Gl X x := by rfl) (hd : (x == ("__debug__" : Str)) = false := by decide) (hm : behindInMarks .NotIn (.Name x p2) = false := by first | exact nomark _ | rfl) :
    PT X (.Compare e [.NotIn] [.Name x p2] pos) (TTX c ds (e1 (fun a => some (!aHas ps a)) xk)) := PT.imp (pt_cmpR (op_notIn_kd C.D) he (pe_glob (v := V.ref C.p) hg C.g rfl hd) hm) fun σ H Q ⟨m, st, env, p⟩ => by
  have q : TX c ds tBool (e1 (fun a => some (!aHas ps a)) xk) σ H (fun x H' => ∃ k, x = .bl k ∧ Q k H') := ⟨m, st, env, p.imp fun a s1 p v m1 H1 w1 a1 r1 => ⟨a, r1, p m1 H1 w1 a1⟩⟩
  exact rd_inC (r := true) C q
/-- D[k] -/
theorem x_getC (C : DicC X.K X.w X.mg x t ps) (he : PE X e (TX c ds tStr xk)) (hg : Gl X x := by rfl) (hd : (x == ("__debug__" : Str)) = false := by decide) (hp : PlainIx e := by exact fun _ _ => rfl) :
    PE X (.Subscript (.Name x p2) e pos) (TX c ds t (bnd xk fun k => lft (aGet ps k))) := PE.imp (pe_ix (ix_kd C.D) (pe_glob (v := V.ref C.p) hg C.g rfl hd) he hp) fun σ H Q ⟨m, st, env, p⟩ => by
  refine ⟨m, st, env, (Post.bnd.mp p).imp fun a s1 p v m1 H1 w1 a1 r1 => ?_⟩
  obtain ⟨b, hb, p⟩ := Post.lft.mp p
  cases rep_str r1
  rcases C.ns a with ⟨h1, h2⟩ | ⟨b', u, v, h1, h2, h3, h4⟩
  · rw [h1] at hb; cases hb
  · rw [h1] at hb; cases hb
    exact ⟨a, u, v, rfl, rfl, h2, h3, p v m1 H1 w1 a1 (h4 m1)⟩
/-- D.get(k, z) -/
theorem x_getDC (C : DicC X.K X.w X.mg x t ps) (he : PE X e (TX c ds tStr xk)) (hv : PE X ev (TX c ds t xv)) (hm : M2 X (.Name x p2) "get" apos e ev cpos) (hg : Gl X x := by rfl) (hd : (x == ("__debug__" : Str)) = false := by decide) :
    PE X (.Call (.Attribute (.Name x p2) "get" apos) [e, ev] [] cpos) (TX c ds t (bnd xk fun k => bnd xv fun z => ret ((aGet ps k).getD z))) := PE.imp (pe_kget2 C.D (pe_glob (v := V.ref C.p) hg C.g rfl hd) he hv hm) fun σ H Q ⟨m, st, env, p⟩ => by
  refine ⟨m, st, env, (Post.bnd.mp p).imp fun a s1 p v m1 H1 w1 a1 r1 => ?_⟩
  refine ⟨m1, s1, env.go w1 a1, (Post.bnd.mp p).imp fun z s2 p v2 m2 H2 w2 a2 r2 => ?_⟩
  cases rep_str r1
  rcases C.ns a with ⟨h1, h2⟩ | ⟨b', u, v, h1, h2, h3, h4⟩
  · rw [h1] at p
    exact ⟨a, none, rfl, h2, fun _ => p v2 m2 H2 (w1.trans w2) a2 r2, (fun u h => nomatch h)⟩
  · rw [h1] at p
    refine ⟨a, some u, rfl, h2, (fun h => nomatch h), fun u' h => ?_⟩
    cases h
    exact ⟨v, h3, p v m2 H2 (w1.trans w2) a2 (h4 m2)⟩
end
end WL

/-! WLGG: sets of texts, sorted; dict comprehensions by texts; dicts compared. -/
namespace WL
open PySem PySem.Spec PyProof.Rows L2
/-! ### each text once -/
def addS (acc : List Str) (k : Str) : List Str := if k ∈ acc then acc else acc ++ [k]
def ddS (ys : List Str) : List Str := ys.foldl addS []
theorem addS_nodup {acc : List Str} (h : acc.Nodup) (k : Str) : (addS acc k).Nodup := by
  unfold addS
  split
  · exact h
  · rename_i c
    exact List.nodup_append.mpr ⟨h, by simp, fun a ha b hb => by
      rw [List.mem_singleton] at hb
      subst hb
      intro z
      subst z
      exact c ha⟩
theorem addS_mem (acc : List Str) (k x : Str) : x ∈ addS acc k ↔ x ∈ acc ∨ x = k := by
  unfold addS
  split
  · rename_i c
    exact ⟨.inl, fun z => z.elim id fun e => e ▸ c⟩
  · simp
theorem ddS_spec (ys : List Str) : (ddS ys).Nodup ∧ ∀ x, x ∈ ddS ys ↔ x ∈ ys := by
  suffices H : ∀ (ys acc : List Str), acc.Nodup → (ys.foldl addS acc).Nodup ∧ ∀ x, x ∈ ys.foldl addS acc ↔ x ∈ acc ∨ x ∈ ys by
    obtain ⟨a, b⟩ := H ys [] .nil
    exact ⟨a, fun x => (b x).trans (by simp)⟩
  intro ys
  induction ys with
  | nil => intro acc h; exact ⟨h, fun x => by simp⟩
  | cons y r ih =>
    intro acc h
    obtain ⟨a, b⟩ := ih (addS acc y) (addS_nodup h y)
    refine ⟨a, fun x => ?_⟩
    show x ∈ r.foldl addS (addS acc y) ↔ _
    rw [b x, addS_mem, List.mem_cons]
    exact or_assoc
theorem ddS_snoc (ys : List Str) (c : Str) : ddS (ys ++ [c]) = addS (ddS ys) c := by unfold ddS; rw [List.foldl_append]; rfl
theorem ddS_le (ys : List Str) : (ddS ys).length ≤ ys.length := by
  suffices H : ∀ (ys acc : List Str), (ys.foldl addS acc).length ≤ acc.length + ys.length by
    have := H ys []
    unfold ddS
    simpa using this
  intro ys
  induction ys with
  | nil => intro acc; simp
  | cons y r ih =>
    intro acc
    have := ih (addS acc y)
    have e : (addS acc y).length ≤ acc.length + 1 := by unfold addS; split <;> simp
    show (r.foldl addS (addS acc y)).length ≤ _
    simp only [List.length_cons]
    omega
theorem perm_sub : ∀ {l ks : List Str}, l.Nodup → (∀ x ∈ l, x ∈ ks) → ks.length = l.length → ks.Perm l
  | [], ks, _, _, h => by rw [List.eq_nil_of_length_eq_zero h]
  | x :: l, ks, hn, hs, hl => by
    obtain ⟨h1, h2⟩ := List.nodup_cons.mp hn
    have hx : x ∈ ks := hs x List.mem_cons_self
    have p := List.perm_cons_erase hx
    refine p.trans (List.Perm.cons x (perm_sub h2 (fun y hy => ?_) ?_))
    · exact (List.mem_erase_of_ne (fun z => h1 (by rw [← z]; exact hy))).mpr (hs y (List.mem_cons_of_mem _ hy))
    · have := List.length_erase_of_mem hx
      rw [this, hl]; rfl
/-! ### a set of texts -/
def SetRS (P : Program) (w : World) (h : Heap) (a : Addr) (l : List Str) : Prop :=
  ∃ D : Froz.SD, h.get? a = some (Froz.sObj "set" D) ∧ Froz.TxOk P w D l ∧ l.Nodup ∧ Ris D.2.2.place.toList ∧ (w.params.followText "set-order" = true ∨ D.2.2.led = true)
section
variable {P : Program} {w : World} {A : Around} {E : Value → Shared → Prop} {s : Shared} {a : Addr} {l : List Str}
theorem SetRS.at {h h' : Heap} (R : SetRS P w h a l) (k : ∀ o, h.get? a = some o → h'.get? a = some o) : SetRS P w h' a l := by
  obtain ⟨D, ho, r⟩ := R
  exact ⟨D, k _ ho, r⟩
theorem setRS_fresh {h : Heap} : SetRS P w (h.push { cls := .type "set", dict := none, data := .set #[] 0 (.fresh 0 0 (!w.params.followText "set-order")) }) h.objs.size [] :=
  ⟨(#[], 0, _), Heap.get?_push_size _ rfl, .nil (by rfl), .nil, List.Pairwise.nil, by
    show _ ∨ (!w.params.followText "set-order") = true
    cases w.params.followText "set-order"
    · exact .inr rfl
    · exact .inl rfl⟩
theorem tailTx_ris {ep : Nat} {es1 : Array (Int × Value)} {t2 : SetTable} {wd : Bool} (h : Ris t2.place.toList) (k : w.params.followText "set-order" = true ∨ t2.led = true) :
    Ris (Froz.tailTx ep es1 t2 wd).2.2.place.toList ∧ (w.params.followText "set-order" = true ∨ (Froz.tailTx ep es1 t2 wd).2.2.led = true) := by
  unfold Froz.tailTx
  split
  · exact ⟨relayAll_ris _ _ _, k.imp id fun z => by show (relayAll t2 es1 (SetTable.grown es1.size)).2.1.led = true; rw [relayAll_led]; exact z⟩
  · exact ⟨h, k⟩
theorem addTx_ris {D : Froz.SD} {h : Int} {v : Value} (r : Ris D.2.2.place.toList) (k : w.params.followText "set-order" = true ∨ D.2.2.led = true) :
    Ris (Froz.addTx h v D).2.2.place.toList ∧ (w.params.followText "set-order" = true ∨ (Froz.addTx h v D).2.2.led = true) := by
  have h1 := layNew_ris D.2.2 D.1 h v r
  have h2 := layNew_led D.2.2 D.1 h v
  unfold Froz.addTx
  refine tailTx_ris ?_ (k.imp id fun z => ?_)
  · split <;> exact h1
  · split <;> exact h2.trans z
theorem setS_add_hashed {k : Str} {tk : Tok} {Q : Bool → Shared → Prop} (R : SetRS P w s.heap a l) (room : l.length + 1 < scanBound)
    (hQ : ∀ b h', Heap.SameBut a s.heap h' → SetRS P w h' a (addS l k) → Q b { s with heap := h' }) : wpAny (model P w) A (setAddHashed a (.str k tk) (hashStr w k)) Q E s := by
  obtain ⟨D, ho, F, hn, hr, hl⟩ := R
  by_cases hk : k ∈ l
  rotate_left
  · refine Froz.add_x ho F hk room (hQ _ _ (Heap.SameBut.update _ a _) ?_)
    obtain ⟨r1, r2⟩ := addTx_ris (w := w) (h := hashStr w k) (v := .str k tk) hr hl
    have e : addS l k = l ++ [k] := by unfold addS; rw [if_neg hk]
    have F2 := Froz.add_ok tk F (k := k)
    refine ⟨_, Froz.get_upd _ ho rfl, ⟨F2.el, fun x => ?_, ?_, F2.fit⟩, addS_nodup hn k, r1, r2⟩
    · rw [addS_mem, ← F2.mem x, List.mem_cons]; exact Or.comm
    · rw [e, F2.sz]; simp
  · have e : addS l k = l := by unfold addS; rw [if_pos hk]
    obtain ⟨es, ep, t⟩ := D
    have hd : (Froz.sObj "set" (es, ep, t)).data = .set es ep t := rfl
    have hf : t.fits es.size = true := F.fit
    have hel : ElemsOf (strKind P w) es.toList := F.el
    have hsz : es.size = l.length := F.sz
    have hb0 : es.size < scanBound := by omega
    obtain ⟨el, hel1, hel2⟩ := (F.mem k).mp hk
    have hs : ∃ j, List.findIdx? (fun e => (strKind P w).is k e.2) es.toList = some j := by
      cases q : List.findIdx? (fun e => (strKind P w).is k e.2) es.toList with
      | some j => exact ⟨j, rfl⟩
      | none =>
        have c := List.findIdx?_eq_none_iff.mp q el hel1
        rw [hel2] at c
        cases c
    obtain ⟨j, hj⟩ := hs
    unfold setAddHashed setAddHashedIn
    refine wpAny_holding (wpAny_bind (wpAny_setState_of ho hd hf ?_))
    dsimp only
    rw [byScan_of rfl hb0 hel]
    simp only [↓reduceIte]
    unfold setAddByScan
    refine wpAny_bind ?_
    refine wpAny_bind (wpAny_rule ?_)
    refine wpAny_bind (wpAny_setScan_of (knd := strKind P w) (k := k) (Froz.is_str k tk) ho hd hf hel ?_)
    rw [hj]
    dsimp only
    refine wpAny_pure (wpAny_pure ?_)
    exact hQ _ s.heap (Heap.SameBut.refl a s.heap) (by rw [e]; exact ⟨(es, ep, t), ho, F, hn, hr, hl⟩)
theorem SetRS.typeIs (R : SetRS P w s.heap a l) : s.TypeIs (.ref a) "set" := let ⟨_, ho, _⟩ := R; ⟨_, ho, rfl⟩
theorem setS_add {k : Str} {tk : Tok} {Q : Value → Shared → Prop} (R : SetRS P w s.heap a l) (room : l.length + 1 < scanBound)
    (hQ : ∀ h', Heap.SameBut a s.heap h' → SetRS P w h' a (addS l k) → Q .none { s with heap := h', toks := s.toks + 1 }) :
    wpAny (model P w) A (call (.builtin "set.add") [.ref a, .str k tk]) Q E s := by
  refine wpAny_call_entry F.slot_set_add R.typeIs F.entry_set_add ?_ (F.args_set_add_2 _ _)
  unfold Builtin.«set.add» Builtin.Frozenset.oneOther
  simp only [List.isEmpty_nil, bind_assoc]
  unfold Builtin.Frozenset.addrOf setAdd
  refine wpAny_bind (wpAny_pure ?_)
  try dsimp only
  refine wpAny_bind (wpAny_pure ?_)
  try dsimp only
  refine wpAny_bind ?_
  refine wpAny_holding ?_
  refine wpAny_bind ((strKind P w).pyHash (Froz.is_str k tk) ?_)
  refine setS_add_hashed (s := { s with toks := s.toks + 1 }) R room fun b h' sb r => ?_
  show wpAny _ _ (PySem.ret Value.none) _ _ _
  exact wpAny_pure ⟨_, rfl, hQ h' sb r⟩
theorem strs_of : ∀ (vs : List Value), (∀ v ∈ vs, ∃ k tk, v = Value.str k tk) → ∃ ks, StrsAre vs ks
  | [], _ => ⟨[], .nil⟩
  | v :: r, h => by
    obtain ⟨k, tk, rfl⟩ := h v List.mem_cons_self
    obtain ⟨ks, q⟩ := strs_of r fun u hu => h u (List.mem_cons_of_mem _ hu)
    exact ⟨k :: ks, .cons _ _ q⟩
theorem strsAre_mem {vs : List Value} {ks : List Str} (h : StrsAre vs ks) (k : Str) : k ∈ ks ↔ ∃ tk, Value.str k tk ∈ vs := by
  induction h with
  | nil => simp
  | cons x t h ih =>
    rw [List.mem_cons, ih]
    constructor
    · rintro (z | ⟨tk, z⟩)
      · subst z; exact ⟨_, List.mem_cons_self⟩
      · exact ⟨tk, List.mem_cons_of_mem _ z⟩
    · rintro ⟨tk, z⟩
      rcases List.mem_cons.mp z with z | z
      · cases z; exact .inl rfl
      · exact .inr ⟨tk, z⟩
theorem strsAre_length {vs : List Value} {ks : List Str} (h : StrsAre vs ks) : vs.length = ks.length := by induction h with | nil => rfl | cons _ _ _ ih => simp [ih]
theorem sorted_setS {Q : Value → Shared → Prop} (R : SetRS P w s.heap a l) (hh : A.handled = none) (h64 : l.length < 64)
    (hQ : ∀ s' p (out : Array Value) (c : Nat), (∀ b o, s.heap.get? b = some o → s'.heap.get? b = some o) → s'.gens = s.gens → s'.os = s.os → s.heap.objs.size ≤ p →
      s'.heap.get? p = some (seqObj "list" out c) → StrsAre out.toList (srtS l) → Q (.ref p) s') :
    wpAny (model P w) A (call (.builtin "sorted") [.ref a]) Q E s := by
  obtain ⟨⟨es, ep, t⟩, ho, F, hn, hr, hl⟩ := R
  have hf : t.fits es.size = true := F.fit
  have hel : ElemsOf (strKind P w) es.toList := F.el
  have hsz : es.size = l.length := F.sz
  have hmem : ∀ k : Str, k ∈ l ↔ ∃ e ∈ es.toList, (strKind P w).is k e.2 = true := F.mem
  refine Calls.call_function_entry kind_sorted plain_sorted entry_sorted (args_sorted1 _) ?_
  unfold Builtin.«sorted»
  refine wpAny_bind (m := checkCount "sorted" 1 1 _) (wpAny_pure ?_)
  refine wpAny_bind (collect_set (A := A.in1) hh ⟨_, ho, rfl, rfl⟩ hf (by rw [hsz]; exact Nat.lt_trans h64 (by decide)) hr hl fun s1 vs k1 hz g1 o1 pm => ?_)
  have hvl : vs.length = l.length := by rw [pm.length_eq, List.length_map, Array.length_toList]; exact hsz
  obtain ⟨ks, hS⟩ := strs_of vs fun v hv => by
    obtain ⟨e, he, q⟩ := List.mem_map.mp (pm.mem_iff.mp hv)
    obtain ⟨⟨k, hk, _⟩, _⟩ := hel e he
    obtain ⟨tk, ek⟩ := Value.isStrOf_shape (x := k) (v := e.2) hk
    exact ⟨k, tk, by rw [← q]; exact ek⟩
  have pk : ks.Perm l := perm_sub hn (fun k hk => by
    obtain ⟨e, he, q⟩ := (hmem k).mp hk
    obtain ⟨tk, ek⟩ := Value.isStrOf_shape (x := k) (v := e.2) q
    exact (strsAre_mem hS k).mpr ⟨tk, pm.mem_iff.mpr (List.mem_map.mpr ⟨e, he, ek⟩)⟩) (by rw [← strsAre_length hS]; exact hvl)
  refine wpAny_bind (wpAny_newList ?_ (by rw [hvl, sizeLine_eq]; omega))
  have hoL : (s1.heap.push (seqObj "list" vs.toArray 0)).get? s1.heap.objs.size = some (seqObj "list" vs.toArray 0) := Heap.get?_push_size _ rfl
  refine wpAny_bind (wpAny_holding (wpAny_call_entry slot_list_sort ⟨_, hoL, rfl⟩ entry_list_sort
    (list_sort_treeK strKind_oneLt (s := { s1 with heap := s1.heap.push (seqObj "list" vs.toArray 0) }) hoL hS.keysOf (fun v₁ v₂ rest e => keyKind_strs (by rw [← e]; exact hS)) (by rw [hvl]; exact h64) fun st' hp hs => ⟨_, rfl, ?_⟩)
    (args_list_sort _)))
  obtain ⟨ys, a1, a2, a3⟩ := sorted_out_str hS hp hs
  obtain ⟨c, hc⟩ := sortedHeap_at (vs := vs) (out := (arrOf st').map (·.2)) hoL
  have ey : ys = srtS l := permS_unique ((a2.trans pk).trans (srtS_perm l).symm) (sorted_up _ a3) (srtS_up l)
  subst ey
  refine wpAny_pure ⟨_, rfl, hQ _ s1.heap.objs.size _ c (fun b u e => ?_) g1 o1 hz hc a1⟩
  have q := k1 b u e
  have hlt := Heap.lt_size q
  show (sortedHeap (s1.heap.push (seqObj "list" vs.toArray 0)) s1.heap.objs.size vs _).get? b = some u
  rw [sortedHeap_old (Nat.ne_of_lt hlt) (by rw [size_push']; exact Nat.lt_succ_of_lt hlt)]
  exact Heap.get?_push_of_some _ q
end
def SetSO (P : Program) (w : World) (a : Addr) (l : List Str) : HO := .ext fun h => SetRS P w h a l
section
variable {X : Cx}
theorem setSO_new {w : World} {P : Program} {H : Hp} {h : Heap} {a : Addr} {l : List Str} (R : SetRS P w h a l) : ObjOk P w H h a (SetSO P w a l) := by
  have ⟨_, ho, _⟩ := R
  exact ⟨R, ⟨_, ho⟩, fun h1 h2 p k => SetRS.at p k⟩
theorem setSO_get {pins : List (Addr × Obj)} {σ : L2.St} {H : Hp} {s : Shared} {a : Addr} {l : List Str} (I : Inv X pins σ H s) (ha : H a = some (SetSO X.prog X.w a l)) : SetRS X.prog X.w s.heap a l := (I.hok a _ ha).1
def rSAddS (P : Program) (w : World) : V → List V → Hp → VK → Prop := fun x xs H Q => ∃ (a : Addr) (k : Str) (l : List Str), x = V.ref a ∧ xs = [V.str k] ∧ H a = some (SetSO P w a l) ∧ l.length + 1 < scanBound ∧ Q .non (upd H a (SetSO P w a (addS l k)))
theorem mt_saddS : MtR X "set.add" (rSAddS X.prog X.w) := by
  intro pins s σ H x xs v us Q I rx rxs h
  obtain ⟨a, k, l, rfl, rfl, ha, room, q⟩ := h
  cases rx
  cases rxs with
  | cons ry rt =>
    cases rt
    obtain ⟨tk, rfl⟩ := ry
    refine setS_add (setSO_get I ha) room fun h' sb new => ?_
    have he : ∃ u, h'.get? a = some u := by
      have ⟨_, ho, _⟩ := new
      exact ⟨_, ho⟩
    exact ⟨.non, upd H a (SetSO X.prog X.w a (addS l k)), I.write (e := a) (t' := s.toks + 1) (by rw [ha]; trivial) (.inl rfl) (fun b u hb hu => (sb.2 b hb).trans hu) he (setSO_new new), rfl, q⟩
def rSortedSS (P : Program) (w : World) : List V → Hp → VK → Prop := fun vs H Q => ∃ (a : Addr) (l : List Str), vs = [V.ref a] ∧ H a = some (SetSO P w a l) ∧ l.length < 64 ∧ ∀ (p : Addr), H p = none → Q (.ref p) (upd H p (.lst ((srtS l).map V.str)))
theorem cr_sortedSS (hc : X.calm = true) : CallR X (.builtin "sorted") (rSortedSS X.prog X.w) := by
  intro pins s σ H vs us Q I r h
  obtain ⟨a, l, rfl, ha, h64, q⟩ := h
  have R := setSO_get I ha
  rw [Vals.ref1 r]
  refine sorted_setS R (I.ok.hd hc) h64 fun s' p out c k g o hp hg hi => ?_
  have hlen : ((srtS l).map V.str).length ≤ sizeLine := by rw [List.length_map, (srtS_perm l).length_eq, sizeLine_eq]; omega
  have hn : H p = none := I.hok.fresh hp
  have J : Inv X pins σ (upd H p (.lst ((srtS l).map V.str))) { s with heap := s'.heap, gens := s'.gens, drawn := s'.drawn, toks := s'.toks } :=
    I.call (ch := []) (Un.laid k hp hn) (I.hok.laid k hp ⟨hlen, out.toList, c, vals_of_strs hi, hg⟩) (by rw [g]; exact I.bare) (fun _ z => nomatch z)
  have e : s' = { s with heap := s'.heap, gens := s'.gens, drawn := s'.drawn, toks := s'.toks } := by
    cases s'
    cases s
    cases o
    rfl
  rw [e]
  exact ⟨.ref p, _, J, rfl, q p hn⟩
end
end WL

/-! WLHH: sorted({e for x in xs}), e texts; sorted(texts). -/
namespace WL
open PySem PySem.Spec PyProof.Rows L2
section
variable {X : Cx}
/-- {elt for tg in iter}, elt whole numbers: D the set, Z what holds ahead of turn i -/
def tSciS (P : Program) (w : World) (wi : TI) (g : TG) (te : TE) (vs : List Nat) : TE := fun σ H Q => wi σ H fun J H1 => ∀ D, H1 D = none → ∃ Z : Nat → Nat → Hp → Prop, (∃ k, Z 0 k (upd H1 D (SetSO P w D []))) ∧
  ∀ i k G, Z i k G → (J.stop i G ∧ Q (.ref D) G) ∨ (J.go i G ∧ ∀ x G', J.yld i G x G' → g x (wipe σ vs) G' fun σ2 G2 => wipe σ2 vs = wipe σ vs ∧ te σ2 G2 fun y G4 =>
    ∃ (c : Str) (l : List Str), y = .str c ∧ G4 D = some (SetSO P w D l) ∧ l.length + 1 < scanBound ∧ ∃ k', k' < k ∧ Z (i + 1) k' (upd G4 D (SetSO P w D (addS l c))))
/-- the turns of the block -/
theorem sciS_turns {elt tg iter : Expr} {scope : Scope} {own : List (Str × Nat)} {pos : Pos} {g : TG} {te : TE} {pins : List (Addr × Obj)} {σ : L2.St} {s3 : Shared} {H3 : Hp} {D it : Addr} {fp : List Addr} {tn : Nat → Heap → Prop} {J : It} {Q : VK} {Qf : Value → Shared → Prop} {B : Env} {Z : Nat → Nat → Hp → Prop} {k0 : Nat}
    (hB : compEnvC scope (cellsFrom (s3.heap.objs.size + 1) scope.names (cloFrom X.env.cells scope.names [])) s3.heap.objs.size X.env = B) (hc : X.calm = true) (hN : X.N.Nodup) (ok : BlkOk X.N X.env.scope scope own) (I3 : Inv X pins σ H3 s3)
    (T : Turn X.prog X.w X.K tg J fp it tn) (st3 : tn 0 s3.heap) (off : ∀ b ∈ fp, FpOk X pins H3 b ∧ b < s3.heap.objs.size) (pg : PG (X.blk s3 H3 scope B fp) tg g) (pe : PE (X.blk s3 H3 scope B fp) elt te) (z0 : Z 0 k0 H3)
    (turn : ∀ i k G, Z i k G → (J.stop i G ∧ Q (.ref D) G) ∨ (J.go i G ∧ ∀ x G', J.yld i G x G' → g x (wipe σ (own.map (·.2))) G' fun σ2 G2 => wipe σ2 (own.map (·.2)) = wipe σ (own.map (·.2)) ∧ te σ2 G2 fun y G4 =>
      ∃ (c : Str) (l : List Str), y = .str c ∧ G4 D = some (SetSO X.prog X.w D l) ∧ l.length + 1 < scanBound ∧ ∃ k', k' < k ∧ Z (i + 1) k' (upd G4 D (SetSO X.prog X.w D (addS l c)))))
    (fin : ∀ s' m G, Inv X pins σ G s' → Q (.ref D) G → s'.heap.Ns s3.heap.objs.size m → FpOk X pins G s3.heap.objs.size → compPost (model X.prog X.w) X.A X.xe none Qf (.ref D) s3.heap.objs.size (.ok .next) s') :
    codeAny (model X.prog X.w) X.A (.compStart (.SetComp elt [⟨tg, iter, [], 0⟩] scope pos) 0 (.ref it) (.ref D) B) (compPost (model X.prog X.w) X.A X.xe none Qf (.ref D) s3.heap.objs.size) { s3 with heap := pushCells (s3.heap.push { cls := .type "dict", data := .dict #[] }) scope.names } := by
  have I4 := block_start I3 ok hN off
  rw [hB] at I4
  have loc : B.locals = s3.heap.objs.size := by rw [← hB]; rfl
  generalize es : ({ s3 with heap := pushCells (s3.heap.push { cls := .type "dict", data := .dict #[] }) scope.names } : Shared) = s4 at I4 ⊢
  have st4 : tn 0 s4.heap := T.keep _ _ _ st3 fun b _ o e => by
    rw [← es]
    exact pushCells_keeps _ _ _ _ (Heap.get?_push_of_some _ e)
  have hold : ∀ (τ : L2.St) (G : Hp) (u : Shared), Inv (X.blk s3 H3 scope B fp) [] τ G u → (∀ b ∈ fp, G b = none) → ∀ b ∈ fp, FpOk (X.blk s3 H3 scope B fp) [] G b := fun τ G u Iu nb b hb =>
    ⟨nb b hb, (Iu.ok.exf b hb).1, Iu.ok.exfs b hb, .inl hb, (Iu.ok.exf b hb).2, fun p hp => absurd hp (by simp)⟩
  have go : codeAny (model X.prog X.w) X.A (.compLoop (.SetComp elt [⟨tg, iter, [], 0⟩] scope pos) 0 (.ref it) (.ref D) B) (compPost (model X.prog X.w) X.A X.xe none Qf (.ref D) s3.heap.objs.size) s4 := by
    refine PpSet.compLoopS_any (fun k u => ∃ i G, Z i k G ∧ (∀ b ∈ fp, G b = none) ∧ tn i u.heap ∧ Inv (X.blk s3 H3 scope B fp) [] (wipe σ (own.map (·.2))) G u) (fun k u h => ?_) k0 ⟨0, H3, z0, fun b hb => (off b hb).1.1, st4, I4⟩
    obtain ⟨i, G, z, nb, su, Iu⟩ := h
    rcases turn i k G z with ⟨stop, qD⟩ | ⟨goes, step⟩
    · refine thnF (T.done (X.blk s3 H3 scope B fp) rfl rfl rfl hc i [] u _ G (fun _ _ => False) Iu (hold _ _ _ Iu nb) su stop) fun r u1 ⟨er, I1⟩ => ?_
      subst er
      obtain ⟨m, hm, _⟩ := I1.loc
      have nC : G B.locals = none := I1.free
      have hm : u1.heap.Ns B.locals m := hm
      rw [loc] at nC hm
      exact fin u1 m G (I3.call' (ch := fp) I1.os I1.base I1.hok I1.bare fun b hb => let ⟨_, x1, _, x2, x3, x4⟩ := (off b hb).1; ⟨x2, x1, x3, x4⟩) qD hm (I3.fpOk (Nat.le_refl _) nC)
    · refine thnF (T.item (X.blk s3 H3 scope B fp) rfl rfl rfl hc i [] u _ G (fun _ _ => False) Iu (hold _ _ _ Iu nb) su goes) fun r u1 ⟨v, er, h1⟩ => ?_
      subst er
      refine thnF h1 fun _ u2 ⟨x, G2, I2, r2, y2, su2, nb2⟩ => ?_
      refine thnF (pg.run _ u2 _ G2 x v _ (I2.pinned (hold _ _ _ I2 nb2) (T.obj _ _ su2)) r2 (step x G2 y2)) fun _ u3 ⟨τ, G3, I5, w5, q5⟩ => ?_
      refine thnF ((pts_nil (X := X.blk s3 H3 scope B fp)).run _ u3 τ G3 (fun b G => b = true ∧ te τ G _) I5 ⟨rfl, q5⟩) fun b u4 ⟨G4, I6, eb, q6⟩ => ?_
      subst eb
      rw [if_pos rfl]
      refine thnF (pe.run _ u4 τ G4 _ I6 q6) fun z u5 ⟨y, G5, I7, r7, c, l, ey, hD, room, k', hk, zz⟩ => ?_
      subst ey
      refine thnF (mt_saddS (X := X.blk s3 H3 scope B fp) _ u5 τ G5 (.ref D) [.str c] (.ref D) [z] (fun _ G' => G' = upd G5 D (SetSO X.prog X.w D (addS l c))) I7 rfl (.cons r7 .nil) ⟨D, c, l, rfl, rfl, hD, room, rfl⟩) fun _ u6 ⟨_, G6, I8, _, eG⟩ => ?_
      subst eG
      have still : ∀ b ∈ fp, ∀ o, u2.heap.get? b = some o → u6.heap.get? b = some o ∧ upd G5 D (SetSO X.prog X.w D (addS l c)) b = none := fun b hb o e =>
        let p := I8.pin (b, o) (List.mem_append_right _ (List.mem_append_right _ (mem_pinsAt hb e)))
        ⟨p.1, p.2.1⟩
      refine ⟨k', hk, i + 1, _, zz, fun b hb => ?_, T.keep _ _ _ su2 fun b hb o e => (still b hb o e).1, (I8.unpinned (pins := [])).weak (by rw [← w5, wipe_length]) fun j v e => ?_⟩
      · obtain ⟨o, e, _⟩ := T.obj _ _ su2 b hb
        exact (still b hb o e).2
      · rw [← w5] at e
        exact (wipe_some e).1
  exact PpSet.codeAny_compStart_set go (T.self X.A 0 _ _ _ st4 go)
theorem pe_sciS {elt tg iter : Expr} {scope : Scope} {own : List (Str × Nat)} {pos : Pos} {wi : TI} {g : TG} {te : TE} (hc : X.calm = true) (hN : X.N.Nodup) (hi : PI X tg iter wi) (ok : BlkOk X.N X.env.scope scope own)
    (hg : ∀ (s : Shared) (H : Hp) (C : Addr) (cl : List (Str × Addr)) (fp : List Addr), PG (X.blk s H scope (compEnvC scope cl C X.env) fp) tg g)
    (he : ∀ (s : Shared) (H : Hp) (C : Addr) (cl : List (Str × Addr)) (fp : List Addr), PE (X.blk s H scope (compEnvC scope cl C X.env) fp) elt te) (hs : ∀ x, foldedSetIterable iter X.env x = pure x := by intro _; rfl) :
    PE X (.SetComp elt [⟨tg, iter, [], 0⟩] scope pos) (tSciS X.prog X.w wi g te (own.map (·.2))) := by
  refine ⟨fun pins s σ H Q I q0 => ?_⟩
  rw [PpSet.eval_SetComp]
  have free : ∀ y ∈ scope.names, y.2 = .free → ∃ b, X.env.cells.lookup y.1 = some b := fun y hy e => (ok.free y hy e).elim (fun z => I.ok.has _ (.inl z)) fun z => I.ok.has _ (.inr z)
  refine wpAny_comprehension_free (use := none) rfl hs (closure_ok free) ok.kind (fun y hy e => by rw [ok.uniq y hy, e]) (thn (hi.run pins s σ H _ I q0) fun _ s1 a1 => thn a1 fun _ s2 a2 => ?_)
  obtain ⟨it, fp, tn, J, G, rfl, I2, T, st2, f2, q⟩ := a2
  refine PpSet.newSet_ok (newEnv_comp ?_)
  obtain ⟨Z, ⟨k0, z0⟩, turn⟩ := q s2.heap.objs.size (I2.hok.fresh (Nat.le_refl _))
  -- the set is laid
  have low : ∀ b ∈ fp, b < s2.heap.objs.size := fun b hb => let ⟨_, e, _⟩ := T.obj _ _ st2 b hb; Heap.lt_size e
  have J3 := I2.laid (t' := s2.toks) (fun b o e => Heap.get?_push_of_some _ e) (Nat.le_refl _) (setSO_new (setRS_fresh (h := s2.heap)))
  have off : ∀ b ∈ fp, FpOk X pins (upd G s2.heap.objs.size (SetSO X.prog X.w s2.heap.objs.size [])) b := fun b hb => ⟨by rw [upd_ne (Nat.ne_of_lt (low b hb))]; exact (f2 b hb).1, (f2 b hb).2⟩
  have far : ∀ b ∈ fp, b < (s2.heap.push { cls := .type "set", dict := none, data := .set #[] 0 (.fresh 0 0 (!X.w.params.followText "set-order")) }).objs.size := fun b hb => by
    rw [Heap.size_push]
    exact Nat.lt_succ_of_lt (low b hb)
  refine sciS_turns (s3 := { s2 with heap := s2.heap.push { cls := .type "set", dict := none, data := .set #[] 0 (.fresh 0 0 (!X.w.params.followText "set-order")) } }) rfl hc hN ok J3 T (T.keep _ _ _ st2 fun b _ o e => Heap.get?_push_of_some _ e) (fun b hb => ⟨off b hb, far b hb⟩) (hg _ _ _ _ _) (he _ _ _ _ _) z0 turn fun u m G2 Iu qD hm f => ⟨m, hm, fun h2 sb => ?_⟩
  obtain ⟨f0, f1, _, f3, f4, f5⟩ := f
  exact ⟨.ref s2.heap.objs.size, G2, Iu.turned (t' := u.toks) (fun b o hb e => (sb.2 b hb).trans e) f0 f1 f3 f4 f5, rfl, qD⟩
end
/-! ### the rule -/
def oSortUS (ys : List Str) : Option (List Str) := if (ddS ys).length < 64 then some (srtS (ddS ys)) else none
def srtLS {T A : Type} (f : A → MM T Str) (xs : List A) : MM T (List Str) := if xs.length ≤ 4000 then bnd (lcM (fun a => noE (f a)) xs) fun ys => lft (oSortUS ys) else stk
section
variable {X : Cx} {T A : Type} {c : Ctx T} {ds : List Desc} {pos cpos p : Pos}
theorem rd_sciS {P : Program} {w : World} {wi : TI} {g : TG} {te : TE} {vs is : List Nat} {t : Ty A} {x : MM T (List A)} {f : A → MM T Str} {bd : A → List Desc → List Desc} {σ : L2.St} {H : Hp} {Q : VK}
    (hw : ∀ σ H R, SrcTI c ds t x σ H R → wi σ H R) (ht : TgtOk c.nox g t is bd) (hv : ∀ i ∈ is, i ∈ vs) (hte : ∀ a σ H Q, TX c.nox (bd a (wipeD ds vs)) tStr (f a) σ H Q → te σ H Q)
    (h : TXO c ds (oList tStr) (bnd x (srtLS f)) σ H Q) : tSciS P w wi g te vs σ H (fun y H1 => rSortedSS P w [y] H1 Q) := by
  obtain ⟨m, st, env, p⟩ := h
  refine hw σ H _ ⟨m, st, env, (Post.bnd.mp p).imp fun xs s1 p J q m1 H1 w1 a1 hq q1 sv D hD => ?_⟩
  unfold srtLS at p
  by_cases hlen : xs.length ≤ 4000
  rotate_left
  · rw [if_neg hlen] at p; exact p.elim
  rw [if_pos hlen] at p
  have p := Post.bnd.mp p
  let FIN : List Str → T → Prop := fun a st' => ∀ v fp m' H', WStep c.afp m H m' H' → c.amb st' H' m' → (∀ p ∈ fp, H p = none ∧ m' p = none) → (oList tStr).rep a v fp H' m' → Q v H'
  refine ⟨fun i n Hc => n = xs.length - i ∧ i ≤ xs.length ∧ ∃ m G st done, Hc = upd G D (SetSO P w D (ddS done)) ∧ G D = none ∧ EnvOk c σ m G ds st ∧ WStep c.afp m1 H1 m G ∧ q m ∧ (ddS done).length ≤ i ∧
      Post (lcM (fun a => noE (f a)) (xs.drop i) st) (fun ys st' => Post (lft (oSortUS (done ++ ys)) st') FIN c.err) c.err,
    ⟨xs.length, by simp, Nat.zero_le _, m1, H1, s1, [], by congr 1, hD, env.go w1 a1, .refl w1.mh, q1, Nat.le_refl _, p⟩, ?_⟩
  rintro i n Hc ⟨rfl, hi, m2, G, st2, done, rfl, hG, env2, w2, q2, hdl, p2⟩
  generalize eO : SetSO P w D (ddS done) = so
  have hmD : m2 D = none := env2.mh.free hG
  have wn : WStep [] m2 G m2 (upd G D so) := .own env2.mh hG
  obtain ⟨sv1, sv2⟩ := sv i (upd G D so) ⟨m2, q2, wn.mh⟩
  by_cases hlt : i < xs.length
  · obtain ⟨g1, g2⟩ := sv1 hlt
    refine .inr ⟨g1, fun v H' y => ?_⟩
    obtain ⟨rfl, y2⟩ := g2 v H' y
    obtain ⟨a, ha, ra⟩ := y2 m2 q2 wn.mh
    rw [List.getElem?_eq_getElem hlt] at ha
    cases ha
    rw [List.drop_eq_getElem_cons hlt] at p2
    have envc : EnvOk c.nox (wipe σ vs) m2 (upd G D so) (wipeD ds vs) st2 := ((env2.grow wn).wipe vs).nox
    refine ht xs[i] v (wipe σ vs) m2 _ _ st2 _ ra envc fun σ3 env3 b3 => ⟨wipe_but b3 hv, ?_⟩
    refine hte xs[i] σ3 _ _ ⟨m2, st2, env3, (Post.noE.mp (Post.bnd.mp p2)).imp fun b s4 p4 v4 m4 H4 w4 a4 r4 => ?_⟩
    cases rep_str r4
    have hDa : D ∉ c.afp := fun z => (c.ambD env2.amb D z) hG
    have hH4 : H4 D = some so := w4.hh D _ hDa upd_same
    have k4 : WStep c.afp m2 G m4 (less H4 D) := less_step w4 hG hmD
    have am4 : c.amb s4 (less H4 D) m4 := c.ambF (fun y hy => less_ne _ fun z => hDa (by rw [← z]; exact hy)) (.refl _) a4
    refine ⟨b, ddS done, rfl, by rw [eO]; exact hH4, Nat.lt_of_le_of_lt (show _ ≤ 4001 by omega) (by decide), xs.length - (i + 1), by omega, rfl, hlt, m4, less H4 D, s4, done ++ [b], ?_, less_same _ _, env2.go k4 am4, w2.trans k4, hq k4.mm q2, ?_, ?_⟩
    · rw [upd_less, ddS_snoc]
    · rw [ddS_snoc]
      have e : (addS (ddS done) b).length ≤ (ddS done).length + 1 := by unfold addS; split <;> simp
      omega
    · refine (Post.bnd.mp p4).imp fun ys s5 p5 => ?_
      show Post (lft (oSortUS (done ++ [b] ++ ys)) s5) FIN c.err
      rw [List.append_assoc]
      exact p5
  · have e : xs.drop i = [] := List.drop_eq_nil_of_le (by omega)
    rw [e] at p2
    refine .inl ⟨sv2 (by omega), ?_⟩
    have p2 : Post (lft (oSortUS (done ++ [])) st2) FIN c.err := p2
    rw [List.append_nil] at p2
    obtain ⟨out, ho, p2⟩ := Post.lft.mp p2
    unfold oSortUS at ho
    by_cases h64 : (ddS done).length < 64
    rotate_left
    · rw [if_neg h64] at ho; cases ho
    rw [if_pos h64] at ho
    cases ho
    refine ⟨D, _, rfl, by rw [← eO]; exact upd_same, h64, fun pn fr => ?_⟩
    have w3 : WStep [] m2 (upd G D so) m2 (upd (upd G D so) pn (.lst ((srtS (ddS done)).map .str))) := .own wn.mh fr
    have w := ((w1.trans w2).trans wn.wide).trans w3.wide
    exact p2 (.ref pn) [pn] m2 _ w (EnvOk.ambGrow (EnvOk.ambGrow env2.amb wn) w3) (fun y hy => by
      obtain rfl := List.mem_singleton.mp hy
      exact ⟨fresh_up ((w1.trans w2).trans wn.wide) fr, wn.mh.free fr⟩) ⟨pn, _, rfl, rfl, upd_same, repsS _ _⟩
variable {elt tg iter : Expr} {scope : Scope} {own : List (Str × Nat)} {g : TG} {is : List Nat} {t : Ty A} {x : MM T (List A)} {f : A → MM T Str} {bd : A → List Desc → List Desc}
/-- sorted({elt for tg in iter}) -/
theorem x_sortSS (hms : X.mg "sorted" = none) (hc : X.calm = true) (hN : X.N.Nodup) (hi : PI X tg iter (SrcTI c ds t x)) (ok : BlkOk X.N X.env.scope scope own) (ht : TgtOk c.nox g t is bd) (hv : ∀ i ∈ is, i ∈ own.map (·.2))
    (hg : ∀ (s : Shared) (H : Hp) (C : Addr) (cl : List (Str × Addr)) (fp : List Addr), PG (X.blk s H scope (compEnvC scope cl C X.env) fp) tg g)
    (he : ∀ (s : Shared) (H : Hp) (C : Addr) (cl : List (Str × Addr)) (fp : List Addr) (a : A), PE (X.blk s H scope (compEnvC scope cl C X.env) fp) elt (TX c.nox (bd a (wipeD ds (own.map (·.2)))) tStr (f a))) (hs : ∀ x, foldedSetIterable iter X.env x = pure x := by intro _; rfl)
    (hgl : Gl X "sorted" := by rfl)
    (h1 : starEach [.SetComp elt [⟨tg, iter, [], 0⟩] scope cpos] X.env = (false, eval (.SetComp elt [⟨tg, iter, [], 0⟩] scope cpos) X.env) :: starEach [] X.env := by rfl) (hpl : (backTo pos (starEach [] X.env)).any (·.1) = false := by rfl) :
    PE X (.Call (.Name "sorted" p) [.SetComp elt [⟨tg, iter, [], 0⟩] scope cpos] [] pos) (TXO c ds (oList tStr) (bnd x (srtLS f))) :=
  PE.imp (pe_callB (cr_sortedSS hc) hgl hms (by decide +kernel) (pa_cons (pe_sciS hc hN hi ok hg (fun s H C cl fp => PE.any (he s H C cl fp)) hs) pa_nil h1) (by decide) (by decide) h1 hpl) fun σ H Q h =>
    show tSciS X.prog X.w (SrcTI c ds t x) g (fun σ H Q => ∃ a, TX c.nox (bd a (wipeD ds (own.map (·.2)))) tStr (f a) σ H Q) (own.map (·.2)) σ H (fun y H1 => rSortedSS X.prog X.w [y] H1 Q) from rd_sciS (fun _ _ _ q => q) ht hv (fun a σ H Q q => ⟨a, q⟩) h
end
/-! ### sorted(a list of texts) -/
def oSortLS (ys : List Str) : Option (List Str) := if ys.length < 64 then some (srtS ys) else none
theorem repsS_eq {m : Hp} : ∀ {xs : List Str} {vs : List V}, Reps tStr m xs vs → vs = xs.map V.str
  | [], _, .nil => rfl
  | x :: xs, _, .cons r q => by cases rep_str r; rw [repsS_eq q]; rfl
theorem sp_sortLS {K : PySem.W.Frag} : OpLO (rSortedS K) (l1 (tList tStr)) (oList tStr) oSortLS := fun a g vs m H Q ⟨v, ev, p, us, e1, k, r⟩ hm e q => by
  unfold oSortLS at e
  by_cases h : a.length < 64
  rotate_left
  · rw [if_neg h] at e; cases e
  rw [if_pos h] at e
  cases e
  have eu := repsS_eq r
  subst eu
  refine ⟨p, a, by rw [ev, e1], .of (hm _ _ k), h, fun ys x pm so fr => ?_⟩
  have ey : ys = srtS a := permS_unique (pm.trans (srtS_perm a).symm) (sorted_up _ so) (srtS_up a)
  subst ey
  exact newList hm (repsS _ _) fr q
/-! ### {k: v for x in xs if ..}, keys texts -/
theorem aPut_le {A B : Type} [DecidableEq A] (s : List (A × B)) (k : A) (v : B) : (aPut s k v).length ≤ s.length + 1 := by
  unfold aPut
  split <;> simp
section
variable {T A B : Type}
def dcI (ts : A → MM T Bool) (fk : A → MM T Str) (fv : A → MM T B) : List A → List (Str × B) → MM T (List (Str × B))
  | [], acc => ret acc
  | x :: r, acc => bnd (ts x) fun b => if b = true then bnd (fk x) fun k => bnd (fv x) fun v => dcI ts fk fv r (aPut acc k v) else dcI ts fk fv r acc
def dcIL (ts : A → MM T Bool) (fk : A → MM T Str) (fv : A → MM T B) (xs : List A) : MM T (List (Str × B)) := if xs.length ≤ 100000 then dcI (fun a => noE (ts a)) (fun a => noE (fk a)) (fun a => noE (fv a)) xs [] else stk
end
section
variable {X : Cx} {T A B : Type} {c : Ctx T} {ds : List Desc} {pos : Pos}
theorem rd_dcI {wi : TI} {g : TG} {tt : TT} {tk tv : TE} {vs is : List Nat} {t : Ty A} {u : Ty B} {x : MM T (List A)} {ts : A → MM T Bool} {fk : A → MM T Str} {fv : A → MM T B} {bd : A → List Desc → List Desc} {σ : L2.St} {H : Hp} {Q : VK}
    (hw : ∀ σ H R, SrcTI c ds t x σ H R → wi σ H R) (ht : TgtOk c.nox g t is bd) (hv : ∀ i ∈ is, i ∈ vs) (hts : ∀ a σ H Q, TTX c.nox (bd a (wipeD ds vs)) (ts a) σ H Q → tt σ H Q) (htk : ∀ a σ H Q, TX c.nox (bd a (wipeD ds vs)) tStr (fk a) σ H Q → tk σ H Q) (htv : ∀ a σ H Q, TX c.nox (bd a (wipeD ds vs)) u (fv a) σ H Q → tv σ H Q)
    (h : TXO c ds (oDictK HO.dK (Sum.inr : Str → Key) u) (bnd x (dcIL ts fk fv)) σ H Q) : tDc wi g tt tk tv vs σ H Q := by
  obtain ⟨m, st, env, p⟩ := h
  refine hw σ H _ ⟨m, st, env, (Post.bnd.mp p).imp fun xs s1 p J q m1 H1 w1 a1 hq q1 sv D hD => ?_⟩
  unfold dcIL at p
  by_cases hlen : xs.length ≤ 100000
  rotate_left
  · rw [if_neg hlen] at p; exact p.elim
  rw [if_pos hlen] at p
  let FIN : List (Str × B) → T → Prop := fun a st' => ∀ v fp m' H', WStep c.afp m H m' H' → c.amb st' H' m' → (∀ p ∈ fp, H p = none ∧ m' p = none) → (oDictK HO.dK (Sum.inr : Str → Key) u).rep a v fp H' m' → Q v H'
  refine ⟨fun i n Hc => n = xs.length - i ∧ i ≤ xs.length ∧ ∃ m G st done ws, Hc = upd G D (.dK ws) ∧ G D = none ∧ EnvOk c σ m G ds st ∧ WStep c.afp m1 H1 m G ∧ q m ∧ DRep (Sum.inr : Str → Key) u m done ws ∧ done.length ≤ i ∧
      Post (dcI (fun a => noE (ts a)) (fun a => noE (fk a)) (fun a => noE (fv a)) (xs.drop i) done st) FIN c.err,
    ⟨xs.length, by simp, Nat.zero_le _, m1, H1, s1, [], [], rfl, hD, env.go w1 a1, .refl w1.mh, q1, .nil, Nat.le_refl _, p⟩, ?_⟩
  rintro i n Hc ⟨rfl, hi, m2, G, st2, done, ws, rfl, hG, env2, w2, q2, r2, hdl, p2⟩
  have hmD : m2 D = none := env2.mh.free hG
  have wn : WStep [] m2 G m2 (upd G D (.dK ws)) := .own env2.mh hG
  obtain ⟨sv1, sv2⟩ := sv i (upd G D (.dK ws)) ⟨m2, q2, wn.mh⟩
  by_cases hlt : i < xs.length
  · obtain ⟨g1, g2⟩ := sv1 hlt
    refine .inr ⟨g1, fun Hc => ∃ m G st done ws, Hc = upd G D (.dK ws) ∧ G D = none ∧ EnvOk c σ m G ds st ∧ WStep c.afp m1 H1 m G ∧ q m ∧ DRep (Sum.inr : Str → Key) u m done ws ∧ done.length ≤ i + 1 ∧
      Post (dcI (fun a => noE (ts a)) (fun a => noE (fk a)) (fun a => noE (fv a)) (xs.drop (i + 1)) done st) FIN c.err, fun Hc h => ⟨xs.length - (i + 1), by omega, rfl, hlt, h⟩, fun v H' y => ?_⟩
    obtain ⟨rfl, y2⟩ := g2 v H' y
    obtain ⟨a, ha, ra⟩ := y2 m2 q2 wn.mh
    rw [List.getElem?_eq_getElem hlt] at ha
    cases ha
    rw [List.drop_eq_getElem_cons hlt] at p2
    have envc : EnvOk c.nox (wipe σ vs) m2 (upd G D (.dK ws)) (wipeD ds vs) st2 := ((env2.grow wn).wipe vs).nox
    refine ht xs[i] v (wipe σ vs) m2 _ _ st2 _ ra envc fun σ3 env3 b3 => ⟨wipe_but b3 hv, ?_⟩
    refine hts xs[i] σ3 _ _ ⟨m2, st2, env3, (Post.noE.mp (Post.bnd.mp p2)).imp fun b s3 p3 m3 H3 w3 a3 => ?_⟩
    have hDa : D ∉ c.afp := fun z => (c.ambD env2.amb D z) hG
    have hH3 : H3 D = some (.dK ws) := w3.hh D _ hDa upd_same
    have k3 : WStep c.afp m2 G m3 (less H3 D) := less_step w3 hG hmD
    have am3 : c.amb s3 (less H3 D) m3 := c.ambF (fun y hy => less_ne _ fun z => hDa (by rw [← z]; exact hy)) (.refl _) a3
    have eD : ∀ {G' : Hp}, G' D = some (.dK ws) → upd (less G' D) D (.dK ws) = G' := fun {G'} e => by
      rw [upd_less]; funext y; by_cases z : y = D
      · subst z; rw [upd_same]; exact e.symm
      · rw [upd_ne z]
    cases b with
    | true =>
      rw [if_pos rfl] at p3
      refine iteT ?_
      refine htk xs[i] σ3 _ _ ⟨m3, s3, env3.go w3 a3, (Post.noE.mp (Post.bnd.mp p3)).imp fun kv s4 p4 v4 m4 H4 w4 a4 r4 => ?_⟩
      have hH4 : H4 D = some (.dK ws) := w4.hh D _ hDa hH3
      have w4' : WStep c.afp m3 (upd (less H3 D) D (.dK ws)) m4 H4 := by rw [eD hH3]; exact w4
      have k4 : WStep c.afp m3 (less H3 D) m4 (less H4 D) := less_step w4' (less_same _ _) (k3.mh.free (less_same _ _))
      have am4 : c.amb s4 (less H4 D) m4 := c.ambF (fun y hy => less_ne _ fun z => hDa (by rw [← z]; exact hy)) (.refl _) a4
      cases rep_str r4
      refine htv xs[i] σ3 _ _ ⟨m4, s4, (env3.go w3 a3).go w4 a4, (Post.noE.mp (Post.bnd.mp p4)).imp fun bv s5 p5 v5 m5 H5 w5 a5 r5 => ?_⟩
      have hH5 : H5 D = some (.dK ws) := w5.hh D _ hDa hH4
      have w5' : WStep c.afp m4 (upd (less H4 D) D (.dK ws)) m5 H5 := by rw [eD hH4]; exact w5
      have k5 : WStep c.afp m4 (less H4 D) m5 (less H5 D) := less_step w5' (less_same _ _) (k4.mh.free (less_same _ _))
      have am5 : c.amb s5 (less H5 D) m5 := c.ambF (fun y hy => less_ne _ fun z => hDa (by rw [← z]; exact hy)) (.refl _) a5
      have hwl : ws.length < sizeLine := by rw [← r2.length]; exact Nat.lt_of_lt_of_le (show done.length < 100000 by omega) (by decide)
      refine ⟨ws, .inr kv, rfl, hH5, hwl, m5, less H5 D, s5, aPut done kv bv, putK ws (.inr kv) v5, (upd_less _ _ _).symm, less_same _ _, ((env2.go k3 am3).go k4 am4).go k5 am5, ((w2.trans k3).trans k4).trans k5, hq ((k3.mm.trans k4.mm).trans k5.mm) q2, (r2.mono ((k3.mm.trans k4.mm).trans k5.mm)).put (fun _ _ e => Sum.inr.inj e) kv r5, ?_, p5⟩
      have := aPut_le done kv bv
      omega
    | false =>
      rw [if_neg Bool.false_ne_true] at p3
      exact iteF ⟨m3, less H3 D, s3, done, ws, (eD hH3).symm, less_same _ _, env2.go k3 am3, w2.trans k3, hq k3.mm q2, r2.mono k3.mm, by omega, p3⟩
  · have e : xs.drop i = [] := List.drop_eq_nil_of_le (by omega)
    rw [e] at p2
    refine .inl ⟨sv2 (by omega), ?_⟩
    have p2 : FIN done st2 := p2
    have w := w1.trans w2
    exact p2 (.ref D) [D] m2 _ (w.trans wn.wide) (EnvOk.ambGrow env2.amb wn) (fun y hy => by obtain rfl := List.mem_singleton.mp hy; exact ⟨fresh_up w hG, hmD⟩) ⟨D, ws, rfl, rfl, upd_same, r2⟩
variable {kx vx tg iter cnd : Expr} {scope : Scope} {own : List (Str × Nat)} {g : TG} {is : List Nat} {t : Ty A} {u : Ty B} {x : MM T (List A)} {ts : A → MM T Bool} {fk : A → MM T Str} {fv : A → MM T B} {bd : A → List Desc → List Desc}
/-- {kx: vx for tg in iter if cnd} -/
theorem x_dcI (hc : X.calm = true) (hN : X.N.Nodup) (hi : PI X tg iter (SrcTI c ds t x)) (ok : BlkOk X.N X.env.scope scope own) (ht : TgtOk c.nox g t is bd) (hv : ∀ i ∈ is, i ∈ own.map (·.2))
    (hg : ∀ (s : Shared) (H : Hp) (C : Addr) (cl : List (Str × Addr)) (fp : List Addr), PG (X.blk s H scope (compEnvC scope cl C X.env) fp) tg g)
    (hts : ∀ (s : Shared) (H : Hp) (C : Addr) (cl : List (Str × Addr)) (fp : List Addr) (a : A), PT (X.blk s H scope (compEnvC scope cl C X.env) fp) cnd (TTX c.nox (bd a (wipeD ds (own.map (·.2)))) (ts a)))
    (hk : ∀ (s : Shared) (H : Hp) (C : Addr) (cl : List (Str × Addr)) (fp : List Addr) (a : A), PE (X.blk s H scope (compEnvC scope cl C X.env) fp) kx (TX c.nox (bd a (wipeD ds (own.map (·.2)))) tStr (fk a)))
    (he : ∀ (s : Shared) (H : Hp) (C : Addr) (cl : List (Str × Addr)) (fp : List Addr) (a : A), PE (X.blk s H scope (compEnvC scope cl C X.env) fp) vx (TX c.nox (bd a (wipeD ds (own.map (·.2)))) u (fv a))) (hs : ∀ x, foldedSetIterable iter X.env x = pure x := by intro _; rfl) :
    PE X (.DictComp kx vx [⟨tg, iter, [cnd], 0⟩] scope pos) (TXO c ds (oDictK HO.dK (Sum.inr : Str → Key) u) (bnd x (dcIL ts fk fv))) :=
  PE.imp (pe_dc hc hN hi ok hg (fun s H C cl fp => PTs.any fun a => pts_one (hts s H C cl fp a)) (fun s H C cl fp => PE.any (hk s H C cl fp)) (fun s H C cl fp => PE.any (he s H C cl fp)) hs) fun σ H Q h =>
    rd_dcI (fun _ _ _ q => q) ht hv (fun a σ H Q q => ⟨a, q⟩) (fun a σ H Q q => ⟨a, q⟩) (fun a σ H Q q => ⟨a, q⟩) h
end
/-! ### dicts of texts compared -/
def oEqDk (xs ys : List (Str × Str)) : Option Bool := if xs = ys ∧ (xs.map (·.1)).Nodup then some true else none
theorem drep_eq {m : Hp} : ∀ {xs : List (Str × Str)} {ks : List (Key × V)}, DRep (Sum.inr : Str → Key) tStr m xs ks → ks = xs.map fun p => (Sum.inr p.1, V.str p.2)
  | [], _, .nil => rfl
  | (a, b) :: xs, _, .cons r q => by cases rep_str r; rw [drep_eq q]; rfl
theorem valV_own : ∀ {xs : List (Str × Str)}, (xs.map (·.1)).Nodup → ∀ p ∈ xs, valV (xs.map fun p => ((Sum.inr p.1 : Key), V.str p.2)) (.inr p.1) = some (V.str p.2)
  | [], _, p, h => nomatch h
  | (a, b) :: xs, hn, p, h => by
    obtain ⟨h1, h2⟩ := List.nodup_cons.mp hn
    rcases List.mem_cons.mp h with e | e
    · subst e; exact valV_pos rfl
    · have ne : ¬ (Sum.inr a : Key) = .inr p.1 := fun z => h1 (by rw [Sum.inr.inj z]; exact List.mem_map.mpr ⟨p, e, rfl⟩)
      rw [List.map_cons, valV_neg ne]
      exact valV_own h2 p e
theorem sp_eqDk : Op2 rEqDA (tDictK HO.dK (Sum.inr : Str → Key) tStr) (tDictK HO.dK (Sum.inr : Str → Key) tStr) tBool oEqDk := fun a b g v1 v2 m H Q ⟨p, ks, e1, k1, r1⟩ ⟨q, ls, e2, k2, r2⟩ hm e h => by
  unfold oEqDk at e
  by_cases z : a = b ∧ (a.map (·.1)).Nodup
  rotate_left
  · rw [if_neg z] at e; cases e
  rw [if_pos z] at e
  cases e
  obtain ⟨rfl, hn⟩ := z
  have x1 := drep_eq r1
  have x2 := drep_eq r2
  subst x1
  subst x2
  refine ⟨p, q, _, _, e1, e2, hm _ _ k1, hm _ _ k2, rfl, fun y hy => ?_, h _ m H (.refl hm) rfl⟩
  obtain ⟨w, hw, rfl⟩ := List.mem_map.mp hy
  exact ⟨valV_own hn w hw, rfl⟩
theorem hu0 {A : Around} {k : Nat} (hr : Room k A) : A.units < cLine := by have := hu65 hr; omega
end WL

/-! WLII: continue. -/
namespace WL
open PySem PySem.Spec PyProof.Rows L2
/-- the turn's end, reached by falling or by continue -/
def ENct {T A : Type} (c : Ctx T) (dsN : A → List Desc) : A → T → Ends → Prop := fun a st D => ∀ σ m H, EnvOk c σ m H (dsN a) st → D.nx σ H ∧ D.ct σ H
def ECt {T A : Type} (c : Ctx T) (dsN : A → List Desc) : A → T → Ends → Prop := fun a st D => ∀ σ m H, EnvOk c σ m H (dsN a) st → D.ct σ H
section
variable {X : Cx} {T A B F : Type} {c : Ctx T} {ds : List Desc} {pos : Pos} {rest body : List Stmt} {P : F → T → Ends → Prop}
theorem b_endC {s : A} {dsN : A → List Desc} (w : Weak ds (dsN s)) : PSs X [] (BX c ds (ret s) (ENct c dsN)) := PSs.imp pss_nil fun D σ H ⟨m, st, env, p⟩ => (p σ m H (env.weak w)).1
theorem b_cont {s : A} {dsN : A → List Desc} (w : Weak ds (dsN s)) : PSs X [.Continue pos] (BX c ds (ret s) (ECt c dsN)) := PSs.imp (pss_one ps_continue) fun D σ H ⟨m, st, env, p⟩ => p σ m H (env.weak w)
theorem b_ifcont {cnd : Expr} {a : List Stmt} {xc : MM T Bool} {xa xb : MM T A} {dsN : A → List Desc} (hc : PT X cnd (TTX c ds xc)) (ha : PSs X a (BX c ds xa (ECt c dsN))) (hb : PSs X rest (BX c ds xb (ENct c dsN))) :
    PSs X (.If cnd a [] pos :: rest) (BX c ds (eIf xc xa xb) (ENct c dsN)) :=
  PSs.imp (pss_cons (ps_if hc ha pss_nil) hb) fun D σ H ⟨m, st, env, p⟩ => by
    unfold eIf at p
    refine ⟨m, st, env, (Post.bnd.mp p).imp fun t s1 p m1 H1 w1 a1 => ?_⟩
    cases t with
    | true => rw [if_pos rfl] at p ⊢; exact ⟨m1, s1, env.go w1 a1, p.imp fun r s2 p σ' m' H' env' => (p σ' m' H' env').2⟩
    | false => rw [if_neg Bool.false_ne_true] at p ⊢; exact ⟨m1, s1, env.go w1 a1, p⟩
theorem s_whileC {dsL : B → List Desc} {s0 : B} {cnd : Expr} {f : B → MM T B} {tt : B → MM T Bool} (n : Nat) (hp : PassesOwn (model X.prog X.w) X.A X.env X.xe) (w0 : Weak ds (dsL s0)) (hc : ∀ s, PT X cnd (TTX c (dsL s) (tt s))) (hb : ∀ s, PSs X body (BX c (dsL s) (f s) (ENct c dsL))) :
    PS X (.While cnd body [] pos) (BX c ds (whileM n tt f s0) (EN c dsL)) := by
  refine PS.imp (ps_while hp (PT.any hc) (PSs.any hb)) fun D σ H ⟨m, st, env, p⟩ => ?_
  refine ⟨fun n σ H => ∃ m st s, EnvOk c σ m H (dsL s) st ∧ Post (whileM n tt f s st) (fun s' st' => EN c dsL s' st' D) c.err, ⟨n, m, st, s0, env.weak w0, p⟩, ?_⟩
  rintro n σ' H' ⟨m', st', s', env', p'⟩
  cases n with
  | zero => exact p'.elim
  | succ n =>
    refine ⟨s', m', st', env', (Post.bnd.mp p').imp fun b s1 p m1 H1 w1 a1 => ?_⟩
    cases b with
    | true =>
      rw [if_pos rfl] at p ⊢
      exact ⟨fun σ2 H2 => ∃ m st s, EnvOk c σ2 m H2 (dsL s) st ∧ Post (whileM n tt f s st) (fun s' st' => EN c dsL s' st' D) c.err, fun σ2 H2 h => ⟨n, Nat.lt_succ_self n, h⟩, s', m1, s1, env'.go w1 a1, (Post.bnd.mp p).imp fun s4 st4 p4 σ5 m5 H5 env5 => ⟨⟨m5, st4, s4, env5, p4⟩, m5, st4, s4, env5, p4⟩⟩
    | false =>
      rw [if_neg Bool.false_ne_true] at p ⊢
      exact p σ' m1 H1 (env'.go w1 a1)
end
end WL

/-! WLJJ: errors that hold a number. -/
namespace WL
open PySem PySem.Spec PyProof.Rows L2
/-- a number that str can write -/
def tIntB : Ty Int := ⟨fun a v _ => v = .int a ∧ a.natAbs.log2 < 1920, fun _ r => r⟩
def oSmallI (i : Int) : Option Int := if i.natAbs.log2 < 1920 then some i else none
theorem ext_int : ExT tIntB V.int := ⟨fun a v m r => ⟨r.1, .inr ⟨a, r.1, r.2⟩⟩⟩
def decInt : V → Option Int
  | .int x => some x
  | _ => none
theorem dec_int : ∀ (v : V) (x : Int) (m : Hp), decInt v = some x → tInt.rep x v m := fun v x m e => by
  cases v <;> simp only [decInt] at e <;> first | (cases e; rfl) | cases e
theorem x_intB {X : Cx} {T : Type} {c : Ctx T} {ds : List Desc} {e : Expr} {x : MM T Int} (h : PE X e (TX c ds tInt x)) : PE X e (TX c ds tIntB (e1 oSmallI x)) := PE.imp h fun σ H Q ⟨m, st, env, p⟩ => by
  refine ⟨m, st, env, (Post.bnd.mp p).imp fun a s1 p v m1 H1 w1 a1 r1 => ?_⟩
  obtain ⟨b, hb, p⟩ := Post.lft.mp p
  unfold oSmallI at hb
  by_cases z : a.natAbs.log2 < 1920
  · rw [if_pos z] at hb
    cases hb
    exact p v m1 H1 w1 a1 ⟨rep_int r1, z⟩
  · rw [if_neg z] at hb; cases hb
end WL

/-! WLKK: owned lists: pop, extend, insert. -/
namespace WL
open PySem PySem.Spec PyProof.Rows L2
def oPop {A : Type} (xs : List A) : Option (A × List A) := xs.getLast?.map fun a => (a, xs.dropLast)
def oInsL {A : Type} (xs : List A) (i : Int) (a : A) : Option (List A) := if xs.length < 100000 ∧ 0 ≤ i ∧ i < 2 ^ 62 then some (xs.take i.toNat ++ [a] ++ xs.drop i.toNat) else none
theorem Reps.last {A : Type} {t : Ty A} {m : Hp} {xs : List A} {us : List V} (r : Reps t m xs us) : ∀ {a : A}, xs.getLast? = some a → ∃ u, us[us.length - 1]? = some u ∧ t.rep a u m ∧ Reps t m xs.dropLast us.dropLast := by
  induction r with
  | nil => intro a h; cases h
  | @cons b v as vs x q ih =>
    intro a h
    cases q with
    | nil =>
      have e : b = a := by simpa using h
      subst e
      exact ⟨v, rfl, x, .nil⟩
    | @cons b2 v2 as2 vs2 x2 q2 =>
      rw [List.getLast?_cons_cons] at h
      obtain ⟨u, h1, h2, h3⟩ := ih h
      refine ⟨u, ?_, h2, .cons x h3⟩
      simpa using h1
section
variable {X : Cx} {T A B F : Type} {c : Ctx T} {ds : List Desc} {pos : Pos} {rest : List Stmt} {P : F → T → Ends → Prop} {t : Ty A}
/-- target = xs.pop() -/
theorem b_pop (i : Nat) {tg call : Expr} {g : TG} {xs : List A} {k : A × List A → MM T F} {bd : A → List Desc → List Desc} {is : List Nat} (he : PE X call (tBM0 X.K "list" rPop (tVar i))) (hg : PG X tg g) (ht : TgtOk c g t is bd) (h2 : ∀ p, PSs X rest (BX c (bd p.1 (ds.set i (.own (oList t) p.2))) (k p) P)) (hd : ds[i]? = some (.own (oList t) xs) := by rfl)
    (hs : swapsWithSole [tg] call pos.line X.env = pure false := by rfl) (hw : swappedStores [tg] call X.env = pure none := by rfl) (h1 : (assignEach [tg] X.env).map (·.2) = [assign tg X.env] := by rfl) :
    PSs X (.Assign [tg] call pos :: rest) (BX c ds (bnd (lft (oPop xs)) k) P) :=
  PSs.imp (pss_cons (ps_asg he hg hs hw h1) (PSs.any h2)) fun D σ H ⟨m, st, env, p⟩ => by
    obtain ⟨v, fp, e1, q, us, ev, ef, kk, r⟩ := own_at env hd
    subst ev
    obtain ⟨y, hy, p⟩ := Post.lft.mp (Post.bnd.mp p)
    unfold oPop at hy
    obtain ⟨a, ha, hy⟩ := Option.map_eq_some_iff.mp hy
    subst hy
    obtain ⟨u, hu, ra, rd⟩ := r.last ha
    have env1 : EnvOk c σ m (upd H q (.lst us.dropLast)) (ds.set i (.own (oList t) xs.dropLast)) st := env.put hd fun v fp2 e2 ⟨q2, us2, ev2, ef2, k2, r2⟩ => by
      rw [e1] at e2; cases e2; cases ev2
      rw [kk] at k2; cases k2
      exact ⟨by rw [ef2]; simp, q, _, rfl, ef2, upd_same, rd⟩
    refine ⟨_, e1, .inl ⟨rfl, us, .of kk⟩, q, us, u, rfl, rfl, kk, hu, ?_⟩
    exact ht a u σ m _ _ st _ ra env1 fun σ' env' _ => ⟨(a, xs.dropLast), m, st, env', p⟩
/-- xs.extend(..) -/
theorem b_extend (i : Nat) {call : Expr} {xs : List A} {xb : MM T (List A)} {k : List A → MM T F} (he : PE X call (tBM X.K "list" rExtend (tVar i) (tCons (TXO c ds (oList t) xb) tNil))) (h2 : ∀ ys, PSs X rest (BX c (ds.set i (.own (oList t) ys)) (k ys) P)) (hd : ds[i]? = some (.own (oList t) xs) := by rfl)
    (hs : swapsWith call none pos.line X.env = pure false := by rfl) :
    PSs X (.Expr call pos :: rest) (BX c ds (bnd xb fun zs => bnd (lft (oCat xs zs)) k) P) :=
  PSs.imp (pss_cons (ps_expr he hs) (PSs.any h2)) fun D σ H ⟨m, st, env, p⟩ => by
    obtain ⟨v, fp, e1, q, us, ev, ef, kk, r⟩ := own_at env hd
    subst ev
    refine ⟨_, e1, .inl ⟨rfl, us, .of kk⟩, m, st, env, (Post.bnd.mp p).imp fun zs s1 p v1 fpz m1 H1 w1 a1 nz ⟨b, ws, eb, efb, kb, rb⟩ => ?_⟩
    subst eb
    have env1 := env.go w1 a1
    obtain ⟨ys, hy, p⟩ := Post.lft.mp (Post.bnd.mp p)
    unfold oCat at hy
    by_cases z : xs.length + zs.length ≤ 100000
    · rw [if_pos z] at hy; cases hy
      obtain ⟨v', fp', e1', q', us', ev', ef', kk', r'⟩ := own_at env1 hd
      rw [e1] at e1'; cases e1'; cases ev'
      refine ⟨q, b, us', ws, rfl, rfl, kk', kb, by rw [← r'.length, ← rb.length]; exact Nat.le_trans z (by decide), ?_⟩
      refine ⟨_, m1, s1, env1.put hd fun v fp2 e2 ⟨q2, us2, ev2, ef2, k2, r2⟩ => ?_, p⟩
      rw [e1] at e2; cases e2; cases ev2
      rw [kk'] at k2; cases k2
      exact ⟨by rw [ef2]; simp, q, _, rfl, ef2, upd_same, r2.append rb⟩
    · rw [if_neg z] at hy; cases hy
/-- xs.insert(i, y) -/
theorem b_insert (i : Nat) {call : Expr} {xs : List A} {xi : MM T Int} {xa : MM T A} {k : List A → MM T F} (he : PE X call (tBM X.K "list" (fun x vs H Q => ∃ (l : Addr) (xs : List V) (i : Int) (y : V), x = .ref l ∧ vs = [.int i, y] ∧ H l = some (.lst xs) ∧ xs.length < sizeLine ∧ 0 ≤ i ∧ i < 2 ^ 63 ∧ Q .non (upd H l (.lst (xs.take i.toNat ++ [y] ++ xs.drop i.toNat)))) (tVar i) (tCons (TX c ds tInt xi) (tCons (TX c ds t xa) tNil))))
    (h2 : ∀ ys, PSs X rest (BX c (ds.set i (.own (oList t) ys)) (k ys) P)) (hd : ds[i]? = some (.own (oList t) xs) := by rfl) (hs : swapsWith call none pos.line X.env = pure false := by rfl) :
    PSs X (.Expr call pos :: rest) (BX c ds (bnd xi fun j => bnd xa fun a => bnd (lft (oInsL xs j a)) k) P) :=
  PSs.imp (pss_cons (ps_expr he hs) (PSs.any h2)) fun D σ H ⟨m, st, env, p⟩ => by
    obtain ⟨v, fp, e1, q, us, ev, ef, kk, r⟩ := own_at env hd
    subst ev
    refine ⟨_, e1, .inl ⟨rfl, us, .of kk⟩, m, st, env, (Post.bnd.mp p).imp fun j s1 p vj m1 H1 w1 a1 rj => ?_⟩
    cases rep_int rj
    have env1 := env.go w1 a1
    refine ⟨m1, s1, env1, (Post.bnd.mp p).imp fun a s2 p v2 m2 H2 w2 a2 r2 => ?_⟩
    have env2 := env1.go w2 a2
    obtain ⟨ys, hy, p⟩ := Post.lft.mp (Post.bnd.mp p)
    unfold oInsL at hy
    by_cases z : xs.length < 100000 ∧ 0 ≤ j ∧ j < 2 ^ 62
    · rw [if_pos z] at hy; cases hy
      obtain ⟨v', fp', e1', q', us', ev', ef', kk', r'⟩ := own_at env2 hd
      rw [e1] at e1'; cases e1'; cases ev'
      refine ⟨q, us', j, v2, rfl, rfl, kk', by rw [← r'.length]; exact Nat.lt_of_lt_of_le z.1 (by decide), z.2.1, Int.lt_trans z.2.2 (by decide), ?_⟩
      refine ⟨_, m2, s2, env2.put hd fun v fp2 e2 ⟨q2, us2, ev2, ef2, k2, r3⟩ => ?_, p⟩
      rw [e1] at e2; cases e2; cases ev2
      rw [kk'] at k2; cases k2
      exact ⟨by rw [ef2]; simp, q, _, rfl, ef2, upd_same, ((r3.take _).append (.cons r2 .nil)).append (r3.drop _)⟩
    · rw [if_neg z] at hy; cases hy
end
end WL

/-! WLLL: objects that change, handed to defs; methods with a default. -/
namespace WL
open PySem PySem.Spec PyProof.Rows L2
/-- a def as it stands behind the top, perhaps with defaults -/
structure FunV (K : PySem.W.Frag) (x qual : Str) (st : Stmt) (f : Addr) (fd : FuncData) : Prop where
  ex : ∃ (oc : Value) (od : Option Addr) (dV kV doc pm : Value) (an : Option Addr) (cdv ct : Value) (osl : Array (Option Value)),
    fd = PySem.W.fnOf x qual (defArgs st) (defBody st) (defScope st) dV kV doc pm an cdv ct ∧ K.lookup f = some ⟨oc, od, .func fd, osl⟩ ∧ PySem.W.codeIn K cdv qual = true
/-- a method whose last parameters have defaults -/
structure MetV (K : PySem.W.Frag) (C : Addr) (x qual : Str) (st : Stmt) (ps : List Str) (dvs : List V) where
  a : Addr
  d : FuncData
  F : FunV K x qual st a d
  m : Meth K C x a
  b : Binds K d ps []
  bd : ∃ ds, Vals dvs ds ∧ Binds K d ps ds
section
variable {X : Cx} {CX : CXT} {k : Nat} {f C : Addr} {fdd : FuncData} {ps : List Str} {sp : Sp} {E : L2.St → XK} {x m : Str} {p pos apos : Pos} {e o : Expr} {es : List Expr} {ta : TE} {t : TA} {dvs : List V} {dd : List Value}
theorem run_fnSd {pins : List (Addr × Obj)} {σ : L2.St} {H : Hp} {s : Shared} {Q : VK} {us : List Value} {vs : List V} (F : FnOk X.prog X.w X.K X.mg X.base CX k f fdd ps sp) (hr : Room k X.A) (hb : Binds X.K fdd ps dd) (hd : Vals dvs dd) (hx : PassesAt CX X σ (E σ))
    (I : L2.Inv X pins σ H s) (r : Vals vs us) (h : sp (vs ++ dvs) H Q (E σ)) : wpAny (model X.prog X.w) X.A (call (.ref f) us) (EP X pins σ Q) X.xe s := by
  have r2 : Vals (vs ++ dvs) (us ++ dd) := r.append hd
  have hl : (us ++ dd).length = ps.length := by rw [← r2.length]; exact F.len _ _ _ _ h
  have b := hb s us I.kIn hl
  refine wpAny_call (codeAny_mono (F.run X.A X.stack s H ⟨us, []⟩ (us ++ dd) (vs ++ dvs) Q (E σ) hr I.env0 b r2 h) fun r s' hq => ?_)
  cases r with
  | error e => exact hx pins H s e s' I hq
  | ok fl =>
    cases fl with
    | ret u => exact I.after hq
    | next => exact False.elim hq
    | brk => exact False.elim hq
    | cont => exact False.elim hq
def tMethD (C : Addr) (m : Str) (sp : Sp) (dvs : List V) (E : L2.St → XK) (ta : TE) : TE := fun σ H Q => ta σ H fun x H1 => ∃ a dx fs, x = .ref a ∧ H1 a = some (.ins C dx fs) ∧ fs.lookup m = none ∧ sp (x :: dvs) H1 Q (E σ)
theorem pe_methE0d {pl : Sem Bool} (he : PE X o ta) (c : Cls X.K C) (hm : Meth X.K C m f) (F : FnOk X.prog X.w X.K X.mg X.base CX k f fdd ps sp) (hr : Room k X.A) (hb : Binds X.K fdd ps dd) (hd : Vals dvs dd) (hx : ∀ σ, PassesAt CX X σ (E σ))
    (ht : eval (.Call (.Attribute o m apos) [] [] pos) X.env = (do
      let ov ← eval o X.env
      standAt apos.atName
      let (f, first) ← holding [ov] (getMethod ov m pl)
      callWith pos f first (backTo pos (starEach [] X.env)) (backToKw pos (keywordEach [] X.env))) := by rfl) :
    PE X (.Call (.Attribute o m apos) [] [] pos) (tMethD C m sp dvs E ta) := by
  refine ⟨fun pins s σ H Q I h => ?_⟩
  refine PySem.W.methodCall_KW (pl := pl) (thn (he.run pins s σ H _ I h) fun u s1 ⟨x, H1, I1, rx, a, dx, fs, ex, ea, l, q⟩ => ?_) ht
  subst ex
  obtain rfl : u = Value.ref a := rx
  refine getmeth_ok I1 ea c hm l ?_
  exact PySem.W.callWith_K0 (first := [.ref a]) I1.kIn hm.kp (run_fnSd (us := [.ref a]) (vs := [.ref a]) F hr hb hd (hx σ) I1 (.cons rfl .nil) q)
end
section
variable {X : Cx} {T S A B R : Type} {c : Ctx T} {ds : List Desc} {k : Nat} {f C : Addr} {fdd : FuncData} {ps : List Str} {x m : Str} {p pos apos p2 : Pos} {e o : Expr} {es : List Expr} {W : WX} {F : List (FO S)} {j : OLoc} {get : T → S} {put : S → T → T}
/-- self.m(), the rest by defaults -/
theorem x_methAd (i : Nat) {A' : Type} {l : LTy A'} {t : Ty B} {fn : Unit × A' → MM S B} {pl : Sem Bool} {dvs : List V} (a0 : A') (h0 : ∀ m, l.rep a0 dvs m) (hc : ObjC c C F j get put) (cl : Cls X.K C) (hm : Meth X.K C m f) (hn : FNoO F m) (G : FnOk X.prog X.w X.K X.mg X.base (L2.CX X.prog X.w) k f fdd ps (SpA c.cls C F (fun p => lc (tIs p) l) t fn)) (hr : Room k X.A) (hb : ∃ dd, Vals dvs dd ∧ Binds X.K fdd ps dd)
    (tk : Takes X W) (hE : ErrC c W) (hd : ds[i]? = some (.val (tIs j.x) ()) := by rfl) (hN : X.N[i]? = some x := by rfl) (hv : Vis X.env.scope x := by first | exact Or.inl rfl | exact Or.inr (Or.inl rfl) | exact Or.inr (Or.inr rfl))
    (h1 : (x == ("__debug__" : Str)) = false := by decide) (h2 : (x == ("__classdict__" : Str)) = false := by decide)
    (ht : eval (.Call (.Attribute (.Name x p2) m apos) [] [] pos) X.env = (do
      let ov ← eval (.Name x p2) X.env
      standAt apos.atName
      let (f, first) ← holding [ov] (getMethod ov m pl)
      callWith pos f first (backTo pos (starEach [] X.env)) (backToKw pos (keywordEach [] X.env))) := by rfl) :
    PE X (.Call (.Attribute (.Name x p2) m apos) [] [] pos) (TX c ds t (zoom get put (fn ((), a0)))) := by
  obtain ⟨dd, hv1, hv2⟩ := hb
  exact PE.imp (pe_methE0d (pe_var hN hv h1 h2) cl hm G hr hv2 hv1 (fun σ => passAt tk σ) ht) fun σ H Q ⟨m, st, env, q⟩ => by
    obtain ⟨v, e1', r⟩ := val_at env hd
    have r : v = .ref j.x := r
    subst r
    obtain ⟨nd, dx, fs, kk, r2⟩ := hc.gt env.amb
    refine ⟨_, e1', j.x, dx, fs, rfl, kk, hn _ _ _ _ _ _ r2, j, ((), a0), m, get st, ⟨_, dvs, rfl, rfl, h0 m⟩, env.mh, fun p hp => env.own p (hc.sub p hp), hc.gt env.amb, (Post.zoom.mp q).mono (fun b s2 q v m' H' w2 a2 r2 => ?_) fun e s2 q d m' H' w2 a2 hd => ?_⟩
    · have w2' : WStep c.afp m H m' H' := ⟨w2.mm, w2.mh, fun a o ha e => w2.hh a o (fun z => ha (hc.sub a z)) e, w2.ow, w2.dm⟩
      exact q v m' H' w2' (hc.pt env.amb (fun p o hp e => w2.hh p o hp e) w2.mm a2) r2
    · have w2' : WStep c.afp m H m' H' := ⟨w2.mm, w2.mh, fun a o ha e => w2.hh a o (fun z => ha (hc.sub a z)) e, w2.ow, w2.dm⟩
      exact hE e _ d σ m' H' ds q (env.go w2' (hc.pt env.amb (fun p o hp e => w2.hh p o hp e) w2.mm a2)) (xd_up env hd).1 (xd_up env hd).2
/-- a def that is handed the object -/
theorem x_callA {la : Addr → LTy A} {t : Ty B} {fn : A → MM S B} {xa : MM T A} (hc : ObjC c C F j get put) (G : FnOk X.prog X.w X.K X.mg X.base (L2.CX X.prog X.w) k f fdd ps (SpA c.cls C F la t fn)) (hr : Room k X.A) (hm : X.mg x = some (.ref f)) (hk : PySem.W.keepIn X.K (.ref f) = true) (hb : Binds X.K fdd ps [])
    (tk : Takes X W) (hE : ErrC c W) (ha : PA X (e :: es) (TAX c ds (la j.x) xa)) (hg : Gl X x := by rfl) (hdb : (x == ("__debug__" : Str)) = false := by decide)
    (h1 : starEach (e :: es) X.env = (false, eval e X.env) :: starEach es X.env := by rfl) (h2 : (backTo pos (starEach es X.env)).any (·.1) = false := by rfl) :
    PE X (.Call (.Name x p2) (e :: es) [] pos) (TX c ds t (bnd xa fun a => zoom get put (fn a))) := PE.imp (pe_callS G hr hg hm hk hb (fun σ => passAt tk σ) ha hdb h1 h2) fun σ H Q ⟨m, st, env, q⟩ =>
  ⟨m, st, env, (Post.bnd.mp q).imp fun a s1 q vs m1 H1 w1 a1 r1 => by
    have env1 := env.go w1 a1
    refine ⟨j, a, m1, get s1, r1, w1.mh, fun p hp => env1.own p (hc.sub p hp), hc.gt a1, (Post.zoom.mp q).mono (fun b s2 q v m' H' w2 a2 r2 => ?_) fun e s2 q d m' H' w2 a2 hd => ?_⟩
    · have w2' : WStep c.afp m1 H1 m' H' := ⟨w2.mm, w2.mh, fun a o ha e => w2.hh a o (fun z => ha (hc.sub a z)) e, w2.ow, w2.dm⟩
      exact q v m' H' (w1.trans w2') (hc.pt a1 (fun p o hp e => w2.hh p o hp e) w2.mm a2) r2
    · have w2' : WStep c.afp m1 H1 m' H' := ⟨w2.mm, w2.mh, fun a o ha e => w2.hh a o (fun z => ha (hc.sub a z)) e, w2.ow, w2.dm⟩
      exact hE e _ d σ m' H' ds q (env1.go w2' (hc.pt a1 (fun p o hp e => w2.hh p o hp e) w2.mm a2)) (xd_up env1 hd).1 (xd_up env1 hd).2⟩
end
/-! the defs -/
section
variable {P : Program} {w : World} {K : PySem.W.Frag} {mg : Str → Option Value} {base : Heap} {x qual : Str} {st : Stmt} {f C : Addr} {fd fdd : FuncData} {N ps : List Str} {k r n : Nat} {T A B : Type} {cls : Nat → Addr} {F : List (FO T)}
theorem fn_methV {la : Addr → LTy A} {t : Ty B} {fn : A → MM T B} {D : Addr → A → List Desc} (Fn : FunV K x qual st f fd) (S : FnScope N ps (defScope st)) (hl : ∀ p, LDesc (la p) ps.length (D p)) (hn : N.length = ps.length + r)
    (body : ∀ (cdv : Value) (A : Around) (outer : List Env) (s : Shared) (H : Hp) (E : XK) (m : Hp) (j : OLoc) a, Room k (A.deeper (envOfC qual (defScope st) s.heap.objs.size f cdv)) →
      PSs (bX P w K mg base N qual st f cdv A outer s H E) (defBody st) (BX (aCtx K cls C F j m H E) (D j.x a ++ List.replicate r .any) (fn a) (ER (aCtx K cls C F j m H E) t))) :
    FnOk P w K mg base (L2.CX P w) (k + 1) f fd ps (SpA cls C F la t fn) := by
  obtain ⟨oc, od, dV, kV, doc, pm, an, cdv, ct, osl, rfl, lk, hcd⟩ := Fn.ex
  refine fn_of lk hcd S (fun vs H Q E ⟨j, a, m, st', h, _⟩ => (hl j.x).len a vs m h) fun A outer s H vs Q E hr ⟨j, a, m, st', h, hm, hp, am, q⟩ => ?_
  exact ⟨_, body cdv A outer s H E m j a hr, m, st', env_start (hl j.x) h hn hm rfl rfl am hp trivial, q.mono (fun b s1 q v m' H' w' a' r' => q v m' H' w' a' r') fun e _ q => q⟩
end
/-! methods with defaults, as they stand behind the top -/
section
variable {K : PySem.W.Frag} {x qual : Str} {st : Stmt} {f T C : Addr} {oc kV doc pm cdv ct cT : Value} {od an oT : Option Addr} {osl sT : Array (Option Value)} {its : List Value} {nT : Nat} {dvs : List V} {ps : List Str} {n : Nat}
theorem binds_d (l : K.lookup f = some ⟨oc, od, .func (PySem.W.fnOf x qual (defArgs st) (defBody st) (defScope st) (.ref T) kV doc pm an cdv ct), osl⟩) (c : PySem.W.codeIn K cdv qual = true) (k : PySem.W.keepIn K (.ref f) = true) (lT : K.lookup T = some ⟨cT, oT, .seq its.toArray nT, sT⟩) (r : Vals dvs its) (nd : dvs ≠ []) (m j : Nat) (hn : m + (dvs.length - j) = ps.length)
    (h : ∀ (T : Addr) (kV doc pm : Value) (an : Option Addr) (cdv ct : Value) (us its : List Value), us.length = m → its.length = dvs.length →
      ∃ k, bindArgs (PySem.W.fnOf x qual (defArgs st) (defBody st) (defScope st) (.ref T) kV doc pm an cdv ct) ⟨us, []⟩ = seqItems? (.ref T) >>= k ∧ k (some its.toArray) = pure (ps.zip (us ++ its.drop j))) :
    ∃ ds, Vals (dvs.drop j) ds ∧ Binds K (PySem.W.fnOf x qual (defArgs st) (defBody st) (defScope st) (.ref T) kV doc pm an cdv ct) ps ds :=
  FunD.binds1 (F := ⟨⟨_, _, _, _, _, _, _, _, _, _, rfl, l, c, .inr ⟨nd, T, _, its, nT, rfl, lT, rfl, r⟩, .inl rfl⟩, k⟩) (kws := []) m j nd hn h
def metv_mk (l : K.lookup f = some ⟨oc, od, .func (PySem.W.fnOf x qual (defArgs st) (defBody st) (defScope st) (.ref T) kV doc pm an cdv ct), osl⟩) (c : PySem.W.codeIn K cdv qual = true) (k : PySem.W.keepIn K (.ref f) = true) (m : Meth K C x f) (lT : K.lookup T = some ⟨cT, oT, .seq its.toArray nT, sT⟩) (nd : dvs.isEmpty = false) (r : Vals dvs its)
    (hn1 : n + (dvs.length - 0) = ps.length) (hn2 : ps.length + (dvs.length - dvs.length) = ps.length)
    (h1 : ∀ (T : Addr) (kV doc pm : Value) (an : Option Addr) (cdv ct : Value) (us its : List Value), us.length = n → its.length = dvs.length →
      ∃ k, bindArgs (PySem.W.fnOf x qual (defArgs st) (defBody st) (defScope st) (.ref T) kV doc pm an cdv ct) ⟨us, []⟩ = seqItems? (.ref T) >>= k ∧ k (some its.toArray) = pure (ps.zip (us ++ its.drop 0)))
    (hx : True)
    (h2 : ∀ (T : Addr) (kV doc pm : Value) (an : Option Addr) (cdv ct : Value) (us its : List Value), us.length = ps.length → its.length = dvs.length →
      ∃ k, bindArgs (PySem.W.fnOf x qual (defArgs st) (defBody st) (defScope st) (.ref T) kV doc pm an cdv ct) ⟨us, []⟩ = seqItems? (.ref T) >>= k ∧ k (some its.toArray) = pure (ps.zip (us ++ its.drop dvs.length))) : MetV K C x qual st ps dvs where
  a := f
  d := _
  F := ⟨_, _, _, _, _, _, _, _, _, _, rfl, l, c⟩
  m := m
  b := by
    have nd' : dvs ≠ [] := fun z => by rw [z] at nd; cases nd
    obtain ⟨ds, v, b⟩ := binds_d l c k lT r nd' ps.length dvs.length hn2 h2
    rw [List.drop_length] at v
    cases v
    exact b
  bd := by
    have nd' : dvs ≠ [] := fun z => by rw [z] at nd; cases nd
    have := binds_d l c k lT r nd' n 0 hn1 h1
    rwa [List.drop_zero] at this
end
/-! a constant term without names -/
structure OneC (K : PySem.W.Frag) (mg : Str → Option Value) (x : Str) (i : Int) where
  p : Addr
  g : mg x = some (.ref p)
  rep : ∀ m, (tTup K (lc (tVT K (tTup K (lc tStr (l1 tInt)))) (l1 tInt))).rep (([] : List (Str × Int)), i) (.ref p) m
def one_mk {K : PySem.W.Frag} {mg : Str → Option Value} {x : Str} {i : Int} {p q : Addr} {o oq : Option Addr} {n nq : Nat} {s sq : Array (Option Value)} {t : Tok} (g : mg x = some (.ref p)) (l : K.lookup p = some ⟨.type "tuple", o, .seq #[.ref q, .int i t] n, s⟩) (lq : K.lookup q = some ⟨.type "tuple", oq, .seq #[] nq, sq⟩) : OneC K mg x i where
  p := p
  g := g
  rep := fun m => by
    have h1 : SqT K m p [.ref q, .int i] := sqT_txt l (show 2 ≤ sizeLine from by rw [sizeLine_eq]; decide) (.cons (show L2.RelV (.ref q) (.ref q) from rfl) (.cons (show L2.RelV (.int i) (.int i t) from ⟨t, rfl⟩) .nil)) m
    have h2 : SqT K m q [] := sqT_txt lq (show 0 ≤ sizeLine from by rw [sizeLine_eq]; decide) .nil m
    exact ⟨p, [.ref q, .int i], rfl, h1, .ref q, [.int i], rfl, ⟨q, [], rfl, h2, .nil⟩, .int i, rfl, rfl⟩
/-! data in a tuple of data -/
def rInTD (K : PySem.W.Frag) : R2 := fun x y H Q => ∃ d ds, Dp K H x d ∧ Dp K H y (.tuple ds) ∧ SeqAt.shaped d = true ∧ SeqAt.shaped (.tuple ds) = true ∧ Q (.bl (ds.any fun z => PyData.eqv z d)) H
theorem op_inTD {X : Cx} (hu : X.A.units + 65 < cLine) : OpR X (compareOp .In) (rInTD X.K) := by
  intro pins s σ H x y v u Q I rx ry h
  obtain ⟨d, ds, hd, he, sd, se, q⟩ := h
  obtain ⟨as, r1⟩ := Dp.reads I d x v hd rx
  obtain ⟨bs, r2⟩ := Dp.reads I (.tuple ds) y u he ry
  exact SeqAt.in_tuple_reads r2 r1 (SeqAt.canLay_of_shaped se) (SeqAt.canLay_of_shaped sd) (room_in_shaped sd hu) ⟨.bl _, H, I, rfl, q⟩
def oInTD (a : PyData) (b : List PyData) : Option Bool := if SeqAt.shaped a = true ∧ SeqAt.shaped (.tuple b) = true then some (b.any fun z => PyData.eqv z a) else none
theorem sp_inTD {K : PySem.W.Frag} : Op2 (rInTD K) (tD K) (tVT K (tD K)) tBool oInTD := fun a b g v1 v2 m H Q r1 ⟨p, vs, e, k, r2⟩ hm eg q => by
  unfold oInTD at eg
  by_cases z : SeqAt.shaped a = true ∧ SeqAt.shaped (.tuple b) = true
  · rw [if_pos z] at eg; cases eg
    subst e
    exact ⟨a, b, Dp.mono' hm _ _ r1, Dp.mono' hm _ _ (.tup k (dpAll_reps.mpr r2)), z.1, z.2, q _ m H (.refl hm) rfl⟩
  · rw [if_neg z] at eg; cases eg
end WL

/-! WLMM: objects or none; an item of a row of a list of rows set. -/
namespace WL
open PySem PySem.Spec PyProof.Rows L2
theorem nn_ins {R : Type} {C : Addr} {F : R → List FD} : NotNone (tIns C F) := ⟨fun a m ⟨x, _, _, e, _⟩ => nomatch e⟩
def oIx {A : Type} (xs : List A) (k : Int) : Option Nat := ixN xs.length k
section
variable {X : Cx} {T A B F : Type} {c : Ctx T} {ds : List Desc} {t : Ty A} {pos pos2 p2 p3 p4 p5 p6 : Pos} {e : Expr} {P : F → T → Ends → Prop} {rest : List Stmt}
/-- rows[b][b2] = e -/
theorem b_set2 (i : Nat) {ps : List Addr} {x : Str} {xs : List (List A)} {b b2 : Expr} {xa : MM T A} {xb xb2 : MM T Int} {k : List (List A) → MM T F} (he : PE X e (TX c ds t xa)) (hb : PE X b (TX c ds tInt xb)) (hb2 : PE X b2 (TX c ds tInt xb2)) (h2 : ∀ ys, PSs X rest (BX c (ds.set i (.own (oLTat t ps) ys)) (k ys) P)) (hd : ds[i]? = some (.own (oLTat t ps) xs) := by rfl) (hN : X.N[i]? = some x := by rfl) (hv : Vis X.env.scope x := by first | exact Or.inl rfl | exact Or.inr (Or.inl rfl) | exact Or.inr (Or.inr rfl))
    (h1 : (x == ("__debug__" : Str)) = false := by decide) (h3 : (x == ("__classdict__" : Str)) = false := by decide) (hp : PlainIx b := by exact fun _ _ => rfl) (hs : swapsWithSole [.Subscript (.Subscript (.Name x p2) b p5) b2 p3] e pos.line X.env = pure false := by rfl)
    (hw : swappedStores [.Subscript (.Subscript (.Name x p2) b p5) b2 p3] e X.env = pure none := by rfl) (h4 : (assignEach [.Subscript (.Subscript (.Name x p2) b p5) b2 p3] X.env).map (·.2) = [assign (.Subscript (.Subscript (.Name x p2) b p5) b2 p3) X.env] := by rfl)
    (ha : ∀ v, assign (.Subscript (.Subscript (.Name x p2) b p5) b2 p3) X.env v = (do
      let ov ← holding [v] (eval (.Subscript (.Name x p2) b p5) X.env)
      let iv ← holding [v, ov] (eval b2 X.env)
      standAt p3
      holding [v, ov, iv] (setItem ov iv v)
      release [v, ov, iv] []) := by intro _; rfl) :
    PSs X (.Assign [.Subscript (.Subscript (.Name x p2) b p5) b2 p3] e pos :: rest) (BX c ds (bnd xa fun a => bnd xb fun k0 => bnd (lft (oIx xs k0)) fun n => bnd xb2 fun j => bnd (lft (rowSet xs n j a)) k) P) :=
  PSs.imp (pss_cons (ps_asg he (pg_sub (pe_ix ix_list (pe_var hN hv h1 h3) hb hp) hb2 set_list ha) hs hw h4) (PSs.any h2)) fun D σ H ⟨m, st, env, p⟩ => by
    refine ⟨m, st, env, (Post.bnd.mp p).imp fun a s1 p v1 m1 H1 w1 a1 r1 => ?_⟩
    have env1 := env.go w1 a1
    obtain ⟨v, fp, e1, _⟩ := own_at env1 hd
    refine ⟨v, e1, m1, s1, env1, (Post.bnd.mp p).imp fun k0 s2 p v2 m2 H2 w2 a2 r2 => ?_⟩
    cases rep_int r2
    have env2 := env1.go w2 a2
    obtain ⟨n, hn, p⟩ := Post.lft.mp (Post.bnd.mp p)
    obtain ⟨v', fp', e1', ⟨q, ev, ef, nd, kk, rr⟩, na⟩ := own_at2 env2 hd
    rw [e1] at e1'; cases e1'
    subst ev
    have hlen := rr.length
    have hi : atI (ps.map V.ref) k0 = (ps.map V.ref)[n]? := by
      unfold oIx at hn
      unfold atI
      rw [List.length_map, ← hlen, hn]
      rfl
    have hnl : n < ps.length := by
      rw [← hlen]
      unfold oIx ixN at hn
      split at hn <;> split at hn <;> cases hn <;> omega
    have hpn : ps[n]? = some ps[n] := List.getElem?_eq_getElem hnl
    obtain ⟨l0, us0, ea0, ku0, _⟩ := rr.getP hpn
    refine ⟨q, _, k0, .ref ps[n], rfl, rfl, .of kk, by rw [hi, List.getElem?_map, hpn]; rfl, m2, s2, env2, (Post.bnd.mp p).imp fun j s3 p v3 m3 H3 w3 a3 r3 => ?_⟩
    cases rep_int r3
    have env3 := env2.go w3 a3
    obtain ⟨ys, hy, p⟩ := Post.lft.mp (Post.bnd.mp p)
    have rr3 : RowsT t H3 m3 xs ps := rr.go w3.mm fun p0 hp0 => by
      obtain ⟨z, hz, ez⟩ := List.mem_iff_getElem.mp hp0
      obtain ⟨l, us, _, ku, _⟩ := rr.getP (show ps[z]? = some p0 by rw [List.getElem?_eq_getElem hz, ez])
      rw [ku]
      exact w3.hh p0 _ (na p0 (by rw [ef]; simp [hp0])) ku
    obtain ⟨l, us, ea, ku, ru⟩ := rr3.getP hpn
    unfold rowSet at hy
    rw [ea] at hy
    have hy : (oSet l j a).map (fun r2 => xs.set n r2) = some ys := hy
    unfold oSet at hy
    cases z : ixN l.length j with
    | none => rw [z] at hy; cases hy
    | some y =>
      rw [z] at hy; cases hy
      refine ⟨ps[n], us, j, y, rfl, rfl, ku, by rw [← ru.length]; exact z, ?_⟩
      refine ⟨_, m3, s3, env3.put hd fun v fp2 g2 ⟨p2, ev2, ef2, nd2, k2, r2⟩ => ?_, p⟩
      have hin : ps[n] ∈ ps := List.getElem_mem hnl
      obtain ⟨nx, np⟩ := List.nodup_cons.mp (ef2 ▸ nd2)
      exact ⟨by rw [ef2]; simp, p2, ev2, ef2, nd2, by rw [upd_ne fun z => nx (by rw [z]; exact hin)]; exact k2, r2.set np hpn (ru.set (t.mono (w2.mm.trans w3.mm) r1) y)⟩
/-- x[n] = e, x an owned list of so many places -/
theorem b_setRec (i n : Nat) {A0 : Type} {l : LTy A0} {r0 : A0} {x : Str} {g : A → A0 → A0} {xa : MM T A} {k : A0 → MM T F} {j} (hp : LPut l n t g) (he : PE X e (TX c ds t xa)) (h2 : ∀ r, PSs X rest (BX c (ds.set i (.own (oRec l) r)) (k r) P)) (hd : ds[i]? = some (.own (oRec l) r0) := by rfl) (hN : X.N[i]? = some x := by rfl) (hv : Vis X.env.scope x := by first | exact Or.inl rfl | exact Or.inr (Or.inl rfl) | exact Or.inr (Or.inr rfl))
    (h1 : (x == ("__debug__" : Str)) = false := by decide) (h3 : (x == ("__classdict__" : Str)) = false := by decide) (hs : swapsWithSole [.Subscript (.Name x p2) (.Constant (.int (n : Int)) j p3) p4] e pos.line X.env = pure false := by rfl)
    (hw : swappedStores [.Subscript (.Name x p2) (.Constant (.int (n : Int)) j p3) p4] e X.env = pure none := by rfl) (h4 : (assignEach [.Subscript (.Name x p2) (.Constant (.int (n : Int)) j p3) p4] X.env).map (·.2) = [assign (.Subscript (.Name x p2) (.Constant (.int (n : Int)) j p3) p4) X.env] := by rfl)
    (ha : ∀ v, assign (.Subscript (.Name x p2) (.Constant (.int (n : Int)) j p3) p4) X.env v = (do
      let ov ← holding [v] (eval (.Name x p2) X.env)
      let iv ← holding [v, ov] (eval (.Constant (.int (n : Int)) j p3) X.env)
      standAt p4
      holding [v, ov, iv] (setItem ov iv v)
      release [v, ov, iv] []) := by intro _; rfl) :
    PSs X (.Assign [.Subscript (.Name x p2) (.Constant (.int (n : Int)) j p3) p4] e pos :: rest) (BX c ds (bnd xa fun a => k (g a r0)) P) :=
  PSs.imp (pss_cons (ps_asg he (pg_sub (pe_var hN hv h1 h3) pe_int set_list ha) hs hw h4) (PSs.any h2)) fun D σ H ⟨m, st, env, q⟩ => by
    refine ⟨m, st, env, (Post.bnd.mp q).imp fun a s1 q v1 m1 H1 w1 a1 r1 => ?_⟩
    have env1 := env.go w1 a1
    obtain ⟨v, fp, e1, p0, us, ev, ef, kk, rr⟩ := own_at env1 hd
    obtain ⟨hl, _⟩ := hp.put r0 us m1 a v1 rr r1
    refine ⟨v, e1, p0, us, n, n, ev, rfl, kk, ?_, g a r0, m1, s1, env1.put hd fun v2 fp2 g2 ⟨p2, us2, ev2, ef2, k2, r2⟩ => ?_, q⟩
    · show ixN us.length (n : Int) = some n
      unfold ixN
      rw [if_pos (by omega), if_pos (by omega)]
      rfl
    · rw [e1] at g2; cases g2
      rw [ev] at ev2; cases ev2
      rw [kk] at k2; cases k2
      exact ⟨by rw [ef2]; simp, p0, _, ev, ef2, upd_same, (hp.put r0 us m1 a v1 rr r1).2⟩
/-- x[n], x an owned list of so many places -/
theorem x_atRec (i n : Nat) {A0 : Type} {l : LTy A0} {r0 : A0} {x : Str} {f : A0 → A} {j} (hp : LProj l n t f) (hd : ds[i]? = some (.own (oRec l) r0) := by rfl) (hN : X.N[i]? = some x := by rfl) (hv : Vis X.env.scope x := by first | exact Or.inl rfl | exact Or.inr (Or.inl rfl) | exact Or.inr (Or.inr rfl))
    (h1 : (x == ("__debug__" : Str)) = false := by decide) (h2 : (x == ("__classdict__" : Str)) = false := by decide) : PE X (.Subscript (.Name x p2) (.Constant (.int (n : Int)) j p3) pos) (TX c ds t (eProj f (ret r0))) :=
  PE.imp (pe_ix ix_list (pe_var hN hv h1 h2) pe_int (fun _ _ => rfl)) fun σ H Q ⟨m, st, env, q⟩ => by
    obtain ⟨v, fp, e1, p0, us, ev, ef, kk, rr⟩ := own_at env hd
    obtain ⟨u, hu, ru⟩ := hp.at_ r0 us m rr
    exact ⟨v, e1, p0, us, n, u, ev, rfl, .of kk, atI_nat hu, q u m H (.refl env.mh) env.amb ru⟩
end
end WL

/-! WLNN: an object that changes, beside another state. -/
namespace WL
open PySem PySem.Spec PyProof.Rows L2
/-- c, and an object that changes -/
def Ctx.and {T S : Type} (c : Ctx T) (C : Addr) (F : List (FO S)) (j : OLoc) (hj : ∀ p ∈ j.fp, c.H0 p = none) : Ctx (T × S) where
  K := c.K
  cls := c.cls
  S := c.S
  m0 := c.m0
  H0 := c.H0
  afp := c.afp ++ j.fp
  amb := fun st h m => c.amb st.1 h m ∧ ambA C F j st.2 h m ∧ ∀ p ∈ j.fp, p ∉ c.afp
  ambF := fun hk hm ⟨a, b, d⟩ => ⟨c.ambF (fun p hp => hk p (List.mem_append_left _ hp)) hm a, b.frame (fun p hp => hk p (List.mem_append_right _ hp)) hm, d⟩
  ambD := fun ⟨a, b, d⟩ p hp => (List.mem_append.mp hp).elim (c.ambD a p) (b.dom p)
  afr := fun p hp => (List.mem_append.mp hp).elim (c.afr p) fun z => .inr (hj p z)
  pin := c.pin
  pinM := c.pinM
  err := fun e st => c.err e st.1
section
variable {T S S' A B : Type} {c : Ctx T} {C C' : Addr} {F : List (FO S)} {F' : List (FO S')} {j j' : OLoc} {hj : ∀ p ∈ j.fp, c.H0 p = none} {l : LTy S} {p : Addr}
/-- c's state holds a pool -/
structure PoolZ {T S : Type} (c : Ctx T) (l : LTy S) (p : Addr) (get : T → S) (put : S → T → T) : Prop where
  sub : p ∈ c.afp
  gt : ∀ {st : T} {h m : Hp}, c.amb st h m → ambP l p (get st) h m
  pt : ∀ {st : T} {s : S} {h m h' m' : Hp}, c.amb st h m → (∀ q o, q ≠ p → h q = some o → h' q = some o) → Sub m m' → ambP l p s h' m' → c.amb (put s st) h' m'
theorem PoolZ.of {c : Ctx S} (h : PoolC c l p) : PoolZ c l p id (fun s _ => s) := ⟨by rw [h.afp]; simp, fun a => by rw [h.amb] at a; exact a, fun _ _ _ a => by rw [h.amb]; exact a⟩
theorem PoolZ.pin {get : T → S} {put : S → T → T} {q : Hp → Prop} {hq : ∀ {m n : Hp}, Sub m n → q m → q n} (h : PoolZ c l p get put) : PoolZ (c.pinned q hq) l p get put := ⟨h.sub, h.gt, h.pt⟩
theorem PoolZ.nox {get : T → S} {put : S → T → T} (h : PoolZ c l p get put) : PoolZ c.nox l p get put := ⟨h.sub, h.gt, h.pt⟩
theorem keep_fp {h h' : Hp} {fp : List Addr} (hd : ∀ p ∈ fp, h p ≠ none) (hk : ∀ p o, p ∈ fp → h p = some o → h' p = some o) : ∀ p ∈ fp, h' p = h p := fun p hp => by
  cases q : h p with
  | none => exact absurd q (hd p hp)
  | some o => exact hk p o hp q
theorem PoolZ.and {l : LTy S'} {get : T → S'} {put : S' → T → T} (h : PoolZ c l p get put) : PoolZ (c.and C F j hj) l p (fun st => get st.1) (fun s st => (put s st.1, st.2)) := by
  refine ⟨List.mem_append_left _ h.sub, fun a => h.gt a.1, fun ⟨a, b, d⟩ hk hm r => ⟨h.pt a hk hm r, b.frame (keep_fp b.dom fun q o hq e => hk q o (fun z => d q hq (by rw [z]; exact h.sub)) e) hm, d⟩⟩
theorem ObjC.snd : ObjC (c.and C F j hj) C F j Prod.snd (fun s st => (st.1, s)) :=
  ⟨fun p hp => List.mem_append_right _ hp, fun a => a.2.1, fun ⟨a, b, d⟩ hk hm r => ⟨c.ambF (keep_fp (c.ambD a) fun q o hq e => hk q o (fun z => d q z hq) e) hm a, r, d⟩⟩
theorem ObjC.and {get : T → S'} {put : S' → T → T} (h : ObjC c C' F' j' get put) : ObjC (c.and C F j hj) C' F' j' (fun st => get st.1) (fun s st => (put s st.1, st.2)) :=
  ⟨fun p hp => List.mem_append_left _ (h.sub p hp), fun a => h.gt a.1, fun ⟨a, b, d⟩ hk hm r => ⟨h.pt a hk hm r, b.frame (keep_fp b.dom fun q o hq e => hk q o (fun z => d q hq (h.sub q z)) e) hm, d⟩⟩
theorem EnvOk.unand {σ : L2.St} {m H : Hp} {ds : List Desc} {st : T × S} (env : EnvOk (c.and C F j hj) σ m H ds st) : EnvOk c σ m H ds st.1 := by
  obtain ⟨fps, sl, dj, fr⟩ := env.slots
  exact ⟨env.step, ⟨fps, sl, dj, fun fp hf p hp => ⟨fun z => (fr fp hf p hp).1 (List.mem_append_left _ z), (fr fp hf p hp).2⟩⟩, env.amb.1, fun p hp => env.own p (List.mem_append_left _ hp), env.pin⟩
theorem ErrC.and {W : WX} (h : ErrC c W) : ErrC (c.and C F j hj) W := fun e st d σ m H ds h1 env h3 h4 => h e st.1 d σ m H ds h1 env.unand h3 fun z => h4 (List.mem_append_left _ z)
def withS (s0 : S) (k : MM (T × S) B) : MM T B := fun st => match k (st, s0) with
  | .ok b q => .ok b q.1
  | .err e q => .err e q.1
  | .stuck => .stuck
theorem Post.withS {s0 : S} {k : MM (T × S) B} {st : T} {P : B → T → Prop} {E : Exn → T → Prop} : Post (withS s0 k st) P E ↔ Post (k (st, s0)) (fun b q => P b q.1) (fun e q => E e q.1) := by
  unfold WL.withS
  cases k (st, s0) <;> rfl
theorem EnvOk.toand {σ : L2.St} {m H m1 H1 : Hp} {ds : List Desc} {st st1 : T} {a : S} (i : Nat) (env : EnvOk c σ m H ds st) (w1 : WStep c.afp m H m1 H1) (a1 : c.amb st1 H1 m1) (n1 : ∀ p ∈ j.fp, H p = none ∧ m1 p = none) (r : ambA C F j a H1 m1) :
    ∃ hj, EnvOk (c.and C F j hj) (σ.set i (some (.ref j.x))) m1 H1 (ds.set i (.val (tIs j.x) ())) (st1, a) := by
  have e0 : ∀ p ∈ j.fp, c.H0 p = none := fun p hp => by
    cases z : c.H0 p with
    | none => rfl
    | some u => exact absurd (n1 p hp).1 (env.step.dm p (by rw [z]; exact fun y => nomatch y))
  have env1 := env.go w1 a1
  obtain ⟨fpe, sle, dje, fre⟩ := env.slots
  refine ⟨e0, ⟨env1.step, ⟨fpe.set i [], (sle.go (fun gp hg y hy => ?_) w1.mm fun gp hg y hy e => w1.ow y e (sle.dom gp hg y hy).1).set (d := .val (tIs j.x) ()) ⟨rfl, _, rfl, rfl⟩, dje.set fun gp hg => .inl fun y _ z => absurd z (by simp), fun gp hg y hy => ?_⟩, ⟨a1, r, fun p hp z => c.ambD env.amb p z (n1 p hp).1⟩, fun p hp => (List.mem_append.mp hp).elim (env1.own p) fun z => (n1 p z).2, env1.pin⟩⟩
  · cases z : H y with
    | none => exact absurd z (sle.dom gp hg y hy).1
    | some u => exact w1.hh y u (fre gp hg y hy).1 z
  · rcases List.mem_or_eq_of_mem_set hg with z | z
    · refine ⟨fun w => (List.mem_append.mp w).elim (fre gp z y hy).1 fun w => (sle.dom gp z y hy).1 (n1 y w).1, (fre gp z y hy).2⟩
    · subst z; exact absurd hy (by simp)
variable {X : Cx} {ds : List Desc} {pos p2 : Pos} {e : Expr} {rest : List Stmt}
/-- an object is made, and changes until the def returns -/
theorem b_objW (i : Nat) {x : Str} (dsJ : Addr → List Desc) {t : Ty B} {xa : MM T S} {k : MM (T × S) B} (he : PE X e (TXO c ds (oObj C F) xa))
    (h2 : ∀ j hj, PSs X rest (BX (c.and C F j hj) (dsJ j.x) k (ER (c.and C F j hj) t))) (hN : X.N.Nodup) (hJ : ∀ p, ds.set i (.val (tIs p) ()) = dsJ p := by intros; rfl) (hi : X.N[i]? = some x := by rfl) (hx : Loc X.env.scope x := by first | exact Or.inl rfl | exact Or.inr rfl)
    (hs : swapsWith e (some (.Name x p2)) pos.line X.env = pure false := by rfl) (hf : X.fn x = true ∨ X.env.scope.names.lookup x = some .local := by first | exact .inl rfl | exact .inr rfl) :
    PSs X (.Assign [.Name x p2] e pos :: rest) (BX c ds (bnd xa fun s0 => withS s0 k) (ER c t)) :=
  PSs.imp (pss_cons (ps_set hN hi hx he hs hf) (PSs.any fun q : {q : OLoc // ∀ p ∈ q.fp, c.H0 p = none} => h2 q.1 q.2)) fun D σ H ⟨m, st, env, p⟩ => ⟨m, st, env, (Post.bnd.mp p).imp fun a s1 p v fp m1 H1 w1 a1 n1 ⟨j, ev, ef, r⟩ => by
    subst ev ef
    obtain ⟨hj, env2⟩ := EnvOk.toand i env w1 a1 n1 r
    rw [hJ] at env2
    exact ⟨⟨j, hj⟩, m1, (s1, a), env2, (Post.withS.mp p).mono (fun b q p v2 m2 H2 w2 a2 r2 => p v2 m2 H2 w2 a2.1 r2) fun e q p => p⟩⟩
variable {la : Addr → LTy A} {u : Ty B} {fn : A → MM S B} {xa : MM T A} {kk : Nat} {f : Addr} {fd : FuncData} {ps : List Str} {x : Str} {es : List Expr} {W : WX} {get : T → S} {put : S → T → T}
/-- a def that changes the pool, beside an object -/
theorem x_callPZ (hc : PoolZ c l p get put) (G : FnOk X.prog X.w X.K X.mg X.base (L2.CX X.prog X.w) kk f fd ps (SpP c.cls l la u fn)) (hr : Room kk X.A) (hm : X.mg x = some (.ref f)) (hk : PySem.W.keepIn X.K (.ref f) = true) (hb : Binds X.K fd ps [])
    (tk : Takes X W) (hE : ErrC c W) (ha : PA X (e :: es) (TAX c ds (la p) xa)) (hg : Gl X x := by rfl) (hdb : (x == ("__debug__" : Str)) = false := by decide)
    (h1 : starEach (e :: es) X.env = (false, eval e X.env) :: starEach es X.env := by rfl) (h2 : (backTo pos (starEach es X.env)).any (·.1) = false := by rfl) :
    PE X (.Call (.Name x p2) (e :: es) [] pos) (TX c ds u (bnd xa fun a => zoom get put (fn a))) := PE.imp (pe_callS G hr hg hm hk hb (fun σ => passAt tk σ) ha hdb h1 h2) fun σ H Q ⟨m, st, env, q⟩ =>
  ⟨m, st, env, (Post.bnd.mp q).imp fun a s1 q vs m1 H1 w1 a1 r1 => by
    have env1 := env.go w1 a1
    have hs : ∀ y ∈ [p], y ∈ c.afp := fun y hy => by rw [List.mem_singleton.mp hy]; exact hc.sub
    refine ⟨p, a, m1, get s1, r1, w1.mh, env1.own p hc.sub, hc.gt a1, (Post.zoom.mp q).mono (fun b s2 q v m' H' w2 a2 r2 => ?_) fun e s2 q d m' H' w2 a2 hd => ?_⟩
    · have w2' : WStep c.afp m1 H1 m' H' := ⟨w2.mm, w2.mh, fun a o ha e => w2.hh a o (fun z => ha (hs a z)) e, w2.ow, w2.dm⟩
      exact q v m' H' (w1.trans w2') (hc.pt a1 (fun p o hp e => w2.hh p o (fun z => hp (List.mem_singleton.mp z)) e) w2.mm a2) r2
    · have w2' : WStep c.afp m1 H1 m' H' := ⟨w2.mm, w2.mh, fun a o ha e => w2.hh a o (fun z => ha (hs a z)) e, w2.ow, w2.dm⟩
      exact hE e _ d σ m' H' ds q (env1.go w2' (hc.pt a1 (fun p o hp e => w2.hh p o (fun z => hp (List.mem_singleton.mp z)) e) w2.mm a2)) (xd_up env1 hd).1 (xd_up env1 hd).2⟩
end
end WL

/-! WLOO: dicts lent to what makes tuples; states under try. -/
namespace WL
open PySem PySem.Spec PyProof.Rows L2
theorem ObjC.errs {T S : Type} {c : Ctx T} {C : Addr} {F : List (FO S)} {j : OLoc} {get : T → S} {put : S → T → T} {E : Exn → T → Prop} (h : ObjC c C F j get put) : ObjC (c.errs E) C F j get put := ⟨h.sub, h.gt, h.pt⟩
theorem PoolZ.errs {T S : Type} {c : Ctx T} {l : LTy S} {p : Addr} {get : T → S} {put : S → T → T} {E : Exn → T → Prop} (h : PoolZ c l p get put) : PoolZ (c.errs E) l p get put := ⟨h.sub, h.gt, h.pt⟩
/-- the tuples of m are those of n -/
def TupM (m n : Hp) : Prop := ∀ q xs, Rd m q (.tup xs) → Rd n q (.tup xs)
def MT {A : Type} (t : Ty A) : Prop := ∀ a v m n, t.rep a v m → TupM m n → t.rep a v n
def LMT {A : Type} (l : LTy A) : Prop := ∀ a vs m n, l.rep a vs m → TupM m n → l.rep a vs n
theorem mt_of {A : Type} {t : Ty A} (h : MF t) : MT t := fun a v m n r _ => h a v m n r
theorem mt_opt {A : Type} {t : Ty A} (h : MT t) : MT (tOpt t) := fun a v m n r z => by
  cases a with
  | none => exact r
  | some a => exact h a v m n r z
theorem lmt_1 {A : Type} {t : Ty A} (h : MT t) : LMT (l1 t) := fun a vs m n ⟨w, e, r⟩ z => ⟨w, e, h _ _ _ _ r z⟩
theorem lmt_c {A B : Type} {t : Ty A} {l : LTy B} (h : MT t) (k : LMT l) : LMT (lc t l) := fun a vs m n ⟨w, ws, e, r, q⟩ z => ⟨w, ws, e, h _ _ _ _ r z, k _ _ _ _ q z⟩
theorem TupM.sqT {K : PySem.W.Frag} {m n : Hp} (h : TupM m n) {a : Addr} {xs : List V} (r : SqT K m a xs) : SqT K n a xs := by
  rcases r with r | r
  · exact .inl (h _ _ r)
  · exact .inr r
theorem mt_tup {A : Type} {K : PySem.W.Frag} {l : LTy A} (h : LMT l) : MT (tTup K l) := fun a v m n ⟨p, vs, e, k, r⟩ z => ⟨p, vs, e, z.sqT k, h _ _ _ _ r z⟩
theorem Reps.mt {A : Type} {t : Ty A} (h : MT t) {m n : Hp} (z : TupM m n) {as : List A} {vs : List V} (r : Reps t m as vs) : Reps t n as vs := by
  induction r with
  | nil => exact .nil
  | cons x _ ih => exact .cons (h _ _ _ _ x z) ih
theorem mt_vt {A : Type} {K : PySem.W.Frag} {t : Ty A} (h : MT t) : MT (tVT K t) := fun a v m n ⟨p, vs, e, k, r⟩ z => ⟨p, vs, e, z.sqT k, Reps.mt h z r⟩
section
variable {T : Type} {c : Ctx T} {σ : L2.St} {m h : Hp} {ds : List Desc} {st : T}
theorem EnvOk.frz3 {A : Type} {o : OTy A} {t : Ty A} {a : A} {i : Nat} (x : EnvOk c σ m h ds st) (hd : ds[i]? = some (.own o a)) (hf : Freezes o t) :
    ∃ (m' : Hp) (fp : List Addr), Sub m m' ∧ (∀ q, q ∉ fp → m' q = m q) ∧ (∀ p ∈ fp, m p = none) ∧ (∃ v, o.rep a v fp h m) ∧ EnvOk c σ m' h (ds.set i (.val t a)) st := by
  obtain ⟨fps, sl, dj, fr⟩ := x.slots
  obtain ⟨s, fp, e1, e2, v, rfl, r, n⟩ := sl.get hd
  obtain ⟨m', a1, a2, a3, q⟩ := hf a v fp h m r x.mh n
  have hfp := List.mem_of_getElem? e2
  have ow : ∀ y, m y = none → y ∉ fp → m' y = none := fun y e z => by rw [a3 y z]; exact e
  have hne : ∀ j gp, j ≠ i → fps[j]? = some gp → ∀ p ∈ gp, p ∉ fp := fun j gp hj e p hp hq => by
    unfold Disj at dj
    rw [List.pairwise_iff_getElem] at dj
    obtain ⟨hj', ej⟩ := List.getElem?_eq_some_iff.mp e
    obtain ⟨hi', ei⟩ := List.getElem?_eq_some_iff.mp e2
    rcases Nat.lt_or_gt_of_ne hj with z | z
    · exact dj j i hj' hi' z p (by rw [ej]; exact hp) (by rw [ei]; exact hq)
    · exact dj i j hi' hj' z p (by rw [ei]; exact hq) (by rw [ej]; exact hp)
  have key : ∀ {σ : L2.St} {fps : List (List Addr)} {ds : List Desc}, Slots m h σ fps ds → ∀ i, σ[i]? = some (some v) → (∀ j gp, j ≠ i → fps[j]? = some gp → ∀ p ∈ gp, p ∉ fp) → Slots m' h σ (fps.set i []) (ds.set i (.val t a)) := by
    intro σ fps ds sl
    induction sl with
    | nil => intro i _ _; exact .nil
    | cons b sl' ih =>
      intro i hi hn
      cases i with
      | zero =>
        refine .cons ⟨rfl, v, by simpa using hi, q⟩ (sl'.go (fun _ _ _ _ => rfl) a1 fun gp hg p hp e => ?_)
        obtain ⟨j, hj⟩ := List.mem_iff_getElem?.mp hg
        exact ow p e (hn (j + 1) gp (by omega) (by simpa using hj) p hp)
      | succ i =>
        refine .cons (b.go (fun _ _ => rfl) a1 fun p hp e => ow p e (hn 0 _ (by omega) rfl p hp)) (ih i (by simpa using hi) fun j gp hj e => hn (j + 1) gp (by omega) (by simpa using e))
  refine ⟨m', fp, a1, a3, n, ⟨v, r⟩, ⟨⟨x.step.mm.trans a1, a2, x.step.hh, fun y e nn => ow y (x.step.ow y e nn) fun z => nn (fr fp hfp y z).2, x.step.dm⟩, ⟨fps.set i [], key sl i e1 hne, dj.set fun gp hg => .inl fun p _ z => absurd z (by simp), fun gp hg p hp => ?_⟩,
    c.ambF (fun _ _ => rfl) a1 x.amb, fun p hp => ow p (x.own p hp) fun z => (fr fp hfp p z).1 hp, c.pinM a1 x.pin⟩⟩
  rcases List.mem_or_eq_of_mem_set hg with z | z
  · exact fr gp z p hp
  · subst z; exact absurd hp (by simp)
end
section
variable {X : Cx} {T A B D KK : Type} [DecidableEq A] {c : Ctx T} {ds : List Desc} {e : Expr}
/-- an expression reads the dict at i, and makes tuples -/
theorem x_lendD (i : Nat) {u : Ty B} {y : MM Unit B} {w : Ty D} {enc : A → Key} {t : Ty (List (A × D))} {a : List (A × D)} (hf : Freezes (oDictK HO.dK enc w) t) (mt : MT u) (hd : ds[i]? = some (.own (oDictK HO.dK enc w) a)) (hx : PE X e (TX c.pure (ds.set i (.val t a)) u y)) : PE X e (TX c ds u (pu y)) := PE.imp hx fun σ H Q ⟨m, st, env, p⟩ => by
  obtain ⟨m', fp, a1, off, nn, ⟨v0, p0, kvs, ev, ef, hk, _⟩, env'⟩ := env.frz3 hd hf
  refine ⟨m', (), env'.pure, (Post.pu p).mono (fun b _ q v m1 H1 w1 _ r => q v _ H1 (w1.unl a1 off nn).wide (EnvOk.ambGrow env.amb (w1.unl a1 off nn)) (mt _ _ _ _ r fun x xs hx => ?_)) fun _ _ z => z⟩
  have nx : x ∉ fp := fun z => by
    rw [ef] at z
    have z := List.mem_singleton.mp z
    subst z
    have hh := w1.hh x _ (fun z => by cases z) hk
    rcases hx with hx | ⟨o, hx⟩
    · have := w1.mh _ _ hx
      rw [hh] at this; cases this
    · have := w1.mh _ _ hx
      rw [hh] at this; cases this
  have e : unl m1 fp x = m1 x := if_neg nx
  unfold Rd at hx ⊢
  rw [e]
  exact hx
/-- list(o), o a dict by texts -/
theorem p_listD {u : Ty D} {o : Expr} {v : V} {get : T → List (Str × D)} {put : List (Str × D) → T → T} {pos p2 : Pos} (hc : X.calm = true) (hp : PartC c (oDictK HO.dK (Sum.inr : Str → Key) u) v get put) (ho : PE X o (PlTE c ds v)) (hm : X.mg "list" = none) (hv : bootBuiltins "list" = some (.type "list")) (hg : Gl X "list" := by rfl)
    (he : starEach [o] X.env = (false, eval o X.env) :: starEach [] X.env := by rfl) (hpl : (backTo pos (starEach [] X.env)).any (·.1) = false := by rfl) :
    PE X (.Call (.Name "list" p2) [o] [] pos) (TXO c ds (oList tStr) (getP fun st => (get st).map (·.1))) :=
  PE.imp (pe_callTy (call_listD hc) hg hm hv (pa_cons ho pa_nil he) (by decide) (by decide) he hpl) fun σ H Q ⟨m, st, env, p⟩ => by
    obtain ⟨q, kvs, ev, ef, k, r⟩ := hp.gt env.amb
    subst ev
    have e : kvs.map (fun kv => kV kv.1) = ((get st).map (·.1)).map V.str := by
      have h := congrArg (List.map kV) r.keysS
      rw [List.map_map, List.map_map] at h
      exact h
    refine ⟨m, st, env, q, kvs, rfl, .inl k, fun l hl => ?_⟩
    rw [e]
    exact newList env.mh (repsS _ _) hl fun v fp m' H' w n r => p v fp m' H' w.wide (EnvOk.ambGrow env.amb w) n r
theorem rd_cmpR {t1 : Ty A} {t2 : Ty B} {o : OTy B} {b : B} {r : R2} {f : A → B → Option Bool} {xa : MM T A} {σ : L2.St} {H : Hp} {Q : VK} (i : Nat) (hf : Freezes o t2) (hs : Op2 r t1 t2 tBool f) (hd : ds[i]? = some (.own o b)) (h : TX c ds tBool (bnd xa fun v => lft (f v b)) σ H Q) : tOp r (TX c ds t1 xa) (fun σ H Q => ∃ v, σ[i]? = some (some v) ∧ Q v H) σ H Q := by
  obtain ⟨m, st, env, p⟩ := h
  refine ⟨m, st, env, (Post.bnd.mp p).imp fun a s1 p v1 m1 H1 w1 a1 r1 => ?_⟩
  obtain ⟨g, e, p⟩ := Post.lft.mp p
  obtain ⟨m', fp, b1, off, nn, _, env'⟩ := (env.go w1 a1).frz3 hd hf
  have hd' : (ds.set i (.val t2 b))[i]? = some (.val t2 b) := by
    obtain ⟨hl, _⟩ := List.getElem?_eq_some_iff.mp hd
    rw [List.getElem?_set_self hl]
  obtain ⟨v2, e2, r2⟩ := val_at env' hd'
  exact ⟨v2, e2, hs a b g v1 v2 m' H1 Q (t1.mono b1 r1) r2 env'.mh e fun v m2 H2 w3 r3 => p v _ H2 (w1.trans (w3.unl b1 off nn).wide) (EnvOk.ambGrow a1 (w3.unl b1 off nn)) r3⟩
/-- e1 == x, x owned -/
theorem x_cmpR (i : Nat) {t1 : Ty A} {t2 : Ty B} {o : OTy B} {b : B} {op : CmpOp} {r : R2} {f : A → B → Option Bool} {xa : MM T A} {a1 : Expr} {x : Str} {pos p2 : Pos} (hf : Freezes o t2) (ho : OpR X (compareOp op) r) (hs : Op2 r t1 t2 tBool f) (ha : PE X a1 (TX c ds t1 xa)) (hd : ds[i]? = some (.own o b) := by rfl) (hN : X.N[i]? = some x := by rfl) (hv : Vis X.env.scope x := by first | exact Or.inl rfl | exact Or.inr (Or.inl rfl) | exact Or.inr (Or.inr rfl))
    (h1 : (x == ("__debug__" : Str)) = false := by decide) (h2 : (x == ("__classdict__" : Str)) = false := by decide) (hm : behindInMarks op (.Name x p2) = false := by first | exact nomark _ | rfl) : PE X (.Compare a1 [op] [.Name x p2] pos) (TX c ds tBool (bnd xa fun v => lft (f v b))) :=
  PE.imp (pe_cmpR ho ha (pe_var hN hv h1 h2) hm) fun _ _ _ h => rd_cmpR i hf hs hd h
theorem t_cmpR (i : Nat) {t1 : Ty A} {t2 : Ty B} {o : OTy B} {b : B} {op : CmpOp} {r : R2} {f : A → B → Option Bool} {xa : MM T A} {a1 : Expr} {x : Str} {pos p2 : Pos} (hf : Freezes o t2) (ho : OpR X (compareOp op) r) (hs : Op2 r t1 t2 tBool f) (ha : PE X a1 (TX c ds t1 xa)) (hd : ds[i]? = some (.own o b) := by rfl) (hN : X.N[i]? = some x := by rfl) (hv : Vis X.env.scope x := by first | exact Or.inl rfl | exact Or.inr (Or.inl rfl) | exact Or.inr (Or.inr rfl))
    (h1 : (x == ("__debug__" : Str)) = false := by decide) (h2 : (x == ("__classdict__" : Str)) = false := by decide) (hm : behindInMarks op (.Name x p2) = false := by first | exact nomark _ | rfl) : PT X (.Compare a1 [op] [.Name x p2] pos) (TTX c ds (bnd xa fun v => lft (f v b))) :=
  PT.imp (pt_cmpR ho ha (pe_var hN hv h1 h2) hm) fun σ H Q ⟨m, st, env, p⟩ => by
    have h : TX c ds tBool (bnd xa fun v => lft (f v b)) σ H (fun x H' => ∃ k, x = .bl k ∧ Q k H') := ⟨m, st, env, p.imp fun a s1 p v m1 H1 w1 a1 r1 => ⟨a, r1, p m1 H1 w1 a1⟩⟩
    exact rd_cmpR i hf hs hd h
end
section
variable {X : Cx} {T S A B : Type} {c : Ctx T} {ds : List Desc} {k : Nat} {f D : Addr} {fdd : FuncData} {ps : List Str} {x : Str} {p pos : Pos} {W : WX} {F : List (FO S)} {CX : CXT} {sp : Sp} {E : L2.St → XK}
theorem pe_makeS0 (M : Mk X.K D f) (G : FnOk X.prog X.w X.K X.mg X.base CX k f fdd ps sp) (hr : Room (k + 1) X.A) (hg : Gl X x) (hm : X.mg x = some (.ref D)) (hb : Binds X.K fdd ps []) (hx : ∀ σ, PassesAt CX X σ (E σ)) (hdb : (x == ("__debug__" : Str)) = false := by decide) :
    PE X (.Call (.Name x p) [] [] pos) (tMakeS D sp E tNil) := by
  refine ⟨fun pins s σ H Q I h => ?_⟩
  refine wpAny_Call_Name_kw (ld_glob I hg hm ?_ hdb)
  exact PySem.W.callWith_K0 I.kIn M.kp (run_makeS (us := []) M G hr hb (hx σ) I .nil h)
theorem x_makeA0 {fn : Unit → MM Unit S} (G : FnOk X.prog X.w X.K X.mg X.base (L2.CX X.prog X.w) k f fdd ps (SpIA c.cls D l0 F fn)) (M : Mk X.K D f) (hr : Room (k + 1) X.A) (hm : X.mg x = some (.ref D)) (hb : Binds X.K fdd ps [])
    (tk : Takes X W) (he : ErrC c W) (hg : Gl X x := by rfl) (hdb : (x == ("__debug__" : Str)) = false := by decide) :
    PE X (.Call (.Name x p) [] [] pos) (TXO c ds (oObj D F) (eCall fn (ret ()))) := PE.imp (pe_makeS0 M G hr hg hm hb (fun σ => passAt tk σ) hdb) fun σ H Q ⟨m, st, env, q⟩ =>
  fun y dx ny nd ne => ⟨(), m, H, y, dx, [], rfl, ny, nd, ne, rfl, rfl, env.mh, (Post.up.mp (show Post (up (fn ()) st) _ _ from q)).mono (fun b _ q fp m' H' w2 n2 r2 => ⟨rfl, q (.ref y) fp m' H' w2.wide (EnvOk.ambGrow env.amb w2) n2 r2⟩)
    fun e _ q d m' H' w2 hd => he e st d σ m' H' ds q (env.grow w2) (xd_up env hd).1 (xd_up env hd).2⟩
end
end WL

/-! WLPP: an object that changes until the def returns it; then it stays. -/
namespace WL
open PySem PySem.Spec PyProof.Rows L2
theorem tak_sub {m h : Hp} {f1 f2 : List Addr} (hm : Sub m h) (hs : ∀ p ∈ f1, p ∈ f2) : Sub (tak m h f1) (tak m h f2) := fun a o q => by
  by_cases z1 : a ∈ f1
  · rw [tak_in z1] at q; rw [tak_in (hs a z1)]; exact q
  · rw [tak_out z1] at q
    by_cases z2 : a ∈ f2
    · rw [tak_in z2]; exact hm a o q
    · rw [tak_out z2]; exact q
theorem sub_tak {m h : Hp} {fp : List Addr} (hm : Sub m h) : Sub m (tak m h fp) := fun a o q => by
  by_cases z : a ∈ fp
  · rw [tak_in z]; exact hm a o q
  · rw [tak_out z]; exact q
theorem tak_h {m h : Hp} {fp : List Addr} (hm : Sub m h) : Sub (tak m h fp) h := fun a o q => by
  by_cases z : a ∈ fp
  · rw [tak_in z] at q; exact q
  · rw [tak_out z] at q; exact hm a o q
/-- what is owned stays, whatever is known of it -/
def FreezeX {A : Type} (o : OTy A) (t : Ty A) : Prop := ∀ (a : A) (v : V) (fp : List Addr) (h m : Hp), o.rep a v fp h m → Sub m h → t.rep a v (tak m h fp)
theorem fx_list {A : Type} {t : Ty A} : FreezeX (oList t) (tList t) := fun as v fp h m ⟨p, vs, e, ef, k, r⟩ hm =>
  ⟨p, vs, e, by rw [tak_in (by rw [ef]; simp)]; exact k, r.mono (sub_tak hm)⟩
theorem fx_dictK {A B KK : Type} [DecidableEq A] [DecidableEq KK] {ho : List (KK × V) → HO} {enc : A → KK} {u : Ty B} : FreezeX (oDictK ho enc u) (tDictK ho enc u) := fun as v fp h m ⟨p, kvs, e, ef, k, r⟩ hm =>
  ⟨p, kvs, e, by rw [tak_in (by rw [ef]; simp)]; exact k, r.mono (sub_tak hm)⟩
inductive FFx {T : Type} (st : T) : List (FO T) → List FD → Prop where
  | nil : FFx st [] []
  | v {A : Type} {n : Str} {t : Ty A} {g : T → A} {F : List (FO T)} {G : List FD} : FFx st F G → FFx st (fov n t g :: F) (fd n t (g st) :: G)
  | o {A : Type} {n : Str} {o : OTy A} {t : Ty A} {g : T → A} {F : List (FO T)} {G : List FD} : FreezeX o t → FFx st F G → FFx st (foo n o g :: F) (fd n t (g st) :: G)
theorem FFx.go {T : Type} {st : T} {F : List (FO T)} {G : List FD} (z : FFx st F G) {L : Str → V} {h m : Hp} (hm : Sub m h) : ∀ {fs : List (Str × V)} {fps : List (List Addr)} (all : List Addr), (∀ p ∈ fps.flatten, p ∈ all) → FReps L h m st F fs fps → FRep (tak m h all) G fs := by
  induction z with
  | nil => intro fs fps all _ r; cases r; exact .nil
  | v _ ih =>
    intro fs fps all ha r
    cases r with
    | cons a t =>
      obtain ⟨ef, a⟩ := a
      subst ef
      exact .cons (Ty.mono _ (sub_tak hm) a) (ih all (by simpa using ha) t)
  | o fz _ ih =>
    intro fs fps all ha r
    cases r with
    | @cons _ _ v fs fp fps a t =>
      obtain ⟨ev, a⟩ := a
      rw [List.flatten_cons] at ha
      exact .cons (Ty.mono _ (tak_sub hm fun p hp => ha p (List.mem_append_left _ hp)) (fz _ _ _ _ _ a hm)) (ih all (fun p hp => ha p (List.mem_append_right _ hp)) t)
theorem fx_amb {T : Type} {C : Addr} {F : List (FO T)} {Fs : T → List FD} {j : OLoc} {st : T} {h m : Hp} (hz : ∀ st, FFx st F (Fs st)) (hm : Sub m h) (r : ambA C F j st h m) : (tIns C Fs).rep st (.ref j.x) (tak m h j.fp) := by
  obtain ⟨nd, dx, fs, k, q⟩ := r
  exact ⟨j.x, dx, fs, rfl, by rw [tak_in (by unfold OLoc.fp; exact List.mem_cons_self)]; exact k, (hz st).go hm j.fp (fun p hp => List.mem_cons_of_mem _ hp) q⟩
/-- the object's last state is the value -/
def withR {T S : Type} (s0 : S) (k : MM (T × S) Unit) : MM T S := fun st => match k (st, s0) with
  | .ok _ q => .ok q.2 q.1
  | .err e q => .err e q.1
  | .stuck => .stuck
theorem Post.withR {T S : Type} {s0 : S} {k : MM (T × S) Unit} {st : T} {P : S → T → Prop} {E : Exn → T → Prop} : Post (withR s0 k st) P E ↔ Post (k (st, s0)) (fun _ q => P q.2 q.1) (fun e q => E e q.1) := by
  unfold WL.withR
  cases k (st, s0) <;> rfl
section
variable {X : Cx} {T S : Type} {c : Ctx T} {C : Addr} {F : List (FO S)} {Fs : S → List FD} {ds : List Desc} {pos p2 : Pos} {e : Expr} {rest : List Stmt}
/-- an object is made, changes, and is returned -/
theorem b_objWR (i : Nat) {x : Str} (dsJ : Addr → List Desc) {xa : MM T S} {k : MM (T × S) Unit} (he : PE X e (TXO c ds (oObj C F) xa)) (hz : ∀ st, FFx st F (Fs st))
    (h2 : ∀ j hj, PSs X rest (BX (c.and C F j hj) (dsJ j.x) k (ER (c.and C F j hj) (tIs j.x)))) (hN : X.N.Nodup) (hJ : ∀ p, ds.set i (.val (tIs p) ()) = dsJ p := by intros; rfl) (hi : X.N[i]? = some x := by rfl) (hx : Loc X.env.scope x := by first | exact Or.inl rfl | exact Or.inr rfl)
    (hs : swapsWith e (some (.Name x p2)) pos.line X.env = pure false := by rfl) (hf : X.fn x = true ∨ X.env.scope.names.lookup x = some .local := by first | exact .inl rfl | exact .inr rfl) :
    PSs X (.Assign [.Name x p2] e pos :: rest) (BX c ds (bnd xa fun s0 => withR s0 k) (ER c (tIns C Fs))) :=
  PSs.imp (pss_cons (ps_set hN hi hx he hs hf) (PSs.any fun q : {q : OLoc // ∀ p ∈ q.fp, c.H0 p = none} => h2 q.1 q.2)) fun D σ H ⟨m, st, env, p⟩ => ⟨m, st, env, (Post.bnd.mp p).imp fun a s1 p v fp m1 H1 w1 a1 n1 ⟨j, ev, ef, r⟩ => by
    subst ev ef
    obtain ⟨hj, env2⟩ := EnvOk.toand i env w1 a1 n1 r
    rw [hJ] at env2
    refine ⟨⟨j, hj⟩, m1, (s1, a), env2, (Post.withR.mp p).mono (fun b q p v2 m2 H2 w2 a2 r2 => ?_) fun e q p => p⟩
    obtain ⟨b1, b2, b3⟩ := a2
    have ev : v2 = .ref j.x := r2
    subst ev
    have hm := w2.mh
    refine p _ (tak m2 H2 j.fp) H2 ⟨fun a o q => sub_tak hm a o (w2.mm a o q), tak_h hm, w2.hh, fun a e n => ?_, w2.dm⟩ (c.ambF (fun _ _ => rfl) (sub_tak hm) b1) (fx_amb hz hm b2)
    rw [tak_out fun z => n (hj a z)]
    exact w2.ow a e n⟩
end
end WL

/-! WLQQ: what defs are handed and change, in general. -/
namespace WL
open PySem PySem.Spec PyProof.Rows L2
/-- something that changes: where it stands, what stands there -/
structure Amb (S : Type) where
  fp : List Addr
  am : S → Hp → Hp → Prop
  frame : ∀ {s : S} {h m h' m' : Hp}, (∀ p ∈ fp, h' p = h p) → Sub m m' → am s h m → am s h' m'
  dom : ∀ {s : S} {h m : Hp}, am s h m → ∀ p ∈ fp, h p ≠ none
def Amb.own {A : Type} (o : OTy A) (v : V) (fp : List Addr) : Amb A := ⟨fp, fun a h m => o.rep a v fp h m, fun hk hm r => o.frame hk hm r, fun r => o.dom r⟩
def Amb.pool {S : Type} (l : LTy S) (p : Addr) : Amb S := ⟨[p], ambP l p, fun hk hm ⟨us, k, r⟩ => ⟨us, by rw [hk p (by simp)]; exact k, l.mono hm r⟩, fun ⟨us, k, r⟩ q hq => by obtain rfl := List.mem_singleton.mp hq; rw [k]; exact fun z => nomatch z⟩
def Amb.obj {S : Type} (C : Addr) (F : List (FO S)) (j : OLoc) : Amb S := ⟨j.fp, ambA C F j, fun hk hm r => r.frame hk hm, fun r => r.dom⟩
def Amb.both {S S' : Type} (a : Amb S) (b : Amb S') : Amb (S × S') := ⟨a.fp ++ b.fp, fun s h m => a.am s.1 h m ∧ b.am s.2 h m ∧ ∀ p ∈ b.fp, p ∉ a.fp,
  fun hk hm ⟨x, y, d⟩ => ⟨a.frame (fun p hp => hk p (List.mem_append_left _ hp)) hm x, b.frame (fun p hp => hk p (List.mem_append_right _ hp)) hm y, d⟩,
  fun ⟨x, y, d⟩ p hp => (List.mem_append.mp hp).elim (a.dom x p) (b.dom y p)⟩
/-- B is a part of what c's state speaks of -/
structure SubC {T S : Type} (c : Ctx T) (B : Amb S) (get : T → S) (put : S → T → T) : Prop where
  sub : ∀ p ∈ B.fp, p ∈ c.afp
  gt : ∀ {st : T} {h m : Hp}, c.amb st h m → B.am (get st) h m
  pt : ∀ {st : T} {s : S} {h m h' m' : Hp}, c.amb st h m → (∀ p o, p ∉ B.fp → h p = some o → h' p = some o) → Sub m m' → B.am s h' m' → c.amb (put s st) h' m'
section
variable {T S S' A B : Type} {c : Ctx T} {a : Amb S} {b : Amb S'} {get : T → S} {put : S → T → T} {get' : T → S'} {put' : S' → T → T}
theorem SubC.pin {q : Hp → Prop} {hq : ∀ {m n : Hp}, Sub m n → q m → q n} (h : SubC c a get put) : SubC (c.pinned q hq) a get put := ⟨h.sub, h.gt, h.pt⟩
theorem SubC.nox (h : SubC c a get put) : SubC c.nox a get put := ⟨h.sub, h.gt, h.pt⟩
theorem SubC.errs {E : Exn → T → Prop} (h : SubC c a get put) : SubC (c.errs E) a get put := ⟨h.sub, h.gt, h.pt⟩
theorem SubC.fst {get : T → S × S'} {put : S × S' → T → T} (h : SubC c (a.both b) get put) : SubC c a (fun t => (get t).1) (fun s t => put (s, (get t).2) t) :=
  ⟨fun p hp => h.sub p (List.mem_append_left _ hp), fun x => (h.gt x).1, fun x hk hm r => by
    obtain ⟨x1, x2, d⟩ := h.gt x
    exact h.pt x (fun p o hp e => hk p o (fun z => hp (List.mem_append_left _ z)) e) hm ⟨r, b.frame (keep_fp (b.dom x2) fun q o hq e => hk q o (d q hq) e) hm x2, d⟩⟩
theorem SubC.snd {get : T → S × S'} {put : S × S' → T → T} (h : SubC c (a.both b) get put) : SubC c b (fun t => (get t).2) (fun s t => put ((get t).1, s) t) :=
  ⟨fun p hp => h.sub p (List.mem_append_right _ hp), fun x => (h.gt x).2.1, fun x hk hm r => by
    obtain ⟨x1, x2, d⟩ := h.gt x
    exact h.pt x (fun p o hp e => hk p o (fun z => hp (List.mem_append_right _ z)) e) hm ⟨a.frame (keep_fp (a.dom x1) fun q o hq e => hk q o (fun z => d q z hq) e) hm x1, r, d⟩⟩
/-- two parts are a part -/
theorem SubC.pair (h1 : SubC c a get put) (h2 : SubC c b get' put') (hd : ∀ p ∈ b.fp, p ∉ a.fp) : SubC c (a.both b) (fun t => (get t, get' t)) (fun s t => put' s.2 (put s.1 t)) :=
  ⟨fun p hp => (List.mem_append.mp hp).elim (h1.sub p) (h2.sub p), fun x => ⟨h1.gt x, h2.gt x, hd⟩, fun {st s h m h' m'} x hk hm ⟨r1, r2, _⟩ => by
    have x1 := h1.pt (s := s.1) (h' := tak h h' a.fp) (m' := m') x (fun p o hp e => by rw [tak_out hp]; exact e) hm (a.frame (fun p hp => tak_in hp) (.refl m') r1)
    refine h2.pt (s := s.2) x1 (fun p o hp e => ?_) (.refl m') r2
    by_cases z : p ∈ a.fp
    · rw [tak_in z] at e; exact e
    · rw [tak_out z] at e; exact hk p o (fun y => (List.mem_append.mp y).elim z hp) e⟩
theorem SubC.pool {l : LTy S} {p : Addr} (h : SubC c (Amb.pool l p) get put) : PoolZ c l p get put := ⟨h.sub p (List.mem_singleton.mpr rfl), h.gt, fun x hk hm r => h.pt x (fun q o hq e => hk q o (fun z => hq (List.mem_singleton.mpr z)) e) hm r⟩
theorem SubC.of_pool {l : LTy S} {p : Addr} (h : PoolZ c l p get put) : SubC c (Amb.pool l p) get put := ⟨fun q hq => by rw [List.mem_singleton.mp hq]; exact h.sub, h.gt, fun x hk hm r => h.pt x (fun q o hq e => hk q o (fun z => hq (List.mem_singleton.mp z)) e) hm r⟩
theorem SubC.obj {C : Addr} {F : List (FO S)} {j : OLoc} (h : SubC c (Amb.obj C F j) get put) : ObjC c C F j get put := ⟨h.sub, h.gt, h.pt⟩
theorem SubC.of_obj {C : Addr} {F : List (FO S)} {j : OLoc} (h : ObjC c C F j get put) : SubC c (Amb.obj C F j) get put := ⟨h.sub, h.gt, h.pt⟩
def SubC.part {o : OTy S} {v : V} {fp : List Addr} (h : SubC c (Amb.own o v fp) get put) : PartC c o v get put := ⟨fp, h.sub, h.gt, fun x hk r => h.pt x (fun p o hp e => by rw [hk p hp]; exact e) (.refl _) r⟩
end
/-- a def is handed B -/
def gCtx {S : Type} (K : PySem.W.Frag) (cls : Nat → Addr) (B : Amb S) (m H : Hp) (E : XK) : Ctx S where
  K := K
  cls := cls
  S := B.fp
  m0 := m
  H0 := H
  afp := B.fp
  amb := B.am
  ambF := fun hk hm r => B.frame hk hm r
  ambD := fun r => B.dom r
  afr := fun q hq => .inl hq
  pin := fun _ => True
  pinM := fun _ _ => trivial
  err := fun e st => ∀ d m' H', WStep B.fp m H m' H' → B.am st H' m' → XdAt H m' H' d e → E (.ref (cls e.k)) (some d) H'
theorem gErr {S : Type} {K : PySem.W.Frag} {cls : Nat → Addr} {B : Amb S} {m H : Hp} {E : XK} : ErrC (gCtx K cls B m H E) (fun c d _ H => E c d H) := fun e st d σ m' H' ds h env hd _ => h d m' H' env.step env.amb hd
theorem gSub {S : Type} {K : PySem.W.Frag} {cls : Nat → Addr} {B : Amb S} {m H : Hp} {E : XK} : SubC (gCtx K cls B m H E) B id (fun s _ => s) := ⟨fun _ h => h, fun h => h, fun _ _ _ h => h⟩
/-- a def that changes what it is handed -/
def SpG {L S A Bt : Type} (cls : Nat → Addr) (B : L → Amb S) (la : L → LTy A) (t : Ty Bt) (f : A → MM S Bt) : Sp := fun vs H Q E => ∃ j a m st, (la j).rep a vs m ∧ Sub m H ∧ (∀ p ∈ (B j).fp, m p = none) ∧ (B j).am st H m ∧
  Post (f a st) (fun b st' => ∀ v m' H', WStep (B j).fp m H m' H' → (B j).am st' H' m' → t.rep b v m' → Q v H') (fun e st' => ∀ d m' H', WStep (B j).fp m H m' H' → (B j).am st' H' m' → XdAt H m' H' d e → E (.ref (cls e.k)) (some d) H')
section
variable {X : Cx} {T S A Bt L : Type} {c : Ctx T} {ds : List Desc} {pos p2 : Pos} {e : Expr} {kk : Nat} {f : Addr} {fd : FuncData} {ps : List Str} {x : Str} {es : List Expr} {W : WX} {get : T → S} {put : S → T → T}
theorem x_callG {B : L → Amb S} {la : L → LTy A} {u : Ty Bt} {fn : A → MM S Bt} {xa : MM T A} (j : L) (hc : SubC c (B j) get put) (G : FnOk X.prog X.w X.K X.mg X.base (L2.CX X.prog X.w) kk f fd ps (SpG c.cls B la u fn)) (hr : Room kk X.A) (hm : X.mg x = some (.ref f)) (hk : PySem.W.keepIn X.K (.ref f) = true) (hb : Binds X.K fd ps [])
    (tk : Takes X W) (hE : ErrC c W) (ha : PA X (e :: es) (TAX c ds (la j) xa)) (hg : Gl X x := by rfl) (hdb : (x == ("__debug__" : Str)) = false := by decide)
    (h1 : starEach (e :: es) X.env = (false, eval e X.env) :: starEach es X.env := by rfl) (h2 : (backTo pos (starEach es X.env)).any (·.1) = false := by rfl) :
    PE X (.Call (.Name x p2) (e :: es) [] pos) (TX c ds u (bnd xa fun a => zoom get put (fn a))) := PE.imp (pe_callS G hr hg hm hk hb (fun σ => passAt tk σ) ha hdb h1 h2) fun σ H Q ⟨m, st, env, q⟩ =>
  ⟨m, st, env, (Post.bnd.mp q).imp fun a s1 q vs m1 H1 w1 a1 r1 => by
    have env1 := env.go w1 a1
    refine ⟨j, a, m1, get s1, r1, w1.mh, fun p hp => env1.own p (hc.sub p hp), hc.gt a1, (Post.zoom.mp q).mono (fun b s2 q v m' H' w2 a2 r2 => ?_) fun e s2 q d m' H' w2 a2 hd => ?_⟩
    · have w2' : WStep c.afp m1 H1 m' H' := ⟨w2.mm, w2.mh, fun a o ha e => w2.hh a o (fun z => ha (hc.sub a z)) e, w2.ow, w2.dm⟩
      exact q v m' H' (w1.trans w2') (hc.pt a1 (fun p o hp e => w2.hh p o hp e) w2.mm a2) r2
    · have w2' : WStep c.afp m1 H1 m' H' := ⟨w2.mm, w2.mh, fun a o ha e => w2.hh a o (fun z => ha (hc.sub a z)) e, w2.ow, w2.dm⟩
      exact hE e _ d σ m' H' ds q (env1.go w2' (hc.pt a1 (fun p o hp e => w2.hh p o hp e) w2.mm a2)) (xd_up env1 hd).1 (xd_up env1 hd).2⟩
end
section
variable {P : Program} {w : World} {K : PySem.W.Frag} {mg : Str → Option Value} {base : Heap} {x qual : Str} {st : Stmt} {f : Addr} {fd : FuncData} {N ps : List Str} {k r : Nat} {cls : Nat → Addr} {L S A Bt : Type}
theorem fn_G {B : L → Amb S} {la : L → LTy A} {t : Ty Bt} {fn : A → MM S Bt} {D : L → A → List Desc} (F : Fun K x qual st f fd) (Sc : FnScope N ps (defScope st)) (hl : ∀ j, LDesc (la j) ps.length (D j)) (hn : N.length = ps.length + r)
    (body : ∀ (cdv : Value) (A : Around) (outer : List Env) (s : Shared) (H : Hp) (E : XK) (m : Hp) (j : L) a, Room k (A.deeper (envOfC qual (defScope st) s.heap.objs.size f cdv)) →
      PSs (bX P w K mg base N qual st f cdv A outer s H E) (defBody st) (BX (gCtx K cls (B j) m H E) (D j a ++ List.replicate r .any) (fn a) (ER (gCtx K cls (B j) m H E) t))) :
    FnOk P w K mg base (L2.CX P w) (k + 1) f fd ps (SpG cls B la t fn) := by
  obtain ⟨oc, od, kV, doc, pm, an, cdv, ct, osl, rfl, lk, hcd⟩ := F.ex
  refine fn_of lk hcd Sc (fun vs H Q E ⟨j, a, m, st', h, _⟩ => (hl j).len a vs m h) fun A outer s H vs Q E hr ⟨j, a, m, st', h, hm, hp, am, q⟩ => ?_
  exact ⟨_, body cdv A outer s H E m j a hr, m, st', env_start (hl j) h hn hm rfl rfl am hp trivial, q.mono (fun b s1 q v m' H' w' a' r' => q v m' H' w' a' r') fun e _ q => q⟩
theorem fn_GN {B : L → Amb S} {la : L → LTy A} {fn : A → MM S Unit} {D : L → A → List Desc} {dsN : L → Unit → List Desc} (F : Fun K x qual st f fd) (Sc : FnScope N ps (defScope st)) (hl : ∀ j, LDesc (la j) ps.length (D j)) (hn : N.length = ps.length + r)
    (body : ∀ (cdv : Value) (A : Around) (outer : List Env) (s : Shared) (H : Hp) (E : XK) (m : Hp) (j : L) a, Room k (A.deeper (envOfC qual (defScope st) s.heap.objs.size f cdv)) →
      PSs (bX P w K mg base N qual st f cdv A outer s H E) (defBody st) (BX (gCtx K cls (B j) m H E) (D j a ++ List.replicate r .any) (fn a) (EN (gCtx K cls (B j) m H E) (dsN j)))) :
    FnOk P w K mg base (L2.CX P w) (k + 1) f fd ps (SpG cls B la tNon fn) := by
  obtain ⟨oc, od, kV, doc, pm, an, cdv, ct, osl, rfl, lk, hcd⟩ := F.ex
  refine fn_of lk hcd Sc (fun vs H Q E ⟨j, a, m, st', h, _⟩ => (hl j).len a vs m h) fun A outer s H vs Q E hr ⟨j, a, m, st', h, hm, hp, am, q⟩ => ?_
  exact ⟨_, body cdv A outer s H E m j a hr, m, st', env_start (hl j) h hn hm rfl rfl am hp trivial, q.mono (fun b s1 q σ' m' H' env' => q .non m' H' env'.step env'.amb rfl) fun e _ q => q⟩
end
/-! what is owned, from now on a part of the state -/
def Ctx.andG {T S : Type} (c : Ctx T) (B : Amb S) (hj : ∀ p ∈ B.fp, c.H0 p = none) : Ctx (T × S) where
  K := c.K
  cls := c.cls
  S := c.S
  m0 := c.m0
  H0 := c.H0
  afp := c.afp ++ B.fp
  amb := fun st h m => c.amb st.1 h m ∧ B.am st.2 h m ∧ ∀ p ∈ B.fp, p ∉ c.afp
  ambF := fun hk hm ⟨a, b, d⟩ => ⟨c.ambF (fun p hp => hk p (List.mem_append_left _ hp)) hm a, B.frame (fun p hp => hk p (List.mem_append_right _ hp)) hm b, d⟩
  ambD := fun ⟨a, b, d⟩ p hp => (List.mem_append.mp hp).elim (c.ambD a p) (B.dom b p)
  afr := fun p hp => (List.mem_append.mp hp).elim (c.afr p) fun z => .inr (hj p z)
  pin := c.pin
  pinM := c.pinM
  err := fun e st => c.err e st.1
section
variable {T S S' A : Type} {c : Ctx T} {B : Amb S} {hj : ∀ p ∈ B.fp, c.H0 p = none}
theorem SubC.last : SubC (c.andG B hj) B Prod.snd (fun s st => (st.1, s)) :=
  ⟨fun p hp => List.mem_append_right _ hp, fun a => a.2.1, fun ⟨a, b, d⟩ hk hm r => ⟨c.ambF (keep_fp (c.ambD a) fun q o hq e => hk q o (fun z => d q z hq) e) hm a, r, d⟩⟩
theorem SubC.andG {B' : Amb S'} {get : T → S'} {put : S' → T → T} (h : SubC c B' get put) : SubC (c.andG B hj) B' (fun st => get st.1) (fun s st => (put s st.1, st.2)) :=
  ⟨fun p hp => List.mem_append_left _ (h.sub p hp), fun a => h.gt a.1, fun ⟨a, b, d⟩ hk hm r => ⟨h.pt a hk hm r, B.frame (keep_fp (B.dom b) fun q o hq e => hk q o (fun z => d q hq (h.sub q z)) e) hm b, d⟩⟩
theorem EnvOk.unandG {σ : L2.St} {m H : Hp} {ds : List Desc} {st : T × S} (env : EnvOk (c.andG B hj) σ m H ds st) : EnvOk c σ m H ds st.1 := by
  obtain ⟨fps, sl, dj, fr⟩ := env.slots
  exact ⟨env.step, ⟨fps, sl, dj, fun fp hf p hp => ⟨fun z => (fr fp hf p hp).1 (List.mem_append_left _ z), (fr fp hf p hp).2⟩⟩, env.amb.1, fun p hp => env.own p (List.mem_append_left _ hp), env.pin⟩
theorem ErrC.andG {W : WX} (h : ErrC c W) : ErrC (c.andG B hj) W := fun e st d σ m H ds h1 env h3 h4 => h e st.1 d σ m H ds h1 env.unandG h3 fun z => h4 (List.mem_append_left _ z)
end
/-- what is owned is what B speaks of, and td the value that is left -/
def Opens {A L D : Type} (o : OTy A) (B : L → Amb A) (td : L → Ty D) (d0 : D) : Prop := ∀ (a : A) (v : V) (fp : List Addr) (h m : Hp), o.rep a v fp h m → Sub m h → (∀ p ∈ fp, m p = none) →
  ∃ j m', Sub m m' ∧ Sub m' h ∧ (∀ q, q ∉ fp → m' q = m q) ∧ (∀ p ∈ (B j).fp, p ∈ fp ∧ m' p = none) ∧ (B j).am a h m' ∧ (td j).rep d0 v m'
/-- it stands at one place -/
def One {A : Type} (o : OTy A) : Prop := ∀ (a : A) (v : V) (fp : List Addr) (h m : Hp), o.rep a v fp h m → ∃ p, v = .ref p ∧ fp = [p]
theorem one_list {A : Type} {t : Ty A} : One (oList t) := fun a v fp h m ⟨p, vs, e, ef, _⟩ => ⟨p, e, ef⟩
theorem one_dictK {A B KK : Type} [DecidableEq A] [DecidableEq KK] {ho : List (KK × V) → HO} {enc : A → KK} {u : Ty B} : One (oDictK ho enc u) := fun a v fp h m ⟨p, vs, e, ef, _⟩ => ⟨p, e, ef⟩
abbrev own1 {A : Type} (o : OTy A) (p : Addr) : Amb A := Amb.own o (.ref p) [p]
theorem opens_one {A : Type} {o : OTy A} (h1 : One o) : Opens o (own1 o) tIs () := fun a v fp h m r hm n => by
  obtain ⟨p, rfl, rfl⟩ := h1 a v fp h m r
  exact ⟨p, m, .refl m, hm, fun _ _ => rfl, fun q hq => ⟨hq, n q hq⟩, r, rfl⟩
theorem opens_pair {A B : Type} {o1 : OTy A} {o2 : OTy B} (h1 : One o1) (h2 : One o2) : Opens (oPair o1 o2) (fun q : Addr × Addr => (own1 o1 q.1).both (own1 o2 q.2)) (fun q => tRec (lc (tIs q.1) (l1 (tIs q.2)))) ((), ()) := fun ab v fp h m ⟨p, v1, v2, f1, f2, e, ef, nd, k, r1, r2⟩ hm n => by
  obtain ⟨p1, rfl, rfl⟩ := h1 _ _ _ _ _ r1
  obtain ⟨p2, rfl, rfl⟩ := h2 _ _ _ _ _ r2
  subst e ef
  obtain ⟨a1, a2, a3⟩ := frz_put hm k (n p List.mem_cons_self)
  obtain ⟨n1, n2⟩ := List.nodup_cons.mp nd
  have hne : p1 ≠ p2 := fun z => by subst z; simp at n2
  have q1 : p1 ≠ p := fun z => n1 (by rw [← z]; simp)
  have q2 : p2 ≠ p := fun z => n1 (by rw [← z]; simp)
  refine ⟨(p1, p2), _, a1, a2, fun q hq => a3 q fun z => hq (by rw [List.mem_singleton.mp z]; exact List.mem_cons_self), fun q hq => ?_, ⟨o1.frame (fun _ _ => rfl) a1 r1, o2.frame (fun _ _ => rfl) a1 r2, fun q hq => ?_⟩, ?_⟩
  · have hq' : q = p1 ∨ q = p2 := by simpa [Amb.both, Amb.own] using hq
    refine ⟨by rcases hq' with z | z <;> simp [z], ?_⟩
    rw [a3 q (by rcases hq' with z | z <;> (rw [z]; simpa using by assumption))]
    exact n q (by rcases hq' with z | z <;> simp [z])
  · have e2 : q = p2 := List.mem_singleton.mp hq
    intro z
    have e1 : q = p1 := List.mem_singleton.mp z
    exact hne (e1.symm.trans e2)
  · exact ⟨p, _, rfl, upd_same, _, _, rfl, rfl, _, rfl, rfl⟩
section
variable {X : Cx} {T A L D G : Type} {c : Ctx T} {ds : List Desc} {sts : List Stmt}
theorem EnvOk.opened {σ : L2.St} {m h : Hp} {st : T} {o : OTy A} {B : L → Amb A} {td : L → Ty D} {d0 : D} {a : A} {i : Nat} (x : EnvOk c σ m h ds st) (hd : ds[i]? = some (.own o a)) (ho : Opens o B td d0) :
    ∃ (j : L) (hj : ∀ p ∈ (B j).fp, c.H0 p = none) (m' : Hp), EnvOk (c.andG (B j) hj) σ m' h (ds.set i (.val (td j) d0)) (st, a) := by
  obtain ⟨fps, sl, dj, fr⟩ := x.slots
  obtain ⟨s, fp, e1, e2, v, rfl, r, n⟩ := sl.get hd
  obtain ⟨j, m', a1, a2, a3, b1, b2, q⟩ := ho a v fp h m r x.mh n
  have hfp := List.mem_of_getElem? e2
  have ow : ∀ y, m y = none → y ∉ fp → m' y = none := fun y e z => by rw [a3 y z]; exact e
  have hne : ∀ j gp, j ≠ i → fps[j]? = some gp → ∀ p ∈ gp, p ∉ fp := fun j gp hj e p hp hq => by
    unfold Disj at dj
    rw [List.pairwise_iff_getElem] at dj
    obtain ⟨hj', ej⟩ := List.getElem?_eq_some_iff.mp e
    obtain ⟨hi', ei⟩ := List.getElem?_eq_some_iff.mp e2
    rcases Nat.lt_or_gt_of_ne hj with z | z
    · exact dj j i hj' hi' z p (by rw [ej]; exact hp) (by rw [ei]; exact hq)
    · exact dj i j hi' hj' z p (by rw [ei]; exact hq) (by rw [ej]; exact hp)
  have key : ∀ {σ : L2.St} {fps : List (List Addr)} {ds : List Desc}, Slots m h σ fps ds → ∀ i, σ[i]? = some (some v) → (∀ j gp, j ≠ i → fps[j]? = some gp → ∀ p ∈ gp, p ∉ fp) → Slots m' h σ (fps.set i []) (ds.set i (.val (td j) d0)) := by
    intro σ fps ds sl
    induction sl with
    | nil => intro i _ _; exact .nil
    | cons b sl' ih =>
      intro i hi hn
      cases i with
      | zero =>
        refine .cons ⟨rfl, v, by simpa using hi, q⟩ (sl'.go (fun _ _ _ _ => rfl) a1 fun gp hg p hp e => ?_)
        obtain ⟨j, hj⟩ := List.mem_iff_getElem?.mp hg
        exact ow p e (hn (j + 1) gp (by omega) (by simpa using hj) p hp)
      | succ i =>
        refine .cons (b.go (fun _ _ => rfl) a1 fun p hp e => ow p e (hn 0 _ (by omega) rfl p hp)) (ih i (by simpa using hi) fun j gp hj e => hn (j + 1) gp (by omega) (by simpa using e))
  refine ⟨j, fun p hp => (fr fp hfp p (b1 p hp).1).2, m', ⟨⟨x.step.mm.trans a1, a2, x.step.hh, fun y e nn => ow y (x.step.ow y e nn) fun z => nn (fr fp hfp y z).2, x.step.dm⟩, ⟨fps.set i [], key sl i e1 hne, dj.set fun gp hg => .inl fun p _ z => absurd z (by simp), fun gp hg p hp => ?_⟩,
    ⟨c.ambF (fun _ _ => rfl) a1 x.amb, b2, fun p hp => (fr fp hfp p (b1 p hp).1).1⟩, fun p hp => (List.mem_append.mp hp).elim (fun hp => ow p (x.own p hp) fun z => (fr fp hfp p z).1 hp) fun hp => (b1 p hp).2, c.pinM a1 x.pin⟩⟩
  obtain ⟨i2, hi2⟩ := List.mem_iff_getElem?.mp hg
  by_cases hii : i2 = i
  · subst hii
    have : gp = [] := by
      obtain ⟨hl, e⟩ := List.getElem?_eq_some_iff.mp hi2
      rw [List.getElem_set_self] at e
      exact e.symm
    subst this
    exact absurd hp (by simp)
  · rw [List.getElem?_set_ne (fun z => hii z.symm)] at hi2
    have hg' := List.mem_of_getElem? hi2
    exact ⟨fun z => (List.mem_append.mp z).elim (fr gp hg' p hp).1 fun z => hne i2 gp hii hi2 p hp (b1 p z).1, (fr gp hg' p hp).2⟩
/-- what the i-th name owns is a part of the state from now on -/
theorem b_toAmb (i : Nat) {o : OTy A} {B : L → Amb A} {td : L → Ty D} {d0 : D} {a : A} {k : MM (T × A) G} {t : Ty G} (dsJ : L → List Desc) (ho : Opens o B td d0) (hd : ds[i]? = some (.own o a))
    (h : ∀ j hj, PSs X sts (BX (c.andG (B j) hj) (dsJ j) k (ER (c.andG (B j) hj) t))) (hJ : ∀ j, ds.set i (.val (td j) d0) = dsJ j := by intros; rfl) : PSs X sts (BX c ds (withS a k) (ER c t)) :=
  PSs.imp (PSs.any fun q : {q : L // ∀ p ∈ (B q).fp, c.H0 p = none} => h q.1 q.2) fun De σ H ⟨m, st, env, p⟩ => by
    obtain ⟨j, hj, m', env2⟩ := env.opened hd ho
    rw [hJ] at env2
    exact ⟨⟨j, hj⟩, m', (st, a), env2, (Post.withS.mp p).mono (fun b q p v2 m2 H2 w2 a2 r2 => p v2 m2 H2 w2 a2.1 r2) fun e q p => p⟩
end
end WL

/-! WLRR: try, what is returned is owned. -/
namespace WL
open PySem PySem.Spec PyProof.Rows L2
/-- it returns what is owned, or falls through -/
def ENRO {T A B : Type} (c : Ctx T) (o : OTy A) (dsN : B → List Desc) : Sum A B → T → Ends → Prop := fun r st D => match r with
  | .inl a => ERO c o a st D
  | .inr b => EN c dsN b st D
def tsHO {T R B : Type} (c : Ctx T) (k0 : Nat) (ds : Addr → List Desc) (f : V → MM T (Sum R B)) (u : OTy R) (dsM : B → List Desc) (a : Addr) (cls : Value) (d : Option Addr) : TS := fun D σ H => ∃ q : { q : V × Addr // cls = .ref (c.cls k0) ∧ d = some q.2 },
  BX (c.inH q.1.2 ⟨k0, q.1.1⟩) (ds a) (f q.1.1) (ENRO (c.inH q.1.2 ⟨k0, q.1.1⟩) u dsM) D σ H
inductive TryHO {T R B : Type} (X : Cx) (c : Ctx T) (kn : List Nat) (u : OTy R) (dsM : B → List Desc) : List ExceptHandler → (Exn → MM T (Sum R B)) → List (Value × Option Nat × (Addr → Value → Option Addr → TS)) → Prop
  | nil : TryHO X c kn u dsM [] thw []
  | as {x n : Str} {np pos' : Pos} {b₀ : Stmt} {suite : List Stmt} {hds : List ExceptHandler} {h : Exn → MM T (Sum R B)} {l : List (Value × Option Nat × (Addr → Value → Option Addr → TS))} {f : V → MM T (Sum R B)} (i k0 : Nat) (hc : Names X x (.ref (c.cls k0))) (ex : ∀ j ∈ kn, PySem.W.exmOne X.K (.ref (c.cls j)) (.ref (c.cls k0)) = some (decide (j = k0)))
      (hi : X.N[i]? = some n) (hln : X.env.kindOf n = some .local) (hdi : ∀ b, (dsM b).set i .any = dsM b)
      (hs : ∀ (a : Addr) (oe : Obj) (pn : List (Addr × Obj)) (v : V) (d : Addr), Zc (.ref (c.cls k0)) (some d) oe → (∃ vs, oe.data = .fields vs) → PSs (X.suite a ((a, oe) :: pn)) (b₀ :: suite) (BX (c.inH d ⟨k0, v⟩) ((List.replicate X.N.length .any).set i (.val (tIs a) ())) (f v) (ENRO (c.inH d ⟨k0, v⟩) u dsM)))
      (r : TryHO X c kn u dsM hds h l) : TryHO X c kn u dsM (.ExceptHandler (some (.Name x np)) (some n) (b₀ :: suite) pos' :: hds) (fun e => if e.k = k0 then noE (f e.a) else h e) ((.ref (c.cls k0), some i, tsHO c k0 (fun a => (List.replicate X.N.length .any).set i (.val (tIs a) ())) f u dsM) :: l)
  | on {x : Str} {np pos' : Pos} {b₀ : Stmt} {suite : List Stmt} {hds : List ExceptHandler} {h : Exn → MM T (Sum R B)} {l : List (Value × Option Nat × (Addr → Value → Option Addr → TS))} {f : V → MM T (Sum R B)} (k0 : Nat) (hc : Names X x (.ref (c.cls k0))) (ex : ∀ j ∈ kn, PySem.W.exmOne X.K (.ref (c.cls j)) (.ref (c.cls k0)) = some (decide (j = k0)))
      (hs : ∀ (a : Addr) (oe : Obj) (pn : List (Addr × Obj)) (v : V) (d : Addr), Zc (.ref (c.cls k0)) (some d) oe → (∃ vs, oe.data = .fields vs) → PSs (X.suite a ((a, oe) :: pn)) (b₀ :: suite) (BX (c.inH d ⟨k0, v⟩) (List.replicate X.N.length .any) (f v) (ENRO (c.inH d ⟨k0, v⟩) u dsM)))
      (r : TryHO X c kn u dsM hds h l) : TryHO X c kn u dsM (.ExceptHandler (some (.Name x np)) none (b₀ :: suite) pos' :: hds) (fun e => if e.k = k0 then noE (f e.a) else h e) ((.ref (c.cls k0), none, tsHO c k0 (fun _ => List.replicate X.N.length .any) f u dsM) :: l)
section
variable {X : Cx} {T R B : Type} {c : Ctx T} {kn : List Nat} {u : OTy R} {dsM : B → List Desc} {hds : List ExceptHandler} {h : Exn → MM T (Sum R B)} {l : List (Value × Option Nat × (Addr → Value → Option Addr → TS))} {Wout : WX}
theorem TryHO.hdsA (y : TryHO X c kn u dsM hds h l) : HdsA X hds l := by
  induction y with
  | nil => exact .nil
  | as i k0 hc ex hi hln hdi hs r ih =>
    refine .as hc hi hln (fun a oe cls d pn hz hf => PSs.any fun q => ?_) ih
    obtain ⟨⟨v, d'⟩, e1, e2⟩ := q
    dsimp only at e2
    subst e1 e2
    exact hs a oe pn v d' hz hf
  | on k0 hc ex hs r ih =>
    refine .cons hc (fun a oe cls d pn hz hf => PSs.any fun q => ?_) ih
    obtain ⟨⟨v, d'⟩, e1, e2⟩ := q
    dsimp only at e2
    subst e1 e2
    exact hs a oe pn v d' hz hf
theorem TryHO.wish {e : Exn} {st : T} {D : Ends} {σ : L2.St} {m H : Hp} {ds' : List Desc} {d : Addr} (y : TryHO X c kn u dsM hds h l) (he : ErrC c Wout) (hk : e.k ∈ kn) (env : EnvOk c σ m H ds' st) (xd : XdAt c.H0 m H d e) (na : d ∉ c.afp) :
    Post (h e st) (fun r st' => ENRO c u dsM r st' D) c.err → wManyA X.K X.N.length Wout D l (.ref (c.cls e.k)) (some d) σ H := by
  have hlen : ds'.length = σ.length := let ⟨_, sl, _⟩ := env.slots; slots_len sl
  induction y with
  | nil => exact fun p => he e st d σ m H ds' p env xd na
  | as i k0 hc ex hi hln hdi hs r ih =>
    intro p
    refine ⟨decide (e.k = k0), ex e.k hk, fun hb hn a ha => ?_, fun hb => ih ?_⟩
    · have hb := of_decide_eq_true hb
      obtain ⟨k, v⟩ := e
      dsimp only at hb
      subst hb
      dsimp only at p
      rw [if_pos rfl] at p
      have p := Post.noE.mp p
      have en1 := (env.weak (weak_all ds')).note xd.1 xd.2.1 na xd.2.2
      rw [hlen, hn] at en1
      have en2 : EnvOk (c.inH d ⟨k, v⟩) σ _ H (List.replicate X.N.length .any) st := ⟨en1.step, en1.slots, en1.amb, en1.own, ⟨en1.pin, upd_same⟩⟩
      refine ⟨⟨(v, d), rfl, rfl⟩, _, st, en2.bind i (t := tIs a) (a := ()) (v := .ref a) rfl, p.mono (fun r s1 q => ?_) fun _ _ z => z⟩
      cases r with
      | inl r => exact q
      | inr b => exact fun σ' m' H' env' => q _ m' H' (by
          have z := (show EnvOk c σ' m' H' (dsM b) s1 from ⟨env'.step, env'.slots, env'.amb, env'.own, env'.pin.1⟩).clear i none
          rw [hdi] at z
          exact z)
    · dsimp only at p; rw [if_neg (of_decide_eq_false hb)] at p; exact p
  | on k0 hc ex hs r ih =>
    intro p
    refine ⟨decide (e.k = k0), ex e.k hk, fun hb hn a ha => ?_, fun hb => ih ?_⟩
    · have hb := of_decide_eq_true hb
      obtain ⟨k, v⟩ := e
      dsimp only at hb
      subst hb
      dsimp only at p
      rw [if_pos rfl] at p
      have p := Post.noE.mp p
      have en1 := (env.weak (weak_all ds')).note xd.1 xd.2.1 na xd.2.2
      rw [hlen, hn] at en1
      have en2 : EnvOk (c.inH d ⟨k, v⟩) σ _ H (List.replicate X.N.length .any) st := ⟨en1.step, en1.slots, en1.amb, en1.own, ⟨en1.pin, upd_same⟩⟩
      refine ⟨⟨(v, d), rfl, rfl⟩, _, st, en2, p.mono (fun r s1 q => ?_) fun _ _ z => z⟩
      cases r with
      | inl r => exact q
      | inr b => exact fun σ' m' H' env' => q _ m' H' ⟨env'.step, env'.slots, env'.amb, env'.own, env'.pin.1⟩
    · dsimp only at p; rw [if_neg (of_decide_eq_false hb)] at p; exact p
theorem s_tryO {ds : List Desc} {body : List Stmt} {h₀ : ExceptHandler} {pos : Pos} {x : MM T (Sum R B)} (hs : X.stack = X.env :: X.outer) (hf : X.env.frame = some X.env.locals) (hN : X.N.Nodup) (tk : Takes X Wout) (he : ErrC c Wout)
    (hb : ∀ (W : WX) (pn : List (Addr × Obj)) (xe : Value → Shared → Prop) (E' : Exn → T → Prop), Takes (X.tr pn xe) W → PassesOwn (model X.prog X.w) X.A X.env xe → ErrC (c.errs E') W → PSs (X.tr pn xe) body (BX (c.errs E') ds x (ENRO (c.errs E') u dsM)))
    (y : TryHO X c kn u dsM (h₀ :: hds) h l) : PS X (.Try body (h₀ :: hds) [] [] pos) (BX c ds (tryM x fun e => if e.k ∈ kn then h e else stk) (ENRO c u dsM)) :=
  PS.imp (ps_try_manyA hs hf hN tk (tb := fun W => fun D σ H => ∃ E' : { E' : Exn → T → Prop // ErrC (c.errs E') W }, BX (c.errs E'.1) ds x (ENRO (c.errs E'.1) u dsM) D σ H) (fun W pn xe tk' po => PSs.any fun E' => hb W pn xe E'.1 tk' po E'.2) y.hdsA) fun D σ H ⟨m, st, env, p⟩ =>
    ⟨⟨fun e st' => Post ((if e.k ∈ kn then h e else stk) st') (fun r s => ENRO c u dsM r s D) c.err, fun e st' d σ' m' H' ds' q env' xd na => by
      have q : Post ((if e.k ∈ kn then h e else stk) st') (fun r s => ENRO c u dsM r s D) c.err := q
      by_cases hk : e.k ∈ kn
      · rw [if_pos hk] at q
        exact y.wish he hk env'.unerrs xd na q
      · rw [if_neg hk] at q; exact q.elim⟩, m, st, env.errs, (Post.tryM.mp p).mono (fun r s1 q => by
      cases r with
      | inl r => exact q
      | inr b => exact fun σ' m' H' env' => q σ' m' H' env'.unerrs) fun _ _ q => q⟩
end
/-! owned, or None; what stays, as owned -/
def oOpt {A : Type} (o : OTy A) : OTy (Option A) where
  rep := fun a v fp h m => match a with
    | none => v = .non ∧ fp = []
    | some a => o.rep a v fp h m
  frame := fun {a v fp h m h' m'} hk hm r => by
    cases a with
    | none => exact r
    | some a => exact o.frame hk hm r
  dom := fun {a v fp h m} r => by
    cases a with
    | none => intro p hp; have := r.2; rw [this] at hp; exact absurd hp (by simp)
    | some a => exact o.dom r
def oVal {A : Type} (t : Ty A) : OTy A where
  rep := fun a v fp h m => fp = [] ∧ t.rep a v m
  frame := fun hk hm ⟨e, r⟩ => ⟨e, t.mono hm r⟩
  dom := fun ⟨e, r⟩ p hp => by rw [e] at hp; exact absurd hp (by simp)
theorem frz_opt {A : Type} {o : OTy A} {t : Ty A} (h : Freezes o t) : Freezes (oOpt o) (tOpt t) := fun a v fp hh m r hm n => by
  cases a with
  | none => exact ⟨m, .refl m, hm, fun _ _ => rfl, r.1⟩
  | some a => exact h a v fp hh m r hm n
theorem frz_val {A : Type} {t : Ty A} : Freezes (oVal t) t := fun a v fp hh m ⟨e, r⟩ hm n => ⟨m, .refl m, hm, fun _ _ => rfl, r⟩
theorem mfo_opt {A : Type} {o : OTy A} (h : MFo o) : MFo (oOpt o) := fun a v fp hh m n r => by
  cases a with
  | none => exact r
  | some a => exact h a v fp hh m n r
theorem mfo_val {A : Type} {t : Ty A} (h : MF t) : MFo (oVal t) := fun a v fp hh m n ⟨e, r⟩ => ⟨e, h a v m n r⟩
section
variable {X : Cx} {T A B R : Type} {c : Ctx T} {ds : List Desc} {e : Expr} {pos : Pos}
theorem x_valO {t : Ty A} {xa : MM T A} (h : PE X e (TX c ds t xa)) : PE X e (TXO c ds (oVal t) xa) := PE.imp h fun σ H Q ⟨m, st, env, p⟩ => ⟨m, st, env, p.imp fun a s1 p v m1 H1 w1 a1 r1 => p v [] m1 H1 w1 a1 (fun y hy => absurd hy (by simp)) ⟨rfl, r1⟩⟩
theorem x_someO {o : OTy A} {xa : MM T A} (h : PE X e (TXO c ds o xa)) : PE X e (TXO c ds (oOpt o) (bnd xa fun a => ret (some a))) := PE.imp h fun σ H Q ⟨m, st, env, p⟩ => ⟨m, st, env, (Post.bnd.mp p).imp fun a s1 p v fp m1 H1 w1 a1 n1 r1 => p v fp m1 H1 w1 a1 n1 r1⟩
theorem x_noneO {o : OTy A} (h : PE X e (TX c ds tNon (ret ()))) : PE X e (TXO c ds (oOpt o) (ret none)) := PE.imp h fun σ H Q ⟨m, st, env, p⟩ => ⟨m, st, env, fun v m1 H1 w1 a1 r1 => p v [] m1 H1 w1 a1 (fun y hy => absurd hy (by simp)) ⟨r1, rfl⟩⟩
end
section
variable {X : Cx} {T A B R : Type} {c : Ctx T} {ds : List Desc} {e1' e2' : Expr} {pos p3 : Pos} {o1 : OTy A} {o2 : OTy B}
/-- return e, e owned -/
theorem b_retRO {dsN : R → List Desc} {xa : MM T A} {e : Expr} (he : PE X e (TXO c ds o1 xa)) : PSs X [.Return (some e) pos] (BX c ds (bnd xa fun a => ret (Sum.inl a)) (ENRO c o1 dsN)) :=
  PSs.imp (pss_one (ps_ret he)) fun D σ H ⟨m, st, env, p⟩ => ⟨m, st, env, (Post.bnd.mp p).imp fun a s1 p v fp m1 H1 w1 a1 n1 r1 => (show ERO c o1 a s1 D from p) v fp m1 H1 (env.step.comp w1 c.afr) a1 (fun y hy => ⟨by
    cases z : c.H0 y with
    | none => rfl
    | some u => exact absurd (n1 y hy).1 (env.step.dm y (by rw [z]; exact fun q => nomatch q)), (n1 y hy).2⟩) r1⟩
/-- (e1, e2), both owned -/
theorem x_tup2O {kk} {xa : MM T A} {xb : MM T B} (d1 : ∀ a v fp h m, o1.rep a v fp h m → fp.Nodup) (d2 : ∀ a v fp h m, o2.rep a v fp h m → fp.Nodup) (h1 : PE X e1' (TXO c ds o1 xa)) (h2 : PE X e2' (TXO c ds o2 xb))
    (hs : starEach [e1', e2'] X.env = (false, eval e1' X.env) :: starEach [e2'] X.env := by rfl) (hs2 : starEach [e2'] X.env = (false, eval e2' X.env) :: starEach [] X.env := by rfl) :
    PE X (.Tuple [e1', e2'] kk p3) (TXO c ds (oTP o1 o2) (eArg xa xb)) :=
  PE.imp (pe_tup (pa_cons h1 (pa_cons h2 pa_nil hs2) hs)) fun σ H Q ⟨m, st, env, p⟩ => by
    refine ⟨m, st, env, (Post.bnd.mp p).imp fun a s0 p v1 f1 m0 H0 w0 a0 n1 r0 => ?_⟩
    have env0 := env.go w0 a0
    refine ⟨m0, s0, env0, (Post.bnd.mp p).imp fun b s1 p v2 fp2 m1 H1 w1 a1 n2 r2 => ⟨(show 2 ≤ sizeLine from by rw [sizeLine_eq]; decide), fun q hq => ?_⟩⟩
    have f1H : ∀ y ∈ f1, H0 y ≠ none := fun y hy => o1.dom r0 y hy
    have f1a : ∀ y ∈ f1, y ∉ c.afp := fun y hy z => c.ambD env.amb y z (n1 y hy).1
    have r1 : o1.rep a v1 f1 H1 m1 := o1.frame (fun y hy => by
      cases z : H0 y with
      | none => exact absurd z (f1H y hy)
      | some u => exact w1.hh y u (f1a y hy) z) w1.mm r0
    have n1' : ∀ y ∈ f1, H y = none ∧ m1 y = none := fun y hy => ⟨(n1 y hy).1, w1.ow y (n1 y hy).2 (f1H y hy)⟩
    have w3 : WStep [] m1 H1 m1 (upd H1 q (.tup [v1, v2])) := .own w1.mh hq
    have q1 : ∀ y ∈ f1, y ≠ q := fun y hy z => o1.dom r1 y hy (by rw [z]; exact hq)
    have q2 : ∀ y ∈ fp2, y ≠ q := fun y hy z => o2.dom r2 y hy (by rw [z]; exact hq)
    have n2' : ∀ y ∈ fp2, H y = none ∧ m1 y = none := fun y hy => ⟨fresh_up w0 (n2 y hy).1, (n2 y hy).2⟩
    have Hq : H q = none := fresh_up w0 (fresh_up w1 hq)
    refine (show ∀ v fp m1 H1, WStep c.afp m H m1 H1 → c.amb s1 H1 m1 → (∀ p ∈ fp, H p = none ∧ m1 p = none) → (oTP o1 o2).rep (a, b) v fp H1 m1 → Q v H1 from p) (.ref q) (q :: (f1 ++ fp2)) m1 _ ((w0.trans w1).trans w3.wide) (EnvOk.ambGrow a1 w3) (fun y hy => ?_) ⟨q, v1, v2, f1, fp2, rfl, rfl, ?_, upd_same, o1.frame (fun y hy => upd_ne (q1 y hy)) (.refl m1) r1, o2.frame (fun y hy => upd_ne (q2 y hy)) (.refl m1) r2⟩
    · rcases List.mem_cons.mp hy with z | z
      · subst z; exact ⟨Hq, w1.mh.free hq⟩
      · rcases List.mem_append.mp z with z | z
        · exact n1' y z
        · exact n2' y z
    · refine List.nodup_cons.mpr ⟨fun z => ?_, List.nodup_append.mpr ⟨d1 _ _ _ _ _ r1, d2 _ _ _ _ _ r2, fun y hy z hz e => ?_⟩⟩
      · rcases List.mem_append.mp z with z | z
        · exact q1 q z rfl
        · exact q2 q z rfl
      · subst e; exact f1H y hy (n2 y hz).1
theorem nd_obj {S : Type} {C : Addr} {F : List (FO S)} : ∀ a v fp h m, (oObj C F).rep a v fp h m → fp.Nodup := fun a v fp h m ⟨j, e, ef, nd, _⟩ => by rw [ef]; exact nd
theorem nd_val {S : Type} {t : Ty S} : ∀ a v fp h m, (oVal t).rep a v fp h m → fp.Nodup := fun a v fp h m ⟨e, _⟩ => by rw [e]; exact .nil
theorem nd_opt {S : Type} {o : OTy S} (d : ∀ a v fp h m, o.rep a v fp h m → fp.Nodup) : ∀ a v fp h m, (oOpt o).rep a v fp h m → fp.Nodup := fun a v fp h m r => by
  cases a with
  | none => rw [r.2]; exact .nil
  | some a => exact d a v fp h m r
theorem mfo_TP {S S' : Type} {o1 : OTy S} {o2 : OTy S'} (h1 : MFo o1) (h2 : MFo o2) : MFo (oTP o1 o2) := fun ab v fp h m n ⟨p, v1, v2, f1, f2, e, ef, nd, k, r1, r2⟩ => ⟨p, v1, v2, f1, f2, e, ef, nd, k, h1 _ _ _ _ _ _ r1, h2 _ _ _ _ _ _ r2⟩
end
section
variable {X : Cx} {T B R F : Type} {c : Ctx T} {ds : List Desc} {rest : List Stmt} {P : F → T → Ends → Prop}
theorem b_seqRO {s : Stmt} {x : MM T (Sum R B)} {k : B → MM T F} {dsM : B → List Desc} {o : OTy R} (emb : R → F) (he : ∀ r st D, P (emb r) st D → ERO c o r st D) (h1 : PS X s (BX c ds x (ENRO c o dsM))) (h2 : ∀ b, PSs X rest (BX c (dsM b) (k b) P)) :
    PSs X (s :: rest) (BX c ds (bnd x (seqR emb k)) P) :=
  PSs.imp (pss_cons h1 (PSs.any h2)) fun D σ H ⟨m, st, env, p⟩ => ⟨m, st, env, (Post.bnd.mp p).imp fun a s1 p => by
    cases a with
    | inl r => exact he r s1 D p
    | inr b => exact fun σ' m' H' env' => ⟨b, m', s1, env', p⟩⟩
theorem emb_retO {o : OTy R} : ∀ (r : R) (st : T) (D : Ends), ERO c o (id r) st D → ERO c o r st D := fun _ _ _ h => h
end
end WL

/-! WLSS: a tuple times one. -/
namespace WL
open PySem PySem.Spec PyProof.Rows L2
theorem tuple_mulW1 (l : Addr) (items : Array Value) (n : Nat) (dd : Option Addr) (sl : Array (Option Value)) (u : Tok) :
    Meets (Builtin.«tuple.__mul__» ⟨[.ref l, .int 1 u], []⟩) (fun _ R s => s.heap.get? l = some { cls := .type "tuple", dict := dd, data := .seq items n, slots := sl } ∧ R (.ok (.ret (Value.ref l))) s) :=
  .of_wp fun prog w A R s h => by
    obtain ⟨hp, g, d, tk, os⟩ := s
    obtain ⟨hl, h⟩ := h
    have f1 := AutoSeq1.idx_int
    wp_walk using wpAny_loadPart' hl
    repeat (first
      | (refine wpAny_ite_false (decide_eq_false (by decide)) ?_; wp_walk using wpAny_loadPart' hl)
      | (refine wpAny_ite_true (decide_eq_true (by simp)) ?_; wp_walk using wpAny_loadPart' hl))
    exact ⟨_, rfl, h⟩
def rRepT1 (K : PySem.W.Frag) : R2 := fun x y H Q => ∃ l xs, x = .ref l ∧ y = .int 1 ∧ SqT K H l xs ∧ Q (.ref l) H
section
variable {X : Cx}
theorem op_repT1 : OpR X (binaryOp .Mult) (rRepT1 X.K) := by
  intro pins s σ H x y v u Q I rx ry h
  obtain ⟨l, xs, rfl, rfl, hT, q⟩ := h
  cases rx
  obtain ⟨t, rfl⟩ := ry
  obtain ⟨its, r, ⟨⟨cls, dd, data, sl⟩, ho, hc, n, hd⟩, hs⟩ := I.tuple hT
  simp only at hc hd
  subst hc hd
  refine wpAny_binaryOp_repeat_ref (T := "tuple") (U := "int") (by decide) ⟨_, ho, rfl⟩ (fun s' => typeIs_int s' 1 t) noFill_tuple_mul F.fills_int_mul F.slot_int_rmul repeat_tuple F.slot_int_index.lookup
    (call_meets F.slot_int_rmul (typeIs_int s 1 t) F.entry_int_rmul (F.args_int_rmul_2 _ _) (int_rmul_tuple 1 t l its.toArray n dd sl)
      ⟨ho, rfl, ⟨_, ho, rfl⟩, call_meets F.slot_tuple_mul ⟨_, ho, rfl⟩ F.entry_tuple_mul (F.args_tuple_mul_2 _ _) (tuple_mulW1 l its.toArray n dd sl t) ⟨ho, ?_⟩⟩)
  exact ⟨.ref l, H, I, rfl, q⟩
/-- tuple * n, one or more -/
theorem op_repTT : OpR X (binaryOp .Mult) (fun x y H Q => rRepT X.K x y H Q ∨ rRepT1 X.K x y H Q) := fun pins s σ H x y v u Q I rx ry h => h.elim (fun h => op_repT pins s σ H x y v u Q I rx ry h) fun h => op_repT1 pins s σ H x y v u Q I rx ry h
end
/-- (x,) * n, n from 1 -/
def oRepTT {A : Type} (xs : List A) (n : Int) : Option (List A) := if n = 1 then some xs else oRepT xs n
section
variable {X : Cx} {T A : Type} {c : Ctx T} {ds : List Desc} {t : Ty A} {pos : Pos} {a b : Expr}
theorem x_repTT {xa : MM T (List A)} {xb : MM T Int} (ha : PE X a (TX c ds (tVT X.K t) xa)) (hb : PE X b (TX c ds tInt xb)) : PE X (.BinOp a .Mult b pos) (TX c ds (tVT X.K t) (e2 oRepTT xa xb)) :=
  PE.imp (pe_op op_repTT ha hb) fun σ H Q ⟨m, st, env, p⟩ => by
    unfold e2 at p
    refine ⟨m, st, env, (Post.bnd.mp p).imp fun xs s1 p v1 m1 H1 w1 a1 ⟨q, us, e1, k, r⟩ => ?_⟩
    refine ⟨m1, s1, env.go w1 a1, (Post.bnd.mp p).imp fun n s2 p v2 m2 H2 w2 a2 r2 => ?_⟩
    obtain ⟨g, hg, p⟩ := Post.lft.mp p
    cases rep_int r2
    subst e1
    have k3 := w2.mm.sqT k
    unfold oRepTT at hg
    by_cases z1 : n = 1
    · rw [if_pos z1] at hg; cases hg
      subst z1
      exact .inr ⟨q, us, rfl, rfl, w2.mh.sqT k3, p _ _ _ (w1.trans w2) a2 ⟨q, us, rfl, k3, r.mono w2.mm⟩⟩
    rw [if_neg z1] at hg
    unfold oRepT at hg
    by_cases z : 0 < xs.length ∧ 2 ≤ n ∧ n ≤ 1000 ∧ xs.length ≤ 1000
    · rw [if_pos z] at hg; cases hg
      have hl := r.length
      have r3 := (r.mono w2.mm).flat n.toNat
      refine .inl ⟨q, n, us, rfl, rfl, w2.mh.sqT k3, fun e => ?_, z.2.1, z.2.2.1, by omega, fun x hx => ?_⟩
      · rw [e] at hl; rw [hl] at z; exact absurd z.1 (by decide)
      · have w4 : WStep [] m2 H2 (upd m2 x (.tup (List.replicate n.toNat us).flatten)) (upd H2 x (.tup (List.replicate n.toNat us).flatten)) := .new w2.mh hx
        exact p _ _ _ ((w1.trans w2).trans w4.wide) (EnvOk.ambGrow a2 w4) ⟨x, _, rfl, .of upd_same, r3.mono w4.mm⟩
    · rw [if_neg z] at hg; cases hg
end
end WL

/-! WLTT: lists that are parts: pop, clear. -/
namespace WL
open PySem PySem.Spec PyProof.Rows L2
section
variable {X : Cx} {T A B F : Type} {c : Ctx T} {ds : List Desc} {t : Ty A} {pos p2 p3 : Pos} {e o : Expr} {P : F → T → Ends → Prop} {rest : List Stmt} {v : V}
/-- o.clear() -/
theorem b_pclear {get : T → List A} {put : List A → T → T} {call : Expr} {k : MM T F} (hp : PartC c (oList t) v get put) (he : PE X call (tBM0 X.K "list" rClear (PlTE c ds v))) (h2 : PSs X rest (BX c ds k P))
    (hs : swapsWith call none pos.line X.env = pure false := by rfl) :
    PSs X (.Expr call pos :: rest) (BX c ds (bnd (modP (put [])) fun _ => k) P) :=
  PSs.imp (pss_cons (ps_expr he hs) h2) fun D σ H ⟨m, st, env, p⟩ => by
    obtain ⟨q, us, ev, ef, kk, r⟩ := hp.gt env.amb
    subst ev
    refine ⟨m, st, env, .inl ⟨rfl, us, .of kk⟩, q, us, rfl, rfl, kk, m, put [] st, ?_, p⟩
    exact env.wrote (hp.sub q (by rw [ef]; simp)) (hp.pt env.amb (fun y hy => upd_ne fun z => hy (by rw [ef, z]; simp)) ⟨q, _, rfl, ef, upd_same, .nil⟩)
/-- o.pop(), and what it gives is dropped -/
theorem b_ppop {get : T → List A} {put : List A → T → T} {call : Expr} {k : MM T F} (hp : PartC c (oList t) v get put) (he : PE X call (tBM0 X.K "list" rPop (PlTE c ds v))) (h2 : PSs X rest (BX c ds k P))
    (hs : swapsWith call none pos.line X.env = pure false := by rfl) :
    PSs X (.Expr call pos :: rest) (BX c ds (bnd (getP get) fun xs => bnd (lft (oPop xs)) fun p => bnd (modP (put p.2)) fun _ => k) P) :=
  PSs.imp (pss_cons (ps_expr he hs) h2) fun D σ H ⟨m, st, env, p⟩ => by
    obtain ⟨q, us, ev, ef, kk, r⟩ := hp.gt env.amb
    subst ev
    obtain ⟨y, hy, p⟩ := Post.lft.mp (Post.bnd.mp (show Post (bnd (lft (oPop (get st))) (fun p => bnd (modP (put p.2)) fun _ => k) st) _ _ from p))
    unfold oPop at hy
    obtain ⟨a, ha, rfl⟩ := Option.map_eq_some_iff.mp hy
    obtain ⟨u, hu, _, rd⟩ := r.last ha
    refine ⟨m, st, env, .inl ⟨rfl, us, .of kk⟩, q, us, u, rfl, rfl, kk, hu, m, put (get st).dropLast st, ?_, p⟩
    exact env.wrote (hp.sub q (by rw [ef]; simp)) (hp.pt env.amb (fun y hy => upd_ne fun z => hy (by rw [ef, z]; simp)) ⟨q, _, rfl, ef, upd_same, rd⟩)
/-- o[b] = e -/
theorem b_pset {get : T → List A} {put : List A → T → T} {b : Expr} {xa : MM T A} {xb : MM T Int} {k : MM T F} (hp : PartC c (oList t) v get put) (ho : PE X o (PlTE c ds v)) (he : PE X e (TX c ds t xa)) (hb : PE X b (TX c ds tInt xb)) (h2 : PSs X rest (BX c ds k P))
    (hs : swapsWithSole [.Subscript o b p3] e pos.line X.env = pure false := by rfl)
    (hw : swappedStores [.Subscript o b p3] e X.env = pure none := by rfl) (h4 : (assignEach [.Subscript o b p3] X.env).map (·.2) = [assign (.Subscript o b p3) X.env] := by rfl)
    (ha : ∀ v, assign (.Subscript o b p3) X.env v = (do
      let ov ← holding [v] (eval o X.env)
      let iv ← holding [v, ov] (eval b X.env)
      standAt p3
      holding [v, ov, iv] (setItem ov iv v)
      release [v, ov, iv] []) := by intro _; rfl) :
    PSs X (.Assign [.Subscript o b p3] e pos :: rest) (BX c ds (bnd xa fun a => bnd xb fun j => bnd (getP get) fun xs => bnd (lft (oSet xs j a)) fun ys => bnd (modP (put ys)) fun _ => k) P) :=
  PSs.imp (pss_cons (ps_asg he (pg_sub ho hb set_list ha) hs hw h4) h2) fun D σ H ⟨m, st, env, p⟩ => by
    refine ⟨m, st, env, (Post.bnd.mp p).imp fun a s1 p v1 m1 H1 w1 a1 r1 => ?_⟩
    have env1 := env.go w1 a1
    refine ⟨m1, s1, env1, m1, s1, env1, (Post.bnd.mp p).imp fun j s2 p v2 m2 H2 w2 a2 r2 => ?_⟩
    cases rep_int r2
    have env2 := env1.go w2 a2
    obtain ⟨ys, hy, p⟩ := Post.lft.mp (Post.bnd.mp (show Post (bnd (lft (oSet (get s2) j a)) (fun ys => bnd (modP (put ys)) fun _ => k) s2) _ _ from p))
    obtain ⟨q, us, ev, ef, kk, r⟩ := hp.gt a2
    subst ev
    unfold oSet at hy
    cases z : ixN (get s2).length j with
    | none => rw [z] at hy; cases hy
    | some n =>
      rw [z] at hy; cases hy
      refine ⟨q, us, j, n, rfl, rfl, kk, by rw [← r.length]; exact z, m2, _, ?_, p⟩
      exact env2.wrote (hp.sub q (by rw [ef]; simp)) (hp.pt a2 (fun y hy => upd_ne fun z => hy (by rw [ef, z]; simp)) ⟨q, _, rfl, ef, upd_same, r.set (t.mono w2.mm r1) n⟩)
/-- a part, as a test -/
theorem t_ptru {get : T → List A} {put : List A → T → T} (hp : PartC c (oList t) v get put) (ho : PE X o (PlTE c ds v)) (hi : ∀ whole, isTrue o X.env whole = (do let v ← whole; standAt o.pos; holding [v] (truthy v)) := by intro _; rfl) : PT X o (TTX c ds (getP fun st => !(get st).isEmpty)) :=
  PT.imp (pt_truth ho hi) fun σ H Q ⟨m, st, env, p⟩ => by
    obtain ⟨q, us, ev, ef, k, r⟩ := hp.gt env.amb
    subst ev
    exact ⟨m, st, env, _, .inl ⟨us, .of k, reps_emp r⟩, p m H (.refl env.mh) env.amb⟩
/-- not o, o a part -/
theorem x_pnot {get : T → List A} {put : List A → T → T} (hp : PartC c (oList t) v get put) (ho : PE X o (PlTE c ds v)) : PE X (.UnaryOp .Not o pos) (TX c ds tBool (getP fun st => !(!(get st).isEmpty))) :=
  PE.imp (pe_notT ho) fun σ H Q ⟨m, st, env, p⟩ => by
    obtain ⟨q, us, ev, ef, k, r⟩ := hp.gt env.amb
    subst ev
    exact ⟨m, st, env, _, .inl ⟨us, .of k, reps_emp r⟩, p _ m H (.refl env.mh) env.amb rfl⟩
end
/-! a part, read by one expression -/
section
variable {T S A A0 B : Type} {c : Ctx T} {σ : L2.St} {m H : Hp} {ds : List Desc} {st : T} {P : Amb S} {get : T → S} {put : S → T → T} {t : Ty A} {t0 : Ty A0} {a0 : A0} {a : A} {i : Nat}
theorem EnvOk.lendG (env : EnvOk c σ m H ds st) (hc : SubC c P get put) (h0 : ∀ p ∈ P.fp, c.H0 p = none) (hd : ds[i]? = some (.val t0 a0)) (hv : ∀ v, t0.rep a0 v m → t.rep a v (tak m H P.fp)) : EnvOk c.pure σ (tak m H P.fp) H (ds.set i (.val t a)) () := by
  obtain ⟨fps, sl, dj, fr⟩ := env.slots
  have hm := env.mh
  obtain ⟨v, ev, rv⟩ := val_at env hd
  have sl1 : Slots (tak m H P.fp) H σ fps ds := sl.go (fun _ _ _ _ => rfl) (sub_tak hm) fun gp hg p hp e => by
    rw [tak_out fun z => (fr gp hg p hp).1 (hc.sub p z)]; exact e
  have sl2 := Slots.set (i := i) (s := some v) (fp := []) (d := .val t a) sl1 ⟨rfl, v, rfl, hv v rv⟩
  have es : σ.set i (some v) = σ := by
    obtain ⟨hl, e⟩ := List.getElem?_eq_some_iff.mp ev
    rw [← e]
    exact List.set_getElem_self hl
  rw [es] at sl2
  refine ⟨⟨fun a o e => sub_tak hm a o (env.step.mm a o e), tak_h hm, env.step.hh, fun y e n => ?_, env.step.dm⟩, ⟨fps.set i [], sl2, dj.set fun gp hg => .inl fun p _ z => absurd z (by simp), fun gp hg p hp => ⟨by simp [Ctx.pure], ?_⟩⟩, trivial, fun p hp => absurd hp (by simp [Ctx.pure]), c.pinM (sub_tak hm) env.pin⟩
  · rw [tak_out fun z => n (h0 y z)]; exact env.step.ow y e n
  · rcases List.mem_or_eq_of_mem_set hg with z | z
    · exact (fr gp z p hp).2
    · subst z; exact absurd hp (by simp)
end
end WL

/-! WLUU: parts that defs are handed: read, lent, listed; bare return, break; what is known of nothing. -/
namespace WL
open PySem PySem.Spec PyProof.Rows L2
/-! anything -/
def tAny : Ty Unit := ⟨fun _ _ _ => True, fun _ r => r⟩
theorem mf_any : MF tAny := fun _ _ _ _ _ => trivial
section
variable {X : Cx} {T A B F : Type} {c : Ctx T} {ds : List Desc} {t : Ty A} {pos p2 p3 : Pos} {e o : Expr}
theorem x_any {xa : MM T A} (h : PE X e (TX c ds t xa)) : PE X e (TX c ds tAny (e1 (fun _ => some ()) xa)) := PE.imp h fun σ H Q ⟨m, st, env, p⟩ =>
  ⟨m, st, env, (Post.bnd.mp p).imp fun a s1 p v m1 H1 w1 a1 r1 => p v m1 H1 w1 a1 trivial⟩
/-! places -/
theorem pl_var (i : Nat) {x : Str} {q : Addr} (hd : ds[i]? = some (.val (tIs q) ()) := by rfl) (hN : X.N[i]? = some x := by rfl) (hv : Vis X.env.scope x := by first | exact Or.inl rfl | exact Or.inr (Or.inl rfl) | exact Or.inr (Or.inr rfl))
    (h1 : (x == ("__debug__" : Str)) = false := by decide) (h2 : (x == ("__classdict__" : Str)) = false := by decide) : PE X (.Name x pos) (PlTE c ds (.ref q)) := PE.imp (pe_var hN hv h1 h2) fun σ H Q ⟨m, st, env, p⟩ => by
  obtain ⟨v, ev, rv⟩ := val_at env hd
  have rv : v = .ref q := rv
  subst rv
  exact ⟨_, ev, p⟩
/-- x[n], x a list of two places -/
theorem pl_pair0 (i : Nat) {x : Str} {q r : Addr} {j} (hd : ds[i]? = some (.val (tRec (lc (tIs q) (l1 (tIs r)))) ((), ())) := by rfl) (hN : X.N[i]? = some x := by rfl) (hv : Vis X.env.scope x := by first | exact Or.inl rfl | exact Or.inr (Or.inl rfl) | exact Or.inr (Or.inr rfl))
    (h1 : (x == ("__debug__" : Str)) = false := by decide) (h2 : (x == ("__classdict__" : Str)) = false := by decide) : PE X (.Subscript (.Name x p2) (.Constant (.int 0) j p3) pos) (PlTE c ds (.ref q)) :=
  PE.imp (pe_ix ix_list (pe_var hN hv h1 h2) pe_int (fun _ _ => rfl)) fun σ H Q ⟨m, st, env, p⟩ => by
  obtain ⟨v, ev, l, vs, e1, k, v1, ws, e2, r1, v2, e3, r2⟩ := val_at env hd
  have r1 : v1 = .ref q := r1
  subst e1 e2 e3 r1
  exact ⟨_, ev, l, _, 0, .ref q, rfl, rfl, .of (env.mh _ _ k), rfl, p⟩
theorem pl_pair1 (i : Nat) {x : Str} {q r : Addr} {j} (hd : ds[i]? = some (.val (tRec (lc (tIs q) (l1 (tIs r)))) ((), ())) := by rfl) (hN : X.N[i]? = some x := by rfl) (hv : Vis X.env.scope x := by first | exact Or.inl rfl | exact Or.inr (Or.inl rfl) | exact Or.inr (Or.inr rfl))
    (h1 : (x == ("__debug__" : Str)) = false := by decide) (h2 : (x == ("__classdict__" : Str)) = false := by decide) : PE X (.Subscript (.Name x p2) (.Constant (.int 1) j p3) pos) (PlTE c ds (.ref r)) :=
  PE.imp (pe_ix ix_list (pe_var hN hv h1 h2) pe_int (fun _ _ => rfl)) fun σ H Q ⟨m, st, env, p⟩ => by
  obtain ⟨v, ev, l, vs, e1, k, v1, ws, e2, r1, v2, e3, r2⟩ := val_at env hd
  have r2 : v2 = .ref r := r2
  subst e1 e2 e3 r2
  exact ⟨_, ev, l, _, 1, .ref r, rfl, rfl, .of (env.mh _ _ k), rfl, p⟩
/-- a place as an argument -/
theorem x_pl {q : Addr} (h : PE X e (PlTE c ds (.ref q))) : PE X e (TX c ds (tIs q) (ret ())) := PE.imp h fun σ H Q ⟨m, st, env, p⟩ => ⟨m, st, env, p _ m H (.refl env.mh) env.amb rfl⟩
/-- list(o), o a part -/
theorem p_listL {v : V} {f : Str} {get : T → List A} {put : List A → T → T} (hp : PartC c (oList t) v get put) (ho : PE X o (PlTE c ds v)) (hm : X.mg f = none) (hvf : bootBuiltins f = some (.type "list")) (hg : Gl X f := by rfl) (hn : f ≠ "__name__" := by decide) (hdb : (f == ("__debug__" : Str)) = false := by decide)
    (he : starEach [o] X.env = (false, eval o X.env) :: starEach [] X.env := by rfl) (hpl : (backTo pos (starEach [] X.env)).any (·.1) = false := by rfl) :
    PE X (.Call (.Name f p2) [o] [] pos) (TXO c ds (oList t) (getP get)) :=
  PE.imp (pe_callTy call_list' hg hm hvf (pa_cons ho pa_nil he) hn hdb he hpl) fun σ H Q ⟨m, st, env, p⟩ => by
    obtain ⟨q, us, ev, ef, k, r⟩ := hp.gt env.amb
    subst ev
    refine ⟨m, st, env, q, us, rfl, .inl (.of k), fun y hy => ?_⟩
    have w3 : WStep [] m H m (upd H y (.lst us)) := .own env.mh hy
    exact p (.ref y) [y] m _ w3.wide (EnvOk.ambGrow env.amb w3) (fun z hz => by obtain rfl := List.mem_singleton.mp hz; exact ⟨hy, env.mh.free hy⟩) ⟨y, us, rfl, rfl, upd_same, r⟩
end
/-! lending parts -/
section
variable {X : Cx} {T S A A0 B : Type} {c : Ctx T} {ds : List Desc} {e : Expr} {P : Amb S} {get : T → S} {put : S → T → T} {t : Ty A} {t0 : Ty A0} {a0 : A0} {g : S → A}
/-- slot i, with the part as it stands -/
def LendsAs {T S A A0 : Type} (c : Ctx T) (P : Amb S) (t0 : Ty A0) (a0 : A0) (t : Ty A) (g : S → A) : Prop := ∀ (s : S) (m h : Hp) (v : V), P.am s h m → Sub m h → t0.rep a0 v m → t.rep (g s) v (tak m h P.fp)
theorem x_lendG (i : Nat) {u : Ty B} {y : S → MM Unit B} (hc : SubC c P get put) (h0 : ∀ p ∈ P.fp, c.H0 p = none) (mf : MF u) (hv : LendsAs c P t0 a0 t g) (hx : ∀ s, PE X e (TX c.pure (ds.set i (.val t (g s))) u (y s))) (hd : ds[i]? = some (.val t0 a0) := by rfl) : PE X e (TX c ds u (bnd (getP get) fun s => pu (y s))) :=
  PE.imp (PE.any hx) fun σ H Q ⟨m, st, env, p⟩ => by
    have p : Post (pu (y (get st)) st) _ _ := p
    have nn : ∀ q ∈ P.fp, m q = none := fun q hq => env.own q (hc.sub q hq)
    refine ⟨get st, tak m H P.fp, (), env.lendG (t := t) (a := g (get st)) hc h0 hd (fun v r => hv _ _ _ _ (hc.gt env.amb) env.mh r), (Post.pu p).mono (fun b _ q v m1 H1 w _ r => ?_) fun _ _ z => z⟩
    have w' := w.unl (m := m) (fp := P.fp) (sub_tak env.mh) (fun q hq => tak_out hq) nn
    exact q v _ H1 w'.wide (EnvOk.ambGrow env.amb w') (mf _ _ _ _ r)
theorem t_lendG (i : Nat) {y : S → MM Unit Bool} (hc : SubC c P get put) (h0 : ∀ p ∈ P.fp, c.H0 p = none) (hv : LendsAs c P t0 a0 t g) (hx : ∀ s, PT X e (TTX c.pure (ds.set i (.val t (g s))) (y s))) (hd : ds[i]? = some (.val t0 a0) := by rfl) : PT X e (TTX c ds (bnd (getP get) fun s => pu (y s))) :=
  PT.imp (PT.any hx) fun σ H Q ⟨m, st, env, p⟩ => by
    have p : Post (pu (y (get st)) st) _ _ := p
    have nn : ∀ q ∈ P.fp, m q = none := fun q hq => env.own q (hc.sub q hq)
    refine ⟨get st, tak m H P.fp, (), env.lendG (t := t) (a := g (get st)) hc h0 hd (fun v r => hv _ _ _ _ (hc.gt env.amb) env.mh r), (Post.pu p).mono (fun b _ q m1 H1 w _ => ?_) fun _ _ z => z⟩
    have w' := w.unl (m := m) (fp := P.fp) (sub_tak env.mh) (fun q hq => tak_out hq) nn
    exact q _ H1 w'.wide (EnvOk.ambGrow env.amb w')
theorem x_lendGO (i : Nat) {u : OTy B} {y : S → MM Unit B} (hc : SubC c P get put) (h0 : ∀ p ∈ P.fp, c.H0 p = none) (mf : MFo u) (hv : LendsAs c P t0 a0 t g) (hx : ∀ s, PE X e (TXO c.pure (ds.set i (.val t (g s))) u (y s))) (hd : ds[i]? = some (.val t0 a0) := by rfl) : PE X e (TXO c ds u (bnd (getP get) fun s => pu (y s))) :=
  PE.imp (PE.any hx) fun σ H Q ⟨m, st, env, p⟩ => by
    have p : Post (pu (y (get st)) st) _ _ := p
    have nn : ∀ q ∈ P.fp, m q = none := fun q hq => env.own q (hc.sub q hq)
    refine ⟨get st, tak m H P.fp, (), env.lendG (t := t) (a := g (get st)) hc h0 hd (fun v r => hv _ _ _ _ (hc.gt env.amb) env.mh r), (Post.pu p).mono (fun b _ q v fp2 m1 H1 w _ n2 r => ?_) fun _ _ z => z⟩
    have w' := w.unl (m := m) (fp := P.fp) (sub_tak env.mh) (fun q hq => tak_out hq) nn
    refine q v fp2 _ H1 w'.wide (EnvOk.ambGrow env.amb w') (fun z hz => ⟨(n2 z hz).1, ?_⟩) (mf _ _ _ _ _ _ r)
    show (if z ∈ P.fp then none else m1 z) = none
    rw [(n2 z hz).2, ite_self]
end
/-- a pair of two lists -/
theorem lends_pair {T A B : Type} {c : Ctx T} {q : Addr × Addr} {t1 : Ty A} {t2 : Ty B} : LendsAs c ((own1 (oList t1) q.1).both (own1 (oList t2) q.2)) (tRec (lc (tIs q.1) (l1 (tIs q.2)))) ((), ()) (tRec (lc (tList t1) (l1 (tList t2)))) id := fun s m h v ⟨r1, r2, _⟩ hm ⟨l, vs, e1, k, v1, ws, e2, s1, v2, e3, s2⟩ => by
  have s1 : v1 = .ref q.1 := s1
  have s2 : v2 = .ref q.2 := s2
  subst e1 e2 e3 s1 s2
  have f1 : ((own1 (oList t1) q.1).both (own1 (oList t2) q.2)).fp = [q.1, q.2] := rfl
  refine ⟨l, _, rfl, sub_tak hm _ _ k, _, _, rfl, (tList t1).mono (tak_sub hm fun p hp => ?_) (fx_list _ _ _ _ _ r1 hm), _, rfl, (tList t2).mono (tak_sub hm fun p hp => ?_) (fx_list _ _ _ _ _ r2 hm)⟩
  · rw [f1]; simp at hp ⊢; exact .inl hp
  · rw [f1]; simp at hp ⊢; exact .inr hp
/-- the last part, beside a part of what was there -/
theorem SubC.pairL {T S S' : Type} {c : Ctx T} {a : Amb S'} {B : Amb S} {hj : ∀ p ∈ B.fp, c.H0 p = none} {get : T → S'} {put : S' → T → T} (h : SubC c a get put) : SubC (c.andG B hj) (a.both B) (fun st => (get st.1, st.2)) (fun s st => (put s.1 st.1, s.2)) :=
  ⟨fun p hp => (List.mem_append.mp hp).elim (fun z => List.mem_append_left _ (h.sub p z)) fun z => List.mem_append_right _ z, fun x => ⟨h.gt x.1, x.2.1, fun p hp z => x.2.2 p hp (h.sub p z)⟩, fun {st s hh m h' m'} ⟨x, b, d⟩ hk hm ⟨r1, r2, _⟩ => by
    have x1 := h.pt (s := s.1) (h' := tak hh h' a.fp) (m' := m') x (fun p o hp e => by rw [tak_out hp]; exact e) hm (a.frame (fun p hp => tak_in hp) (.refl m') r1)
    refine ⟨c.ambF (fun p hp => ?_) (.refl m') x1, r2, d⟩
    by_cases z : p ∈ a.fp
    · rw [tak_in z]
    · rw [tak_out z]
      cases e : hh p with
      | none => exact absurd e (c.ambD x p hp)
      | some o => exact hk p o (fun y => (List.mem_append.mp y).elim z fun y => d p y hp) e⟩
/-! name = [.. for .. if ..], a part read -/
section
theorem PI.any {X : Cx} {tg iter : Expr} {I : Type} {w : I → TI} (h : ∀ i, PI X tg iter (w i)) : PI X tg iter (fun σ H R => ∃ i, w i σ H R) := ⟨fun pins s σ H R J ⟨i, q⟩ => (h i).run pins s σ H R J q⟩
variable {X : Cx} {T A B F S A0 A1 : Type} {c : Ctx T} {ds : List Desc} {pos spos py : Pos} {elt tg iter cnd : Expr} {scope : Scope} {own : List (Str × Nat)} {g : TG} {is : List Nat} {t : Ty A} {u : Ty B} {x : S → MM Unit (List A)} {ts : S → A → MM Unit Bool} {f : S → A → MM Unit B} {bd : A → List Desc → List Desc} {P : F → T → Ends → Prop} {rest : List Stmt}
  {P0 : Amb S} {get : T → S} {put : S → T → T} {t0 : Ty A0} {a0 : A0} {tp : Ty A1} {gg : S → A1}
theorem b_setLcIG (i0 i : Nat) {y : Str} {k : List B → MM T F} (hsub : SubC c P0 get put) (h0 : ∀ p ∈ P0.fp, c.H0 p = none) (mf : MF u) (hl0 : LendsAs c P0 t0 a0 tp gg) (hc : X.calm = true) (hN : X.N.Nodup) (hi : ∀ s0, PI X tg iter (SrcTI c.pure (ds.set i0 (.val tp (gg s0))) t (x s0))) (ok : BlkOk X.N X.env.scope scope own) (ht : TgtOk c.pure.nox g t is bd) (hv : ∀ i ∈ is, i ∈ own.map (·.2))
    (hg : ∀ (s : Shared) (H : Hp) (C : Addr) (cl : List (Str × Addr)) (fp : List Addr), PG (X.blk s H scope (compEnvC scope cl C X.env) fp) tg g)
    (hts : ∀ s0 (s : Shared) (H : Hp) (C : Addr) (cl : List (Str × Addr)) (fp : List Addr) (a : A), PT (X.blk s H scope (compEnvC scope cl C X.env) fp) cnd (TTX c.pure.nox (bd a (wipeD (ds.set i0 (.val tp (gg s0))) (own.map (·.2)))) (ts s0 a)))
    (he : ∀ s0 (s : Shared) (H : Hp) (C : Addr) (cl : List (Str × Addr)) (fp : List Addr) (a : A), PE (X.blk s H scope (compEnvC scope cl C X.env) fp) elt (TX c.pure.nox (bd a (wipeD (ds.set i0 (.val tp (gg s0))) (own.map (·.2)))) u (f s0 a)))
    (h2 : ∀ ys, PSs X rest (BX c (ds.set i (.own (oList u) ys)) (k ys) P)) (hd : ds[i0]? = some (.val t0 a0) := by rfl) (hy : X.N[i]? = some y := by rfl) (hyl : X.env.scope.names.lookup y = some .local := by rfl) (hk : X.env.scope.kind = .function := by rfl) (hl : (py.line == pos.line) = true := by rfl)
    (hsn : (scope.names.any fun (n, k) => n == y && (k == .local || k == .cell)) = false := by decide +kernel) (hs : ∀ x, foldedSetIterable iter X.env x = pure x := by intro _; rfl) :
    PSs X (.Assign [.Name y py] (.ListComp elt [⟨tg, iter, [cnd], 0⟩] scope pos) spos :: rest) (BX c ds (bnd (bnd (getP get) fun s0 => pu (bnd (x s0) (lcIL (ts s0) (f s0)))) k) P) :=
  PSs.imp (pss_cons (ps_setLc hc hN hy hyl (sw_true hk hyl hl hsn) (PI.any hi) ok hg (fun s H C cl fp => PTs.any fun (q : S × A) => pts_one (hts q.1 s H C cl fp q.2)) (fun s H C cl fp => PE.any fun (q : S × A) => he q.1 s H C cl fp q.2) hs) (PSs.any h2)) fun D σ H ⟨m, st, env, p⟩ => by
    have p := Post.bnd.mp p
    have p : Post (pu (bnd (x (get st)) (lcIL (ts (get st)) (f (get st)))) st) _ _ := p
    have nn : ∀ q ∈ P0.fp, m q = none := fun q hq => env.own q (hsub.sub q hq)
    have env2 := env.lendG (t := tp) (a := gg (get st)) hsub h0 hd (fun v r => hl0 _ _ _ _ (hsub.gt env.amb) env.mh r)
    show tLc (fun σ H R => ∃ s0, SrcTI c.pure (ds.set i0 (.val tp (gg s0))) t (x s0) σ H R) g (fun σ H Q => ∃ q : S × A, TTX c.pure.nox (bd q.2 (wipeD (ds.set i0 (.val tp (gg q.1))) (own.map (·.2)))) (ts q.1 q.2) σ H Q) (fun σ H Q => ∃ q : S × A, TX c.pure.nox (bd q.2 (wipeD (ds.set i0 (.val tp (gg q.1))) (own.map (·.2)))) u (f q.1 q.2) σ H Q) (own.map (·.2)) σ H (fun v H1 => gName i v σ H1 (fun σ H => ∃ a, BX c (ds.set i (.own (oList u) a)) (k a) P D σ H))
    exact rd_lcI (c := c.pure) (ds := ds.set i0 (.val tp (gg (get st)))) (t := t) (u := u) (x := x (get st)) (ts := ts (get st)) (f := f (get st)) (bd := bd) (is := is) (fun σ H R q => ⟨get st, q⟩) ht hv (fun a σ H Q q => ⟨(get st, a), q⟩) (fun a σ H Q q => ⟨(get st, a), q⟩)
      ⟨tak m H P0.fp, (), env2, (Post.pu p).mono (fun a _ q v fp2 m1 H1 w _ n2 r => by
        have w' := w.unl (m := m) (fp := P0.fp) (sub_tak env.mh) (fun q hq => tak_out hq) nn
        refine ⟨a, _, st, bindNew i env w'.wide (EnvOk.ambGrow env.amb w') (fun z hz => ⟨(n2 z hz).1, ?_⟩) (mfo_list mf _ _ _ _ _ _ r), q⟩
        show (if z ∈ P0.fp then none else m1 z) = none
        rw [(n2 z hz).2, ite_self]) fun _ _ z => z⟩
end
/-! bare return -/
def ERN {T : Type} (c : Ctx T) (dsN : Unit → List Desc) : Unit → T → Ends → Prop := fun u st D => ER c tNon () st D ∧ EN c dsN () st D
section
variable {X : Cx} {T A B F R : Type} {c : Ctx T} {ds : List Desc} {pos p2 : Pos} {rest body : List Stmt} {dsN : Unit → List Desc}
theorem b_endRN (w : Weak ds (dsN ())) : PSs X [] (BX c ds (ret ()) (ERN c dsN)) := PSs.imp pss_nil fun D σ H ⟨m, st, env, p⟩ => (show ERN c dsN () st D from p).2 σ m H (env.weak w)
/-- if c: return -/
theorem b_ifretN {cnd : Expr} {xc : MM T Bool} {xb : MM T Unit} (hc : PT X cnd (TTX c ds xc)) (hb : PSs X rest (BX c ds xb (ERN c dsN))) : PSs X (.If cnd [.Return none p2] [] pos :: rest) (BX c ds (eIf xc (ret ()) xb) (ERN c dsN)) :=
  PSs.imp (pss_cons (ps_if hc (pss_one ps_retN) pss_nil) hb) fun D σ H ⟨m, st, env, p⟩ => by
    unfold eIf at p
    refine ⟨m, st, env, (Post.bnd.mp p).imp fun t s1 p m1 H1 w1 a1 => ?_⟩
    cases t with
    | true =>
      rw [if_pos rfl] at p ⊢
      have p : ERN c dsN () s1 D := p
      exact p.1 .non m1 H1 (env.step.comp w1 c.afr) a1 rfl
    | false => rw [if_neg Bool.false_ne_true] at p ⊢; exact ⟨m1, s1, env.go w1 a1, p⟩
/-! break -/
/-- the turn's end: inl by break -/
def ENBk {T A : Type} (c : Ctx T) (dsN : A → List Desc) : Sum A A → T → Ends → Prop := fun r st D => match r with
  | .inl a => ∀ σ m H, EnvOk c σ m H (dsN a) st → D.bk σ H
  | .inr a => EN c dsN a st D
theorem b_brk {s : A} {dsN : A → List Desc} (w : Weak ds (dsN s)) : PSs X [.Break pos] (BX c ds (ret (Sum.inl s)) (ENBk c dsN)) := PSs.imp (pss_one ps_break) fun D σ H ⟨m, st, env, p⟩ => (show ∀ σ m H, EnvOk c σ m H (dsN s) st → D.bk σ H from p) σ m H (env.weak w)
theorem b_endB {s : A} {dsN : A → List Desc} (w : Weak ds (dsN s)) : PSs X [] (BX c ds (ret (Sum.inr s)) (ENBk c dsN)) := PSs.imp pss_nil fun D σ H ⟨m, st, env, p⟩ => (show EN c dsN s st D from p) σ m H (env.weak w)
def forB : List A → B → (B → A → MM T (Sum B B)) → MM T B
  | [], s, _ => ret s
  | x :: r, s, f => bnd (f s x) fun o => match o with
    | .inl s1 => ret s1
    | .inr s1 => forB r s1 f
theorem s_forB {tg iter : Expr} {g : TG} {t : Ty A} {is : List Nat} {bd : A → List Desc → List Desc} {x : MM T (List A)} {s0 : B} {dsL : B → List Desc} {f : B → A → MM T (Sum B B)} (hp : PassesOwn (model X.prog X.w) X.A X.env X.xe) (hc : X.calm = true) (hi : PI X tg iter (SrcTI c ds t x)) (hg : PG X tg g) (ht : ∀ q (hq : ∀ {m n : Hp}, Sub m n → q m → q n), TgtOk (c.pinned q hq) g t is bd) (w0 : Weak ds (dsL s0))
    (hb : ∀ q (hq : ∀ {m n : Hp}, Sub m n → q m → q n) s a, PSs X body (BX (c.pinned q hq) (bd a (dsL s)) (f s a) (ENBk (c.pinned q hq) dsL))) (hs : ∀ x, foldedSetIterable iter X.env x = pure x := by intro _; rfl) :
    PS X (.For tg iter body [] pos) (BX c ds (bnd x fun xs => forB xs s0 f) (EN c dsL)) := by
  have hb' := PSs.any (I := { q : Hp → Prop // ∀ {m n : Hp}, Sub m n → q m → q n } × B × A) fun j => hb j.1.1 j.1.2 j.2.1 j.2.2
  refine PS.imp (ps_for hp hc hi hg hb' hs) fun D σ H ⟨m, st, env, p⟩ => ⟨m, st, env, (Post.bnd.mp p).imp fun xs s1 p J q m1 H1 w1 a1 hq q1 sv => ?_⟩
  refine ⟨fun i n σ H => n = xs.length - i ∧ i ≤ xs.length ∧ ∃ m st s, EnvOk (c.pinned q hq) σ m H (dsL s) st ∧ Post (forB (xs.drop i) s f st) (fun s' st' => EN c dsL s' st' D) c.err, ⟨xs.length, by simp, Nat.zero_le _, m1, s1, s0, ((env.go w1 a1).weak w0).pinned q1, p⟩, ?_⟩
  rintro i n σ' H' ⟨rfl, hi', m', st', s', env', p'⟩
  obtain ⟨sv1, sv2⟩ := sv i H' ⟨m', env'.pin.2, env'.mh⟩
  by_cases hlt : i < xs.length
  · obtain ⟨g1, g2⟩ := sv1 hlt
    refine .inr ⟨g1, fun σ2 H2 => ∃ m st s, EnvOk (c.pinned q hq) σ2 m H2 (dsL s) st ∧ Post (forB (xs.drop (i + 1)) s f st) (fun s' st' => EN c dsL s' st' D) c.err, fun σ2 H2 ⟨m2, st2, s2, e2, p2⟩ => ⟨xs.length - (i + 1), by omega, rfl, hlt, m2, st2, s2, e2, p2⟩, fun v H2 y => ?_⟩
    obtain ⟨rfl, y2⟩ := g2 v H2 y
    obtain ⟨a, ha, ra⟩ := y2 m' env'.pin.2 env'.mh
    rw [List.getElem?_eq_getElem hlt] at ha
    cases ha
    rw [List.drop_eq_getElem_cons hlt] at p'
    refine ht q hq _ v σ' m' H2 _ st' _ ra env' fun σ3 env3 _ => ⟨⟨⟨q, hq⟩, s', xs[i]⟩, m', st', env3, (Post.bnd.mp p').imp fun s4 st4 p4 => ?_⟩
    cases s4 with
    | inl s5 => exact fun σ5 m5 H5 env5 => (show EN c dsL s5 st4 D from p4) σ5 m5 H5 env5.unpin
    | inr s5 => exact fun σ5 m5 H5 env5 => ⟨m5, st4, s5, env5, p4⟩
  · have e : xs.drop i = [] := List.drop_eq_nil_of_le (by omega)
    rw [e] at p'
    exact .inl ⟨sv2 (by omega), p' σ' m' H' env'.unpin⟩
end
section
variable {P : Program} {w : World} {K : PySem.W.Frag} {mg : Str → Option Value} {base : Heap} {x qual : Str} {st : Stmt} {f : Addr} {fd : FuncData} {N ps : List Str} {k r : Nat} {cls : Nat → Addr} {L S A : Type}
theorem fn_GR {B : L → Amb S} {la : L → LTy A} {fn : A → MM S Unit} {D : L → A → List Desc} {dsN : L → Unit → List Desc} (F : Fun K x qual st f fd) (Sc : FnScope N ps (defScope st)) (hl : ∀ j, LDesc (la j) ps.length (D j)) (hn : N.length = ps.length + r)
    (body : ∀ (cdv : Value) (A : Around) (outer : List Env) (s : Shared) (H : Hp) (E : XK) (m : Hp) (j : L) a, Room k (A.deeper (envOfC qual (defScope st) s.heap.objs.size f cdv)) →
      PSs (bX P w K mg base N qual st f cdv A outer s H E) (defBody st) (BX (gCtx K cls (B j) m H E) (D j a ++ List.replicate r .any) (fn a) (ERN (gCtx K cls (B j) m H E) (dsN j)))) :
    FnOk P w K mg base (L2.CX P w) (k + 1) f fd ps (SpG cls B la tNon fn) := by
  obtain ⟨oc, od, kV, doc, pm, an, cdv, ct, osl, rfl, lk, hcd⟩ := F.ex
  refine fn_of lk hcd Sc (fun vs H Q E ⟨j, a, m, st', h, _⟩ => (hl j).len a vs m h) fun A outer s H vs Q E hr ⟨j, a, m, st', h, hm, hp, am, q⟩ => ?_
  exact ⟨_, body cdv A outer s H E m j a hr, m, st', env_start (hl j) h hn hm rfl rfl am hp trivial, q.mono (fun b s1 q => ⟨fun v m' H' w' a' r' => q v m' H' w' a' r', fun σ' m' H' env' => q .non m' H' env'.step env'.amb rfl⟩) fun e _ q => q⟩
end
/-! return [x, y], both owned -/
section
variable {X : Cx} {T A B : Type} {c : Ctx T} {ds : List Desc} {pos p2 p3 p4 : Pos} {o1 : OTy A} {o2 : OTy B}
theorem b_retL2 (i j : Nat) {x y : Str} {a : A} {b : B} (hij : i ≠ j) (d1 : ∀ a v fp h m, o1.rep a v fp h m → fp.Nodup) (d2 : ∀ a v fp h m, o2.rep a v fp h m → fp.Nodup) (hd : ds[i]? = some (.own o1 a) := by rfl) (hd2 : ds[j]? = some (.own o2 b) := by rfl) (hN : X.N[i]? = some x := by rfl) (hN2 : X.N[j]? = some y := by rfl)
    (hv : Vis X.env.scope x := by first | exact Or.inl rfl | exact Or.inr (Or.inl rfl) | exact Or.inr (Or.inr rfl)) (hv2 : Vis X.env.scope y := by first | exact Or.inl rfl | exact Or.inr (Or.inl rfl) | exact Or.inr (Or.inr rfl))
    (h1 : (x == ("__debug__" : Str)) = false := by decide) (h3 : (x == ("__classdict__" : Str)) = false := by decide) (h1' : (y == ("__debug__" : Str)) = false := by decide) (h3' : (y == ("__classdict__" : Str)) = false := by decide)
    (hs : starEach [.Name x p2, .Name y p4] X.env = (false, eval (.Name x p2) X.env) :: starEach [.Name y p4] X.env := by rfl) (hs2 : starEach [.Name y p4] X.env = (false, eval (.Name y p4) X.env) :: starEach [] X.env := by rfl) :
    PSs X [.Return (some (.List [.Name x p2, .Name y p4] p3)) pos] (BX c ds (ret (a, b)) (ERO c (oPair o1 o2))) :=
  PSs.imp (pss_one (ps_ret (pe_lst (pa_cons (pe_var hN hv h1 h3) (pa_cons (pe_var hN2 hv2 h1' h3') pa_nil hs2) hs)))) fun D σ H ⟨m, st, env, p⟩ => by
    obtain ⟨fps, sl, dj, fr⟩ := env.slots
    obtain ⟨s, f1, e1, e2, v1, rfl, r1, n1⟩ := sl.get hd
    obtain ⟨s', f2, e1', e2', v2, rfl, r2, n2⟩ := sl.get hd2
    have g1 := fr f1 (List.mem_of_getElem? e2)
    have g2 := fr f2 (List.mem_of_getElem? e2')
    have d12 : ∀ y ∈ f1, ∀ z ∈ f2, y ≠ z := fun y hy z hz e => by
      unfold Disj at dj
      rw [List.pairwise_iff_getElem] at dj
      obtain ⟨hl, el⟩ := List.getElem?_eq_some_iff.mp e2
      obtain ⟨hl', el'⟩ := List.getElem?_eq_some_iff.mp e2'
      rcases Nat.lt_or_gt_of_ne hij with q | q
      · exact dj i j hl hl' q y (by rw [el]; exact hy) (by rw [el', e]; exact hz)
      · exact dj j i hl' hl q z (by rw [el']; exact hz) (by rw [el, ← e]; exact hy)
    refine ⟨v1, e1, v2, e1', (show 2 ≤ sizeLine from by rw [sizeLine_eq]; decide), fun q hq => ?_⟩
    have w3 : WStep [] m H m (upd H q (.lst [v1, v2])) := .own env.mh hq
    have q1 : ∀ y ∈ f1, y ≠ q := fun y hy z => o1.dom r1 y hy (by rw [z]; exact hq)
    have q2 : ∀ y ∈ f2, y ≠ q := fun y hy z => o2.dom r2 y hy (by rw [z]; exact hq)
    have back : ∀ y, H y = none → c.H0 y = none := fun y hy => by
      cases z : c.H0 y with
      | none => rfl
      | some u => exact absurd hy (env.step.dm y (by rw [z]; exact fun q => nomatch q))
    refine (show ERO c (oPair o1 o2) (a, b) st D from p) (.ref q) (q :: (f1 ++ f2)) m _ (env.step.comp w3 (by simp)) (EnvOk.ambGrow env.amb w3) (fun y hy => ?_) ⟨q, v1, v2, f1, f2, rfl, rfl, ?_, upd_same, o1.frame (fun y hy => upd_ne (q1 y hy)) (.refl m) r1, o2.frame (fun y hy => upd_ne (q2 y hy)) (.refl m) r2⟩
    · rcases List.mem_cons.mp hy with z | z
      · subst z; exact ⟨back _ hq, env.mh.free hq⟩
      · rcases List.mem_append.mp z with z | z
        · exact ⟨(g1 y z).2, n1 y z⟩
        · exact ⟨(g2 y z).2, n2 y z⟩
    · refine List.nodup_cons.mpr ⟨fun z => ?_, List.nodup_append.mpr ⟨d1 _ _ _ _ _ r1, d2 _ _ _ _ _ r2, d12⟩⟩
      rcases List.mem_append.mp z with z | z
      · exact q1 q z rfl
      · exact q2 q z rfl
end
end WL

/-! mirrors of law_k34_words_refused, printed by gen.py -/
namespace Mir
open WL
open PySem (Str)
abbrev Told : Type := ((List Int) × (List (List Int)))
def m_is_output (a : Int) : MM Unit Bool :=
  eAnd (e1 (oConst true) (eArg (ret a) (ret ()))) (eAnd (eNot (e1 (oConst false) (eArg (ret a) (ret ())))) (eChain oLe oLe (ret 0) (ret a) (ret 9)))
def m_is_row (a : ((List Int) × Int)) : MM Unit Bool :=
  eIf (eOr (eNot (e1 (oConst true) (eArg (ret a.1) (ret ())))) (e2 oNe (e1 oLen (ret a.1)) (ret 2)))
  (ret false)
  (bnd (bnd (ret a.1) fun xs3 => forR xs3 () fun s1 v_state =>
  eIf (eOr (eNot (e1 (oConst true) (eArg (ret v_state) (ret ())))) (eOr (e1 (oConst false) (eArg (ret v_state) (ret ()))) (eNot (eChain oLe oLt (ret 0) (ret v_state) (ret a.2)))))
  (bnd (ret false) fun a => ret (Sum.inl a))
  (ret (Sum.inr ()))) (seqR id fun s2 =>
  ret true))
def m_TO___init__ (a : ((List Int) × (List (List Int)))) : MM Unit ((List Int) × (List (List Int))) :=
  eIf (eOr (eNot (e1 fNe (ret a.1))) (eNot (e1 oAll (bnd (ret a.1) (lcL fun v_output => eCall m_is_output (ret v_output))))))
  (nv (bnd (ret ("outputs" : Str)) fun a => thw ⟨4, L2.V.str a⟩))
  (eIf (eOr (e2 oNe (e1 oLen (ret a.2)) (e1 oLen (ret a.1))) (eNot (e1 oAll (bnd (ret a.2) (lcL fun v_row => eCall m_is_row (eArg (ret v_row) (e1 oLen (ret a.1))))))))
  (nv (bnd (ret ("table" : Str)) fun a => thw ⟨4, L2.V.str a⟩))
  (eIf (e2 oGt (e1 oLen (ret a.1)) (ret 40))
  (nv (bnd (ret ("states" : Str)) fun a => thw ⟨3, L2.V.str a⟩))
  (bnd (bnd (e1 oRange (e1 oLen (ret a.1))) fun xs6 => forM xs6 () fun s4 v_state =>
  eIf (e2 oNe (e2 oAt (ret a.1) (e2 oAt (e2 oAt (ret a.2) (ret v_state)) (ret 0))) (e2 oAt (ret a.1) (ret v_state)))
  (bnd (ret ("settled" : Str)) fun a => thw ⟨4, L2.V.str a⟩)
  (ret ())) fun s5 =>
  bnd (e1 oCopy (ret a.1)) fun v_outputs =>
  bnd (bnd (ret a.2) (lcL fun v_row => e1 oCopy (ret v_row))) fun v_table =>
  ret (v_outputs, v_table))))
def m__law_wide (a : ((List Int) × Int)) : MM Unit Int :=
  bnd (ret 0) fun v_law_cell =>
  bnd (eIf (e2 oLt (ret a.2) (e1 oLen (ret a.1)))
  (bnd (e1 oAbs (e2 oAt (ret a.1) (ret a.2))) fun v_law_cell =>
  ret v_law_cell)
  (ret v_law_cell)) fun s7 =>
  eIf (e2 oGe (ret s7) (ret 1000000000000000000))
  (ret s7)
  (bnd (e2 oMod (e1 oIntI (e2 oAdd (e2 oMul (e2 oAdd (ret s7) (ret 1)) (ret 6364136223846793005)) (e2 oMul (e2 oAdd (ret a.2) (ret 1)) (ret 1442695040888963407)))) (ret 2305843009213693951)) fun v_law_mixed =>
  e2 oMod (e1 oIntI (e2 oAdd (e2 oMul (ret v_law_mixed) (ret 3202034522624059733)) (e2 oDiv (ret v_law_mixed) (ret 1000003)))) (ret 2305843009213693951))
def m__law_take (a : (Unit × Int)) : MM (Int × (List Int) × Int) Int :=
  bnd (eIf (e2 oLt (getP (fun a => a.1)) (ret 1000))
  (bnd (e2 oAdd (getP (fun a => a.2.2)) (ret 1)) fun y10 => bnd (modP ((fun b a => (a.1, a.2.1, b)) y10)) fun _ =>
  bnd (eCall m__law_wide (eArg (getP (fun a => a.2.1)) (getP (fun a => a.2.2)))) fun y9 => bnd (modP ((fun b a => (b, a.2)) y9)) fun _ =>
  ret ())
  (ret ())) fun s8 =>
  bnd (e2 oMod (e1 oIntI (getP (fun a => a.1))) (ret a.2)) fun v_law_taken =>
  bnd (e2 oDiv (getP (fun a => a.1)) (ret a.2)) fun y11 => bnd (modP ((fun b a => (b, a.2)) y11)) fun _ =>
  ret v_law_taken
def m__law_pool (a : (List Int)) : MM Unit (Int × (List Int) × Int) :=
  eArg (ret 0) (eArg (e1 oCopy (ret a)) (e1 oNeg (ret 1)))
def m__law_told_states (a : Unit) : MM (Int × (List Int) × Int) ((List Int) × (List (List Int))) :=
  bnd (e2 oAdd (ret 1) (eCallS m__law_take (eArg (ret ()) (ret 5)))) fun v_law_size =>
  bnd (bnd (e1 oRange (ret v_law_size)) (lcL fun v_law_k => e1 (fun (a : (Int × Int)) => some (a.1 :: [a.2])) (eArg (eCallS m__law_take (eArg (ret ()) (ret v_law_size))) (eCallS m__law_take (eArg (ret ()) (ret v_law_size)))))) fun v_law_table =>
  bnd (e1 (fun (a : Unit) => some ([])) (ret ())) fun v_law_outputs =>
  bnd (bnd (e1 oRange (ret v_law_size)) fun xs24 => forM xs24 v_law_outputs fun s12 v_law_state =>
  bnd (ret v_law_state) fun v_law_seen =>
  bnd (bnd (e1 oRange (ret v_law_size)) fun xs23 => forM xs23 v_law_seen fun s14 v_law_k =>
  bnd (e2 oAt (bnd (ret s14) fun k16 => lft (oAt v_law_table k16)) (ret 0)) fun v_law_seen =>
  ret v_law_seen) fun s15 =>
  bnd (e1 (fun (a : Int) => some ([a])) (ret s15)) fun v_law_ring =>
  bnd (bnd (e1 oRange (ret v_law_size)) fun xs22 => forM xs22 (s15, v_law_ring) fun s17 v_law_k =>
  bnd (e2 oAt (bnd (ret s17.1) fun k19 => lft (oAt v_law_table k19)) (ret 0)) fun v_law_seen =>
  bnd (ret v_law_seen) fun y20 => bnd (lft (oApp s17.2 y20)) fun v_law_ring =>
  ret (v_law_seen, v_law_ring)) fun s18 =>
  bnd (e2 oMod (e2 oMul (e1 minL (ret s18.2)) (ret 3)) (ret 10)) fun y21 => bnd (lft (oApp s12 y21)) fun v_law_outputs =>
  ret v_law_outputs) fun s13 =>
  ret (s13, v_law_table)
def m__law_whole (a : (Int × Int × Int)) : MM Unit Bool :=
  eAnd (e1 (oConst true) (eArg (ret a.1) (ret ()))) (eAnd (eNot (e1 (oConst false) (eArg (ret a.1) (ret ())))) (eChain oLe oLe (ret a.2.1) (ret a.1) (ret a.2.2)))
def m__law_row (a : ((List Int) × Int)) : MM Unit Bool :=
  eIf (eOr (eNot (e1 (oConst true) (eArg (ret a.1) (ret ())))) (e2 oNe (e1 oLen (ret a.1)) (ret 2)))
  (ret false)
  (eAnd (eCall m__law_whole (eArg (e2 oAt (ret a.1) (ret 0)) (eArg (ret 0) (e2 oSub (ret a.2) (ret 1))))) (eCall m__law_whole (eArg (e2 oAt (ret a.1) (ret 1)) (eArg (ret 0) (e2 oSub (ret a.2) (ret 1))))))
def m__law_due (a : ((List Int) × (List (List Int)))) : MM Unit (Option (Str × Str)) :=
  bnd (bnd (ret a.1) (lcIL (fun v_law_output => eCall m__law_whole (eArg (ret v_law_output) (eArg (ret 0) (ret 9)))) fun v_law_output => ret v_law_output)) fun v_law_good =>
  eIf (eOr (eNot (e1 fNe (ret a.1))) (e2 oLt (e1 oLen (ret v_law_good)) (e1 oLen (ret a.1))))
  (e1 (fun a => some (some a)) (eArg (ret ("misused" : Str)) (ret ("outputs" : Str))))
  (bnd (bnd (ret a.2) (lcIL (fun v_law_row_here => eCall m__law_row (eArg (ret v_law_row_here) (e1 oLen (ret a.1)))) fun v_law_row_here => ret v_law_row_here)) fun v_law_rows =>
  eIf (eOr (e2 oNe (e1 oLen (ret a.2)) (e1 oLen (ret a.1))) (e2 oLt (e1 oLen (ret v_law_rows)) (e1 oLen (ret a.2))))
  (e1 (fun a => some (some a)) (eArg (ret ("misused" : Str)) (ret ("table" : Str))))
  (eIf (e2 oGt (e1 oLen (ret a.1)) (ret 40))
  (e1 (fun a => some (some a)) (eArg (ret ("oversized" : Str)) (ret ("states" : Str))))
  (bnd (bnd (e1 oRange (e1 oLen (ret a.1))) fun xs27 => forR xs27 () fun s25 v_law_state =>
  eIf (e2 oNe (e2 oAt (ret a.1) (e2 oAt (e2 oAt (ret a.2) (ret v_law_state)) (ret 0))) (e2 oAt (ret a.1) (ret v_law_state)))
  (bnd (e1 (fun a => some (some a)) (eArg (ret ("misused" : Str)) (ret ("settled" : Str)))) fun a => ret (Sum.inl a))
  (ret (Sum.inr ()))) (seqR id fun s26 =>
  ret none))))
def m__law_told (a : ((List Int) × (List (List Int)))) : MM Unit (Option (Str × Str)) :=
  bnd (tryM (bnd (eCall m_TO___init__ (eArg (ret a.1) (ret a.2))) fun _ =>
  bnd (ret none) fun a => ret (Sum.inl a)) (fun e => if e.k ∈ ([2, 3, 4] : List Nat) then (if e.k = 4 then noE ((fun (va : L2.V) => eIf (ret false)
  (bnd (stk) fun r => ret (Sum.inl r))
  (bnd (e1 (fun a => some (some a)) (eArg (ret ("misused" : Str)) (lft (decStr va)))) fun a => ret (Sum.inl a))) e.a) else (if e.k = 3 then noE ((fun (va : L2.V) => bnd (e1 (fun a => some (some a)) (eArg (ret ("oversized" : Str)) (lft (decStr va)))) fun a => ret (Sum.inl a)) e.a) else (thw e))) else stk)) (seqR id fun (s28 : Unit) =>
  stk)
def m__law_spoil (a : (Unit × Unit × Unit)) : MM (((Int × (List Int) × Int)) × (((List Int) × (List (List Int))))) Unit :=
  bnd (bnd (eArg (ret ()) (ret 9)) fun a => zoom (fun st => st.1) (fun s st => (s, st.2)) (m__law_take a)) fun v_law_choice =>
  bnd (bnd (eArg (ret ()) (e1 oMax2 (eArg (ret 1) (getP (fun st => (((fun (st : (((Int × (List Int) × Int)) × (((List Int) × (List (List Int)))))) => st.2.1) st).length : Int)))))) fun a => zoom (fun st => st.1) (fun s st => (s, st.2)) (m__law_take a)) fun v_law_at =>
  eIf (eOr (eNot (getP fun st => !((fun (st : (((Int × (List Int) × Int)) × (((List Int) × (List (List Int)))))) => st.2.1) st).isEmpty)) (eOr (eNot (getP fun st => !((fun (st : (((Int × (List Int) × Int)) × (((List Int) × (List (List Int)))))) => st.2.2) st).isEmpty)) (e2 oGe (ret v_law_at) (getP (fun st => (((fun (st : (((Int × (List Int) × Int)) × (((List Int) × (List (List Int)))))) => st.2.2) st).length : Int))))))
  (ret ())
  (bnd (eIf (e2 oEq (ret v_law_choice) (ret 0))
  (bnd (e2 oAt (e1 (fun (a : (Int × Int × Int × Int)) => some (a.1 :: a.2.1 :: a.2.2.1 :: [a.2.2.2])) (eArg (ret 10) (eArg (e1 oNeg (ret 1)) (eArg (ret 255) (ret 11))))) (bnd (eArg (ret ()) (ret 4)) fun a => zoom (fun st => st.1) (fun s st => (s, st.2)) (m__law_take a))) fun y => bnd (ret v_law_at) fun z => bnd (getP (fun (st : (((Int × (List Int) × Int)) × (((List Int) × (List (List Int)))))) => st.2.1)) fun xs => bnd (lft (oSet xs z y)) fun ys => bnd (modP ((fun s st => (st.1, (s, st.2.2))) ys)) fun _ =>
  ret ())
  (ret ())) fun s29 =>
  bnd (eIf (e2 oEq (ret v_law_choice) (ret 1))
  (bnd (e1 oIntB (e2 oEq (bnd (ret v_law_at) fun k31 => bnd (getP (fun (st : (((Int × (List Int) × Int)) × (((List Int) × (List (List Int)))))) => st.2.1)) fun xs => lft (oAt xs k31)) (ret 0))) fun y => bnd (ret v_law_at) fun z => bnd (getP (fun (st : (((Int × (List Int) × Int)) × (((List Int) × (List (List Int)))))) => st.2.1)) fun xs => bnd (lft (oSet xs z y)) fun ys => bnd (modP ((fun s st => (st.1, (s, st.2.2))) ys)) fun _ =>
  ret ())
  (ret ())) fun s30 =>
  bnd (eIf (e2 oEq (ret v_law_choice) (ret 2))
  (bnd (e2 oAt (e1 (fun (a : ((List Int) × (List Int) × (List Int) × (List Int) × (List Int) × (List Int))) => some (a.1 :: a.2.1 :: a.2.2.1 :: a.2.2.2.1 :: a.2.2.2.2.1 :: [a.2.2.2.2.2])) (eArg (e1 (fun (a : Int) => some ([a])) (ret 0)) (eArg (e1 (fun (a : (Int × Int × Int)) => some (a.1 :: a.2.1 :: [a.2.2])) (eArg (ret 0) (eArg (ret 0) (ret 0)))) (eArg (e1 (fun (a : Unit) => some ([])) (ret ())) (eArg (e1 (fun (a : (Int × Int)) => some (a.1 :: [a.2])) (eArg (ret 0) (e1 oNeg (ret 1)))) (eArg (e1 (fun (a : (Int × Int)) => some (a.1 :: [a.2])) (eArg (ret 0) (getP (fun st => (((fun (st : (((Int × (List Int) × Int)) × (((List Int) × (List (List Int)))))) => st.2.1) st).length : Int))))) (e1 (fun (a : (Int × Int)) => some (a.1 :: [a.2])) (eArg (e1 oNeg (ret 1)) (ret 0))))))))) (bnd (eArg (ret ()) (ret 6)) fun a => zoom (fun st => st.1) (fun s st => (s, st.2)) (m__law_take a))) fun y => bnd (ret v_law_at) fun z => bnd (getP (fun (st : (((Int × (List Int) × Int)) × (((List Int) × (List (List Int)))))) => st.2.2)) fun xs => bnd (lft (oSet xs z y)) fun ys => bnd (modP ((fun s st => (st.1, (st.2.1, s))) ys)) fun _ =>
  ret ())
  (ret ())) fun s32 =>
  bnd (eIf (e2 oEq (ret v_law_choice) (ret 3))
  (bnd (e1 (fun (a : (Int × Int)) => some (a.1 :: [a.2])) (eArg (ret 0) (ret 0))) fun y => bnd (getP (fun (st : (((Int × (List Int) × Int)) × (((List Int) × (List (List Int)))))) => st.2.2)) fun xs => bnd (lft (oApp xs y)) fun ys => bnd (modP ((fun s st => (st.1, (st.2.1, s))) ys)) fun _ =>
  ret ())
  (ret ())) fun s33 =>
  bnd (eIf (e2 oEq (ret v_law_choice) (ret 4))
  (bnd (getP (fun (st : (((Int × (List Int) × Int)) × (((List Int) × (List (List Int)))))) => st.2.2)) fun xs => bnd (lft (oPop xs)) fun p => bnd (modP ((fun s st => (st.1, (st.2.1, s))) p.2)) fun _ =>
  ret ())
  (ret ())) fun s34 =>
  bnd (eIf (e2 oEq (ret v_law_choice) (ret 5))
  (bnd (getP (fun (st : (((Int × (List Int) × Int)) × (((List Int) × (List (List Int)))))) => st.2.1)) fun xs => bnd (lft (oPop xs)) fun p => bnd (modP ((fun s st => (st.1, (s, st.2.2))) p.2)) fun _ =>
  ret ())
  (ret ())) fun s35 =>
  eIf (e2 oEq (ret v_law_choice) (ret 6))
  (bnd (modP ((fun s st => (st.1, (s, st.2.2))) [])) fun _ =>
  ret ())
  (ret ()))
def m_law (a : (List Int)) : MM Unit Bool :=
  bnd (eCall m__law_pool (ret a)) fun st0 => runP st0 (
  bnd (eCallS m__law_told_states (ret ())) fun v_law_told_here =>
  bnd (eIf (e2 oEq (eCallS m__law_take (eArg (ret ()) (ret 4))) (ret 0))
  (bnd (e2 oAdd (ret 39) (eCallS m__law_take (eArg (ret ()) (ret 4)))) fun v_law_size =>
  bnd (eArg (e2 oRep (e1 (fun (a : Int) => some ([a])) (ret 3)) (ret v_law_size)) (bnd (e1 oRange (ret v_law_size)) (lcL fun v_law_k => e1 (fun (a : (Int × Int)) => some (a.1 :: [a.2])) (eArg (ret v_law_k) (e2 oSub (e2 oSub (ret v_law_size) (ret 1)) (ret v_law_k)))))) fun v_law_told_here =>
  ret v_law_told_here)
  (ret v_law_told_here)) fun s36 =>
  withS s36 (
  bnd (bnd (e1 oRange (bnd (eArg (ret ()) (ret 3)) fun a => zoom (fun st => st.1) (fun s st => (s, st.2)) (m__law_take a))) fun xs44 => forB xs44 () fun s38 v_law_k =>
  bnd (bnd (eArg (ret ()) (eArg (ret ()) (ret ()))) fun a => zoom (fun st => (st.1, st.2)) (fun s st => (s.1, s.2)) (m__law_spoil a)) fun _ =>
  bnd (bnd (getP (fun st => st.2)) fun g40 => pu (bnd (eProj (fun a => a.1) (ret g40)) (lcIL (fun v_law_output => eNot (eCall m__law_whole (eArg (ret v_law_output) (eArg (ret 0) (ret 9))))) fun v_law_output => ret v_law_output))) fun v_law_numbers =>
  bnd (bnd (getP (fun st => st.2)) fun g41 => pu (bnd (eProj (fun a => a.2) (ret g41)) (lcIL (fun v_law_row_here => eNot (eCall m__law_row (eArg (ret v_law_row_here) (e1 oLen (eProj (fun a => a.1) (ret g41)))))) fun v_law_row_here => e1 (fun _ => some ()) (ret v_law_row_here)))) fun v_law_rows =>
  eIf (eOr (e1 fNe (ret v_law_numbers)) (e1 fNe (ret v_law_rows)))
  (ret (Sum.inl ()))
  (ret (Sum.inr ()))) fun s39 =>
  bnd (eArg (bnd (getP (fun st => st.2)) fun g42 => pu (e1 oCopy (eProj (fun a => a.1) (ret g42)))) (getP (fun (st : (((Int × (List Int) × Int)) × (((List Int) × (List (List Int)))))) => st.2.2))) fun v_law_given =>
  bnd (getP (fun st => st.2)) fun g43 => pu (eAnd (e2 (oEqK (okO (okP okStr okStr))) (eCall m__law_told (eArg (eProj (fun a => a.1) (ret v_law_given)) (eProj (fun a => a.2) (ret v_law_given)))) (eCall m__law_due (eArg (eProj (fun a => a.1) (ret g43)) (eProj (fun a => a.2) (ret g43))))) (e2 oEq (ret v_law_given) (ret g43)))))
end Mir
/-! PThw: errors, reckoned. -/
namespace Law
open WL Mir
open PySem (Str)
section
variable {T A B : Type}
theorem bnd_thw (e : Exn) (f : A → MM T B) : bnd (thw e) f = thw e := id rfl
theorem up_thw (e : Exn) : (up (thw e) : MM T A) = thw e := id rfl
theorem nv_thw (e : Exn) : (nv (thw e) : MM T A) = thw e := id rfl
theorem tryM_thw (e : Exn) (h : Exn → MM T A) : tryM (thw e) h = h e := id rfl
theorem tryM_ret (a : A) (h : Exn → MM T A) : tryM (ret a) h = ret a := id rfl
theorem eCall_thw (e : Exn) (f : A → MM Unit B) (x : MM T A) (h : x = thw e) : eCall f x = thw e := by rw [h]; rfl
theorem decStr_eq (x : Str) : decStr (.str x) = some x := id rfl
theorem eCall_err {a : A} {e : Exn} {f : A → MM Unit B} (h : f a = thw e) : (eCall f (ret a) : MM T B) = thw e := by
  show up (f a) = _
  rw [h]; rfl
end
end Law

/-! PDue34: what Told says to anything of the kind, and what the law expects. -/
namespace Law
open WL Mir
open PySem (Str)
def outB (x : Int) : Bool := decide (0 ≤ x) && decide (x ≤ 9)
def inB (n x : Int) : Bool := decide (0 ≤ x) && decide (x < n)
def rowB (n : Int) (r : List Int) : Bool := decide (r.length = 2) && r.all (inB n)
def zer34 (t : List (List Int)) (s : Int) : Int := (t.getD s.toNat []).getD 0 0
def unB (o : List Int) (t : List (List Int)) (s : Int) : Bool := !decide (o.getD (zer34 t s).toNat 0 = o.getD s.toNat 0)
def due34 (o : List Int) (t : List (List Int)) : Option (Str × Str) :=
  if (o.isEmpty || !o.all outB) = true then some ("misused", "outputs")
  else if (!decide (t.length = o.length) || !t.all (rowB o.length)) = true then some ("misused", "table")
  else if 40 < o.length then some ("oversized", "states")
  else if (rangeL 0 (o.length : Int)).any (unB o t) = true then some ("misused", "settled") else none
def exq (p : Str × Str) : Exn := ⟨if p.2 = "states" then 3 else 4, L2.V.str p.2⟩
section
variable {T : Type}
theorem forM_any {A : Type} (p : A → Bool) (e : Exn) : ∀ (xs : List A) (f : Unit → A → MM T Unit), (∀ x ∈ xs, f () x = if p x = true then thw e else ret ()) → forM xs () f = if xs.any p = true then thw e else ret ()
  | [], _, _ => rfl
  | x :: xs, f, h => by
    show bnd (f () x) (fun s1 => forM xs s1 f) = _
    rw [h x List.mem_cons_self, List.any_cons]
    cases p x with
    | true => rfl
    | false =>
      rw [Bool.false_or]
      exact forM_any p e xs f fun y hy => h y (List.mem_cons_of_mem _ hy)
end
theorem all_any {A : Type} (p : A → Bool) (xs : List A) : (xs.any fun x => !p x) = !xs.all p := by
  induction xs with
  | nil => rfl
  | cons x xs ih => rw [List.any_cons, List.all_cons, ih, Bool.not_and]
theorem out_eq (x : Int) : m_is_output x = ret (outB x) := by
  unfold m_is_output outB
  rw [eChain_ret (k := decide ((0 : Int) ≤ x)) (l := decide (x ≤ 9)) _ _ _ _ _ rfl rfl]
  simp (disch := omega) only [bnd_ret, lft_some, up_ret, noE_ret, e1_ret, e2_ret, e3p_ret, eArg_ret, eCall_ret, eCallS_ret, eProj_ret, eNot_ret, eOr_rr, eAnd_rr, oAdd_eq, oSub_eq, oNeg_eq, oLt_eq, oLe_eq, oGt_eq, oGe_eq, oEq_eq, oNe_eq, oLen_eq, oCopy_eq, oIntI_eq, oIntB_eq, oCut_eq, oConst_eq, oSum_eq, oAny_eq, oAll_eq, oIsN_eq, oNotN_eq, oIsB_eq, oNotB_eq, oIn_eq, oNotIn_eq, oMul_r, oMul_l, oDiv_eq, oMod_eq, oRange_eq, oRange2_eq, oShr_eq, oAbs_eq, oMax2_eq, oMin2_eq, eIf_t, eIf_f, eOr_t, eOr_f, eAnd_t, eAnd_f, Bool.not_true, Bool.not_false, decide_true, decide_false, Bool.or_false, Bool.false_or, Bool.true_or, Bool.or_true, Bool.and_true, Bool.true_and, Bool.and_false, Bool.false_and]
theorem whole_eq (x a b : Int) : m__law_whole (x, a, b) = ret (decide (a ≤ x) && decide (x ≤ b)) := by
  unfold m__law_whole
  rw [eChain_ret (k := decide (a ≤ x)) (l := decide (x ≤ b)) _ _ _ _ _ rfl rfl]
  simp (disch := omega) only [bnd_ret, lft_some, up_ret, noE_ret, e1_ret, e2_ret, e3p_ret, eArg_ret, eCall_ret, eCallS_ret, eProj_ret, eNot_ret, eOr_rr, eAnd_rr, oAdd_eq, oSub_eq, oNeg_eq, oLt_eq, oLe_eq, oGt_eq, oGe_eq, oEq_eq, oNe_eq, oLen_eq, oCopy_eq, oIntI_eq, oIntB_eq, oCut_eq, oConst_eq, oSum_eq, oAny_eq, oAll_eq, oIsN_eq, oNotN_eq, oIsB_eq, oNotB_eq, oIn_eq, oNotIn_eq, oMul_r, oMul_l, oDiv_eq, oMod_eq, oRange_eq, oRange2_eq, oShr_eq, oAbs_eq, oMax2_eq, oMin2_eq, eIf_t, eIf_f, eOr_t, eOr_f, eAnd_t, eAnd_f, Bool.not_true, Bool.not_false, decide_true, decide_false, Bool.or_false, Bool.false_or, Bool.true_or, Bool.or_true, Bool.and_true, Bool.true_and, Bool.and_false, Bool.false_and]
theorem row_eq (r : List Int) (n : Int) : m_is_row (r, n) = ret (rowB n r) := by
  unfold m_is_row rowB
  simp (disch := omega) only [bnd_ret, lft_some, up_ret, noE_ret, e1_ret, e2_ret, e3p_ret, eArg_ret, eCall_ret, eCallS_ret, eProj_ret, eNot_ret, eOr_rr, eAnd_rr, oAdd_eq, oSub_eq, oNeg_eq, oLt_eq, oLe_eq, oGt_eq, oGe_eq, oEq_eq, oNe_eq, oLen_eq, oCopy_eq, oIntI_eq, oIntB_eq, oCut_eq, oConst_eq, oSum_eq, oAny_eq, oAll_eq, oIsN_eq, oNotN_eq, oIsB_eq, oNotB_eq, oIn_eq, oNotIn_eq, oMul_r, oMul_l, oDiv_eq, oMod_eq, oRange_eq, oRange2_eq, oShr_eq, oAbs_eq, oMax2_eq, oMin2_eq, eIf_t, eIf_f, eOr_t, eOr_f, eAnd_t, eAnd_f, Bool.not_true, Bool.not_false, decide_true, decide_false, Bool.or_false, Bool.false_or, Bool.true_or, Bool.or_true, Bool.and_true, Bool.true_and, Bool.and_false, Bool.false_and]
  by_cases h : r.length = 2
  · rw [decide_eq_true h, decide_eq_true (show (r.length : Int) = 2 by omega)]
    simp (disch := omega) only [bnd_ret, lft_some, up_ret, noE_ret, e1_ret, e2_ret, e3p_ret, eArg_ret, eCall_ret, eCallS_ret, eProj_ret, eNot_ret, eOr_rr, eAnd_rr, oAdd_eq, oSub_eq, oNeg_eq, oLt_eq, oLe_eq, oGt_eq, oGe_eq, oEq_eq, oNe_eq, oLen_eq, oCopy_eq, oIntI_eq, oIntB_eq, oCut_eq, oConst_eq, oSum_eq, oAny_eq, oAll_eq, oIsN_eq, oNotN_eq, oIsB_eq, oNotB_eq, oIn_eq, oNotIn_eq, oMul_r, oMul_l, oDiv_eq, oMod_eq, oRange_eq, oRange2_eq, oShr_eq, oAbs_eq, oMax2_eq, oMin2_eq, eIf_t, eIf_f, eOr_t, eOr_f, eAnd_t, eAnd_f, Bool.not_true, Bool.not_false, decide_true, decide_false, Bool.or_false, Bool.false_or, Bool.true_or, Bool.or_true, Bool.and_true, Bool.true_and, Bool.and_false, Bool.false_and]
    rw [forR_any (fun x => !inB n x) false fun x hx => ?h, all_any]
    case h =>
      rw [eChain_ret (k := decide ((0 : Int) ≤ x)) (l := decide (x < n)) _ _ _ _ _ rfl rfl]
      simp (disch := omega) only [bnd_ret, lft_some, up_ret, noE_ret, e1_ret, e2_ret, e3p_ret, eArg_ret, eCall_ret, eCallS_ret, eProj_ret, eNot_ret, eOr_rr, eAnd_rr, oAdd_eq, oSub_eq, oNeg_eq, oLt_eq, oLe_eq, oGt_eq, oGe_eq, oEq_eq, oNe_eq, oLen_eq, oCopy_eq, oIntI_eq, oIntB_eq, oCut_eq, oConst_eq, oSum_eq, oAny_eq, oAll_eq, oIsN_eq, oNotN_eq, oIsB_eq, oNotB_eq, oIn_eq, oNotIn_eq, oMul_r, oMul_l, oDiv_eq, oMod_eq, oRange_eq, oRange2_eq, oShr_eq, oAbs_eq, oMax2_eq, oMin2_eq, eIf_t, eIf_f, eOr_t, eOr_f, eAnd_t, eAnd_f, Bool.not_true, Bool.not_false, decide_true, decide_false, Bool.or_false, Bool.false_or, Bool.true_or, Bool.or_true, Bool.and_true, Bool.true_and, Bool.and_false, Bool.false_and]
      unfold inB
      rw [eIf_ret]
    rw [bnd_ret]
    cases r.all (inB n) <;> rfl
  · rw [decide_eq_false h, decide_eq_false (show ¬ (r.length : Int) = 2 by omega)]
    simp (disch := omega) only [bnd_ret, lft_some, up_ret, noE_ret, e1_ret, e2_ret, e3p_ret, eArg_ret, eCall_ret, eCallS_ret, eProj_ret, eNot_ret, eOr_rr, eAnd_rr, oAdd_eq, oSub_eq, oNeg_eq, oLt_eq, oLe_eq, oGt_eq, oGe_eq, oEq_eq, oNe_eq, oLen_eq, oCopy_eq, oIntI_eq, oIntB_eq, oCut_eq, oConst_eq, oSum_eq, oAny_eq, oAll_eq, oIsN_eq, oNotN_eq, oIsB_eq, oNotB_eq, oIn_eq, oNotIn_eq, oMul_r, oMul_l, oDiv_eq, oMod_eq, oRange_eq, oRange2_eq, oShr_eq, oAbs_eq, oMax2_eq, oMin2_eq, eIf_t, eIf_f, eOr_t, eOr_f, eAnd_t, eAnd_f, Bool.not_true, Bool.not_false, decide_true, decide_false, Bool.or_false, Bool.false_or, Bool.true_or, Bool.or_true, Bool.and_true, Bool.true_and, Bool.and_false, Bool.false_and]
theorem lrow_eq (r : List Int) (n : Int) : m__law_row (r, n) = ret (rowB n r) := by
  unfold m__law_row rowB
  simp (disch := omega) only [bnd_ret, lft_some, up_ret, noE_ret, e1_ret, e2_ret, e3p_ret, eArg_ret, eCall_ret, eCallS_ret, eProj_ret, eNot_ret, eOr_rr, eAnd_rr, oAdd_eq, oSub_eq, oNeg_eq, oLt_eq, oLe_eq, oGt_eq, oGe_eq, oEq_eq, oNe_eq, oLen_eq, oCopy_eq, oIntI_eq, oIntB_eq, oCut_eq, oConst_eq, oSum_eq, oAny_eq, oAll_eq, oIsN_eq, oNotN_eq, oIsB_eq, oNotB_eq, oIn_eq, oNotIn_eq, oMul_r, oMul_l, oDiv_eq, oMod_eq, oRange_eq, oRange2_eq, oShr_eq, oAbs_eq, oMax2_eq, oMin2_eq, eIf_t, eIf_f, eOr_t, eOr_f, eAnd_t, eAnd_f, Bool.not_true, Bool.not_false, decide_true, decide_false, Bool.or_false, Bool.false_or, Bool.true_or, Bool.or_true, Bool.and_true, Bool.true_and, Bool.and_false, Bool.false_and]
  by_cases h : r.length = 2
  · rw [decide_eq_true h, decide_eq_true (show (r.length : Int) = 2 by omega)]
    obtain ⟨a, b, rfl⟩ : ∃ a b, r = [a, b] := by
      match r, h with
      | [a, b], _ => exact ⟨a, b, rfl⟩
    have e0 : oAt [a, b] 0 = some a := rfl
    have e1 : oAt [a, b] 1 = some b := rfl
    simp (disch := omega) only [bnd_ret, lft_some, up_ret, noE_ret, e1_ret, e2_ret, e3p_ret, eArg_ret, eCall_ret, eCallS_ret, eProj_ret, eNot_ret, eOr_rr, eAnd_rr, oAdd_eq, oSub_eq, oNeg_eq, oLt_eq, oLe_eq, oGt_eq, oGe_eq, oEq_eq, oNe_eq, oLen_eq, oCopy_eq, oIntI_eq, oIntB_eq, oCut_eq, oConst_eq, oSum_eq, oAny_eq, oAll_eq, oIsN_eq, oNotN_eq, oIsB_eq, oNotB_eq, oIn_eq, oNotIn_eq, oMul_r, oMul_l, oDiv_eq, oMod_eq, oRange_eq, oRange2_eq, oShr_eq, oAbs_eq, oMax2_eq, oMin2_eq, eIf_t, eIf_f, eOr_t, eOr_f, eAnd_t, eAnd_f, Bool.not_true, Bool.not_false, decide_true, decide_false, Bool.or_false, Bool.false_or, Bool.true_or, Bool.or_true, Bool.and_true, Bool.true_and, Bool.and_false, Bool.false_and, e0, e1, whole_eq]
    simp only [List.all_cons, List.all_nil, Bool.and_true]
    unfold inB
    have k : ∀ x : Int, decide (x ≤ n - 1) = decide (x < n) := fun x => by
      by_cases z : x < n
      · rw [decide_eq_true z, decide_eq_true (show x ≤ n - 1 by omega)]
      · rw [decide_eq_false z, decide_eq_false (show ¬ x ≤ n - 1 by omega)]
    rw [k, k]
  · rw [decide_eq_false h, decide_eq_false (show ¬ (r.length : Int) = 2 by omega)]
    simp (disch := omega) only [bnd_ret, lft_some, up_ret, noE_ret, e1_ret, e2_ret, e3p_ret, eArg_ret, eCall_ret, eCallS_ret, eProj_ret, eNot_ret, eOr_rr, eAnd_rr, oAdd_eq, oSub_eq, oNeg_eq, oLt_eq, oLe_eq, oGt_eq, oGe_eq, oEq_eq, oNe_eq, oLen_eq, oCopy_eq, oIntI_eq, oIntB_eq, oCut_eq, oConst_eq, oSum_eq, oAny_eq, oAll_eq, oIsN_eq, oNotN_eq, oIsB_eq, oNotB_eq, oIn_eq, oNotIn_eq, oMul_r, oMul_l, oDiv_eq, oMod_eq, oRange_eq, oRange2_eq, oShr_eq, oAbs_eq, oMax2_eq, oMin2_eq, eIf_t, eIf_f, eOr_t, eOr_f, eAnd_t, eAnd_f, Bool.not_true, Bool.not_false, decide_true, decide_false, Bool.or_false, Bool.false_or, Bool.true_or, Bool.or_true, Bool.and_true, Bool.true_and, Bool.and_false, Bool.false_and]
theorem filt_lt {A : Type} (p : A → Bool) (xs : List A) : decide (((xs.filter p).length : Int) < (xs.length : Int)) = !xs.all p := by
  have h : (xs.filter p).length ≤ xs.length ∧ ((xs.filter p).length = xs.length ↔ xs.all p = true) := by
    induction xs with
    | nil => exact ⟨Nat.le_refl _, by simp⟩
    | cons x xs ih =>
      rw [List.filter_cons, List.all_cons]
      cases e : p x with
      | true =>
        rw [if_pos rfl, Bool.true_and, List.length_cons, List.length_cons]
        exact ⟨by omega, by rw [← ih.2]; omega⟩
      | false =>
        rw [if_neg Bool.false_ne_true, Bool.false_and, List.length_cons]
        exact ⟨by omega, by constructor <;> intro z; omega; cases z⟩
  cases e : xs.all p with
  | true => have := h.2.mpr e; rw [decide_eq_false (by omega)]; rfl
  | false =>
    have : (xs.filter p).length ≠ xs.length := fun z => by rw [h.2.mp z] at e; cases e
    rw [decide_eq_true (by omega)]; rfl
section
variable {o : List Int} {t : List (List Int)}
theorem at34 (h1 : t.length = o.length) (h2 : t.all (rowB o.length) = true) {s : Int} (hs : s ∈ rangeL 0 (o.length : Int)) : oAt t s = some (t.getD s.toNat []) ∧ oAt (t.getD s.toNat []) 0 = some (zer34 t s) ∧ oAt o s = some (o.getD s.toNat 0) ∧ oAt o (zer34 t s) = some (o.getD (zer34 t s).toNat 0) := by
  obtain ⟨a, b⟩ := rangeL_mem hs
  have e1 := oAt_getD t s [] a (by omega)
  have hm := getD_mem t s.toNat [] (by omega)
  have h3 := List.all_eq_true.mp h2 _ hm
  unfold rowB at h3
  rw [Bool.and_eq_true] at h3
  have h4 := of_decide_eq_true h3.1
  have e2 := oAt_getD (t.getD s.toNat []) 0 0 (by omega) (by omega)
  have h5 := List.all_eq_true.mp h3.2 _ (getD_mem (t.getD s.toNat []) 0 0 (by omega))
  unfold inB at h5
  rw [Bool.and_eq_true] at h5
  have h6 := of_decide_eq_true h5.1
  have h7 := of_decide_eq_true h5.2
  exact ⟨e1, e2, oAt_getD o s 0 a (by omega), oAt_getD o _ 0 h6 h7⟩
theorem all_lc {T A : Type} {f : A → MM T Bool} (p : A → Bool) (xs : List A) (hl : xs.length ≤ 1000) (h : ∀ x, f x = ret (p x)) : (bnd (ret xs) (lcL f) : MM T (List Bool)) = ret (xs.map p) := by
  rw [bnd_ret]
  exact lcL_ret p xs (by omega) fun x _ => h x
theorem to_eq (ho : o.length ≤ 1000) (ht : t.length ≤ 1000) : m_TO___init__ (o, t) = match due34 o t with | some x => thw (exq x) | none => ret (o, t) := by
  unfold m_TO___init__ due34
  dsimp only
  rw [all_lc outB o ho fun x => by simp (disch := omega) only [bnd_ret, lft_some, up_ret, noE_ret, e1_ret, e2_ret, e3p_ret, eArg_ret, eCall_ret, eCallS_ret, eProj_ret, eNot_ret, eOr_rr, eAnd_rr, oAdd_eq, oSub_eq, oNeg_eq, oLt_eq, oLe_eq, oGt_eq, oGe_eq, oEq_eq, oNe_eq, oLen_eq, oCopy_eq, oIntI_eq, oIntB_eq, oCut_eq, oConst_eq, oSum_eq, oAny_eq, oAll_eq, oIsN_eq, oNotN_eq, oIsB_eq, oNotB_eq, oIn_eq, oNotIn_eq, oMul_r, oMul_l, oDiv_eq, oMod_eq, oRange_eq, oRange2_eq, oShr_eq, oAbs_eq, oMax2_eq, oMin2_eq, eIf_t, eIf_f, eOr_t, eOr_f, eAnd_t, eAnd_f, Bool.not_true, Bool.not_false, decide_true, decide_false, Bool.or_false, Bool.false_or, Bool.true_or, Bool.or_true, Bool.and_true, Bool.true_and, Bool.and_false, Bool.false_and, out_eq], all_lc (rowB o.length) t ht fun x => by simp (disch := omega) only [bnd_ret, lft_some, up_ret, noE_ret, e1_ret, e2_ret, e3p_ret, eArg_ret, eCall_ret, eCallS_ret, eProj_ret, eNot_ret, eOr_rr, eAnd_rr, oAdd_eq, oSub_eq, oNeg_eq, oLt_eq, oLe_eq, oGt_eq, oGe_eq, oEq_eq, oNe_eq, oLen_eq, oCopy_eq, oIntI_eq, oIntB_eq, oCut_eq, oConst_eq, oSum_eq, oAny_eq, oAll_eq, oIsN_eq, oNotN_eq, oIsB_eq, oNotB_eq, oIn_eq, oNotIn_eq, oMul_r, oMul_l, oDiv_eq, oMod_eq, oRange_eq, oRange2_eq, oShr_eq, oAbs_eq, oMax2_eq, oMin2_eq, eIf_t, eIf_f, eOr_t, eOr_f, eAnd_t, eAnd_f, Bool.not_true, Bool.not_false, decide_true, decide_false, Bool.or_false, Bool.false_or, Bool.true_or, Bool.or_true, Bool.and_true, Bool.true_and, Bool.and_false, Bool.false_and, row_eq]]
  simp (disch := omega) only [bnd_ret, lft_some, up_ret, noE_ret, e1_ret, e2_ret, e3p_ret, eArg_ret, eCall_ret, eCallS_ret, eProj_ret, eNot_ret, eOr_rr, eAnd_rr, oAdd_eq, oSub_eq, oNeg_eq, oLt_eq, oLe_eq, oGt_eq, oGe_eq, oEq_eq, oNe_eq, oLen_eq, oCopy_eq, oIntI_eq, oIntB_eq, oCut_eq, oConst_eq, oSum_eq, oAny_eq, oAll_eq, oIsN_eq, oNotN_eq, oIsB_eq, oNotB_eq, oIn_eq, oNotIn_eq, oMul_r, oMul_l, oDiv_eq, oMod_eq, oRange_eq, oRange2_eq, oShr_eq, oAbs_eq, oMax2_eq, oMin2_eq, eIf_t, eIf_f, eOr_t, eOr_f, eAnd_t, eAnd_f, Bool.not_true, Bool.not_false, decide_true, decide_false, Bool.or_false, Bool.false_or, Bool.true_or, Bool.or_true, Bool.and_true, Bool.true_and, Bool.and_false, Bool.false_and, fNe_eq]
  simp only [List.all_map]
  rw [show (id ∘ outB) = outB from rfl, show (id ∘ rowB (o.length : Int)) = rowB (o.length : Int) from rfl, Bool.not_not]
  by_cases h1 : (o.isEmpty || !o.all outB) = true
  · rw [h1, if_pos rfl]; rfl
  rw [if_neg h1, show (o.isEmpty || !o.all outB) = false by simpa using h1, eIf_f]
  by_cases h2 : (!decide (t.length = o.length) || !t.all (rowB o.length)) = true
  · have e : (!decide ((t.length : Int) = (o.length : Int)) || !t.all (rowB o.length)) = true := by
      rw [← h2]; congr 2; exact decide_eq_decide.mpr (by omega)
    rw [e, if_pos h2]; rfl
  have h2' : (!decide (t.length = o.length) || !t.all (rowB o.length)) = false := by simpa using h2
  have e : (!decide ((t.length : Int) = (o.length : Int)) || !t.all (rowB o.length)) = false := by
    rw [← h2']; congr 2; exact decide_eq_decide.mpr (by omega)
  rw [e, if_neg h2, eIf_f]
  rw [Bool.or_eq_false_iff] at h2'
  have l1 : t.length = o.length := by simpa using h2'.1
  have l2 : t.all (rowB o.length) = true := by simpa using h2'.2
  by_cases h3 : 40 < o.length
  · rw [if_pos h3, decide_eq_true (show (40 : Int) < o.length by omega)]; rfl
  rw [if_neg h3, decide_eq_false (show ¬ (40 : Int) < o.length by omega), eIf_f]
  rw [forM_any (unB o t) (exq ("misused", "settled")) _ _ fun s hs => ?h]
  case h =>
    obtain ⟨a, b, c, d⟩ := at34 l1 l2 hs
    simp (disch := omega) only [bnd_ret, lft_some, up_ret, noE_ret, e1_ret, e2_ret, e3p_ret, eArg_ret, eCall_ret, eCallS_ret, eProj_ret, eNot_ret, eOr_rr, eAnd_rr, oAdd_eq, oSub_eq, oNeg_eq, oLt_eq, oLe_eq, oGt_eq, oGe_eq, oEq_eq, oNe_eq, oLen_eq, oCopy_eq, oIntI_eq, oIntB_eq, oCut_eq, oConst_eq, oSum_eq, oAny_eq, oAll_eq, oIsN_eq, oNotN_eq, oIsB_eq, oNotB_eq, oIn_eq, oNotIn_eq, oMul_r, oMul_l, oDiv_eq, oMod_eq, oRange_eq, oRange2_eq, oShr_eq, oAbs_eq, oMax2_eq, oMin2_eq, eIf_t, eIf_f, eOr_t, eOr_f, eAnd_t, eAnd_f, Bool.not_true, Bool.not_false, decide_true, decide_false, Bool.or_false, Bool.false_or, Bool.true_or, Bool.or_true, Bool.and_true, Bool.true_and, Bool.and_false, Bool.false_and, a, b, c, d]
    rfl
  have hc : (lcL (fun v_row => (ret v_row : MM Unit (List Int))) t : MM Unit (List (List Int))) = ret t := (lcL_ret (fun x => x) t (by omega) fun x _ => rfl).trans (by rw [List.map_id'])
  cases (rangeL 0 (o.length : Int)).any (unB o t) with
  | true => rfl
  | false =>
    rw [if_neg Bool.false_ne_true, if_neg Bool.false_ne_true, bnd_ret, hc, bnd_ret]
theorem told_eq (ho : o.length ≤ 1000) (ht : t.length ≤ 1000) : m__law_told (o, t) = ret (due34 o t) := by
  have e := to_eq ho ht
  unfold m__law_told
  cases q : due34 o t with
  | none =>
    rw [q] at e
    simp (disch := omega) only [bnd_ret, lft_some, up_ret, noE_ret, e1_ret, e2_ret, e3p_ret, eArg_ret, eCall_ret, eCallS_ret, eProj_ret, eNot_ret, eOr_rr, eAnd_rr, oAdd_eq, oSub_eq, oNeg_eq, oLt_eq, oLe_eq, oGt_eq, oGe_eq, oEq_eq, oNe_eq, oLen_eq, oCopy_eq, oIntI_eq, oIntB_eq, oCut_eq, oConst_eq, oSum_eq, oAny_eq, oAll_eq, oIsN_eq, oNotN_eq, oIsB_eq, oNotB_eq, oIn_eq, oNotIn_eq, oMul_r, oMul_l, oDiv_eq, oMod_eq, oRange_eq, oRange2_eq, oShr_eq, oAbs_eq, oMax2_eq, oMin2_eq, eIf_t, eIf_f, eOr_t, eOr_f, eAnd_t, eAnd_f, Bool.not_true, Bool.not_false, decide_true, decide_false, Bool.or_false, Bool.false_or, Bool.true_or, Bool.or_true, Bool.and_true, Bool.true_and, Bool.and_false, Bool.false_and, e]
    rfl
  | some x =>
    rw [q] at e
    simp (disch := omega) only [bnd_ret, lft_some, up_ret, noE_ret, e1_ret, e2_ret, e3p_ret, eArg_ret, eCall_ret, eCallS_ret, eProj_ret, eNot_ret, eOr_rr, eAnd_rr, oAdd_eq, oSub_eq, oNeg_eq, oLt_eq, oLe_eq, oGt_eq, oGe_eq, oEq_eq, oNe_eq, oLen_eq, oCopy_eq, oIntI_eq, oIntB_eq, oCut_eq, oConst_eq, oSum_eq, oAny_eq, oAll_eq, oIsN_eq, oNotN_eq, oIsB_eq, oNotB_eq, oIn_eq, oNotIn_eq, oMul_r, oMul_l, oDiv_eq, oMod_eq, oRange_eq, oRange2_eq, oShr_eq, oAbs_eq, oMax2_eq, oMin2_eq, eIf_t, eIf_f, eOr_t, eOr_f, eAnd_t, eAnd_f, Bool.not_true, Bool.not_false, decide_true, decide_false, Bool.or_false, Bool.false_or, Bool.true_or, Bool.or_true, Bool.and_true, Bool.true_and, Bool.and_false, Bool.false_and, e, up_thw, bnd_thw, tryM_thw]
    have hx : x = (("misused" : Str), ("outputs" : Str)) ∨ x = (("misused" : Str), ("table" : Str)) ∨ x = (("oversized" : Str), ("states" : Str)) ∨ x = (("misused" : Str), ("settled" : Str)) := by
      unfold due34 at q
      split at q
      · cases q; simp
      · split at q
        · cases q; simp
        · split at q
          · cases q; simp
          · split at q
            · cases q; simp
            · cases q
    rcases hx with rfl | rfl | rfl | rfl <;> rfl
theorem due_eq (ho : o.length ≤ 1000) (ht : t.length ≤ 1000) : m__law_due (o, t) = ret (due34 o t) := by
  unfold m__law_due due34
  dsimp only
  rw [bnd_ret, lcIL_ret outB (fun x => x) o (by omega) (fun x _ => by simp (disch := omega) only [bnd_ret, lft_some, up_ret, noE_ret, e1_ret, e2_ret, e3p_ret, eArg_ret, eCall_ret, eCallS_ret, eProj_ret, eNot_ret, eOr_rr, eAnd_rr, oAdd_eq, oSub_eq, oNeg_eq, oLt_eq, oLe_eq, oGt_eq, oGe_eq, oEq_eq, oNe_eq, oLen_eq, oCopy_eq, oIntI_eq, oIntB_eq, oCut_eq, oConst_eq, oSum_eq, oAny_eq, oAll_eq, oIsN_eq, oNotN_eq, oIsB_eq, oNotB_eq, oIn_eq, oNotIn_eq, oMul_r, oMul_l, oDiv_eq, oMod_eq, oRange_eq, oRange2_eq, oShr_eq, oAbs_eq, oMax2_eq, oMin2_eq, eIf_t, eIf_f, eOr_t, eOr_f, eAnd_t, eAnd_f, Bool.not_true, Bool.not_false, decide_true, decide_false, Bool.or_false, Bool.false_or, Bool.true_or, Bool.or_true, Bool.and_true, Bool.true_and, Bool.and_false, Bool.false_and, whole_eq]; rfl) (fun x _ _ => rfl), List.map_id', bnd_ret]
  simp (disch := omega) only [bnd_ret, lft_some, up_ret, noE_ret, e1_ret, e2_ret, e3p_ret, eArg_ret, eCall_ret, eCallS_ret, eProj_ret, eNot_ret, eOr_rr, eAnd_rr, oAdd_eq, oSub_eq, oNeg_eq, oLt_eq, oLe_eq, oGt_eq, oGe_eq, oEq_eq, oNe_eq, oLen_eq, oCopy_eq, oIntI_eq, oIntB_eq, oCut_eq, oConst_eq, oSum_eq, oAny_eq, oAll_eq, oIsN_eq, oNotN_eq, oIsB_eq, oNotB_eq, oIn_eq, oNotIn_eq, oMul_r, oMul_l, oDiv_eq, oMod_eq, oRange_eq, oRange2_eq, oShr_eq, oAbs_eq, oMax2_eq, oMin2_eq, eIf_t, eIf_f, eOr_t, eOr_f, eAnd_t, eAnd_f, Bool.not_true, Bool.not_false, decide_true, decide_false, Bool.or_false, Bool.false_or, Bool.true_or, Bool.or_true, Bool.and_true, Bool.true_and, Bool.and_false, Bool.false_and, fNe_eq, filt_lt]
  rw [Bool.not_not]
  by_cases h1 : (o.isEmpty || !o.all outB) = true
  · rw [h1, if_pos rfl]; rfl
  rw [if_neg h1, show (o.isEmpty || !o.all outB) = false by simpa using h1, eIf_f]
  rw [lcIL_ret (rowB o.length) (fun x => x) t (by omega) (fun x _ => by simp (disch := omega) only [bnd_ret, lft_some, up_ret, noE_ret, e1_ret, e2_ret, e3p_ret, eArg_ret, eCall_ret, eCallS_ret, eProj_ret, eNot_ret, eOr_rr, eAnd_rr, oAdd_eq, oSub_eq, oNeg_eq, oLt_eq, oLe_eq, oGt_eq, oGe_eq, oEq_eq, oNe_eq, oLen_eq, oCopy_eq, oIntI_eq, oIntB_eq, oCut_eq, oConst_eq, oSum_eq, oAny_eq, oAll_eq, oIsN_eq, oNotN_eq, oIsB_eq, oNotB_eq, oIn_eq, oNotIn_eq, oMul_r, oMul_l, oDiv_eq, oMod_eq, oRange_eq, oRange2_eq, oShr_eq, oAbs_eq, oMax2_eq, oMin2_eq, eIf_t, eIf_f, eOr_t, eOr_f, eAnd_t, eAnd_f, Bool.not_true, Bool.not_false, decide_true, decide_false, Bool.or_false, Bool.false_or, Bool.true_or, Bool.or_true, Bool.and_true, Bool.true_and, Bool.and_false, Bool.false_and, lrow_eq]) (fun x _ _ => rfl), List.map_id', bnd_ret]
  simp (disch := omega) only [bnd_ret, lft_some, up_ret, noE_ret, e1_ret, e2_ret, e3p_ret, eArg_ret, eCall_ret, eCallS_ret, eProj_ret, eNot_ret, eOr_rr, eAnd_rr, oAdd_eq, oSub_eq, oNeg_eq, oLt_eq, oLe_eq, oGt_eq, oGe_eq, oEq_eq, oNe_eq, oLen_eq, oCopy_eq, oIntI_eq, oIntB_eq, oCut_eq, oConst_eq, oSum_eq, oAny_eq, oAll_eq, oIsN_eq, oNotN_eq, oIsB_eq, oNotB_eq, oIn_eq, oNotIn_eq, oMul_r, oMul_l, oDiv_eq, oMod_eq, oRange_eq, oRange2_eq, oShr_eq, oAbs_eq, oMax2_eq, oMin2_eq, eIf_t, eIf_f, eOr_t, eOr_f, eAnd_t, eAnd_f, Bool.not_true, Bool.not_false, decide_true, decide_false, Bool.or_false, Bool.false_or, Bool.true_or, Bool.or_true, Bool.and_true, Bool.true_and, Bool.and_false, Bool.false_and, filt_lt]
  by_cases h2 : (!decide (t.length = o.length) || !t.all (rowB o.length)) = true
  · have e : (!decide ((t.length : Int) = (o.length : Int)) || !t.all (rowB o.length)) = true := by
      rw [← h2]; congr 2; exact decide_eq_decide.mpr (by omega)
    rw [e, if_pos h2]; rfl
  have h2' : (!decide (t.length = o.length) || !t.all (rowB o.length)) = false := by simpa using h2
  have e : (!decide ((t.length : Int) = (o.length : Int)) || !t.all (rowB o.length)) = false := by
    rw [← h2']; congr 2; exact decide_eq_decide.mpr (by omega)
  rw [e, if_neg h2, eIf_f]
  rw [Bool.or_eq_false_iff] at h2'
  have l1 : t.length = o.length := by simpa using h2'.1
  have l2 : t.all (rowB o.length) = true := by simpa using h2'.2
  by_cases h3 : 40 < o.length
  · rw [if_pos h3, decide_eq_true (show (40 : Int) < o.length by omega)]; rfl
  rw [if_neg h3, decide_eq_false (show ¬ (40 : Int) < o.length by omega), eIf_f]
  rw [forR_any (unB o t) (some (("misused" : Str), ("settled" : Str))) fun s hs => ?h, bnd_ret]
  case h =>
    obtain ⟨a, b, c, d⟩ := at34 l1 l2 hs
    simp (disch := omega) only [bnd_ret, lft_some, up_ret, noE_ret, e1_ret, e2_ret, e3p_ret, eArg_ret, eCall_ret, eCallS_ret, eProj_ret, eNot_ret, eOr_rr, eAnd_rr, oAdd_eq, oSub_eq, oNeg_eq, oLt_eq, oLe_eq, oGt_eq, oGe_eq, oEq_eq, oNe_eq, oLen_eq, oCopy_eq, oIntI_eq, oIntB_eq, oCut_eq, oConst_eq, oSum_eq, oAny_eq, oAll_eq, oIsN_eq, oNotN_eq, oIsB_eq, oNotB_eq, oIn_eq, oNotIn_eq, oMul_r, oMul_l, oDiv_eq, oMod_eq, oRange_eq, oRange2_eq, oShr_eq, oAbs_eq, oMax2_eq, oMin2_eq, eIf_t, eIf_f, eOr_t, eOr_f, eAnd_t, eAnd_f, Bool.not_true, Bool.not_false, decide_true, decide_false, Bool.or_false, Bool.false_or, Bool.true_or, Bool.or_true, Bool.and_true, Bool.true_and, Bool.and_false, Bool.false_and, a, b, c, d]
    rw [eIf_ret]
    rfl
  cases (rangeL 0 (o.length : Int)).any (unB o t) <;> rfl
end
end Law

/-! PTake3: _law_wide, _law_take, _law_pool. -/
namespace Law
open WL Mir
open PySem (Str)
def I3 (s : Int × List Int × Int) : Prop := 0 ≤ s.1 ∧ -1 ≤ s.2.2
theorem wide_eq (xs : List Int) (k : Int) (hk : 0 ≤ k) : ∃ r, m__law_wide (xs, k) = ret r ∧ 0 ≤ r := by
  unfold m__law_wide
  have key : ∃ c, (eIf (e2 oLt (ret k) (e1 oLen (ret xs))) (bnd (e1 oAbs (e2 oAt (ret xs) (ret k))) fun v_law_cell => ret v_law_cell) (ret 0) : MM Unit Int) = ret c ∧ 0 ≤ c := by
    by_cases h : k < (xs.length : Int)
    · simp (disch := omega) only [bnd_ret, lft_some, up_ret, noE_ret, e1_ret, e2_ret, e3p_ret, eArg_ret, eCall_ret, eCallS_ret, eProj_ret, eNot_ret, eOr_rr, eAnd_rr, oAdd_eq, oSub_eq, oNeg_eq, oLt_eq, oLe_eq, oGt_eq, oGe_eq, oEq_eq, oNe_eq, oLen_eq, oCopy_eq, oIntI_eq, oIntB_eq, oCut_eq, oConst_eq, oSum_eq, oAny_eq, oAll_eq, oIsN_eq, oNotN_eq, oIsB_eq, oNotB_eq, oIn_eq, oNotIn_eq, oMul_r, oMul_l, oDiv_eq, oMod_eq, oRange_eq, oRange2_eq, oShr_eq, oAbs_eq, oMax2_eq, oMin2_eq, eIf_t, eIf_f, eOr_t, eOr_f, eAnd_t, eAnd_f, Bool.not_true, Bool.not_false, decide_true, decide_false, Bool.or_false, Bool.false_or, Bool.true_or, Bool.or_true, Bool.and_true, Bool.true_and, Bool.and_false, Bool.false_and, oAt_getD xs k 0 hk h, decide_eq_true h]
      exact ⟨_, rfl, by split <;> omega⟩
    · simp (disch := omega) only [bnd_ret, lft_some, up_ret, noE_ret, e1_ret, e2_ret, e3p_ret, eArg_ret, eCall_ret, eCallS_ret, eProj_ret, eNot_ret, eOr_rr, eAnd_rr, oAdd_eq, oSub_eq, oNeg_eq, oLt_eq, oLe_eq, oGt_eq, oGe_eq, oEq_eq, oNe_eq, oLen_eq, oCopy_eq, oIntI_eq, oIntB_eq, oCut_eq, oConst_eq, oSum_eq, oAny_eq, oAll_eq, oIsN_eq, oNotN_eq, oIsB_eq, oNotB_eq, oIn_eq, oNotIn_eq, oMul_r, oMul_l, oDiv_eq, oMod_eq, oRange_eq, oRange2_eq, oShr_eq, oAbs_eq, oMax2_eq, oMin2_eq, eIf_t, eIf_f, eOr_t, eOr_f, eAnd_t, eAnd_f, Bool.not_true, Bool.not_false, decide_true, decide_false, Bool.or_false, Bool.false_or, Bool.true_or, Bool.or_true, Bool.and_true, Bool.true_and, Bool.and_false, Bool.false_and, decide_eq_false h]
      exact ⟨0, rfl, by omega⟩
  obtain ⟨c, e, hc⟩ := key
  simp (disch := omega) only [bnd_ret, lft_some, up_ret, noE_ret, e1_ret, e2_ret, e3p_ret, eArg_ret, eCall_ret, eCallS_ret, eProj_ret, eNot_ret, eOr_rr, eAnd_rr, oAdd_eq, oSub_eq, oNeg_eq, oLt_eq, oLe_eq, oGt_eq, oGe_eq, oEq_eq, oNe_eq, oLen_eq, oCopy_eq, oIntI_eq, oIntB_eq, oCut_eq, oConst_eq, oSum_eq, oAny_eq, oAll_eq, oIsN_eq, oNotN_eq, oIsB_eq, oNotB_eq, oIn_eq, oNotIn_eq, oMul_r, oMul_l, oDiv_eq, oMod_eq, oRange_eq, oRange2_eq, oShr_eq, oAbs_eq, oMax2_eq, oMin2_eq, eIf_t, eIf_f, eOr_t, eOr_f, eAnd_t, eAnd_f, Bool.not_true, Bool.not_false, decide_true, decide_false, Bool.or_false, Bool.false_or, Bool.true_or, Bool.or_true, Bool.and_true, Bool.true_and, Bool.and_false, Bool.false_and] at e
  simp (disch := omega) only [bnd_ret, lft_some, up_ret, noE_ret, e1_ret, e2_ret, e3p_ret, eArg_ret, eCall_ret, eCallS_ret, eProj_ret, eNot_ret, eOr_rr, eAnd_rr, oAdd_eq, oSub_eq, oNeg_eq, oLt_eq, oLe_eq, oGt_eq, oGe_eq, oEq_eq, oNe_eq, oLen_eq, oCopy_eq, oIntI_eq, oIntB_eq, oCut_eq, oConst_eq, oSum_eq, oAny_eq, oAll_eq, oIsN_eq, oNotN_eq, oIsB_eq, oNotB_eq, oIn_eq, oNotIn_eq, oMul_r, oMul_l, oDiv_eq, oMod_eq, oRange_eq, oRange2_eq, oShr_eq, oAbs_eq, oMax2_eq, oMin2_eq, eIf_t, eIf_f, eOr_t, eOr_f, eAnd_t, eAnd_f, Bool.not_true, Bool.not_false, decide_true, decide_false, Bool.or_false, Bool.false_or, Bool.true_or, Bool.or_true, Bool.and_true, Bool.true_and, Bool.and_false, Bool.false_and, e]
  rw [eIf_ret]
  split
  · exact ⟨c, rfl, hc⟩
  · exact ⟨_, rfl, Int.emod_nonneg _ (by decide)⟩
theorem take_sat (n : Int) (h : 0 < n ∧ n < 2 ^ 200) : Sat I3 (m__law_take ((), n)) (fun r => 0 ≤ r ∧ r < n) := by
  unfold m__law_take
  dsimp only
  intro ⟨x, cells, k⟩ ⟨hx, hk⟩
  dsimp only at hx hk
  have h200 := h.2
  have key : ∃ x2 k2, (eIf (e2 oLt (getP (fun a => a.1)) (ret 1000))
      (bnd (e2 oAdd (getP (fun a => a.2.2)) (ret 1)) fun y19 => bnd (modP ((fun b a => (a.1, a.2.1, b)) y19)) fun _ =>
      bnd (eCall m__law_wide (eArg (getP (fun a => a.2.1)) (getP (fun a => a.2.2)))) fun y18 => bnd (modP ((fun b a => (b, a.2)) y18)) fun _ =>
      ret ()) (ret ()) : MM (Int × List Int × Int) Unit) (x, cells, k) = .ok () (x2, cells, k2) ∧ 0 ≤ x2 ∧ -1 ≤ k2 := by
    by_cases hc : x < 1000
    · obtain ⟨r, e, hr⟩ := wide_eq cells (k + 1) (by omega)
      refine ⟨r, k + 1, ?_, hr, by omega⟩
      show (if decide (x < 1000) = true then _ else _ : MM (Int × List Int × Int) Unit) (x, cells, k) = _
      rw [decide_eq_true hc, if_pos rfl]
      show bnd (up (m__law_wide (cells, k + 1))) _ (x, cells, k + 1) = _
      rw [e]
      rfl
    · refine ⟨x, k, ?_, hx, hk⟩
      show (if decide (x < 1000) = true then _ else _ : MM (Int × List Int × Int) Unit) (x, cells, k) = _
      rw [decide_eq_false hc, if_neg Bool.false_ne_true]
      rfl
  obtain ⟨x2, k2, e, h2, h3⟩ := key
  refine ⟨x2 % n, (x2 / n, cells, k2), ?_, ⟨Int.ediv_nonneg h2 (by omega), h3⟩, Int.emod_nonneg _ (by omega), Int.emod_lt_of_pos _ h.1⟩
  rw [bnd_at e]
  show bnd (lft (oMod x2 n)) _ (x2, cells, k2) = _
  rw [oMod_eq _ _ h.1, lft_some, bnd_ret]
  show bnd (lft (oDiv x2 n)) _ (x2, cells, k2) = _
  rw [oDiv_eq _ _ h, lft_some, bnd_ret]
  rfl
theorem pool_eq (ns : List Int) : m__law_pool ns = ret (0, ns, -1) := by
  unfold m__law_pool
  simp (disch := omega) only [bnd_ret, lft_some, up_ret, noE_ret, e1_ret, e2_ret, e3p_ret, eArg_ret, eCall_ret, eCallS_ret, eProj_ret, eNot_ret, eOr_rr, eAnd_rr, oAdd_eq, oSub_eq, oNeg_eq, oLt_eq, oLe_eq, oGt_eq, oGe_eq, oEq_eq, oNe_eq, oLen_eq, oCopy_eq, oIntI_eq, oIntB_eq, oCut_eq, oConst_eq, oSum_eq, oAny_eq, oAll_eq, oIsN_eq, oNotN_eq, oIsB_eq, oNotB_eq, oIn_eq, oNotIn_eq, oMul_r, oMul_l, oDiv_eq, oMod_eq, oRange_eq, oRange2_eq, oShr_eq, oAbs_eq, oMax2_eq, oMin2_eq, eIf_t, eIf_f, eOr_t, eOr_f, eAnd_t, eAnd_f, Bool.not_true, Bool.not_false, decide_true, decide_false, Bool.or_false, Bool.false_or, Bool.true_or, Bool.or_true, Bool.and_true, Bool.true_and, Bool.and_false, Bool.false_and]
theorem law_of {y : MM (Int × List Int × Int) Bool} (ns : List Int) (h : Sat I3 y (· = true)) : (bnd (eCall m__law_pool (ret ns)) fun st0 => runP st0 y) () = .ok true () := by
  simp (disch := omega) only [bnd_ret, lft_some, up_ret, noE_ret, e1_ret, e2_ret, e3p_ret, eArg_ret, eCall_ret, eCallS_ret, eProj_ret, eNot_ret, eOr_rr, eAnd_rr, oAdd_eq, oSub_eq, oNeg_eq, oLt_eq, oLe_eq, oGt_eq, oGe_eq, oEq_eq, oNe_eq, oLen_eq, oCopy_eq, oIntI_eq, oIntB_eq, oCut_eq, oConst_eq, oSum_eq, oAny_eq, oAll_eq, oIsN_eq, oNotN_eq, oIsB_eq, oNotB_eq, oIn_eq, oNotIn_eq, oMul_r, oMul_l, oDiv_eq, oMod_eq, oRange_eq, oRange2_eq, oShr_eq, oAbs_eq, oMax2_eq, oMin2_eq, eIf_t, eIf_f, eOr_t, eOr_f, eAnd_t, eAnd_f, Bool.not_true, Bool.not_false, decide_true, decide_false, Bool.or_false, Bool.false_or, Bool.true_or, Bool.or_true, Bool.and_true, Bool.true_and, Bool.and_false, Bool.false_and, pool_eq]
  exact runP_true (I := I3) ⟨by show (0 : Int) ≤ 0; decide, by show (-1 : Int) ≤ -1; decide⟩ h
end Law

/-! Pk34: the law k34. -/
namespace Law
open WL Mir
open PySem (Str)
theorem told_len : Sat I3 (m__law_told_states ()) (fun p => p.1.length ≤ 50 ∧ p.2.length ≤ 50) := by
  unfold m__law_told_states
  simp (disch := omega) only [bnd_ret, lft_some, up_ret, noE_ret, e1_ret, e2_ret, e3p_ret, eArg_ret, eCall_ret, eCallS_ret, eProj_ret, eNot_ret, eOr_rr, eAnd_rr, oAdd_eq, oSub_eq, oNeg_eq, oLt_eq, oLe_eq, oGt_eq, oGe_eq, oEq_eq, oNe_eq, oLen_eq, oCopy_eq, oIntI_eq, oIntB_eq, oCut_eq, oConst_eq, oSum_eq, oAny_eq, oAll_eq, oIsN_eq, oNotN_eq, oIsB_eq, oNotB_eq, oIn_eq, oNotIn_eq, oMul_r, oMul_l, oDiv_eq, oMod_eq, oRange_eq, oRange2_eq, oShr_eq, oAbs_eq, oMax2_eq, oMin2_eq, eIf_t, eIf_f, eOr_t, eOr_f, eAnd_t, eAnd_f, Bool.not_true, Bool.not_false, decide_true, decide_false, Bool.or_false, Bool.false_or, Bool.true_or, Bool.or_true, Bool.and_true, Bool.true_and, Bool.and_false, Bool.false_and]
  refine Sat.bnd (Q := fun n => 1 ≤ n ∧ n ≤ 5) ?_ fun n hn => ?_
  · exact Sat.e2 (Sat.ret (Q := (· = 1)) rfl) (take_sat 5 (by decide)) fun a b ha hb => ⟨_, rfl, by omega⟩
  obtain ⟨n, rfl⟩ := Int.eq_ofNat_of_zero_le (show 0 ≤ n by omega)
  simp (disch := omega) only [bnd_ret, lft_some, up_ret, noE_ret, e1_ret, e2_ret, e3p_ret, eArg_ret, eCall_ret, eCallS_ret, eProj_ret, eNot_ret, eOr_rr, eAnd_rr, oAdd_eq, oSub_eq, oNeg_eq, oLt_eq, oLe_eq, oGt_eq, oGe_eq, oEq_eq, oNe_eq, oLen_eq, oCopy_eq, oIntI_eq, oIntB_eq, oCut_eq, oConst_eq, oSum_eq, oAny_eq, oAll_eq, oIsN_eq, oNotN_eq, oIsB_eq, oNotB_eq, oIn_eq, oNotIn_eq, oMul_r, oMul_l, oDiv_eq, oMod_eq, oRange_eq, oRange2_eq, oShr_eq, oAbs_eq, oMax2_eq, oMin2_eq, eIf_t, eIf_f, eOr_t, eOr_f, eAnd_t, eAnd_f, Bool.not_true, Bool.not_false, decide_true, decide_false, Bool.or_false, Bool.false_or, Bool.true_or, Bool.or_true, Bool.and_true, Bool.true_and, Bool.and_false, Bool.false_and]
  refine Sat.bnd (Q := fun t => t.length = n ∧ ∀ row ∈ t, row.length = 2 ∧ ∀ x ∈ row, 0 ≤ x ∧ x < (n : Int)) ?_ fun t ht => ?_
  · refine Sat.imp (Sat.lcL (P := fun _ row => row.length = 2 ∧ ∀ x ∈ row, 0 ≤ x ∧ x < (n : Int)) _ (by rw [rangeL_len]; omega) fun x _ => ?_) fun ys ⟨q1, q2⟩ => ⟨by rw [q1, rangeL_len], fun row hrow => ?_⟩
    · refine Sat.e1 (Sat.arg (take_sat (n : Int) (by omega)) (take_sat (n : Int) (by omega))) fun a ⟨h1, h2⟩ => ⟨_, rfl, rfl, fun x hx => ?_⟩
      rcases List.mem_cons.mp hx with e | e
      · rw [e]; exact h1
      · rw [List.mem_singleton.mp e]; exact h2
    · obtain ⟨i, hi, rfl⟩ := List.mem_iff_getElem.mp hrow
      exact q2 i (by omega) hi
  obtain ⟨hl, hrow⟩ := ht
  have at0 : ∀ x : Int, 0 ≤ x → x < (n : Int) → ∃ r y, oAt t x = some r ∧ oAt r 0 = some y ∧ 0 ≤ y ∧ y < (n : Int) := fun x a b => by
    have h := hrow _ (getD_mem t x.toNat [] (by omega))
    exact ⟨_, _, oAt_getD t x [] a (by omega), oAt_getD _ 0 0 (Int.le_refl 0) (by omega), h.2 _ (getD_mem _ 0 0 (by omega))⟩
  obtain ⟨s', es, hs⟩ := forM_inv (T := Int × List Int × Int) (xs := rangeL 0 (n : Int)) (f := fun (s12 : List Int) (v_law_state : Int) =>
      bnd (forM (rangeL 0 (n : Int)) v_law_state fun s14 v_law_k => bnd (e2 oAt (lft (oAt t s14)) (ret 0)) fun v_law_seen => ret v_law_seen) fun s15 =>
      bnd (forM (rangeL 0 (n : Int)) (s15, [s15]) fun (s17 : Int × List Int) v_law_k => bnd (e2 oAt (lft (oAt t s17.1)) (ret 0)) fun v_law_seen => bnd (lft (oApp s17.2 v_law_seen)) fun v_law_ring => ret (v_law_seen, v_law_ring)) fun s18 =>
      bnd (e2 oMod (e2 oMul (lft (minL s18.2)) (ret 3)) (ret 10)) fun y21 => bnd (lft (oApp s12 y21)) fun v_law_outputs => ret v_law_outputs)
    (fun pre s => s.length = pre.length) [] rfl fun pre x post s hx hs => by
      obtain ⟨k1, k2⟩ := rangeL_split hx
      have hk : 0 ≤ x ∧ x < (n : Int) := by omega
      obtain ⟨a, ea, ha⟩ := forM_inv (T := Int × List Int × Int) (xs := rangeL 0 (n : Int)) (f := fun (s14 : Int) (v_law_k : Int) => bnd (e2 oAt (lft (oAt t s14)) (ret 0)) fun v_law_seen => ret v_law_seen) (fun _ s => 0 ≤ s ∧ s < (n : Int)) x hk fun _ _ _ s _ ⟨h0, h1⟩ => by
        obtain ⟨r, y, e1, e2, h⟩ := at0 s h0 h1
        exact ⟨y, by simp (disch := omega) only [bnd_ret, lft_some, up_ret, noE_ret, e1_ret, e2_ret, e3p_ret, eArg_ret, eCall_ret, eCallS_ret, eProj_ret, eNot_ret, eOr_rr, eAnd_rr, oAdd_eq, oSub_eq, oNeg_eq, oLt_eq, oLe_eq, oGt_eq, oGe_eq, oEq_eq, oNe_eq, oLen_eq, oCopy_eq, oIntI_eq, oIntB_eq, oCut_eq, oConst_eq, oSum_eq, oAny_eq, oAll_eq, oIsN_eq, oNotN_eq, oIsB_eq, oNotB_eq, oIn_eq, oNotIn_eq, oMul_r, oMul_l, oDiv_eq, oMod_eq, oRange_eq, oRange2_eq, oShr_eq, oAbs_eq, oMax2_eq, oMin2_eq, eIf_t, eIf_f, eOr_t, eOr_f, eAnd_t, eAnd_f, Bool.not_true, Bool.not_false, decide_true, decide_false, Bool.or_false, Bool.false_or, Bool.true_or, Bool.or_true, Bool.and_true, Bool.true_and, Bool.and_false, Bool.false_and, e1, e2], h⟩
      obtain ⟨b, eb, hb⟩ := forM_inv (T := Int × List Int × Int) (xs := rangeL 0 (n : Int)) (f := fun (s17 : Int × List Int) (v_law_k : Int) => bnd (e2 oAt (lft (oAt t s17.1)) (ret 0)) fun v_law_seen => bnd (lft (oApp s17.2 v_law_seen)) fun v_law_ring => ret (v_law_seen, v_law_ring)) (fun pre s => (0 ≤ s.1 ∧ s.1 < (n : Int)) ∧ s.2.length = pre.length + 1) (a, [a]) ⟨ha, rfl⟩ fun pre _ _ s hp ⟨⟨h0, h1⟩, h2⟩ => by
        obtain ⟨r, y, e1, e2, h⟩ := at0 s.1 h0 h1
        have := (rangeL_split hp).2
        refine ⟨(y, s.2 ++ [y]), ?_, h, by simp [h2]⟩
        simp (disch := omega) only [bnd_ret, lft_some, up_ret, noE_ret, e1_ret, e2_ret, e3p_ret, eArg_ret, eCall_ret, eCallS_ret, eProj_ret, eNot_ret, eOr_rr, eAnd_rr, oAdd_eq, oSub_eq, oNeg_eq, oLt_eq, oLe_eq, oGt_eq, oGe_eq, oEq_eq, oNe_eq, oLen_eq, oCopy_eq, oIntI_eq, oIntB_eq, oCut_eq, oConst_eq, oSum_eq, oAny_eq, oAll_eq, oIsN_eq, oNotN_eq, oIsB_eq, oNotB_eq, oIn_eq, oNotIn_eq, oMul_r, oMul_l, oDiv_eq, oMod_eq, oRange_eq, oRange2_eq, oShr_eq, oAbs_eq, oMax2_eq, oMin2_eq, eIf_t, eIf_f, eOr_t, eOr_f, eAnd_t, eAnd_f, Bool.not_true, Bool.not_false, decide_true, decide_false, Bool.or_false, Bool.false_or, Bool.true_or, Bool.or_true, Bool.and_true, Bool.true_and, Bool.and_false, Bool.false_and, e1, e2]
        rw [oApp_eq _ _ (by omega)]
        rfl
      have hne : b.2 ≠ [] := fun e => by have := hb.2; rw [e] at this; simp at this
      obtain ⟨mm, em, _⟩ := minL_spec b.2 hne
      refine ⟨s ++ [mm * 3 % 10], ?_, by simp [hs]⟩
      rw [ea, bnd_ret, eb, bnd_ret, em]
      simp (disch := omega) only [bnd_ret, lft_some, up_ret, noE_ret, e1_ret, e2_ret, e3p_ret, eArg_ret, eCall_ret, eCallS_ret, eProj_ret, eNot_ret, eOr_rr, eAnd_rr, oAdd_eq, oSub_eq, oNeg_eq, oLt_eq, oLe_eq, oGt_eq, oGe_eq, oEq_eq, oNe_eq, oLen_eq, oCopy_eq, oIntI_eq, oIntB_eq, oCut_eq, oConst_eq, oSum_eq, oAny_eq, oAll_eq, oIsN_eq, oNotN_eq, oIsB_eq, oNotB_eq, oIn_eq, oNotIn_eq, oMul_r, oMul_l, oDiv_eq, oMod_eq, oRange_eq, oRange2_eq, oShr_eq, oAbs_eq, oMax2_eq, oMin2_eq, eIf_t, eIf_f, eOr_t, eOr_f, eAnd_t, eAnd_f, Bool.not_true, Bool.not_false, decide_true, decide_false, Bool.or_false, Bool.false_or, Bool.true_or, Bool.or_true, Bool.and_true, Bool.true_and, Bool.and_false, Bool.false_and]
      rw [oApp_eq _ _ (by omega)]
      rfl
  rw [es, bnd_ret]
  rw [rangeL_len] at hs
  exact Sat.ret ⟨by show s'.length ≤ 50; omega, by show t.length ≤ 50; omega⟩
abbrev S34 := (Int × List Int × Int) × (List Int × List (List Int))
def J34 (N : Nat) (s : S34) : Prop := I3 s.1 ∧ s.2.1.length ≤ N ∧ s.2.2.length ≤ N
theorem ztake (N : Nat) (n : Int) (h : 0 < n ∧ n < 2 ^ 200) : ∀ s : S34, J34 N s → ∃ r s1, (zoom (fun st => st.1) (fun s st => (s, st.2)) (m__law_take ((), n)) : MM S34 Int) s = .ok r (s1, s.2) ∧ I3 s1 ∧ 0 ≤ r ∧ r < n := fun s hs => by
  obtain ⟨r, s1, e, i, q⟩ := take_sat n h s.1 hs.1
  refine ⟨r, s1, ?_, i, q.1, q.2⟩
  unfold zoom
  rw [e]
/-- from J to J', whatever it answers -/
def Go {A : Type} (x : MM S34 A) (J J' : S34 → Prop) : Prop := ∀ s, J s → ∃ a s1, x s = .ok a s1 ∧ J' s1
theorem Go.bnd {A B : Type} {x : MM S34 A} {f : A → MM S34 B} {J K L : S34 → Prop} (h : Go x J K) (k : ∀ a, Go (f a) K L) : Go (WL.bnd x f) J L := fun s hs => by
  obtain ⟨a, s1, e, h1⟩ := h s hs
  obtain ⟨b, s2, e2, h2⟩ := k a s1 h1
  exact ⟨b, s2, by rw [bnd_at e]; exact e2, h2⟩
theorem Go.ret {A : Type} {a : A} {J : S34 → Prop} : Go (WL.ret a) J J := fun s hs => ⟨a, s, rfl, hs⟩
theorem Go.mono {A : Type} {x : MM S34 A} {J K L : S34 → Prop} (h : Go x J K) (k : ∀ s, K s → L s) : Go x J L := fun s hs => let ⟨a, s1, e, q⟩ := h s hs; ⟨a, s1, e, k s1 q⟩
theorem Go.iff {A : Type} {b : Bool} {x y : MM S34 A} {J K : S34 → Prop} (h1 : b = true → Go x J K) (h2 : b = false → Go y J K) : Go (eIf (WL.ret b) x y) J K := by
  cases b with
  | true => exact h1 rfl
  | false => exact h2 rfl
/-- both lists have a place at; not longer than N -/
def K34 (N : Nat) (at_ : Int) (s : S34) : Prop := J34 N s ∧ 0 ≤ at_ ∧ at_ < (s.2.1.length : Int) ∧ at_ < (s.2.2.length : Int)
theorem spoil_go (N : Nat) (hN : N < 1000) : Go (m__law_spoil ((), (), ())) (J34 N) (J34 (N + 1)) := by
  intro s hs
  obtain ⟨⟨cur, cells, k⟩, o, t⟩ := s
  obtain ⟨hi, ho, ht⟩ := hs
  have ho : o.length ≤ N := ho
  have ht : t.length ≤ N := ht
  unfold m__law_spoil
  dsimp only
  simp (disch := omega) only [bnd_ret, lft_some, up_ret, noE_ret, e1_ret, e2_ret, e3p_ret, eArg_ret, eCall_ret, eCallS_ret, eProj_ret, eNot_ret, eOr_rr, eAnd_rr, oAdd_eq, oSub_eq, oNeg_eq, oLt_eq, oLe_eq, oGt_eq, oGe_eq, oEq_eq, oNe_eq, oLen_eq, oCopy_eq, oIntI_eq, oIntB_eq, oCut_eq, oConst_eq, oSum_eq, oAny_eq, oAll_eq, oIsN_eq, oNotN_eq, oIsB_eq, oNotB_eq, oIn_eq, oNotIn_eq, oMul_r, oMul_l, oDiv_eq, oMod_eq, oRange_eq, oRange2_eq, oShr_eq, oAbs_eq, oMax2_eq, oMin2_eq, eIf_t, eIf_f, eOr_t, eOr_f, eAnd_t, eAnd_f, Bool.not_true, Bool.not_false, decide_true, decide_false, Bool.or_false, Bool.false_or, Bool.true_or, Bool.or_true, Bool.and_true, Bool.true_and, Bool.and_false, Bool.false_and]
  obtain ⟨c, s1, ec, i1, c0, c1⟩ := ztake N 9 (by decide) ((cur, cells, k), o, t) ⟨hi, ho, ht⟩
  rw [bnd_at ec]
  have em : ∀ s1 : Int × List Int × Int, (eArg (ret ()) (e1 oMax2 (eArg (ret 1) (getP fun st => (st.2.1.length : Int)))) : MM S34 (Unit × Int)) (s1, o, t) = .ok ((), if (o.length : Int) > 1 then (o.length : Int) else 1) (s1, o, t) := fun s1 => rfl
  have hm : 0 < (if (o.length : Int) > 1 then (o.length : Int) else 1) ∧ (if (o.length : Int) > 1 then (o.length : Int) else 1) < 2 ^ 200 := by split <;> omega
  obtain ⟨a, s2, ea, i2, a0, a1⟩ := ztake N _ hm (s1, o, t) ⟨i1, ho, ht⟩
  rw [bnd_at (show bnd (eArg (ret ()) (e1 oMax2 (eArg (ret 1) (getP fun st => (st.2.1.length : Int))))) (fun a => zoom (fun st => st.1) (fun s st => (s, st.2)) (m__law_take a)) (s1, o, t) = .ok a (s2, o, t) from by rw [bnd_at (em s1)]; exact ea)]
  have ec : (eOr (eNot (getP fun st => !st.2.1.isEmpty)) (eOr (eNot (getP fun st => !st.2.2.isEmpty)) (e2 oGe (ret a) (getP fun st => (st.2.2.length : Int)))) : MM S34 Bool) (s2, o, t) = .ok (o.isEmpty || (t.isEmpty || decide ((t.length : Int) ≤ a))) (s2, o, t) := by
    cases o with
    | nil => rfl
    | cons x o => cases t <;> rfl
  by_cases hz : (o.isEmpty || (t.isEmpty || decide ((t.length : Int) ≤ a))) = true
  · refine ⟨(), (s2, o, t), ?_, i2, by show o.length ≤ N + 1; omega, by show t.length ≤ N + 1; omega⟩
    show bnd _ _ _ = _
    rw [bnd_at ec, if_pos hz]
    rfl
  have hz' : (o.isEmpty || (t.isEmpty || decide ((t.length : Int) ≤ a))) = false := by simpa using hz
  rw [Bool.or_eq_false_iff, Bool.or_eq_false_iff] at hz'
  obtain ⟨z1, z2, z3⟩ := hz'
  have z3 := of_decide_eq_false z3
  have o1 : 1 ≤ o.length := by cases o with
    | nil => cases z1
    | cons x o => simp
  have ha : a < (o.length : Int) := by split at a1 <;> omega
  rw [show ∀ (x y : MM S34 Unit), eIf (eOr (eNot (getP fun st => !st.2.1.isEmpty)) (eOr (eNot (getP fun st => !st.2.2.isEmpty)) (e2 oGe (ret a) (getP fun st => (st.2.2.length : Int))))) x y (s2, o, t) = y (s2, o, t) from fun x y => by
    show bnd _ _ _ = _
    rw [bnd_at ec, if_neg hz]]
  have hc : c = 0 ∨ c = 1 ∨ c = 2 ∨ c = 3 ∨ c = 4 ∨ c = 5 ∨ c = 6 ∨ c = 7 ∨ c = 8 := by omega
  rcases hc with rfl | rfl | rfl | rfl | rfl | rfl | rfl | rfl | rfl
  all_goals simp (disch := omega) only [bnd_ret, lft_some, up_ret, noE_ret, e1_ret, e2_ret, e3p_ret, eArg_ret, eCall_ret, eCallS_ret, eProj_ret, eNot_ret, eOr_rr, eAnd_rr, oAdd_eq, oSub_eq, oNeg_eq, oLt_eq, oLe_eq, oGt_eq, oGe_eq, oEq_eq, oNe_eq, oLen_eq, oCopy_eq, oIntI_eq, oIntB_eq, oCut_eq, oConst_eq, oSum_eq, oAny_eq, oAll_eq, oIsN_eq, oNotN_eq, oIsB_eq, oNotB_eq, oIn_eq, oNotIn_eq, oMul_r, oMul_l, oDiv_eq, oMod_eq, oRange_eq, oRange2_eq, oShr_eq, oAbs_eq, oMax2_eq, oMin2_eq, eIf_t, eIf_f, eOr_t, eOr_f, eAnd_t, eAnd_f, Bool.not_true, Bool.not_false, decide_true, decide_false, Bool.or_false, Bool.false_or, Bool.true_or, Bool.or_true, Bool.and_true, Bool.true_and, Bool.and_false, Bool.false_and, decide_eq_true, decide_eq_false]
  · obtain ⟨r, s3, er, i3, r0, r1⟩ := ztake N 4 (by decide) (s2, o, t) ⟨i2, ho, ht⟩
    have ev := oAt_getD [(10 : Int), -1, 255, 11] r 0 r0 (by simpa using r1)
    generalize [(10 : Int), -1, 255, 11].getD r.toNat 0 = v at ev
    have e2' : (e2 oAt (ret [(10 : Int), -1, 255, 11]) (zoom (fun st => st.1) (fun s st => (s, st.2)) (m__law_take ((), 4))) : MM S34 Int) (s2, o, t) = .ok v (s3, o, t) := by
      show bnd (zoom _ _ _) (fun b => lft (oAt _ b)) _ = _
      rw [bnd_at er, ev]; rfl
    refine ⟨(), (s3, o.set a.toNat v, t), ?_, i3, by show (o.set a.toNat v).length ≤ N + 1; rw [List.length_set]; omega, by show t.length ≤ N + 1; omega⟩
    rw [bnd_at (a := ()) (s1 := (s3, o.set a.toNat v, t))]; rfl
    rw [bnd_at e2']
    show bnd (lft (oSet o a v)) _ (s3, o, t) = _
    rw [oSet_int _ _ _ a0 ha, lft_some, bnd_ret]; rfl
  · generalize hv : (if decide (o.getD a.toNat 0 = 0) = true then (1 : Int) else 0) = v
    have e2' : (e1 oIntB (e2 oEq (bnd (getP fun st => st.2.1) fun xs => lft (oAt xs a)) (ret 0)) : MM S34 Int) (s2, o, t) = .ok v (s2, o, t) := by
      have e0 : (bnd (getP fun st => st.2.1) fun xs => lft (oAt xs a) : MM S34 Int) (s2, o, t) = .ok (o.getD a.toNat 0) (s2, o, t) := by
        show lft (oAt o a) _ = _
        rw [oAt_getD o a 0 a0 ha]; rfl
      show bnd (bnd _ fun x => bnd (ret 0) fun y => lft (oEq x y)) _ _ = _
      rw [bnd_at (a := decide (o.getD a.toNat 0 = 0)) (s1 := (s2, o, t)), oIntB_eq, hv]; rfl
      rw [bnd_at e0]; rfl
    refine ⟨(), (s2, o.set a.toNat v, t), ?_, i2, by show (o.set a.toNat v).length ≤ N + 1; rw [List.length_set]; omega, by show t.length ≤ N + 1; omega⟩
    rw [bnd_at (a := ()) (s1 := (s2, o.set a.toNat v, t))]; rfl
    rw [bnd_at e2']
    show bnd (lft (oSet o a v)) _ (s2, o, t) = _
    rw [oSet_int _ _ _ a0 ha, lft_some, bnd_ret]; rfl
  · obtain ⟨r, s3, er, i3, r0, r1⟩ := ztake N 6 (by decide) (s2, o, t) ⟨i2, ho, ht⟩
    generalize hL : ([[0], [0, 0, 0], [], [0, -1], [0, (o.length : Int)], [-1, 0]] : List (List Int)) = L
    have hl : L.length = 6 := by rw [← hL]; rfl
    have ev := oAt_getD L r [] r0 (by omega)
    generalize L.getD r.toNat [] = v at ev
    rw [bnd_at (a := ()) (s1 := (s3, o, t.set a.toNat v))]
    · exact ⟨(), (s3, o, t.set a.toNat v), rfl, i3, by show o.length ≤ N + 1; omega, by show (t.set a.toNat v).length ≤ N + 1; rw [List.length_set]; omega⟩
    rw [bnd_at (a := v) (s1 := (s3, o, t))]
    · show bnd (lft (oSet t a v)) _ (s3, o, t) = _
      rw [oSet_int _ _ _ a0 (by omega), lft_some, bnd_ret]; rfl
    show bnd _ _ _ = _
    rw [bnd_at (a := L) (s1 := (s2, o, t)) (by rw [← hL]; rfl), bnd_at er, ev]; rfl
  · refine ⟨(), (s2, o, t ++ [[0, 0]]), ?_, i2, by show o.length ≤ N + 1; omega, by show (t ++ [[0, 0]]).length ≤ N + 1; simp; omega⟩
    rw [bnd_at (a := ()) (s1 := (s2, o, t ++ [[0, 0]]))]; rfl
    show bnd (lft (oApp t [0, 0])) _ (s2, o, t) = _
    rw [oApp_eq _ _ (by omega), lft_some, bnd_ret]; rfl
  · have hne : t ≠ [] := fun e => by rw [e] at z2; cases z2
    have ep : oPop t = some (t.getLast hne, t.dropLast) := by unfold oPop; rw [List.getLast?_eq_getLast hne]; rfl
    refine ⟨(), (s2, o, t.dropLast), ?_, i2, by show o.length ≤ N + 1; omega, by show t.dropLast.length ≤ N + 1; rw [List.length_dropLast]; omega⟩
    rw [bnd_at (a := ()) (s1 := (s2, o, t.dropLast))]; rfl
    show bnd (lft (oPop t)) _ (s2, o, t) = _
    rw [ep, lft_some, bnd_ret]; rfl
  · have hne : o ≠ [] := fun e => by rw [e] at o1; simp at o1
    have ep : oPop o = some (o.getLast hne, o.dropLast) := by unfold oPop; rw [List.getLast?_eq_getLast hne]; rfl
    refine ⟨(), (s2, o.dropLast, t), ?_, i2, by show o.dropLast.length ≤ N + 1; rw [List.length_dropLast]; omega, by show t.length ≤ N + 1; omega⟩
    rw [bnd_at (a := ()) (s1 := (s2, o.dropLast, t))]; rfl
    show bnd (lft (oPop o)) _ (s2, o, t) = _
    rw [ep, lft_some, bnd_ret]; rfl
  · exact ⟨(), (s2, [], t), rfl, i2, Nat.zero_le _, by show t.length ≤ N + 1; omega⟩
  · exact ⟨(), (s2, o, t), rfl, i2, by show o.length ≤ N + 1; omega, by show t.length ≤ N + 1; omega⟩
  · exact ⟨(), (s2, o, t), rfl, i2, by show o.length ≤ N + 1; omega, by show t.length ≤ N + 1; omega⟩
theorem forB_go {A : Type} {f : Unit → A → MM S34 (Sum Unit Unit)} (N : Nat) : ∀ (xs : List A), (∀ n x, n < N + xs.length → Go (f () x) (J34 n) (J34 (n + 1))) → Go (forB xs () f) (J34 N) (J34 (N + xs.length)) := by
  intro xs
  induction xs generalizing N with
  | nil => intro _; exact Go.ret
  | cons x xs ih =>
    intro h
    refine Go.bnd (h N x (by simp)) fun r => ?_
    cases r with
    | inl u => exact Go.ret.mono fun s ⟨a, b, c⟩ => ⟨a, by simp; omega, by simp; omega⟩
    | inr u =>
      have := ih (N + 1) fun n y hn => h n y (by simp; omega)
      exact this.mono fun s hs => by rw [List.length_cons, show N + (xs.length + 1) = N + 1 + xs.length by omega]; exact hs
theorem loop_go (n : Nat) (hn : n < 3) : Go (forB (rangeL 0 (n : Int)) () fun s38 v_law_k =>
    bnd (zoom (fun st => (st.1, st.2)) (fun s st => (s.1, s.2)) (m__law_spoil ((), (), ()))) fun x =>
    bnd (bnd (getP fun st => st.2) fun g40 => pu (lcIL (fun v_law_output => eNot (up (m__law_whole (v_law_output, 0, 9)))) (fun v_law_output => ret v_law_output) g40.1)) fun v_law_numbers =>
    bnd (bnd (getP fun st => st.2) fun g41 => pu (lcIL (fun v_law_row_here => eNot (up (m__law_row (v_law_row_here, (g41.1.length : Int))))) (fun v_law_row_here => ret ()) g41.2)) fun v_law_rows =>
    eIf (eOr (lft (fNe v_law_numbers)) (lft (fNe v_law_rows))) (ret (Sum.inl ())) (ret (Sum.inr ()))) (J34 50) (J34 60) := by
  refine (forB_go 50 (rangeL 0 (n : Int)) fun N x hN => ?_).mono fun s ⟨a, b, c⟩ => ?_
  · rw [rangeL_len] at hN
    have ez : ∀ x : MM S34 Unit, zoom (fun st => (st.1, st.2)) (fun s st => (s.1, s.2)) x = x := fun x => by
      funext s
      unfold zoom
      cases x (s.1, s.2) <;> rfl
    rw [ez]
    refine Go.bnd (spoil_go N (by omega)) fun _ => ?_
    intro s hs
    have l1 : s.2.1.length ≤ 100000 := Nat.le_trans hs.2.1 (by omega)
    have l2 : s.2.2.length ≤ 100000 := Nat.le_trans hs.2.2 (by omega)
    have a1 : (bnd (getP fun st => st.2) fun g40 => pu (lcIL (fun v_law_output => eNot (up (m__law_whole (v_law_output, 0, 9)))) (fun v_law_output => ret v_law_output) g40.1) : MM S34 (List Int)) s = .ok ((s.2.1.filter fun x => !(decide (0 ≤ x) && decide (x ≤ 9))).map fun x => x) s := by
      show pu (lcIL _ _ s.2.1) s = _
      rw [lcIL_ret (fun x => !(decide (0 ≤ x) && decide (x ≤ 9))) (fun x => x) _ l1 (fun x _ => by simp (disch := omega) only [bnd_ret, lft_some, up_ret, noE_ret, e1_ret, e2_ret, e3p_ret, eArg_ret, eCall_ret, eCallS_ret, eProj_ret, eNot_ret, eOr_rr, eAnd_rr, oAdd_eq, oSub_eq, oNeg_eq, oLt_eq, oLe_eq, oGt_eq, oGe_eq, oEq_eq, oNe_eq, oLen_eq, oCopy_eq, oIntI_eq, oIntB_eq, oCut_eq, oConst_eq, oSum_eq, oAny_eq, oAll_eq, oIsN_eq, oNotN_eq, oIsB_eq, oNotB_eq, oIn_eq, oNotIn_eq, oMul_r, oMul_l, oDiv_eq, oMod_eq, oRange_eq, oRange2_eq, oShr_eq, oAbs_eq, oMax2_eq, oMin2_eq, eIf_t, eIf_f, eOr_t, eOr_f, eAnd_t, eAnd_f, Bool.not_true, Bool.not_false, decide_true, decide_false, Bool.or_false, Bool.false_or, Bool.true_or, Bool.or_true, Bool.and_true, Bool.true_and, Bool.and_false, Bool.false_and, whole_eq]) fun x _ _ => rfl]
      rfl
    have a2 : (bnd (getP fun st => st.2) fun g41 => pu (lcIL (fun v_law_row_here => eNot (up (m__law_row (v_law_row_here, (g41.1.length : Int))))) (fun v_law_row_here => ret ()) g41.2) : MM S34 (List Unit)) s = .ok ((s.2.2.filter fun r => !rowB s.2.1.length r).map fun _ => ()) s := by
      show pu (lcIL _ _ s.2.2) s = _
      rw [lcIL_ret (fun r => !rowB s.2.1.length r) (fun _ => ()) _ l2 (fun x _ => by simp (disch := omega) only [bnd_ret, lft_some, up_ret, noE_ret, e1_ret, e2_ret, e3p_ret, eArg_ret, eCall_ret, eCallS_ret, eProj_ret, eNot_ret, eOr_rr, eAnd_rr, oAdd_eq, oSub_eq, oNeg_eq, oLt_eq, oLe_eq, oGt_eq, oGe_eq, oEq_eq, oNe_eq, oLen_eq, oCopy_eq, oIntI_eq, oIntB_eq, oCut_eq, oConst_eq, oSum_eq, oAny_eq, oAll_eq, oIsN_eq, oNotN_eq, oIsB_eq, oNotB_eq, oIn_eq, oNotIn_eq, oMul_r, oMul_l, oDiv_eq, oMod_eq, oRange_eq, oRange2_eq, oShr_eq, oAbs_eq, oMax2_eq, oMin2_eq, eIf_t, eIf_f, eOr_t, eOr_f, eAnd_t, eAnd_f, Bool.not_true, Bool.not_false, decide_true, decide_false, Bool.or_false, Bool.false_or, Bool.true_or, Bool.or_true, Bool.and_true, Bool.true_and, Bool.and_false, Bool.false_and, lrow_eq]) fun x _ _ => rfl]
      rfl
    rw [bnd_at a1, bnd_at a2]
    simp (disch := omega) only [bnd_ret, lft_some, up_ret, noE_ret, e1_ret, e2_ret, e3p_ret, eArg_ret, eCall_ret, eCallS_ret, eProj_ret, eNot_ret, eOr_rr, eAnd_rr, oAdd_eq, oSub_eq, oNeg_eq, oLt_eq, oLe_eq, oGt_eq, oGe_eq, oEq_eq, oNe_eq, oLen_eq, oCopy_eq, oIntI_eq, oIntB_eq, oCut_eq, oConst_eq, oSum_eq, oAny_eq, oAll_eq, oIsN_eq, oNotN_eq, oIsB_eq, oNotB_eq, oIn_eq, oNotIn_eq, oMul_r, oMul_l, oDiv_eq, oMod_eq, oRange_eq, oRange2_eq, oShr_eq, oAbs_eq, oMax2_eq, oMin2_eq, eIf_t, eIf_f, eOr_t, eOr_f, eAnd_t, eAnd_f, Bool.not_true, Bool.not_false, decide_true, decide_false, Bool.or_false, Bool.false_or, Bool.true_or, Bool.or_true, Bool.and_true, Bool.true_and, Bool.and_false, Bool.false_and, fNe_eq]
    rw [eIf_ret]
    split
    · exact ⟨_, s, rfl, hs⟩
    · exact ⟨_, s, rfl, hs⟩
  · rw [rangeL_len] at b c
    exact ⟨a, by omega, by omega⟩
theorem law_true (ns : List Int) (h : ns.length ≤ 63) : m_law ns () = .ok true () := by
  unfold m_law
  refine law_of ns ?_
  simp (disch := omega) only [bnd_ret, lft_some, up_ret, noE_ret, e1_ret, e2_ret, e3p_ret, eArg_ret, eCall_ret, eCallS_ret, eProj_ret, eNot_ret, eOr_rr, eAnd_rr, oAdd_eq, oSub_eq, oNeg_eq, oLt_eq, oLe_eq, oGt_eq, oGe_eq, oEq_eq, oNe_eq, oLen_eq, oCopy_eq, oIntI_eq, oIntB_eq, oCut_eq, oConst_eq, oSum_eq, oAny_eq, oAll_eq, oIsN_eq, oNotN_eq, oIsB_eq, oNotB_eq, oIn_eq, oNotIn_eq, oMul_r, oMul_l, oDiv_eq, oMod_eq, oRange_eq, oRange2_eq, oShr_eq, oAbs_eq, oMax2_eq, oMin2_eq, eIf_t, eIf_f, eOr_t, eOr_f, eAnd_t, eAnd_f, Bool.not_true, Bool.not_false, decide_true, decide_false, Bool.or_false, Bool.false_or, Bool.true_or, Bool.or_true, Bool.and_true, Bool.true_and, Bool.and_false, Bool.false_and]
  refine Sat.bnd told_len fun p hp => ?_
  refine Sat.bnd (Q := fun p => p.1.length ≤ 50 ∧ p.2.length ≤ 50) ?_ fun q hq => ?_
  · refine Sat.cond (Qc := fun _ => True) (Sat.e2 (take_sat 4 (by decide)) (Sat.ret (Q := (· = 0)) rfl) fun a b _ _ => ⟨_, rfl, trivial⟩) (fun _ => ?_) fun _ => Sat.ret hp
    refine Sat.bnd (Q := fun n => 39 ≤ n ∧ n ≤ 42) (Sat.e2 (Sat.ret (Q := (· = 39)) rfl) (take_sat 4 (by decide)) fun a b ha hb => ⟨_, rfl, by omega⟩) fun n hn => ?_
    obtain ⟨n, rfl⟩ := Int.eq_ofNat_of_zero_le (show 0 ≤ n by omega)
    simp (disch := omega) only [bnd_ret, lft_some, up_ret, noE_ret, e1_ret, e2_ret, e3p_ret, eArg_ret, eCall_ret, eCallS_ret, eProj_ret, eNot_ret, eOr_rr, eAnd_rr, oAdd_eq, oSub_eq, oNeg_eq, oLt_eq, oLe_eq, oGt_eq, oGe_eq, oEq_eq, oNe_eq, oLen_eq, oCopy_eq, oIntI_eq, oIntB_eq, oCut_eq, oConst_eq, oSum_eq, oAny_eq, oAll_eq, oIsN_eq, oNotN_eq, oIsB_eq, oNotB_eq, oIn_eq, oNotIn_eq, oMul_r, oMul_l, oDiv_eq, oMod_eq, oRange_eq, oRange2_eq, oShr_eq, oAbs_eq, oMax2_eq, oMin2_eq, eIf_t, eIf_f, eOr_t, eOr_f, eAnd_t, eAnd_f, Bool.not_true, Bool.not_false, decide_true, decide_false, Bool.or_false, Bool.false_or, Bool.true_or, Bool.or_true, Bool.and_true, Bool.true_and, Bool.and_false, Bool.false_and]
    rw [oRep_eq _ _ (by simp; omega), lft_some]
    rw [lcL_range (n := n) (fun i => [(i : Int), (n : Int) - 1 - (i : Int)]) (by omega) fun i _ => by simp (disch := omega) only [bnd_ret, lft_some, up_ret, noE_ret, e1_ret, e2_ret, e3p_ret, eArg_ret, eCall_ret, eCallS_ret, eProj_ret, eNot_ret, eOr_rr, eAnd_rr, oAdd_eq, oSub_eq, oNeg_eq, oLt_eq, oLe_eq, oGt_eq, oGe_eq, oEq_eq, oNe_eq, oLen_eq, oCopy_eq, oIntI_eq, oIntB_eq, oCut_eq, oConst_eq, oSum_eq, oAny_eq, oAll_eq, oIsN_eq, oNotN_eq, oIsB_eq, oNotB_eq, oIn_eq, oNotIn_eq, oMul_r, oMul_l, oDiv_eq, oMod_eq, oRange_eq, oRange2_eq, oShr_eq, oAbs_eq, oMax2_eq, oMin2_eq, eIf_t, eIf_f, eOr_t, eOr_f, eAnd_t, eAnd_f, Bool.not_true, Bool.not_false, decide_true, decide_false, Bool.or_false, Bool.false_or, Bool.true_or, Bool.or_true, Bool.and_true, Bool.true_and, Bool.and_false, Bool.false_and]]
    simp (disch := omega) only [bnd_ret, lft_some, up_ret, noE_ret, e1_ret, e2_ret, e3p_ret, eArg_ret, eCall_ret, eCallS_ret, eProj_ret, eNot_ret, eOr_rr, eAnd_rr, oAdd_eq, oSub_eq, oNeg_eq, oLt_eq, oLe_eq, oGt_eq, oGe_eq, oEq_eq, oNe_eq, oLen_eq, oCopy_eq, oIntI_eq, oIntB_eq, oCut_eq, oConst_eq, oSum_eq, oAny_eq, oAll_eq, oIsN_eq, oNotN_eq, oIsB_eq, oNotB_eq, oIn_eq, oNotIn_eq, oMul_r, oMul_l, oDiv_eq, oMod_eq, oRange_eq, oRange2_eq, oShr_eq, oAbs_eq, oMax2_eq, oMin2_eq, eIf_t, eIf_f, eOr_t, eOr_f, eAnd_t, eAnd_f, Bool.not_true, Bool.not_false, decide_true, decide_false, Bool.or_false, Bool.false_or, Bool.true_or, Bool.or_true, Bool.and_true, Bool.true_and, Bool.and_false, Bool.false_and]
    refine Sat.ret ⟨?_, ?_⟩
    · show (List.replicate _ [(3 : Int)]).flatten.length ≤ 50
      simp; omega
    · show ((List.range n).map _).length ≤ 50
      simp; omega
  intro st hst
  have hJ : J34 50 (st, q) := ⟨hst, hq.1, hq.2⟩
  obtain ⟨n, s1, en, i1, n0, n1⟩ := ztake 50 3 (by decide) (st, q) hJ
  obtain ⟨n, rfl⟩ := Int.eq_ofNat_of_zero_le n0
  have hn : n < 3 := by omega
  obtain ⟨u, s2, eL, j2⟩ := loop_go n hn (s1, q) ⟨i1, hq⟩
  refine ⟨true, s2.1, ?_, j2.1, rfl⟩
  have H : ∀ k : MM S34 Bool, k (st, q) = .ok true s2 → withS q k st = .ok true s2.1 := fun k hk => by
    unfold withS
    rw [hk]
  refine H _ ?_
  rw [bnd_at (a := u) (s1 := s2)]
  · have l1 : s2.2.1.length ≤ 1000 := Nat.le_trans j2.2.1 (by omega)
    have l2 : s2.2.2.length ≤ 1000 := Nat.le_trans j2.2.2 (by omega)
    rw [bnd_at (a := s2.2) (s1 := s2) (by rfl)]
    show pu _ s2 = _
    simp (disch := omega) only [bnd_ret, lft_some, up_ret, noE_ret, e1_ret, e2_ret, e3p_ret, eArg_ret, eCall_ret, eCallS_ret, eProj_ret, eNot_ret, eOr_rr, eAnd_rr, oAdd_eq, oSub_eq, oNeg_eq, oLt_eq, oLe_eq, oGt_eq, oGe_eq, oEq_eq, oNe_eq, oLen_eq, oCopy_eq, oIntI_eq, oIntB_eq, oCut_eq, oConst_eq, oSum_eq, oAny_eq, oAll_eq, oIsN_eq, oNotN_eq, oIsB_eq, oNotB_eq, oIn_eq, oNotIn_eq, oMul_r, oMul_l, oDiv_eq, oMod_eq, oRange_eq, oRange2_eq, oShr_eq, oAbs_eq, oMax2_eq, oMin2_eq, eIf_t, eIf_f, eOr_t, eOr_f, eAnd_t, eAnd_f, Bool.not_true, Bool.not_false, decide_true, decide_false, Bool.or_false, Bool.false_or, Bool.true_or, Bool.or_true, Bool.and_true, Bool.true_and, Bool.and_false, Bool.false_and, told_eq l1 l2, due_eq l1 l2]
    have hok : okO (okP okStr okStr) (due34 s2.2.1 s2.2.2) = true := by
      unfold due34
      repeat' split
      all_goals first | rfl | decide +kernel
    unfold oEqK
    rw [if_pos ⟨hok, hok⟩, decide_eq_true rfl]
    rfl
  · rw [bnd_at (a := rangeL 0 (n : Int)) (s1 := (s1, q))]
    · exact eL
    show bnd _ _ _ = _
    rw [bnd_at en, oRange_eq _ (by omega)]
    rfl
end Law

/-! the walk of law_k34_words_refused, printed by gen.py -/
namespace Wk
open PySem PySem.Spec PyProof.Rows L2 WL Mir
def topS (i : Nat) : Stmt := PySem.Challenge.pw_digitwise_k34_words_refused.main.body.getD i (.Pass ⟨0, 0, 0, 0⟩)
def Fs_TO (K : PySem.W.Frag) : ((List Int) × (List (List Int))) → List FD := fun r => [fd "outputs" (tList tInt) r.1, fd "table" (tList (tList tInt)) r.2]
theorem fat_TO_outputs (K : PySem.W.Frag) : FAt (Fs_TO K) "outputs" (tList tInt) (fun a => a.1) := (fat_z (f := "outputs") (t := (tList tInt)) (g := fun r : ((List Int) × (List (List Int))) => r.1) (F := fun r => [fd "table" (tList (tList tInt)) r.2]))
theorem fat_TO_table (K : PySem.W.Frag) : FAt (Fs_TO K) "table" (tList (tList tInt)) (fun a => a.2) := (fat_s (F := fun r : ((List Int) × (List (List Int))) => [fd "table" (tList (tList tInt)) r.2]) (d := fun r : ((List Int) × (List (List Int))) => fd "outputs" (tList tInt) r.1) (fat_z (f := "table") (t := (tList (tList tInt))) (g := fun r : ((List Int) × (List (List Int))) => r.2) (F := fun r => [])) (fun _ => rfl))
def FO_TO : List (FO ((List Int) × (List (List Int)))) := [foo "outputs" (oList tInt) (fun r : ((List Int) × (List (List Int))) => r.1), foo "table" oLL (fun r : ((List Int) × (List (List Int))) => r.2)]
theorem fow_TO_outputs : FOwn FO_TO "outputs" 0 (oList tInt) (fun r : ((List Int) × (List (List Int))) => r.1) (fun b a => (b, a.2)) := (fow_z (.cons (fun _ _ _ _ _ _ _ h => h) .nil) (fun _ _ => rfl))
theorem fow_TO_table : FOwn FO_TO "table" 1 oLL (fun r : ((List Int) × (List (List Int))) => r.2) (fun b a => (a.1, b)) := (fow_s (fow_z .nil (fun _ _ => rfl)) rfl (fun _ _ _ _ _ _ _ h => h))
theorem ffz_TO {K : PySem.W.Frag} : ∀ st : ((List Int) × (List (List Int))), FFz st FO_TO (Fs_TO K st) := fun st => (.o frz_list (.o frz_LL .nil))
theorem fmf_TO : FMF FO_TO := (.o (mfo_list mf_int) (.o mfo_LL .nil))
def Fs_Told (K : PySem.W.Frag) : ((List Int) × (List (List Int))) → List FD := fun r => [fd "outputs" (tList tInt) r.1, fd "table" (tList (tList tInt)) r.2]
theorem fat_Told_outputs (K : PySem.W.Frag) : FAt (Fs_Told K) "outputs" (tList tInt) (fun a => a.1) := (fat_z (f := "outputs") (t := (tList tInt)) (g := fun r : ((List Int) × (List (List Int))) => r.1) (F := fun r => [fd "table" (tList (tList tInt)) r.2]))
theorem fat_Told_table (K : PySem.W.Frag) : FAt (Fs_Told K) "table" (tList (tList tInt)) (fun a => a.2) := (fat_s (F := fun r : ((List Int) × (List (List Int))) => [fd "table" (tList (tList tInt)) r.2]) (d := fun r : ((List Int) × (List (List Int))) => fd "outputs" (tList tInt) r.1) (fat_z (f := "table") (t := (tList (tList tInt))) (g := fun r : ((List Int) × (List (List Int))) => r.2) (F := fun r => [])) (fun _ => rfl))
theorem frz_TO {K : PySem.W.Frag} {D : Addr} : Freezes (oObj D FO_TO) (tIns D (Fs_Told K)) := frz_obj (Fs := Fs_TO K) ffz_TO
structure Top (P : Program) (K : PySem.W.Frag) (mg : Str → Option Value) where
  cls : Nat → Addr
  k_Told : Addr
  g_Told : mg "Told" = some (.ref k_Told)
  cl_Told : Cls K k_Told
  na_Told_outputs : NoAttr K k_Told "outputs"
  na_Told_table : NoAttr K k_Told "table"
  d_is_output : DefI K mg "is_output" "is_output" (topS 9) ["value"]
  d_is_row : DefI K mg "is_row" "is_row" (topS 10) ["row", "states"]
  me_Told___init__ : MetI K k_Told "__init__" "Told.__init__" (inClass (topS 11) 0) ["self", "outputs", "table"]
  mk_Told : Mk K k_Told me_Told___init__.a
  d__law_wide : DefI K mg "_law_wide" "_law_wide" (topS 13) ["_law_script", "_law_k"]
  d__law_take : DefI K mg "_law_take" "_law_take" (topS 14) ["_law_pool_here", "_law_most"]
  d__law_pool : DefI K mg "_law_pool" "_law_pool" (topS 15) ["_law_script"]
  d__law_told_states : DefI K mg "_law_told_states" "_law_told_states" (topS 16) ["_law_pool_here"]
  d__law_whole : DefI K mg "_law_whole" "_law_whole" (topS 17) ["_law_value", "_law_least", "_law_most"]
  d__law_row : DefI K mg "_law_row" "_law_row" (topS 18) ["_law_row_here", "_law_size"]
  d__law_due : DefI K mg "_law_due" "_law_due" (topS 19) ["_law_outputs", "_law_table"]
  d__law_told : DefI K mg "_law_told" "_law_told" (topS 20) ["_law_outputs", "_law_table"]
  d__law_spoil : DefI K mg "_law_spoil" "_law_spoil" (topS 21) ["_law_pool_here", "_law_outputs", "_law_table"]
  d_law : DefI K mg "law" "law" (topS 22) ["_law_script"]
  k_Clashing : Addr
  hk_Clashing : cls 2 = k_Clashing
  g_Clashing : mg "Clashing" = some (.ref k_Clashing)
  xf_Clashing : Addr
  xc_Clashing : Addr
  xv_Clashing : Value
  xd_Clashing : FuncData
  xT_Clashing : OexC K k_Clashing
  xi_Clashing : PySem.W.findIn K (.ref k_Clashing) "__init__" = some (some (.ref xf_Clashing))
  xt_Clashing : PySem.W.typeIn K (.ref xf_Clashing) = some (.type "function")
  xS_Clashing : SupC P K k_Clashing xc_Clashing "name" xv_Clashing
  xF_Clashing : FunS K "__init__" "Clashing.__init__" (inClass (topS 3) 0) xf_Clashing xc_Clashing xv_Clashing xd_Clashing
  xB_Clashing : Binds K xd_Clashing ["self", "name"] []
  xX_Clashing : XfC K k_Clashing
  k_Oversized : Addr
  hk_Oversized : cls 3 = k_Oversized
  g_Oversized : mg "Oversized" = some (.ref k_Oversized)
  xf_Oversized : Addr
  xc_Oversized : Addr
  xv_Oversized : Value
  xd_Oversized : FuncData
  xT_Oversized : OexC K k_Oversized
  xi_Oversized : PySem.W.findIn K (.ref k_Oversized) "__init__" = some (some (.ref xf_Oversized))
  xt_Oversized : PySem.W.typeIn K (.ref xf_Oversized) = some (.type "function")
  xS_Oversized : SupC P K k_Oversized xc_Oversized "limit" xv_Oversized
  xF_Oversized : FunS K "__init__" "Oversized.__init__" (inClass (topS 4) 0) xf_Oversized xc_Oversized xv_Oversized xd_Oversized
  xB_Oversized : Binds K xd_Oversized ["self", "limit"] []
  xX_Oversized : XfC K k_Oversized
  k_Misused : Addr
  hk_Misused : cls 4 = k_Misused
  g_Misused : mg "Misused" = some (.ref k_Misused)
  xf_Misused : Addr
  xc_Misused : Addr
  xv_Misused : Value
  xd_Misused : FuncData
  xT_Misused : OexC K k_Misused
  xi_Misused : PySem.W.findIn K (.ref k_Misused) "__init__" = some (some (.ref xf_Misused))
  xt_Misused : PySem.W.typeIn K (.ref xf_Misused) = some (.type "function")
  xS_Misused : SupC P K k_Misused xc_Misused "why" xv_Misused
  xF_Misused : FunS K "__init__" "Misused.__init__" (inClass (topS 5) 0) xf_Misused xc_Misused xv_Misused xd_Misused
  xB_Misused : Binds K xd_Misused ["self", "why"] []
  xX_Misused : XfC K k_Misused
  xe_Clashing_Clashing : PySem.W.subIn K (.ref k_Clashing) (.ref k_Clashing) = some true
  xe_Clashing_Oversized : PySem.W.subIn K (.ref k_Clashing) (.ref k_Oversized) = some false
  xe_Clashing_Misused : PySem.W.subIn K (.ref k_Clashing) (.ref k_Misused) = some false
  xe_Oversized_Clashing : PySem.W.subIn K (.ref k_Oversized) (.ref k_Clashing) = some false
  xe_Oversized_Oversized : PySem.W.subIn K (.ref k_Oversized) (.ref k_Oversized) = some true
  xe_Oversized_Misused : PySem.W.subIn K (.ref k_Oversized) (.ref k_Misused) = some false
  xe_Misused_Clashing : PySem.W.subIn K (.ref k_Misused) (.ref k_Clashing) = some false
  xe_Misused_Oversized : PySem.W.subIn K (.ref k_Misused) (.ref k_Oversized) = some false
  xe_Misused_Misused : PySem.W.subIn K (.ref k_Misused) (.ref k_Misused) = some true
  xi2_Misused : IsxC K k_Misused
  xk_Misused_Clashing : PySem.W.kitOne K (.ref k_Misused) (.ref k_Clashing) = some false
  n_abs : mg "abs" = none
  n_all : mg "all" = none
  n_bool : mg "bool" = none
  n_int : mg "int" = none
  n_isinstance : mg "isinstance" = none
  n_len : mg "len" = none
  n_list : mg "list" = none
  n_max : mg "max" = none
  n_min : mg "min" = none
  n_range : mg "range" = none
  n_str : mg "str" = none
  n_super : mg "super" = none
  u_MAX_STATES : Value
  c_MAX_STATES : RelV (.int 40) u_MAX_STATES ∧ mg "MAX_STATES" = some u_MAX_STATES
  u_MOST : Value
  c_MOST : RelV (.int 9) u_MOST ∧ mg "MOST" = some u_MOST
section
variable {P : Program} {w : World} {K : PySem.W.Frag} {mg : Str → Option Value} {base : Heap}
def exc_Clashing (Z : Top P K mg) : ExcI P w K mg base "Clashing" Z.k_Clashing "name" where
  f := Z.xf_Clashing
  fd := Z.xd_Clashing
  px := "name"
  T := Z.xT_Clashing
  g := Z.g_Clashing
  iC := Z.xi_Clashing
  tI := Z.xt_Clashing
  F := by
    obtain ⟨oc, od, dV, kV, doc, pm, an, ct, osl, e, lk, hc⟩ := Z.xF_Clashing.ex
    rw [e] at lk ⊢
    exact fn_sup Z.xS_Clashing lk hc rfl rfl rfl Z.n_super Z.n_str rfl rfl rfl rfl rfl rfl (by decide +kernel) (by decide +kernel) (by decide) (by decide) (by decide) (fun _ => rfl) (fun _ => rfl) (fun _ => rfl) rfl rfl
  b := Z.xB_Clashing
  xf := Z.xX_Clashing
  no := Z.xS_Clashing.no
theorem nm_Clashing (Z : Top P K mg) : mg "Clashing" = some (.ref (Z.cls 2)) := by rw [Z.hk_Clashing]; exact Z.g_Clashing
theorem xf_Clashing (Z : Top P K mg) : XfC K (Z.cls 2) := by rw [Z.hk_Clashing]; exact Z.xX_Clashing
theorem no_Clashing (Z : Top P K mg) : PySem.W.findIn K (.ref (Z.cls 2)) "name" = some none := by rw [Z.hk_Clashing]; exact Z.xS_Clashing.no
theorem exf_Clashing (Z : Top P K mg) : ∀ j ∈ ([2, 3, 4] : List Nat), PySem.W.exmOne K (.ref (Z.cls j)) (.ref (Z.cls 2)) = some (decide (j = 2)) := by
  intro j hj
  rw [Z.hk_Clashing]
  rcases (show j = 2 ∨ j = 3 ∨ j = 4 from by simpa using hj) with h | h | h
  · subst h; rw [Z.hk_Clashing]; exact exm_oex Z.xT_Clashing Z.xe_Clashing_Clashing
  · subst h; rw [Z.hk_Oversized]; exact exm_oex Z.xT_Clashing Z.xe_Oversized_Clashing
  · subst h; rw [Z.hk_Misused]; exact exm_oex Z.xT_Clashing Z.xe_Misused_Clashing
def exc_Oversized (Z : Top P K mg) : ExcI P w K mg base "Oversized" Z.k_Oversized "limit" where
  f := Z.xf_Oversized
  fd := Z.xd_Oversized
  px := "limit"
  T := Z.xT_Oversized
  g := Z.g_Oversized
  iC := Z.xi_Oversized
  tI := Z.xt_Oversized
  F := by
    obtain ⟨oc, od, dV, kV, doc, pm, an, ct, osl, e, lk, hc⟩ := Z.xF_Oversized.ex
    rw [e] at lk ⊢
    exact fn_sup Z.xS_Oversized lk hc rfl rfl rfl Z.n_super Z.n_str rfl rfl rfl rfl rfl rfl (by decide +kernel) (by decide +kernel) (by decide) (by decide) (by decide) (fun _ => rfl) (fun _ => rfl) (fun _ => rfl) rfl rfl
  b := Z.xB_Oversized
  xf := Z.xX_Oversized
  no := Z.xS_Oversized.no
theorem nm_Oversized (Z : Top P K mg) : mg "Oversized" = some (.ref (Z.cls 3)) := by rw [Z.hk_Oversized]; exact Z.g_Oversized
theorem xf_Oversized (Z : Top P K mg) : XfC K (Z.cls 3) := by rw [Z.hk_Oversized]; exact Z.xX_Oversized
theorem no_Oversized (Z : Top P K mg) : PySem.W.findIn K (.ref (Z.cls 3)) "limit" = some none := by rw [Z.hk_Oversized]; exact Z.xS_Oversized.no
theorem exf_Oversized (Z : Top P K mg) : ∀ j ∈ ([2, 3, 4] : List Nat), PySem.W.exmOne K (.ref (Z.cls j)) (.ref (Z.cls 3)) = some (decide (j = 3)) := by
  intro j hj
  rw [Z.hk_Oversized]
  rcases (show j = 2 ∨ j = 3 ∨ j = 4 from by simpa using hj) with h | h | h
  · subst h; rw [Z.hk_Clashing]; exact exm_oex Z.xT_Oversized Z.xe_Clashing_Oversized
  · subst h; rw [Z.hk_Oversized]; exact exm_oex Z.xT_Oversized Z.xe_Oversized_Oversized
  · subst h; rw [Z.hk_Misused]; exact exm_oex Z.xT_Oversized Z.xe_Misused_Oversized
def exc_Misused (Z : Top P K mg) : ExcI P w K mg base "Misused" Z.k_Misused "why" where
  f := Z.xf_Misused
  fd := Z.xd_Misused
  px := "why"
  T := Z.xT_Misused
  g := Z.g_Misused
  iC := Z.xi_Misused
  tI := Z.xt_Misused
  F := by
    obtain ⟨oc, od, dV, kV, doc, pm, an, ct, osl, e, lk, hc⟩ := Z.xF_Misused.ex
    rw [e] at lk ⊢
    exact fn_sup Z.xS_Misused lk hc rfl rfl rfl Z.n_super Z.n_str rfl rfl rfl rfl rfl rfl (by decide +kernel) (by decide +kernel) (by decide) (by decide) (by decide) (fun _ => rfl) (fun _ => rfl) (fun _ => rfl) rfl rfl
  b := Z.xB_Misused
  xf := Z.xX_Misused
  no := Z.xS_Misused.no
theorem nm_Misused (Z : Top P K mg) : mg "Misused" = some (.ref (Z.cls 4)) := by rw [Z.hk_Misused]; exact Z.g_Misused
theorem xf_Misused (Z : Top P K mg) : XfC K (Z.cls 4) := by rw [Z.hk_Misused]; exact Z.xX_Misused
theorem no_Misused (Z : Top P K mg) : PySem.W.findIn K (.ref (Z.cls 4)) "why" = some none := by rw [Z.hk_Misused]; exact Z.xS_Misused.no
theorem exf_Misused (Z : Top P K mg) : ∀ j ∈ ([2, 3, 4] : List Nat), PySem.W.exmOne K (.ref (Z.cls j)) (.ref (Z.cls 4)) = some (decide (j = 4)) := by
  intro j hj
  rw [Z.hk_Misused]
  rcases (show j = 2 ∨ j = 3 ∨ j = 4 from by simpa using hj) with h | h | h
  · subst h; rw [Z.hk_Clashing]; exact exm_oex Z.xT_Misused Z.xe_Clashing_Misused
  · subst h; rw [Z.hk_Oversized]; exact exm_oex Z.xT_Misused Z.xe_Oversized_Misused
  · subst h; rw [Z.hk_Misused]; exact exm_oex Z.xT_Misused Z.xe_Misused_Misused
theorem isx_Misused (Z : Top P K mg) : IsxC K (Z.cls 4) := by rw [Z.hk_Misused]; exact Z.xi2_Misused
theorem kit_Misused_Clashing (Z : Top P K mg) : PySem.W.kitOne K (.ref (Z.cls 4)) (.ref (Z.cls 2)) = some false := by rw [Z.hk_Misused, Z.hk_Clashing]; exact Z.xk_Misused_Clashing
theorem sc_is_output : FnScope ["value"] ["value"] (defScope (topS 9)) := ⟨rfl, rfl, rfl, by decide +kernel, rfl, by decide +kernel, by decide +kernel⟩
set_option maxHeartbeats 40000000 in
theorem ok_is_output (Z : Top P K mg) : FnOk P w K mg base (L2.CX P w) 1 Z.d_is_output.a Z.d_is_output.d ["value"] (SpF Z.cls (l1 tInt) tBool m_is_output) :=
  fn_pure (k := 0) (r := 0) Z.d_is_output.F sc_is_output ld_1 rfl fun cdv A outer s H E m a hr =>
    b_ret (x_and (x_callB call_isi (sp_isi kt_int (by decide +kernel)) Z.n_isinstance (by decide +kernel) (a_cons (x_var 0) (a_one (x_ty (n := "int") Z.n_int)))) (x_and (x_not (x_callB call_isi (sp_isi kt_int (by decide +kernel)) Z.n_isinstance (by decide +kernel) (a_cons (x_var 0) (a_one (x_ty (n := "bool") Z.n_bool))))) (x_and1 (x_chain op_le sp_le op_le sp_le x_int (x_var 0) (x_glob (v := .int 9) Z.c_MOST.2 Z.c_MOST.1 (fun _ => rfl))))))
theorem sc_is_row : FnScope ["row", "states", "state"] ["row", "states"] (defScope (topS 10)) := ⟨rfl, rfl, rfl, by decide +kernel, rfl, by decide +kernel, by decide +kernel⟩
set_option maxHeartbeats 40000000 in
theorem ok_is_row (Z : Top P K mg) : FnOk P w K mg base (L2.CX P w) 1 Z.d_is_row.a Z.d_is_row.d ["row", "states"] (SpF Z.cls (lc (tList tInt) (l1 tInt)) tBool m_is_row) :=
  fn_pure (k := 0) (r := 1) Z.d_is_row.F sc_is_row (ld_c ld_1) rfl fun cdv A outer s H E m a hr =>
    b_ifret0 (PW.pt (w_or (t_not (t_val (x_callB call_isi (sp_isi kt_list (by decide +kernel)) Z.n_isinstance (by decide +kernel) (a_cons (x_var 0) (a_one (x_ty (n := "list") Z.n_list)))))) (w_or1 (t_cmp op_ne (sp_ne sc_int) (x_callB call_len' sp_lenL Z.n_len (by decide +kernel) (a_one (x_var 0))) x_int)))) (b_ret x_bool) (
    b_seqR id emb_ret (s_forR (dsL := fun (s1 : Unit) => [.val (tList tInt) a.1, .val tInt a.2, .any]) bPass rfl (i_list (x_var 0)) (pg_name (i := 2) sc_is_row.nd rfl (Or.inl rfl)) (fun _ _ => (tg_name 2)) (.same (.same (.same .nil))) (fun _ _ s1 v_state =>
    b_one (s_if (PW.pt (w_or (t_not (t_val (x_callB call_isi (sp_isi kt_int (by decide +kernel)) Z.n_isinstance (by decide +kernel) (a_cons (x_var 2) (a_one (x_ty (n := "int") Z.n_int)))))) (w_or (t_val (x_callB call_isi (sp_isi kt_int (by decide +kernel)) Z.n_isinstance (by decide +kernel) (a_cons (x_var 2) (a_one (x_ty (n := "bool") Z.n_bool))))) (w_or1 (t_not (t_chain op_le sp_le op_lt sp_lt x_int (x_var 2) (x_var 1))))))) (b_retR x_bool) (b_endR (.same (.same (.any .nil))))))) fun s2 =>
    b_ret x_bool)
theorem sc_TO___init__ : FnScope ["self", "outputs", "table", "output", "row", "state"] ["self", "outputs", "table"] (defScope (inClass (topS 11) 0)) := ⟨rfl, rfl, rfl, by decide +kernel, rfl, by decide +kernel, by decide +kernel⟩
set_option maxHeartbeats 40000000 in
theorem ok_TO___init__ (Z : Top P K mg) : FnOk P w K mg base (L2.CX P w) 3 Z.me_Told___init__.a Z.me_Told___init__.d ["self", "outputs", "table"] (SpIA Z.cls Z.k_Told (lc (tList tInt) (l1 (tList (tList tInt)))) FO_TO m_TO___init__) :=
  fn_initA (n := 2) (k := 2) (r := 3) (fun r => [foo "outputs" (oList tInt) (fun _ => r.1), foo "table" oLL (fun _ => r.2)]) (fun r => (.cons rfl (fun _ _ _ _ _ h => h) (.cons rfl (fun _ _ _ _ _ h => h) .nil))) Z.me_Told___init__.F sc_TO___init__ (ld_c ld_1) rfl rfl (fun x0 r => [.own (oMk x0 Z.k_Told) [foo "outputs" (oList tInt) (fun _ => r.1), foo "table" oLL (fun _ => r.2)], .any, .any, .any, .any, .any]) (fun _ _ => rfl) fun cdv A outer s G E m H x0 a hr =>
    b_ifnv (PW.pt (w_or (t_not (t_tru tru_list (x_var 1))) (w_or1 (t_not (t_val (x_callB (cr_all rfl) sp_all Z.n_all (by decide +kernel) (a_one (x_frz frz_list (x_lc rfl sc_TO___init__.nd (i_list (x_var 1)) (own := [("output", 3)]) (blkOk_by (N := ["self", "outputs", "table", "output", "row", "state"]) (sc := defScope (inClass (topS 11) 0)) (by decide +kernel)) (tg_name 3) (fun _ h => h) (fun _ _ _ _ _ => (pg_name (i := 3) sc_TO___init__.nd rfl (Or.inl rfl))) (fun _ _ _ _ _ v_output => x_call (ok_is_output Z) (hr.mono (by decide)) Z.d_is_output.g Z.d_is_output.F.kp Z.d_is_output.b takesN ErrC.no (a_one (x_var 3)))))))))))) (b_raise 4 (exc_Misused Z) Z.hk_Misused rfl ext_str (hr.mono (by decide)) rfl bTakes uErr x_str) (
    b_ifnv (PW.pt (w_or (t_cmp op_ne (sp_ne sc_int) (x_callB call_len' sp_lenL Z.n_len (by decide +kernel) (a_one (x_var 2))) (x_callB call_len' sp_lenL Z.n_len (by decide +kernel) (a_one (x_var 1)))) (w_or1 (t_not (t_val (x_callB (cr_all rfl) sp_all Z.n_all (by decide +kernel) (a_one (x_frz frz_list (x_lc rfl sc_TO___init__.nd (i_list (x_var 2)) (own := [("row", 4)]) (blkOk_by (N := ["self", "outputs", "table", "output", "row", "state"]) (sc := defScope (inClass (topS 11) 0)) (by decide +kernel)) (tg_name 4) (fun _ h => h) (fun _ _ _ _ _ => (pg_name (i := 4) sc_TO___init__.nd rfl (Or.inl rfl))) (fun _ _ _ _ _ v_row => x_call (ok_is_row Z) (hr.mono (by decide)) Z.d_is_row.g Z.d_is_row.F.kp Z.d_is_row.b takesN ErrC.no (a_cons (x_var 4) (a_one (x_callB call_len' sp_lenL Z.n_len (by decide +kernel) (a_one (x_var 1))))))))))))))) (b_raise 4 (exc_Misused Z) Z.hk_Misused rfl ext_str (hr.mono (by decide)) rfl bTakes uErr x_str) (
    b_ifnv (t_cmp op_gt sp_gt (x_callB call_len' sp_lenL Z.n_len (by decide +kernel) (a_one (x_var 1))) (x_glob (v := .int 40) Z.c_MAX_STATES.2 Z.c_MAX_STATES.1 (fun _ => rfl))) (b_raise 3 (exc_Oversized Z) Z.hk_Oversized rfl ext_str (hr.mono (by decide)) rfl bTakes uErr x_str) (
    b_seq (s_for (dsL := fun (s4 : Unit) => [.own (oMk x0 Z.k_Told) [], .val (tList tInt) a.1, .val (tList (tList tInt)) a.2, .any, .any, .any]) bPass rfl (i_range Z.n_range (a_one (x_callB call_len' sp_lenL Z.n_len (by decide +kernel) (a_one (x_var 1))))) (pg_name (i := 5) sc_TO___init__.nd rfl (Or.inl rfl)) (fun _ _ => (tg_name 5)) (.same (.same (.same (.same (.same (.same .nil)))))) (fun _ _ s4 v_state =>
    b_one (s_if (t_cmp op_ne (sp_ne sc_int) (x_ix ix_list sp_atL (x_var 1) (x_ix ix_list sp_atL (x_ix ix_list sp_atL (x_var 2) (x_var 5)) x_int)) (x_ix ix_list sp_atL (x_var 1) (x_var 5))) (b_raise 4 (exc_Misused Z) Z.hk_Misused rfl ext_str (hr.mono (by decide)) rfl bTakes uErr.pin x_str) (b_end (.same (.same (.same (.same (.same (.any .nil)))))))))) fun s5 =>
    b_mkO (o := (oList tInt)) (x0 := x0) (fds := []) 0 nd_list Z.cl_Told Z.na_Told_outputs (x_callTyO call_list' sp_listL Z.n_list (by decide +kernel) (a_one (x_var 1))) (fun v_outputs =>
    b_mkO (o := oLL) (x0 := x0) (fds := [foo "outputs" (oList tInt) (fun _ => v_outputs)]) 0 nd_LL Z.cl_Told Z.na_Told_table (x_lcLL rfl sc_TO___init__.nd (i_list (x_var 2)) (own := [("row", 4)]) (blkOk_by (N := ["self", "outputs", "table", "output", "row", "state"]) (sc := defScope (inClass (topS 11) 0)) (by decide +kernel)) (tg_name 4) (fun _ h => h) (fun _ _ _ _ _ => (pg_name (i := 4) sc_TO___init__.nd rfl (Or.inl rfl))) (fun _ _ _ _ _ v_row => x_callTyO call_list' sp_listL Z.n_list (by decide +kernel) (a_one (x_var 4)))) (fun v_table =>
    b_end (.same (.any (.any (.same (.same (.same .nil)))))))))))
theorem sc__law_wide : FnScope ["_law_script", "_law_k", "_law_cell", "_law_mixed"] ["_law_script", "_law_k"] (defScope (topS 13)) := ⟨rfl, rfl, rfl, by decide +kernel, rfl, by decide +kernel, by decide +kernel⟩
set_option maxHeartbeats 40000000 in
theorem ok__law_wide (Z : Top P K mg) : FnOk P w K mg base (L2.CX P w) 1 Z.d__law_wide.a Z.d__law_wide.d ["_law_script", "_law_k"] (SpF Z.cls (lc (tList tInt) (l1 tInt)) tInt m__law_wide) :=
  fn_pure (k := 0) (r := 2) Z.d__law_wide.F sc__law_wide (ld_c ld_1) rfl fun cdv A outer s H E m a hr =>
    b_set 2 x_int (fun v_law_cell =>
    b_seq (dsM := fun (s7 : Int) => [.val (tList tInt) a.1, .val tInt a.2, .val tInt s7, .any]) (s_if (t_cmp op_lt sp_lt (x_var 1) (x_callB call_len' sp_lenL Z.n_len (by decide +kernel) (a_one (x_var 0)))) (b_set 2 (x_callB call_abs sp_abs Z.n_abs (by decide +kernel) (a_one (x_ix ix_list sp_atL (x_var 0) (x_var 1)))) (fun v_law_cell =>
    b_end (.same (.same (.same (.same .nil))))) sc__law_wide.nd) (b_end (.same (.same (.same (.same .nil)))))) fun s7 =>
    b_ifret0 (t_cmp op_ge sp_ge (x_var 2) x_int) (b_ret (x_var 2)) (
    b_set 3 (x_bin op_mod sp_mod (x_callTy call_int1 sp_intI Z.n_int (by decide +kernel) (a_one (x_bin op_add sp_add (x_bin op_mul sp_mul (x_bin op_add sp_add (x_var 2) x_int) x_int) (x_bin op_mul sp_mul (x_bin op_add sp_add (x_var 1) x_int) x_int)))) x_int) (fun v_law_mixed =>
    b_ret (x_bin op_mod sp_mod (x_callTy call_int1 sp_intI Z.n_int (by decide +kernel) (a_one (x_bin op_add sp_add (x_bin op_mul sp_mul (x_var 3) x_int) (x_bin op_fdivW sp_div (x_var 3) x_int)))) x_int)) sc__law_wide.nd)) sc__law_wide.nd
theorem sc__law_take : FnScope ["_law_pool_here", "_law_most", "_law_taken"] ["_law_pool_here", "_law_most"] (defScope (topS 14)) := ⟨rfl, rfl, rfl, by decide +kernel, rfl, by decide +kernel, by decide +kernel⟩
set_option maxHeartbeats 40000000 in
theorem ok__law_take (Z : Top P K mg) : FnOk P w K mg base (L2.CX P w) 2 Z.d__law_take.a Z.d__law_take.d ["_law_pool_here", "_law_most"] (SpP Z.cls (lc tInt (lc (tList tInt) (l1 tInt))) (fun p => (lc (tIs p) (l1 tInt))) tInt m__law_take) :=
  fn_pool (k := 1) (r := 1) Z.d__law_take.F sc__law_take (fun p => (ld_c ld_1)) rfl fun cdv A outer s H E m p a hr =>
    b_seq (dsM := fun (s8 : Unit) => [.val (tIs p) (), .val tInt a.2, .any]) (s_if (t_cmp op_lt sp_lt (x_getP 0 0 pPool lp_z) x_int) (b_setP 0 2 pPool (lq_s (lq_s lq_1)) (x_bin op_add sp_add (x_getP 0 2 pPool (lp_s (lp_s lp_1))) x_int) (
    b_setP 0 0 pPool lq_z (x_call (ok__law_wide Z) (hr.mono (by decide)) Z.d__law_wide.g Z.d__law_wide.F.kp Z.d__law_wide.b bTakes pErr (a_cons (x_getP 0 1 pPool (lp_s lp_z)) (a_one (x_getP 0 2 pPool (lp_s (lp_s lp_1)))))) (
    b_end (.same (.same (.same .nil)))))) (b_end (.same (.same (.same .nil))))) fun s8 =>
    b_set 2 (x_bin op_mod sp_mod (x_callTy call_int1 sp_intI Z.n_int (by decide +kernel) (a_one (x_getP 0 0 pPool lp_z))) (x_var 1)) (fun v_law_taken =>
    b_setP 0 0 pPool lq_z (x_bin op_fdivW sp_div (x_getP 0 0 pPool lp_z) (x_var 1)) (
    b_ret (x_var 2))) sc__law_take.nd
theorem sc__law_pool : FnScope ["_law_script"] ["_law_script"] (defScope (topS 15)) := ⟨rfl, rfl, rfl, by decide +kernel, rfl, by decide +kernel, by decide +kernel⟩
set_option maxHeartbeats 40000000 in
theorem ok__law_pool (Z : Top P K mg) : FnOk P w K mg base (L2.CX P w) 1 Z.d__law_pool.a Z.d__law_pool.d ["_law_script"] (SpFO Z.cls (l1 (tSeq K tInt)) (oRec (lc tInt (lc (tList tInt) (l1 tInt)))) m__law_pool) :=
  fn_new (k := 0) (r := 0) Z.d__law_pool.F sc__law_pool ld_1 rfl fun cdv A outer s H E m a hr =>
    b_retO (x_lstR (a_cons x_int (a_cons (x_frz frz_list (x_callTyO call_list' sp_listS Z.n_list (by decide +kernel) (a_one (x_var 0)))) (a_one (x_un un_neg sp_neg x_int)))) (ldLen (ld_c (ld_c ld_1))))
theorem sc__law_told_states : FnScope ["_law_pool_here", "_law_size", "_law_table", "_law_k", "_law_outputs", "_law_state", "_law_seen", "_law_ring"] ["_law_pool_here"] (defScope (topS 16)) := ⟨rfl, rfl, rfl, by decide +kernel, rfl, by decide +kernel, by decide +kernel⟩
set_option maxHeartbeats 40000000 in
theorem ok__law_told_states (Z : Top P K mg) : FnOk P w K mg base (L2.CX P w) 3 Z.d__law_told_states.a Z.d__law_told_states.d ["_law_pool_here"] (SpPO Z.cls (lc tInt (lc (tList tInt) (l1 tInt))) (fun p => (l1 (tIs p))) (oPair (oList tInt) (oList (tList tInt))) m__law_told_states) :=
  fn_poolO (k := 2) (r := 7) Z.d__law_told_states.F sc__law_told_states (fun p => ld_1) rfl fun cdv A outer s H E m p a hr =>
    b_set 1 (x_bin op_add sp_add x_int (x_callP (la := fun p => (lc (tIs p) (l1 tInt))) pPool (ok__law_take Z) (hr.mono (by decide)) Z.d__law_take.g Z.d__law_take.F.kp Z.d__law_take.b bTakes pErr (a_cons (x_var 0) (a_one x_int)))) (fun v_law_size =>
    b_setLc 2 rfl sc__law_told_states.nd (i_range Z.n_range (a_one (x_var 1))) (own := [("_law_k", 3)]) (blkOk_by (N := ["_law_pool_here", "_law_size", "_law_table", "_law_k", "_law_outputs", "_law_state", "_law_seen", "_law_ring"]) (sc := defScope (topS 16)) (by decide +kernel)) (tg_name 3) (fun _ h => h) (fun _ _ _ _ _ => (pg_name (i := 3) sc__law_told_states.nd rfl (Or.inl rfl))) (fun _ _ _ _ _ v_law_k => x_frz frz_list (x_lst (a_cons (x_callP (la := fun p => (lc (tIs p) (l1 tInt))) pPool.nox (ok__law_take Z) (hr.mono (by decide)) Z.d__law_take.g Z.d__law_take.F.kp Z.d__law_take.b takesN ErrC.no (a_cons (x_var 0) (a_one (x_var 1)))) (a_one (x_callP (la := fun p => (lc (tIs p) (l1 tInt))) pPool.nox (ok__law_take Z) (hr.mono (by decide)) Z.d__law_take.g Z.d__law_take.F.kp Z.d__law_take.b takesN ErrC.no (a_cons (x_var 0) (a_one (x_var 1)))))) (lr_cons lr_one))) fun v_law_table =>
    b_setO 4 (x_lst a_nil lr_nil) (fun v_law_outputs =>
    b_seq (s_for (dsL := fun (s12 : (List Int)) => [.val (tIs p) (), .val tInt v_law_size, .own (oList (tList tInt)) v_law_table, .any, .own (oList tInt) s12, .any, .any, .any]) bPass rfl (i_range Z.n_range (a_one (x_var 1))) (pg_name (i := 5) sc__law_told_states.nd rfl (Or.inl rfl)) (fun _ _ => (tg_name 5)) (.same (.same (.same (.same (.same (.same (.same (.same .nil)))))))) (fun _ _ s12 v_law_state =>
    b_set 6 (x_var 5) (fun v_law_seen =>
    b_seq (s_for (dsL := fun (s14 : Int) => [.val (tIs p) (), .val tInt v_law_size, .own (oList (tList tInt)) v_law_table, .any, .own (oList tInt) s12, .val tInt v_law_state, .val tInt s14, .any]) bPass rfl (i_range Z.n_range (a_one (x_var 1))) (pg_name (i := 3) sc__law_told_states.nd rfl (Or.inl rfl)) (fun _ _ => (tg_name 3)) (.same (.same (.same (.same (.same (.same (.same (.same .nil)))))))) (fun _ _ s14 v_law_k =>
    b_set 6 (x_ix ix_list sp_atL (x_atO 2 (x_var 6)) x_int) (fun v_law_seen =>
    b_end (.same (.same (.same (.any (.same (.same (.same (.same .nil))))))))) sc__law_told_states.nd)) fun s15 =>
    b_setO 7 (x_lst (a_one (x_var 6)) lr_one) (fun v_law_ring =>
    b_seq (s_for (dsL := fun (s17 : (Int × (List Int))) => [.val (tIs p) (), .val tInt v_law_size, .own (oList (tList tInt)) v_law_table, .any, .own (oList tInt) s12, .val tInt v_law_state, .val tInt s17.1, .own (oList tInt) s17.2]) bPass rfl (i_range Z.n_range (a_one (x_var 1))) (pg_name (i := 3) sc__law_told_states.nd rfl (Or.inl rfl)) (fun _ _ => (tg_name 3)) (.same (.same (.same (.same (.same (.same (.same (.same .nil)))))))) (fun _ _ s17 v_law_k =>
    b_set 6 (x_ix ix_list sp_atL (x_atO 2 (x_var 6)) x_int) (fun v_law_seen =>
    b_app 7 (pe_bm PySem.F.plainAttrs_list PySem.F.slot_list_append PySem.F.type_list_append mt_append (pv 7) (pa_cons (x_var 6) pa_nil)) (fun v_law_ring =>
    b_end (.same (.same (.same (.any (.same (.same (.same (.same .nil)))))))))) sc__law_told_states.nd)) fun s18 =>
    b_frz 7 frz_list rfl (b_app 4 (pe_bm PySem.F.plainAttrs_list PySem.F.slot_list_append PySem.F.type_list_append mt_append (pv 4) (pa_cons (x_bin op_mod sp_mod (x_bin op_mul sp_mul (x_callB (cr_min rfl) sp_minL Z.n_min (by decide +kernel) (a_one (x_var 7))) x_int) x_int) pa_nil)) (fun v_law_outputs =>
    b_end (.same (.same (.same (.same (.same (.any (.any (.any .nil))))))))))) sc__law_told_states.nd) sc__law_told_states.nd)) fun s13 =>
    b_retL2 4 2 (by decide) nd_list nd_list) sc__law_told_states.nd) sc__law_told_states.nd
theorem sc__law_whole : FnScope ["_law_value", "_law_least", "_law_most"] ["_law_value", "_law_least", "_law_most"] (defScope (topS 17)) := ⟨rfl, rfl, rfl, by decide +kernel, rfl, by decide +kernel, by decide +kernel⟩
set_option maxHeartbeats 40000000 in
theorem ok__law_whole (Z : Top P K mg) : FnOk P w K mg base (L2.CX P w) 1 Z.d__law_whole.a Z.d__law_whole.d ["_law_value", "_law_least", "_law_most"] (SpF Z.cls (lc tInt (lc tInt (l1 tInt))) tBool m__law_whole) :=
  fn_pure (k := 0) (r := 0) Z.d__law_whole.F sc__law_whole (ld_c (ld_c ld_1)) rfl fun cdv A outer s H E m a hr =>
    b_ret (x_and (x_callB call_isi (sp_isi kt_int (by decide +kernel)) Z.n_isinstance (by decide +kernel) (a_cons (x_var 0) (a_one (x_ty (n := "int") Z.n_int)))) (x_and (x_not (x_callB call_isi (sp_isi kt_int (by decide +kernel)) Z.n_isinstance (by decide +kernel) (a_cons (x_var 0) (a_one (x_ty (n := "bool") Z.n_bool))))) (x_and1 (x_chain op_le sp_le op_le sp_le (x_var 1) (x_var 0) (x_var 2)))))
theorem sc__law_row : FnScope ["_law_row_here", "_law_size"] ["_law_row_here", "_law_size"] (defScope (topS 18)) := ⟨rfl, rfl, rfl, by decide +kernel, rfl, by decide +kernel, by decide +kernel⟩
set_option maxHeartbeats 40000000 in
theorem ok__law_row (Z : Top P K mg) : FnOk P w K mg base (L2.CX P w) 2 Z.d__law_row.a Z.d__law_row.d ["_law_row_here", "_law_size"] (SpF Z.cls (lc (tList tInt) (l1 tInt)) tBool m__law_row) :=
  fn_pure (k := 1) (r := 0) Z.d__law_row.F sc__law_row (ld_c ld_1) rfl fun cdv A outer s H E m a hr =>
    b_ifret0 (PW.pt (w_or (t_not (t_val (x_callB call_isi (sp_isi kt_list (by decide +kernel)) Z.n_isinstance (by decide +kernel) (a_cons (x_var 0) (a_one (x_ty (n := "list") Z.n_list)))))) (w_or1 (t_cmp op_ne (sp_ne sc_int) (x_callB call_len' sp_lenL Z.n_len (by decide +kernel) (a_one (x_var 0))) x_int)))) (b_ret x_bool) (
    b_ret (x_and (x_call (ok__law_whole Z) (hr.mono (by decide)) Z.d__law_whole.g Z.d__law_whole.F.kp Z.d__law_whole.b bTakes uErr (a_cons (x_ix ix_list sp_atL (x_var 0) x_int) (a_cons x_int (a_one (x_bin op_sub sp_sub (x_var 1) x_int))))) (x_and1 (x_call (ok__law_whole Z) (hr.mono (by decide)) Z.d__law_whole.g Z.d__law_whole.F.kp Z.d__law_whole.b bTakes uErr (a_cons (x_ix ix_list sp_atL (x_var 0) x_int) (a_cons x_int (a_one (x_bin op_sub sp_sub (x_var 1) x_int))))))))
theorem sc__law_due : FnScope ["_law_outputs", "_law_table", "_law_good", "_law_output", "_law_rows", "_law_row_here", "_law_state"] ["_law_outputs", "_law_table"] (defScope (topS 19)) := ⟨rfl, rfl, rfl, by decide +kernel, rfl, by decide +kernel, by decide +kernel⟩
set_option maxHeartbeats 40000000 in
theorem ok__law_due (Z : Top P K mg) : FnOk P w K mg base (L2.CX P w) 3 Z.d__law_due.a Z.d__law_due.d ["_law_outputs", "_law_table"] (SpF Z.cls (lc (tList tInt) (l1 (tList (tList tInt)))) (tOpt (tTup K (lc tStr (l1 tStr)))) m__law_due) :=
  fn_pure (k := 2) (r := 5) Z.d__law_due.F sc__law_due (ld_c ld_1) rfl fun cdv A outer s H E m a hr =>
    b_setLcI 2 rfl sc__law_due.nd (i_list (x_var 0)) (own := [("_law_output", 3)]) (blkOk_by (N := ["_law_outputs", "_law_table", "_law_good", "_law_output", "_law_rows", "_law_row_here", "_law_state"]) (sc := defScope (topS 19)) (by decide +kernel)) (tg_name 3) (fun _ h => h) (fun _ _ _ _ _ => (pg_name (i := 3) sc__law_due.nd rfl (Or.inl rfl))) (fun _ _ _ _ _ v_law_output => t_val (x_call (ok__law_whole Z) (hr.mono (by decide)) Z.d__law_whole.g Z.d__law_whole.F.kp Z.d__law_whole.b takesN ErrC.no (a_cons (x_var 3) (a_cons x_int (a_one x_int))))) (fun _ _ _ _ _ v_law_output => x_var 3) fun v_law_good =>
    b_frz 2 frz_list rfl (b_ifret0 (PW.pt (w_or (t_not (t_tru tru_list (x_var 0))) (w_or1 (t_cmp op_lt sp_lt (x_callB call_len' sp_lenL Z.n_len (by decide +kernel) (a_one (x_var 2))) (x_callB call_len' sp_lenL Z.n_len (by decide +kernel) (a_one (x_var 0))))))) (b_ret (x_some (x_tup (a_cons x_str (a_one x_str)) (ldLen (ld_c ld_1))))) (
    b_setLcI 4 rfl sc__law_due.nd (i_list (x_var 1)) (own := [("_law_row_here", 5)]) (blkOk_by (N := ["_law_outputs", "_law_table", "_law_good", "_law_output", "_law_rows", "_law_row_here", "_law_state"]) (sc := defScope (topS 19)) (by decide +kernel)) (tg_name 5) (fun _ h => h) (fun _ _ _ _ _ => (pg_name (i := 5) sc__law_due.nd rfl (Or.inl rfl))) (fun _ _ _ _ _ v_law_row_here => t_val (x_call (ok__law_row Z) (hr.mono (by decide)) Z.d__law_row.g Z.d__law_row.F.kp Z.d__law_row.b takesN ErrC.no (a_cons (x_var 5) (a_one (x_callB call_len' sp_lenL Z.n_len (by decide +kernel) (a_one (x_var 0))))))) (fun _ _ _ _ _ v_law_row_here => x_var 5) fun v_law_rows =>
    b_frz 4 frz_list rfl (b_ifret0 (PW.pt (w_or (t_cmp op_ne (sp_ne sc_int) (x_callB call_len' sp_lenL Z.n_len (by decide +kernel) (a_one (x_var 1))) (x_callB call_len' sp_lenL Z.n_len (by decide +kernel) (a_one (x_var 0)))) (w_or1 (t_cmp op_lt sp_lt (x_callB call_len' sp_lenL Z.n_len (by decide +kernel) (a_one (x_var 4))) (x_callB call_len' sp_lenL Z.n_len (by decide +kernel) (a_one (x_var 1))))))) (b_ret (x_some (x_tup (a_cons x_str (a_one x_str)) (ldLen (ld_c ld_1))))) (
    b_ifret0 (t_cmp op_gt sp_gt (x_callB call_len' sp_lenL Z.n_len (by decide +kernel) (a_one (x_var 0))) x_int) (b_ret (x_some (x_tup (a_cons x_str (a_one x_str)) (ldLen (ld_c ld_1))))) (
    b_seqR id emb_ret (s_forR (dsL := fun (s25 : Unit) => [.val (tList tInt) a.1, .val (tList (tList tInt)) a.2, .val (tList tInt) v_law_good, .any, .val (tList (tList tInt)) v_law_rows, .any, .any]) bPass rfl (i_range Z.n_range (a_one (x_callB call_len' sp_lenL Z.n_len (by decide +kernel) (a_one (x_var 0))))) (pg_name (i := 6) sc__law_due.nd rfl (Or.inl rfl)) (fun _ _ => (tg_name 6)) (.same (.same (.same (.same (.same (.same (.same .nil))))))) (fun _ _ s25 v_law_state =>
    b_one (s_if (t_cmp op_ne (sp_ne sc_int) (x_ix ix_list sp_atL (x_var 0) (x_ix ix_list sp_atL (x_ix ix_list sp_atL (x_var 1) (x_var 6)) x_int)) (x_ix ix_list sp_atL (x_var 0) (x_var 6))) (b_retR (x_some (x_tup (a_cons x_str (a_one x_str)) (ldLen (ld_c ld_1))))) (b_endR (.same (.same (.same (.same (.same (.same (.any .nil))))))))))) fun s26 =>
    b_ret x_nonO)))))
theorem sc__law_told : FnScope ["_law_outputs", "_law_table", "e"] ["_law_outputs", "_law_table"] (defScope (topS 20)) := ⟨rfl, rfl, rfl, by decide +kernel, rfl, by decide +kernel, by decide +kernel⟩
set_option maxHeartbeats 40000000 in
theorem ok__law_told (Z : Top P K mg) : FnOk P w K mg base (L2.CX P w) 5 Z.d__law_told.a Z.d__law_told.d ["_law_outputs", "_law_table"] (SpF Z.cls (lc (tList tInt) (l1 (tList (tList tInt)))) (tOpt (tTup K (lc tStr (l1 tStr)))) m__law_told) :=
  fn_pure (k := 4) (r := 1) Z.d__law_told.F sc__law_told (ld_c ld_1) rfl fun cdv A outer s H E m a hr =>
    b_seqR (dsM := fun (s28 : Unit) => [.val (tList tInt) a.1, .val (tList (tList tInt)) a.2, .any]) id emb_ret (s_try (kn := [2, 3, 4]) rfl rfl sc__law_told.nd bTakes uErr (fun W pn xe E_ tkT poT heT =>
    b_expr (x_frz (frz_TO (K := K)) (x_makeA (ok_TO___init__ Z) Z.mk_Told (hr.mono (by decide)) Z.g_Told Z.me_Told___init__.b tkT heT (a_cons (x_var 0) (a_one (x_var 1))))) (b_retR x_nonO)) (.as (f := fun (va : L2.V) => eIf (ret false)
  (bnd (stk) fun r => ret (Sum.inl r))
  (bnd (e1 (fun a => some (some a)) (eArg (ret ("misused" : Str)) (lft (decStr va)))) fun a => ret (Sum.inl a))) 2 4 ⟨rfl, by decide, .inl (nm_Misused Z)⟩ (exf_Misused Z) rfl rfl (fun _ => rfl) (fun xa oe pn va dd hz hfo => b_ifret Sum.inl emb_inl (t_val (x_isX 2 (isx_Misused Z) hz hfo (kit_Misused_Clashing Z) Z.n_isinstance (nm_Clashing Z))) (b_stk) (
    b_retR (x_some (x_tup (a_cons x_str (a_one (x_xf 2 dec_str (xf_Misused Z) (no_Misused Z) rfl hz hfo))) (ldLen (ld_c ld_1)))))) (.as (f := fun (va : L2.V) => bnd (e1 (fun a => some (some a)) (eArg (ret ("oversized" : Str)) (lft (decStr va)))) fun a => ret (Sum.inl a)) 2 3 ⟨rfl, by decide, .inl (nm_Oversized Z)⟩ (exf_Oversized Z) rfl rfl (fun _ => rfl) (fun xa oe pn va dd hz hfo => b_retR (x_some (x_tup (a_cons x_str (a_one (x_xf 2 dec_str (xf_Oversized Z) (no_Oversized Z) rfl hz hfo))) (ldLen (ld_c ld_1))))) .nil))) fun s28 =>
    b_stk0
theorem sc__law_spoil : FnScope ["_law_pool_here", "_law_outputs", "_law_table", "_law_choice", "_law_at"] ["_law_pool_here", "_law_outputs", "_law_table"] (defScope (topS 21)) := ⟨rfl, rfl, rfl, by decide +kernel, rfl, by decide +kernel, by decide +kernel⟩
set_option maxHeartbeats 40000000 in
theorem ok__law_spoil (Z : Top P K mg) : FnOk P w K mg base (L2.CX P w) 3 Z.d__law_spoil.a Z.d__law_spoil.d ["_law_pool_here", "_law_outputs", "_law_table"] (SpG Z.cls (fun j : Addr × Addr × Addr => (Amb.pool (lc tInt (lc (tList tInt) (l1 tInt))) j.1).both ((own1 (oList tInt) (j.2.1)).both (own1 (oList (tList tInt)) (j.2.2)))) (fun j : Addr × Addr × Addr => (lc (tIs j.1) (lc (tIs (j.2.1)) (l1 (tIs (j.2.2)))))) tNon m__law_spoil) :=
  fn_GR (k := 2) (r := 2) (dsN := fun _ _ => [.any, .any, .any, .any, .any]) Z.d__law_spoil.F sc__law_spoil (fun j => (ld_c (ld_c ld_1))) rfl fun cdv A outer s H E m j a hr =>
    b_set 3 (x_callPZ (la := fun p => (lc (tIs p) (l1 tInt))) gSub.fst.pool (ok__law_take Z) (hr.mono (by decide)) Z.d__law_take.g Z.d__law_take.F.kp Z.d__law_take.b bTakes gErr (a_cons (x_var 0) (a_one x_int))) (fun v_law_choice =>
    b_set 4 (x_callPZ (la := fun p => (lc (tIs p) (l1 tInt))) gSub.fst.pool (ok__law_take Z) (hr.mono (by decide)) Z.d__law_take.g Z.d__law_take.F.kp Z.d__law_take.b bTakes gErr (a_cons (x_var 0) (a_one (x_callB (call_max2 rfl) sp_max2 Z.n_max (by decide +kernel) (a_cons x_int (a_one (p_len (SubC.part (gSub.snd).fst) (pl_var 1) Z.n_len))))))) (fun v_law_at =>
    b_ifretN (PW.pt (w_or (t_not (t_ptru (SubC.part (gSub.snd).fst) (pl_var 1))) (w_or (t_not (t_ptru (SubC.part (gSub.snd).snd) (pl_var 2))) (w_or1 (t_cmp op_ge sp_ge (x_var 4) (p_len (SubC.part (gSub.snd).snd) (pl_var 2) Z.n_len)))))) (
    b_seq (dsM := fun (s29 : Unit) => [.val (tIs j.1) (), .val (tIs j.2.1) (), .val (tIs j.2.2) (), .val tInt v_law_choice, .val tInt v_law_at]) (s_if (t_cmp op_eq (sp_eq sc_int) (x_var 3) x_int) (b_pset (SubC.part (gSub.snd).fst) (pl_var 1) (x_ix ix_list sp_atL (x_frz frz_list (x_lst (a_cons x_int (a_cons (x_un un_neg sp_neg x_int) (a_cons x_int (a_one x_int)))) (lr_cons (lr_cons (lr_cons lr_one))))) (x_callPZ (la := fun p => (lc (tIs p) (l1 tInt))) gSub.fst.pool (ok__law_take Z) (hr.mono (by decide)) Z.d__law_take.g Z.d__law_take.F.kp Z.d__law_take.b bTakes gErr (a_cons (x_var 0) (a_one x_int)))) (x_var 4) (
    b_end (.same (.same (.same (.same (.same .nil))))))) (b_end (.same (.same (.same (.same (.same .nil))))))) fun s29 =>
    b_seq (dsM := fun (s30 : Unit) => [.val (tIs j.1) (), .val (tIs j.2.1) (), .val (tIs j.2.2) (), .val tInt v_law_choice, .val tInt v_law_at]) (s_if (t_cmp op_eq (sp_eq sc_int) (x_var 3) x_int) (b_pset (SubC.part (gSub.snd).fst) (pl_var 1) (x_callTy call_int1 sp_intB Z.n_int (by decide +kernel) (a_one (x_cmp op_eq (sp_eq sc_int) (p_at (SubC.part (gSub.snd).fst) (pl_var 1) (x_var 4)) x_int))) (x_var 4) (
    b_end (.same (.same (.same (.same (.same .nil))))))) (b_end (.same (.same (.same (.same (.same .nil))))))) fun s30 =>
    b_seq (dsM := fun (s32 : Unit) => [.val (tIs j.1) (), .val (tIs j.2.1) (), .val (tIs j.2.2) (), .val tInt v_law_choice, .val tInt v_law_at]) (s_if (t_cmp op_eq (sp_eq sc_int) (x_var 3) x_int) (b_pset (SubC.part (gSub.snd).snd) (pl_var 2) (x_ix ix_list sp_atL (x_frz frz_list (x_lst (a_cons (x_frz frz_list (x_lst (a_one x_int) lr_one)) (a_cons (x_frz frz_list (x_lst (a_cons x_int (a_cons x_int (a_one x_int))) (lr_cons (lr_cons lr_one)))) (a_cons (x_frz frz_list (x_lst a_nil lr_nil)) (a_cons (x_frz frz_list (x_lst (a_cons x_int (a_one (x_un un_neg sp_neg x_int))) (lr_cons lr_one))) (a_cons (x_frz frz_list (x_lst (a_cons x_int (a_one (p_len (SubC.part (gSub.snd).fst) (pl_var 1) Z.n_len))) (lr_cons lr_one))) (a_one (x_frz frz_list (x_lst (a_cons (x_un un_neg sp_neg x_int) (a_one x_int)) (lr_cons lr_one))))))))) (lr_cons (lr_cons (lr_cons (lr_cons (lr_cons lr_one))))))) (x_callPZ (la := fun p => (lc (tIs p) (l1 tInt))) gSub.fst.pool (ok__law_take Z) (hr.mono (by decide)) Z.d__law_take.g Z.d__law_take.F.kp Z.d__law_take.b bTakes gErr (a_cons (x_var 0) (a_one x_int)))) (x_var 4) (
    b_end (.same (.same (.same (.same (.same .nil))))))) (b_end (.same (.same (.same (.same (.same .nil))))))) fun s32 =>
    b_seq (dsM := fun (s33 : Unit) => [.val (tIs j.1) (), .val (tIs j.2.1) (), .val (tIs j.2.2) (), .val tInt v_law_choice, .val tInt v_law_at]) (s_if (t_cmp op_eq (sp_eq sc_int) (x_var 3) x_int) (b_papp (SubC.part (gSub.snd).snd) (pe_bm PySem.F.plainAttrs_list PySem.F.slot_list_append PySem.F.type_list_append mt_append (pl_var 2) (pa_cons (x_frz frz_list (x_lst (a_cons x_int (a_one x_int)) (lr_cons lr_one))) pa_nil)) (
    b_end (.same (.same (.same (.same (.same .nil))))))) (b_end (.same (.same (.same (.same (.same .nil))))))) fun s33 =>
    b_seq (dsM := fun (s34 : Unit) => [.val (tIs j.1) (), .val (tIs j.2.1) (), .val (tIs j.2.2) (), .val tInt v_law_choice, .val tInt v_law_at]) (s_if (t_cmp op_eq (sp_eq sc_int) (x_var 3) x_int) (b_ppop (SubC.part (gSub.snd).snd) (pe_bm0 PySem.F.plainAttrs_list PySem.F.slot_list_pop PySem.F.type_list_pop mt_pop (pl_var 2)) (
    b_end (.same (.same (.same (.same (.same .nil))))))) (b_end (.same (.same (.same (.same (.same .nil))))))) fun s34 =>
    b_seq (dsM := fun (s35 : Unit) => [.val (tIs j.1) (), .val (tIs j.2.1) (), .val (tIs j.2.2) (), .val tInt v_law_choice, .val tInt v_law_at]) (s_if (t_cmp op_eq (sp_eq sc_int) (x_var 3) x_int) (b_ppop (SubC.part (gSub.snd).fst) (pe_bm0 PySem.F.plainAttrs_list PySem.F.slot_list_pop PySem.F.type_list_pop mt_pop (pl_var 1)) (
    b_end (.same (.same (.same (.same (.same .nil))))))) (b_end (.same (.same (.same (.same (.same .nil))))))) fun s35 =>
    b_one (s_if (t_cmp op_eq (sp_eq sc_int) (x_var 3) x_int) (b_pclear (SubC.part (gSub.snd).fst) (pe_bm0 PySem.F.plainAttrs_list PySem.F.slot_list_clear PySem.F.type_list_clear mt_clear (pl_var 1)) (
    b_endRN (.any (.any (.any (.any (.any .nil))))))) (b_endRN (.any (.any (.any (.any (.any .nil))))))))) sc__law_spoil.nd) sc__law_spoil.nd
theorem sc_law : FnScope ["_law_script", "_law_pool_here", "_law_told_here", "_law_size", "_law_k", "_law_numbers", "_law_output", "_law_rows", "_law_row_here", "_law_given"] ["_law_script"] (defScope (topS 22)) := ⟨rfl, rfl, rfl, by decide +kernel, rfl, by decide +kernel, by decide +kernel⟩
set_option maxHeartbeats 40000000 in
theorem ok_law (Z : Top P K mg) : FnOk P w K mg base (L2.CX P w) 6 Z.d_law.a Z.d_law.d ["_law_script"] (SpF Z.cls (l1 (tSeq K tInt)) tBool m_law) :=
  fn_pure (k := 5) (r := 9) Z.d_law.F sc_law ld_1 rfl fun cdv A outer s H E m a hr =>
    b_pool 1 (x_callO (ok__law_pool Z) (hr.mono (by decide)) Z.d__law_pool.g Z.d__law_pool.F.kp Z.d__law_pool.b bTakes uErr (a_one (x_var 0))) (fun p =>
    b_setO 2 (x_callPO (la := fun p => (l1 (tIs p))) pPool (ok__law_told_states Z) (hr.mono (by decide)) Z.d__law_told_states.g Z.d__law_told_states.F.kp Z.d__law_told_states.b bTakes pErr (a_one (x_var 1))) (fun v_law_told_here =>
    b_seq (dsM := fun (s36 : ((List Int) × (List (List Int)))) => [.val (tSeq K tInt) a, .val (tIs p) (), .own (oPair (oList tInt) (oList (tList tInt))) s36, .any, .any, .any, .any, .any, .any, .any]) (s_if (t_cmp op_eq (sp_eq sc_int) (x_callP (la := fun p => (lc (tIs p) (l1 tInt))) pPool (ok__law_take Z) (hr.mono (by decide)) Z.d__law_take.g Z.d__law_take.F.kp Z.d__law_take.b bTakes pErr (a_cons (x_var 1) (a_one x_int))) x_int) (b_set 3 (x_bin op_add sp_add x_int (x_callP (la := fun p => (lc (tIs p) (l1 tInt))) pPool (ok__law_take Z) (hr.mono (by decide)) Z.d__law_take.g Z.d__law_take.F.kp Z.d__law_take.b bTakes pErr (a_cons (x_var 1) (a_one x_int)))) (fun v_law_size =>
    b_setO 2 (x_lst2O nd_list nd_list (x_binO op_rep sp_rep (x_frz frz_list (x_lst (a_one x_int) lr_one)) (x_var 3)) (x_lc rfl sc_law.nd (i_range Z.n_range (a_one (x_var 3))) (own := [("_law_k", 4)]) (blkOk_by (N := ["_law_script", "_law_pool_here", "_law_told_here", "_law_size", "_law_k", "_law_numbers", "_law_output", "_law_rows", "_law_row_here", "_law_given"]) (sc := defScope (topS 22)) (by decide +kernel)) (tg_name 4) (fun _ h => h) (fun _ _ _ _ _ => (pg_name (i := 4) sc_law.nd rfl (Or.inl rfl))) (fun _ _ _ _ _ v_law_k => x_frz frz_list (x_lst (a_cons (x_var 4) (a_one (x_bin op_sub sp_sub (x_bin op_sub sp_sub (x_var 3) x_int) (x_var 4)))) (lr_cons lr_one))))) (fun v_law_told_here =>
    b_end (.same (.same (.same (.any (.same (.same (.same (.same (.same (.same .nil))))))))))) sc_law.nd) sc_law.nd) (b_end (.same (.same (.same (.same (.same (.same (.same (.same (.same (.same .nil)))))))))))) fun s36 =>
    b_toAmb 2 (fun q37 => [.val (tSeq K tInt) a, .val (tIs p) (), .val (tRec (lc (tIs q37.1) (l1 (tIs q37.2)))) ((), ()), .any, .any, .any, .any, .any, .any, .any]) (opens_pair one_list one_list) rfl (fun q37 hq37 =>
    b_seq (s_forB (dsL := fun (s38 : Unit) => [.val (tSeq K tInt) a, .val (tIs p) (), .val (tRec (lc (tIs q37.1) (l1 (tIs q37.2)))) ((), ()), .any, .any, .any, .any, .any, .any, .any]) bPass rfl (i_range Z.n_range (a_one (x_callPZ (la := fun p => (lc (tIs p) (l1 tInt))) (((SubC.of_pool (PoolZ.of pPool)).andG).pool) (ok__law_take Z) (hr.mono (by decide)) Z.d__law_take.g Z.d__law_take.F.kp Z.d__law_take.b bTakes (pErr).andG (a_cons (x_var 1) (a_one x_int))))) (pg_name (i := 4) sc_law.nd rfl (Or.inl rfl)) (fun _ _ => (tg_name 4)) (.same (.same (.same (.same (.same (.same (.same (.same (.same (.same .nil)))))))))) (fun _ _ s38 v_law_k =>
    b_expr (x_callG (B := (fun j : Addr × Addr × Addr => (Amb.pool (lc tInt (lc (tList tInt) (l1 tInt))) j.1).both ((own1 (oList tInt) (j.2.1)).both (own1 (oList (tList tInt)) (j.2.2))))) (la := (fun j : Addr × Addr × Addr => (lc (tIs j.1) (lc (tIs (j.2.1)) (l1 (tIs (j.2.2))))))) (p, q37.1, q37.2) (((SubC.of_pool (PoolZ.of pPool)).pairL).pin) (ok__law_spoil Z) (hr.mono (by decide)) Z.d__law_spoil.g Z.d__law_spoil.F.kp Z.d__law_spoil.b bTakes (pErr).andG.pin (a_cons (x_var 1) (a_cons (x_pl (pl_pair0 2)) (a_one (x_pl (pl_pair1 2)))))) (b_setLcIG 2 5 ((SubC.last).pin) hq37 mf_int lends_pair rfl sc_law.nd (fun g40 => i_list (x_projR 0 lp_z (x_var 2))) (own := [("_law_output", 6)]) (blkOk_by (N := ["_law_script", "_law_pool_here", "_law_told_here", "_law_size", "_law_k", "_law_numbers", "_law_output", "_law_rows", "_law_row_here", "_law_given"]) (sc := defScope (topS 22)) (by decide +kernel)) (tg_name 6) (fun _ h => h) (fun _ _ _ _ _ => (pg_name (i := 6) sc_law.nd rfl (Or.inl rfl))) (fun g40 _ _ _ _ _ v_law_output => t_not (t_val (x_call (ok__law_whole Z) (hr.mono (by decide)) Z.d__law_whole.g Z.d__law_whole.F.kp Z.d__law_whole.b takesN ErrC.no (a_cons (x_var 6) (a_cons x_int (a_one x_int)))))) (fun g40 _ _ _ _ _ v_law_output => x_var 6) fun v_law_numbers =>
    b_frz 5 frz_list rfl (b_setLcIG 2 7 ((SubC.last).pin) hq37 mf_any lends_pair rfl sc_law.nd (fun g41 => i_list (x_projR 1 (lp_s lp_1) (x_var 2))) (own := [("_law_row_here", 8)]) (blkOk_by (N := ["_law_script", "_law_pool_here", "_law_told_here", "_law_size", "_law_k", "_law_numbers", "_law_output", "_law_rows", "_law_row_here", "_law_given"]) (sc := defScope (topS 22)) (by decide +kernel)) (tg_name 8) (fun _ h => h) (fun _ _ _ _ _ => (pg_name (i := 8) sc_law.nd rfl (Or.inl rfl))) (fun g41 _ _ _ _ _ v_law_row_here => t_not (t_val (x_call (ok__law_row Z) (hr.mono (by decide)) Z.d__law_row.g Z.d__law_row.F.kp Z.d__law_row.b takesN ErrC.no (a_cons (x_var 8) (a_one (x_callB call_len' sp_lenL Z.n_len (by decide +kernel) (a_one (x_projR 0 lp_z (x_var 2))))))))) (fun g41 _ _ _ _ _ v_law_row_here => x_any (x_var 8)) fun v_law_rows =>
    b_frz 7 frz_list rfl (b_one (s_if (PW.pt (w_or (t_tru tru_list (x_var 5)) (w_or1 (t_tru tru_list (x_var 7))))) (b_brk (.same (.same (.same (.same (.any (.any (.same (.any (.same (.same .nil))))))))))) (b_endB (.same (.same (.same (.same (.any (.any (.same (.any (.same (.same .nil))))))))))))))))) fun s39 =>
    b_set 9 (x_frz frz_rec (x_lstR (a_cons (x_frz frz_list (x_lendGO 2 SubC.last hq37 (mfo_list mf_int) lends_pair (fun g42 => x_callTyO call_list' sp_listL Z.n_list (by decide +kernel) (a_one (x_projR 0 lp_z (x_var 2)))))) (a_one (x_frz frz_list (p_listL (SubC.part (SubC.last).snd) (pl_pair1 2) Z.n_list (by decide +kernel))))) (ldLen (ld_c ld_1)))) (fun v_law_given =>
    b_ret (x_lendG 2 SubC.last hq37 mf_bool lends_pair (fun g43 => x_and (x_cmp (op_eqD hr.units) (sp_deqS (eqs_opt (eqs_tup (els_c eqs_str (els_1 eqs_str))) (fun _ => ⟨rfl, rfl⟩))) (x_call (ok__law_told Z) (hr.mono (by decide)) Z.d__law_told.g Z.d__law_told.F.kp Z.d__law_told.b takesN ErrC.pureN (a_cons (x_projR 0 lp_z (x_var 9)) (a_one (x_projR 1 (lp_s lp_1) (x_var 9))))) (x_call (ok__law_due Z) (hr.mono (by decide)) Z.d__law_due.g Z.d__law_due.F.kp Z.d__law_due.b takesN ErrC.pureN (a_cons (x_projR 0 lp_z (x_var 2)) (a_one (x_projR 1 (lp_s lp_1) (x_var 2)))))) (x_and1 (x_cmp (op_eqD hr.units) (sp_deq (eq_rec (el_c (eq_list eq_int) (el_1 (eq_list (eq_list eq_int)))))) (x_var 9) (x_var 2)))))) sc_law.nd)) sc_law.nd) sc_law.nd
end
def spLaw (cls : Nat → Addr) (K : PySem.W.Frag) : Sp := SpF cls (l1 (tSeq K tInt)) tBool m_law
def spLawE (K : PySem.W.Frag) : Sp := fun vs H Q E => ∀ cls : Nat → Addr, spLaw cls K vs H Q E
theorem spLaw_any {K : PySem.W.Frag} (cls : Nat → Addr) (vs : List V) (H : Hp) (Q : VK) (E : XK) (h : spLawE K vs H Q E) : spLaw cls K vs H Q E := h cls
theorem all_mk {l : PySem.W.OpenLaw} {w : World} {K : PySem.W.Frag} {h : Heap} {mg : Str → Option Value} {fa : Addr} (X : K.In h) (G : h.Ns mainGlobals mg) (hfa : mg "law" = some (.ref fa))
    {CTold : Addr} (aCTold : PySem.W.nsIn K mainGlobals "Told" = some (some (.ref CTold))) (pgTold : PySem.W.plainGet K CTold Str.empty = true) (hdTold : PySem.W.hasDictIn K CTold = true) (poTold : PySem.W.plainOver K CTold = true) (saTold : PySem.W.findIn K (.ref CTold) "__setattr__" = some (some (.builtin "object.__setattr__"))) (mkTold : PySem.W.makesIn K CTold = true) (kcTold : PySem.W.keepIn K (.ref CTold) = true)
    (na_Told_outputs : PySem.W.findIn K (.ref CTold) "outputs" = some none)
    (na_Told_table : PySem.W.findIn K (.ref CTold) "table" = some none)
    {f0 : Addr} {od0 an0 : Option Addr} {sl0 : Array (Option Value)} {oc0 kV0 dc0 pm0 cd0 ct0 : Value}
    (a0 : PySem.W.nsIn K mainGlobals "is_output" = some (some (.ref f0))) (l0 : K.lookup f0 = some ⟨oc0, od0, .func (PySem.W.fnOf "is_output" "is_output" (defArgs (topS 9)) (defBody (topS 9)) (defScope (topS 9)) .none kV0 dc0 pm0 an0 cd0 ct0), sl0⟩) (c0 : PySem.W.codeIn K cd0 "is_output" = true) (k0 : PySem.W.keepIn K (.ref f0) = true)
    {f1 : Addr} {od1 an1 : Option Addr} {sl1 : Array (Option Value)} {oc1 kV1 dc1 pm1 cd1 ct1 : Value}
    (a1 : PySem.W.nsIn K mainGlobals "is_row" = some (some (.ref f1))) (l1 : K.lookup f1 = some ⟨oc1, od1, .func (PySem.W.fnOf "is_row" "is_row" (defArgs (topS 10)) (defBody (topS 10)) (defScope (topS 10)) .none kV1 dc1 pm1 an1 cd1 ct1), sl1⟩) (c1 : PySem.W.codeIn K cd1 "is_row" = true) (k1 : PySem.W.keepIn K (.ref f1) = true)
    {f2 : Addr} {od2 an2 : Option Addr} {sl2 : Array (Option Value)} {oc2 kV2 dc2 pm2 cd2 ct2 : Value}
    (a2 : PySem.W.findIn K (.ref CTold) "__init__" = some (some (.ref f2))) (i2 : PySem.W.isFn K (.ref f2) = true) (l2 : K.lookup f2 = some ⟨oc2, od2, .func (PySem.W.fnOf "__init__" "Told.__init__" (defArgs (inClass (topS 11) 0)) (defBody (inClass (topS 11) 0)) (defScope (inClass (topS 11) 0)) .none kV2 dc2 pm2 an2 cd2 ct2), sl2⟩) (c2 : PySem.W.codeIn K cd2 "Told.__init__" = true) (k2 : PySem.W.keepIn K (.ref f2) = true)
    {f3 : Addr} {od3 an3 : Option Addr} {sl3 : Array (Option Value)} {oc3 kV3 dc3 pm3 cd3 ct3 : Value}
    (a3 : PySem.W.nsIn K mainGlobals "_law_wide" = some (some (.ref f3))) (l3 : K.lookup f3 = some ⟨oc3, od3, .func (PySem.W.fnOf "_law_wide" "_law_wide" (defArgs (topS 13)) (defBody (topS 13)) (defScope (topS 13)) .none kV3 dc3 pm3 an3 cd3 ct3), sl3⟩) (c3 : PySem.W.codeIn K cd3 "_law_wide" = true) (k3 : PySem.W.keepIn K (.ref f3) = true)
    {f4 : Addr} {od4 an4 : Option Addr} {sl4 : Array (Option Value)} {oc4 kV4 dc4 pm4 cd4 ct4 : Value}
    (a4 : PySem.W.nsIn K mainGlobals "_law_take" = some (some (.ref f4))) (l4 : K.lookup f4 = some ⟨oc4, od4, .func (PySem.W.fnOf "_law_take" "_law_take" (defArgs (topS 14)) (defBody (topS 14)) (defScope (topS 14)) .none kV4 dc4 pm4 an4 cd4 ct4), sl4⟩) (c4 : PySem.W.codeIn K cd4 "_law_take" = true) (k4 : PySem.W.keepIn K (.ref f4) = true)
    {f5 : Addr} {od5 an5 : Option Addr} {sl5 : Array (Option Value)} {oc5 kV5 dc5 pm5 cd5 ct5 : Value}
    (a5 : PySem.W.nsIn K mainGlobals "_law_pool" = some (some (.ref f5))) (l5 : K.lookup f5 = some ⟨oc5, od5, .func (PySem.W.fnOf "_law_pool" "_law_pool" (defArgs (topS 15)) (defBody (topS 15)) (defScope (topS 15)) .none kV5 dc5 pm5 an5 cd5 ct5), sl5⟩) (c5 : PySem.W.codeIn K cd5 "_law_pool" = true) (k5 : PySem.W.keepIn K (.ref f5) = true)
    {f6 : Addr} {od6 an6 : Option Addr} {sl6 : Array (Option Value)} {oc6 kV6 dc6 pm6 cd6 ct6 : Value}
    (a6 : PySem.W.nsIn K mainGlobals "_law_told_states" = some (some (.ref f6))) (l6 : K.lookup f6 = some ⟨oc6, od6, .func (PySem.W.fnOf "_law_told_states" "_law_told_states" (defArgs (topS 16)) (defBody (topS 16)) (defScope (topS 16)) .none kV6 dc6 pm6 an6 cd6 ct6), sl6⟩) (c6 : PySem.W.codeIn K cd6 "_law_told_states" = true) (k6 : PySem.W.keepIn K (.ref f6) = true)
    {f7 : Addr} {od7 an7 : Option Addr} {sl7 : Array (Option Value)} {oc7 kV7 dc7 pm7 cd7 ct7 : Value}
    (a7 : PySem.W.nsIn K mainGlobals "_law_whole" = some (some (.ref f7))) (l7 : K.lookup f7 = some ⟨oc7, od7, .func (PySem.W.fnOf "_law_whole" "_law_whole" (defArgs (topS 17)) (defBody (topS 17)) (defScope (topS 17)) .none kV7 dc7 pm7 an7 cd7 ct7), sl7⟩) (c7 : PySem.W.codeIn K cd7 "_law_whole" = true) (k7 : PySem.W.keepIn K (.ref f7) = true)
    {f8 : Addr} {od8 an8 : Option Addr} {sl8 : Array (Option Value)} {oc8 kV8 dc8 pm8 cd8 ct8 : Value}
    (a8 : PySem.W.nsIn K mainGlobals "_law_row" = some (some (.ref f8))) (l8 : K.lookup f8 = some ⟨oc8, od8, .func (PySem.W.fnOf "_law_row" "_law_row" (defArgs (topS 18)) (defBody (topS 18)) (defScope (topS 18)) .none kV8 dc8 pm8 an8 cd8 ct8), sl8⟩) (c8 : PySem.W.codeIn K cd8 "_law_row" = true) (k8 : PySem.W.keepIn K (.ref f8) = true)
    {f9 : Addr} {od9 an9 : Option Addr} {sl9 : Array (Option Value)} {oc9 kV9 dc9 pm9 cd9 ct9 : Value}
    (a9 : PySem.W.nsIn K mainGlobals "_law_due" = some (some (.ref f9))) (l9 : K.lookup f9 = some ⟨oc9, od9, .func (PySem.W.fnOf "_law_due" "_law_due" (defArgs (topS 19)) (defBody (topS 19)) (defScope (topS 19)) .none kV9 dc9 pm9 an9 cd9 ct9), sl9⟩) (c9 : PySem.W.codeIn K cd9 "_law_due" = true) (k9 : PySem.W.keepIn K (.ref f9) = true)
    {f10 : Addr} {od10 an10 : Option Addr} {sl10 : Array (Option Value)} {oc10 kV10 dc10 pm10 cd10 ct10 : Value}
    (a10 : PySem.W.nsIn K mainGlobals "_law_told" = some (some (.ref f10))) (l10 : K.lookup f10 = some ⟨oc10, od10, .func (PySem.W.fnOf "_law_told" "_law_told" (defArgs (topS 20)) (defBody (topS 20)) (defScope (topS 20)) .none kV10 dc10 pm10 an10 cd10 ct10), sl10⟩) (c10 : PySem.W.codeIn K cd10 "_law_told" = true) (k10 : PySem.W.keepIn K (.ref f10) = true)
    {f11 : Addr} {od11 an11 : Option Addr} {sl11 : Array (Option Value)} {oc11 kV11 dc11 pm11 cd11 ct11 : Value}
    (a11 : PySem.W.nsIn K mainGlobals "_law_spoil" = some (some (.ref f11))) (l11 : K.lookup f11 = some ⟨oc11, od11, .func (PySem.W.fnOf "_law_spoil" "_law_spoil" (defArgs (topS 21)) (defBody (topS 21)) (defScope (topS 21)) .none kV11 dc11 pm11 an11 cd11 ct11), sl11⟩) (c11 : PySem.W.codeIn K cd11 "_law_spoil" = true) (k11 : PySem.W.keepIn K (.ref f11) = true)
    {f12 : Addr} {od12 an12 : Option Addr} {sl12 : Array (Option Value)} {oc12 kV12 dc12 pm12 cd12 ct12 : Value}
    (a12 : PySem.W.nsIn K mainGlobals "law" = some (some (.ref f12))) (l12 : K.lookup f12 = some ⟨oc12, od12, .func (PySem.W.fnOf "law" "law" (defArgs (topS 22)) (defBody (topS 22)) (defScope (topS 22)) .none kV12 dc12 pm12 an12 cd12 ct12), sl12⟩) (c12 : PySem.W.codeIn K cd12 "law" = true) (k12 : PySem.W.keepIn K (.ref f12) = true)
    {CClashing fClashing eClashing NClashing cClashing : Addr} {nmClashing qClashing : Str} {bsClashing bmClashing sbClashing : List Value} {snClashing : List Str} {abClashing : Bool} {coClashing : Option Bool} {ddClashing : Option Addr} {k0Clashing k1Clashing k2Clashing k3Clashing k5Clashing : Option Value} {odClashing anClashing eoClashing co2Clashing : Option Addr} {slClashing esClashing csClashing : Array (Option Value)} {ocClashing kVClashing dcClashing pmClashing ctClashing ecClashing ccClashing : Value} {vsClashing : Array Value} {fiClashing : Str} {tfClashing : Tok} (gClashing : PySem.W.nsIn K mainGlobals "Clashing" = some (some (.ref CClashing))) (lClashing : K.lookup CClashing = some (excClassObj nmClashing qClashing CClashing NClashing bsClashing bmClashing true snClashing sbClashing abClashing coClashing ddClashing k0Clashing k1Clashing k2Clashing k3Clashing k5Clashing "ValueError.__new__")) (bClashing : PySem.HandSPX.refsVE bmClashing = true) (saClashing : PySem.W.findIn K (.ref CClashing) "__setattr__" = some (some (.builtin "object.__setattr__"))) (exClashing : PySem.W.subIn K (.ref CClashing) (.type "BaseException") = some true) (tyClashing : PySem.W.typeIn K (.ref CClashing) = some (.type "type")) (kcClashing : PySem.W.keepIn K (.ref CClashing) = true) (noClashing : PySem.W.findIn K (.ref CClashing) "name" = some none) (vaClashing : PySem.W.subIn K (.ref CClashing) (.type "ValueError") = some true) (an2Clashing : PySem.W.nsIn K cStatics "thirdparty.any" = some none) (iClashing : PySem.W.findIn K (.ref CClashing) "__init__" = some (some (.ref fClashing))) (tClashing : PySem.W.typeIn K (.ref fClashing) = some (.type "function")) (lfClashing : K.lookup fClashing = some ⟨ocClashing, odClashing, .func (PySem.W.ksFn "__init__" "Clashing.__init__" (defArgs (inClass (topS 3) 0)) (defBody (inClass (topS 3) 0)) (defScope (inClass (topS 3) 0)) .none kVClashing dcClashing pmClashing anClashing (.ref cClashing) ctClashing eClashing), slClashing⟩) (cfClashing : PySem.W.codeIn K (.ref cClashing) "Clashing.__init__" = true) (leClashing : K.lookup eClashing = some ⟨ecClashing, eoClashing, .cell (some (.ref CClashing)), esClashing⟩) (lcClashing : K.lookup cClashing = some ⟨ccClashing, co2Clashing, .fields vsClashing, csClashing⟩) (fvClashing : vsClashing[2]? = some (.str fiClashing tfClashing)) (mfClashing : (l.prog.main.file == fiClashing) = true) (tsClashing : (l.prog.main.scope.names.lookup ("super" : Str)).isSome = false) (siClashing : PySem.W.ks_superIn K CClashing CClashing "__init__" = some (some (.builtin "ValueError.__init__"))) (gaClashing : PySem.W.findIn K (.ref CClashing) "__getattribute__" = some (some (.builtin "BaseException.__getattribute__"))) (ggClashing : PySem.W.findIn K (.ref CClashing) "__getattr__" = some none) (hdClashing : PySem.W.hasDictIn K CClashing = true)
    {COversized fOversized eOversized NOversized cOversized : Addr} {nmOversized qOversized : Str} {bsOversized bmOversized sbOversized : List Value} {snOversized : List Str} {abOversized : Bool} {coOversized : Option Bool} {ddOversized : Option Addr} {k0Oversized k1Oversized k2Oversized k3Oversized k5Oversized : Option Value} {odOversized anOversized eoOversized co2Oversized : Option Addr} {slOversized esOversized csOversized : Array (Option Value)} {ocOversized kVOversized dcOversized pmOversized ctOversized ecOversized ccOversized : Value} {vsOversized : Array Value} {fiOversized : Str} {tfOversized : Tok} (gOversized : PySem.W.nsIn K mainGlobals "Oversized" = some (some (.ref COversized))) (lOversized : K.lookup COversized = some (excClassObj nmOversized qOversized COversized NOversized bsOversized bmOversized true snOversized sbOversized abOversized coOversized ddOversized k0Oversized k1Oversized k2Oversized k3Oversized k5Oversized "ValueError.__new__")) (bOversized : PySem.HandSPX.refsVE bmOversized = true) (saOversized : PySem.W.findIn K (.ref COversized) "__setattr__" = some (some (.builtin "object.__setattr__"))) (exOversized : PySem.W.subIn K (.ref COversized) (.type "BaseException") = some true) (tyOversized : PySem.W.typeIn K (.ref COversized) = some (.type "type")) (kcOversized : PySem.W.keepIn K (.ref COversized) = true) (noOversized : PySem.W.findIn K (.ref COversized) "limit" = some none) (vaOversized : PySem.W.subIn K (.ref COversized) (.type "ValueError") = some true) (an2Oversized : PySem.W.nsIn K cStatics "thirdparty.any" = some none) (iOversized : PySem.W.findIn K (.ref COversized) "__init__" = some (some (.ref fOversized))) (tOversized : PySem.W.typeIn K (.ref fOversized) = some (.type "function")) (lfOversized : K.lookup fOversized = some ⟨ocOversized, odOversized, .func (PySem.W.ksFn "__init__" "Oversized.__init__" (defArgs (inClass (topS 4) 0)) (defBody (inClass (topS 4) 0)) (defScope (inClass (topS 4) 0)) .none kVOversized dcOversized pmOversized anOversized (.ref cOversized) ctOversized eOversized), slOversized⟩) (cfOversized : PySem.W.codeIn K (.ref cOversized) "Oversized.__init__" = true) (leOversized : K.lookup eOversized = some ⟨ecOversized, eoOversized, .cell (some (.ref COversized)), esOversized⟩) (lcOversized : K.lookup cOversized = some ⟨ccOversized, co2Oversized, .fields vsOversized, csOversized⟩) (fvOversized : vsOversized[2]? = some (.str fiOversized tfOversized)) (mfOversized : (l.prog.main.file == fiOversized) = true) (tsOversized : (l.prog.main.scope.names.lookup ("super" : Str)).isSome = false) (siOversized : PySem.W.ks_superIn K COversized COversized "__init__" = some (some (.builtin "ValueError.__init__"))) (gaOversized : PySem.W.findIn K (.ref COversized) "__getattribute__" = some (some (.builtin "BaseException.__getattribute__"))) (ggOversized : PySem.W.findIn K (.ref COversized) "__getattr__" = some none) (hdOversized : PySem.W.hasDictIn K COversized = true)
    {CMisused fMisused eMisused NMisused cMisused : Addr} {nmMisused qMisused : Str} {bsMisused bmMisused sbMisused : List Value} {snMisused : List Str} {abMisused : Bool} {coMisused : Option Bool} {ddMisused : Option Addr} {k0Misused k1Misused k2Misused k3Misused k5Misused : Option Value} {odMisused anMisused eoMisused co2Misused : Option Addr} {slMisused esMisused csMisused : Array (Option Value)} {ocMisused kVMisused dcMisused pmMisused ctMisused ecMisused ccMisused : Value} {vsMisused : Array Value} {fiMisused : Str} {tfMisused : Tok} (gMisused : PySem.W.nsIn K mainGlobals "Misused" = some (some (.ref CMisused))) (lMisused : K.lookup CMisused = some (excClassObj nmMisused qMisused CMisused NMisused bsMisused bmMisused true snMisused sbMisused abMisused coMisused ddMisused k0Misused k1Misused k2Misused k3Misused k5Misused "ValueError.__new__")) (bMisused : PySem.HandSPX.refsVE bmMisused = true) (saMisused : PySem.W.findIn K (.ref CMisused) "__setattr__" = some (some (.builtin "object.__setattr__"))) (exMisused : PySem.W.subIn K (.ref CMisused) (.type "BaseException") = some true) (tyMisused : PySem.W.typeIn K (.ref CMisused) = some (.type "type")) (kcMisused : PySem.W.keepIn K (.ref CMisused) = true) (noMisused : PySem.W.findIn K (.ref CMisused) "why" = some none) (vaMisused : PySem.W.subIn K (.ref CMisused) (.type "ValueError") = some true) (an2Misused : PySem.W.nsIn K cStatics "thirdparty.any" = some none) (iMisused : PySem.W.findIn K (.ref CMisused) "__init__" = some (some (.ref fMisused))) (tMisused : PySem.W.typeIn K (.ref fMisused) = some (.type "function")) (lfMisused : K.lookup fMisused = some ⟨ocMisused, odMisused, .func (PySem.W.ksFn "__init__" "Misused.__init__" (defArgs (inClass (topS 5) 0)) (defBody (inClass (topS 5) 0)) (defScope (inClass (topS 5) 0)) .none kVMisused dcMisused pmMisused anMisused (.ref cMisused) ctMisused eMisused), slMisused⟩) (cfMisused : PySem.W.codeIn K (.ref cMisused) "Misused.__init__" = true) (leMisused : K.lookup eMisused = some ⟨ecMisused, eoMisused, .cell (some (.ref CMisused)), esMisused⟩) (lcMisused : K.lookup cMisused = some ⟨ccMisused, co2Misused, .fields vsMisused, csMisused⟩) (fvMisused : vsMisused[2]? = some (.str fiMisused tfMisused)) (mfMisused : (l.prog.main.file == fiMisused) = true) (tsMisused : (l.prog.main.scope.names.lookup ("super" : Str)).isSome = false) (siMisused : PySem.W.ks_superIn K CMisused CMisused "__init__" = some (some (.builtin "ValueError.__init__"))) (gaMisused : PySem.W.findIn K (.ref CMisused) "__getattribute__" = some (some (.builtin "BaseException.__getattribute__"))) (ggMisused : PySem.W.findIn K (.ref CMisused) "__getattr__" = some none) (hdMisused : PySem.W.hasDictIn K CMisused = true)
    (xe_Clashing_Clashing : PySem.W.subIn K (.ref CClashing) (.ref CClashing) = some true)
    (xe_Clashing_Oversized : PySem.W.subIn K (.ref CClashing) (.ref COversized) = some false)
    (xe_Clashing_Misused : PySem.W.subIn K (.ref CClashing) (.ref CMisused) = some false)
    (xe_Oversized_Clashing : PySem.W.subIn K (.ref COversized) (.ref CClashing) = some false)
    (xe_Oversized_Oversized : PySem.W.subIn K (.ref COversized) (.ref COversized) = some true)
    (xe_Oversized_Misused : PySem.W.subIn K (.ref COversized) (.ref CMisused) = some false)
    (xe_Misused_Clashing : PySem.W.subIn K (.ref CMisused) (.ref CClashing) = some false)
    (xe_Misused_Oversized : PySem.W.subIn K (.ref CMisused) (.ref COversized) = some false)
    (xe_Misused_Misused : PySem.W.subIn K (.ref CMisused) (.ref CMisused) = some true)
    (fcMisused : PySem.W.findIn K (.ref CMisused) "__class__" = some (some (.builtin "object.__class__"))) (mrMisused : PySem.W.mroIn K CMisused (.type "object") = some true)
    (sg_ : PySem.W.specialIn K (.builtin "object.__class__") "__get__" = some (some (.builtin "getset_descriptor.__get__"))) (tg_ : PySem.W.takesIn K (.builtin "object.__class__") = some true)
    (kt_Misused_Clashing : PySem.W.kitOne K (.ref CMisused) (.ref CClashing) = some false)
    (z_abs : PySem.W.nsIn K mainGlobals "abs" = some none)
    (z_all : PySem.W.nsIn K mainGlobals "all" = some none)
    (z_bool : PySem.W.nsIn K mainGlobals "bool" = some none)
    (z_int : PySem.W.nsIn K mainGlobals "int" = some none)
    (z_isinstance : PySem.W.nsIn K mainGlobals "isinstance" = some none)
    (z_len : PySem.W.nsIn K mainGlobals "len" = some none)
    (z_list : PySem.W.nsIn K mainGlobals "list" = some none)
    (z_max : PySem.W.nsIn K mainGlobals "max" = some none)
    (z_min : PySem.W.nsIn K mainGlobals "min" = some none)
    (z_range : PySem.W.nsIn K mainGlobals "range" = some none)
    (z_str : PySem.W.nsIn K mainGlobals "str" = some none)
    (z_super : PySem.W.nsIn K mainGlobals "super" = some none)
    {t_MAX_STATES : Tok} (g_MAX_STATES : PySem.W.nsIn K mainGlobals "MAX_STATES" = some (some (.int 40 t_MAX_STATES)))
    {t_MOST : Tok} (g_MOST : PySem.W.nsIn K mainGlobals "MOST" = some (some (.int 9 t_MOST))) :
    ∃ fd : FuncData, (∀ (s : Shared) (v : Value), BindsTo s fd ⟨[v], []⟩ [("_law_script", v)]) ∧ ∀ base : Heap, K.In base → base.Ns mainGlobals mg → FnOk l.prog w K mg base (L2.CX l.prog w) 6 fa fd ["_law_script"] (spLawE K) := by
  have e : fa = f12 := by
    have z := hfa.symm.trans (PySem.W.mg_of X G a12)
    cases z
    rfl
  rw [e]
  let Z : Top l.prog K mg := {
    cls := fun n => if n = 2 then CClashing else if n = 3 then COversized else if n = 4 then CMisused else 0
    k_Told := CTold, g_Told := PySem.W.mg_of X G aCTold, cl_Told := ⟨pgTold, hdTold, poTold, saTold⟩
    na_Told_outputs := na_Told_outputs
    na_Told_table := na_Told_table
    d_is_output := ⟨f0, _, fun_mk (st := topS 9) l0 c0 k0, PySem.W.mg_of X G a0, (fun_mk (st := topS 9) l0 c0 k0).binds (ps := ["value"]) fun _ _ _ _ _ _ us hl => match us, hl with | [_], _ => rfl⟩
    d_is_row := ⟨f1, _, fun_mk (st := topS 10) l1 c1 k1, PySem.W.mg_of X G a1, (fun_mk (st := topS 10) l1 c1 k1).binds (ps := ["row", "states"]) fun _ _ _ _ _ _ us hl => match us, hl with | [_, _], _ => rfl⟩
    me_Told___init__ := ⟨f2, _, fun_mk (st := inClass (topS 11) 0) l2 c2 k2, ⟨a2, i2, k2⟩, (fun_mk (st := inClass (topS 11) 0) l2 c2 k2).binds (ps := ["self", "outputs", "table"]) fun _ _ _ _ _ _ us hl => match us, hl with | [_, _, _], _ => rfl⟩
    mk_Told := ⟨mkTold, a2, i2, kcTold⟩
    d__law_wide := ⟨f3, _, fun_mk (st := topS 13) l3 c3 k3, PySem.W.mg_of X G a3, (fun_mk (st := topS 13) l3 c3 k3).binds (ps := ["_law_script", "_law_k"]) fun _ _ _ _ _ _ us hl => match us, hl with | [_, _], _ => rfl⟩
    d__law_take := ⟨f4, _, fun_mk (st := topS 14) l4 c4 k4, PySem.W.mg_of X G a4, (fun_mk (st := topS 14) l4 c4 k4).binds (ps := ["_law_pool_here", "_law_most"]) fun _ _ _ _ _ _ us hl => match us, hl with | [_, _], _ => rfl⟩
    d__law_pool := ⟨f5, _, fun_mk (st := topS 15) l5 c5 k5, PySem.W.mg_of X G a5, (fun_mk (st := topS 15) l5 c5 k5).binds (ps := ["_law_script"]) fun _ _ _ _ _ _ us hl => match us, hl with | [_], _ => rfl⟩
    d__law_told_states := ⟨f6, _, fun_mk (st := topS 16) l6 c6 k6, PySem.W.mg_of X G a6, (fun_mk (st := topS 16) l6 c6 k6).binds (ps := ["_law_pool_here"]) fun _ _ _ _ _ _ us hl => match us, hl with | [_], _ => rfl⟩
    d__law_whole := ⟨f7, _, fun_mk (st := topS 17) l7 c7 k7, PySem.W.mg_of X G a7, (fun_mk (st := topS 17) l7 c7 k7).binds (ps := ["_law_value", "_law_least", "_law_most"]) fun _ _ _ _ _ _ us hl => match us, hl with | [_, _, _], _ => rfl⟩
    d__law_row := ⟨f8, _, fun_mk (st := topS 18) l8 c8 k8, PySem.W.mg_of X G a8, (fun_mk (st := topS 18) l8 c8 k8).binds (ps := ["_law_row_here", "_law_size"]) fun _ _ _ _ _ _ us hl => match us, hl with | [_, _], _ => rfl⟩
    d__law_due := ⟨f9, _, fun_mk (st := topS 19) l9 c9 k9, PySem.W.mg_of X G a9, (fun_mk (st := topS 19) l9 c9 k9).binds (ps := ["_law_outputs", "_law_table"]) fun _ _ _ _ _ _ us hl => match us, hl with | [_, _], _ => rfl⟩
    d__law_told := ⟨f10, _, fun_mk (st := topS 20) l10 c10 k10, PySem.W.mg_of X G a10, (fun_mk (st := topS 20) l10 c10 k10).binds (ps := ["_law_outputs", "_law_table"]) fun _ _ _ _ _ _ us hl => match us, hl with | [_, _], _ => rfl⟩
    d__law_spoil := ⟨f11, _, fun_mk (st := topS 21) l11 c11 k11, PySem.W.mg_of X G a11, (fun_mk (st := topS 21) l11 c11 k11).binds (ps := ["_law_pool_here", "_law_outputs", "_law_table"]) fun _ _ _ _ _ _ us hl => match us, hl with | [_, _, _], _ => rfl⟩
    d_law := ⟨f12, _, fun_mk (st := topS 22) l12 c12 k12, PySem.W.mg_of X G a12, (fun_mk (st := topS 22) l12 c12 k12).binds (ps := ["_law_script"]) fun _ _ _ _ _ _ us hl => match us, hl with | [_], _ => rfl⟩
    k_Clashing := CClashing, hk_Clashing := rfl, g_Clashing := PySem.W.mg_of X G gClashing, xf_Clashing := fClashing, xc_Clashing := eClashing, xv_Clashing := .ref cClashing, xd_Clashing := _, xT_Clashing := ⟨⟨_, _, _, _, _, _, _, _, _, _, _, _, _, _, _, lClashing, bClashing⟩, saClashing, exClashing, tyClashing, kcClashing⟩
    xi_Clashing := iClashing, xt_Clashing := tClashing, xS_Clashing := ⟨⟨⟨_, _, _, _, _, _, _, _, _, _, _, _, _, _, _, lClashing, bClashing⟩, saClashing, exClashing, tyClashing, kcClashing⟩, noClashing, siClashing, vaClashing, xe_Clashing_Clashing, an2Clashing, ⟨_, leClashing, rfl⟩, ⟨_, _, _, _, _, rfl, lcClashing, rfl, fvClashing, mfClashing⟩, tsClashing⟩
    xF_Clashing := ⟨_, _, _, _, _, _, _, _, _, rfl, lfClashing, cfClashing⟩, xB_Clashing := .all fun us hl => match us, hl with | [_, _], _ => rfl, xX_Clashing := ⟨gaClashing, ggClashing, exClashing, hdClashing⟩
    k_Oversized := COversized, hk_Oversized := rfl, g_Oversized := PySem.W.mg_of X G gOversized, xf_Oversized := fOversized, xc_Oversized := eOversized, xv_Oversized := .ref cOversized, xd_Oversized := _, xT_Oversized := ⟨⟨_, _, _, _, _, _, _, _, _, _, _, _, _, _, _, lOversized, bOversized⟩, saOversized, exOversized, tyOversized, kcOversized⟩
    xi_Oversized := iOversized, xt_Oversized := tOversized, xS_Oversized := ⟨⟨⟨_, _, _, _, _, _, _, _, _, _, _, _, _, _, _, lOversized, bOversized⟩, saOversized, exOversized, tyOversized, kcOversized⟩, noOversized, siOversized, vaOversized, xe_Oversized_Oversized, an2Oversized, ⟨_, leOversized, rfl⟩, ⟨_, _, _, _, _, rfl, lcOversized, rfl, fvOversized, mfOversized⟩, tsOversized⟩
    xF_Oversized := ⟨_, _, _, _, _, _, _, _, _, rfl, lfOversized, cfOversized⟩, xB_Oversized := .all fun us hl => match us, hl with | [_, _], _ => rfl, xX_Oversized := ⟨gaOversized, ggOversized, exOversized, hdOversized⟩
    k_Misused := CMisused, hk_Misused := rfl, g_Misused := PySem.W.mg_of X G gMisused, xf_Misused := fMisused, xc_Misused := eMisused, xv_Misused := .ref cMisused, xd_Misused := _, xT_Misused := ⟨⟨_, _, _, _, _, _, _, _, _, _, _, _, _, _, _, lMisused, bMisused⟩, saMisused, exMisused, tyMisused, kcMisused⟩
    xi_Misused := iMisused, xt_Misused := tMisused, xS_Misused := ⟨⟨⟨_, _, _, _, _, _, _, _, _, _, _, _, _, _, _, lMisused, bMisused⟩, saMisused, exMisused, tyMisused, kcMisused⟩, noMisused, siMisused, vaMisused, xe_Misused_Misused, an2Misused, ⟨_, leMisused, rfl⟩, ⟨_, _, _, _, _, rfl, lcMisused, rfl, fvMisused, mfMisused⟩, tsMisused⟩
    xF_Misused := ⟨_, _, _, _, _, _, _, _, _, rfl, lfMisused, cfMisused⟩, xB_Misused := .all fun us hl => match us, hl with | [_, _], _ => rfl, xX_Misused := ⟨gaMisused, ggMisused, exMisused, hdMisused⟩
    xe_Clashing_Clashing := xe_Clashing_Clashing
    xe_Clashing_Oversized := xe_Clashing_Oversized
    xe_Clashing_Misused := xe_Clashing_Misused
    xe_Oversized_Clashing := xe_Oversized_Clashing
    xe_Oversized_Oversized := xe_Oversized_Oversized
    xe_Oversized_Misused := xe_Oversized_Misused
    xe_Misused_Clashing := xe_Misused_Clashing
    xe_Misused_Oversized := xe_Misused_Oversized
    xe_Misused_Misused := xe_Misused_Misused
    xi2_Misused := ⟨cls_of lMisused, gaMisused, ggMisused, exMisused, fcMisused, sg_, tg_, mrMisused⟩
    xk_Misused_Clashing := kt_Misused_Clashing
    n_abs := PySem.W.mg_none_of X G z_abs
    n_all := PySem.W.mg_none_of X G z_all
    n_bool := PySem.W.mg_none_of X G z_bool
    n_int := PySem.W.mg_none_of X G z_int
    n_isinstance := PySem.W.mg_none_of X G z_isinstance
    n_len := PySem.W.mg_none_of X G z_len
    n_list := PySem.W.mg_none_of X G z_list
    n_max := PySem.W.mg_none_of X G z_max
    n_min := PySem.W.mg_none_of X G z_min
    n_range := PySem.W.mg_none_of X G z_range
    n_str := PySem.W.mg_none_of X G z_str
    n_super := PySem.W.mg_none_of X G z_super
    u_MAX_STATES := .int 40 t_MAX_STATES
    c_MAX_STATES := ⟨⟨_, rfl⟩, PySem.W.mg_of X G g_MAX_STATES⟩
    u_MOST := .int 9 t_MOST
    c_MOST := ⟨⟨_, rfl⟩, PySem.W.mg_of X G g_MOST⟩ }
  exact ⟨_, fun s v => .of_eq rfl, fun base _ _ => (ok_law Z).imp fun vs H Q E h => h Z.cls⟩
end Wk
open PySem PySem.W PyProof.Rows
set_option maxHeartbeats 0 in
theorem PySem.Challenge.cw_digitwise_k34_words_refused_holds : PySem.Challenge.rw_digitwise_k34_words_refused.Holds := by
  w_on; o_law; k_head; (case hw => w_witness2)
  k_fill
  refine L2.walk_of (l := PySem.Challenge.rw_digitwise_k34_words_refused) (n := 63) (k := 6) (x := "_law_script") (CX := fun w => L2.CX (PySem.Challenge.rw_digitwise_k34_words_refused).prog w) (sp := fun w => Wk.spLawE _) rfl (by decide) rfl ⟨rfl, by decide, by decide⟩ (fun w h Y => PySem.W.kIn_of Y) ?F
    (fun _ H a ns hl _ hS => fun _ => ⟨ns, H, ⟨_, rfl, a, _, rfl, hS, WL.Reps.ofInts ns⟩, WL.Sub.refl H, by rw [Law.law_true ns hl]; exact fun v _ _ _ r => r⟩) (fun _ _ _ _ _ h => WL.noCX h)
  case F =>
    intro w mg fa h KX G hmg
    refine' Wk.all_mk KX G hmg ?aCTold ?pgTold ?hdTold ?poTold ?saTold ?mkTold ?kcTold ?na_Told_outputs ?na_Told_table ?a0 ?l0 ?c0 ?k0 ?a1 ?l1 ?c1 ?k1 ?a2 ?i2 ?l2 ?c2 ?k2 ?a3 ?l3 ?c3 ?k3 ?a4 ?l4 ?c4 ?k4 ?a5 ?l5 ?c5 ?k5 ?a6 ?l6 ?c6 ?k6 ?a7 ?l7 ?c7 ?k7 ?a8 ?l8 ?c8 ?k8 ?a9 ?l9 ?c9 ?k9 ?a10 ?l10 ?c10 ?k10 ?a11 ?l11 ?c11 ?k11 ?a12 ?l12 ?c12 ?k12 ?gClashing ?lClashing ?bClashing ?saClashing ?exClashing ?tyClashing ?kcClashing ?noClashing ?vaClashing ?an2Clashing ?iClashing ?tClashing ?lfClashing ?cfClashing ?leClashing ?lcClashing ?fvClashing ?mfClashing ?tsClashing ?siClashing ?gaClashing ?ggClashing ?hdClashing ?gOversized ?lOversized ?bOversized ?saOversized ?exOversized ?tyOversized ?kcOversized ?noOversized ?vaOversized ?an2Oversized ?iOversized ?tOversized ?lfOversized ?cfOversized ?leOversized ?lcOversized ?fvOversized ?mfOversized ?tsOversized ?siOversized ?gaOversized ?ggOversized ?hdOversized ?gMisused ?lMisused ?bMisused ?saMisused ?exMisused ?tyMisused ?kcMisused ?noMisused ?vaMisused ?an2Misused ?iMisused ?tMisused ?lfMisused ?cfMisused ?leMisused ?lcMisused ?fvMisused ?mfMisused ?tsMisused ?siMisused ?gaMisused ?ggMisused ?hdMisused ?xe_Clashing_Clashing ?xe_Clashing_Oversized ?xe_Clashing_Misused ?xe_Oversized_Clashing ?xe_Oversized_Oversized ?xe_Oversized_Misused ?xe_Misused_Clashing ?xe_Misused_Oversized ?xe_Misused_Misused ?fcMisused ?mrMisused ?sg_ ?tg_ ?kt_Misused_Clashing ?z_abs ?z_all ?z_bool ?z_int ?z_isinstance ?z_len ?z_list ?z_max ?z_min ?z_range ?z_str ?z_super ?g_MAX_STATES ?g_MOST
    (case aCTold => k_is); (case pgTold => k_is); (case hdTold => k_is); (case poTold => k_is); (case saTold => k_is); (case mkTold => k_is); (case kcTold => k_is); (case na_Told_outputs => k_is); (case na_Told_table => k_is); (case a0 => k_is); (case l0 => k_is); (case c0 => k_is); (case k0 => k_is); (case a1 => k_is); (case l1 => k_is); (case c1 => k_is); (case k1 => k_is); (case a2 => k_is); (case i2 => k_is); (case l2 => k_is); (case c2 => k_is); (case k2 => k_is); (case a3 => k_is); (case l3 => k_is); (case c3 => k_is); (case k3 => k_is); (case a4 => k_is); (case l4 => k_is); (case c4 => k_is); (case k4 => k_is); (case a5 => k_is); (case l5 => k_is); (case c5 => k_is); (case k5 => k_is); (case a6 => k_is); (case l6 => k_is); (case c6 => k_is); (case k6 => k_is); (case a7 => k_is); (case l7 => k_is); (case c7 => k_is); (case k7 => k_is); (case a8 => k_is); (case l8 => k_is); (case c8 => k_is); (case k8 => k_is); (case a9 => k_is); (case l9 => k_is); (case c9 => k_is); (case k9 => k_is); (case a10 => k_is); (case l10 => k_is); (case c10 => k_is); (case k10 => k_is); (case a11 => k_is); (case l11 => k_is); (case c11 => k_is); (case k11 => k_is); (case a12 => k_is); (case l12 => k_is); (case c12 => k_is); (case k12 => k_is); (case gClashing => k_is); (case lClashing => k_is); (case bClashing => first | rfl | decide +kernel); (case saClashing => k_is); (case exClashing => k_is); (case tyClashing => k_is); (case kcClashing => k_is); (case noClashing => k_is); (case vaClashing => k_is); (case an2Clashing => k_is); (case iClashing => k_is); (case tClashing => k_is); (case lfClashing => k_is); (case cfClashing => k_is); (case leClashing => k_is); (case lcClashing => k_is); (case fvClashing => first | rfl | decide +kernel); (case mfClashing => first | rfl | decide +kernel); (case tsClashing => first | rfl | decide +kernel); (case siClashing => ks_is); (case gaClashing => k_is); (case ggClashing => k_is); (case hdClashing => k_is); (case gOversized => k_is); (case lOversized => k_is); (case bOversized => first | rfl | decide +kernel); (case saOversized => k_is); (case exOversized => k_is); (case tyOversized => k_is); (case kcOversized => k_is); (case noOversized => k_is); (case vaOversized => k_is); (case an2Oversized => k_is); (case iOversized => k_is); (case tOversized => k_is); (case lfOversized => k_is); (case cfOversized => k_is); (case leOversized => k_is); (case lcOversized => k_is); (case fvOversized => first | rfl | decide +kernel); (case mfOversized => first | rfl | decide +kernel); (case tsOversized => first | rfl | decide +kernel); (case siOversized => ks_is); (case gaOversized => k_is); (case ggOversized => k_is); (case hdOversized => k_is); (case gMisused => k_is); (case lMisused => k_is); (case bMisused => first | rfl | decide +kernel); (case saMisused => k_is); (case exMisused => k_is); (case tyMisused => k_is); (case kcMisused => k_is); (case noMisused => k_is); (case vaMisused => k_is); (case an2Misused => k_is); (case iMisused => k_is); (case tMisused => k_is); (case lfMisused => k_is); (case cfMisused => k_is); (case leMisused => k_is); (case lcMisused => k_is); (case fvMisused => first | rfl | decide +kernel); (case mfMisused => first | rfl | decide +kernel); (case tsMisused => first | rfl | decide +kernel); (case siMisused => ks_is); (case gaMisused => k_is); (case ggMisused => k_is); (case hdMisused => k_is); (case xe_Clashing_Clashing => k_is); (case xe_Clashing_Oversized => k_is); (case xe_Clashing_Misused => k_is); (case xe_Oversized_Clashing => k_is); (case xe_Oversized_Oversized => k_is); (case xe_Oversized_Misused => k_is); (case xe_Misused_Clashing => k_is); (case xe_Misused_Oversized => k_is); (case xe_Misused_Misused => k_is); (case fcMisused => k_is); (case mrMisused => k_is); (case sg_ => k_is); (case tg_ => k_is); (case kt_Misused_Clashing => kit_is); (case z_abs => k_is); (case z_all => k_is); (case z_bool => k_is); (case z_int => k_is); (case z_isinstance => k_is); (case z_len => k_is); (case z_list => k_is); (case z_max => k_is); (case z_min => k_is); (case z_range => k_is); (case z_str => k_is); (case z_super => k_is); (case g_MAX_STATES => k_is); (case g_MOST => k_is)
