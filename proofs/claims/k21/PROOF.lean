import PyProof.Rows.All
import Wide.All
import OpenK.AllK
import Wide.FinOn
import PySem.Challenge.RW_warmshare_k21_what_will_do
import HandS.ForMost
import HandS.Walk
import HandS.Exc
import HandS.ExcOwn
import HandS.WordsExc
import HandS.TryMany
import HandS.ExcIs
import HandS.IsInst
import HandS.Style
import HandS.Conv
import HandS.RevRange
import HandS.SortKw
import HandS.More
import HandS.TryOnly
import HandS.Zip
import HandS.TupSets
import HandS.SortOrd
import HandS.ExcValue
import HandS.Text
import KE.KDictList
set_option Elab.async false
set_option linter.all false
set_option maxRecDepth 100000
set_option maxHeartbeats 2000000
/-! Wl: typed readings over the hand layer: data of Lean types told of values (Rp), typed slots, what expressions and statements come to (EV, ET, SV, BV). -/
namespace Wl
open PySem PySem.Spec PyProof.Rows L2

/-! ### tuples of Python as structures -/
structure T1 (α : Type) where
  a : α
deriving DecidableEq
structure T2 (α β : Type) where
  a : α
  b : β
deriving DecidableEq
structure T3 (α β γ : Type) where
  a : α
  b : β
  c : γ
deriving DecidableEq
structure T4 (α β γ δ : Type) where
  a : α
  b : β
  c : γ
  d : δ
deriving DecidableEq
structure T5 (α β γ δ ε : Type) where
  a : α
  b : β
  c : γ
  d : δ
  e : ε
deriving DecidableEq

/-! ### typed data -/
theorem seqT {K : PySem.W.Frag} {H H' : Hp} {a : Addr} {xs : List V} (e : Same H H') (h : SqT K H a xs) : SqT K H' a xs := by
  rcases h with (h | ⟨o, h⟩) | h
  · exact .inl (.inl (e _ _ h))
  · exact .inl (.inr ⟨o, e _ _ h⟩)
  · exact .inr h
class Rp (α : Type) where
  rep : PySem.W.Frag → Hp → V → α → Prop
  mono : ∀ {K : PySem.W.Frag} {G G' : Hp} {v : V} {x : α}, Same G G' → rep K G v x → rep K G' v x
instance : Rp Int := ⟨fun _ _ v x => v = .int x, fun _ h => h⟩
instance : Rp Bool := ⟨fun _ _ v x => v = .bl x, fun _ h => h⟩
instance : Rp Str := ⟨fun _ _ v x => v = .str x, fun _ h => h⟩
instance : Rp Unit := ⟨fun _ _ v _ => v = .non, fun _ h => h⟩
instance {α : Type} [Rp α] : Rp (Option α) := ⟨fun K G v x => match x with
  | none => v = .non
  | some y => Rp.rep K G v y ∧ v ≠ .non, fun {K G G' v x} e h => by
    cases x with
    | none => exact h
    | some y => exact ⟨Rp.mono e h.1, h.2⟩⟩
instance {α : Type} [Rp α] : Rp (T1 α) := ⟨fun K G v x => ∃ p v1, v = .ref p ∧ SqT K G p [v1] ∧ Rp.rep K G v1 x.a,
  fun e h => by obtain ⟨p, v1, h0, hs, h1⟩ := h; exact ⟨p, v1, h0, seqT e hs, Rp.mono e h1⟩⟩
instance {α β : Type} [Rp α] [Rp β] : Rp (T2 α β) := ⟨fun K G v x => ∃ p v1 v2, v = .ref p ∧ SqT K G p [v1, v2] ∧ Rp.rep K G v1 x.a ∧ Rp.rep K G v2 x.b,
  fun e h => by obtain ⟨p, v1, v2, h0, hs, h1, h2⟩ := h; exact ⟨p, v1, v2, h0, seqT e hs, Rp.mono e h1, Rp.mono e h2⟩⟩
instance {α β γ : Type} [Rp α] [Rp β] [Rp γ] : Rp (T3 α β γ) := ⟨fun K G v x => ∃ p v1 v2 v3, v = .ref p ∧ SqT K G p [v1, v2, v3] ∧ Rp.rep K G v1 x.a ∧ Rp.rep K G v2 x.b ∧ Rp.rep K G v3 x.c,
  fun e h => by obtain ⟨p, v1, v2, v3, h0, hs, h1, h2, h3⟩ := h; exact ⟨p, v1, v2, v3, h0, seqT e hs, Rp.mono e h1, Rp.mono e h2, Rp.mono e h3⟩⟩
instance {α β γ δ : Type} [Rp α] [Rp β] [Rp γ] [Rp δ] : Rp (T4 α β γ δ) := ⟨fun K G v x => ∃ p v1 v2 v3 v4, v = .ref p ∧ SqT K G p [v1, v2, v3, v4] ∧ Rp.rep K G v1 x.a ∧ Rp.rep K G v2 x.b ∧ Rp.rep K G v3 x.c ∧ Rp.rep K G v4 x.d,
  fun e h => by obtain ⟨p, v1, v2, v3, v4, h0, hs, h1, h2, h3, h4⟩ := h; exact ⟨p, v1, v2, v3, v4, h0, seqT e hs, Rp.mono e h1, Rp.mono e h2, Rp.mono e h3, Rp.mono e h4⟩⟩
instance {α β γ δ ε : Type} [Rp α] [Rp β] [Rp γ] [Rp δ] [Rp ε] : Rp (T5 α β γ δ ε) := ⟨fun K G v x => ∃ p v1 v2 v3 v4 v5, v = .ref p ∧ SqT K G p [v1, v2, v3, v4, v5] ∧ Rp.rep K G v1 x.a ∧ Rp.rep K G v2 x.b ∧ Rp.rep K G v3 x.c ∧ Rp.rep K G v4 x.d ∧ Rp.rep K G v5 x.e,
  fun e h => by obtain ⟨p, v1, v2, v3, v4, v5, h0, hs, h1, h2, h3, h4, h5⟩ := h; exact ⟨p, v1, v2, v3, v4, v5, h0, seqT e hs, Rp.mono e h1, Rp.mono e h2, Rp.mono e h3, Rp.mono e h4, Rp.mono e h5⟩⟩
/-- values of a list of data -/
def Reps {α : Type} [Rp α] (K : PySem.W.Frag) (G : Hp) (vs : List V) (xs : List α) : Prop := Paired (Rp.rep K G) vs xs
theorem Reps.mono {α : Type} [Rp α] {K : PySem.W.Frag} {G G' : Hp} {vs : List V} {xs : List α} (e : Same G G') (h : Reps K G vs xs) : Reps K G' vs xs := Paired.mapP h fun _ _ r => Rp.mono e r
instance {α : Type} [Rp α] : Rp (List α) := ⟨fun K G v xs => ∃ p vs, v = .ref p ∧ SqL K G p vs ∧ Reps K G vs xs,
  fun e h => by obtain ⟨p, vs, h0, hs, hr⟩ := h; exact ⟨p, vs, h0, Same.seq e hs, hr.mono e⟩⟩
section
variable {α : Type} [Rp α] {K : PySem.W.Frag} {G : Hp} {vs : List V} {xs : List α}
theorem Reps.len (h : Reps K G vs xs) : vs.length = xs.length := Paired.length h
theorem paired_get {α β : Type} {R : α → β → Prop} : ∀ {xs : List α} {ys : List β}, Paired R xs ys → ∀ (i : Nat) (x : α), xs[i]? = some x → ∃ y, ys[i]? = some y ∧ R x y
  | _, _, .nil, i, x, e => by simp at e
  | _, _, .cons r _, 0, x, e => by simp at e; subst e; exact ⟨_, rfl, r⟩
  | _, _, .cons _ t, i + 1, x, e => by
    obtain ⟨y, h1, h2⟩ := paired_get t i x (by simpa using e)
    exact ⟨y, by simpa using h1, h2⟩
theorem paired_get2 {α β : Type} {R : α → β → Prop} : ∀ {xs : List α} {ys : List β}, Paired R xs ys → ∀ (i : Nat) (y : β), ys[i]? = some y → ∃ x, xs[i]? = some x ∧ R x y
  | _, _, .nil, i, x, e => by simp at e
  | _, _, .cons r _, 0, x, e => by simp at e; subst e; exact ⟨_, rfl, r⟩
  | _, _, .cons _ t, i + 1, x, e => by
    obtain ⟨y, h1, h2⟩ := paired_get2 t i x (by simpa using e)
    exact ⟨y, by simpa using h1, h2⟩
theorem paired_app {α β : Type} {R : α → β → Prop} : ∀ {xs xs' : List α} {ys ys' : List β}, Paired R xs ys → Paired R xs' ys' → Paired R (xs ++ xs') (ys ++ ys')
  | _, _, _, _, .nil, s => s
  | _, _, _, _, .cons r t, s => .cons r (paired_app t s)
theorem paired_ints : ∀ {vs : List V} {ns : List Int}, Paired (fun v (x : Int) => v = V.int x) vs ns → vs = ns.map V.int
  | _, _, .nil => rfl
  | _, _, .cons r t => by rw [r, paired_ints t]; rfl
theorem ints_reps {K : PySem.W.Frag} {G : Hp} : ∀ (ns : List Int), Reps K G (ns.map V.int) ns
  | [] => .nil
  | _ :: r => .cons rfl (ints_reps r)
theorem Reps.ints {ns : List Int} (h : Reps K G vs ns) : vs = ns.map V.int := paired_ints h
end

/-- a datum with its type -/
structure Dat where
  α : Type
  inst : Rp α
  x : α
abbrev dt {α : Type} [i : Rp α] (x : α) : Dat := ⟨α, i, x⟩
def Dat.rep (d : Dat) (K : PySem.W.Frag) (G : Hp) (v : V) : Prop := @Rp.rep d.α d.inst K G v d.x
theorem Dat.mono {d : Dat} {K : PySem.W.Frag} {G G' : Hp} {v : V} (e : Same G G') (h : d.rep K G v) : d.rep K G' v := @Rp.mono d.α d.inst K G G' v d.x e h
inductive DatsOk (K : PySem.W.Frag) (G : Hp) : List V → List Dat → Prop
  | nil : DatsOk K G [] []
  | cons {v : V} {d : Dat} {vs : List V} {ds : List Dat} : d.rep K G v → DatsOk K G vs ds → DatsOk K G (v :: vs) (d :: ds)
theorem DatsOk.mono {K : PySem.W.Frag} {G G' : Hp} (e : Same G G') : ∀ {vs : List V} {ds : List Dat}, DatsOk K G vs ds → DatsOk K G' vs ds
  | _, _, .nil => .nil
  | _, _, .cons r t => .cons (Dat.mono e r) (DatsOk.mono e t)

/-- no tuple -/
def Nt (o : HO) : Prop := ∀ us, o ≠ .tup us
theorem nt_lst {vs : List V} : Nt (.lst vs) := fun _ z => by cases z
theorem nt_dK {ws : List (Key × V)} : Nt (.dK ws) := fun _ z => by cases z
theorem nt_dT {ws : List (List Key × V)} : Nt (.dT ws) := fun _ z => by cases z
/-- objects that a def owns: the value, the addresses, what stands there -/
class Ow (τ : Type) where
  ok : PySem.W.Frag → Hp → Hp → V → List Addr → τ → Prop
  mono : ∀ {K : PySem.W.Frag} {G G' H H' : Hp} {v : V} {fp : List Addr} {x : τ}, Same G G' → (∀ a ∈ fp, H' a = H a) → ok K G H v fp x → ok K G' H' v fp x
  nt : ∀ {K : PySem.W.Frag} {G H : Hp} {v : V} {fp : List Addr} {x : τ}, ok K G H v fp x → ∀ a ∈ fp, ∀ o, H a = some o → Nt o
structure Odat where
  τ : Type
  inst : Ow τ
  x : τ
abbrev ot {τ : Type} [i : Ow τ] (x : τ) : Odat := ⟨τ, i, x⟩
def Odat.ok (d : Odat) (K : PySem.W.Frag) (G H : Hp) (v : V) (fp : List Addr) : Prop := @Ow.ok d.τ d.inst K G H v fp d.x
theorem Odat.mono {d : Odat} {K : PySem.W.Frag} {G G' H H' : Hp} {v : V} {fp : List Addr} (e : Same G G') (eh : ∀ a ∈ fp, H' a = H a) (h : d.ok K G H v fp) : d.ok K G' H' v fp := @Ow.mono d.τ d.inst K G G' H H' v fp d.x e eh h
theorem Odat.nt {d : Odat} {K : PySem.W.Frag} {G H : Hp} {v : V} {fp : List Addr} (h : d.ok K G H v fp) : ∀ a ∈ fp, ∀ o, H a = some o → Nt o := @Ow.nt d.τ d.inst K G H v fp d.x h
theorem nt_one {H : Hp} {p : Addr} {ho : HO} (e : H p = some ho) (n : Nt ho) : ∀ a ∈ [p], ∀ o, H a = some o → Nt o := fun a ha o z => by
  have : a = p := by simpa using ha
  rw [this, e] at z
  cases z
  exact n
/-- a list that is changed -/
structure ML (α : Type) where
  xs : List α
instance {α : Type} [Rp α] : Ow (ML α) := ⟨fun K G H v fp x => ∃ p vs, v = .ref p ∧ fp = [p] ∧ H p = some (.lst vs) ∧ Reps K G vs x.xs, fun e eh h => by obtain ⟨p, vs, h0, h1, h2, hr⟩ := h; exact ⟨p, vs, h0, h1, by rw [eh p (by rw [h1]; simp)]; exact h2, hr.mono e⟩, fun h => by obtain ⟨p, vs, _, rfl, h2, _⟩ := h; exact nt_one h2 nt_lst⟩

/-! ### slots -/
inductive Slot where
  | any
  | val (d : Dat)
  | own (d : Odat)
abbrev Slot.v {α : Type} [Rp α] (x : α) : Slot := .val (dt x)
abbrev Slot.o {τ : Type} [Ow τ] (x : τ) : Slot := .own (ot x)
/-- an owned list -/
abbrev Slot.l {α : Type} [Rp α] (xs : List α) : Slot := .own (ot (ML.mk xs))
def SlotOk (K : PySem.W.Frag) (B G H : Hp) (o : Option V) (fp : List Addr) : Slot → Prop
  | .any => True
  | .val d => ∃ v, o = some v ∧ d.rep K G v
  | .own d => ∃ v, o = some v ∧ (∀ a ∈ fp, B a = none ∧ G a = none ∧ ∃ ho, H a = some ho) ∧ d.ok K G H v fp
def Slot.isOwn : Slot → Bool
  | .own _ => true
  | _ => false
structure LoF (K : PySem.W.Frag) (B G H : Hp) (σ : L2.St) (Γ : List Slot) (F : Nat → List Addr) : Prop where
  len : σ.length = Γ.length
  ok : ∀ (i : Nat) (s : Slot), Γ[i]? = some s → ∃ o, σ[i]? = some o ∧ SlotOk K B G H o (F i) s
  sep : ∀ (i j : Nat) (s t : Slot), i ≠ j → Γ[i]? = some s → Γ[j]? = some t → s.isOwn = true → t.isOwn = true → ∀ a ∈ F i, a ∉ F j
def Lo (K : PySem.W.Frag) (B G H : Hp) (σ : L2.St) (Γ : List Slot) : Prop := ∃ F, LoF K B G H σ Γ F

structure Grow (G H G' H' : Hp) : Prop where
  g : Same G G'
  h : Same H H'
  gh : Same G' H'
  fr0 : ∀ a o, H a = some o → Nt o → G' a = G a
theorem Grow.fr {G H G' H' : Hp} (g : Grow G H G' H') (a : Addr) (o : HO) (e : H a = some o) (n : Nt o := by first | exact nt_lst | exact nt_dK | exact nt_dT) : G' a = G a := g.fr0 a o e n
theorem Grow.refl {G H : Hp} (e : Same G H) : Grow G H G H := ⟨Same.refl _, Same.refl _, e, fun _ _ _ _ => rfl⟩
theorem Grow.trans {G H G1 H1 G2 H2 : Hp} (a : Grow G H G1 H1) (b : Grow G1 H1 G2 H2) : Grow G H G2 H2 :=
  ⟨a.g.trans b.g, a.h.trans b.h, b.gh, fun x o e n => (b.fr x o (a.h x o e) n).trans (a.fr x o e n)⟩
/-- a new object, known for good -/
theorem Grow.new {G H : Hp} {p : Addr} {o : HO} (e : Same G H) (hp : H p = none) : Grow G H (upd G p o) (upd H p o) := by
  have hg : G p = none := e.free hp
  refine ⟨fun b u h => ?_, fun b u h => ?_, fun b u h => ?_, fun b u h _ => ?_⟩
  · rw [upd_ne (ne_of_none h hg)]; exact h
  · rw [upd_ne (ne_of_none h hp)]; exact h
  · by_cases hb : b = p
    · subst hb; rw [upd_same] at h ⊢; exact h
    · rw [upd_ne hb] at h ⊢; exact e b u h
  · rw [upd_ne (ne_of_none h hp)]
/-- a new object that may be changed later -/
theorem Grow.own {G H : Hp} {p : Addr} {o : HO} (e : Same G H) (hp : H p = none) : Grow G H G (upd H p o) := by
  refine ⟨Same.refl _, fun b u h => ?_, fun b u h => ?_, fun _ _ _ _ => rfl⟩
  · rw [upd_ne (ne_of_none h hp)]; exact h
  · rw [upd_ne (ne_of_none (e b u h) hp)]; exact e b u h
/-- what a statement leaves: B stands -/
structure Stp (B G G' H' : Hp) : Prop where
  b : Same B H'
  g : Same G G'
  gh : Same G' H'
  fr0 : ∀ a o, B a = some o → Nt o → G' a = G a
theorem Stp.fr {B G G' H' : Hp} (g : Stp B G G' H') (a : Addr) (o : HO) (e : B a = some o) (n : Nt o := by first | exact nt_lst | exact nt_dK | exact nt_dT) : G' a = G a := g.fr0 a o e n
theorem Stp.refl {B G H : Hp} (hb : Same B H) (e : Same G H) : Stp B G G H := ⟨hb, Same.refl _, e, fun _ _ _ _ => rfl⟩
theorem Stp.trans {B G G1 H1 G2 H2 : Hp} (a : Stp B G G1 H1) (b : Stp B G1 G2 H2) : Stp B G G2 H2 :=
  ⟨b.b, a.g.trans b.g, b.gh, fun x o e n => (b.fr x o e n).trans (a.fr x o e n)⟩
theorem Grow.step {B G H G' H' : Hp} (hb : Same B H) (g : Grow G H G' H') : Stp B G G' H' :=
  ⟨hb.trans g.h, g.g, g.gh, fun a o e n => g.fr a o (hb a o e) n⟩
theorem SlotOk.grow {K : PySem.W.Frag} {B G H G' H' : Hp} {o : Option V} {fp : List Addr} {s : Slot} (g : Grow G H G' H') (h : SlotOk K B G H o fp s) : SlotOk K B G' H' o fp s := by
  cases s with
  | any => trivial
  | val d => obtain ⟨v, e, r⟩ := h; exact ⟨v, e, Dat.mono g.g r⟩
  | own d =>
    obtain ⟨v, e, hf, r⟩ := h
    refine ⟨v, e, fun a ha => ?_, Odat.mono g.g (fun a ha => ?_) r⟩
    · obtain ⟨hb, hg, ho, hh⟩ := hf a ha
      exact ⟨hb, (g.fr a ho hh (Odat.nt r a ha ho hh)).trans hg, ho, g.h _ _ hh⟩
    · obtain ⟨hb, hg, ho, hh⟩ := hf a ha
      rw [g.h _ _ hh, hh]
theorem LoF.nt {K : PySem.W.Frag} {B G H : Hp} {σ : L2.St} {Γ : List Slot} {F : Nat → List Addr} {i : Nat} {d : Odat} (l : LoF K B G H σ Γ F) (h : Γ[i]? = some (.own d)) : ∀ a ∈ F i, ∀ o, H a = some o → Nt o := by
  obtain ⟨o, _, v, _, _, r⟩ := l.ok i _ h
  exact Odat.nt r
theorem LoF.grow {K : PySem.W.Frag} {B G H G' H' : Hp} {σ : L2.St} {Γ : List Slot} {F : Nat → List Addr} (l : LoF K B G H σ Γ F) (g : Grow G H G' H') : LoF K B G' H' σ Γ F :=
  ⟨l.len, fun i s e => let ⟨o, h1, h2⟩ := l.ok i s e; ⟨o, h1, h2.grow g⟩, l.sep⟩
theorem Lo.grow {K : PySem.W.Frag} {B G H G' H' : Hp} {σ : L2.St} {Γ : List Slot} (l : Lo K B G H σ Γ) (g : Grow G H G' H') : Lo K B G' H' σ Γ := let ⟨F, l⟩ := l; ⟨F, l.grow g⟩
theorem Lo.len {K : PySem.W.Frag} {B G H : Hp} {σ : L2.St} {Γ : List Slot} (l : Lo K B G H σ Γ) : σ.length = Γ.length := let ⟨_, l⟩ := l; l.len
theorem Lo.val {K : PySem.W.Frag} {B G H : Hp} {σ : L2.St} {Γ : List Slot} (l : Lo K B G H σ Γ) {i : Nat} {d : Dat} (h : Γ[i]? = some (.val d)) : ∃ v, σ[i]? = some (some v) ∧ d.rep K G v := by
  obtain ⟨F, l⟩ := l
  obtain ⟨o, h1, v, h2, h3⟩ := l.ok i _ h
  subst h2
  exact ⟨v, h1, h3⟩

/-! ### Γ with less known -/
def sub1 (a b : Slot) : Prop := b = .any ∨ a = b
inductive Sb : List Slot → List Slot → Prop
  | nil : Sb [] []
  | cons {a b : Slot} {r t : List Slot} : sub1 a b → Sb r t → Sb (a :: r) (b :: t)
theorem Sb.eq {a : Slot} {r t : List Slot} (h : Sb r t) : Sb (a :: r) (a :: t) := .cons (.inr rfl) h
theorem Sb.any {a : Slot} {r t : List Slot} (h : Sb r t) : Sb (a :: r) (.any :: t) := .cons (.inl rfl) h
theorem Sb.eqv {a b : Slot} {r t : List Slot} (e : a = b) (h : Sb r t) : Sb (a :: r) (b :: t) := .cons (.inr e) h
theorem Sb.refl : ∀ Γ, Sb Γ Γ
  | [] => .nil
  | _ :: r => .cons (.inr rfl) (Sb.refl r)
theorem Sb.len {Γ Γ' : List Slot} (h : Sb Γ Γ') : Γ.length = Γ'.length := by
  induction h with
  | nil => rfl
  | cons _ _ ih => simp [ih]
theorem Sb.get {Γ Γ' : List Slot} (h : Sb Γ Γ') : ∀ (i : Nat) (s : Slot), Γ'[i]? = some s → ∃ s', Γ[i]? = some s' ∧ sub1 s' s := by
  induction h with
  | nil => intro i s e; simp at e
  | @cons a b r t hs _ ih =>
    intro i s e
    cases i with
    | zero => simp at e; subst e; exact ⟨a, by simp, hs⟩
    | succ n => simp at e; obtain ⟨s', h1, h2⟩ := ih n s e; exact ⟨s', by simpa using h1, h2⟩
theorem Lo.sub {K : PySem.W.Frag} {B G H : Hp} {σ : L2.St} {Γ Γ' : List Slot} (l : Lo K B G H σ Γ) (h : Sb Γ Γ') : Lo K B G H σ Γ' := by
  obtain ⟨F, l⟩ := l
  refine ⟨F, l.len.trans h.len, fun i s e => ?_, fun i j s t hij hi hj hs ht => ?_⟩
  · obtain ⟨s', h1, h2⟩ := h.get i s e
    obtain ⟨o, h3, h4⟩ := l.ok i s' h1
    rcases h2 with h2 | h2
    · subst h2; exact ⟨o, h3, trivial⟩
    · subst h2; exact ⟨o, h3, h4⟩
  · obtain ⟨s', h1, h2⟩ := h.get i s hi
    obtain ⟨t', h3, h4⟩ := h.get j t hj
    rcases h2 with h2 | h2
    · subst h2; cases hs
    · subst h2
      rcases h4 with h4 | h4
      · subst h4; cases ht
      · subst h4; exact l.sep i j _ _ hij h1 h3 hs ht
theorem set_get {α : Type _} {l : List α} {i j : Nat} {x y : α} (e : (l.set i x)[j]? = some y) : (i = j ∧ y = x ∧ i < l.length) ∨ (i ≠ j ∧ l[j]? = some y) := by
  by_cases h : i = j
  · subst h
    have hi : i < l.length := by simpa using (List.getElem?_eq_some_iff.mp e).1
    rw [List.getElem?_set_self hi] at e
    cases e
    exact .inl ⟨rfl, rfl, hi⟩
  · rw [List.getElem?_set_ne h] at e
    exact .inr ⟨h, e⟩
/-- a slot is stored -/
theorem Lo.set {K : PySem.W.Frag} {B G H : Hp} {σ : L2.St} {Γ : List Slot} {i : Nat} {v : V} {d : Dat} (l : Lo K B G H σ Γ) (r : d.rep K G v) : Lo K B G H (σ.set i (some v)) (Γ.set i (.val d)) := by
  obtain ⟨F, l⟩ := l
  refine ⟨F, by simp [l.len], fun j s e => ?_, fun j k s t hjk hj hk hs ht => ?_⟩
  · rcases set_get e with ⟨rfl, rfl, hi⟩ | ⟨hij, e⟩
    · exact ⟨some v, by rw [List.getElem?_set_self (by rw [l.len]; exact hi)], v, rfl, r⟩
    · rw [List.getElem?_set_ne hij]
      exact l.ok j s e
  · rcases set_get hj with ⟨rfl, rfl, hi⟩ | ⟨hij, hj⟩
    · cases hs
    · rcases set_get hk with ⟨rfl, rfl, hi⟩ | ⟨hik, hk⟩
      · cases ht
      · exact l.sep j k s t hjk hj hk hs ht
/-- what stands in a slot is forgotten -/
theorem Lo.drop {K : PySem.W.Frag} {B G H : Hp} {σ : L2.St} {Γ : List Slot} {i : Nat} {o : Option V} (l : Lo K B G H σ Γ) : Lo K B G H (σ.set i o) (Γ.set i .any) := by
  obtain ⟨F, l⟩ := l
  refine ⟨F, by simp [l.len], fun j s e => ?_, fun j k s t hjk hj hk hs ht => ?_⟩
  · rcases set_get e with ⟨rfl, rfl, hi⟩ | ⟨hij, e⟩
    · exact ⟨o, by rw [List.getElem?_set_self (by rw [l.len]; exact hi)], trivial⟩
    · rw [List.getElem?_set_ne hij]
      exact l.ok j s e
  · rcases set_get hj with ⟨rfl, rfl, hi⟩ | ⟨hij, hj⟩
    · cases hs
    · rcases set_get hk with ⟨rfl, rfl, hi⟩ | ⟨hik, hk⟩
      · cases ht
      · exact l.sep j k s t hjk hj hk hs ht
/-- new objects of one's own are stored -/
theorem Lo.setOwn {K : PySem.W.Frag} {B G H G1 H1 : Hp} {σ : L2.St} {Γ : List Slot} {i : Nat} {v : V} {fp : List Addr} {d : Odat} (l : Lo K B G H σ Γ) (hB : Same B H) (g : Grow G H G1 H1) (hf : ∀ a ∈ fp, H a = none ∧ G1 a = none ∧ ∃ ho, H1 a = some ho) (r : d.ok K G1 H1 v fp) :
    Lo K B G1 H1 (σ.set i (some v)) (Γ.set i (.own d)) := by
  obtain ⟨F, l⟩ := l
  refine ⟨fun j => if j = i then fp else F j, by simp [l.len], fun j s e => ?_, fun j k s t hjk hj hk hs ht a ha hb => ?_⟩
  · rcases set_get e with ⟨rfl, rfl, hi⟩ | ⟨hij, e⟩
    · refine ⟨some v, by rw [List.getElem?_set_self (by rw [l.len]; exact hi)], v, rfl, fun a ha => ?_, ?_⟩
      · rw [if_pos rfl] at ha
        obtain ⟨h1, h2, h3⟩ := hf a ha
        exact ⟨hB.free h1, h2, h3⟩
      · rw [if_pos rfl]; exact r
    · rw [List.getElem?_set_ne hij, if_neg (Ne.symm hij)]
      obtain ⟨o, h1, h2⟩ := l.ok j s e
      exact ⟨o, h1, h2.grow g⟩
  · have old : ∀ (j : Nat) (s : Slot), Γ[j]? = some s → s.isOwn = true → ∀ a ∈ F j, ∃ ho, H a = some ho := fun j s e hs a ha => by
      obtain ⟨o, _, h2⟩ := l.ok j s e
      cases s with
      | any => cases hs
      | val _ => cases hs
      | own d2 => obtain ⟨_, _, h3, _⟩ := h2; exact (h3 a ha).2.2
    rcases set_get hj with ⟨rfl, rfl, hi⟩ | ⟨hij, hj⟩
    · rcases set_get hk with ⟨rfl, _, _⟩ | ⟨hik, hk⟩
      · exact hjk rfl
      · simp only [if_pos] at ha
        simp only [if_neg (Ne.symm hik)] at hb
        obtain ⟨ho, e⟩ := old k t hk ht a hb
        rw [(hf a ha).1] at e; cases e
    · simp only [if_neg (Ne.symm hij)] at ha
      rcases set_get hk with ⟨rfl, rfl, hi⟩ | ⟨hik, hk⟩
      · simp only [if_pos] at hb
        obtain ⟨ho, e⟩ := old j s hj hs a ha
        rw [(hf a hb).1] at e; cases e
      · simp only [if_neg (Ne.symm hik)] at hb
        exact l.sep j k s t hjk hj hk hs ht a ha hb
/-- an owned slot, its value and addresses -/
theorem own_at {K : PySem.W.Frag} {B G H : Hp} {σ : L2.St} {Γ : List Slot} {i : Nat} {τ : Type} [Ow τ] {x : τ} (l : Lo K B G H σ Γ) (h : Γ[i]? = some (.o x)) : ∃ F v, LoF K B G H σ Γ F ∧ σ[i]? = some (some v) ∧ (∀ a ∈ F i, B a = none ∧ G a = none ∧ ∃ ho, H a = some ho) ∧ Ow.ok K G H v (F i) x := by
  obtain ⟨F, l⟩ := l
  obtain ⟨o, e1, v, e2, hf, ok⟩ := l.ok i _ h
  subst e2
  exact ⟨F, v, l, e1, hf, ok⟩
/-- what stands at an owned slot changes -/
theorem LoF.mut {K : PySem.W.Frag} {B G H H' : Hp} {σ : L2.St} {Γ : List Slot} {F : Nat → List Addr} {i : Nat} {v : V} {fp : List Addr} {d d' : Odat} (l : LoF K B G H σ Γ F) (hi : Γ[i]? = some (.own d)) (hv : σ[i]? = some (some v))
    (hk : ∀ a, a ∉ F i → ∀ o, H a = some o → H' a = some o) (hf : ∀ a ∈ fp, (a ∈ F i ∨ H a = none) ∧ B a = none ∧ G a = none ∧ ∃ ho, H' a = some ho) (r : d'.ok K G H' v fp) : Lo K B G H' σ (Γ.set i (.own d')) := by
  have old : ∀ (j : Nat) (s : Slot), Γ[j]? = some s → s.isOwn = true → ∀ a ∈ F j, ∃ ho, H a = some ho := fun j s e hs a ha => by
    obtain ⟨o, _, h2⟩ := l.ok j s e
    cases s with
    | any => cases hs
    | val _ => cases hs
    | own d2 => obtain ⟨_, _, h3, _⟩ := h2; exact (h3 a ha).2.2
  refine ⟨fun j => if j = i then fp else F j, by simp [l.len], fun j s e => ?_, fun j k s t hjk hj hk' hs ht a ha hb => ?_⟩
  · rcases set_get e with ⟨rfl, rfl, hi'⟩ | ⟨hij, e⟩
    · refine ⟨_, hv, v, rfl, fun a ha => ?_, ?_⟩
      · rw [if_pos rfl] at ha; exact (hf a ha).2
      · rw [if_pos rfl]; exact r
    · rw [if_neg (Ne.symm hij)]
      obtain ⟨o, h3, h4⟩ := l.ok j s e
      refine ⟨o, h3, ?_⟩
      cases s with
      | any => trivial
      | val _ => exact h4
      | own d2 =>
        obtain ⟨v2, e2, hf2, r2⟩ := h4
        have ne : ∀ a ∈ F j, a ∉ F i := l.sep j i _ _ (Ne.symm hij) e hi rfl rfl
        refine ⟨v2, e2, fun a ha => ?_, Odat.mono (Same.refl _) (fun a ha => ?_) r2⟩
        · obtain ⟨q1, q2, ho, q3⟩ := hf2 a ha
          exact ⟨q1, q2, ho, hk a (ne a ha) ho q3⟩
        · obtain ⟨q1, q2, ho, q3⟩ := hf2 a ha
          rw [hk a (ne a ha) ho q3, q3]
  · rcases set_get hj with ⟨rfl, rfl, _⟩ | ⟨hij, hj⟩
    · rcases set_get hk' with ⟨rfl, _, _⟩ | ⟨hik, hk'⟩
      · exact hjk rfl
      · simp only [if_pos] at ha
        simp only [if_neg (Ne.symm hik)] at hb
        obtain ⟨ho, e⟩ := old k t hk' ht a hb
        rcases (hf a ha).1 with q | q
        · exact l.sep i k _ t hjk hi hk' rfl ht a q hb
        · rw [q] at e; cases e
    · simp only [if_neg (Ne.symm hij)] at ha
      rcases set_get hk' with ⟨rfl, rfl, _⟩ | ⟨hik, hk'⟩
      · simp only [if_pos] at hb
        obtain ⟨ho, e⟩ := old j s hj hs a ha
        rcases (hf a hb).1 with q | q
        · exact l.sep j i s _ hjk hj hi hs rfl a ha q
        · rw [q] at e; cases e
      · simp only [if_neg (Ne.symm hik)] at hb
        exact l.sep j k s t hjk hj hk' hs ht a ha hb
/-- .. and what is known stands -/
theorem Stp.mut {B G H H' : Hp} {fp : List Addr} (hb : Same B H) (e : Same G H) (hf : ∀ a ∈ fp, B a = none ∧ G a = none) (hk : ∀ a, a ∉ fp → ∀ o, H a = some o → H' a = some o) : Stp B G G H' := by
  refine ⟨fun b u h => ?_, Same.refl _, fun b u h => ?_, fun _ _ _ _ => rfl⟩
  · exact hk b (fun z => by rw [(hf b z).1] at h; cases h) u (hb b u h)
  · exact hk b (fun z => by rw [(hf b z).2] at h; cases h) u (e b u h)
/-- an owned list -/
theorem ownL {K : PySem.W.Frag} {B G H : Hp} {σ : L2.St} {Γ : List Slot} {i : Nat} {α : Type} [Rp α] {xs : List α} (l : Lo K B G H σ Γ) (h : Γ[i]? = some (.l xs)) : ∃ F p vs, LoF K B G H σ Γ F ∧ F i = [p] ∧ σ[i]? = some (some (.ref p)) ∧ B p = none ∧ G p = none ∧ H p = some (.lst vs) ∧ Reps K G vs xs := by
  obtain ⟨F, v, lf, e1, hf, p, vs, rfl, e2, e3, r⟩ := own_at l h
  have := hf p (by rw [e2]; simp)
  exact ⟨F, p, vs, lf, e2, e1, this.1, this.2.1, e3, r⟩
theorem LoF.mutL {K : PySem.W.Frag} {B G H : Hp} {σ : L2.St} {Γ : List Slot} {F : Nat → List Addr} {i : Nat} {p : Addr} {vs' : List V} {α : Type} [Rp α] {xs xs' : List α} (l : LoF K B G H σ Γ F) (h : Γ[i]? = some (.l xs)) (hF : F i = [p]) (e1 : σ[i]? = some (some (.ref p))) (hb : B p = none) (hg : G p = none) (r : Reps K G vs' xs') :
    Lo K B G (upd H p (.lst vs')) σ (Γ.set i (.l xs')) :=
  l.mut (fp := [p]) (d' := ot (ML.mk xs')) h e1 (fun a ha o e => by rw [upd_ne (by rw [hF] at ha; simpa using ha)]; exact e) (fun a ha => by
    have : a = p := by simpa using ha
    subst this
    exact ⟨.inl (by rw [hF]; simp), hb, hg, _, upd_same⟩) ⟨p, vs', rfl, rfl, upd_same, r⟩
theorem Stp.mutL {B G H : Hp} {p : Addr} {ho : HO} (hb : Same B H) (e : Same G H) (h1 : B p = none) (h2 : G p = none) : Stp B G G (upd H p ho) :=
  Stp.mut (fp := [p]) hb e (fun a ha => by have : a = p := by simpa using ha
                                           subst this; exact ⟨h1, h2⟩) fun a ha o h => by rw [upd_ne (by simpa using ha)]; exact h

/-! ### weakest readings -/
def WE (X : Cx) (e : Expr) : TE := fun σ H Q => ∀ (pins : List (Addr × Obj)) (s : Shared), Inv X pins σ H s → wpAny (model X.prog X.w) X.A (eval e X.env) (EP X pins σ Q) X.xe s
def WT (X : Cx) (e : Expr) : TT := fun σ H Q => ∀ (pins : List (Addr × Obj)) (s : Shared), Inv X pins σ H s → wpAny (model X.prog X.w) X.A (isTrue e X.env (eval e X.env)) (TP X pins σ Q) X.xe s
def WA (X : Cx) (es : List Expr) : TA := fun σ H Q => ∀ (pos : Pos) (pins : List (Addr × Obj)) (s : Shared), Inv X pins σ H s → wpAny (model X.prog X.w) X.A (spliced (backTo pos (starEach es X.env))) (AP X pins σ Q) X.xe s
def WS (X : Cx) (st : Stmt) : TS := fun D σ H => ∀ (pins : List (Addr × Obj)) (s : Shared), Inv X pins σ H s → wpAny (model X.prog X.w) X.A (exec st X.env) (SP X pins D) X.xe s
def WSs (X : Cx) (sts : List Stmt) : TS := fun D σ H => ∀ (pins : List (Addr × Obj)) (s : Shared), Inv X pins σ H s → wpAny (model X.prog X.w) X.A (execs sts X.env) (SP X pins D) X.xe s
def WG (X : Cx) (tg : Expr) : TG := fun v σ H Q => ∀ (pins : List (Addr × Obj)) (s : Shared) (u : Value), Inv X pins σ H s → RelV v u →
    wpAny (model X.prog X.w) X.A (assign tg X.env u) (fun _ s' => ∃ σ' H', Inv X pins σ' H' s' ∧ Q σ' H') X.xe s
def WI (X : Cx) (tg iter : Expr) : TI := fun σ H R => ∀ (pins : List (Addr × Obj)) (s : Shared), Inv X pins σ H s →
    wpAny (model X.prog X.w) X.A (eval iter X.env) (fun v s1 => wpAny (model X.prog X.w) X.A (pyIter v) (PIE X pins σ tg R) X.xe s1) X.xe s
section
variable {X : Cx} {e : Expr} {es : List Expr} {st : Stmt} {sts : List Stmt} {tg iter : Expr} {σ : L2.St} {H : Hp}
theorem pe : PE X e (WE X e) := ⟨fun pins s _ _ _ I h => h pins s I⟩
theorem pt : PT X e (WT X e) := ⟨fun pins s _ _ _ I h => h pins s I⟩
theorem pa : PA X es (WA X es) := ⟨fun pos pins s _ _ _ I h => h pos pins s I⟩
theorem ps : PS X st (WS X st) := ⟨fun pins s _ _ _ I h => h pins s I⟩
theorem pss : PSs X sts (WSs X sts) := ⟨fun pins s _ _ _ I h => h pins s I⟩
theorem pg : PG X tg (WG X tg) := ⟨fun pins s _ _ _ u _ I r h => h pins s u I r⟩
theorem pi : PI X tg iter (WI X tg iter) := ⟨fun pins s _ _ _ I h => h pins s I⟩
theorem we {t : TE} {Q : VK} (h : PE X e t) (q : t σ H Q) : WE X e σ H Q := fun pins s I => h.run pins s σ H Q I q
theorem wt {t : TT} {Q : Bool → Hp → Prop} (h : PT X e t) (q : t σ H Q) : WT X e σ H Q := fun pins s I => h.run pins s σ H Q I q
theorem wa {t : TA} {Q : List V → Hp → Prop} (h : PA X es t) (q : t σ H Q) : WA X es σ H Q := fun pos pins s I => h.run pos pins s σ H Q I q
theorem ws {t : TS} {D : Ends} (h : PS X st t) (q : t D σ H) : WS X st D σ H := fun pins s I => h.run pins s σ H D I q
theorem wss {t : TS} {D : Ends} (h : PSs X sts t) (q : t D σ H) : WSs X sts D σ H := fun pins s I => h.run pins s σ H D I q
theorem wg {t : TG} {v : V} {Q : L2.St → Hp → Prop} (h : PG X tg t) (q : t v σ H Q) : WG X tg v σ H Q := fun pins s u I r => h.run pins s σ H v u Q I r q
theorem wi {t : TI} {R : It → Hp → Prop} (h : PI X tg iter t) (q : t σ H R) : WI X tg iter σ H R := fun pins s I => h.run pins s σ H R I q
end

/-! ### what an expression comes to -/
structure EV (X : Cx) (Γ : List Slot) (e : Expr) {α : Type} [Rp α] (x : α)  : Prop where
  run : ∀ (B G H : Hp) (σ : L2.St), Same B H → Same G H → Lo X.K B G H σ Γ → ∀ Q : VK, (∀ v G' H', Grow G H G' H' → Rp.rep X.K G' v x → Q v H') → WE X e σ H Q
instance {X : Cx} {Γ : List Slot} {e : Expr} {α : Type} [Rp α] {x : α}  : CoeFun (EV X Γ e x) (fun _ => ∀ (B G H : Hp) (σ : L2.St), Same B H → Same G H → Lo X.K B G H σ Γ → ∀ Q : VK, (∀ v G' H', Grow G H G' H' → Rp.rep X.K G' v x → Q v H') → WE X e σ H Q) := ⟨EV.run⟩
/-- .. a new object of one's own -/
structure EN (X : Cx) (Γ : List Slot) (e : Expr) {τ : Type} [Ow τ] (x : τ)  : Prop where
  run : ∀ (B G H : Hp) (σ : L2.St), Same B H → Same G H → Lo X.K B G H σ Γ → ∀ Q : VK, (∀ v fp G' H', Grow G H G' H' → (∀ a ∈ fp, H a = none ∧ G' a = none ∧ ∃ ho, H' a = some ho) → Ow.ok X.K G' H' v fp x → Q v H') → WE X e σ H Q
instance {X : Cx} {Γ : List Slot} {e : Expr} {τ : Type} [Ow τ] {x : τ}  : CoeFun (EN X Γ e x) (fun _ => ∀ (B G H : Hp) (σ : L2.St), Same B H → Same G H → Lo X.K B G H σ Γ → ∀ Q : VK, (∀ v fp G' H', Grow G H G' H' → (∀ a ∈ fp, H a = none ∧ G' a = none ∧ ∃ ho, H' a = some ho) → Ow.ok X.K G' H' v fp x → Q v H') → WE X e σ H Q) := ⟨EN.run⟩
structure ET (X : Cx) (Γ : List Slot) (e : Expr) (b : Bool)  : Prop where
  run : ∀ (B G H : Hp) (σ : L2.St), Same B H → Same G H → Lo X.K B G H σ Γ → ∀ Q : Bool → Hp → Prop, (∀ G' H', Grow G H G' H' → Q b H') → WT X e σ H Q
instance {X : Cx} {Γ : List Slot} {e : Expr} {b : Bool}  : CoeFun (ET X Γ e b) (fun _ => ∀ (B G H : Hp) (σ : L2.St), Same B H → Same G H → Lo X.K B G H σ Γ → ∀ Q : Bool → Hp → Prop, (∀ G' H', Grow G H G' H' → Q b H') → WT X e σ H Q) := ⟨ET.run⟩
structure EA (X : Cx) (Γ : List Slot) (es : List Expr) (ds : List Dat)  : Prop where
  run : ∀ (B G H : Hp) (σ : L2.St), Same B H → Same G H → Lo X.K B G H σ Γ → ∀ Q : List V → Hp → Prop, (∀ vs G' H', Grow G H G' H' → DatsOk X.K G' vs ds → Q vs H') → WA X es σ H Q
instance {X : Cx} {Γ : List Slot} {es : List Expr} {ds : List Dat}  : CoeFun (EA X Γ es ds) (fun _ => ∀ (B G H : Hp) (σ : L2.St), Same B H → Same G H → Lo X.K B G H σ Γ → ∀ Q : List V → Hp → Prop, (∀ vs G' H', Grow G H G' H' → DatsOk X.K G' vs ds → Q vs H') → WA X es σ H Q) := ⟨EA.run⟩
theorem EV.is {X : Cx} {Γ : List Slot} {e : Expr} {α : Type} [Rp α] {x y : α} (h : EV X Γ e x) (q : x = y) : EV X Γ e y := q ▸ h
theorem ET.is {X : Cx} {Γ : List Slot} {e : Expr} {x y : Bool} (h : ET X Γ e x) (q : x = y) : ET X Γ e y := q ▸ h
section
variable {X : Cx} {Γ : List Slot} {a b c e : Expr} {es : List Expr} {pos : Pos}
theorem ev_var (i : Nat) {α : Type} [Rp α] {x : α} {nm : Str} (h : Γ[i]? = some (.v x)) (hN : X.N[i]? = some nm := by rfl) (hv : Vis X.env.scope nm := by first | exact Or.inl rfl | exact Or.inr (Or.inl rfl) | exact Or.inr (Or.inr rfl))
    (hd : (nm == ("__debug__" : Str)) = false := by decide) (hcd : (nm == ("__classdict__" : Str)) = false := by decide) : EV X Γ (.Name nm pos) x := by
  refine ⟨fun B G H σ hb hg l Q q => ?_⟩
  obtain ⟨v, e1, r⟩ := l.val h
  exact we (pe_var hN hv hd hcd) ⟨v, e1, q v G H (Grow.refl hg) r⟩
theorem ev_int {i : Int} {j : Nat} : EV X Γ (.Constant (.int i) j pos) i := ⟨fun _ G H _ _ hg _ _ q => we pe_int (q _ G H (Grow.refl hg) rfl)⟩
theorem ev_bl {i : Bool} {j : Nat} : EV X Γ (.Constant (.bool i) j pos) i := ⟨fun _ G H _ _ hg _ _ q => we pe_bl (q _ G H (Grow.refl hg) rfl)⟩
theorem ev_str {i : Str} {j : Nat} : EV X Γ (.Constant (.str i) j pos) i := ⟨fun _ G H _ _ hg _ _ q => we pe_str (q _ G H (Grow.refl hg) rfl)⟩
theorem ev_none {j : Nat} : EV X Γ (.Constant .none j pos) () := ⟨fun _ G H _ _ hg _ _ q => we pe_non (q _ G H (Grow.refl hg) rfl)⟩
theorem ev_non {α : Type} [Rp α] {j : Nat} : EV X Γ (.Constant .none j pos) (none : Option α) := ⟨fun _ G H _ _ hg _ _ q => we pe_non (q _ G H (Grow.refl hg) rfl)⟩
/-- two operands -/
theorem ev_bin {α β γ : Type} [Rp α] [Rp β] [Rp γ] {x : α} {y : β} {z : γ} {op : Operator} {r : R2} (ho : OpR X (binaryOp op) r) (ha : EV X Γ a x) (hb : EV X Γ b y)
    (hr : ∀ G H v u, Same G H → Rp.rep X.K G v x → Rp.rep X.K G u y → ∀ Q : VK, (∀ w G' H', Grow G H G' H' → Rp.rep X.K G' w z → Q w H') → r v u H Q) : EV X Γ (.BinOp a op b pos) z := by
  refine ⟨fun B G H σ hB hg l Q q => ?_⟩
  refine we (pe_op ho pe pe) (ha B G H σ hB hg l _ fun v G1 H1 g1 r1 => hb B G1 H1 σ (hB.trans g1.h) g1.gh (l.grow g1) _ fun u G2 H2 g2 r2 => ?_)
  exact hr G2 H2 v u g2.gh (Rp.mono g2.g r1) r2 Q fun w G3 H3 g3 r3 => q w G3 H3 ((g1.trans g2).trans g3) r3
theorem ev_binI {x y z : Int} {op : Operator} {C : Int → Int → Prop} {g : Int → Int → Int} (ho : OpR X (binaryOp op) (rI C fun i j => .int (g i j))) (ha : EV X Γ a x) (hb : EV X Γ b y) (hc : C x y) (hz : g x y = z) : EV X Γ (.BinOp a op b pos) z :=
  ev_bin ho ha hb fun G H v u hg hv hu Q q => ⟨x, y, hv, hu, hc, q _ G H (Grow.refl hg) (by subst hz; rfl)⟩
theorem ev_binI0 {x y z : Int} {op : Operator} {g : Int → Int → Int} (ho : OpR X (binaryOp op) (rI0 fun i j => .int (g i j))) (ha : EV X Γ a x) (hb : EV X Γ b y) (hz : g x y = z) : EV X Γ (.BinOp a op b pos) z :=
  ev_bin ho ha hb fun G H v u hg hv hu Q q => ⟨x, y, hv, hu, q _ G H (Grow.refl hg) (by subst hz; rfl)⟩
theorem ev_add {x y : Int} (ha : EV X Γ a x) (hb : EV X Γ b y) : EV X Γ (.BinOp a .Add b pos) (x + y) := ev_binI0 op_add ha hb rfl
theorem ev_sub {x y : Int} (ha : EV X Γ a x) (hb : EV X Γ b y) : EV X Γ (.BinOp a .Sub b pos) (x - y) := ev_binI0 op_sub ha hb rfl
theorem ev_mul {x y : Int} (ha : EV X Γ a x) (hb : EV X Γ b y) (hc : CMul x y) : EV X Γ (.BinOp a .Mult b pos) (x * y) := ev_binI op_mul ha hb hc rfl
theorem ev_mod {x y : Int} (ha : EV X Γ a x) (hb : EV X Γ b y) (hc : 0 < y) : EV X Γ (.BinOp a .Mod b pos) (x % y) := ev_binI op_mod ha hb hc rfl
theorem ev_div {x y : Int} (ha : EV X Γ a x) (hb : EV X Γ b y) (hc : CDiv x y) : EV X Γ (.BinOp a .FloorDiv b pos) (x / y) := ev_binI op_fdiv ha hb hc rfl
theorem ev_pow {x y : Int} (ha : EV X Γ a x) (hb : EV X Γ b y) (hc : CPow x y) : EV X Γ (.BinOp a .Pow b pos) (x ^ y.toNat) := ev_binI op_pow ha hb hc rfl
theorem ev_neg {x : Int} (ha : EV X Γ a x) : EV X Γ (.UnaryOp .USub a pos) (-x) := by
  refine ⟨fun B G H σ hB hg l Q q => ?_⟩
  exact we (pe_un un_neg pe) (ha B G H σ hB hg l _ fun v G1 H1 g1 r1 => ⟨x, r1, q _ G1 H1 g1 rfl⟩)

/-! ### comparisons -/
theorem ev_cmp {α β : Type} [Rp α] [Rp β] {x : α} {y : β} {z : Bool} {op : CmpOp} {r : R2} (ho : OpR X (compareOp op) r) (hm : behindInMarks op b = false) (ha : EV X Γ a x) (hb : EV X Γ b y)
    (hr : ∀ G H v u, Same G H → Rp.rep X.K G v x → Rp.rep X.K G u y → ∀ Q : VK, (∀ G' H', Grow G H G' H' → Q (.bl z) H') → r v u H Q) : EV X Γ (.Compare a [op] [b] pos) z := by
  refine ⟨fun B G H σ hB hg l Q q => ?_⟩
  refine we (pe_cmpR ho pe pe hm) (ha B G H σ hB hg l _ fun v G1 H1 g1 r1 => hb B G1 H1 σ (hB.trans g1.h) g1.gh (l.grow g1) _ fun u G2 H2 g2 r2 => ?_)
  exact hr G2 H2 v u g2.gh (Rp.mono g2.g r1) r2 Q fun G3 H3 g3 => q _ G3 H3 ((g1.trans g2).trans g3) rfl
theorem et_cmp {α β : Type} [Rp α] [Rp β] {x : α} {y : β} {z : Bool} {op : CmpOp} {r : R2} (ho : OpR X (compareOp op) r) (hm : behindInMarks op b = false) (ha : EV X Γ a x) (hb : EV X Γ b y)
    (hr : ∀ G H v u, Same G H → Rp.rep X.K G v x → Rp.rep X.K G u y → ∀ Q : VK, (∀ G' H', Grow G H G' H' → Q (.bl z) H') → r v u H Q) : ET X Γ (.Compare a [op] [b] pos) z := by
  refine ⟨fun B G H σ hB hg l Q q => ?_⟩
  refine wt (pt_cmpR ho pe pe hm) (ha B G H σ hB hg l _ fun v G1 H1 g1 r1 => hb B G1 H1 σ (hB.trans g1.h) g1.gh (l.grow g1) _ fun u G2 H2 g2 r2 => ?_)
  exact hr G2 H2 v u g2.gh (Rp.mono g2.g r1) r2 _ fun G3 H3 g3 => ⟨z, rfl, q G3 H3 ((g1.trans g2).trans g3)⟩
theorem rI0b {p : Int → Int → Bool} {x y : Int} {K : PySem.W.Frag} : ∀ G H v u, Same G H → Rp.rep K G v x → Rp.rep K G u y → ∀ Q : VK, (∀ G' H', Grow G H G' H' → Q (.bl (p x y)) H') → rI0 (fun i j => .bl (p i j)) v u H Q :=
  fun G H _ _ hg hv hu _ q => ⟨x, y, hv, hu, q G H (Grow.refl hg)⟩
theorem ev_lt {x y : Int} (ha : EV X Γ a x) (hb : EV X Γ b y) : EV X Γ (.Compare a [.Lt] [b] pos) (decide (x < y)) := ev_cmp op_lt (nomark _) ha hb (rI0b (p := fun i j => decide (i < j)))
theorem ev_le {x y : Int} (ha : EV X Γ a x) (hb : EV X Γ b y) : EV X Γ (.Compare a [.LtE] [b] pos) (decide (x ≤ y)) := ev_cmp op_le (nomark _) ha hb (rI0b (p := fun i j => decide (i ≤ j)))
theorem ev_gt {x y : Int} (ha : EV X Γ a x) (hb : EV X Γ b y) : EV X Γ (.Compare a [.Gt] [b] pos) (decide (y < x)) := ev_cmp op_gt (nomark _) ha hb (rI0b (p := fun i j => decide (j < i)))
theorem ev_ge {x y : Int} (ha : EV X Γ a x) (hb : EV X Γ b y) : EV X Γ (.Compare a [.GtE] [b] pos) (decide (y ≤ x)) := ev_cmp op_ge (nomark _) ha hb (rI0b (p := fun i j => decide (j ≤ i)))
theorem et_lt {x y : Int} (ha : EV X Γ a x) (hb : EV X Γ b y) : ET X Γ (.Compare a [.Lt] [b] pos) (decide (x < y)) := et_cmp op_lt (nomark _) ha hb (rI0b (p := fun i j => decide (i < j)))
theorem et_le {x y : Int} (ha : EV X Γ a x) (hb : EV X Γ b y) : ET X Γ (.Compare a [.LtE] [b] pos) (decide (x ≤ y)) := et_cmp op_le (nomark _) ha hb (rI0b (p := fun i j => decide (i ≤ j)))
theorem et_gt {x y : Int} (ha : EV X Γ a x) (hb : EV X Γ b y) : ET X Γ (.Compare a [.Gt] [b] pos) (decide (y < x)) := et_cmp op_gt (nomark _) ha hb (rI0b (p := fun i j => decide (j < i)))
theorem et_ge {x y : Int} (ha : EV X Γ a x) (hb : EV X Γ b y) : ET X Γ (.Compare a [.GtE] [b] pos) (decide (y ≤ x)) := et_cmp op_ge (nomark _) ha hb (rI0b (p := fun i j => decide (j ≤ i)))
/-- scalars for == -/
class Sc (α : Type) extends Rp α where
  of : α → V
  rep_of : ∀ {K G v x}, rep K G v x → v = of x
  scal_of : ∀ x y, scal (of x) (of y) = true
  inj : ∀ x y, of x = of y → x = y
instance : Sc Int := ⟨.int, fun h => h, fun _ _ => rfl, fun _ _ h => V.int.inj h⟩
instance : Sc Bool := ⟨.bl, fun h => h, fun _ _ => rfl, fun _ _ h => V.bl.inj h⟩
instance : Sc Str := ⟨.str, fun h => h, fun _ _ => rfl, fun _ _ h => V.str.inj h⟩
theorem sc_dec {α : Type} [Sc α] [DecidableEq α] (x y : α) : decide (Sc.of x = Sc.of y) = decide (x = y) := by
  by_cases h : x = y
  · subst h; simp
  · rw [decide_eq_false h, decide_eq_false fun e => h (Sc.inj _ _ e)]
theorem rEqS {α : Type} [Sc α] [DecidableEq α] {x y : α} {K : PySem.W.Frag} : ∀ G H v u, Same G H → Rp.rep K G v x → Rp.rep K G u y → ∀ Q : VK, (∀ G' H', Grow G H G' H' → Q (.bl (decide (x = y))) H') → rEq v u H Q := fun G H v u hg hv hu Q q => by
  rw [Sc.rep_of hv, Sc.rep_of hu]
  exact ⟨Sc.scal_of _ _, by rw [sc_dec]; exact q G H (Grow.refl hg)⟩
theorem rNeS {α : Type} [Sc α] [DecidableEq α] {x y : α} {K : PySem.W.Frag} : ∀ G H v u, Same G H → Rp.rep K G v x → Rp.rep K G u y → ∀ Q : VK, (∀ G' H', Grow G H G' H' → Q (.bl (!decide (x = y))) H') → rNe v u H Q := fun G H v u hg hv hu Q q => by
  rw [Sc.rep_of hv, Sc.rep_of hu]
  exact ⟨Sc.scal_of _ _, by rw [sc_dec]; exact q G H (Grow.refl hg)⟩
theorem ev_eq {α : Type} [Sc α] [DecidableEq α] {x y : α} (ha : EV X Γ a x) (hb : EV X Γ b y) : EV X Γ (.Compare a [.Eq] [b] pos) (decide (x = y)) := ev_cmp op_eq (nomark _) ha hb rEqS
theorem ev_ne {α : Type} [Sc α] [DecidableEq α] {x y : α} (ha : EV X Γ a x) (hb : EV X Γ b y) : EV X Γ (.Compare a [.NotEq] [b] pos) (!decide (x = y)) := ev_cmp op_ne (nomark _) ha hb rNeS
theorem et_eq {α : Type} [Sc α] [DecidableEq α] {x y : α} (ha : EV X Γ a x) (hb : EV X Γ b y) : ET X Γ (.Compare a [.Eq] [b] pos) (decide (x = y)) := et_cmp op_eq (nomark _) ha hb rEqS
theorem et_ne {α : Type} [Sc α] [DecidableEq α] {x y : α} (ha : EV X Γ a x) (hb : EV X Γ b y) : ET X Γ (.Compare a [.NotEq] [b] pos) (!decide (x = y)) := et_cmp op_ne (nomark _) ha hb rNeS
/-- a < b < c, a <= b < c .. of ints -/
theorem et_chain {x y z : Int} {op op' : CmpOp} {p p' : Int → Int → Bool} (ho : OpR X (compareOp op) (rI0 fun i j => .bl (p i j))) (ho' : OpR X (compareOp op') (rI0 fun i j => .bl (p' i j))) (ha : EV X Γ a x) (hb : EV X Γ b y) (hc : EV X Γ c z)
    (hm : lastMarks [op, op'] [b, c] = false := by with_unfolding_all rfl) : ET X Γ (.Compare a [op, op'] [b, c] pos) (p x y && p' y z) := by
  refine ⟨fun B G H σ hB hg l Q q => ?_⟩
  refine wt (pt_chain ho ho' pe pe pe hm) (ha B G H σ hB hg l _ fun v G1 H1 g1 r1 => hb B G1 H1 σ (hB.trans g1.h) g1.gh (l.grow g1) _ fun u G2 H2 g2 r2 => ?_)
  refine ⟨x, y, r1, r2, p x y, rfl, ?_⟩
  cases hp : p x y with
  | true =>
    refine hc B G2 H2 σ ((hB.trans g1.h).trans g2.h) g2.gh ((l.grow g1).grow g2) _ fun w G3 H3 g3 r3 => ?_
    exact ⟨y, z, r2, r3, p' y z, rfl, by have := q G3 H3 ((g1.trans g2).trans g3); rw [hp] at this; exact this⟩
  | false =>
    have := q G2 H2 (g1.trans g2)
    rw [hp] at this
    exact ⟨false, rfl, this⟩
end
end Wl

set_option maxRecDepth 100000
set_option maxHeartbeats 2000000
namespace Wl
open PySem PySem.Spec PyProof.Rows L2
section
variable {X : Cx} {Γ : List Slot} {a b c e : Expr} {es : List Expr} {pos : Pos}
/-! ### truth -/
theorem et_val {x : Bool} (h : EV X Γ e x) (he : ∀ whole, isTrue e X.env whole = (do let v ← whole; standAt e.pos; holding [v] (truthy v)) := by intro _; rfl) : ET X Γ e x := by
  refine ⟨fun B G H σ hB hg l Q q => ?_⟩
  exact wt (pt_val pe he) (h B G H σ hB hg l _ fun v G1 H1 g1 r1 => ⟨x, r1, q G1 H1 g1⟩)
theorem et_not {x : Bool} (h : ET X Γ e x) : ET X Γ (.UnaryOp .Not e pos) (!x) := by
  refine ⟨fun B G H σ hB hg l Q q => ?_⟩
  exact wt (pt_not pt) (h B G H σ hB hg l _ fun G1 H1 g1 => q G1 H1 g1)
theorem ev_not {x : Bool} (h : EV X Γ e x) : EV X Γ (.UnaryOp .Not e pos) (!x) := by
  refine ⟨fun B G H σ hB hg l Q q => ?_⟩
  exact we (pe_not pe) (h B G H σ hB hg l _ fun v G1 H1 g1 r1 => ⟨x, r1, q _ G1 H1 g1 rfl⟩)
/-- chains of and, or (tests) -/
def WW (X : Cx) (e : Expr) : TT := fun σ H Q => ∀ (whole : Sem Value) (pins : List (Addr × Obj)) (s : Shared), Inv X pins σ H s → wpAny (model X.prog X.w) X.A (isTrue e X.env whole) (TP X pins σ Q) X.xe s
theorem pw : PW X e (WW X e) := ⟨fun wh pins s _ _ _ I h => h wh pins s I⟩
theorem ww {σ : L2.St} {H : Hp} {t : TT} {Q : Bool → Hp → Prop} (h : PW X e t) (q : t σ H Q) : WW X e σ H Q := fun wh pins s I => h.run wh pins s σ H Q I q
structure EW (X : Cx) (Γ : List Slot) (e : Expr) (b : Bool)  : Prop where
  run : ∀ (B G H : Hp) (σ : L2.St), Same B H → Same G H → Lo X.K B G H σ Γ → ∀ Q : Bool → Hp → Prop, (∀ G' H', Grow G H G' H' → Q b H') → WW X e σ H Q
instance {X : Cx} {Γ : List Slot} {e : Expr} {b : Bool}  : CoeFun (EW X Γ e b) (fun _ => ∀ (B G H : Hp) (σ : L2.St), Same B H → Same G H → Lo X.K B G H σ Γ → ∀ Q : Bool → Hp → Prop, (∀ G' H', Grow G H G' H' → Q b H') → WW X e σ H Q) := ⟨EW.run⟩
theorem et_w {x : Bool} (h : EW X Γ e x) : ET X Γ e x := ⟨fun B G H σ hB hg l Q q => wt pw.pt (h B G H σ hB hg l Q q)⟩
theorem ew_and1 {x : Bool} (h : ET X Γ a x) : EW X Γ (.BoolOp .And [a] pos) x := ⟨fun B G H σ hB hg l Q q => ww (pw_and1 pt) (h B G H σ hB hg l Q q)⟩
theorem ew_or1 {x : Bool} (h : ET X Γ a x) : EW X Γ (.BoolOp .Or [a] pos) x := ⟨fun B G H σ hB hg l Q q => ww (pw_or1 pt) (h B G H σ hB hg l Q q)⟩
theorem ew_and {x y : Bool} (h : ET X Γ a x) (hr : x = true → EW X Γ (.BoolOp .And (b :: es) pos) y) : EW X Γ (.BoolOp .And (a :: b :: es) pos) (x && y) := ⟨fun B G H σ hB hg l Q q =>
  ww (pw_and pt pw) (h B G H σ hB hg l _ fun G1 H1 g1 => by
    cases x with
    | true => exact hr rfl B G1 H1 σ (hB.trans g1.h) g1.gh (l.grow g1) Q fun G2 H2 g2 => q G2 H2 (g1.trans g2)
    | false => exact q G1 H1 g1)⟩
theorem ew_or {x y : Bool} (h : ET X Γ a x) (hr : x = false → EW X Γ (.BoolOp .Or (b :: es) pos) y) : EW X Γ (.BoolOp .Or (a :: b :: es) pos) (x || y) := ⟨fun B G H σ hB hg l Q q =>
  ww (pw_or pt pw) (h B G H σ hB hg l _ fun G1 H1 g1 => by
    cases x with
    | false => exact hr rfl B G1 H1 σ (hB.trans g1.h) g1.gh (l.grow g1) Q fun G2 H2 g2 => q G2 H2 (g1.trans g2)
    | true => exact q G1 H1 g1)⟩
/-- .. as values, bools -/
theorem ev_one {α : Type} [Rp α] {x : α} {op : BoolOp} (h : EV X Γ a x) : EV X Γ (.BoolOp op [a] pos) x := ⟨fun B G H σ hB hg l Q q => we (pe_one pe) (h B G H σ hB hg l Q q)⟩
theorem ev_and {x y : Bool} (h : EV X Γ a x) (hr : x = true → EV X Γ (.BoolOp .And (b :: es) pos) y) : EV X Γ (.BoolOp .And (a :: b :: es) pos) (x && y) := ⟨fun B G H σ hB hg l Q q =>
  we (pe_and pe pe) (h B G H σ hB hg l _ fun v G1 H1 g1 r1 => ⟨x, r1, by
    cases x with
    | true => exact hr rfl B G1 H1 σ (hB.trans g1.h) g1.gh (l.grow g1) Q fun w G2 H2 g2 r2 => q w G2 H2 (g1.trans g2) r2
    | false => exact q _ G1 H1 g1 rfl⟩)⟩
theorem ev_or {x y : Bool} (h : EV X Γ a x) (hr : x = false → EV X Γ (.BoolOp .Or (b :: es) pos) y) : EV X Γ (.BoolOp .Or (a :: b :: es) pos) (x || y) := ⟨fun B G H σ hB hg l Q q =>
  we (pe_or pe pe) (h B G H σ hB hg l _ fun v G1 H1 g1 r1 => ⟨x, r1, by
    cases x with
    | false => exact hr rfl B G1 H1 σ (hB.trans g1.h) g1.gh (l.grow g1) Q fun w G2 H2 g2 r2 => q w G2 H2 (g1.trans g2) r2
    | true => exact q _ G1 H1 g1 rfl⟩)⟩

/-! ### arguments -/
theorem ea_nil : EA X Γ [] [] := ⟨fun _ G H _ _ hg _ _ q => wa pa_nil (q [] G H (Grow.refl hg) .nil)⟩
theorem ea_cons {α : Type} [Rp α] {x : α} {ds : List Dat} (h : EV X Γ e x) (hr : EA X Γ es ds) (hs : starEach (e :: es) X.env = (false, eval e X.env) :: starEach es X.env := by rfl) : EA X Γ (e :: es) (dt x :: ds) := ⟨fun B G H σ hB hg l Q q =>
  wa (pa_cons pe pa hs) (h B G H σ hB hg l _ fun v G1 H1 g1 r1 => hr B G1 H1 σ (hB.trans g1.h) g1.gh (l.grow g1) _ fun vs G2 H2 g2 r2 => q (v :: vs) G2 H2 (g1.trans g2) (.cons (Dat.mono (d := dt x) g2.g r1) r2))⟩
theorem DatsOk.of {α : Type} [Rp α] {K : PySem.W.Frag} {G : Hp} : ∀ {xs : List α} {vs : List V}, DatsOk K G vs (xs.map fun x => dt x) → Reps K G vs xs
  | [], _, .nil => .nil
  | _ :: _, _, .cons r t => .cons r (DatsOk.of t)
theorem DatsOk.len {K : PySem.W.Frag} {G : Hp} : ∀ {vs : List V} {ds : List Dat}, DatsOk K G vs ds → vs.length = ds.length
  | _, _, .nil => rfl
  | _, _, .cons _ t => by simp [DatsOk.len t]
/-- (a, b, ..) -/
theorem we_tup {B G H : Hp} {σ : L2.St} {n : Nat} {ds : List Dat} (h : EA X Γ es ds) (hB : Same B H) (hg : Same G H) (l : Lo X.K B G H σ Γ) {Q : VK} (hn : ds.length ≤ 100)
    (q : ∀ p vs G' H', Grow G H G' H' → DatsOk X.K G' vs ds → SqT X.K G' p vs → Q (.ref p) H') : WE X (.Tuple es n pos) σ H Q :=
  we (pe_tup pa) (h B G H σ hB hg l _ fun vs G1 H1 g1 r1 => ⟨by rw [r1.len]; exact Nat.le_trans hn (by decide), fun p hp =>
    q p vs _ _ (g1.trans (Grow.new g1.gh hp)) (r1.mono (Grow.new g1.gh hp).g) (SqT.of upd_same)⟩)
theorem ev_t1 {α : Type} [Rp α] {x : α} {n : Nat} (h : EA X Γ es [dt x]) : EV X Γ (.Tuple es n pos) (T1.mk x) := ⟨fun B G H σ hB hg l Q q => we_tup h hB hg l (Nat.le_of_ble_eq_true rfl) fun p vs G1 H1 g1 r hs => by
  cases r with | cons r1 t => cases t; exact q _ G1 H1 g1 ⟨p, _, rfl, hs, r1⟩⟩
theorem ev_t2 {α β : Type} [Rp α] [Rp β] {x : α} {y : β} {n : Nat} (h : EA X Γ es [dt x, dt y]) : EV X Γ (.Tuple es n pos) (T2.mk x y) := ⟨fun B G H σ hB hg l Q q => we_tup h hB hg l (Nat.le_of_ble_eq_true rfl) fun p vs G1 H1 g1 r hs => by
  cases r with | cons r1 t => cases t with | cons r2 t => cases t; exact q _ G1 H1 g1 ⟨p, _, _, rfl, hs, r1, r2⟩⟩
theorem ev_t3 {α β γ : Type} [Rp α] [Rp β] [Rp γ] {x : α} {y : β} {z : γ} {n : Nat} (h : EA X Γ es [dt x, dt y, dt z]) : EV X Γ (.Tuple es n pos) (T3.mk x y z) := ⟨fun B G H σ hB hg l Q q => we_tup h hB hg l (Nat.le_of_ble_eq_true rfl) fun p vs G1 H1 g1 r hs => by
  cases r with | cons r1 t => cases t with | cons r2 t => cases t with | cons r3 t => cases t; exact q _ G1 H1 g1 ⟨p, _, _, _, rfl, hs, r1, r2, r3⟩⟩
theorem ev_t4 {α β γ δ : Type} [Rp α] [Rp β] [Rp γ] [Rp δ] {x : α} {y : β} {z : γ} {w : δ} {n : Nat} (h : EA X Γ es [dt x, dt y, dt z, dt w]) : EV X Γ (.Tuple es n pos) (T4.mk x y z w) := ⟨fun B G H σ hB hg l Q q => we_tup h hB hg l (Nat.le_of_ble_eq_true rfl) fun p vs G1 H1 g1 r hs => by
  cases r with | cons r1 t => cases t with | cons r2 t => cases t with | cons r3 t => cases t with | cons r4 t => cases t; exact q _ G1 H1 g1 ⟨p, _, _, _, _, rfl, hs, r1, r2, r3, r4⟩⟩
theorem ev_t5 {α β γ δ ε : Type} [Rp α] [Rp β] [Rp γ] [Rp δ] [Rp ε] {x : α} {y : β} {z : γ} {w : δ} {u : ε} {n : Nat} (h : EA X Γ es [dt x, dt y, dt z, dt w, dt u]) : EV X Γ (.Tuple es n pos) (T5.mk x y z w u) := ⟨fun B G H σ hB hg l Q q => we_tup h hB hg l (Nat.le_of_ble_eq_true rfl) fun p vs G1 H1 g1 r hs => by
  cases r with | cons r1 t => cases t with | cons r2 t => cases t with | cons r3 t => cases t with | cons r4 t => cases t with | cons r5 t => cases t; exact q _ G1 H1 g1 ⟨p, _, _, _, _, _, rfl, hs, r1, r2, r3, r4, r5⟩⟩
/-- a new list: of one's own, or known for good -/
theorem en_lst {α : Type} [Rp α] {xs : List α} (h : EA X Γ es (xs.map fun x => dt x)) (hn : xs.length ≤ 10000 := by exact Nat.le_of_ble_eq_true rfl) : EN X Γ (.List es pos) (ML.mk xs) := ⟨fun B G H σ hB hg l Q q =>
  we (pe_lst pa) (h B G H σ hB hg l _ fun vs G1 H1 g1 r1 => ⟨by rw [r1.len, List.length_map]; exact Nat.le_trans hn (by decide), fun p hp =>
    q (.ref p) [p] G1 _ (g1.trans (Grow.own g1.gh hp)) (fun a ha => by
      have e : a = p := by simpa using ha
      subst e; exact ⟨g1.h.free hp, g1.gh.free hp, _, upd_same⟩) ⟨p, vs, rfl, rfl, upd_same, DatsOk.of r1⟩⟩)⟩
theorem ev_new {α : Type} [Rp α] {xs : List α} (h : EN X Γ e (ML.mk xs)) : EV X Γ e xs := ⟨fun B G H σ hB hg l Q q =>
  h B G H σ hB hg l Q fun v fp G1 H1 g1 hf ok => by
    obtain ⟨p, vs, rfl, rfl, hh, r⟩ := ok
    obtain ⟨hp, hgp, _⟩ := hf p (by simp)
    have hs : Same G1 (upd G1 p (.lst vs)) := fun b u e => by rw [upd_ne (ne_of_none e hgp)]; exact e
    refine q _ (upd G1 p (.lst vs)) H1 ⟨g1.g.trans hs, g1.h, fun b u e => ?_, fun b u e n => ?_⟩ ⟨p, vs, rfl, SqL.of upd_same, r.mono hs⟩
    · by_cases hb : b = p
      · subst hb; rw [upd_same] at e; rw [← e]; exact hh
      · rw [upd_ne hb] at e; exact g1.gh b u e
    · rw [upd_ne (ne_of_none e hp)]; exact g1.fr b u e n⟩
theorem ev_lst {α : Type} [Rp α] {xs : List α} (h : EA X Γ es (xs.map fun x => dt x)) (hn : xs.length ≤ 10000 := by exact Nat.le_of_ble_eq_true rfl) : EV X Γ (.List es pos) xs := ev_new (en_lst h hn)

/-! ### subscripts -/
/-- the i-th of a tuple -/
class TIx (τ : Type) [Rp τ] (i : Nat) (β : outParam Type) [Rp β] where
  get : τ → β
  ok : ∀ {K G v x}, Rp.rep K G v x → ∃ p vs w, v = V.ref p ∧ SqT K G p vs ∧ vs[i]? = some w ∧ Rp.rep K G w (get x)
instance {α : Type} [Rp α] : TIx (T1 α) 0 α := ⟨T1.a, fun h => by obtain ⟨p, v1, h0, hs, h1⟩ := h; exact ⟨p, _, v1, h0, hs, rfl, h1⟩⟩
instance {α β : Type} [Rp α] [Rp β] : TIx (T2 α β) 0 α := ⟨T2.a, fun h => by obtain ⟨p, v1, v2, h0, hs, h1, h2⟩ := h; exact ⟨p, _, v1, h0, hs, rfl, h1⟩⟩
instance {α β : Type} [Rp α] [Rp β] : TIx (T2 α β) 1 β := ⟨T2.b, fun h => by obtain ⟨p, v1, v2, h0, hs, h1, h2⟩ := h; exact ⟨p, _, v2, h0, hs, rfl, h2⟩⟩
instance {α β γ : Type} [Rp α] [Rp β] [Rp γ] : TIx (T3 α β γ) 0 α := ⟨T3.a, fun h => by obtain ⟨p, v1, v2, v3, h0, hs, h1, h2, h3⟩ := h; exact ⟨p, _, v1, h0, hs, rfl, h1⟩⟩
instance {α β γ : Type} [Rp α] [Rp β] [Rp γ] : TIx (T3 α β γ) 1 β := ⟨T3.b, fun h => by obtain ⟨p, v1, v2, v3, h0, hs, h1, h2, h3⟩ := h; exact ⟨p, _, v2, h0, hs, rfl, h2⟩⟩
instance {α β γ : Type} [Rp α] [Rp β] [Rp γ] : TIx (T3 α β γ) 2 γ := ⟨T3.c, fun h => by obtain ⟨p, v1, v2, v3, h0, hs, h1, h2, h3⟩ := h; exact ⟨p, _, v3, h0, hs, rfl, h3⟩⟩
instance {α β γ δ : Type} [Rp α] [Rp β] [Rp γ] [Rp δ] : TIx (T4 α β γ δ) 0 α := ⟨T4.a, fun h => by obtain ⟨p, v1, v2, v3, v4, h0, hs, h1, h2, h3, h4⟩ := h; exact ⟨p, _, v1, h0, hs, rfl, h1⟩⟩
instance {α β γ δ : Type} [Rp α] [Rp β] [Rp γ] [Rp δ] : TIx (T4 α β γ δ) 1 β := ⟨T4.b, fun h => by obtain ⟨p, v1, v2, v3, v4, h0, hs, h1, h2, h3, h4⟩ := h; exact ⟨p, _, v2, h0, hs, rfl, h2⟩⟩
instance {α β γ δ : Type} [Rp α] [Rp β] [Rp γ] [Rp δ] : TIx (T4 α β γ δ) 2 γ := ⟨T4.c, fun h => by obtain ⟨p, v1, v2, v3, v4, h0, hs, h1, h2, h3, h4⟩ := h; exact ⟨p, _, v3, h0, hs, rfl, h3⟩⟩
instance {α β γ δ : Type} [Rp α] [Rp β] [Rp γ] [Rp δ] : TIx (T4 α β γ δ) 3 δ := ⟨T4.d, fun h => by obtain ⟨p, v1, v2, v3, v4, h0, hs, h1, h2, h3, h4⟩ := h; exact ⟨p, _, v4, h0, hs, rfl, h4⟩⟩
instance {α β γ δ ε : Type} [Rp α] [Rp β] [Rp γ] [Rp δ] [Rp ε] : TIx (T5 α β γ δ ε) 0 α := ⟨T5.a, fun h => by obtain ⟨p, v1, v2, v3, v4, v5, h0, hs, h1, h2, h3, h4, h5⟩ := h; exact ⟨p, _, v1, h0, hs, rfl, h1⟩⟩
instance {α β γ δ ε : Type} [Rp α] [Rp β] [Rp γ] [Rp δ] [Rp ε] : TIx (T5 α β γ δ ε) 1 β := ⟨T5.b, fun h => by obtain ⟨p, v1, v2, v3, v4, v5, h0, hs, h1, h2, h3, h4, h5⟩ := h; exact ⟨p, _, v2, h0, hs, rfl, h2⟩⟩
instance {α β γ δ ε : Type} [Rp α] [Rp β] [Rp γ] [Rp δ] [Rp ε] : TIx (T5 α β γ δ ε) 2 γ := ⟨T5.c, fun h => by obtain ⟨p, v1, v2, v3, v4, v5, h0, hs, h1, h2, h3, h4, h5⟩ := h; exact ⟨p, _, v3, h0, hs, rfl, h3⟩⟩
instance {α β γ δ ε : Type} [Rp α] [Rp β] [Rp γ] [Rp δ] [Rp ε] : TIx (T5 α β γ δ ε) 3 δ := ⟨T5.d, fun h => by obtain ⟨p, v1, v2, v3, v4, v5, h0, hs, h1, h2, h3, h4, h5⟩ := h; exact ⟨p, _, v4, h0, hs, rfl, h4⟩⟩
instance {α β γ δ ε : Type} [Rp α] [Rp β] [Rp γ] [Rp δ] [Rp ε] : TIx (T5 α β γ δ ε) 4 ε := ⟨T5.e, fun h => by obtain ⟨p, v1, v2, v3, v4, v5, h0, hs, h1, h2, h3, h4, h5⟩ := h; exact ⟨p, _, v5, h0, hs, rfl, h5⟩⟩
theorem ev_tix (i : Nat) {τ β : Type} [Rp τ] [Rp β] [TIx τ i β] {x : τ} {j : Nat} {pos' : Pos} (ha : EV X Γ a x) : EV X Γ (.Subscript a (.Constant (.int (i : Int)) j pos') pos) (TIx.get i x : β) := ⟨fun B G H σ hB hg l Q q =>
  we (pe_ix ix_tup pe pe (fun _ _ => rfl)) (ha B G H σ hB hg l _ fun v G1 H1 g1 r1 => we pe_int (by
    obtain ⟨p, vs, w, h0, hs, hw, rw'⟩ := TIx.ok (i := i) (β := β) r1
    exact ⟨p, vs, i, w, h0, rfl, seqT g1.gh hs, atI_nat hw, q w G1 H1 g1 rw'⟩))⟩
/-- xs[i], i a place -/
theorem ev_lix {α : Type} [Rp α] {xs : List α} {i : Int} {y : α} (ha : EV X Γ a xs) (hb : EV X Γ b i) (h0 : 0 ≤ i) (hy : xs[i.toNat]? = some y) (hp : PlainIx b := by exact fun _ _ => rfl) : EV X Γ (.Subscript a b pos) y := ⟨fun B G H σ hB hg l Q q =>
  we (pe_ix ix_list pe pe hp) (ha B G H σ hB hg l _ fun v G1 H1 g1 r1 => hb B G1 H1 σ (hB.trans g1.h) g1.gh (l.grow g1) _ fun u G2 H2 g2 r2 => by
    obtain ⟨p, vs, e, hs, hr⟩ := Rp.mono g2.g r1
    obtain ⟨w, hw, rw'⟩ := paired_get2 hr _ _ hy
    have hi : ((i.toNat : Nat) : Int) = i := by omega
    refine ⟨p, vs, i, w, e, r2, Same.seq g2.gh hs, ?_, q w G2 H2 (g1.trans g2) rw'⟩
    rw [← hi]; exact atI_nat hw)⟩
/-- xs[-1] -/
theorem ev_last {α : Type} [Rp α] {xs : List α} {y : α} (ha : EV X Γ a xs) (hb : EV X Γ b (-1 : Int)) (hy : xs.getLast? = some y) (hp : PlainIx b := by exact fun _ _ => rfl) : EV X Γ (.Subscript a b pos) y := ⟨fun B G H σ hB hg l Q q =>
  we (pe_ix ix_list pe pe hp) (ha B G H σ hB hg l _ fun v G1 H1 g1 r1 => hb B G1 H1 σ (hB.trans g1.h) g1.gh (l.grow g1) _ fun u G2 H2 g2 r2 => by
    obtain ⟨p, vs, e, hs, hr⟩ := Rp.mono g2.g r1
    rw [List.getLast?_eq_getElem?] at hy
    obtain ⟨w, hw, rw'⟩ := paired_get2 hr _ _ hy
    refine ⟨p, vs, -1, w, e, r2, Same.seq g2.gh hs, ?_, q w G2 H2 (g1.trans g2) rw'⟩
    have hl := hr.len
    have hpos : 0 < xs.length := by
      have := (List.getElem?_eq_some_iff.mp hy).1
      omega
    unfold atI ixN
    rw [if_neg (by decide), if_pos (by omega)]
    show vs[(-1 + (vs.length : Int)).toNat]? = some w
    rw [show (-1 + (vs.length : Int)).toNat = xs.length - 1 by omega]
    exact hw)⟩

/-! ### calls -/
/-- a def's promise by a relation of arguments and answer -/
def PSp (K : PySem.W.Frag) (R : List Dat → Dat → Prop) : Sp := fun vs H Q _ => ∃ G ds d, Same G H ∧ DatsOk K G vs ds ∧ R ds d ∧ ∀ v G' H', Grow G H G' H' → d.rep K G' v → Q v H'
theorem ev_call {CX : CXT} {k : Nat} {f : Addr} {fd : FuncData} {ps : List Str} {R : List Dat → Dat → Prop} {E : XK} {x : Str} {p : Pos} {α : Type} [Rp α] {y : α} {ds : List Dat} (F : FnOk X.prog X.w X.K X.mg X.base CX k f fd ps (PSp X.K R)) (hr : Room k X.A) (hm : X.mg x = some (.ref f))
    (hk : PySem.W.keepIn X.K (.ref f) = true) (hb : Binds X.K fd ps []) (hx : Passes CX X E) (ha : EA X Γ (e :: es) ds) (hR : R ds (dt y)) (hg : Gl X x := by rfl) (hdb : (x == ("__debug__" : Str)) = false := by decide)
    (he : starEach (e :: es) X.env = (false, eval e X.env) :: starEach es X.env := by rfl) (hpl : (backTo pos (starEach es X.env)).any (·.1) = false := by rfl) : EV X Γ (.Call (.Name x p) (e :: es) [] pos) y := ⟨fun B G H σ hB hgh l Q q =>
  we (pe_call F hr hg hm hk hb .nil hx pa hdb he hpl) (ha B G H σ hB hgh l _ fun vs G1 H1 g1 r1 => by
    rw [List.append_nil]
    exact ⟨G1, ds, dt y, g1.gh, r1, hR, fun v G2 H2 g2 r2 => q v G2 H2 (g1.trans g2) r2⟩)⟩
theorem ev_call0 {CX : CXT} {k : Nat} {f : Addr} {fd : FuncData} {ps : List Str} {R : List Dat → Dat → Prop} {E : XK} {x : Str} {p : Pos} {α : Type} [Rp α] {y : α} (F : FnOk X.prog X.w X.K X.mg X.base CX k f fd ps (PSp X.K R)) (hr : Room k X.A) (hm : X.mg x = some (.ref f))
    (hk : PySem.W.keepIn X.K (.ref f) = true) (hb : Binds X.K fd ps []) (hx : Passes CX X E) (hR : R [] (dt y)) (hg : Gl X x := by rfl) (hdb : (x == ("__debug__" : Str)) = false := by decide) : EV X Γ (.Call (.Name x p) [] [] pos) y := ⟨fun B G H σ hB hgh l Q q =>
  we (pe_call0 F hr hg hm hk hb .nil hx hdb) ⟨G, [], dt y, hgh, .nil, hR, fun v G2 H2 g2 r2 => q v G2 H2 g2 r2⟩⟩
/-- a built-in function -/
theorem ev_cb {r : List V → Hp → VK → Prop} {id : String} {x : Str} {p : Pos} {α : Type} [Rp α] {y : α} {ds : List Dat} (hc : CallR X (.builtin id) r) (hm : X.mg x = none) (hv : bootBuiltins x = some (.builtin id)) (ha : EA X Γ (e :: es) ds)
    (hr : ∀ G H vs, Same G H → DatsOk X.K G vs ds → ∀ Q : VK, (∀ w G' H', Grow G H G' H' → Rp.rep X.K G' w y → Q w H') → r vs H Q) (hg : Gl X x := by rfl) (hn : x ≠ "__name__" := by decide) (hdb : (x == ("__debug__" : Str)) = false := by decide)
    (he : starEach (e :: es) X.env = (false, eval e X.env) :: starEach es X.env := by rfl) (hpl : (backTo pos (starEach es X.env)).any (·.1) = false := by rfl) : EV X Γ (.Call (.Name x p) (e :: es) [] pos) y := ⟨fun B G H σ hB hgh l Q q =>
  we (pe_callB hc hg hm hv pa hn hdb he hpl) (ha B G H σ hB hgh l _ fun vs G1 H1 g1 r1 => hr G1 H1 vs g1.gh r1 Q fun w G2 H2 g2 r2 => q w G2 H2 (g1.trans g2) r2)⟩
theorem ev_cty {r : List V → Hp → VK → Prop} {T : String} {x : Str} {p : Pos} {α : Type} [Rp α] {y : α} {ds : List Dat} (hc : CallR X (.type T) r) (hm : X.mg x = none) (hv : bootBuiltins x = some (.type T)) (ha : EA X Γ (e :: es) ds)
    (hr : ∀ G H vs, Same G H → DatsOk X.K G vs ds → ∀ Q : VK, (∀ w G' H', Grow G H G' H' → Rp.rep X.K G' w y → Q w H') → r vs H Q) (hg : Gl X x := by rfl) (hn : x ≠ "__name__" := by decide) (hdb : (x == ("__debug__" : Str)) = false := by decide)
    (he : starEach (e :: es) X.env = (false, eval e X.env) :: starEach es X.env := by rfl) (hpl : (backTo pos (starEach es X.env)).any (·.1) = false := by rfl) : EV X Γ (.Call (.Name x p) (e :: es) [] pos) y := ⟨fun B G H σ hB hgh l Q q =>
  we (pe_callTy hc hg hm hv pa hn hdb he hpl) (ha B G H σ hB hgh l _ fun vs G1 H1 g1 r1 => hr G1 H1 vs g1.gh r1 Q fun w G2 H2 g2 r2 => q w G2 H2 (g1.trans g2) r2)⟩
theorem max_ite (i j : Int) : (if j > i then j else i) = max i j := by
  rw [Int.max_def]; split <;> split <;> omega
theorem min_ite (i j : Int) : (if j < i then j else i) = min i j := by
  rw [Int.min_def]; split <;> split <;> omega
theorem ev_max2 {p : Pos} {i j : Int} (hc : X.calm = true) (hm : X.mg "max" = none) (ha : EV X Γ a i) (hb : EV X Γ b j) (hg : Gl X "max" := by rfl) (hs : starEach [a, b] X.env = (false, eval a X.env) :: starEach [b] X.env := by rfl) (hs2 : starEach [b] X.env = (false, eval b X.env) :: starEach [] X.env := by rfl)
    (hpl : (backTo pos (starEach [b] X.env)).any (·.1) = false := by rfl) : EV X Γ (.Call (.Name "max" p) [a, b] [] pos) (max i j) :=
  ev_cb (call_max2 hc) hm (by decide +kernel) (ea_cons ha (ea_cons hb ea_nil hs2) hs) (fun G H vs hgh r Q q => by
    cases r with | cons r1 t => cases t with | cons r2 t => cases t; exact ⟨i, j, by rw [show _ = V.int i from r1, show _ = V.int j from r2], by rw [max_ite]; exact q _ G H (Grow.refl hgh) rfl⟩) hg (by decide) (by decide) hs hpl
theorem ev_min2 {p : Pos} {i j : Int} (hc : X.calm = true) (hm : X.mg "min" = none) (ha : EV X Γ a i) (hb : EV X Γ b j) (hg : Gl X "min" := by rfl) (hs : starEach [a, b] X.env = (false, eval a X.env) :: starEach [b] X.env := by rfl) (hs2 : starEach [b] X.env = (false, eval b X.env) :: starEach [] X.env := by rfl)
    (hpl : (backTo pos (starEach [b] X.env)).any (·.1) = false := by rfl) : EV X Γ (.Call (.Name "min" p) [a, b] [] pos) (min i j) :=
  ev_cb (call_min2 hc) hm (by decide +kernel) (ea_cons ha (ea_cons hb ea_nil hs2) hs) (fun G H vs hgh r Q q => by
    cases r with | cons r1 t => cases t with | cons r2 t => cases t; exact ⟨i, j, by rw [show _ = V.int i from r1, show _ = V.int j from r2], by rw [min_ite]; exact q _ G H (Grow.refl hgh) rfl⟩) hg (by decide) (by decide) hs hpl
end
end Wl

set_option maxRecDepth 100000
set_option maxHeartbeats 2000000
namespace Wl
open PySem PySem.Spec PyProof.Rows L2
/-! ### what a statement comes to -/
inductive Out where
  | nx (Γ : List Slot)
  | rt (d : Dat)
  | ro (d : Odat)
  | ex (c : Str) (Γ : List Slot)
/-- an exception of the class named c may fly here -/
def Fly (X : Cx) (c : Str) (σ : L2.St) (H : Hp) : Prop := ∀ C, X.mg c = some (.ref C) → L2.Takes X (fun cls d σ' H' => cls = .ref C ∧ d = none ∧ σ' = σ ∧ H' = H)
def Sat (X : Cx) (B : Hp) (D : Ends) (G H : Hp) : Out → Prop
  | .nx Γ => ∀ σ, Lo X.K B G H σ Γ → D.nx σ H
  | .rt d => ∀ v, d.rep X.K G v → D.rt v H
  | .ro d => ∀ v fp, (∀ a ∈ fp, B a = none ∧ G a = none ∧ ∃ ho, H a = some ho) → d.ok X.K G H v fp → D.rt v H
  | .ex c Γ => ∀ σ, Lo X.K B G H σ Γ → Fly X c σ H
structure SV (X : Cx) (Γ : List Slot) (st : Stmt) (o : Out)  : Prop where
  run : ∀ B G H σ D, Same B H → Same G H → Lo X.K B G H σ Γ → (∀ G' H', Stp B G G' H' → Sat X B D G' H' o) → WS X st D σ H
instance {X : Cx} {Γ : List Slot} {st : Stmt} {o : Out}  : CoeFun (SV X Γ st o) (fun _ => ∀ B G H σ D, Same B H → Same G H → Lo X.K B G H σ Γ → (∀ G' H', Stp B G G' H' → Sat X B D G' H' o) → WS X st D σ H) := ⟨SV.run⟩
structure BV (X : Cx) (Γ : List Slot) (sts : List Stmt) (o : Out)  : Prop where
  run : ∀ B G H σ D, Same B H → Same G H → Lo X.K B G H σ Γ → (∀ G' H', Stp B G G' H' → Sat X B D G' H' o) → WSs X sts D σ H
instance {X : Cx} {Γ : List Slot} {sts : List Stmt} {o : Out}  : CoeFun (BV X Γ sts o) (fun _ => ∀ B G H σ D, Same B H → Same G H → Lo X.K B G H σ Γ → (∀ G' H', Stp B G G' H' → Sat X B D G' H' o) → WSs X sts D σ H) := ⟨BV.run⟩
def Out.exits : Out → Prop
  | .nx _ => False
  | _ => True
section
variable {X : Cx} {Γ Γ' : List Slot} {st : Stmt} {sts rest : List Stmt} {a b c e tg iter : Expr} {es : List Expr} {pos : Pos} {o : Out}
theorem BV.is {o' : Out} (h : BV X Γ sts o) (q : o = o') : BV X Γ sts o' := q ▸ h
theorem SV.is {o' : Out} (h : SV X Γ st o) (q : o = o') : SV X Γ st o' := q ▸ h
theorem BV.rt {α : Type} [Rp α] {x y : α} (h : BV X Γ sts (.rt (dt x))) (q : x = y) : BV X Γ sts (.rt (dt y)) := q ▸ h
theorem BV.sub (h : BV X Γ' sts o) (q : Sb Γ Γ') : BV X Γ sts o := ⟨fun B G H σ D hB hg l k => h B G H σ D hB hg (l.sub q) k⟩
theorem BV.nxs {Γ2 : List Slot} (h : BV X Γ sts (.nx Γ')) (q : Sb Γ' Γ2) : BV X Γ sts (.nx Γ2) := ⟨fun B G H σ D hB hg l k => h B G H σ D hB hg l fun G' H' g σ' l' => k G' H' g σ' (l'.sub q)⟩
theorem SV.nxs {Γ2 : List Slot} (h : SV X Γ st (.nx Γ')) (q : Sb Γ' Γ2) : SV X Γ st (.nx Γ2) := ⟨fun B G H σ D hB hg l k => h B G H σ D hB hg l fun G' H' g σ' l' => k G' H' g σ' (l'.sub q)⟩
theorem bv_nil : BV X Γ [] (.nx Γ) := ⟨fun B G H σ D hB hg l k => wss pss_nil (k G H (Stp.refl hB hg) σ l)⟩
theorem bv_cons (h : SV X Γ st (.nx Γ')) (hr : BV X Γ' sts o) : BV X Γ (st :: sts) o := ⟨fun B G H σ D hB hg l k =>
  wss (pss_cons ps pss) (h B G H σ { D with nx := WSs X sts D } hB hg l fun G1 H1 g1 σ1 l1 => hr B G1 H1 σ1 D g1.b g1.gh l1 fun G2 H2 g2 => k G2 H2 (g1.trans g2))⟩
theorem bv_one (h : SV X Γ st o) : BV X Γ [st] o := ⟨fun B G H σ D hB hg l k => wss (pss_one ps) (h B G H σ D hB hg l k)⟩
/-- a statement that leaves -/
theorem bv_out (h : SV X Γ st o) (ho : o.exits) : BV X Γ (st :: sts) o := ⟨fun B G H σ D hB hg l k =>
  wss (pss_cons ps pss) (h B G H σ { D with nx := WSs X sts D } hB hg l fun G1 H1 g1 => by
    cases o with
    | nx _ => exact ho.elim
    | rt d => exact k G1 H1 g1
    | ro d => exact k G1 H1 g1
    | ex c Γ => exact k G1 H1 g1)⟩
theorem sv_pass : SV X Γ (.Pass pos) (.nx Γ) := ⟨fun B G H σ D hB hg l k => ws ps_pass (k G H (Stp.refl hB hg) σ l)⟩
theorem sv_ret {α : Type} [Rp α] {x : α} (h : EV X Γ e x) : SV X Γ (.Return (some e) pos) (.rt (dt x)) := ⟨fun B G H σ D hB hg l k =>
  ws (ps_ret pe) (h B G H σ hB hg l _ fun v G1 H1 g1 r1 => k G1 H1 (g1.step hB) v r1)⟩
theorem bv_ret {α : Type} [Rp α] {x : α} (h : EV X Γ e x) : BV X Γ (.Return (some e) pos :: sts) (.rt (dt x)) := bv_out (sv_ret h) trivial
/-- name = e -/
theorem sv_set (i : Nat) {α : Type} [Rp α] {x : α} {nm : Str} {pos' : Pos} (hN : X.N.Nodup) (h : EV X Γ e x) (hi : X.N[i]? = some nm := by rfl) (hx : L2.Loc X.env.scope nm := by first | exact Or.inl rfl | exact Or.inr rfl)
    (hs : swapsWith e (some (.Name nm pos')) pos.line X.env = pure false := by rfl) (hf : X.fn nm = true ∨ X.env.scope.names.lookup nm = some .local := by first | exact .inl rfl | exact .inr rfl) : SV X Γ (.Assign [.Name nm pos'] e pos) (.nx (Γ.set i (.v x))) := ⟨fun B G H σ D hB hg l k =>
  ws (ps_set hN hi hx pe hs hf) (h B G H σ hB hg l _ fun v G1 H1 g1 r1 => k G1 H1 (g1.step hB) _ ((l.grow g1).set (d := dt x) r1))⟩
/-- name = a new object of one's own -/
theorem sv_own (i : Nat) {τ : Type} [Ow τ] {x : τ} {nm : Str} {pos' : Pos} (hN : X.N.Nodup) (h : EN X Γ e x) (hi : X.N[i]? = some nm := by rfl) (hx : L2.Loc X.env.scope nm := by first | exact Or.inl rfl | exact Or.inr rfl)
    (hs : swapsWith e (some (.Name nm pos')) pos.line X.env = pure false := by rfl) (hf : X.fn nm = true ∨ X.env.scope.names.lookup nm = some .local := by first | exact .inl rfl | exact .inr rfl) : SV X Γ (.Assign [.Name nm pos'] e pos) (.nx (Γ.set i (.o x))) := ⟨fun B G H σ D hB hg l k =>
  ws (ps_set hN hi hx pe hs hf) (h B G H σ hB hg l _ fun v fp G1 H1 g1 hfp ok => k G1 H1 (g1.step hB) _ (l.setOwn (d := ot x) hB g1 hfp ok))⟩
/-- name op= e -/
theorem sv_aug (i : Nat) {x y z : Int} {nm : Str} {pos' : Pos} {op : Operator} {f : Int → Int → Int} (hN : X.N.Nodup) (ho : PIp X op (ipI f)) (h0 : Γ[i]? = some (.v x)) (h : EV X Γ e y) (hz : f x y = z := by rfl) (hi : X.N[i]? = some nm := by rfl) (hx : L2.Loc X.env.scope nm := by first | exact Or.inl rfl | exact Or.inr rfl)
    (hf : X.fn nm = true ∨ X.env.scope.names.lookup nm = some .local := by first | exact .inl rfl | exact .inr rfl) : SV X Γ (.AugAssign (.Name nm pos') op e pos) (.nx (Γ.set i (.v z))) := ⟨fun B G H σ D hB hg l k => by
  obtain ⟨v, e1, r⟩ := l.val h0
  have r' : v = V.int x := r
  subst r'
  refine ws (ps_aug hN hi hx pe ho hf) ⟨.int x, e1, h B G H σ hB hg l _ fun u G1 H1 g1 r1 => ⟨x, y, rfl, r1, ?_⟩⟩
  subst hz
  exact k G1 H1 (g1.step hB) _ ((l.grow g1).set (d := dt (f x y)) rfl)⟩
/-- an expression alone -/
theorem sv_drop {α : Type} [Rp α] {x : α} (h : EV X Γ e x) (hs : swapsWith e none pos.line X.env = pure false := by rfl) : SV X Γ (.Expr e pos) (.nx Γ) := ⟨fun B G H σ D hB hg l k =>
  ws (ps_expr pe hs) (h B G H σ hB hg l _ fun v G1 H1 g1 r1 => k G1 H1 (g1.step hB) σ (l.grow g1))⟩
/-- xs.append(e); hp by pe_bm PySem.F.plainAttrs_list PySem.F.slot_list_append PySem.F.type_list_append mt_append (pv i) (pa_cons pe pa_nil) -/
theorem sv_app (i : Nat) {α : Type} [Rp α] {xs : List α} {x : α} {c e : Expr} (hp : PE X c (tBM X.K "list" rAppend (tVar i) (tCons (WE X e) tNil))) (h0 : Γ[i]? = some (.l xs)) (h : EV X Γ e x) (hz : xs.length < 10000000) (hs : swapsWith c none pos.line X.env = pure false := by rfl) :
    SV X Γ (.Expr c pos) (.nx (Γ.set i (.l (xs ++ [x])))) := ⟨fun B G H σ D hB hg l k => by
  obtain ⟨F, p, vs, lf, hF, e1, hbp, hgp, hh, r⟩ := ownL l h0
  refine ws (ps_expr hp hs) ⟨_, e1, .inl ⟨rfl, _, .inl (.inl hh)⟩, ?_⟩
  refine h B G H σ hB hg l _ fun v G1 H1 g1 r1 => ?_
  refine ⟨p, vs, v, rfl, rfl, g1.h _ _ hh, by rw [r.len]; exact Nat.lt_of_lt_of_le hz (by decide), ?_⟩
  have hgp1 := (g1.fr p _ hh).trans hgp
  exact k G1 _ ((g1.step hB).trans (Stp.mutL (hB.trans g1.h) g1.gh hbp hgp1)) σ ((lf.grow g1).mutL h0 hF e1 hbp hgp1 (paired_app (r.mono g1.g) (.cons r1 .nil)))⟩

/-! ### if -/
/-- both ways go on, Γ' behind -/
theorem sv_if {x : Bool} {els : List Stmt} {Γf : Bool → List Slot} (h : ET X Γ c x) (h1 : x = true → BV X Γ sts (.nx (Γf true))) (h2 : x = false → BV X Γ els (.nx (Γf false))) : SV X Γ (.If c sts els pos) (.nx (Γf x)) := ⟨fun B G H σ D hB hg l k =>
  ws (ps_if pt pss pss) (h B G H σ hB hg l _ fun G1 H1 g1 => by
    cases x with
    | true => exact h1 rfl B G1 H1 σ D (hB.trans g1.h) g1.gh (l.grow g1) fun G2 H2 g2 => k G2 H2 ((g1.step hB).trans g2)
    | false => exact h2 rfl B G1 H1 σ D (hB.trans g1.h) g1.gh (l.grow g1) fun G2 H2 g2 => k G2 H2 ((g1.step hB).trans g2))⟩
/-- an if and the rest, told way by way -/
theorem bv_if {x : Bool} {els : List Stmt} {of : Bool → Out} (h : ET X Γ c x) (h1 : x = true → BV X Γ sts (of true)) (e1 : (of true).exits) (h2 : x = false → BV X Γ (rest) (of false)) (he : els = [] := by rfl) : BV X Γ (.If c sts els pos :: rest) (of x) := ⟨fun B G H σ D hB hg l k =>
  wss (pss_cons (ps_if pt pss pss) pss) (h B G H σ hB hg l _ fun G1 H1 g1 => by
    subst he
    cases x with
    | true =>
      show WSs X sts { D with nx := WSs X rest D } σ H1
      refine h1 rfl B G1 H1 σ _ (hB.trans g1.h) g1.gh (l.grow g1) fun G2 H2 g2 => ?_
      have q := k G2 H2 ((g1.step hB).trans g2)
      generalize hof : of true = o at *
      cases o with
      | nx _ => exact e1.elim
      | rt d => exact q
      | ro d => exact q
      | ex _ _ => exact q
    | false =>
      show WSs X [] { D with nx := WSs X rest D } σ H1
      exact wss pss_nil (h2 rfl B G1 H1 σ D (hB.trans g1.h) g1.gh (l.grow g1) fun G2 H2 g2 => k G2 H2 ((g1.step hB).trans g2)))⟩
/-- the same for one outcome -/
theorem bv_ifo {x : Bool} (h : ET X Γ c x) (h1 : x = true → BV X Γ sts o) (e1 : o.exits) (h2 : x = false → BV X Γ rest o) : BV X Γ (.If c sts [] pos :: rest) o := bv_if (of := fun _ => o) h h1 e1 h2
/-- an if whose ways go on apart, to one outcome (the rest is shown for each) -/
theorem bv_if2 {x : Bool} {els : List Stmt} {Γ1 Γ2 : List Slot} (h : ET X Γ c x) (h1 : x = true → BV X Γ sts (.nx Γ1) ∧ BV X Γ1 rest o) (h2 : x = false → BV X Γ els (.nx Γ2) ∧ BV X Γ2 rest o) : BV X Γ (.If c sts els pos :: rest) o := ⟨fun B G H σ D hB hg l k =>
  wss (pss_cons (ps_if pt pss pss) pss) (h B G H σ hB hg l _ fun G1 H1 g1 => by
    cases x with
    | true =>
      obtain ⟨q1, q2⟩ := h1 rfl
      exact q1 B G1 H1 σ { D with nx := WSs X rest D } (hB.trans g1.h) g1.gh (l.grow g1) fun G2 H2 g2 σ2 l2 => q2 B G2 H2 σ2 D g2.b g2.gh l2 fun G3 H3 g3 => k G3 H3 (((g1.step hB).trans g2).trans g3)
    | false =>
      obtain ⟨q1, q2⟩ := h2 rfl
      exact q1 B G1 H1 σ { D with nx := WSs X rest D } (hB.trans g1.h) g1.gh (l.grow g1) fun G2 H2 g2 σ2 l2 => q2 B G2 H2 σ2 D g2.b g2.gh l2 fun G3 H3 g3 => k G3 H3 (((g1.step hB).trans g2).trans g3))⟩

/-! ### targets -/
/-- a value of x is bound -/
structure TV (X : Cx) (Γ : List Slot) (tg : Expr) {α : Type} [Rp α] (x : α) (Γ' : List Slot)  : Prop where
  run : ∀ (B G H : Hp) (σ : L2.St) (v : V), Same B H → Same G H → Lo X.K B G H σ Γ → Rp.rep X.K G v x → ∀ Q : L2.St → Hp → Prop, (∀ σ', Lo X.K B G H σ' Γ' → Q σ' H) → WG X tg v σ H Q
instance {X : Cx} {Γ : List Slot} {tg : Expr} {α : Type} [Rp α] {x : α} {Γ' : List Slot}  : CoeFun (TV X Γ tg x Γ') (fun _ => ∀ (B G H : Hp) (σ : L2.St) (v : V), Same B H → Same G H → Lo X.K B G H σ Γ → Rp.rep X.K G v x → ∀ Q : L2.St → Hp → Prop, (∀ σ', Lo X.K B G H σ' Γ' → Q σ' H) → WG X tg v σ H Q) := ⟨TV.run⟩
theorem tv_name (i : Nat) {α : Type} [Rp α] {x : α} {nm : Str} (hN : X.N.Nodup) (hi : X.N[i]? = some nm := by rfl) (hx : L2.Loc X.env.scope nm := by first | exact Or.inl rfl | exact Or.inr rfl) (hf : X.fn nm = true ∨ X.env.scope.names.lookup nm = some .local := by first | exact .inl rfl | exact .inr rfl) :
    TV X Γ (.Name nm pos) x (Γ.set i (.v x)) := ⟨fun B G H σ v hB hg l r Q q => wg (pg_name hN hi hx hf) (q _ (l.set (d := dt x) r))⟩
/-- several targets, one after another -/
structure TVs (X : Cx) (Γ : List Slot) (ts : List Expr) (ds : List Dat) (Γ' : List Slot)  : Prop where
  run : ∀ (B G H : Hp) (σ : L2.St) (vs : List V), Same B H → Same G H → Lo X.K B G H σ Γ → DatsOk X.K G vs ds → ∀ Q : L2.St → Hp → Prop, (∀ σ', Lo X.K B G H σ' Γ' → Q σ' H) → ∀ (pins : List (Addr × Obj)) (s : Shared) (us : List Value), Inv X pins σ H s → Vals vs us →
    wpAny (model X.prog X.w) X.A (assignInOrder ((assignEach ts X.env).map (·.2)) us) (fun _ s' => ∃ σ' H', Inv X pins σ' H' s' ∧ Q σ' H') X.xe s
instance {X : Cx} {Γ : List Slot} {ts : List Expr} {ds : List Dat} {Γ' : List Slot}  : CoeFun (TVs X Γ ts ds Γ') (fun _ => ∀ (B G H : Hp) (σ : L2.St) (vs : List V), Same B H → Same G H → Lo X.K B G H σ Γ → DatsOk X.K G vs ds → ∀ Q : L2.St → Hp → Prop, (∀ σ', Lo X.K B G H σ' Γ' → Q σ' H) → ∀ (pins : List (Addr × Obj)) (s : Shared) (us : List Value), Inv X pins σ H s → Vals vs us →
    wpAny (model X.prog X.w) X.A (assignInOrder ((assignEach ts X.env).map (·.2)) us) (fun _ s' => ∃ σ' H', Inv X pins σ' H' s' ∧ Q σ' H') X.xe s) := ⟨TVs.run⟩
theorem tvs_nil : TVs X Γ [] [] Γ := ⟨fun B G H σ vs hB hg l r Q q pins s us I rv => by
  cases r
  cases rv
  exact assignInOrder_nil ⟨σ, H, I, q σ l⟩⟩
theorem tvs_cons {α : Type} [Rp α] {x : α} {ds : List Dat} {Γ2 : List Slot} (h : TV X Γ e x Γ') (hr : TVs X Γ' es ds Γ2) (hs : (assignEach (e :: es) X.env).map (·.2) = assign e X.env :: (assignEach es X.env).map (·.2) := by rfl) : TVs X Γ (e :: es) (dt x :: ds) Γ2 := ⟨fun B G H σ vs hB hg l r Q q pins s us I rv => by
  cases r with
  | cons r1 r2 =>
    cases rv with
    | cons q1 q2 =>
      rw [hs]
      refine assignInOrder_cons (thn (h B G H σ _ hB hg l r1 (fun σ1 H1 => H1 = H ∧ Lo X.K B G H σ1 Γ') (fun σ1 l1 => ⟨rfl, l1⟩) pins s _ I q1) fun _ s1 ⟨σ1, H1, I1, eH, l1⟩ => ?_)
      subst eH
      exact hr B G _ σ1 _ hB hg l1 r2 Q q pins s1 _ I1 q2⟩
/-- what a tuple's parts are -/
class TPs (τ : Type) [Rp τ] where
  parts : τ → List Dat
  ok : ∀ {K G v x}, Rp.rep K G v x → ∃ p vs, v = V.ref p ∧ SqT K G p vs ∧ DatsOk K G vs (parts x)
instance {α : Type} [Rp α] : TPs (T1 α) := ⟨fun x => [dt x.a], fun h => by obtain ⟨p, v1, h0, hs, h1⟩ := h; exact ⟨p, _, h0, hs, .cons h1 .nil⟩⟩
instance {α β : Type} [Rp α] [Rp β] : TPs (T2 α β) := ⟨fun x => [dt x.a, dt x.b], fun h => by obtain ⟨p, v1, v2, h0, hs, h1, h2⟩ := h; exact ⟨p, _, h0, hs, .cons h1 (.cons h2 .nil)⟩⟩
instance {α β γ : Type} [Rp α] [Rp β] [Rp γ] : TPs (T3 α β γ) := ⟨fun x => [dt x.a, dt x.b, dt x.c], fun h => by obtain ⟨p, v1, v2, v3, h0, hs, h1, h2, h3⟩ := h; exact ⟨p, _, h0, hs, .cons h1 (.cons h2 (.cons h3 .nil))⟩⟩
instance {α β γ δ : Type} [Rp α] [Rp β] [Rp γ] [Rp δ] : TPs (T4 α β γ δ) := ⟨fun x => [dt x.a, dt x.b, dt x.c, dt x.d], fun h => by obtain ⟨p, v1, v2, v3, v4, h0, hs, h1, h2, h3, h4⟩ := h; exact ⟨p, _, h0, hs, .cons h1 (.cons h2 (.cons h3 (.cons h4 .nil)))⟩⟩
instance {α β γ δ ε : Type} [Rp α] [Rp β] [Rp γ] [Rp δ] [Rp ε] : TPs (T5 α β γ δ ε) := ⟨fun x => [dt x.a, dt x.b, dt x.c, dt x.d, dt x.e], fun h => by obtain ⟨p, v1, v2, v3, v4, v5, h0, hs, h1, h2, h3, h4, h5⟩ := h; exact ⟨p, _, h0, hs, .cons h1 (.cons h2 (.cons h3 (.cons h4 (.cons h5 .nil))))⟩⟩
theorem tv_tup {τ : Type} [Rp τ] [TPs τ] {x : τ} {k : Nat} (h : TVs X Γ es (TPs.parts x) Γ') (hc : X.calm = true := by rfl) (hn : (assignEach es X.env).length = (TPs.parts x).length := by rfl) (hst : (assignEach es X.env).findIdx? (·.1) = none := by rfl) : TV X Γ (.Tuple es k pos) x Γ' := ⟨fun B G H σ v hB hg l r Q q => by
  obtain ⟨p, vs, e, hs, rs⟩ := TPs.ok r
  subst e
  have hp : PGs X es (fun us σ2 H2 Q2 => us = vs ∧ σ2 = σ ∧ H2 = H ∧ ∀ σ', Lo X.K B G H σ' Γ' → Q2 σ' H) := ⟨fun pins s σ2 H2 us2 us Q2 I rv h2 => by
    obtain ⟨e1, e2, e3, q2⟩ := h2
    subst e1 e2 e3
    exact h B G _ _ _ hB hg l rs Q2 q2 pins s us I rv⟩
  exact wg (pg_tup hc hp hn hst) ⟨p, vs, rfl, seqT hg hs, rs.len, rfl, rfl, rfl, q⟩⟩
/-- target = e, a tuple's parts into names -/
theorem sv_asg {α : Type} [Rp α] {x : α} (h : EV X Γ e x) (ht : TV X Γ tg x Γ') (hs : swapsWithSole [tg] e pos.line X.env = pure false := by rfl) (hw : swappedStores [tg] e X.env = pure none := by rfl)
    (h1 : (assignEach [tg] X.env).map (·.2) = [assign tg X.env] := by rfl) : SV X Γ (.Assign [tg] e pos) (.nx Γ') := ⟨fun B G H σ D hB hg l k =>
  ws (ps_asg pe pg hs hw h1) (h B G H σ hB hg l _ fun v G1 H1 g1 r1 => ht B G1 H1 σ v (hB.trans g1.h) g1.gh (l.grow g1) r1 _ fun σ' l' => k G1 H1 (g1.step hB) σ' l')⟩

/-! ### what is walked -/
/-- the iterator gives xs, while what is known in G1 stands -/
def Iters {α : Type} [Rp α] (K : PySem.W.Frag) (J : It) (G1 : Hp) (xs : List α) : Prop :=
  (∀ i G2 H2, Same G1 G2 → Same G2 H2 → i < xs.length → J.go i H2 ∧ ∀ v H3, J.yld i H2 v H3 → ∃ G3 x, Grow G2 H2 G3 H3 ∧ xs[i]? = some x ∧ Rp.rep K G3 v x) ∧ ∀ G2 H2, Same G1 G2 → Same G2 H2 → J.stop xs.length H2
structure IV (X : Cx) (Γ : List Slot) (tg iter : Expr) {α : Type} [Rp α] (xs : List α)  : Prop where
  run : ∀ (B G H : Hp) (σ : L2.St), Same B H → Same G H → Lo X.K B G H σ Γ → ∀ R : It → Hp → Prop, (∀ J G1 H1, Grow G H G1 H1 → Iters X.K J G1 xs → R J H1) → WI X tg iter σ H R
instance {X : Cx} {Γ : List Slot} {tg iter : Expr} {α : Type} [Rp α] {xs : List α}  : CoeFun (IV X Γ tg iter xs) (fun _ => ∀ (B G H : Hp) (σ : L2.St), Same B H → Same G H → Lo X.K B G H σ Γ → ∀ R : It → Hp → Prop, (∀ J G1 H1, Grow G H G1 H1 → Iters X.K J G1 xs → R J H1) → WI X tg iter σ H R) := ⟨IV.run⟩
theorem iters_list {α : Type} [Rp α] {K : PySem.W.Frag} {G : Hp} {p : Addr} {vs : List V} {xs : List α} (hs : SqL K G p vs) (r : Reps K G vs xs) : Iters K (Itl K p) G xs := by
  refine ⟨fun i G2 H2 g h hi => ?_, fun G2 H2 g h => ⟨vs, Same.seq (g.trans h) hs, by rw [r.len]; exact Nat.le_refl _⟩⟩
  obtain ⟨v, hv, rv⟩ := paired_get2 r i xs[i] (List.getElem?_eq_getElem hi)
  refine ⟨⟨vs, v, Same.seq (g.trans h) hs, hv⟩, fun u H3 hy => ?_⟩
  obtain ⟨e, hy⟩ := hy
  subst e
  have e2 := hy vs (Same.seq (g.trans h) hs)
  rw [hv] at e2
  cases e2
  exact ⟨G2, xs[i], Grow.refl h, List.getElem?_eq_getElem hi, Rp.mono g rv⟩
theorem iv_list {α : Type} [Rp α] {xs : List α} (h : EV X Γ iter xs) : IV X Γ tg iter xs := ⟨fun B G H σ hB hg l R q =>
  wi (pi_list pe) (h B G H σ hB hg l _ fun v G1 H1 g1 r1 => by
    obtain ⟨p, vs, e, hs, r⟩ := r1
    exact ⟨p, e, ⟨vs, Same.seq g1.gh hs⟩, q _ G1 H1 g1 (iters_list hs r)⟩)⟩
/-- lo, lo + 1, .., n of them -/
def iseq (lo : Int) (n : Nat) : List Int := (List.range n).map fun (i : Nat) => lo + (i : Int)
theorem iseq_len (lo : Int) (n : Nat) : (iseq lo n).length = n := by simp [iseq]
theorem iseq_get {lo : Int} {n i : Nat} (h : i < n) : (iseq lo n)[i]? = some (lo + (i : Int)) := by simp [iseq, h]
theorem iters_range {K : PySem.W.Frag} {G : Hp} {lo : Int} {n : Nat} : Iters K (Itr lo n) G (iseq lo n) := by
  refine ⟨fun i G2 H2 g h hi => ?_, fun G2 H2 g h => by rw [iseq_len]; exact Nat.le_refl _⟩
  rw [iseq_len] at hi
  refine ⟨hi, fun v H3 hy => ?_⟩
  obtain ⟨e1, e2⟩ := hy
  subst e1 e2
  exact ⟨G2, _, Grow.refl h, iseq_get hi, rfl⟩
theorem iv_range1 {p : Pos} {n : Int} (hm : X.mg "range" = none) (h : EV X Γ a n) (hb : n < 2 ^ 62) (hb2 : -(2 ^ 62) ≤ n) (hg : Gl X "range" := by rfl) (hs : starEach [a] X.env = [(false, eval a X.env)] := by rfl) (hs1 : starEach [a] X.env = (false, eval a X.env) :: starEach [] X.env := by rfl) : IV X Γ tg (.Call (.Name "range" p) [a] [] pos) (iseq 0 n.toNat) := ⟨fun B G H σ hB hgh l R q =>
  wi (pi_range1 hg hm pa hs) (ea_cons h ea_nil hs1 B G H σ hB hgh l _ fun vs G1 H1 g1 r1 => by
    cases r1 with | cons r1 t => cases t; exact ⟨n, by rw [show _ = V.int n from r1], hb2, hb, q _ G1 H1 g1 iters_range⟩)⟩
theorem iv_range2 {p : Pos} {m n : Int} (hm : X.mg "range" = none) (h : EV X Γ a m) (h2 : EV X Γ b n) (hb : -(2 ^ 62) ≤ m ∧ m < 2 ^ 62 ∧ -(2 ^ 62) ≤ n ∧ n < 2 ^ 62) (hg : Gl X "range" := by rfl) (hs : starEach [a, b] X.env = [(false, eval a X.env), (false, eval b X.env)] := by rfl) (hs2 : starEach [b] X.env = [(false, eval b X.env)] := by rfl)
    (hs3 : starEach [a, b] X.env = (false, eval a X.env) :: starEach [b] X.env := by rfl) (hs4 : starEach [b] X.env = (false, eval b X.env) :: starEach [] X.env := by rfl) : IV X Γ tg (.Call (.Name "range" p) [a, b] [] pos) (iseq m (n - m).toNat) := ⟨fun B G H σ hB hgh l R q =>
  wi (pi_range2 hg hm pa hs hs2) (ea_cons h (ea_cons h2 ea_nil hs4) hs3 B G H σ hB hgh l _ fun vs G1 H1 g1 r1 => by
    cases r1 with | cons r1 t => cases t with | cons r2 t => cases t; exact ⟨m, n, by rw [show _ = V.int m from r1, show _ = V.int n from r2], hb, q _ G1 H1 g1 iters_range⟩)⟩

/-! ### for -/
/-- the end of a loop: it goes on with s, or it hands back r -/
inductive LR (τ ρ : Type) where
  | go (s : τ)
  | re (r : ρ)
def runL {τ α ρ : Type} (f : τ → α → LR τ ρ) : τ → List α → LR τ ρ
  | s, [] => .go s
  | s, x :: r => match f s x with
    | .go s' => runL f s' r
    | .re y => .re y
def LR.out {τ ρ : Type} [Rp ρ] (Env : τ → List Slot) : LR τ ρ → Out
  | .go s => .nx (Env s)
  | .re r => .rt (dt r)
theorem runL_app {τ α ρ : Type} (f : τ → α → LR τ ρ) : ∀ (s : τ) (xs ys : List α), runL f s (xs ++ ys) = match runL f s xs with
    | .go s' => runL f s' ys
    | .re y => .re y
  | s, [], ys => rfl
  | s, x :: r, ys => by
    show (match f s x with | .go s' => runL f s' (r ++ ys) | .re y => .re y) = _
    show _ = match (match f s x with | .go s' => runL f s' r | .re y => .re y) with | .go s' => runL f s' ys | .re y => .re y
    cases f s x with
    | go s' => exact runL_app f s' r ys
    | re y => rfl
theorem runL_go {τ α ρ : Type} (f : τ → α → τ) : ∀ (s : τ) (xs : List α), runL (ρ := ρ) (fun s x => .go (f s x)) s xs = .go (xs.foldl f s)
  | s, [] => rfl
  | s, x :: r => runL_go f (f s x) r
/-- for: with state s the slots are Env s; a turn upon x binds it (Γ1), the body comes to f s x -/
theorem sv_forL {α τ ρ : Type} [Rp α] [Rp ρ] {xs : List α} {body : List Stmt} (Env : τ → List Slot) (s0 : τ) (f : τ → α → LR τ ρ) (h : IV X Γ tg iter xs) (h0 : Sb Γ (Env s0)) (Γ1 : τ → α → List Slot) (ht : ∀ s x, TV X (Env s) tg x (Γ1 s x))
    (hb : ∀ pre x post s, xs = pre ++ x :: post → runL f s0 pre = .go s → BV X (Γ1 s x) body (LR.out Env (f s x))) (hp : PassesOwn (model X.prog X.w) X.A X.env X.xe) (hc : X.calm = true := by rfl) (hs : ∀ x, foldedSetIterable iter X.env x = pure x := by intro _; rfl) (ho : LR.out Env (runL f s0 xs) = o := by exact rfl) :
    SV X Γ (.For tg iter body [] pos) o := ⟨fun B G H σ D hB hg l k => by
  subst ho
  refine ws (ps_for hp hc pi pg pss hs) (h B G H σ hB hg l _ fun J G1 H1 g1 hJ => ?_)
  have st1 := g1.step hB
  refine ⟨fun i m σ' H' => m = xs.length - i ∧ i ≤ xs.length ∧ ∃ s G', runL f s0 (xs.take i) = .go s ∧ Stp B G1 G' H' ∧ Lo X.K B G' H' σ' (Env s), ⟨xs.length, by simp, Nat.zero_le _, s0, G1, rfl, Stp.refl st1.b g1.gh, (l.grow g1).sub h0⟩, ?_⟩
  rintro i m σ' H' ⟨rfl, hi, s, G', e, st, lo⟩
  by_cases hlt : i < xs.length
  · obtain ⟨hgo, hy⟩ := hJ.1 i G' H' st.g st.gh hlt
    refine .inr ⟨hgo, fun σ2 H2 => ∃ s2 G2, runL f s0 (xs.take (i + 1)) = .go s2 ∧ Stp B G1 G2 H2 ∧ Lo X.K B G2 H2 σ2 (Env s2), fun σ2 H2 ⟨s2, G2, e2, st2, lo2⟩ => ⟨xs.length - (i + 1), by omega, rfl, hlt, s2, G2, e2, st2, lo2⟩, fun v H3 hv => ?_⟩
    obtain ⟨G3, x, g3, hx, rx⟩ := hy v H3 hv
    have st3 := st.trans (g3.step st.b)
    have ex : xs = xs.take i ++ x :: xs.drop (i + 1) := by
      have h1 : xs[i] = x := by rw [List.getElem?_eq_getElem hlt] at hx; exact Option.some.inj hx
      rw [← h1, List.getElem_cons_drop, List.take_append_drop]
    refine ht s x B G3 H3 σ' v st3.b st3.gh (lo.grow g3) rx _ fun σ4 l4 => ?_
    refine hb _ x _ s ex e B G3 H3 σ4 _ st3.b st3.gh l4 fun G5 H5 st5 => ?_
    have et : xs.take (i + 1) = xs.take i ++ [x] := by
      rw [List.take_add_one, hx]; rfl
    have e2 : runL f s0 (xs.take (i + 1)) = f s x := by
      rw [et, runL_app, e]
      show (match f s x with | .go s' => runL f s' [] | .re y => .re y) = f s x
      cases f s x <;> rfl
    cases hf : f s x with
    | go s2 =>
      intro σ6 l6
      rw [hf] at e2
      exact ⟨s2, G5, e2, st3.trans st5, l6⟩
    | re r =>
      intro v6 r6
      rw [hf] at e2
      have e3 : runL f s0 xs = .re r := by
        conv => lhs; rw [← List.take_append_drop (i + 1) xs]
        rw [runL_app, e2]
      have q := k G5 H5 ((st1.trans st3).trans st5)
      rw [e3] at q
      exact q v6 r6
  · have ei : i = xs.length := by omega
    subst ei
    rw [List.take_length] at e
    refine .inl ⟨hJ.2 G' H' st.g st.gh, ?_⟩
    have q := k G' H' (st1.trans st)
    rw [e] at q
    exact q σ' lo⟩
/-- for without a return -/
theorem sv_for {α τ : Type} [Rp α] {xs : List α} {body : List Stmt} (Env : τ → List Slot) (s0 : τ) (f : τ → α → τ) (h : IV X Γ tg iter xs) (h0 : Sb Γ (Env s0)) (Γ1 : τ → α → List Slot) (ht : ∀ s x, TV X (Env s) tg x (Γ1 s x))
    (hb : ∀ pre x post s, xs = pre ++ x :: post → pre.foldl f s0 = s → BV X (Γ1 s x) body (.nx (Env (f s x)))) (hp : PassesOwn (model X.prog X.w) X.A X.env X.xe) (hc : X.calm = true := by rfl) (hs : ∀ x, foldedSetIterable iter X.env x = pure x := by intro _; rfl) (ho : .nx (Env (xs.foldl f s0)) = o := by exact rfl) :
    SV X Γ (.For tg iter body [] pos) o := by
  subst ho
  have q := sv_forL (ρ := Int) (pos := pos) Env s0 (fun s x => .go (f s x)) h h0 Γ1 ht (fun pre x post s e1 e2 => hb pre x post s e1 (by rw [runL_go] at e2; exact LR.go.inj e2)) hp hc hs
  rw [runL_go] at q
  exact q

/-! ### a def's promise -/
/-- the arguments' slots -/
def slots (ds : List Dat) (n : Nat) : List Slot := ds.map Slot.val ++ List.replicate (n - ds.length) .any
theorem dats_get {K : PySem.W.Frag} {G : Hp} : ∀ {vs : List V} {ds : List Dat}, DatsOk K G vs ds → ∀ (i : Nat) (d : Dat), ds[i]? = some d → ∃ v, vs[i]? = some v ∧ d.rep K G v
  | _, _, .nil, i, d, e => by simp at e
  | _, _, .cons r1 t, 0, d, e => by simp at e; subst e; exact ⟨_, by simp, r1⟩
  | _, _, .cons r1 t, n + 1, d, e => by
    obtain ⟨v, h1, h2⟩ := dats_get t n d (by simpa using e)
    exact ⟨v, by simpa using h1, h2⟩
theorem lo_start {K : PySem.W.Frag} {G H : Hp} {N : List Str} {vs : List V} {ds : List Dat} (r : DatsOk K G vs ds) : Lo K H G H (L2.start N vs) (slots ds N.length) := by
  have hl := r.len
  have noown : ∀ (i : Nat) (s : Slot), (slots ds N.length)[i]? = some s → s.isOwn = false := fun i s e => by
    unfold slots at e
    by_cases h1 : i < ds.length
    · rw [List.getElem?_append_left (by simpa using h1)] at e
      simp only [List.getElem?_map, Option.map_eq_some_iff] at e
      obtain ⟨d, _, e⟩ := e
      subst e
      rfl
    · rw [List.getElem?_append_right (by simpa using h1)] at e
      simp only [List.getElem?_replicate] at e
      split at e
      · cases e; rfl
      · cases e
  refine ⟨fun _ => [], by simp [L2.start, slots, hl], fun i s e => ?_, fun i j s t _ hi _ hs _ => by rw [noown i s hi] at hs; cases hs⟩
  unfold slots at e
  unfold L2.start
  by_cases hi : i < ds.length
  · rw [List.getElem?_append_left (by simpa using hi)] at e
    rw [List.getElem?_append_left (by simpa [hl] using hi)]
    simp only [List.getElem?_map, Option.map_eq_some_iff] at e
    obtain ⟨d, hd, e⟩ := e
    subst e
    obtain ⟨v, hv, rv⟩ := dats_get r i d hd
    exact ⟨some v, by simp [hv], v, rfl, rv⟩
  · rw [List.getElem?_append_right (by simpa using hi)] at e
    rw [List.getElem?_append_right (by simpa [hl] using hi)]
    simp only [List.getElem?_replicate, List.length_map] at e
    split at e
    · rename_i h2
      cases e
      refine ⟨none, ?_, trivial⟩
      simp only [List.getElem?_replicate, List.length_map]
      rw [if_pos (by omega)]
    · cases e
end
section
variable {P : Program} {w : World} {K : PySem.W.Frag} {mg : Str → Option Value} {base : Heap}
/-- THE RULE: a def that raises nothing, by what its body comes to -/
theorem fn_pure {x qual : Str} {st : Stmt} {f : Addr} {fd : FuncData} {N ps : List Str} {k : Nat} {R : List Dat → Dat → Prop} (F : Fun K x qual st f fd) (S : FnScope N ps (defScope st)) (len : ∀ ds d, R ds d → ds.length = ps.length)
    (body : ∀ (cdv : Value) (A : Around) (outer : List Env) (s : Shared) (H : Hp) (E : XK) (ds : List Dat) (d : Dat), Room k (A.deeper (envOfC qual (defScope st) s.heap.objs.size f cdv)) → R ds d →
      BV (cxOf CX0 P w K mg base N qual (defScope st) f cdv A outer s H E).nox (slots ds N.length) (defBody st) (.rt d)) : FnOk P w K mg base CX0 (k + 1) f fd ps (PSp K R) :=
  F.ok S (fun vs H Q E h => by
    obtain ⟨G, ds, d, _, r, hR, _⟩ := h
    rw [r.len]
    exact len ds d hR) (fun cdv A outer s H vs Q E hr h => by
    obtain ⟨G, ds, d, hg, r, hR, q⟩ := h
    exact ⟨_, pss, body cdv A outer s H E ds d hr hR H G H (L2.start N vs) _ (Same.refl _) hg (lo_start r) fun G' H' st v rv => q v G' H' ⟨st.g, st.b, st.gh, st.fr0⟩ rv⟩)
end
end Wl

set_option maxRecDepth 100000
set_option maxHeartbeats 2000000
namespace Wl
open PySem PySem.Spec PyProof.Rows L2
section
variable {X : Cx} {Γ Γ' : List Slot} {st : Stmt} {sts rest : List Stmt} {a b c e tg iter : Expr} {es : List Expr} {pos : Pos} {o : Out}
/-! ### a value gets a name -/
theorem bv_let {α : Type} [Rp α] {i : Nat} {x : α} {of : α → Out} (h : SV X Γ st (.nx (Γ.set i (.v x)))) (hr : ∀ y : α, y = x → BV X (Γ.set i (.v y)) rest (of y)) (ho : of x = o := by exact rfl) : BV X Γ (st :: rest) o := ho ▸ bv_cons h (hr x rfl)
/-- .. with a fact alone -/
theorem bv_gen {i : Nat} {α : Type} [Rp α] {x : α} (h : SV X Γ st (.nx (Γ.set i (.v x)))) (hr : ∀ y : α, y = x → BV X (Γ.set i (.v y)) rest o) : BV X Γ (st :: rest) o := bv_cons h (hr x rfl)

/-! ### one's own lists, known for good -/
theorem frz_same {G H : Hp} {p : Addr} {o : HO} (hg : Same G H) (hp : H p = some o) (hgp : G p = none) : Same (upd G p o) H := fun b u e => by
  by_cases hb : b = p
  · subst hb; rw [upd_same] at e; rw [← e]; exact hp
  · rw [upd_ne hb] at e; exact hg b u e
theorem same_upd {G : Hp} {p : Addr} {o : HO} (hgp : G p = none) : Same G (upd G p o) := fun b u e => by rw [upd_ne (ne_of_none e hgp)]; exact e
theorem LoF.frz {K : PySem.W.Frag} {B G H : Hp} {σ : L2.St} {F : Nat → List Addr} {i : Nat} {p : Addr} {vs : List V} {α : Type} [Rp α] {xs : List α} (l : LoF K B G H σ Γ F) (h : Γ[i]? = some (.l xs)) (hF : F i = [p]) (e1 : σ[i]? = some (some (.ref p))) (hgp : G p = none) (r : Reps K G vs xs) :
    Lo K B (upd G p (.lst vs)) H σ (Γ.set i (.v xs)) := by
  have hs : Same G (upd G p (.lst vs)) := same_upd hgp
  refine ⟨F, by simp [l.len], fun j s e => ?_, fun j k s t hjk hj hk hs' ht => ?_⟩
  · rcases set_get e with ⟨rfl, rfl, _⟩ | ⟨hij, e⟩
    · exact ⟨_, e1, .ref p, rfl, p, vs, rfl, SqL.of upd_same, r.mono hs⟩
    · obtain ⟨o, h1, h2⟩ := l.ok j s e
      refine ⟨o, h1, ?_⟩
      cases s with
      | any => trivial
      | val d => obtain ⟨v, e4, r4⟩ := h2; exact ⟨v, e4, Dat.mono hs r4⟩
      | own d =>
        obtain ⟨v, e4, hf, r4⟩ := h2
        refine ⟨v, e4, fun a ha => ?_, Odat.mono hs (fun _ _ => rfl) r4⟩
        obtain ⟨q1, q2, q3⟩ := hf a ha
        refine ⟨q1, ?_, q3⟩
        rw [upd_ne]
        · exact q2
        · intro z
          subst z
          exact l.sep i j _ _ hij h e rfl rfl a (by rw [hF]; simp) ha
  · rcases set_get hj with ⟨rfl, rfl, _⟩ | ⟨hij, hj⟩
    · cases hs'
    · rcases set_get hk with ⟨rfl, rfl, _⟩ | ⟨hik, hk⟩
      · cases ht
      · exact l.sep j k s t hjk hj hk hs' ht
/-- from here on the list at slot i is only read -/
theorem bv_frz (i : Nat) {α : Type} [Rp α] {xs : List α} (h : Γ[i]? = some (.l xs)) (hr : BV X (Γ.set i (.v xs)) sts o) : BV X Γ sts o := ⟨fun B G H σ D hB hg l k => by
  obtain ⟨F, p, vs, lf, hF, e1, hbp, hgp, hh, r⟩ := ownL l h
  refine hr B _ H σ D hB (frz_same hg hh hgp) (lf.frz h hF e1 hgp r) fun G' H' g => k G' H' ⟨g.b, (same_upd hgp).trans g.g, g.gh, fun b u e n => ?_⟩
  rw [g.fr b u e n, upd_ne (ne_of_none e hbp)]⟩
/-- data without objects -/
class Flat (α : Type) [Rp α] : Prop where
  any : ∀ {K : PySem.W.Frag} {G G' : Hp} {v : V} {x : α}, Rp.rep K G v x → Rp.rep K G' v x
instance : Flat Int := ⟨fun h => h⟩
instance : Flat Bool := ⟨fun h => h⟩
instance : Flat Str := ⟨fun h => h⟩
instance : Flat Unit := ⟨fun h => h⟩
instance {α : Type} [Rp α] [Flat α] : Flat (Option α) := ⟨fun {K G G' v x} h => by
  cases x with
  | none => exact h
  | some y => exact ⟨Flat.any h.1, h.2⟩⟩
/-- one's own list is read in an expression whose answer bears no object -/
theorem ev_frz (i : Nat) {α β : Type} [Rp α] [Rp β] [Flat β] {xs : List α} {y : β} (h : Γ[i]? = some (.l xs)) (hr : EV X (Γ.set i (.v xs)) e y) : EV X Γ e y := ⟨fun B G H σ hB hg l Q q => by
  obtain ⟨F, p, vs, lf, hF, e1, hbp, hgp, hh, r⟩ := ownL l h
  exact hr B _ H σ hB (frz_same hg hh hgp) (lf.frz h hF e1 hgp r) Q fun v G' H' g rv => q v G H' ⟨Same.refl _, g.h, hg.trans g.h, fun _ _ _ _ => rfl⟩ (Flat.any rv)⟩
theorem et_frz (i : Nat) {α : Type} [Rp α] {xs : List α} {y : Bool} (h : Γ[i]? = some (.l xs)) (hr : ET X (Γ.set i (.v xs)) e y) : ET X Γ e y := ⟨fun B G H σ hB hg l Q q => by
  obtain ⟨F, p, vs, lf, hF, e1, hbp, hgp, hh, r⟩ := ownL l h
  exact hr B _ H σ hB (frz_same hg hh hgp) (lf.frz h hF e1 hgp r) Q fun G' H' g => q G H' ⟨Same.refl _, g.h, hg.trans g.h, fun _ _ _ _ => rfl⟩⟩
/-- what is known of a value may be forgotten, a name's -/
theorem bv_forget (i : Nat) (hr : BV X (Γ.set i .any) sts o) : BV X Γ sts o := hr.sub (by
  have : ∀ (Γ : List Slot) (i : Nat), Sb Γ (Γ.set i .any) := by
    intro Γ
    induction Γ with
    | nil => intro i; exact .nil
    | cons s r ih => intro i; cases i with
      | zero => exact .any (Sb.refl r)
      | succ n => exact .eq (ih n)
  exact this Γ i)

/-! ### isinstance -/
structure TyN where
  n : String
instance : Rp TyN := ⟨fun _ _ v x => v = .ty x.n, fun _ h => h⟩
theorem ev_tyn {x : Str} {T : String} (hm : X.mg x = none) (hv : bootBuiltins x = some (.type T)) (hg : Gl X x := by rfl) (hn : x ≠ "__name__" := by decide) (hd : (x == ("__debug__" : Str)) = false := by decide) : EV X Γ (.Name x pos) (TyN.mk T) := ⟨fun B G H σ hB hgh l Q q =>
  we (pe_bltn (v := .ty T) hg hm hv rfl hn hd) (q _ G H (Grow.refl hgh) rfl)⟩
/-- data of one built-in type -/
class Ty1 (α : Type) [Rp α] where
  t : String
  ok : ∀ {K : PySem.W.Frag} {G : Hp} {v : V} {x : α}, Rp.rep K G v x → TyX K G v (.type t)
theorem tyL {K : PySem.W.Frag} {G : Hp} {p : Addr} {vs : List V} (h : SqL K G p vs) : TyX K G (.ref p) (.type "list") := by
  rcases h with (h | ⟨o, h⟩) | ⟨o, its, n, h, hc, _⟩
  · exact .base (.lst h)
  · exact .base (.frz h)
  · exact .kList h hc
theorem tyT {K : PySem.W.Frag} {G : Hp} {p : Addr} {vs : List V} (h : SqT K G p vs) : TyX K G (.ref p) (.type "tuple") := by
  rcases h with (h | ⟨o, h⟩) | ⟨o, its, n, h, hc, _⟩
  · exact .base (.tup h)
  · exact .fTuple h
  · exact .kTuple h hc
theorem TyOf.mono {K : PySem.W.Frag} {G G' : Hp} {v : V} {t : Value} (e : Same G G') (h : TyOf K G v t) : TyOf K G' v t := by
  cases h with
  | non => exact .non
  | bl x => exact .bl x
  | int x => exact .int x
  | str x => exact .str x
  | flt x => exact .flt x
  | lst h => exact .lst (e _ _ h)
  | frz h => exact .frz (e _ _ h)
  | tup h => exact .tup (e _ _ h)
  | dK h => exact .dK (e _ _ h)
  | dT h => exact .dT (e _ _ h)
  | ins h a b c d f => exact .ins (e _ _ h) a b c d f
theorem TyX.mono {K : PySem.W.Frag} {G G' : Hp} {v : V} {t : Value} (e : Same G G') (h : TyX K G v t) : TyX K G' v t := by
  cases h with
  | base h => exact .base (TyOf.mono e h)
  | byt b => exact .byt b
  | set h => exact .set (e _ _ h)
  | kList h c => exact .kList h c
  | kTuple h c => exact .kTuple h c
  | kDict h c => exact .kDict h c
  | fTuple h => exact .fTuple (e _ _ h)
  | fDict h => exact .fDict (e _ _ h)
instance : Ty1 Int := ⟨"int", fun {K G v x} h => by have e : v = .int x := h; subst e; exact .base (.int x)⟩
instance : Ty1 Bool := ⟨"bool", fun {K G v x} h => by have e : v = .bl x := h; subst e; exact .base (.bl x)⟩
instance : Ty1 Str := ⟨"str", fun {K G v x} h => by have e : v = .str x := h; subst e; exact .base (.str x)⟩
instance : Ty1 Unit := ⟨"NoneType", fun {K G v x} h => by have e : v = .non := h; subst e; exact .base .non⟩
instance {α : Type} [Rp α] : Ty1 (List α) := ⟨"list", fun h => by obtain ⟨p, vs, rfl, hs, _⟩ := h; exact tyL hs⟩
instance {α : Type} [Rp α] : Ty1 (T1 α) := ⟨"tuple", fun h => by obtain ⟨p, v1, rfl, hs, _⟩ := h; exact tyT hs⟩
instance {α β : Type} [Rp α] [Rp β] : Ty1 (T2 α β) := ⟨"tuple", fun h => by obtain ⟨p, v1, v2, rfl, hs, _⟩ := h; exact tyT hs⟩
instance {α β γ : Type} [Rp α] [Rp β] [Rp γ] : Ty1 (T3 α β γ) := ⟨"tuple", fun h => by obtain ⟨p, v1, v2, v3, rfl, hs, _⟩ := h; exact tyT hs⟩
instance {α β γ δ : Type} [Rp α] [Rp β] [Rp γ] [Rp δ] : Ty1 (T4 α β γ δ) := ⟨"tuple", fun h => by obtain ⟨p, v1, v2, v3, v4, rfl, hs, _⟩ := h; exact tyT hs⟩
instance {α β γ δ ε : Type} [Rp α] [Rp β] [Rp γ] [Rp δ] [Rp ε] : Ty1 (T5 α β γ δ ε) := ⟨"tuple", fun h => by obtain ⟨p, v1, v2, v3, v4, v5, rfl, hs, _⟩ := h; exact tyT hs⟩
/-- isinstance(x, T), T a built-in type -/
theorem ev_isi {α : Type} [Rp α] [Ty1 α] {x : α} {T : String} {r : Bool} {p : Pos} (hm : X.mg "isinstance" = none) (ha : EV X Γ a x) (hb : EV X Γ b (TyN.mk T)) (hr : kitB (Ty1.t α) T = some r) (hg : Gl X "isinstance" := by rfl) (hs : starEach [a, b] X.env = (false, eval a X.env) :: starEach [b] X.env := by rfl) (hs2 : starEach [b] X.env = (false, eval b X.env) :: starEach [] X.env := by rfl)
    (hpl : (backTo pos (starEach [b] X.env)).any (·.1) = false := by rfl) : EV X Γ (.Call (.Name "isinstance" p) [a, b] [] pos) r :=
  ev_cb call_isi hm (by decide +kernel) (ea_cons ha (ea_cons hb ea_nil hs2) hs) (fun G H vs hgh r1 Q q => by
    cases r1 with | cons r1 t => cases t with | cons r2 t => cases t; exact ⟨_, _, _, _, r, rfl, by rw [show _ = V.ty T from r2]; exact .ty T, TyX.mono hgh (Ty1.ok r1), kit_ty hr, q _ G H (Grow.refl hgh) rfl⟩) hg (by decide) (by decide) hs hpl

end
/-! ### == of data -/
class DEq (α : Type) [Rp α] where
  toD : α → PyData
  dp : ∀ {K : PySem.W.Frag} {G : Hp} {v : V} {x : α}, Rp.rep K G v x → Dp K G v (toD x)
  n : Nat
  ok : α → Prop
  lay : ∀ x, ok x → (toD x).canLay0 = true
  dep : ∀ x, (toD x).depth ≤ n
  eqv : ∀ x y, PyData.eqv (toD x) (toD y) = true ↔ x = y
instance : DEq Int := ⟨.int, fun {K G v x} h => by have e : v = .int x := h; subst e; exact .int x, 0, fun _ => True, fun x _ => rfl, fun x => Nat.le_refl _, fun x y => by simp [PyData.eqv]⟩
instance : DEq Bool := ⟨.bool, fun {K G v x} h => by have e : v = .bl x := h; subst e; exact .bl x, 0, fun _ => True, fun x _ => rfl, fun x => Nat.le_refl _, fun x y => by simp [PyData.eqv]⟩
instance : DEq Str := ⟨.str, fun {K G v x} h => by have e : v = .str x := h; subst e; exact .str x, 0, fun x => PyData.strOk x = true, fun x h => h, fun x => Nat.le_refl _, fun x y => by simp [PyData.eqv]⟩
def allD {α : Type} (f : α → PyData) (xs : List α) : List PyData := xs.map f
theorem dpAll {α : Type} [Rp α] [DEq α] {K : PySem.W.Frag} {G : Hp} : ∀ {vs : List V} {xs : List α}, Reps K G vs xs → DpAll K G vs (xs.map DEq.toD)
  | _, _, .nil => .nil
  | _, _, .cons r t => .cons (DEq.dp r) (dpAll t)
theorem layAll {α : Type} [Rp α] [DEq α] : ∀ {xs : List α}, (∀ x ∈ xs, DEq.ok x) → PyData.canLayAll0 (xs.map DEq.toD) = true
  | [], _ => rfl
  | x :: r, h => by
    show ((DEq.toD x).canLay0 && PyData.canLayAll0 (r.map DEq.toD)) = true
    rw [DEq.lay x (h x (by simp)), layAll (fun y hy => h y (by simp [hy]))]
    rfl
theorem depAll {α : Type} [Rp α] [DEq α] : ∀ (xs : List α), PyData.depthAll (xs.map DEq.toD) ≤ DEq.n α
  | [] => Nat.zero_le _
  | x :: r => by
    show max (DEq.toD x).depth (PyData.depthAll (r.map DEq.toD)) ≤ _
    exact Nat.max_le.mpr ⟨DEq.dep x, depAll r⟩
theorem eqvAll' {α : Type} [Rp α] [DEq α] : ∀ (xs ys : List α), PyData.eqvAll (xs.map DEq.toD) (ys.map DEq.toD) = true ↔ xs = ys
  | [], [] => by simp [PyData.eqvAll]
  | [], y :: ys => by simp [PyData.eqvAll]
  | x :: xs, [] => by simp [PyData.eqvAll]
  | x :: xs, y :: ys => by
    have h := eqvAll' xs ys
    simp only [List.map_cons, PyData.eqvAll, Bool.and_eq_true, DEq.eqv, h, List.cons.injEq]
instance {α : Type} [Rp α] [DEq α] : DEq (List α) := ⟨fun xs => .list (xs.map DEq.toD), fun h => by obtain ⟨p, vs, rfl, hs, r⟩ := h; exact .lst hs (dpAll r), DEq.n α + 1, fun xs => ∀ x ∈ xs, DEq.ok x, fun xs h => layAll h, fun xs => Nat.succ_le_succ (depAll xs), fun xs ys => by
  show PyData.eqvAll _ _ = true ↔ _
  exact eqvAll' xs ys⟩
instance {α : Type} [Rp α] [DEq α] : DEq (T1 α) := ⟨fun x => .tuple [DEq.toD x.a], fun h => by obtain ⟨p, v1, rfl, hs, h1⟩ := h; exact .tup hs (.cons (DEq.dp h1) .nil), DEq.n α + 1, fun x => DEq.ok x.a, fun x h => by
  show (_ && true) = true
  rw [DEq.lay _ h] <;> rfl, fun x => by
  show max _ 0 + 1 ≤ _
  have := DEq.dep x.a
  omega, fun x y => by
  cases x; cases y
  simp [PyData.eqv, PyData.eqvAll, DEq.eqv]⟩
instance {α β : Type} [Rp α] [Rp β] [DEq α] [DEq β] : DEq (T2 α β) := ⟨fun x => .tuple [DEq.toD x.a, DEq.toD x.b], fun h => by obtain ⟨p, v1, v2, rfl, hs, h1, h2⟩ := h; exact .tup hs (.cons (DEq.dp h1) (.cons (DEq.dp h2) .nil)), max (DEq.n α) (DEq.n β) + 1, fun x => DEq.ok x.a ∧ DEq.ok x.b, fun x h => by
  show (_ && (_ && true)) = true
  rw [DEq.lay _ h.1, DEq.lay _ h.2] <;> rfl, fun x => by
  show max _ (max _ 0) + 1 ≤ _
  have := DEq.dep x.a
  have := DEq.dep x.b
  omega, fun x y => by
  cases x; cases y
  simp [PyData.eqv, PyData.eqvAll, DEq.eqv]⟩
instance {α β γ : Type} [Rp α] [Rp β] [Rp γ] [DEq α] [DEq β] [DEq γ] : DEq (T3 α β γ) := ⟨fun x => .tuple [DEq.toD x.a, DEq.toD x.b, DEq.toD x.c], fun h => by obtain ⟨p, v1, v2, v3, rfl, hs, h1, h2, h3⟩ := h; exact .tup hs (.cons (DEq.dp h1) (.cons (DEq.dp h2) (.cons (DEq.dp h3) .nil))), max (DEq.n α) (max (DEq.n β) (DEq.n γ)) + 1, fun x => DEq.ok x.a ∧ DEq.ok x.b ∧ DEq.ok x.c, fun x h => by
  show (_ && (_ && (_ && true))) = true
  rw [DEq.lay _ h.1, DEq.lay _ h.2.1, DEq.lay _ h.2.2] <;> rfl, fun x => by
  show max _ (max _ (max _ 0)) + 1 ≤ _
  have := DEq.dep x.a
  have := DEq.dep x.b
  have := DEq.dep x.c
  omega, fun x y => by
  cases x; cases y
  simp [PyData.eqv, PyData.eqvAll, DEq.eqv]⟩
instance {α β γ δ : Type} [Rp α] [Rp β] [Rp γ] [Rp δ] [DEq α] [DEq β] [DEq γ] [DEq δ] : DEq (T4 α β γ δ) := ⟨fun x => .tuple [DEq.toD x.a, DEq.toD x.b, DEq.toD x.c, DEq.toD x.d], fun h => by obtain ⟨p, v1, v2, v3, v4, rfl, hs, h1, h2, h3, h4⟩ := h; exact .tup hs (.cons (DEq.dp h1) (.cons (DEq.dp h2) (.cons (DEq.dp h3) (.cons (DEq.dp h4) .nil)))), max (DEq.n α) (max (DEq.n β) (max (DEq.n γ) (DEq.n δ))) + 1, fun x => DEq.ok x.a ∧ DEq.ok x.b ∧ DEq.ok x.c ∧ DEq.ok x.d, fun x h => by
  show (_ && (_ && (_ && (_ && true)))) = true
  rw [DEq.lay _ h.1, DEq.lay _ h.2.1, DEq.lay _ h.2.2.1, DEq.lay _ h.2.2.2] <;> rfl, fun x => by
  show max _ (max _ (max _ (max _ 0))) + 1 ≤ _
  have := DEq.dep x.a
  have := DEq.dep x.b
  have := DEq.dep x.c
  have := DEq.dep x.d
  omega, fun x y => by
  cases x; cases y
  simp [PyData.eqv, PyData.eqvAll, DEq.eqv]⟩
instance {α β γ δ ε : Type} [Rp α] [Rp β] [Rp γ] [Rp δ] [Rp ε] [DEq α] [DEq β] [DEq γ] [DEq δ] [DEq ε] : DEq (T5 α β γ δ ε) := ⟨fun x => .tuple [DEq.toD x.a, DEq.toD x.b, DEq.toD x.c, DEq.toD x.d, DEq.toD x.e], fun h => by obtain ⟨p, v1, v2, v3, v4, v5, rfl, hs, h1, h2, h3, h4, h5⟩ := h; exact .tup hs (.cons (DEq.dp h1) (.cons (DEq.dp h2) (.cons (DEq.dp h3) (.cons (DEq.dp h4) (.cons (DEq.dp h5) .nil))))), max (DEq.n α) (max (DEq.n β) (max (DEq.n γ) (max (DEq.n δ) (DEq.n ε)))) + 1, fun x => DEq.ok x.a ∧ DEq.ok x.b ∧ DEq.ok x.c ∧ DEq.ok x.d ∧ DEq.ok x.e, fun x h => by
  show (_ && (_ && (_ && (_ && (_ && true))))) = true
  rw [DEq.lay _ h.1, DEq.lay _ h.2.1, DEq.lay _ h.2.2.1, DEq.lay _ h.2.2.2.1, DEq.lay _ h.2.2.2.2] <;> rfl, fun x => by
  show max _ (max _ (max _ (max _ (max _ 0)))) + 1 ≤ _
  have := DEq.dep x.a
  have := DEq.dep x.b
  have := DEq.dep x.c
  have := DEq.dep x.d
  have := DEq.dep x.e
  omega, fun x y => by
  cases x; cases y
  simp [PyData.eqv, PyData.eqvAll, DEq.eqv]⟩
/-- data without texts -/
class OkAll (α : Type) [Rp α] [DEq α] : Prop where
  all : ∀ x : α, DEq.ok x
instance : OkAll Int := ⟨fun _ => trivial⟩
instance : OkAll Bool := ⟨fun _ => trivial⟩
instance {α : Type} [Rp α] [DEq α] [OkAll α] : OkAll (List α) := ⟨fun _ x _ => OkAll.all x⟩
instance {α : Type} [Rp α] [DEq α] [OkAll α] : OkAll (T1 α) := ⟨fun x => OkAll.all x.a⟩
instance {α β : Type} [Rp α] [Rp β] [DEq α] [DEq β] [OkAll α] [OkAll β] : OkAll (T2 α β) := ⟨fun x => ⟨OkAll.all x.a, OkAll.all x.b⟩⟩
instance {α β γ : Type} [Rp α] [Rp β] [Rp γ] [DEq α] [DEq β] [DEq γ] [OkAll α] [OkAll β] [OkAll γ] : OkAll (T3 α β γ) := ⟨fun x => ⟨OkAll.all x.a, OkAll.all x.b, OkAll.all x.c⟩⟩
instance {α β γ δ : Type} [Rp α] [Rp β] [Rp γ] [Rp δ] [DEq α] [DEq β] [DEq γ] [DEq δ] [OkAll α] [OkAll β] [OkAll γ] [OkAll δ] : OkAll (T4 α β γ δ) := ⟨fun x => ⟨OkAll.all x.a, OkAll.all x.b, OkAll.all x.c, OkAll.all x.d⟩⟩
instance {α β γ δ ε : Type} [Rp α] [Rp β] [Rp γ] [Rp δ] [Rp ε] [DEq α] [DEq β] [DEq γ] [DEq δ] [DEq ε] [OkAll α] [OkAll β] [OkAll γ] [OkAll δ] [OkAll ε] : OkAll (T5 α β γ δ ε) := ⟨fun x => ⟨OkAll.all x.a, OkAll.all x.b, OkAll.all x.c, OkAll.all x.d, OkAll.all x.e⟩⟩
theorem Dp.mono {K : PySem.W.Frag} {G G' : Hp} (e : Same G G') {α : Type} [Rp α] [DEq α] {v : V} {x : α} (h : Rp.rep K G v x) : Dp K G' v (DEq.toD x) := DEq.dp (Rp.mono e h)
theorem shaped_of {α : Type} [Rp α] [DEq α] {x : α} (h : DEq.ok x) (hn : DEq.n α ≤ 64) : SeqAt.shaped (DEq.toD x) = true := by
  unfold SeqAt.shaped
  rw [DEq.lay x h, decide_eq_true (Nat.le_trans (DEq.dep x) hn)]
  rfl
theorem eqv_dec {α : Type} [Rp α] [DEq α] [DecidableEq α] (x y : α) : PyData.eqv (DEq.toD x) (DEq.toD y) = decide (x = y) := by
  have h := DEq.eqv x y
  by_cases e : x = y
  · rw [decide_eq_true e]; exact h.mpr e
  · rw [decide_eq_false e]
    cases q : PyData.eqv (DEq.toD x) (DEq.toD y) with
    | true => exact absurd (h.mp q) e
    | false => rfl
theorem rEqDd {α : Type} [Rp α] [DEq α] [DecidableEq α] {x y : α} {K : PySem.W.Frag} (h1 : DEq.ok x) (h2 : DEq.ok y) (hn : DEq.n α ≤ 64) : ∀ G H v u, Same G H → Rp.rep K G v x → Rp.rep K G u y → ∀ Q : VK, (∀ G' H', Grow G H G' H' → Q (.bl (decide (x = y))) H') → rEqD K v u H Q := fun G H v u hg hv hu Q q =>
  ⟨DEq.toD x, DEq.toD y, Dp.mono hg hv, Dp.mono hg hu, shaped_of h1 hn, shaped_of h2 hn, by rw [eqv_dec]; exact q G H (Grow.refl hg)⟩
theorem rNeDd {α : Type} [Rp α] [DEq α] [DecidableEq α] {x y : α} {K : PySem.W.Frag} (h1 : DEq.ok x) (h2 : DEq.ok y) (hn : DEq.n α ≤ 64) : ∀ G H v u, Same G H → Rp.rep K G v x → Rp.rep K G u y → ∀ Q : VK, (∀ G' H', Grow G H G' H' → Q (.bl (!decide (x = y))) H') → rNeD K v u H Q := fun G H v u hg hv hu Q q =>
  ⟨DEq.toD x, DEq.toD y, Dp.mono hg hv, Dp.mono hg hu, shaped_of h1 hn, shaped_of h2 hn, by rw [eqv_dec]; exact q G H (Grow.refl hg)⟩
section
variable {X : Cx} {Γ : List Slot} {a b : Expr} {pos : Pos}
theorem ev_deq {α : Type} [Rp α] [DEq α] [DecidableEq α] {x y : α} (hu : X.A.units + 64 < cLine) (ha : EV X Γ a x) (hb : EV X Γ b y) (h1 : DEq.ok x) (h2 : DEq.ok y) (hn : DEq.n α ≤ 64 := by exact Nat.le_of_ble_eq_true rfl) : EV X Γ (.Compare a [.Eq] [b] pos) (decide (x = y)) := ev_cmp (op_eqD hu) (nomark _) ha hb (rEqDd h1 h2 hn)
theorem ev_dne {α : Type} [Rp α] [DEq α] [DecidableEq α] {x y : α} (hu : X.A.units + 64 < cLine) (ha : EV X Γ a x) (hb : EV X Γ b y) (h1 : DEq.ok x) (h2 : DEq.ok y) (hn : DEq.n α ≤ 64 := by exact Nat.le_of_ble_eq_true rfl) : EV X Γ (.Compare a [.NotEq] [b] pos) (!decide (x = y)) := ev_cmp (op_neD hu) (nomark _) ha hb (rNeDd h1 h2 hn)
theorem et_deq {α : Type} [Rp α] [DEq α] [DecidableEq α] {x y : α} (hu : X.A.units + 64 < cLine) (ha : EV X Γ a x) (hb : EV X Γ b y) (h1 : DEq.ok x) (h2 : DEq.ok y) (hn : DEq.n α ≤ 64 := by exact Nat.le_of_ble_eq_true rfl) : ET X Γ (.Compare a [.Eq] [b] pos) (decide (x = y)) := et_cmp (op_eqD hu) (nomark _) ha hb (rEqDd h1 h2 hn)
theorem et_dne {α : Type} [Rp α] [DEq α] [DecidableEq α] {x y : α} (hu : X.A.units + 64 < cLine) (ha : EV X Γ a x) (hb : EV X Γ b y) (h1 : DEq.ok x) (h2 : DEq.ok y) (hn : DEq.n α ≤ 64 := by exact Nat.le_of_ble_eq_true rfl) : ET X Γ (.Compare a [.NotEq] [b] pos) (!decide (x = y)) := et_cmp (op_neD hu) (nomark _) ha hb (rNeDd h1 h2 hn)
end
end Wl

set_option maxRecDepth 100000
set_option maxHeartbeats 2000000
namespace Wl
open PySem PySem.Spec PyProof.Rows L2
section
variable {X : Cx} {Γ Γ' : List Slot} {st : Stmt} {sts rest : List Stmt} {a b c e tg iter elt : Expr} {es ifs : List Expr} {pos : Pos} {o : Out}
theorem one_new {G H H1 : Hp} {p : Addr} {o : HO} (h1 : H p = none) (h2 : G p = none) : ∀ a ∈ [p], H a = none ∧ G a = none ∧ ∃ ho, upd H1 p o a = some ho := fun a ha => by
  have e : a = p := by simpa using ha
  subst e; exact ⟨h1, h2, _, upd_same⟩
/-! ### built-in functions on lists -/
theorem ev_call1 {r : List V → Hp → VK → Prop} {id : String} {x : Str} {p : Pos} {α β : Type} [Rp α] [Rp β] {y : α} {z : β} (hc : CallR X (.builtin id) r) (hm : X.mg x = none) (hv : bootBuiltins x = some (.builtin id)) (ha : EV X Γ a y)
    (hr : ∀ G H v, Same G H → Rp.rep X.K G v y → ∀ Q : VK, (∀ w G' H', Grow G H G' H' → Rp.rep X.K G' w z → Q w H') → r [v] H Q) (hg : Gl X x := by rfl) (hn : x ≠ "__name__" := by decide) (hdb : (x == ("__debug__" : Str)) = false := by decide)
    (he : starEach [a] X.env = (false, eval a X.env) :: starEach [] X.env := by rfl) (hpl : (backTo pos (starEach [] X.env)).any (·.1) = false := by rfl) : EV X Γ (.Call (.Name x p) [a] [] pos) z :=
  ev_cb hc hm hv (ea_cons ha ea_nil he) (fun G H vs hgh r1 Q q => by cases r1 with | cons r1 t => cases t; exact hr G H _ hgh r1 Q q) hg hn hdb he hpl
theorem ev_sum {p : Pos} {ns : List Int} (hc : X.calm = true) (hm : X.mg "sum" = none) (ha : EV X Γ a ns) (hg : Gl X "sum" := by rfl) (he : starEach [a] X.env = (false, eval a X.env) :: starEach [] X.env := by rfl) (hpl : (backTo pos (starEach [] X.env)).any (·.1) = false := by rfl) : EV X Γ (.Call (.Name "sum" p) [a] [] pos) ns.sum :=
  ev_call1 (cr_sum hc) hm (by decide +kernel) ha (fun G H v hgh r Q q => by
    obtain ⟨p, vs, rfl, hs, hr⟩ := r
    rw [hr.ints] at hs
    exact ⟨p, ns, rfl, Same.seq hgh hs, q _ G H (Grow.refl hgh) rfl⟩) hg (by decide) (by decide) he hpl
theorem ev_len {p : Pos} {α : Type} [Rp α] {xs : List α} (hm : X.mg "len" = none) (ha : EV X Γ a xs) (hg : Gl X "len" := by rfl) (he : starEach [a] X.env = (false, eval a X.env) :: starEach [] X.env := by rfl) (hpl : (backTo pos (starEach [] X.env)).any (·.1) = false := by rfl) : EV X Γ (.Call (.Name "len" p) [a] [] pos) (xs.length : Int) :=
  ev_call1 call_len_seq hm PySem.boot_len ha (fun G H v hgh r Q q => by
    obtain ⟨p, vs, rfl, hs, hr⟩ := r
    exact ⟨p, vs, rfl, .inl (Same.seq hgh hs), q _ G H (Grow.refl hgh) (by rw [hr.len]; rfl)⟩) hg (by decide) (by decide) he hpl
theorem ev_max {p : Pos} {ns : List Int} {m : Int} (hc : X.calm = true) (hm : X.mg "max" = none) (ha : EV X Γ a ns) (h0 : 0 < ns.length) (h1 : ∀ z, z ∈ ns → (∀ y, y ∈ ns → y ≤ z) → z = m) (hg : Gl X "max" := by rfl) (he : starEach [a] X.env = (false, eval a X.env) :: starEach [] X.env := by rfl) (hpl : (backTo pos (starEach [] X.env)).any (·.1) = false := by rfl) : EV X Γ (.Call (.Name "max" p) [a] [] pos) m :=
  ev_call1 (cr_max hc) hm (by decide +kernel) ha (fun G H v hgh r Q q => by
    obtain ⟨p, vs, rfl, hs, hr⟩ := r
    rw [hr.ints] at hs
    exact ⟨p, ns, rfl, Same.seq hgh hs, h0, fun z hz hy => by rw [h1 z hz hy]; exact q _ G H (Grow.refl hgh) rfl⟩) hg (by decide) (by decide) he hpl
theorem ev_abs {p : Pos} {n : Int} (hm : X.mg "abs" = none) (ha : EV X Γ a n) (hg : Gl X "abs" := by rfl) (he : starEach [a] X.env = (false, eval a X.env) :: starEach [] X.env := by rfl) (hpl : (backTo pos (starEach [] X.env)).any (·.1) = false := by rfl) : EV X Γ (.Call (.Name "abs" p) [a] [] pos) (if n < 0 then -n else n) :=
  ev_call1 call_abs hm (by decide +kernel) ha (fun G H v hgh r Q q => ⟨n, by rw [show v = V.int n from r], q _ G H (Grow.refl hgh) rfl⟩) hg (by decide) (by decide) he hpl
/-- list(xs) -/
theorem en_list {p : Pos} {α : Type} [Rp α] {xs : List α} (hm : X.mg "list" = none) (ha : EV X Γ a xs) (hg : Gl X "list" := by rfl) (he : starEach [a] X.env = (false, eval a X.env) :: starEach [] X.env := by rfl) (hpl : (backTo pos (starEach [] X.env)).any (·.1) = false := by rfl) : EN X Γ (.Call (.Name "list" p) [a] [] pos) (ML.mk xs) := ⟨fun B G H σ hB hgh l Q q =>
  we (pe_callTy call_list_of hg hm (by decide +kernel) pa (by decide) (by decide) he hpl) (ea_cons ha ea_nil he B G H σ hB hgh l _ fun vs G1 H1 g1 r1 => by
    cases r1 with
    | cons r1 t =>
      cases t
      obtain ⟨p, ws, rfl, hs, hr⟩ := r1
      exact ⟨p, ws, rfl, .inl (Same.seq g1.gh hs), fun l hl => q (.ref l) [l] G1 _ (g1.trans (Grow.own g1.gh hl)) (one_new (g1.h.free hl) (g1.gh.free hl)) ⟨l, ws, rfl, rfl, upd_same, hr⟩⟩)⟩
/-- a range object, handed to a call -/
structure Rg where
  lo : Int
  hi : Int
/-- xs + ys, new -/
theorem en_cat {α : Type} [Rp α] {xs ys : List α} (ha : EN X Γ a (ML.mk xs)) (hb : EN X Γ b (ML.mk ys)) (hz : xs.length + ys.length ≤ 10000000) : EN X Γ (.BinOp a .Add b pos) (ML.mk (xs ++ ys)) := ⟨fun B G H σ hB hg l Q q =>
  we (pe_op op_cat pe pe) (ha B G H σ hB hg l _ fun v fp G1 H1 g1 hf ok => hb B G1 H1 σ (hB.trans g1.h) g1.gh (l.grow g1) _ fun v2 fp2 G2 H2 g2 hf2 ok2 => by
    obtain ⟨p, vs, rfl, rfl, hh, r⟩ := ok
    obtain ⟨p2, ws, rfl, rfl, hh2, r2⟩ := ok2
    refine ⟨p, p2, vs, ws, rfl, rfl, g2.h _ _ hh, hh2, ?_, fun p3 hp3 => q (.ref p3) [p3] G2 _ ((g1.trans g2).trans (Grow.own g2.gh hp3)) (one_new ((g1.trans g2).h.free hp3) (g2.gh.free hp3)) ⟨p3, _, rfl, rfl, upd_same, paired_app (r.mono g2.g) r2⟩⟩
    have := r.len
    have := r2.len
    rw [sizeLine_eq]
    show vs.length + ws.length ≤ _
    simp only at *
    omega)⟩

/-! ### slices of lists -/
def pySlice {α : Type} (xs : List α) (lo hi st : Option Int) : List α :=
  (sliceRange (sliceBounds lo hi st xs.length).1 (sliceBounds lo hi st xs.length).2.1 (sliceBounds lo hi st xs.length).2.2).filterMap (xs[·]?)
theorem paired_pick {α β : Type} {R : α → β → Prop} {xs : List α} {ys : List β} (h : Paired R xs ys) : ∀ l : List Nat, Paired R (l.filterMap (xs[·]?)) (l.filterMap (ys[·]?))
  | [] => .nil
  | i :: r => by
    simp only [List.filterMap_cons]
    cases hx : xs[i]? with
    | none =>
      cases hy : ys[i]? with
      | none => exact paired_pick h r
      | some y =>
        obtain ⟨x, e, _⟩ := paired_get2 h i y hy
        rw [hx] at e; cases e
    | some x =>
      obtain ⟨y, e, q⟩ := paired_get h i x hx
      rw [e]
      exact .cons q (paired_pick h r)
theorem pySlice_len {α : Type} (xs : List α) (lo hi st : Option Int) : (pySlice xs lo hi st).length ≤ xs.length := by
  have h := slicePick_size_le (xs.map fun _ => Value.none).toArray lo hi st
  have e : (slicePick (xs.map fun _ => Value.none).toArray lo hi st).size = (pySlice xs lo hi st).length := by
    unfold slicePick pySlice
    simp only [List.size_toArray, List.length_map, List.getElem?_toArray, List.getElem?_map]
    generalize sliceRange (sliceBounds lo hi st xs.length).1 (sliceBounds lo hi st xs.length).2.1 (sliceBounds lo hi st xs.length).2.2 = l
    induction l with
    | nil => rfl
    | cons i r ih =>
      simp only [List.filterMap_cons]
      cases xs[i]? with
      | none => exact ih
      | some x => simp only [Option.map_some, List.length_cons, ih]
  rw [e] at h
  simpa using h
def EO (X : Cx) (Γ : List Slot) (e : Option Expr) (d : Option Int) : Prop := (e = none ∧ d = none) ∨ ∃ e' i, e = some e' ∧ d = some i ∧ EV X Γ e' i
theorem eo_none : EO X Γ none none := .inl ⟨rfl, rfl⟩
theorem eo_some {i : Int} (h : EV X Γ e i) : EO X Γ (some e) (some i) := .inr ⟨e, i, rfl, rfl, h⟩
def WO (X : Cx) (e : Option Expr) (σ : L2.St) (H : Hp) (Q : Option Int → Hp → Prop) : Prop := ∀ (pins : List (Addr × Obj)) (s : Shared), Inv X pins σ H s → wpAny (model X.prog X.w) X.A (evalPart e X.env) (fun v s' => ∃ d H', Inv X pins σ H' s' ∧ IsPart v d ∧ Q d H') X.xe s
theorem eo_run {eo : Option Expr} {d : Option Int} (h : EO X Γ eo d) {B G H : Hp} {σ : L2.St} (hB : Same B H) (hg : Same G H) (l : Lo X.K B G H σ Γ) {Q : Option Int → Hp → Prop} (q : ∀ G' H', Grow G H G' H' → Q d H') : WO X eo σ H Q := fun pins s I => by
  rcases h with ⟨rfl, rfl⟩ | ⟨e', i, rfl, rfl, h⟩
  · exact (po_none (X := X)).run pins s σ H Q I (q G H (Grow.refl hg))
  · refine (po_some (X := X) (pe (X := X) (e := e'))).run pins s σ H Q I ?_
    exact h B G H σ hB hg l _ fun v G1 H1 g1 r1 => ⟨i, r1, q G1 H1 g1⟩
/-- xs[lo:hi:st] of a list, new -/
theorem en_slice {α : Type} [Rp α] {xs : List α} {lo hi st : Option Expr} {l u k : Option Int} {p2 : Pos} (ha : EV X Γ a xs) (hl : EO X Γ lo l) (hu : EO X Γ hi u) (hk : EO X Γ st k) (h0 : k ≠ some 0)
    (hops : ∃ ops : Value → Value → List Value, ∀ o i, subscripted (.Slice lo hi st p2) false o i = operate (ops o i) (getItem o i) := by first | exact ⟨fun o i => [o, i], by intro _ _; with_unfolding_all rfl⟩ | exact ⟨fun o i => [i, o], by intro _ _; with_unfolding_all rfl⟩ | exact ⟨fun o i => [i], by intro _ _; with_unfolding_all rfl⟩) :
    EN X Γ (.Subscript a (.Slice lo hi st p2) pos) (ML.mk (pySlice xs l u k)) := ⟨fun B G H σ hB hg lo0 Q q pins s I => by
  refine Subscript_ (thn (ha B G H σ hB hg lo0 (fun v H1 => ∃ G1, Grow G H G1 H1 ∧ Rp.rep X.K G1 v xs) (fun v G1 H1 g1 r1 => ⟨G1, g1, r1⟩) pins s I) fun v s1 ⟨x, H1, I1, r1, G1, g1, p, vs, ex, hs, hr⟩ => ?_)
  subst ex
  cases r1
  refine wpAny_Slice (thn (eo_run hl (hB.trans g1.h) g1.gh (lo0.grow g1) (Q := fun d H2 => d = l ∧ ∃ G2, Grow G1 H1 G2 H2) (fun G2 H2 g2 => ⟨rfl, G2, g2⟩) pins s1 I1) fun vl s2 ⟨d2, H2, I2, pl, e2, G2, g2⟩ => ?_)
  subst e2
  refine thn (eo_run hu (hB.trans (g1.trans g2).h) g2.gh (lo0.grow (g1.trans g2)) (Q := fun d H3 => d = u ∧ ∃ G3, Grow G2 H2 G3 H3) (fun G3 H3 g3 => ⟨rfl, G3, g3⟩) pins s2 I2) fun vu s3 ⟨d3, H3, I3, pu, e3, G3, g3⟩ => ?_
  subst e3
  refine thn (eo_run hk (hB.trans ((g1.trans g2).trans g3).h) g3.gh (lo0.grow ((g1.trans g2).trans g3)) (Q := fun d H4 => d = k ∧ ∃ G4, Grow G3 H3 G4 H4) (fun G4 H4 g4 => ⟨rfl, G4, g4⟩) pins s3 I3) fun vk s4 ⟨d4, H4, I4, pk, e4, G4, g4⟩ => ?_
  subst e4
  have g := ((g1.trans g2).trans g3).trans g4
  have gr := (g2.trans g3).trans g4
  have I5 : Inv X pins σ H4 { s4 with heap := s4.heap.push { cls := .type "slice", data := .fields #[vl, vu, vk] } } := I4.kept (t' := s4.toks) fun b ob q => Heap.get?_push_of_some _ q
  obtain ⟨its, r, ht, hz⟩ := I5.list (Same.seq (gr.g.trans gr.gh) hs)
  have hlen := r.length
  have hlx := hr.len
  obtain ⟨ops, hops⟩ := hops
  show wpAny (model X.prog X.w) X.A (subscriptTail a (.Slice lo hi st p2) (.ref p) (.ref s4.heap.objs.size)) (EP X pins σ Q) X.xe { s4 with heap := s4.heap.push { cls := .type "slice", data := .fields #[vl, vu, vk] } }
  refine tail_any (ops := ops (.ref p) (.ref s4.heap.objs.size)) ht.isList.typeIs (PySem.slot_list_getitem.lookup) ?_ (hops _ _)
  refine wpAny_getItem_list_slice ht.isList (Heap.IsSliceOf.new _ vl vu vk) pl pu pk h0 ?_ (by rw [List.size_toArray]; omega)
  have hp : slicePick its.toArray d2 d3 d4 = (pySlice its d2 d3 d4).toArray := by
    unfold slicePick pySlice
    simp only [List.size_toArray, List.getElem?_toArray]
  rw [hp]
  have hv : Vals (pySlice vs d2 d3 d4) (pySlice its d2 d3 d4) := by
    unfold pySlice; rw [hlen]; exact paired_pick r _
  have hx : Reps X.K G4 (pySlice vs d2 d3 d4) (pySlice xs d2 d3 d4) := by
    unfold pySlice; rw [hlx]; exact paired_pick (hr.mono gr.g) _
  have hn : H4 (s4.heap.push { cls := .type "slice", data := .fields #[vl, vu, vk] }).objs.size = none := I5.hok.fresh (Nat.le_refl _)
  refine ⟨.ref _, _, I5.laid (t' := s4.toks) (o := .lst (pySlice vs d2 d3 d4)) (fun b ob q => Heap.get?_push_of_some _ q) (Nat.le_refl _) ?_, rfl, q _ _ G4 _ (g.trans (Grow.own g4.gh hn)) (one_new (g.h.free hn) (g4.gh.free hn)) ⟨_, _, rfl, rfl, upd_same, hx⟩⟩
  exact ⟨Nat.le_trans (pySlice_len _ _ _ _) hz, _, 0, hv, Heap.get?_push_size _ rfl⟩⟩
/-! ### comprehensions -/
def wipeG (Γ : List Slot) : List Nat → List Slot
  | [] => Γ
  | v :: vs => (wipeG Γ vs).set v .any
theorem Lo.wipe {K : PySem.W.Frag} {B G H : Hp} {σ : L2.St} (l : Lo K B G H σ Γ) : ∀ vs : List Nat, Lo K B G H (wipe σ vs) (wipeG Γ vs)
  | [] => l
  | v :: vs => (Lo.wipe l vs).drop
theorem wipe_set {σ : L2.St} {i : Nat} {x : Option V} : ∀ {vs : List Nat}, i ∈ vs → L2.wipe (σ.set i x) vs = L2.wipe σ vs
  | [], h => by simp at h
  | v :: vs, h => by
    unfold L2.wipe
    by_cases hv : i = v
    · subst hv
      by_cases h2 : i ∈ vs
      · rw [wipe_set h2]
      · have : ∀ (ws : List Nat) (τ : L2.St), (L2.wipe (τ.set i x) ws).set i none = (L2.wipe τ ws).set i none := by
          intro ws
          induction ws with
          | nil => intro τ; show (τ.set i x).set i none = _; rw [List.set_set]; rfl
          | cons w ws ih =>
            intro τ
            unfold L2.wipe
            by_cases hw : w = i
            · subst hw; rw [List.set_set, List.set_set]; exact ih τ
            · rw [List.set_comm _ _ hw, List.set_comm (l := L2.wipe τ ws) _ _ hw, ih τ]
        exact this vs σ
    · have h2 : i ∈ vs := by
        rcases List.mem_cons.mp h with e | e
        · exact absurd e hv
        · exact e
      rw [wipe_set h2]
/-- a target's store, within vs alone -/
structure TX (X : Cx) (vs : List Nat) (Γ : List Slot) (tg : Expr) {α : Type} [Rp α] (x : α) (Γ' : List Slot)  : Prop where
  run : ∀ (B G H : Hp) (σ : L2.St) (v : V), Same B H → Same G H → Lo X.K B G H σ Γ → Rp.rep X.K G v x → ∀ Q : L2.St → Hp → Prop, (∀ σ', L2.wipe σ' vs = L2.wipe σ vs → Lo X.K B G H σ' Γ' → Q σ' H) → WG X tg v σ H Q
instance {X : Cx} {vs : List Nat} {Γ : List Slot} {tg : Expr} {α : Type} [Rp α] {x : α} {Γ' : List Slot}  : CoeFun (TX X vs Γ tg x Γ') (fun _ => ∀ (B G H : Hp) (σ : L2.St) (v : V), Same B H → Same G H → Lo X.K B G H σ Γ → Rp.rep X.K G v x → ∀ Q : L2.St → Hp → Prop, (∀ σ', L2.wipe σ' vs = L2.wipe σ vs → Lo X.K B G H σ' Γ' → Q σ' H) → WG X tg v σ H Q) := ⟨TX.run⟩
theorem tx_name {vs : List Nat} (i : Nat) {α : Type} [Rp α] {x : α} {nm : Str} (hN : X.N.Nodup) (hv : i ∈ vs := by decide) (hi : X.N[i]? = some nm := by rfl) (hx : L2.Loc X.env.scope nm := by first | exact Or.inl rfl | exact Or.inr rfl) (hf : X.fn nm = true ∨ X.env.scope.names.lookup nm = some .local := by first | exact .inl rfl | exact .inr rfl) :
    TX X vs Γ (.Name nm pos) x (Γ.set i (.v x)) := ⟨fun B G H σ v hB hg l r Q q => wg (pg_name hN hi hx hf) (q _ (wipe_set hv) (l.set (d := dt x) r))⟩
structure TXs (X : Cx) (vs : List Nat) (Γ : List Slot) (ts : List Expr) (ds : List Dat) (Γ' : List Slot)  : Prop where
  run : ∀ (B G H : Hp) (σ : L2.St) (ws : List V), Same B H → Same G H → Lo X.K B G H σ Γ → DatsOk X.K G ws ds → ∀ Q : L2.St → Hp → Prop, (∀ σ', L2.wipe σ' vs = L2.wipe σ vs → Lo X.K B G H σ' Γ' → Q σ' H) → ∀ (pins : List (Addr × Obj)) (s : Shared) (us : List Value), Inv X pins σ H s → Vals ws us →
    wpAny (model X.prog X.w) X.A (assignInOrder ((assignEach ts X.env).map (·.2)) us) (fun _ s' => ∃ σ' H', Inv X pins σ' H' s' ∧ Q σ' H') X.xe s
instance {X : Cx} {vs : List Nat} {Γ : List Slot} {ts : List Expr} {ds : List Dat} {Γ' : List Slot}  : CoeFun (TXs X vs Γ ts ds Γ') (fun _ => ∀ (B G H : Hp) (σ : L2.St) (ws : List V), Same B H → Same G H → Lo X.K B G H σ Γ → DatsOk X.K G ws ds → ∀ Q : L2.St → Hp → Prop, (∀ σ', L2.wipe σ' vs = L2.wipe σ vs → Lo X.K B G H σ' Γ' → Q σ' H) → ∀ (pins : List (Addr × Obj)) (s : Shared) (us : List Value), Inv X pins σ H s → Vals ws us →
    wpAny (model X.prog X.w) X.A (assignInOrder ((assignEach ts X.env).map (·.2)) us) (fun _ s' => ∃ σ' H', Inv X pins σ' H' s' ∧ Q σ' H') X.xe s) := ⟨TXs.run⟩
theorem txs_nil {vs : List Nat} : TXs X vs Γ [] [] Γ := ⟨fun B G H σ ws hB hg l r Q q pins s us I rv => by
  cases r
  cases rv
  exact assignInOrder_nil ⟨σ, H, I, q σ rfl l⟩⟩
theorem txs_cons {vs : List Nat} {α : Type} [Rp α] {x : α} {ds : List Dat} {Γ2 : List Slot} (h : TX X vs Γ e x Γ') (hr : TXs X vs Γ' es ds Γ2) (hs : (assignEach (e :: es) X.env).map (·.2) = assign e X.env :: (assignEach es X.env).map (·.2) := by rfl) : TXs X vs Γ (e :: es) (dt x :: ds) Γ2 := ⟨fun B G H σ ws hB hg l r Q q pins s us I rv => by
  cases r with
  | cons r1 r2 =>
    cases rv with
    | cons q1 q2 =>
      rw [hs]
      refine assignInOrder_cons (thn (h B G H σ _ hB hg l r1 (fun σ1 H1 => H1 = H ∧ L2.wipe σ1 vs = L2.wipe σ vs ∧ Lo X.K B G H σ1 Γ') (fun σ1 e1 l1 => ⟨rfl, e1, l1⟩) pins s _ I q1) fun _ s1 ⟨σ1, H1, I1, eH, e1, l1⟩ => ?_)
      subst eH
      exact hr B G _ σ1 _ hB hg l1 r2 Q (fun σ' e2 l2 => q σ' (e2.trans e1) l2) pins s1 _ I1 q2⟩
theorem tx_tup {vs : List Nat} {τ : Type} [Rp τ] [TPs τ] {x : τ} {k : Nat} (h : TXs X vs Γ es (TPs.parts x) Γ') (hc : X.calm = true := by rfl) (hn : (assignEach es X.env).length = (TPs.parts x).length := by rfl) (hst : (assignEach es X.env).findIdx? (·.1) = none := by rfl) : TX X vs Γ (.Tuple es k pos) x Γ' := ⟨fun B G H σ v hB hg l r Q q => by
  obtain ⟨p, ws, e, hs, rs⟩ := TPs.ok r
  subst e
  have hp : PGs X es (fun us σ2 H2 Q2 => us = ws ∧ σ2 = σ ∧ H2 = H ∧ ∀ σ', L2.wipe σ' vs = L2.wipe σ vs → Lo X.K B G H σ' Γ' → Q2 σ' H) := ⟨fun pins s σ2 H2 us2 us Q2 I rv h2 => by
    obtain ⟨e1, e2, e3, q2⟩ := h2
    subst e1 e2 e3
    exact h B G _ _ _ hB hg l rs Q2 q2 pins s us I rv⟩
  exact wg (pg_tup hc hp hn hst) ⟨p, ws, rfl, seqT hg hs, rs.len, rfl, rfl, rfl, q⟩⟩
/-- the contexts of a comprehension's block -/
abbrev blkX (X : Cx) (scope : Scope) (s : Shared) (H : Hp) (C : Addr) (cl : List (Str × Addr)) (fp : List Addr) : Cx := X.blk s H scope (compEnvC scope cl C X.env) fp
/-- a comprehension, its parts -/
def EL (X : Cx) (Γ : List Slot) (tg iter : Expr) (ifs : List Expr) (elt : Expr) (scope : Scope) (own : List (Str × Nat)) {τ : Type} [Ow τ] (x : τ) : Prop :=
  ∃ (g : TG) (tt : TT) (te : TE), (∀ (s : Shared) (H : Hp) (C : Addr) (cl : List (Str × Addr)) (fp : List Addr), PG (blkX X scope s H C cl fp) tg g) ∧ (∀ (s : Shared) (H : Hp) (C : Addr) (cl : List (Str × Addr)) (fp : List Addr), PTs (blkX X scope s H C cl fp) ifs tt) ∧
    (∀ (s : Shared) (H : Hp) (C : Addr) (cl : List (Str × Addr)) (fp : List Addr), PE (blkX X scope s H C cl fp) elt te) ∧
    ∀ (B G H : Hp) (σ : L2.St), Same B H → Same G H → Lo X.K B G H σ Γ → ∀ Q : VK, (∀ v fp G' H', Grow G H G' H' → (∀ a ∈ fp, H a = none ∧ G' a = none ∧ ∃ ho, H' a = some ho) → Ow.ok X.K G' H' v fp x → Q v H') → tLc (WI X tg iter) g tt te (own.map (·.2)) σ H Q
theorem en_el {scope : Scope} {own : List (Str × Nat)} {τ : Type} [Ow τ] {x : τ} (hc : X.calm = true) (hN : X.N.Nodup) (ok : BlkOk X.N X.env.scope scope own) (h : EL X Γ tg iter ifs elt scope own x) (hs : ∀ x, foldedSetIterable iter X.env x = pure x := by intro _; rfl) :
    EN X Γ (.ListComp elt [⟨tg, iter, ifs, 0⟩] scope pos) x := ⟨fun B G H σ hB hg l Q q => by
  obtain ⟨g, tt, te, h1, h2, h3, h4⟩ := h
  exact we (pe_lc hc hN pi ok h1 h2 h3 hs) (h4 B G H σ hB hg l Q q)⟩
/-- y = [..] on one line -/
theorem sv_el (i : Nat) {scope : Scope} {own : List (Str × Nat)} {τ : Type} [Ow τ] {x : τ} {y : Str} {py spos : Pos} (hc : X.calm = true) (hN : X.N.Nodup) (ok : BlkOk X.N X.env.scope scope own) (h : EL X Γ tg iter ifs elt scope own x) (hy : X.N[i]? = some y := by rfl) (hyl : X.env.scope.names.lookup y = some .local := by rfl)
    (hsw : swapsWith (.ListComp elt [⟨tg, iter, ifs, 0⟩] scope pos) (some (.Name y py)) spos.line X.env = pure true := by exact sw_true rfl rfl rfl (by decide +kernel)) (hs : ∀ x, foldedSetIterable iter X.env x = pure x := by intro _; rfl) :
    SV X Γ (.Assign [.Name y py] (.ListComp elt [⟨tg, iter, ifs, 0⟩] scope pos) spos) (.nx (Γ.set i (.o x))) := ⟨fun B G H σ D hB hg l k => by
  obtain ⟨g, tt, te, h1, h2, h3, h4⟩ := h
  exact ws (ps_setLc hc hN hy hyl hsw pi ok h1 h2 h3 hs) (h4 B G H σ hB hg l _ fun v fp G1 H1 g1 hfp ok => k G1 H1 (g1.step hB) _ (l.setOwn (d := ot x) hB g1 hfp ok))⟩
/-- .. the new list only read from then on -/
theorem sv_elv (i : Nat) {scope : Scope} {own : List (Str × Nat)} {α : Type} [Rp α] {xs : List α} {y : Str} {py spos : Pos} (hc : X.calm = true) (hN : X.N.Nodup) (ok : BlkOk X.N X.env.scope scope own) (h : EL X Γ tg iter ifs elt scope own (ML.mk xs)) (hy : X.N[i]? = some y := by rfl) (hyl : X.env.scope.names.lookup y = some .local := by rfl)
    (hsw : swapsWith (.ListComp elt [⟨tg, iter, ifs, 0⟩] scope pos) (some (.Name y py)) spos.line X.env = pure true := by exact sw_true rfl rfl rfl (by decide +kernel)) (hs : ∀ x, foldedSetIterable iter X.env x = pure x := by intro _; rfl) :
    SV X Γ (.Assign [.Name y py] (.ListComp elt [⟨tg, iter, ifs, 0⟩] scope pos) spos) (.nx (Γ.set i (.v xs))) := ⟨fun B G H σ D hB hg l k => by
  obtain ⟨g, tt, te, h1, h2, h3, h4⟩ := h
  refine ws (ps_setLc hc hN hy hyl hsw pi ok h1 h2 h3 hs) (h4 B G H σ hB hg l _ fun v fp G1 H1 g1 hf ok => ?_)
  obtain ⟨p, vs, rfl, rfl, hh, r⟩ := ok
  obtain ⟨hp, hgp, _⟩ := hf p (by simp)
  have hs : Same G1 (upd G1 p (.lst vs)) := fun b u e => by rw [upd_ne (ne_of_none e hgp)]; exact e
  have g2 : Grow G H (upd G1 p (.lst vs)) H1 := ⟨g1.g.trans hs, g1.h, fun b u e => by
    by_cases hb : b = p
    · subst hb; rw [upd_same] at e; rw [← e]; exact hh
    · rw [upd_ne hb] at e; exact g1.gh b u e, fun b u e n => by rw [upd_ne (ne_of_none e hp)]; exact g1.fr b u e n⟩
  exact k _ H1 (g2.step hB) _ ((l.grow g2).set (d := dt xs) ⟨p, vs, rfl, SqL.of upd_same, r.mono hs⟩)⟩
theorem lc_both {α β : Type} [Rp α] [Rp β] {xs : List α} {scope : Scope} {own : List (Str × Nat)} {tt : TT} {p : α → Bool} {f : α → β} (Γ1 : α → List Slot) (hi : IV X Γ tg iter xs)
    (ht : ∀ s H C cl fp x, TX (blkX X scope s H C cl fp) (own.map (·.2)) (wipeG Γ (own.map (·.2))) tg x (Γ1 x))
    (hpt : ∀ (s : Shared) (H : Hp) (C : Addr) (cl : List (Str × Addr)) (fp : List Addr), PTs (blkX X scope s H C cl fp) ifs tt)
    (htt : ∀ pre x post, xs = pre ++ x :: post → ∀ (B G H : Hp) (σ : L2.St), Same B H → Same G H → Lo X.K B G H σ (Γ1 x) → ∀ Q : Bool → Hp → Prop, (∀ G' H', Grow G H G' H' → Q (p x) H') → tt σ H Q)
    (he : ∀ pre x post, xs = pre ++ x :: post → p x = true → ∀ s H C cl fp, EV (blkX X scope s H C cl fp) (Γ1 x) elt (f x)) (hsz : xs.length ≤ 10000000) :
    EL X Γ tg iter ifs elt scope own (ML.mk ((xs.filter p).map f)) := by
  refine ⟨fun v σ H Q => ∀ s H0 C cl fp, WG (blkX X scope s H0 C cl fp) tg v σ H Q, tt, fun σ H Q => ∀ s H0 C cl fp, WE (blkX X scope s H0 C cl fp) elt σ H Q,
    fun s H0 C cl fp => ⟨fun pins s' _ _ _ u _ I r h => h s H0 C cl fp pins s' u I r⟩, hpt, fun s H0 C cl fp => ⟨fun pins s' _ _ _ I h => h s H0 C cl fp pins s' I⟩, fun B G H σ hB hg l Q q => ?_⟩
  refine hi B G H σ hB hg l _ fun J G1 H1 g1 hJ D hD => ?_
  have hsm := g1.h
  refine ⟨fun i m H' => m = xs.length - i ∧ i ≤ xs.length ∧ ∃ G' ws, Grow G1 H1 G' H' ∧ G' D = none ∧ H' D = some (.lst ws) ∧ Reps X.K G' ws (((xs.take i).filter p).map f), ⟨xs.length, by simp, Nat.zero_le _, G1, [], Grow.own g1.gh hD, g1.gh.free hD, upd_same, .nil⟩, ?_⟩
  rintro i m H' ⟨rfl, hi', G', ws, g', hGD, hHD, rws⟩
  by_cases hlt : i < xs.length
  · obtain ⟨hgo, hy⟩ := hJ.1 i G' H' g'.g g'.gh hlt
    refine .inr ⟨hgo, fun H2 => ∃ G2 ws, Grow G1 H1 G2 H2 ∧ G2 D = none ∧ H2 D = some (.lst ws) ∧ Reps X.K G2 ws (((xs.take (i + 1)).filter p).map f), fun H2 ⟨G2, ws2, a1, a2, a3, a4⟩ => ⟨xs.length - (i + 1), by omega, rfl, hlt, G2, ws2, a1, a2, a3, a4⟩, fun v H3 hv => ?_⟩
    obtain ⟨G3, x, g3, hx, rx⟩ := hy v H3 hv
    have ex : xs = xs.take i ++ x :: xs.drop (i + 1) := by
      have h1 : xs[i] = x := by rw [List.getElem?_eq_getElem hlt] at hx; exact Option.some.inj hx
      rw [← h1, List.getElem_cons_drop, List.take_append_drop]
    have et : xs.take (i + 1) = xs.take i ++ [x] := by rw [List.take_add_one, hx]; rfl
    intro s H0 C cl fp
    have lw := ((l.grow g1).grow (g'.trans g3)).wipe (own.map (·.2))
    refine ht s H0 C cl fp x B G3 H3 _ v (hB.trans (g1.trans (g'.trans g3)).h) g3.gh lw rx _ fun σ2 ew l2 => ⟨?_, ?_⟩
    · rw [ew]
      have idem : ∀ (ws : List Nat) (τ : L2.St), L2.wipe (L2.wipe τ ws) ws = L2.wipe τ ws := by
        intro ws
        induction ws with
        | nil => intro τ; rfl
        | cons w ws ih =>
          intro τ
          show (L2.wipe ((L2.wipe τ ws).set w none) ws).set w none = (L2.wipe τ ws).set w none
          by_cases hw : w ∈ ws
          · rw [wipe_set hw, ih]
          · have : ∀ (us : List Nat) (τ : L2.St), w ∉ us → L2.wipe (τ.set w none) us = (L2.wipe τ us).set w none := by
              intro us
              induction us with
              | nil => intro τ _; rfl
              | cons u us ih2 =>
                intro τ hu
                show (L2.wipe (τ.set w none) us).set u none = ((L2.wipe τ us).set u none).set w none
                rw [ih2 τ (fun h => hu (List.mem_cons_of_mem _ h)), List.set_comm _ _ (fun e : w = u => hu (by rw [e]; exact List.mem_cons_self))]
            rw [this ws _ hw, List.set_set, ih]
      exact idem _ _
    · have hBH := hB.trans (g1.trans (g'.trans g3)).h
      refine htt _ x _ ex B G3 H3 σ2 hBH g3.gh l2 _ fun G4 H4 g4 => ?_
      cases hpx : p x with
      | true =>
        intro s H0 C cl fp
        refine he _ x _ ex hpx s H0 C cl fp B G4 H4 σ2 (hBH.trans g4.h) g4.gh (l2.grow g4) _ fun y G5 H5 g5 ry => ?_
        have gA := ((g3.trans g4).trans g5)
        refine ⟨ws, gA.h _ _ hHD, ?_, G5, ws ++ [y], ?_, (gA.fr D _ hHD).trans hGD, upd_same, ?_⟩
        · rw [rws.len, sizeLine_eq, List.length_map]
          have := List.length_filter_le p (xs.take i)
          have := List.length_take_le i xs
          have : (xs.take i).length ≤ xs.length := by simp; omega
          omega
        · have gB := g'.trans gA
          refine ⟨gB.g, fun b u e => ?_, fun b u e => ?_, gB.fr0⟩
          · rw [upd_ne (ne_of_none e hD)]; exact gB.h b u e
          · have hG5 : G5 D = none := (gA.fr D _ hHD).trans hGD
            rw [upd_ne (ne_of_none e hG5)]; exact gB.gh b u e
        · rw [et, List.filter_append, List.map_append]
          refine paired_app (rws.mono gA.g) ?_
          rw [List.filter_cons, if_pos hpx]
          exact .cons ry .nil
      | false =>
        refine ⟨G4, ws, g'.trans (g3.trans g4), ((g3.trans g4).fr D _ hHD).trans hGD, (g3.trans g4).h _ _ hHD, ?_⟩
        rw [et, List.filter_append, List.map_append, List.filter_cons, if_neg (by rw [hpx]; decide)]
        show Reps _ _ _ (_ ++ [])
        rw [List.append_nil]
        exact rws.mono (g3.trans g4).g
  · have ei : i = xs.length := by omega
    subst ei
    rw [List.take_length] at rws
    exact .inl ⟨hJ.2 G' H' g'.g g'.gh, q (.ref D) [D] G' H' (g1.trans g') (fun a ha => by
      have e : a = D := by simpa using ha
      subst e; exact ⟨g1.h.free hD, hGD, _, hHD⟩) ⟨D, ws, rfl, rfl, hHD, rws⟩⟩
/-- [e for x in xs] -/
theorem el_lc {α β : Type} [Rp α] [Rp β] {xs : List α} {scope : Scope} {own : List (Str × Nat)} (Γ1 : α → List Slot) (f : α → β) (hi : IV X Γ tg iter xs)
    (ht : ∀ s H C cl fp x, TX (blkX X scope s H C cl fp) (own.map (·.2)) (wipeG Γ (own.map (·.2))) tg x (Γ1 x))
    (he : ∀ pre x post, xs = pre ++ x :: post → ∀ s H C cl fp, EV (blkX X scope s H C cl fp) (Γ1 x) elt (f x)) (hsz : xs.length ≤ 10000000) :
    EL X Γ tg iter [] elt scope own (ML.mk (xs.map f)) := by
  have h := lc_both (elt := elt) (ifs := []) (tt := tYes) (p := fun _ => true) (f := f) Γ1 hi ht (fun _ _ _ _ _ => pts_nil) (fun pre x post e B G H σ hB hg l Q q => q G H (Grow.refl hg)) (fun pre x post e _ => he pre x post e) hsz
  rw [List.filter_eq_self.mpr (fun _ _ => rfl)] at h
  exact h
/-- [e for x in xs if c] -/
theorem el_lcIf {α β : Type} [Rp α] [Rp β] {xs : List α} {scope : Scope} {own : List (Str × Nat)} (Γ1 : α → List Slot) (p : α → Bool) (f : α → β) (hi : IV X Γ tg iter xs)
    (ht : ∀ s H C cl fp x, TX (blkX X scope s H C cl fp) (own.map (·.2)) (wipeG Γ (own.map (·.2))) tg x (Γ1 x))
    (hp : ∀ pre x post, xs = pre ++ x :: post → ∀ s H C cl fp, ET (blkX X scope s H C cl fp) (Γ1 x) c (p x))
    (he : ∀ pre x post, xs = pre ++ x :: post → p x = true → ∀ s H C cl fp, EV (blkX X scope s H C cl fp) (Γ1 x) elt (f x)) (hsz : xs.length ≤ 10000000) :
    EL X Γ tg iter [c] elt scope own (ML.mk ((xs.filter p).map f)) :=
  lc_both (ifs := [c]) (tt := fun σ H Q => ∀ s H0 C cl fp, WT (blkX X scope s H0 C cl fp) c σ H Q) Γ1 hi ht (fun s H0 C cl fp => pts_one ⟨fun pins s' _ _ _ I h => h s H0 C cl fp pins s' I⟩)
    (fun pre x post e B G H σ hB hg l Q q s H0 C cl fp => hp pre x post e s H0 C cl fp B G H σ hB hg l Q q) he hsz
end
end Wl

set_option maxRecDepth 100000
set_option maxHeartbeats 2000000
namespace Wl
open PySem PySem.Spec PyProof.Rows L2
/-! ### a def of the text as its callers see it -/
structure FnAt (P : Program) (w : World) (K : PySem.W.Frag) (mg : Str → Option Value) (base : Heap) (x : Str) (k : Nat) (ps : List Str) (R : List Dat → Dat → Prop) : Prop where
  ex : ∃ f fd, FnOk P w K mg base CX0 k f fd ps (PSp K R) ∧ mg x = some (.ref f) ∧ PySem.W.keepIn K (.ref f) = true ∧ Binds K fd ps []
section
variable {X : Cx} {Γ Γ' : List Slot} {st : Stmt} {sts els rest : List Stmt} {a b c e tg iter elt : Expr} {es ifs : List Expr} {pos : Pos} {o : Out}
theorem ev_fn {k j : Nat} {ps : List Str} {R : List Dat → Dat → Prop} {x : Str} {p : Pos} {α : Type} [Rp α] {y : α} {ds : List Dat} (F : FnAt X.prog X.w X.K X.mg X.base x k ps R) (hr : Room j X.A) (hj : k ≤ j) (ha : EA X Γ (e :: es) ds) (hR : R ds (dt y)) (hg : Gl X x := by rfl) (hdb : (x == ("__debug__" : Str)) = false := by decide)
    (he : starEach (e :: es) X.env = (false, eval e X.env) :: starEach es X.env := by rfl) (hpl : (backTo pos (starEach es X.env)).any (·.1) = false := by rfl) : EV X Γ (.Call (.Name x p) (e :: es) [] pos) y := by
  obtain ⟨f, fd, F1, hm, hk, hb⟩ := F.ex
  exact ev_call F1 (hr.mono hj) hm hk hb pass0 ha hR hg hdb he hpl
theorem ev_fn0 {k j : Nat} {ps : List Str} {R : List Dat → Dat → Prop} {x : Str} {p : Pos} {α : Type} [Rp α] {y : α} (F : FnAt X.prog X.w X.K X.mg X.base x k ps R) (hr : Room j X.A) (hj : k ≤ j) (hR : R [] (dt y)) (hg : Gl X x := by rfl) (hdb : (x == ("__debug__" : Str)) = false := by decide) : EV X Γ (.Call (.Name x p) [] [] pos) y := by
  obtain ⟨f, fd, F1, hm, hk, hb⟩ := F.ex
  exact ev_call0 F1 (hr.mono hj) hm hk hb pass0 hR hg hdb
/-- xs[i], i within -/
theorem ev_lixD {α : Type} [Rp α] {xs : List α} {i : Int} (d : α) (ha : EV X Γ a xs) (hb : EV X Γ b i) (h0 : 0 ≤ i) (h1 : i < (xs.length : Int)) (hp : PlainIx b := by exact fun _ _ => rfl) : EV X Γ (.Subscript a b pos) (xs.getD i.toNat d) :=
  ev_lix ha hb h0 (by
    have h : i.toNat < xs.length := by omega
    rw [List.getElem?_eq_getElem h, List.getD_eq_getElem?_getD, List.getElem?_eq_getElem h]
    rfl) hp
/-- an if whose ways join, and the rest -/
theorem bv_ifj {x : Bool} {Γf : Bool → List Slot} {of : Bool → Out} (h : ET X Γ c x) (h1 : x = true → BV X Γ sts (.nx (Γf true))) (h2 : x = false → BV X Γ els (.nx (Γf false))) (hr : ∀ y : Bool, y = x → BV X (Γf y) rest (of y)) (ho : of x = o := by exact rfl) : BV X Γ (.If c sts els pos :: rest) o :=
  ho ▸ bv_cons (sv_if h h1 h2) (hr x rfl)
theorem bv_ifx {x : Bool} {of : Bool → Out} (h : ET X Γ c x) (h1 : x = true → BV X Γ sts (of true)) (e1 : (of true).exits) (h2 : x = false → BV X Γ rest (of false)) (ho : of x = o := by exact rfl) : BV X Γ (.If c sts [] pos :: rest) o := ho ▸ bv_if h h1 e1 h2
/-- the answer behind a loop -/
def LR.fin {τ ρ : Type} (g : τ → ρ) : LR τ ρ → ρ
  | .go s => g s
  | .re r => r
def LR.bind {τ τ' ρ : Type} (g : τ → LR τ' ρ) : LR τ ρ → LR τ' ρ
  | .go s => g s
  | .re r => .re r
theorem bv_forR {τ ρ : Type} [Rp ρ] {Env : τ → List Slot} {r : LR τ ρ} {g : τ → ρ} (h : SV X Γ st (LR.out Env r)) (hr : ∀ s, r = .go s → BV X (Env s) rest (.rt (dt (g s)))) (ho : .rt (dt (r.fin g)) = o := by exact rfl) : BV X Γ (st :: rest) o := by
  subst ho
  cases r with
  | go s => exact bv_cons h (hr s rfl)
  | re y => exact bv_out h trivial
theorem bv_forB {τ τ' ρ : Type} [Rp ρ] {Env : τ → List Slot} {Env' : τ' → List Slot} {r : LR τ ρ} {g : τ → LR τ' ρ} (h : SV X Γ st (LR.out Env r)) (hr : ∀ s, r = .go s → BV X (Env s) rest (LR.out Env' (g s))) (ho : LR.out Env' (r.bind g) = o := by exact rfl) : BV X Γ (st :: rest) o := by
  subst ho
  cases r with
  | go s => exact bv_cons h (hr s rfl)
  | re y => exact bv_out h trivial
/-- for with a word I of the part taken and the state -/
theorem sv_forI {α τ : Type} [Rp α] {xs : List α} {body : List Stmt} (Env : τ → List Slot) (s0 : τ) (f : τ → α → τ) (I : List α → τ → Prop) (h : IV X Γ tg iter xs) (h0 : Sb Γ (Env s0)) (Γ1 : τ → α → List Slot) (ht : ∀ s x, TV X (Env s) tg x (Γ1 s x))
    (i0 : I [] s0) (is : ∀ pre x s, x ∈ xs → I pre s → I (pre ++ [x]) (f s x))
    (hb : ∀ pre x post s, xs = pre ++ x :: post → pre.foldl f s0 = s → I pre s → BV X (Γ1 s x) body (.nx (Env (f s x)))) (hp : PassesOwn (model X.prog X.w) X.A X.env X.xe) (hc : X.calm = true := by rfl) (hs : ∀ x, foldedSetIterable iter X.env x = pure x := by intro _; rfl) (ho : .nx (Env (xs.foldl f s0)) = o := by exact rfl) :
    SV X Γ (.For tg iter body [] pos) o := by
  subst ho
  have inv : ∀ (l pre : List α) (s : τ), (∀ x ∈ l, x ∈ xs) → I pre s → I (pre ++ l) (l.foldl f s) := by
    intro l
    induction l with
    | nil => intro pre s _ h; rw [List.append_nil]; exact h
    | cons x l ih =>
      intro pre s hm h
      have h2 := ih (pre ++ [x]) (f s x) (fun y hy => hm y (List.mem_cons_of_mem _ hy)) (is pre x s (hm x List.mem_cons_self) h)
      rw [List.append_assoc] at h2
      exact h2
  exact sv_for Env s0 f h h0 Γ1 ht (fun pre x post s e1 e2 => hb pre x post s e1 e2 (by rw [← e2]; exact inv pre [] s0 (fun y hy => by rw [e1]; simp [hy]) i0)) hp hc hs

/-! ### while -/
def runW {τ ρ : Type} (c : τ → Bool) (f : τ → LR τ ρ) : Nat → τ → LR τ ρ
  | 0, s => .go s
  | n + 1, s => bif c s then (match f s with
    | .go s' => runW c f n s'
    | .re r => .re r) else .go s
/-- while: enough turns n, at the end the test is false -/
theorem sv_while {τ ρ : Type} [Rp ρ] {body : List Stmt} (Env : τ → List Slot) (s0 : τ) (cf : τ → Bool) (f : τ → LR τ ρ) (n : Nat) (I : τ → Prop) (h0 : Sb Γ (Env s0)) (i0 : I s0) (is : ∀ s s', I s → cf s = true → f s = .go s' → I s') (ht : ∀ s, I s → ET X (Env s) c (cf s))
    (hb : ∀ s, I s → cf s = true → BV X (Env s) body (LR.out Env (f s))) (hend : ∀ s, runW cf f n s0 = .go s → cf s = false) (hp : PassesOwn (model X.prog X.w) X.A X.env X.xe) (ho : LR.out Env (runW cf f n s0) = o := by exact rfl) :
    SV X Γ (.While c body [] pos) o := ⟨fun B G H σ D hB hg l k => by
  subst ho
  refine ws (ps_while hp pt pss) ⟨fun m σ' H' => ∃ s G', I s ∧ runW cf f m s = runW cf f n s0 ∧ Stp B G G' H' ∧ Lo X.K B G' H' σ' (Env s), ⟨n, s0, G, i0, rfl, Stp.refl hB hg, l.sub h0⟩, ?_⟩
  rintro m σ' H' ⟨s, G', hi, e, st, lo⟩
  refine ht s hi B G' H' σ' st.b st.gh lo _ fun G1 H1 g1 => ?_
  cases hc : cf s with
  | false =>
    have er : runW cf f m s = .go s := by
      cases m with
      | zero => rfl
      | succ m => unfold runW; rw [hc]; rfl
    have q := k G1 H1 (st.trans (g1.step st.b))
    rw [← e, er] at q
    exact q σ' (lo.grow g1)
  | true =>
    cases m with
    | zero =>
      have : runW cf f n s0 = .go s := e.symm
      rw [hend s this] at hc
      cases hc
    | succ m =>
      refine ⟨fun σ2 H2 => ∃ s2 G2, f s = .go s2 ∧ Stp B G G2 H2 ∧ Lo X.K B G2 H2 σ2 (Env s2), fun σ2 H2 ⟨s2, G2, e2, st2, lo2⟩ => ⟨m, Nat.lt_succ_self m, s2, G2, is s s2 hi hc e2, ?_, st2, lo2⟩, ?_⟩
      · rw [← e]
        show _ = runW cf f (m + 1) s
        unfold runW
        rw [hc, e2]
        cases m <;> rfl
      · have st1 := st.trans (g1.step st.b)
        refine hb s hi hc B G1 H1 σ' _ st1.b st1.gh (lo.grow g1) fun G3 H3 st3 => ?_
        cases hf : f s with
        | go s2 => intro σ4 l4; exact ⟨s2, G3, rfl, st1.trans st3, l4⟩
        | re r =>
          intro v rv
          have q := k G3 H3 (st1.trans st3)
          have er : runW cf f n s0 = .re r := by
            rw [← e]
            unfold runW
            rw [hc, hf]
            rfl
          rw [er] at q
          exact q v rv⟩

/-! ### methods that change an owned list -/
/-- xs.reverse() | xs.clear() .., without an answer; hp by pe_bm0 PySem.F.plainAttrs_list PySem.F.slot_list_reverse PySem.F.type_list_reverse mt_reverse (pv i) -/
theorem sv_reverse (i : Nat) {α : Type} [Rp α] {xs : List α} (hp : PE X c (tBM0 X.K "list" rReverse (tVar i))) (h0 : Γ[i]? = some (.l xs)) (hs : swapsWith c none pos.line X.env = pure false := by rfl) : SV X Γ (.Expr c pos) (.nx (Γ.set i (.l xs.reverse))) := ⟨fun B G H σ D hB hg l k => by
  obtain ⟨F, p, vs, lf, hF, e1, hbp, hgp, hh, r⟩ := ownL l h0
  refine ws (ps_expr hp hs) ⟨_, e1, .inl ⟨rfl, _, .inl (.inl hh)⟩, p, vs, rfl, rfl, hh, ?_⟩
  have rv : Reps X.K G vs.reverse xs.reverse := by
    have : ∀ {vs : List V} {xs : List α}, Reps X.K G vs xs → Reps X.K G vs.reverse xs.reverse := by
      intro vs xs r
      induction r with
      | nil => exact .nil
      | cons r1 t ih => rw [List.reverse_cons, List.reverse_cons]; exact paired_app ih (.cons r1 .nil)
    exact this r
  exact k G _ (Stp.mutL hB hg hbp hgp) σ (lf.mutL h0 hF e1 hbp hgp rv)⟩
end
end Wl

set_option maxRecDepth 100000
set_option maxHeartbeats 2000000
namespace Wl
open PySem PySem.Spec PyProof.Rows L2
section
variable {X : Cx} {Γ Γ' : List Slot} {st : Stmt} {sts els rest : List Stmt} {a b c e tg iter elt : Expr} {es ifs : List Expr} {pos : Pos} {o : Out}
theorem bv_letT {τ : Type} {of : τ → Out} {x : τ} (Γf : τ → List Slot) (h : SV X Γ st (.nx (Γf x))) (hr : ∀ y : τ, y = x → BV X (Γf y) rest (of y)) (ho : of x = o := by exact rfl) : BV X Γ (st :: rest) o := ho ▸ bv_cons h (hr x rfl)
theorem bv_letS {τ : Type} (Γf : τ → List Slot) {of : τ → Out} {x : τ} (h : SV X Γ st (.nx (Γf x))) (hr : ∀ y : τ, y = x → BV X (Γf y) rest (of y)) (ho : of x = o := by exact rfl) : BV X Γ (st :: rest) o := ho ▸ bv_cons h (hr x rfl)
/-! ### list(range(..)) -/
structure ER (X : Cx) (Γ : List Slot) (e : Expr) (lo hi : Int)  : Prop where
  run : ∀ (B G H : Hp) (σ : L2.St), Same B H → Same G H → Lo X.K B G H σ Γ → ∀ Q : Int → Int → Hp → Prop, (∀ G' H', Grow G H G' H' → Q lo hi H') → ∀ (pins : List (Addr × Obj)) (s : Shared), Inv X pins σ H s →
    wpAny (model X.prog X.w) X.A (eval e X.env) (fun x s' => ∃ r a b t u v H', x = .ref r ∧ IsRange s'.heap r a b 1 t u v ∧ Inv X pins σ H' s' ∧ Q a b H') X.xe s
instance {X : Cx} {Γ : List Slot} {e : Expr} {lo hi : Int}  : CoeFun (ER X Γ e lo hi) (fun _ => ∀ (B G H : Hp) (σ : L2.St), Same B H → Same G H → Lo X.K B G H σ Γ → ∀ Q : Int → Int → Hp → Prop, (∀ G' H', Grow G H G' H' → Q lo hi H') → ∀ (pins : List (Addr × Obj)) (s : Shared), Inv X pins σ H s →
    wpAny (model X.prog X.w) X.A (eval e X.env) (fun x s' => ∃ r a b t u v H', x = .ref r ∧ IsRange s'.heap r a b 1 t u v ∧ Inv X pins σ H' s' ∧ Q a b H') X.xe s) := ⟨ER.run⟩
theorem er_1 {p : Pos} {n : Int} (hm : X.mg "range" = none) (h : EV X Γ a n) (hg : Gl X "range" := by rfl) (na : starEach [a] X.env = (false, eval a X.env) :: starEach [] X.env := by rfl) : ER X Γ (.Call (.Name "range" p) [a] [] pos) 0 n := ⟨fun B G H σ hB hgh l Q q pins s I =>
  prg_1 hg hm pe na pins s σ H Q I (h B G H σ hB hgh l _ fun v G1 H1 g1 r1 => ⟨n, r1, q G1 H1 g1⟩)⟩
theorem er_2 {p : Pos} {m n : Int} (hm : X.mg "range" = none) (h : EV X Γ a m) (h2 : EV X Γ b n) (hg : Gl X "range" := by rfl) (na : starEach [a, b] X.env = (false, eval a X.env) :: starEach [b] X.env := by rfl)
    (nb : starEach [b] X.env = (false, eval b X.env) :: starEach [] X.env := by rfl) (hp : (backTo pos (starEach [b] X.env)).any (·.1) = false := by rfl) : ER X Γ (.Call (.Name "range" p) [a, b] [] pos) m n := ⟨fun B G H σ hB hgh l Q q pins s I =>
  prg_2 hg hm pe pe na nb hp pins s σ H Q I (h B G H σ hB hgh l _ fun v G1 H1 g1 r1 => h2 B G1 H1 σ (hB.trans g1.h) g1.gh (l.grow g1) _ fun u G2 H2 g2 r2 => ⟨m, n, r1, r2, q G2 H2 (g1.trans g2)⟩)⟩
theorem rgV_iseq (lo hi : Int) : rgV lo hi = (iseq lo (hi - lo).toNat).map V.int := by
  unfold rgV iseq
  rw [List.map_map]
  rfl
theorem en_listR {p : Pos} {lo hi : Int} (hc : X.calm = true) (hm : X.mg "list" = none) (h : ER X Γ a lo hi) (hok : RgOk lo hi) (hg : Gl X "list" := by rfl) (na : starEach [a] X.env = (false, eval a X.env) :: starEach [] X.env := by rfl) : EN X Γ (.Call (.Name "list" p) [a] [] pos) (ML.mk (iseq lo (hi - lo).toNat)) := ⟨fun B G H σ hB hgh l Q q =>
  we (pe_listRg (te := fun σ2 H2 Q2 => σ2 = σ ∧ H2 = H ∧ ∀ G' H', Grow G H G' H' → Q2 lo hi H') hc hg hm (fun pins s σ2 H2 Q2 I ⟨e1, e2, q2⟩ => by subst e1 e2; exact h B G _ _ hB hgh l Q2 q2 pins s I) na) ⟨rfl, rfl, fun G1 H1 g1 => ⟨hok, fun r hr => by
    rw [rgV_iseq]
    exact q (.ref r) [r] G1 _ (g1.trans (Grow.own g1.gh hr)) (one_new (g1.h.free hr) (g1.gh.free hr)) ⟨r, _, rfl, rfl, upd_same, ints_reps _⟩⟩⟩⟩
/-! ### owned things, known for good -/
def gl (G H : Hp) (fp : List Addr) : Hp := fun a => if a ∈ fp then H a else G a
theorem gl_in {G H : Hp} {fp : List Addr} {a : Addr} (h : a ∈ fp) : gl G H fp a = H a := if_pos h
theorem gl_out {G H : Hp} {fp : List Addr} {a : Addr} (h : a ∉ fp) : gl G H fp a = G a := if_neg h
theorem gl_up {G H : Hp} {fp : List Addr} (h : ∀ a ∈ fp, G a = none) : Same G (gl G H fp) := fun b u e => by
  rw [gl_out (fun z => by rw [h b z] at e; cases e)]; exact e
theorem gl_dn {G H : Hp} {fp : List Addr} (hg : Same G H) : Same (gl G H fp) H := fun b u e => by
  by_cases z : b ∈ fp
  · rw [gl_in z] at e; exact e
  · rw [gl_out z] at e; exact hg b u e
class Fz (τ : Type) [Ow τ] (β : outParam Type) [Rp β] where
  val : τ → β
  ok : ∀ {K : PySem.W.Frag} {G H : Hp} {v : V} {fp : List Addr} {x : τ}, (∀ a ∈ fp, G a = none) → Ow.ok K G H v fp x → Rp.rep K (gl G H fp) v (val x)
instance {α : Type} [Rp α] : Fz (ML α) (List α) := ⟨ML.xs, fun {K G H v fp x} hf h => by
  obtain ⟨p, vs, rfl, rfl, h2, r⟩ := h
  exact ⟨p, vs, rfl, SqL.of (by rw [gl_in (by simp)]; exact h2), r.mono (gl_up hf)⟩⟩
theorem LoF.fz {K : PySem.W.Frag} {B G H : Hp} {σ : L2.St} {F : Nat → List Addr} {i : Nat} {v : V} {τ β : Type} [Ow τ] [Rp β] [Fz τ β] {x : τ} (l : LoF K B G H σ Γ F) (h : Γ[i]? = some (.o x)) (e1 : σ[i]? = some (some v)) (hf : ∀ a ∈ F i, G a = none) (r : Ow.ok K G H v (F i) x) :
    Lo K B (gl G H (F i)) H σ (Γ.set i (.v (Fz.val x : β))) := by
  have hs : Same G (gl G H (F i)) := gl_up hf
  refine ⟨F, by simp [l.len], fun j s e => ?_, fun j k s t hjk hj hk hs' ht => ?_⟩
  · rcases set_get e with ⟨rfl, rfl, _⟩ | ⟨hij, e⟩
    · exact ⟨_, e1, v, rfl, Fz.ok hf r⟩
    · obtain ⟨o, h1, h2⟩ := l.ok j s e
      refine ⟨o, h1, ?_⟩
      cases s with
      | any => trivial
      | val d => obtain ⟨w, e4, r4⟩ := h2; exact ⟨w, e4, Dat.mono hs r4⟩
      | own d =>
        obtain ⟨w, e4, hf2, r4⟩ := h2
        refine ⟨w, e4, fun a ha => ?_, Odat.mono hs (fun _ _ => rfl) r4⟩
        obtain ⟨q1, q2, q3⟩ := hf2 a ha
        exact ⟨q1, by rw [gl_out (fun z => l.sep i j _ _ hij h e rfl rfl a z ha)]; exact q2, q3⟩
  · rcases set_get hj with ⟨rfl, rfl, _⟩ | ⟨hij, hj⟩
    · cases hs'
    · rcases set_get hk with ⟨rfl, rfl, _⟩ | ⟨hik, hk⟩
      · cases ht
      · exact l.sep j k s t hjk hj hk hs' ht
theorem bv_fz (i : Nat) {τ β : Type} [Ow τ] [Rp β] [Fz τ β] {x : τ} (h : Γ[i]? = some (.o x)) (hr : BV X (Γ.set i (.v (Fz.val x : β))) sts o) : BV X Γ sts o := ⟨fun B G H σ D hB hg l k => by
  obtain ⟨F, v, lf, e1, hf, r⟩ := own_at l h
  have hgn : ∀ a ∈ F i, G a = none := fun a ha => (hf a ha).2.1
  refine hr B _ H σ D hB (gl_dn hg) (lf.fz h e1 hgn r) fun G' H' g => k G' H' ⟨g.b, (gl_up hgn).trans g.g, g.gh, fun b u e n => ?_⟩
  rw [g.fr b u e n, gl_out (fun z => by rw [(hf b z).1] at e; cases e)]⟩
theorem ev_fz (i : Nat) {τ β γ : Type} [Ow τ] [Rp β] [Fz τ β] [Rp γ] [Flat γ] {x : τ} {y : γ} (h : Γ[i]? = some (.o x)) (hr : EV X (Γ.set i (.v (Fz.val x : β))) e y) : EV X Γ e y := ⟨fun B G H σ hB hg l Q q => by
  obtain ⟨F, v, lf, e1, hf, r⟩ := own_at l h
  exact hr B _ H σ hB (gl_dn hg) (lf.fz h e1 (fun a ha => (hf a ha).2.1) r) Q fun v G' H' g rv => q v G H' ⟨Same.refl _, g.h, hg.trans g.h, fun _ _ _ _ => rfl⟩ (Flat.any rv)⟩
theorem et_fz (i : Nat) {τ β : Type} [Ow τ] [Rp β] [Fz τ β] {x : τ} {y : Bool} (h : Γ[i]? = some (.o x)) (hr : ET X (Γ.set i (.v (Fz.val x : β))) e y) : ET X Γ e y := ⟨fun B G H σ hB hg l Q q => by
  obtain ⟨F, v, lf, e1, hf, r⟩ := own_at l h
  exact hr B _ H σ hB (gl_dn hg) (lf.fz h e1 (fun a ha => (hf a ha).2.1) r) Q fun G' H' g => q G H' ⟨Same.refl _, g.h, hg.trans g.h, fun _ _ _ _ => rfl⟩⟩

/-! ### a list of owned lists -/
structure MT (α : Type) where
  rows : List (List α)
def RowsOk {α : Type} [Rp α] (K : PySem.W.Frag) (G H : Hp) (qs : List Addr) (rows : List (List α)) : Prop := Paired (fun q row => ∃ vs, H q = some (.lst vs) ∧ Reps K G vs row) qs rows
theorem RowsOk.mono {α : Type} [Rp α] {K : PySem.W.Frag} {G G' H H' : Hp} {qs : List Addr} {rows : List (List α)} (e : Same G G') (eh : ∀ q ∈ qs, H' q = H q) (h : RowsOk K G H qs rows) : RowsOk K G' H' qs rows := by
  unfold RowsOk at *
  induction h with
  | nil => exact .nil
  | cons r t ih =>
    obtain ⟨vs, h1, h2⟩ := r
    exact .cons ⟨vs, by rw [eh _ (by simp)]; exact h1, h2.mono e⟩ (ih fun q hq => eh q (by simp [hq]))
instance {α : Type} [Rp α] : Ow (MT α) := ⟨fun K G H v fp x => ∃ p qs, v = .ref p ∧ fp = p :: qs ∧ fp.Nodup ∧ H p = some (.lst (qs.map V.ref)) ∧ RowsOk K G H qs x.rows, fun e eh h => by
  obtain ⟨p, qs, h0, h1, h2, h3, h4⟩ := h
  subst h1
  exact ⟨p, qs, h0, rfl, h2, by rw [eh p (by simp)]; exact h3, h4.mono e fun q hq => eh q (by simp [hq])⟩, fun h a ha o e => by
  obtain ⟨p, qs, _, rfl, _, h3, h4⟩ := h
  rcases List.mem_cons.mp ha with z | z
  · rw [z, h3] at e; cases e; exact nt_lst
  · obtain ⟨j, hj⟩ := List.mem_iff_getElem?.mp z
    obtain ⟨row, _, vs, h', _⟩ := paired_get h4 j a hj
    rw [h'] at e; cases e; exact nt_lst⟩
theorem rows_reps {α : Type} [Rp α] {K : PySem.W.Frag} {G G' H : Hp} (hs : Same G G') : ∀ {qs : List Addr} {rows : List (List α)}, (∀ q ∈ qs, G' q = H q) → RowsOk K G H qs rows → Reps K G' (qs.map V.ref) rows
  | _, _, _, .nil => .nil
  | _, _, hq, .cons r t => by
    obtain ⟨vs, h1, h2⟩ := r
    exact .cons ⟨_, vs, rfl, SqL.of (by rw [hq _ (by simp)]; exact h1), h2.mono hs⟩ (rows_reps hs (fun q h => hq q (by simp [h])) t)
instance {α : Type} [Rp α] : Fz (MT α) (List (List α)) := ⟨MT.rows, fun {K G H v fp x} hf h => by
  obtain ⟨p, qs, rfl, rfl, h2, h3, h4⟩ := h
  exact ⟨p, qs.map V.ref, rfl, SqL.of (by rw [gl_in (by simp)]; exact h3), rows_reps (gl_up hf) (fun q hq => gl_in (by simp [hq])) h4⟩⟩
def rGetL (K : PySem.W.Frag) : V → V → Hp → VK → Prop := fun o i H Q => ∃ p xs k w, o = .ref p ∧ i = .int k ∧ SqL K H p xs ∧ 0 ≤ k ∧ xs[k.toNat]? = some w ∧ Q w H
theorem pget_list : PGet X (rGetL X.K) := by
  intro pins s σ H o i ov iv Q I ro ri h
  obtain ⟨p, xs, k, w, rfl, rfl, hq, h0, hw, q⟩ := h
  cases ro
  obtain ⟨t, rfl⟩ := ri
  obtain ⟨its, r, pl, hz⟩ := I.list hq
  obtain ⟨u, hu, ru⟩ := r.get hw
  have hl := r.length
  have hn := line63
  have hlt : k.toNat < xs.length := (List.getElem?_eq_some_iff.mp hw).1
  exact wpAny_getItem_list (x := u) pl.isList h0 (by omega) (by simpa using hu) ⟨w, H, I, ru, q⟩
theorem paired_set {α β : Type} {R : α → β → Prop} {x : α} {y : β} (r : R x y) : ∀ {xs : List α} {ys : List β} (i : Nat), Paired R xs ys → Paired R (xs.set i x) (ys.set i y)
  | _, _, _, .nil => .nil
  | _, _, 0, .cons _ t => .cons r t
  | _, _, i + 1, .cons q t => .cons q (paired_set r i t)
theorem rows_set {α : Type} [Rp α] {K : PySem.W.Frag} {G H H' : Hp} {row : List α} {q : Addr} : ∀ {qs : List Addr} {rows : List (List α)} (r : Nat), qs.Nodup → qs[r]? = some q → (∃ vs, H' q = some (.lst vs) ∧ Reps K G vs row) → (∀ a ∈ qs, a ≠ q → H' a = H a) → RowsOk K G H qs rows → RowsOk K G H' qs (rows.set r row)
  | [], _, _, _, e, _, _, _ => by simp at e
  | a :: qs, _, 0, hn, e, hr, hk, .cons h t => by
    simp at e; subst e
    refine .cons hr (RowsOk.mono (Same.refl _) (fun b hb => hk b (by simp [hb]) ?_) t)
    intro z; subst z
    exact (List.nodup_cons.mp hn).1 hb
  | a :: qs, _, r + 1, hn, e, hr, hk, .cons h t => by
    have e' : qs[r]? = some q := by simpa using e
    obtain ⟨vs, h1, h2⟩ := h
    have ne : a ≠ q := fun z => by subst z; exact (List.nodup_cons.mp hn).1 (List.mem_of_getElem? e')
    exact .cons ⟨vs, by rw [hk a (by simp) ne]; exact h1, h2⟩ (rows_set r (List.nodup_cons.mp hn).2 e' hr (fun b hb hne => hk b (by simp [hb]) hne) t)
/-- t[r][c] op= e of a list of owned lists of ints -/
theorem sv_augT (i : Nat) {rows : List (List Int)} {r c y z : Int} {row : List Int} {e1 e2 e3 : Expr} {f : Int → Int → Int} (hp : PS X st (tAugS (tOp (rIxL X.K) (tVar i) (WE X e1)) (WE X e2) (WE X e3) (rGetL X.K) (ipI f) rSetL)) (h0 : Γ[i]? = some (.o (MT.mk rows))) (h1 : EV X Γ e1 r) (h2 : EV X Γ e2 c) (h3 : EV X Γ e3 y)
    (hr : 0 ≤ r) (hrow : rows[r.toNat]? = some row) (hc : 0 ≤ c) (hz : row[c.toNat]? = some z) : SV X Γ st (.nx (Γ.set i (.o (MT.mk (rows.set r.toNat (row.set c.toNat (f z y))))))) := ⟨fun B G H σ D hB hg l k => by
  obtain ⟨F, v, lf, ev, hf, p, qs, rfl, hF, hnd, hp', hrows⟩ := own_at l h0
  refine ws hp ⟨_, ev, h1 B G H σ hB hg l _ fun v1 G1 H1 g1 r1 => ?_⟩
  obtain ⟨q, hq, vs, hvs, rvs⟩ := paired_get2 hrows r.toNat row hrow
  have mem : ∀ a ∈ F i, ∀ ho, H a = some ho → H1 a = some ho := fun a _ ho e => g1.h a ho e
  refine ⟨p, qs.map V.ref, r, .ref q, rfl, r1, .inl (.inl (g1.h _ _ hp')), ?_, ?_⟩
  · have hi : ((r.toNat : Nat) : Int) = r := by omega
    rw [← hi]; exact atI_nat (by rw [List.getElem?_map, hq]; rfl)
  · refine h2 B G1 H1 σ (hB.trans g1.h) g1.gh (l.grow g1) _ fun v2 G2 H2 g2 r2 => ?_
    obtain ⟨w, hw, rw'⟩ := paired_get2 rvs c.toNat z hz
    have hvs2 : H2 q = some (.lst vs) := (g1.trans g2).h _ _ hvs
    refine ⟨q, vs, c, w, rfl, r2, .inl (.inl hvs2), hc, hw, ?_⟩
    refine h3 B G2 H2 σ (hB.trans (g1.trans g2).h) g2.gh (l.grow (g1.trans g2)) _ fun v3 G3 H3 g3 r3 => ?_
    have g := (g1.trans g2).trans g3
    have hvs3 : H3 q = some (.lst vs) := g.h _ _ hvs
    refine ⟨z, y, rw', r3, q, vs, c, c.toNat, rfl, r2, hvs3, ?_, ?_⟩
    · have hlt : c.toNat < vs.length := (List.getElem?_eq_some_iff.mp hw).1
      unfold ixN
      rw [if_pos hc, if_pos (by omega)]
    · have hqF : q ∈ F i := by rw [hF]; exact List.mem_cons_of_mem _ (List.mem_of_getElem? hq)
      have lg := lf.grow g
      have hf3 : ∀ a ∈ F i, B a = none ∧ G3 a = none := fun a ha => by
        obtain ⟨q1, q2, ho, q3⟩ := hf a ha
        exact ⟨q1, (g.fr a ho q3 (lf.nt h0 a ha ho q3)).trans q2⟩
      have hk : ∀ a, a ∉ F i → ∀ o, H3 a = some o → upd H3 q (.lst (vs.set c.toNat (.int (f z y)))) a = some o := fun a ha o e => by
        rw [upd_ne (fun z => ha (by rw [z]; exact hqF))]; exact e
      refine k G3 _ ((g.step hB).trans (Stp.mut (hB.trans g.h) g.gh hf3 hk)) σ (lg.mut (fp := F i) (d' := ot (MT.mk (rows.set r.toNat (row.set c.toNat (f z y))))) h0 ev hk (fun a ha => ?_) ?_)
      · obtain ⟨q1, q2, ho, q3⟩ := hf a ha
        refine ⟨.inl ha, q1, (hf3 a ha).2, ?_⟩
        by_cases haq : a = q
        · subst haq; exact ⟨_, upd_same⟩
        · exact ⟨ho, by rw [upd_ne haq]; exact g.h _ _ q3⟩
      · have hnd' : (p :: qs).Nodup := by rw [← hF]; exact hnd
        have hpq : p ≠ q := fun z => by subst z; exact (List.nodup_cons.mp hnd').1 (List.mem_of_getElem? hq)
        refine ⟨p, qs, rfl, hF, hnd, by rw [upd_ne hpq]; exact g.h _ _ hp', ?_⟩
        refine rows_set r.toNat (List.nodup_cons.mp hnd').2 hq ⟨_, upd_same, paired_set (R := Rp.rep X.K G3) (x := V.int (f z y)) (y := f z y) rfl _ (rvs.mono g.g)⟩ (fun a _ hne => by rw [upd_ne hne]) (hrows.mono g.g fun a ha => ?_)
        obtain ⟨_, _, ho, q3⟩ := hf a (by rw [hF]; exact List.mem_cons_of_mem _ ha)
        rw [g.h _ _ q3, q3]⟩
/-- [[..] for x in xs]: new lists in a new list -/
theorem el_lcT {α β : Type} [Rp α] [Rp β] {xs : List α} {scope : Scope} {own : List (Str × Nat)} (Γ1 : α → List Slot) (f : α → List β) (hi : IV X Γ tg iter xs)
    (ht : ∀ s H C cl fp x, TX (blkX X scope s H C cl fp) (own.map (·.2)) (wipeG Γ (own.map (·.2))) tg x (Γ1 x))
    (he : ∀ pre x post, xs = pre ++ x :: post → ∀ s H C cl fp, EN (blkX X scope s H C cl fp) (Γ1 x) elt (ML.mk (f x))) (hsz : xs.length ≤ 10000000) :
    EL X Γ tg iter [] elt scope own (MT.mk (xs.map f)) := by
  refine ⟨fun v σ H Q => ∀ s H0 C cl fp, WG (blkX X scope s H0 C cl fp) tg v σ H Q, tYes, fun σ H Q => ∀ s H0 C cl fp, WE (blkX X scope s H0 C cl fp) elt σ H Q,
    fun s H0 C cl fp => ⟨fun pins s' _ _ _ u _ I r h => h s H0 C cl fp pins s' u I r⟩, fun _ _ _ _ _ => pts_nil, fun s H0 C cl fp => ⟨fun pins s' _ _ _ I h => h s H0 C cl fp pins s' I⟩, fun B G H σ hB hg l Q q => ?_⟩
  refine hi B G H σ hB hg l _ fun J G1 H1 g1 hJ D hD => ?_
  refine ⟨fun i m H' => m = xs.length - i ∧ i ≤ xs.length ∧ ∃ G' qs, Grow G1 H1 G' H' ∧ (D :: qs).Nodup ∧ G' D = none ∧ (∀ a ∈ qs, H1 a = none ∧ G' a = none) ∧ H' D = some (.lst (qs.map V.ref)) ∧ RowsOk X.K G' H' qs ((xs.take i).map f),
    ⟨xs.length, by simp, Nat.zero_le _, G1, [], Grow.own g1.gh hD, by simp, g1.gh.free hD, by simp, upd_same, .nil⟩, ?_⟩
  rintro i m H' ⟨rfl, hi', G', qs, g', hnd, hGD, hqs, hHD, rws⟩
  have qlen : qs.length = i := by
    have := Paired.length rws
    rw [this, List.length_map, List.length_take]
    omega
  by_cases hlt : i < xs.length
  · obtain ⟨hgo, hy⟩ := hJ.1 i G' H' g'.g g'.gh hlt
    refine .inr ⟨hgo, fun H2 => ∃ G2 qs, Grow G1 H1 G2 H2 ∧ (D :: qs).Nodup ∧ G2 D = none ∧ (∀ a ∈ qs, H1 a = none ∧ G2 a = none) ∧ H2 D = some (.lst (qs.map V.ref)) ∧ RowsOk X.K G2 H2 qs ((xs.take (i + 1)).map f), fun H2 ⟨G2, qs2, a1, a2, a3, a4, a5, a6⟩ => ⟨xs.length - (i + 1), by omega, rfl, hlt, G2, qs2, a1, a2, a3, a4, a5, a6⟩, fun v H3 hv => ?_⟩
    obtain ⟨G3, x, g3, hx, rx⟩ := hy v H3 hv
    have ex : xs = xs.take i ++ x :: xs.drop (i + 1) := by
      have h1 : xs[i] = x := by rw [List.getElem?_eq_getElem hlt] at hx; exact Option.some.inj hx
      rw [← h1, List.getElem_cons_drop, List.take_append_drop]
    have et : xs.take (i + 1) = xs.take i ++ [x] := by rw [List.take_add_one, hx]; rfl
    intro s H0 C cl fp
    have lw := ((l.grow g1).grow (g'.trans g3)).wipe (own.map (·.2))
    refine ht s H0 C cl fp x B G3 H3 _ v (hB.trans (g1.trans (g'.trans g3)).h) g3.gh lw rx _ fun σ2 ew l2 => ⟨?_, ?_⟩
    · rw [ew]
      have idem : ∀ (ws : List Nat) (τ : L2.St), L2.wipe (L2.wipe τ ws) ws = L2.wipe τ ws := by
        intro ws
        induction ws with
        | nil => intro τ; rfl
        | cons w ws ih =>
          intro τ
          show (L2.wipe ((L2.wipe τ ws).set w none) ws).set w none = (L2.wipe τ ws).set w none
          by_cases hw : w ∈ ws
          · rw [wipe_set hw, ih]
          · have : ∀ (us : List Nat) (τ : L2.St), w ∉ us → L2.wipe (τ.set w none) us = (L2.wipe τ us).set w none := by
              intro us
              induction us with
              | nil => intro τ _; rfl
              | cons u us ih2 =>
                intro τ hu
                show (L2.wipe (τ.set w none) us).set u none = ((L2.wipe τ us).set u none).set w none
                rw [ih2 τ (fun h => hu (List.mem_cons_of_mem _ h)), List.set_comm _ _ (fun e : w = u => hu (by rw [e]; exact List.mem_cons_self))]
            rw [this ws _ hw, List.set_set, ih]
      exact idem _ _
    · have hBH := hB.trans (g1.trans (g'.trans g3)).h
      intro s H0 C cl fp
      refine he _ x _ ex s H0 C cl fp B G3 H3 σ2 hBH g3.gh l2 _ fun y fq G5 H5 g5 hfq oky => ?_
      obtain ⟨q, vs, rfl, rfl, hq, rq⟩ := oky
      obtain ⟨hq3, hq5, _⟩ := hfq q (by simp)
      have gA := g3.trans g5
      have hq' : H' q = none := g3.h.free hq3
      have qnD : q ≠ D := fun z => by subst z; rw [hHD] at hq'; cases hq'
      have oldq : ∀ a ∈ qs, ∃ vs0, H' a = some (.lst vs0) := fun a ha => by
        obtain ⟨j, hj⟩ := List.mem_iff_getElem?.mp ha
        obtain ⟨row, _, vs', h', _⟩ := paired_get rws j a hj
        exact ⟨_, h'⟩
      have qnq : q ∉ qs := fun z => by obtain ⟨ho, e⟩ := oldq q z; rw [hq'] at e; cases e
      have Dnq : D ∉ qs := (List.nodup_cons.mp hnd).1
      have hG5 : G5 D = none := (gA.fr D _ hHD).trans hGD
      refine ⟨qs.map V.ref, gA.h _ _ hHD, ?_, G5, qs ++ [q], ?_, ?_, hG5, fun a ha => ?_, by rw [List.map_append]; exact upd_same, ?_⟩
      · rw [List.length_map, qlen, sizeLine_eq]; omega
      · have gB := g'.trans gA
        refine ⟨gB.g, fun b u e => ?_, fun b u e => ?_, gB.fr0⟩
        · rw [upd_ne (ne_of_none e hD)]; exact gB.h b u e
        · rw [upd_ne (ne_of_none e hG5)]; exact gB.gh b u e
      · rw [List.nodup_cons]
        refine ⟨by simp [Dnq, Ne.symm qnD], ?_⟩
        rw [List.nodup_append]
        exact ⟨(List.nodup_cons.mp hnd).2, by simp, fun a ha b hb z => by have : b = q := by simpa using hb
                                                                          subst this; subst z; exact qnq ha⟩
      · rcases List.mem_append.mp ha with ha | ha
        · obtain ⟨h1, h2⟩ := hqs a ha
          obtain ⟨ho, e⟩ := oldq a ha
          exact ⟨h1, (gA.fr a _ e).trans h2⟩
        · have : a = q := by simpa using ha
          subst this
          exact ⟨g'.h.free hq', hq5⟩
      · rw [et, List.map_append]
        refine paired_app (R := fun q row => ∃ vs, upd H5 D _ q = some (.lst vs) ∧ Reps X.K G5 vs row) (RowsOk.mono gA.g (fun a ha => ?_) rws) (.cons ⟨vs, by rw [upd_ne qnD]; exact hq, rq⟩ .nil)
        obtain ⟨ho, e⟩ := oldq a ha
        rw [upd_ne (fun z => Dnq (by rw [← z]; exact ha)), gA.h _ _ e, e]
  · have ei : i = xs.length := by omega
    subst ei
    rw [List.take_length] at rws
    refine .inl ⟨hJ.2 G' H' g'.g g'.gh, q (.ref D) (D :: qs) G' H' (g1.trans g') (fun a ha => ?_) ⟨D, qs, rfl, rfl, hnd, hHD, rws⟩⟩
    rcases List.mem_cons.mp ha with ha | ha
    · subst ha; exact ⟨g1.h.free hD, hGD, _, hHD⟩
    · obtain ⟨j, hj⟩ := List.mem_iff_getElem?.mp ha
      obtain ⟨row, _, vs', h', _⟩ := paired_get rws j a hj
      exact ⟨g1.h.free (hqs a ha).1, (hqs a ha).2, _, h'⟩
end
end Wl
namespace Wl
open PySem PySem.Spec PyProof.Rows L2
/-- t[r][c] op= y, as a table -/
def augT (rows : List (List Int)) (r c : Int) (f : Int → Int → Int) (y : Int) : List (List Int) := rows.set r.toNat ((rows.getD r.toNat []).set c.toNat (f ((rows.getD r.toNat []).getD c.toNat 0) y))
theorem sv_augTD {X : Cx} {Γ : List Slot} {st : Stmt} (i : Nat) {rows : List (List Int)} {r c y : Int} {e1 e2 e3 : Expr} {f : Int → Int → Int} (hp : PS X st (tAugS (tOp (rIxL X.K) (tVar i) (WE X e1)) (WE X e2) (WE X e3) (rGetL X.K) (ipI f) rSetL)) (h0 : Γ[i]? = some (.o (MT.mk rows))) (h1 : EV X Γ e1 r) (h2 : EV X Γ e2 c) (h3 : EV X Γ e3 y)
    (hs : 0 ≤ r ∧ r < (rows.length : Int) ∧ 0 ≤ c ∧ c < ((rows.getD r.toNat []).length : Int)) : SV X Γ st (.nx (Γ.set i (.o (MT.mk (augT rows r c f y))))) := by
  obtain ⟨a1, a2, a3, a4⟩ := hs
  have hr : rows[r.toNat]? = some (rows.getD r.toNat []) := by
    have h : r.toNat < rows.length := by omega
    rw [List.getD_eq_getElem?_getD, List.getElem?_eq_getElem h]; rfl
  have get : ∀ (l : List Int) (k : Nat), k < l.length → l[k]? = some (l.getD k 0) := fun l k h => by
    rw [List.getD_eq_getElem?_getD, List.getElem?_eq_getElem h]; rfl
  have hc : (rows.getD r.toNat [])[c.toNat]? = some ((rows.getD r.toNat []).getD c.toNat 0) := get _ _ (by omega)
  exact sv_augT i hp h0 h1 h2 h3 a1 hr a3 hc
end Wl

set_option maxRecDepth 100000
set_option maxHeartbeats 2000000
namespace Wl
open PySem PySem.Spec PyProof.Rows L2
section
variable {X : Cx} {Γ Γ' : List Slot} {st : Stmt} {sts els rest : List Stmt} {a b c d e tg iter elt : Expr} {es elts ifs : List Expr} {pos : Pos} {o : Out}
/-! ### more iterables -/
theorem iters_of {α : Type} [Rp α] {K : PySem.W.Frag} {J : It} {G1 : Hp} {xs : List α} (n : Nat) (hn : xs.length = n) (h1 : ∀ i G2 H2, Same G1 G2 → Same G2 H2 → i < n → J.go i H2 ∧ ∀ v H3, J.yld i H2 v H3 → ∃ G3 x, Grow G2 H2 G3 H3 ∧ xs[i]? = some x ∧ Rp.rep K G3 v x) (h2 : ∀ G2 H2, Same G1 G2 → Same G2 H2 → J.stop n H2) : Iters K J G1 xs := by
  subst hn; exact ⟨h1, h2⟩
theorem iters_down {K : PySem.W.Frag} {G : Hp} {hi : Int} {n : Nat} : Iters K (Itc hi (-1) n) G (iseq (hi - n + 1) n).reverse := by
  refine iters_of n (by simp [iseq_len]) (fun i G2 H2 g h hi' => ⟨hi', fun v H3 hy => ?_⟩) fun G2 H2 g h => Nat.le_refl _
  obtain ⟨e1, e2⟩ := hy
  subst e1 e2
  refine ⟨G2, hi + (i : Nat) * (-1), Grow.refl h, ?_, rfl⟩
  rw [List.getElem?_reverse (by rw [iseq_len]; exact hi'), iseq_len, iseq_get (by omega)]
  congr 1
  omega
/-- reversed(range(..)) -/
theorem iv_revRange {p : Pos} {lo hi : Int} (hm : X.mg "reversed" = none) (h : ER X Γ a lo hi) (hb : -(2 ^ 62) ≤ lo ∧ lo < 2 ^ 62 ∧ -(2 ^ 62) ≤ hi ∧ hi < 2 ^ 62) (hg : Gl X "reversed" := by rfl) (hs : starEach [a] X.env = (false, eval a X.env) :: starEach [] X.env := by rfl) :
    IV X Γ tg (.Call (.Name "reversed" p) [a] [] pos) (iseq lo (hi - lo).toNat).reverse := ⟨fun B G H σ hB hgh l R q =>
  wi (pi_revR (tr := fun σ2 H2 Q2 => σ2 = σ ∧ H2 = H ∧ ∀ G' H', Grow G H G' H' → Q2 lo hi H') hg hm (fun pins s σ2 H2 Q2 I ⟨e1, e2, q2⟩ => by subst e1 e2; exact h B G _ _ hB hgh l Q2 q2 pins s I) hs)
    ⟨rfl, rfl, fun G1 H1 g1 => ⟨hb.1, hb.2.1, hb.2.2.1, hb.2.2.2, q _ G1 H1 g1 (by
      have h := iters_down (K := X.K) (G := G1) (hi := lo + (((hi - lo).toNat : Nat) : Int) - 1) (n := (hi - lo).toNat)
      rw [show lo + (((hi - lo).toNat : Nat) : Int) - 1 - ((hi - lo).toNat : Nat) + 1 = lo by omega] at h
      exact h)⟩⟩⟩
/-- range(i, j, -1) -/
theorem iv_rangeDown {p : Pos} {i j : Int} (hm : X.mg "range" = none) (ha : EV X Γ a i) (hb : EV X Γ b j) (hc : EV X Γ c (-1 : Int)) (hbd : -(2 ^ 62) ≤ i ∧ i < 2 ^ 62 ∧ -(2 ^ 62) ≤ j ∧ j < 2 ^ 62) (hle : j ≤ i) (hg : Gl X "range" := by rfl)
    (hs : starEach [a, b, c] X.env = (false, eval a X.env) :: starEach [b, c] X.env := by rfl) (hs2 : starEach [b, c] X.env = (false, eval b X.env) :: starEach [c] X.env := by rfl) (hs3 : starEach [c] X.env = (false, eval c X.env) :: starEach [] X.env := by rfl)
    (hpl : (backTo pos (starEach [b, c] X.env)).any (·.1) = false := by rfl) : IV X Γ tg (.Call (.Name "range" p) [a, b, c] [] pos) (iseq (j + 1) (i - j).toNat).reverse := ⟨fun B G H σ hB hgh l R q =>
  wi (pi_range3 hg hm pa hs hpl) (ea_cons ha (ea_cons hb (ea_cons hc ea_nil hs3) hs2) hs B G H σ hB hgh l _ fun vs G1 H1 g1 r1 => by
    cases r1 with | cons r1 t => cases t with | cons r2 t => cases t with | cons r3 t => cases t; exact ⟨i, j, -1, (i - j).toNat, by rw [show _ = V.int i from r1, show _ = V.int j from r2, show _ = V.int (-1) from r3], RgC.neg hbd.1 hbd.2.1 hbd.2.2.1 hbd.2.2.2, q _ G1 H1 g1 (by
      have h := iters_down (K := X.K) (G := G1) (hi := i) (n := (i - j).toNat)
      rw [show i - ((i - j).toNat : Nat) + 1 = j + 1 by omega] at h
      exact h)⟩)⟩
/-- reversed(xs) -/
theorem iv_reversed {p : Pos} {α : Type} [Rp α] {xs : List α} (hm : X.mg "reversed" = none) (h : EV X Γ a xs) (hg : Gl X "reversed" := by rfl) (hs : starEach [a] X.env = [(false, eval a X.env)] := by rfl) (hs1 : starEach [a] X.env = (false, eval a X.env) :: starEach [] X.env := by rfl) :
    IV X Γ tg (.Call (.Name "reversed" p) [a] [] pos) xs.reverse := ⟨fun B G H σ hB hgh l R q =>
  wi (pi_reversed hg hm pa hs) (ea_cons h ea_nil hs1 B G H σ hB hgh l _ fun vs G1 H1 g1 r1 => by
    cases r1 with
    | cons r1 t =>
      cases t
      obtain ⟨p, ws, rfl, hs, hr⟩ := r1
      refine ⟨p, ws, rfl, Same.seq g1.gh hs, q _ G1 H1 g1 (iters_of ws.length (by simp [hr.len]) (fun i G2 H2 g h hi => ?_) fun G2 H2 g h => Nat.le_refl _)⟩
      have hlt : ws.length - 1 - i < xs.length := by rw [← hr.len]; omega
      obtain ⟨v, hv, rv⟩ := paired_get2 hr (ws.length - 1 - i) xs[ws.length - 1 - i] (List.getElem?_eq_getElem hlt)
      refine ⟨⟨hi, ws, v, Same.seq (g.trans h) hs, hv⟩, fun u H3 hy => ?_⟩
      obtain ⟨e, hy⟩ := hy
      subst e
      have e2 := hy ws (Same.seq (g.trans h) hs)
      rw [hv] at e2
      cases e2
      refine ⟨G2, _, Grow.refl h, ?_, Rp.mono g rv⟩
      rw [List.getElem?_reverse (by rw [← hr.len]; exact hi), ← hr.len]
      exact List.getElem?_eq_getElem hlt)⟩
/-- enumerate(xs) -/
def enumL {α : Type} (xs : List α) : List (T2 Int α) := xs.mapIdx fun i x => T2.mk (i : Int) x
theorem iv_enum {p tpos : Pos} {kk : Nat} {α : Type} [Rp α] {xs : List α} (hm : X.mg "enumerate" = none) (h : EV X Γ a xs) (hg : Gl X "enumerate" := by rfl) (hs : starEach [a] X.env = [(false, eval a X.env)] := by rfl) (hs1 : starEach [a] X.env = (false, eval a X.env) :: starEach [] X.env := by rfl) :
    IV X Γ (.Tuple elts kk tpos) (.Call (.Name "enumerate" p) [a] [] pos) (enumL xs) := ⟨fun B G H σ hB hgh l R q =>
  wi (pi_enum hg hm pa hs) (ea_cons h ea_nil hs1 B G H σ hB hgh l _ fun vs G1 H1 g1 r1 => by
    cases r1 with
    | cons r1 t =>
      cases t
      obtain ⟨p, ws, rfl, hs, hr⟩ := r1
      refine ⟨p, ws, rfl, Same.seq g1.gh hs, q _ G1 H1 g1 (iters_of ws.length (by simp [enumL, hr.len]) (fun i G2 H2 g h hi => ?_) fun G2 H2 g h => ⟨ws, Same.seq (g.trans h) hs, Nat.le_refl _⟩)⟩
      have hlt : i < xs.length := by rw [← hr.len]; exact hi
      obtain ⟨v, hv, rv⟩ := paired_get2 hr i xs[i] (List.getElem?_eq_getElem hlt)
      refine ⟨⟨ws, v, Same.seq (g.trans h) hs, hv⟩, fun u H3 hy => ?_⟩
      obtain ⟨T, x, e, hT, e3, hy⟩ := hy
      subst e e3
      have e2 := hy ws (Same.seq (g.trans h) hs)
      rw [hv] at e2
      cases e2
      have gn := Grow.new (o := .tup [.int (i : Nat), v]) h hT
      refine ⟨upd G2 T (.tup [.int (i : Nat), v]), T2.mk (i : Int) xs[i], gn, ?_, T, .int (i : Nat), v, rfl, SqT.of upd_same, rfl, Rp.mono (g.trans gn.g) rv⟩
      unfold enumL
      rw [List.getElem?_mapIdx, List.getElem?_eq_getElem hlt]
      rfl)⟩
/-- zip(xs, ys) -/
def zipL {α β : Type} (xs : List α) (ys : List β) : List (T2 α β) := (xs.zip ys).map fun p => T2.mk p.1 p.2
theorem iv_zip {p tpos : Pos} {kk : Nat} {α β : Type} [Rp α] [Rp β] {xs : List α} {ys : List β} (hm : X.mg "zip" = none) (h : EV X Γ a xs) (h2 : EV X Γ b ys) (hg : Gl X "zip" := by rfl) (hs : starEach [a, b] X.env = (false, eval a X.env) :: starEach [b] X.env := by rfl) (hs1 : starEach [b] X.env = (false, eval b X.env) :: starEach [] X.env := by rfl) (hpl : (backTo pos (starEach [b] X.env)).any (·.1) = false := by rfl) :
    IV X Γ (.Tuple elts kk tpos) (.Call (.Name "zip" p) [a, b] [] pos) (zipL xs ys) := ⟨fun B G H σ hB hgh l R q =>
  wi (pi_zip hg hm pa hs hpl) (ea_cons h (ea_cons h2 ea_nil hs1) hs B G H σ hB hgh l _ fun vs G1 H1 g1 r1 => by
    cases r1 with
    | cons r1 t =>
      cases t with
      | cons r2 t =>
        cases t
        obtain ⟨p, ws, rfl, hs, hr⟩ := r1
        obtain ⟨p2, ws2, rfl, hs2, hr2⟩ := r2
        refine ⟨p, p2, ws, ws2, rfl, Same.seq g1.gh hs, Same.seq g1.gh hs2, q _ G1 H1 g1 (iters_of (min xs.length ys.length) (by simp [zipL]) (fun i G2 H2 g h hi => ?_) fun G2 H2 g h => ⟨ws, ws2, Same.seq (g.trans h) hs, Same.seq (g.trans h) hs2, by have l1 : ws.length = xs.length := hr.len; have l2 : ws2.length = ys.length := hr2.len; omega⟩)⟩
        have hlt : i < xs.length := by omega
        have hlt2 : i < ys.length := by omega
        obtain ⟨v, hv, rv⟩ := paired_get2 hr i xs[i] (List.getElem?_eq_getElem hlt)
        obtain ⟨v2, hv2, rv2⟩ := paired_get2 hr2 i ys[i] (List.getElem?_eq_getElem hlt2)
        refine ⟨⟨ws, ws2, v, v2, Same.seq (g.trans h) hs, Same.seq (g.trans h) hs2, hv, hv2⟩, fun u H3 hy => ?_⟩
        obtain ⟨T, x, y, e, hT, e3, hy, hy2⟩ := hy
        subst e e3
        have e2 := hy ws (Same.seq (g.trans h) hs)
        rw [hv] at e2
        cases e2
        have e2 := hy2 ws2 (Same.seq (g.trans h) hs2)
        rw [hv2] at e2
        cases e2
        have gn := Grow.new (o := .tup [v, v2]) h hT
        refine ⟨upd G2 T (.tup [v, v2]), T2.mk xs[i] ys[i], gn, ?_, T, v, v2, rfl, SqT.of upd_same, Rp.mono (g.trans gn.g) rv, Rp.mono (g.trans gn.g) rv2⟩
        unfold zipL
        rw [List.getElem?_map, List.getElem?_zip_eq_some (z := (xs[i], ys[i])) |>.mpr ⟨List.getElem?_eq_getElem hlt, List.getElem?_eq_getElem hlt2⟩]
        rfl)⟩
/-- a text, sign by sign -/
def signs (z : Str) : List Str := z.cps.toList.map fun c => ⟨#[c]⟩
theorem iv_str {z : Str} (h : EV X Γ iter z) : IV X Γ tg iter (signs z) := ⟨fun B G H σ hB hg l R q =>
  wi (pi_str pe) (h B G H σ hB hg l _ fun v G1 H1 g1 r1 => ⟨z, r1, q _ G1 H1 g1 (iters_of z.cps.size (by simp [signs]) (fun i G2 H2 g h hi => ⟨hi, fun u H3 hy => by
    obtain ⟨e, c, hc, e2⟩ := hy
    subst e e2
    refine ⟨G2, ⟨#[c]⟩, Grow.refl h, ?_, rfl⟩
    unfold signs
    rw [List.getElem?_map, Array.getElem?_toList, hc]
    rfl⟩) fun G2 H2 g h => Nat.le_refl _)⟩)⟩

/-! ### None or a datum -/
class NN (α : Type) [Rp α] : Prop where
  nn : ∀ {K : PySem.W.Frag} {G : Hp} {v : V} {x : α}, Rp.rep K G v x → v ≠ .non
instance : NN Int := ⟨fun {K G v x} h e => by have h : v = .int x := h; rw [e] at h; cases h⟩
instance : NN Bool := ⟨fun {K G v x} h e => by have h : v = .bl x := h; rw [e] at h; cases h⟩
instance : NN Str := ⟨fun {K G v x} h e => by have h : v = .str x := h; rw [e] at h; cases h⟩
instance {α : Type} [Rp α] : NN (List α) := ⟨fun h e => by obtain ⟨p, vs, h, _⟩ := h; rw [e] at h; cases h⟩
instance {α : Type} [Rp α] : NN (T1 α) := ⟨fun h e => by obtain ⟨p, v1, h, _⟩ := h; rw [e] at h; cases h⟩
instance {α β : Type} [Rp α] [Rp β] : NN (T2 α β) := ⟨fun h e => by obtain ⟨p, v1, v2, h, _⟩ := h; rw [e] at h; cases h⟩
instance {α β γ : Type} [Rp α] [Rp β] [Rp γ] : NN (T3 α β γ) := ⟨fun h e => by obtain ⟨p, v1, v2, v3, h, _⟩ := h; rw [e] at h; cases h⟩
instance {α β γ δ : Type} [Rp α] [Rp β] [Rp γ] [Rp δ] : NN (T4 α β γ δ) := ⟨fun h e => by obtain ⟨p, v1, v2, v3, v4, h, _⟩ := h; rw [e] at h; cases h⟩
instance {α β γ δ ε : Type} [Rp α] [Rp β] [Rp γ] [Rp δ] [Rp ε] : NN (T5 α β γ δ ε) := ⟨fun h e => by obtain ⟨p, v1, v2, v3, v4, v5, h, _⟩ := h; rw [e] at h; cases h⟩
theorem ev_some {α : Type} [Rp α] [NN α] {x : α} (h : EV X Γ e x) : EV X Γ e (some x) := ⟨fun B G H σ hB hg l Q q => h B G H σ hB hg l Q fun v G1 H1 g1 r1 => q v G1 H1 g1 ⟨r1, NN.nn r1⟩⟩
theorem ev_oN {α : Type} [Rp α] (h : EV X Γ e ()) : EV X Γ e (none : Option α) := ⟨fun B G H σ hB hg l Q q => h B G H σ hB hg l Q fun v G1 H1 g1 r1 => q v G1 H1 g1 r1⟩
/-- known not to be None -/
theorem ev_get {α : Type} [Rp α] {x : Option α} {y : α} (h : EV X Γ e x) (hx : x = some y) : EV X Γ e y := ⟨fun B G H σ hB hg l Q q => h B G H σ hB hg l Q fun v G1 H1 g1 r1 => by subst hx; exact q v G1 H1 g1 r1.1⟩
theorem opt_none {α : Type} [Rp α] {K : PySem.W.Frag} {G : Hp} {v : V} {x : Option α} (r : Rp.rep K G v x) : decide (v = .non) = x.isNone := by
  cases x with
  | none => rw [show v = .non from r]; rfl
  | some y => exact decide_eq_false r.2
theorem ev_isN {α : Type} [Rp α] {x : Option α} {j : Nat} {pos' : Pos} (h : EV X Γ a x) : EV X Γ (.Compare a [.Is] [.Constant .none j pos'] pos) x.isNone := ⟨fun B G H σ hB hg l Q q =>
  we (pe_cmp (pc_isN pe) rfl) (h B G H σ hB hg l _ fun v G1 H1 g1 r1 => by rw [opt_none r1]; exact q _ G1 H1 g1 rfl)⟩
theorem ev_notN {α : Type} [Rp α] {x : Option α} {j : Nat} {pos' : Pos} (h : EV X Γ a x) : EV X Γ (.Compare a [.IsNot] [.Constant .none j pos'] pos) (!x.isNone) := ⟨fun B G H σ hB hg l Q q =>
  we (pe_cmp (pc_notN pe) rfl) (h B G H σ hB hg l _ fun v G1 H1 g1 r1 => by rw [opt_none r1]; exact q _ G1 H1 g1 rfl)⟩
theorem et_isN {α : Type} [Rp α] {x : Option α} {j : Nat} {pos' : Pos} (h : EV X Γ a x) : ET X Γ (.Compare a [.Is] [.Constant .none j pos'] pos) x.isNone := ⟨fun B G H σ hB hg l Q q =>
  wt (pt_cmp (pc_isN pe) rfl) (h B G H σ hB hg l _ fun v G1 H1 g1 r1 => ⟨_, rfl, by rw [opt_none r1]; exact q G1 H1 g1⟩)⟩
theorem et_notN {α : Type} [Rp α] {x : Option α} {j : Nat} {pos' : Pos} (h : EV X Γ a x) : ET X Γ (.Compare a [.IsNot] [.Constant .none j pos'] pos) (!x.isNone) := ⟨fun B G H σ hB hg l Q q =>
  wt (pt_cmp (pc_notN pe) rfl) (h B G H σ hB hg l _ fun v G1 H1 g1 r1 => ⟨_, rfl, by rw [opt_none r1]; exact q G1 H1 g1⟩)⟩
instance : Sc (Option Int) := ⟨fun x => match x with
  | none => .non
  | some i => .int i, fun {K G v x} h => by
  cases x with
  | none => exact h
  | some i => exact h.1, fun x y => by cases x <;> cases y <;> rfl, fun x y h => by
  cases x <;> cases y
  · rfl
  · cases h
  · cases h
  · exact congrArg some (V.int.inj h)⟩
/-- isinstance of None or a datum -/
theorem ev_isiO {α : Type} [Rp α] [Ty1 α] {x : Option α} {T : String} {r r0 : Bool} {p : Pos} (hm : X.mg "isinstance" = none) (ha : EV X Γ a x) (hb : EV X Γ b (TyN.mk T)) (hr : kitB (Ty1.t α) T = some r) (hr0 : kitB "NoneType" T = some r0) (hg : Gl X "isinstance" := by rfl) (hs : starEach [a, b] X.env = (false, eval a X.env) :: starEach [b] X.env := by rfl) (hs2 : starEach [b] X.env = (false, eval b X.env) :: starEach [] X.env := by rfl)
    (hpl : (backTo pos (starEach [b] X.env)).any (·.1) = false := by rfl) : EV X Γ (.Call (.Name "isinstance" p) [a, b] [] pos) (bif x.isNone then r0 else r) := by
  cases x with
  | none => exact ev_isi (α := Unit) (x := ()) hm ⟨fun B G H σ hB hg l Q q => ha B G H σ hB hg l Q fun v G1 H1 g1 r1 => q v G1 H1 g1 r1⟩ hb hr0 hg hs hs2 hpl
  | some y => exact ev_isi (α := α) (x := y) hm (ev_get ha rfl) hb hr hg hs hs2 hpl

/-! ### stores into one's own list -/
theorem sv_setL (i : Nat) {α : Type} [Rp α] {xs : List α} {r : Int} {x : α} {e1 e2 : Expr} (hp : PS X st (tAsg (WE X e2) (gSub (tVar i) (WE X e1) rSetL))) (h0 : Γ[i]? = some (.l xs)) (h2 : EV X Γ e2 x) (h1 : EV X Γ e1 r) (hr : 0 ≤ r ∧ r < (xs.length : Int)) : SV X Γ st (.nx (Γ.set i (.l (xs.set r.toNat x)))) := ⟨fun B G H σ D hB hg l k => by
  obtain ⟨F, p, vs, lf, hF, e1', hbp, hgp, hh, rr⟩ := ownL l h0
  refine ws hp (h2 B G H σ hB hg l _ fun v G1 H1 g1 r1 => ⟨_, e1', h1 B G1 H1 σ (hB.trans g1.h) g1.gh (l.grow g1) _ fun u G2 H2 g2 r2 => ?_⟩)
  have g := g1.trans g2
  have hgp2 := (g.fr p _ hh).trans hgp
  refine ⟨p, vs, r, r.toNat, rfl, r2, g.h _ _ hh, ?_, ?_⟩
  · have := rr.len
    unfold ixN
    rw [if_pos hr.1, if_pos (by omega)]
  · exact k G2 _ ((g.step hB).trans (Stp.mutL (hB.trans g.h) g.gh hbp hgp2)) σ ((lf.grow g).mutL h0 hF e1' hbp hgp2 (paired_set (Rp.mono g2.g r1) _ (rr.mono g.g)))⟩
/-- xs[::-1], new -/
theorem en_rev {α : Type} [Rp α] {xs : List α} {k : Nat} {p1 p2 p3 : Pos} (h : EV X Γ a xs) : EN X Γ (.Subscript a (.Slice none none (some (.UnaryOp .USub (.Constant (.int 1) k p1) p2)) p3) pos) (ML.mk xs.reverse) := ⟨fun B G H σ hB hg l Q q =>
  we (pe_revL pe) (h B G H σ hB hg l _ fun v G1 H1 g1 r1 => by
    obtain ⟨p, vs, rfl, hs, hr⟩ := r1
    refine ⟨p, vs, rfl, Same.seq g1.gh hs, fun r hn => q (.ref r) [r] G1 _ (g1.trans (Grow.own g1.gh hn)) (one_new (g1.h.free hn) (g1.gh.free hn)) ⟨r, _, rfl, rfl, upd_same, ?_⟩⟩
    have : ∀ {vs : List V} {xs : List α}, Reps X.K G1 vs xs → Reps X.K G1 vs.reverse xs.reverse := by
      intro vs xs r
      induction r with
      | nil => exact .nil
      | cons r1 t ih => rw [List.reverse_cons, List.reverse_cons]; exact paired_app ih (.cons r1 .nil)
    exact this hr)⟩

/-! ### dicts with int keys, one's own -/
structure MD (β : Type) where
  kvs : List (Int × β)
def DRep {β : Type} [Rp β] (K : PySem.W.Frag) (G : Hp) (ws : List (Key × V)) (kvs : List (Int × β)) : Prop := Paired (fun w y => w.1 = Sum.inl y.1 ∧ Rp.rep K G w.2 y.2) ws kvs
theorem DRep.mono {β : Type} [Rp β] {K : PySem.W.Frag} {G G' : Hp} {ws : List (Key × V)} {kvs : List (Int × β)} (e : Same G G') (h : DRep K G ws kvs) : DRep K G' ws kvs := Paired.mapP h fun _ _ r => ⟨r.1, Rp.mono e r.2⟩
instance {β : Type} [Rp β] : Ow (MD β) := ⟨fun K G H v fp x => ∃ p ws, v = .ref p ∧ fp = [p] ∧ H p = some (.dK ws) ∧ DRep K G ws x.kvs, fun e eh h => by obtain ⟨p, ws, h0, h1, h2, hr⟩ := h; exact ⟨p, ws, h0, h1, by rw [eh p (by rw [h1]; simp)]; exact h2, hr.mono e⟩, fun h => by obtain ⟨p, vs, _, rfl, h2, _⟩ := h; exact nt_one h2 nt_dK⟩
/-- a dict, read only -/
structure DV (β : Type) where
  kvs : List (Int × β)
instance {β : Type} [Rp β] : Rp (DV β) := ⟨fun K G v x => ∃ p ws, v = .ref p ∧ Rd G p (.dK ws) ∧ DRep K G ws x.kvs, fun e h => by
  obtain ⟨p, ws, h0, h1, hr⟩ := h
  refine ⟨p, ws, h0, ?_, hr.mono e⟩
  rcases h1 with h1 | ⟨o, h1⟩
  · exact .inl (e _ _ h1)
  · exact .inr ⟨o, e _ _ h1⟩⟩
instance {β : Type} [Rp β] : Fz (MD β) (DV β) := ⟨fun x => ⟨x.kvs⟩, fun {K G H v fp x} hf h => by
  obtain ⟨p, ws, rfl, rfl, h2, r⟩ := h
  exact ⟨p, ws, rfl, .inl (by rw [gl_in (by simp)]; exact h2), r.mono (gl_up hf)⟩⟩
def dput {β : Type} (kvs : List (Int × β)) (k : Int) (v : β) : List (Int × β) := if (kvs.any fun p => decide (p.1 = k)) = true then kvs.map (fun p => if p.1 = k then (p.1, v) else p) else kvs ++ [(k, v)]
def dget {β : Type} (kvs : List (Int × β)) (k : Int) : Option β := (kvs.find? fun p => decide (p.1 = k)).map (·.2)
theorem inl_dec (a b : Int) : decide ((Sum.inl a : Key) = Sum.inl b) = decide (a = b) := by
  by_cases h : a = b
  · subst h; simp
  · rw [decide_eq_false h, decide_eq_false fun e => h (Sum.inl.inj e)]
theorem DRep.any {β : Type} [Rp β] {K : PySem.W.Frag} {G : Hp} {ws : List (Key × V)} {kvs : List (Int × β)} (h : DRep K G ws kvs) (k : Int) : (ws.any fun w => decide (w.1 = Sum.inl k)) = kvs.any fun p => decide (p.1 = k) := by
  unfold DRep at h
  induction h with
  | nil => rfl
  | cons r t ih => rw [List.any_cons, List.any_cons, ih, r.1, inl_dec]
theorem DRep.get {β : Type} [Rp β] {K : PySem.W.Frag} {G : Hp} {ws : List (Key × V)} {kvs : List (Int × β)} (h : DRep K G ws kvs) (k : Int) : match dget kvs k with
    | none => valV ws (Sum.inl k) = none
    | some y => ∃ v, valV ws (Sum.inl k) = some v ∧ Rp.rep K G v y := by
  unfold DRep at h
  induction h with
  | nil => rfl
  | @cons w y ws kvs r t ih =>
    unfold dget valV at *
    rw [List.find?_cons, List.find?_cons, r.1, inl_dec]
    by_cases e : y.1 = k
    · rw [decide_eq_true e]; exact ⟨_, rfl, r.2⟩
    · rw [decide_eq_false e]; exact ih
theorem DRep.put {β : Type} [Rp β] {K : PySem.W.Frag} {G : Hp} {ws : List (Key × V)} {kvs : List (Int × β)} (h : DRep K G ws kvs) (k : Int) {v : V} {y : β} (r : Rp.rep K G v y) : DRep K G (putK ws (Sum.inl k) v) (dput kvs k y) := by
  unfold putK dput
  rw [h.any k]
  split
  · rename_i hh
    clear hh
    unfold DRep at *
    induction h with
    | nil => exact .nil
    | @cons w z ws kvs q t ih =>
      refine .cons ?_ ih
      dsimp only
      by_cases e : z.1 = k
      · rw [if_pos e, if_pos (by rw [q.1, e])]; exact ⟨q.1, r⟩
      · rw [if_neg e, if_neg (by rw [q.1]; exact fun z => e (Sum.inl.inj z))]; exact q
  · exact paired_app h (.cons ⟨rfl, r⟩ .nil)
theorem DRep.keys {β : Type} [Rp β] {K : PySem.W.Frag} {G : Hp} {ws : List (Key × V)} {kvs : List (Int × β)} (h : DRep K G ws kvs) : ws.map (·.1) = (kvs.map (·.1)).map Sum.inl := by
  unfold DRep at h
  induction h with
  | nil => rfl
  | cons r t ih => rw [List.map_cons, List.map_cons, List.map_cons, ih, r.1]
theorem DRep.len {β : Type} [Rp β] {K : PySem.W.Frag} {G : Hp} {ws : List (Key × V)} {kvs : List (Int × β)} (h : DRep K G ws kvs) : ws.length = kvs.length := Paired.length h
/-- {k: v} -/
theorem en_disp1 {β : Type} [Rp β] {k : Int} {v : β} (hp : PE X c (tDisp [(WE X a, WE X b)])) (h1 : EV X Γ a k) (h2 : EV X Γ b v) : EN X Γ c (MD.mk [(k, v)]) := ⟨fun B G H σ hB hg l Q q =>
  we hp fun p hn => by
    have g0 := Grow.own (o := .dK []) hg hn
    show WE X a σ _ _
    refine h1 B G _ σ (hB.trans g0.h) g0.gh (l.grow g0) _ fun x G1 H1 g1 r1 => ?_
    refine h2 B G1 H1 σ (hB.trans (g0.trans g1).h) g1.gh (l.grow (g0.trans g1)) _ fun y G2 H2 g2 r2 => ?_
    have g := (g0.trans g1).trans g2
    have e2 : H2 p = some (.dK []) := (g1.trans g2).h _ _ upd_same
    have hgp : G2 p = none := ((g1.trans g2).fr p _ upd_same).trans (hg.free hn)
    refine ⟨e2, [(Sum.inl k, y)], by rw [show x = V.int k from r1]; rfl, Nat.le_of_ble_eq_true rfl, q (.ref p) [p] G2 _ ⟨g.g, fun b u e => ?_, fun b u e => ?_, g.fr0⟩ (one_new hn hgp) ⟨p, _, rfl, rfl, upd_same, ?_⟩⟩
    · rw [upd_ne (ne_of_none e hn)]; exact g.h b u e
    · rw [upd_ne (ne_of_none e hgp)]; exact g.gh b u e
    · show DRep X.K G2 [(Sum.inl k, y)] [(k, v)]
      exact .cons ⟨rfl, r2⟩ .nil⟩
/-- {} -/
theorem en_dict0 {β : Type} [Rp β] : EN X Γ (.Dict [] [] pos) (MD.mk ([] : List (Int × β))) := ⟨fun B G H σ hB hg l Q q =>
  we pe_dnewK fun p hn => q (.ref p) [p] G _ (Grow.own hg hn) (one_new hn (hg.free hn)) ⟨p, [], rfl, rfl, upd_same, .nil⟩⟩
/-- d[k] = v -/
theorem sv_dput (i : Nat) {β : Type} [Rp β] {kvs : List (Int × β)} {k : Int} {v : β} {e1 e2 : Expr} (hp : PS X st (sDPut (tVar i) (WE X e1) (WE X e2))) (h0 : Γ[i]? = some (.o (MD.mk kvs))) (h2 : EV X Γ e2 v) (h1 : EV X Γ e1 k) (hz : kvs.length < 10000000) : SV X Γ st (.nx (Γ.set i (.o (MD.mk (dput kvs k v))))) := ⟨fun B G H σ D hB hg l kk => by
  obtain ⟨F, v0, lf, e0, hf, p, ws', rfl, hF, hh, r⟩ := own_at l h0
  refine ws hp (h2 B G H σ hB hg l _ fun x G1 H1 g1 r1 => ⟨_, e0, h1 B G1 H1 σ (hB.trans g1.h) g1.gh (l.grow g1) _ fun y G2 H2 g2 r2 => ?_⟩)
  have g := g1.trans g2
  have hfp := hf p (by rw [hF]; simp)
  have hgp2 := (g.fr p _ hh).trans hfp.2.1
  refine ⟨p, _, rfl, by rw [show y = kV (Sum.inl k) from r2]; exact DPut.k (g.h _ _ hh) (by rw [r.len]; exact Nat.lt_of_lt_of_le hz (by decide)), ?_⟩
  have hk : ∀ a, a ∉ F i → ∀ o, H2 a = some o → upd H2 p (.dK (putK ws' (Sum.inl k) x)) a = some o := fun a ha o e => by rw [upd_ne (by rw [hF] at ha; simpa using ha)]; exact e
  exact kk G2 _ ((g.step hB).trans (Stp.mutL (hB.trans g.h) g.gh hfp.1 hgp2)) σ ((lf.grow g).mut (fp := [p]) (d' := ot (MD.mk (dput kvs k v))) h0 e0 hk (fun a ha => by
    have : a = p := by simpa using ha
    subst this
    exact ⟨.inl (by rw [hF]; simp), hfp.1, hgp2, _, upd_same⟩) ⟨p, _, rfl, rfl, upd_same, (r.mono g.g).put k (Rp.mono g2.g r1)⟩)⟩
theorem DGet.kr {H : Hp} {a : Addr} {kvs : List (Key × V)} {k : Key} (e : Rd H a (.dK kvs)) : DGet H a (kV k) (valV kvs k) := .inl ⟨kvs, k, e, rfl, rfl⟩
theorem rdMono {G H : Hp} {p : Addr} {o : HO} (e : Same G H) (h : Rd G p o) : Rd H p o := by
  rcases h with h | ⟨q, h⟩
  · exact .inl (e _ _ h)
  · exact .inr ⟨q, e _ _ h⟩
/-- k in d -/
theorem ev_din {β : Type} [Rp β] {kvs : List (Int × β)} {k : Int} (hu : X.A.units + 64 < cLine) (ha : EV X Γ a k) (hb : EV X Γ b (DV.mk kvs)) (hm : behindInMarks .In b = false := by rfl) : EV X Γ (.Compare a [.In] [b] pos) (dget kvs k).isSome := ⟨fun B G H σ hB hg l Q q =>
  we (pe_cmp (pc_din (by omega) pe pe) hm) (ha B G H σ hB hg l _ fun v G1 H1 g1 r1 => hb B G1 H1 σ (hB.trans g1.h) g1.gh (l.grow g1) _ fun u G2 H2 g2 r2 => by
    obtain ⟨p, ws, rfl, hr, dr⟩ := r2
    refine ⟨p, _, rfl, by rw [show v = kV (Sum.inl k) from r1]; exact DGet.kr (rdMono g2.gh hr), ?_⟩
    have h := dr.get k
    have e : (valV ws (Sum.inl k)).isSome = (dget kvs k).isSome := by
      cases hd : dget kvs k with
      | none => rw [hd] at h; rw [h]; rfl
      | some y => rw [hd] at h; obtain ⟨w, e, _⟩ := h; rw [e]; rfl
    rw [e]
    exact q _ G2 H2 (g1.trans g2) rfl)⟩
theorem et_din {β : Type} [Rp β] {kvs : List (Int × β)} {k : Int} (hu : X.A.units + 64 < cLine) (ha : EV X Γ a k) (hb : EV X Γ b (DV.mk kvs)) (hm : behindInMarks .In b = false := by rfl) : ET X Γ (.Compare a [.In] [b] pos) (dget kvs k).isSome := ⟨fun B G H σ hB hg l Q q =>
  wt (pt_cmp (pc_din (by omega) pe pe) hm) (ha B G H σ hB hg l _ fun v G1 H1 g1 r1 => hb B G1 H1 σ (hB.trans g1.h) g1.gh (l.grow g1) _ fun u G2 H2 g2 r2 => by
    obtain ⟨p, ws, rfl, hr, dr⟩ := r2
    refine ⟨p, _, rfl, by rw [show v = kV (Sum.inl k) from r1]; exact DGet.kr (rdMono g2.gh hr), _, rfl, ?_⟩
    have h := dr.get k
    have e : (valV ws (Sum.inl k)).isSome = (dget kvs k).isSome := by
      cases hd : dget kvs k with
      | none => rw [hd] at h; rw [h]; rfl
      | some y => rw [hd] at h; obtain ⟨w, e, _⟩ := h; rw [e]; rfl
    rw [e]
    exact q G2 H2 (g1.trans g2))⟩
theorem ev_dnin {β : Type} [Rp β] {kvs : List (Int × β)} {k : Int} (hu : X.A.units + 64 < cLine) (ha : EV X Γ a k) (hb : EV X Γ b (DV.mk kvs)) (hm : behindInMarks .NotIn b = false := by rfl) : EV X Γ (.Compare a [.NotIn] [b] pos) (!(dget kvs k).isSome) := ⟨fun B G H σ hB hg l Q q =>
  we (pe_cmp (pc_dnotin (by omega) pe pe) hm) (ha B G H σ hB hg l _ fun v G1 H1 g1 r1 => hb B G1 H1 σ (hB.trans g1.h) g1.gh (l.grow g1) _ fun u G2 H2 g2 r2 => by
    obtain ⟨p, ws, rfl, hr, dr⟩ := r2
    refine ⟨p, _, rfl, by rw [show v = kV (Sum.inl k) from r1]; exact DGet.kr (rdMono g2.gh hr), ?_⟩
    have h := dr.get k
    have e : (valV ws (Sum.inl k)).isSome = (dget kvs k).isSome := by
      cases hd : dget kvs k with
      | none => rw [hd] at h; rw [h]; rfl
      | some y => rw [hd] at h; obtain ⟨w, e, _⟩ := h; rw [e]; rfl
    rw [e]
    exact q _ G2 H2 (g1.trans g2) rfl)⟩
theorem et_dnin {β : Type} [Rp β] {kvs : List (Int × β)} {k : Int} (hu : X.A.units + 64 < cLine) (ha : EV X Γ a k) (hb : EV X Γ b (DV.mk kvs)) (hm : behindInMarks .NotIn b = false := by rfl) : ET X Γ (.Compare a [.NotIn] [b] pos) (!(dget kvs k).isSome) := ⟨fun B G H σ hB hg l Q q =>
  wt (pt_cmp (pc_dnotin (by omega) pe pe) hm) (ha B G H σ hB hg l _ fun v G1 H1 g1 r1 => hb B G1 H1 σ (hB.trans g1.h) g1.gh (l.grow g1) _ fun u G2 H2 g2 r2 => by
    obtain ⟨p, ws, rfl, hr, dr⟩ := r2
    refine ⟨p, _, rfl, by rw [show v = kV (Sum.inl k) from r1]; exact DGet.kr (rdMono g2.gh hr), _, rfl, ?_⟩
    have h := dr.get k
    have e : (valV ws (Sum.inl k)).isSome = (dget kvs k).isSome := by
      cases hd : dget kvs k with
      | none => rw [hd] at h; rw [h]; rfl
      | some y => rw [hd] at h; obtain ⟨w, e, _⟩ := h; rw [e]; rfl
    rw [e]
    exact q G2 H2 (g1.trans g2))⟩
/-- d[k], there -/
theorem ev_dix {β : Type} [Rp β] {kvs : List (Int × β)} {k : Int} {y : β} (hu : X.A.units + 64 < cLine) (ha : EV X Γ a (DV.mk kvs)) (hb : EV X Γ b k) (hy : dget kvs k = some y) (hs : NoSl b := by exact fun _ _ => rfl) : EV X Γ (.Subscript a b pos) y := ⟨fun B G H σ hB hg l Q q =>
  we (pe_dget (by omega) pe pe hs) (ha B G H σ hB hg l _ fun v G1 H1 g1 r1 => hb B G1 H1 σ (hB.trans g1.h) g1.gh (l.grow g1) _ fun u G2 H2 g2 r2 => by
    obtain ⟨p, ws, rfl, hr, dr⟩ := Rp.mono g2.g r1
    have h := dr.get k
    rw [hy] at h
    obtain ⟨w, e, rw'⟩ := h
    exact ⟨p, w, rfl, by rw [show u = kV (Sum.inl k) from r2, ← e]; exact DGet.kr (rdMono g2.gh hr), q w G2 H2 (g1.trans g2) rw'⟩)⟩
end
end Wl

set_option maxRecDepth 100000
set_option maxHeartbeats 2000000
namespace Wl
open PySem PySem.Spec PyProof.Rows L2
section
variable {X : Cx} {Γ Γ' : List Slot} {st : Stmt} {sts els rest : List Stmt} {a b c d e tg iter elt : Expr} {es elts ifs : List Expr} {pos : Pos} {o : Out}
/-! ### sorted(d, reverse=True), d a dict with int keys -/
theorem cr_sortedRevDI {bb : Bool} (hcalm : X.calm = true) : CallRK X (.builtin "sorted") [Str.ofString "reverse"] (fun xs zs H Q => ∃ (a : Addr) (kvs : List (Key × V)) (ks : List Int), xs = [.ref a] ∧ zs = [.bl bb] ∧ Rd H a (.dK kvs) ∧ kvs.map (·.1) = ks.map Sum.inl ∧
    ∀ (ys : List Int) (p : Addr), ys.Perm ks → OrdB bb ys → H p = none → Q (.ref p) (upd H p (.lst (ys.map V.int)))) := by
  intro pins s σ H xs zs us ws Q I r rz q
  obtain ⟨a, kvs, ks, ex, ez, hd, hks, q⟩ := q
  subst ex
  subst ez
  obtain ⟨u, eu, rx⟩ := vals1 r
  subst eu
  cases rx
  obtain ⟨w1, rfl, e1⟩ := vals1 rz
  obtain rfl : w1 = Value.bool bb := e1
  obtain ⟨z, lo, vs, rel, dd⟩ := dk_rd I.hok hd
  obtain ⟨ep, hat⟩ := dd.dictAt
  have hkeys : vs.map (·.1) = ks.map Sum.inl := rel.keys.symm.trans hks
  have hl : vs.length = ks.length := by
    have e := congrArg List.length hkeys
    rw [List.length_map, List.length_map] at e
    exact e
  have h16 : vs.length ≤ sizeLine := by rw [← rel.length]; exact z
  refine call_function_entry_kw kind_sorted plain_sorted entry_sorted (PyProof.Rows.args_sorted_rev _ _) ?_
  unfold Builtin.«sorted»
  refine wpAny_bind (m := checkCount "sorted" 1 1 _) (wpAny_pure ?_)
  refine wpAny_bind (PySem.W.kdu_collect (A := X.A.in1) (PySem.W.kdl_dict (knd := mixKind X.prog X.w) (kvs := vs) (ep := ep) lo) (I.ok.hd hcalm) hat h16 fun h' tk acc hk hacc => ?_)
  have hal : acc.toList.length = ks.length := by rw [Array.length_toList, hacc.1, hl]
  have hS : IntsAre acc.toList ks := ints_each hal fun j v e => by
    obtain ⟨k, x, e1, e2⟩ := hacc.2 j v (by rw [← Array.getElem?_toList]; exact e)
    have e3 : (vs.map (·.1))[j]? = some k := by rw [List.getElem?_map, e1]; rfl
    rw [hkeys, List.getElem?_map] at e3
    cases e4 : ks[j]? with
    | none => rw [e4] at e3; cases e3
    | some y =>
      rw [e4] at e3
      have e5 : Sum.inl y = k := Option.some.inj e3
      subst e5
      rcases keyIs_shape (show keyIs (Sum.inl y) v = true from e2) with ⟨i, t, ek, ev⟩ | ⟨z, t, ek, ev⟩
      · cases ek
        exact ⟨y, t, rfl, ev⟩
      · cases ek
  have I1 : Inv X pins σ H { s with heap := h', toks := tk } := I.kept hk
  have hz : acc.toList.length ≤ sizeLine := by rw [hal, ← hl]; exact h16
  refine wpAny_bind (wpAny_newList ?_ hz)
  have hoL : (h'.push (seqObj "list" acc.toList.toArray 0)).get? h'.objs.size = some (seqObj "list" acc.toList.toArray 0) := Heap.get?_push_size _ rfl
  show wpAny _ _ _ _ _ { s with heap := h'.push (seqObj "list" acc.toList.toArray 0), toks := tk }
  refine wpAny_bind (wpAny_holding (wpAny_call_entry_kw slot_list_sort ⟨_, hoL, rfl⟩ entry_list_sort ?_ (PyProof.Rows.args_list_sort_rev _ _)))
  refine SrtR.list_sort_ordR SrtO.swo_int hoL hz (fun h2 => SrtO.ints_sortable hS h2) fun out hs hb => ⟨_, rfl, ?_⟩
  obtain ⟨ns', k1, k2, k3⟩ := SrtR.ints_outR hS hs hb
  obtain ⟨e', he'⟩ := PyProof.Rows.sortedHeap_at (vs := acc.toList) (out := (if bb = true then out.toArray.reverse else out.toArray)) hoL
  have hlen : (ns'.map V.int).length ≤ sizeLine := by
    rw [List.length_map, k2.length_eq, ← hal]
    exact hz
  refine wpAny_pure ⟨_, rfl, .ref h'.objs.size, upd H h'.objs.size (.lst (ns'.map V.int)), I1.laid (t' := tk) (fun b u e => ?_) (Nat.le_refl _)
    (show ObjOk X.prog X.w _ _ _ (.lst (ns'.map V.int)) from ⟨hlen, _, e', vals_of_ints k1, by rw [Array.toArray_toList]; exact he'⟩), rfl, q ns' _ k2 k3 (I1.hok.fresh (Nat.le_refl _))⟩
  have hb : b < h'.objs.size := Heap.lt_size e
  rw [PyProof.Rows.sortedHeap_old (Nat.ne_of_lt hb) (by rw [size_push']; exact Nat.lt_succ_of_lt hb)]
  exact Heap.get?_push_of_some _ e
/-- from the greatest down; from the least up -/
def sortD (xs : List Int) : List Int := xs.mergeSort fun a b => decide (b ≤ a)
def sortU (xs : List Int) : List Int := xs.mergeSort fun a b => decide (a ≤ b)
theorem sortD_perm (xs : List Int) : (sortD xs).Perm xs := List.mergeSort_perm _ _
theorem sortD_ord (xs : List Int) : (sortD xs).Pairwise (· ≥ ·) := by
  have h := List.pairwise_mergeSort (le := fun a b : Int => decide (b ≤ a)) (fun a b c h1 h2 => by simp at *; omega) (fun a b => by simp; omega) xs
  exact h.imp fun h => by simpa using h
theorem sortU_perm (xs : List Int) : (sortU xs).Perm xs := List.mergeSort_perm _ _
theorem sortU_ord (xs : List Int) : (sortU xs).Pairwise (· ≤ ·) := by
  have h := List.pairwise_mergeSort (le := fun a b : Int => decide (a ≤ b)) (fun a b c h1 h2 => by simp at *; omega) (fun a b => by simp; omega) xs
  exact h.imp fun h => by simpa using h
theorem sortD_eq {ys xs : List Int} (hp : ys.Perm xs) (ho : ys.Pairwise (· ≥ ·)) : ys = sortD xs :=
  (hp.trans (sortD_perm xs).symm).eq_of_pairwise (fun x y _ _ h1 h2 => Int.le_antisymm h2 h1) ho (sortD_ord xs)
theorem sortU_eq {ys xs : List Int} (hp : ys.Perm xs) (ho : ys.Pairwise (· ≤ ·)) : ys = sortU xs :=
  (hp.trans (sortU_perm xs).symm).eq_of_pairwise (fun x y _ _ h1 h2 => Int.le_antisymm h1 h2) ho (sortU_ord xs)
/-- sorted(d, reverse=True) -/
theorem en_sortedRD {β : Type} [Rp β] {kvs : List (Int × β)} (hc : X.calm = true) (hm : X.mg "sorted" = none) (ha : EV X Γ a (DV.mk kvs))
    (hp : PE X e (tCKw (fun xs zs H Q => ∃ (a : Addr) (kvs : List (Key × V)) (ks : List Int), xs = [.ref a] ∧ zs = [.bl true] ∧ Rd H a (.dK kvs) ∧ kvs.map (·.1) = ks.map Sum.inl ∧
    ∀ (ys : List Int) (p : Addr), ys.Perm ks → OrdB true ys → H p = none → Q (.ref p) (upd H p (.lst (ys.map V.int)))) (tCons (WE X a) tNil) (tCons (tC (.bl true)) tNil))) : EN X Γ e (ML.mk (sortD (kvs.map (·.1)))) := ⟨fun B G H σ hB hg l Q q =>
  we hp (ha B G H σ hB hg l _ fun v G1 H1 g1 r1 => by
    obtain ⟨p, ws, rfl, hr, dr⟩ := r1
    refine ⟨p, ws, kvs.map (·.1), rfl, rfl, rdMono g1.gh hr, dr.keys, fun ys q0 hperm hord hn => ?_⟩
    rw [sortD_eq hperm hord]
    exact q (.ref q0) [q0] G1 _ (g1.trans (Grow.own g1.gh hn)) (one_new (g1.h.free hn) (g1.gh.free hn)) ⟨q0, _, rfl, rfl, upd_same, ints_reps _⟩)⟩
/-- an owned thing read for a new list of ints -/
theorem en_fzI (i : Nat) {τ β : Type} [Ow τ] [Rp β] [Fz τ β] {x : τ} {ns : List Int} (h : Γ[i]? = some (.o x)) (hr : EN X (Γ.set i (.v (Fz.val x : β))) e (ML.mk ns)) : EN X Γ e (ML.mk ns) := ⟨fun B G H σ hB hg l Q q => by
  obtain ⟨F, v, lf, e1, hf, r⟩ := own_at l h
  refine hr B _ H σ hB (gl_dn hg) (lf.fz h e1 (fun a ha => (hf a ha).2.1) r) Q fun v fp G' H' g hfp ok => ?_
  obtain ⟨p, vs, rfl, rfl, hh, rr⟩ := ok
  have hp := hfp p (by simp)
  refine q (.ref p) [p] G H' ⟨Same.refl _, g.h, hg.trans g.h, fun _ _ _ _ => rfl⟩ (fun a ha => by
    have e : a = p := by simpa using ha
    subst e
    exact ⟨hp.1, hg.free hp.1, _, hh⟩) ⟨p, vs, rfl, rfl, hh, ?_⟩
  rw [rr.ints]
  exact ints_reps _⟩
theorem Perm_sum {l1 l2 : List Int} (h : l1.Perm l2) : l1.sum = l2.sum := by
  induction h with
  | nil => rfl
  | cons x _ ih => simp [ih]
  | swap x y l => simp; omega
  | trans _ _ h1 h2 => exact h1.trans h2
/-! ### greatest and least of a list -/
def maxL (ns : List Int) : Int := ns.foldl max (ns.headD 0)
def minL (ns : List Int) : Int := ns.foldl min (ns.headD 0)
theorem foldl_max_ge : ∀ (ns : List Int) (a : Int), a ≤ ns.foldl max a ∧ (∀ y ∈ ns, y ≤ ns.foldl max a) ∧ (ns.foldl max a = a ∨ ns.foldl max a ∈ ns)
  | [], a => ⟨Int.le_refl _, fun y h => by simp at h, .inl rfl⟩
  | x :: r, a => by
    obtain ⟨h1, h2, h3⟩ := foldl_max_ge r (max a x)
    refine ⟨by rw [List.foldl_cons]; omega, fun y hy => ?_, ?_⟩
    · rw [List.foldl_cons]
      rcases List.mem_cons.mp hy with e | hy
      · subst e; omega
      · exact h2 y hy
    · rw [List.foldl_cons]
      rcases h3 with h3 | h3
      · rw [h3]
        by_cases hax : a ≤ x
        · right; rw [show max a x = x by omega]; simp
        · left; omega
      · right; exact List.mem_cons_of_mem _ h3
theorem foldl_min_le : ∀ (ns : List Int) (a : Int), ns.foldl min a ≤ a ∧ (∀ y ∈ ns, ns.foldl min a ≤ y) ∧ (ns.foldl min a = a ∨ ns.foldl min a ∈ ns)
  | [], a => ⟨Int.le_refl _, fun y h => by simp at h, .inl rfl⟩
  | x :: r, a => by
    obtain ⟨h1, h2, h3⟩ := foldl_min_le r (min a x)
    refine ⟨by rw [List.foldl_cons]; omega, fun y hy => ?_, ?_⟩
    · rw [List.foldl_cons]
      rcases List.mem_cons.mp hy with e | hy
      · subst e; omega
      · exact h2 y hy
    · rw [List.foldl_cons]
      rcases h3 with h3 | h3
      · rw [h3]
        by_cases hax : x ≤ a
        · right; rw [show min a x = x by omega]; simp
        · left; omega
      · right; exact List.mem_cons_of_mem _ h3
theorem maxL_ge {ns : List Int} {y : Int} (h : y ∈ ns) : y ≤ maxL ns := (foldl_max_ge ns _).2.1 y h
theorem minL_le {ns : List Int} {y : Int} (h : y ∈ ns) : minL ns ≤ y := (foldl_min_le ns _).2.1 y h
theorem maxL_mem {ns : List Int} (h : 0 < ns.length) : maxL ns ∈ ns := by
  rcases (foldl_max_ge ns (ns.headD 0)).2.2 with e | e
  · unfold maxL; rw [e]
    cases ns with
    | nil => simp at h
    | cons x r => simp
  · exact e
theorem minL_mem {ns : List Int} (h : 0 < ns.length) : minL ns ∈ ns := by
  rcases (foldl_min_le ns (ns.headD 0)).2.2 with e | e
  · unfold minL; rw [e]
    cases ns with
    | nil => simp at h
    | cons x r => simp
  · exact e
theorem ev_maxL {p : Pos} {ns : List Int} (hc : X.calm = true) (hm : X.mg "max" = none) (ha : EV X Γ a ns) (h0 : 0 < ns.length) (hg : Gl X "max" := by rfl) (he : starEach [a] X.env = (false, eval a X.env) :: starEach [] X.env := by rfl) (hpl : (backTo pos (starEach [] X.env)).any (·.1) = false := by rfl) : EV X Γ (.Call (.Name "max" p) [a] [] pos) (maxL ns) :=
  ev_max hc hm ha h0 (fun z hz hy => Int.le_antisymm (maxL_ge hz) (hy _ (maxL_mem h0))) hg he hpl
theorem ev_minL {p : Pos} {ns : List Int} (hc : X.calm = true) (hm : X.mg "min" = none) (ha : EV X Γ a ns) (h0 : 0 < ns.length) (hg : Gl X "min" := by rfl) (he : starEach [a] X.env = (false, eval a X.env) :: starEach [] X.env := by rfl) (hpl : (backTo pos (starEach [] X.env)).any (·.1) = false := by rfl) : EV X Γ (.Call (.Name "min" p) [a] [] pos) (minL ns) :=
  ev_call1 (cr_min hc) hm (by decide +kernel) ha (fun G H v hgh r Q q => by
    obtain ⟨p, vs, rfl, hs, hr⟩ := r
    rw [hr.ints] at hs
    exact ⟨p, ns, rfl, Same.seq hgh hs, h0, fun z hz hy => by rw [Int.le_antisymm (hy _ (minL_mem h0)) (minL_le hz)]; exact q _ G H (Grow.refl hgh) rfl⟩) hg (by decide) (by decide) he hpl
theorem ev_shl {x y : Int} (ha : EV X Γ a x) (hb : EV X Γ b y) (hc : CPow x y) : EV X Γ (.BinOp a .LShift b pos) (x * 2 ^ y.toNat) := ev_binI op_shl ha hb hc rfl
theorem ev_tixv (i : Nat) {τ β : Type} [Rp τ] [Rp β] [TIx τ i β] {x : τ} (y : β) {j : Nat} {pos' : Pos} (ha : EV X Γ a x) (hy : (TIx.get i x : β) = y := by rfl) : EV X Γ (.Subscript a (.Constant (.int (i : Int)) j pos') pos) y := hy ▸ ev_tix i ha
end
end Wl

set_option maxRecDepth 100000
set_option maxHeartbeats 2000000
namespace Wl
open PySem PySem.Spec PyProof.Rows L2
section
variable {X : Cx}
/-! ### xs + ys, lists of any kind -/
def rCatS (K : PySem.W.Frag) : R2 := fun x y H Q => ∃ a b xs ys, x = .ref a ∧ y = .ref b ∧ SqL K H a xs ∧ SqL K H b ys ∧ xs.length + ys.length ≤ sizeLine ∧ ∀ p, H p = none → Q (.ref p) (upd H p (.lst (xs ++ ys)))
theorem op_catS : OpR X (binaryOp .Add) (rCatS X.K) := by
  intro pins s σ H x y v u Q I rx ry h
  obtain ⟨a, b, xs, ys, rfl, rfl, ha, hb, hz, q⟩ := h
  cases rx
  cases ry
  obtain ⟨its, r1, ⟨⟨cls, dd, data, sl⟩, n, ho, hc, hdd, hd⟩, _⟩ := I.list ha
  obtain ⟨its2, r2, ⟨⟨cls2, dd2, data2, sl2⟩, n2, ho2, hc2, hdd2, hd2⟩, _⟩ := I.list hb
  simp only at hc hd hc2 hd2 hdd hdd2
  subst hc hd hc2 hd2 hdd hdd2
  refine concat_meets ⟨_, ho, rfl⟩ ⟨_, ho2, rfl⟩ noFill_list_add seq_list_add PySem.F.slot_list_add PySem.F.entry_list_add (PySem.F.args_list_add_2 _ _) (list_addW a b its.toArray its2.toArray n n2 none none sl sl2 (by rw [List.size_toArray, List.size_toArray, ← r1.length, ← r2.length]; exact hz)) ⟨ho, ho2, ?_⟩
  have ea : its.toArray ++ its2.toArray = (its ++ its2).toArray := by simp
  rw [ea]
  exact ⟨.ref _, _, I.lnew (t' := s.toks) (r1.append r2) (by rw [List.length_append]; omega), rfl, q _ I.fresh⟩
end
section
variable {X : Cx} {Γ Γ' : List Slot} {st : Stmt} {sts els rest : List Stmt} {a b c d e tg iter elt : Expr} {es elts ifs : List Expr} {pos : Pos} {o : Out}
theorem en_catS {α : Type} [Rp α] {xs ys : List α} (ha : EV X Γ a xs) (hb : EV X Γ b ys) (hz : xs.length + ys.length ≤ 10000000) : EN X Γ (.BinOp a .Add b pos) (ML.mk (xs ++ ys)) := ⟨fun B G H σ hB hg l Q q =>
  we (pe_op op_catS pe pe) (ha B G H σ hB hg l _ fun v G1 H1 g1 ok => hb B G1 H1 σ (hB.trans g1.h) g1.gh (l.grow g1) _ fun v2 G2 H2 g2 ok2 => by
    obtain ⟨p, vs, rfl, hh, r⟩ := Rp.mono g2.g ok
    obtain ⟨p2, ws, rfl, hh2, r2⟩ := ok2
    refine ⟨p, p2, vs, ws, rfl, rfl, Same.seq g2.gh hh, Same.seq g2.gh hh2, ?_, fun p3 hp3 => q (.ref p3) [p3] G2 _ ((g1.trans g2).trans (Grow.own g2.gh hp3)) (one_new ((g1.trans g2).h.free hp3) (g2.gh.free hp3)) ⟨p3, _, rfl, rfl, upd_same, paired_app r r2⟩⟩
    have := r.len
    have := r2.len
    rw [sizeLine_eq]
    omega)⟩

/-! ### lists of fixed length, of unlike parts -/
structure Q2 (α β : Type) where
  a : α
  b : β
deriving DecidableEq
structure Q3 (α β γ : Type) where
  a : α
  b : β
  c : γ
deriving DecidableEq
instance {α β : Type} [Rp α] [Rp β] : Rp (Q2 α β) := ⟨fun K G v x => ∃ p v1 v2, v = .ref p ∧ SqL K G p [v1, v2] ∧ Rp.rep K G v1 x.a ∧ Rp.rep K G v2 x.b,
  fun e h => by obtain ⟨p, v1, v2, h0, hs, h1, h2⟩ := h; exact ⟨p, v1, v2, h0, Same.seq e hs, Rp.mono e h1, Rp.mono e h2⟩⟩
instance {α β γ : Type} [Rp α] [Rp β] [Rp γ] : Rp (Q3 α β γ) := ⟨fun K G v x => ∃ p v1 v2 v3, v = .ref p ∧ SqL K G p [v1, v2, v3] ∧ Rp.rep K G v1 x.a ∧ Rp.rep K G v2 x.b ∧ Rp.rep K G v3 x.c,
  fun e h => by obtain ⟨p, v1, v2, v3, h0, hs, h1, h2, h3⟩ := h; exact ⟨p, v1, v2, v3, h0, Same.seq e hs, Rp.mono e h1, Rp.mono e h2, Rp.mono e h3⟩⟩
theorem we_lst {B G H : Hp} {σ : L2.St} {ds : List Dat} (h : EA X Γ es ds) (hB : Same B H) (hg : Same G H) (l : Lo X.K B G H σ Γ) {Q : VK} (hn : ds.length ≤ 100)
    (q : ∀ p vs G' H', Grow G H G' H' → DatsOk X.K G' vs ds → SqL X.K G' p vs → Q (.ref p) H') : WE X (.List es pos) σ H Q :=
  we (pe_lst pa) (h B G H σ hB hg l _ fun vs G1 H1 g1 r1 => ⟨by rw [r1.len]; exact Nat.le_trans hn (by decide), fun p hp =>
    q p vs _ _ (g1.trans (Grow.new g1.gh hp)) (r1.mono (Grow.new g1.gh hp).g) (SqL.of upd_same)⟩)
theorem ev_q2 {α β : Type} [Rp α] [Rp β] {x : α} {y : β} (h : EA X Γ es [dt x, dt y]) : EV X Γ (.List es pos) (Q2.mk x y) := ⟨fun B G H σ hB hg l Q q => we_lst h hB hg l (Nat.le_of_ble_eq_true rfl) fun p vs G1 H1 g1 r hs => by
  cases r with | cons r1 t => cases t with | cons r2 t => cases t; exact q _ G1 H1 g1 ⟨p, _, _, rfl, hs, r1, r2⟩⟩
theorem ev_q3 {α β γ : Type} [Rp α] [Rp β] [Rp γ] {x : α} {y : β} {z : γ} (h : EA X Γ es [dt x, dt y, dt z]) : EV X Γ (.List es pos) (Q3.mk x y z) := ⟨fun B G H σ hB hg l Q q => we_lst h hB hg l (Nat.le_of_ble_eq_true rfl) fun p vs G1 H1 g1 r hs => by
  cases r with | cons r1 t => cases t with | cons r2 t => cases t with | cons r3 t => cases t; exact q _ G1 H1 g1 ⟨p, _, _, _, rfl, hs, r1, r2, r3⟩⟩
class LPs (τ : Type) [Rp τ] where
  parts : τ → List Dat
  ok : ∀ {K G v x}, Rp.rep K G v x → ∃ p vs, v = V.ref p ∧ SqL K G p vs ∧ DatsOk K G vs (parts x)
instance {α β : Type} [Rp α] [Rp β] : LPs (Q2 α β) := ⟨fun x => [dt x.a, dt x.b], fun h => by obtain ⟨p, v1, v2, h0, hs, h1, h2⟩ := h; exact ⟨p, _, h0, hs, .cons h1 (.cons h2 .nil)⟩⟩
instance {α β γ : Type} [Rp α] [Rp β] [Rp γ] : LPs (Q3 α β γ) := ⟨fun x => [dt x.a, dt x.b, dt x.c], fun h => by obtain ⟨p, v1, v2, v3, h0, hs, h1, h2, h3⟩ := h; exact ⟨p, _, h0, hs, .cons h1 (.cons h2 (.cons h3 .nil))⟩⟩
theorem tv_lst {τ : Type} [Rp τ] [LPs τ] {x : τ} {k : Nat} (h : TVs X Γ es (LPs.parts x) Γ') (hc : X.calm = true := by rfl) (hn : (assignEach es X.env).length = (LPs.parts x).length := by rfl) (hst : (assignEach es X.env).findIdx? (·.1) = none := by rfl) : TV X Γ (.Tuple es k pos) x Γ' := ⟨fun B G H σ v hB hg l r Q q => by
  obtain ⟨p, vs, e, hs, rs⟩ := LPs.ok r
  subst e
  have hp : PGs X es (fun us σ2 H2 Q2 => us = vs ∧ σ2 = σ ∧ H2 = H ∧ ∀ σ', Lo X.K B G H σ' Γ' → Q2 σ' H) := ⟨fun pins s σ2 H2 us2 us Q2 I rv h2 => by
    obtain ⟨e1, e2, e3, q2⟩ := h2
    subst e1 e2 e3
    exact h B G _ _ _ hB hg l rs Q2 q2 pins s us I rv⟩
  exact wg (pg_lst hc hp hn hst) ⟨p, vs, rfl, Same.seq hg hs, rs.len, rfl, rfl, rfl, q⟩⟩
theorem tx_lst {vs : List Nat} {τ : Type} [Rp τ] [LPs τ] {x : τ} {k : Nat} (h : TXs X vs Γ es (LPs.parts x) Γ') (hc : X.calm = true := by rfl) (hn : (assignEach es X.env).length = (LPs.parts x).length := by rfl) (hst : (assignEach es X.env).findIdx? (·.1) = none := by rfl) : TX X vs Γ (.Tuple es k pos) x Γ' := ⟨fun B G H σ v hB hg l r Q q => by
  obtain ⟨p, ws, e, hs, rs⟩ := LPs.ok r
  subst e
  have hp : PGs X es (fun us σ2 H2 Q2 => us = ws ∧ σ2 = σ ∧ H2 = H ∧ ∀ σ', L2.wipe σ' vs = L2.wipe σ vs → Lo X.K B G H σ' Γ' → Q2 σ' H) := ⟨fun pins s σ2 H2 us2 us Q2 I rv h2 => by
    obtain ⟨e1, e2, e3, q2⟩ := h2
    subst e1 e2 e3
    exact h B G _ _ _ hB hg l rs Q2 q2 pins s us I rv⟩
  exact wg (pg_lst hc hp hn hst) ⟨p, ws, rfl, Same.seq hg hs, rs.len, rfl, rfl, rfl, q⟩⟩
/-- a list of two, of one kind -/
def toQ2 {α : Type} (d : α) (xs : List α) : Q2 α α := ⟨xs.getD 0 d, xs.getD 1 d⟩
theorem rep_toQ2 {α : Type} [Rp α] {K : PySem.W.Frag} {G : Hp} {v : V} {xs : List α} (d : α) (hl : xs.length = 2) (r : Rp.rep K G v xs) : Rp.rep K G v (toQ2 d xs) := by
  obtain ⟨p, vs, rfl, hs, hr⟩ := r
  cases hr with
  | nil => cases hl
  | cons r1 t => cases t with
    | nil => cases hl
    | cons r2 t => cases t with
      | nil => exact ⟨p, _, _, rfl, hs, r1, r2⟩
      | cons r3 t => simp at hl
theorem iv_toQ2 {α : Type} [Rp α] {xs : List (List α)} (d : α) (h : IV X Γ tg iter xs) (hl : ∀ r ∈ xs, r.length = 2) : IV X Γ tg iter (xs.map (toQ2 d)) := ⟨fun B G H σ hB hg l R q =>
  h B G H σ hB hg l R fun J G1 H1 g1 it => q J G1 H1 g1 (by
    obtain ⟨h1, h2⟩ := it
    refine ⟨fun i G2 H2 e1 e2 hi => ?_, fun G2 H2 e1 e2 => by rw [List.length_map]; exact h2 G2 H2 e1 e2⟩
    rw [List.length_map] at hi
    obtain ⟨k1, k2⟩ := h1 i G2 H2 e1 e2 hi
    refine ⟨k1, fun v H3 hy => ?_⟩
    obtain ⟨G3, x, g3, hx, r⟩ := k2 v H3 hy
    exact ⟨G3, toQ2 d x, g3, by rw [List.getElem?_map, hx]; rfl, rep_toQ2 d (hl x (List.mem_of_getElem? hx)) r⟩)⟩
/-! .. their parts by a number -/
class LIx (τ : Type) [Rp τ] (i : Nat) (β : outParam Type) [Rp β] where
  get : τ → β
  ok : ∀ {K G v x}, Rp.rep K G v x → ∃ p vs w, v = V.ref p ∧ SqL K G p vs ∧ vs[i]? = some w ∧ Rp.rep K G w (get x)
instance {α β : Type} [Rp α] [Rp β] : LIx (Q2 α β) 0 α := ⟨Q2.a, fun h => by obtain ⟨p, v1, v2, h0, hs, h1, h2⟩ := h; exact ⟨p, _, v1, h0, hs, rfl, h1⟩⟩
instance {α β : Type} [Rp α] [Rp β] : LIx (Q2 α β) 1 β := ⟨Q2.b, fun h => by obtain ⟨p, v1, v2, h0, hs, h1, h2⟩ := h; exact ⟨p, _, v2, h0, hs, rfl, h2⟩⟩
instance {α β γ : Type} [Rp α] [Rp β] [Rp γ] : LIx (Q3 α β γ) 0 α := ⟨Q3.a, fun h => by obtain ⟨p, v1, v2, v3, h0, hs, h1, h2, h3⟩ := h; exact ⟨p, _, v1, h0, hs, rfl, h1⟩⟩
instance {α β γ : Type} [Rp α] [Rp β] [Rp γ] : LIx (Q3 α β γ) 1 β := ⟨Q3.b, fun h => by obtain ⟨p, v1, v2, v3, h0, hs, h1, h2, h3⟩ := h; exact ⟨p, _, v2, h0, hs, rfl, h2⟩⟩
instance {α β γ : Type} [Rp α] [Rp β] [Rp γ] : LIx (Q3 α β γ) 2 γ := ⟨Q3.c, fun h => by obtain ⟨p, v1, v2, v3, h0, hs, h1, h2, h3⟩ := h; exact ⟨p, _, v3, h0, hs, rfl, h3⟩⟩
theorem ev_qix (i : Nat) {τ β : Type} [Rp τ] [Rp β] [LIx τ i β] {x : τ} (y : β) {j : Nat} {pos' : Pos} (ha : EV X Γ a x) (hy : (LIx.get i x : β) = y := by rfl) : EV X Γ (.Subscript a (.Constant (.int (i : Int)) j pos') pos) y := hy ▸ ⟨fun B G H σ hB hg l Q q =>
  we (pe_ix ix_list pe pe (fun _ _ => rfl)) (ha B G H σ hB hg l _ fun v G1 H1 g1 r1 => we pe_int (by
    obtain ⟨p, vs, w, rfl, hs, hw, rw'⟩ := LIx.ok (i := i) r1
    exact ⟨p, vs, (i : Int), w, rfl, rfl, Same.seq g1.gh hs, atI_nat hw, q w G1 H1 g1 rw'⟩))⟩

/-! ### == of options -/
class DNo (α : Type) [Rp α] [DEq α] : Prop where
  l : ∀ x : α, PyData.eqv (DEq.toD x) .none = false
  r : ∀ x : α, PyData.eqv .none (DEq.toD x) = false
instance : DNo Int := ⟨fun _ => rfl, fun _ => rfl⟩
instance : DNo Bool := ⟨fun _ => rfl, fun _ => rfl⟩
instance : DNo Str := ⟨fun _ => rfl, fun _ => rfl⟩
instance {α : Type} [Rp α] [DEq α] : DNo (List α) := ⟨fun _ => rfl, fun _ => rfl⟩
instance {α β : Type} [Rp α] [Rp β] [DEq α] [DEq β] : DNo (T2 α β) := ⟨fun _ => rfl, fun _ => rfl⟩
instance {α β γ : Type} [Rp α] [Rp β] [Rp γ] [DEq α] [DEq β] [DEq γ] : DNo (T3 α β γ) := ⟨fun _ => rfl, fun _ => rfl⟩
instance {α : Type} [Rp α] [DEq α] [DNo α] : DEq (Option α) := ⟨fun x => match x with
    | none => .none
    | some y => DEq.toD y, fun {K G v x} h => by
      cases x with
      | none => have e : v = .non := h; subst e; exact .non
      | some y => exact DEq.dp h.1, DEq.n α, fun x => match x with
    | none => True
    | some y => DEq.ok y, fun x h => by
      cases x with
      | none => rfl
      | some y => exact DEq.lay y h, fun x => by
      cases x with
      | none => exact Nat.zero_le _
      | some y => exact DEq.dep y, fun x y => by
      cases x with
      | none => cases y with
        | none => simp [PyData.eqv]
        | some y => simp [DNo.r]
      | some x => cases y with
        | none => simp [DNo.l]
        | some y => simp [DEq.eqv]⟩
instance {α : Type} [Rp α] [DEq α] [DNo α] [OkAll α] : OkAll (Option α) := ⟨fun x => match x with
  | none => trivial
  | some y => OkAll.all y⟩
instance {α β : Type} [Rp α] [Rp β] [DEq α] [DEq β] : DEq (Q2 α β) := ⟨fun x => .list [DEq.toD x.a, DEq.toD x.b], fun h => by obtain ⟨p, v1, v2, rfl, hs, h1, h2⟩ := h; exact .lst hs (.cons (DEq.dp h1) (.cons (DEq.dp h2) .nil)), max (DEq.n α) (DEq.n β) + 1, fun x => DEq.ok x.a ∧ DEq.ok x.b, fun x h => by
  show ((DEq.toD x.a).canLay0 && ((DEq.toD x.b).canLay0 && PyData.canLayAll0 [])) = true
  rw [DEq.lay _ h.1, DEq.lay _ h.2] <;> rfl, fun x => by
  show max (DEq.toD x.a).depth (max (DEq.toD x.b).depth (PyData.depthAll [])) + 1 ≤ _
  have := DEq.dep x.a
  have := DEq.dep x.b
  have e : PyData.depthAll [] = 0 := rfl
  omega, fun x y => by
  cases x; cases y
  simp [PyData.eqv, PyData.eqvAll, DEq.eqv]⟩
instance {α β γ : Type} [Rp α] [Rp β] [Rp γ] [DEq α] [DEq β] [DEq γ] : DEq (Q3 α β γ) := ⟨fun x => .list [DEq.toD x.a, DEq.toD x.b, DEq.toD x.c], fun h => by obtain ⟨p, v1, v2, v3, rfl, hs, h1, h2, h3⟩ := h; exact .lst hs (.cons (DEq.dp h1) (.cons (DEq.dp h2) (.cons (DEq.dp h3) .nil))), max (DEq.n α) (max (DEq.n β) (DEq.n γ)) + 1, fun x => DEq.ok x.a ∧ DEq.ok x.b ∧ DEq.ok x.c, fun x h => by
  show ((DEq.toD x.a).canLay0 && ((DEq.toD x.b).canLay0 && ((DEq.toD x.c).canLay0 && PyData.canLayAll0 []))) = true
  rw [DEq.lay _ h.1, DEq.lay _ h.2.1, DEq.lay _ h.2.2] <;> rfl, fun x => by
  show max (DEq.toD x.a).depth (max (DEq.toD x.b).depth (max (DEq.toD x.c).depth (PyData.depthAll []))) + 1 ≤ _
  have := DEq.dep x.a
  have := DEq.dep x.b
  have := DEq.dep x.c
  have e : PyData.depthAll [] = 0 := rfl
  omega, fun x y => by
  cases x; cases y
  simp [PyData.eqv, PyData.eqvAll, DEq.eqv]⟩
instance {α β : Type} [Rp α] [Rp β] [DEq α] [DEq β] [OkAll α] [OkAll β] : OkAll (Q2 α β) := ⟨fun x => ⟨OkAll.all x.a, OkAll.all x.b⟩⟩
instance {α β γ : Type} [Rp α] [Rp β] [Rp γ] [DEq α] [DEq β] [DEq γ] [OkAll α] [OkAll β] [OkAll γ] : OkAll (Q3 α β γ) := ⟨fun x => ⟨OkAll.all x.a, OkAll.all x.b, OkAll.all x.c⟩⟩
/-- sorted(xs, reverse=True) of ints -/
theorem en_sortedRI {ns : List Int} (ha : EV X Γ a ns) (hp : PE X e (tCKw (rSortedKw X.K true [.bl true]) (tCons (WE X a) tNil) (tCons (tC (.bl true)) tNil))) : EN X Γ e (ML.mk (sortD ns)) := ⟨fun B G H σ hB hg l Q q =>
  we hp (ha B G H σ hB hg l _ fun v G1 H1 g1 r1 => by
    obtain ⟨p, ws, rfl, hs, hr⟩ := r1
    rw [hr.ints] at hs
    refine ⟨p, ns, rfl, rfl, Same.seq g1.gh hs, fun ys q0 hperm hord hn => ?_⟩
    rw [sortD_eq hperm hord]
    exact q (.ref q0) [q0] G1 _ (g1.trans (Grow.own g1.gh hn)) (one_new (g1.h.free hn) (g1.gh.free hn)) ⟨q0, _, rfl, rfl, upd_same, ints_reps _⟩)⟩
end
/-! ### slices as take and drop -/
theorem pick_range {α : Type} (xs : List α) (a : Nat) : ∀ n : Nat, ((List.range n).map fun i => a + i).filterMap (xs[·]?) = (xs.drop a).take n
  | 0 => by simp
  | n + 1 => by
    rw [List.range_succ, List.map_append, List.filterMap_append, pick_range xs a n, List.take_succ, List.getElem?_drop]
    cases h : xs[a + n]? <;> simp [h]
theorem slice_range1 (a b : Nat) : sliceRange (a : Int) (b : Int) 1 = (List.range (b - a)).map fun i => a + i := by
  unfold sliceRange
  have e : (if (1 : Int) > 0 then (if (a : Int) < b then ((b : Int) - a + 1 - 1) / 1 else 0) else (if (a : Int) > b then ((a : Int) - b - 1 - 1) / (-1) else 0)).toNat = b - a := by
    rw [if_pos (by omega)]
    split <;> omega
  dsimp only
  rw [e]
  apply List.map_congr_left
  intro i _
  omega
theorem pySlice_take {α : Type} (xs : List α) {k : Int} (h : 0 ≤ k) : pySlice xs none (some k) none = xs.take k.toNat := by
  have hk : ¬ k < 0 := by omega
  have e : sliceBounds none (some k) none xs.length = (((0 : Nat) : Int), ((min k.toNat xs.length : Nat) : Int), 1) := by
    simp only [sliceBounds, Option.getD_none, hk, if_false, show (1 : Int) > 0 by omega, if_true, show max 0 (min k (xs.length : Int)) = ((min k.toNat xs.length : Nat) : Int) by omega]
    rfl
  unfold pySlice
  rw [e]
  dsimp only
  rw [slice_range1, pick_range, List.drop_zero, Nat.sub_zero, ← List.take_take, List.take_length]
theorem pySlice_drop {α : Type} (xs : List α) {k : Int} (h : 0 ≤ k) : pySlice xs (some k) none none = xs.drop k.toNat := by
  have hk : ¬ k < 0 := by omega
  have e : sliceBounds (some k) none none xs.length = (((min k.toNat xs.length : Nat) : Int), ((xs.length : Nat) : Int), 1) := by
    simp only [sliceBounds, Option.getD_none, hk, if_false, show (1 : Int) > 0 by omega, if_true, show max 0 (min k (xs.length : Int)) = ((min k.toNat xs.length : Nat) : Int) by omega]
  unfold pySlice
  rw [e]
  dsimp only
  rw [slice_range1, pick_range]
  by_cases hk : k.toNat ≤ xs.length
  · rw [Nat.min_eq_left hk, List.take_of_length_le (by rw [List.length_drop]; exact Nat.le_refl _)]
  · rw [Nat.min_eq_right (by omega), List.drop_eq_nil_of_le (as := xs) (i := xs.length) (Nat.le_refl _), List.drop_eq_nil_of_le (by omega), List.take_nil]
end Wl

set_option maxRecDepth 100000
set_option maxHeartbeats 2000000
namespace Wl
open PySem PySem.Spec PyProof.Rows L2
section
variable {X : Cx} {Γ Γ' : List Slot} {st : Stmt} {sts els rest : List Stmt} {a b c d e tg iter elt : Expr} {es elts ifs : List Expr} {pos : Pos} {o : Out}
/-- [xs, ys], new lists in a new list -/
theorem en_mt2 {α : Type} [Rp α] {xs ys : List α} (ha : EN X Γ a (ML.mk xs)) (hb : EN X Γ b (ML.mk ys)) (hs : starEach [a, b] X.env = (false, eval a X.env) :: starEach [b] X.env := by rfl) (hs2 : starEach [b] X.env = (false, eval b X.env) :: starEach [] X.env := by rfl) : EN X Γ (.List [a, b] pos) (MT.mk [xs, ys]) := ⟨fun B G H σ hB hg l Q q =>
  we (pe_lst (pa_cons pe (pa_cons pe pa_nil hs2) hs)) (ha B G H σ hB hg l _ fun v fp G1 H1 g1 hf ok => hb B G1 H1 σ (hB.trans g1.h) g1.gh (l.grow g1) _ fun v2 fp2 G2 H2 g2 hf2 ok2 => by
    obtain ⟨p, vs, rfl, rfl, hh, r⟩ := ok
    obtain ⟨p2, ws, rfl, rfl, hh2, r2⟩ := ok2
    obtain ⟨a1, a2, _⟩ := hf p (by simp)
    obtain ⟨b1, b2, _⟩ := hf2 p2 (by simp)
    have hne : p2 ≠ p := ne_of_none hh b1 |>.symm
    refine ⟨by rw [sizeLine_eq]; exact Nat.le_of_ble_eq_true rfl, fun p3 hp3 => ?_⟩
    have n1 : p3 ≠ p := fun z => by rw [z, g2.h _ _ hh] at hp3; cases hp3
    have n2 : p3 ≠ p2 := fun z => by rw [z, hh2] at hp3; cases hp3
    have gp : G2 p = none := (g2.fr p _ hh).trans a2
    refine q (.ref p3) [p3, p, p2] G2 _ ((g1.trans g2).trans (Grow.own g2.gh hp3)) (fun z hz => ?_) ⟨p3, [p, p2], rfl, rfl, by simp [n1, n2, Ne.symm hne], upd_same, .cons ⟨vs, by rw [upd_ne (Ne.symm n1)]; exact g2.h _ _ hh, r.mono g2.g⟩ (.cons ⟨ws, by rw [upd_ne (Ne.symm n2)]; exact hh2, r2⟩ .nil)⟩
    have hz : z = p3 ∨ z = p ∨ z = p2 := by simpa using hz
    rcases hz with z | z | z <;> subst z
    · exact ⟨(g1.trans g2).h.free hp3, g2.gh.free hp3, _, upd_same⟩
    · exact ⟨a1, gp, _, by rw [upd_ne (Ne.symm n1)]; exact g2.h _ _ hh⟩
    · exact ⟨g1.h.free b1, b2, _, by rw [upd_ne (Ne.symm n2)]; exact hh2⟩)⟩
/-- a row of a list of owned lists is changed -/
theorem mt_mut {α : Type} [Rp α] {i : Nat} {rows : List (List α)} {B G H G3 H3 : Hp} {σ : L2.St} {F : Nat → List Addr} {p q : Addr} {qs : List Addr} {r : Nat} {row : List α} {vs : List V} (lf : LoF X.K B G H σ Γ F) (h0 : Γ[i]? = some (.o (MT.mk rows))) (ev : σ[i]? = some (some (.ref p)))
    (hf : ∀ a ∈ F i, B a = none ∧ G a = none ∧ ∃ ho, H a = some ho) (hF : F i = p :: qs) (hnd : (F i).Nodup) (hp' : H p = some (.lst (qs.map V.ref))) (hrows : RowsOk X.K G H qs rows) (g : Grow G H G3 H3) (hB : Same B H) (hq : qs[r]? = some q) (hr : Reps X.K G3 vs row) :
    Stp B G G3 (upd H3 q (.lst vs)) ∧ Lo X.K B G3 (upd H3 q (.lst vs)) σ (Γ.set i (.o (MT.mk (rows.set r row)))) := by
  have hqF : q ∈ F i := by rw [hF]; exact List.mem_cons_of_mem _ (List.mem_of_getElem? hq)
  have lg := lf.grow g
  have hf3 : ∀ a ∈ F i, B a = none ∧ G3 a = none := fun a ha => by
    obtain ⟨q1, q2, ho, q3⟩ := hf a ha
    exact ⟨q1, (g.fr a ho q3 (lf.nt h0 a ha ho q3)).trans q2⟩
  have hk : ∀ a, a ∉ F i → ∀ o, H3 a = some o → upd H3 q (.lst vs) a = some o := fun a ha o e => by
    rw [upd_ne (fun z => ha (by rw [z]; exact hqF))]; exact e
  refine ⟨(g.step hB).trans (Stp.mut (hB.trans g.h) g.gh hf3 hk), lg.mut (fp := F i) (d' := ot (MT.mk (rows.set r row))) h0 ev hk (fun a ha => ?_) ?_⟩
  · obtain ⟨q1, q2, ho, q3⟩ := hf a ha
    refine ⟨.inl ha, q1, (hf3 a ha).2, ?_⟩
    by_cases haq : a = q
    · subst haq; exact ⟨_, upd_same⟩
    · exact ⟨ho, by rw [upd_ne haq]; exact g.h _ _ q3⟩
  · have hnd' : (p :: qs).Nodup := by rw [← hF]; exact hnd
    have hpq : p ≠ q := fun z => by subst z; exact (List.nodup_cons.mp hnd').1 (List.mem_of_getElem? hq)
    refine ⟨p, qs, rfl, hF, hnd, by rw [upd_ne hpq]; exact g.h _ _ hp', ?_⟩
    refine rows_set r (List.nodup_cons.mp hnd').2 hq ⟨_, upd_same, hr⟩ (fun a _ hne => by rw [upd_ne hne]) (hrows.mono g.g fun a ha => ?_)
    obtain ⟨_, _, ho, q3⟩ := hf a (by rw [hF]; exact List.mem_cons_of_mem _ ha)
    rw [g.h _ _ q3, q3]
/-- t[r].append(x) -/
theorem sv_appT (i : Nat) {α : Type} [Rp α] {rows : List (List α)} {r : Int} {x : α} {c e1 e : Expr} (hp : PE X c (tBM X.K "list" rAppend (tOp (rIxL X.K) (tVar i) (WE X e1)) (tCons (WE X e) tNil))) (h0 : Γ[i]? = some (.o (MT.mk rows))) (h1 : EV X Γ e1 r) (h : EV X Γ e x)
    (hr : 0 ≤ r ∧ r < (rows.length : Int)) (hz : (rows.getD r.toNat []).length < 10000000) (hs : swapsWith c none pos.line X.env = pure false := by rfl) :
    SV X Γ (.Expr c pos) (.nx (Γ.set i (.o (MT.mk (rows.set r.toNat (rows.getD r.toNat [] ++ [x])))))) := ⟨fun B G H σ D hB hg l k => by
  obtain ⟨F, v, lf, ev, hf, p, qs, rfl, hF, hnd, hp', hrows⟩ := own_at l h0
  have hrow : rows[r.toNat]? = some (rows.getD r.toNat []) := by
    have h : r.toNat < rows.length := by omega
    rw [List.getD_eq_getElem?_getD, List.getElem?_eq_getElem h]; rfl
  generalize rows.getD r.toNat [] = row at *
  refine ws (ps_expr hp hs) ⟨_, ev, h1 B G H σ hB hg l _ fun v1 G1 H1 g1 r1 => ?_⟩
  obtain ⟨q, hq, vs, hvs, rvs⟩ := paired_get2 hrows r.toNat row hrow
  refine ⟨p, qs.map V.ref, r, .ref q, rfl, r1, .inl (.inl (g1.h _ _ hp')), ?_, ?_⟩
  · have hi : ((r.toNat : Nat) : Int) = r := by omega
    rw [← hi]; exact atI_nat (by rw [List.getElem?_map, hq]; rfl)
  · refine ⟨.inl ⟨rfl, _, .inl (.inl (g1.h _ _ hvs))⟩, ?_⟩
    refine h B G1 H1 σ (hB.trans g1.h) g1.gh (l.grow g1) _ fun v2 G2 H2 g2 r2 => ?_
    have g := g1.trans g2
    refine ⟨q, vs, v2, rfl, rfl, g.h _ _ hvs, by rw [rvs.len]; exact Nat.lt_of_lt_of_le hz (by decide), ?_⟩
    obtain ⟨s1, s2⟩ := mt_mut (row := row ++ [x]) lf h0 ev hf hF hnd hp' hrows g hB hq (paired_app (rvs.mono g.g) (.cons r2 .nil))
    exact k G2 _ s1 σ s2⟩
/-- xs[i] op= e of one's own list of ints -/
theorem sv_augL (i : Nat) {xs : List Int} {r y : Int} {e1 e3 : Expr} {f : Int → Int → Int} (hp : PS X st (tAugS (tVar i) (WE X e1) (WE X e3) (rGetL X.K) (ipI f) rSetL)) (h0 : Γ[i]? = some (.l xs)) (h1 : EV X Γ e1 r) (h3 : EV X Γ e3 y)
    (hr : 0 ≤ r ∧ r < (xs.length : Int)) : SV X Γ st (.nx (Γ.set i (.l (xs.set r.toNat (f (xs.getD r.toNat 0) y))))) := ⟨fun B G H σ D hB hg l k => by
  obtain ⟨F, p, vs, lf, hF, e1', hbp, hgp, hh, rr⟩ := ownL l h0
  have hx : xs[r.toNat]? = some (xs.getD r.toNat 0) := by
    have h : r.toNat < xs.length := by omega
    rw [List.getD_eq_getElem?_getD, List.getElem?_eq_getElem h]; rfl
  generalize xs.getD r.toNat 0 = z at *
  refine ws hp ⟨_, e1', h1 B G H σ hB hg l _ fun v1 G1 H1 g1 r1 => ?_⟩
  obtain ⟨w, hw, rw'⟩ := paired_get2 rr r.toNat z hx
  refine ⟨p, vs, r, w, rfl, r1, .inl (.inl (g1.h _ _ hh)), hr.1, hw, ?_⟩
  refine h3 B G1 H1 σ (hB.trans g1.h) g1.gh (l.grow g1) _ fun v3 G3 H3 g3 r3 => ?_
  have g := g1.trans g3
  have hgp3 := (g.fr p _ hh).trans hgp
  refine ⟨z, y, rw', r3, p, vs, r, r.toNat, rfl, r1, g.h _ _ hh, ?_, ?_⟩
  · have hlt : r.toNat < vs.length := (List.getElem?_eq_some_iff.mp hw).1
    unfold ixN
    rw [if_pos hr.1, if_pos (by omega)]
  · exact k G3 _ ((g.step hB).trans (Stp.mutL (hB.trans g.h) g.gh hbp hgp3)) σ ((lf.grow g).mutL h0 hF e1' hbp hgp3 (paired_set (R := Rp.rep X.K G3) (x := V.int (f z y)) (y := f z y) rfl _ (rr.mono g.g)))⟩
/-- an if, its ways with outcomes of any kind -/
theorem sv_ifo {x : Bool} {els : List Stmt} {of : Bool → Out} (h : ET X Γ c x) (h1 : x = true → BV X Γ sts (of true)) (h2 : x = false → BV X Γ els (of false)) : SV X Γ (.If c sts els pos) (of x) := ⟨fun B G H σ D hB hg l k =>
  ws (ps_if pt pss pss) (h B G H σ hB hg l _ fun G1 H1 g1 => by
    cases x with
    | true => exact h1 rfl B G1 H1 σ D (hB.trans g1.h) g1.gh (l.grow g1) fun G2 H2 g2 => k G2 H2 ((g1.step hB).trans g2)
    | false => exact h2 rfl B G1 H1 σ D (hB.trans g1.h) g1.gh (l.grow g1) fun G2 H2 g2 => k G2 H2 ((g1.step hB).trans g2))⟩
theorem bv_if3 {x : Bool} {els : List Stmt} {of : Bool → Out} (h : ET X Γ c x) (h1 : x = true → BV X Γ sts (of true)) (h2 : x = false → BV X Γ els (of false)) (he : (of x).exits) (ho : of x = o := by exact rfl) : BV X Γ (.If c sts els pos :: rest) o := ho ▸ bv_out (sv_ifo h h1 h2) he
theorem iseq_mem {lo : Int} {n : Nat} {pre post : List Int} {x : Int} (h : iseq lo n = pre ++ x :: post) : lo ≤ x ∧ x < lo + (n : Int) := by
  have hm : x ∈ iseq lo n := by rw [h]; simp
  unfold iseq at hm
  obtain ⟨i, hi, e⟩ := List.mem_map.mp hm
  have := List.mem_range.mp hi
  omega
end
end Wl

set_option maxRecDepth 100000
set_option maxHeartbeats 2000000
namespace Wl
open PySem PySem.Spec PyProof.Rows L2
section
variable {X : Cx} {Γ Γ' : List Slot} {st : Stmt} {sts els rest : List Stmt} {a b c d e tg iter elt : Expr} {es elts ifs : List Expr} {pos : Pos} {o : Out}
/-- a pair of one kind as a list -/
def T2.list {α : Type} (x : T2 α α) : List α := [x.a, x.b]
theorem T2.seq {α : Type} [Rp α] {K : PySem.W.Frag} {G : Hp} {v : V} {x : T2 α α} (h : Rp.rep K G v x) : ∃ p vs, v = .ref p ∧ SqT K G p vs ∧ Reps K G vs x.list := by
  obtain ⟨p, v1, v2, h0, hs, h1, h2⟩ := h
  exact ⟨p, _, h0, hs, .cons h1 (.cons h2 .nil)⟩
/-- zip of two pairs -/
theorem iv_zipT2 {p tpos : Pos} {kk : Nat} {α β : Type} [Rp α] [Rp β] {x : T2 α α} {y : T2 β β} (hm : X.mg "zip" = none) (h : EV X Γ a x) (h2 : EV X Γ b y) (hg : Gl X "zip" := by rfl) (hs : starEach [a, b] X.env = (false, eval a X.env) :: starEach [b] X.env := by rfl) (hs1 : starEach [b] X.env = (false, eval b X.env) :: starEach [] X.env := by rfl) (hpl : (backTo pos (starEach [b] X.env)).any (·.1) = false := by rfl) :
    IV X Γ (.Tuple elts kk tpos) (.Call (.Name "zip" p) [a, b] [] pos) (zipL x.list y.list) := ⟨fun B G H σ hB hgh l R q =>
  wi (RZ.pi_zipA hg hm pa hs hpl) (ea_cons h (ea_cons h2 ea_nil hs1) hs B G H σ hB hgh l _ fun vs G1 H1 g1 r1 => by
    cases r1 with
    | cons r1 t =>
      cases t with
      | cons r2 t =>
        cases t
        obtain ⟨p, ws, rfl, hs, hr⟩ := T2.seq r1
        obtain ⟨p2, ws2, rfl, hs2, hr2⟩ := T2.seq r2
        generalize x.list = xs at hr q
        generalize y.list = ys at hr2 q
        refine ⟨p, p2, ws, ws2, rfl, .inr ⟨seqT g1.gh hs, seqT g1.gh hs2, q _ G1 H1 g1 (iters_of (min xs.length ys.length) (by simp [zipL]) (fun i G2 H2 g h hi => ?_) fun G2 H2 g h => ⟨ws, ws2, seqT (g.trans h) hs, seqT (g.trans h) hs2, by have l1 : ws.length = xs.length := hr.len; have l2 : ws2.length = ys.length := hr2.len; omega⟩)⟩⟩
        have hlt : i < xs.length := by omega
        have hlt2 : i < ys.length := by omega
        obtain ⟨v, hv, rv⟩ := paired_get2 hr i xs[i] (List.getElem?_eq_getElem hlt)
        obtain ⟨v2, hv2, rv2⟩ := paired_get2 hr2 i ys[i] (List.getElem?_eq_getElem hlt2)
        refine ⟨⟨ws, ws2, v, v2, seqT (g.trans h) hs, seqT (g.trans h) hs2, hv, hv2⟩, fun u H3 hy => ?_⟩
        obtain ⟨T, x, y, e, hT, e3, hy, hy2⟩ := hy
        subst e e3
        have e2 := hy ws (seqT (g.trans h) hs)
        rw [hv] at e2
        cases e2
        have e2 := hy2 ws2 (seqT (g.trans h) hs2)
        rw [hv2] at e2
        cases e2
        have gn := Grow.new (o := .tup [v, v2]) h hT
        refine ⟨upd G2 T (.tup [v, v2]), T2.mk xs[i] ys[i], gn, ?_, T, v, v2, rfl, SqT.of upd_same, Rp.mono (g.trans gn.g) rv, Rp.mono (g.trans gn.g) rv2⟩
        unfold zipL
        rw [List.getElem?_map, List.getElem?_zip_eq_some (z := (xs[i], ys[i])) |>.mpr ⟨List.getElem?_eq_getElem hlt, List.getElem?_eq_getElem hlt2⟩]
        rfl)⟩
/-- x[i] of a pair of one kind -/
theorem ev_tixN {α : Type} [Rp α] {x : T2 α α} {i : Int} (dflt : α) (ha : EV X Γ a x) (hb : EV X Γ b i) (h0 : 0 ≤ i ∧ i < 2) (hp : PlainIx b := by exact fun _ _ => rfl) : EV X Γ (.Subscript a b pos) (x.list.getD i.toNat dflt) := ⟨fun B G H σ hB hg l Q q =>
  we (pe_ix ix_tup pe pe hp) (ha B G H σ hB hg l _ fun v G1 H1 g1 r1 => hb B G1 H1 σ (hB.trans g1.h) g1.gh (l.grow g1) _ fun u G2 H2 g2 r2 => by
    obtain ⟨p, vs, rfl, hs, hr⟩ := T2.seq r1
    have hx : x.list[i.toNat]? = some (x.list.getD i.toNat dflt) := by
      have h : i.toNat < x.list.length := by show i.toNat < 2; omega
      rw [List.getD_eq_getElem?_getD, List.getElem?_eq_getElem h]; rfl
    obtain ⟨w, hw, rw'⟩ := paired_get2 hr _ _ hx
    have hi : ((i.toNat : Nat) : Int) = i := by omega
    exact ⟨p, vs, i, w, rfl, r2, seqT (g1.trans g2).gh (seqT g2.g hs), by rw [← hi]; exact atI_nat hw, q w G2 H2 (g1.trans g2) (Rp.mono g2.g rw')⟩)⟩
end
end Wl

set_option maxRecDepth 100000
set_option maxHeartbeats 2000000
namespace Wl
open PySem PySem.Spec PyProof.Rows L2
/-! ### tuples of ints as keys -/
structure TK where
  ks : List Int
deriving DecidableEq
instance : Rp TK := ⟨fun K G v x => ∃ p, v = .ref p ∧ G p = some (.tup (x.ks.map V.int)), fun e h => by obtain ⟨p, h0, h1⟩ := h; exact ⟨p, h0, e _ _ h1⟩⟩
/-- tuples all of ints -/
class TInts (τ : Type) [Rp τ] where
  nums : τ → List Int
  ok : ∀ {K G v x}, Rp.rep K G v x → ∃ p, v = V.ref p ∧ SqT K G p ((nums x).map V.int)
instance : TInts (T2 Int Int) := ⟨fun x => [x.a, x.b], fun h => by
  obtain ⟨p, v1, v2, h0, hs, h1, h2⟩ := h
  have h1 : v1 = .int _ := h1
  have h2 : v2 = .int _ := h2
  subst h1 h2
  exact ⟨p, h0, hs⟩⟩
instance : TInts (T3 Int Int Int) := ⟨fun x => [x.a, x.b, x.c], fun h => by
  obtain ⟨p, v1, v2, v3, h0, hs, h1, h2, h3⟩ := h
  have h1 : v1 = .int _ := h1
  have h2 : v2 = .int _ := h2
  have h3 : v3 = .int _ := h3
  subst h1 h2 h3
  exact ⟨p, h0, hs⟩⟩
instance : TInts (T4 Int Int Int Int) := ⟨fun x => [x.a, x.b, x.c, x.d], fun h => by
  obtain ⟨p, v1, v2, v3, v4, h0, hs, h1, h2, h3, h4⟩ := h
  have h1 : v1 = .int _ := h1
  have h2 : v2 = .int _ := h2
  have h3 : v3 = .int _ := h3
  have h4 : v4 = .int _ := h4
  subst h1 h2 h3 h4
  exact ⟨p, h0, hs⟩⟩
instance : TInts (T5 Int Int Int Int Int) := ⟨fun x => [x.a, x.b, x.c, x.d, x.e], fun h => by
  obtain ⟨p, v1, v2, v3, v4, v5, h0, hs, h1, h2, h3, h4, h5⟩ := h
  have h1 : v1 = .int _ := h1
  have h2 : v2 = .int _ := h2
  have h3 : v3 = .int _ := h3
  have h4 : v4 = .int _ := h4
  have h5 : v5 = .int _ := h5
  subst h1 h2 h3 h4 h5
  exact ⟨p, h0, hs⟩⟩
/-! ### dicts with such keys -/
structure MDT (β : Type) where
  kvs : List (List Int × β)
def kT (ks : List Int) : List Key := ks.map Sum.inl
theorem kT_inj {a b : List Int} (h : kT a = kT b) : a = b := (List.map_inj_right (fun _ _ h => Sum.inl.inj h)).mp h
theorem kT_val (ks : List Int) : (kT ks).map kV = ks.map V.int := by
  unfold kT
  rw [List.map_map]
  rfl
def DRepT {β : Type} [Rp β] (K : PySem.W.Frag) (G : Hp) (ws : List (List Key × V)) (kvs : List (List Int × β)) : Prop := Paired (fun w y => w.1 = kT y.1 ∧ Rp.rep K G w.2 y.2) ws kvs
theorem DRepT.mono {β : Type} [Rp β] {K : PySem.W.Frag} {G G' : Hp} {ws : List (List Key × V)} {kvs : List (List Int × β)} (e : Same G G') (h : DRepT K G ws kvs) : DRepT K G' ws kvs := Paired.mapP h fun _ _ r => ⟨r.1, Rp.mono e r.2⟩
instance {β : Type} [Rp β] : Ow (MDT β) := ⟨fun K G H v fp x => ∃ p ws, v = .ref p ∧ fp = [p] ∧ H p = some (.dT ws) ∧ DRepT K G ws x.kvs, fun e eh h => by obtain ⟨p, ws, h0, h1, h2, hr⟩ := h; exact ⟨p, ws, h0, h1, by rw [eh p (by rw [h1]; simp)]; exact h2, hr.mono e⟩, fun h => by obtain ⟨p, vs, _, rfl, h2, _⟩ := h; exact nt_one h2 nt_dT⟩
structure DVT (β : Type) where
  kvs : List (List Int × β)
instance {β : Type} [Rp β] : Rp (DVT β) := ⟨fun K G v x => ∃ p ws, v = .ref p ∧ Rd G p (.dT ws) ∧ DRepT K G ws x.kvs, fun e h => by
  obtain ⟨p, ws, h0, h1, hr⟩ := h
  exact ⟨p, ws, h0, rdMono e h1, hr.mono e⟩⟩
instance {β : Type} [Rp β] : Fz (MDT β) (DVT β) := ⟨fun x => ⟨x.kvs⟩, fun {K G H v fp x} hf h => by
  obtain ⟨p, ws, rfl, rfl, h2, r⟩ := h
  exact ⟨p, ws, rfl, .inl (by rw [gl_in (by simp)]; exact h2), r.mono (gl_up hf)⟩⟩
def dputT {β : Type} (kvs : List (List Int × β)) (k : List Int) (v : β) : List (List Int × β) := if (kvs.any fun p => decide (p.1 = k)) = true then kvs.map (fun p => if p.1 = k then (p.1, v) else p) else kvs ++ [(k, v)]
def dgetT {β : Type} (kvs : List (List Int × β)) (k : List Int) : Option β := (kvs.find? fun p => decide (p.1 = k)).map (·.2)
theorem kT_dec (a b : List Int) : decide (kT a = kT b) = decide (a = b) := by
  by_cases h : a = b
  · subst h; simp
  · rw [decide_eq_false h, decide_eq_false fun e => h (kT_inj e)]
section
variable {β : Type} [Rp β] {K : PySem.W.Frag} {G : Hp} {ws : List (List Key × V)} {kvs : List (List Int × β)}
theorem DRepT.any (h : DRepT K G ws kvs) (k : List Int) : (ws.any fun w => decide (w.1 = kT k)) = kvs.any fun p => decide (p.1 = k) := by
  unfold DRepT at h
  induction h with
  | nil => rfl
  | cons r t ih => rw [List.any_cons, List.any_cons, ih, r.1, kT_dec]
theorem DRepT.get (h : DRepT K G ws kvs) (k : List Int) : match dgetT kvs k with
    | none => valV ws (kT k) = none
    | some y => ∃ v, valV ws (kT k) = some v ∧ Rp.rep K G v y := by
  unfold DRepT at h
  induction h with
  | nil => rfl
  | @cons w y ws kvs r t ih =>
    unfold dgetT valV at *
    rw [List.find?_cons, List.find?_cons, r.1, kT_dec]
    by_cases e : y.1 = k
    · rw [decide_eq_true e]; exact ⟨_, rfl, r.2⟩
    · rw [decide_eq_false e]; exact ih
theorem DRepT.put (h : DRepT K G ws kvs) (k : List Int) {v : V} {y : β} (r : Rp.rep K G v y) : DRepT K G (putK ws (kT k) v) (dputT kvs k y) := by
  unfold putK dputT
  rw [h.any k]
  split
  · rename_i hh
    clear hh
    unfold DRepT at *
    induction h with
    | nil => exact .nil
    | @cons w z ws kvs q t ih =>
      refine .cons ?_ ih
      dsimp only
      by_cases e : z.1 = k
      · rw [if_pos e, if_pos (by rw [q.1, e])]; exact ⟨q.1, r⟩
      · rw [if_neg e, if_neg (by rw [q.1]; exact fun z => e (kT_inj z))]; exact q
  · exact paired_app h (.cons ⟨rfl, r⟩ .nil)
theorem DRepT.len (h : DRepT K G ws kvs) : ws.length = kvs.length := Paired.length h
end
theorem DGet.tr {H : Hp} {a b : Addr} {kvs : List (List Key × V)} {k : List Int} (e : Rd H a (.dT kvs)) (eb : H b = some (.tup (k.map V.int))) : DGet H a (.ref b) (valV kvs (kT k)) := .inr ⟨kvs, kT k, b, e, rfl, by rw [kT_val]; exact eb, rfl⟩
section
variable {X : Cx} {Γ Γ' : List Slot} {st : Stmt} {sts els rest : List Stmt} {a b c d e tg iter elt : Expr} {es elts ifs : List Expr} {pos : Pos} {o : Out}
theorem dats_ints {K : PySem.W.Frag} {G : Hp} : ∀ {vs : List V} {ks : List Int}, DatsOk K G vs (ks.map fun x => dt x) → vs = ks.map V.int := fun h => (DatsOk.of h).ints
/-- (a, b, ..) of ints, a new tuple -/
theorem ev_tk {ks : List Int} {n : Nat} (h : EA X Γ es (ks.map fun x => dt x)) (hn : ks.length ≤ 100 := by exact Nat.le_of_ble_eq_true rfl) : EV X Γ (.Tuple es n pos) (TK.mk ks) := ⟨fun B G H σ hB hg l Q q =>
  we (pe_tup pa) (h B G H σ hB hg l _ fun vs G1 H1 g1 r1 => ⟨by rw [r1.len, List.length_map]; exact Nat.le_trans hn (by decide), fun p hp => by
    rw [dats_ints r1]
    exact q _ _ _ (g1.trans (Grow.new g1.gh hp)) ⟨p, rfl, upd_same⟩⟩)⟩
theorem po_w {eo : Option Expr} : PO X eo (WO X eo) := ⟨fun pins s σ H Q I h => h pins s I⟩
/-- t[lo:hi] of ints, not the whole -/
theorem ev_tsl {τ : Type} [Rp τ] [TInts τ] {x : τ} {lo hi : Option Expr} {l u : Option Int} {ks : List Int} {p2 : Pos} {n : Nat} (h : EV X Γ a x) (hl : EO X Γ lo l) (hu : EO X Γ hi u) (hw : ¬ (HT.sIx n 0 l = 0 ∧ HT.sIx n n u = n))
    (hn : (TInts.nums x).length = n := by rfl) (hk : cutV ((TInts.nums x).map V.int) l u = ks.map V.int := by rfl) :
    EV X Γ (.Subscript a (.Slice lo hi none p2) pos) (TK.mk ks) := ⟨fun B G H σ hB hg lo0 Q q =>
  we (pe_slice sl_tup pe po_w po_w) (h B G H σ hB hg lo0 _ fun v G1 H1 g1 r1 => eo_run hl (hB.trans g1.h) g1.gh (lo0.grow g1) fun G2 H2 g2 => eo_run hu ((hB.trans g1.h).trans g2.h) g2.gh ((lo0.grow g1).grow g2) fun G3 H3 g3 => by
    obtain ⟨p, rfl, hs⟩ := TInts.ok r1
    have g := g2.trans g3
    refine ⟨p, _, rfl, seqT (g.g.trans g.gh) hs, by rw [List.length_map, hn]; exact hw, fun p2 hp2 => ?_⟩
    rw [hk]
    exact q _ _ _ ((g1.trans g).trans (Grow.new g3.gh hp2)) ⟨p2, rfl, upd_same⟩)⟩
/-- {} -/
theorem en_dT0 {β : Type} [Rp β] : EN X Γ (.Dict [] [] pos) (MDT.mk ([] : List (List Int × β))) := ⟨fun B G H σ hB hg l Q q =>
  we pe_dnewT fun p hn => q (.ref p) [p] G _ (Grow.own hg hn) (one_new hn (hg.free hn)) ⟨p, [], rfl, rfl, upd_same, .nil⟩⟩
/-- d[k] = v -/
theorem sv_dputT (i : Nat) {β : Type} [Rp β] {kvs : List (List Int × β)} {k : List Int} {v : β} {e1 e2 : Expr} (hp : PS X st (sDPut (tVar i) (WE X e1) (WE X e2))) (h0 : Γ[i]? = some (.o (MDT.mk kvs))) (h2 : EV X Γ e2 v) (h1 : EV X Γ e1 (TK.mk k)) (hz : kvs.length < 10000000) : SV X Γ st (.nx (Γ.set i (.o (MDT.mk (dputT kvs k v))))) := ⟨fun B G H σ D hB hg l kk => by
  obtain ⟨F, v0, lf, e0, hf, p, ws', rfl, hF, hh, r⟩ := own_at l h0
  refine ws hp (h2 B G H σ hB hg l _ fun x G1 H1 g1 r1 => ⟨_, e0, h1 B G1 H1 σ (hB.trans g1.h) g1.gh (l.grow g1) _ fun y G2 H2 g2 r2 => ?_⟩)
  have g := g1.trans g2
  have hfp := hf p (by rw [hF]; simp)
  have hgp2 := (g.fr p _ hh).trans hfp.2.1
  obtain ⟨bk, rfl, hbk⟩ := r2
  refine ⟨p, _, rfl, DPut.t (k := kT k) (g.h _ _ hh) (by rw [kT_val]; exact g2.gh _ _ hbk) (by rw [r.len]; exact Nat.lt_of_lt_of_le hz (by decide)), ?_⟩
  have hk : ∀ a, a ∉ F i → ∀ o, H2 a = some o → upd H2 p (.dT (putK ws' (kT k) x)) a = some o := fun a ha o e => by rw [upd_ne (by rw [hF] at ha; simpa using ha)]; exact e
  exact kk G2 _ ((g.step hB).trans (Stp.mutL (hB.trans g.h) g.gh hfp.1 hgp2)) σ ((lf.grow g).mut (fp := [p]) (d' := ot (MDT.mk (dputT kvs k v))) h0 e0 hk (fun a ha => by
    have : a = p := by simpa using ha
    subst this
    exact ⟨.inl (by rw [hF]; simp), hfp.1, hgp2, _, upd_same⟩) ⟨p, _, rfl, rfl, upd_same, (r.mono g.g).put k (Rp.mono g2.g r1)⟩)⟩
theorem someT {β : Type} [Rp β] {K : PySem.W.Frag} {G : Hp} {ws : List (List Key × V)} {kvs : List (List Int × β)} (dr : DRepT K G ws kvs) (k : List Int) : (valV ws (kT k)).isSome = (dgetT kvs k).isSome := by
  have h := dr.get k
  cases hd : dgetT kvs k with
  | none => rw [hd] at h; rw [h]; rfl
  | some y => rw [hd] at h; obtain ⟨w, e, _⟩ := h; rw [e]; rfl
/-- k in d -/
theorem ev_dinT {β : Type} [Rp β] {kvs : List (List Int × β)} {k : List Int} (hu : X.A.units + 64 < cLine) (ha : EV X Γ a (TK.mk k)) (hb : EV X Γ b (DVT.mk kvs)) (hm : behindInMarks .In b = false := by rfl) : EV X Γ (.Compare a [.In] [b] pos) (dgetT kvs k).isSome := ⟨fun B G H σ hB hg l Q q =>
  we (pe_cmp (pc_din (by omega) pe pe) hm) (ha B G H σ hB hg l _ fun v G1 H1 g1 r1 => hb B G1 H1 σ (hB.trans g1.h) g1.gh (l.grow g1) _ fun u G2 H2 g2 r2 => by
    obtain ⟨p, ws, rfl, hr, dr⟩ := r2
    obtain ⟨bk, rfl, hbk⟩ := r1
    refine ⟨p, _, rfl, DGet.tr (rdMono g2.gh hr) ((g2.g.trans g2.gh) _ _ hbk), ?_⟩
    rw [someT dr k]
    exact q _ G2 H2 (g1.trans g2) rfl)⟩
theorem et_dinT {β : Type} [Rp β] {kvs : List (List Int × β)} {k : List Int} (hu : X.A.units + 64 < cLine) (ha : EV X Γ a (TK.mk k)) (hb : EV X Γ b (DVT.mk kvs)) (hm : behindInMarks .In b = false := by rfl) : ET X Γ (.Compare a [.In] [b] pos) (dgetT kvs k).isSome := ⟨fun B G H σ hB hg l Q q =>
  wt (pt_cmp (pc_din (by omega) pe pe) hm) (ha B G H σ hB hg l _ fun v G1 H1 g1 r1 => hb B G1 H1 σ (hB.trans g1.h) g1.gh (l.grow g1) _ fun u G2 H2 g2 r2 => by
    obtain ⟨p, ws, rfl, hr, dr⟩ := r2
    obtain ⟨bk, rfl, hbk⟩ := r1
    refine ⟨p, _, rfl, DGet.tr (rdMono g2.gh hr) ((g2.g.trans g2.gh) _ _ hbk), _, rfl, ?_⟩
    rw [someT dr k]
    exact q G2 H2 (g1.trans g2))⟩
/-- d.get(k, x) -/
theorem ev_dget2T {β : Type} [Rp β] {kvs : List (List Int × β)} {k : List Int} {x : β} {apos : Pos} (hu : X.A.units + 64 < cLine) (hd : EV X Γ d (DVT.mk kvs)) (ha : EV X Γ a (TK.mk k)) (hb : EV X Γ b x) (m : M2 X d "get" apos a b pos := by exact ⟨rfl, rfl, rfl, rfl⟩) :
    EV X Γ (.Call (.Attribute d "get" apos) [a, b] [] pos) ((dgetT kvs k).getD x) := ⟨fun B G H σ hB hg l Q q =>
  we (pe_dget2 (by omega) pe pe pe m) (hd B G H σ hB hg l _ fun v0 G0 H0 g0 r0 => by
    obtain ⟨p, ws, rfl, hr, dr⟩ := r0
    refine ⟨p, rfl, .inr ⟨ws, rdMono g0.gh hr⟩, ha B G0 H0 σ (hB.trans g0.h) g0.gh (l.grow g0) _ fun v G1 H1 g1 r1 => hb B G1 H1 σ ((hB.trans g0.h).trans g1.h) g1.gh ((l.grow g0).grow g1) _ fun u G2 H2 g2 r2 => ?_⟩
    obtain ⟨bk, rfl, hbk⟩ := r1
    have g := g1.trans g2
    refine ⟨_, DGet.tr (rdMono (g.g.trans g.gh) hr) ((g2.g.trans g2.gh) _ _ hbk), ?_⟩
    have h := (dr.mono g.g).get k
    cases hd : dgetT kvs k with
    | none => rw [hd] at h; rw [h]; exact q _ G2 H2 ((g0.trans g1).trans g2) (by rw [hd]; exact r2)
    | some y => rw [hd] at h; obtain ⟨w, e, rw'⟩ := h; rw [e]; exact q _ G2 H2 ((g0.trans g1).trans g2) (by rw [hd]; exact rw'))⟩
end
end Wl

set_option maxRecDepth 100000
set_option maxHeartbeats 2000000
namespace Wl
open PySem PySem.Spec PyProof.Rows L2
/-! ### how many unlike ones -/
def uniq {α : Type} [DecidableEq α] : List α → List α
  | [] => []
  | x :: r => if x ∈ r then uniq r else x :: uniq r
theorem mem_uniq {α : Type} [DecidableEq α] {x : α} : ∀ {xs : List α}, x ∈ uniq xs ↔ x ∈ xs
  | [] => Iff.rfl
  | y :: r => by
    unfold uniq
    by_cases h : y ∈ r
    · rw [if_pos h, mem_uniq, List.mem_cons]
      constructor
      · exact .inr
      · rintro (e | e)
        · rw [e]; exact h
        · exact e
    · rw [if_neg h, List.mem_cons, List.mem_cons, mem_uniq]
theorem uniq_nodup {α : Type} [DecidableEq α] : ∀ (xs : List α), (uniq xs).Nodup
  | [] => List.nodup_nil
  | y :: r => by
    unfold uniq
    by_cases h : y ∈ r
    · rw [if_pos h]; exact uniq_nodup r
    · rw [if_neg h]; exact List.nodup_cons.mpr ⟨fun z => h (mem_uniq.mp z), uniq_nodup r⟩
theorem uniq_len {α : Type} [DecidableEq α] {xs ys : List α} (hn : ys.Nodup) (h : ∀ x, x ∈ ys ↔ x ∈ xs) : ys.length = (uniq xs).length :=
  ((List.perm_ext_iff_of_nodup hn (uniq_nodup xs)).mpr fun x => (h x).trans mem_uniq.symm).length_eq
theorem uniq_le {α : Type} [DecidableEq α] : ∀ (xs : List α), (uniq xs).length ≤ xs.length
  | [] => Nat.le_refl _
  | y :: r => by
    have := uniq_le r
    unfold uniq
    by_cases h : y ∈ r
    · rw [if_pos h]; exact Nat.le_succ_of_le this
    · rw [if_neg h]; exact Nat.succ_le_succ this
theorem uniq_eq {α : Type} [DecidableEq α] : ∀ (xs : List α), (uniq xs).length = xs.length ↔ xs.Nodup
  | [] => ⟨fun _ => List.nodup_nil, fun _ => rfl⟩
  | y :: r => by
    have ih := uniq_eq r
    have hl := uniq_le r
    unfold uniq
    by_cases h : y ∈ r
    · rw [if_pos h, List.nodup_cons, List.length_cons]
      exact ⟨fun e => by omega, fun e => absurd h e.1⟩
    · rw [if_neg h, List.nodup_cons, List.length_cons, List.length_cons, Nat.succ_inj, ih]
      exact ⟨fun e => ⟨h, e⟩, fun e => e.2⟩
section
variable {X : Cx} {Γ Γ' : List Slot} {st : Stmt} {sts els rest : List Stmt} {a b c d e tg iter elt : Expr} {es elts ifs : List Expr} {pos : Pos} {o : Out}
theorem reps_tk {K : PySem.W.Frag} {G : Hp} : ∀ {vs : List V} {xs : List TK}, Reps K G vs xs → ∃ ks : List (Addr × List Int), vs = ks.map (fun p => V.ref p.1) ∧ (∀ p ∈ ks, G p.1 = some (.tup (p.2.map V.int))) ∧ ks.map (·.2) = xs.map TK.ks
  | _, _, .nil => ⟨[], rfl, by simp, rfl⟩
  | _, _, .cons r t => by
    obtain ⟨p, rfl, hp⟩ := r
    obtain ⟨ks, rfl, h1, h2⟩ := reps_tk t
    exact ⟨(p, _) :: ks, rfl, fun q hq => by
      rcases List.mem_cons.mp hq with e | e
      · rw [e]; exact hp
      · exact h1 q e, by rw [List.map_cons, List.map_cons, h2]⟩
/-- len(set(xs)), xs of fewer than 64 tuples of ints -/
theorem ev_lenSetT {xs : List TK} {p p2 q : Pos} (hc : X.calm = true) (hu : X.A.units + 64 < cLine) (hm : X.mg "len" = none) (hm2 : X.mg "set" = none) (ha : EV X Γ a xs) (hl : xs.length < 64) (hg : Gl X "len" := by rfl) (hg2 : Gl X "set" := by rfl)
    (na : starEach [a] X.env = (false, eval a X.env) :: starEach [] X.env := by rfl) : EV X Γ (.Call (.Name "len" p) [.Call (.Name "set" p2) [a] [] q] [] pos) ((uniq xs).length : Int) := ⟨fun B G H σ hB hgh lo Q qq pins s I => by
  refine Call_ (ld_blt I hg hm boot_len ?_)
  refine PyProof.Rows.callWith_builtin1 (PyProof.Rows.args_cons ?_ rfl) rfl rfl
  refine Call_ (ld_blt I hg2 hm2 boot_set ?_)
  refine PyProof.Rows.callWith_type1 (PyProof.Rows.args_cons (thn (ha B G H σ hB hgh lo (fun v H1 => ∃ G1, Grow G H G1 H1 ∧ Rp.rep X.K G1 v xs) (fun v G1 H1 g1 r1 => ⟨G1, g1, r1⟩) pins s I) fun v s1 ⟨x, H1, I1, r1, G1, g1, rx⟩ => PyProof.Rows.args_nil ?_) na) na rfl
  obtain ⟨l, vs, rfl, hs, hr⟩ := rx
  obtain ⟨ks, rfl, h1, h2⟩ := reps_tk hr
  cases r1
  obtain ⟨its, rv, pl, hz⟩ := I1.list (Same.seq g1.gh hs)
  have hkl : ks.length = xs.length := by simpa using congrArg List.length h2
  refine call_set_tups (P := X.prog) (w := X.w) ks (I1.ok.hd hc) pl.isList (by simpa using refs_of_vals rv) (fun p hp => I1.isT (.inl (.inl (g1.gh _ _ (h1 p hp))))) (by omega) (by omega) fun h' tk L es ep t R g k => ?_
  refine PyProof.Rows.args_nil ?_
  have I2 : Inv X pins σ H1 { s1 with heap := h', toks := tk } := I1.kept k
  have hsz := SetTR.size (s := { s1 with heap := h', toks := tk }) R
  have hLn : L.length = (uniq xs).length := by
    have e : (L.map (·.2)).length = (uniq (xs.map TK.ks)).length := uniq_len R.nd fun y => by
      rw [← h2]
      constructor
      · intro hy
        obtain ⟨p, hp, rfl⟩ := List.mem_map.mp hy
        exact List.mem_map.mpr ⟨p, List.mem_of_mem_take (g.sub p hp), rfl⟩
      · intro hy
        obtain ⟨p, hp, rfl⟩ := List.mem_map.mp hy
        exact g.all p (by rw [List.take_length]; exact hp)
    rw [List.length_map] at e
    rw [e]
    have inj : ∀ ys : List TK, (uniq (ys.map TK.ks)).length = (uniq ys).length := by
      intro ys
      induction ys with
      | nil => rfl
      | cons y r ih =>
        have hm : y.ks ∈ r.map TK.ks ↔ y ∈ r := by
          constructor
          · intro h
            obtain ⟨z, hz, e⟩ := List.mem_map.mp h
            have : z = y := by cases z; cases y; simpa using e
            rw [← this]; exact hz
          · exact fun h => List.mem_map.mpr ⟨y, h, rfl⟩
        rw [List.map_cons]
        unfold uniq
        by_cases h : y ∈ r
        · rw [if_pos h, if_pos (hm.mpr h)]; exact ih
        · rw [if_neg h, if_neg (fun z => h (hm.mp z)), List.length_cons, List.length_cons, ih]
    exact inj xs
  have hfew := R.few
  obtain ⟨o, ho, hex, hd⟩ := R.ob
  refine call_len_set ho hex hd (SetTR.fits (s := { s1 with heap := h', toks := tk }) R) (by rw [hsz]; omega) ⟨.int _, H1, I2.tok _, ⟨_, rfl⟩, ?_⟩
  rw [hsz, hLn]
  exact qq _ G1 H1 g1 rfl⟩
/-- a module's int -/
theorem ev_gint {i : Int} {x : Str} (hm : ∃ t, X.mg x = some (.int i t)) (hg : Gl X x := by rfl) (hd : (x == ("__debug__" : Str)) = false := by decide) : EV X Γ (.Name x pos) i := ⟨fun B G H σ hB hgh l Q q =>
by
  obtain ⟨t, e⟩ := hm
  exact we (pe_glob (v := .int i) hg e ⟨t, rfl⟩ hd) (q _ G H (Grow.refl hgh) rfl)⟩
/-- t[k] of a tuple of ints, k a place -/
theorem ev_tixI {τ : Type} [Rp τ] [TInts τ] {x : τ} {i : Int} (ha : EV X Γ a x) (hb : EV X Γ b i) (h0 : 0 ≤ i ∧ i < ((TInts.nums x).length : Int)) (hp : PlainIx b := by exact fun _ _ => rfl) : EV X Γ (.Subscript a b pos) ((TInts.nums x).getD i.toNat 0) := ⟨fun B G H σ hB hg l Q q =>
  we (pe_ix ix_tup pe pe hp) (ha B G H σ hB hg l _ fun v G1 H1 g1 r1 => hb B G1 H1 σ (hB.trans g1.h) g1.gh (l.grow g1) _ fun u G2 H2 g2 r2 => by
    obtain ⟨p, rfl, hs⟩ := TInts.ok r1
    have hx : (TInts.nums x)[i.toNat]? = some ((TInts.nums x).getD i.toNat 0) := by
      have h : i.toNat < (TInts.nums x).length := by omega
      rw [List.getD_eq_getElem?_getD, List.getElem?_eq_getElem h]; rfl
    have hi : ((i.toNat : Nat) : Int) = i := by omega
    exact ⟨p, _, i, _, rfl, r2, seqT (g1.trans g2).gh (seqT g2.g hs), by rw [← hi]; exact atI_nat (by rw [List.getElem?_map, hx]; rfl), q _ G2 H2 (g1.trans g2) rfl⟩)⟩
/-- tuple(xs), xs a list of five -/
theorem ev_tuple5 {p : Pos} {ns : List Int} (hm : X.mg "tuple" = none) (ha : EV X Γ a ns) (hl : ns.length = 5) (hg : Gl X "tuple" := by rfl) (na : starEach [a] X.env = (false, eval a X.env) :: starEach [] X.env := by rfl) :
    EV X Γ (.Call (.Name "tuple" p) [a] [] pos) (T5.mk (ns.getD 0 0) (ns.getD 1 0) (ns.getD 2 0) (ns.getD 3 0) (ns.getD 4 0)) := ⟨fun B G H σ hB hgh l Q q =>
  we (pe_tupleOf hg hm pe na) (ha B G H σ hB hgh l _ fun v G1 H1 g1 r1 => by
    obtain ⟨p, vs, rfl, hs, hr⟩ := r1
    refine .inl ⟨p, vs, rfl, Same.seq g1.gh hs, fun q0 hq => q (.ref q0) _ _ (g1.trans (Grow.new g1.gh hq)) ?_⟩
    have e := hr.ints
    subst e
    match ns, hl with
    | [x1, x2, x3, x4, x5], _ => exact ⟨q0, _, _, _, _, _, rfl, SqT.of upd_same, rfl, rfl, rfl, rfl, rfl⟩)⟩
theorem bv_letv {τ : Type} {of : τ → Out} {x : τ} (Γf : τ → List Slot) (hr : ∀ y : τ, y = x → BV X (Γf y) sts (of y)) (ho : of x = o := by exact rfl) : BV X (Γf x) sts o := ho ▸ hr x rfl
theorem enumL_len {α : Type} (xs : List α) : (enumL xs).length = xs.length := by simp [enumL]
theorem enum_in {α : Type} {xs : List α} {x : T2 Int α} (h : x ∈ enumL xs) : x.b ∈ xs := by
  unfold enumL at h
  obtain ⟨i, hi, e⟩ := List.mem_mapIdx.mp h
  subst e
  exact List.getElem_mem hi
theorem enum_mem {α : Type} {xs : List α} {pre post : List (T2 Int α)} {x : T2 Int α} (h : enumL xs = pre ++ x :: post) : x.b ∈ xs := enum_in (by rw [h]; simp)
theorem or_dec {p q : Prop} [Decidable p] [Decidable q] (h : (decide p || decide q) = false) : ¬ p ∧ ¬ q := by simpa using h
end
end Wl

set_option maxRecDepth 100000
set_option maxHeartbeats 2000000
/-! sorted(xs), xs tuples of ints of one length, any number of them -/
namespace Wl
open PySem PySem.Spec PyProof.Rows L2
def lexL : List Int → List Int → Bool
  | [], [] => false
  | [], _ :: _ => true
  | _ :: _, [] => false
  | x :: r, y :: t => if x = y then lexL r t else decide (x < y)
theorem lexL_asym : ∀ (x y : List Int), lexL x y = true → lexL y x = false
  | [], [], h => by cases h
  | [], _ :: _, _ => rfl
  | _ :: _, [], h => by cases h
  | x :: r, y :: t, h => by
    unfold lexL at h ⊢
    by_cases e : x = y
    · rw [if_pos e] at h
      rw [if_pos e.symm]
      exact lexL_asym r t h
    · rw [if_neg e] at h
      rw [if_neg (Ne.symm e)]
      have h := of_decide_eq_true h
      exact decide_eq_false (by omega)
theorem lexL_tr : ∀ (x y z : List Int), lexL y x = false → lexL z y = false → lexL z x = false
  | [], [], z, _, h => h
  | [], _ :: _, [], _, _ => rfl
  | [], _ :: _, _ :: _, _, _ => rfl
  | _ :: _, [], _, h, _ => by cases h
  | _ :: _, _ :: _, [], _, h => by cases h
  | x :: r, y :: t, z :: u, h1, h2 => by
    unfold lexL at h1 h2 ⊢
    by_cases e1 : y = x
    · by_cases e2 : z = y
      · rw [if_pos e1] at h1
        rw [if_pos e2] at h2
        rw [if_pos (e2.trans e1)]
        exact lexL_tr r t u h1 h2
      · rw [if_neg e2] at h2
        rw [if_neg (fun w => e2 (w.trans e1.symm)), ← e1]
        exact h2
    · rw [if_neg e1] at h1
      have h1 := of_decide_eq_false h1
      by_cases e2 : z = y
      · rw [if_neg (fun w => e1 (e2.symm.trans w)), e2]
        exact decide_eq_false h1
      · rw [if_neg e2] at h2
        have h2 := of_decide_eq_false h2
        rw [if_neg (fun w => by omega)]
        exact decide_eq_false (by omega)
theorem lexL_eq : ∀ (x y : List Int), lexL x y = false → lexL y x = false → x = y
  | [], [], _, _ => rfl
  | [], _ :: _, h, _ => by cases h
  | _ :: _, [], _, h => by cases h
  | x :: r, y :: t, h1, h2 => by
    unfold lexL at h1 h2
    by_cases e : x = y
    · rw [if_pos e] at h1
      rw [if_pos e.symm] at h2
      rw [e, lexL_eq r t h1 h2]
    · rw [if_neg e] at h1
      rw [if_neg (Ne.symm e)] at h2
      have h1 := of_decide_eq_false h1
      have h2 := of_decide_eq_false h2
      omega
section
variable {prog : Program} {w : World} {A : Around} {E : Value → Shared → Prop} {s : Shared} {Q : Bool → Shared → Prop}
theorem lexT_ints {b : Bool} {xs ys : List Value} {ns ms : List Int} (i : Nat) (hx : IntsAre xs ns) (hy : IntsAre ys ms) (hl : ns.length = ms.length)
    (h : Q (lexL ns ms) s) : PySem.W.KatLex prog w A b false Q (xs.zip ys) i s := by
  induction hx generalizing ys ms i with
  | nil =>
    cases hy with
    | nil => exact PySem.W.kat_nil h
    | cons q u hy => simp at hl
  | @cons p t xs ns hx ih =>
    cases hy with
    | nil => simp at hl
    | @cons q u ys ms hy =>
      have hl' : ns.length = ms.length := by simpa using hl
      show PySem.W.KatLex prog w A b false Q ((Value.int p t, Value.int q u) :: xs.zip ys) i s
      refine PySem.W.kat_cons (wpAny_eqBool_int ?_)
      unfold lexL at h
      by_cases e : p = q
      · subst e
        rw [if_pos rfl] at h
        rw [beq_self_eq_true]
        refine PySem.W.kat_yes ?_
        first
          | exact ih (i + 1) hy hl' h
          | exact ih _ _ (i + 1) hy hl' h
      · rw [if_neg e] at h
        rw [show (p == q) = false from beq_eq_false_iff_ne.mpr e]
        exact PySem.W.kat_no (TS.oneLt_ints _ h)
/-- what is sorted: tuples of d ints -/
def TupsD (h : Heap) (d : Nat) (vs : List Value) : Prop := ∀ v, v ∈ vs → ∃ ns, TS.TupInts h v ns ∧ ns.length = d
theorem TupsD.keeps {h h' : Heap} {d : Nat} {vs : List Value} (x : TupsD h d vs) (k : ∀ b o, h.get? b = some o → o.cls = .type "tuple" → h'.get? b = some o) : TupsD h' d vs := fun v hv =>
  let ⟨ns, t, r⟩ := x v hv; ⟨ns, t.keeps k, r⟩
theorem firstsD {h : Heap} {d : Nat} (hd : 1 ≤ d) : ∀ vs : List Value, TupsD h d vs → ∃ fs, PySem.W.KatTups h vs fs ∧ fs.length = vs.length ∧ ∀ f, f ∈ fs → ∃ n t, f = Value.int n t
  | [], _ => ⟨[], PySem.W.KatTups.nil, rfl, fun f hf => by simp at hf⟩
  | v :: vs, x => by
    obtain ⟨fs, k, hl, hi⟩ := firstsD hd vs fun u hu => x u (List.mem_cons_of_mem _ hu)
    obtain ⟨ns, ⟨a, xs, rfl, ⟨o, ho, hc, n, hdt⟩, i⟩, hn⟩ := x v (List.mem_cons_self ..)
    obtain ⟨y, ys, e⟩ : ∃ y ys, xs.toList = y :: ys := by
      cases q : xs.toList with
      | nil =>
        rw [q] at i
        have l := i.length
        rw [List.length_nil, hn] at l
        omega
      | cons y ys => exact ⟨y, ys, rfl⟩
    obtain ⟨m, t, hy⟩ := i.all y (by rw [e]; exact List.mem_cons_self ..)
    refine ⟨y :: fs, PySem.W.KatTups.cons ho hc hdt ?_ k, by simp [hl], ?_⟩
    · have z := congrArg (fun l : List Value => l[0]?) e
      simpa using z
    · intro f hf
      rcases List.mem_cons.mp hf with rfl | hf
      · exact ⟨m, t, hy⟩
      · exact hi f hf
theorem tupD_cmp {d : Nat} {vs : List Value} (hp : TupsD s.heap d vs) : SrtO.Cmp prog w A s (tuples' true) (fun p => p.1 ∈ vs) (SrtO.lt2 fun v u => lexL (TS.intsOf s.heap v) (TS.intsOf s.heap u)) := by
  intro p q hm hm'
  obtain ⟨ns, tp, lp⟩ := hp _ hm
  obtain ⟨ms, tq, lq⟩ := hp _ hm'
  show wpAny (model prog w) A (keyLt' (tuples' true) p.1 q.1) (fun r s' => s' = s ∧ r = lexL (TS.intsOf s.heap p.1) (TS.intsOf s.heap q.1)) (fun _ _ => False) s
  rw [tp.ints, tq.ints]
  obtain ⟨a, xs, e1, ⟨o, ho, hc, n, hdt⟩, i⟩ := tp
  obtain ⟨a', ys, e2, ⟨o', ho', hc', n', hdt'⟩, i'⟩ := tq
  rw [e1, e2]
  refine PySem.W.kat_lt ho hdt ho' hdt' ?_
  have hsz : decide (xs.size < ys.size) = false := by
    have l1 := i.length
    have l2 := i'.length
    rw [Array.length_toList] at l1 l2
    exact decide_eq_false (by omega)
  rw [hsz]
  exact lexT_ints 0 i i' (by omega) ⟨rfl, rfl⟩
theorem tupD_sortable {a : Addr} {d : Nat} {vs : List Value} (hd : 1 ≤ d) (h0 : 0 < vs.length) (hp : TupsD s.heap d vs) (ha : ∀ o, s.heap.get? a = some o → o.cls ≠ .type "tuple") : SrtO.SortableO prog w A s a vs fun v u => lexL (TS.intsOf s.heap v) (TS.intsOf s.heap u) := by
  intro h' keep
  have kk : ∀ b o, s.heap.get? b = some o → o.cls = .type "tuple" → h'.get? b = some o := fun b o e c => keep b o (fun z => by subst z; exact ha o e c) e
  have hp' := hp.keeps kk
  obtain ⟨fs, h1, h2, h3⟩ := firstsD hd vs hp'
  refine ⟨tuples' true, fun Q E hq => ?_, ?_⟩
  · refine PySem.W.kat_kind (T := .type "int") h1 (by omega) (fun f hm => ?_) (by rfl) ?_
    · obtain ⟨x, t, rfl⟩ := h3 f hm
      exact PySem.W.Looks.now
    · have e : (Value.type "int" != Value.type "tuple") = true := by first | decide +kernel | rfl | decide
      rw [e]
      exact hq
  · have hc := tupD_cmp (prog := prog) (w := w) (A := A) (s := { s with heap := h' }) hp'
    intro p q hm hm'
    have e : ∀ v, v ∈ vs → TS.intsOf h' v = TS.intsOf s.heap v := fun v hv => by
      obtain ⟨ns, t, _⟩ := hp v hv
      rw [t.ints, (t.keeps kk).ints]
    have q1 := hc p q hm hm'
    have z : SrtO.lt2 (fun v u => lexL (TS.intsOf h' v) (TS.intsOf h' u)) p q = SrtO.lt2 (fun v u => lexL (TS.intsOf s.heap v) (TS.intsOf s.heap u)) p q := by
      show lexL (TS.intsOf h' p.1) (TS.intsOf h' q.1) = lexL (TS.intsOf s.heap p.1) (TS.intsOf s.heap q.1)
      rw [e _ hm, e _ hm']
    rw [← z]
    exact q1
end
section
variable {X : Cx}
def rSortLx (K : PySem.W.Frag) (d : Nat) : List V → Hp → VK → Prop := fun vs H Q => ∃ (a : Addr) (xs : List V), vs = [V.ref a] ∧ SqL K H a xs ∧ (∀ x ∈ xs, ∃ ns, TupI K H x ns ∧ ns.length = d) ∧
  ∀ (ys : List V) (p : Addr), ys.Perm xs → ys.Pairwise (fun x y => ∀ n m, TupI K H x n → TupI K H y m → lexL m n = false) → H p = none → Q (.ref p) (upd H p (.lst ys))
theorem cr_sortLx {d : Nat} (hd : 1 ≤ d) : CallR X (.builtin "sorted") (rSortLx X.K d) := by
  intro pins s σ H vs us Q I r h
  obtain ⟨a, xs, rfl, hs, hx, q⟩ := h
  obtain ⟨its, rv, hl, hz⟩ := I.list hs
  rw [Vals.ref1 r]
  obtain ⟨e1, e2⟩ := bkV_refs rv fun x m => by
    obtain ⟨ns, ⟨t, e, _⟩, _⟩ := hx x m
    exact ⟨t, e⟩
  have hT : TupsD s.heap d its := fun v hv => by
    obtain ⟨t, rfl⟩ := e2 v hv
    have hm : V.ref t ∈ xs := by
      rw [e1]
      exact List.mem_map.mpr ⟨_, hv, rfl⟩
    obtain ⟨ns, ⟨t', e, ht⟩, hn⟩ := hx _ hm
    cases e
    exact ⟨ns, tupI_raw I ht, hn⟩
  refine SrtO.sorted_ord (ltv := fun v u => lexL (TS.intsOf s.heap v) (TS.intsOf s.heap u)) ⟨fun x y h => lexL_asym _ _ h, fun x y z h1 h2 => lexL_tr _ _ _ h1 h2⟩ hl.isList (by rw [← rv.length]; exact hz) (fun h2 h₁ a' ha kk => ?_) fun out h1 h2 => ?_
  · have kt : ∀ b o, s.heap.get? b = some o → o.cls = .type "tuple" → h₁.get? b = some o := fun b o e _ => (kk b o e).2
    have hs := tupD_sortable (prog := X.prog) (w := X.w) (A := X.A.in1.in1) (s := { s with heap := h₁ }) (a := a') hd (by omega) (hT.keeps kt) (fun o e => by
      have e' : some o = some (seqObj "list" its.toArray 0) := e.symm.trans ha
      cases e'
      intro c
      exact absurd (Value.type.inj c) (by decide))
    intro h' keep
    obtain ⟨κ, c1, c2⟩ := hs h' keep
    refine ⟨κ, c1, fun p q hm hm' => ?_⟩
    have q1 := c2 p q hm hm'
    have e : ∀ v, v ∈ its → TS.intsOf h₁ v = TS.intsOf s.heap v := fun v hv => by
      obtain ⟨ns, t, _⟩ := hT v hv
      rw [t.ints, (t.keeps kt).ints]
    have z : SrtO.lt2 (fun v u => lexL (TS.intsOf h₁ v) (TS.intsOf h₁ u)) p q = SrtO.lt2 (fun v u => lexL (TS.intsOf s.heap v) (TS.intsOf s.heap u)) p q := by
      show lexL (TS.intsOf h₁ p.1) (TS.intsOf h₁ q.1) = lexL (TS.intsOf s.heap p.1) (TS.intsOf s.heap q.1)
      rw [e _ hm, e _ hm']
    rw [← z]
    exact q1
  · have hperm : out.Perm its := h2.perm
    obtain ⟨ep, he'⟩ := PyProof.Rows.sortedAll_at s.heap its out.toArray
    have h3 : ∀ u ∈ out, ∃ a, u = Value.ref a := fun u hu => e2 u (hperm.mem_iff.mp hu)
    have hp : (out.map bkV).Perm xs := by
      rw [e1]
      exact hperm.map bkV
    have hlen : (out.map bkV).length ≤ sizeLine := by
      rw [hp.length_eq]
      exact hz
    refine ⟨.ref _, upd H (s.heap.objs.size + 1) (.lst (out.map bkV)), I.laid (t' := s.toks) (fun _ _ => PyProof.Rows.sortedAll_old) (Nat.le_succ _) ⟨hlen, out, ep, bkV_vals h3, by simpa using he'⟩, rfl, q _ _ hp ?_ (I.hok.fresh (Nat.le_succ _))⟩
    rw [List.pairwise_map]
    refine List.Pairwise.imp (fun {u v} huv n m hn hm => ?_) h1
    obtain ⟨t, et, ht⟩ := hn
    obtain ⟨t', et', ht'⟩ := hm
    have eu := bkV_ref et
    have ev := bkV_ref et'
    have i1 : TS.intsOf s.heap u = n := by
      rw [eu]
      exact (tupI_raw I ht).ints
    have i2 : TS.intsOf s.heap v = m := by
      rw [ev]
      exact (tupI_raw I ht').ints
    rw [← i1, ← i2]
    exact huv
end
/-- tuples of d ints, told by them -/
class TInN (τ : Type) [Rp τ] [TInts τ] (d : outParam Nat) : Prop where
  len : ∀ x : τ, (TInts.nums x).length = d
  inj : ∀ x y : τ, TInts.nums x = TInts.nums y → x = y
instance : TInN (T2 Int Int) 2 := ⟨fun _ => rfl, fun x y h => by cases x; cases y; simpa [TInts.nums] using h⟩
instance : TInN (T3 Int Int Int) 3 := ⟨fun _ => rfl, fun x y h => by cases x; cases y; simpa [TInts.nums] using h⟩
instance : TInN (T4 Int Int Int Int) 4 := ⟨fun _ => rfl, fun x y h => by cases x; cases y; simpa [TInts.nums] using h⟩
instance : TInN (T5 Int Int Int Int Int) 5 := ⟨fun _ => rfl, fun x y h => by cases x; cases y; simpa [TInts.nums] using h⟩
def sortT {τ : Type} [Rp τ] [TInts τ] (xs : List τ) : List τ := xs.mergeSort fun a b => !lexL (TInts.nums b) (TInts.nums a)
theorem sortT_perm {τ : Type} [Rp τ] [TInts τ] (xs : List τ) : (sortT xs).Perm xs := List.mergeSort_perm _ _
theorem sortT_ord {τ : Type} [Rp τ] [TInts τ] (xs : List τ) : (sortT xs).Pairwise fun a b => lexL (TInts.nums b) (TInts.nums a) = false := by
  have h := List.pairwise_mergeSort (le := fun a b : τ => !lexL (TInts.nums b) (TInts.nums a)) (fun a b c h1 h2 => by
    have h1 : lexL (TInts.nums b) (TInts.nums a) = false := by simpa using h1
    have h2 : lexL (TInts.nums c) (TInts.nums b) = false := by simpa using h2
    rw [lexL_tr _ _ _ h1 h2]; rfl) (fun a b => by
    cases e : lexL (TInts.nums b) (TInts.nums a) with
    | false => rfl
    | true => rw [lexL_asym _ _ e]; rfl) xs
  exact h.imp fun h => by simpa using h
theorem sortT_eq {τ : Type} [Rp τ] [TInts τ] {d : Nat} [TInN τ d] {ys xs : List τ} (hp : ys.Perm xs) (ho : ys.Pairwise fun a b => lexL (TInts.nums b) (TInts.nums a) = false) : ys = sortT xs :=
  (hp.trans (sortT_perm xs).symm).eq_of_pairwise (fun x y _ _ h1 h2 => TInN.inj x y (lexL_eq _ _ h2 h1)) ho (sortT_ord xs)
theorem paired_perm {α β : Type} {R : α → β → Prop} {vs ys : List α} (h : ys.Perm vs) : ∀ {xs : List β}, Paired R vs xs → ∃ zs : List β, zs.Perm xs ∧ Paired R ys zs := by
  induction h with
  | nil => intro xs p; cases p; exact ⟨[], .nil, .nil⟩
  | cons x h ih =>
    intro xs p
    cases p with
    | cons r t => obtain ⟨zs, h1, h2⟩ := ih t; exact ⟨_ :: zs, h1.cons _, .cons r h2⟩
  | swap x y l =>
    intro xs p
    cases p with
    | cons r t => cases t with
      | cons r2 t2 => exact ⟨_ :: _ :: _, List.Perm.swap _ _ _, .cons r2 (.cons r t2)⟩
  | trans h1 h2 ih1 ih2 =>
    intro xs p
    obtain ⟨zs, a1, a2⟩ := ih2 p
    obtain ⟨us, b1, b2⟩ := ih1 a2
    exact ⟨us, b1.trans a1, b2⟩
theorem paired_pw {α β : Type} {R : α → β → Prop} {P : α → α → Prop} {Q : β → β → Prop} (h : ∀ x y x' y', R x x' → R y y' → P x y → Q x' y') : ∀ {xs : List α} {ys : List β}, Paired R xs ys → xs.Pairwise P → ys.Pairwise Q
  | _, _, .nil, _ => .nil
  | _, _, .cons r t, p => by
    rw [List.pairwise_cons] at p ⊢
    refine ⟨fun z hz => ?_, paired_pw h t p.2⟩
    obtain ⟨i, hi⟩ := List.mem_iff_getElem?.mp hz
    obtain ⟨w, hw, rw'⟩ := paired_get2 t i z hi
    exact h _ _ _ _ r rw' (p.1 w (List.mem_of_getElem? hw))
section
variable {X : Cx} {Γ : List Slot} {a : Expr} {pos : Pos}
/-- sorted(xs), xs a list of tuples of ints -/
theorem en_sortedT {p : Pos} {τ : Type} [Rp τ] [TInts τ] {d : Nat} [TInN τ d] {xs : List τ} (hd : 1 ≤ d) (hm : X.mg "sorted" = none) (ha : EV X Γ a xs) (hg : Gl X "sorted" := by rfl) (he : starEach [a] X.env = (false, eval a X.env) :: starEach [] X.env := by rfl) (hpl : (backTo pos (starEach [] X.env)).any (·.1) = false := by rfl) :
    EN X Γ (.Call (.Name "sorted" p) [a] [] pos) (ML.mk (sortT xs)) := ⟨fun B G H σ hB hgh l Q q =>
  we (pe_callB (cr_sortLx hd) hg hm (by decide +kernel) pa (by decide) (by decide) he hpl) (ea_cons ha ea_nil he B G H σ hB hgh l _ fun vs G1 H1 g1 r1 => by
    cases r1 with
    | cons r1 t =>
      cases t
      obtain ⟨p, ws, rfl, hs, hr⟩ := r1
      have hI : ∀ (v : V) (x : τ), Rp.rep X.K G1 v x → TupI X.K H1 v (TInts.nums x) := fun v x r => by
        obtain ⟨p, e, h⟩ := TInts.ok r
        exact ⟨p, e, seqT g1.gh h⟩
      refine ⟨p, ws, rfl, Same.seq g1.gh hs, fun w hw => ?_, fun ys p0 hp ho hn => ?_⟩
      · obtain ⟨i, hi⟩ := List.mem_iff_getElem?.mp hw
        obtain ⟨x, hx, rx⟩ := paired_get hr i w hi
        exact ⟨_, hI w x rx, TInN.len x⟩
      · obtain ⟨zs, z1, z2⟩ := paired_perm hp hr
        have z3 := paired_pw (Q := fun a b : τ => lexL (TInts.nums b) (TInts.nums a) = false) (fun x y x' y' r r' h => h _ _ (hI x x' r) (hI y y' r')) z2 ho
        have ez : zs = sortT xs := sortT_eq z1 z3
        rw [ez] at z2
        exact q (.ref p0) [p0] G1 _ (g1.trans (Grow.own g1.gh hn)) (one_new (g1.h.free hn) (g1.gh.free hn)) ⟨p0, ys, rfl, rfl, upd_same, z2⟩)⟩
end
end Wl

set_option maxRecDepth 100000
set_option maxHeartbeats 2000000
/-! a list that is handed in and changed -/
namespace Wl
open PySem PySem.Spec PyProof.Rows L2
/-- an own list that stands at p -/
structure MLp (α : Type) where
  p : Addr
  xs : List α
instance {α : Type} [Rp α] : Ow (MLp α) := ⟨fun K G H v fp x => ∃ vs, v = .ref x.p ∧ fp = [x.p] ∧ H x.p = some (.lst vs) ∧ Reps K G vs x.xs, fun e eh h => by obtain ⟨vs, h0, h1, h2, hr⟩ := h; exact ⟨vs, h0, h1, by rw [eh _ (by rw [h1]; simp)]; exact h2, hr.mono e⟩, fun h => by obtain ⟨vs, _, rfl, h2, _⟩ := h; exact nt_one h2 nt_lst⟩
instance {α : Type} [Rp α] : Fz (MLp α) (List α) := ⟨fun x => x.xs, fun {K G H v fp x} hf h => by
  obtain ⟨vs, rfl, rfl, h2, r⟩ := h
  exact ⟨x.p, vs, rfl, SqL.of (by rw [gl_in (by simp)]; exact h2), r.mono (gl_up hf)⟩⟩
theorem delH_ne {H : Hp} {a b : Addr} (h : b ≠ a) : delH H a b = H b := by unfold delH; rw [if_neg h]
theorem delH_mono {G G' : Hp} {p : Addr} (e : Same G G') (hp : ∃ o, G p = some o) : Same (delH G p) (delH G' p) := fun b u h => by
  by_cases hb : b = p
  · subst hb; rw [delH_same] at h; cases h
  · rw [delH_ne hb] at h ⊢; exact e b u h
theorem delH_mono' {G G' : Hp} {p : Addr} (e : Same G G') : Same (delH G p) (delH G' p) := fun b u h => by
  by_cases hb : b = p
  · subst hb; rw [delH_same] at h; cases h
  · rw [delH_ne hb] at h ⊢; exact e b u h
theorem delH_sub {G : Hp} {p : Addr} : Same (delH G p) G := fun b u h => by
  by_cases hb : b = p
  · subst hb; rw [delH_same] at h; cases h
  · rw [delH_ne hb] at h; exact h
theorem delH_upd {G : Hp} {p : Addr} {o : HO} (h : G p = none) : delH (upd G p o) p = G := by
  funext b
  by_cases hb : b = p
  · subst hb; rw [delH_same, h]
  · rw [delH_ne hb, upd_ne hb]
/-- an answer and what stands at p -/
def rpAt {α β : Type} [Rp α] [Rp β] (p : Addr) : Rp (β × List α) := ⟨fun K G v x => Rp.rep K (delH G p) v x.1 ∧ ∃ vs, G p = some (.lst vs) ∧ Reps K (delH G p) vs x.2, fun {K G G' v x} e h => by
  obtain ⟨h1, vs, h2, h3⟩ := h
  exact ⟨Rp.mono (delH_mono' e) h1, vs, e _ _ h2, h3.mono (delH_mono' e)⟩⟩
def dtAt {α β : Type} [Rp α] [Rp β] (p : Addr) (y : β) (xs : List α) : Dat := ⟨β × List α, rpAt p, (y, xs)⟩
section
variable {X : Cx} {Γ Γ' : List Slot} {st : Stmt} {sts els rest : List Stmt} {a b c d e tg iter elt : Expr} {es elts ifs : List Expr} {pos : Pos} {o : Out}
theorem ownP {K : PySem.W.Frag} {B G H : Hp} {σ : L2.St} {i : Nat} {α : Type} [Rp α] {x : MLp α} (l : Lo K B G H σ Γ) (h : Γ[i]? = some (.o x)) : ∃ F vs, LoF K B G H σ Γ F ∧ F i = [x.p] ∧ σ[i]? = some (some (.ref x.p)) ∧ B x.p = none ∧ G x.p = none ∧ H x.p = some (.lst vs) ∧ Reps K G vs x.xs := by
  obtain ⟨F, v, lf, e1, hf, vs, rfl, e2, e3, r⟩ := own_at l h
  have := hf x.p (by rw [e2]; simp)
  exact ⟨F, vs, lf, e2, e1, this.1, this.2.1, e3, r⟩
theorem LoF.mutP {K : PySem.W.Frag} {B G H : Hp} {σ : L2.St} {F : Nat → List Addr} {i : Nat} {p : Addr} {vs' : List V} {α : Type} [Rp α] {xs xs' : List α} (l : LoF K B G H σ Γ F) (h : Γ[i]? = some (.o (MLp.mk p xs))) (hF : F i = [p]) (e1 : σ[i]? = some (some (.ref p))) (hb : B p = none) (hg : G p = none) (r : Reps K G vs' xs') :
    Lo K B G (upd H p (.lst vs')) σ (Γ.set i (.o (MLp.mk p xs'))) :=
  l.mut (fp := [p]) (d' := ot (MLp.mk p xs')) h e1 (fun a ha o e => by rw [upd_ne (by rw [hF] at ha; simpa using ha)]; exact e) (fun a ha => by
    have : a = p := by simpa using ha
    subst this
    exact ⟨.inl (by rw [hF]; simp), hb, hg, _, upd_same⟩) ⟨vs', rfl, rfl, upd_same, r⟩
theorem sv_appP (i : Nat) {α : Type} [Rp α] {p : Addr} {xs : List α} {x : α} {c e : Expr} (hp : PE X c (tBM X.K "list" rAppend (tVar i) (tCons (WE X e) tNil))) (h0 : Γ[i]? = some (.o (MLp.mk p xs))) (h : EV X Γ e x) (hz : xs.length < 10000000) (hs : swapsWith c none pos.line X.env = pure false := by rfl) :
    SV X Γ (.Expr c pos) (.nx (Γ.set i (.o (MLp.mk p (xs ++ [x]))))) := ⟨fun B G H σ D hB hg l k => by
  obtain ⟨F, vs, lf, hF, e1, hbp, hgp, hh, r⟩ := ownP l h0
  refine ws (ps_expr hp hs) ⟨_, e1, .inl ⟨rfl, _, .inl (.inl hh)⟩, ?_⟩
  refine h B G H σ hB hg l _ fun v G1 H1 g1 r1 => ?_
  refine ⟨p, vs, v, rfl, rfl, g1.h _ _ hh, by rw [r.len]; exact Nat.lt_of_lt_of_le hz (by decide), ?_⟩
  have hgp1 := (g1.fr p _ hh).trans hgp
  exact k G1 _ ((g1.step hB).trans (Stp.mutL (hB.trans g1.h) g1.gh hbp hgp1)) σ ((lf.grow g1).mutP h0 hF e1 hbp hgp1 (paired_app (r.mono g1.g) (.cons r1 .nil)))⟩
theorem paired_dropLast {α β : Type} {R : α → β → Prop} : ∀ {xs : List α} {ys : List β}, Paired R xs ys → Paired R xs.dropLast ys.dropLast
  | _, _, .nil => .nil
  | [_], [_], .cons _ .nil => .nil
  | _ :: _ :: _, _ :: _ :: _, .cons r (.cons r2 t) => .cons r (paired_dropLast (.cons r2 t))
/-- target = xs.pop() -/
theorem sv_popP (i : Nat) {α : Type} [Rp α] {p : Addr} {xs : List α} {x : α} (hp : PE X e (tBM0 X.K "list" rPop (tVar i))) (h0 : Γ[i]? = some (.o (MLp.mk p xs))) (hx : xs.getLast? = some x) (ht : TV X (Γ.set i (.o (MLp.mk p xs.dropLast))) tg x Γ') (hs : swapsWithSole [tg] e pos.line X.env = pure false := by rfl) (hw : swappedStores [tg] e X.env = pure none := by rfl)
    (h1 : (assignEach [tg] X.env).map (·.2) = [assign tg X.env] := by rfl) : SV X Γ (.Assign [tg] e pos) (.nx Γ') := ⟨fun B G H σ D hB hg l k => by
  obtain ⟨F, vs, lf, hF, e1, hbp, hgp, hh, r⟩ := ownP l h0
  have hl : xs[xs.length - 1]? = some x := by rw [← List.getLast?_eq_getElem?]; exact hx
  obtain ⟨w, hw', rw'⟩ := paired_get2 r _ x hl
  refine ws (ps_asg hp pg hs hw h1) ⟨_, e1, .inl ⟨rfl, _, .inl (.inl hh)⟩, p, vs, w, rfl, rfl, hh, by rw [r.len]; exact hw', ?_⟩
  have st := Stp.mutL (ho := .lst vs.dropLast) hB hg hbp hgp
  have lo := lf.mutP h0 hF e1 hbp hgp (paired_dropLast r)
  exact ht B G _ σ w st.b st.gh lo rw' _ fun σ' l' => k G _ st σ' l'⟩
/-- return e, the list at p stands as it is -/
theorem bv_retP (i : Nat) {α β : Type} [Rp α] [Rp β] {p : Addr} {xs : List α} {y : β} (h0 : Γ[i]? = some (.o (MLp.mk p xs))) (h : EV X Γ e y) : BV X Γ (.Return (some e) pos :: sts) (.rt (dtAt p y xs)) := bv_out (⟨fun B G H σ D hB hg l k => by
  obtain ⟨F, vs, lf, hF, e1, hbp, hgp, hh, r⟩ := ownP l h0
  refine ws (ps_ret pe) (h B G H σ hB hg l _ fun v G1 H1 g1 r1 => ?_)
  have hgp1 : G1 p = none := (g1.fr p _ hh).trans hgp
  have hh1 := g1.h _ _ hh
  refine k (upd G1 p (.lst vs)) H1 ⟨hB.trans g1.h, fun b u e => ?_, fun b u e => ?_, fun b u e n => ?_⟩ v ?_
  · rw [upd_ne (ne_of_none e hgp)]; exact g1.g b u e
  · by_cases hb : b = p
    · subst hb; rw [upd_same] at e; rw [← e]; exact hh1
    · rw [upd_ne hb] at e; exact g1.gh b u e
  · rw [upd_ne (ne_of_none e hbp)]; exact g1.fr b u (hB b u e) n
  · show Rp.rep X.K (delH (upd G1 p (.lst vs)) p) v y ∧ ∃ vs', upd G1 p (.lst vs) p = some (.lst vs') ∧ Reps X.K (delH (upd G1 p (.lst vs)) p) vs' xs
    rw [delH_upd hgp1]
    exact ⟨r1, vs, upd_same, r.mono g1.g⟩⟩ : SV X Γ (.Return (some e) pos) (.rt (dtAt p y xs))) trivial
end
theorem Lo.toOwn {K : PySem.W.Frag} {B B' G H : Hp} {σ : L2.St} {Γ : List Slot} (l : Lo K B G H σ Γ) (no : ∀ (i : Nat) (s : Slot), Γ[i]? = some s → s.isOwn = false) {v : V} {d : Odat} {fp : List Addr} (h0 : σ[0]? = some (some v)) (hf : ∀ a ∈ fp, B' a = none ∧ G a = none ∧ ∃ ho, H a = some ho) (r : d.ok K G H v fp) : Lo K B' G H σ (Γ.set 0 (.own d)) := by
  obtain ⟨F, l⟩ := l
  refine ⟨fun j => if j = 0 then fp else [], by simp [l.len], fun j s e => ?_, fun j k s t hjk hj hk hs ht a ha hb => ?_⟩
  · rcases set_get e with ⟨rfl, rfl, hi⟩ | ⟨hij, e⟩
    · exact ⟨_, h0, v, rfl, by rw [if_pos rfl]; exact hf, by rw [if_pos rfl]; exact r⟩
    · obtain ⟨o, h1, h2⟩ := l.ok j s e
      refine ⟨o, h1, ?_⟩
      have hn := no j s e
      cases s with
      | any => trivial
      | val _ => exact h2
      | own _ => cases hn
  · by_cases h1 : j = 0
    · by_cases h2 : k = 0
      · exact hjk (h1.trans h2.symm)
      · rw [if_neg h2] at hb; cases hb
    · rw [if_neg h1] at ha; cases ha
/-- a datum of which nothing is asked -/
def dNo : Dat := ⟨Unit, ⟨fun _ _ _ _ => True, fun _ h => h⟩, ()⟩
/-- the promise of a def that changes the list it is handed first -/
def MSp {α β : Type} [Rp α] [Rp β] (K : PySem.W.Frag) (R : List α → List Dat → β → List α → Prop) : Sp := fun vs H Q _ => ∃ (G : Hp) (p : Addr) (vs0 ws : List V) (xs : List α) (ds : List Dat) (y : β) (xs' : List α),
  vs = .ref p :: ws ∧ Same G H ∧ H p = some (.lst vs0) ∧ G p = none ∧ Reps K G vs0 xs ∧ DatsOk K G ws ds ∧ R xs ds y xs' ∧
  ∀ (v : V) (G' H' : Hp), Same (delH H p) H' → Same G G' → Same G' H' → G' p = none → (∀ a o, a ≠ p → H a = some o → Nt o → G' a = G a) → (∃ vs', H' p = some (.lst vs') ∧ Reps K G' vs' xs') → Rp.rep K G' v y → Q v H'
section
variable {P : Program} {w : World} {K : PySem.W.Frag} {mg : Str → Option Value} {base : Heap}
theorem slots_noown {ds : List Dat} {n : Nat} : ∀ (i : Nat) (s : Slot), (slots ds n)[i]? = some s → s.isOwn = false := fun i s e => by
  have hm := List.mem_of_getElem? e
  unfold slots at hm
  rcases List.mem_append.mp hm with h | h
  · obtain ⟨d, _, e⟩ := List.mem_map.mp h; subst e; rfl
  · rw [(List.mem_replicate.mp h).2]; rfl
theorem fn_mut {α β : Type} [Rp α] [Rp β] {x qual : Str} {st : Stmt} {f : Addr} {fd : FuncData} {N ps : List Str} {k : Nat} {R : List α → List Dat → β → List α → Prop} (F : Fun K x qual st f fd) (S : FnScope N ps (defScope st)) (len : ∀ xs ds y xs', R xs ds y xs' → ds.length + 1 = ps.length)
    (body : ∀ (cdv : Value) (A : Around) (outer : List Env) (s : Shared) (H : Hp) (E : XK) (p : Addr) (xs : List α) (ds : List Dat) (y : β) (xs' : List α), Room k (A.deeper (envOfC qual (defScope st) s.heap.objs.size f cdv)) → R xs ds y xs' →
      BV (cxOf CX0 P w K mg base N qual (defScope st) f cdv A outer s H E).nox ((slots (dNo :: ds) N.length).set 0 (.o (MLp.mk p xs))) (defBody st) (.rt (dtAt p y xs'))) : FnOk P w K mg base CX0 (k + 1) f fd ps (MSp K R) :=
  F.ok S (fun vs H Q E h => by
    obtain ⟨G, p, vs0, ws, xs, ds, y, xs', rfl, _, _, _, _, r, hR, _⟩ := h
    rw [List.length_cons, r.len]
    exact len _ _ _ _ hR) (fun cdv A outer s H vs Q E hr h => by
    obtain ⟨G, p, vs0, ws, xs, ds, y, xs', rfl, hg, hp, hgp, hx, r, hR, q⟩ := h
    have lo : Lo K H G H (L2.start N (.ref p :: ws)) (slots (dNo :: ds) N.length) := lo_start (.cons trivial r)
    have lo2 : Lo K (delH H p) G H (L2.start N (.ref p :: ws)) ((slots (dNo :: ds) N.length).set 0 (.o (MLp.mk p xs))) := lo.toOwn slots_noown (v := .ref p) (fp := [p]) rfl (fun a ha => by
      have : a = p := by simpa using ha
      subst this
      exact ⟨delH_same, hgp, _, hp⟩) ⟨vs0, rfl, rfl, hp, hx⟩
    refine ⟨_, pss, body cdv A outer s H E p xs ds y xs' hr hR (delH H p) G H (L2.start N (.ref p :: ws)) _ delH_sub hg lo2 fun G' H' st v rv => ?_⟩
    obtain ⟨r1, vs', h2, r3⟩ := (show Rp.rep K (delH G' p) v y ∧ ∃ vs', G' p = some (.lst vs') ∧ Reps K (delH G' p) vs' xs' from rv)
    refine q v (delH G' p) H' st.b (fun b u e => ?_) (delH_sub.trans st.gh) delH_same (fun a o ha e n => ?_) ⟨vs', st.gh _ _ h2, r3⟩ r1
    · rw [delH_ne (ne_of_none e hgp)]; exact st.g b u e
    · rw [delH_ne ha]; exact st.fr a o (by rw [delH_ne ha]; exact e) n)
end
/-! ### the caller -/
structure FnAtM {α β : Type} [Rp α] [Rp β] (P : Program) (w : World) (K : PySem.W.Frag) (mg : Str → Option Value) (base : Heap) (x : Str) (k : Nat) (ps : List Str) (R : List α → List Dat → β → List α → Prop) : Prop where
  ex : ∃ f fd, FnOk P w K mg base CX0 k f fd ps (MSp K R) ∧ mg x = some (.ref f) ∧ PySem.W.keepIn K (.ref f) = true ∧ Binds K fd ps []
/-- an expression with an effect on one's own things -/
structure EVM (X : Cx) (Γ : List Slot) (e : Expr) {β : Type} [Rp β] (y : β) (Γ' : List Slot) : Prop where
  run : ∀ (B G H : Hp) (σ : L2.St), Same B H → Same G H → Lo X.K B G H σ Γ → ∀ Q : VK, (∀ v G' H', Stp B G G' H' → Lo X.K B G' H' σ Γ' → Rp.rep X.K G' v y → Q v H') → WE X e σ H Q
structure IVM (X : Cx) (Γ : List Slot) (tg iter : Expr) {α : Type} [Rp α] (xs : List α) (Γ' : List Slot) : Prop where
  run : ∀ (B G H : Hp) (σ : L2.St), Same B H → Same G H → Lo X.K B G H σ Γ → ∀ R : It → Hp → Prop, (∀ J G1 H1, Stp B G G1 H1 → Lo X.K B G1 H1 σ Γ' → Iters X.K J G1 xs → R J H1) → WI X tg iter σ H R
section
variable {X : Cx} {Γ Γ' : List Slot} {st : Stmt} {sts els rest : List Stmt} {a b c d e tg iter elt : Expr} {es elts ifs : List Expr} {pos : Pos} {o : Out}
theorem iv_listM {α : Type} [Rp α] {xs : List α} (h : EVM X Γ iter xs Γ') : IVM X Γ tg iter xs Γ' := ⟨fun B G H σ hB hg l R q =>
  wi (pi_list pe) (h.run B G H σ hB hg l _ fun v G1 H1 st1 l1 r1 => by
    obtain ⟨p, vs, e, hs, r⟩ := r1
    exact ⟨p, e, ⟨vs, Same.seq st1.gh hs⟩, q _ G1 H1 st1 l1 (iters_list hs r)⟩)⟩
/-- a call of a def that changes its first argument, one's own list -/
theorem ev_fnM (i : Nat) {k j : Nat} {ps : List Str} {α β : Type} [Rp α] [Rp β] {R : List α → List Dat → β → List α → Prop} {x : Str} {p : Pos} {xs xs' : List α} {y : β} {ds : List Dat} {n1 : Expr} (F : FnAtM X.prog X.w X.K X.mg X.base x k ps R) (hr : Room j X.A) (hj : k ≤ j)
    (hv : PE X n1 (tVar i)) (h0 : Γ[i]? = some (.l xs)) (ha : EA X Γ es ds) (hR : R xs ds y xs') (hg : Gl X x := by rfl) (hdb : (x == ("__debug__" : Str)) = false := by decide)
    (he : starEach (n1 :: es) X.env = (false, eval n1 X.env) :: starEach es X.env := by rfl) (hpl : (backTo pos (starEach es X.env)).any (·.1) = false := by rfl) : EVM X Γ (.Call (.Name x p) (n1 :: es) [] pos) y (Γ.set i (.l xs')) := ⟨fun B G H σ hB hgh l Q q => by
  obtain ⟨f, fd, F1, hm, hk, hb⟩ := F.ex
  obtain ⟨Fp, pp, vs, lf, hF, e1, hbp, hgp, hh, r⟩ := ownL l h0
  refine we (pe_call F1 (hr.mono hj) hg hm hk hb .nil pass0 (pa_cons hv pa he) hdb he hpl) ⟨_, e1, ha B G H σ hB hgh l _ fun ws G1 H1 g1 r1 => ?_⟩
  have hh1 := g1.h _ _ hh
  have hgp1 : G1 pp = none := (g1.fr pp _ hh).trans hgp
  show MSp X.K R ((V.ref pp :: ws) ++ []) H1 Q _
  rw [List.append_nil]
  refine ⟨G1, pp, vs, ws, xs, ds, y, xs', rfl, g1.gh, hh1, hgp1, r.mono g1.g, r1, hR, fun v G2 H2 s1 s2 s3 s4 s5 s6 s7 => ?_⟩
  obtain ⟨vs', t1, t2⟩ := s6
  have lf1 := lf.grow g1
  have hB1 := hB.trans g1.h
  have hBp : ∀ b u, B b = some u → b ≠ pp := fun b u e z => by rw [z, hbp] at e; cases e
  have stp : Stp B G1 G2 H2 := ⟨fun b u e => s1 b u (by rw [delH_ne (hBp b u e)]; exact hB1 b u e), s2, s3, fun b u e n => s5 b u (hBp b u e) (hB1 b u e) n⟩
  refine q v G2 H2 ((g1.step hB).trans stp) ?_ s7
  refine ⟨fun j => if j = i then [pp] else Fp j, by simp [lf1.len], fun j s e => ?_, fun j k s t hjk hj hk hs ht a ha hb => ?_⟩
  · rcases set_get e with ⟨rfl, rfl, hi'⟩ | ⟨hij, e⟩
    · exact ⟨_, e1, .ref pp, rfl, fun a ha => by
        rw [if_pos rfl] at ha
        have : a = pp := by simpa using ha
        subst this
        exact ⟨hbp, s4, _, t1⟩, by rw [if_pos rfl]; exact ⟨pp, vs', rfl, rfl, t1, t2⟩⟩
    · obtain ⟨o, h3, h4⟩ := lf1.ok j s e
      refine ⟨o, h3, ?_⟩
      rw [if_neg (Ne.symm hij)]
      cases s with
      | any => trivial
      | val d => obtain ⟨v, e, r⟩ := h4; exact ⟨v, e, Dat.mono s2 r⟩
      | own d2 =>
        obtain ⟨v2, e2, hf2, r2⟩ := h4
        have ne : ∀ a ∈ Fp j, a ≠ pp := fun a ha z => lf1.sep j i _ _ (Ne.symm hij) e h0 rfl rfl a ha (by rw [hF, z]; simp)
        refine ⟨v2, e2, fun a ha => ?_, Odat.mono s2 (fun a ha => ?_) r2⟩
        · obtain ⟨q1, q2, ho, q3⟩ := hf2 a ha
          exact ⟨q1, (s5 a ho (ne a ha) q3 (Odat.nt r2 a ha ho q3)).trans q2, ho, s1 a ho (by rw [delH_ne (ne a ha)]; exact q3)⟩
        · obtain ⟨q1, q2, ho, q3⟩ := hf2 a ha
          rw [s1 a ho (by rw [delH_ne (ne a ha)]; exact q3), q3]
  · rcases set_get hj with ⟨rfl, rfl, _⟩ | ⟨hij, hj⟩
    · rcases set_get hk with ⟨rfl, _, _⟩ | ⟨hik, hk⟩
      · exact hjk rfl
      · simp only [if_pos] at ha
        simp only [if_neg (Ne.symm hik)] at hb
        exact lf1.sep _ _ _ t hjk h0 hk rfl ht a (by rw [hF]; exact ha) hb
    · simp only [if_neg (Ne.symm hij)] at ha
      rcases set_get hk with ⟨rfl, rfl, _⟩ | ⟨hik, hk⟩
      · simp only [if_pos] at hb
        exact lf1.sep _ _ s _ hjk hj h0 hs rfl a ha (by rw [hF]; exact hb)
      · simp only [if_neg (Ne.symm hik)] at hb
        exact lf1.sep j k s t hjk hj hk hs ht a ha hb⟩
theorem sv_forLM {α τ ρ : Type} [Rp α] [Rp ρ] {xs : List α} {body : List Stmt} (Env : τ → List Slot) (s0 : τ) (f : τ → α → LR τ ρ) (h : IVM X Γ tg iter xs Γ') (h0 : Sb Γ' (Env s0)) (Γ1 : τ → α → List Slot) (ht : ∀ s x, TV X (Env s) tg x (Γ1 s x))
    (hb : ∀ pre x post s, xs = pre ++ x :: post → runL f s0 pre = .go s → BV X (Γ1 s x) body (LR.out Env (f s x))) (hp : PassesOwn (model X.prog X.w) X.A X.env X.xe) (hc : X.calm = true := by rfl) (hs : ∀ x, foldedSetIterable iter X.env x = pure x := by intro _; rfl) (ho : LR.out Env (runL f s0 xs) = o := by exact rfl) :
    SV X Γ (.For tg iter body [] pos) o := ⟨fun B G H σ D hB hg l k => by
  subst ho
  refine ws (ps_for hp hc pi pg pss hs) (h.run B G H σ hB hg l _ fun J G1 H1 st1 l1 hJ => ?_)
  refine ⟨fun i m σ' H' => m = xs.length - i ∧ i ≤ xs.length ∧ ∃ s G', runL f s0 (xs.take i) = .go s ∧ Stp B G1 G' H' ∧ Lo X.K B G' H' σ' (Env s), ⟨xs.length, by simp, Nat.zero_le _, s0, G1, rfl, Stp.refl st1.b st1.gh, l1.sub h0⟩, ?_⟩
  rintro i m σ' H' ⟨rfl, hi, s, G', e, st, lo⟩
  by_cases hlt : i < xs.length
  · obtain ⟨hgo, hy⟩ := hJ.1 i G' H' st.g st.gh hlt
    refine .inr ⟨hgo, fun σ2 H2 => ∃ s2 G2, runL f s0 (xs.take (i + 1)) = .go s2 ∧ Stp B G1 G2 H2 ∧ Lo X.K B G2 H2 σ2 (Env s2), fun σ2 H2 ⟨s2, G2, e2, st2, lo2⟩ => ⟨xs.length - (i + 1), by omega, rfl, hlt, s2, G2, e2, st2, lo2⟩, fun v H3 hv => ?_⟩
    obtain ⟨G3, x, g3, hx, rx⟩ := hy v H3 hv
    have st3 := st.trans (g3.step st.b)
    have ex : xs = xs.take i ++ x :: xs.drop (i + 1) := by
      have h1 : xs[i] = x := by rw [List.getElem?_eq_getElem hlt] at hx; exact Option.some.inj hx
      rw [← h1, List.getElem_cons_drop, List.take_append_drop]
    refine ht s x B G3 H3 σ' v st3.b st3.gh (lo.grow g3) rx _ fun σ4 l4 => ?_
    refine hb _ x _ s ex e B G3 H3 σ4 _ st3.b st3.gh l4 fun G5 H5 st5 => ?_
    have et : xs.take (i + 1) = xs.take i ++ [x] := by
      rw [List.take_add_one, hx]; rfl
    have e2 : runL f s0 (xs.take (i + 1)) = f s x := by
      rw [et, runL_app, e]
      show (match f s x with | .go s' => runL f s' [] | .re y => .re y) = f s x
      cases f s x <;> rfl
    cases hf : f s x with
    | go s2 =>
      intro σ6 l6
      rw [hf] at e2
      exact ⟨s2, G5, e2, st3.trans st5, l6⟩
    | re r =>
      intro v6 r6
      rw [hf] at e2
      have e3 : runL f s0 xs = .re r := by
        conv => lhs; rw [← List.take_append_drop (i + 1) xs]
        rw [runL_app, e2]
      have q := k G5 H5 ((st1.trans st3).trans st5)
      rw [e3] at q
      exact q v6 r6
  · have ei : i = xs.length := by omega
    subst ei
    rw [List.take_length] at e
    refine .inl ⟨hJ.2 G' H' st.g st.gh, ?_⟩
    have q := k G' H' (st1.trans st)
    rw [e] at q
    exact q σ' lo⟩
theorem sv_forM {α τ : Type} [Rp α] {xs : List α} {body : List Stmt} (Env : τ → List Slot) (s0 : τ) (f : τ → α → τ) (h : IVM X Γ tg iter xs Γ') (h0 : Sb Γ' (Env s0)) (Γ1 : τ → α → List Slot) (ht : ∀ s x, TV X (Env s) tg x (Γ1 s x))
    (hb : ∀ pre x post s, xs = pre ++ x :: post → pre.foldl f s0 = s → BV X (Γ1 s x) body (.nx (Env (f s x)))) (hp : PassesOwn (model X.prog X.w) X.A X.env X.xe) (hc : X.calm = true := by rfl) (hs : ∀ x, foldedSetIterable iter X.env x = pure x := by intro _; rfl) (ho : .nx (Env (xs.foldl f s0)) = o := by exact rfl) :
    SV X Γ (.For tg iter body [] pos) o := by
  subst ho
  have q := sv_forLM (ρ := Int) (pos := pos) Env s0 (fun s x => .go (f s x)) h h0 Γ1 ht (fun pre x post s e1 e2 => hb pre x post s e1 (by rw [runL_go] at e2; exact LR.go.inj e2)) hp hc hs
  rw [runL_go] at q
  exact q
end
end Wl

set_option maxRecDepth 100000
set_option maxHeartbeats 2000000
/-! while without returns; an option that is something -/
namespace Wl
open PySem PySem.Spec PyProof.Rows L2
/-- f while c, n times at most -/
def runN {τ : Type} (c : τ → Bool) (f : τ → τ) : Nat → τ → τ
  | 0, s => s
  | n + 1, s => bif c s then runN c f n (f s) else s
theorem runN_W {τ ρ : Type} (c : τ → Bool) (f : τ → τ) : ∀ (n : Nat) (s : τ), runW (ρ := ρ) c (fun s => .go (f s)) n s = .go (runN c f n s)
  | 0, s => rfl
  | n + 1, s => by
    unfold runW runN
    cases c s with
    | true => exact runN_W c f n (f s)
    | false => rfl
/-- enough turns -/
theorem runN_end {τ : Type} {c : τ → Bool} {f : τ → τ} (μ : τ → Nat) (h : ∀ s, c s = true → μ (f s) < μ s) : ∀ (n : Nat) (s : τ), μ s ≤ n → c (runN c f n s) = false
  | 0, s, hn => by
    show c s = false
    cases e : c s with
    | false => rfl
    | true => have := h s e; omega
  | n + 1, s, hn => by
    unfold runN
    cases e : c s with
    | false => exact e
    | true => have := h s e; exact runN_end μ h n (f s) (by omega)
/-- a word kept at each turn -/
theorem runN_inv {τ : Type} {c : τ → Bool} {f : τ → τ} (I : τ → Prop) (h : ∀ s, I s → c s = true → I (f s)) : ∀ (n : Nat) (s : τ), I s → I (runN c f n s)
  | 0, s, hs => hs
  | n + 1, s, hs => by
    unfold runN
    cases e : c s with
    | false => exact hs
    | true => exact runN_inv I h n (f s) (h s hs e)
section
variable {X : Cx} {Γ Γ' : List Slot} {st : Stmt} {sts els rest : List Stmt} {a b c d e tg iter elt : Expr} {es elts ifs : List Expr} {pos : Pos} {o : Out}
theorem sv_whileN {τ : Type} {body : List Stmt} (Env : τ → List Slot) (s0 : τ) (cf : τ → Bool) (f : τ → τ) (n : Nat) (I : τ → Prop) (h0 : Sb Γ (Env s0)) (i0 : I s0) (is : ∀ s, I s → cf s = true → I (f s)) (ht : ∀ s, I s → ET X (Env s) c (cf s))
    (hb : ∀ s, I s → cf s = true → BV X (Env s) body (.nx (Env (f s)))) (hend : cf (runN cf f n s0) = false) (hp : PassesOwn (model X.prog X.w) X.A X.env X.xe) (ho : .nx (Env (runN cf f n s0)) = o := by exact rfl) :
    SV X Γ (.While c body [] pos) o := by
  subst ho
  have q := sv_while (ρ := Int) (pos := pos) Env s0 cf (fun s => .go (f s)) n I h0 i0 (fun s s' hi hc e => by cases e; exact is s hi hc) ht hb (fun s e => by
    rw [runN_W] at e
    cases e
    exact hend) hp
  rw [runN_W] at q
  exact q
theorem sv_forIM {α τ : Type} [Rp α] {xs : List α} {body : List Stmt} (Env : τ → List Slot) (s0 : τ) (f : τ → α → τ) (I : List α → τ → Prop) (h : IVM X Γ tg iter xs Γ') (h0 : Sb Γ' (Env s0)) (Γ1 : τ → α → List Slot) (ht : ∀ s x, TV X (Env s) tg x (Γ1 s x))
    (i0 : I [] s0) (is : ∀ pre x s, x ∈ xs → I pre s → I (pre ++ [x]) (f s x))
    (hb : ∀ pre x post s, xs = pre ++ x :: post → pre.foldl f s0 = s → I pre s → BV X (Γ1 s x) body (.nx (Env (f s x)))) (hp : PassesOwn (model X.prog X.w) X.A X.env X.xe) (hc : X.calm = true := by rfl) (hs : ∀ x, foldedSetIterable iter X.env x = pure x := by intro _; rfl) (ho : .nx (Env (xs.foldl f s0)) = o := by exact rfl) :
    SV X Γ (.For tg iter body [] pos) o := by
  subst ho
  have inv : ∀ (l pre : List α) (s : τ), (∀ x ∈ l, x ∈ xs) → I pre s → I (pre ++ l) (l.foldl f s) := by
    intro l
    induction l with
    | nil => intro pre s _ h; rw [List.append_nil]; exact h
    | cons x l ih =>
      intro pre s hm h
      have h2 := ih (pre ++ [x]) (f s x) (fun y hy => hm y (List.mem_cons_of_mem _ hy)) (is pre x s (hm x List.mem_cons_self) h)
      rw [List.append_assoc] at h2
      exact h2
  exact sv_forM Env s0 f h h0 Γ1 ht (fun pre x post s e1 e2 => hb pre x post s e1 e2 (by rw [← e2]; exact inv pre [] s0 (fun y hy => by rw [e1]; simp [hy]) i0)) hp hc hs
theorem ev_lenT {p : Pos} {τ : Type} [Rp τ] [TPs τ] {x : τ} {n : Nat} (hm : X.mg "len" = none) (ha : EV X Γ a x) (hn : (TPs.parts x).length = n := by rfl) (hg : Gl X "len" := by rfl) (he : starEach [a] X.env = (false, eval a X.env) :: starEach [] X.env := by rfl) (hpl : (backTo pos (starEach [] X.env)).any (·.1) = false := by rfl) : EV X Γ (.Call (.Name "len" p) [a] [] pos) (n : Int) :=
  ev_call1 call_len_seq hm PySem.boot_len ha (fun G H v hgh r Q q => by
    obtain ⟨p, vs, rfl, hs, hr⟩ := TPs.ok r
    exact ⟨p, vs, rfl, .inr (seqT hgh hs), q _ G H (Grow.refl hgh) (by rw [hr.len, hn]; rfl)⟩) hg (by decide) (by decide) he hpl
end
theorem foldl_mu {α τ : Type} (μ : τ → Nat) (k : Nat) {f : τ → α → τ} (hf : ∀ s x, μ (f s x) ≤ μ s + k) : ∀ (xs : List α) (s : τ), μ (xs.foldl f s) ≤ μ s + k * xs.length
  | [], s => by simp
  | x :: r, s => by
    have h := foldl_mu μ k hf r (f s x)
    have h2 := hf s x
    rw [List.foldl_cons, List.length_cons, Nat.mul_add, Nat.mul_one]
    omega
theorem opt_some {α : Type} {x : Option α} (d : α) (h : x.isSome = true) : x = some (x.getD d) := by
  cases x with
  | none => cases h
  | some y => rfl
end Wl

set_option maxRecDepth 100000
set_option maxHeartbeats 2000000
/-! least and greatest of a tuple of ints; own tables: rows put in, handed back, walked and changed -/
namespace Wl
open PySem PySem.Spec PyProof.Rows L2
section
variable {prog : Program} {w : World} {A : Around} {E : Value → Shared → Prop} {s : Shared} {l : Addr} {its : List Value} {ns : List Int}
theorem least_tup {Q : Value → Shared → Prop} (hh : A.handled = none) (hl : s.heap.IsTuple l its.toArray) (hi : IntsAre its ns) (hne : 0 < ns.length)
    (h : ∀ h' tk m t', (∀ b o, s.heap.get? b = some o → h'.get? b = some o) → m ∈ ns → (∀ y ∈ ns, m ≤ y) → Q (.int m t') { s with heap := h', toks := tk }) : wpAny (model prog w) A (call (.builtin "min") [.ref l]) Q E s := by
  obtain ⟨xs, e⟩ := hi.allInts.items
  have hn : numsOf (intItems xs).toList = ns := by rw [← e]; exact hi.numsOf
  rw [nums_intItems] at hn
  subst hn
  rw [e] at hl
  have hsz : 0 < xs.size := by simpa using hne
  have hlt : l < s.heap.objs.size := by obtain ⟨_, z, _⟩ := hl; exact Heap.lt_size z
  refine call_min_walk (wpAny_pyIter_tuple hl ?_)
  refine ⟨_, _, _, _, _, _, _, rfl, Walks.tuple (A := A.in1) hh _ l (Nat.ne_of_lt hlt) (intItems xs), ⟨⟨_, Heap.get?_push_size _ rfl, rfl, rfl⟩, hl.at fun o z => Heap.get?_push_of_some _ z⟩, fun b hb => ?_, by simpa [intItems] using hsz, CmpOf.ints_lt (numAt xs) (fun _ _ => intItems_at), fun v h' tk hP hk => ?_⟩
  · have hb : b = s.heap.objs.size ∨ b = l := by simpa using hb
    show b < (s.heap.push _).objs.size
    rw [Heap.size_push]
    rcases hb with e | e
    · rw [e]; exact Nat.lt_succ_self _
    · rw [e]; exact Nat.lt_succ_of_lt hlt
  · have hv : (intItems xs)[argBest (fun i j => decide (numAt xs i < numAt xs j)) (xs.size - 1)]? = some v := by simpa [intItems] using hP
    obtain ⟨t, rfl⟩ := intItems_at hv
    obtain ⟨h1, h2⟩ := argBest_lt (numAt xs) (xs.size - 1)
    refine h h' tk _ t (fun b o z => hk b o (fun hm => ?_) (Heap.get?_push_of_some _ z)) ?_ fun y hy => ?_
    · have hm : b = s.heap.objs.size := by simpa using hm
      exact absurd (Heap.lt_size z) (by rw [hm]; exact Nat.lt_irrefl _)
    · rw [numAt_eq]; exact PySem.getD_mem (by rw [List.length_map, Array.length_toList]; omega)
    · obtain ⟨j, hj, rfl⟩ := mem_getD hy
      rw [List.length_map, Array.length_toList] at hj
      rw [← numAt_eq]; exact h2 j (by omega)
theorem greatest_tup {Q : Value → Shared → Prop} (hh : A.handled = none) (hl : s.heap.IsTuple l its.toArray) (hi : IntsAre its ns) (hne : 0 < ns.length)
    (h : ∀ h' tk m t', (∀ b o, s.heap.get? b = some o → h'.get? b = some o) → m ∈ ns → (∀ y ∈ ns, y ≤ m) → Q (.int m t') { s with heap := h', toks := tk }) : wpAny (model prog w) A (call (.builtin "max") [.ref l]) Q E s := by
  obtain ⟨xs, e⟩ := hi.allInts.items
  have hn : numsOf (intItems xs).toList = ns := by rw [← e]; exact hi.numsOf
  rw [nums_intItems] at hn
  subst hn
  rw [e] at hl
  have hsz : 0 < xs.size := by simpa using hne
  have hlt : l < s.heap.objs.size := by obtain ⟨_, z, _⟩ := hl; exact Heap.lt_size z
  refine call_max_walk (wpAny_pyIter_tuple hl ?_)
  refine ⟨_, _, _, _, _, _, _, rfl, Walks.tuple (A := A.in1) hh _ l (Nat.ne_of_lt hlt) (intItems xs), ⟨⟨_, Heap.get?_push_size _ rfl, rfl, rfl⟩, hl.at fun o z => Heap.get?_push_of_some _ z⟩, fun b hb => ?_, by simpa [intItems] using hsz, CmpOf.ints_gt (numAt xs) (fun _ _ => intItems_at), fun v h' tk hP hk => ?_⟩
  · have hb : b = s.heap.objs.size ∨ b = l := by simpa using hb
    show b < (s.heap.push _).objs.size
    rw [Heap.size_push]
    rcases hb with e | e
    · rw [e]; exact Nat.lt_succ_self _
    · rw [e]; exact Nat.lt_succ_of_lt hlt
  · have hv : (intItems xs)[argBest (fun i j => decide (numAt xs i > numAt xs j)) (xs.size - 1)]? = some v := by simpa [intItems] using hP
    obtain ⟨t, rfl⟩ := intItems_at hv
    obtain ⟨h1, h2⟩ := argBest_gt (numAt xs) (xs.size - 1)
    refine h h' tk _ t (fun b o z => hk b o (fun hm => ?_) (Heap.get?_push_of_some _ z)) ?_ fun y hy => ?_
    · have hm : b = s.heap.objs.size := by simpa using hm
      exact absurd (Heap.lt_size z) (by rw [hm]; exact Nat.lt_irrefl _)
    · rw [numAt_eq]; exact PySem.getD_mem (by rw [List.length_map, Array.length_toList]; omega)
    · obtain ⟨j, hj, rfl⟩ := mem_getD hy
      rw [List.length_map, Array.length_toList] at hj
      rw [← numAt_eq]; exact h2 j (by omega)
end
section
variable {X : Cx} {Γ Γ' : List Slot} {st : Stmt} {sts els rest : List Stmt} {a b c d e tg iter elt : Expr} {es elts ifs : List Expr} {pos : Pos} {o : Out}
def rLeastT (K : PySem.W.Frag) (gt : Bool) : List V → Hp → VK → Prop := fun vs H Q => ∃ (a : Addr) (ns : List Int), vs = [V.ref a] ∧ SqT K H a (ns.map V.int) ∧ 0 < ns.length ∧ ∀ m, m ∈ ns → (∀ y ∈ ns, if gt = true then y ≤ m else m ≤ y) → Q (.int m) H
theorem cr_leastT (hc : X.calm = true) : CallR X (.builtin "min") (rLeastT X.K false) := by
  intro pins s σ H vs us Q I r h
  obtain ⟨a, ns, rfl, hs, hne, q⟩ := h
  obtain ⟨its, rv, hl, _⟩ := I.tuple hs
  rw [Vals.ref1 r]
  exact least_tup (I.ok.hd hc) hl rv.ints hne fun h' tk m t' hk h1 h2 => ⟨.int _, H, I.kept hk, ⟨_, rfl⟩, q m h1 h2⟩
theorem cr_greatestT (hc : X.calm = true) : CallR X (.builtin "max") (rLeastT X.K true) := by
  intro pins s σ H vs us Q I r h
  obtain ⟨a, ns, rfl, hs, hne, q⟩ := h
  obtain ⟨its, rv, hl, _⟩ := I.tuple hs
  rw [Vals.ref1 r]
  exact greatest_tup (I.ok.hd hc) hl rv.ints hne fun h' tk m t' hk h1 h2 => ⟨.int _, H, I.kept hk, ⟨_, rfl⟩, q m h1 h2⟩
/-- min(t), max(t) of a tuple of two -/
theorem ev_minK2 {p : Pos} {x y : Int} (hc : X.calm = true) (hm : X.mg "min" = none) (ha : EV X Γ a (TK.mk [x, y])) (hg : Gl X "min" := by rfl) (he : starEach [a] X.env = (false, eval a X.env) :: starEach [] X.env := by rfl) (hpl : (backTo pos (starEach [] X.env)).any (·.1) = false := by rfl) : EV X Γ (.Call (.Name "min" p) [a] [] pos) (min x y) :=
  ev_call1 (cr_leastT hc) hm (by decide +kernel) ha (fun G H v hgh r Q q => by
    obtain ⟨p, rfl, hs⟩ := r
    refine ⟨p, [x, y], rfl, .inl (.inl (hgh _ _ hs)), Nat.zero_lt_succ _, fun m hm hy => ?_⟩
    have h1 := hy x (by simp)
    have h2 := hy y (by simp)
    have hm : m = x ∨ m = y := by simpa using hm
    rw [if_neg (by decide)] at h1 h2
    have e : m = min x y := by omega
    rw [e]
    exact q _ G H (Grow.refl hgh) rfl) hg (by decide) (by decide) he hpl
theorem ev_maxK2 {p : Pos} {x y : Int} (hc : X.calm = true) (hm : X.mg "max" = none) (ha : EV X Γ a (TK.mk [x, y])) (hg : Gl X "max" := by rfl) (he : starEach [a] X.env = (false, eval a X.env) :: starEach [] X.env := by rfl) (hpl : (backTo pos (starEach [] X.env)).any (·.1) = false := by rfl) : EV X Γ (.Call (.Name "max" p) [a] [] pos) (max x y) :=
  ev_call1 (cr_greatestT hc) hm (by decide +kernel) ha (fun G H v hgh r Q q => by
    obtain ⟨p, rfl, hs⟩ := r
    refine ⟨p, [x, y], rfl, .inl (.inl (hgh _ _ hs)), Nat.zero_lt_succ _, fun m hm hy => ?_⟩
    have h1 := hy x (by simp)
    have h2 := hy y (by simp)
    have hm : m = x ∨ m = y := by simpa using hm
    rw [if_pos rfl] at h1 h2
    have e : m = max x y := by omega
    rw [e]
    exact q _ G H (Grow.refl hgh) rfl) hg (by decide) (by decide) he hpl
/-! ### rows of three -/
def toQ3 {α : Type} (d : α) (xs : List α) : Q3 α α α := ⟨xs.getD 0 d, xs.getD 1 d, xs.getD 2 d⟩
theorem rep_toQ3 {α : Type} [Rp α] {K : PySem.W.Frag} {G : Hp} {v : V} {xs : List α} (d : α) (hl : xs.length = 3) (r : Rp.rep K G v xs) : Rp.rep K G v (toQ3 d xs) := by
  obtain ⟨p, vs, rfl, hs, hr⟩ := r
  cases hr with
  | nil => cases hl
  | cons r1 t => cases t with
    | nil => cases hl
    | cons r2 t => cases t with
      | nil => cases hl
      | cons r3 t => cases t with
        | nil => exact ⟨p, _, _, _, rfl, hs, r1, r2, r3⟩
        | cons r4 t => simp at hl
theorem ev_toQ3 {α : Type} [Rp α] {xs : List α} (d : α) (h : EV X Γ e xs) (hl : xs.length = 3) : EV X Γ e (toQ3 d xs) := ⟨fun B G H σ hB hg l Q q => h B G H σ hB hg l Q fun v G1 H1 g1 r1 => q v G1 H1 g1 (rep_toQ3 d hl r1)⟩
theorem iv_toQ3 {α : Type} [Rp α] {xs : List (List α)} (d : α) (h : IV X Γ tg iter xs) (hl : ∀ r ∈ xs, r.length = 3) : IV X Γ tg iter (xs.map (toQ3 d)) := ⟨fun B G H σ hB hg l R q =>
  h B G H σ hB hg l R fun J G1 H1 g1 it => q J G1 H1 g1 (by
    obtain ⟨h1, h2⟩ := it
    refine ⟨fun i G2 H2 e1 e2 hi => ?_, fun G2 H2 e1 e2 => by rw [List.length_map]; exact h2 G2 H2 e1 e2⟩
    rw [List.length_map] at hi
    obtain ⟨k1, k2⟩ := h1 i G2 H2 e1 e2 hi
    refine ⟨k1, fun v H3 hy => ?_⟩
    obtain ⟨G3, x, g3, hx, r⟩ := k2 v H3 hy
    exact ⟨G3, toQ3 d x, g3, by rw [List.getElem?_map, hx]; rfl, rep_toQ3 d (hl x (List.mem_of_getElem? hx)) r⟩)⟩
/-! ### a row put into one's own table -/
theorem en_mt0 {α : Type} [Rp α] (h : EN X Γ e (ML.mk ([] : List (List α)))) : EN X Γ e (MT.mk ([] : List (List α))) := ⟨fun B G H σ hB hg l Q q =>
  h B G H σ hB hg l Q fun v fp G1 H1 g1 hf ok => q v fp G1 H1 g1 hf (by
    obtain ⟨p, vs, rfl, rfl, hh, r⟩ := ok
    cases r
    exact ⟨p, [], rfl, rfl, by simp, hh, .nil⟩)⟩
/-- as LoF.mut: the new things are apart from all that others own -/
theorem LoF.mut2 {K : PySem.W.Frag} {B G H H' : Hp} {σ : L2.St} {Γ : List Slot} {F : Nat → List Addr} {i : Nat} {v : V} {fp : List Addr} {d d' : Odat} (l : LoF K B G H σ Γ F) (hi : Γ[i]? = some (.own d)) (hv : σ[i]? = some (some v))
    (hk : ∀ a, a ∉ F i → a ∉ fp → ∀ o, H a = some o → H' a = some o) (hf : ∀ a ∈ fp, (∀ j s, Γ[j]? = some s → j ≠ i → s.isOwn = true → a ∉ F j) ∧ B a = none ∧ G a = none ∧ ∃ ho, H' a = some ho) (r : d'.ok K G H' v fp) : Lo K B G H' σ (Γ.set i (.own d')) := by
  refine ⟨fun j => if j = i then fp else F j, by simp [l.len], fun j s e => ?_, fun j k s t hjk hj hk' hs ht a ha hb => ?_⟩
  · rcases set_get e with ⟨rfl, rfl, hi'⟩ | ⟨hij, e⟩
    · refine ⟨_, hv, v, rfl, fun a ha => ?_, ?_⟩
      · rw [if_pos rfl] at ha; exact (hf a ha).2
      · rw [if_pos rfl]; exact r
    · rw [if_neg (Ne.symm hij)]
      obtain ⟨o, h3, h4⟩ := l.ok j s e
      refine ⟨o, h3, ?_⟩
      cases s with
      | any => trivial
      | val _ => exact h4
      | own d2 =>
        obtain ⟨v2, e2, hf2, r2⟩ := h4
        have ne : ∀ a ∈ F j, H' a = H a := fun a ha => by
          obtain ⟨_, _, ho, q3⟩ := hf2 a ha
          rw [hk a (l.sep j i _ _ (Ne.symm hij) e hi rfl rfl a ha) (fun z => (hf a z).1 j _ e (Ne.symm hij) rfl ha) ho q3, q3]
        refine ⟨v2, e2, fun a ha => ?_, Odat.mono (Same.refl _) ne r2⟩
        obtain ⟨q1, q2, ho, q3⟩ := hf2 a ha
        exact ⟨q1, q2, ho, by rw [ne a ha, q3]⟩
  · rcases set_get hj with ⟨rfl, rfl, _⟩ | ⟨hij, hj⟩
    · rcases set_get hk' with ⟨rfl, _, _⟩ | ⟨hik, hk'⟩
      · exact hjk rfl
      · simp only [if_pos] at ha
        simp only [if_neg (Ne.symm hik)] at hb
        exact (hf a ha).1 k t hk' (Ne.symm hik) ht hb
    · simp only [if_neg (Ne.symm hij)] at ha
      rcases set_get hk' with ⟨rfl, rfl, _⟩ | ⟨hik, hk'⟩
      · simp only [if_pos] at hb
        exact (hf a hb).1 j s hj (Ne.symm hij) hs ha
      · simp only [if_neg (Ne.symm hik)] at hb
        exact l.sep j k s t hjk hj hk' hs ht a ha hb
theorem sv_appRow (i : Nat) {α : Type} [Rp α] {rows : List (List α)} {row : List α} {c e : Expr} (hp : PE X c (tBM X.K "list" rAppend (tVar i) (tCons (WE X e) tNil))) (h0 : Γ[i]? = some (.o (MT.mk rows))) (h : EN X Γ e (ML.mk row)) (hz : rows.length < 10000000) (hs : swapsWith c none pos.line X.env = pure false := by rfl) :
    SV X Γ (.Expr c pos) (.nx (Γ.set i (.o (MT.mk (rows ++ [row]))))) := ⟨fun B G H σ D hB hg l k => by
  obtain ⟨F, v, lf, ev, hf, p, qs, rfl, hF, hnd, hp', hrows⟩ := own_at l h0
  refine ws (ps_expr hp hs) ⟨_, ev, .inl ⟨rfl, _, .inl (.inl hp')⟩, ?_⟩
  refine h B G H σ hB hg l _ fun v1 fp1 G1 H1 g1 hf1 ok1 => ?_
  obtain ⟨q, vs, rfl, rfl, hh, r⟩ := ok1
  obtain ⟨n1, n2, _⟩ := hf1 q (by simp)
  have hlen : qs.length = rows.length := Paired.length hrows
  refine ⟨p, qs.map V.ref, .ref q, rfl, rfl, g1.h _ _ hp', by rw [List.length_map, hlen]; exact Nat.lt_of_lt_of_le hz (by decide), ?_⟩
  have lg := lf.grow g1
  have hqF : q ∉ F i := fun z => by
    obtain ⟨_, _, ho, e⟩ := hf q z
    rw [e] at n1; cases n1
  have hqp : q ≠ p := fun z => hqF (by rw [hF, z]; simp)
  have hbq : B q = none := hB.free n1
  have hf3 : ∀ a ∈ F i, B a = none ∧ G1 a = none := fun a ha => by
    obtain ⟨q1, q2, ho, q3⟩ := hf a ha
    exact ⟨q1, (g1.fr a ho q3 (lf.nt h0 a ha ho q3)).trans q2⟩
  have hk : ∀ a, a ∉ F i → ∀ o, H1 a = some o → upd H1 p (.lst (qs.map V.ref ++ [V.ref q])) a = some o := fun a ha o e => by
    rw [upd_ne (fun z => ha (by rw [z, hF]; simp))]; exact e
  have hpF : p ∈ F i := by rw [hF]; simp
  refine k G1 _ ((g1.step hB).trans (Stp.mut (hB.trans g1.h) g1.gh hf3 hk)) σ (lg.mut2 (fp := p :: (qs ++ [q])) (d' := ot (MT.mk (rows ++ [row]))) h0 ev (fun a ha _ => hk a ha) (fun a ha => ?_) ?_)
  · have ha : a = p ∨ a ∈ qs ∨ a = q := by simpa using ha
    have inF : a ∈ F i → (∀ j s, Γ[j]? = some s → j ≠ i → s.isOwn = true → a ∉ F j) := fun z j s e hj hs y => lf.sep j i _ _ hj e h0 hs rfl a y z
    rcases ha with z | z | z
    · subst z
      exact ⟨inF hpF, (hf3 a hpF).1, (hf3 a hpF).2, _, upd_same⟩
    · have haF : a ∈ F i := by rw [hF]; exact List.mem_cons_of_mem _ z
      obtain ⟨q1, q2, ho, q3⟩ := hf a haF
      refine ⟨inF haF, q1, (hf3 a haF).2, ho, ?_⟩
      have hap : a ≠ p := fun y => by
        rw [hF] at hnd
        subst y
        exact (List.nodup_cons.mp hnd).1 z
      rw [upd_ne hap]; exact g1.h _ _ q3
    · subst z
      refine ⟨fun j s e hj hs ha => ?_, hbq, n2, _, by rw [upd_ne hqp]; exact hh⟩
      obtain ⟨o, h1, h2⟩ := lf.ok j s e
      cases s with
      | any => cases hs
      | val _ => cases hs
      | own d2 =>
        obtain ⟨_, _, h3, _⟩ := h2
        obtain ⟨_, _, ho, e⟩ := h3 a ha
        rw [e] at n1; cases n1
  · refine ⟨p, qs ++ [q], rfl, rfl, ?_, by rw [upd_same, List.map_append]; rfl, ?_⟩
    · rw [hF] at hnd
      have h1 := List.nodup_cons.mp hnd
      rw [List.nodup_cons]
      refine ⟨fun z => ?_, ?_⟩
      · have z : p ∈ qs ∨ p = q := by simpa using z
        rcases z with z | z
        · exact h1.1 z
        · exact hqp z.symm
      · rw [List.nodup_append]
        refine ⟨h1.2, by simp, fun a ha b hb y => ?_⟩
        have : b = q := by simpa using hb
        exact hqF (by rw [hF, ← this, ← y]; exact List.mem_cons_of_mem _ ha)
    · unfold RowsOk
      refine paired_app (hrows.mono g1.g fun a ha => ?_) (.cons ⟨vs, by rw [upd_ne hqp]; exact hh, r⟩ .nil)
      have haF : a ∈ F i := by rw [hF]; exact List.mem_cons_of_mem _ ha
      obtain ⟨q1, q2, ho, q3⟩ := hf a haF
      have hap : a ≠ p := fun y => by
        rw [hF] at hnd
        subst y
        exact (List.nodup_cons.mp hnd).1 ha
      rw [upd_ne hap, g1.h _ _ q3, q3]⟩
/-! ### functions that hand back an own thing -/
def OSp {τ : Type} [Ow τ] (K : PySem.W.Frag) (R : List Dat → τ → Prop) : Sp := fun vs H Q _ => ∃ (G : Hp) (ds : List Dat) (x : τ), Same G H ∧ DatsOk K G vs ds ∧ R ds x ∧ ∀ v fp G' H', Grow G H G' H' → (∀ a ∈ fp, H a = none ∧ G' a = none ∧ ∃ ho, H' a = some ho) → Ow.ok K G' H' v fp x → Q v H'
structure FnAtO {τ : Type} [Ow τ] (P : Program) (w : World) (K : PySem.W.Frag) (mg : Str → Option Value) (base : Heap) (x : Str) (k : Nat) (ps : List Str) (R : List Dat → τ → Prop) : Prop where
  ex : ∃ f fd, FnOk P w K mg base CX0 k f fd ps (OSp K R) ∧ mg x = some (.ref f) ∧ PySem.W.keepIn K (.ref f) = true ∧ Binds K fd ps []
theorem en_fnO {τ : Type} [Ow τ] {k j : Nat} {ps : List Str} {R : List Dat → τ → Prop} {x : Str} {p : Pos} {y : τ} {ds : List Dat} (F : FnAtO X.prog X.w X.K X.mg X.base x k ps R) (hr : Room j X.A) (hj : k ≤ j) (ha : EA X Γ (e :: es) ds) (hR : R ds y) (hg : Gl X x := by rfl) (hdb : (x == ("__debug__" : Str)) = false := by decide)
    (he : starEach (e :: es) X.env = (false, eval e X.env) :: starEach es X.env := by rfl) (hpl : (backTo pos (starEach es X.env)).any (·.1) = false := by rfl) : EN X Γ (.Call (.Name x p) (e :: es) [] pos) y := ⟨fun B G H σ hB hgh l Q q => by
  obtain ⟨f, fd, F1, hm, hk, hb⟩ := F.ex
  exact we (pe_call F1 (hr.mono hj) hg hm hk hb .nil pass0 pa hdb he hpl) (ha B G H σ hB hgh l _ fun vs G1 H1 g1 r1 => by
    rw [List.append_nil]
    exact ⟨G1, ds, y, g1.gh, r1, hR, fun v fp G2 H2 g2 hf ok => q v fp G2 H2 (g1.trans g2) (fun a ha => ⟨g1.h.free (hf a ha).1, (hf a ha).2⟩) ok⟩)⟩
section
variable {P : Program} {w : World} {K : PySem.W.Frag} {mg : Str → Option Value} {base : Heap}
theorem fn_own {τ : Type} [Ow τ] {x qual : Str} {st : Stmt} {f : Addr} {fd : FuncData} {N ps : List Str} {k : Nat} {R : List Dat → τ → Prop} (F : Fun K x qual st f fd) (S : FnScope N ps (defScope st)) (len : ∀ ds d, R ds d → ds.length = ps.length)
    (body : ∀ (cdv : Value) (A : Around) (outer : List Env) (s : Shared) (H : Hp) (E : XK) (ds : List Dat) (y : τ), Room k (A.deeper (envOfC qual (defScope st) s.heap.objs.size f cdv)) → R ds y →
      BV (cxOf CX0 P w K mg base N qual (defScope st) f cdv A outer s H E).nox (slots ds N.length) (defBody st) (.ro (ot y))) : FnOk P w K mg base CX0 (k + 1) f fd ps (OSp K R) :=
  F.ok S (fun vs H Q E h => by
    obtain ⟨G, ds, d, _, r, hR, _⟩ := h
    rw [r.len]
    exact len ds d hR) (fun cdv A outer s H vs Q E hr h => by
    obtain ⟨G, ds, d, hg, r, hR, q⟩ := h
    exact ⟨_, pss, body cdv A outer s H E ds d hr hR H G H (L2.start N vs) _ (Same.refl _) hg (lo_start r) fun G' H' st v fp hf ok => q v fp G' H' ⟨st.g, st.b, st.gh, st.fr0⟩ hf ok⟩)
end
/-- an address, no more -/
structure Rf where
  p : Addr
instance : Rp Rf := ⟨fun _ _ v x => v = .ref x.p, fun _ h => h⟩
theorem reps_rf {K : PySem.W.Frag} {G : Hp} : ∀ qs : List Addr, Reps K G (qs.map V.ref) (qs.map Rf.mk)
  | [] => .nil
  | _ :: r => .cons rfl (reps_rf r)
theorem rf_reps {K : PySem.W.Frag} {G : Hp} : ∀ {vs : List V} {rs : List Rf}, Reps K G vs rs → vs = (rs.map Rf.p).map V.ref
  | _, _, .nil => rfl
  | _, _, .cons r t => by rw [show _ = V.ref _ from r, rf_reps t]; rfl
/-- a part of an own thing is known for good, the rest is nobody's -/
theorem LoF.fzS {K : PySem.W.Frag} {B G H : Hp} {σ : L2.St} {F : Nat → List Addr} {i : Nat} {v : V} {fs : List Addr} {d : Odat} {d' : Dat} (l : LoF K B G H σ Γ F) (h : Γ[i]? = some (.own d)) (e1 : σ[i]? = some (some v)) (hsub : ∀ a ∈ fs, a ∈ F i) (hf : ∀ a ∈ F i, G a = none) (r : d'.rep K (gl G H fs) v) :
    Lo K B (gl G H fs) H σ (Γ.set i (.val d')) := by
  have hs : Same G (gl G H fs) := gl_up fun a ha => hf a (hsub a ha)
  refine ⟨F, by simp [l.len], fun j s e => ?_, fun j k s t hjk hj hk hs' ht => ?_⟩
  · rcases set_get e with ⟨rfl, rfl, _⟩ | ⟨hij, e⟩
    · exact ⟨_, e1, v, rfl, r⟩
    · obtain ⟨o, h1, h2⟩ := l.ok j s e
      refine ⟨o, h1, ?_⟩
      cases s with
      | any => trivial
      | val d => obtain ⟨w, e4, r4⟩ := h2; exact ⟨w, e4, Dat.mono hs r4⟩
      | own d =>
        obtain ⟨w, e4, hf2, r4⟩ := h2
        refine ⟨w, e4, fun a ha => ?_, Odat.mono hs (fun _ _ => rfl) r4⟩
        obtain ⟨q1, q2, q3⟩ := hf2 a ha
        exact ⟨q1, by rw [gl_out (fun z => l.sep i j _ _ hij h e rfl rfl a (hsub a z) ha)]; exact q2, q3⟩
  · rcases set_get hj with ⟨rfl, rfl, _⟩ | ⟨hij, hj⟩
    · cases hs'
    · rcases set_get hk with ⟨rfl, rfl, _⟩ | ⟨hik, hk⟩
      · cases ht
      · exact l.sep j k s t hjk hj hk hs' ht
theorem slice_paired {α β : Type} {R : α → β → Prop} {xs : List α} {ys : List β} (h : Paired R xs ys) (a b c : Option Int) : Paired R (pySlice xs a b c) (pySlice ys a b c) := by
  have e : xs.length = ys.length := Paired.length h
  unfold pySlice
  rw [e]
  exact paired_pick h _
theorem rot_perm {α : Type} (xs : List α) {z : Int} (hz : 0 ≤ z) : (pySlice xs (some z) none none ++ pySlice xs none (some z) none).Perm xs := by
  rw [pySlice_drop _ hz, pySlice_take _ hz]
  have h := List.perm_append_comm (l₁ := xs.drop z.toNat) (l₂ := xs.take z.toNat)
  rw [List.take_append_drop] at h
  exact h
/-- return xs[z:] + xs[:z] of one's own table -/
theorem bv_retRot (i : Nat) {α : Type} [Rp α] {rows : List (List α)} {z : Int} (hz : 0 ≤ z) (h0 : Γ[i]? = some (.o (MT.mk rows))) (hE : ∀ qs : List Rf, qs.length = rows.length → EN X (Γ.set i (.v qs)) e (ML.mk (pySlice qs (some z) none none ++ pySlice qs none (some z) none))) :
    BV X Γ (.Return (some e) pos :: sts) (.ro (ot (MT.mk (pySlice rows (some z) none none ++ pySlice rows none (some z) none)))) := bv_out (⟨fun B G H σ D hB hg l k => by
  obtain ⟨F, v, lf, ev, hf, p, qs, rfl, hF, hnd, hp', hrows⟩ := own_at l h0
  have hpF : p ∈ F i := by rw [hF]; simp
  have hlen : qs.length = rows.length := Paired.length hrows
  have hgl : Same G (gl G H [p]) := gl_up fun a ha => by
    have : a = p := by simpa using ha
    rw [this]; exact (hf p hpF).2.1
  have lo := lf.fzS (fs := [p]) (d' := dt (qs.map Rf.mk)) h0 ev (fun a ha => by
    have : a = p := by simpa using ha
    rw [this]; exact hpF) (fun a ha => (hf a ha).2.1) ⟨p, qs.map V.ref, rfl, SqL.of (by rw [gl_in (by simp)]; exact hp'), reps_rf qs⟩
  refine ws (ps_ret pe) (hE (qs.map Rf.mk) (by rw [List.length_map]; exact hlen) B (gl G H [p]) H σ hB (gl_dn hg) lo _ fun v fp G1 H1 g1 hfp ok => ?_)
  obtain ⟨r, vs, rfl, rfl, hh, rr⟩ := ok
  have e1 := rf_reps rr
  obtain ⟨m1, m2, _⟩ := hfp r (by simp)
  have hnd' : (p :: qs).Nodup := by rw [← hF]; exact hnd
  have hpair := slice_paired hrows (some z) none none
  have hpair2 := slice_paired hrows none (some z) none
  have eq1 : ((pySlice (qs.map Rf.mk) (some z) none none ++ pySlice (qs.map Rf.mk) none (some z) none).map Rf.p) = pySlice qs (some z) none none ++ pySlice qs none (some z) none := by
    have : ∀ a b c, (pySlice (qs.map Rf.mk) a b c).map Rf.p = pySlice qs a b c := fun a b c => by
      unfold pySlice
      rw [List.length_map, List.map_filterMap]
      congr 1
      funext j
      rw [List.getElem?_map]
      cases qs[j]? <;> rfl
    rw [List.map_append, this, this]
  rw [eq1] at e1
  have hperm := rot_perm qs hz
  generalize hrot : pySlice qs (some z) none none ++ pySlice qs none (some z) none = ps at *
  have hpsq : ∀ a ∈ ps, a ∈ qs := fun a ha => hperm.mem_iff.mp ha
  have inF : ∀ a ∈ ps, a ∈ F i := fun a ha => by rw [hF]; exact List.mem_cons_of_mem _ (hpsq a ha)
  have hne : ∀ a ∈ ps, a ≠ p := fun a ha y => by
    subst y
    exact (List.nodup_cons.mp hnd').1 (hpsq a ha)
  have hG1 : ∀ a ∈ ps, G1 a = none ∧ ∃ ho, H1 a = some ho := fun a ha => by
    obtain ⟨_, q2, ho, q3⟩ := hf a (inF a ha)
    exact ⟨by rw [g1.fr a ho q3 (lf.nt h0 a (inF a ha) ho q3), gl_out (by simpa using hne a ha)]; exact q2, ho, g1.h _ _ q3⟩
  refine k G1 H1 ⟨hB.trans g1.h, hgl.trans g1.g, g1.gh, fun a o e n => ?_⟩ (.ref r) (r :: ps) (fun a ha => ?_) ⟨r, ps, rfl, rfl, ?_, by rw [hh, e1], ?_⟩
  · rw [g1.fr a o (hB _ _ e) n, gl_out (fun y => by
      have : a = p := by simpa using y
      rw [this, (hf p hpF).1] at e; cases e)]
  · rcases List.mem_cons.mp ha with y | y
    · subst y
      exact ⟨hB.free m1, m2, _, hh⟩
    · exact ⟨(hf a (inF a y)).1, hG1 a y⟩
  · rw [List.nodup_cons]
    refine ⟨fun y => ?_, hperm.nodup_iff.mpr (List.nodup_cons.mp hnd').2⟩
    obtain ⟨_, _, ho, q3⟩ := hf r (inF r y)
    rw [q3] at m1; cases m1
  · unfold RowsOk
    rw [← hrot]
    refine Paired.mapP (paired_app hpair hpair2) fun a b h => ?_
    obtain ⟨ws, h1, h2⟩ := h
    exact ⟨ws, g1.h _ _ h1, h2.mono (hgl.trans g1.g)⟩⟩ : SV X Γ (.Return (some e) pos) _) trivial
end
end Wl

set_option maxRecDepth 100000
set_option maxHeartbeats 2000000
/-! one's own table walked, each row changed in its turn -/
namespace Wl
open PySem PySem.Spec PyProof.Rows L2
section
variable {X : Cx} {Γ Γ' : List Slot} {st : Stmt} {sts els rest : List Stmt} {a b c d e tg iter elt : Expr} {es elts ifs : List Expr} {pos : Pos} {o : Out}
theorem sv_setP (i : Nat) {α : Type} [Rp α] {p : Addr} {xs : List α} {r : Int} {x : α} {e1 e2 : Expr} (hp : PS X st (tAsg (WE X e2) (gSub (tVar i) (WE X e1) rSetL))) (h0 : Γ[i]? = some (.o (MLp.mk p xs))) (h2 : EV X Γ e2 x) (h1 : EV X Γ e1 r) (hr : 0 ≤ r ∧ r < (xs.length : Int)) : SV X Γ st (.nx (Γ.set i (.o (MLp.mk p (xs.set r.toNat x))))) := ⟨fun B G H σ D hB hg l k => by
  obtain ⟨F, vs, lf, hF, e1', hbp, hgp, hh, rr⟩ := ownP l h0
  refine ws hp (h2 B G H σ hB hg l _ fun v G1 H1 g1 r1 => ⟨_, e1', h1 B G1 H1 σ (hB.trans g1.h) g1.gh (l.grow g1) _ fun u G2 H2 g2 r2 => ?_⟩)
  have g := g1.trans g2
  have hgp2 := (g.fr p _ hh).trans hgp
  refine ⟨p, vs, r, r.toNat, rfl, r2, g.h _ _ hh, ?_, ?_⟩
  · have := rr.len
    unfold ixN
    rw [if_pos hr.1, if_pos (by simp only at *; omega)]
  · exact k G2 _ ((g.step hB).trans (Stp.mutL (hB.trans g.h) g.gh hbp hgp2)) σ ((lf.grow g).mutP h0 hF e1' hbp hgp2 (paired_set (Rp.mono g2.g r1) _ (rr.mono g.g)))⟩
/-- state and rows behind a walk -/
def mapRows {τ α : Type} (f : τ → List α → τ × List α) (s0 : τ) (rows : List (List α)) : τ × List (List α) := rows.foldl (fun acc row => ((f acc.1 row).1, acc.2 ++ [(f acc.1 row).2])) (s0, [])
theorem mapRows_app {τ α : Type} (f : τ → List α → τ × List α) (s0 : τ) (a : List (List α)) (x : List α) : mapRows f s0 (a ++ [x]) = ((f (mapRows f s0 a).1 x).1, (mapRows f s0 a).2 ++ [(f (mapRows f s0 a).1 x).2]) := by
  unfold mapRows
  rw [List.foldl_append]
  rfl
theorem mapRows_len {τ α : Type} (f : τ → List α → τ × List α) (s0 : τ) (rows : List (List α)) : (mapRows f s0 rows).2.length = rows.length := by
  have : ∀ (rows : List (List α)) (acc : τ × List (List α)), (rows.foldl (fun acc row => ((f acc.1 row).1, acc.2 ++ [(f acc.1 row).2])) acc).2.length = acc.2.length + rows.length := by
    intro rows
    induction rows with
    | nil => intro acc; rfl
    | cons x r ih => intro acc; rw [List.foldl_cons, ih, List.length_append]; simp only [List.length_cons, List.length_nil]; omega
  have h := this rows (s0, [])
  unfold mapRows
  rw [h]; simp
theorem sv_forRows (i j : Nat) {α τ : Type} [Rp α] {rows : List (List α)} {nm : Str} {body : List Stmt} {p1 : Pos} (Env : τ → List Slot) (s0 : τ) (f : τ → List α → τ × List α) (I : List (List α) → τ → Prop) (hN : X.N.Nodup) (hv : PE X iter (tVar i)) (h0 : Γ[i]? = some (.o (MT.mk rows)))
    (hsb : Sb Γ ((Env s0).set i (.o (MT.mk rows)))) (hij : i ≠ j) (hlen : ∀ s, i < (Env s).length) (hanyj : ∀ s, (Env s)[j]? = some .any)
    (i0 : I [] s0) (is : ∀ pre x s, x ∈ rows → I pre s → I (pre ++ [x]) (f s x).1)
    (hb : ∀ pre row post s, rows = pre ++ row :: post → (mapRows f s0 pre).1 = s → I pre s → ∀ p0 p : Addr, BV X (((Env s).set i (.v (Rf.mk p0))).set j (.o (MLp.mk p row))) body (.nx (((Env (f s row).1).set i (.v (Rf.mk p0))).set j (.o (MLp.mk p (f s row).2)))))
    (hp : PassesOwn (model X.prog X.w) X.A X.env X.xe) (hi : X.N[j]? = some nm := by rfl) (hx : L2.Loc X.env.scope nm := by first | exact Or.inl rfl | exact Or.inr rfl) (hf : X.fn nm = true ∨ X.env.scope.names.lookup nm = some .local := by first | exact .inl rfl | exact .inr rfl)
    (hc : X.calm = true := by rfl) (hs : ∀ x, foldedSetIterable iter X.env x = pure x := by intro _; rfl) (ho : .nx ((Env (mapRows f s0 rows).1).set i (.o (MT.mk (mapRows f s0 rows).2))) = o := by exact rfl) :
    SV X Γ (.For (.Name nm p1) iter body [] pos) o := ⟨fun B G H σ D hB hg l k => by
  subst ho
  have takeS : ∀ m (hm : m < rows.length), rows.take (m + 1) = rows.take m ++ [rows[m]] := fun m hm => by rw [List.take_add_one, List.getElem?_eq_getElem hm]; rfl
  have invI : ∀ (m : Nat), m ≤ rows.length → I (rows.take m) (mapRows f s0 (rows.take m)).1 := by
    intro m
    induction m with
    | zero => intro _; exact i0
    | succ m ih =>
      intro hm
      have h1 := ih (by omega)
      rw [takeS m (by omega), mapRows_app]
      exact is _ _ _ (List.getElem_mem _) h1
  obtain ⟨F0, v0, lf0, ev0, hf0, p0, qs0, rfl, hF0, hnd0, hp0, hrows0⟩ := own_at l h0
  refine ws (ps_for hp hc (pi_list hv) pg pss hs) ⟨_, ev0, p0, rfl, ⟨_, SqL.of hp0⟩, ?_⟩
  refine ⟨fun m r σ' H' => r = rows.length - m ∧ m ≤ rows.length ∧ ∃ G', Stp B G G' H' ∧ Lo X.K B G' H' σ' ((Env (mapRows f s0 (rows.take m)).1).set i (.o (MT.mk ((mapRows f s0 (rows.take m)).2 ++ rows.drop m)))) ∧ σ'[i]? = some (some (.ref p0)),
    ⟨rows.length, by simp, Nat.zero_le _, G, Stp.refl hB hg, by
      show Lo X.K B G H σ ((Env (mapRows f s0 []).1).set i (.o (MT.mk ([] ++ rows.drop 0))))
      exact l.sub hsb, ev0⟩, ?_⟩
  rintro m r σ' H' ⟨rfl, hm, G', st, lo, evp⟩
  have gi : ((Env (mapRows f s0 (rows.take m)).1).set i (.o (MT.mk ((mapRows f s0 (rows.take m)).2 ++ rows.drop m))))[i]? = some (.o (MT.mk ((mapRows f s0 (rows.take m)).2 ++ rows.drop m))) := List.getElem?_set_self (hlen _)
  obtain ⟨F, v, lf, ev, hfF, p, qs, rfl, hF, hnd, hpp, hrows⟩ := own_at lo gi
  have ep : p = p0 := by
    rw [evp] at ev
    injection ev with ev
    injection ev with ev
    injection ev with ev
    exact ev.symm
  subst ep
  have hql : qs.length = rows.length := by
    have h := Paired.length hrows
    rw [List.length_append, mapRows_len, List.length_take, List.length_drop] at h
    omega
  by_cases hlt : m < rows.length
  · have hqm : qs[m]? = some qs[m] := List.getElem?_eq_getElem (by omega)
    generalize hq : qs[m] = q at hqm
    have hvs : (qs.map V.ref)[m]? = some (V.ref q) := by rw [List.getElem?_map, hqm]; rfl
    refine .inr ⟨⟨qs.map V.ref, _, SqL.of hpp, hvs⟩, fun σ2 H2 => ∃ G2, Stp B G G2 H2 ∧ Lo X.K B G2 H2 σ2 ((Env (mapRows f s0 (rows.take (m + 1))).1).set i (.o (MT.mk ((mapRows f s0 (rows.take (m + 1))).2 ++ rows.drop (m + 1))))) ∧ σ2[i]? = some (some (.ref p)),
      fun σ2 H2 ⟨G2, st2, lo2, ev2⟩ => ⟨rows.length - (m + 1), by omega, rfl, hlt, G2, st2, lo2, ev2⟩, fun v H3 hy => ?_⟩
    obtain ⟨e, hy⟩ := hy
    subst e
    have e2 := hy (qs.map V.ref) (SqL.of hpp)
    rw [hvs] at e2
    cases e2
    refine wg (pg_name hN hi hx hf) ?_
    -- the row
    have hdl : (mapRows f s0 (rows.take m)).2.length = m := by rw [mapRows_len, List.length_take]; omega
    have hrow : ((mapRows f s0 (rows.take m)).2 ++ rows.drop m)[m]? = some rows[m] := by
      rw [List.getElem?_append_right (by omega), hdl, Nat.sub_self, List.getElem?_drop, Nat.add_zero, List.getElem?_eq_getElem hlt]
    obtain ⟨row', hr1, ws', hq1, hq2⟩ := paired_get hrows m q hqm
    rw [hrow] at hr1
    have erow : rows[m] = row' := Option.some.inj hr1
    generalize hs1 : (mapRows f s0 (rows.take m)).1 = s1 at *
    generalize hd1 : (mapRows f s0 (rows.take m)).2 = d1 at *
    have hnd' : (p :: qs).Nodup := by rw [← hF]; exact hnd
    have hqp : q ≠ p := fun z => (List.nodup_cons.mp hnd').1 (by rw [← z]; exact List.mem_of_getElem? hqm)
    have hqF : q ∈ F i := by rw [hF]; exact List.mem_cons_of_mem _ (List.mem_of_getElem? hqm)
    have ex : rows = rows.take m ++ rows[m] :: rows.drop (m + 1) := by rw [List.getElem_cons_drop, List.take_append_drop]
    -- what is not this row's stands within B'
    let B' : Hp := fun a => if a ∈ F i ∧ a ≠ q then H3 a else B a
    have b1 : ∀ a, a ∈ F i → a ≠ q → B' a = H3 a := fun a h1 h2 => if_pos ⟨h1, h2⟩
    have b2 : ∀ a, a ∉ F i → B' a = B a := fun a h1 => if_neg (fun z => h1 z.1)
    have b3 : B' q = B q := if_neg (fun z => z.2 rfl)
    have hBB : Same B B' := fun b u e => by
      rw [b2 b (fun z => by rw [(hfF b z).1] at e; cases e)]; exact e
    have hBH : Same B' H3 := fun b u e => by
      by_cases h1 : b ∈ F i
      · by_cases h2 : b = q
        · rw [h2, b3, (hfF q hqF).1] at e; cases e
        · rw [b1 b h1 h2] at e; exact e
      · rw [b2 b h1] at e; exact st.b b u e
    have lenσ : σ'.length = (Env s1).length := by rw [lf.len, List.length_set]
    have hjl : j < (Env s1).length := (List.getElem?_eq_some_iff.mp (hanyj s1)).1
    have lo2 : Lo X.K B' G' H3 (σ'.set j (some (.ref q))) (((Env s1).set i (.v (Rf.mk p))).set j (.o (MLp.mk q rows[m]))) := by
      refine ⟨fun n => if n = j then [q] else F n, by simp [lenσ], fun n s e => ?_, fun n n' s t hnn hn hn' hs' ht => ?_⟩
      · rcases set_get e with ⟨rfl, rfl, _⟩ | ⟨hjn, e⟩
        · refine ⟨_, List.getElem?_set_self (by rw [lenσ]; exact hjl), .ref q, rfl, fun a ha => ?_, ?_⟩
          · rw [if_pos rfl] at ha
            have : a = q := by simpa using ha
            subst this
            obtain ⟨q1, q2, q3⟩ := hfF a hqF
            exact ⟨by rw [b3]; exact q1, q2, q3⟩
          · rw [if_pos rfl]
            exact ⟨ws', rfl, rfl, hq1, by rw [erow]; exact hq2⟩
        · rw [List.getElem?_set_ne hjn, if_neg (Ne.symm hjn)]
          rcases set_get e with ⟨rfl, rfl, _⟩ | ⟨hin, e⟩
          · exact ⟨_, evp, _, rfl, rfl⟩
          · obtain ⟨o, h1, h2⟩ := lf.ok n s (by rw [List.getElem?_set_ne hin]; exact e)
            refine ⟨o, h1, ?_⟩
            cases s with
            | any => trivial
            | val d => exact h2
            | own d =>
              obtain ⟨w, e4, hf2, r4⟩ := h2
              refine ⟨w, e4, fun a ha => ?_, r4⟩
              obtain ⟨q1, q2, q3⟩ := hf2 a ha
              exact ⟨by rw [b2 a (fun z => lf.sep n i _ _ (Ne.symm hin) (by rw [List.getElem?_set_ne hin]; exact e) gi rfl rfl a ha z)]; exact q1, q2, q3⟩
      · intro a ha hb'
        have key : ∀ n s, ((Env s1).set i (.v (Rf.mk p)))[n]? = some s → s.isOwn = true → i ≠ n ∧ (((Env s1).set i (.o (MT.mk (d1 ++ rows.drop m)))))[n]? = some s := fun n s e hs' => by
          rcases set_get e with ⟨rfl, rfl, _⟩ | ⟨hin, e⟩
          · cases hs'
          · exact ⟨hin, by rw [List.getElem?_set_ne hin]; exact e⟩
        rcases set_get hn with ⟨rfl, rfl, _⟩ | ⟨hjn, hn⟩
        · rcases set_get hn' with ⟨rfl, _, _⟩ | ⟨hjn', hn'⟩
          · exact hnn rfl
          · obtain ⟨k1, k2⟩ := key n' t hn' ht
            simp only [if_pos] at ha
            simp only [if_neg (Ne.symm hjn')] at hb'
            have : a = q := by simpa using ha
            subst this
            exact lf.sep i n' _ t k1 gi k2 rfl ht a hqF hb'
        · obtain ⟨k1, k2⟩ := key n s hn hs'
          simp only [if_neg (Ne.symm hjn)] at ha
          rcases set_get hn' with ⟨rfl, rfl, _⟩ | ⟨hjn', hn'⟩
          · simp only [if_pos] at hb'
            have : a = q := by simpa using hb'
            subst this
            exact lf.sep n i s _ (Ne.symm k1) k2 gi hs' rfl a ha hqF
          · obtain ⟨k3, k4⟩ := key n' t hn' ht
            simp only [if_neg (Ne.symm hjn')] at hb'
            exact lf.sep n n' s t hnn k2 k4 hs' ht a ha hb'
    refine hb (rows.take m) rows[m] (rows.drop (m + 1)) s1 ex hs1 (by rw [← hs1]; exact invI m hm) p q B' G' H3 _ _ hBH st.gh lo2 fun G5 H5 st5 => ?_
    intro σ6 l6
    obtain ⟨F6, l6⟩ := l6
    rw [takeS m hlt, mapRows_app, hs1, hd1]
    generalize hs2 : (f s1 rows[m]).1 = s2 at *
    generalize hr2 : (f s1 rows[m]).2 = row2 at *
    have hil := hlen s2
    have hjl2 : j < (Env s2).length := (List.getElem?_eq_some_iff.mp (hanyj s2)).1
    have gI : (((Env s2).set i (.v (Rf.mk p))).set j (.o (MLp.mk q row2)))[i]? = some (.v (Rf.mk p)) := by rw [List.getElem?_set_ne (Ne.symm hij), List.getElem?_set_self hil]
    have gJ : (((Env s2).set i (.v (Rf.mk p))).set j (.o (MLp.mk q row2)))[j]? = some (.o (MLp.mk q row2)) := List.getElem?_set_self (by rw [List.length_set]; exact hjl2)
    have gN : ∀ n s, n ≠ i → n ≠ j → (Env s2)[n]? = some s → (((Env s2).set i (.v (Rf.mk p))).set j (.o (MLp.mk q row2)))[n]? = some s := fun n s h1 h2 e => by rw [List.getElem?_set_ne (Ne.symm h2), List.getElem?_set_ne (Ne.symm h1)]; exact e
    obtain ⟨oi, oi1, vi, oi2, oi3⟩ := l6.ok i _ gI
    have evi : σ6[i]? = some (some (.ref p)) := by rw [oi1, oi2]; exact congrArg (fun z => some (some z)) oi3
    obtain ⟨oj, oj1, vj, oj2, oj3, vs5, oj4, oj5, oj6, oj7⟩ := l6.ok j _ gJ
    have hqj : B' q = none ∧ G5 q = none ∧ ∃ ho, H5 q = some ho := oj3 q (by rw [oj5]; simp)
    have F6out : ∀ n s, n ≠ i → n ≠ j → (Env s2)[n]? = some s → s.isOwn = true → ∀ a ∈ F6 n, a ∉ F i := fun n s h1 h2 e hs' a ha z => by
      by_cases haq : a = q
      · exact l6.sep n j _ _ h2 (gN n s h1 h2 e) gJ hs' rfl a ha (by rw [oj5, haq]; simp)
      · obtain ⟨o, k1, k2⟩ := l6.ok n s (gN n s h1 h2 e)
        cases s with
        | any => cases hs'
        | val _ => cases hs'
        | own d =>
          obtain ⟨w, e4, hf2, r4⟩ := k2
          obtain ⟨_, _, ho, q3⟩ := hfF a z
          have := (hf2 a ha).1
          rw [b1 a z haq, q3] at this
          cases this
    have keepF : ∀ a ∈ F i, a ≠ q → H5 a = H3 a ∧ G5 a = none := fun a ha hne => by
      obtain ⟨_, q2, ho, q3⟩ := hfF a ha
      have h1 : B' a = some ho := by rw [b1 a ha hne]; exact q3
      exact ⟨by rw [st5.b a ho h1, q3], by rw [st5.fr a ho h1 (lf.nt gi a ha ho q3)]; exact q2⟩
    refine ⟨G5, st.trans ⟨fun b u e => st5.b b u (hBB b u e), st5.g, st5.gh, fun b u e n => st5.fr b u (hBB b u e) n⟩, ⟨fun n => if n = i then F i else if n = j then [] else F6 n, ?_, fun n s e => ?_, fun n n' s t hnn hn hn' hs' ht a ha hb' => ?_⟩, evi⟩
    · have := l6.len
      rw [List.length_set, List.length_set] at this
      rw [List.length_set]; exact this
    · rcases set_get e with ⟨rfl, rfl, _⟩ | ⟨hin, e⟩
      · refine ⟨_, evi, .ref p, rfl, fun a ha => ?_, ?_⟩
        · rw [if_pos rfl] at ha
          refine ⟨(hfF a ha).1, ?_⟩
          by_cases haq : a = q
          · rw [haq]; exact hqj.2
          · obtain ⟨k1, k2⟩ := keepF a ha haq
            obtain ⟨_, _, ho, q3⟩ := hfF a ha
            exact ⟨k2, ho, by rw [k1]; exact q3⟩
        · rw [if_pos rfl]
          have hpq : p ≠ q := Ne.symm hqp
          refine ⟨p, qs, rfl, hF, hnd, by rw [(keepF p (by rw [hF]; simp) hpq).1]; exact hpp, ?_⟩
          have hset : d1 ++ [row2] ++ rows.drop (m + 1) = (d1 ++ rows.drop m).set m row2 := by
            have hd : rows.drop m = rows[m] :: rows.drop (m + 1) := by rw [List.getElem_cons_drop]
            rw [hd, List.set_append_right _ _ (by omega), hdl, Nat.sub_self, List.set_cons_zero, List.append_assoc]
            rfl
          rw [hset]
          exact rows_set m (List.nodup_cons.mp hnd').2 hqm ⟨vs5, oj6, oj7⟩ (fun a ha hne => (keepF a (by rw [hF]; exact List.mem_cons_of_mem _ ha) hne).1) (hrows.mono st5.g fun a _ => rfl)
      · rw [if_neg (Ne.symm hin)]
        by_cases hjn : n = j
        · rw [hjn, hanyj s2] at e
          cases e
          rw [hjn]
          exact ⟨_, oj1, trivial⟩
        · rw [if_neg hjn]
          obtain ⟨o, k1, k2⟩ := l6.ok n s (gN n s (Ne.symm hin) hjn e)
          refine ⟨o, k1, ?_⟩
          cases s with
          | any => trivial
          | val d => exact k2
          | own d =>
            obtain ⟨w, e4, hf2, r4⟩ := k2
            refine ⟨w, e4, fun a ha => ?_, r4⟩
            obtain ⟨q1, q2, q3⟩ := hf2 a ha
            exact ⟨by rw [← b2 a (F6out n _ (Ne.symm hin) hjn e rfl a ha)]; exact q1, q2, q3⟩
    · have key : ∀ n s, (Env s2)[n]? = some s → s.isOwn = true → n ≠ j := fun n s e hs' z => by
        rw [z, hanyj s2] at e
        cases e
        cases hs'
      rcases set_get hn with ⟨rfl, rfl, _⟩ | ⟨hin, hn⟩
      · rcases set_get hn' with ⟨rfl, _, _⟩ | ⟨hin', hn'⟩
        · exact hnn rfl
        · have hj' := key n' t hn' ht
          simp only [if_pos] at ha
          simp only [if_neg (Ne.symm hin'), if_neg hj'] at hb'
          exact F6out n' t (Ne.symm hin') hj' hn' ht a hb' ha
      · have hj1 := key n s hn hs'
        simp only [if_neg (Ne.symm hin), if_neg hj1] at ha
        rcases set_get hn' with ⟨rfl, rfl, _⟩ | ⟨hin', hn'⟩
        · simp only [if_pos] at hb'
          exact F6out n s (Ne.symm hin) hj1 hn hs' a ha hb'
        · have hj2 := key n' t hn' ht
          simp only [if_neg (Ne.symm hin'), if_neg hj2] at hb'
          exact l6.sep n n' s t hnn (gN n s (Ne.symm hin) hj1 hn) (gN n' t (Ne.symm hin') hj2 hn') hs' ht a ha hb'
  · have em : m = rows.length := by omega
    subst em
    rw [List.take_length, List.drop_length, List.append_nil] at lo
    exact .inl ⟨⟨qs.map V.ref, SqL.of hpp, by rw [List.length_map, hql]; exact Nat.le_refl _⟩, k G' H' st σ' lo⟩⟩
end
end Wl

set_option maxRecDepth 100000
set_option maxHeartbeats 2000000
/-! texts -/
namespace Wl
open PySem PySem.Spec PyProof.Rows L2
section
variable {X : Cx} {Γ Γ' : List Slot} {st : Stmt} {sts els rest : List Stmt} {a b c d e tg iter elt : Expr} {es elts ifs : List Expr} {pos : Pos} {o : Out}
theorem ev_gstr {z : Str} {x : Str} (hm : ∃ t, X.mg x = some (.str z t)) (hg : Gl X x := by rfl) (hd : (x == ("__debug__" : Str)) = false := by decide) : EV X Γ (.Name x pos) z := ⟨fun B G H σ hB hgh l Q q => by
  obtain ⟨t, e⟩ := hm
  exact we (pe_glob (v := .str z) hg e ⟨t, rfl⟩ hd) (q _ G H (Grow.refl hgh) rfl)⟩
/-- a + b of texts -/
theorem ev_addS {x y : Str} (ha : EV X Γ a x) (hb : EV X Γ b y) (hz : x.length + y.length ≤ 10000000) : EV X Γ (.BinOp a .Add b pos) (x ++ y) := ⟨fun B G H σ hB hg l Q q =>
  we (pe_op op_add_str pe pe) (ha B G H σ hB hg l _ fun v G1 H1 g1 r1 => hb B G1 H1 σ (hB.trans g1.h) g1.gh (l.grow g1) _ fun v2 G2 H2 g2 r2 =>
    ⟨x, y, r1, r2, by rw [sizeLine_eq]; omega, q _ G2 H2 (g1.trans g2) rfl⟩)⟩
theorem ev_callT1 {r : List V → Hp → VK → Prop} {T : String} {x : Str} {p : Pos} {α β : Type} [Rp α] [Rp β] {y : α} {z : β} (hc : CallR X (.type T) r) (hm : X.mg x = none) (hv : bootBuiltins x = some (.type T)) (ha : EV X Γ a y)
    (hr : ∀ G H v, Same G H → Rp.rep X.K G v y → ∀ Q : VK, (∀ w G' H', Grow G H G' H' → Rp.rep X.K G' w z → Q w H') → r [v] H Q) (hg : Gl X x := by rfl) (hn : x ≠ "__name__" := by decide) (hdb : (x == ("__debug__" : Str)) = false := by decide)
    (he : starEach [a] X.env = (false, eval a X.env) :: starEach [] X.env := by rfl) (hpl : (backTo pos (starEach [] X.env)).any (·.1) = false := by rfl) : EV X Γ (.Call (.Name x p) [a] [] pos) z :=
  ev_cty hc hm hv (ea_cons ha ea_nil he) (fun G H vs hgh r1 Q q => by cases r1 with | cons r1 t => cases t; exact hr G H _ hgh r1 Q q) hg hn hdb he hpl
/-- the text of a number -/
def numS (n : Int) : Str := Str.ofString (toString n)
theorem ev_strI {p : Pos} {n : Int} (hm : X.mg "str" = none) (ha : EV X Γ a n) (hz : n.natAbs.log2 < 1920) (hg : Gl X "str" := by rfl) (he : starEach [a] X.env = (false, eval a X.env) :: starEach [] X.env := by rfl) (hpl : (backTo pos (starEach [] X.env)).any (·.1) = false := by rfl) : EV X Γ (.Call (.Name "str" p) [a] [] pos) (numS n) :=
  ev_callT1 call_str_int hm (by decide +kernel) ha (fun G H v hgh r Q q => ⟨n, by rw [show v = V.int n from r], hz, q _ G H (Grow.refl hgh) rfl⟩) hg (by decide) (by decide) he hpl
/-- the number that a text writes -/
def intS (z : Str) : Int := (PySem.intText? z).getD 0
theorem ev_intS {p : Pos} {z : Str} (hm : X.mg "int" = none) (ha : EV X Γ a z) (hs : (PySem.intText? z).isSome = true ∧ z.length ≤ 640) (hg : Gl X "int" := by rfl) (he : starEach [a] X.env = (false, eval a X.env) :: starEach [] X.env := by rfl) (hpl : (backTo pos (starEach [] X.env)).any (·.1) = false := by rfl) : EV X Γ (.Call (.Name "int" p) [a] [] pos) (intS z) :=
  ev_callT1 call_int_str hm (by decide +kernel) ha (fun G H v hgh r Q q => ⟨z, intS z, by rw [show v = V.str z from r], by
    unfold intS
    cases e : PySem.intText? z with
    | none => rw [e] at hs; cases hs.1
    | some n => rfl, hs.2, q _ G H (Grow.refl hgh) rfl⟩) hg (by decide) (by decide) he hpl
/-- int(flag) -/
theorem ev_intB {p : Pos} {x : Bool} (hm : X.mg "int" = none) (ha : EV X Γ a x) (hg : Gl X "int" := by rfl) (he : starEach [a] X.env = (false, eval a X.env) :: starEach [] X.env := by rfl) (hpl : (backTo pos (starEach [] X.env)).any (·.1) = false := by rfl) : EV X Γ (.Call (.Name "int" p) [a] [] pos) (bif x then (1 : Int) else 0) :=
  ev_callT1 call_int1 hm (by decide +kernel) ha (fun G H v hgh r Q q => .inr ⟨x, by rw [show v = V.bl x from r], q _ G H (Grow.refl hgh) (by cases x <;> rfl)⟩) hg (by decide) (by decide) he hpl
/-- len of a text -/
theorem ev_lenS {p : Pos} {z : Str} (hm : X.mg "len" = none) (ha : EV X Γ a z) (hz : z.length ≤ 10000000) (hg : Gl X "len" := by rfl) (he : starEach [a] X.env = (false, eval a X.env) :: starEach [] X.env := by rfl) (hpl : (backTo pos (starEach [] X.env)).any (·.1) = false := by rfl) : EV X Γ (.Call (.Name "len" p) [a] [] pos) (z.length : Int) :=
  ev_call1 call_len_str hm PySem.boot_len ha (fun G H v hgh r Q q => ⟨z, by rw [show v = V.str z from r], by rw [sizeLine_eq]; omega, q _ G H (Grow.refl hgh) rfl⟩) hg (by decide) (by decide) he hpl
/-- s[i], one sign -/
def sgn (z : Str) (i : Int) : Str := ⟨#[z.cps.toList.getD i.toNat 0]⟩
theorem ev_sixS {z : Str} {i : Int} (ha : EV X Γ a z) (hb : EV X Γ b i) (h0 : 0 ≤ i) (h1 : i < (z.length : Int)) (hz : z.length ≤ 10000000) (hp : PlainIx b := by exact fun _ _ => rfl) : EV X Γ (.Subscript a b pos) (sgn z i) := ⟨fun B G H σ hB hg l Q q =>
  we (pe_ix ix_str pe pe hp) (ha B G H σ hB hg l _ fun v G1 H1 g1 r1 => hb B G1 H1 σ (hB.trans g1.h) g1.gh (l.grow g1) _ fun u G2 H2 g2 r2 => by
    refine ⟨z, i, z.cps.toList.getD i.toNat 0, r1, r2, by rw [sizeLine_eq]; omega, ?_, q _ G2 H2 (g1.trans g2) rfl⟩
    have hl : z.cps.toList.length = z.length := by simp [Str.length]
    have hi : i.toNat < z.cps.toList.length := by omega
    have e : z.cps.toList[i.toNat]? = some (z.cps.toList.getD i.toNat 0) := by rw [List.getD_eq_getElem?_getD, List.getElem?_eq_getElem hi]; rfl
    have ei : i = ((i.toNat : Nat) : Int) := by omega
    rw [ei, Int.toNat_natCast]
    exact atI_nat e)⟩
/-- c in s, c one sign -/
def isSgn (c : Str) : Prop := ∃ k : Nat, c = ⟨#[k]⟩
def inS (c z : Str) : Bool := decide (c.cps.toList.headD 0 ∈ z.cps.toList)
theorem et_inS {c z : Str} (ha : EV X Γ a c) (hb : EV X Γ b z) (hc : isSgn c) (hm : behindInMarks .In b = false := by rfl) : ET X Γ (.Compare a [.In] [b] pos) (inS c z) := ⟨fun B G H σ hB hg l Q q =>
  wt (pt_cmpR op_in_sign pe pe hm) (ha B G H σ hB hg l _ fun v G1 H1 g1 r1 => hb B G1 H1 σ (hB.trans g1.h) g1.gh (l.grow g1) _ fun u G2 H2 g2 r2 => by
    obtain ⟨k, rfl⟩ := hc
    exact ⟨k, z, r1, r2, _, rfl, q G2 H2 (g1.trans g2)⟩)⟩
theorem et_ninS {c z : Str} (ha : EV X Γ a c) (hb : EV X Γ b z) (hc : isSgn c) (hm : behindInMarks .NotIn b = false := by rfl) : ET X Γ (.Compare a [.NotIn] [b] pos) (!inS c z) := ⟨fun B G H σ hB hg l Q q =>
  wt (pt_cmpR op_notIn_sign pe pe hm) (ha B G H σ hB hg l _ fun v G1 H1 g1 r1 => hb B G1 H1 σ (hB.trans g1.h) g1.gh (l.grow g1) _ fun u G2 H2 g2 r2 => by
    obtain ⟨k, rfl⟩ := hc
    exact ⟨k, z, r1, r2, _, rfl, q G2 H2 (g1.trans g2)⟩)⟩
theorem str_beq (x y : Str) : (x == y) = decide (x = y) := by
  by_cases h : x = y
  · subst h; simp
  · rw [decide_eq_false h]; simpa using h
/-- x in (y, z) of texts -/
theorem et_in2 {x y z : Str} (ha : EV X Γ a x) (hb : EV X Γ b (T2.mk y z)) (hm : behindInMarks .In b = false := by rfl) : ET X Γ (.Compare a [.In] [b] pos) (decide (y = x) || decide (z = x)) := ⟨fun B G H σ hB hg l Q q =>
  wt (pt_cmpR op_in_seq pe pe hm) (ha B G H σ hB hg l _ fun v G1 H1 g1 r1 => hb B G1 H1 σ (hB.trans g1.h) g1.gh (l.grow g1) _ fun u G2 H2 g2 r2 => by
    obtain ⟨p, v1, v2, rfl, hs, h1, h2⟩ := r2
    have e0 : v = .str x := r1
    have e1 : v1 = .str y := h1
    have e2 : v2 = .str z := h2
    subst e0 e1 e2
    refine ⟨p, _, rfl, .inr (seqT g2.gh hs), rfl, rfl, _, rfl, ?_⟩
    have e : inV (.str x) [.str y, .str z] = (decide (y = x) || decide (z = x)) := by
      show ((y == x) || ((z == x) || false)) = _
      rw [str_beq, str_beq, Bool.or_false]
    rw [if_neg (by decide), e]
    exact q G2 H2 (g1.trans g2))⟩
theorem et_nin2 {x y z : Str} (ha : EV X Γ a x) (hb : EV X Γ b (T2.mk y z)) (hm : behindInMarks .NotIn b = false := by rfl) : ET X Γ (.Compare a [.NotIn] [b] pos) (!(decide (y = x) || decide (z = x))) := ⟨fun B G H σ hB hg l Q q =>
  wt (pt_cmpR op_notIn_seq pe pe hm) (ha B G H σ hB hg l _ fun v G1 H1 g1 r1 => hb B G1 H1 σ (hB.trans g1.h) g1.gh (l.grow g1) _ fun u G2 H2 g2 r2 => by
    obtain ⟨p, v1, v2, rfl, hs, h1, h2⟩ := r2
    have e0 : v = .str x := r1
    have e1 : v1 = .str y := h1
    have e2 : v2 = .str z := h2
    subst e0 e1 e2
    refine ⟨p, _, rfl, .inr (seqT g2.gh hs), rfl, rfl, _, rfl, ?_⟩
    have e : inV (.str x) [.str y, .str z] = (decide (y = x) || decide (z = x)) := by
      show ((y == x) || ((z == x) || false)) = _
      rw [str_beq, str_beq, Bool.or_false]
    rw [if_pos rfl, e]
    exact q G2 H2 (g1.trans g2))⟩
theorem reps_strs {K : PySem.W.Frag} {G : Hp} : ∀ ys : List Str, Reps K G (ys.map V.str) ys
  | [] => .nil
  | _ :: r => .cons rfl (reps_strs r)
theorem strs_reps {K : PySem.W.Frag} {G : Hp} : ∀ {vs : List V} {ys : List Str}, Reps K G vs ys → vs = ys.map V.str
  | _, _, .nil => rfl
  | _, _, .cons r t => by rw [show _ = V.str _ from r, strs_reps t]; rfl
/-- s.split(sep), a new list -/
theorem en_split {apos : Pos} {x y : Str} (ha : EV X Γ a x) (hb : EV X Γ b y) (hy : (y.length == 0) = false) (hz : x.length ≤ 10000000) (hs : starEach [b] X.env = [(false, eval b X.env)] := by rfl) (hbase : attributeBase a "split" X.env (eval a X.env) = eval a X.env := by rfl) (hline : (apos.endLine == pos.line) = true := by rfl) :
    EN X Γ (.Call (.Attribute a "split" apos) [b] [] pos) (ML.mk (Txt.split x y)) := ⟨fun B G H σ hB hg l Q q =>
  we (pe_split pe pe hs hbase hline) (ha B G H σ hB hg l _ fun v G1 H1 g1 r1 => ⟨⟨x, r1⟩, hb B G1 H1 σ (hB.trans g1.h) g1.gh (l.grow g1) _ fun u G2 H2 g2 r2 =>
    ⟨x, y, r1, by rw [show u = V.str y from r2], hy, by rw [sizeLine_eq]; omega, fun p hp => q (.ref p) [p] G2 _ ((g1.trans g2).trans (Grow.own g2.gh hp)) (one_new ((g1.trans g2).h.free hp) (g2.gh.free hp)) ⟨p, _, rfl, rfl, upd_same, reps_strs _⟩⟩⟩)⟩
/-- sep.join(xs) -/
theorem ev_join {apos : Pos} {x : Str} {ys : List Str} (ha : EV X Γ a x) (hb : EV X Γ b ys) (hz : (ys.map (·.length)).sum + ys.length * x.length ≤ 10000000) (hs : starEach [b] X.env = [(false, eval b X.env)] := by rfl) (hbase : attributeBase a "join" X.env (eval a X.env) = eval a X.env := by rfl) (hline : (apos.endLine == pos.line) = true := by rfl) :
    EV X Γ (.Call (.Attribute a "join" apos) [b] [] pos) (Str.join x ys) := ⟨fun B G H σ hB hg l Q q =>
  we (pe_join pe pe hs hbase hline) (ha B G H σ hB hg l _ fun v G1 H1 g1 r1 => ⟨⟨x, r1⟩, hb B G1 H1 σ (hB.trans g1.h) g1.gh (l.grow g1) _ fun u G2 H2 g2 r2 => by
    obtain ⟨p, vs, rfl, hs, hr⟩ := r2
    rw [strs_reps hr] at hs
    exact ⟨x, p, ys, r1, rfl, .inl (Same.seq g2.gh hs), by omega, q _ G2 H2 (g1.trans g2) (by rw [TL.join_eq]; rfl)⟩⟩)⟩
/-- xs.extend(ys), ys a new list -/
theorem sv_extend (i : Nat) {α : Type} [Rp α] {xs ys : List α} {c e : Expr} (hp : PE X c (tBM X.K "list" rExtend (tVar i) (tCons (WE X e) tNil))) (h0 : Γ[i]? = some (.l xs)) (h : EN X Γ e (ML.mk ys)) (hz : xs.length + ys.length ≤ 10000000) (hs : swapsWith c none pos.line X.env = pure false := by rfl) :
    SV X Γ (.Expr c pos) (.nx (Γ.set i (.l (xs ++ ys)))) := ⟨fun B G H σ D hB hg l k => by
  obtain ⟨F, p, vs, lf, hF, e1, hbp, hgp, hh, r⟩ := ownL l h0
  refine ws (ps_expr hp hs) ⟨_, e1, .inl ⟨rfl, _, .inl (.inl hh)⟩, ?_⟩
  refine h B G H σ hB hg l _ fun v fp G1 H1 g1 hf ok => ?_
  obtain ⟨p2, ws2, rfl, rfl, hh2, r2⟩ := ok
  have l1 := r.len
  have l2 := r2.len
  refine ⟨p, p2, vs, ws2, rfl, rfl, g1.h _ _ hh, hh2, by rw [sizeLine_eq]; simp only at *; omega, ?_⟩
  have hgp1 := (g1.fr p _ hh).trans hgp
  exact k G1 _ ((g1.step hB).trans (Stp.mutL (hB.trans g1.h) g1.gh hbp hgp1)) σ ((lf.grow g1).mutL h0 hF e1 hbp hgp1 (paired_app (r.mono g1.g) r2))⟩
/-- an if that is not taken -/
theorem bv_ifF {x : Bool} (h : ET X Γ c x) (hx : x = false) (hr : BV X Γ rest o) : BV X Γ (.If c sts [] pos :: rest) o := by
  subst hx
  exact (bv_if (of := fun b => bif b then .rt (dt ()) else o) h (fun z => by cases z) trivial (fun _ => hr) : BV X Γ _ o)
theorem bv_cases {of : Bool → Out} (x : Bool) (hT : x = true → BV X Γ sts (of true)) (hF : x = false → BV X Γ sts (of false)) (ho : of x = o := by exact rfl) : BV X Γ sts o := by
  subst ho
  cases x with
  | true => exact hT rfl
  | false => exact hF rfl
/-- an if whose ways go on apart -/
theorem bv_ifd {x : Bool} {of : Bool → Out} (Γ1 Γ2 : List Slot) (h : ET X Γ c x) (h1 : x = true → BV X Γ sts (.nx Γ1)) (r1 : x = true → BV X Γ1 rest (of true)) (h2 : x = false → BV X Γ els (.nx Γ2)) (r2 : x = false → BV X Γ2 rest (of false)) (ho : of x = o := by exact rfl) : BV X Γ (.If c sts els pos :: rest) o := by
  subst ho
  cases x with
  | true => exact bv_if2 (Γ1 := Γ1) (Γ2 := Γ2) h (fun z => ⟨h1 rfl, r1 rfl⟩) (fun z => by cases z)
  | false => exact bv_if2 (Γ1 := Γ1) (Γ2 := Γ2) h (fun z => by cases z) (fun z => ⟨h2 rfl, r2 rfl⟩)
/-! ### a list of one's own under another name -/
theorem ev_ownRef (i : Nat) {α : Type} [Rp α] {p : Addr} {xs : List α} (hv : PE X e (tVar i)) (h0 : Γ[i]? = some (.o (MLp.mk p xs))) : EV X Γ e (Rf.mk p) := ⟨fun B G H σ hB hg l Q q => by
  obtain ⟨F, vs, lf, hF, e1, hbp, hgp, hh, r⟩ := ownP l h0
  exact we hv ⟨_, e1, q _ G H (Grow.refl hg) rfl⟩⟩
theorem bv_pin (i : Nat) {α : Type} [Rp α] {xs : List α} (h0 : Γ[i]? = some (.l xs)) (h : ∀ p : Addr, BV X (Γ.set i (.o (MLp.mk p xs))) sts o) : BV X Γ sts o := ⟨fun B G H σ D hB hg l k => by
  obtain ⟨F, p, vs, lf, hF, e1, hbp, hgp, hh, r⟩ := ownL l h0
  have lo := lf.mut (H' := H) (fp := [p]) (d' := ot (MLp.mk p xs)) h0 e1 (fun a _ o e => e) (fun a ha => by
    have : a = p := by simpa using ha
    subst this
    exact ⟨.inl (by rw [hF]; simp), hbp, hgp, _, hh⟩) ⟨vs, rfl, rfl, hh, r⟩
  exact h p B G H σ D hB hg lo k⟩
theorem Lo.unpin {K : PySem.W.Frag} {B G H : Hp} {σ : L2.St} {i : Nat} {α : Type} [Rp α] {p : Addr} {xs : List α} (l : Lo K B G H σ Γ) (h0 : Γ[i]? = some (.o (MLp.mk p xs))) : Lo K B G H σ (Γ.set i (.l xs)) := by
  obtain ⟨F, vs, lf, hF, e1, hbp, hgp, hh, r⟩ := ownP l h0
  exact lf.mut (H' := H) (fp := [p]) (d' := ot (ML.mk xs)) h0 e1 (fun a _ o e => e) (fun a ha => by
    have : a = p := by simpa using ha
    subst this
    exact ⟨.inl (by rw [hF]; simp), hbp, hgp, _, hh⟩) ⟨p, vs, rfl, rfl, hh, r⟩
theorem bv_unpin (i : Nat) {α : Type} [Rp α] {p : Addr} {xs : List α} (h0 : Γ'[i]? = some (.o (MLp.mk p xs))) (h : BV X Γ sts (.nx Γ')) : BV X Γ sts (.nx (Γ'.set i (.l xs))) := ⟨fun B G H σ D hB hg l k =>
  h B G H σ D hB hg l fun G' H' g σ' l' => k G' H' g σ' (l'.unpin h0)⟩
theorem sv_appAl (i j : Nat) {α : Type} [Rp α] {p : Addr} {xs : List α} {x : α} {c e : Expr} (hp : PE X c (tBM X.K "list" rAppend (tVar j) (tCons (WE X e) tNil))) (h0 : Γ[i]? = some (.o (MLp.mk p xs))) (hj : Γ[j]? = some (.v (Rf.mk p))) (h : EV X Γ e x) (hz : xs.length < 10000000) (hs : swapsWith c none pos.line X.env = pure false := by rfl) :
    SV X Γ (.Expr c pos) (.nx (Γ.set i (.o (MLp.mk p (xs ++ [x]))))) := ⟨fun B G H σ D hB hg l k => by
  obtain ⟨vj, ej, rj⟩ := l.val hj
  have rj : vj = .ref p := rj
  subst rj
  obtain ⟨F, vs, lf, hF, e1, hbp, hgp, hh, r⟩ := ownP l h0
  refine ws (ps_expr hp hs) ⟨_, ej, .inl ⟨rfl, _, .inl (.inl hh)⟩, ?_⟩
  refine h B G H σ hB hg l _ fun v G1 H1 g1 r1 => ?_
  refine ⟨p, vs, v, rfl, rfl, g1.h _ _ hh, by rw [r.len]; exact Nat.lt_of_lt_of_le hz (by decide), ?_⟩
  have hgp1 := (g1.fr p _ hh).trans hgp
  exact k G1 _ ((g1.step hB).trans (Stp.mutL (hB.trans g1.h) g1.gh hbp hgp1)) σ ((lf.grow g1).mutP h0 hF e1 hbp hgp1 (paired_app (r.mono g1.g) (.cons r1 .nil)))⟩
theorem ev_lenAl (i j : Nat) {α : Type} [Rp α] {p : Addr} {pn : Pos} {xs : List α} (hm : X.mg "len" = none) (hv : PE X a (tVar j)) (h0 : Γ[i]? = some (.o (MLp.mk p xs))) (hj : Γ[j]? = some (.v (Rf.mk p))) (hg : Gl X "len" := by rfl) (he : starEach [a] X.env = (false, eval a X.env) :: starEach [] X.env := by rfl) (hpl : (backTo pos (starEach [] X.env)).any (·.1) = false := by rfl) :
    EV X Γ (.Call (.Name "len" pn) [a] [] pos) (xs.length : Int) := ⟨fun B G H σ hB hgh l Q q => by
  obtain ⟨vj, ej, rj⟩ := l.val hj
  have rj : vj = .ref p := rj
  subst rj
  obtain ⟨F, vs, lf, hF, e1, hbp, hgp, hh, r⟩ := ownP l h0
  exact we (pe_callB call_len_seq hg hm PySem.boot_len (pa_cons hv pa_nil he) (by decide) (by decide) he hpl) ⟨_, ej, p, vs, rfl, .inl (SqL.of hh), q _ G H (Grow.refl hgh) (by rw [r.len]; rfl)⟩⟩
/-! ### tuples walked -/
theorem iters_tup {α : Type} [Rp α] {K : PySem.W.Frag} {G : Hp} {p : Addr} {vs : List V} {xs : List α} (hs : SqT K G p vs) (r : Reps K G vs xs) : Iters K (Itt K p) G xs := by
  refine ⟨fun i G2 H2 g h hi => ?_, fun G2 H2 g h => ⟨vs, seqT (g.trans h) hs, by rw [r.len]; exact Nat.le_refl _⟩⟩
  obtain ⟨v, hv, rv⟩ := paired_get2 r i xs[i] (List.getElem?_eq_getElem hi)
  refine ⟨⟨vs, v, seqT (g.trans h) hs, hv⟩, fun u H3 hy => ?_⟩
  obtain ⟨e, hy⟩ := hy
  subst e
  have e2 := hy vs (seqT (g.trans h) hs)
  rw [hv] at e2
  cases e2
  exact ⟨G2, xs[i], Grow.refl h, List.getElem?_eq_getElem hi, Rp.mono g rv⟩
theorem iv_tup3 {α : Type} [Rp α] {x : T3 α α α} (h : EV X Γ iter x) : IV X Γ tg iter [x.a, x.b, x.c] := ⟨fun B G H σ hB hg l R q =>
  wi (pi_tup pe) (h B G H σ hB hg l _ fun v G1 H1 g1 r1 => by
    obtain ⟨p, v1, v2, v3, e, hs, h1, h2, h3⟩ := r1
    exact ⟨p, e, ⟨_, seqT g1.gh hs⟩, q _ G1 H1 g1 (iters_tup hs (.cons h1 (.cons h2 (.cons h3 .nil))))⟩)⟩
end
/-! ### defs that change two lists that they are handed -/
def MSp2 {α β : Type} [Rp α] [Rp β] (K : PySem.W.Frag) (R : List α → List β → List Dat → List α → List β → Prop) : Sp := fun vs H Q _ => ∃ (G : Hp) (p q : Addr) (us vs0 ws : List V) (xs : List α) (ys : List β) (ds : List Dat) (xs' : List α) (ys' : List β),
  vs = .ref p :: .ref q :: ws ∧ Same G H ∧ p ≠ q ∧ H p = some (.lst us) ∧ G p = none ∧ H q = some (.lst vs0) ∧ G q = none ∧ Reps K G us xs ∧ Reps K G vs0 ys ∧ DatsOk K G ws ds ∧ R xs ys ds xs' ys' ∧
  ∀ (G' H' : Hp), Same (delH (delH H p) q) H' → Same G G' → Same G' H' → G' p = none → G' q = none → (∀ a o, a ≠ p → a ≠ q → H a = some o → Nt o → G' a = G a) → (∃ us', H' p = some (.lst us') ∧ Reps K G' us' xs') → (∃ vs', H' q = some (.lst vs') ∧ Reps K G' vs' ys') → Q .non H'
section
variable {P : Program} {w : World} {K : PySem.W.Frag} {mg : Str → Option Value} {base : Heap}
theorem Lo.toOwn1 {K : PySem.W.Frag} {B B' G H : Hp} {σ : L2.St} {Γ : List Slot} {j : Nat} (l : Lo K B G H σ Γ) {v : V} {d : Odat} {fp : List Addr} (h0 : σ[j]? = some (some v)) (hBB : ∀ a, B a = none → B' a = none) (hf : ∀ a ∈ fp, B a ≠ none ∧ B' a = none ∧ G a = none ∧ ∃ ho, H a = some ho) (r : d.ok K G H v fp) : Lo K B' G H σ (Γ.set j (.own d)) := by
  obtain ⟨F, l⟩ := l
  refine ⟨fun k => if k = j then fp else F k, by simp [l.len], fun k s e => ?_, fun k m s t hkm hk hm hs ht a ha hb => ?_⟩
  · rcases set_get e with ⟨rfl, rfl, hi⟩ | ⟨hij, e⟩
    · exact ⟨_, h0, v, rfl, by rw [if_pos rfl]; exact fun a ha => (hf a ha).2, by rw [if_pos rfl]; exact r⟩
    · obtain ⟨o, h1, h2⟩ := l.ok k s e
      refine ⟨o, h1, ?_⟩
      rw [if_neg (Ne.symm hij)]
      cases s with
      | any => trivial
      | val _ => exact h2
      | own d2 =>
        obtain ⟨v2, e2, hf2, r2⟩ := h2
        exact ⟨v2, e2, fun a ha => ⟨hBB a (hf2 a ha).1, (hf2 a ha).2⟩, r2⟩
  · have old : ∀ n s, Γ[n]? = some s → s.isOwn = true → ∀ a ∈ F n, B a = none := fun n s e hs a ha => by
      obtain ⟨o, h1, h2⟩ := l.ok n s e
      cases s with
      | any => cases hs
      | val _ => cases hs
      | own d2 => obtain ⟨v2, e2, hf2, r2⟩ := h2; exact (hf2 a ha).1
    rcases set_get hk with ⟨rfl, rfl, _⟩ | ⟨hij, hk⟩
    · rcases set_get hm with ⟨rfl, _, _⟩ | ⟨him, hm⟩
      · exact hkm rfl
      · simp only [if_pos] at ha
        simp only [if_neg (Ne.symm him)] at hb
        exact (hf a ha).1 (old m t hm ht a hb)
    · simp only [if_neg (Ne.symm hij)] at ha
      rcases set_get hm with ⟨rfl, rfl, _⟩ | ⟨him, hm⟩
      · simp only [if_pos] at hb
        exact (hf a hb).1 (old k s hk hs a ha)
      · simp only [if_neg (Ne.symm him)] at hb
        exact l.sep k m s t hkm hk hm hs ht a ha hb
theorem fn_mut2 {α β : Type} [Rp α] [Rp β] {x qual : Str} {st : Stmt} {f : Addr} {fd : FuncData} {N ps : List Str} {k : Nat} {R : List α → List β → List Dat → List α → List β → Prop} (F : Fun K x qual st f fd) (S : FnScope N ps (defScope st)) (len : ∀ xs ys ds xs' ys', R xs ys ds xs' ys' → ds.length + 2 = ps.length)
    (body : ∀ (cdv : Value) (A : Around) (outer : List Env) (s : Shared) (H : Hp) (E : XK) (p q : Addr) (xs : List α) (ys : List β) (ds : List Dat) (xs' : List α) (ys' : List β), Room k (A.deeper (envOfC qual (defScope st) s.heap.objs.size f cdv)) → R xs ys ds xs' ys' →
      ∃ Γ', Γ'[0]? = some (.o (MLp.mk p xs')) ∧ Γ'[1]? = some (.o (MLp.mk q ys')) ∧ BV (cxOf CX0 P w K mg base N qual (defScope st) f cdv A outer s H E).nox (((slots (dNo :: dNo :: ds) N.length).set 0 (.o (MLp.mk p xs))).set 1 (.o (MLp.mk q ys))) (defBody st) (.nx Γ')) : FnOk P w K mg base CX0 (k + 1) f fd ps (MSp2 K R) :=
  F.ok S (fun vs H Q E h => by
    obtain ⟨G, p, q, us, vs0, ws, xs, ys, ds, xs', ys', rfl, _, _, _, _, _, _, _, _, r, hR, _⟩ := h
    rw [List.length_cons, List.length_cons, r.len]
    exact len _ _ _ _ _ hR) (fun cdv A outer s H vs Q E hr h => by
    obtain ⟨G, p, q, us, vs0, ws, xs, ys, ds, xs', ys', rfl, hg, hpq, hp, hgp, hq, hgq, hx, hy, r, hR, qq⟩ := h
    have lo : Lo K H G H (L2.start N (.ref p :: .ref q :: ws)) (slots (dNo :: dNo :: ds) N.length) := lo_start (.cons trivial (.cons trivial r))
    have lo2 : Lo K (delH H p) G H (L2.start N (.ref p :: .ref q :: ws)) ((slots (dNo :: dNo :: ds) N.length).set 0 (.o (MLp.mk p xs))) := lo.toOwn slots_noown (v := .ref p) (fp := [p]) rfl (fun a ha => by
      have : a = p := by simpa using ha
      subst this
      exact ⟨delH_same, hgp, _, hp⟩) ⟨us, rfl, rfl, hp, hx⟩
    have lo3 : Lo K (delH (delH H p) q) G H (L2.start N (.ref p :: .ref q :: ws)) (((slots (dNo :: dNo :: ds) N.length).set 0 (.o (MLp.mk p xs))).set 1 (.o (MLp.mk q ys))) := lo2.toOwn1 (v := .ref q) (fp := [q]) rfl (fun a e => by
        by_cases haq : a = q
        · rw [haq]; exact delH_same
        · rw [delH_ne haq]; exact e) (fun a ha => by
      have : a = q := by simpa using ha
      subst this
      exact ⟨by rw [delH_ne (Ne.symm hpq), hq]; simp, delH_same, hgq, _, hq⟩) ⟨vs0, rfl, rfl, hq, hy⟩
    obtain ⟨Γ', g0, g1, hb⟩ := body cdv A outer s H E p q xs ys ds xs' ys' hr hR
    have hsame : Same (delH (delH H p) q) H := fun b u e => delH_sub b u (delH_sub b u e)
    refine ⟨_, pss, hb (delH (delH H p) q) G H _ _ hsame hg lo3 fun G' H' st σ' l' => ?_⟩
    obtain ⟨F', us', lf, hF, e1, hbp, hgp', hh, rr⟩ := ownP l' g0
    obtain ⟨F2, vs', lf2, hF2, e2, hbq, hgq', hh2, rr2⟩ := ownP l' g1
    exact qq G' H' st.b st.g st.gh hgp' hgq' (fun a o h1 h2 e n => st.fr a o (by rw [delH_ne h2, delH_ne h1]; exact e) n) ⟨us', hh, rr⟩ ⟨vs', hh2, rr2⟩)
end
structure FnAtM2 {α β : Type} [Rp α] [Rp β] (P : Program) (w : World) (K : PySem.W.Frag) (mg : Str → Option Value) (base : Heap) (x : Str) (k : Nat) (ps : List Str) (R : List α → List β → List Dat → List α → List β → Prop) : Prop where
  ex : ∃ f fd, FnOk P w K mg base CX0 k f fd ps (MSp2 K R) ∧ mg x = some (.ref f) ∧ PySem.W.keepIn K (.ref f) = true ∧ Binds K fd ps []
section
variable {X : Cx} {Γ Γ' : List Slot} {es : List Expr} {pos pos' : Pos}
theorem sv_proc2 (i j : Nat) {k m : Nat} {ps : List Str} {α β : Type} [Rp α] [Rp β] {R : List α → List β → List Dat → List α → List β → Prop} {x : Str} {p : Pos} {xs xs' : List α} {ys ys' : List β} {ds : List Dat} {n1 n2 : Expr} (F : FnAtM2 X.prog X.w X.K X.mg X.base x k ps R) (hr : Room m X.A) (hj : k ≤ m) (hij : i ≠ j)
    (hv : PE X n1 (tVar i)) (hv2 : PE X n2 (tVar j)) (h0 : Γ[i]? = some (.l xs)) (h1 : Γ[j]? = some (.l ys)) (ha : EA X Γ es ds) (hR : R xs ys ds xs' ys') (hg : Gl X x := by rfl) (hdb : (x == ("__debug__" : Str)) = false := by decide)
    (he : starEach (n1 :: n2 :: es) X.env = (false, eval n1 X.env) :: starEach (n2 :: es) X.env := by rfl) (he2 : starEach (n2 :: es) X.env = (false, eval n2 X.env) :: starEach es X.env := by rfl) (hpl : (backTo pos (starEach (n2 :: es) X.env)).any (·.1) = false := by rfl)
    (hs : swapsWith (.Call (.Name x p) (n1 :: n2 :: es) [] pos) none pos'.line X.env = pure false := by rfl) : SV X Γ (.Expr (.Call (.Name x p) (n1 :: n2 :: es) [] pos) pos') (.nx ((Γ.set i (.l xs')).set j (.l ys'))) := ⟨fun B G H σ D hB hgh l kk => by
  obtain ⟨f, fd, F1, hm, hk, hb⟩ := F.ex
  obtain ⟨Fp, pp, vs, lf, hF, e1, hbp, hgp, hh, r⟩ := ownL l h0
  obtain ⟨w, ew, hfj, q2, vs2, ew2, hFj0, hh2, r2⟩ : ∃ w, σ[j]? = some (some w) ∧ (∀ a ∈ Fp j, B a = none ∧ G a = none ∧ ∃ ho, H a = some ho) ∧ ∃ q vs, w = .ref q ∧ Fp j = [q] ∧ H q = some (.lst vs) ∧ Reps X.K G vs ys := by
    obtain ⟨o, a1, v, a2, a3, q, vs, a4, a5, a6, a7⟩ := lf.ok j _ h1
    exact ⟨v, by rw [a1, a2], a3, q, vs, a4, a5, a6, a7⟩
  subst ew2
  have hq := hfj q2 (by rw [hFj0]; simp)
  have hpq : pp ≠ q2 := fun z => lf.sep i j _ _ hij h0 h1 rfl rfl pp (by rw [hF]; simp) (by rw [hFj0, z]; simp)
  refine ws (ps_expr (pe_call F1 (hr.mono hj) hg hm hk hb .nil pass0 (pa_cons hv (pa_cons hv2 pa he2) he) hdb he hpl) hs) ⟨_, e1, _, ew, ha B G H σ hB hgh l _ fun ws G1 H1 g1 r1 => ?_⟩
  have hh1 := g1.h _ _ hh
  have hh3 := g1.h _ _ hh2
  have hgp1 : G1 pp = none := (g1.fr pp _ hh).trans hgp
  have hgq1 : G1 q2 = none := (g1.fr q2 _ hh2).trans hq.2.1
  show MSp2 X.K R ((V.ref pp :: V.ref q2 :: ws) ++ []) H1 _ _
  rw [List.append_nil]
  refine ⟨G1, pp, q2, vs, vs2, ws, xs, ys, ds, xs', ys', rfl, g1.gh, hpq, hh1, hgp1, hh3, hgq1, r.mono g1.g, r2.mono g1.g, r1, hR, fun G2 H2 s1 s2 s3 s4 s4' s5 s6 s6' => ?_⟩
  obtain ⟨us', t1, t2⟩ := s6
  obtain ⟨vs', t3, t4⟩ := s6'
  have lf1 := lf.grow g1
  have hB1 := hB.trans g1.h
  have hBp : ∀ b u, B b = some u → b ≠ pp := fun b u e z => by rw [z, hbp] at e; cases e
  have hBq : ∀ b u, B b = some u → b ≠ q2 := fun b u e z => by rw [z, hq.1] at e; cases e
  have stp : Stp B G1 G2 H2 := ⟨fun b u e => s1 b u (by rw [delH_ne (hBq b u e), delH_ne (hBp b u e)]; exact hB1 b u e), s2, s3, fun b u e n => s5 b u (hBp b u e) (hBq b u e) (hB1 b u e) n⟩
  refine kk G2 H2 ((g1.step hB).trans stp) σ ?_
  refine ⟨fun n => if n = i then [pp] else if n = j then [q2] else Fp n, by simp [lf1.len], fun n s e => ?_, fun n n' s t hnn hn hn' hs ht a ha hb => ?_⟩
  · rcases set_get e with ⟨rfl, rfl, hi'⟩ | ⟨hjn, e⟩
    · rw [if_neg (Ne.symm hij), if_pos rfl]
      exact ⟨_, ew, .ref q2, rfl, fun a ha => by
        have : a = q2 := by simpa using ha
        subst this
        exact ⟨hq.1, s4', _, t3⟩, q2, vs', rfl, rfl, t3, t4⟩
    · rcases set_get e with ⟨rfl, rfl, hi'⟩ | ⟨hin, e⟩
      · rw [if_pos rfl]
        exact ⟨_, e1, .ref pp, rfl, fun a ha => by
          have : a = pp := by simpa using ha
          subst this
          exact ⟨hbp, s4, _, t1⟩, pp, us', rfl, rfl, t1, t2⟩
      · rw [if_neg (Ne.symm hin), if_neg (Ne.symm hjn)]
        obtain ⟨o, h3, h4⟩ := lf1.ok n s e
        refine ⟨o, h3, ?_⟩
        cases s with
        | any => trivial
        | val d => obtain ⟨v, e, r⟩ := h4; exact ⟨v, e, Dat.mono s2 r⟩
        | own d2 =>
          obtain ⟨v2, e2, hf2, r2⟩ := h4
          have ne : ∀ a ∈ Fp n, a ≠ pp ∧ a ≠ q2 := fun a ha => ⟨fun z => lf1.sep n i _ _ (Ne.symm hin) e h0 rfl rfl a ha (by rw [hF, z]; simp), fun z => lf1.sep n j _ _ (Ne.symm hjn) e h1 rfl rfl a ha (by rw [hFj0, z]; simp)⟩
          refine ⟨v2, e2, fun a ha => ?_, Odat.mono s2 (fun a ha => ?_) r2⟩
          · obtain ⟨q1, q2', ho, q3⟩ := hf2 a ha
            exact ⟨q1, (s5 a ho (ne a ha).1 (ne a ha).2 q3 (Odat.nt r2 a ha ho q3)).trans q2', ho, s1 a ho (by rw [delH_ne (ne a ha).2, delH_ne (ne a ha).1]; exact q3)⟩
          · obtain ⟨q1, q2', ho, q3⟩ := hf2 a ha
            rw [s1 a ho (by rw [delH_ne (ne a ha).2, delH_ne (ne a ha).1]; exact q3), q3]
  · have fp : ∀ n, (if n = i then [pp] else if n = j then [q2] else Fp n) = Fp n := fun n => by
      split
      · rename_i z; rw [z, hF]
      · split
        · rename_i z; rw [z, hFj0]
        · rfl
    simp only [fp] at ha hb
    have key : ∀ (n : Nat) (s : Slot), ((Γ.set i (Slot.l xs')).set j (Slot.l ys'))[n]? = some s → s.isOwn = true → ∃ t : Slot, Γ[n]? = some t ∧ t.isOwn = true := fun n s e hs => by
      rcases set_get e with ⟨rfl, rfl, _⟩ | ⟨hjn, e⟩
      · exact ⟨_, h1, rfl⟩
      · rcases set_get e with ⟨rfl, rfl, _⟩ | ⟨hin, e⟩
        · exact ⟨_, h0, rfl⟩
        · exact ⟨s, e, hs⟩
    obtain ⟨s', k1, k2⟩ := key n s hn hs
    obtain ⟨t', k3, k4⟩ := key n' t hn' ht
    exact lf1.sep n n' s' t' hnn k1 k3 k2 k4 a ha hb⟩
end
end Wl

set_option maxRecDepth 100000
set_option maxHeartbeats 2000000
/-! works as texts -/
namespace Wl
open PySem PySem.Spec PyProof.Rows L2
theorem numS_tl (n : Nat) : TL.tl (numS (n : Int)) = TL.numL n := TL.tl_num n
theorem str_len (z : Str) : z.length = (TL.tl z).length := TL.len_tl z
/-- a text that writes a number of at most ten figures -/
def NumW (z : Str) : Prop := ∃ n : Nat, n < 10 ^ 10 ∧ z = numS n
theorem numW {n : Int} (h0 : 0 ≤ n) (h1 : n < 10 ^ 10) : NumW (numS n) := ⟨n.toNat, by omega, by rw [Int.toNat_of_nonneg h0]⟩
theorem numS_len {n : Nat} (h : n < 10 ^ 10) : 1 ≤ (numS n).length ∧ (numS n).length ≤ 10 := by
  rw [str_len, numS_tl]
  refine ⟨?_, TL.numL_len (by decide) h⟩
  have := TL.numL_ne n
  cases hl : TL.numL n with
  | nil => exact absurd hl this
  | cons a r => simp
theorem numS_some {n : Nat} (h : n < 10 ^ 10) : PySem.intText? (numS n) = some (n : Int) := TL.int_num (Nat.le_trans (TL.numL_len (by decide) h) (by decide))
theorem numS_int {n : Int} (h0 : 0 ≤ n) (h1 : n < 10 ^ 10) : intS (numS n) = n := by
  unfold intS
  have := numS_some (n := n.toNat) (by omega)
  rw [Int.toNat_of_nonneg h0] at this
  rw [this]; rfl
theorem sgns_is {z x : Str} (h : x ∈ signs z) : ∃ k ∈ TL.tl z, x = ⟨#[k]⟩ := by
  unfold signs at h
  obtain ⟨k, hk, e⟩ := List.mem_map.mp h
  exact ⟨k, hk, e.symm⟩
theorem fig_in {k : Nat} (h : 48 ≤ k ∧ k ≤ 57) : inS ⟨#[k]⟩ (Str.ofString "0123456789") = true := by
  unfold inS
  have e : (Str.ofString "0123456789").cps.toList = [48, 49, 50, 51, 52, 53, 54, 55, 56, 57] := by decide +kernel
  rw [e]
  refine decide_eq_true ?_
  show k ∈ _
  simp only [List.mem_cons, List.not_mem_nil, or_false]
  omega
theorem numS_fig {n : Nat} {x : Str} (h : x ∈ signs (numS n)) : isSgn x ∧ inS x (Str.ofString "0123456789") = true := by
  obtain ⟨k, hk, e⟩ := sgns_is h
  rw [numS_tl] at hk
  have := TL.numL_digits n k hk
  rw [e]
  exact ⟨⟨k, rfl⟩, fig_in (by simpa using this)⟩
theorem numL_head : ∀ (m n : Nat), n ≤ m → 0 < n → (TL.numL n).getD 0 0 ≠ 48
  | 0, n, h, h0 => by omega
  | m + 1, n, h, h0 => by
    by_cases hn : n < 10
    · rw [TL.numL_lt hn]
      show 48 + n ≠ 48
      omega
    · rw [TL.numL_step (by omega)]
      have ih := numL_head m (n / 10) (by omega) (by omega)
      have := TL.numL_ne (n / 10)
      cases hl : TL.numL (n / 10) with
      | nil => exact absurd hl this
      | cons a r => rw [hl] at ih; exact ih
theorem numS_lead {n : Nat} : (decide (sgn (numS n) (0 : Int) = Str.ofString "0") && !decide (numS n = Str.ofString "0")) = false := by
  by_cases h0 : n = 0
  · subst h0
    have e : numS ((0 : Nat) : Int) = Str.ofString "0" := rfl
    rw [e]
    simp
  · have h1 := numL_head n n (Nat.le_refl _) (by omega)
    have : ¬ sgn (numS n) (0 : Int) = Str.ofString "0" := fun z => by
      have z2 := congrArg TL.tl z
      have e : TL.tl (Str.ofString "0") = [48] := by decide +kernel
      rw [e] at z2
      have z3 : [(TL.tl (numS n)).getD (0 : Int).toNat 0] = [48] := z2
      rw [numS_tl] at z3
      injection z3 with z4 _
      exact h1 z4
    rw [decide_eq_false this]
    rfl
theorem log_ok {n : Int} (h0 : 0 ≤ n) (h1 : n < 10 ^ 10) : n.natAbs.log2 < 1920 := by
  have h : n.natAbs < 2 ^ 40 := by
    have : n.natAbs = n.toNat := by omega
    omega
  by_cases hz : n.natAbs = 0
  · rw [hz]; decide
  · have := (Nat.log2_lt hz).mpr h
    omega
/-! ### rows -/
def rowT (kind : Str) (s : T3 Int Int Int) : Str := Str.join (Str.ofString " ") [kind, numS s.a, numS s.b, numS s.c]
def gapT (g : Int) : Str := Str.ofString "gap " ++ numS g
def hotW : Str := Str.ofString "hot"
def coldW : Str := Str.ofString "cold"
abbrev WksT := T3 Int (List (T3 Int Int Int)) (List (T3 Int Int Int))
def rowsT (w : WksT) : List Str := gapT w.a :: (w.b.map (rowT hotW) ++ w.c.map (rowT coldW))
def textT (w : WksT) : Str := Str.join (Str.ofString "\n") (rowsT w)
structure HotS (s : T3 Int Int Int) : Prop where
  a0 : 0 ≤ s.b
  a1 : s.b < s.a
  a2 : s.a ≤ 200
  a3 : 1 ≤ s.c
  a4 : s.c ≤ 1000000000
structure ColdS (s : T3 Int Int Int) : Prop where
  a0 : 0 ≤ s.a
  a1 : s.a < s.b
  a2 : s.b ≤ 200
  a3 : 1 ≤ s.c
  a4 : s.c ≤ 1000000000
structure WorksS (w : WksT) : Prop where
  g0 : 0 ≤ w.a
  g1 : w.a ≤ 50
  nh : w.b.length ≤ 12
  nc : w.c.length ≤ 12
  h : ∀ s ∈ w.b, HotS s
  c : ∀ s ∈ w.c, ColdS s
/-- numbers of a stream -/
structure NumS (s : T3 Int Int Int) : Prop where
  a0 : 0 ≤ s.a
  a1 : s.a ≤ 200
  b0 : 0 ≤ s.b
  b1 : s.b ≤ 200
  c0 : 1 ≤ s.c
  c1 : s.c ≤ 1000000000
theorem HotS.num {s : T3 Int Int Int} (h : HotS s) : NumS s := by
  have := h.a0; have := h.a1; have := h.a2; have := h.a3; have := h.a4
  exact ⟨by omega, by omega, by omega, by omega, by omega, by omega⟩
theorem ColdS.num {s : T3 Int Int Int} (h : ColdS s) : NumS s := by
  have := h.a0; have := h.a1; have := h.a2; have := h.a3; have := h.a4
  exact ⟨by omega, by omega, by omega, by omega, by omega, by omega⟩
theorem numS_free {n : Int} {k : Nat} (h0 : 0 ≤ n) (hk : k < 48 ∨ 57 < k) : k ∉ TL.tl (numS n) := by
  rw [← Int.toNat_of_nonneg h0, numS_tl]
  exact TL.numL_free hk
theorem hotW_tl : TL.tl hotW = [104, 111, 116] := by decide +kernel
theorem coldW_tl : TL.tl coldW = [99, 111, 108, 100] := by decide +kernel
def KindW (k : Str) : Prop := k = hotW ∨ k = coldW
theorem kind_free {k : Str} (h : KindW k) {c : Nat} (hc : c < 97) : c ∉ TL.tl k := by
  rcases h with e | e <;> rw [e]
  · rw [hotW_tl]; simp; omega
  · rw [coldW_tl]; simp; omega
theorem blank_tl : TL.tl (Str.ofString " ") = [32] := by decide +kernel
theorem feed_tl : TL.tl (Str.ofString "\n") = [10] := by decide +kernel
theorem split_row {k : Str} {s : T3 Int Int Int} (hk : KindW k) (hs : NumS s) : Txt.split (rowT k s) (Str.ofString " ") = [k, numS s.a, numS s.b, numS s.c] := by
  have h := TL.split_join (y := Str.ofString " ") (s := 32) (S := []) blank_tl (by decide +kernel) (parts := [k, numS s.a, numS s.b, numS s.c]) (by simp) (fun p hp => by
    have hp : p = k ∨ p = numS s.a ∨ p = numS s.b ∨ p = numS s.c := by simpa using hp
    rcases hp with e | e | e | e <;> rw [e]
    · exact kind_free hk (by decide)
    · exact numS_free hs.a0 (.inl (by decide))
    · exact numS_free hs.b0 (.inl (by decide))
    · exact numS_free (by have := hs.c0; omega) (.inl (by decide)))
  rw [TL.join_eq] at h
  exact h
theorem gapT_join (g : Int) : gapT g = Str.join (Str.ofString " ") [Str.ofString "gap", numS g] := by
  apply TL.ext_tl
  unfold gapT
  rw [TL.tl_append, TL.tl_join, blank_tl]
  have e1 : TL.tl (Str.ofString "gap ") = [103, 97, 112, 32] := by decide +kernel
  have e2 : TL.tl (Str.ofString "gap") = [103, 97, 112] := by decide +kernel
  show _ = TL.joinL [32] [TL.tl (Str.ofString "gap"), TL.tl (numS g)]
  rw [e1, e2]
  rfl
theorem split_gap {g : Int} (h0 : 0 ≤ g) : Txt.split (gapT g) (Str.ofString " ") = [Str.ofString "gap", numS g] := by
  have e2 : TL.tl (Str.ofString "gap") = [103, 97, 112] := by decide +kernel
  have h := TL.split_join (y := Str.ofString " ") (s := 32) (S := []) blank_tl (by decide +kernel) (parts := [Str.ofString "gap", numS g]) (by simp) (fun p hp => by
    have hp : p = Str.ofString "gap" ∨ p = numS g := by simpa using hp
    rcases hp with e | e <;> rw [e]
    · rw [e2]; decide
    · exact numS_free h0 (.inl (by decide)))
  rw [TL.join_eq] at h
  rw [gapT_join]
  exact h
theorem joinL_free {c : Nat} {S : List Nat} (hS : c ∉ S) : ∀ {parts : List (List Nat)}, (∀ p ∈ parts, c ∉ p) → c ∉ TL.joinL S parts
  | [], _ => by simp [TL.joinL]
  | [p], h => by simpa [TL.joinL] using h p (by simp)
  | p :: q :: r, h => by
    have ih := joinL_free hS (parts := q :: r) fun x hx => h x (by simp [hx])
    show c ∉ p ++ (S ++ TL.joinL S (q :: r))
    rw [List.mem_append, List.mem_append]
    rintro (z | z | z)
    · exact h p (by simp) z
    · exact hS z
    · exact ih z
theorem row_free {k : Str} {s : T3 Int Int Int} (hk : KindW k) (hs : NumS s) : 10 ∉ TL.tl (rowT k s) := by
  unfold rowT
  rw [TL.tl_join, blank_tl]
  refine joinL_free (by decide) fun p hp => ?_
  have hp : p = TL.tl k ∨ p = TL.tl (numS s.a) ∨ p = TL.tl (numS s.b) ∨ p = TL.tl (numS s.c) := by simpa using hp
  rcases hp with e | e | e | e <;> rw [e]
  · exact kind_free hk (by decide)
  · exact numS_free hs.a0 (.inl (by decide))
  · exact numS_free hs.b0 (.inl (by decide))
  · exact numS_free (by have := hs.c0; omega) (.inl (by decide))
theorem gap_free {g : Int} (h0 : 0 ≤ g) : 10 ∉ TL.tl (gapT g) := by
  unfold gapT
  rw [TL.tl_append, List.mem_append]
  have e1 : TL.tl (Str.ofString "gap ") = [103, 97, 112, 32] := by decide +kernel
  rintro (z | z)
  · rw [e1] at z; exact absurd z (by decide)
  · exact numS_free h0 (.inl (by decide)) z
theorem split_text {w : WksT} (h : WorksS w) : Txt.split (textT w) (Str.ofString "\n") = rowsT w := by
  have q := TL.split_join (y := Str.ofString "\n") (s := 10) (S := []) feed_tl (by decide +kernel) (parts := rowsT w) (by unfold rowsT; simp) (fun p hp => by
    unfold rowsT at hp
    rcases List.mem_cons.mp hp with e | hp
    · rw [e]; exact gap_free h.g0
    · rcases List.mem_append.mp hp with hp | hp
      · obtain ⟨s, hs, e⟩ := List.mem_map.mp hp
        rw [← e]; exact row_free (.inl rfl) (h.h s hs).num
      · obtain ⟨s, hs, e⟩ := List.mem_map.mp hp
        rw [← e]; exact row_free (.inr rfl) (h.c s hs).num)
  rw [TL.join_eq] at q
  exact q
/-! ### lengths -/
theorem num_le {n : Int} (h0 : 0 ≤ n) (h1 : n < 10 ^ 10) : (numS n).length ≤ 10 := by
  have h := (numS_len (n := n.toNat) (by omega)).2
  rw [Int.toNat_of_nonneg h0] at h
  exact h
theorem joinL_len (S : List Nat) : ∀ parts : List (List Nat), (TL.joinL S parts).length ≤ (parts.map (·.length)).sum + parts.length * S.length
  | [] => Nat.zero_le _
  | [p] => by simp [TL.joinL]
  | p :: q :: r => by
    have ih := joinL_len S (q :: r)
    show (p ++ (S ++ TL.joinL S (q :: r))).length ≤ _
    rw [List.length_append, List.length_append, List.map_cons, List.sum_cons, List.length_cons, Nat.succ_mul]
    omega
theorem kind_len {k : Str} (h : KindW k) : k.length ≤ 4 := by
  rcases h with e | e <;> rw [e, str_len]
  · rw [hotW_tl]; decide
  · rw [coldW_tl]; decide
theorem row_len {k : Str} {s : T3 Int Int Int} (hk : KindW k) (hs : NumS s) : (rowT k s).length ≤ 38 := by
  rw [str_len]
  unfold rowT
  rw [TL.tl_join, blank_tl]
  have h := joinL_len [32] ([k, numS s.a, numS s.b, numS s.c].map TL.tl)
  have h1 := kind_len hk
  have h2 := num_le hs.a0 (by have := hs.a1; omega)
  have h3 := num_le hs.b0 (by have := hs.b1; omega)
  have h4 := num_le (n := s.c) (by have := hs.c0; omega) (by have := hs.c1; omega)
  rw [str_len] at h1 h2 h3 h4
  simp only [List.map_cons, List.map_nil, List.sum_cons, List.sum_nil, List.length_cons, List.length_nil] at h
  show (TL.joinL [32] [TL.tl k, TL.tl (numS s.a), TL.tl (numS s.b), TL.tl (numS s.c)]).length ≤ 38
  omega
theorem gap_len {g : Int} (h0 : 0 ≤ g) (h1 : g ≤ 50) : (gapT g).length ≤ 14 := by
  have h := num_le h0 (by omega)
  rw [str_len] at h ⊢
  unfold gapT
  rw [TL.tl_append, List.length_append]
  have e1 : TL.tl (Str.ofString "gap ") = [103, 97, 112, 32] := by decide +kernel
  rw [e1]
  simp only [List.length_cons, List.length_nil]
  omega
theorem sum_le {α : Type} (f : α → Nat) (k : Nat) : ∀ xs : List α, (∀ x ∈ xs, f x ≤ k) → (xs.map f).sum ≤ k * xs.length
  | [], _ => by simp
  | x :: r, h => by
    have ih := sum_le f k r fun y hy => h y (by simp [hy])
    have := h x (by simp)
    rw [List.map_cons, List.sum_cons, List.length_cons, Nat.mul_succ]
    omega
theorem rows_len {w : WksT} (h : WorksS w) : (rowsT w).length ≤ 25 ∧ ∀ r ∈ rowsT w, r.length ≤ 38 := by
  have := h.nh
  have := h.nc
  refine ⟨by unfold rowsT; rw [List.length_cons, List.length_append, List.length_map, List.length_map]; omega, fun r hr => ?_⟩
  unfold rowsT at hr
  rcases List.mem_cons.mp hr with e | hp
  · rw [e]; have := gap_len h.g0 h.g1; omega
  · rcases List.mem_append.mp hp with hp | hp
    · obtain ⟨s, hs, e⟩ := List.mem_map.mp hp
      rw [← e]; exact row_len (.inl rfl) (h.h s hs).num
    · obtain ⟨s, hs, e⟩ := List.mem_map.mp hp
      rw [← e]; exact row_len (.inr rfl) (h.c s hs).num
theorem join_len (x : Str) (ys : List Str) : (Str.join x ys).length ≤ (ys.map (·.length)).sum + ys.length * x.length := by
  rw [str_len, TL.tl_join]
  have h := joinL_len (TL.tl x) (ys.map TL.tl)
  rw [List.map_map, List.length_map] at h
  rw [str_len x]
  have e : (ys.map (·.length)) = ys.map (List.length ∘ TL.tl) := List.map_congr_left fun y _ => str_len y
  rw [e]; exact h
theorem text_len {w : WksT} (h : WorksS w) : (textT w).length ≤ 1000 := by
  obtain ⟨h1, h2⟩ := rows_len h
  have h3 := join_len (Str.ofString "\n") (rowsT w)
  have h4 := sum_le (·.length) 38 (rowsT w) h2
  have e : (Str.ofString "\n").length = 1 := by decide +kernel
  rw [e] at h3
  unfold textT
  omega
/-! ### what the reading defs ask -/
def GapW (row : Str) : Prop := ∃ g : Int, 0 ≤ g ∧ g ≤ 50 ∧ row = gapT g
def StrOk (kind : Str) (s : T3 Int Int Int) : Prop := (kind = hotW ∧ HotS s) ∨ (kind = coldW ∧ ColdS s)
theorem StrOk.kn {k : Str} {s : T3 Int Int Int} (h : StrOk k s) : KindW k ∧ NumS s := by
  rcases h with ⟨e, h⟩ | ⟨e, h⟩
  · exact ⟨.inl e, h.num⟩
  · exact ⟨.inr e, h.num⟩
theorem hot_cold : hotW ≠ coldW := by decide +kernel
theorem StrOk.way {k : Str} {s : T3 Int Int Int} (h : StrOk k s) : ((decide (k = Str.ofString "hot") && decide (s.a ≤ s.b)) || (decide (k = Str.ofString "cold") && decide (s.b ≤ s.a))) = false := by
  rcases h with ⟨e, h⟩ | ⟨e, h⟩
  · have := h.a1
    rw [decide_eq_false (show ¬ s.a ≤ s.b by omega), decide_eq_false (show ¬ k = Str.ofString "cold" from fun z => hot_cold (e.symm.trans z))]
    simp
  · have := h.a1
    rw [decide_eq_false (show ¬ s.b ≤ s.a by omega), decide_eq_false (show ¬ k = Str.ofString "hot" from fun z => hot_cold (z.symm.trans e))]
    simp
def PutOk (hots colds : List (T3 Int Int Int)) (row : Str) : Prop := ∃ k s, row = rowT k s ∧ hots.length ≤ 12 ∧ colds.length ≤ 12 ∧ ((k = hotW ∧ HotS s ∧ colds = [] ∧ hots.length < 12) ∨ (k = coldW ∧ ColdS s ∧ colds.length < 12))
theorem put_kn {hots colds : List (T3 Int Int Int)} {k : Str} {s : T3 Int Int Int} (h : (k = hotW ∧ HotS s ∧ colds = [] ∧ hots.length < 12) ∨ (k = coldW ∧ ColdS s ∧ colds.length < 12)) : StrOk k s := by
  rcases h with ⟨e, h, _⟩ | ⟨e, h, _⟩
  · exact .inl ⟨e, h⟩
  · exact .inr ⟨e, h⟩
theorem put_hot {hots colds : List (T3 Int Int Int)} {k : Str} {s : T3 Int Int Int} (h : (k = hotW ∧ HotS s ∧ colds = [] ∧ hots.length < 12) ∨ (k = coldW ∧ ColdS s ∧ colds.length < 12)) (hk : k = Str.ofString "hot") : colds = [] ∧ hots.length < 12 := by
  rcases h with ⟨_, _, h⟩ | ⟨e, _, _⟩
  · exact h
  · exact absurd (hk.symm.trans e) hot_cold
theorem put_cold {hots colds : List (T3 Int Int Int)} {k : Str} {s : T3 Int Int Int} (h : (k = hotW ∧ HotS s ∧ colds = [] ∧ hots.length < 12) ∨ (k = coldW ∧ ColdS s ∧ colds.length < 12)) (hk : ¬ k = Str.ofString "hot") : colds.length < 12 := by
  rcases h with ⟨e, _, _⟩ | ⟨_, _, h⟩
  · exact absurd e hk
  · exact h
theorem num_log {s : T3 Int Int Int} (h : NumS s) {x : Int} (hx : x ∈ [s.a, s.b, s.c]) : x.natAbs.log2 < 1920 := by
  have hx : x = s.a ∨ x = s.b ∨ x = s.c := by simpa using hx
  have := h.a0; have := h.a1; have := h.b0; have := h.b1; have := h.c0; have := h.c1
  rcases hx with e | e | e <;> rw [e] <;> exact log_ok (by omega) (by omega)
theorem num_w {k : Str} {s : T3 Int Int Int} (h : NumS s) {x : Str} (hx : x ∈ pySlice [k, numS s.a, numS s.b, numS s.c] (some (1 : Int)) none none) : NumW x := by
  rw [pySlice_drop _ (by decide)] at hx
  have hx : x = numS s.a ∨ x = numS s.b ∨ x = numS s.c := by simpa using hx
  have := h.a0; have := h.a1; have := h.b0; have := h.b1; have := h.c0; have := h.c1
  rcases hx with e | e | e <;> rw [e] <;> exact numW (by omega) (by omega)
theorem row_join {k : Str} {s : T3 Int Int Int} (hk : KindW k) (hs : NumS s) : (([k, numS s.a, numS s.b, numS s.c] : List Str).map (·.length)).sum + ([k, numS s.a, numS s.b, numS s.c] : List Str).length * (Str.ofString " ").length ≤ 10000000 := by
  have h1 := kind_len hk
  have h2 := num_le hs.a0 (by have := hs.a1; omega)
  have h3 := num_le hs.b0 (by have := hs.b1; omega)
  have h4 := num_le (n := s.c) (by have := hs.c0; omega) (by have := hs.c1; omega)
  have e : (Str.ofString " ").length = 1 := by decide +kernel
  rw [e]
  simp only [List.map_cons, List.map_nil, List.sum_cons, List.sum_nil, List.length_cons, List.length_nil]
  omega
theorem rows_join {w : WksT} (h : WorksS w) : ((rowsT w).map (·.length)).sum + (rowsT w).length * (Str.ofString "\n").length ≤ 10000000 := by
  obtain ⟨h1, h2⟩ := rows_len h
  have h4 := sum_le (·.length) 38 (rowsT w) h2
  have e : (Str.ofString "\n").length = 1 := by decide +kernel
  rw [e]
  omega
def ReadOk (text : Str) : Prop := ∃ w, WorksS w ∧ text = textT w
theorem pick2 (a b x : Int) : ([a, b] : List Int).getD (x % 2).toNat 0 = a ∨ ([a, b] : List Int).getD (x % 2).toNat 0 = b := by
  have h : (x % 2).toNat = 0 ∨ (x % 2).toNat = 1 := by omega
  rcases h with e | e <;> rw [e]
  · exact .inl rfl
  · exact .inr rfl
theorem pick4 (a b c d x : Int) : ([a, b, c, d] : List Int).getD (x % 4).toNat 0 = a ∨ ([a, b, c, d] : List Int).getD (x % 4).toNat 0 = b ∨ ([a, b, c, d] : List Int).getD (x % 4).toNat 0 = c ∨ ([a, b, c, d] : List Int).getD (x % 4).toNat 0 = d := by
  have h : (x % 4).toNat = 0 ∨ (x % 4).toNat = 1 ∨ (x % 4).toNat = 2 ∨ (x % 4).toNat = 3 := by omega
  rcases h with e | e | e | e <;> rw [e]
  · exact .inl rfl
  · exact .inr (.inl rfl)
  · exact .inr (.inr (.inl rfl))
  · exact .inr (.inr (.inr rfl))
end Wl

set_option maxRecDepth 100000
set_option maxHeartbeats 2000000
/-! a works of one's own: a tuple of a number and two lists that are changed -/
namespace Wl
open PySem PySem.Spec PyProof.Rows L2
structure MW (α : Type) where
  w : T3 Int (List α) (List α)
instance {α : Type} [Rp α] : Ow (MW α) := ⟨fun K G H v fp x => ∃ t p q us vs, v = .ref t ∧ fp = [p, q] ∧ SqT K G t [.int x.w.a, .ref p, .ref q] ∧ p ≠ q ∧ H p = some (.lst us) ∧ H q = some (.lst vs) ∧ Reps K G us x.w.b ∧ Reps K G vs x.w.c, fun e eh h => by
  obtain ⟨t, p, q, us, vs, h0, h1, ht, hn, h2, h3, r, r'⟩ := h
  subst h1
  exact ⟨t, p, q, us, vs, h0, rfl, seqT e ht, hn, by rw [eh p (by simp)]; exact h2, by rw [eh q (by simp)]; exact h3, r.mono e, r'.mono e⟩, fun h a ha o e => by
  obtain ⟨t, p, q, us, vs, _, rfl, _, _, h2, h3, _⟩ := h
  have ha : a = p ∨ a = q := by simpa using ha
  rcases ha with z | z
  · rw [z, h2] at e; cases e; exact nt_lst
  · rw [z, h3] at e; cases e; exact nt_lst⟩
instance {α : Type} [Rp α] : Fz (MW α) (T3 Int (List α) (List α)) := ⟨MW.w, fun {K G H v fp x} hf h => by
  obtain ⟨t, p, q, us, vs, rfl, rfl, ht, hn, h2, h3, r, r'⟩ := h
  have hs := gl_up (H := H) hf
  exact ⟨t, _, _, _, rfl, seqT hs ht, rfl, ⟨p, us, rfl, SqL.of (by rw [gl_in (by simp)]; exact h2), r.mono hs⟩, ⟨q, vs, rfl, SqL.of (by rw [gl_in (by simp)]; exact h3), r'.mono hs⟩⟩⟩
def selW {α : Type} (k : Bool) (w : T3 Int (List α) (List α)) : List α := match k with | false => w.b | true => w.c
def putW {α : Type} (k : Bool) (w : T3 Int (List α) (List α)) (ys : List α) : T3 Int (List α) (List α) := match k with | false => ⟨w.a, ys, w.c⟩ | true => ⟨w.a, w.b, ys⟩
section
variable {X : Cx} {Γ Γ' : List Slot} {st : Stmt} {sts els rest : List Stmt} {a b c d e tg iter elt : Expr} {es elts ifs : List Expr} {pos : Pos} {o : Out}
theorem ownW {K : PySem.W.Frag} {B G H : Hp} {σ : L2.St} {i : Nat} {α : Type} [Rp α] {w : T3 Int (List α) (List α)} (l : Lo K B G H σ Γ) (h : Γ[i]? = some (.o (MW.mk w))) : ∃ F t p q us vs, LoF K B G H σ Γ F ∧ F i = [p, q] ∧ σ[i]? = some (some (.ref t)) ∧ SqT K G t [.int w.a, .ref p, .ref q] ∧ p ≠ q ∧ (B p = none ∧ G p = none) ∧ (B q = none ∧ G q = none) ∧ H p = some (.lst us) ∧ H q = some (.lst vs) ∧ Reps K G us w.b ∧ Reps K G vs w.c := by
  obtain ⟨F, v, lf, e1, hf, t, p, q, us, vs, rfl, e2, ht, hn, e3, e4, r, r'⟩ := own_at l h
  have h1 := hf p (by rw [e2]; simp)
  have h2 := hf q (by rw [e2]; simp)
  exact ⟨F, t, p, q, us, vs, lf, e2, e1, ht, hn, ⟨h1.1, h1.2.1⟩, ⟨h2.1, h2.2.1⟩, e3, e4, r, r'⟩
/-- a method of a part of one's own works -/
theorem sv_modW (i : Nat) (k : Bool) {α : Type} [Rp α] {w : T3 Int (List α) (List α)} {c e1 : Expr} {r : V → List V → Hp → VK → Prop} {t : TA} (ys : List α) (hp : PE X c (tBM X.K "list" r (tOp (rIxT X.K) (tVar i) (WE X e1)) t)) (h0 : Γ[i]? = some (.o (MW.mk w))) (h1 : EV X Γ e1 (match k with | false => (1 : Int) | true => 2))
    (hm : ∀ (B G H : Hp) (σ : L2.St) (a : Addr) (us : List V), Same B H → Same G H → Lo X.K B G H σ Γ → H a = some (.lst us) → Reps X.K G us (selW k w) → ∀ Q : VK, (∀ G' H' us', Grow G H G' H' → Reps X.K G' us' ys → Q .non (upd H' a (.lst us'))) → t σ H fun xs H2 => r (.ref a) xs H2 Q)
    (hs : swapsWith c none pos.line X.env = pure false := by rfl) : SV X Γ (.Expr c pos) (.nx (Γ.set i (.o (MW.mk (putW k w ys))))) := ⟨fun B G H σ D hB hg l kk => by
  obtain ⟨F, tt, p, q, us, vs, lf, hF, ev, ht, hn, hp1, hq1, hh1, hh2, r1, r2⟩ := ownW l h0
  refine ws (ps_expr hp hs) ⟨_, ev, h1 B G H σ hB hg l _ fun v G1 H1 g1 rv => ?_⟩
  have hB1 := hB.trans g1.h
  have hP1 : G1 p = none := (g1.fr p _ hh1).trans hp1.2
  have hQ1 : G1 q = none := (g1.fr q _ hh2).trans hq1.2
  have lo1 := l.grow g1
  have m1 := g1.h _ _ hh1
  have m2 := g1.h _ _ hh2
  have ht1 : SqT X.K H1 tt [.int w.a, .ref p, .ref q] := seqT (g1.g.trans g1.gh) ht
  cases k with
  | false =>
    have rv' : v = V.int 1 := rv
    subst rv'
    refine ⟨tt, _, 1, .ref p, rfl, rfl, ht1, rfl, .inl ⟨rfl, _, .inl (.inl m1)⟩, ?_⟩
    refine hm B G1 H1 σ p us hB1 g1.gh lo1 m1 (r1.mono g1.g) _ fun G2 H2 us' g2 r' => ?_
    have n1 := g2.h _ _ m1
    have n2 := g2.h _ _ m2
    have hP2 : G2 p = none := (g2.fr p _ m1).trans hP1
    have hQ2 : G2 q = none := (g2.fr q _ m2).trans hQ1
    have lf2 := (lf.grow g1).grow g2
    refine kk G2 _ ((g1.step hB).trans ((g2.step hB1).trans (Stp.mutL (hB1.trans g2.h) g2.gh hp1.1 hP2))) σ ?_
    refine lf2.mut (fp := [p, q]) (d' := ot (MW.mk (⟨w.a, ys, w.c⟩ : T3 Int (List α) (List α)))) h0 ev (fun a ha o e => by rw [upd_ne (fun z => ha (by rw [hF, z]; simp))]; exact e) (fun a ha => ?_) ⟨tt, p, q, us', vs, rfl, rfl, seqT (g1.g.trans g2.g) ht, hn, upd_same, by rw [upd_ne (Ne.symm hn)]; exact n2, r', r2.mono (g1.g.trans g2.g)⟩
    have : a = p ∨ a = q := by simpa using ha
    rcases this with rfl | rfl
    · exact ⟨.inl (by rw [hF]; simp), hp1.1, hP2, _, upd_same⟩
    · exact ⟨.inl (by rw [hF]; simp), hq1.1, hQ2, _, by rw [upd_ne (Ne.symm hn)]; exact n2⟩
  | true =>
    have rv' : v = V.int 2 := rv
    subst rv'
    refine ⟨tt, _, 2, .ref q, rfl, rfl, ht1, rfl, .inl ⟨rfl, _, .inl (.inl m2)⟩, ?_⟩
    refine hm B G1 H1 σ q vs hB1 g1.gh lo1 m2 (r2.mono g1.g) _ fun G2 H2 us' g2 r' => ?_
    have n1 := g2.h _ _ m1
    have n2 := g2.h _ _ m2
    have hP2 : G2 p = none := (g2.fr p _ m1).trans hP1
    have hQ2 : G2 q = none := (g2.fr q _ m2).trans hQ1
    have lf2 := (lf.grow g1).grow g2
    refine kk G2 _ ((g1.step hB).trans ((g2.step hB1).trans (Stp.mutL (hB1.trans g2.h) g2.gh hq1.1 hQ2))) σ ?_
    refine lf2.mut (fp := [p, q]) (d' := ot (MW.mk (⟨w.a, w.b, ys⟩ : T3 Int (List α) (List α)))) h0 ev (fun a ha o e => by rw [upd_ne (fun z => ha (by rw [hF, z]; simp))]; exact e) (fun a ha => ?_) ⟨tt, p, q, us, us', rfl, rfl, seqT (g1.g.trans g2.g) ht, hn, by rw [upd_ne hn]; exact n1, upd_same, r1.mono (g1.g.trans g2.g), r'⟩
    have : a = p ∨ a = q := by simpa using ha
    rcases this with rfl | rfl
    · exact ⟨.inl (by rw [hF]; simp), hp1.1, hP2, _, by rw [upd_ne hn]; exact n1⟩
    · exact ⟨.inl (by rw [hF]; simp), hq1.1, hQ2, _, upd_same⟩⟩
/-- works[k].append(e) -/
theorem sv_appW (i : Nat) (k : Bool) {α : Type} [Rp α] {w : T3 Int (List α) (List α)} {x : α} {c e1 e : Expr} (hp : PE X c (tBM X.K "list" rAppend (tOp (rIxT X.K) (tVar i) (WE X e1)) (tCons (WE X e) tNil))) (h0 : Γ[i]? = some (.o (MW.mk w))) (h1 : EV X Γ e1 (match k with | false => (1 : Int) | true => 2)) (h : EV X Γ e x) (hz : (selW k w).length < 10000000)
    (hs : swapsWith c none pos.line X.env = pure false := by rfl) : SV X Γ (.Expr c pos) (.nx (Γ.set i (.o (MW.mk (putW k w (selW k w ++ [x])))))) :=
  sv_modW i k _ hp h0 h1 (fun B G H σ a us hB hg l hh r Q q => h B G H σ hB hg l _ fun v G1 H1 g1 r1 => ⟨a, us, v, rfl, rfl, g1.h _ _ hh, by rw [r.len]; exact Nat.lt_of_lt_of_le hz (by decide), q G1 H1 _ g1 (paired_app (r.mono g1.g) (.cons r1 .nil))⟩) hs
def insL {α : Type} (xs : List α) (z : Int) (x : α) : List α := xs.take z.toNat ++ [x] ++ xs.drop z.toNat
def rInsert : V → List V → Hp → VK → Prop := fun x vs H Q => ∃ (l : Addr) (xs : List V) (i : Int) (y : V), x = .ref l ∧ vs = [.int i, y] ∧ H l = some (.lst xs) ∧ xs.length < sizeLine ∧ 0 ≤ i ∧ i < 2 ^ 63 ∧ Q .non (upd H l (.lst (xs.take i.toNat ++ [y] ++ xs.drop i.toNat)))
theorem paired_take {α β : Type} {R : α → β → Prop} : ∀ {xs : List α} {ys : List β} (n : Nat), Paired R xs ys → Paired R (xs.take n) (ys.take n)
  | _, _, 0, _ => .nil
  | _, _, _ + 1, .nil => .nil
  | _, _, n + 1, .cons r t => .cons r (paired_take n t)
theorem paired_drop {α β : Type} {R : α → β → Prop} : ∀ {xs : List α} {ys : List β} (n : Nat), Paired R xs ys → Paired R (xs.drop n) (ys.drop n)
  | _, _, 0, h => h
  | _, _, _ + 1, .nil => .nil
  | _, _, n + 1, .cons _ t => paired_drop n t
/-- works[k].insert(z, e) -/
theorem sv_insW (i : Nat) (k : Bool) {α : Type} [Rp α] {w : T3 Int (List α) (List α)} {x : α} {z : Int} {c e1 e0 e : Expr} (hp : PE X c (tBM X.K "list" rInsert (tOp (rIxT X.K) (tVar i) (WE X e1)) (tCons (WE X e0) (tCons (WE X e) tNil)))) (h0 : Γ[i]? = some (.o (MW.mk w))) (h1 : EV X Γ e1 (match k with | false => (1 : Int) | true => 2)) (h2 : EV X Γ e0 z) (h : EV X Γ e x) (hz : 0 ≤ z ∧ z < 2 ^ 63 ∧ (selW k w).length < 10000000)
    (hs : swapsWith c none pos.line X.env = pure false := by rfl) : SV X Γ (.Expr c pos) (.nx (Γ.set i (.o (MW.mk (putW k w (insL (selW k w) z x)))))) :=
  sv_modW i k _ hp h0 h1 (fun B G H σ a us hB hg l hh r Q q => h2 B G H σ hB hg l _ fun v0 G0 H0 g0 r0 => h B G0 H0 σ (hB.trans g0.h) g0.gh (l.grow g0) _ fun v G1 H1 g1 r1 => by
    have e0 : v0 = V.int z := r0
    subst e0
    exact ⟨a, us, z, v, rfl, rfl, g1.h _ _ (g0.h _ _ hh), by rw [r.len]; exact Nat.lt_of_lt_of_le hz.2.2 (by decide), hz.1, hz.2.1, q G1 H1 _ (g0.trans g1) (paired_app (paired_app (paired_take _ (r.mono (g0.g.trans g1.g))) (.cons r1 .nil)) (paired_drop _ (r.mono (g0.g.trans g1.g))))⟩) hs
/-- return (e, xs, ys) of one's own lists xs, ys -/
theorem bv_retW (i j : Nat) (hij : i ≠ j) {α : Type} [Rp α] {g : Int} {xs ys : List α} (h0 : Γ[i]? = some (.l xs)) (h1 : Γ[j]? = some (.l ys)) (hE : ∀ p q : Rf, EV X ((Γ.set i (.v p)).set j (.v q)) e (T3.mk g p q)) :
    BV X Γ (.Return (some e) pos :: sts) (.ro (ot (MW.mk (⟨g, xs, ys⟩ : T3 Int (List α) (List α))))) := bv_out (⟨fun B G H σ D hB hg l k => by
  obtain ⟨F, p, us, lf, hF, e1, hbp, hgp, hh1, r1⟩ := ownL l h0
  obtain ⟨w, ew, hfj, q, vs, ew2, hFj, hh2, r2⟩ : ∃ w, σ[j]? = some (some w) ∧ (∀ a ∈ F j, B a = none ∧ G a = none ∧ ∃ ho, H a = some ho) ∧ ∃ q vs, w = .ref q ∧ F j = [q] ∧ H q = some (.lst vs) ∧ Reps X.K G vs ys := by
    obtain ⟨o, a1, v, a2, a3, q, vs, a4, a5, a6, a7⟩ := lf.ok j _ h1
    exact ⟨v, by rw [a1, a2], a3, q, vs, a4, a5, a6, a7⟩
  subst ew2
  have hq := hfj q (by rw [hFj]; simp)
  have hpq : p ≠ q := fun z => lf.sep i j _ _ hij h0 h1 rfl rfl p (by rw [hF]; simp) (by rw [hFj, z]; simp)
  have lo1 := lf.fzS (fs := []) (d' := dt (Rf.mk p)) h0 e1 (fun a ha => by cases ha) (fun a ha => by
    have : a = p := by rw [hF] at ha; simpa using ha
    rw [this]; exact hgp) rfl
  have egl : ∀ G0 : Hp, gl G0 H [] = G0 := fun G0 => by funext a; exact gl_out (by simp)
  rw [egl] at lo1
  have h1' : (Γ.set i (.val (dt (Rf.mk p))))[j]? = some (.l ys) := by rw [List.getElem?_set_ne hij]; exact h1
  obtain ⟨F2, q2, vs2, lf2, hF2, e2, hbq, hgq, hh3, r3⟩ := ownL lo1 h1'
  have lo2 := lf2.fzS (fs := []) (d' := dt (Rf.mk q2)) h1' e2 (fun a ha => by cases ha) (fun a ha => by
    have : a = q2 := by rw [hF2] at ha; simpa using ha
    rw [this]; exact hgq) rfl
  rw [egl] at lo2
  refine ws (ps_ret pe) (hE (Rf.mk p) (Rf.mk q2) B G H σ hB hg lo2 _ fun v G1 H1 g1 rv => ?_)
  have eq : q2 = q := by rw [ew] at e2; cases e2; rfl
  subst eq
  obtain ⟨t, v1, v2, v3, rfl, ht, k1, k2, k3⟩ := rv
  have k1' : v1 = V.int g := k1
  have k2' : v2 = V.ref p := k2
  have k3' : v3 = V.ref q2 := k3
  subst k1' k2' k3'
  refine k G1 H1 (g1.step hB) (.ref t) [p, q2] (fun a ha => ?_) ⟨t, p, q2, us, vs, rfl, rfl, ht, hpq, g1.h _ _ hh1, g1.h _ _ hh2, r1.mono g1.g, r2.mono g1.g⟩
  have : a = p ∨ a = q2 := by simpa using ha
  rcases this with rfl | rfl
  · exact ⟨hbp, (g1.fr a _ hh1).trans hgp, _, g1.h _ _ hh1⟩
  · exact ⟨hq.1, (g1.fr a _ hh2).trans hq.2.1, _, g1.h _ _ hh2⟩⟩ : SV X Γ (.Return (some e) pos) _) trivial
/-- a new own thing, known for good at once -/
theorem ev_newFz {τ β : Type} [Ow τ] [Rp β] [Fz τ β] {x : τ} (h : EN X Γ e x) : EV X Γ e (Fz.val x : β) := ⟨fun B G H σ hB hg l Q q =>
  h B G H σ hB hg l Q fun v fp G1 H1 g1 hf ok => by
    have hs : Same G1 (gl G1 H1 fp) := gl_up fun a ha => (hf a ha).2.1
    refine q v (gl G1 H1 fp) H1 ⟨g1.g.trans hs, g1.h, gl_dn g1.gh, fun b u e n => ?_⟩ (Fz.ok (fun a ha => (hf a ha).2.1) ok)
    rw [gl_out (fun z => by rw [(hf b z).1] at e; cases e)]
    exact g1.fr b u e n⟩
end
theorem bl_of {K : PySem.W.Frag} {G : Hp} {v : V} {x : Bool} (h : (dt x).rep K G v) : v = .bl x := h
end Wl

set_option maxRecDepth 100000
set_option maxHeartbeats 2000000
/-! exceptions: what a def tells is .go (its answer) or .re (the name of a class) -/
namespace Wl
open PySem PySem.Spec PyProof.Rows L2
/-- what a way comes to: F of its answer, or an exception with the slots Γx -/
def XO {τ : Type} (Γx : List Slot) (F : τ → Out) : LR τ Str → Out
  | .go s => F s
  | .re c => .ex c Γx
theorem XO_exits {τ : Type} {Γx : List Slot} {F : τ → Out} {c : Str} : (XO Γx F (.re c)).exits := trivial
/-- an expression that may raise -/
structure EVX (X : Cx) (Γ : List Slot) (e : Expr) {α : Type} [Rp α] (r : LR α Str) : Prop where
  run : ∀ B G H σ, Same B H → Same G H → Lo X.K B G H σ Γ → ∀ Q : VK, (∀ y, r = .go y → ∀ v G' H', Grow G H G' H' → Rp.rep X.K G' v y → Q v H') → (∀ c, r = .re c → ∀ G' H', Grow G H G' H' → Fly X c σ H') → WE X e σ H Q
/-- the class facts of an error that is raised -/
structure ErrC (K : PySem.W.Frag) (mg : Str → Option Value) (x : Str) : Prop where
  ex : ∃ C bmB B newId initId, ExcBaseFacts B newId initId bmB ∧ PySem.W.excIn K C bmB newId = true ∧ mg x = some (.ref C) ∧ PySem.W.keepIn K (.ref C) = true ∧ PySem.W.subIn K (.ref C) (.type "BaseException") = some true ∧ PySem.W.typeIn K (.ref C) = some (.type "type")
section
variable {X : Cx} {Γ Γ' : List Slot} {st : Stmt} {sts els rest : List Stmt} {a b c d e tg iter elt : Expr} {es elts ifs : List Expr} {pos : Pos} {o : Out}
theorem evx_ev {α : Type} [Rp α] {y : α} (h : EV X Γ e y) : EVX X Γ e (.go y) := ⟨fun B G H σ hB hg l Q q _ => h B G H σ hB hg l Q fun v G' H' g r => q y rfl v G' H' g r⟩
/-- raise C('text') -/
theorem bv_raise {x m : Str} {j : Nat} {p p2 p3 : Pos} {Γx : List Slot} (hc : X.calm = true) (K : ErrC X.K X.mg x) (hx : Sb Γ Γx) (hg : Gl X x := by rfl) (hdb : (x == ("__debug__" : Str)) = false := by decide) :
    BV X Γ (.Raise (some (.Call (.Name x p) [.Constant (.str m) j p2] [] p3)) none pos :: sts) (.ex x Γx) := bv_out (⟨fun B G H σ D hB hgh l k => by
  obtain ⟨C, bmB, B', newId, initId, F, q, gC, kC, hsub, hty⟩ := K.ex
  have tk := k G H (Stp.refl hB hgh) σ (l.sub hx) C gC
  exact ws (ps_raise hc tk (pmk_own F q gC kC (raises_own hsub hty) hg hdb)) ⟨rfl, rfl, rfl, rfl⟩⟩ : SV X Γ _ (.ex x Γx)) trivial
/-- an expression alone that may raise -/
theorem bv_exprX {α τ : Type} [Rp α] {r : LR α Str} {g : α → LR τ Str} {Γx : List Slot} {F : τ → Out} (h : EVX X Γ e r) (hx : Sb Γ Γx) (hr : ∀ y, r = .go y → BV X Γ rest (XO Γx F (g y))) (hs : swapsWith e none pos.line X.env = pure false := by rfl) : BV X Γ (.Expr e pos :: rest) (XO Γx F (r.bind g)) := ⟨fun B G H σ D hB hg l k => by
  refine wss (pss_cons (ps_expr pe hs) pss) (h.run B G H σ hB hg l _ (fun y ey v G1 H1 g1 r1 => ?_) fun c ec G1 H1 g1 => ?_)
  · subst ey
    exact hr y rfl B G1 H1 σ D (hB.trans g1.h) g1.gh (l.grow g1) fun G2 H2 g2 => k G2 H2 ((g1.step hB).trans g2)
  · subst ec
    exact k G1 H1 (g1.step hB) σ ((l.grow g1).sub hx)⟩
/-- name = e that may raise -/
theorem bv_setX (i : Nat) {α τ : Type} [Rp α] {r : LR α Str} {g : α → LR τ Str} {Γx : List Slot} {F : τ → Out} {nm : Str} {pos' : Pos} (hN : X.N.Nodup) (h : EVX X Γ e r) (hx : Sb Γ Γx) (hr : ∀ y, r = .go y → BV X (Γ.set i (.v y)) rest (XO Γx F (g y))) (hi : X.N[i]? = some nm := by rfl) (hl : L2.Loc X.env.scope nm := by first | exact Or.inl rfl | exact Or.inr rfl)
    (hs : swapsWith e (some (.Name nm pos')) pos.line X.env = pure false := by rfl) (hf : X.fn nm = true ∨ X.env.scope.names.lookup nm = some .local := by first | exact .inl rfl | exact .inr rfl) : BV X Γ (.Assign [.Name nm pos'] e pos :: rest) (XO Γx F (r.bind g)) := ⟨fun B G H σ D hB hg l k => by
  refine wss (pss_cons (ps_set hN hi hl pe hs hf) pss) (h.run B G H σ hB hg l _ (fun y ey v G1 H1 g1 r1 => ?_) fun c ec G1 H1 g1 => ?_)
  · subst ey
    exact hr y rfl B G1 H1 _ D (hB.trans g1.h) g1.gh ((l.grow g1).set (d := dt y) r1) fun G2 H2 g2 => k G2 H2 ((g1.step hB).trans g2)
  · subst ec
    exact k G1 H1 (g1.step hB) σ ((l.grow g1).sub hx)⟩
/-- return e that may raise -/
theorem bv_retX {α : Type} [Rp α] {r : LR α Str} {Γx : List Slot} (h : EVX X Γ e r) (hx : Sb Γ Γx) : BV X Γ (.Return (some e) pos :: sts) (XO Γx (fun y => .rt (dt y)) r) := bv_out (⟨fun B G H σ D hB hg l k =>
  ws (ps_ret pe) (h.run B G H σ hB hg l _ (fun y ey v G1 H1 g1 r1 => by
    subst ey
    exact k G1 H1 (g1.step hB) v r1) fun c ec G1 H1 g1 => by
    subst ec
    exact k G1 H1 (g1.step hB) σ ((l.grow g1).sub hx))⟩ : SV X Γ _ (XO Γx (fun y => .rt (dt y)) r)) (by cases r <;> trivial)
/-- xs.append(e) of a list handed in, e may raise -/
theorem sv_appPX (i : Nat) {α : Type} [Rp α] {p : Addr} {xs : List α} {r : LR α Str} {Γx : List Slot} {c e : Expr} (hp : PE X c (tBM X.K "list" rAppend (tVar i) (tCons (WE X e) tNil))) (h0 : Γ[i]? = some (.o (MLp.mk p xs))) (h : EVX X Γ e r) (hx : Sb Γ Γx) (hz : xs.length < 10000000) (hs : swapsWith c none pos.line X.env = pure false := by rfl) :
    SV X Γ (.Expr c pos) (XO Γx (fun x => .nx (Γ.set i (.o (MLp.mk p (xs ++ [x]))))) r) := ⟨fun B G H σ D hB hg l k => by
  obtain ⟨F, vs, lf, hF, e1, hbp, hgp, hh, rr⟩ := ownP l h0
  refine ws (ps_expr hp hs) ⟨_, e1, .inl ⟨rfl, _, .inl (.inl hh)⟩, ?_⟩
  refine h.run B G H σ hB hg l _ (fun x ex v G1 H1 g1 r1 => ?_) fun c ec G1 H1 g1 => ?_
  · subst ex
    refine ⟨p, vs, v, rfl, rfl, g1.h _ _ hh, by rw [rr.len]; exact Nat.lt_of_lt_of_le hz (by decide), ?_⟩
    have hgp1 := (g1.fr p _ hh).trans hgp
    exact k G1 _ ((g1.step hB).trans (Stp.mutL (hB.trans g1.h) g1.gh hbp hgp1)) σ ((lf.grow g1).mutP h0 hF e1 hbp hgp1 (paired_app (rr.mono g1.g) (.cons r1 .nil)))
  · subst ec
    exact k G1 H1 (g1.step hB) σ ((l.grow g1).sub hx)⟩
/-- a statement that may raise, and the rest -/
theorem bv_consX {τ ρ : Type} {r : LR τ Str} {g : τ → LR ρ Str} {Γx : List Slot} {Env : τ → List Slot} {F : ρ → Out} (h : SV X Γ st (XO Γx (fun s => .nx (Env s)) r)) (hr : ∀ s, r = .go s → BV X (Env s) rest (XO Γx F (g s))) : BV X Γ (st :: rest) (XO Γx F (r.bind g)) := ⟨fun B G H σ D hB hg l k =>
  wss (pss_cons ps pss) (h B G H σ { D with nx := WSs X rest D } hB hg l fun G1 H1 g1 => by
    cases r with
    | go s => exact fun σ1 l1 => hr s rfl B G1 H1 σ1 D g1.b g1.gh l1 fun G2 H2 g2 => k G2 H2 (g1.trans g2)
    | re c => exact k G1 H1 g1)⟩
/-- for with a body that may raise -/
theorem sv_forX {α τ : Type} [Rp α] {xs : List α} {body : List Stmt} (Γx : List Slot) (Env : τ → List Slot) (s0 : τ) (f : τ → α → LR τ Str) (h : IV X Γ tg iter xs) (h0 : Sb Γ (Env s0)) (Γ1 : τ → α → List Slot) (ht : ∀ s x, TV X (Env s) tg x (Γ1 s x))
    (hb : ∀ pre x post s, xs = pre ++ x :: post → runL f s0 pre = .go s → BV X (Γ1 s x) body (XO Γx (fun s => .nx (Env s)) (f s x))) (hp : PassesOwn (model X.prog X.w) X.A X.env X.xe) (hc : X.calm = true := by rfl) (hs : ∀ x, foldedSetIterable iter X.env x = pure x := by intro _; rfl) (ho : XO Γx (fun s => .nx (Env s)) (runL f s0 xs) = o := by exact rfl) :
    SV X Γ (.For tg iter body [] pos) o := ⟨fun B G H σ D hB hg l k => by
  subst ho
  refine ws (ps_for hp hc pi pg pss hs) (h B G H σ hB hg l _ fun J G1 H1 g1 hJ => ?_)
  have st1 := g1.step hB
  refine ⟨fun i m σ' H' => m = xs.length - i ∧ i ≤ xs.length ∧ ∃ s G', runL f s0 (xs.take i) = .go s ∧ Stp B G1 G' H' ∧ Lo X.K B G' H' σ' (Env s), ⟨xs.length, by simp, Nat.zero_le _, s0, G1, rfl, Stp.refl st1.b st1.gh, (l.grow g1).sub h0⟩, ?_⟩
  rintro i m σ' H' ⟨rfl, hi, s, G', e, st, lo⟩
  by_cases hlt : i < xs.length
  · obtain ⟨hgo, hy⟩ := hJ.1 i G' H' st.g st.gh hlt
    refine .inr ⟨hgo, fun σ2 H2 => ∃ s2 G2, runL f s0 (xs.take (i + 1)) = .go s2 ∧ Stp B G1 G2 H2 ∧ Lo X.K B G2 H2 σ2 (Env s2), fun σ2 H2 ⟨s2, G2, e2, st2, lo2⟩ => ⟨xs.length - (i + 1), by omega, rfl, hlt, s2, G2, e2, st2, lo2⟩, fun v H3 hv => ?_⟩
    obtain ⟨G3, x, g3, hx, rx⟩ := hy v H3 hv
    have st3 := st.trans (g3.step st.b)
    have ex : xs = xs.take i ++ x :: xs.drop (i + 1) := by
      have h1 : xs[i] = x := by rw [List.getElem?_eq_getElem hlt] at hx; exact Option.some.inj hx
      rw [← h1, List.getElem_cons_drop, List.take_append_drop]
    refine ht s x B G3 H3 σ' v st3.b st3.gh (lo.grow g3) rx _ fun σ4 l4 => ?_
    refine hb _ x _ s ex e B G3 H3 σ4 _ st3.b st3.gh l4 fun G5 H5 st5 => ?_
    have et : xs.take (i + 1) = xs.take i ++ [x] := by
      rw [List.take_add_one, hx]; rfl
    have e2 : runL f s0 (xs.take (i + 1)) = f s x := by
      rw [et, runL_app, e]
      show runL f s [x] = f s x
      unfold runL
      cases f s x <;> rfl
    cases hf : f s x with
    | go s2 =>
      intro σ6 l6
      rw [hf] at e2
      exact ⟨s2, G5, e2, st3.trans st5, l6⟩
    | re r =>
      intro σ6 l6
      rw [hf] at e2
      have e3 : runL f s0 xs = .re r := by
        conv => lhs; rw [← List.take_append_drop (i + 1) xs]
        rw [runL_app, e2]
      have q := k G5 H5 ((st1.trans st3).trans st5)
      rw [e3] at q
      exact q σ6 l6
  · have ei : i = xs.length := by omega
    subst ei
    rw [List.take_length] at e
    refine .inl ⟨hJ.2 G' H' st.g st.gh, ?_⟩
    have q := k G' H' (st1.trans st)
    rw [e] at q
    exact q σ' lo⟩
end
/-! ### defs that may raise -/
inductive RD where
  | go (d : Dat)
  | re (c : Str)
def PSpX (K : PySem.W.Frag) (mg : Str → Option Value) (R : List Dat → RD → Prop) : Sp := fun vs H Q E => ∃ G ds r, Same G H ∧ DatsOk K G vs ds ∧ R ds r ∧ (∀ d, r = .go d → ∀ v G' H', Grow G H G' H' → d.rep K G' v → Q v H') ∧ ∀ c, r = .re c → ∀ C G' H', mg c = some (.ref C) → Grow G H G' H' → E (.ref C) none H'
def RD.out (n : Nat) : RD → Out
  | .go d => .rt d
  | .re c => .ex c (List.replicate n .any)
def LR.dat {α : Type} [Rp α] : LR α Str → RD
  | .go y => .go (dt y)
  | .re c => .re c
structure FnAtX (P : Program) (w : World) (K : PySem.W.Frag) (mg : Str → Option Value) (base : Heap) (x : Str) (k : Nat) (ps : List Str) (R : List Dat → RD → Prop) : Prop where
  ex : ∃ f fd, FnOk P w K mg base (L2.CX P w) k f fd ps (PSpX K mg R) ∧ mg x = some (.ref f) ∧ PySem.W.keepIn K (.ref f) = true ∧ Binds K fd ps []
/-- what is let out is taken -/
theorem fly_pass {X : Cx} {σ : L2.St} {E : XK} (h : ∀ cls d H', E cls d H' → ∃ c C, X.mg c = some (.ref C) ∧ cls = .ref C ∧ d = none ∧ Fly X c σ H') : PassesAt (L2.CX X.prog X.w) X σ E := fun pins H s e s' I z => by
  have x : XE X (fun cls d σ' H' => σ' = σ ∧ E cls d H') e s' := XE.of_call I (fun _ _ _ q => ⟨rfl, q⟩) z
  obtain ⟨a, B, sI, pins', σ', H', cls, d, e1, J, nb, up, sky, na, os, ag, e2, q⟩ := x
  subst e2
  obtain ⟨c, C, hm, rfl, rfl, fl⟩ := h _ _ _ q
  exact fl C hm e s' ⟨a, B, sI, pins', σ', H', _, _, e1, J, nb, up, sky, na, os, ag, rfl, rfl, rfl, rfl⟩
section
variable {X : Cx} {Γ : List Slot} {e : Expr} {es : List Expr} {pos : Pos}
theorem evx_fn {k j : Nat} {ps : List Str} {R : List Dat → RD → Prop} {x : Str} {p : Pos} {α : Type} [Rp α] {r : LR α Str} {ds : List Dat} (F : FnAtX X.prog X.w X.K X.mg X.base x k ps R) (hr : Room j X.A) (hj : k ≤ j) (ha : EA X Γ (e :: es) ds) (hR : R ds r.dat) (hg : Gl X x := by rfl) (hdb : (x == ("__debug__" : Str)) = false := by decide)
    (he : starEach (e :: es) X.env = (false, eval e X.env) :: starEach es X.env := by rfl) (hpl : (backTo pos (starEach es X.env)).any (·.1) = false := by rfl) : EVX X Γ (.Call (.Name x p) (e :: es) [] pos) r := ⟨fun B G H σ hB hgh l Q q qx => by
  obtain ⟨f, fd, F1, hm, hk, hb⟩ := F.ex
  refine we (pe_callS (E := fun σ' cls d H' => σ' = σ ∧ ∃ c C G', r = .re c ∧ X.mg c = some (.ref C) ∧ cls = .ref C ∧ d = none ∧ Grow G H G' H') F1 (hr.mono hj) hg hm hk hb (fun σ' => fly_pass fun cls d H' z => ?_) pa hdb he hpl) (ha B G H σ hB hgh l _ fun vs G1 H1 g1 r1 => ?_)
  · obtain ⟨rfl, c, C, G', er, hc, e1, e2, g⟩ := z
    exact ⟨c, C, hc, e1, e2, qx c er G' H' g⟩
  · refine ⟨G1, ds, r.dat, g1.gh, r1, hR, fun d ed v G2 H2 g2 rv => ?_, fun c ec C G2 H2 hc g2 => ?_⟩
    · cases r with
      | go y =>
        cases ed
        exact q y rfl v G2 H2 (g1.trans g2) rv
      | re c => cases ed
    · cases r with
      | go y => cases ec
      | re c' =>
        cases ec
        exact ⟨rfl, c, C, G2, rfl, hc, rfl, rfl, g1.trans g2⟩⟩
end
section
variable {P : Program} {w : World} {K : PySem.W.Frag} {mg : Str → Option Value} {base : Heap}
/-- a def that may raise -/
theorem fn_x {x qual : Str} {st : Stmt} {f : Addr} {fd : FuncData} {N ps : List Str} {k : Nat} {R : List Dat → RD → Prop} (F : Fun K x qual st f fd) (S : FnScope N ps (defScope st)) (len : ∀ ds d, R ds d → ds.length = ps.length)
    (body : ∀ (X : Cx) (ds : List Dat) (r : RD), (∃ cdv A outer s H E, X = cxOf (L2.CX P w) P w K mg base N qual (defScope st) f cdv A outer s H E) → Room k X.A → PassesOwn (model X.prog X.w) X.A X.env X.xe → R ds r → BV X (slots ds N.length) (defBody st) (RD.out N.length r)) : FnOk P w K mg base (L2.CX P w) (k + 1) f fd ps (PSpX K mg R) :=
  F.okX S (fun vs H Q E h => by
    obtain ⟨G, ds, d, _, r, hR, _⟩ := h
    rw [r.len]
    exact len ds d hR) (fun cdv A outer s H vs Q E hr h => by
    obtain ⟨G, ds, r, hg, rd, hR, q, qx⟩ := h
    have tk := takes_of (X := cxOf (L2.CX P w) P w K mg base N qual (defScope st) f cdv A outer s H E) (E := E) rfl rfl rfl rfl
    refine ⟨_, pss, (body _ ds r ⟨cdv, A, outer, s, H, E, rfl⟩ hr (passes_of (X := cxOf (L2.CX P w) P w K mg base N qual (defScope st) f cdv A outer s H E) rfl) hR).run H G H (L2.start N vs) _ (Same.refl _) hg (lo_start rd) fun G' H' st => ?_⟩
    cases r with
    | go d => exact fun v rv => q d rfl v G' H' ⟨st.g, st.b, st.gh, st.fr0⟩ rv
    | re c =>
      intro σ l C hc
      refine tk.imp fun cls d σ' H'' z => ?_
      obtain ⟨e1, e2, e3, e4⟩ := z
      subst e1 e2 e4
      exact qx c rfl C G' _ hc ⟨st.g, st.b, st.gh, st.fr0⟩)
end
end Wl

set_option maxRecDepth 100000
set_option maxHeartbeats 2000000
/-! exceptions: procedures that may raise, try, isinstance of what is caught -/
namespace Wl
open PySem PySem.Spec PyProof.Rows L2
/-- the two ends of a way that may raise -/
def LR.ends {τ ρ β : Type _} (r : LR τ ρ) (f : τ → β) (g : ρ → β) : β := match r with
  | .go s => f s
  | .re c => g c
/-! ### procedures that change two lists and may raise -/
def MSp2X {α β : Type} [Rp α] [Rp β] (K : PySem.W.Frag) (mg : Str → Option Value) (R : List α → List β → List Dat → LR (List α × List β) Str → Prop) : Sp := fun vs H Q E => ∃ (G : Hp) (p q : Addr) (us vs0 ws : List V) (xs : List α) (ys : List β) (ds : List Dat) (r : LR (List α × List β) Str),
  vs = .ref p :: .ref q :: ws ∧ Same G H ∧ p ≠ q ∧ H p = some (.lst us) ∧ G p = none ∧ H q = some (.lst vs0) ∧ G q = none ∧ Reps K G us xs ∧ Reps K G vs0 ys ∧ DatsOk K G ws ds ∧ R xs ys ds r ∧
  ∀ (G' H' : Hp), Same (delH (delH H p) q) H' → Same G G' → Same G' H' → (∀ a o, a ≠ p → a ≠ q → H a = some o → Nt o → G' a = G a) →
    (∀ xs' ys', r = .go (xs', ys') → G' p = none → G' q = none → (∃ us', H' p = some (.lst us') ∧ Reps K G' us' xs') → (∃ vs', H' q = some (.lst vs') ∧ Reps K G' vs' ys') → Q .non H') ∧
    (∀ c C, r = .re c → mg c = some (.ref C) → E (.ref C) none H')
section
variable {P : Program} {w : World} {K : PySem.W.Frag} {mg : Str → Option Value} {base : Heap}
theorem fn_mut2X {α β : Type} [Rp α] [Rp β] {x qual : Str} {st : Stmt} {f : Addr} {fd : FuncData} {N ps : List Str} {k : Nat} {R : List α → List β → List Dat → LR (List α × List β) Str → Prop} (F : Fun K x qual st f fd) (S : FnScope N ps (defScope st)) (len : ∀ xs ys ds r, R xs ys ds r → ds.length + 2 = ps.length)
    (body : ∀ (X : Cx) (p q : Addr) (xs : List α) (ys : List β) (ds : List Dat) (r : LR (List α × List β) Str), (∃ cdv A outer s H E, X = cxOf (L2.CX P w) P w K mg base N qual (defScope st) f cdv A outer s H E) → Room k X.A → PassesOwn (model X.prog X.w) X.A X.env X.xe → R xs ys ds r →
      ∃ Γ' : List α × List β → List Slot, (∀ z, (Γ' z)[0]? = some (.o (MLp.mk p z.1))) ∧ (∀ z, (Γ' z)[1]? = some (.o (MLp.mk q z.2))) ∧
        BV X (((slots (dNo :: dNo :: ds) N.length).set 0 (.o (MLp.mk p xs))).set 1 (.o (MLp.mk q ys))) (defBody st) (XO (List.replicate N.length .any) (fun s => .nx (Γ' s)) r)) : FnOk P w K mg base (L2.CX P w) (k + 1) f fd ps (MSp2X K mg R) :=
  F.okX S (fun vs H Q E h => by
    obtain ⟨G, p, q, us, vs0, ws, xs, ys, ds, rr, rfl, _, _, _, _, _, _, _, _, r, hR, _⟩ := h
    rw [List.length_cons, List.length_cons, r.len]
    exact len _ _ _ _ hR) (fun cdv A outer s H vs Q E hr h => by
    obtain ⟨G, p, q, us, vs0, ws, xs, ys, ds, rr, rfl, hg, hpq, hp, hgp, hq, hgq, hx, hy, r, hR, qq⟩ := h
    have tk := takes_of (X := cxOf (L2.CX P w) P w K mg base N qual (defScope st) f cdv A outer s H E) (E := E) rfl rfl rfl rfl
    have lo : Lo K H G H (L2.start N (.ref p :: .ref q :: ws)) (slots (dNo :: dNo :: ds) N.length) := lo_start (.cons trivial (.cons trivial r))
    have lo2 : Lo K (delH H p) G H (L2.start N (.ref p :: .ref q :: ws)) ((slots (dNo :: dNo :: ds) N.length).set 0 (.o (MLp.mk p xs))) := lo.toOwn slots_noown (v := .ref p) (fp := [p]) rfl (fun a ha => by
      have : a = p := by simpa using ha
      subst this
      exact ⟨delH_same, hgp, _, hp⟩) ⟨us, rfl, rfl, hp, hx⟩
    have lo3 : Lo K (delH (delH H p) q) G H (L2.start N (.ref p :: .ref q :: ws)) (((slots (dNo :: dNo :: ds) N.length).set 0 (.o (MLp.mk p xs))).set 1 (.o (MLp.mk q ys))) := lo2.toOwn1 (v := .ref q) (fp := [q]) rfl (fun a e => by
        by_cases haq : a = q
        · rw [haq]; exact delH_same
        · rw [delH_ne haq]; exact e) (fun a ha => by
      have : a = q := by simpa using ha
      subst this
      exact ⟨by rw [delH_ne (Ne.symm hpq), hq]; simp, delH_same, hgq, _, hq⟩) ⟨vs0, rfl, rfl, hq, hy⟩
    obtain ⟨Γ', g0, g1, hb⟩ := body _ p q xs ys ds rr ⟨cdv, A, outer, s, H, E, rfl⟩ hr (passes_of (X := cxOf (L2.CX P w) P w K mg base N qual (defScope st) f cdv A outer s H E) rfl) hR
    have hsame : Same (delH (delH H p) q) H := fun b u e => delH_sub b u (delH_sub b u e)
    refine ⟨_, pss, hb.run (delH (delH H p) q) G H _ _ hsame hg lo3 fun G' H' st => ?_⟩
    have z := qq G' H' st.b st.g st.gh (fun a o h1 h2 e n => st.fr a o (by rw [delH_ne h2, delH_ne h1]; exact e) n)
    cases rr with
    | go s2 =>
      intro σ' l'
      obtain ⟨F', us', lf, hF, e1, hbp, hgp', hh, rr⟩ := ownP l' (g0 s2)
      obtain ⟨F2, vs', lf2, hF2, e2, hbq, hgq', hh2, rr2⟩ := ownP l' (g1 s2)
      exact z.1 s2.1 s2.2 rfl hgp' hgq' ⟨us', hh, rr⟩ ⟨vs', hh2, rr2⟩
    | re c =>
      intro σ l C hc
      refine tk.imp fun cls d σ' H'' y => ?_
      obtain ⟨e1, e2, e3, e4⟩ := y
      subst e1 e2 e4
      exact z.2 c C rfl hc)
end
structure FnAtM2X {α β : Type} [Rp α] [Rp β] (P : Program) (w : World) (K : PySem.W.Frag) (mg : Str → Option Value) (base : Heap) (x : Str) (k : Nat) (ps : List Str) (R : List α → List β → List Dat → LR (List α × List β) Str → Prop) : Prop where
  ex : ∃ f fd, FnOk P w K mg base (L2.CX P w) k f fd ps (MSp2X K mg R) ∧ mg x = some (.ref f) ∧ PySem.W.keepIn K (.ref f) = true ∧ Binds K fd ps []
section
variable {X : Cx} {Γ Γ' : List Slot} {e a b : Expr} {es : List Expr} {st : Stmt} {sts rest : List Stmt} {pos pos' : Pos}
theorem ev_of_evx {α : Type} [Rp α] {y : α} (h : EVX X Γ e (.go y)) : EV X Γ e y := ⟨fun B G H σ hB hg l Q q => h.run B G H σ hB hg l Q (fun y' ey v G' H' g r => by cases ey; exact q v G' H' g r) fun c ec => by cases ec⟩
theorem ev_evx {α : Type} [Rp α] {r : LR α Str} {y : α} (h : EVX X Γ e r) (er : r = .go y) : EV X Γ e y := by subst er; exact ev_of_evx h
theorem evx_is {α : Type} [Rp α] {r r' : LR α Str} (h : EVX X Γ e r) (er : r = r') : EVX X Γ e r' := er ▸ h
theorem sv_proc2X (i j : Nat) {k m : Nat} {ps : List Str} {α β : Type} [Rp α] [Rp β] {R : List α → List β → List Dat → LR (List α × List β) Str → Prop} {Γx : List Slot} {x : Str} {p : Pos} {xs : List α} {ys : List β} {r : LR (List α × List β) Str} {ds : List Dat} {n1 n2 : Expr} (F : FnAtM2X X.prog X.w X.K X.mg X.base x k ps R) (hr : Room m X.A) (hj : k ≤ m) (hij : i ≠ j)
    (hv : PE X n1 (tVar i)) (hv2 : PE X n2 (tVar j)) (h0 : Γ[i]? = some (.l xs)) (h1 : Γ[j]? = some (.l ys)) (ha : EA X Γ es ds) (hR : R xs ys ds r) (hx : Sb ((Γ.set i .any).set j .any) Γx) (hg : Gl X x := by rfl) (hdb : (x == ("__debug__" : Str)) = false := by decide)
    (he : starEach (n1 :: n2 :: es) X.env = (false, eval n1 X.env) :: starEach (n2 :: es) X.env := by rfl) (he2 : starEach (n2 :: es) X.env = (false, eval n2 X.env) :: starEach es X.env := by rfl) (hpl : (backTo pos (starEach (n2 :: es) X.env)).any (·.1) = false := by rfl)
    (hs : swapsWith (.Call (.Name x p) (n1 :: n2 :: es) [] pos) none pos'.line X.env = pure false := by rfl) : SV X Γ (.Expr (.Call (.Name x p) (n1 :: n2 :: es) [] pos) pos') (XO Γx (fun s => .nx ((Γ.set i (.l s.1)).set j (.l s.2))) r) := ⟨fun B G H σ D hB hgh l kk => by
  obtain ⟨f, fd, F1, hm, hk, hb⟩ := F.ex
  obtain ⟨Fp, pp, vs, lf, hF, e1, hbp, hgp, hh, rr⟩ := ownL l h0
  obtain ⟨w, ew, hfj, q2, vs2, ew2, hFj0, hh2, r2⟩ : ∃ w, σ[j]? = some (some w) ∧ (∀ a ∈ Fp j, B a = none ∧ G a = none ∧ ∃ ho, H a = some ho) ∧ ∃ q vs, w = .ref q ∧ Fp j = [q] ∧ H q = some (.lst vs) ∧ Reps X.K G vs ys := by
    obtain ⟨o, a1, v, a2, a3, q, vs, a4, a5, a6, a7⟩ := lf.ok j _ h1
    exact ⟨v, by rw [a1, a2], a3, q, vs, a4, a5, a6, a7⟩
  subst ew2
  have hq := hfj q2 (by rw [hFj0]; simp)
  have hpq : pp ≠ q2 := fun z => lf.sep i j _ _ hij h0 h1 rfl rfl pp (by rw [hF]; simp) (by rw [hFj0, z]; simp)
  -- what the two slots and the rest are behind the call
  have key : ∀ (G1 H1 G2 H2 : Hp) (s1t s2t : Slot), Grow G H G1 H1 → Same (delH (delH H1 pp) q2) H2 → Same G1 G2 → Same G2 H2 → (∀ a o, a ≠ pp → a ≠ q2 → H1 a = some o → Nt o → G2 a = G1 a) →
      SlotOk X.K B G2 H2 (some (.ref pp)) [pp] s1t → SlotOk X.K B G2 H2 (some (.ref q2)) [q2] s2t → Stp B G G2 H2 ∧ Lo X.K B G2 H2 σ ((Γ.set i s1t).set j s2t) := by
    intro G1 H1 G2 H2 s1t s2t g1 s1 s2 s3 s5 o1 o2
    have lf1 := lf.grow g1
    have hB1 := hB.trans g1.h
    have hBp : ∀ b u, B b = some u → b ≠ pp := fun b u e z => by rw [z, hbp] at e; cases e
    have hBq : ∀ b u, B b = some u → b ≠ q2 := fun b u e z => by rw [z, hq.1] at e; cases e
    have stp : Stp B G1 G2 H2 := ⟨fun b u e => s1 b u (by rw [delH_ne (hBq b u e), delH_ne (hBp b u e)]; exact hB1 b u e), s2, s3, fun b u e n => s5 b u (hBp b u e) (hBq b u e) (hB1 b u e) n⟩
    refine ⟨(g1.step hB).trans stp, ?_⟩
    refine ⟨fun n => if n = i then [pp] else if n = j then [q2] else Fp n, by simp [lf1.len], fun n s e => ?_, fun n n' s t hnn hn hn' hs ht a ha hb => ?_⟩
    · rcases set_get e with ⟨rfl, rfl, hi'⟩ | ⟨hjn, e⟩
      · rw [if_neg (Ne.symm hij), if_pos rfl]
        exact ⟨_, ew, o2⟩
      · rcases set_get e with ⟨rfl, rfl, hi'⟩ | ⟨hin, e⟩
        · rw [if_pos rfl]
          exact ⟨_, e1, o1⟩
        · rw [if_neg (Ne.symm hin), if_neg (Ne.symm hjn)]
          obtain ⟨o, h3, h4⟩ := lf1.ok n s e
          refine ⟨o, h3, ?_⟩
          cases s with
          | any => trivial
          | val d => obtain ⟨v, e, r⟩ := h4; exact ⟨v, e, Dat.mono s2 r⟩
          | own d2 =>
            obtain ⟨v2, e2, hf2, r2⟩ := h4
            have ne : ∀ a ∈ Fp n, a ≠ pp ∧ a ≠ q2 := fun a ha => ⟨fun z => lf1.sep n i _ _ (Ne.symm hin) e h0 rfl rfl a ha (by rw [hF, z]; simp), fun z => lf1.sep n j _ _ (Ne.symm hjn) e h1 rfl rfl a ha (by rw [hFj0, z]; simp)⟩
            refine ⟨v2, e2, fun a ha => ?_, Odat.mono s2 (fun a ha => ?_) r2⟩
            · obtain ⟨q1, q2', ho, q3⟩ := hf2 a ha
              exact ⟨q1, (s5 a ho (ne a ha).1 (ne a ha).2 q3 (Odat.nt r2 a ha ho q3)).trans q2', ho, s1 a ho (by rw [delH_ne (ne a ha).2, delH_ne (ne a ha).1]; exact q3)⟩
            · obtain ⟨q1, q2', ho, q3⟩ := hf2 a ha
              rw [s1 a ho (by rw [delH_ne (ne a ha).2, delH_ne (ne a ha).1]; exact q3), q3]
    · have fp : ∀ n, (if n = i then [pp] else if n = j then [q2] else Fp n) = Fp n := fun n => by
        split
        · rename_i z; rw [z, hF]
        · split
          · rename_i z; rw [z, hFj0]
          · rfl
      simp only [fp] at ha hb
      have key : ∀ (n : Nat) (s : Slot), ((Γ.set i s1t).set j s2t)[n]? = some s → s.isOwn = true → ∃ t : Slot, Γ[n]? = some t ∧ t.isOwn = true := fun n s e hs => by
        rcases set_get e with ⟨rfl, rfl, _⟩ | ⟨hjn, e⟩
        · exact ⟨_, h1, rfl⟩
        · rcases set_get e with ⟨rfl, rfl, _⟩ | ⟨hin, e⟩
          · exact ⟨_, h0, rfl⟩
          · exact ⟨s, e, hs⟩
      obtain ⟨s', k1, k2⟩ := key n s hn hs
      obtain ⟨t', k3, k4⟩ := key n' t hn' ht
      exact lf1.sep n n' s' t' hnn k1 k3 k2 k4 a ha hb
  refine ws (ps_expr (pe_callS (E := fun σ' cls d H' => σ' = σ ∧ ∃ c C G1 H1 G', r = .re c ∧ X.mg c = some (.ref C) ∧ cls = .ref C ∧ d = none ∧ Grow G H G1 H1 ∧ Same (delH (delH H1 pp) q2) H' ∧ Same G1 G' ∧ Same G' H' ∧ (∀ a o, a ≠ pp → a ≠ q2 → H1 a = some o → Nt o → G' a = G1 a)) F1 (hr.mono hj) hg hm hk hb (fun σ' => fly_pass fun cls d H' z => ?_) (pa_cons hv (pa_cons hv2 pa he2) he) hdb he hpl) hs) ⟨_, e1, _, ew, ha B G H σ hB hgh l _ fun ws G1 H1 g1 r1 => ?_⟩
  · obtain ⟨rfl, c, C, G1, H1, G', er, hc, e3, e4, g1, s1, s2, s3, s5⟩ := z
    subst er
    obtain ⟨st, lo⟩ := key G1 H1 G' H' .any .any g1 s1 s2 s3 s5 trivial trivial
    exact ⟨c, C, hc, e3, e4, kk G' H' st σ' (lo.sub hx)⟩
  have hh1 := g1.h _ _ hh
  have hh3 := g1.h _ _ hh2
  have hgp1 : G1 pp = none := (g1.fr pp _ hh).trans hgp
  have hgq1 : G1 q2 = none := (g1.fr q2 _ hh2).trans hq.2.1
  refine ⟨G1, pp, q2, vs, vs2, ws, xs, ys, ds, r, rfl, g1.gh, hpq, hh1, hgp1, hh3, hgq1, rr.mono g1.g, r2.mono g1.g, r1, hR, fun G2 H2 s1 s2 s3 s5 => ⟨fun xs' ys' er s4 s4' s6 s6' => ?_, fun c C er hc => ⟨rfl, c, C, G1, H1, G2, er, hc, rfl, rfl, g1, s1, s2, s3, s5⟩⟩⟩
  subst er
  obtain ⟨us', t1, t2⟩ := s6
  obtain ⟨vs', t3, t4⟩ := s6'
  obtain ⟨st, lo⟩ := key G1 H1 G2 H2 (.l xs') (.l ys') g1 s1 s2 s3 s5 ⟨.ref pp, rfl, fun a ha => by
      have : a = pp := by simpa using ha
      subst this
      exact ⟨hbp, s4, _, t1⟩, pp, us', rfl, rfl, t1, t2⟩ ⟨.ref q2, rfl, fun a ha => by
      have : a = q2 := by simpa using ha
      subst this
      exact ⟨hq.1, s4', _, t3⟩, q2, vs', rfl, rfl, t3, t4⟩
  exact kk G2 H2 st σ lo⟩
/-- append by an alias, of what may raise -/
theorem sv_appAlX (i j : Nat) {α : Type} [Rp α] {p : Addr} {xs : List α} {r : LR α Str} {Γx : List Slot} {c e : Expr} (hp : PE X c (tBM X.K "list" rAppend (tVar j) (tCons (WE X e) tNil))) (h0 : Γ[i]? = some (.o (MLp.mk p xs))) (hj : Γ[j]? = some (.v (Rf.mk p))) (h : EVX X Γ e r) (hx : Sb Γ Γx) (hz : xs.length < 10000000) (hs : swapsWith c none pos.line X.env = pure false := by rfl) :
    SV X Γ (.Expr c pos) (XO Γx (fun x => .nx (Γ.set i (.o (MLp.mk p (xs ++ [x]))))) r) := ⟨fun B G H σ D hB hg l k => by
  obtain ⟨vj, ej, rj⟩ := l.val hj
  have rj : vj = .ref p := rj
  subst rj
  obtain ⟨F, vs, lf, hF, e1, hbp, hgp, hh, rr⟩ := ownP l h0
  refine ws (ps_expr hp hs) ⟨_, ej, .inl ⟨rfl, _, .inl (.inl hh)⟩, ?_⟩
  refine h.run B G H σ hB hg l _ (fun x ex v G1 H1 g1 r1 => ?_) fun c ec G1 H1 g1 => ?_
  · subst ex
    refine ⟨p, vs, v, rfl, rfl, g1.h _ _ hh, by rw [rr.len]; exact Nat.lt_of_lt_of_le hz (by decide), ?_⟩
    have hgp1 := (g1.fr p _ hh).trans hgp
    exact k G1 _ ((g1.step hB).trans (Stp.mutL (hB.trans g1.h) g1.gh hbp hgp1)) σ ((lf.grow g1).mutP h0 hF e1 hbp hgp1 (paired_app (rr.mono g1.g) (.cons r1 .nil)))
  · subst ec
    exact k G1 H1 (g1.step hB) σ ((l.grow g1).sub hx)⟩
/-! ### try -/
/-- the suite of a clause, as the clauses wish it -/
def gts (X : Cx) (sts : List Stmt) (a : Addr) (cls : Value) (d : Option Addr) : TS := fun D σ H => ∀ oe pn, Zc cls d oe → (∃ vs, oe.data = .fields vs) → WSs (X.suite a ((a, oe) :: pn)) sts D σ H
theorem sv_tryAs (i : Nat) {τ : Type} {x n : Str} {hc : Value} {b₀ : Stmt} {body suite : List Stmt} {np hpos : Pos} {r : LR τ Str} {Γx : List Slot} {Env : τ → List Slot} {Γs : Str → List Slot} (hs : X.stack = X.env :: X.outer) (hf : X.env.frame = some X.env.locals) (hN : X.N.Nodup) (hi : X.N[i]? = some n) (hln : X.env.kindOf n = some .local) (hx : Names X x hc)
    (hb : ∀ pn xe, PassesOwn (model X.prog X.w) X.A X.env xe → BV (X.tr pn xe) Γ body (XO Γx (fun s => .nx (Env s)) r))
    (hm : ∀ c, r = .re c → ∀ C, X.mg c = some (.ref C) → PySem.W.exmOne X.K (.ref C) hc = some true)
    (hsu : ∀ c, r = .re c → ∀ C, X.mg c = some (.ref C) → ∀ a oe pn, Zc (.ref C) none oe → (∃ vs, oe.data = .fields vs) → BV (X.suite a ((a, oe) :: pn)) (Γx.set i (.v (Rf.mk a))) (b₀ :: suite) (.nx ((Γs c).set i (.v (Rf.mk a))))) :
    SV X Γ (.Try body [.ExceptHandler (some (.Name x np)) (some n) (b₀ :: suite) hpos] [] [] pos) (.nx (r.ends Env (fun c => (Γs c).set i .any))) := ⟨fun B G H σ D hB hg l k => by
  refine ws (ps_try_as (tb := fun W => fun D σ H => ∀ pn xe, Takes (X.tr pn xe) W → PassesOwn (model X.prog X.w) X.A X.env xe → WSs (X.tr pn xe) body D σ H) (ts := gts X (b₀ :: suite)) hs hf hN hi hln hx takes0 (fun W pn xe tk hp => ⟨fun pins s σ H D I h => h pn xe tk hp pins s I⟩) (fun a oe cls d pn hz hf => ⟨fun pins s σ H D I h => h oe pn hz hf pins s I⟩)) ?_
  intro pn xe tk hp
  refine (hb pn xe hp).run B G H σ _ hB hg l fun G1 H1 st => ?_
  have kk := k G1 H1 st
  cases r with
  | go s => exact kk
  | re c =>
    intro σ1 l1 C hC
    refine tk.imp fun cls d σ' H' z => ?_
    obtain ⟨rfl, rfl, rfl, rfl⟩ := z
    refine ⟨true, hm c rfl C hC, fun _ a na oe pn2 hz hf => ?_, fun z => nomatch z⟩
    refine (hsu c rfl C hC a oe pn2 hz hf).run B G1 _ _ _ st.b st.gh (l1.set (d := dt (Rf.mk a)) rfl) fun G2 H2 st2 σ2 l2 => ?_
    refine k G2 H2 (st.trans st2) _ ?_
    have z := l2.drop (i := i) (o := none)
    rw [List.set_set] at z
    exact z⟩
theorem hds_nil : HdsOk X [] [] := .nil
theorem hds_cons {x : Str} {c : Value} {b₀ : Stmt} {suite : List Stmt} {np hpos : Pos} {hds : List ExceptHandler} {l : List (Value × (Addr → Value → Option Addr → TS))} (hc : Names X x c) (r : HdsOk X hds l) :
    HdsOk X (.ExceptHandler (some (.Name x np)) none (b₀ :: suite) hpos :: hds) ((c, gts X (b₀ :: suite)) :: l) := .cons hc (fun a oe cls d pn hz hf => ⟨fun pins s σ H D I h => h oe pn hz hf pins s I⟩) r
/-- the clause that takes an error of the class c, and what it comes to -/
inductive Hit (X : Cx) (Γ : List Slot) (c : Str) : List (Value × (Addr → Value → Option Addr → TS)) → List Slot → Prop
  | hit {hc : Value} {sts : List Stmt} {l : List (Value × (Addr → Value → Option Addr → TS))} {Γ' : List Slot} (hm : ∀ C, X.mg c = some (.ref C) → PySem.W.exmOne X.K (.ref C) hc = some true) (hb : ∀ a pn, BV (X.suite a pn) Γ sts (.nx Γ')) : Hit X Γ c ((hc, gts X sts) :: l) Γ'
  | miss {hc : Value} {t : Addr → Value → Option Addr → TS} {l : List (Value × (Addr → Value → Option Addr → TS))} {Γ' : List Slot} (hm : ∀ C, X.mg c = some (.ref C) → PySem.W.exmOne X.K (.ref C) hc = some false) (h : Hit X Γ c l Γ') : Hit X Γ c ((hc, t) :: l) Γ'
theorem Hit.wm {c : Str} {l : List (Value × (Addr → Value → Option Addr → TS))} (h : Hit X Γ c l Γ') {C : Addr} (hC : X.mg c = some (.ref C)) {B G H : Hp} {σ : L2.St} {D : Ends} (hB : Same B H) (hg : Same G H) (lo : Lo X.K B G H σ Γ) (k : ∀ G' H', Stp B G G' H' → ∀ σ', Lo X.K B G' H' σ' Γ' → D.nx σ' H') : wMany X.K (fun _ _ _ _ => False) D l (.ref C) none σ H := by
  induction h with
  | hit hm hb => exact ⟨true, hm C hC, fun _ a _ oe pn hz hf => (hb a _).run B G H σ D hB hg lo fun G' H' st => k G' H' st, fun z => nomatch z⟩
  | miss hm h ih => exact ⟨false, hm C hC, (fun z => Bool.noConfusion z), fun _ => ih k⟩
theorem sv_tryMany {τ : Type} {body : List Stmt} {h₀ : ExceptHandler} {hds : List ExceptHandler} {l : List (Value × (Addr → Value → Option Addr → TS))} {r : LR τ Str} {Γx : List Slot} {Env : τ → List Slot} {Γs : Str → List Slot} (hs : X.stack = X.env :: X.outer) (hf : X.env.frame = some X.env.locals)
    (hb : ∀ pn xe, PassesOwn (model X.prog X.w) X.A X.env xe → BV (X.tr pn xe) Γ body (XO Γx (fun s => .nx (Env s)) r)) (hh : HdsOk X (h₀ :: hds) l) (hsu : ∀ c, r = .re c → Hit X Γx c l (Γs c)) :
    SV X Γ (.Try body (h₀ :: hds) [] [] pos) (.nx (r.ends Env Γs)) := ⟨fun B G H σ D hB hg lo k => by
  refine ws (ps_try_many (tb := fun W => fun D σ H => ∀ pn xe, Takes (X.tr pn xe) W → PassesOwn (model X.prog X.w) X.A X.env xe → WSs (X.tr pn xe) body D σ H) hs hf takes0 (fun W pn xe tk hp => ⟨fun pins s σ H D I h => h pn xe tk hp pins s I⟩) hh) ?_
  intro pn xe tk hp
  refine (hb pn xe hp).run B G H σ _ hB hg lo fun G1 H1 st => ?_
  cases r with
  | go s => exact k G1 H1 st
  | re c =>
    intro σ1 l1 C hC
    refine tk.imp fun cls d σ' H' z => ?_
    obtain ⟨rfl, rfl, rfl, rfl⟩ := z
    exact (hsu c rfl).wm hC st.b st.gh l1 fun G2 H2 st2 => k G2 H2 (st.trans st2)⟩
/-! ### own classes -/
/-- a class's own name -/
theorem ev_cls {x : Str} {C : Addr} (hm : X.mg x = some (.ref C)) (hg : Gl X x := by rfl) (hd : (x == ("__debug__" : Str)) = false := by decide) : EV X Γ (.Name x pos) (Rf.mk C) := ⟨fun B G H σ hB hgh l Q q => we (pe_glob (v := .ref C) hg hm rfl hd) (q _ G H (Grow.refl hgh) rfl)⟩
end
section
variable {X : Cx} {Γ : List Slot} {e1 e2 : Expr} {pos : Pos} {a D : Addr} {oe : Obj} {pn : List (Addr × Obj)}
theorem ev_isE {C : Addr} {r : Bool} {p : Pos} (hC : ExcC X.K D) (hz : Zc (.ref D) none oe) (hf : ∃ vs, oe.data = .fields vs) (hm : X.mg "isinstance" = none) (h1 : EV (X.suite a ((a, oe) :: pn)) Γ e1 (Rf.mk a)) (h2 : EV (X.suite a ((a, oe) :: pn)) Γ e2 (Rf.mk C)) (hk : PySem.W.kitOne X.K (.ref D) (.ref C) = some r)
    (hg : Gl X "isinstance" := by rfl) (hs : starEach [e1, e2] X.env = (false, eval e1 X.env) :: starEach [e2] X.env := by rfl) (hs2 : starEach [e2] X.env = (false, eval e2 X.env) :: starEach [] X.env := by rfl)
    (hpl : (backTo pos (starEach [e2] X.env)).any (·.1) = false := by rfl) : EV (X.suite a ((a, oe) :: pn)) Γ (.Call (.Name "isinstance" p) [e1, e2] [] pos) r :=
  ev_cb (X := X.suite a ((a, oe) :: pn)) (call_isE hC hz hf) hm (by decide +kernel) (ea_cons h1 (ea_cons h2 ea_nil hs2) hs) (fun G H vs hgh r1 Q q => by
    cases r1 with | cons r1 t => cases t with | cons r2 t => cases t; exact ⟨.ref C, .ref C, r, by rw [show _ = V.ref a from r1, show _ = V.ref C from r2], fun u z => z, hk, q _ G H (Grow.refl hgh) rfl⟩) hg (by decide) (by decide) hs hpl
theorem ev_isEB {T : String} {r : Bool} {p : Pos} (hC : ExcC X.K D) (hz : Zc (.ref D) none oe) (hf : ∃ vs, oe.data = .fields vs) (hm : X.mg "isinstance" = none) (h1 : EV (X.suite a ((a, oe) :: pn)) Γ e1 (Rf.mk a)) (h2 : EV (X.suite a ((a, oe) :: pn)) Γ e2 (TyN.mk T)) (hk : PySem.W.kitOne X.K (.ref D) (.type T) = some r)
    (hg : Gl X "isinstance" := by rfl) (hs : starEach [e1, e2] X.env = (false, eval e1 X.env) :: starEach [e2] X.env := by rfl) (hs2 : starEach [e2] X.env = (false, eval e2 X.env) :: starEach [] X.env := by rfl)
    (hpl : (backTo pos (starEach [e2] X.env)).any (·.1) = false := by rfl) : EV (X.suite a ((a, oe) :: pn)) Γ (.Call (.Name "isinstance" p) [e1, e2] [] pos) r :=
  ev_cb (X := X.suite a ((a, oe) :: pn)) (call_isE hC hz hf) hm (by decide +kernel) (ea_cons h1 (ea_cons h2 ea_nil hs2) hs) (fun G H vs hgh r1 Q q => by
    cases r1 with | cons r1 t => cases t with | cons r2 t => cases t; exact ⟨.ty T, .type T, r, by rw [show _ = V.ref a from r1, show _ = V.ty T from r2], fun u z => z, hk, q _ G H (Grow.refl hgh) rfl⟩) hg (by decide) (by decide) hs hpl
end
/-! ### the facts on classes, by their names -/
structure XCls (K : PySem.W.Frag) (mg : Str → Option Value) (x : Str) : Prop where
  err : ErrC K mg x
  exc : ∀ D, mg x = some (.ref D) → ExcC K D
def XKit (K : PySem.W.Frag) (mg : Str → Option Value) (c d : Str) (b : Bool) : Prop := ∀ C D, mg c = some (.ref C) → mg d = some (.ref D) → PySem.W.kitOne K (.ref C) (.ref D) = some b
def XKitB (K : PySem.W.Frag) (mg : Str → Option Value) (c : Str) (T : String) (b : Bool) : Prop := ∀ C, mg c = some (.ref C) → PySem.W.kitOne K (.ref C) (.type T) = some b
def XExm (K : PySem.W.Frag) (mg : Str → Option Value) (c d : Str) (b : Bool) : Prop := ∀ C D, mg c = some (.ref C) → mg d = some (.ref D) → PySem.W.exmOne K (.ref C) (.ref D) = some b
end Wl

set_option maxRecDepth 100000
set_option maxHeartbeats 2000000
namespace Wl
open PySem PySem.Spec PyProof.Rows L2
section
variable {X : Cx} {Γ Γ' : List Slot} {e a b : Expr} {es : List Expr} {st : Stmt} {sts els rest : List Stmt} {pos pos' : Pos} {c : Expr} {o : Out}
theorem ev_toQ2 {α : Type} [Rp α] {xs : List α} (d : α) (h : EV X Γ e xs) (hl : xs.length = 2) : EV X Γ e (toQ2 d xs) := ⟨fun B G H σ hB hg l Q q => h B G H σ hB hg l Q fun v G1 H1 g1 r1 => q v G1 H1 g1 (rep_toQ2 d hl r1)⟩
/-- n times over -/
def repL {α : Type} (xs : List α) : Nat → List α
  | 0 => []
  | n + 1 => xs ++ repL xs n
theorem repL_len {α : Type} (xs : List α) : ∀ n, (repL xs n).length = xs.length * n
  | 0 => by simp [repL]
  | n + 1 => by rw [repL, List.length_append, repL_len xs n, Nat.mul_succ]; omega
theorem repL_one {α : Type} (x : α) : ∀ n, repL [x] n = List.replicate n x
  | 0 => rfl
  | n + 1 => by rw [repL, repL_one x n, List.replicate_succ]; rfl
theorem paired_rep {α β : Type} {R : α → β → Prop} {xs : List α} {ys : List β} (r : Paired R xs ys) : ∀ n, Paired R (List.replicate n xs).flatten (repL ys n)
  | 0 => .nil
  | n + 1 => by rw [List.replicate_succ, List.flatten_cons]; exact paired_app r (paired_rep r n)
theorem en_rep {α : Type} [Rp α] {xs : List α} {k : Int} (ha : EN X Γ a (ML.mk xs)) (hb : EV X Γ b k) (hz : -(2 ^ 63) ≤ k ∧ k < 2 ^ 63 ∧ xs.length * k.toNat ≤ 10000000) : EN X Γ (.BinOp a .Mult b pos) (ML.mk (repL xs k.toNat)) := ⟨fun B G H σ hB hg l Q q =>
  we (pe_op op_rep pe pe) (ha B G H σ hB hg l _ fun v fp G1 H1 g1 hf ok => hb B G1 H1 σ (hB.trans g1.h) g1.gh (l.grow g1) _ fun v2 G2 H2 g2 ok2 => by
    obtain ⟨p, vs, rfl, rfl, hh, r⟩ := ok
    have r : Reps X.K G1 vs xs := r
    have ok2 : v2 = .int k := ok2
    subst ok2
    have hh2 := g2.h _ _ hh
    have r2 := r.mono g2.g
    refine ⟨p, k, vs, rfl, rfl, hh2, hz.1, hz.2.1, ?_, fun p3 hp3 => q (.ref p3) [p3] G2 _ ((g1.trans g2).trans (Grow.own g2.gh hp3)) (one_new ((g1.trans g2).h.free hp3) (g2.gh.free hp3)) ⟨p3, _, rfl, rfl, upd_same, paired_rep r2 _⟩⟩
    have := r.len
    rw [sizeLine_eq, this]
    omega)⟩
/-! ### the classes that may fly -/
def LR.Ok {τ : Type _} (P : Str → Prop) (r : LR τ Str) : Prop := ∀ c, r = .re c → P c
theorem okc_go {τ : Type _} {P : Str → Prop} {s : τ} : (LR.go s : LR τ Str).Ok P := fun c e => by cases e
theorem okc_re {τ : Type _} {P : Str → Prop} {c : Str} (h : P c) : (LR.re c : LR τ Str).Ok P := fun c' e => by cases e; exact h
theorem okc_bind {τ ρ : Type} {P : Str → Prop} {r : LR τ Str} {g : τ → LR ρ Str} (h : r.Ok P) (h2 : ∀ y, (g y).Ok P) : (r.bind g).Ok P := by
  cases r with
  | go s => exact h2 s
  | re c => intro c' e; cases e; exact h c rfl
theorem okc_bif {τ : Type _} {P : Str → Prop} {b : Bool} {r s : LR τ Str} (h : r.Ok P) (h2 : s.Ok P) : (bif b then r else s).Ok P := by cases b <;> assumption
theorem okc_runL {α τ : Type} {P : Str → Prop} {f : τ → α → LR τ Str} (h : ∀ s x, (f s x).Ok P) : ∀ (xs : List α) (s : τ), (runL f s xs).Ok P
  | [], s => okc_go
  | x :: r, s => by
    have h1 := h s x
    unfold runL
    cases e : f s x with
    | go s' => exact okc_runL h r s'
    | re c => rw [e] at h1; intro c' e'; cases e'; exact h1 c rfl
/-- the value of what doesn't raise -/
def LR.val {τ ρ : Type _} (r : LR τ ρ) (d : τ) : τ := match r with
  | .go s => s
  | .re _ => d
def LR.isGo {τ ρ : Type _} (r : LR τ ρ) : Prop := ∃ s, r = .go s
theorem LR.val_go {τ ρ : Type _} {r : LR τ ρ} {d : τ} (h : r.isGo) : r = .go (r.val d) := by obtain ⟨s, e⟩ := h; subst e; rfl
theorem xo_ex {τ : Type} [Rp τ] {Γx : List Slot} (r : LR τ Str) : (XO Γx (fun y => .rt (dt y)) r).exits := by cases r <;> trivial
theorem rd_out {τ : Type} [Rp τ] (n : Nat) (r : LR τ Str) : RD.out n (LR.dat r) = XO (List.replicate n .any) (fun y => .rt (dt y)) r := by cases r <;> rfl
/-- if as a statement, its ways may raise -/
theorem sv_ifX {x : Bool} {of : Bool → Out} (h : ET X Γ c x) (h1 : x = true → BV X Γ sts (of true)) (h2 : x = false → BV X Γ els (of false)) (ho : of x = o := by exact rfl) : SV X Γ (.If c sts els pos) o := ho ▸ sv_ifo (of := of) h h1 h2
end
section
variable {X : Cx} {Γ : List Slot} {e a b : Expr} {pos : Pos}
theorem sv_tryAs2 (i : Nat) {τ υ : Type} {x n : Str} {hc : Value} {b₀ : Stmt} {body suite : List Stmt} {np hpos : Pos} {r : LR τ Str} {Γx : List Slot} (Ef : υ → List Slot) (f : τ → υ) (g : Str → υ) (P : Str → Prop) (hP : r.Ok P) (hs : X.stack = X.env :: X.outer) (hf : X.env.frame = some X.env.locals) (hN : X.N.Nodup) (hx : Names X x hc)
    (hb : ∀ pn xe, PassesOwn (model X.prog X.w) X.A X.env xe → BV (X.tr pn xe) Γ body (XO Γx (fun s => .nx (Ef (f s))) r))
    (hm : ∀ c, P c → ∀ C, X.mg c = some (.ref C) → PySem.W.exmOne X.K (.ref C) hc = some true)
    (hsu : ∀ c, P c → ∀ C, X.mg c = some (.ref C) → ∀ a oe pn, Zc (.ref C) none oe → (∃ vs, oe.data = .fields vs) → BV (X.suite a ((a, oe) :: pn)) (Γx.set i (.v (Rf.mk a))) (b₀ :: suite) (.nx ((Ef (g c)).set i (.v (Rf.mk a)))))
    (hE : ∀ y, (Ef y).set i .any = Ef y := by intro _; rfl) (hi : X.N[i]? = some n := by rfl) (hln : X.env.kindOf n = some .local := by rfl) :
    SV X Γ (.Try body [.ExceptHandler (some (.Name x np)) (some n) (b₀ :: suite) hpos] [] [] pos) (.nx (Ef (r.ends f g))) := by
  have h := sv_tryAs (pos := pos) (np := np) (hpos := hpos) i (Γs := fun c => Ef (g c)) hs hf hN hi hln hx hb (fun c e => hm c (hP c e)) (fun c e => hsu c (hP c e))
  have e : (r.ends (fun s => Ef (f s)) fun c => (Ef (g c)).set i .any) = Ef (r.ends f g) := by
    cases r with
    | go s => rfl
    | re c => exact hE _
  rw [e] at h
  exact h
theorem sv_tryMany2 {τ υ : Type} {body : List Stmt} {h₀ : ExceptHandler} {hds : List ExceptHandler} {l : List (Value × (Addr → Value → Option Addr → TS))} {r : LR τ Str} {Γx : List Slot} (Ef : υ → List Slot) (f : τ → υ) (g : Str → υ) (P : Str → Prop) (hP : r.Ok P) (hs : X.stack = X.env :: X.outer) (hf : X.env.frame = some X.env.locals)
    (hb : ∀ pn xe, PassesOwn (model X.prog X.w) X.A X.env xe → BV (X.tr pn xe) Γ body (XO Γx (fun s => .nx (Ef (f s))) r)) (hh : HdsOk X (h₀ :: hds) l) (hsu : ∀ c, P c → Hit X Γx c l (Ef (g c))) :
    SV X Γ (.Try body (h₀ :: hds) [] [] pos) (.nx (Ef (r.ends f g))) := by
  have h := sv_tryMany (pos := pos) hs hf hb hh (fun c e => hsu c (hP c e))
  have e : r.ends (fun s => Ef (f s)) (fun c => Ef (g c)) = Ef (r.ends f g) := by cases r <;> rfl
  rw [e] at h
  exact h
end
/-! ### what the top says of classes -/
theorem kit_ref {K : PySem.W.Frag} {C D : Addr} {b : Bool} (h2 : PySem.W.isClsIn K D = true) (h3 : PySem.W.typeIn K (.ref D) = some (.type "type")) (hs : PySem.W.subIn K (.ref C) (.ref D) = some b) (hn : b = true ∨ (Value.ref C == Value.ref D) = false) : PySem.W.kitOne K (.ref C) (.ref D) = some b := by
  have h2' : (PySem.W.clsIn K D).isSome = true := h2
  have e2 : ((PySem.W.clsIn K D).isSome && PySem.W.typeIn K (.ref D) == some (.type "type")) = true := by rw [h2', h3] <;> rfl
  show (if (Value.ref C == Value.ref D) = true then some true else if ((PySem.W.clsIn K D).isSome && PySem.W.typeIn K (.ref D) == some (.type "type")) = true then PySem.W.subIn K (.ref C) (.ref D) else none) = some b
  rw [if_pos e2, hs]
  rcases hn with e | e
  · rw [e]; split <;> rfl
  · rw [e]; rfl
theorem exm_refI {K : PySem.W.Frag} {C D : Addr} {b : Bool} (h1 : PySem.W.subIn K (.ref D) (.type "BaseException") = some true) (h2 : PySem.W.isClsIn K D = true) (h3 : PySem.W.typeIn K (.ref D) = some (.type "type")) (hs : PySem.W.subIn K (.ref C) (.ref D) = some b) : PySem.W.exmOne K (.ref C) (.ref D) = some b := by
  have e1 : (PySem.W.subIn K (.ref D) (.type "BaseException") == some true) = true := by rw [h1] <;> rfl
  have h2' : (PySem.W.clsIn K D).isSome = true := h2
  have e2 : ((PySem.W.clsIn K D).isSome && PySem.W.typeIn K (.ref D) == some (.type "type")) = true := by rw [h2', h3] <;> rfl
  show (if (PySem.W.subIn K (.ref D) (.type "BaseException") == some true) = true then (if ((PySem.W.clsIn K D).isSome && PySem.W.typeIn K (.ref D) == some (.type "type")) = true then PySem.W.subIn K (.ref C) (.ref D) else none) else none) = some b
  rw [if_pos e1, if_pos e2]
  exact hs
theorem kit_VE {K : PySem.W.Frag} {C : Addr} {b : Bool} (hs : PySem.W.subIn K (.ref C) (.type "ValueError") = some b) : PySem.W.kitOne K (.ref C) (.type "ValueError") = some b := by
  have e2 : PySem.W.kitMeta "ValueError" = true := by decide +kernel
  show (if (Value.ref C == Value.type "ValueError") = true then some true else if PySem.W.kitMeta "ValueError" = true then PySem.W.subIn K (.ref C) (.type "ValueError") else none) = some b
  rw [if_pos e2, hs]
  rfl
theorem errc_mk {K : PySem.W.Frag} {mg : Str → Option Value} {x : Str} {C : Addr} (q : PySem.W.excIn K C [.type "ValueError", .type "Exception", .type "BaseException", .type "object"] "ValueError.__new__" = true) (hm : mg x = some (.ref C)) (hk : PySem.W.keepIn K (.ref C) = true) (hb : PySem.W.subIn K (.ref C) (.type "BaseException") = some true) (ht : PySem.W.typeIn K (.ref C) = some (.type "type")) : ErrC K mg x :=
  ⟨C, _, _, _, _, PySem.F.excBase_ValueError, q, hm, hk, hb, ht⟩
end Wl

set_option maxRecDepth 100000
set_option maxHeartbeats 2000000
/-! rows of streams of any numbers of up to ten figures -/
namespace Wl
open PySem PySem.Spec PyProof.Rows L2
structure NumG (s : T3 Int Int Int) : Prop where
  a0 : 0 ≤ s.a
  a1 : s.a < 10 ^ 10
  b0 : 0 ≤ s.b
  b1 : s.b < 10 ^ 10
  c0 : 0 ≤ s.c
  c1 : s.c < 10 ^ 10
structure WorksG (w : WksT) : Prop where
  g0 : 0 ≤ w.a
  g1 : w.a ≤ 50
  nh : w.b.length ≤ 13
  nc : w.c.length ≤ 13
  h : ∀ s ∈ w.b, NumG s
  c : ∀ s ∈ w.c, NumG s
theorem split_rowG {k : Str} {s : T3 Int Int Int} (hk : KindW k) (hs : NumG s) : Txt.split (rowT k s) (Str.ofString " ") = [k, numS s.a, numS s.b, numS s.c] := by
  have h := TL.split_join (y := Str.ofString " ") (s := 32) (S := []) blank_tl (by decide +kernel) (parts := [k, numS s.a, numS s.b, numS s.c]) (by simp) (fun p hp => by
    have hp : p = k ∨ p = numS s.a ∨ p = numS s.b ∨ p = numS s.c := by simpa using hp
    rcases hp with e | e | e | e <;> rw [e]
    · exact kind_free hk (by decide)
    · exact numS_free hs.a0 (.inl (by decide))
    · exact numS_free hs.b0 (.inl (by decide))
    · exact numS_free (by have := hs.c0; omega) (.inl (by decide)))
  rw [TL.join_eq] at h
  exact h
theorem row_freeG {k : Str} {s : T3 Int Int Int} (hk : KindW k) (hs : NumG s) : 10 ∉ TL.tl (rowT k s) := by
  unfold rowT
  rw [TL.tl_join, blank_tl]
  refine joinL_free (by decide) fun p hp => ?_
  have hp : p = TL.tl k ∨ p = TL.tl (numS s.a) ∨ p = TL.tl (numS s.b) ∨ p = TL.tl (numS s.c) := by simpa using hp
  rcases hp with e | e | e | e <;> rw [e]
  · exact kind_free hk (by decide)
  · exact numS_free hs.a0 (.inl (by decide))
  · exact numS_free hs.b0 (.inl (by decide))
  · exact numS_free (by have := hs.c0; omega) (.inl (by decide))
theorem split_textG {w : WksT} (h : WorksG w) : Txt.split (textT w) (Str.ofString "\n") = rowsT w := by
  have q := TL.split_join (y := Str.ofString "\n") (s := 10) (S := []) feed_tl (by decide +kernel) (parts := rowsT w) (by unfold rowsT; simp) (fun p hp => by
    unfold rowsT at hp
    rcases List.mem_cons.mp hp with e | hp
    · rw [e]; exact gap_free h.g0
    · rcases List.mem_append.mp hp with hp | hp
      · obtain ⟨s, hs, e⟩ := List.mem_map.mp hp
        rw [← e]; exact row_freeG (.inl rfl) (h.h s hs) 
      · obtain ⟨s, hs, e⟩ := List.mem_map.mp hp
        rw [← e]; exact row_freeG (.inr rfl) (h.c s hs) )
  rw [TL.join_eq] at q
  exact q
theorem row_lenG {k : Str} {s : T3 Int Int Int} (hk : KindW k) (hs : NumG s) : (rowT k s).length ≤ 38 := by
  rw [str_len]
  unfold rowT
  rw [TL.tl_join, blank_tl]
  have h := joinL_len [32] ([k, numS s.a, numS s.b, numS s.c].map TL.tl)
  have h1 := kind_len hk
  have h2 := num_le hs.a0 (by have := hs.a1; omega)
  have h3 := num_le hs.b0 (by have := hs.b1; omega)
  have h4 := num_le (n := s.c) (by have := hs.c0; omega) (by have := hs.c1; omega)
  rw [str_len] at h1 h2 h3 h4
  simp only [List.map_cons, List.map_nil, List.sum_cons, List.sum_nil, List.length_cons, List.length_nil] at h
  show (TL.joinL [32] [TL.tl k, TL.tl (numS s.a), TL.tl (numS s.b), TL.tl (numS s.c)]).length ≤ 38
  omega
theorem rows_lenG {w : WksT} (h : WorksG w) : (rowsT w).length ≤ 27 ∧ ∀ r ∈ rowsT w, r.length ≤ 38 := by
  have := h.nh
  have := h.nc
  refine ⟨by unfold rowsT; rw [List.length_cons, List.length_append, List.length_map, List.length_map]; omega, fun r hr => ?_⟩
  unfold rowsT at hr
  rcases List.mem_cons.mp hr with e | hp
  · rw [e]; have := gap_len h.g0 h.g1; omega
  · rcases List.mem_append.mp hp with hp | hp
    · obtain ⟨s, hs, e⟩ := List.mem_map.mp hp
      rw [← e]; exact row_lenG (.inl rfl) (h.h s hs) 
    · obtain ⟨s, hs, e⟩ := List.mem_map.mp hp
      rw [← e]; exact row_lenG (.inr rfl) (h.c s hs) 
theorem text_lenG {w : WksT} (h : WorksG w) : (textT w).length ≤ 2000 := by
  obtain ⟨h1, h2⟩ := rows_lenG h
  have h3 := join_len (Str.ofString "\n") (rowsT w)
  have h4 := sum_le (·.length) 38 (rowsT w) h2
  have e : (Str.ofString "\n").length = 1 := by decide +kernel
  rw [e] at h3
  unfold textT
  omega
theorem num_logG {s : T3 Int Int Int} (h : NumG s) {x : Int} (hx : x ∈ [s.a, s.b, s.c]) : x.natAbs.log2 < 1920 := by
  have hx : x = s.a ∨ x = s.b ∨ x = s.c := by simpa using hx
  have := h.a0; have := h.a1; have := h.b0; have := h.b1; have := h.c0; have := h.c1
  rcases hx with e | e | e <;> rw [e] <;> exact log_ok (by omega) (by omega)
theorem num_wG {k : Str} {s : T3 Int Int Int} (h : NumG s) {x : Str} (hx : x ∈ pySlice [k, numS s.a, numS s.b, numS s.c] (some (1 : Int)) none none) : NumW x := by
  rw [pySlice_drop _ (by decide)] at hx
  have hx : x = numS s.a ∨ x = numS s.b ∨ x = numS s.c := by simpa using hx
  have := h.a0; have := h.a1; have := h.b0; have := h.b1; have := h.c0; have := h.c1
  rcases hx with e | e | e <;> rw [e] <;> exact numW (by omega) (by omega)
theorem row_joinG {k : Str} {s : T3 Int Int Int} (hk : KindW k) (hs : NumG s) : (([k, numS s.a, numS s.b, numS s.c] : List Str).map (·.length)).sum + ([k, numS s.a, numS s.b, numS s.c] : List Str).length * (Str.ofString " ").length ≤ 10000000 := by
  have h1 := kind_len hk
  have h2 := num_le hs.a0 (by have := hs.a1; omega)
  have h3 := num_le hs.b0 (by have := hs.b1; omega)
  have h4 := num_le (n := s.c) (by have := hs.c0; omega) (by have := hs.c1; omega)
  have e : (Str.ofString " ").length = 1 := by decide +kernel
  rw [e]
  simp only [List.map_cons, List.map_nil, List.sum_cons, List.sum_nil, List.length_cons, List.length_nil]
  omega
theorem rows_joinG {w : WksT} (h : WorksG w) : ((rowsT w).map (·.length)).sum + (rowsT w).length * (Str.ofString "\n").length ≤ 10000000 := by
  obtain ⟨h1, h2⟩ := rows_lenG h
  have h4 := sum_le (·.length) 38 (rowsT w) h2
  have e : (Str.ofString "\n").length = 1 := by decide +kernel
  rw [e]
  omega
end Wl

set_option maxRecDepth 100000
set_option maxHeartbeats 2000000
/-! list(d); insert; rows of one's own table stored; an own pair of lists -/
namespace Wl
open PySem PySem.Spec PyProof.Rows L2
section
variable {X : Cx} {Γ Γ' : List Slot} {st : Stmt} {sts els rest : List Stmt} {a b c d e tg iter elt : Expr} {es elts ifs : List Expr} {pos : Pos} {o : Out}
/-- list(d), d a dict with int keys -/
theorem cr_listDI (hcalm : X.calm = true) : CallR X (.type "list") (fun xs H Q => ∃ (a : Addr) (kvs : List (Key × V)) (ks : List Int), xs = [.ref a] ∧ Rd H a (.dK kvs) ∧ kvs.map (·.1) = ks.map Sum.inl ∧
    ∀ (p : Addr), H p = none → Q (.ref p) (upd H p (.lst (ks.map V.int)))) := by
  intro pins s σ H xs us Q I r q
  obtain ⟨a, kvs, ks, ex, hd, hks, q⟩ := q
  subst ex
  obtain ⟨u, eu, rx⟩ := vals1 r
  subst eu
  cases rx
  obtain ⟨z, lo, vs, rel, dd⟩ := dk_rd I.hok hd
  obtain ⟨ep, hat⟩ := dd.dictAt
  have hkeys : vs.map (·.1) = ks.map Sum.inl := rel.keys.symm.trans hks
  have hl : vs.length = ks.length := by
    have e := congrArg List.length hkeys
    rw [List.length_map, List.length_map] at e
    exact e
  have h16 : vs.length ≤ sizeLine := by rw [← rel.length]; exact z
  refine PySem.W.kdl_call (PySem.W.kdl_dict (knd := mixKind X.prog X.w) (kvs := vs) (ep := ep) lo) (I.ok.hd hcalm) hat h16 fun h' tk acc c' hk hD hacc => ?_
  have hal : acc.toList.length = ks.length := by rw [Array.length_toList, hacc.1, hl]
  have hS : IntsAre acc.toList ks := ints_each hal fun j v e => by
    obtain ⟨k, x, e1, e2⟩ := hacc.2 j v (by rw [← Array.getElem?_toList]; exact e)
    have e3 : (vs.map (·.1))[j]? = some k := by rw [List.getElem?_map, e1]; rfl
    rw [hkeys, List.getElem?_map] at e3
    cases e4 : ks[j]? with
    | none => rw [e4] at e3; cases e3
    | some y =>
      rw [e4] at e3
      have e5 : Sum.inl y = k := Option.some.inj e3
      subst e5
      rcases keyIs_shape (show keyIs (Sum.inl y) v = true from e2) with ⟨i, t, ek, ev⟩ | ⟨z, t, ek, ev⟩
      · cases ek
        exact ⟨y, t, rfl, ev⟩
      · cases ek
  have hz : (ks.map V.int).length ≤ sizeLine := by rw [List.length_map, ← hl]; exact h16
  exact ⟨.ref s.heap.objs.size, _, I.laid (t' := tk) hk (Nat.le_refl _) (show ObjOk X.prog X.w _ h' _ (.lst (ks.map V.int)) from ⟨hz, acc.toList, c', vals_of_ints hS, by rw [Array.toArray_toList]; exact hD⟩), rfl, q _ (I.hok.fresh (Nat.le_refl _))⟩
theorem en_listDI {p : Pos} {β : Type} [Rp β] {kvs : List (Int × β)} (hc : X.calm = true) (hm : X.mg "list" = none) (ha : EV X Γ a (DV.mk kvs)) (hg : Gl X "list" := by rfl) (he : starEach [a] X.env = (false, eval a X.env) :: starEach [] X.env := by rfl) (hpl : (backTo pos (starEach [] X.env)).any (·.1) = false := by rfl) :
    EN X Γ (.Call (.Name "list" p) [a] [] pos) (ML.mk (kvs.map (·.1))) := ⟨fun B G H σ hB hgh l Q q =>
  we (pe_callTy (cr_listDI hc) hg hm (by decide +kernel) pa (by decide) (by decide) he hpl) (ea_cons ha ea_nil he B G H σ hB hgh l _ fun vs G1 H1 g1 r1 => by
    cases r1 with
    | cons r1 t =>
      cases t
      obtain ⟨p, ws, rfl, hr, dr⟩ := r1
      exact ⟨p, ws, kvs.map (·.1), rfl, rdMono g1.gh hr, dr.keys, fun l hl => q (.ref l) [l] G1 _ (g1.trans (Grow.own g1.gh hl)) (one_new (g1.h.free hl) (g1.gh.free hl)) ⟨l, _, rfl, rfl, upd_same, ints_reps _⟩⟩)⟩
/-- xs.insert(z, e) -/
theorem sv_insL (i : Nat) {α : Type} [Rp α] {xs : List α} {x : α} {z : Int} {c e0 e : Expr} (hp : PE X c (tBM X.K "list" rInsert (tVar i) (tCons (WE X e0) (tCons (WE X e) tNil)))) (h0 : Γ[i]? = some (.l xs)) (h2 : EV X Γ e0 z) (h : EV X Γ e x) (hz : 0 ≤ z ∧ z < 2 ^ 63 ∧ xs.length < 10000000) (hs : swapsWith c none pos.line X.env = pure false := by rfl) :
    SV X Γ (.Expr c pos) (.nx (Γ.set i (.l (insL xs z x)))) := ⟨fun B G H σ D hB hg l k => by
  obtain ⟨F, p, vs, lf, hF, e1, hbp, hgp, hh, r⟩ := ownL l h0
  refine ws (ps_expr hp hs) ⟨_, e1, .inl ⟨rfl, _, .inl (.inl hh)⟩, ?_⟩
  refine h2 B G H σ hB hg l _ fun v0 G0 H0 g0 r0 => h B G0 H0 σ (hB.trans g0.h) g0.gh (l.grow g0) _ fun v G1 H1 g1 r1 => ?_
  have g := g0.trans g1
  have e0 : v0 = V.int z := r0
  subst e0
  refine ⟨p, vs, z, v, rfl, rfl, g.h _ _ hh, by rw [r.len]; exact Nat.lt_of_lt_of_le hz.2.2 (by decide), hz.1, hz.2.1, ?_⟩
  have hgp1 := (g.fr p _ hh).trans hgp
  exact k G1 _ ((g.step hB).trans (Stp.mutL (hB.trans g.h) g.gh hbp hgp1)) σ ((lf.grow g).mutL h0 hF e1 hbp hgp1 (paired_app (paired_app (paired_take _ (r.mono g.g)) (.cons r1 .nil)) (paired_drop _ (r.mono g.g))))⟩
/-- t[r][c] = e of one's own table -/
theorem sv_setT (i : Nat) {α : Type} [Rp α] {rows : List (List α)} {r c : Int} {x : α} {e1 e2 e3 : Expr} (hp : PS X st (tAsg (WE X e3) (gSub (tOp (rIxL X.K) (tVar i) (WE X e1)) (WE X e2) rSetL))) (h0 : Γ[i]? = some (.o (MT.mk rows))) (h3 : EV X Γ e3 x) (h1 : EV X Γ e1 r) (h2 : EV X Γ e2 c)
    (hr : 0 ≤ r ∧ r < (rows.length : Int)) (hc : 0 ≤ c ∧ c < ((rows.getD r.toNat []).length : Int)) : SV X Γ st (.nx (Γ.set i (.o (MT.mk (rows.set r.toNat ((rows.getD r.toNat []).set c.toNat x)))))) := ⟨fun B G H σ D hB hg l k => by
  obtain ⟨F, v, lf, ev, hf, p, qs, rfl, hF, hnd, hp', hrows⟩ := own_at l h0
  have hrow : rows[r.toNat]? = some (rows.getD r.toNat []) := by
    have h : r.toNat < rows.length := by omega
    rw [List.getD_eq_getElem?_getD, List.getElem?_eq_getElem h]; rfl
  generalize rows.getD r.toNat [] = row at *
  obtain ⟨q, hq, vs, hvs, rvs⟩ := paired_get2 hrows r.toNat row hrow
  refine ws hp (h3 B G H σ hB hg l _ fun v3 G3 H3 g3 r3 => ?_)
  refine ⟨_, ev, h1 B G3 H3 σ (hB.trans g3.h) g3.gh (l.grow g3) _ fun v1 G1 H1 g1 r1 => ?_⟩
  refine ⟨p, qs.map V.ref, r, .ref q, rfl, r1, .inl (.inl ((g3.trans g1).h _ _ hp')), ?_, ?_⟩
  · have hi : ((r.toNat : Nat) : Int) = r := by omega
    rw [← hi]; exact atI_nat (by rw [List.getElem?_map, hq]; rfl)
  · have g31 := g3.trans g1
    refine h2 B G1 H1 σ (hB.trans g31.h) g1.gh (l.grow g31) _ fun v2 G2 H2 g2 r2 => ?_
    have g := g31.trans g2
    refine ⟨q, vs, c, c.toNat, rfl, r2, g.h _ _ hvs, ?_, ?_⟩
    · have := rvs.len
      unfold ixN
      rw [if_pos hc.1, if_pos (by omega)]
    · obtain ⟨s1, s2⟩ := mt_mut (row := row.set c.toNat x) lf h0 ev hf hF hnd hp' hrows g hB hq (paired_set (Rp.mono (g1.trans g2).g r3) _ (rvs.mono g.g))
      exact k G2 _ s1 σ s2⟩
theorem nodup_set {qs : List Addr} {q : Addr} (h : qs.Nodup) (hq : q ∉ qs) (r : Nat) : (qs.set r q).Nodup := by
  induction qs generalizing r with
  | nil => exact h
  | cons a t ih =>
    obtain ⟨h1, h2⟩ := List.nodup_cons.mp h
    cases r with
    | zero => exact List.nodup_cons.mpr ⟨fun z => hq (List.mem_cons_of_mem _ z), h2⟩
    | succ n =>
      refine List.nodup_cons.mpr ⟨fun z => ?_, ih h2 (fun z => hq (List.mem_cons_of_mem _ z)) n⟩
      rcases List.mem_or_eq_of_mem_set z with z | z
      · exact h1 z
      · exact hq (by rw [z]; simp)
theorem rows_put {α : Type} [Rp α] {K : PySem.W.Frag} {G H : Hp} {row : List α} {q : Addr} (hq : ∃ vs, H q = some (.lst vs) ∧ Reps K G vs row) : ∀ {qs : List Addr} {rows : List (List α)} (r : Nat), RowsOk K G H qs rows → RowsOk K G H (qs.set r q) (rows.set r row)
  | _, _, _, .nil => .nil
  | _, _, 0, .cons _ t => .cons hq t
  | _, _, n + 1, .cons x t => .cons x (rows_put hq n t)
/-- t[r] = a new list, of one's own table -/
theorem sv_setRow (i : Nat) {α : Type} [Rp α] {rows : List (List α)} {row : List α} {r : Int} {e1 e2 : Expr} (hp : PS X st (tAsg (WE X e2) (gSub (tVar i) (WE X e1) rSetL))) (h0 : Γ[i]? = some (.o (MT.mk rows))) (h2 : EN X Γ e2 (ML.mk row)) (h1 : EV X Γ e1 r) (hr : 0 ≤ r ∧ r < (rows.length : Int)) :
    SV X Γ st (.nx (Γ.set i (.o (MT.mk (rows.set r.toNat row))))) := ⟨fun B G H σ D hB hg l k => by
  obtain ⟨F, v, lf, ev, hf, p, qs, rfl, hF, hnd, hp', hrows⟩ := own_at l h0
  refine ws hp (h2 B G H σ hB hg l _ fun v1 fp1 G1 H1 g1 hf1 ok1 => ?_)
  obtain ⟨q, vs, rfl, rfl, hh, rr⟩ := ok1
  obtain ⟨n1, n2, _⟩ := hf1 q (by simp)
  refine ⟨_, ev, h1 B G1 H1 σ (hB.trans g1.h) g1.gh (l.grow g1) _ fun u G2 H2 g2 r2 => ?_⟩
  have g := g1.trans g2
  have hlen : qs.length = rows.length := Paired.length hrows
  refine ⟨p, qs.map V.ref, r, r.toNat, rfl, r2, g.h _ _ hp', ?_, ?_⟩
  · unfold ixN
    rw [if_pos hr.1, List.length_map, if_pos (by omega)]
  have lg := lf.grow g
  have hqF : q ∉ F i := fun z => by
    obtain ⟨_, _, ho, e⟩ := hf q z
    rw [e] at n1; cases n1
  have hqp : q ≠ p := fun z => hqF (by rw [hF, z]; simp)
  have hbq : B q = none := hB.free n1
  have hf3 : ∀ a ∈ F i, B a = none ∧ G2 a = none := fun a ha => by
    obtain ⟨q1, q2, ho, q3⟩ := hf a ha
    exact ⟨q1, (g.fr a ho q3 (lf.nt h0 a ha ho q3)).trans q2⟩
  have hG2q : G2 q = none := (g2.fr q _ hh).trans n2
  have hh2 := g2.h _ _ hh
  have eset : (qs.map V.ref).set r.toNat (.ref q) = (qs.set r.toNat q).map V.ref := by rw [List.map_set]
  rw [eset]
  have hk : ∀ a, a ∉ F i → ∀ o, H2 a = some o → upd H2 p (.lst ((qs.set r.toNat q).map V.ref)) a = some o := fun a ha o e => by
    rw [upd_ne (fun z => ha (by rw [z, hF]; simp))]; exact e
  have hpF : p ∈ F i := by rw [hF]; simp
  rw [hF] at hnd
  obtain ⟨hn1, hn2⟩ := List.nodup_cons.mp hnd
  have hqq : q ∉ qs := fun z => hqF (by rw [hF]; exact List.mem_cons_of_mem _ z)
  refine k G2 _ ((g.step hB).trans (Stp.mut (hB.trans g.h) g.gh hf3 hk)) σ (lg.mut2 (fp := p :: qs.set r.toNat q) (d' := ot (MT.mk (rows.set r.toNat row))) h0 ev (fun a ha _ => hk a ha) (fun a ha => ?_) ?_)
  · have inF : a ∈ F i → (∀ j s, Γ[j]? = some s → j ≠ i → s.isOwn = true → a ∉ F j) := fun z j s e hj hs y => lf.sep j i _ _ hj e h0 hs rfl a y z
    have ha : a = p ∨ a ∈ qs ∨ a = q := by
      rcases List.mem_cons.mp ha with z | z
      · exact .inl z
      · exact .inr (List.mem_or_eq_of_mem_set z)
    rcases ha with z | z | z
    · subst z
      exact ⟨inF hpF, (hf3 a hpF).1, (hf3 a hpF).2, _, upd_same⟩
    · have haF : a ∈ F i := by rw [hF]; exact List.mem_cons_of_mem _ z
      obtain ⟨q1, q2, ho, q3⟩ := hf a haF
      refine ⟨inF haF, q1, (hf3 a haF).2, ho, ?_⟩
      have hap : a ≠ p := fun y => by subst y; exact hn1 z
      rw [upd_ne hap]; exact g.h _ _ q3
    · subst z
      refine ⟨fun j s e hj hs ha => ?_, hbq, hG2q, _, by rw [upd_ne hqp]; exact hh2⟩
      obtain ⟨o, h1, h2⟩ := lf.ok j s e
      cases s with
      | any => cases hs
      | val _ => cases hs
      | own d2 =>
        obtain ⟨_, _, hf2, _⟩ := h2
        obtain ⟨_, _, ho, e3⟩ := hf2 a ha
        rw [e3] at n1; cases n1
  · refine ⟨p, qs.set r.toNat q, rfl, rfl, List.nodup_cons.mpr ⟨fun z => ?_, nodup_set hn2 hqq _⟩, upd_same, ?_⟩
    · rcases List.mem_or_eq_of_mem_set z with z | z
      · exact hn1 z
      · exact hqp z.symm
    · refine rows_put ⟨vs, by rw [upd_ne hqp]; exact hh2, rr.mono g2.g⟩ _ (hrows.mono g.g fun a ha => ?_)
      obtain ⟨_, _, ho, q3⟩ := hf a (by rw [hF]; exact List.mem_cons_of_mem _ ha)
      have hap : a ≠ p := fun y => by subst y; exact hn1 ha
      rw [upd_ne hap, g.h _ _ q3, q3]⟩
end
/-! ### an own pair of lists -/
structure MP (α : Type) where
  w : T2 (List α) (List α)
instance {α : Type} [Rp α] : Ow (MP α) := ⟨fun K G H v fp x => ∃ t p q us vs, v = .ref t ∧ fp = [p, q] ∧ SqT K G t [.ref p, .ref q] ∧ p ≠ q ∧ H p = some (.lst us) ∧ H q = some (.lst vs) ∧ Reps K G us x.w.a ∧ Reps K G vs x.w.b, fun e eh h => by
  obtain ⟨t, p, q, us, vs, h0, h1, ht, hn, h2, h3, r, r'⟩ := h
  subst h1
  exact ⟨t, p, q, us, vs, h0, rfl, seqT e ht, hn, by rw [eh p (by simp)]; exact h2, by rw [eh q (by simp)]; exact h3, r.mono e, r'.mono e⟩, fun h a ha o e => by
  obtain ⟨t, p, q, us, vs, _, rfl, _, _, h2, h3, _⟩ := h
  have ha : a = p ∨ a = q := by simpa using ha
  rcases ha with z | z
  · rw [z, h2] at e; cases e; exact nt_lst
  · rw [z, h3] at e; cases e; exact nt_lst⟩
instance {α : Type} [Rp α] : Fz (MP α) (T2 (List α) (List α)) := ⟨MP.w, fun {K G H v fp x} hf h => by
  obtain ⟨t, p, q, us, vs, rfl, rfl, ht, hn, h2, h3, r, r'⟩ := h
  have hs := gl_up (H := H) hf
  exact ⟨t, _, _, rfl, seqT hs ht, ⟨p, us, rfl, SqL.of (by rw [gl_in (by simp)]; exact h2), r.mono hs⟩, ⟨q, vs, rfl, SqL.of (by rw [gl_in (by simp)]; exact h3), r'.mono hs⟩⟩⟩
/-- a pair with one side put -/
def putP {α : Type} (w : T2 (List α) (List α)) (k : Int) (ys : List α) : T2 (List α) (List α) := bif decide (k = 0) then ⟨ys, w.b⟩ else ⟨w.a, ys⟩
section
variable {X : Cx} {Γ Γ' : List Slot} {st : Stmt} {sts els rest : List Stmt} {a b c d e tg iter elt : Expr} {es elts ifs : List Expr} {pos : Pos} {o : Out}
/-- (xs, ys) of two new lists -/
theorem en_mp {α : Type} [Rp α] {xs ys : List α} {n : Nat} (ha : EN X Γ a (ML.mk xs)) (hb : EN X Γ b (ML.mk ys)) (hs : starEach [a, b] X.env = (false, eval a X.env) :: starEach [b] X.env := by rfl) (hs2 : starEach [b] X.env = (false, eval b X.env) :: starEach [] X.env := by rfl) :
    EN X Γ (.Tuple [a, b] n pos) (MP.mk ⟨xs, ys⟩) := ⟨fun B G H σ hB hg l Q q =>
  we (pe_tup (pa_cons pe (pa_cons pe pa_nil hs2) hs)) (ha B G H σ hB hg l _ fun v1 fp1 G1 H1 g1 hf1 ok1 => hb B G1 H1 σ (hB.trans g1.h) g1.gh (l.grow g1) _ fun v2 fp2 G2 H2 g2 hf2 ok2 => by
    obtain ⟨p, us, rfl, rfl, h1, r1⟩ := ok1
    obtain ⟨p2, vs, rfl, rfl, h2, r2⟩ := ok2
    obtain ⟨a1, a2, _⟩ := hf1 p (by simp)
    obtain ⟨b1, b2, _⟩ := hf2 p2 (by simp)
    have h1' := g2.h _ _ h1
    have hne : p ≠ p2 := fun z => by subst z; rw [h1] at b1; cases b1
    refine ⟨Nat.le_trans (show [V.ref p, V.ref p2].length ≤ 2 from Nat.le_refl _) (by decide), fun t ht => ?_⟩
    have gt := Grow.new (o := .tup [.ref p, .ref p2]) g2.gh ht
    have nt1 : t ≠ p := fun z => by subst z; rw [h1'] at ht; cases ht
    have nt2 : t ≠ p2 := fun z => by subst z; rw [h2] at ht; cases ht
    refine q (.ref t) [p, p2] _ _ ((g1.trans g2).trans gt) (fun a ha => ?_) ⟨t, p, p2, us, vs, rfl, rfl, SqT.of upd_same, hne, by rw [upd_ne (Ne.symm nt1)]; exact h1', by rw [upd_ne (Ne.symm nt2)]; exact h2, r1.mono (g2.trans gt).g, r2.mono gt.g⟩
    have : a = p ∨ a = p2 := by simpa using ha
    rcases this with rfl | rfl
    · exact ⟨a1, by rw [upd_ne (Ne.symm nt1)]; exact (g2.fr _ _ h1).trans a2, _, by rw [upd_ne (Ne.symm nt1)]; exact h1'⟩
    · exact ⟨g1.h.free b1, by rw [upd_ne (Ne.symm nt2)]; exact b2, _, by rw [upd_ne (Ne.symm nt2)]; exact h2⟩)⟩
/-- t[k][c] = e of one's own pair -/
theorem sv_setP2 (i : Nat) {α : Type} [Rp α] {w : T2 (List α) (List α)} {r c : Int} {x : α} {e1 e2 e3 : Expr} (hp : PS X st (tAsg (WE X e3) (gSub (tOp (rIxT X.K) (tVar i) (WE X e1)) (WE X e2) rSetL))) (h0 : Γ[i]? = some (.o (MP.mk w))) (h3 : EV X Γ e3 x) (h1 : EV X Γ e1 r) (h2 : EV X Γ e2 c)
    (hr : 0 ≤ r ∧ r < 2) (hc : 0 ≤ c ∧ c < ((w.list.getD r.toNat []).length : Int)) : SV X Γ st (.nx (Γ.set i (.o (MP.mk (putP w r ((w.list.getD r.toNat []).set c.toNat x)))))) := ⟨fun B G H σ D hB hg l k => by
  obtain ⟨F, v, lf, ev, hf, t, p, q, us, vs, rfl, hF, ht, hn, hh1, hh2, r1, r2⟩ := own_at l h0
  have hp1 := hf p (by rw [hF]; simp)
  have hq1 := hf q (by rw [hF]; simp)
  refine ws hp (h3 B G H σ hB hg l _ fun v3 G3 H3 g3 r3 => ?_)
  refine ⟨_, ev, h1 B G3 H3 σ (hB.trans g3.h) g3.gh (l.grow g3) _ fun v1 G1 H1 g1 rv1 => ?_⟩
  have g31 := g3.trans g1
  have ht1 : SqT X.K H1 t [.ref p, .ref q] := seqT (g31.g.trans g31.gh) ht
  have hr' : r = 0 ∨ r = 1 := by omega
  rcases hr' with rfl | rfl
  · refine ⟨t, _, 0, .ref p, rfl, rv1, ht1, rfl, ?_⟩
    refine h2 B G1 H1 σ (hB.trans g31.h) g1.gh (l.grow g31) _ fun v2 G2 H2 g2 rv2 => ?_
    have g := g31.trans g2
    have n1 := g.h _ _ hh1
    have n2 := g.h _ _ hh2
    have hP2 : G2 p = none := (g.fr p _ hh1).trans hp1.2.1
    have hQ2 : G2 q = none := (g.fr q _ hh2).trans hq1.2.1
    refine ⟨p, us, c, c.toNat, rfl, rv2, n1, ?_, ?_⟩
    · have := r1.len
      unfold ixN
      have hc2 : c < (w.a.length : Int) := hc.2
      have this : us.length = w.a.length := this
      rw [if_pos hc.1, if_pos (by omega)]
    · refine k G2 _ ((g.step hB).trans (Stp.mutL (hB.trans g.h) g.gh hp1.1 hP2)) σ ?_
      refine (lf.grow g).mut (fp := [p, q]) (d' := ot (MP.mk (putP w 0 (w.a.set c.toNat x)))) h0 ev (fun a ha o e => by rw [upd_ne (fun z => ha (by rw [hF, z]; simp))]; exact e) (fun a ha => ?_) ⟨t, p, q, _, vs, rfl, rfl, seqT g.g ht, hn, upd_same, by rw [upd_ne (Ne.symm hn)]; exact n2, paired_set (Rp.mono (g1.trans g2).g r3) _ (r1.mono g.g), r2.mono g.g⟩
      have : a = p ∨ a = q := by simpa using ha
      rcases this with rfl | rfl
      · exact ⟨.inl (by rw [hF]; simp), hp1.1, hP2, _, upd_same⟩
      · exact ⟨.inl (by rw [hF]; simp), hq1.1, hQ2, _, by rw [upd_ne (Ne.symm hn)]; exact n2⟩
  · refine ⟨t, _, 1, .ref q, rfl, rv1, ht1, rfl, ?_⟩
    refine h2 B G1 H1 σ (hB.trans g31.h) g1.gh (l.grow g31) _ fun v2 G2 H2 g2 rv2 => ?_
    have g := g31.trans g2
    have n1 := g.h _ _ hh1
    have n2 := g.h _ _ hh2
    have hP2 : G2 p = none := (g.fr p _ hh1).trans hp1.2.1
    have hQ2 : G2 q = none := (g.fr q _ hh2).trans hq1.2.1
    refine ⟨q, vs, c, c.toNat, rfl, rv2, n2, ?_, ?_⟩
    · have := r2.len
      unfold ixN
      have hc2 : c < (w.b.length : Int) := hc.2
      have this : vs.length = w.b.length := this
      rw [if_pos hc.1, if_pos (by omega)]
    · refine k G2 _ ((g.step hB).trans (Stp.mutL (hB.trans g.h) g.gh hq1.1 hQ2)) σ ?_
      refine (lf.grow g).mut (fp := [p, q]) (d' := ot (MP.mk (putP w 1 (w.b.set c.toNat x)))) h0 ev (fun a ha o e => by rw [upd_ne (fun z => ha (by rw [hF, z]; simp))]; exact e) (fun a ha => ?_) ⟨t, p, q, us, _, rfl, rfl, seqT g.g ht, hn, by rw [upd_ne hn]; exact n1, upd_same, r1.mono g.g, paired_set (Rp.mono (g1.trans g2).g r3) _ (r2.mono g.g)⟩
      have : a = p ∨ a = q := by simpa using ha
      rcases this with rfl | rfl
      · exact ⟨.inl (by rw [hF]; simp), hp1.1, hP2, _, by rw [upd_ne hn]; exact n1⟩
      · exact ⟨.inl (by rw [hF]; simp), hq1.1, hQ2, _, upd_same⟩⟩
/-- return x, an own thing -/
theorem bv_retOwn (i : Nat) {τ : Type} [Ow τ] {x : τ} (hp : PE X e (tVar i)) (h0 : Γ[i]? = some (.o x)) : BV X Γ (.Return (some e) pos :: sts) (.ro (ot x)) := bv_out (⟨fun B G H σ D hB hg l k => by
  obtain ⟨F, v, lf, e1, hf, ok⟩ := own_at l h0
  exact ws (ps_ret hp) ⟨v, e1, k G H (Stp.refl hB hg) v (F i) hf ok⟩⟩ : SV X Γ (.Return (some e) pos) _) trivial
end
end Wl
namespace Wl
open PySem PySem.Spec PyProof.Rows L2
section
variable {X : Cx} {Γ Γ' : List Slot} {st : Stmt} {sts els rest : List Stmt} {a b c d e tg iter elt : Expr} {es elts ifs : List Expr} {pos : Pos} {o : Out}
/-- {k: v, k2: v2} -/
theorem en_disp2 {a2 b2 : Expr} {β : Type} [Rp β] {k k2 : Int} {v v2 : β} (hp : PE X c (tDisp [(WE X a, WE X b), (WE X a2, WE X b2)])) (h1 : EV X Γ a k) (h2 : EV X Γ b v) (h3 : EV X Γ a2 k2) (h4 : EV X Γ b2 v2) : EN X Γ c (MD.mk (dput [(k, v)] k2 v2)) := ⟨fun B G H σ hB hg l Q q =>
  we hp fun p hn => by
    have g0 := Grow.own (o := .dK []) hg hn
    show WE X a σ _ _
    refine h1 B G _ σ (hB.trans g0.h) g0.gh (l.grow g0) _ fun x G1 H1 g1 r1 => ?_
    have ga := g0.trans g1
    refine h2 B G1 H1 σ (hB.trans ga.h) g1.gh (l.grow ga) _ fun y G2 H2 g2 r2 => ?_
    have gb := ga.trans g2
    show WE X a2 σ _ _
    refine h3 B G2 H2 σ (hB.trans gb.h) g2.gh (l.grow gb) _ fun x3 G3 H3 g3 r3 => ?_
    have gc := gb.trans g3
    refine h4 B G3 H3 σ (hB.trans gc.h) g3.gh (l.grow gc) _ fun y4 G4 H4 g4 r4 => ?_
    have g := gc.trans g4
    have e2 : H4 p = some (.dK []) := (((g1.trans g2).trans g3).trans g4).h _ _ upd_same
    have hgp : G4 p = none := ((((g1.trans g2).trans g3).trans g4).fr p _ upd_same).trans (hg.free hn)
    refine ⟨e2, [(Sum.inl k, y), (Sum.inl k2, y4)], by rw [show x = V.int k from r1, show x3 = V.int k2 from r3]; rfl, Nat.le_of_ble_eq_true rfl, q (.ref p) [p] G4 _ ⟨g.g, fun b u e => ?_, fun b u e => ?_, g.fr0⟩ (one_new hn hgp) ⟨p, _, rfl, rfl, upd_same, ?_⟩⟩
    · rw [upd_ne (ne_of_none e hn)]; exact g.h b u e
    · rw [upd_ne (ne_of_none e hgp)]; exact g.gh b u e
    · have d1 : DRep X.K G4 [(Sum.inl k, y)] [(k, v)] := .cons ⟨rfl, Rp.mono (g3.trans g4).g r2⟩ .nil
      exact d1.put k2 r4⟩
end
end Wl

set_option maxRecDepth 100000
set_option maxHeartbeats 4000000
namespace Tw
open PySem PySem.Spec PyProof.Rows L2 Wl
def topS (i : Nat) : Stmt := PySem.Challenge.pw_warmshare_k21_what_will_do.main.body.getD i (.Pass ⟨0, 0, 0, 0⟩)
structure Txt (K : PySem.W.Frag) (mg : Str → Option Value) : Prop where
  z_bool : mg "bool" = none
  z_int : mg "int" = none
  z_isinstance : mg "isinstance" = none
  z_len : mg "len" = none
  z_list : mg "list" = none
  z_max : mg "max" = none
  z_min : mg "min" = none
  z_range : mg "range" = none
  z_reversed : mg "reversed" = none
  z_sorted : mg "sorted" = none
  z_sum : mg "sum" = none
  z_zip : mg "zip" = none
  c_TOP : ∃ t, mg "TOP" = some (.int (250) t)
section
variable {P : Program} {w : World} {K : PySem.W.Frag} {mg : Str → Option Value} {base : Heap}

/-- rates that may be multiplied -/
def RatesOk (xs : List (T3 Int Int Int)) : Prop := ∀ s ∈ xs, -(2 ^ 62) < s.c ∧ s.c < 2 ^ 62
/-- a works of few streams -/
structure WSm (w : T3 Int (List (T3 Int Int Int)) (List (T3 Int Int Int))) : Prop where
  nb : w.b.length ≤ 1000
  nc : w.c.length ≤ 1000
  rb : RatesOk w.b
  rc : RatesOk w.c

/-! _law_stir -/
def m_law_stir (cell : Int) (k : Int) : Int := (let number : Int := (((((cell % (1000000000000 : Int)) + ((911 : Int) * k)) + (1 : Int)) * (39373 : Int)) % (2147483647 : Int)); (((((number * number) % (2147483629 : Int)) * (48271 : Int)) % (2147483587 : Int)) / (8 : Int)))
def r_law_stir (ds : List Dat) (d : Dat) : Prop := ∃ (cell : Int) (k : Int), ds = [dt cell, dt k] ∧ d = dt (m_law_stir cell k)
abbrev s_law_stir : Stmt := topS 12
theorem sc_law_stir : FnScope ["cell", "k", "number"] ["cell", "k"] (defScope s_law_stir) := ⟨rfl, rfl, rfl, by decide +kernel, rfl, by decide +kernel, by decide +kernel⟩
theorem ok_law_stir (T : Txt K mg)  {f : Addr} {fd : FuncData} (F : Fun K "_law_stir" "_law_stir" s_law_stir f fd) : FnOk P w K mg base CX0 1 f fd ["cell", "k"] (PSp K r_law_stir) := by
  refine fn_pure F sc_law_stir (fun ds d h => by obtain ⟨_, _, rfl, _⟩ := h; rfl) fun cdv A outer s H E ds d hr h => ?_
  obtain ⟨cell, k, rfl, rfl⟩ := h
  refine bv_let (of := fun number => .rt (dt (((((number * number) % (2147483629 : Int)) * (48271 : Int)) % (2147483587 : Int)) / (8 : Int)))) (sv_set 2 sc_law_stir.nd (ev_mod (ev_mul (ev_add (ev_add (ev_mod (ev_var 0 rfl) (EV.is (y := (1000000000000 : Int)) (ev_pow (x := 10) (y := 12) ev_int ev_int ⟨by decide, by decide, by decide⟩) (by decide)) (by first | decide | omega | (split <;> omega))) (ev_mul ev_int (ev_var 1 rfl) (by first | exact .inr ⟨by decide, by decide⟩ | exact .inl ⟨by decide, by decide⟩ | exact .inl ⟨by omega, by omega⟩ | exact .inr ⟨by omega, by omega⟩))) ev_int) ev_int (by first | exact .inr ⟨by decide, by decide⟩ | exact .inl ⟨by decide, by decide⟩ | exact .inl ⟨by omega, by omega⟩ | exact .inr ⟨by omega, by omega⟩)) ev_int (by first | decide | omega | (split <;> omega)))) ?_
  intro number e_number
  refine bv_cons (sv_set 2 sc_law_stir.nd (ev_mod (ev_mul (ev_var 2 rfl) (ev_var 2 rfl) (by first | exact .inr ⟨by decide, by decide⟩ | exact .inl ⟨by decide, by decide⟩ | exact .inl ⟨by omega, by omega⟩ | exact .inr ⟨by omega, by omega⟩)) ev_int (by first | decide | omega | (split <;> omega)))) ?_
  exact bv_ret (ev_div (ev_mod (ev_mul (ev_var 2 rfl) ev_int (by first | exact .inr ⟨by decide, by decide⟩ | exact .inl ⟨by decide, by decide⟩ | exact .inl ⟨by omega, by omega⟩ | exact .inr ⟨by omega, by omega⟩)) ev_int (by first | decide | omega | (split <;> omega))) ev_int (by first | exact ⟨by decide, by decide⟩ | exact ⟨by omega, by omega⟩))
/-! _law_stream -/
def m_law_stream (cell : Int) (least : Int) : (T3 Int Int Int) := (let low_ : Int := (least + ((m_law_stir cell (0 : Int)) % ((200 : Int) - least))); (T3.mk low_ ((low_ + (1 : Int)) + ((m_law_stir cell (1 : Int)) % ((200 : Int) - low_))) (([(1 : Int), ((2 : Int) + ((m_law_stir cell (3 : Int)) % (4 : Int))), ((1 : Int) + ((m_law_stir cell (3 : Int)) % (40 : Int))), ((1 : Int) + (((m_law_stir cell (3 : Int)) * (4 : Int)) % (1000000000 : Int)))] : List Int).getD ((m_law_stir cell (4 : Int)) % (4 : Int)).toNat (0 : Int))))

structure HotOk (s : T3 Int Int Int) : Prop where
  a0 : 0 ≤ s.b
  a1 : s.b < s.a
  a2 : s.a ≤ 200
  a3 : 1 ≤ s.c
  a4 : s.c ≤ 1000000000
structure ColdOk (s : T3 Int Int Int) : Prop where
  a0 : 0 ≤ s.a
  a1 : s.a < s.b
  a2 : s.b ≤ 200
  a3 : 1 ≤ s.c
  a4 : s.c ≤ 1000000000
structure WorksOk (w : T3 Int (List (T3 Int Int Int)) (List (T3 Int Int Int))) : Prop where
  g0 : 0 ≤ w.a
  g1 : w.a ≤ 50
  nh : w.b.length ≤ 12
  nc : w.c.length ≤ 12
  h : ∀ s ∈ w.b, HotOk s
  c : ∀ s ∈ w.c, ColdOk s
theorem WorksOk.sm {w : T3 Int (List (T3 Int Int Int)) (List (T3 Int Int Int))} (h : WorksOk w) : WSm w := ⟨by have := h.nh; omega, by have := h.nc; omega, fun s hs => by have := (h.h s hs).a3; have := (h.h s hs).a4; omega, fun s hs => by have := (h.c s hs).a3; have := (h.c s hs).a4; omega⟩
theorem pick4 (P : Int → Prop) (z a b c d : Int) (ha : P a) (hb : P b) (hc : P c) (hd : P d) : P (([a, b, c, d] : List Int).getD (z % 4).toNat 0) := by
  have h : (z % 4).toNat = 0 ∨ (z % 4).toNat = 1 ∨ (z % 4).toNat = 2 ∨ (z % 4).toNat = 3 := by omega
  rcases h with e | e | e | e <;> rw [e] <;> assumption
theorem stream_ok (cell : Int) {least : Int} (hl : 0 ≤ least ∧ least ≤ 50) : ColdOk (m_law_stream cell least) ∧ least ≤ (m_law_stream cell least).a := by
  have hr := pick4 (fun y => 1 ≤ y ∧ y ≤ 1000000000) (m_law_stir cell 4) 1 (2 + m_law_stir cell 3 % 4) (1 + m_law_stir cell 3 % 40) (1 + m_law_stir cell 3 * 4 % 1000000000) (by omega) (by omega) (by omega) (by omega)
  unfold m_law_stream
  generalize m_law_stir cell 0 = s0 at *
  generalize m_law_stir cell 1 = s1 at *
  have e1 := Int.emod_nonneg s0 (b := 200 - least) (by omega)
  have e2 := Int.emod_lt_of_pos s0 (b := 200 - least) (by omega)
  generalize s0 % (200 - least) = k at *
  have e3 := Int.emod_nonneg s1 (b := 200 - (least + k)) (by omega)
  have e4 := Int.emod_lt_of_pos s1 (b := 200 - (least + k)) (by omega)
  dsimp only
  exact ⟨⟨by dsimp only; omega, by dsimp only; omega, by dsimp only; omega, hr.1, hr.2⟩, by omega⟩

def r_law_stream (ds : List Dat) (d : Dat) : Prop := ∃ (cell : Int) (least : Int), ds = [dt cell, dt least] ∧ (0 ≤ least ∧ least ≤ 50) ∧ d = dt (m_law_stream cell least)
abbrev s_law_stream : Stmt := topS 13
theorem sc_law_stream : FnScope ["cell", "least", "low", "high", "rate"] ["cell", "least"] (defScope s_law_stream) := ⟨rfl, rfl, rfl, by decide +kernel, rfl, by decide +kernel, by decide +kernel⟩
theorem ok_law_stream (T : Txt K mg) (H_law_stir : FnAt P w K mg base "_law_stir" 1 ["cell", "k"] r_law_stir) {f : Addr} {fd : FuncData} (F : Fun K "_law_stream" "_law_stream" s_law_stream f fd) : FnOk P w K mg base CX0 2 f fd ["cell", "least"] (PSp K r_law_stream) := by
  refine fn_pure F sc_law_stream (fun ds d h => by obtain ⟨_, _, rfl, _⟩ := h; rfl) fun cdv A outer s H E ds d hr h => ?_
  obtain ⟨cell, least, rfl, hpre, rfl⟩ := h
  refine bv_let (of := fun low_ => .rt (dt (T3.mk low_ ((low_ + (1 : Int)) + ((m_law_stir cell (1 : Int)) % ((200 : Int) - low_))) (([(1 : Int), ((2 : Int) + ((m_law_stir cell (3 : Int)) % (4 : Int))), ((1 : Int) + ((m_law_stir cell (3 : Int)) % (40 : Int))), ((1 : Int) + (((m_law_stir cell (3 : Int)) * (4 : Int)) % (1000000000 : Int)))] : List Int).getD ((m_law_stir cell (4 : Int)) % (4 : Int)).toNat (0 : Int))))) (sv_set 2 sc_law_stream.nd (ev_add (ev_var 1 rfl) (ev_mod (ev_fn H_law_stir hr (by decide) (ea_cons (ev_var 0 rfl) (ea_cons ev_int ea_nil)) ⟨_, _, rfl, rfl⟩) (ev_sub ev_int (ev_var 1 rfl)) (by first | decide | omega | (split <;> omega))))) ?_
  intro low_ e_low_
  refine bv_cons (sv_set 3 sc_law_stream.nd (ev_add (ev_add (ev_var 2 rfl) ev_int) (ev_mod (ev_fn H_law_stir hr (by decide) (ea_cons (ev_var 0 rfl) (ea_cons ev_int ea_nil)) ⟨_, _, rfl, rfl⟩) (ev_sub ev_int (ev_var 2 rfl)) (by have := Int.emod_lt_of_pos (m_law_stir cell 0) (b := 200 - least) (by omega); omega)))) ?_
  refine bv_cons (sv_set 4 sc_law_stream.nd (ev_new (en_lst (xs := ([(1 : Int), ((2 : Int) + ((m_law_stir cell (3 : Int)) % (4 : Int))), ((1 : Int) + ((m_law_stir cell (3 : Int)) % (40 : Int))), ((1 : Int) + (((m_law_stir cell (3 : Int)) * (4 : Int)) % (1000000000 : Int)))] : List Int)) (ea_cons ev_int (ea_cons (ev_add ev_int (ev_mod (ev_fn H_law_stir hr (by decide) (ea_cons (ev_var 0 rfl) (ea_cons ev_int ea_nil)) ⟨_, _, rfl, rfl⟩) ev_int (by first | decide | omega | (split <;> omega)))) (ea_cons (ev_add ev_int (ev_mod (ev_fn H_law_stir hr (by decide) (ea_cons (ev_var 0 rfl) (ea_cons ev_int ea_nil)) ⟨_, _, rfl, rfl⟩) ev_int (by first | decide | omega | (split <;> omega)))) (ea_cons (ev_add ev_int (ev_mod (ev_mul (ev_fn H_law_stir hr (by decide) (ea_cons (ev_var 0 rfl) (ea_cons ev_int ea_nil)) ⟨_, _, rfl, rfl⟩) ev_int (by first | exact .inr ⟨by decide, by decide⟩ | exact .inl ⟨by decide, by decide⟩ | exact .inl ⟨by omega, by omega⟩ | exact .inr ⟨by omega, by omega⟩)) (EV.is (y := (1000000000 : Int)) (ev_pow (x := 10) (y := 9) ev_int ev_int ⟨by decide, by decide, by decide⟩) (by decide)) (by first | decide | omega | (split <;> omega)))) ea_nil))))))) ?_
  exact bv_ret (ev_t3 (ea_cons (ev_var 2 rfl) (ea_cons (ev_var 3 rfl) (ea_cons (ev_lixD (0 : Int) (ev_var 4 rfl) (ev_mod (ev_fn H_law_stir hr (by decide) (ea_cons (ev_var 0 rfl) (ea_cons ev_int ea_nil)) ⟨_, _, rfl, rfl⟩) ev_int (by first | decide | omega | (split <;> omega))) (by omega) (by simp only [List.length_cons, List.length_nil, List.length_map, iseq_len]; omega)) ea_nil))))
/-! _law_works -/
def m_law_works_L1 (script : (List Int)) (least : Int) (s : (List (T3 Int Int Int))) (x : Int) : (List (T3 Int Int Int)) := (let t := (m_law_stream ((pySlice script (some ((1 : Int) + x)) (some (63 : Int)) (some (37 : Int))).sum + x) least); (s ++ [(T3.mk t.b t.a t.c)]))
def m_law_works_L2 (script : (List Int)) (s_1 : (List (T3 Int Int Int))) (x_1 : Int) : (List (T3 Int Int Int)) := (s_1 ++ [(m_law_stream (((pySlice script (some ((7 : Int) + x_1)) (some (63 : Int)) (some (37 : Int))).sum + (100 : Int)) + x_1) (0 : Int))])
def m_law_works (script : (List Int)) : (T3 Int (List (T3 Int Int Int)) (List (T3 Int Int Int))) := (let head : Int := (pySlice script (some (0 : Int)) (some (63 : Int)) (some (37 : Int))).sum; (let gap : Int := (([(0 : Int), (10 : Int), (50 : Int), ((m_law_stir head (0 : Int)) % (51 : Int))] : List Int).getD ((m_law_stir head (1 : Int)) % (4 : Int)).toNat (0 : Int)); (let least : Int := (([gap, gap, gap, (0 : Int)] : List Int).getD ((m_law_stir head (2 : Int)) % (4 : Int)).toNat (0 : Int)); (let counts : (List Int) := ([((m_law_stir head (3 : Int)) % (7 : Int)), ((m_law_stir head (4 : Int)) % (7 : Int))] : List Int); (let b := (decide (((m_law_stir head (8 : Int)) % (8 : Int)) = (3 : Int))); (let counts_1 : (List Int) := (bif b then ([(12 : Int), ((7 : Int) + ((counts.getD (1 : Int).toNat (0 : Int)) % (6 : Int)))] : List Int) else counts); (let hots : (List (T3 Int Int Int)) := ((iseq 0 (counts_1.getD (0 : Int).toNat (0 : Int)).toNat).foldl (m_law_works_L1 script least) ([] : (List (T3 Int Int Int)))); (let colds : (List (T3 Int Int Int)) := ((iseq 0 (counts_1.getD (1 : Int).toNat (0 : Int)).toNat).foldl (m_law_works_L2 script) ([] : (List (T3 Int Int Int)))); (T3.mk gap hots colds)))))))))

theorem foldl_app_len {α β : Type} (f : List β → α → List β) (hf : ∀ s x, ∃ y, f s x = s ++ [y]) : ∀ (xs : List α) (s : List β), (xs.foldl f s).length = s.length + xs.length
  | [], s => rfl
  | x :: r, s => by
    rw [List.foldl_cons, foldl_app_len f hf r]
    obtain ⟨y, e⟩ := hf s x
    rw [e]; simp; omega
theorem foldl_app_all {α β : Type} (P : β → Prop) (f : List β → α → List β) (hf : ∀ s x, ∃ y, f s x = s ++ [y] ∧ P y) : ∀ (xs : List α) (s : List β), (∀ y ∈ s, P y) → ∀ y ∈ xs.foldl f s, P y
  | [], s, h => h
  | x :: r, s, h => by
    rw [List.foldl_cons]
    obtain ⟨y, e, hy⟩ := hf s x
    refine foldl_app_all P f hf r _ ?_
    rw [e]
    intro z hz
    rcases List.mem_append.mp hz with hz | hz
    · exact h z hz
    · have : z = y := by simpa using hz
      rw [this]; exact hy

structure Cnt (l : List Int) : Prop where
  len : l.length = 2
  a0 : 0 ≤ l.getD (0 : Int).toNat (0 : Int)
  a1 : l.getD (0 : Int).toNat (0 : Int) ≤ 12
  b0 : 0 ≤ l.getD (1 : Int).toNat (0 : Int)
  b1 : l.getD (1 : Int).toNat (0 : Int) ≤ 12
theorem cnt_mk {x y : Int} (h : 0 ≤ x ∧ x ≤ 12 ∧ 0 ≤ y ∧ y ≤ 12) : Cnt [x, y] := ⟨rfl, h.1, h.2.1, h.2.2.1, h.2.2.2⟩
theorem cnt_ok (b : Bool) (m n : Int) : Cnt (bif b then ([(12 : Int), ((7 : Int) + (([m % 7, n % 7] : List Int).getD (1 : Int).toNat (0 : Int)) % (6 : Int))] : List Int) else ([m % 7, n % 7] : List Int)) := by
  cases b with
  | true => exact cnt_mk (by omega)
  | false => exact cnt_mk (by omega)
theorem works_ok (script : List Int) : WorksOk (m_law_works script) := by
  unfold m_law_works
  dsimp only
  generalize (pySlice script (some 0) (some 63) (some 37)).sum = head
  have hg := pick4 (fun y => 0 ≤ y ∧ y ≤ 50) (m_law_stir head 1) 0 10 50 (m_law_stir head 0 % 51) (by omega) (by omega) (by omega) (by omega)
  generalize ([(0 : Int), 10, 50, m_law_stir head 0 % 51] : List Int).getD (m_law_stir head 1 % 4).toNat 0 = gap at *
  have hl := pick4 (fun y => 0 ≤ y ∧ y ≤ 50) (m_law_stir head 2) gap gap gap 0 (by omega) (by omega) (by omega) (by omega)
  generalize ([gap, gap, gap, (0 : Int)] : List Int).getD (m_law_stir head 2 % 4).toNat 0 = least at *
  have hC := cnt_ok (decide (m_law_stir head 8 % 8 = 3)) (m_law_stir head 3) (m_law_stir head 4)
  generalize (bif decide (m_law_stir head 8 % 8 = 3) then _ else _ : List Int) = counts at *
  have hL1 : ∀ s x, ∃ y, m_law_works_L1 script least s x = s ++ [y] ∧ HotOk y := fun s x => ⟨_, rfl, by
    have h := (stream_ok ((pySlice script (some (1 + x)) (some 63) (some 37)).sum + x) hl).1
    exact ⟨h.a0, h.a1, h.a2, h.a3, h.a4⟩⟩
  have hL2 : ∀ s x, ∃ y, m_law_works_L2 script s x = s ++ [y] ∧ ColdOk y := fun s x => ⟨_, rfl, (stream_ok _ (by decide)).1⟩
  refine ⟨hg.1, hg.2, ?_, ?_, ?_, ?_⟩
  · dsimp only
    rw [foldl_app_len _ (fun s x => let ⟨y, e, _⟩ := hL1 s x; ⟨y, e⟩), iseq_len]
    have := hC.a1; simp only [List.length_nil]; omega
  · dsimp only
    rw [foldl_app_len _ (fun s x => let ⟨y, e, _⟩ := hL2 s x; ⟨y, e⟩), iseq_len]
    have := hC.b1; simp only [List.length_nil]; omega
  · exact foldl_app_all HotOk _ hL1 _ _ (by simp)
  · exact foldl_app_all ColdOk _ hL2 _ _ (by simp)

structure SpOk (w : T3 Int (List (T3 Int Int Int)) (List (T3 Int Int Int))) (s : T2 (List (T3 Int Int Int)) (List (T3 Int Int Int))) : Prop where
  w : WorksOk w
  na : s.a.length ≤ 1000
  nb : s.b.length ≤ 1000
  a : ∀ o ∈ s.a, 1 ≤ o.a ∧ o.a ≤ 251
  b : ∀ o ∈ s.b, 0 ≤ o.a ∧ o.a ≤ 200
theorem zip_mem {α β : Type} {xs : List α} {ys : List β} {pre post : List (T2 α β)} {x : T2 α β} (h : zipL xs ys = pre ++ x :: post) : x.a ∈ xs ∧ x.b ∈ ys := by
  have hm : x ∈ zipL xs ys := by rw [h]; simp
  unfold zipL at hm
  obtain ⟨p, hp, e⟩ := List.mem_map.mp hm
  subst e
  exact ⟨(List.of_mem_zip hp).1, (List.of_mem_zip hp).2⟩
theorem rev_in {pre post : List Int} {x : Int} {n : Nat} (h : (iseq 0 n).reverse = pre ++ x :: post) : 0 ≤ x ∧ x < (n : Int) := by
  have hm : x ∈ iseq 0 n := by
    have : x ∈ (iseq 0 n).reverse := by rw [h]; simp
    exact List.mem_reverse.mp this
  unfold iseq at hm
  obtain ⟨i, hi, e⟩ := List.mem_map.mp hm
  have h2 := List.mem_range.mp hi
  omega
theorem sp_hot {w : T3 Int (List (T3 Int Int Int)) (List (T3 Int Int Int))} {s : T2 (List (T3 Int Int Int)) (List (T3 Int Int Int))} (h : SpOk w s) {pre post : List (T3 Int Int Int)} {x : T3 Int Int Int} (hx : w.b = pre ++ x :: post) : 0 ≤ x.b ∧ x.b < x.a ∧ x.a ≤ 200 := by
  have q := h.w.h x (by rw [hx]; simp)
  exact ⟨q.a0, q.a1, q.a2⟩
theorem sp_cold {w : T3 Int (List (T3 Int Int Int)) (List (T3 Int Int Int))} {s : T2 (List (T3 Int Int Int)) (List (T3 Int Int Int))} (h : SpOk w s) {pre post : List (T3 Int Int Int)} {x : T3 Int Int Int} (hx : w.c = pre ++ x :: post) : 0 ≤ x.a ∧ x.a < x.b ∧ x.b ≤ 200 := by
  have q := h.w.c x (by rw [hx]; simp)
  exact ⟨q.a0, q.a1, q.a2⟩

theorem dput_len {β : Type} (kvs : List (Int × β)) (k : Int) (v : β) : (dput kvs k v).length ≤ kvs.length + 1 := by
  unfold dput
  split <;> simp
theorem ins_side (z : Int) {n : Nat} (h : n ≤ 1000) : 0 ≤ z % ((n : Int) + 1) ∧ z % ((n : Int) + 1) < 2 ^ 63 ∧ n < 10000000 := by
  have h1 := Int.emod_nonneg z (b := (n : Int) + 1) (by omega)
  have h2 := Int.emod_lt_of_pos z (b := (n : Int) + 1) (by omega)
  exact ⟨h1, by omega, by omega⟩
theorem fold_len {α : Type} (f : List Int → α → List Int) (hf : ∀ s x, (f s x).length = s.length) : ∀ (xs : List α) (s : List Int), (xs.foldl f s).length = s.length
  | [], s => rfl
  | x :: r, s => by rw [List.foldl_cons, fold_len f hf r, hf]

def r_law_works (ds : List Dat) (d : Dat) : Prop := ∃ (script : (List Int)), ds = [dt script] ∧ d = dt (m_law_works script)
abbrev s_law_works : Stmt := topS 14
theorem sc_law_works : FnScope ["script", "head", "gap", "least", "counts", "hots", "k", "low", "high", "rate", "colds"] ["script"] (defScope s_law_works) := ⟨rfl, rfl, rfl, by decide +kernel, rfl, by decide +kernel, by decide +kernel⟩
theorem ok_law_works (T : Txt K mg) (H_law_stir : FnAt P w K mg base "_law_stir" 1 ["cell", "k"] r_law_stir) (H_law_stream : FnAt P w K mg base "_law_stream" 2 ["cell", "least"] r_law_stream) {f : Addr} {fd : FuncData} (F : Fun K "_law_works" "_law_works" s_law_works f fd) : FnOk P w K mg base CX0 3 f fd ["script"] (PSp K r_law_works) := by
  refine fn_pure F sc_law_works (fun ds d h => by obtain ⟨_, rfl, _⟩ := h; rfl) fun cdv A outer s H E ds d hr h => ?_
  obtain ⟨script, rfl, rfl⟩ := h
  refine bv_let (of := fun head => .rt (dt (let gap : Int := (([(0 : Int), (10 : Int), (50 : Int), ((m_law_stir head (0 : Int)) % (51 : Int))] : List Int).getD ((m_law_stir head (1 : Int)) % (4 : Int)).toNat (0 : Int)); (let least : Int := (([gap, gap, gap, (0 : Int)] : List Int).getD ((m_law_stir head (2 : Int)) % (4 : Int)).toNat (0 : Int)); (let counts : (List Int) := ([((m_law_stir head (3 : Int)) % (7 : Int)), ((m_law_stir head (4 : Int)) % (7 : Int))] : List Int); (let b := (decide (((m_law_stir head (8 : Int)) % (8 : Int)) = (3 : Int))); (let counts_1 : (List Int) := (bif b then ([(12 : Int), ((7 : Int) + ((counts.getD (1 : Int).toNat (0 : Int)) % (6 : Int)))] : List Int) else counts); (let hots : (List (T3 Int Int Int)) := ((iseq 0 (counts_1.getD (0 : Int).toNat (0 : Int)).toNat).foldl (m_law_works_L1 script least) ([] : (List (T3 Int Int Int)))); (let colds : (List (T3 Int Int Int)) := ((iseq 0 (counts_1.getD (1 : Int).toNat (0 : Int)).toNat).foldl (m_law_works_L2 script) ([] : (List (T3 Int Int Int)))); (T3.mk gap hots colds)))))))))) (sv_set 1 sc_law_works.nd (ev_sum rfl T.z_sum (ev_new (en_slice (ev_var 0 rfl) (eo_some ev_int) (eo_some ev_int) (eo_some ev_int) (by decide))))) ?_
  intro head e_head
  refine bv_let (of := fun gap => .rt (dt (let least : Int := (([gap, gap, gap, (0 : Int)] : List Int).getD ((m_law_stir head (2 : Int)) % (4 : Int)).toNat (0 : Int)); (let counts : (List Int) := ([((m_law_stir head (3 : Int)) % (7 : Int)), ((m_law_stir head (4 : Int)) % (7 : Int))] : List Int); (let b := (decide (((m_law_stir head (8 : Int)) % (8 : Int)) = (3 : Int))); (let counts_1 : (List Int) := (bif b then ([(12 : Int), ((7 : Int) + ((counts.getD (1 : Int).toNat (0 : Int)) % (6 : Int)))] : List Int) else counts); (let hots : (List (T3 Int Int Int)) := ((iseq 0 (counts_1.getD (0 : Int).toNat (0 : Int)).toNat).foldl (m_law_works_L1 script least) ([] : (List (T3 Int Int Int)))); (let colds : (List (T3 Int Int Int)) := ((iseq 0 (counts_1.getD (1 : Int).toNat (0 : Int)).toNat).foldl (m_law_works_L2 script) ([] : (List (T3 Int Int Int)))); (T3.mk gap hots colds))))))))) (sv_set 2 sc_law_works.nd (ev_lixD (0 : Int) (ev_new (en_lst (xs := ([(0 : Int), (10 : Int), (50 : Int), ((m_law_stir head (0 : Int)) % (51 : Int))] : List Int)) (ea_cons ev_int (ea_cons ev_int (ea_cons ev_int (ea_cons (ev_mod (ev_fn H_law_stir hr (by decide) (ea_cons (ev_var 1 rfl) (ea_cons ev_int ea_nil)) ⟨_, _, rfl, rfl⟩) ev_int (by first | decide | omega | (split <;> omega))) ea_nil)))))) (ev_mod (ev_fn H_law_stir hr (by decide) (ea_cons (ev_var 1 rfl) (ea_cons ev_int ea_nil)) ⟨_, _, rfl, rfl⟩) ev_int (by first | decide | omega | (split <;> omega))) (by omega) (by simp only [List.length_cons, List.length_nil, List.length_map, iseq_len]; omega))) ?_
  intro gap e_gap
  have hG : 0 ≤ gap ∧ gap ≤ 50 := e_gap ▸ pick4 (fun y => 0 ≤ y ∧ y ≤ 50) _ 0 10 50 _ (by omega) (by omega) (by omega) (by omega)
  refine bv_let (of := fun least => .rt (dt (let counts : (List Int) := ([((m_law_stir head (3 : Int)) % (7 : Int)), ((m_law_stir head (4 : Int)) % (7 : Int))] : List Int); (let b := (decide (((m_law_stir head (8 : Int)) % (8 : Int)) = (3 : Int))); (let counts_1 : (List Int) := (bif b then ([(12 : Int), ((7 : Int) + ((counts.getD (1 : Int).toNat (0 : Int)) % (6 : Int)))] : List Int) else counts); (let hots : (List (T3 Int Int Int)) := ((iseq 0 (counts_1.getD (0 : Int).toNat (0 : Int)).toNat).foldl (m_law_works_L1 script least) ([] : (List (T3 Int Int Int)))); (let colds : (List (T3 Int Int Int)) := ((iseq 0 (counts_1.getD (1 : Int).toNat (0 : Int)).toNat).foldl (m_law_works_L2 script) ([] : (List (T3 Int Int Int)))); (T3.mk gap hots colds)))))))) (sv_set 3 sc_law_works.nd (ev_lixD (0 : Int) (ev_new (en_lst (xs := ([gap, gap, gap, (0 : Int)] : List Int)) (ea_cons (ev_var 2 rfl) (ea_cons (ev_var 2 rfl) (ea_cons (ev_var 2 rfl) (ea_cons ev_int ea_nil)))))) (ev_mod (ev_fn H_law_stir hr (by decide) (ea_cons (ev_var 1 rfl) (ea_cons ev_int ea_nil)) ⟨_, _, rfl, rfl⟩) ev_int (by first | decide | omega | (split <;> omega))) (by omega) (by simp only [List.length_cons, List.length_nil, List.length_map, iseq_len]; omega))) ?_
  intro least e_least
  have hL : 0 ≤ least ∧ least ≤ 50 := e_least ▸ pick4 (fun y => 0 ≤ y ∧ y ≤ 50) _ gap gap gap 0 (by omega) (by omega) (by omega) (by omega)
  refine bv_let (of := fun counts => .rt (dt (let b := (decide (((m_law_stir head (8 : Int)) % (8 : Int)) = (3 : Int))); (let counts_1 : (List Int) := (bif b then ([(12 : Int), ((7 : Int) + ((counts.getD (1 : Int).toNat (0 : Int)) % (6 : Int)))] : List Int) else counts); (let hots : (List (T3 Int Int Int)) := ((iseq 0 (counts_1.getD (0 : Int).toNat (0 : Int)).toNat).foldl (m_law_works_L1 script least) ([] : (List (T3 Int Int Int)))); (let colds : (List (T3 Int Int Int)) := ((iseq 0 (counts_1.getD (1 : Int).toNat (0 : Int)).toNat).foldl (m_law_works_L2 script) ([] : (List (T3 Int Int Int)))); (T3.mk gap hots colds))))))) (sv_set 4 sc_law_works.nd (ev_new (en_lst (xs := ([((m_law_stir head (3 : Int)) % (7 : Int)), ((m_law_stir head (4 : Int)) % (7 : Int))] : List Int)) (ea_cons (ev_mod (ev_fn H_law_stir hr (by decide) (ea_cons (ev_var 1 rfl) (ea_cons ev_int ea_nil)) ⟨_, _, rfl, rfl⟩) ev_int (by first | decide | omega | (split <;> omega))) (ea_cons (ev_mod (ev_fn H_law_stir hr (by decide) (ea_cons (ev_var 1 rfl) (ea_cons ev_int ea_nil)) ⟨_, _, rfl, rfl⟩) ev_int (by first | decide | omega | (split <;> omega))) ea_nil))))) ?_
  intro counts e_counts
  refine bv_ifj (Γf := fun b => [.v (script : (List Int)), .v (head : Int), .v (gap : Int), .v (least : Int), .v ((bif b then ([(12 : Int), ((7 : Int) + ((counts.getD (1 : Int).toNat (0 : Int)) % (6 : Int)))] : List Int) else counts) : (List Int)), .any, .any, .any, .any, .any, .any]) (of := fun b => .rt (dt (let counts_1 : (List Int) := (bif b then ([(12 : Int), ((7 : Int) + ((counts.getD (1 : Int).toNat (0 : Int)) % (6 : Int)))] : List Int) else counts); (let hots : (List (T3 Int Int Int)) := ((iseq 0 (counts_1.getD (0 : Int).toNat (0 : Int)).toNat).foldl (m_law_works_L1 script least) ([] : (List (T3 Int Int Int)))); (let colds : (List (T3 Int Int Int)) := ((iseq 0 (counts_1.getD (1 : Int).toNat (0 : Int)).toNat).foldl (m_law_works_L2 script) ([] : (List (T3 Int Int Int)))); (T3.mk gap hots colds)))))) (et_eq (ev_mod (ev_fn H_law_stir hr (by decide) (ea_cons (ev_var 1 rfl) (ea_cons ev_int ea_nil)) ⟨_, _, rfl, rfl⟩) ev_int (by first | decide | omega | (split <;> omega))) ev_int) ?_ ?_ ?_
  · intro hc
    refine bv_cons (sv_set 4 sc_law_works.nd (ev_new (en_lst (xs := ([(12 : Int), ((7 : Int) + ((counts.getD (1 : Int).toNat (0 : Int)) % (6 : Int)))] : List Int)) (ea_cons ev_int (ea_cons (ev_add ev_int (ev_mod (ev_lixD (0 : Int) (ev_var 4 rfl) ev_int (by omega) (by rw [e_counts]; simp only [List.length_cons, List.length_nil]; omega)) ev_int (by first | decide | omega | (split <;> omega)))) ea_nil))))) ?_
    exact .nxs bv_nil (.eq (.eq (.eq (.eq (.eq (.any (.any (.any (.any (.any (.any .nil)))))))))))
  · intro hc
    exact .nxs bv_nil (.eq (.eq (.eq (.eq (.eq (.any (.any (.any (.any (.any (.any .nil)))))))))))
  intro b e_b
  refine bv_letv (fun (counts_1 : (List Int)) => [.v (script : (List Int)), .v (head : Int), .v (gap : Int), .v (least : Int), .v (counts_1 : (List Int)), .any, .any, .any, .any, .any, .any]) (of := fun counts_1 => .rt (dt (let hots : (List (T3 Int Int Int)) := ((iseq 0 (counts_1.getD (0 : Int).toNat (0 : Int)).toNat).foldl (m_law_works_L1 script least) ([] : (List (T3 Int Int Int)))); (let colds : (List (T3 Int Int Int)) := ((iseq 0 (counts_1.getD (1 : Int).toNat (0 : Int)).toNat).foldl (m_law_works_L2 script) ([] : (List (T3 Int Int Int)))); (T3.mk gap hots colds))))) (x := (bif b then ([(12 : Int), ((7 : Int) + ((counts.getD (1 : Int).toNat (0 : Int)) % (6 : Int)))] : List Int) else counts)) ?_
  intro counts_1 e_counts_1
  have hC : Cnt counts_1 := by rw [e_counts_1, e_b, e_counts]; exact cnt_ok _ _ _
  refine bv_cons (sv_own 5 sc_law_works.nd (en_lst (xs := ([] : (List (T3 Int Int Int)))) ea_nil)) ?_
  refine bv_letS (fun (hots : (List (T3 Int Int Int))) => [.v (script : (List Int)), .v (head : Int), .v (gap : Int), .v (least : Int), .v (counts_1 : (List Int)), .l (hots : (List (T3 Int Int Int))), .any, .any, .any, .any, .any]) (of := fun hots => .rt (dt (let colds : (List (T3 Int Int Int)) := ((iseq 0 (counts_1.getD (1 : Int).toNat (0 : Int)).toNat).foldl (m_law_works_L2 script) ([] : (List (T3 Int Int Int)))); (T3.mk gap hots colds)))) (x := ((iseq 0 (counts_1.getD (0 : Int).toNat (0 : Int)).toNat).foldl (m_law_works_L1 script least) ([] : (List (T3 Int Int Int))))) ?_ ?_
  · refine sv_forI (fun (s : (List (T3 Int Int Int))) => [.v (script : (List Int)), .v (head : Int), .v (gap : Int), .v (least : Int), .v (counts_1 : (List Int)), .l (s : (List (T3 Int Int Int))), .any, .any, .any, .any, .any]) ([] : (List (T3 Int Int Int))) (m_law_works_L1 script least) (fun (pre : List Int) (s : (List (T3 Int Int Int))) => s.length ≤ ([] : (List (T3 Int Int Int))).length + pre.length) (iv_range1 T.z_range (ev_lixD (0 : Int) (ev_var 4 rfl) ev_int (by omega) (by rw [hC.len]; decide)) (by have := hC.a0; have := hC.a1; have := hC.b0; have := hC.b1; omega) (by have := hC.a0; have := hC.a1; have := hC.b0; have := hC.b1; omega)) (.eq (.eq (.eq (.eq (.eq (.eq (.any (.any (.any (.any (.any .nil))))))))))) (fun (s : (List (T3 Int Int Int))) (x : Int) => [.v (script : (List Int)), .v (head : Int), .v (gap : Int), .v (least : Int), .v (counts_1 : (List Int)), .l (s : (List (T3 Int Int Int))), .v (x : Int), .any, .any, .any, .any]) (fun s x => (tv_name 6 sc_law_works.nd)) (by simp) (by intro pre x s _ h; simp only [m_law_works_L1, List.length_append, List.length_cons, List.length_nil] at h ⊢; omega) ?_ PassesOwn.never
    · intro pre x post s hx hs hI
      refine bv_letT (of := fun t => .nx ((fun (s : (List (T3 Int Int Int))) => [.v (script : (List Int)), .v (head : Int), .v (gap : Int), .v (least : Int), .v (counts_1 : (List Int)), .l (s : (List (T3 Int Int Int))), .any, .any, .any, .any, .any]) (s ++ [(T3.mk t.b t.a t.c)]))) (x := (m_law_stream ((pySlice script (some ((1 : Int) + x)) (some (63 : Int)) (some (37 : Int))).sum + x) least)) (fun t => [.v (script : (List Int)), .v (head : Int), .v (gap : Int), .v (least : Int), .v (counts_1 : (List Int)), .l (s : (List (T3 Int Int Int))), .v (x : Int), .v (t.a : Int), .v (t.b : Int), .v (t.c : Int), .any]) (sv_asg (ev_fn H_law_stream hr (by decide) (ea_cons (ev_add (ev_sum rfl T.z_sum (ev_new (en_slice (ev_var 0 rfl) (eo_some (ev_add ev_int (ev_var 6 rfl))) (eo_some ev_int) (eo_some ev_int) (by decide)))) (ev_var 6 rfl)) (ea_cons (ev_var 3 rfl) ea_nil)) ⟨_, _, rfl, (by first | exact hL | decide), rfl⟩) (tv_tup (tvs_cons (tv_name 7 sc_law_works.nd) (tvs_cons (tv_name 8 sc_law_works.nd) (tvs_cons (tv_name 9 sc_law_works.nd) tvs_nil))))) ?_
      intro t e_t
      refine bv_cons (sv_app 5 (pe_bm PySem.F.plainAttrs_list PySem.F.slot_list_append PySem.F.type_list_append mt_append (pv 5) (pa_cons pe pa_nil)) rfl (ev_t3 (ea_cons (ev_var 8 rfl) (ea_cons (ev_var 7 rfl) (ea_cons (ev_var 9 rfl) ea_nil)))) (by have hl0 := congrArg List.length hx; rw [iseq_len, List.length_append, List.length_cons] at hl0; simp only [List.length_nil] at hI; have := hC.a1; omega)) ?_
      exact .nxs bv_nil (.eq (.eq (.eq (.eq (.eq (.eq (.any (.any (.any (.any (.any .nil)))))))))))
  intro hots e_hots
  refine bv_cons (sv_own 10 sc_law_works.nd (en_lst (xs := ([] : (List (T3 Int Int Int)))) ea_nil)) ?_
  refine bv_letS (fun (colds : (List (T3 Int Int Int))) => [.v (script : (List Int)), .v (head : Int), .v (gap : Int), .v (least : Int), .v (counts_1 : (List Int)), .l (hots : (List (T3 Int Int Int))), .any, .any, .any, .any, .l (colds : (List (T3 Int Int Int)))]) (of := fun colds => .rt (dt (T3.mk gap hots colds))) (x := ((iseq 0 (counts_1.getD (1 : Int).toNat (0 : Int)).toNat).foldl (m_law_works_L2 script) ([] : (List (T3 Int Int Int))))) ?_ ?_
  · refine sv_forI (fun (s_1 : (List (T3 Int Int Int))) => [.v (script : (List Int)), .v (head : Int), .v (gap : Int), .v (least : Int), .v (counts_1 : (List Int)), .l (hots : (List (T3 Int Int Int))), .any, .any, .any, .any, .l (s_1 : (List (T3 Int Int Int)))]) ([] : (List (T3 Int Int Int))) (m_law_works_L2 script) (fun (pre : List Int) (s_1 : (List (T3 Int Int Int))) => s_1.length ≤ ([] : (List (T3 Int Int Int))).length + pre.length) (iv_range1 T.z_range (ev_lixD (0 : Int) (ev_var 4 rfl) ev_int (by omega) (by rw [hC.len]; decide)) (by have := hC.a0; have := hC.a1; have := hC.b0; have := hC.b1; omega) (by have := hC.a0; have := hC.a1; have := hC.b0; have := hC.b1; omega)) (.eq (.eq (.eq (.eq (.eq (.eq (.any (.any (.any (.any (.eq .nil))))))))))) (fun (s_1 : (List (T3 Int Int Int))) (x_1 : Int) => [.v (script : (List Int)), .v (head : Int), .v (gap : Int), .v (least : Int), .v (counts_1 : (List Int)), .l (hots : (List (T3 Int Int Int))), .v (x_1 : Int), .any, .any, .any, .l (s_1 : (List (T3 Int Int Int)))]) (fun s_1 x_1 => (tv_name 6 sc_law_works.nd)) (by simp) (by intro pre x s _ h; simp only [m_law_works_L2, List.length_append, List.length_cons, List.length_nil] at h ⊢; omega) ?_ PassesOwn.never
    · intro pre x_1 post s_1 hx_1 hs_1 hI_1
      refine bv_cons (sv_app 10 (pe_bm PySem.F.plainAttrs_list PySem.F.slot_list_append PySem.F.type_list_append mt_append (pv 10) (pa_cons pe pa_nil)) rfl (ev_fn H_law_stream hr (by decide) (ea_cons (ev_add (ev_add (ev_sum rfl T.z_sum (ev_new (en_slice (ev_var 0 rfl) (eo_some (ev_add ev_int (ev_var 6 rfl))) (eo_some ev_int) (eo_some ev_int) (by decide)))) ev_int) (ev_var 6 rfl)) (ea_cons ev_int ea_nil)) ⟨_, _, rfl, (by first | exact hL | decide), rfl⟩) (by have hl0 := congrArg List.length hx_1; rw [iseq_len, List.length_append, List.length_cons] at hl0; simp only [List.length_nil] at hI_1; have := hC.b1; omega)) ?_
      exact .nxs bv_nil (.eq (.eq (.eq (.eq (.eq (.eq (.any (.any (.any (.any (.eq .nil)))))))))))
  intro colds e_colds
  refine bv_frz 5 rfl ?_
  refine bv_frz 10 rfl ?_
  exact bv_ret (ev_t3 (ea_cons (ev_var 2 rfl) (ea_cons (ev_var 5 rfl) (ea_cons (ev_var 10 rfl) ea_nil))))
/-! _law_with_ends -/
def m_law_with_ends (shop : (T2 (List (T3 Int Int Int)) (List (T3 Int Int Int)))) (number : Int) : (T2 (List (T3 Int Int Int)) (List (T3 Int Int Int))) := (T2.mk (insL (pySlice shop.a none (some (5 : Int)) none) (number % (((pySlice shop.a none (some (5 : Int)) none).length : Int) + (1 : Int))) (T3.mk (250 : Int) ((number / (6 : Int)) % (1000000 : Int)) (1000000000000000 : Int))) (insL (pySlice shop.b none (some (5 : Int)) none) ((number / (7 : Int)) % (((pySlice shop.b none (some (5 : Int)) none).length : Int) + (1 : Int))) (T3.mk (0 : Int) ((number / (42 : Int)) % (1000000 : Int)) (1000000000000000 : Int))))
def r_law_with_ends (ds : List Dat) (d : Dat) : Prop := ∃ (shop : (T2 (List (T3 Int Int Int)) (List (T3 Int Int Int)))) (number : Int), ds = [dt shop, dt number] ∧ (shop.a.length ≤ 6 ∧ shop.b.length ≤ 6) ∧ d = dt (m_law_with_ends shop number)
abbrev s_law_with_ends : Stmt := topS 18
theorem sc_law_with_ends : FnScope ["shop", "number", "fires", "waters"] ["shop", "number"] (defScope s_law_with_ends) := ⟨rfl, rfl, rfl, by decide +kernel, rfl, by decide +kernel, by decide +kernel⟩
theorem ok_law_with_ends (T : Txt K mg)  {f : Addr} {fd : FuncData} (F : Fun K "_law_with_ends" "_law_with_ends" s_law_with_ends f fd) : FnOk P w K mg base CX0 1 f fd ["shop", "number"] (PSp K r_law_with_ends) := by
  refine fn_pure F sc_law_with_ends (fun ds d h => by obtain ⟨_, _, rfl, _⟩ := h; rfl) fun cdv A outer s H E ds d hr h => ?_
  obtain ⟨shop, number, rfl, hpre, rfl⟩ := h
  refine bv_cons (sv_own 2 sc_law_with_ends.nd (en_slice (ev_tixv 0 (shop.a) (ev_var 0 rfl)) eo_none (eo_some ev_int) eo_none (by decide))) ?_
  refine bv_cons (sv_own 3 sc_law_with_ends.nd (en_slice (ev_tixv 1 (shop.b) (ev_var 0 rfl)) eo_none (eo_some ev_int) eo_none (by decide))) ?_
  refine bv_cons (sv_insL 2 (pe_bm PySem.F.plainAttrs_list PySem.F.slot_list_insert PySem.F.type_list_insert mt_insert (pv 2) (pa_cons pe (pa_cons pe pa_nil))) rfl (ev_frz 2 rfl (ev_mod (ev_var 1 rfl) (ev_add (ev_len T.z_len (ev_var 2 rfl)) ev_int) (by first | decide | omega | (split <;> omega)))) (ev_t3 (ea_cons ev_int (ea_cons (ev_mod (ev_div (ev_var 1 rfl) ev_int (by first | exact ⟨by decide, by decide⟩ | exact ⟨by omega, by omega⟩)) (EV.is (y := (1000000 : Int)) (ev_pow (x := 10) (y := 6) ev_int ev_int ⟨by decide, by decide, by decide⟩) (by decide)) (by first | decide | omega | (split <;> omega))) (ea_cons (EV.is (y := (1000000000000000 : Int)) (ev_pow (x := 10) (y := 15) ev_int ev_int ⟨by decide, by decide, by decide⟩) (by decide)) ea_nil)))) (by have h1 := pySlice_len shop.a none (some (5 : Int)) none; have h2 := pySlice_len shop.b none (some (5 : Int)) none; have := hpre.1; have := hpre.2; exact ins_side _ (by omega))) ?_
  refine bv_cons (sv_insL 3 (pe_bm PySem.F.plainAttrs_list PySem.F.slot_list_insert PySem.F.type_list_insert mt_insert (pv 3) (pa_cons pe (pa_cons pe pa_nil))) rfl (ev_frz 3 rfl (ev_mod (ev_div (ev_var 1 rfl) ev_int (by first | exact ⟨by decide, by decide⟩ | exact ⟨by omega, by omega⟩)) (ev_add (ev_len T.z_len (ev_var 3 rfl)) ev_int) (by first | decide | omega | (split <;> omega)))) (ev_t3 (ea_cons ev_int (ea_cons (ev_mod (ev_div (ev_var 1 rfl) ev_int (by first | exact ⟨by decide, by decide⟩ | exact ⟨by omega, by omega⟩)) (EV.is (y := (1000000 : Int)) (ev_pow (x := 10) (y := 6) ev_int ev_int ⟨by decide, by decide, by decide⟩) (by decide)) (by first | decide | omega | (split <;> omega))) (ea_cons (EV.is (y := (1000000000000000 : Int)) (ev_pow (x := 10) (y := 15) ev_int ev_int ⟨by decide, by decide, by decide⟩) (by decide)) ea_nil)))) (by have h1 := pySlice_len shop.a none (some (5 : Int)) none; have h2 := pySlice_len shop.b none (some (5 : Int)) none; have := hpre.1; have := hpre.2; exact ins_side _ (by omega))) ?_
  refine bv_frz 2 rfl ?_
  refine bv_frz 3 rfl ?_
  exact bv_ret (ev_t2 (ea_cons (ev_var 2 rfl) (ea_cons (ev_var 3 rfl) ea_nil)))
/-! _law_amounts -/
def m_law_amounts_L1 (script : (List Int)) (s : Int × (List Int)) (x : (T3 Int Int Int)) : Int × (List Int) := (let k_1 : Int := (s.1 + (1 : Int)); (let cell : Int := ((pySlice script (some (k_1 % (37 : Int))) (some (63 : Int)) (some (37 : Int))).sum + k_1); (k_1, (s.2 ++ [((([(0 : Int), x.c, ((m_law_stir cell (30 : Int)) % (300 : Int))] : List Int).getD ((m_law_stir cell (31 : Int)) % (3 : Int)).toNat (0 : Int)) % ((min x.c (1000000000000 : Int)) + (1 : Int)))]))))
def m_law_amounts (offers : (List (T3 Int Int Int))) (script : (List Int)) (k : Int) : (List Int) := (let r_1 : Int × (List Int) := (offers.foldl (m_law_amounts_L1 script) (k, ([] : (List Int)))); r_1.2)

theorem amounts_eq (offers : List (T3 Int Int Int)) (script : List Int) (k : Int) : (m_law_amounts offers script k).length = offers.length := by
  unfold m_law_amounts
  dsimp only
  have h : ∀ (xs : List (T3 Int Int Int)) (s : Int × List Int), (xs.foldl (m_law_amounts_L1 script) s).2.length = s.2.length + xs.length := by
    intro xs
    induction xs with
    | nil => intro s; rfl
    | cons x r ih =>
      intro s
      rw [List.foldl_cons, ih]
      unfold m_law_amounts_L1
      dsimp only
      rw [List.length_append, List.length_cons, List.length_cons, List.length_nil]
      omega
  rw [h]; simp
def AmOk (xs : List (T3 Int Int Int)) : Prop := xs.length ≤ 1000 ∧ ∀ o ∈ xs, 0 ≤ o.c

structure Ends (s : T2 (List (T3 Int Int Int)) (List (T3 Int Int Int))) : Prop where
  fa : AmOk s.a
  wa : AmOk s.b
  f : ∃ o ∈ s.a, o.a = 250 ∧ o.c = 1000000000000000
  w : ∃ o ∈ s.b, o.a = 0 ∧ o.c = 1000000000000000
/-- two lists of ints, so long -/
structure BL (t : List (List Int)) (m n : Nat) : Prop where
  l : t.length = 2
  a : (t.getD (0 : Int).toNat []).length = m
  b : (t.getD (1 : Int).toNat []).length = n
theorem bl_mk {x y : List Int} {m n : Nat} (h : x.length = m) (k : y.length = n) : BL [x, y] m n := ⟨rfl, h, k⟩
theorem two_get {t : List (List Int)} (h : t.length = 2) : ∃ x y, t = [x, y] := by
  match t, h with
  | [x, y], _ => exact ⟨x, y, rfl⟩
theorem BL.set0 {t : List (List Int)} {m n : Nat} (h : BL t m n) {x : List Int} (hx : x.length = m) : BL (t.set (0 : Int).toNat x) m n := by
  obtain ⟨u, v, e⟩ := two_get h.l
  subst e
  exact ⟨rfl, hx, h.b⟩
theorem BL.set1 {t : List (List Int)} {m n : Nat} (h : BL t m n) {x : List Int} (hx : x.length = n) : BL (t.set (1 : Int).toNat x) m n := by
  obtain ⟨u, v, e⟩ := two_get h.l
  subst e
  exact ⟨rfl, h.a, hx⟩
theorem first_in {n : Nat} (p : Int → Bool) (h : ∃ k : Nat, k < n ∧ p k = true) : 0 < (((iseq 0 (n : Int).toNat).filter p).map (fun (x : Int) => x)).length ∧ 0 ≤ (((iseq 0 (n : Int).toNat).filter p).map (fun (x : Int) => x)).getD (0 : Int).toNat (0 : Int) ∧ (((iseq 0 (n : Int).toNat).filter p).map (fun (x : Int) => x)).getD (0 : Int).toNat (0 : Int) < (n : Int) := by
  obtain ⟨k, hk, hp⟩ := h
  have hm : (k : Int) ∈ ((iseq 0 (n : Int).toNat).filter p).map (fun (x : Int) => x) := by
    rw [List.map_id']
    refine List.mem_filter.mpr ⟨?_, hp⟩
    unfold iseq
    exact List.mem_map.mpr ⟨k, List.mem_range.mpr (by omega), by omega⟩
  have hall : ∀ y ∈ ((iseq 0 (n : Int).toNat).filter p).map (fun (x : Int) => x), 0 ≤ y ∧ y < (n : Int) := fun y hy => by
    rw [List.map_id'] at hy
    have hy := (List.mem_filter.mp hy).1
    unfold iseq at hy
    obtain ⟨i, hi, e⟩ := List.mem_map.mp hy
    have := List.mem_range.mp hi
    omega
  generalize ((iseq 0 (n : Int).toNat).filter p).map (fun (x : Int) => x) = l at *
  cases l with
  | nil => cases hm
  | cons z r =>
    have := hall z (by simp)
    exact ⟨by simp, this.1, this.2⟩
theorem has_at {xs : List (T3 Int Int Int)} {d c : Int} (h : ∃ o ∈ xs, o.a = d ∧ o.c = c) : ∃ k : Nat, k < xs.length ∧ ((decide ((xs.getD ((k : Nat) : Int).toNat (T3.mk (0 : Int) (0 : Int) (0 : Int))).a = d)) && (decide ((xs.getD ((k : Nat) : Int).toNat (T3.mk (0 : Int) (0 : Int) (0 : Int))).c = c))) = true := by
  obtain ⟨o, ho, e1, e2⟩ := h
  obtain ⟨k, hk, e⟩ := List.getElem_of_mem ho
  refine ⟨k, hk, ?_⟩
  have : xs.getD ((k : Nat) : Int).toNat (T3.mk (0 : Int) (0 : Int) (0 : Int)) = o := by
    rw [Int.toNat_natCast, List.getD_eq_getElem?_getD, List.getElem?_eq_getElem hk, e]; rfl
  rw [this, decide_eq_true e1, decide_eq_true e2]; rfl
theorem pick_at {xs : List (T3 Int Int Int)} {d c : Int} (h : ∃ o ∈ xs, o.a = d ∧ o.c = c) : 0 < (((iseq 0 (xs.length : Int).toNat).filter (fun (x : Int) => ((decide ((xs.getD x.toNat (T3.mk (0 : Int) (0 : Int) (0 : Int))).a = d)) && (decide ((xs.getD x.toNat (T3.mk (0 : Int) (0 : Int) (0 : Int))).c = c))))).map (fun (x : Int) => x)).length ∧ 0 ≤ (((iseq 0 (xs.length : Int).toNat).filter (fun (x : Int) => ((decide ((xs.getD x.toNat (T3.mk (0 : Int) (0 : Int) (0 : Int))).a = d)) && (decide ((xs.getD x.toNat (T3.mk (0 : Int) (0 : Int) (0 : Int))).c = c))))).map (fun (x : Int) => x)).getD (0 : Int).toNat (0 : Int) ∧ (((iseq 0 (xs.length : Int).toNat).filter (fun (x : Int) => ((decide ((xs.getD x.toNat (T3.mk (0 : Int) (0 : Int) (0 : Int))).a = d)) && (decide ((xs.getD x.toNat (T3.mk (0 : Int) (0 : Int) (0 : Int))).c = c))))).map (fun (x : Int) => x)).getD (0 : Int).toNat (0 : Int) < (xs.length : Int) := first_in (fun (x : Int) => ((decide ((xs.getD x.toNat (T3.mk (0 : Int) (0 : Int) (0 : Int))).a = d)) && (decide ((xs.getD x.toNat (T3.mk (0 : Int) (0 : Int) (0 : Int))).c = c)))) (has_at h)
theorem bit_ok (b : Bool) : -(2 ^ 64) < (bif b then (1 : Int) else 0) ∧ (bif b then (1 : Int) else 0) < 2 ^ 64 := by cases b <;> decide

def r_law_amounts (ds : List Dat) (y_ : ML Int) : Prop := ∃ (offers : (List (T3 Int Int Int))) (script : (List Int)) (k : Int), ds = [dt offers, dt script, dt k] ∧ (AmOk offers) ∧ y_ = ML.mk (m_law_amounts offers script k)
abbrev s_law_amounts : Stmt := topS 19
theorem sc_law_amounts : FnScope ["offers", "script", "k", "found", "degree", "price", "most", "cell"] ["offers", "script", "k"] (defScope s_law_amounts) := ⟨rfl, rfl, rfl, by decide +kernel, rfl, by decide +kernel, by decide +kernel⟩
theorem ok_law_amounts (T : Txt K mg) (H_law_stir : FnAt P w K mg base "_law_stir" 1 ["cell", "k"] r_law_stir) {f : Addr} {fd : FuncData} (F : Fun K "_law_amounts" "_law_amounts" s_law_amounts f fd) : FnOk P w K mg base CX0 2 f fd ["offers", "script", "k"] (OSp K r_law_amounts) := by
  refine fn_own F sc_law_amounts (fun ds d h => by obtain ⟨_, _, _, rfl, _⟩ := h; rfl) fun cdv A outer s H E ds d hr h => ?_
  obtain ⟨offers, script, k, rfl, hpre, rfl⟩ := h
  refine bv_cons (sv_own 3 sc_law_amounts.nd (en_lst (xs := ([] : (List Int))) ea_nil)) ?_
  refine bv_letS (fun (r_1 : Int × (List Int)) => [.v (offers : (List (T3 Int Int Int))), .v (script : (List Int)), .v (r_1.1 : Int), .l (r_1.2 : (List Int)), .any, .any, .any, .any]) (of := fun r_1 => .ro (ot (ML.mk (r_1.2 : (List Int))))) (x := (offers.foldl (m_law_amounts_L1 script) (k, ([] : (List Int))))) ?_ ?_
  · refine sv_forI (fun (s : Int × (List Int)) => [.v (offers : (List (T3 Int Int Int))), .v (script : (List Int)), .v (s.1 : Int), .l (s.2 : (List Int)), .any, .any, .any, .any]) (k, ([] : (List Int))) (m_law_amounts_L1 script) (fun (pre : List (T3 Int Int Int)) (s : Int × (List Int)) => s.2.length ≤ pre.length) (iv_list (ev_var 0 rfl)) (.eq (.eq (.eq (.eq (.any (.any (.any (.any .nil)))))))) (fun (s : Int × (List Int)) (x : (T3 Int Int Int)) => [.v (offers : (List (T3 Int Int Int))), .v (script : (List Int)), .v (s.1 : Int), .l (s.2 : (List Int)), .v (x.a : Int), .v (x.b : Int), .v (x.c : Int), .any]) (fun s x => (tv_tup (tvs_cons (tv_name 4 sc_law_amounts.nd) (tvs_cons (tv_name 5 sc_law_amounts.nd) (tvs_cons (tv_name 6 sc_law_amounts.nd) tvs_nil))))) (by simp) (fun pre x s _ h => by show (s.2 ++ _).length ≤ _; rw [List.length_append, List.length_append, List.length_cons, List.length_cons, List.length_nil]; simp only [List.length_nil]; omega) ?_ PassesOwn.never
    · intro pre x post s hx hs hI
      refine bv_let (of := fun k_1 => .nx ((fun (s : Int × (List Int)) => [.v (offers : (List (T3 Int Int Int))), .v (script : (List Int)), .v (s.1 : Int), .l (s.2 : (List Int)), .any, .any, .any, .any]) (let cell : Int := ((pySlice script (some (k_1 % (37 : Int))) (some (63 : Int)) (some (37 : Int))).sum + k_1); (k_1, (s.2 ++ [((([(0 : Int), x.c, ((m_law_stir cell (30 : Int)) % (300 : Int))] : List Int).getD ((m_law_stir cell (31 : Int)) % (3 : Int)).toNat (0 : Int)) % ((min x.c (1000000000000 : Int)) + (1 : Int)))]))))) (sv_set 2 sc_law_amounts.nd (ev_add (ev_var 2 rfl) ev_int)) ?_
      intro k_1 e_k_1
      refine bv_let (of := fun cell => .nx ((fun (s : Int × (List Int)) => [.v (offers : (List (T3 Int Int Int))), .v (script : (List Int)), .v (s.1 : Int), .l (s.2 : (List Int)), .any, .any, .any, .any]) (k_1, (s.2 ++ [((([(0 : Int), x.c, ((m_law_stir cell (30 : Int)) % (300 : Int))] : List Int).getD ((m_law_stir cell (31 : Int)) % (3 : Int)).toNat (0 : Int)) % ((min x.c (1000000000000 : Int)) + (1 : Int)))])))) (sv_set 7 sc_law_amounts.nd (ev_add (ev_sum rfl T.z_sum (ev_new (en_slice (ev_var 1 rfl) (eo_some (ev_mod (ev_var 2 rfl) ev_int (by first | decide | omega | (split <;> omega)))) (eo_some ev_int) (eo_some ev_int) (by decide)))) (ev_var 2 rfl))) ?_
      intro cell e_cell
      refine bv_cons (sv_app 3 (pe_bm PySem.F.plainAttrs_list PySem.F.slot_list_append PySem.F.type_list_append mt_append (pv 3) (pa_cons pe pa_nil)) rfl (ev_mod (ev_lixD (0 : Int) (ev_new (en_lst (xs := ([(0 : Int), x.c, ((m_law_stir cell (30 : Int)) % (300 : Int))] : List Int)) (ea_cons ev_int (ea_cons (ev_var 6 rfl) (ea_cons (ev_mod (ev_fn H_law_stir hr (by decide) (ea_cons (ev_var 7 rfl) (ea_cons ev_int ea_nil)) ⟨_, _, rfl, rfl⟩) ev_int (by first | decide | omega | (split <;> omega))) ea_nil))))) (ev_mod (ev_fn H_law_stir hr (by decide) (ea_cons (ev_var 7 rfl) (ea_cons ev_int ea_nil)) ⟨_, _, rfl, rfl⟩) ev_int (by first | decide | omega | (split <;> omega))) (by omega) (by simp only [List.length_cons, List.length_nil, List.length_map, iseq_len]; omega)) (ev_add (ev_min2 rfl T.z_min (ev_var 6 rfl) (EV.is (y := (1000000000000 : Int)) (ev_pow (x := 10) (y := 12) ev_int ev_int ⟨by decide, by decide, by decide⟩) (by decide))) ev_int) (by have := hpre.2 x (by rw [hx]; simp); omega)) (by have := hpre.1; have := congrArg List.length hx; simp only [List.length_append, List.length_cons, List.length_nil] at *; omega)) ?_
      exact .nxs bv_nil (.eq (.eq (.eq (.eq (.any (.any (.any (.any .nil))))))))
  intro r_1 e_r_1
  exact bv_retOwn 3 (pv 3) rfl
/-! _law_spares -/
def m_law_spares_L2 (x : (T3 Int Int Int)) (s_1 : (List Int)) (x_1 : Int) : (List Int) := (s_1.set x_1.toNat (s_1.getD x_1.toNat 0 + x.c))
def m_law_spares_L1  (s : (List Int)) (x : (T3 Int Int Int)) : (List Int) := (let rows : (List Int) := ((iseq x.b (x.a - x.b).toNat).foldl (m_law_spares_L2 x) s); rows)
def m_law_spares_L4 (works : (T3 Int (List (T3 Int Int Int)) (List (T3 Int Int Int)))) (x_2 : (T3 Int Int Int)) (s_3 : (List Int)) (x_3 : Int) : (List Int) := (s_3.set (x_3 + works.a).toNat (s_3.getD (x_3 + works.a).toNat 0 - x_2.c))
def m_law_spares_L3 (works : (T3 Int (List (T3 Int Int Int)) (List (T3 Int Int Int)))) (s_2 : (List Int)) (x_2 : (T3 Int Int Int)) : (List Int) := (let rows_2 : (List Int) := ((iseq x_2.a (x_2.b - x_2.a).toNat).foldl (m_law_spares_L4 works x_2) s_2); rows_2)
def m_law_spares_L5  (s_4 : (List Int)) (x_4 : (T2 (T3 Int Int Int) Int)) : (List Int) := (s_4.set (x_4.a.a - (1 : Int)).toNat (s_4.getD (x_4.a.a - (1 : Int)).toNat 0 + x_4.b))
def m_law_spares_L6 (works : (T3 Int (List (T3 Int Int Int)) (List (T3 Int Int Int)))) (s_5 : (List Int)) (x_5 : (T2 (T3 Int Int Int) Int)) : (List Int) := (s_5.set (x_5.a.a + works.a).toNat (s_5.getD (x_5.a.a + works.a).toNat 0 - x_5.b))
def m_law_spares_L7  (s_6 : (List Int)) (x_6 : Int) : (List Int) := (s_6.set x_6.toNat (s_6.getD x_6.toNat 0 + (s_6.getD (x_6 + (1 : Int)).toNat (0 : Int))))
def m_law_spares (works : (T3 Int (List (T3 Int Int Int)) (List (T3 Int Int Int)))) (shop : (T2 (List (T3 Int Int Int)) (List (T3 Int Int Int)))) (buying : (T2 (List Int) (List Int))) : (List Int) := (let rows_1 : (List Int) := (works.b.foldl m_law_spares_L1 (repL ([(0 : Int)] : List Int) (251 : Int).toNat)); (let rows_3 : (List Int) := (works.c.foldl (m_law_spares_L3 works) rows_1); (let rows_4 : (List Int) := ((zipL shop.a buying.a).foldl m_law_spares_L5 rows_3); (let rows_5 : (List Int) := ((zipL shop.b buying.b).foldl (m_law_spares_L6 works) rows_4); (let rows_6 : (List Int) := ((iseq 0 ((250 : Int) - 0).toNat).reverse.foldl m_law_spares_L7 rows_5); rows_6)))))

theorem sp_L1 (s : List Int) (x : T3 Int Int Int) : (m_law_spares_L1 s x).length = s.length := fold_len _ (fun s x => List.length_set ..) _ _
theorem sp_L3 (works : T3 Int (List (T3 Int Int Int)) (List (T3 Int Int Int))) (s : List Int) (x : T3 Int Int Int) : (m_law_spares_L3 works s x).length = s.length := fold_len _ (fun s x => List.length_set ..) _ _
theorem spares_len (works : T3 Int (List (T3 Int Int Int)) (List (T3 Int Int Int))) (shop : T2 (List (T3 Int Int Int)) (List (T3 Int Int Int))) (buying : T2 (List Int) (List Int)) : (m_law_spares works shop buying).length = 251 := by
  unfold m_law_spares
  dsimp only
  rw [fold_len m_law_spares_L7 (fun s x => List.length_set ..), fold_len (m_law_spares_L6 works) (fun s x => List.length_set ..), fold_len m_law_spares_L5 (fun s x => List.length_set ..), fold_len _ (sp_L3 works), fold_len _ sp_L1]
  exact repL_len _ _

def r_law_spares (ds : List Dat) (d : Dat) : Prop := ∃ (works : (T3 Int (List (T3 Int Int Int)) (List (T3 Int Int Int)))) (shop : (T2 (List (T3 Int Int Int)) (List (T3 Int Int Int)))) (buying : (T2 (List Int) (List Int))), ds = [dt works, dt shop, dt buying] ∧ (SpOk works shop) ∧ d = dt (m_law_spares works shop buying)
abbrev s_law_spares : Stmt := topS 17
theorem sc_law_spares : FnScope ["works", "shop", "buying", "rows", "start", "goal", "rate", "step", "offer", "amount", "level"] ["works", "shop", "buying"] (defScope s_law_spares) := ⟨rfl, rfl, rfl, by decide +kernel, rfl, by decide +kernel, by decide +kernel⟩
theorem ok_law_spares (T : Txt K mg)  {f : Addr} {fd : FuncData} (F : Fun K "_law_spares" "_law_spares" s_law_spares f fd) : FnOk P w K mg base CX0 1 f fd ["works", "shop", "buying"] (PSp K r_law_spares) := by
  refine fn_pure F sc_law_spares (fun ds d h => by obtain ⟨_, _, _, rfl, _⟩ := h; rfl) fun cdv A outer s H E ds d hr h => ?_
  obtain ⟨works, shop, buying, rfl, hpre, rfl⟩ := h
  refine bv_cons (sv_own 3 sc_law_spares.nd (en_rep (en_lst (xs := ([(0 : Int)] : List Int)) (ea_cons ev_int ea_nil)) ev_int ⟨by decide, by decide, by decide⟩)) ?_
  refine bv_letS (fun (rows_1 : (List Int)) => [.v (works : (T3 Int (List (T3 Int Int Int)) (List (T3 Int Int Int)))), .v (shop : (T2 (List (T3 Int Int Int)) (List (T3 Int Int Int)))), .v (buying : (T2 (List Int) (List Int))), .l (rows_1 : (List Int)), .any, .any, .any, .any, .any, .any, .any]) (of := fun rows_1 => .rt (dt (let rows_3 : (List Int) := (works.c.foldl (m_law_spares_L3 works) rows_1); (let rows_4 : (List Int) := ((zipL shop.a buying.a).foldl m_law_spares_L5 rows_3); (let rows_5 : (List Int) := ((zipL shop.b buying.b).foldl (m_law_spares_L6 works) rows_4); (let rows_6 : (List Int) := ((iseq 0 ((250 : Int) - 0).toNat).reverse.foldl m_law_spares_L7 rows_5); rows_6)))))) (x := (works.b.foldl m_law_spares_L1 (repL ([(0 : Int)] : List Int) (251 : Int).toNat))) ?_ ?_
  · refine sv_forI (fun (s : (List Int)) => [.v (works : (T3 Int (List (T3 Int Int Int)) (List (T3 Int Int Int)))), .v (shop : (T2 (List (T3 Int Int Int)) (List (T3 Int Int Int)))), .v (buying : (T2 (List Int) (List Int))), .l (s : (List Int)), .any, .any, .any, .any, .any, .any, .any]) (repL ([(0 : Int)] : List Int) (251 : Int).toNat) m_law_spares_L1 (fun (pre : List (T3 Int Int Int)) (s : (List Int)) => s.length = 251) (iv_list (ev_tixv 1 (works.b) (ev_var 0 rfl))) (.eq (.eq (.eq (.eq (.any (.any (.any (.any (.any (.any (.any .nil))))))))))) (fun (s : (List Int)) (x : (T3 Int Int Int)) => [.v (works : (T3 Int (List (T3 Int Int Int)) (List (T3 Int Int Int)))), .v (shop : (T2 (List (T3 Int Int Int)) (List (T3 Int Int Int)))), .v (buying : (T2 (List Int) (List Int))), .l (s : (List Int)), .v (x.a : Int), .v (x.b : Int), .v (x.c : Int), .any, .any, .any, .any]) (fun s x => (tv_tup (tvs_cons (tv_name 4 sc_law_spares.nd) (tvs_cons (tv_name 5 sc_law_spares.nd) (tvs_cons (tv_name 6 sc_law_spares.nd) tvs_nil))))) (repL_len _ _) (fun pre x s _ h => (sp_L1 s x).trans h) ?_ PassesOwn.never
    · intro pre x post s hx hs hI
      refine bv_letS (fun (rows : (List Int)) => [.v (works : (T3 Int (List (T3 Int Int Int)) (List (T3 Int Int Int)))), .v (shop : (T2 (List (T3 Int Int Int)) (List (T3 Int Int Int)))), .v (buying : (T2 (List Int) (List Int))), .l (rows : (List Int)), .v (x.a : Int), .v (x.b : Int), .v (x.c : Int), .any, .any, .any, .any]) (of := fun rows => .nx ((fun (s : (List Int)) => [.v (works : (T3 Int (List (T3 Int Int Int)) (List (T3 Int Int Int)))), .v (shop : (T2 (List (T3 Int Int Int)) (List (T3 Int Int Int)))), .v (buying : (T2 (List Int) (List Int))), .l (s : (List Int)), .any, .any, .any, .any, .any, .any, .any]) rows)) (x := ((iseq x.b (x.a - x.b).toNat).foldl (m_law_spares_L2 x) s)) ?_ ?_
      · refine sv_forI (fun (s_1 : (List Int)) => [.v (works : (T3 Int (List (T3 Int Int Int)) (List (T3 Int Int Int)))), .v (shop : (T2 (List (T3 Int Int Int)) (List (T3 Int Int Int)))), .v (buying : (T2 (List Int) (List Int))), .l (s_1 : (List Int)), .v (x.a : Int), .v (x.b : Int), .v (x.c : Int), .any, .any, .any, .any]) s (m_law_spares_L2 x) (fun (pre : List Int) (s_1 : (List Int)) => s_1.length = 251) (iv_range2 T.z_range (ev_var 5 rfl) (ev_var 4 rfl) (by have := sp_hot hpre hx; omega)) (.eq (.eq (.eq (.eq (.eq (.eq (.eq (.any (.any (.any (.any .nil))))))))))) (fun (s_1 : (List Int)) (x_1 : Int) => [.v (works : (T3 Int (List (T3 Int Int Int)) (List (T3 Int Int Int)))), .v (shop : (T2 (List (T3 Int Int Int)) (List (T3 Int Int Int)))), .v (buying : (T2 (List Int) (List Int))), .l (s_1 : (List Int)), .v (x.a : Int), .v (x.b : Int), .v (x.c : Int), .v (x_1 : Int), .any, .any, .any]) (fun s_1 x_1 => (tv_name 7 sc_law_spares.nd)) hI (fun pre x s _ h => (List.length_set ..).trans h) ?_ PassesOwn.never
        · intro pre x_1 post s_1 hx_1 hs_1 hI_1
          refine bv_cons (sv_augL 3 (f := fun a b => a + b) (ps_augS (pv 3) pe pget_list pe ip_add set_list) rfl (ev_var 7 rfl) (ev_var 6 rfl) (by have := sp_hot hpre hx; have := iseq_mem hx_1; omega)) ?_
          exact .nxs bv_nil (.eq (.eq (.eq (.eq (.eq (.eq (.eq (.any (.any (.any (.any .nil)))))))))))
      intro rows e_rows
      exact .nxs bv_nil (.eq (.eq (.eq (.eq (.any (.any (.any (.any (.any (.any (.any .nil)))))))))))
  intro rows_1 e_rows_1
  have hl1 : rows_1.length = 251 := by { rw [e_rows_1, fold_len _ sp_L1]; exact repL_len _ _ }
  refine bv_letS (fun (rows_3 : (List Int)) => [.v (works : (T3 Int (List (T3 Int Int Int)) (List (T3 Int Int Int)))), .v (shop : (T2 (List (T3 Int Int Int)) (List (T3 Int Int Int)))), .v (buying : (T2 (List Int) (List Int))), .l (rows_3 : (List Int)), .any, .any, .any, .any, .any, .any, .any]) (of := fun rows_3 => .rt (dt (let rows_4 : (List Int) := ((zipL shop.a buying.a).foldl m_law_spares_L5 rows_3); (let rows_5 : (List Int) := ((zipL shop.b buying.b).foldl (m_law_spares_L6 works) rows_4); (let rows_6 : (List Int) := ((iseq 0 ((250 : Int) - 0).toNat).reverse.foldl m_law_spares_L7 rows_5); rows_6))))) (x := (works.c.foldl (m_law_spares_L3 works) rows_1)) ?_ ?_
  · refine sv_forI (fun (s_2 : (List Int)) => [.v (works : (T3 Int (List (T3 Int Int Int)) (List (T3 Int Int Int)))), .v (shop : (T2 (List (T3 Int Int Int)) (List (T3 Int Int Int)))), .v (buying : (T2 (List Int) (List Int))), .l (s_2 : (List Int)), .any, .any, .any, .any, .any, .any, .any]) rows_1 (m_law_spares_L3 works) (fun (pre : List (T3 Int Int Int)) (s_2 : (List Int)) => s_2.length = 251) (iv_list (ev_tixv 2 (works.c) (ev_var 0 rfl))) (.eq (.eq (.eq (.eq (.any (.any (.any (.any (.any (.any (.any .nil))))))))))) (fun (s_2 : (List Int)) (x_2 : (T3 Int Int Int)) => [.v (works : (T3 Int (List (T3 Int Int Int)) (List (T3 Int Int Int)))), .v (shop : (T2 (List (T3 Int Int Int)) (List (T3 Int Int Int)))), .v (buying : (T2 (List Int) (List Int))), .l (s_2 : (List Int)), .v (x_2.a : Int), .v (x_2.b : Int), .v (x_2.c : Int), .any, .any, .any, .any]) (fun s_2 x_2 => (tv_tup (tvs_cons (tv_name 4 sc_law_spares.nd) (tvs_cons (tv_name 5 sc_law_spares.nd) (tvs_cons (tv_name 6 sc_law_spares.nd) tvs_nil))))) hl1 (fun pre x s _ h => (sp_L3 works s x).trans h) ?_ PassesOwn.never
    · intro pre x_2 post s_2 hx_2 hs_2 hI_2
      refine bv_letS (fun (rows_2 : (List Int)) => [.v (works : (T3 Int (List (T3 Int Int Int)) (List (T3 Int Int Int)))), .v (shop : (T2 (List (T3 Int Int Int)) (List (T3 Int Int Int)))), .v (buying : (T2 (List Int) (List Int))), .l (rows_2 : (List Int)), .v (x_2.a : Int), .v (x_2.b : Int), .v (x_2.c : Int), .any, .any, .any, .any]) (of := fun rows_2 => .nx ((fun (s_2 : (List Int)) => [.v (works : (T3 Int (List (T3 Int Int Int)) (List (T3 Int Int Int)))), .v (shop : (T2 (List (T3 Int Int Int)) (List (T3 Int Int Int)))), .v (buying : (T2 (List Int) (List Int))), .l (s_2 : (List Int)), .any, .any, .any, .any, .any, .any, .any]) rows_2)) (x := ((iseq x_2.a (x_2.b - x_2.a).toNat).foldl (m_law_spares_L4 works x_2) s_2)) ?_ ?_
      · refine sv_forI (fun (s_3 : (List Int)) => [.v (works : (T3 Int (List (T3 Int Int Int)) (List (T3 Int Int Int)))), .v (shop : (T2 (List (T3 Int Int Int)) (List (T3 Int Int Int)))), .v (buying : (T2 (List Int) (List Int))), .l (s_3 : (List Int)), .v (x_2.a : Int), .v (x_2.b : Int), .v (x_2.c : Int), .any, .any, .any, .any]) s_2 (m_law_spares_L4 works x_2) (fun (pre : List Int) (s_3 : (List Int)) => s_3.length = 251) (iv_range2 T.z_range (ev_var 4 rfl) (ev_var 5 rfl) (by have := sp_cold hpre hx_2; omega)) (.eq (.eq (.eq (.eq (.eq (.eq (.eq (.any (.any (.any (.any .nil))))))))))) (fun (s_3 : (List Int)) (x_3 : Int) => [.v (works : (T3 Int (List (T3 Int Int Int)) (List (T3 Int Int Int)))), .v (shop : (T2 (List (T3 Int Int Int)) (List (T3 Int Int Int)))), .v (buying : (T2 (List Int) (List Int))), .l (s_3 : (List Int)), .v (x_2.a : Int), .v (x_2.b : Int), .v (x_2.c : Int), .v (x_3 : Int), .any, .any, .any]) (fun s_3 x_3 => (tv_name 7 sc_law_spares.nd)) hI_2 (fun pre x s _ h => (List.length_set ..).trans h) ?_ PassesOwn.never
        · intro pre x_3 post s_3 hx_3 hs_3 hI_3
          refine bv_cons (sv_augL 3 (f := fun a b => a - b) (ps_augS (pv 3) pe pget_list pe ip_sub set_list) rfl (ev_add (ev_var 7 rfl) (ev_tixv 0 (works.a) (ev_var 0 rfl))) (ev_var 6 rfl) (by have := sp_cold hpre hx_2; have := iseq_mem hx_3; have := (hpre).w.g0; have := (hpre).w.g1; omega)) ?_
          exact .nxs bv_nil (.eq (.eq (.eq (.eq (.eq (.eq (.eq (.any (.any (.any (.any .nil)))))))))))
      intro rows_2 e_rows_2
      exact .nxs bv_nil (.eq (.eq (.eq (.eq (.any (.any (.any (.any (.any (.any (.any .nil)))))))))))
  intro rows_3 e_rows_3
  have hl3 : rows_3.length = 251 := by { rw [e_rows_3, fold_len _ (sp_L3 works)]; exact hl1 }
  refine bv_letS (fun (rows_4 : (List Int)) => [.v (works : (T3 Int (List (T3 Int Int Int)) (List (T3 Int Int Int)))), .v (shop : (T2 (List (T3 Int Int Int)) (List (T3 Int Int Int)))), .v (buying : (T2 (List Int) (List Int))), .l (rows_4 : (List Int)), .any, .any, .any, .any, .any, .any, .any]) (of := fun rows_4 => .rt (dt (let rows_5 : (List Int) := ((zipL shop.b buying.b).foldl (m_law_spares_L6 works) rows_4); (let rows_6 : (List Int) := ((iseq 0 ((250 : Int) - 0).toNat).reverse.foldl m_law_spares_L7 rows_5); rows_6)))) (x := ((zipL shop.a buying.a).foldl m_law_spares_L5 rows_3)) ?_ ?_
  · refine sv_forI (fun (s_4 : (List Int)) => [.v (works : (T3 Int (List (T3 Int Int Int)) (List (T3 Int Int Int)))), .v (shop : (T2 (List (T3 Int Int Int)) (List (T3 Int Int Int)))), .v (buying : (T2 (List Int) (List Int))), .l (s_4 : (List Int)), .any, .any, .any, .any, .any, .any, .any]) rows_3 m_law_spares_L5 (fun (pre : List (T2 (T3 Int Int Int) Int)) (s_4 : (List Int)) => s_4.length = 251) (iv_zip T.z_zip (ev_tixv 0 (shop.a) (ev_var 1 rfl)) (ev_tixv 0 (buying.a) (ev_var 2 rfl))) (.eq (.eq (.eq (.eq (.any (.any (.any (.any (.any (.any (.any .nil))))))))))) (fun (s_4 : (List Int)) (x_4 : (T2 (T3 Int Int Int) Int)) => [.v (works : (T3 Int (List (T3 Int Int Int)) (List (T3 Int Int Int)))), .v (shop : (T2 (List (T3 Int Int Int)) (List (T3 Int Int Int)))), .v (buying : (T2 (List Int) (List Int))), .l (s_4 : (List Int)), .any, .any, .any, .any, .v (x_4.a : (T3 Int Int Int)), .v (x_4.b : Int), .any]) (fun s_4 x_4 => (tv_tup (tvs_cons (tv_name 8 sc_law_spares.nd) (tvs_cons (tv_name 9 sc_law_spares.nd) tvs_nil)))) hl3 (fun pre x s _ h => (List.length_set ..).trans h) ?_ PassesOwn.never
    · intro pre x_4 post s_4 hx_4 hs_4 hI_4
      refine bv_cons (sv_augL 3 (f := fun a b => a + b) (ps_augS (pv 3) pe pget_list pe ip_add set_list) rfl (ev_sub (ev_tixv 0 (x_4.a.a) (ev_var 8 rfl)) ev_int) (ev_var 9 rfl) (by have := (hpre).a _ (zip_mem hx_4).1; omega)) ?_
      exact .nxs bv_nil (.eq (.eq (.eq (.eq (.any (.any (.any (.any (.any (.any (.any .nil)))))))))))
  intro rows_4 e_rows_4
  have hl4 : rows_4.length = 251 := by { rw [e_rows_4, fold_len m_law_spares_L5 (fun s x => List.length_set ..)]; exact hl3 }
  refine bv_letS (fun (rows_5 : (List Int)) => [.v (works : (T3 Int (List (T3 Int Int Int)) (List (T3 Int Int Int)))), .v (shop : (T2 (List (T3 Int Int Int)) (List (T3 Int Int Int)))), .v (buying : (T2 (List Int) (List Int))), .l (rows_5 : (List Int)), .any, .any, .any, .any, .any, .any, .any]) (of := fun rows_5 => .rt (dt (let rows_6 : (List Int) := ((iseq 0 ((250 : Int) - 0).toNat).reverse.foldl m_law_spares_L7 rows_5); rows_6))) (x := ((zipL shop.b buying.b).foldl (m_law_spares_L6 works) rows_4)) ?_ ?_
  · refine sv_forI (fun (s_5 : (List Int)) => [.v (works : (T3 Int (List (T3 Int Int Int)) (List (T3 Int Int Int)))), .v (shop : (T2 (List (T3 Int Int Int)) (List (T3 Int Int Int)))), .v (buying : (T2 (List Int) (List Int))), .l (s_5 : (List Int)), .any, .any, .any, .any, .any, .any, .any]) rows_4 (m_law_spares_L6 works) (fun (pre : List (T2 (T3 Int Int Int) Int)) (s_5 : (List Int)) => s_5.length = 251) (iv_zip T.z_zip (ev_tixv 1 (shop.b) (ev_var 1 rfl)) (ev_tixv 1 (buying.b) (ev_var 2 rfl))) (.eq (.eq (.eq (.eq (.any (.any (.any (.any (.any (.any (.any .nil))))))))))) (fun (s_5 : (List Int)) (x_5 : (T2 (T3 Int Int Int) Int)) => [.v (works : (T3 Int (List (T3 Int Int Int)) (List (T3 Int Int Int)))), .v (shop : (T2 (List (T3 Int Int Int)) (List (T3 Int Int Int)))), .v (buying : (T2 (List Int) (List Int))), .l (s_5 : (List Int)), .any, .any, .any, .any, .v (x_5.a : (T3 Int Int Int)), .v (x_5.b : Int), .any]) (fun s_5 x_5 => (tv_tup (tvs_cons (tv_name 8 sc_law_spares.nd) (tvs_cons (tv_name 9 sc_law_spares.nd) tvs_nil)))) hl4 (fun pre x s _ h => (List.length_set ..).trans h) ?_ PassesOwn.never
    · intro pre x_5 post s_5 hx_5 hs_5 hI_5
      refine bv_cons (sv_augL 3 (f := fun a b => a - b) (ps_augS (pv 3) pe pget_list pe ip_sub set_list) rfl (ev_add (ev_tixv 0 (x_5.a.a) (ev_var 8 rfl)) (ev_tixv 0 (works.a) (ev_var 0 rfl))) (ev_var 9 rfl) (by have := (hpre).b _ (zip_mem hx_5).1; have := (hpre).w.g0; have := (hpre).w.g1; omega)) ?_
      exact .nxs bv_nil (.eq (.eq (.eq (.eq (.any (.any (.any (.any (.any (.any (.any .nil)))))))))))
  intro rows_5 e_rows_5
  have hl5 : rows_5.length = 251 := by { rw [e_rows_5, fold_len (m_law_spares_L6 works) (fun s x => List.length_set ..)]; exact hl4 }
  refine bv_letS (fun (rows_6 : (List Int)) => [.v (works : (T3 Int (List (T3 Int Int Int)) (List (T3 Int Int Int)))), .v (shop : (T2 (List (T3 Int Int Int)) (List (T3 Int Int Int)))), .v (buying : (T2 (List Int) (List Int))), .l (rows_6 : (List Int)), .any, .any, .any, .any, .any, .any, .any]) (of := fun rows_6 => .rt (dt rows_6)) (x := ((iseq 0 ((250 : Int) - 0).toNat).reverse.foldl m_law_spares_L7 rows_5)) ?_ ?_
  · refine sv_forI (fun (s_6 : (List Int)) => [.v (works : (T3 Int (List (T3 Int Int Int)) (List (T3 Int Int Int)))), .v (shop : (T2 (List (T3 Int Int Int)) (List (T3 Int Int Int)))), .v (buying : (T2 (List Int) (List Int))), .l (s_6 : (List Int)), .any, .any, .any, .any, .any, .any, .any]) rows_5 m_law_spares_L7 (fun (pre : List Int) (s_6 : (List Int)) => s_6.length = 251) (iv_revRange T.z_reversed (er_1 T.z_range ev_int) (by decide)) (.eq (.eq (.eq (.eq (.any (.any (.any (.any (.any (.any (.any .nil))))))))))) (fun (s_6 : (List Int)) (x_6 : Int) => [.v (works : (T3 Int (List (T3 Int Int Int)) (List (T3 Int Int Int)))), .v (shop : (T2 (List (T3 Int Int Int)) (List (T3 Int Int Int)))), .v (buying : (T2 (List Int) (List Int))), .l (s_6 : (List Int)), .any, .any, .any, .any, .any, .any, .v (x_6 : Int)]) (fun s_6 x_6 => (tv_name 10 sc_law_spares.nd)) hl5 (fun pre x s _ h => (List.length_set ..).trans h) ?_ PassesOwn.never
    · intro pre x_6 post s_6 hx_6 hs_6 hI_6
      refine bv_cons (sv_augL 3 (f := fun a b => a + b) (ps_augS (pv 3) pe pget_list pe ip_add set_list) rfl (ev_var 10 rfl) (ev_frz 3 rfl (ev_lixD (0 : Int) (ev_var 3 rfl) (ev_add (ev_var 10 rfl) ev_int) (by have := rev_in hx_6; omega) (by have := rev_in hx_6; omega))) (by have := rev_in hx_6; omega)) ?_
      exact .nxs bv_nil (.eq (.eq (.eq (.eq (.any (.any (.any (.any (.any (.any (.any .nil)))))))))))
  intro rows_6 e_rows_6
  refine bv_frz 3 rfl ?_
  exact bv_ret (ev_var 3 rfl)
/-! _law_spares@2 -/
def m_law_spares_2_L2 (x : (T3 Int Int Int)) (s_1 : (List Int)) (x_1 : Int) : (List Int) := (s_1.set x_1.toNat (s_1.getD x_1.toNat 0 + x.c))
def m_law_spares_2_L1  (s : (List Int)) (x : (T3 Int Int Int)) : (List Int) := (let rows : (List Int) := ((iseq x.b (x.a - x.b).toNat).foldl (m_law_spares_2_L2 x) s); rows)
def m_law_spares_2_L4 (works : (T3 Int (List (T3 Int Int Int)) (List (T3 Int Int Int)))) (x_2 : (T3 Int Int Int)) (s_3 : (List Int)) (x_3 : Int) : (List Int) := (s_3.set (x_3 + works.a).toNat (s_3.getD (x_3 + works.a).toNat 0 - x_2.c))
def m_law_spares_2_L3 (works : (T3 Int (List (T3 Int Int Int)) (List (T3 Int Int Int)))) (s_2 : (List Int)) (x_2 : (T3 Int Int Int)) : (List Int) := (let rows_2 : (List Int) := ((iseq x_2.a (x_2.b - x_2.a).toNat).foldl (m_law_spares_2_L4 works x_2) s_2); rows_2)
def m_law_spares_2_L5  (s_4 : (List Int)) (x_4 : (T2 (T3 Int Int Int) Int)) : (List Int) := (s_4.set (x_4.a.a - (1 : Int)).toNat (s_4.getD (x_4.a.a - (1 : Int)).toNat 0 + x_4.b))
def m_law_spares_2_L6 (works : (T3 Int (List (T3 Int Int Int)) (List (T3 Int Int Int)))) (s_5 : (List Int)) (x_5 : (T2 (T3 Int Int Int) Int)) : (List Int) := (s_5.set (x_5.a.a + works.a).toNat (s_5.getD (x_5.a.a + works.a).toNat 0 - x_5.b))
def m_law_spares_2_L7  (s_6 : (List Int)) (x_6 : Int) : (List Int) := (s_6.set x_6.toNat (s_6.getD x_6.toNat 0 + (s_6.getD (x_6 + (1 : Int)).toNat (0 : Int))))
def m_law_spares_2 (works : (T3 Int (List (T3 Int Int Int)) (List (T3 Int Int Int)))) (shop : (T2 (List (T3 Int Int Int)) (List (T3 Int Int Int)))) (buying : (List (List Int))) : (List Int) := (let rows_1 : (List Int) := (works.b.foldl m_law_spares_2_L1 (repL ([(0 : Int)] : List Int) (251 : Int).toNat)); (let rows_3 : (List Int) := (works.c.foldl (m_law_spares_2_L3 works) rows_1); (let rows_4 : (List Int) := ((zipL shop.a (buying.getD (0 : Int).toNat ([] : (List Int)))).foldl m_law_spares_2_L5 rows_3); (let rows_5 : (List Int) := ((zipL shop.b (buying.getD (1 : Int).toNat ([] : (List Int)))).foldl (m_law_spares_2_L6 works) rows_4); (let rows_6 : (List Int) := ((iseq 0 ((250 : Int) - 0).toNat).reverse.foldl m_law_spares_2_L7 rows_5); rows_6)))))

theorem sp_L1_2 (s : List Int) (x : T3 Int Int Int) : (m_law_spares_2_L1 s x).length = s.length := fold_len _ (fun s x => List.length_set ..) _ _
theorem sp_L3_2 (works : T3 Int (List (T3 Int Int Int)) (List (T3 Int Int Int))) (s : List Int) (x : T3 Int Int Int) : (m_law_spares_2_L3 works s x).length = s.length := fold_len _ (fun s x => List.length_set ..) _ _
theorem spares_len_2 (works : T3 Int (List (T3 Int Int Int)) (List (T3 Int Int Int))) (shop : T2 (List (T3 Int Int Int)) (List (T3 Int Int Int))) (buying : List (List Int)) : (m_law_spares_2 works shop buying).length = 251 := by
  unfold m_law_spares_2
  dsimp only
  rw [fold_len m_law_spares_2_L7 (fun s x => List.length_set ..), fold_len (m_law_spares_2_L6 works) (fun s x => List.length_set ..), fold_len m_law_spares_2_L5 (fun s x => List.length_set ..), fold_len _ (sp_L3_2 works), fold_len _ sp_L1_2]
  exact repL_len _ _

def r_law_spares_2 (ds : List Dat) (d : Dat) : Prop := ∃ (works : (T3 Int (List (T3 Int Int Int)) (List (T3 Int Int Int)))) (shop : (T2 (List (T3 Int Int Int)) (List (T3 Int Int Int)))) (buying : (List (List Int))), ds = [dt works, dt shop, dt buying] ∧ (SpOk works shop ∧ buying.length = 2) ∧ d = dt (m_law_spares_2 works shop buying)
abbrev s_law_spares_2 : Stmt := topS 17
theorem sc_law_spares_2 : FnScope ["works", "shop", "buying", "rows", "start", "goal", "rate", "step", "offer", "amount", "level"] ["works", "shop", "buying"] (defScope s_law_spares_2) := ⟨rfl, rfl, rfl, by decide +kernel, rfl, by decide +kernel, by decide +kernel⟩
theorem ok_law_spares_2 (T : Txt K mg)  {f : Addr} {fd : FuncData} (F : Fun K "_law_spares" "_law_spares" s_law_spares_2 f fd) : FnOk P w K mg base CX0 1 f fd ["works", "shop", "buying"] (PSp K r_law_spares_2) := by
  refine fn_pure F sc_law_spares_2 (fun ds d h => by obtain ⟨_, _, _, rfl, _⟩ := h; rfl) fun cdv A outer s H E ds d hr h => ?_
  obtain ⟨works, shop, buying, rfl, hpre, rfl⟩ := h
  refine bv_cons (sv_own 3 sc_law_spares_2.nd (en_rep (en_lst (xs := ([(0 : Int)] : List Int)) (ea_cons ev_int ea_nil)) ev_int ⟨by decide, by decide, by decide⟩)) ?_
  refine bv_letS (fun (rows_1 : (List Int)) => [.v (works : (T3 Int (List (T3 Int Int Int)) (List (T3 Int Int Int)))), .v (shop : (T2 (List (T3 Int Int Int)) (List (T3 Int Int Int)))), .v (buying : (List (List Int))), .l (rows_1 : (List Int)), .any, .any, .any, .any, .any, .any, .any]) (of := fun rows_1 => .rt (dt (let rows_3 : (List Int) := (works.c.foldl (m_law_spares_2_L3 works) rows_1); (let rows_4 : (List Int) := ((zipL shop.a (buying.getD (0 : Int).toNat ([] : (List Int)))).foldl m_law_spares_2_L5 rows_3); (let rows_5 : (List Int) := ((zipL shop.b (buying.getD (1 : Int).toNat ([] : (List Int)))).foldl (m_law_spares_2_L6 works) rows_4); (let rows_6 : (List Int) := ((iseq 0 ((250 : Int) - 0).toNat).reverse.foldl m_law_spares_2_L7 rows_5); rows_6)))))) (x := (works.b.foldl m_law_spares_2_L1 (repL ([(0 : Int)] : List Int) (251 : Int).toNat))) ?_ ?_
  · refine sv_forI (fun (s : (List Int)) => [.v (works : (T3 Int (List (T3 Int Int Int)) (List (T3 Int Int Int)))), .v (shop : (T2 (List (T3 Int Int Int)) (List (T3 Int Int Int)))), .v (buying : (List (List Int))), .l (s : (List Int)), .any, .any, .any, .any, .any, .any, .any]) (repL ([(0 : Int)] : List Int) (251 : Int).toNat) m_law_spares_2_L1 (fun (pre : List (T3 Int Int Int)) (s : (List Int)) => s.length = 251) (iv_list (ev_tixv 1 (works.b) (ev_var 0 rfl))) (.eq (.eq (.eq (.eq (.any (.any (.any (.any (.any (.any (.any .nil))))))))))) (fun (s : (List Int)) (x : (T3 Int Int Int)) => [.v (works : (T3 Int (List (T3 Int Int Int)) (List (T3 Int Int Int)))), .v (shop : (T2 (List (T3 Int Int Int)) (List (T3 Int Int Int)))), .v (buying : (List (List Int))), .l (s : (List Int)), .v (x.a : Int), .v (x.b : Int), .v (x.c : Int), .any, .any, .any, .any]) (fun s x => (tv_tup (tvs_cons (tv_name 4 sc_law_spares_2.nd) (tvs_cons (tv_name 5 sc_law_spares_2.nd) (tvs_cons (tv_name 6 sc_law_spares_2.nd) tvs_nil))))) (repL_len _ _) (fun pre x s _ h => (sp_L1_2 s x).trans h) ?_ PassesOwn.never
    · intro pre x post s hx hs hI
      refine bv_letS (fun (rows : (List Int)) => [.v (works : (T3 Int (List (T3 Int Int Int)) (List (T3 Int Int Int)))), .v (shop : (T2 (List (T3 Int Int Int)) (List (T3 Int Int Int)))), .v (buying : (List (List Int))), .l (rows : (List Int)), .v (x.a : Int), .v (x.b : Int), .v (x.c : Int), .any, .any, .any, .any]) (of := fun rows => .nx ((fun (s : (List Int)) => [.v (works : (T3 Int (List (T3 Int Int Int)) (List (T3 Int Int Int)))), .v (shop : (T2 (List (T3 Int Int Int)) (List (T3 Int Int Int)))), .v (buying : (List (List Int))), .l (s : (List Int)), .any, .any, .any, .any, .any, .any, .any]) rows)) (x := ((iseq x.b (x.a - x.b).toNat).foldl (m_law_spares_2_L2 x) s)) ?_ ?_
      · refine sv_forI (fun (s_1 : (List Int)) => [.v (works : (T3 Int (List (T3 Int Int Int)) (List (T3 Int Int Int)))), .v (shop : (T2 (List (T3 Int Int Int)) (List (T3 Int Int Int)))), .v (buying : (List (List Int))), .l (s_1 : (List Int)), .v (x.a : Int), .v (x.b : Int), .v (x.c : Int), .any, .any, .any, .any]) s (m_law_spares_2_L2 x) (fun (pre : List Int) (s_1 : (List Int)) => s_1.length = 251) (iv_range2 T.z_range (ev_var 5 rfl) (ev_var 4 rfl) (by have := sp_hot hpre.1 hx; omega)) (.eq (.eq (.eq (.eq (.eq (.eq (.eq (.any (.any (.any (.any .nil))))))))))) (fun (s_1 : (List Int)) (x_1 : Int) => [.v (works : (T3 Int (List (T3 Int Int Int)) (List (T3 Int Int Int)))), .v (shop : (T2 (List (T3 Int Int Int)) (List (T3 Int Int Int)))), .v (buying : (List (List Int))), .l (s_1 : (List Int)), .v (x.a : Int), .v (x.b : Int), .v (x.c : Int), .v (x_1 : Int), .any, .any, .any]) (fun s_1 x_1 => (tv_name 7 sc_law_spares_2.nd)) hI (fun pre x s _ h => (List.length_set ..).trans h) ?_ PassesOwn.never
        · intro pre x_1 post s_1 hx_1 hs_1 hI_1
          refine bv_cons (sv_augL 3 (f := fun a b => a + b) (ps_augS (pv 3) pe pget_list pe ip_add set_list) rfl (ev_var 7 rfl) (ev_var 6 rfl) (by have := sp_hot hpre.1 hx; have := iseq_mem hx_1; omega)) ?_
          exact .nxs bv_nil (.eq (.eq (.eq (.eq (.eq (.eq (.eq (.any (.any (.any (.any .nil)))))))))))
      intro rows e_rows
      exact .nxs bv_nil (.eq (.eq (.eq (.eq (.any (.any (.any (.any (.any (.any (.any .nil)))))))))))
  intro rows_1 e_rows_1
  have hl1 : rows_1.length = 251 := by { rw [e_rows_1, fold_len _ sp_L1_2]; exact repL_len _ _ }
  refine bv_letS (fun (rows_3 : (List Int)) => [.v (works : (T3 Int (List (T3 Int Int Int)) (List (T3 Int Int Int)))), .v (shop : (T2 (List (T3 Int Int Int)) (List (T3 Int Int Int)))), .v (buying : (List (List Int))), .l (rows_3 : (List Int)), .any, .any, .any, .any, .any, .any, .any]) (of := fun rows_3 => .rt (dt (let rows_4 : (List Int) := ((zipL shop.a (buying.getD (0 : Int).toNat ([] : (List Int)))).foldl m_law_spares_2_L5 rows_3); (let rows_5 : (List Int) := ((zipL shop.b (buying.getD (1 : Int).toNat ([] : (List Int)))).foldl (m_law_spares_2_L6 works) rows_4); (let rows_6 : (List Int) := ((iseq 0 ((250 : Int) - 0).toNat).reverse.foldl m_law_spares_2_L7 rows_5); rows_6))))) (x := (works.c.foldl (m_law_spares_2_L3 works) rows_1)) ?_ ?_
  · refine sv_forI (fun (s_2 : (List Int)) => [.v (works : (T3 Int (List (T3 Int Int Int)) (List (T3 Int Int Int)))), .v (shop : (T2 (List (T3 Int Int Int)) (List (T3 Int Int Int)))), .v (buying : (List (List Int))), .l (s_2 : (List Int)), .any, .any, .any, .any, .any, .any, .any]) rows_1 (m_law_spares_2_L3 works) (fun (pre : List (T3 Int Int Int)) (s_2 : (List Int)) => s_2.length = 251) (iv_list (ev_tixv 2 (works.c) (ev_var 0 rfl))) (.eq (.eq (.eq (.eq (.any (.any (.any (.any (.any (.any (.any .nil))))))))))) (fun (s_2 : (List Int)) (x_2 : (T3 Int Int Int)) => [.v (works : (T3 Int (List (T3 Int Int Int)) (List (T3 Int Int Int)))), .v (shop : (T2 (List (T3 Int Int Int)) (List (T3 Int Int Int)))), .v (buying : (List (List Int))), .l (s_2 : (List Int)), .v (x_2.a : Int), .v (x_2.b : Int), .v (x_2.c : Int), .any, .any, .any, .any]) (fun s_2 x_2 => (tv_tup (tvs_cons (tv_name 4 sc_law_spares_2.nd) (tvs_cons (tv_name 5 sc_law_spares_2.nd) (tvs_cons (tv_name 6 sc_law_spares_2.nd) tvs_nil))))) hl1 (fun pre x s _ h => (sp_L3_2 works s x).trans h) ?_ PassesOwn.never
    · intro pre x_2 post s_2 hx_2 hs_2 hI_2
      refine bv_letS (fun (rows_2 : (List Int)) => [.v (works : (T3 Int (List (T3 Int Int Int)) (List (T3 Int Int Int)))), .v (shop : (T2 (List (T3 Int Int Int)) (List (T3 Int Int Int)))), .v (buying : (List (List Int))), .l (rows_2 : (List Int)), .v (x_2.a : Int), .v (x_2.b : Int), .v (x_2.c : Int), .any, .any, .any, .any]) (of := fun rows_2 => .nx ((fun (s_2 : (List Int)) => [.v (works : (T3 Int (List (T3 Int Int Int)) (List (T3 Int Int Int)))), .v (shop : (T2 (List (T3 Int Int Int)) (List (T3 Int Int Int)))), .v (buying : (List (List Int))), .l (s_2 : (List Int)), .any, .any, .any, .any, .any, .any, .any]) rows_2)) (x := ((iseq x_2.a (x_2.b - x_2.a).toNat).foldl (m_law_spares_2_L4 works x_2) s_2)) ?_ ?_
      · refine sv_forI (fun (s_3 : (List Int)) => [.v (works : (T3 Int (List (T3 Int Int Int)) (List (T3 Int Int Int)))), .v (shop : (T2 (List (T3 Int Int Int)) (List (T3 Int Int Int)))), .v (buying : (List (List Int))), .l (s_3 : (List Int)), .v (x_2.a : Int), .v (x_2.b : Int), .v (x_2.c : Int), .any, .any, .any, .any]) s_2 (m_law_spares_2_L4 works x_2) (fun (pre : List Int) (s_3 : (List Int)) => s_3.length = 251) (iv_range2 T.z_range (ev_var 4 rfl) (ev_var 5 rfl) (by have := sp_cold hpre.1 hx_2; omega)) (.eq (.eq (.eq (.eq (.eq (.eq (.eq (.any (.any (.any (.any .nil))))))))))) (fun (s_3 : (List Int)) (x_3 : Int) => [.v (works : (T3 Int (List (T3 Int Int Int)) (List (T3 Int Int Int)))), .v (shop : (T2 (List (T3 Int Int Int)) (List (T3 Int Int Int)))), .v (buying : (List (List Int))), .l (s_3 : (List Int)), .v (x_2.a : Int), .v (x_2.b : Int), .v (x_2.c : Int), .v (x_3 : Int), .any, .any, .any]) (fun s_3 x_3 => (tv_name 7 sc_law_spares_2.nd)) hI_2 (fun pre x s _ h => (List.length_set ..).trans h) ?_ PassesOwn.never
        · intro pre x_3 post s_3 hx_3 hs_3 hI_3
          refine bv_cons (sv_augL 3 (f := fun a b => a - b) (ps_augS (pv 3) pe pget_list pe ip_sub set_list) rfl (ev_add (ev_var 7 rfl) (ev_tixv 0 (works.a) (ev_var 0 rfl))) (ev_var 6 rfl) (by have := sp_cold hpre.1 hx_2; have := iseq_mem hx_3; have := (hpre.1).w.g0; have := (hpre.1).w.g1; omega)) ?_
          exact .nxs bv_nil (.eq (.eq (.eq (.eq (.eq (.eq (.eq (.any (.any (.any (.any .nil)))))))))))
      intro rows_2 e_rows_2
      exact .nxs bv_nil (.eq (.eq (.eq (.eq (.any (.any (.any (.any (.any (.any (.any .nil)))))))))))
  intro rows_3 e_rows_3
  have hl3 : rows_3.length = 251 := by { rw [e_rows_3, fold_len _ (sp_L3_2 works)]; exact hl1 }
  refine bv_letS (fun (rows_4 : (List Int)) => [.v (works : (T3 Int (List (T3 Int Int Int)) (List (T3 Int Int Int)))), .v (shop : (T2 (List (T3 Int Int Int)) (List (T3 Int Int Int)))), .v (buying : (List (List Int))), .l (rows_4 : (List Int)), .any, .any, .any, .any, .any, .any, .any]) (of := fun rows_4 => .rt (dt (let rows_5 : (List Int) := ((zipL shop.b (buying.getD (1 : Int).toNat ([] : (List Int)))).foldl (m_law_spares_2_L6 works) rows_4); (let rows_6 : (List Int) := ((iseq 0 ((250 : Int) - 0).toNat).reverse.foldl m_law_spares_2_L7 rows_5); rows_6)))) (x := ((zipL shop.a (buying.getD (0 : Int).toNat ([] : (List Int)))).foldl m_law_spares_2_L5 rows_3)) ?_ ?_
  · refine sv_forI (fun (s_4 : (List Int)) => [.v (works : (T3 Int (List (T3 Int Int Int)) (List (T3 Int Int Int)))), .v (shop : (T2 (List (T3 Int Int Int)) (List (T3 Int Int Int)))), .v (buying : (List (List Int))), .l (s_4 : (List Int)), .any, .any, .any, .any, .any, .any, .any]) rows_3 m_law_spares_2_L5 (fun (pre : List (T2 (T3 Int Int Int) Int)) (s_4 : (List Int)) => s_4.length = 251) (iv_zip T.z_zip (ev_tixv 0 (shop.a) (ev_var 1 rfl)) (ev_lixD ([] : (List Int)) (ev_var 2 rfl) ev_int (by decide) (by rw [hpre.2]; decide))) (.eq (.eq (.eq (.eq (.any (.any (.any (.any (.any (.any (.any .nil))))))))))) (fun (s_4 : (List Int)) (x_4 : (T2 (T3 Int Int Int) Int)) => [.v (works : (T3 Int (List (T3 Int Int Int)) (List (T3 Int Int Int)))), .v (shop : (T2 (List (T3 Int Int Int)) (List (T3 Int Int Int)))), .v (buying : (List (List Int))), .l (s_4 : (List Int)), .any, .any, .any, .any, .v (x_4.a : (T3 Int Int Int)), .v (x_4.b : Int), .any]) (fun s_4 x_4 => (tv_tup (tvs_cons (tv_name 8 sc_law_spares_2.nd) (tvs_cons (tv_name 9 sc_law_spares_2.nd) tvs_nil)))) hl3 (fun pre x s _ h => (List.length_set ..).trans h) ?_ PassesOwn.never
    · intro pre x_4 post s_4 hx_4 hs_4 hI_4
      refine bv_cons (sv_augL 3 (f := fun a b => a + b) (ps_augS (pv 3) pe pget_list pe ip_add set_list) rfl (ev_sub (ev_tixv 0 (x_4.a.a) (ev_var 8 rfl)) ev_int) (ev_var 9 rfl) (by have := (hpre.1).a _ (zip_mem hx_4).1; omega)) ?_
      exact .nxs bv_nil (.eq (.eq (.eq (.eq (.any (.any (.any (.any (.any (.any (.any .nil)))))))))))
  intro rows_4 e_rows_4
  have hl4 : rows_4.length = 251 := by { rw [e_rows_4, fold_len m_law_spares_2_L5 (fun s x => List.length_set ..)]; exact hl3 }
  refine bv_letS (fun (rows_5 : (List Int)) => [.v (works : (T3 Int (List (T3 Int Int Int)) (List (T3 Int Int Int)))), .v (shop : (T2 (List (T3 Int Int Int)) (List (T3 Int Int Int)))), .v (buying : (List (List Int))), .l (rows_5 : (List Int)), .any, .any, .any, .any, .any, .any, .any]) (of := fun rows_5 => .rt (dt (let rows_6 : (List Int) := ((iseq 0 ((250 : Int) - 0).toNat).reverse.foldl m_law_spares_2_L7 rows_5); rows_6))) (x := ((zipL shop.b (buying.getD (1 : Int).toNat ([] : (List Int)))).foldl (m_law_spares_2_L6 works) rows_4)) ?_ ?_
  · refine sv_forI (fun (s_5 : (List Int)) => [.v (works : (T3 Int (List (T3 Int Int Int)) (List (T3 Int Int Int)))), .v (shop : (T2 (List (T3 Int Int Int)) (List (T3 Int Int Int)))), .v (buying : (List (List Int))), .l (s_5 : (List Int)), .any, .any, .any, .any, .any, .any, .any]) rows_4 (m_law_spares_2_L6 works) (fun (pre : List (T2 (T3 Int Int Int) Int)) (s_5 : (List Int)) => s_5.length = 251) (iv_zip T.z_zip (ev_tixv 1 (shop.b) (ev_var 1 rfl)) (ev_lixD ([] : (List Int)) (ev_var 2 rfl) ev_int (by decide) (by rw [hpre.2]; decide))) (.eq (.eq (.eq (.eq (.any (.any (.any (.any (.any (.any (.any .nil))))))))))) (fun (s_5 : (List Int)) (x_5 : (T2 (T3 Int Int Int) Int)) => [.v (works : (T3 Int (List (T3 Int Int Int)) (List (T3 Int Int Int)))), .v (shop : (T2 (List (T3 Int Int Int)) (List (T3 Int Int Int)))), .v (buying : (List (List Int))), .l (s_5 : (List Int)), .any, .any, .any, .any, .v (x_5.a : (T3 Int Int Int)), .v (x_5.b : Int), .any]) (fun s_5 x_5 => (tv_tup (tvs_cons (tv_name 8 sc_law_spares_2.nd) (tvs_cons (tv_name 9 sc_law_spares_2.nd) tvs_nil)))) hl4 (fun pre x s _ h => (List.length_set ..).trans h) ?_ PassesOwn.never
    · intro pre x_5 post s_5 hx_5 hs_5 hI_5
      refine bv_cons (sv_augL 3 (f := fun a b => a - b) (ps_augS (pv 3) pe pget_list pe ip_sub set_list) rfl (ev_add (ev_tixv 0 (x_5.a.a) (ev_var 8 rfl)) (ev_tixv 0 (works.a) (ev_var 0 rfl))) (ev_var 9 rfl) (by have := (hpre.1).b _ (zip_mem hx_5).1; have := (hpre.1).w.g0; have := (hpre.1).w.g1; omega)) ?_
      exact .nxs bv_nil (.eq (.eq (.eq (.eq (.any (.any (.any (.any (.any (.any (.any .nil)))))))))))
  intro rows_5 e_rows_5
  have hl5 : rows_5.length = 251 := by { rw [e_rows_5, fold_len (m_law_spares_2_L6 works) (fun s x => List.length_set ..)]; exact hl4 }
  refine bv_letS (fun (rows_6 : (List Int)) => [.v (works : (T3 Int (List (T3 Int Int Int)) (List (T3 Int Int Int)))), .v (shop : (T2 (List (T3 Int Int Int)) (List (T3 Int Int Int)))), .v (buying : (List (List Int))), .l (rows_6 : (List Int)), .any, .any, .any, .any, .any, .any, .any]) (of := fun rows_6 => .rt (dt rows_6)) (x := ((iseq 0 ((250 : Int) - 0).toNat).reverse.foldl m_law_spares_2_L7 rows_5)) ?_ ?_
  · refine sv_forI (fun (s_6 : (List Int)) => [.v (works : (T3 Int (List (T3 Int Int Int)) (List (T3 Int Int Int)))), .v (shop : (T2 (List (T3 Int Int Int)) (List (T3 Int Int Int)))), .v (buying : (List (List Int))), .l (s_6 : (List Int)), .any, .any, .any, .any, .any, .any, .any]) rows_5 m_law_spares_2_L7 (fun (pre : List Int) (s_6 : (List Int)) => s_6.length = 251) (iv_revRange T.z_reversed (er_1 T.z_range ev_int) (by decide)) (.eq (.eq (.eq (.eq (.any (.any (.any (.any (.any (.any (.any .nil))))))))))) (fun (s_6 : (List Int)) (x_6 : Int) => [.v (works : (T3 Int (List (T3 Int Int Int)) (List (T3 Int Int Int)))), .v (shop : (T2 (List (T3 Int Int Int)) (List (T3 Int Int Int)))), .v (buying : (List (List Int))), .l (s_6 : (List Int)), .any, .any, .any, .any, .any, .any, .v (x_6 : Int)]) (fun s_6 x_6 => (tv_name 10 sc_law_spares_2.nd)) hl5 (fun pre x s _ h => (List.length_set ..).trans h) ?_ PassesOwn.never
    · intro pre x_6 post s_6 hx_6 hs_6 hI_6
      refine bv_cons (sv_augL 3 (f := fun a b => a + b) (ps_augS (pv 3) pe pget_list pe ip_add set_list) rfl (ev_var 10 rfl) (ev_frz 3 rfl (ev_lixD (0 : Int) (ev_var 3 rfl) (ev_add (ev_var 10 rfl) ev_int) (by have := rev_in hx_6; omega) (by have := rev_in hx_6; omega))) (by have := rev_in hx_6; omega)) ?_
      exact .nxs bv_nil (.eq (.eq (.eq (.eq (.any (.any (.any (.any (.any (.any (.any .nil)))))))))))
  intro rows_6 e_rows_6
  refine bv_frz 3 rfl ?_
  exact bv_ret (ev_var 3 rfl)
/-! _law_made -/
def m_law_made (works : (T3 Int (List (T3 Int Int Int)) (List (T3 Int Int Int)))) (shop : (T2 (List (T3 Int Int Int)) (List (T3 Int Int Int)))) (script : (List Int)) : (T2 (List Int) (List Int)) := (let buying : (List (List Int)) := ([(m_law_amounts shop.a script (400 : Int)), (m_law_amounts shop.b script (500 : Int))] : (List (List Int))); (let top_ : Int := ((((iseq 0 (shop.a.length : Int).toNat).filter (fun (x : Int) => ((decide ((shop.a.getD x.toNat (T3.mk (0 : Int) (0 : Int) (0 : Int))).a = (250 : Int))) && (decide ((shop.a.getD x.toNat (T3.mk (0 : Int) (0 : Int) (0 : Int))).c = (1000000000000000 : Int)))))).map (fun (x : Int) => x)).getD (0 : Int).toNat (0 : Int)); (let low_ : Int := ((((iseq 0 (shop.b.length : Int).toNat).filter (fun (x_1 : Int) => ((decide ((shop.b.getD x_1.toNat (T3.mk (0 : Int) (0 : Int) (0 : Int))).a = (0 : Int))) && (decide ((shop.b.getD x_1.toNat (T3.mk (0 : Int) (0 : Int) (0 : Int))).c = (1000000000000000 : Int)))))).map (fun (x_1 : Int) => x_1)).getD (0 : Int).toNat (0 : Int)); (let buying_1 : (List (List Int)) := (buying.set (0 : Int).toNat ((iseq 0 (shop.a.length : Int).toNat).map (fun (x_2 : Int) => (((buying.getD (0 : Int).toNat ([] : (List Int))).getD x_2.toNat (0 : Int)) * (bif (decide (works.a < (shop.a.getD x_2.toNat (T3.mk (0 : Int) (0 : Int) (0 : Int))).a)) then (1 : Int) else 0))))); (let buying_2 : (List (List Int)) := (buying_1.set (0 : Int).toNat ((buying_1.getD (0 : Int).toNat []).set top_.toNat (0 : Int))); (let buying_3 : (List (List Int)) := (buying_2.set (1 : Int).toNat ((buying_2.getD (1 : Int).toNat []).set low_.toNat (0 : Int))); (let buying_4 : (List (List Int)) := (buying_3.set (0 : Int).toNat ((buying_3.getD (0 : Int).toNat []).set top_.toNat (maxL (([(0 : Int)] : List Int) ++ ((m_law_spares_2 works shop buying_3).map (fun (x_4 : Int) => ((0 : Int) - x_4))))))); (let buying_5 : (List (List Int)) := (buying_4.set (1 : Int).toNat ((buying_4.getD (1 : Int).toNat []).set low_.toNat ((m_law_spares_2 works shop buying_4).getD (0 : Int).toNat (0 : Int)))); (T2.mk (buying_5.getD (0 : Int).toNat ([] : (List Int))) (buying_5.getD (1 : Int).toNat ([] : (List Int))))))))))))
theorem made_len {works : T3 Int (List (T3 Int Int Int)) (List (T3 Int Int Int))} {shop : T2 (List (T3 Int Int Int)) (List (T3 Int Int Int))} {script : List Int} : (m_law_made works shop script).a.length = shop.a.length ∧ (m_law_made works shop script).b.length = shop.b.length := by
  unfold m_law_made
  dsimp only
  have h0 : BL [m_law_amounts shop.a script 400, m_law_amounts shop.b script 500] shop.a.length shop.b.length := bl_mk (amounts_eq _ _ _) (amounts_eq _ _ _)
  generalize ([m_law_amounts shop.a script 400, m_law_amounts shop.b script 500] : List (List Int)) = b0 at *
  generalize (((iseq 0 (shop.a.length : Int).toNat).filter _).map _).getD (0 : Int).toNat (0 : Int) = t
  generalize (((iseq 0 (shop.b.length : Int).toNat).filter _).map _).getD (0 : Int).toNat (0 : Int) = u
  have h1 := h0.set0 (x := (iseq 0 (shop.a.length : Int).toNat).map (fun (x_2 : Int) => (((b0.getD (0 : Int).toNat ([] : (List Int))).getD x_2.toNat (0 : Int)) * (bif (decide (works.a < (shop.a.getD x_2.toNat (T3.mk (0 : Int) (0 : Int) (0 : Int))).a)) then (1 : Int) else 0)))) (by rw [List.length_map, iseq_len]; omega)
  generalize b0.set (0 : Int).toNat _ = b1 at *
  have h2 := h1.set0 (x := (b1.getD (0 : Int).toNat []).set t.toNat (0 : Int)) ((List.length_set ..).trans h1.a)
  generalize b1.set (0 : Int).toNat _ = b2 at *
  have h3 := h2.set1 (x := (b2.getD (1 : Int).toNat []).set u.toNat (0 : Int)) ((List.length_set ..).trans h2.b)
  generalize b2.set (1 : Int).toNat _ = b3 at *
  generalize maxL _ = mm
  have h4 := h3.set0 (x := (b3.getD (0 : Int).toNat []).set t.toNat mm) ((List.length_set ..).trans h3.a)
  generalize b3.set (0 : Int).toNat _ = b4 at *
  generalize (m_law_spares_2 works shop b4).getD _ _ = nn
  have h5 := h4.set1 (x := (b4.getD (1 : Int).toNat []).set u.toNat nn) ((List.length_set ..).trans h4.b)
  exact ⟨h5.a, h5.b⟩

def r_law_made (ds : List Dat) (d : Dat) : Prop := ∃ (works : (T3 Int (List (T3 Int Int Int)) (List (T3 Int Int Int)))) (shop : (T2 (List (T3 Int Int Int)) (List (T3 Int Int Int)))) (script : (List Int)), ds = [dt works, dt shop, dt script] ∧ (SpOk works shop ∧ Ends shop) ∧ d = dt (m_law_made works shop script)
abbrev s_law_made : Stmt := topS 20
theorem sc_law_made : FnScope ["works", "shop", "script", "buying", "top", "low", "k", "spare"] ["works", "shop", "script"] (defScope s_law_made) := ⟨rfl, rfl, rfl, by decide +kernel, rfl, by decide +kernel, by decide +kernel⟩
theorem ok_law_made (T : Txt K mg) (H_law_amounts : FnAtO P w K mg base "_law_amounts" 2 ["offers", "script", "k"] r_law_amounts) (H_law_spares_2 : FnAt P w K mg base "_law_spares" 1 ["works", "shop", "buying"] r_law_spares_2) {f : Addr} {fd : FuncData} (F : Fun K "_law_made" "_law_made" s_law_made f fd) : FnOk P w K mg base CX0 3 f fd ["works", "shop", "script"] (PSp K r_law_made) := by
  refine fn_pure F sc_law_made (fun ds d h => by obtain ⟨_, _, _, rfl, _⟩ := h; rfl) fun cdv A outer s H E ds d hr h => ?_
  obtain ⟨works, shop, script, rfl, hpre, rfl⟩ := h
  refine bv_letS (fun (buying : (List (List Int))) => [.v (works : (T3 Int (List (T3 Int Int Int)) (List (T3 Int Int Int)))), .v (shop : (T2 (List (T3 Int Int Int)) (List (T3 Int Int Int)))), .v (script : (List Int)), .o (MT.mk (buying : (List (List Int)))), .any, .any, .any, .any]) (of := fun buying => .rt (dt (let top_ : Int := ((((iseq 0 (shop.a.length : Int).toNat).filter (fun (x : Int) => ((decide ((shop.a.getD x.toNat (T3.mk (0 : Int) (0 : Int) (0 : Int))).a = (250 : Int))) && (decide ((shop.a.getD x.toNat (T3.mk (0 : Int) (0 : Int) (0 : Int))).c = (1000000000000000 : Int)))))).map (fun (x : Int) => x)).getD (0 : Int).toNat (0 : Int)); (let low_ : Int := ((((iseq 0 (shop.b.length : Int).toNat).filter (fun (x_1 : Int) => ((decide ((shop.b.getD x_1.toNat (T3.mk (0 : Int) (0 : Int) (0 : Int))).a = (0 : Int))) && (decide ((shop.b.getD x_1.toNat (T3.mk (0 : Int) (0 : Int) (0 : Int))).c = (1000000000000000 : Int)))))).map (fun (x_1 : Int) => x_1)).getD (0 : Int).toNat (0 : Int)); (let buying_1 : (List (List Int)) := (buying.set (0 : Int).toNat ((iseq 0 (shop.a.length : Int).toNat).map (fun (x_2 : Int) => (((buying.getD (0 : Int).toNat ([] : (List Int))).getD x_2.toNat (0 : Int)) * (bif (decide (works.a < (shop.a.getD x_2.toNat (T3.mk (0 : Int) (0 : Int) (0 : Int))).a)) then (1 : Int) else 0))))); (let buying_2 : (List (List Int)) := (buying_1.set (0 : Int).toNat ((buying_1.getD (0 : Int).toNat []).set top_.toNat (0 : Int))); (let buying_3 : (List (List Int)) := (buying_2.set (1 : Int).toNat ((buying_2.getD (1 : Int).toNat []).set low_.toNat (0 : Int))); (let buying_4 : (List (List Int)) := (buying_3.set (0 : Int).toNat ((buying_3.getD (0 : Int).toNat []).set top_.toNat (maxL (([(0 : Int)] : List Int) ++ ((m_law_spares_2 works shop buying_3).map (fun (x_4 : Int) => ((0 : Int) - x_4))))))); (let buying_5 : (List (List Int)) := (buying_4.set (1 : Int).toNat ((buying_4.getD (1 : Int).toNat []).set low_.toNat ((m_law_spares_2 works shop buying_4).getD (0 : Int).toNat (0 : Int)))); (T2.mk (buying_5.getD (0 : Int).toNat ([] : (List Int))) (buying_5.getD (1 : Int).toNat ([] : (List Int))))))))))))) (x := ([(m_law_amounts shop.a script (400 : Int)), (m_law_amounts shop.b script (500 : Int))] : (List (List Int)))) (sv_own 3 sc_law_made.nd (en_mt2 (en_fnO H_law_amounts hr (by decide) (ea_cons (ev_tixv 0 (shop.a) (ev_var 1 rfl)) (ea_cons (ev_var 2 rfl) (ea_cons ev_int ea_nil))) ⟨_, _, _, rfl, (by first | exact hpre.2.fa | exact hpre.2.wa), rfl⟩) (en_fnO H_law_amounts hr (by decide) (ea_cons (ev_tixv 1 (shop.b) (ev_var 1 rfl)) (ea_cons (ev_var 2 rfl) (ea_cons ev_int ea_nil))) ⟨_, _, _, rfl, (by first | exact hpre.2.fa | exact hpre.2.wa), rfl⟩))) ?_
  intro buying e_buying
  have hB : BL buying shop.a.length shop.b.length := by { rw [e_buying]; exact bl_mk (amounts_eq _ _ _) (amounts_eq _ _ _) }
  refine bv_let (of := fun top_ => .rt (dt (let low_ : Int := ((((iseq 0 (shop.b.length : Int).toNat).filter (fun (x_1 : Int) => ((decide ((shop.b.getD x_1.toNat (T3.mk (0 : Int) (0 : Int) (0 : Int))).a = (0 : Int))) && (decide ((shop.b.getD x_1.toNat (T3.mk (0 : Int) (0 : Int) (0 : Int))).c = (1000000000000000 : Int)))))).map (fun (x_1 : Int) => x_1)).getD (0 : Int).toNat (0 : Int)); (let buying_1 : (List (List Int)) := (buying.set (0 : Int).toNat ((iseq 0 (shop.a.length : Int).toNat).map (fun (x_2 : Int) => (((buying.getD (0 : Int).toNat ([] : (List Int))).getD x_2.toNat (0 : Int)) * (bif (decide (works.a < (shop.a.getD x_2.toNat (T3.mk (0 : Int) (0 : Int) (0 : Int))).a)) then (1 : Int) else 0))))); (let buying_2 : (List (List Int)) := (buying_1.set (0 : Int).toNat ((buying_1.getD (0 : Int).toNat []).set top_.toNat (0 : Int))); (let buying_3 : (List (List Int)) := (buying_2.set (1 : Int).toNat ((buying_2.getD (1 : Int).toNat []).set low_.toNat (0 : Int))); (let buying_4 : (List (List Int)) := (buying_3.set (0 : Int).toNat ((buying_3.getD (0 : Int).toNat []).set top_.toNat (maxL (([(0 : Int)] : List Int) ++ ((m_law_spares_2 works shop buying_3).map (fun (x_4 : Int) => ((0 : Int) - x_4))))))); (let buying_5 : (List (List Int)) := (buying_4.set (1 : Int).toNat ((buying_4.getD (1 : Int).toNat []).set low_.toNat ((m_law_spares_2 works shop buying_4).getD (0 : Int).toNat (0 : Int)))); (T2.mk (buying_5.getD (0 : Int).toNat ([] : (List Int))) (buying_5.getD (1 : Int).toNat ([] : (List Int)))))))))))) (sv_set 4 sc_law_made.nd (ev_lixD (0 : Int) (ev_new (en_el rfl sc_law_made.nd (blkOk_by (own := [(Str.ofString "k", 6)]) (N := ["works", "shop", "script", "buying", "top", "low", "k", "spare"]) (sc := defScope s_law_made) (by decide +kernel)) (el_lcIf (own := [(Str.ofString "k", 6)]) (fun (x : Int) => [.v (works : (T3 Int (List (T3 Int Int Int)) (List (T3 Int Int Int)))), .v (shop : (T2 (List (T3 Int Int Int)) (List (T3 Int Int Int)))), .v (script : (List Int)), .o (MT.mk (buying : (List (List Int)))), .any, .any, .v (x : Int), .any]) (fun (x : Int) => ((decide ((shop.a.getD x.toNat (T3.mk (0 : Int) (0 : Int) (0 : Int))).a = (250 : Int))) && (decide ((shop.a.getD x.toNat (T3.mk (0 : Int) (0 : Int) (0 : Int))).c = (1000000000000000 : Int))))) (fun (x : Int) => x) (iv_range1 T.z_range (ev_len T.z_len (ev_tixv 0 (shop.a) (ev_var 1 rfl))) (by have := hpre.1.na; have := hpre.1.nb; omega) (by have := hpre.1.na; have := hpre.1.nb; omega)) (fun _ _ _ _ _ x => (tx_name 6 sc_law_made.nd)) (fun _ x _ hx _ _ _ _ _ => (et_w (ew_and (et_eq (ev_tixv 0 ((shop.a.getD x.toNat (T3.mk (0 : Int) (0 : Int) (0 : Int))).a) (ev_lixD (T3.mk (0 : Int) (0 : Int) (0 : Int)) (ev_tixv 0 (shop.a) (ev_var 1 rfl)) (ev_var 6 rfl) (by first | decide | (have := iseq_mem hx; omega) | (have := iseq_mem hx_1; omega) | (have := iseq_mem hx_2; omega)) (by first | (have := iseq_mem hx; omega) | (have := iseq_mem hx_1; omega) | (have := iseq_mem hx_2; omega)))) ev_int) (fun hb => (ew_and1 (et_eq (ev_tixv 2 ((shop.a.getD x.toNat (T3.mk (0 : Int) (0 : Int) (0 : Int))).c) (ev_lixD (T3.mk (0 : Int) (0 : Int) (0 : Int)) (ev_tixv 0 (shop.a) (ev_var 1 rfl)) (ev_var 6 rfl) (by first | decide | (have := iseq_mem hx; omega) | (have := iseq_mem hx_1; omega) | (have := iseq_mem hx_2; omega)) (by first | (have := iseq_mem hx; omega) | (have := iseq_mem hx_1; omega) | (have := iseq_mem hx_2; omega)))) (EV.is (y := (1000000000000000 : Int)) (ev_pow (x := 10) (y := 15) ev_int ev_int ⟨by decide, by decide, by decide⟩) (by decide)))))))) (fun _ x _ hx hp _ _ _ _ _ => (ev_var 6 rfl)) (by first | (rw [iseq_len]; have := hpre.1.na; have := hpre.1.nb; omega) | (rw [spares_len_2]; decide) | (rw [List.length_map, spares_len_2]; decide))))) ev_int (by decide) (by have := (pick_at hpre.2.f).1; show ((0 : Int)) < _; omega))) ?_
  intro top_ e_top_
  have ht := pick_at hpre.2.f; have ht1 : 0 ≤ top_ ∧ top_ < (shop.a.length : Int) := by { rw [e_top_]; exact ht.2 }
  refine bv_let (of := fun low_ => .rt (dt (let buying_1 : (List (List Int)) := (buying.set (0 : Int).toNat ((iseq 0 (shop.a.length : Int).toNat).map (fun (x_2 : Int) => (((buying.getD (0 : Int).toNat ([] : (List Int))).getD x_2.toNat (0 : Int)) * (bif (decide (works.a < (shop.a.getD x_2.toNat (T3.mk (0 : Int) (0 : Int) (0 : Int))).a)) then (1 : Int) else 0))))); (let buying_2 : (List (List Int)) := (buying_1.set (0 : Int).toNat ((buying_1.getD (0 : Int).toNat []).set top_.toNat (0 : Int))); (let buying_3 : (List (List Int)) := (buying_2.set (1 : Int).toNat ((buying_2.getD (1 : Int).toNat []).set low_.toNat (0 : Int))); (let buying_4 : (List (List Int)) := (buying_3.set (0 : Int).toNat ((buying_3.getD (0 : Int).toNat []).set top_.toNat (maxL (([(0 : Int)] : List Int) ++ ((m_law_spares_2 works shop buying_3).map (fun (x_4 : Int) => ((0 : Int) - x_4))))))); (let buying_5 : (List (List Int)) := (buying_4.set (1 : Int).toNat ((buying_4.getD (1 : Int).toNat []).set low_.toNat ((m_law_spares_2 works shop buying_4).getD (0 : Int).toNat (0 : Int)))); (T2.mk (buying_5.getD (0 : Int).toNat ([] : (List Int))) (buying_5.getD (1 : Int).toNat ([] : (List Int))))))))))) (sv_set 5 sc_law_made.nd (ev_lixD (0 : Int) (ev_new (en_el rfl sc_law_made.nd (blkOk_by (own := [(Str.ofString "k", 6)]) (N := ["works", "shop", "script", "buying", "top", "low", "k", "spare"]) (sc := defScope s_law_made) (by decide +kernel)) (el_lcIf (own := [(Str.ofString "k", 6)]) (fun (x_1 : Int) => [.v (works : (T3 Int (List (T3 Int Int Int)) (List (T3 Int Int Int)))), .v (shop : (T2 (List (T3 Int Int Int)) (List (T3 Int Int Int)))), .v (script : (List Int)), .o (MT.mk (buying : (List (List Int)))), .v (top_ : Int), .any, .v (x_1 : Int), .any]) (fun (x_1 : Int) => ((decide ((shop.b.getD x_1.toNat (T3.mk (0 : Int) (0 : Int) (0 : Int))).a = (0 : Int))) && (decide ((shop.b.getD x_1.toNat (T3.mk (0 : Int) (0 : Int) (0 : Int))).c = (1000000000000000 : Int))))) (fun (x_1 : Int) => x_1) (iv_range1 T.z_range (ev_len T.z_len (ev_tixv 1 (shop.b) (ev_var 1 rfl))) (by have := hpre.1.na; have := hpre.1.nb; omega) (by have := hpre.1.na; have := hpre.1.nb; omega)) (fun _ _ _ _ _ x_1 => (tx_name 6 sc_law_made.nd)) (fun _ x_1 _ hx_1 _ _ _ _ _ => (et_w (ew_and (et_eq (ev_tixv 0 ((shop.b.getD x_1.toNat (T3.mk (0 : Int) (0 : Int) (0 : Int))).a) (ev_lixD (T3.mk (0 : Int) (0 : Int) (0 : Int)) (ev_tixv 1 (shop.b) (ev_var 1 rfl)) (ev_var 6 rfl) (by first | decide | (have := iseq_mem hx; omega) | (have := iseq_mem hx_1; omega) | (have := iseq_mem hx_2; omega)) (by first | (have := iseq_mem hx; omega) | (have := iseq_mem hx_1; omega) | (have := iseq_mem hx_2; omega)))) ev_int) (fun hb_1 => (ew_and1 (et_eq (ev_tixv 2 ((shop.b.getD x_1.toNat (T3.mk (0 : Int) (0 : Int) (0 : Int))).c) (ev_lixD (T3.mk (0 : Int) (0 : Int) (0 : Int)) (ev_tixv 1 (shop.b) (ev_var 1 rfl)) (ev_var 6 rfl) (by first | decide | (have := iseq_mem hx; omega) | (have := iseq_mem hx_1; omega) | (have := iseq_mem hx_2; omega)) (by first | (have := iseq_mem hx; omega) | (have := iseq_mem hx_1; omega) | (have := iseq_mem hx_2; omega)))) (EV.is (y := (1000000000000000 : Int)) (ev_pow (x := 10) (y := 15) ev_int ev_int ⟨by decide, by decide, by decide⟩) (by decide)))))))) (fun _ x_1 _ hx_1 hp_1 _ _ _ _ _ => (ev_var 6 rfl)) (by first | (rw [iseq_len]; have := hpre.1.na; have := hpre.1.nb; omega) | (rw [spares_len_2]; decide) | (rw [List.length_map, spares_len_2]; decide))))) ev_int (by decide) (by have := (pick_at hpre.2.w).1; show ((0 : Int)) < _; omega))) ?_
  intro low_ e_low_
  have hl := pick_at hpre.2.w; have hl1 : 0 ≤ low_ ∧ low_ < (shop.b.length : Int) := by { rw [e_low_]; exact hl.2 }
  refine bv_letS (fun (buying_1 : (List (List Int))) => [.v (works : (T3 Int (List (T3 Int Int Int)) (List (T3 Int Int Int)))), .v (shop : (T2 (List (T3 Int Int Int)) (List (T3 Int Int Int)))), .v (script : (List Int)), .o (MT.mk (buying_1 : (List (List Int)))), .v (top_ : Int), .v (low_ : Int), .any, .any]) (of := fun buying_1 => .rt (dt (let buying_2 : (List (List Int)) := (buying_1.set (0 : Int).toNat ((buying_1.getD (0 : Int).toNat []).set top_.toNat (0 : Int))); (let buying_3 : (List (List Int)) := (buying_2.set (1 : Int).toNat ((buying_2.getD (1 : Int).toNat []).set low_.toNat (0 : Int))); (let buying_4 : (List (List Int)) := (buying_3.set (0 : Int).toNat ((buying_3.getD (0 : Int).toNat []).set top_.toNat (maxL (([(0 : Int)] : List Int) ++ ((m_law_spares_2 works shop buying_3).map (fun (x_4 : Int) => ((0 : Int) - x_4))))))); (let buying_5 : (List (List Int)) := (buying_4.set (1 : Int).toNat ((buying_4.getD (1 : Int).toNat []).set low_.toNat ((m_law_spares_2 works shop buying_4).getD (0 : Int).toNat (0 : Int)))); (T2.mk (buying_5.getD (0 : Int).toNat ([] : (List Int))) (buying_5.getD (1 : Int).toNat ([] : (List Int)))))))))) (x := (buying.set (0 : Int).toNat ((iseq 0 (shop.a.length : Int).toNat).map (fun (x_2 : Int) => (((buying.getD (0 : Int).toNat ([] : (List Int))).getD x_2.toNat (0 : Int)) * (bif (decide (works.a < (shop.a.getD x_2.toNat (T3.mk (0 : Int) (0 : Int) (0 : Int))).a)) then (1 : Int) else 0)))))) (sv_setRow 3 (ps_asg pe (pg_sub (pv 3) pe set_list)) rfl (en_fzI 3 rfl (en_el rfl sc_law_made.nd (blkOk_by (own := [(Str.ofString "k", 6)]) (N := ["works", "shop", "script", "buying", "top", "low", "k", "spare"]) (sc := defScope s_law_made) (by decide +kernel)) (el_lc (own := [(Str.ofString "k", 6)]) (fun (x_2 : Int) => [.v (works : (T3 Int (List (T3 Int Int Int)) (List (T3 Int Int Int)))), .v (shop : (T2 (List (T3 Int Int Int)) (List (T3 Int Int Int)))), .v (script : (List Int)), .v (buying : (List (List Int))), .v (top_ : Int), .v (low_ : Int), .v (x_2 : Int), .any]) (fun (x_2 : Int) => (((buying.getD (0 : Int).toNat ([] : (List Int))).getD x_2.toNat (0 : Int)) * (bif (decide (works.a < (shop.a.getD x_2.toNat (T3.mk (0 : Int) (0 : Int) (0 : Int))).a)) then (1 : Int) else 0))) (iv_range1 T.z_range (ev_len T.z_len (ev_tixv 0 (shop.a) (ev_var 1 rfl))) (by have := hpre.1.na; have := hpre.1.nb; omega) (by have := hpre.1.na; have := hpre.1.nb; omega)) (fun _ _ _ _ _ x_2 => (tx_name 6 sc_law_made.nd)) (fun _ x_2 _ hx_2 _ _ _ _ _ => (ev_mul (ev_lixD (0 : Int) (ev_lixD ([] : (List Int)) (ev_var 3 rfl) ev_int (by first | decide | (have := iseq_mem hx; omega) | (have := iseq_mem hx_1; omega) | (have := iseq_mem hx_2; omega)) (by rw [hB.l]; decide)) (ev_var 6 rfl) (by first | decide | (have := iseq_mem hx; omega) | (have := iseq_mem hx_1; omega) | (have := iseq_mem hx_2; omega)) (by have := iseq_mem hx_2; have := hB.a; omega)) (ev_intB T.z_int (ev_gt (ev_tixv 0 ((shop.a.getD x_2.toNat (T3.mk (0 : Int) (0 : Int) (0 : Int))).a) (ev_lixD (T3.mk (0 : Int) (0 : Int) (0 : Int)) (ev_tixv 0 (shop.a) (ev_var 1 rfl)) (ev_var 6 rfl) (by first | decide | (have := iseq_mem hx; omega) | (have := iseq_mem hx_1; omega) | (have := iseq_mem hx_2; omega)) (by first | (have := iseq_mem hx; omega) | (have := iseq_mem hx_1; omega) | (have := iseq_mem hx_2; omega)))) (ev_tixv 0 (works.a) (ev_var 0 rfl)))) (.inr (bit_ok _)))) (by first | (rw [iseq_len]; have := hpre.1.na; have := hpre.1.nb; omega) | (rw [spares_len_2]; decide) | (rw [List.length_map, spares_len_2]; decide))))) ev_int (by rw [hB.l]; decide)) ?_
  intro buying_1 e_buying_1
  have hB1 : BL buying_1 shop.a.length shop.b.length := by { rw [e_buying_1]; exact hB.set0 (by rw [List.length_map, iseq_len]; omega) }
  refine bv_letS (fun (buying_2 : (List (List Int))) => [.v (works : (T3 Int (List (T3 Int Int Int)) (List (T3 Int Int Int)))), .v (shop : (T2 (List (T3 Int Int Int)) (List (T3 Int Int Int)))), .v (script : (List Int)), .o (MT.mk (buying_2 : (List (List Int)))), .v (top_ : Int), .v (low_ : Int), .any, .any]) (of := fun buying_2 => .rt (dt (let buying_3 : (List (List Int)) := (buying_2.set (1 : Int).toNat ((buying_2.getD (1 : Int).toNat []).set low_.toNat (0 : Int))); (let buying_4 : (List (List Int)) := (buying_3.set (0 : Int).toNat ((buying_3.getD (0 : Int).toNat []).set top_.toNat (maxL (([(0 : Int)] : List Int) ++ ((m_law_spares_2 works shop buying_3).map (fun (x_4 : Int) => ((0 : Int) - x_4))))))); (let buying_5 : (List (List Int)) := (buying_4.set (1 : Int).toNat ((buying_4.getD (1 : Int).toNat []).set low_.toNat ((m_law_spares_2 works shop buying_4).getD (0 : Int).toNat (0 : Int)))); (T2.mk (buying_5.getD (0 : Int).toNat ([] : (List Int))) (buying_5.getD (1 : Int).toNat ([] : (List Int))))))))) (x := (buying_1.set (0 : Int).toNat ((buying_1.getD (0 : Int).toNat []).set top_.toNat (0 : Int)))) (sv_setT 3 (ps_asg pe (pg_sub (pe_ix ix_list (pv 3) pe (fun _ _ => rfl)) pe set_list)) rfl ev_int ev_int (ev_var 4 rfl) (by rw [hB1.l]; decide) (by rw [hB1.a]; exact ht1)) ?_
  intro buying_2 e_buying_2
  have hB2 : BL buying_2 shop.a.length shop.b.length := by { rw [e_buying_2]; exact hB1.set0 ((List.length_set ..).trans hB1.a) }
  refine bv_letS (fun (buying_3 : (List (List Int))) => [.v (works : (T3 Int (List (T3 Int Int Int)) (List (T3 Int Int Int)))), .v (shop : (T2 (List (T3 Int Int Int)) (List (T3 Int Int Int)))), .v (script : (List Int)), .o (MT.mk (buying_3 : (List (List Int)))), .v (top_ : Int), .v (low_ : Int), .any, .any]) (of := fun buying_3 => .rt (dt (let buying_4 : (List (List Int)) := (buying_3.set (0 : Int).toNat ((buying_3.getD (0 : Int).toNat []).set top_.toNat (maxL (([(0 : Int)] : List Int) ++ ((m_law_spares_2 works shop buying_3).map (fun (x_4 : Int) => ((0 : Int) - x_4))))))); (let buying_5 : (List (List Int)) := (buying_4.set (1 : Int).toNat ((buying_4.getD (1 : Int).toNat []).set low_.toNat ((m_law_spares_2 works shop buying_4).getD (0 : Int).toNat (0 : Int)))); (T2.mk (buying_5.getD (0 : Int).toNat ([] : (List Int))) (buying_5.getD (1 : Int).toNat ([] : (List Int)))))))) (x := (buying_2.set (1 : Int).toNat ((buying_2.getD (1 : Int).toNat []).set low_.toNat (0 : Int)))) (sv_setT 3 (ps_asg pe (pg_sub (pe_ix ix_list (pv 3) pe (fun _ _ => rfl)) pe set_list)) rfl ev_int ev_int (ev_var 5 rfl) (by rw [hB2.l]; decide) (by rw [hB2.b]; exact hl1)) ?_
  intro buying_3 e_buying_3
  have hB3 : BL buying_3 shop.a.length shop.b.length := by { rw [e_buying_3]; exact hB2.set1 ((List.length_set ..).trans hB2.b) }
  refine bv_letS (fun (buying_4 : (List (List Int))) => [.v (works : (T3 Int (List (T3 Int Int Int)) (List (T3 Int Int Int)))), .v (shop : (T2 (List (T3 Int Int Int)) (List (T3 Int Int Int)))), .v (script : (List Int)), .o (MT.mk (buying_4 : (List (List Int)))), .v (top_ : Int), .v (low_ : Int), .any, .any]) (of := fun buying_4 => .rt (dt (let buying_5 : (List (List Int)) := (buying_4.set (1 : Int).toNat ((buying_4.getD (1 : Int).toNat []).set low_.toNat ((m_law_spares_2 works shop buying_4).getD (0 : Int).toNat (0 : Int)))); (T2.mk (buying_5.getD (0 : Int).toNat ([] : (List Int))) (buying_5.getD (1 : Int).toNat ([] : (List Int))))))) (x := (buying_3.set (0 : Int).toNat ((buying_3.getD (0 : Int).toNat []).set top_.toNat (maxL (([(0 : Int)] : List Int) ++ ((m_law_spares_2 works shop buying_3).map (fun (x_4 : Int) => ((0 : Int) - x_4)))))))) (sv_setT 3 (ps_asg pe (pg_sub (pe_ix ix_list (pv 3) pe (fun _ _ => rfl)) pe set_list)) rfl (ev_fz 3 rfl (ev_maxL rfl T.z_max (ev_new (en_catS (ev_new (en_lst (xs := ([(0 : Int)] : List Int)) (ea_cons ev_int ea_nil))) (ev_new (en_el rfl sc_law_made.nd (blkOk_by (own := [(Str.ofString "spare", 7)]) (N := ["works", "shop", "script", "buying", "top", "low", "k", "spare"]) (sc := defScope s_law_made) (by decide +kernel)) (el_lc (own := [(Str.ofString "spare", 7)]) (fun (x_4 : Int) => [.v (works : (T3 Int (List (T3 Int Int Int)) (List (T3 Int Int Int)))), .v (shop : (T2 (List (T3 Int Int Int)) (List (T3 Int Int Int)))), .v (script : (List Int)), .v (buying_3 : (List (List Int))), .v (top_ : Int), .v (low_ : Int), .any, .v (x_4 : Int)]) (fun (x_4 : Int) => ((0 : Int) - x_4)) (iv_list (ev_fn H_law_spares_2 hr (by decide) (ea_cons (ev_var 0 rfl) (ea_cons (ev_var 1 rfl) (ea_cons (ev_var 3 rfl) ea_nil))) ⟨_, _, _, rfl, (by first | exact ⟨hpre.1, hB3.l⟩ | exact ⟨hpre.1, hB4.l⟩), rfl⟩)) (fun _ _ _ _ _ x_4 => (tx_name 7 sc_law_made.nd)) (fun _ x_4 _ hx_4 _ _ _ _ _ => (ev_sub ev_int (ev_var 7 rfl))) (by first | (rw [iseq_len]; have := hpre.1.na; have := hpre.1.nb; omega) | (rw [spares_len_2]; decide) | (rw [List.length_map, spares_len_2]; decide))))) (by rw [List.length_map, spares_len_2]; decide))) (by rw [List.length_append]; simp only [List.length_cons]; omega))) ev_int (ev_var 4 rfl) (by rw [hB3.l]; decide) (by rw [hB3.a]; exact ht1)) ?_
  intro buying_4 e_buying_4
  have hB4 : BL buying_4 shop.a.length shop.b.length := by { rw [e_buying_4]; exact hB3.set0 ((List.length_set ..).trans hB3.a) }
  refine bv_letS (fun (buying_5 : (List (List Int))) => [.v (works : (T3 Int (List (T3 Int Int Int)) (List (T3 Int Int Int)))), .v (shop : (T2 (List (T3 Int Int Int)) (List (T3 Int Int Int)))), .v (script : (List Int)), .o (MT.mk (buying_5 : (List (List Int)))), .v (top_ : Int), .v (low_ : Int), .any, .any]) (of := fun buying_5 => .rt (dt (T2.mk (buying_5.getD (0 : Int).toNat ([] : (List Int))) (buying_5.getD (1 : Int).toNat ([] : (List Int)))))) (x := (buying_4.set (1 : Int).toNat ((buying_4.getD (1 : Int).toNat []).set low_.toNat ((m_law_spares_2 works shop buying_4).getD (0 : Int).toNat (0 : Int))))) (sv_setT 3 (ps_asg pe (pg_sub (pe_ix ix_list (pv 3) pe (fun _ _ => rfl)) pe set_list)) rfl (ev_fz 3 rfl (ev_lixD (0 : Int) (ev_fn H_law_spares_2 hr (by decide) (ea_cons (ev_var 0 rfl) (ea_cons (ev_var 1 rfl) (ea_cons (ev_var 3 rfl) ea_nil))) ⟨_, _, _, rfl, (by first | exact ⟨hpre.1, hB3.l⟩ | exact ⟨hpre.1, hB4.l⟩), rfl⟩) ev_int (by first | decide | (have := iseq_mem hx; omega) | (have := iseq_mem hx_1; omega) | (have := iseq_mem hx_2; omega)) (by rw [spares_len_2]; decide))) ev_int (ev_var 5 rfl) (by rw [hB4.l]; decide) (by rw [hB4.b]; exact hl1)) ?_
  intro buying_5 e_buying_5
  have hB5 : BL buying_5 shop.a.length shop.b.length := by { rw [e_buying_5]; exact hB4.set1 ((List.length_set ..).trans hB4.b) }
  refine bv_fz 3 rfl ?_
  show BV _ [.v (works : (T3 Int (List (T3 Int Int Int)) (List (T3 Int Int Int)))), .v (shop : (T2 (List (T3 Int Int Int)) (List (T3 Int Int Int)))), .v (script : (List Int)), .v (buying_5 : (List (List Int))), .v (top_ : Int), .v (low_ : Int), .any, .any] _ _
  exact bv_ret (ev_t2 (ea_cons (ev_lixD ([] : (List Int)) (ev_var 3 rfl) ev_int (by first | decide | (have := iseq_mem hx; omega) | (have := iseq_mem hx_1; omega) | (have := iseq_mem hx_2; omega)) (by rw [hB5.l]; decide)) (ea_cons (ev_lixD ([] : (List Int)) (ev_var 3 rfl) ev_int (by first | decide | (have := iseq_mem hx; omega) | (have := iseq_mem hx_1; omega) | (have := iseq_mem hx_2; omega)) (by rw [hB5.l]; decide)) ea_nil)))
/-! _law_offer -/
def m_law_offer (cell : Int) (least : Int) : (T3 Int Int Int) := (let kind : Int := (([(0 : Int), (0 : Int), (1 : Int), (2 : Int), (1 : Int), (2 : Int), (0 : Int), (3 : Int)] : List Int).getD ((m_law_stir cell (10 : Int)) % (8 : Int)).toNat (0 : Int)); (T3.mk (([least, ((least + (249 : Int)) - ((50 : Int) * ((1 : Int) - least))), (least + ((m_law_stir cell (5 : Int)) % ((200 : Int) + ((49 : Int) * least))))] : List Int).getD ((m_law_stir cell (6 : Int)) % (3 : Int)).toNat (0 : Int)) (([(0 : Int), ((m_law_stir cell (7 : Int)) % (9 : Int)), (1000000 : Int), ((m_law_stir cell (7 : Int)) % ((1000000 : Int) + (1 : Int)))] : List Int).getD ((m_law_stir cell (8 : Int)) % (4 : Int)).toNat (0 : Int)) (([(1000000000000000 : Int), ((m_law_stir cell (9 : Int)) % (3000 : Int)), (((m_law_stir cell (9 : Int)) * (1024 : Int)) % (1000000000000 : Int)), (0 : Int)] : List Int).getD kind.toNat (0 : Int))))

theorem kind_in (z : Int) : 0 ≤ ([(0 : Int), (0 : Int), (1 : Int), (2 : Int), (1 : Int), (2 : Int), (0 : Int), (3 : Int)] : List Int).getD (z % (8 : Int)).toNat (0 : Int) ∧ ([(0 : Int), (0 : Int), (1 : Int), (2 : Int), (1 : Int), (2 : Int), (0 : Int), (3 : Int)] : List Int).getD (z % (8 : Int)).toNat (0 : Int) < 4 := by
  have h : (z % 8).toNat = 0 ∨ (z % 8).toNat = 1 ∨ (z % 8).toNat = 2 ∨ (z % 8).toNat = 3 ∨ (z % 8).toNat = 4 ∨ (z % 8).toNat = 5 ∨ (z % 8).toNat = 6 ∨ (z % 8).toNat = 7 := by omega
  rcases h with e | e | e | e | e | e | e | e <;> rw [e] <;> decide
structure OffOk (lo hi : Int) (o : T3 Int Int Int) : Prop where
  d0 : lo ≤ o.a
  d1 : o.a ≤ hi
  p0 : 0 ≤ o.b
  p1 : o.b ≤ 1000000
  m0 : 0 ≤ o.c
  m1 : o.c ≤ 1000000000000000
theorem pick3 (P : Int → Prop) (z a b c : Int) (ha : P a) (hb : P b) (hc : P c) : P (([a, b, c] : List Int).getD (z % 3).toNat 0) := by
  have h : (z % 3).toNat = 0 ∨ (z % 3).toNat = 1 ∨ (z % 3).toNat = 2 := by omega
  rcases h with e | e | e <;> rw [e] <;> assumption
theorem pick4k (P : Int → Prop) (k a b c d : Int) (hk : 0 ≤ k ∧ k < 4) (ha : P a) (hb : P b) (hc : P c) (hd : P d) : P (([a, b, c, d] : List Int).getD k.toNat 0) := by
  have h : k.toNat = 0 ∨ k.toNat = 1 ∨ k.toNat = 2 ∨ k.toNat = 3 := by omega
  rcases h with e | e | e | e <;> rw [e] <;> assumption
theorem offer_ok (cell : Int) {least : Int} (h : least = 0 ∨ least = 1) : OffOk least (200 + 50 * least) (m_law_offer cell least) := by
  have h1 := pick3 (fun y => least ≤ y ∧ y ≤ 200 + 50 * least) (m_law_stir cell 6) least (least + 249 - 50 * (1 - least)) (least + m_law_stir cell 5 % (200 + 49 * least)) (by omega) (by omega) (by
    rcases h with e | e <;> subst e <;> omega)
  have h2 := pick4 (fun y => 0 ≤ y ∧ y ≤ 1000000) (m_law_stir cell 8) 0 (m_law_stir cell 7 % 9) 1000000 (m_law_stir cell 7 % (1000000 + 1)) (by omega) (by omega) (by omega) (by omega)
  have h3 := pick4k (fun y => 0 ≤ y ∧ y ≤ 1000000000000000) _ 1000000000000000 (m_law_stir cell 9 % 3000) (m_law_stir cell 9 * 1024 % 1000000000000) 0 (kind_in (m_law_stir cell 10)) (by omega) (by omega) (by omega) (by omega)
  exact ⟨h1.1, h1.2, h2.1, h2.2, h3.1, h3.2⟩

def r_law_offer (ds : List Dat) (d : Dat) : Prop := ∃ (cell : Int) (least : Int), ds = [dt cell, dt least] ∧ (least = 0 ∨ least = 1) ∧ d = dt (m_law_offer cell least)
abbrev s_law_offer : Stmt := topS 15
theorem sc_law_offer : FnScope ["cell", "least", "degree", "price", "most", "kind"] ["cell", "least"] (defScope s_law_offer) := ⟨rfl, rfl, rfl, by decide +kernel, rfl, by decide +kernel, by decide +kernel⟩
theorem ok_law_offer (T : Txt K mg) (H_law_stir : FnAt P w K mg base "_law_stir" 1 ["cell", "k"] r_law_stir) {f : Addr} {fd : FuncData} (F : Fun K "_law_offer" "_law_offer" s_law_offer f fd) : FnOk P w K mg base CX0 2 f fd ["cell", "least"] (PSp K r_law_offer) := by
  refine fn_pure F sc_law_offer (fun ds d h => by obtain ⟨_, _, rfl, _⟩ := h; rfl) fun cdv A outer s H E ds d hr h => ?_
  obtain ⟨cell, least, rfl, hpre, rfl⟩ := h
  refine bv_cons (sv_set 2 sc_law_offer.nd (ev_new (en_lst (xs := ([least, ((least + (249 : Int)) - ((50 : Int) * ((1 : Int) - least))), (least + ((m_law_stir cell (5 : Int)) % ((200 : Int) + ((49 : Int) * least))))] : List Int)) (ea_cons (ev_var 1 rfl) (ea_cons (ev_sub (ev_add (ev_var 1 rfl) ev_int) (ev_mul ev_int (ev_sub ev_int (ev_var 1 rfl)) (by first | exact .inr ⟨by decide, by decide⟩ | exact .inl ⟨by decide, by decide⟩ | exact .inl ⟨by omega, by omega⟩ | exact .inr ⟨by omega, by omega⟩))) (ea_cons (ev_add (ev_var 1 rfl) (ev_mod (ev_fn H_law_stir hr (by decide) (ea_cons (ev_var 0 rfl) (ea_cons ev_int ea_nil)) ⟨_, _, rfl, rfl⟩) (ev_add ev_int (ev_mul ev_int (ev_var 1 rfl) (by first | exact .inr ⟨by decide, by decide⟩ | exact .inl ⟨by decide, by decide⟩ | exact .inl ⟨by omega, by omega⟩ | exact .inr ⟨by omega, by omega⟩))) (by first | decide | omega | (split <;> omega)))) ea_nil)))))) ?_
  refine bv_cons (sv_set 3 sc_law_offer.nd (ev_new (en_lst (xs := ([(0 : Int), ((m_law_stir cell (7 : Int)) % (9 : Int)), (1000000 : Int), ((m_law_stir cell (7 : Int)) % ((1000000 : Int) + (1 : Int)))] : List Int)) (ea_cons ev_int (ea_cons (ev_mod (ev_fn H_law_stir hr (by decide) (ea_cons (ev_var 0 rfl) (ea_cons ev_int ea_nil)) ⟨_, _, rfl, rfl⟩) ev_int (by first | decide | omega | (split <;> omega))) (ea_cons (EV.is (y := (1000000 : Int)) (ev_pow (x := 10) (y := 6) ev_int ev_int ⟨by decide, by decide, by decide⟩) (by decide)) (ea_cons (ev_mod (ev_fn H_law_stir hr (by decide) (ea_cons (ev_var 0 rfl) (ea_cons ev_int ea_nil)) ⟨_, _, rfl, rfl⟩) (ev_add (EV.is (y := (1000000 : Int)) (ev_pow (x := 10) (y := 6) ev_int ev_int ⟨by decide, by decide, by decide⟩) (by decide)) ev_int) (by first | decide | omega | (split <;> omega))) ea_nil))))))) ?_
  refine bv_cons (sv_set 4 sc_law_offer.nd (ev_new (en_lst (xs := ([(1000000000000000 : Int), ((m_law_stir cell (9 : Int)) % (3000 : Int)), (((m_law_stir cell (9 : Int)) * (1024 : Int)) % (1000000000000 : Int)), (0 : Int)] : List Int)) (ea_cons (EV.is (y := (1000000000000000 : Int)) (ev_pow (x := 10) (y := 15) ev_int ev_int ⟨by decide, by decide, by decide⟩) (by decide)) (ea_cons (ev_mod (ev_fn H_law_stir hr (by decide) (ea_cons (ev_var 0 rfl) (ea_cons ev_int ea_nil)) ⟨_, _, rfl, rfl⟩) ev_int (by first | decide | omega | (split <;> omega))) (ea_cons (ev_mod (ev_mul (ev_fn H_law_stir hr (by decide) (ea_cons (ev_var 0 rfl) (ea_cons ev_int ea_nil)) ⟨_, _, rfl, rfl⟩) (EV.is (y := (1024 : Int)) (ev_pow (x := 2) (y := 10) ev_int ev_int ⟨by decide, by decide, by decide⟩) (by decide)) (by first | exact .inr ⟨by decide, by decide⟩ | exact .inl ⟨by decide, by decide⟩ | exact .inl ⟨by omega, by omega⟩ | exact .inr ⟨by omega, by omega⟩)) (EV.is (y := (1000000000000 : Int)) (ev_pow (x := 10) (y := 12) ev_int ev_int ⟨by decide, by decide, by decide⟩) (by decide)) (by first | decide | omega | (split <;> omega))) (ea_cons ev_int ea_nil))))))) ?_
  refine bv_let (of := fun kind => .rt (dt (T3.mk (([least, ((least + (249 : Int)) - ((50 : Int) * ((1 : Int) - least))), (least + ((m_law_stir cell (5 : Int)) % ((200 : Int) + ((49 : Int) * least))))] : List Int).getD ((m_law_stir cell (6 : Int)) % (3 : Int)).toNat (0 : Int)) (([(0 : Int), ((m_law_stir cell (7 : Int)) % (9 : Int)), (1000000 : Int), ((m_law_stir cell (7 : Int)) % ((1000000 : Int) + (1 : Int)))] : List Int).getD ((m_law_stir cell (8 : Int)) % (4 : Int)).toNat (0 : Int)) (([(1000000000000000 : Int), ((m_law_stir cell (9 : Int)) % (3000 : Int)), (((m_law_stir cell (9 : Int)) * (1024 : Int)) % (1000000000000 : Int)), (0 : Int)] : List Int).getD kind.toNat (0 : Int))))) (sv_set 5 sc_law_offer.nd (ev_lixD (0 : Int) (ev_new (en_lst (xs := ([(0 : Int), (0 : Int), (1 : Int), (2 : Int), (1 : Int), (2 : Int), (0 : Int), (3 : Int)] : List Int)) (ea_cons ev_int (ea_cons ev_int (ea_cons ev_int (ea_cons ev_int (ea_cons ev_int (ea_cons ev_int (ea_cons ev_int (ea_cons ev_int ea_nil)))))))))) (ev_mod (ev_fn H_law_stir hr (by decide) (ea_cons (ev_var 0 rfl) (ea_cons ev_int ea_nil)) ⟨_, _, rfl, rfl⟩) ev_int (by first | decide | omega | (split <;> omega))) (by omega) (by simp only [List.length_cons, List.length_nil, List.length_map, iseq_len]; omega))) ?_
  intro kind e_kind
  have hk : 0 ≤ kind ∧ kind < 4 := e_kind ▸ kind_in _
  exact bv_ret (ev_t3 (ea_cons (ev_lixD (0 : Int) (ev_var 2 rfl) (ev_mod (ev_fn H_law_stir hr (by decide) (ea_cons (ev_var 0 rfl) (ea_cons ev_int ea_nil)) ⟨_, _, rfl, rfl⟩) ev_int (by first | decide | omega | (split <;> omega))) (by omega) (by simp only [List.length_cons, List.length_nil, List.length_map, iseq_len]; omega)) (ea_cons (ev_lixD (0 : Int) (ev_var 3 rfl) (ev_mod (ev_fn H_law_stir hr (by decide) (ea_cons (ev_var 0 rfl) (ea_cons ev_int ea_nil)) ⟨_, _, rfl, rfl⟩) ev_int (by first | decide | omega | (split <;> omega))) (by omega) (by simp only [List.length_cons, List.length_nil, List.length_map, iseq_len]; omega)) (ea_cons (ev_lixD (0 : Int) (ev_var 4 rfl) (ev_var 5 rfl) (by omega) (by simp only [List.length_cons, List.length_nil]; omega)) ea_nil))))
/-! _law_shop -/
def m_law_shop_L1 (script : (List Int)) (s : (List (T3 Int Int Int))) (x : Int) : (List (T3 Int Int Int)) := (s ++ [(m_law_offer (((pySlice script (some ((13 : Int) + x)) (some (63 : Int)) (some (37 : Int))).sum + (200 : Int)) + x) (1 : Int))])
def m_law_shop_L2 (script : (List Int)) (s_1 : (List (T3 Int Int Int))) (x_1 : Int) : (List (T3 Int Int Int)) := (s_1 ++ [(m_law_offer (((pySlice script (some ((25 : Int) + x_1)) (some (63 : Int)) (some (37 : Int))).sum + (300 : Int)) + x_1) (0 : Int))])
def m_law_shop (script : (List Int)) : (T2 (List (T3 Int Int Int)) (List (T3 Int Int Int))) := (let head : Int := (pySlice script (some (0 : Int)) (some (63 : Int)) (some (37 : Int))).sum; (let fires : (List (T3 Int Int Int)) := ((iseq 0 ((m_law_stir head (5 : Int)) % (7 : Int)).toNat).foldl (m_law_shop_L1 script) ([] : (List (T3 Int Int Int)))); (let waters : (List (T3 Int Int Int)) := ((iseq 0 ((m_law_stir head (6 : Int)) % (7 : Int)).toNat).foldl (m_law_shop_L2 script) ([] : (List (T3 Int Int Int)))); (T2.mk fires waters))))

structure ShopOk (s : T2 (List (T3 Int Int Int)) (List (T3 Int Int Int))) : Prop where
  nf : s.a.length ≤ 6
  nw : s.b.length ≤ 6
  f : ∀ o ∈ s.a, OffOk 1 250 o
  w : ∀ o ∈ s.b, OffOk 0 200 o
theorem shop_ok (script : List Int) : ShopOk (m_law_shop script) := by
  unfold m_law_shop
  dsimp only
  generalize (pySlice script (some 0) (some 63) (some 37)).sum = head
  have hL1 : ∀ s x, ∃ y, m_law_shop_L1 script s x = s ++ [y] ∧ OffOk 1 250 y := fun s x => ⟨_, rfl, offer_ok _ (.inr rfl)⟩
  have hL2 : ∀ s x, ∃ y, m_law_shop_L2 script s x = s ++ [y] ∧ OffOk 0 200 y := fun s x => ⟨_, rfl, offer_ok _ (.inl rfl)⟩
  refine ⟨?_, ?_, foldl_app_all _ _ hL1 _ _ (by simp), foldl_app_all _ _ hL2 _ _ (by simp)⟩
  · dsimp only
    rw [foldl_app_len _ (fun s x => let ⟨y, e, _⟩ := hL1 s x; ⟨y, e⟩), iseq_len]
    simp; omega
  · dsimp only
    rw [foldl_app_len _ (fun s x => let ⟨y, e, _⟩ := hL2 s x; ⟨y, e⟩), iseq_len]
    simp; omega

def r_law_shop (ds : List Dat) (d : Dat) : Prop := ∃ (script : (List Int)), ds = [dt script] ∧ d = dt (m_law_shop script)
abbrev s_law_shop : Stmt := topS 16
theorem sc_law_shop : FnScope ["script", "head", "fires", "k", "waters"] ["script"] (defScope s_law_shop) := ⟨rfl, rfl, rfl, by decide +kernel, rfl, by decide +kernel, by decide +kernel⟩
theorem ok_law_shop (T : Txt K mg) (H_law_offer : FnAt P w K mg base "_law_offer" 2 ["cell", "least"] r_law_offer) (H_law_stir : FnAt P w K mg base "_law_stir" 1 ["cell", "k"] r_law_stir) {f : Addr} {fd : FuncData} (F : Fun K "_law_shop" "_law_shop" s_law_shop f fd) : FnOk P w K mg base CX0 3 f fd ["script"] (PSp K r_law_shop) := by
  refine fn_pure F sc_law_shop (fun ds d h => by obtain ⟨_, rfl, _⟩ := h; rfl) fun cdv A outer s H E ds d hr h => ?_
  obtain ⟨script, rfl, rfl⟩ := h
  refine bv_let (of := fun head => .rt (dt (let fires : (List (T3 Int Int Int)) := ((iseq 0 ((m_law_stir head (5 : Int)) % (7 : Int)).toNat).foldl (m_law_shop_L1 script) ([] : (List (T3 Int Int Int)))); (let waters : (List (T3 Int Int Int)) := ((iseq 0 ((m_law_stir head (6 : Int)) % (7 : Int)).toNat).foldl (m_law_shop_L2 script) ([] : (List (T3 Int Int Int)))); (T2.mk fires waters))))) (sv_set 1 sc_law_shop.nd (ev_sum rfl T.z_sum (ev_new (en_slice (ev_var 0 rfl) (eo_some ev_int) (eo_some ev_int) (eo_some ev_int) (by decide))))) ?_
  intro head e_head
  refine bv_cons (sv_own 2 sc_law_shop.nd (en_lst (xs := ([] : (List (T3 Int Int Int)))) ea_nil)) ?_
  refine bv_letS (fun (fires : (List (T3 Int Int Int))) => [.v (script : (List Int)), .v (head : Int), .l (fires : (List (T3 Int Int Int))), .any, .any]) (of := fun fires => .rt (dt (let waters : (List (T3 Int Int Int)) := ((iseq 0 ((m_law_stir head (6 : Int)) % (7 : Int)).toNat).foldl (m_law_shop_L2 script) ([] : (List (T3 Int Int Int)))); (T2.mk fires waters)))) (x := ((iseq 0 ((m_law_stir head (5 : Int)) % (7 : Int)).toNat).foldl (m_law_shop_L1 script) ([] : (List (T3 Int Int Int))))) ?_ ?_
  · refine sv_forI (fun (s : (List (T3 Int Int Int))) => [.v (script : (List Int)), .v (head : Int), .l (s : (List (T3 Int Int Int))), .any, .any]) ([] : (List (T3 Int Int Int))) (m_law_shop_L1 script) (fun (pre : List Int) (s : (List (T3 Int Int Int))) => s.length ≤ ([] : (List (T3 Int Int Int))).length + pre.length) (iv_range1 T.z_range (ev_mod (ev_fn H_law_stir hr (by decide) (ea_cons (ev_var 1 rfl) (ea_cons ev_int ea_nil)) ⟨_, _, rfl, rfl⟩) ev_int (by first | decide | omega | (split <;> omega))) (by omega) (by omega)) (.eq (.eq (.eq (.any (.any .nil))))) (fun (s : (List (T3 Int Int Int))) (x : Int) => [.v (script : (List Int)), .v (head : Int), .l (s : (List (T3 Int Int Int))), .v (x : Int), .any]) (fun s x => (tv_name 3 sc_law_shop.nd)) (by simp) (by intro pre x s _ h; simp only [m_law_shop_L1, List.length_append, List.length_cons, List.length_nil] at h ⊢; omega) ?_ PassesOwn.never
    · intro pre x post s hx hs hI
      refine bv_cons (sv_app 2 (pe_bm PySem.F.plainAttrs_list PySem.F.slot_list_append PySem.F.type_list_append mt_append (pv 2) (pa_cons pe pa_nil)) rfl (ev_fn H_law_offer hr (by decide) (ea_cons (ev_add (ev_add (ev_sum rfl T.z_sum (ev_new (en_slice (ev_var 0 rfl) (eo_some (ev_add ev_int (ev_var 3 rfl))) (eo_some ev_int) (eo_some ev_int) (by decide)))) ev_int) (ev_var 3 rfl)) (ea_cons ev_int ea_nil)) ⟨_, _, rfl, (by decide), rfl⟩) (by have hl0 := congrArg List.length hx; first | omega | (simp only [List.length_cons, List.length_nil, List.length_map, List.length_append, iseq_len] at *; omega))) ?_
      exact .nxs bv_nil (.eq (.eq (.eq (.any (.any .nil)))))
  intro fires e_fires
  refine bv_cons (sv_own 4 sc_law_shop.nd (en_lst (xs := ([] : (List (T3 Int Int Int)))) ea_nil)) ?_
  refine bv_letS (fun (waters : (List (T3 Int Int Int))) => [.v (script : (List Int)), .v (head : Int), .l (fires : (List (T3 Int Int Int))), .any, .l (waters : (List (T3 Int Int Int)))]) (of := fun waters => .rt (dt (T2.mk fires waters))) (x := ((iseq 0 ((m_law_stir head (6 : Int)) % (7 : Int)).toNat).foldl (m_law_shop_L2 script) ([] : (List (T3 Int Int Int))))) ?_ ?_
  · refine sv_forI (fun (s_1 : (List (T3 Int Int Int))) => [.v (script : (List Int)), .v (head : Int), .l (fires : (List (T3 Int Int Int))), .any, .l (s_1 : (List (T3 Int Int Int)))]) ([] : (List (T3 Int Int Int))) (m_law_shop_L2 script) (fun (pre : List Int) (s_1 : (List (T3 Int Int Int))) => s_1.length ≤ ([] : (List (T3 Int Int Int))).length + pre.length) (iv_range1 T.z_range (ev_mod (ev_fn H_law_stir hr (by decide) (ea_cons (ev_var 1 rfl) (ea_cons ev_int ea_nil)) ⟨_, _, rfl, rfl⟩) ev_int (by first | decide | omega | (split <;> omega))) (by omega) (by omega)) (.eq (.eq (.eq (.any (.eq .nil))))) (fun (s_1 : (List (T3 Int Int Int))) (x_1 : Int) => [.v (script : (List Int)), .v (head : Int), .l (fires : (List (T3 Int Int Int))), .v (x_1 : Int), .l (s_1 : (List (T3 Int Int Int)))]) (fun s_1 x_1 => (tv_name 3 sc_law_shop.nd)) (by simp) (by intro pre x s _ h; simp only [m_law_shop_L2, List.length_append, List.length_cons, List.length_nil] at h ⊢; omega) ?_ PassesOwn.never
    · intro pre x_1 post s_1 hx_1 hs_1 hI_1
      refine bv_cons (sv_app 4 (pe_bm PySem.F.plainAttrs_list PySem.F.slot_list_append PySem.F.type_list_append mt_append (pv 4) (pa_cons pe pa_nil)) rfl (ev_fn H_law_offer hr (by decide) (ea_cons (ev_add (ev_add (ev_sum rfl T.z_sum (ev_new (en_slice (ev_var 0 rfl) (eo_some (ev_add ev_int (ev_var 3 rfl))) (eo_some ev_int) (eo_some ev_int) (by decide)))) ev_int) (ev_var 3 rfl)) (ea_cons ev_int ea_nil)) ⟨_, _, rfl, (by decide), rfl⟩) (by have hl0 := congrArg List.length hx_1; first | omega | (simp only [List.length_cons, List.length_nil, List.length_map, List.length_append, iseq_len] at *; omega))) ?_
      exact .nxs bv_nil (.eq (.eq (.eq (.any (.eq .nil)))))
  intro waters e_waters
  refine bv_frz 2 rfl ?_
  refine bv_frz 4 rfl ?_
  exact bv_ret (ev_t2 (ea_cons (ev_var 2 rfl) (ea_cons (ev_var 4 rfl) ea_nil)))
/-! fire_level -/
def m_fire_level (fire : (T3 Int Int Int)) : Int := (fire.a - (1 : Int))
def r_fire_level (ds : List Dat) (d : Dat) : Prop := ∃ (fire : (T3 Int Int Int)), ds = [dt fire] ∧ d = dt (m_fire_level fire)
abbrev s_fire_level : Stmt := topS 5
theorem sc_fire_level : FnScope ["fire"] ["fire"] (defScope s_fire_level) := ⟨rfl, rfl, rfl, by decide +kernel, rfl, by decide +kernel, by decide +kernel⟩
theorem ok_fire_level (T : Txt K mg)  {f : Addr} {fd : FuncData} (F : Fun K "fire_level" "fire_level" s_fire_level f fd) : FnOk P w K mg base CX0 1 f fd ["fire"] (PSp K r_fire_level) := by
  refine fn_pure F sc_fire_level (fun ds d h => by obtain ⟨_, rfl, _⟩ := h; rfl) fun cdv A outer s H E ds d hr h => ?_
  obtain ⟨fire, rfl, rfl⟩ := h
  exact bv_ret (ev_sub (ev_tixv 0 (fire.a) (ev_var 0 rfl)) ev_int)
/-! water_level -/
def m_water_level (works : (T3 Int (List (T3 Int Int Int)) (List (T3 Int Int Int)))) (water : (T3 Int Int Int)) : Int := (water.a + works.a)
def r_water_level (ds : List Dat) (d : Dat) : Prop := ∃ (works : (T3 Int (List (T3 Int Int Int)) (List (T3 Int Int Int)))) (water : (T3 Int Int Int)), ds = [dt works, dt water] ∧ d = dt (m_water_level works water)
abbrev s_water_level : Stmt := topS 6
theorem sc_water_level : FnScope ["works", "water"] ["works", "water"] (defScope s_water_level) := ⟨rfl, rfl, rfl, by decide +kernel, rfl, by decide +kernel, by decide +kernel⟩
theorem ok_water_level (T : Txt K mg)  {f : Addr} {fd : FuncData} (F : Fun K "water_level" "water_level" s_water_level f fd) : FnOk P w K mg base CX0 1 f fd ["works", "water"] (PSp K r_water_level) := by
  refine fn_pure F sc_water_level (fun ds d h => by obtain ⟨_, _, rfl, _⟩ := h; rfl) fun cdv A outer s H E ds d hr h => ?_
  obtain ⟨works, water, rfl, rfl⟩ := h
  exact bv_ret (ev_add (ev_tixv 0 (water.a) (ev_var 1 rfl)) (ev_tixv 0 (works.a) (ev_var 0 rfl)))
/-! offered -/
def m_offered_L1  (s : (List (Int × Bool))) (x : (T3 Int Int Int)) : (List (Int × Bool)) := (dput s (m_fire_level x) true)
def m_offered_L2 (works : (T3 Int (List (T3 Int Int Int)) (List (T3 Int Int Int)))) (s_1 : (List (Int × Bool))) (x_1 : (T3 Int Int Int)) : (List (Int × Bool)) := (dput s_1 (m_water_level works x_1) true)
def m_offered (works : (T3 Int (List (T3 Int Int Int)) (List (T3 Int Int Int)))) (shop : (T2 (List (T3 Int Int Int)) (List (T3 Int Int Int)))) : (List Int) := (let found : (List (Int × Bool)) := (shop.a.foldl m_offered_L1 ([] : List (Int × Bool))); (let found_1 : (List (Int × Bool)) := (shop.b.foldl (m_offered_L2 works) found); (sortD (found_1.map (·.1)))))

theorem offered_L1_len : ∀ (xs : List (T3 Int Int Int)) (s : List (Int × Bool)), (xs.foldl m_offered_L1 s).length ≤ s.length + xs.length
  | [], s => Nat.le_refl _
  | x :: r, s => by
    have h := offered_L1_len r (m_offered_L1 s x)
    have h2 : (m_offered_L1 s x).length ≤ s.length + 1 := dput_len s _ true
    rw [List.foldl_cons, List.length_cons]
    omega
theorem offered_L2_len (works : T3 Int (List (T3 Int Int Int)) (List (T3 Int Int Int))) : ∀ (xs : List (T3 Int Int Int)) (s : List (Int × Bool)), (xs.foldl (m_offered_L2 works) s).length ≤ s.length + xs.length
  | [], s => Nat.le_refl _
  | x :: r, s => by
    have h := offered_L2_len works r (m_offered_L2 works s x)
    have h2 : (m_offered_L2 works s x).length ≤ s.length + 1 := dput_len s _ true
    rw [List.foldl_cons, List.length_cons]
    omega
theorem offered_len {works : T3 Int (List (T3 Int Int Int)) (List (T3 Int Int Int))} {shop : T2 (List (T3 Int Int Int)) (List (T3 Int Int Int))} (h : shop.a.length ≤ 1000 ∧ shop.b.length ≤ 1000) : (m_offered works shop).length ≤ 2000 := by
  unfold m_offered
  dsimp only
  rw [(sortD_perm _).length_eq, List.length_map]
  have h1 := offered_L1_len shop.a []
  have h2 := offered_L2_len works shop.b (shop.a.foldl m_offered_L1 [])
  simp only [List.length_nil] at h1
  omega

def r_offered (ds : List Dat) (d : Dat) : Prop := ∃ (works : (T3 Int (List (T3 Int Int Int)) (List (T3 Int Int Int)))) (shop : (T2 (List (T3 Int Int Int)) (List (T3 Int Int Int)))), ds = [dt works, dt shop] ∧ (shop.a.length ≤ 1000 ∧ shop.b.length ≤ 1000) ∧ d = dt (m_offered works shop)
abbrev s_offered : Stmt := topS 7
theorem sc_offered : FnScope ["works", "shop", "found", "fire", "water"] ["works", "shop"] (defScope s_offered) := ⟨rfl, rfl, rfl, by decide +kernel, rfl, by decide +kernel, by decide +kernel⟩
theorem ok_offered (T : Txt K mg) (H_fire_level : FnAt P w K mg base "fire_level" 1 ["fire"] r_fire_level) (H_water_level : FnAt P w K mg base "water_level" 1 ["works", "water"] r_water_level) {f : Addr} {fd : FuncData} (F : Fun K "offered" "offered" s_offered f fd) : FnOk P w K mg base CX0 2 f fd ["works", "shop"] (PSp K r_offered) := by
  refine fn_pure F sc_offered (fun ds d h => by obtain ⟨_, _, rfl, _⟩ := h; rfl) fun cdv A outer s H E ds d hr h => ?_
  obtain ⟨works, shop, rfl, hpre, rfl⟩ := h
  refine bv_cons (sv_own 2 sc_offered.nd (en_dict0 (β := Bool))) ?_
  refine bv_letS (fun (found : (List (Int × Bool))) => [.v (works : (T3 Int (List (T3 Int Int Int)) (List (T3 Int Int Int)))), .v (shop : (T2 (List (T3 Int Int Int)) (List (T3 Int Int Int)))), .o (MD.mk (found : (List (Int × Bool)))), .any, .any]) (of := fun found => .rt (dt (let found_1 : (List (Int × Bool)) := (shop.b.foldl (m_offered_L2 works) found); (sortD (found_1.map (·.1)))))) (x := (shop.a.foldl m_offered_L1 ([] : List (Int × Bool)))) ?_ ?_
  · refine sv_forI (fun (s : (List (Int × Bool))) => [.v (works : (T3 Int (List (T3 Int Int Int)) (List (T3 Int Int Int)))), .v (shop : (T2 (List (T3 Int Int Int)) (List (T3 Int Int Int)))), .o (MD.mk (s : (List (Int × Bool)))), .any, .any]) ([] : List (Int × Bool)) m_offered_L1 (fun (pre : List (T3 Int Int Int)) (s : (List (Int × Bool))) => s.length ≤ pre.length) (iv_list (ev_tixv 0 (shop.a) (ev_var 1 rfl))) (.eq (.eq (.eq (.any (.any .nil))))) (fun (s : (List (Int × Bool))) (x : (T3 Int Int Int)) => [.v (works : (T3 Int (List (T3 Int Int Int)) (List (T3 Int Int Int)))), .v (shop : (T2 (List (T3 Int Int Int)) (List (T3 Int Int Int)))), .o (MD.mk (s : (List (Int × Bool)))), .v (x : (T3 Int Int Int)), .any]) (fun s x => (tv_name 3 sc_offered.nd)) (by simp) (fun pre x s _ h => by have := dput_len s (m_fire_level x) true; show (dput s (m_fire_level x) true).length ≤ _; simp only [List.length_append, List.length_cons, List.length_nil]; omega) ?_ PassesOwn.never
    · intro pre x post s hx hs hI
      refine bv_cons (sv_dput 2 (ps_dput (hu_of hr) (pv 2) pe pe rfl) rfl ev_bl (ev_fn H_fire_level hr (by decide) (ea_cons (ev_var 3 rfl) ea_nil) ⟨_, rfl, rfl⟩) (by have hl := congrArg List.length hx; simp only [List.length_append, List.length_cons] at hl; have hl : shop.a.length = _ := hl; omega)) ?_
      exact .nxs bv_nil (.eq (.eq (.eq (.any (.any .nil)))))
  intro found e_found
  refine bv_letS (fun (found_1 : (List (Int × Bool))) => [.v (works : (T3 Int (List (T3 Int Int Int)) (List (T3 Int Int Int)))), .v (shop : (T2 (List (T3 Int Int Int)) (List (T3 Int Int Int)))), .o (MD.mk (found_1 : (List (Int × Bool)))), .any, .any]) (of := fun found_1 => .rt (dt (sortD (found_1.map (·.1))))) (x := (shop.b.foldl (m_offered_L2 works) found)) ?_ ?_
  · refine sv_forI (fun (s_1 : (List (Int × Bool))) => [.v (works : (T3 Int (List (T3 Int Int Int)) (List (T3 Int Int Int)))), .v (shop : (T2 (List (T3 Int Int Int)) (List (T3 Int Int Int)))), .o (MD.mk (s_1 : (List (Int × Bool)))), .any, .any]) found (m_offered_L2 works) (fun (pre : List (T3 Int Int Int)) (s_1 : (List (Int × Bool))) => s_1.length ≤ 1000 + pre.length) (iv_list (ev_tixv 1 (shop.b) (ev_var 1 rfl))) (.eq (.eq (.eq (.any (.any .nil))))) (fun (s_1 : (List (Int × Bool))) (x_1 : (T3 Int Int Int)) => [.v (works : (T3 Int (List (T3 Int Int Int)) (List (T3 Int Int Int)))), .v (shop : (T2 (List (T3 Int Int Int)) (List (T3 Int Int Int)))), .o (MD.mk (s_1 : (List (Int × Bool)))), .any, .v (x_1 : (T3 Int Int Int))]) (fun s_1 x_1 => (tv_name 4 sc_offered.nd)) (by have := offered_L1_len shop.a []; rw [← e_found] at this; simp only [List.length_nil] at *; omega) (fun pre x s _ h => by have := dput_len s (m_water_level works x) true; show (dput s (m_water_level works x) true).length ≤ _; simp only [List.length_append, List.length_cons, List.length_nil]; omega) ?_ PassesOwn.never
    · intro pre x_1 post s_1 hx_1 hs_1 hI_1
      refine bv_cons (sv_dput 2 (ps_dput (hu_of hr) (pv 2) pe pe rfl) rfl ev_bl (ev_fn H_water_level hr (by decide) (ea_cons (ev_var 0 rfl) (ea_cons (ev_var 4 rfl) ea_nil)) ⟨_, _, rfl, rfl⟩) (by have hl := congrArg List.length hx_1; simp only [List.length_append, List.length_cons] at hl; have hl : shop.b.length = _ := hl; omega)) ?_
      exact .nxs bv_nil (.eq (.eq (.eq (.any (.any .nil)))))
  intro found_1 e_found_1
  refine bv_fz 2 rfl ?_
  exact bv_ret (ev_new (en_sortedRD rfl T.z_sorted (ev_var 2 rfl) (pe_callBK (cr_sortedRevDI rfl) (by rfl) T.z_sorted (by decide +kernel) (pa_cons pe pa_nil) (pk_cons pe_bl pk_nil))))
/-! bought_above -/
def m_bought_above_L1 (level : Int) (s : Int) (x : (T2 (T3 Int Int Int) Int)) : Int := (let b := (decide (level ≤ (m_fire_level x.a))); (bif b then (s + x.b) else s))
def m_bought_above_L2 (works : (T3 Int (List (T3 Int Int Int)) (List (T3 Int Int Int)))) (level : Int) (s_1 : Int) (x_1 : (T2 (T3 Int Int Int) Int)) : Int := (let b_1 := (decide (level ≤ (m_water_level works x_1.a))); (bif b_1 then (s_1 - x_1.b) else s_1))
def m_bought_above (works : (T3 Int (List (T3 Int Int Int)) (List (T3 Int Int Int)))) (shop : (T2 (List (T3 Int Int Int)) (List (T3 Int Int Int)))) (buying : (T2 (List Int) (List Int))) (level : Int) : Int := (let found : Int := ((zipL shop.a buying.a).foldl (m_bought_above_L1 level) (0 : Int)); (let found_1 : Int := ((zipL shop.b buying.b).foldl (m_bought_above_L2 works level) found); found_1))
def r_bought_above (ds : List Dat) (d : Dat) : Prop := ∃ (works : (T3 Int (List (T3 Int Int Int)) (List (T3 Int Int Int)))) (shop : (T2 (List (T3 Int Int Int)) (List (T3 Int Int Int)))) (buying : (T2 (List Int) (List Int))) (level : Int), ds = [dt works, dt shop, dt buying, dt level] ∧ d = dt (m_bought_above works shop buying level)
abbrev s_bought_above : Stmt := topS 9
theorem sc_bought_above : FnScope ["works", "shop", "buying", "level", "found", "fire", "amount", "water"] ["works", "shop", "buying", "level"] (defScope s_bought_above) := ⟨rfl, rfl, rfl, by decide +kernel, rfl, by decide +kernel, by decide +kernel⟩
theorem ok_bought_above (T : Txt K mg) (H_fire_level : FnAt P w K mg base "fire_level" 1 ["fire"] r_fire_level) (H_water_level : FnAt P w K mg base "water_level" 1 ["works", "water"] r_water_level) {f : Addr} {fd : FuncData} (F : Fun K "bought_above" "bought_above" s_bought_above f fd) : FnOk P w K mg base CX0 2 f fd ["works", "shop", "buying", "level"] (PSp K r_bought_above) := by
  refine fn_pure F sc_bought_above (fun ds d h => by obtain ⟨_, _, _, _, rfl, _⟩ := h; rfl) fun cdv A outer s H E ds d hr h => ?_
  obtain ⟨works, shop, buying, level, rfl, rfl⟩ := h
  refine bv_cons (sv_set 4 sc_bought_above.nd ev_int) ?_
  refine bv_letS (fun (found : Int) => [.v (works : (T3 Int (List (T3 Int Int Int)) (List (T3 Int Int Int)))), .v (shop : (T2 (List (T3 Int Int Int)) (List (T3 Int Int Int)))), .v (buying : (T2 (List Int) (List Int))), .v (level : Int), .v (found : Int), .any, .any, .any]) (of := fun found => .rt (dt (let found_1 : Int := ((zipL shop.b buying.b).foldl (m_bought_above_L2 works level) found); found_1))) (x := ((zipL shop.a buying.a).foldl (m_bought_above_L1 level) (0 : Int))) ?_ ?_
  · refine sv_for (fun (s : Int) => [.v (works : (T3 Int (List (T3 Int Int Int)) (List (T3 Int Int Int)))), .v (shop : (T2 (List (T3 Int Int Int)) (List (T3 Int Int Int)))), .v (buying : (T2 (List Int) (List Int))), .v (level : Int), .v (s : Int), .any, .any, .any]) (0 : Int) (m_bought_above_L1 level) (iv_zip T.z_zip (ev_tixv 0 (shop.a) (ev_var 1 rfl)) (ev_tixv 0 (buying.a) (ev_var 2 rfl))) (.eq (.eq (.eq (.eq (.eq (.any (.any (.any .nil)))))))) (fun (s : Int) (x : (T2 (T3 Int Int Int) Int)) => [.v (works : (T3 Int (List (T3 Int Int Int)) (List (T3 Int Int Int)))), .v (shop : (T2 (List (T3 Int Int Int)) (List (T3 Int Int Int)))), .v (buying : (T2 (List Int) (List Int))), .v (level : Int), .v (s : Int), .v (x.a : (T3 Int Int Int)), .v (x.b : Int), .any]) (fun s x => (tv_tup (tvs_cons (tv_name 5 sc_bought_above.nd) (tvs_cons (tv_name 6 sc_bought_above.nd) tvs_nil)))) ?_ PassesOwn.never
    · intro pre x post s hx hs
      refine bv_ifj (Γf := fun b => [.v (works : (T3 Int (List (T3 Int Int Int)) (List (T3 Int Int Int)))), .v (shop : (T2 (List (T3 Int Int Int)) (List (T3 Int Int Int)))), .v (buying : (T2 (List Int) (List Int))), .v (level : Int), .v ((bif b then (s + x.b) else s) : Int), .v (x.a : (T3 Int Int Int)), .v (x.b : Int), .any]) (of := fun b => .nx ((fun (s : Int) => [.v (works : (T3 Int (List (T3 Int Int Int)) (List (T3 Int Int Int)))), .v (shop : (T2 (List (T3 Int Int Int)) (List (T3 Int Int Int)))), .v (buying : (T2 (List Int) (List Int))), .v (level : Int), .v (s : Int), .any, .any, .any]) (bif b then (s + x.b) else s))) (et_ge (ev_fn H_fire_level hr (by decide) (ea_cons (ev_var 5 rfl) ea_nil) ⟨_, rfl, rfl⟩) (ev_var 3 rfl)) ?_ ?_ ?_
      · intro hc
        refine bv_cons (sv_aug 4 sc_bought_above.nd ip_add rfl (ev_var 6 rfl)) ?_
        exact .nxs bv_nil (.eq (.eq (.eq (.eq (.eq (.eq (.eq (.any .nil))))))))
      · intro hc
        exact .nxs bv_nil (.eq (.eq (.eq (.eq (.eq (.eq (.eq (.any .nil))))))))
      intro b e_b
      exact .nxs bv_nil (.eq (.eq (.eq (.eq (.eq (.any (.any (.any .nil))))))))
  intro found e_found
  refine bv_letS (fun (found_1 : Int) => [.v (works : (T3 Int (List (T3 Int Int Int)) (List (T3 Int Int Int)))), .v (shop : (T2 (List (T3 Int Int Int)) (List (T3 Int Int Int)))), .v (buying : (T2 (List Int) (List Int))), .v (level : Int), .v (found_1 : Int), .any, .any, .any]) (of := fun found_1 => .rt (dt found_1)) (x := ((zipL shop.b buying.b).foldl (m_bought_above_L2 works level) found)) ?_ ?_
  · refine sv_for (fun (s_1 : Int) => [.v (works : (T3 Int (List (T3 Int Int Int)) (List (T3 Int Int Int)))), .v (shop : (T2 (List (T3 Int Int Int)) (List (T3 Int Int Int)))), .v (buying : (T2 (List Int) (List Int))), .v (level : Int), .v (s_1 : Int), .any, .any, .any]) found (m_bought_above_L2 works level) (iv_zip T.z_zip (ev_tixv 1 (shop.b) (ev_var 1 rfl)) (ev_tixv 1 (buying.b) (ev_var 2 rfl))) (.eq (.eq (.eq (.eq (.eq (.any (.any (.any .nil)))))))) (fun (s_1 : Int) (x_1 : (T2 (T3 Int Int Int) Int)) => [.v (works : (T3 Int (List (T3 Int Int Int)) (List (T3 Int Int Int)))), .v (shop : (T2 (List (T3 Int Int Int)) (List (T3 Int Int Int)))), .v (buying : (T2 (List Int) (List Int))), .v (level : Int), .v (s_1 : Int), .any, .v (x_1.b : Int), .v (x_1.a : (T3 Int Int Int))]) (fun s_1 x_1 => (tv_tup (tvs_cons (tv_name 7 sc_bought_above.nd) (tvs_cons (tv_name 6 sc_bought_above.nd) tvs_nil)))) ?_ PassesOwn.never
    · intro pre x_1 post s_1 hx_1 hs_1
      refine bv_ifj (Γf := fun b_1 => [.v (works : (T3 Int (List (T3 Int Int Int)) (List (T3 Int Int Int)))), .v (shop : (T2 (List (T3 Int Int Int)) (List (T3 Int Int Int)))), .v (buying : (T2 (List Int) (List Int))), .v (level : Int), .v ((bif b_1 then (s_1 - x_1.b) else s_1) : Int), .any, .v (x_1.b : Int), .v (x_1.a : (T3 Int Int Int))]) (of := fun b_1 => .nx ((fun (s_1 : Int) => [.v (works : (T3 Int (List (T3 Int Int Int)) (List (T3 Int Int Int)))), .v (shop : (T2 (List (T3 Int Int Int)) (List (T3 Int Int Int)))), .v (buying : (T2 (List Int) (List Int))), .v (level : Int), .v (s_1 : Int), .any, .any, .any]) (bif b_1 then (s_1 - x_1.b) else s_1))) (et_ge (ev_fn H_water_level hr (by decide) (ea_cons (ev_var 0 rfl) (ea_cons (ev_var 7 rfl) ea_nil)) ⟨_, _, rfl, rfl⟩) (ev_var 3 rfl)) ?_ ?_ ?_
      · intro hc_1
        refine bv_cons (sv_aug 4 sc_bought_above.nd ip_sub rfl (ev_var 6 rfl)) ?_
        exact .nxs bv_nil (.eq (.eq (.eq (.eq (.eq (.any (.eq (.eq .nil))))))))
      · intro hc_1
        exact .nxs bv_nil (.eq (.eq (.eq (.eq (.eq (.any (.eq (.eq .nil))))))))
      intro b_1 e_b_1
      exact .nxs bv_nil (.eq (.eq (.eq (.eq (.eq (.any (.any (.any .nil))))))))
  intro found_1 e_found_1
  exact bv_ret (ev_var 4 rfl)
/-! heat_above -/
def m_heat_above_L1 (step : Int) (s : Int) (x : (T3 Int Int Int)) : Int := (s + (x.c * (max (0 : Int) ((max x.a x.b) - (max step (min x.a x.b))))))
def m_heat_above (streams : (List (T3 Int Int Int))) (step : Int) : Int := (let found : Int := (streams.foldl (m_heat_above_L1 step) (0 : Int)); found)
def r_heat_above (ds : List Dat) (d : Dat) : Prop := ∃ (streams : (List (T3 Int Int Int))) (step : Int), ds = [dt streams, dt step] ∧ (RatesOk streams) ∧ d = dt (m_heat_above streams step)
abbrev s_heat_above : Stmt := topS 1
theorem sc_heat_above : FnScope ["streams", "step", "found", "start", "goal", "rate"] ["streams", "step"] (defScope s_heat_above) := ⟨rfl, rfl, rfl, by decide +kernel, rfl, by decide +kernel, by decide +kernel⟩
theorem ok_heat_above (T : Txt K mg)  {f : Addr} {fd : FuncData} (F : Fun K "heat_above" "heat_above" s_heat_above f fd) : FnOk P w K mg base CX0 1 f fd ["streams", "step"] (PSp K r_heat_above) := by
  refine fn_pure F sc_heat_above (fun ds d h => by obtain ⟨_, _, rfl, _⟩ := h; rfl) fun cdv A outer s H E ds d hr h => ?_
  obtain ⟨streams, step, rfl, hpre, rfl⟩ := h
  refine bv_cons (sv_set 2 sc_heat_above.nd ev_int) ?_
  refine bv_letS (fun (found : Int) => [.v (streams : (List (T3 Int Int Int))), .v (step : Int), .v (found : Int), .any, .any, .any]) (of := fun found => .rt (dt found)) (x := (streams.foldl (m_heat_above_L1 step) (0 : Int))) ?_ ?_
  · refine sv_for (fun (s : Int) => [.v (streams : (List (T3 Int Int Int))), .v (step : Int), .v (s : Int), .any, .any, .any]) (0 : Int) (m_heat_above_L1 step) (iv_list (ev_var 0 rfl)) (.eq (.eq (.eq (.any (.any (.any .nil)))))) (fun (s : Int) (x : (T3 Int Int Int)) => [.v (streams : (List (T3 Int Int Int))), .v (step : Int), .v (s : Int), .v (x.a : Int), .v (x.b : Int), .v (x.c : Int)]) (fun s x => (tv_tup (tvs_cons (tv_name 3 sc_heat_above.nd) (tvs_cons (tv_name 4 sc_heat_above.nd) (tvs_cons (tv_name 5 sc_heat_above.nd) tvs_nil))))) ?_ PassesOwn.never
    · intro pre x post s hx hs
      refine bv_cons (sv_aug 2 sc_heat_above.nd ip_add rfl (ev_mul (ev_var 5 rfl) (ev_max2 rfl T.z_max ev_int (ev_sub (ev_max2 rfl T.z_max (ev_var 3 rfl) (ev_var 4 rfl)) (ev_max2 rfl T.z_max (ev_var 1 rfl) (ev_min2 rfl T.z_min (ev_var 3 rfl) (ev_var 4 rfl))))) (.inl (by have h := hpre x (by rw [hx]; simp); omega)))) ?_
      exact .nxs bv_nil (.eq (.eq (.eq (.any (.any (.any .nil))))))
  intro found e_found
  exact bv_ret (ev_var 2 rfl)
/-! lack_above -/
def m_lack_above (works : (T3 Int (List (T3 Int Int Int)) (List (T3 Int Int Int)))) (level : Int) : Int := ((m_heat_above works.c (level - works.a)) - (m_heat_above works.b level))
def r_lack_above (ds : List Dat) (d : Dat) : Prop := ∃ (works : (T3 Int (List (T3 Int Int Int)) (List (T3 Int Int Int)))) (level : Int), ds = [dt works, dt level] ∧ (WSm works) ∧ d = dt (m_lack_above works level)
abbrev s_lack_above : Stmt := topS 2
theorem sc_lack_above : FnScope ["works", "level"] ["works", "level"] (defScope s_lack_above) := ⟨rfl, rfl, rfl, by decide +kernel, rfl, by decide +kernel, by decide +kernel⟩
theorem ok_lack_above (T : Txt K mg) (H_heat_above : FnAt P w K mg base "heat_above" 1 ["streams", "step"] r_heat_above) {f : Addr} {fd : FuncData} (F : Fun K "lack_above" "lack_above" s_lack_above f fd) : FnOk P w K mg base CX0 2 f fd ["works", "level"] (PSp K r_lack_above) := by
  refine fn_pure F sc_lack_above (fun ds d h => by obtain ⟨_, _, rfl, _⟩ := h; rfl) fun cdv A outer s H E ds d hr h => ?_
  obtain ⟨works, level, rfl, hpre, rfl⟩ := h
  exact bv_ret (ev_sub (ev_fn H_heat_above hr (by decide) (ea_cons (ev_tixv 2 (works.c) (ev_var 0 rfl)) (ea_cons (ev_sub (ev_var 1 rfl) (ev_tixv 0 (works.a) (ev_var 0 rfl))) ea_nil)) ⟨_, _, rfl, (by first | exact hpre.rc | exact hpre.rb), rfl⟩) (ev_fn H_heat_above hr (by decide) (ea_cons (ev_tixv 1 (works.b) (ev_var 0 rfl)) (ea_cons (ev_var 1 rfl) ea_nil)) ⟨_, _, rfl, (by first | exact hpre.rc | exact hpre.rb), rfl⟩))
/-! turns -/
def m_turns_L1  (s : (List (Int × Bool))) (x : (T3 Int Int Int)) : (List (Int × Bool)) := (dput (dput s x.a true) x.b true)
def m_turns_L2 (works : (T3 Int (List (T3 Int Int Int)) (List (T3 Int Int Int)))) (s_1 : (List (Int × Bool))) (x_1 : (T3 Int Int Int)) : (List (Int × Bool)) := (dput (dput s_1 (x_1.a + works.a) true) (x_1.b + works.a) true)
def m_turns (works : (T3 Int (List (T3 Int Int Int)) (List (T3 Int Int Int)))) : (List Int) := (let found : (List (Int × Bool)) := (works.b.foldl m_turns_L1 (dput [((0 : Int), true)] (250 : Int) true : List (Int × Bool))); (let found_1 : (List (Int × Bool)) := (works.c.foldl (m_turns_L2 works) found); (found_1.map (·.1))))

theorem turns_fold_len (f : List (Int × Bool) → T3 Int Int Int → List (Int × Bool)) (hf : ∀ s x, (f s x).length ≤ s.length + 2) : ∀ (xs : List (T3 Int Int Int)) (s : List (Int × Bool)), (xs.foldl f s).length ≤ s.length + 2 * xs.length
  | [], s => by simp
  | x :: r, s => by
    have h := turns_fold_len f hf r (f s x)
    have h2 := hf s x
    rw [List.foldl_cons, List.length_cons]
    omega
theorem turns_L1_le (s : List (Int × Bool)) (x : T3 Int Int Int) : (m_turns_L1 s x).length ≤ s.length + 2 := by
  have h1 := dput_len (dput s x.a true) x.b true
  have h2 := dput_len s x.a true
  show (dput (dput s x.a true) x.b true).length ≤ _
  omega
theorem turns_L2_le (works : T3 Int (List (T3 Int Int Int)) (List (T3 Int Int Int))) (s : List (Int × Bool)) (x : T3 Int Int Int) : (m_turns_L2 works s x).length ≤ s.length + 2 := by
  have h1 := dput_len (dput s (x.a + works.a) true) (x.b + works.a) true
  have h2 := dput_len s (x.a + works.a) true
  show (dput (dput s (x.a + works.a) true) (x.b + works.a) true).length ≤ _
  omega
theorem turns_d0 : (dput [((0 : Int), true)] (250 : Int) true).length ≤ 2 := dput_len _ _ _
theorem turns_L1_len {works : T3 Int (List (T3 Int Int Int)) (List (T3 Int Int Int))} {found : List (Int × Bool)} (hw : WSm works) (e : found = works.b.foldl m_turns_L1 (dput [((0 : Int), true)] (250 : Int) true)) : found.length ≤ 2002 := by
  have h := turns_fold_len _ turns_L1_le works.b (dput [((0 : Int), true)] (250 : Int) true)
  have := hw.nb
  have := turns_d0
  rw [e]
  omega
theorem turns_len {works : T3 Int (List (T3 Int Int Int)) (List (T3 Int Int Int))} (hw : WSm works) : (m_turns works).length ≤ 4002 := by
  unfold m_turns
  dsimp only
  rw [List.length_map]
  have h := turns_fold_len _ (turns_L2_le works) works.c (works.b.foldl m_turns_L1 (dput [((0 : Int), true)] (250 : Int) true))
  have h2 := turns_L1_len hw rfl
  have := hw.nc
  omega

def r_turns (ds : List Dat) (d : Dat) : Prop := ∃ (works : (T3 Int (List (T3 Int Int Int)) (List (T3 Int Int Int)))), ds = [dt works] ∧ (WSm works) ∧ d = dt (m_turns works)
abbrev s_turns : Stmt := topS 8
theorem sc_turns : FnScope ["works", "found", "start", "goal", "rate"] ["works"] (defScope s_turns) := ⟨rfl, rfl, rfl, by decide +kernel, rfl, by decide +kernel, by decide +kernel⟩
theorem ok_turns (T : Txt K mg)  {f : Addr} {fd : FuncData} (F : Fun K "turns" "turns" s_turns f fd) : FnOk P w K mg base CX0 1 f fd ["works"] (PSp K r_turns) := by
  refine fn_pure F sc_turns (fun ds d h => by obtain ⟨_, rfl, _⟩ := h; rfl) fun cdv A outer s H E ds d hr h => ?_
  obtain ⟨works, rfl, hpre, rfl⟩ := h
  refine bv_cons (sv_own 1 sc_turns.nd (en_disp2 (pe_disp (pps_cons pe pe (pps_cons pe pe pps_nil)) (by rfl) (by rfl) (fun z => by cases z) (by decide)) ev_int ev_bl (ev_gint T.c_TOP) ev_bl)) ?_
  refine bv_letS (fun (found : (List (Int × Bool))) => [.v (works : (T3 Int (List (T3 Int Int Int)) (List (T3 Int Int Int)))), .o (MD.mk (found : (List (Int × Bool)))), .any, .any, .any]) (of := fun found => .rt (dt (let found_1 : (List (Int × Bool)) := (works.c.foldl (m_turns_L2 works) found); (found_1.map (·.1))))) (x := (works.b.foldl m_turns_L1 (dput [((0 : Int), true)] (250 : Int) true : List (Int × Bool)))) ?_ ?_
  · refine sv_forI (fun (s : (List (Int × Bool))) => [.v (works : (T3 Int (List (T3 Int Int Int)) (List (T3 Int Int Int)))), .o (MD.mk (s : (List (Int × Bool)))), .any, .any, .any]) (dput [((0 : Int), true)] (250 : Int) true : List (Int × Bool)) m_turns_L1 (fun (pre : List (T3 Int Int Int)) (s : (List (Int × Bool))) => s.length ≤ 2 + 2 * pre.length) (iv_list (ev_tixv 1 (works.b) (ev_var 0 rfl))) (.eq (.eq (.any (.any (.any .nil))))) (fun (s : (List (Int × Bool))) (x : (T3 Int Int Int)) => [.v (works : (T3 Int (List (T3 Int Int Int)) (List (T3 Int Int Int)))), .o (MD.mk (s : (List (Int × Bool)))), .v (x.a : Int), .v (x.b : Int), .v (x.c : Int)]) (fun s x => (tv_tup (tvs_cons (tv_name 2 sc_turns.nd) (tvs_cons (tv_name 3 sc_turns.nd) (tvs_cons (tv_name 4 sc_turns.nd) tvs_nil))))) (by have := turns_d0; simp only [List.length_nil]; omega) (fun pre x s _ h => by have := turns_L1_le s x; simp only [List.length_append, List.length_cons, List.length_nil]; omega) ?_ PassesOwn.never
    · intro pre x post s hx hs hI
      refine bv_cons (sv_dput 1 (ps_dput (hu_of hr) (pv 1) pe pe rfl) rfl ev_bl (ev_var 2 rfl) (by have hl := congrArg List.length hx; have hb := hpre.nb; simp only [List.length_append, List.length_cons] at hl; have hl : works.b.length = _ := hl; omega)) ?_
      refine bv_cons (sv_dput 1 (ps_dput (hu_of hr) (pv 1) pe pe rfl) rfl ev_bl (ev_var 3 rfl) (by have hl := congrArg List.length hx; have hb := hpre.nb; simp only [List.length_append, List.length_cons] at hl; have hl : works.b.length = _ := hl; have h2 := dput_len s x.a true; omega)) ?_
      exact .nxs bv_nil (.eq (.eq (.any (.any (.any .nil)))))
  intro found e_found
  refine bv_letS (fun (found_1 : (List (Int × Bool))) => [.v (works : (T3 Int (List (T3 Int Int Int)) (List (T3 Int Int Int)))), .o (MD.mk (found_1 : (List (Int × Bool)))), .any, .any, .any]) (of := fun found_1 => .rt (dt (found_1.map (·.1)))) (x := (works.c.foldl (m_turns_L2 works) found)) ?_ ?_
  · refine sv_forI (fun (s_1 : (List (Int × Bool))) => [.v (works : (T3 Int (List (T3 Int Int Int)) (List (T3 Int Int Int)))), .o (MD.mk (s_1 : (List (Int × Bool)))), .any, .any, .any]) found (m_turns_L2 works) (fun (pre : List (T3 Int Int Int)) (s_1 : (List (Int × Bool))) => s_1.length ≤ found.length + 2 * pre.length) (iv_list (ev_tixv 2 (works.c) (ev_var 0 rfl))) (.eq (.eq (.any (.any (.any .nil))))) (fun (s_1 : (List (Int × Bool))) (x_1 : (T3 Int Int Int)) => [.v (works : (T3 Int (List (T3 Int Int Int)) (List (T3 Int Int Int)))), .o (MD.mk (s_1 : (List (Int × Bool)))), .v (x_1.a : Int), .v (x_1.b : Int), .v (x_1.c : Int)]) (fun s_1 x_1 => (tv_tup (tvs_cons (tv_name 2 sc_turns.nd) (tvs_cons (tv_name 3 sc_turns.nd) (tvs_cons (tv_name 4 sc_turns.nd) tvs_nil))))) (by simp) (fun pre x s _ h => by have := turns_L2_le works s x; simp only [List.length_append, List.length_cons, List.length_nil]; omega) ?_ PassesOwn.never
    · intro pre x_1 post s_1 hx_1 hs_1 hI_1
      refine bv_cons (sv_dput 1 (ps_dput (hu_of hr) (pv 1) pe pe rfl) rfl ev_bl (ev_add (ev_var 2 rfl) (ev_tixv 0 (works.a) (ev_var 0 rfl))) (by have hl := congrArg List.length hx_1; have hb := hpre.nc; have hn := turns_L1_len hpre e_found; simp only [List.length_append, List.length_cons] at hl; have hl : works.c.length = _ := hl; omega)) ?_
      refine bv_cons (sv_dput 1 (ps_dput (hu_of hr) (pv 1) pe pe rfl) rfl ev_bl (ev_add (ev_var 3 rfl) (ev_tixv 0 (works.a) (ev_var 0 rfl))) (by have hl := congrArg List.length hx_1; have hb := hpre.nc; have hn := turns_L1_len hpre e_found; simp only [List.length_append, List.length_cons] at hl; have hl : works.c.length = _ := hl; have h2 := dput_len s_1 (x_1.a + works.a) true; omega)) ?_
      exact .nxs bv_nil (.eq (.eq (.any (.any (.any .nil)))))
  intro found_1 e_found_1
  refine bv_fz 1 rfl ?_
  exact bv_ret (ev_new (en_listDI rfl T.z_list (ev_var 1 rfl)))
/-! will_do -/
def m_will_do_L1 (works : (T3 Int (List (T3 Int Int Int)) (List (T3 Int Int Int)))) (shop : (T2 (List (T3 Int Int Int)) (List (T3 Int Int Int)))) (buying : (T2 (List Int) (List Int))) (s : Unit) (x_2 : Int) : LR (Unit) Bool := (bif (decide ((m_bought_above works shop buying x_2) < (m_lack_above works x_2))) then (.re false) else (.go ()))
def m_will_do (works : (T3 Int (List (T3 Int Int Int)) (List (T3 Int Int Int)))) (shop : (T2 (List (T3 Int Int Int)) (List (T3 Int Int Int)))) (buying : (T2 (List Int) (List Int))) : Bool := (let some_ : (List Int) := (m_offered works shop); ((runL (m_will_do_L1 works shop buying) () (((m_turns works) ++ some_) ++ (some_.map (fun (x_1 : Int) => (x_1 + (1 : Int)))))).fin (fun (r : Unit) => (decide ((m_bought_above works shop buying (0 : Int)) = (m_lack_above works (0 : Int)))))))
def r_will_do (ds : List Dat) (d : Dat) : Prop := ∃ (works : (T3 Int (List (T3 Int Int Int)) (List (T3 Int Int Int)))) (shop : (T2 (List (T3 Int Int Int)) (List (T3 Int Int Int)))) (buying : (T2 (List Int) (List Int))), ds = [dt works, dt shop, dt buying] ∧ (WSm works ∧ shop.a.length ≤ 1000 ∧ shop.b.length ≤ 1000) ∧ d = dt (m_will_do works shop buying)
abbrev s_will_do : Stmt := topS 10
theorem sc_will_do : FnScope ["works", "shop", "buying", "some", "level"] ["works", "shop", "buying"] (defScope s_will_do) := ⟨rfl, rfl, rfl, by decide +kernel, rfl, by decide +kernel, by decide +kernel⟩
theorem ok_will_do (T : Txt K mg) (H_bought_above : FnAt P w K mg base "bought_above" 2 ["works", "shop", "buying", "level"] r_bought_above) (H_lack_above : FnAt P w K mg base "lack_above" 2 ["works", "level"] r_lack_above) (H_offered : FnAt P w K mg base "offered" 2 ["works", "shop"] r_offered) (H_turns : FnAt P w K mg base "turns" 1 ["works"] r_turns) {f : Addr} {fd : FuncData} (F : Fun K "will_do" "will_do" s_will_do f fd) : FnOk P w K mg base CX0 3 f fd ["works", "shop", "buying"] (PSp K r_will_do) := by
  refine fn_pure F sc_will_do (fun ds d h => by obtain ⟨_, _, _, rfl, _⟩ := h; rfl) fun cdv A outer s H E ds d hr h => ?_
  obtain ⟨works, shop, buying, rfl, hpre, rfl⟩ := h
  refine bv_let (of := fun some_ => .rt (dt ((runL (m_will_do_L1 works shop buying) () (((m_turns works) ++ some_) ++ (some_.map (fun (x_1 : Int) => (x_1 + (1 : Int)))))).fin (fun (r : Unit) => (decide ((m_bought_above works shop buying (0 : Int)) = (m_lack_above works (0 : Int)))))))) (sv_set 3 sc_will_do.nd (ev_fn H_offered hr (by decide) (ea_cons (ev_var 0 rfl) (ea_cons (ev_var 1 rfl) ea_nil)) ⟨_, _, rfl, hpre.2, rfl⟩)) ?_
  intro some_ e_some_
  have h1 := turns_len hpre.1; have h2 : some_.length ≤ 2000 := e_some_ ▸ offered_len hpre.2
  refine bv_forR (Env := fun (s : Unit) => [.v (works : (T3 Int (List (T3 Int Int Int)) (List (T3 Int Int Int)))), .v (shop : (T2 (List (T3 Int Int Int)) (List (T3 Int Int Int)))), .v (buying : (T2 (List Int) (List Int))), .v (some_ : (List Int)), .any]) (r := runL (m_will_do_L1 works shop buying) () (((m_turns works) ++ some_) ++ (some_.map (fun (x_1 : Int) => (x_1 + (1 : Int)))))) (g := fun (r : Unit) => (decide ((m_bought_above works shop buying (0 : Int)) = (m_lack_above works (0 : Int))))) ?_ ?_
  · refine sv_forL (fun (s : Unit) => [.v (works : (T3 Int (List (T3 Int Int Int)) (List (T3 Int Int Int)))), .v (shop : (T2 (List (T3 Int Int Int)) (List (T3 Int Int Int)))), .v (buying : (T2 (List Int) (List Int))), .v (some_ : (List Int)), .any]) () (m_will_do_L1 works shop buying) (iv_list (ev_new (en_catS (ev_new (en_catS (ev_fn H_turns hr (by decide) (ea_cons (ev_var 0 rfl) ea_nil) ⟨_, rfl, hpre.1, rfl⟩) (ev_var 3 rfl) (by first | omega | (rw [List.length_append, List.length_map]; omega) | (rw [List.length_append]; omega)))) (ev_new (en_el rfl sc_will_do.nd (blkOk_by (own := [(Str.ofString "level", 4)]) (N := ["works", "shop", "buying", "some", "level"]) (sc := defScope s_will_do) (by decide +kernel)) (el_lc (own := [(Str.ofString "level", 4)]) (fun (x_1 : Int) => [.v (works : (T3 Int (List (T3 Int Int Int)) (List (T3 Int Int Int)))), .v (shop : (T2 (List (T3 Int Int Int)) (List (T3 Int Int Int)))), .v (buying : (T2 (List Int) (List Int))), .v (some_ : (List Int)), .v (x_1 : Int)]) (fun (x_1 : Int) => (x_1 + (1 : Int))) (iv_list (ev_var 3 rfl)) (fun _ _ _ _ _ x_1 => (tx_name 4 sc_will_do.nd)) (fun _ x_1 _ hx_1 _ _ _ _ _ => (ev_add (ev_var 4 rfl) ev_int)) (by first | omega | (rw [List.length_append, List.length_map]; omega) | (rw [List.length_append]; omega))))) (by first | omega | (rw [List.length_append, List.length_map]; omega) | (rw [List.length_append]; omega))))) (.eq (.eq (.eq (.eq (.any .nil))))) (fun (s : Unit) (x_2 : Int) => [.v (works : (T3 Int (List (T3 Int Int Int)) (List (T3 Int Int Int)))), .v (shop : (T2 (List (T3 Int Int Int)) (List (T3 Int Int Int)))), .v (buying : (T2 (List Int) (List Int))), .v (some_ : (List Int)), .v (x_2 : Int)]) (fun s x_2 => (tv_name 4 sc_will_do.nd)) ?_ PassesOwn.never
    intro pre x_2 post s hx_2 hs
    refine bv_ifx (of := fun b => LR.out (fun (s : Unit) => [.v (works : (T3 Int (List (T3 Int Int Int)) (List (T3 Int Int Int)))), .v (shop : (T2 (List (T3 Int Int Int)) (List (T3 Int Int Int)))), .v (buying : (T2 (List Int) (List Int))), .v (some_ : (List Int)), .any]) (bif b then (.re false) else (.go ()))) (et_lt (ev_fn H_bought_above hr (by decide) (ea_cons (ev_var 0 rfl) (ea_cons (ev_var 1 rfl) (ea_cons (ev_var 2 rfl) (ea_cons (ev_var 4 rfl) ea_nil)))) ⟨_, _, _, _, rfl, rfl⟩) (ev_fn H_lack_above hr (by decide) (ea_cons (ev_var 0 rfl) (ea_cons (ev_var 4 rfl) ea_nil)) ⟨_, _, rfl, hpre.1, rfl⟩)) ?_ (by first | trivial | exact xo_ex _) ?_
    · intro hc
      exact bv_ret ev_bl
    · intro hc
      exact .nxs bv_nil (.eq (.eq (.eq (.eq (.any .nil)))))
  intro r e_r
  exact bv_ret (ev_eq (ev_fn H_bought_above hr (by decide) (ea_cons (ev_var 0 rfl) (ea_cons (ev_var 1 rfl) (ea_cons (ev_var 2 rfl) (ea_cons ev_int ea_nil)))) ⟨_, _, _, _, rfl, rfl⟩) (ev_fn H_lack_above hr (by decide) (ea_cons (ev_var 0 rfl) (ea_cons ev_int ea_nil)) ⟨_, _, rfl, hpre.1, rfl⟩))
/-! _law_told -/
def m_law_told (works : (T3 Int (List (T3 Int Int Int)) (List (T3 Int Int Int)))) (shop : (T2 (List (T3 Int Int Int)) (List (T3 Int Int Int)))) (buying : (T2 (List Int) (List Int))) : Bool := (let spare : (List Int) := (m_law_spares works shop buying); (let handed : (T2 (List Int) (List Int)) := (T2.mk buying.a buying.b); (let offers : (T2 (List (T3 Int Int Int)) (List (T3 Int Int Int))) := (T2.mk shop.a shop.b); (let found : Bool := (m_will_do works offers handed); (bif ((!true) || ((!decide (handed = buying)) || (!decide (offers = shop)))) then false else (decide (found = ((decide ((0 : Int) ≤ (minL spare))) && (decide ((spare.getD (0 : Int).toNat (0 : Int)) = (0 : Int)))))))))))
def r_law_told (ds : List Dat) (d : Dat) : Prop := ∃ (works : (T3 Int (List (T3 Int Int Int)) (List (T3 Int Int Int)))) (shop : (T2 (List (T3 Int Int Int)) (List (T3 Int Int Int)))) (buying : (T2 (List Int) (List Int))), ds = [dt works, dt shop, dt buying] ∧ (SpOk works shop) ∧ d = dt (m_law_told works shop buying)
abbrev s_law_told : Stmt := topS 21
theorem sc_law_told : FnScope ["works", "shop", "buying", "spare", "handed", "offers", "found"] ["works", "shop", "buying"] (defScope s_law_told) := ⟨rfl, rfl, rfl, by decide +kernel, rfl, by decide +kernel, by decide +kernel⟩
theorem ok_law_told (T : Txt K mg) (H_law_spares : FnAt P w K mg base "_law_spares" 1 ["works", "shop", "buying"] r_law_spares) (H_will_do : FnAt P w K mg base "will_do" 3 ["works", "shop", "buying"] r_will_do) {f : Addr} {fd : FuncData} (F : Fun K "_law_told" "_law_told" s_law_told f fd) : FnOk P w K mg base CX0 4 f fd ["works", "shop", "buying"] (PSp K r_law_told) := by
  refine fn_pure F sc_law_told (fun ds d h => by obtain ⟨_, _, _, rfl, _⟩ := h; rfl) fun cdv A outer s H E ds d hr h => ?_
  obtain ⟨works, shop, buying, rfl, hpre, rfl⟩ := h
  refine bv_let (of := fun spare => .rt (dt (let handed : (T2 (List Int) (List Int)) := (T2.mk buying.a buying.b); (let offers : (T2 (List (T3 Int Int Int)) (List (T3 Int Int Int))) := (T2.mk shop.a shop.b); (let found : Bool := (m_will_do works offers handed); (bif ((!true) || ((!decide (handed = buying)) || (!decide (offers = shop)))) then false else (decide (found = ((decide ((0 : Int) ≤ (minL spare))) && (decide ((spare.getD (0 : Int).toNat (0 : Int)) = (0 : Int)))))))))))) (sv_set 3 sc_law_told.nd (ev_fn H_law_spares hr (by decide) (ea_cons (ev_var 0 rfl) (ea_cons (ev_var 1 rfl) (ea_cons (ev_var 2 rfl) ea_nil))) ⟨_, _, _, rfl, hpre, rfl⟩)) ?_
  intro spare e_spare
  refine bv_let (of := fun handed => .rt (dt (let offers : (T2 (List (T3 Int Int Int)) (List (T3 Int Int Int))) := (T2.mk shop.a shop.b); (let found : Bool := (m_will_do works offers handed); (bif ((!true) || ((!decide (handed = buying)) || (!decide (offers = shop)))) then false else (decide (found = ((decide ((0 : Int) ≤ (minL spare))) && (decide ((spare.getD (0 : Int).toNat (0 : Int)) = (0 : Int))))))))))) (sv_set 4 sc_law_told.nd (ev_t2 (ea_cons (ev_new (en_list T.z_list (ev_tixv 0 (buying.a) (ev_var 2 rfl)))) (ea_cons (ev_new (en_list T.z_list (ev_tixv 1 (buying.b) (ev_var 2 rfl)))) ea_nil)))) ?_
  intro handed e_handed
  refine bv_let (of := fun offers => .rt (dt (let found : Bool := (m_will_do works offers handed); (bif ((!true) || ((!decide (handed = buying)) || (!decide (offers = shop)))) then false else (decide (found = ((decide ((0 : Int) ≤ (minL spare))) && (decide ((spare.getD (0 : Int).toNat (0 : Int)) = (0 : Int)))))))))) (sv_set 5 sc_law_told.nd (ev_t2 (ea_cons (ev_new (en_list T.z_list (ev_tixv 0 (shop.a) (ev_var 1 rfl)))) (ea_cons (ev_new (en_list T.z_list (ev_tixv 1 (shop.b) (ev_var 1 rfl)))) ea_nil)))) ?_
  intro offers e_offers
  refine bv_let (of := fun found => .rt (dt (bif ((!true) || ((!decide (handed = buying)) || (!decide (offers = shop)))) then false else (decide (found = ((decide ((0 : Int) ≤ (minL spare))) && (decide ((spare.getD (0 : Int).toNat (0 : Int)) = (0 : Int))))))))) (sv_set 6 sc_law_told.nd (ev_fn H_will_do hr (by decide) (ea_cons (ev_var 0 rfl) (ea_cons (ev_var 5 rfl) (ea_cons (ev_var 4 rfl) ea_nil))) ⟨_, _, _, rfl, (by rw [e_offers]; exact ⟨hpre.w.sm, hpre.na, hpre.nb⟩), rfl⟩)) ?_
  intro found e_found
  refine bv_ifx (of := fun b => .rt (dt (bif b then false else (decide (found = ((decide ((0 : Int) ≤ (minL spare))) && (decide ((spare.getD (0 : Int).toNat (0 : Int)) = (0 : Int))))))))) (et_w (ew_or (et_not (et_val (ev_isi (r := true) T.z_isinstance (ev_var 6 rfl) (ev_tyn (T := "bool") T.z_bool (by decide +kernel)) (by decide +kernel)))) (fun hb => (ew_or (et_dne hr.units (ev_var 4 rfl) (ev_var 2 rfl) (OkAll.all _) (OkAll.all _)) (fun hb_1 => (ew_or1 (et_dne hr.units (ev_var 5 rfl) (ev_var 1 rfl) (OkAll.all _) (OkAll.all _)))))))) ?_ (by first | trivial | exact xo_ex _) ?_
  · intro hc
    exact bv_ret ev_bl
  · intro hc
    exact bv_ret (ev_eq (ev_var 6 rfl) (ev_and (ev_ge (ev_minL rfl T.z_min (ev_var 3 rfl) (by rw [e_spare, spares_len]; decide)) ev_int) (fun hb_2 => (ev_one (ev_eq (ev_lixD (0 : Int) (ev_var 3 rfl) ev_int (by omega) (by rw [e_spare, spares_len]; decide)) ev_int)))))
/-! _law_closer -/
def m_law_closer_L1 (shop : (T2 (List (T3 Int Int Int)) (List (T3 Int Int Int)))) (buying : (T2 (List Int) (List Int))) (s : (List Int)) (x_5 : Int) : (List Int) := (let b := ((decide ((shop.a.getD x_5.toNat (T3.mk (0 : Int) (0 : Int) (0 : Int))).a < (250 : Int))) && (decide ((0 : Int) < (buying.a.getD x_5.toNat (0 : Int))))); (bif b then (s ++ [((shop.a.getD x_5.toNat (T3.mk (0 : Int) (0 : Int) (0 : Int))).a - (1 : Int))]) else s))
def m_law_closer_L2 (high__1 : (List Int)) (s_1 : (List (T3 Int Int Int))) (x_6 : (T3 Int Int Int)) : (List (T3 Int Int Int)) := (s_1 ++ [(T3.mk (([x_6.a, (maxL high__1)] : List Int).getD (bif (decide (x_6.a = (250 : Int))) then (1 : Int) else 0).toNat (0 : Int)) x_6.b x_6.c)])
def m_law_closer_L3 (low_ : (List Int)) (works : (T3 Int (List (T3 Int Int Int)) (List (T3 Int Int Int)))) (s_2 : (List (T3 Int Int Int))) (x_7 : (T3 Int Int Int)) : (List (T3 Int Int Int)) := (s_2 ++ [(T3.mk (([x_7.a, (max (0 : Int) ((minL low_) - works.a))] : List Int).getD (bif (decide (x_7.a = (0 : Int))) then (1 : Int) else 0).toNat (0 : Int)) x_7.b x_7.c)])
def m_law_closer (works : (T3 Int (List (T3 Int Int Int)) (List (T3 Int Int Int)))) (shop : (T2 (List (T3 Int Int Int)) (List (T3 Int Int Int)))) (buying : (T2 (List Int) (List Int))) : (T2 (List (T3 Int Int Int)) (List (T3 Int Int Int))) := (let high_ : (List Int) := (([(1 : Int)] : List Int) ++ (works.c.map (fun (x_1 : (T3 Int Int Int)) => (x_1.b + works.a)))); (let high__1 : (List Int) := (high_ ++ (shop.b.map (fun (x_3 : (T3 Int Int Int)) => ((x_3.a + works.a) + (1 : Int))))); (let low_ : (List Int) := ((iseq 0 (shop.a.length : Int).toNat).foldl (m_law_closer_L1 shop buying) ((works.b.map (fun (x_4 : (T3 Int Int Int)) => x_4.b)) ++ ([((199 : Int) + works.a)] : List Int))); (let fires : (List (T3 Int Int Int)) := (shop.a.foldl (m_law_closer_L2 high__1) ([] : (List (T3 Int Int Int)))); (let waters : (List (T3 Int Int Int)) := (shop.b.foldl (m_law_closer_L3 low_ works) ([] : (List (T3 Int Int Int)))); (T2.mk fires waters))))))

theorem low_step (shop : T2 (List (T3 Int Int Int)) (List (T3 Int Int Int))) (buying : T2 (List Int) (List Int)) (s : List Int) (x : Int) : (m_law_closer_L1 shop buying s x).length ≤ s.length + 1 ∧ s.length ≤ (m_law_closer_L1 shop buying s x).length := by
  unfold m_law_closer_L1
  dsimp only
  cases ((decide ((shop.a.getD x.toNat (T3.mk (0 : Int) (0 : Int) (0 : Int))).a < (250 : Int))) && (decide ((0 : Int) < (buying.a.getD x.toNat (0 : Int))))) <;> simp
theorem low_pos (shop : T2 (List (T3 Int Int Int)) (List (T3 Int Int Int))) (buying : T2 (List Int) (List Int)) : ∀ (xs s : List Int), 0 < s.length → 0 < (xs.foldl (m_law_closer_L1 shop buying) s).length
  | [], _, h => h
  | x :: r, s, h => by rw [List.foldl_cons]; exact low_pos shop buying r _ (Nat.lt_of_lt_of_le h (low_step shop buying s x).2)

def r_law_closer (ds : List Dat) (d : Dat) : Prop := ∃ (works : (T3 Int (List (T3 Int Int Int)) (List (T3 Int Int Int)))) (shop : (T2 (List (T3 Int Int Int)) (List (T3 Int Int Int)))) (buying : (T2 (List Int) (List Int))), ds = [dt works, dt shop, dt buying] ∧ (SpOk works shop ∧ buying.a.length = shop.a.length) ∧ d = dt (m_law_closer works shop buying)
abbrev s_law_closer : Stmt := topS 22
theorem sc_law_closer : FnScope ["works", "shop", "buying", "high", "low", "fires", "waters", "k", "degree", "price", "most", "cold", "water", "hot"] ["works", "shop", "buying"] (defScope s_law_closer) := ⟨rfl, rfl, rfl, by decide +kernel, rfl, by decide +kernel, by decide +kernel⟩
theorem ok_law_closer (T : Txt K mg)  {f : Addr} {fd : FuncData} (F : Fun K "_law_closer" "_law_closer" s_law_closer f fd) : FnOk P w K mg base CX0 1 f fd ["works", "shop", "buying"] (PSp K r_law_closer) := by
  refine fn_pure F sc_law_closer (fun ds d h => by obtain ⟨_, _, _, rfl, _⟩ := h; rfl) fun cdv A outer s H E ds d hr h => ?_
  obtain ⟨works, shop, buying, rfl, hpre, rfl⟩ := h
  refine bv_let (of := fun high_ => .rt (dt (let high__1 : (List Int) := (high_ ++ (shop.b.map (fun (x_3 : (T3 Int Int Int)) => ((x_3.a + works.a) + (1 : Int))))); (let low_ : (List Int) := ((iseq 0 (shop.a.length : Int).toNat).foldl (m_law_closer_L1 shop buying) ((works.b.map (fun (x_4 : (T3 Int Int Int)) => x_4.b)) ++ ([((199 : Int) + works.a)] : List Int))); (let fires : (List (T3 Int Int Int)) := (shop.a.foldl (m_law_closer_L2 high__1) ([] : (List (T3 Int Int Int)))); (let waters : (List (T3 Int Int Int)) := (shop.b.foldl (m_law_closer_L3 low_ works) ([] : (List (T3 Int Int Int)))); (T2.mk fires waters))))))) (sv_set 3 sc_law_closer.nd (ev_new (en_catS (ev_new (en_lst (xs := ([(1 : Int)] : List Int)) (ea_cons ev_int ea_nil))) (ev_new (en_el rfl sc_law_closer.nd (blkOk_by (own := [(Str.ofString "cold", 11)]) (N := ["works", "shop", "buying", "high", "low", "fires", "waters", "k", "degree", "price", "most", "cold", "water", "hot"]) (sc := defScope s_law_closer) (by decide +kernel)) (el_lc (own := [(Str.ofString "cold", 11)]) (fun (x_1 : (T3 Int Int Int)) => [.v (works : (T3 Int (List (T3 Int Int Int)) (List (T3 Int Int Int)))), .v (shop : (T2 (List (T3 Int Int Int)) (List (T3 Int Int Int)))), .v (buying : (T2 (List Int) (List Int))), .any, .any, .any, .any, .any, .any, .any, .any, .v (x_1 : (T3 Int Int Int)), .any, .any]) (fun (x_1 : (T3 Int Int Int)) => (x_1.b + works.a)) (iv_list (ev_tixv 2 (works.c) (ev_var 0 rfl))) (fun _ _ _ _ _ x_1 => (tx_name 11 sc_law_closer.nd)) (fun _ x_1 _ hx_1 _ _ _ _ _ => (ev_add (ev_tixv 1 (x_1.b) (ev_var 11 rfl)) (ev_tixv 0 (works.a) (ev_var 0 rfl)))) (by have := hpre.1.w.nc; have := hpre.1.w.nh; have := hpre.1.na; have := hpre.1.nb; first | omega | (rw [e_high_]; simp only [List.length_append, List.length_cons, List.length_nil, List.length_map]; omega) | (simp only [List.length_append, List.length_cons, List.length_nil, List.length_map]; omega))))) (by have := hpre.1.w.nc; have := hpre.1.w.nh; have := hpre.1.na; have := hpre.1.nb; first | omega | (rw [e_high_]; simp only [List.length_append, List.length_cons, List.length_nil, List.length_map]; omega) | (simp only [List.length_append, List.length_cons, List.length_nil, List.length_map]; omega))))) ?_
  intro high_ e_high_
  refine bv_let (of := fun high__1 => .rt (dt (let low_ : (List Int) := ((iseq 0 (shop.a.length : Int).toNat).foldl (m_law_closer_L1 shop buying) ((works.b.map (fun (x_4 : (T3 Int Int Int)) => x_4.b)) ++ ([((199 : Int) + works.a)] : List Int))); (let fires : (List (T3 Int Int Int)) := (shop.a.foldl (m_law_closer_L2 high__1) ([] : (List (T3 Int Int Int)))); (let waters : (List (T3 Int Int Int)) := (shop.b.foldl (m_law_closer_L3 low_ works) ([] : (List (T3 Int Int Int)))); (T2.mk fires waters)))))) (sv_set 3 sc_law_closer.nd (ev_new (en_catS (ev_var 3 rfl) (ev_new (en_el rfl sc_law_closer.nd (blkOk_by (own := [(Str.ofString "water", 12)]) (N := ["works", "shop", "buying", "high", "low", "fires", "waters", "k", "degree", "price", "most", "cold", "water", "hot"]) (sc := defScope s_law_closer) (by decide +kernel)) (el_lc (own := [(Str.ofString "water", 12)]) (fun (x_3 : (T3 Int Int Int)) => [.v (works : (T3 Int (List (T3 Int Int Int)) (List (T3 Int Int Int)))), .v (shop : (T2 (List (T3 Int Int Int)) (List (T3 Int Int Int)))), .v (buying : (T2 (List Int) (List Int))), .v (high_ : (List Int)), .any, .any, .any, .any, .any, .any, .any, .any, .v (x_3 : (T3 Int Int Int)), .any]) (fun (x_3 : (T3 Int Int Int)) => ((x_3.a + works.a) + (1 : Int))) (iv_list (ev_tixv 1 (shop.b) (ev_var 1 rfl))) (fun _ _ _ _ _ x_3 => (tx_name 12 sc_law_closer.nd)) (fun _ x_3 _ hx_3 _ _ _ _ _ => (ev_add (ev_add (ev_tixv 0 (x_3.a) (ev_var 12 rfl)) (ev_tixv 0 (works.a) (ev_var 0 rfl))) ev_int)) (by have := hpre.1.w.nc; have := hpre.1.w.nh; have := hpre.1.na; have := hpre.1.nb; first | omega | (rw [e_high_]; simp only [List.length_append, List.length_cons, List.length_nil, List.length_map]; omega) | (simp only [List.length_append, List.length_cons, List.length_nil, List.length_map]; omega))))) (by have := hpre.1.w.nc; have := hpre.1.w.nh; have := hpre.1.na; have := hpre.1.nb; first | omega | (rw [e_high_]; simp only [List.length_append, List.length_cons, List.length_nil, List.length_map]; omega) | (simp only [List.length_append, List.length_cons, List.length_nil, List.length_map]; omega))))) ?_
  intro high__1 e_high__1
  have hh : 0 < high__1.length := by { rw [e_high__1, e_high_]; simp }; have hz : high__1.length ≤ 2000 := by { rw [e_high__1, e_high_]; simp only [List.length_append, List.length_cons, List.length_nil, List.length_map]; have := hpre.1.w.nc; have := hpre.1.nb; omega }
  refine bv_cons (sv_own 4 sc_law_closer.nd (en_catS (ev_new (en_el rfl sc_law_closer.nd (blkOk_by (own := [(Str.ofString "hot", 13)]) (N := ["works", "shop", "buying", "high", "low", "fires", "waters", "k", "degree", "price", "most", "cold", "water", "hot"]) (sc := defScope s_law_closer) (by decide +kernel)) (el_lc (own := [(Str.ofString "hot", 13)]) (fun (x_4 : (T3 Int Int Int)) => [.v (works : (T3 Int (List (T3 Int Int Int)) (List (T3 Int Int Int)))), .v (shop : (T2 (List (T3 Int Int Int)) (List (T3 Int Int Int)))), .v (buying : (T2 (List Int) (List Int))), .v (high__1 : (List Int)), .any, .any, .any, .any, .any, .any, .any, .any, .any, .v (x_4 : (T3 Int Int Int))]) (fun (x_4 : (T3 Int Int Int)) => x_4.b) (iv_list (ev_tixv 1 (works.b) (ev_var 0 rfl))) (fun _ _ _ _ _ x_4 => (tx_name 13 sc_law_closer.nd)) (fun _ x_4 _ hx_4 _ _ _ _ _ => (ev_tixv 1 (x_4.b) (ev_var 13 rfl))) (by have := hpre.1.w.nc; have := hpre.1.w.nh; have := hpre.1.na; have := hpre.1.nb; first | omega | (rw [e_high_]; simp only [List.length_append, List.length_cons, List.length_nil, List.length_map]; omega) | (simp only [List.length_append, List.length_cons, List.length_nil, List.length_map]; omega))))) (ev_new (en_lst (xs := ([((199 : Int) + works.a)] : List Int)) (ea_cons (ev_add ev_int (ev_tixv 0 (works.a) (ev_var 0 rfl))) ea_nil))) (by have := hpre.1.w.nc; have := hpre.1.w.nh; have := hpre.1.na; have := hpre.1.nb; first | omega | (rw [e_high_]; simp only [List.length_append, List.length_cons, List.length_nil, List.length_map]; omega) | (simp only [List.length_append, List.length_cons, List.length_nil, List.length_map]; omega)))) ?_
  refine bv_cons (sv_own 5 sc_law_closer.nd (en_lst (xs := ([] : (List (T3 Int Int Int)))) ea_nil)) ?_
  refine bv_cons (sv_own 6 sc_law_closer.nd (en_lst (xs := ([] : (List (T3 Int Int Int)))) ea_nil)) ?_
  refine bv_letS (fun (low_ : (List Int)) => [.v (works : (T3 Int (List (T3 Int Int Int)) (List (T3 Int Int Int)))), .v (shop : (T2 (List (T3 Int Int Int)) (List (T3 Int Int Int)))), .v (buying : (T2 (List Int) (List Int))), .v (high__1 : (List Int)), .l (low_ : (List Int)), .l (([] : (List (T3 Int Int Int))) : (List (T3 Int Int Int))), .l (([] : (List (T3 Int Int Int))) : (List (T3 Int Int Int))), .any, .any, .any, .any, .any, .any, .any]) (of := fun low_ => .rt (dt (let fires : (List (T3 Int Int Int)) := (shop.a.foldl (m_law_closer_L2 high__1) ([] : (List (T3 Int Int Int)))); (let waters : (List (T3 Int Int Int)) := (shop.b.foldl (m_law_closer_L3 low_ works) ([] : (List (T3 Int Int Int)))); (T2.mk fires waters))))) (x := ((iseq 0 (shop.a.length : Int).toNat).foldl (m_law_closer_L1 shop buying) ((works.b.map (fun (x_4 : (T3 Int Int Int)) => x_4.b)) ++ ([((199 : Int) + works.a)] : List Int)))) ?_ ?_
  · refine sv_forI (fun (s : (List Int)) => [.v (works : (T3 Int (List (T3 Int Int Int)) (List (T3 Int Int Int)))), .v (shop : (T2 (List (T3 Int Int Int)) (List (T3 Int Int Int)))), .v (buying : (T2 (List Int) (List Int))), .v (high__1 : (List Int)), .l (s : (List Int)), .l (([] : (List (T3 Int Int Int))) : (List (T3 Int Int Int))), .l (([] : (List (T3 Int Int Int))) : (List (T3 Int Int Int))), .any, .any, .any, .any, .any, .any, .any]) ((works.b.map (fun (x_4 : (T3 Int Int Int)) => x_4.b)) ++ ([((199 : Int) + works.a)] : List Int)) (m_law_closer_L1 shop buying) (fun (pre : List Int) (s : (List Int)) => s.length ≤ ((works.b.map (fun (x_4 : (T3 Int Int Int)) => x_4.b)) ++ ([((199 : Int) + works.a)] : List Int)).length + pre.length) (iv_range1 T.z_range (ev_len T.z_len (ev_tixv 0 (shop.a) (ev_var 1 rfl))) (by have := hpre.1.na; omega) (by have := hpre.1.na; omega)) (.eq (.eq (.eq (.eq (.eq (.eq (.eq (.any (.any (.any (.any (.any (.any (.any .nil)))))))))))))) (fun (s : (List Int)) (x_5 : Int) => [.v (works : (T3 Int (List (T3 Int Int Int)) (List (T3 Int Int Int)))), .v (shop : (T2 (List (T3 Int Int Int)) (List (T3 Int Int Int)))), .v (buying : (T2 (List Int) (List Int))), .v (high__1 : (List Int)), .l (s : (List Int)), .l (([] : (List (T3 Int Int Int))) : (List (T3 Int Int Int))), .l (([] : (List (T3 Int Int Int))) : (List (T3 Int Int Int))), .v (x_5 : Int), .any, .any, .any, .any, .any, .any]) (fun s x_5 => (tv_name 7 sc_law_closer.nd)) (by simp) (fun pre x s _ h => by have := low_step shop buying s x; simp only [List.length_append, List.length_cons, List.length_nil] at h ⊢; omega) ?_ PassesOwn.never
    · intro pre x_5 post s hx_5 hs hI
      refine bv_ifj (Γf := fun b => [.v (works : (T3 Int (List (T3 Int Int Int)) (List (T3 Int Int Int)))), .v (shop : (T2 (List (T3 Int Int Int)) (List (T3 Int Int Int)))), .v (buying : (T2 (List Int) (List Int))), .v (high__1 : (List Int)), .l ((bif b then (s ++ [((shop.a.getD x_5.toNat (T3.mk (0 : Int) (0 : Int) (0 : Int))).a - (1 : Int))]) else s) : (List Int)), .l (([] : (List (T3 Int Int Int))) : (List (T3 Int Int Int))), .l (([] : (List (T3 Int Int Int))) : (List (T3 Int Int Int))), .v (x_5 : Int), .any, .any, .any, .any, .any, .any]) (of := fun b => .nx ((fun (s : (List Int)) => [.v (works : (T3 Int (List (T3 Int Int Int)) (List (T3 Int Int Int)))), .v (shop : (T2 (List (T3 Int Int Int)) (List (T3 Int Int Int)))), .v (buying : (T2 (List Int) (List Int))), .v (high__1 : (List Int)), .l (s : (List Int)), .l (([] : (List (T3 Int Int Int))) : (List (T3 Int Int Int))), .l (([] : (List (T3 Int Int Int))) : (List (T3 Int Int Int))), .any, .any, .any, .any, .any, .any, .any]) (bif b then (s ++ [((shop.a.getD x_5.toNat (T3.mk (0 : Int) (0 : Int) (0 : Int))).a - (1 : Int))]) else s))) (et_w (ew_and (et_lt (ev_tixv 0 ((shop.a.getD x_5.toNat (T3.mk (0 : Int) (0 : Int) (0 : Int))).a) (ev_lixD (T3.mk (0 : Int) (0 : Int) (0 : Int)) (ev_tixv 0 (shop.a) (ev_var 1 rfl)) (ev_var 7 rfl) (by have := iseq_mem hx_5; omega) (by have := iseq_mem hx_5; omega))) ev_int) (fun hb => (ew_and1 (et_gt (ev_lixD (0 : Int) (ev_tixv 0 (buying.a) (ev_var 2 rfl)) (ev_var 7 rfl) (by have := iseq_mem hx_5; omega) (by have := iseq_mem hx_5; have := hpre.2; omega)) ev_int))))) ?_ ?_ ?_
      · intro hc
        refine bv_cons (sv_app 4 (pe_bm PySem.F.plainAttrs_list PySem.F.slot_list_append PySem.F.type_list_append mt_append (pv 4) (pa_cons pe pa_nil)) rfl (ev_sub (ev_tixv 0 ((shop.a.getD x_5.toNat (T3.mk (0 : Int) (0 : Int) (0 : Int))).a) (ev_lixD (T3.mk (0 : Int) (0 : Int) (0 : Int)) (ev_tixv 0 (shop.a) (ev_var 1 rfl)) (ev_var 7 rfl) (by have := iseq_mem hx_5; omega) (by have := iseq_mem hx_5; omega))) ev_int) (by have hl0 := congrArg List.length hx_5; rw [iseq_len, List.length_append, List.length_cons] at hl0; simp only [List.length_append, List.length_map, List.length_cons, List.length_nil] at hI; have := hpre.1.w.nh; have := hpre.1.na; omega)) ?_
        exact .nxs bv_nil (.eq (.eq (.eq (.eq (.eq (.eq (.eq (.eq (.any (.any (.any (.any (.any (.any .nil))))))))))))))
      · intro hc
        exact .nxs bv_nil (.eq (.eq (.eq (.eq (.eq (.eq (.eq (.eq (.any (.any (.any (.any (.any (.any .nil))))))))))))))
      intro b e_b
      exact .nxs bv_nil (.eq (.eq (.eq (.eq (.eq (.eq (.eq (.any (.any (.any (.any (.any (.any (.any .nil))))))))))))))
  intro low_ e_low_
  have hlo : 0 < low_.length := by { rw [e_low_]; exact low_pos _ _ _ _ (by simp) }
  refine bv_letS (fun (fires : (List (T3 Int Int Int))) => [.v (works : (T3 Int (List (T3 Int Int Int)) (List (T3 Int Int Int)))), .v (shop : (T2 (List (T3 Int Int Int)) (List (T3 Int Int Int)))), .v (buying : (T2 (List Int) (List Int))), .v (high__1 : (List Int)), .l (low_ : (List Int)), .l (fires : (List (T3 Int Int Int))), .l (([] : (List (T3 Int Int Int))) : (List (T3 Int Int Int))), .any, .any, .any, .any, .any, .any, .any]) (of := fun fires => .rt (dt (let waters : (List (T3 Int Int Int)) := (shop.b.foldl (m_law_closer_L3 low_ works) ([] : (List (T3 Int Int Int)))); (T2.mk fires waters)))) (x := (shop.a.foldl (m_law_closer_L2 high__1) ([] : (List (T3 Int Int Int))))) ?_ ?_
  · refine sv_forI (fun (s_1 : (List (T3 Int Int Int))) => [.v (works : (T3 Int (List (T3 Int Int Int)) (List (T3 Int Int Int)))), .v (shop : (T2 (List (T3 Int Int Int)) (List (T3 Int Int Int)))), .v (buying : (T2 (List Int) (List Int))), .v (high__1 : (List Int)), .l (low_ : (List Int)), .l (s_1 : (List (T3 Int Int Int))), .l (([] : (List (T3 Int Int Int))) : (List (T3 Int Int Int))), .any, .any, .any, .any, .any, .any, .any]) ([] : (List (T3 Int Int Int))) (m_law_closer_L2 high__1) (fun (pre : List (T3 Int Int Int)) (s_1 : (List (T3 Int Int Int))) => s_1.length ≤ ([] : (List (T3 Int Int Int))).length + pre.length) (iv_list (ev_tixv 0 (shop.a) (ev_var 1 rfl))) (.eq (.eq (.eq (.eq (.eq (.eq (.eq (.any (.any (.any (.any (.any (.any (.any .nil)))))))))))))) (fun (s_1 : (List (T3 Int Int Int))) (x_6 : (T3 Int Int Int)) => [.v (works : (T3 Int (List (T3 Int Int Int)) (List (T3 Int Int Int)))), .v (shop : (T2 (List (T3 Int Int Int)) (List (T3 Int Int Int)))), .v (buying : (T2 (List Int) (List Int))), .v (high__1 : (List Int)), .l (low_ : (List Int)), .l (s_1 : (List (T3 Int Int Int))), .l (([] : (List (T3 Int Int Int))) : (List (T3 Int Int Int))), .any, .v (x_6.a : Int), .v (x_6.b : Int), .v (x_6.c : Int), .any, .any, .any]) (fun s_1 x_6 => (tv_tup (tvs_cons (tv_name 8 sc_law_closer.nd) (tvs_cons (tv_name 9 sc_law_closer.nd) (tvs_cons (tv_name 10 sc_law_closer.nd) tvs_nil))))) (by simp) (by intro pre x s _ h; simp only [m_law_closer_L2, List.length_append, List.length_cons, List.length_nil] at h ⊢; omega) ?_ PassesOwn.never
    · intro pre x_6 post s_1 hx_6 hs_1 hI_1
      refine bv_cons (sv_app 5 (pe_bm PySem.F.plainAttrs_list PySem.F.slot_list_append PySem.F.type_list_append mt_append (pv 5) (pa_cons pe pa_nil)) rfl (ev_t3 (ea_cons (ev_lixD (0 : Int) (ev_new (en_lst (xs := ([x_6.a, (maxL high__1)] : List Int)) (ea_cons (ev_var 8 rfl) (ea_cons (ev_maxL rfl T.z_max (ev_var 3 rfl) (by omega)) ea_nil)))) (ev_intB T.z_int (ev_eq (ev_var 8 rfl) ev_int)) (by cases decide (x_6.a = 250) <;> decide) (by show _ < (2 : Int); cases decide (x_6.a = 250) <;> decide)) (ea_cons (ev_var 9 rfl) (ea_cons (ev_var 10 rfl) ea_nil)))) (by have hl0 := congrArg List.length hx_6; simp only [List.length_append, List.length_cons, List.length_nil] at hl0 hI_1; have := hpre.1.na; omega)) ?_
      exact .nxs bv_nil (.eq (.eq (.eq (.eq (.eq (.eq (.eq (.any (.any (.any (.any (.any (.any (.any .nil))))))))))))))
  intro fires e_fires
  refine bv_frz 4 rfl ?_
  refine bv_letS (fun (waters : (List (T3 Int Int Int))) => [.v (works : (T3 Int (List (T3 Int Int Int)) (List (T3 Int Int Int)))), .v (shop : (T2 (List (T3 Int Int Int)) (List (T3 Int Int Int)))), .v (buying : (T2 (List Int) (List Int))), .v (high__1 : (List Int)), .v (low_ : (List Int)), .l (fires : (List (T3 Int Int Int))), .l (waters : (List (T3 Int Int Int))), .any, .any, .any, .any, .any, .any, .any]) (of := fun waters => .rt (dt (T2.mk fires waters))) (x := (shop.b.foldl (m_law_closer_L3 low_ works) ([] : (List (T3 Int Int Int))))) ?_ ?_
  · refine sv_forI (fun (s_2 : (List (T3 Int Int Int))) => [.v (works : (T3 Int (List (T3 Int Int Int)) (List (T3 Int Int Int)))), .v (shop : (T2 (List (T3 Int Int Int)) (List (T3 Int Int Int)))), .v (buying : (T2 (List Int) (List Int))), .v (high__1 : (List Int)), .v (low_ : (List Int)), .l (fires : (List (T3 Int Int Int))), .l (s_2 : (List (T3 Int Int Int))), .any, .any, .any, .any, .any, .any, .any]) ([] : (List (T3 Int Int Int))) (m_law_closer_L3 low_ works) (fun (pre : List (T3 Int Int Int)) (s_2 : (List (T3 Int Int Int))) => s_2.length ≤ ([] : (List (T3 Int Int Int))).length + pre.length) (iv_list (ev_tixv 1 (shop.b) (ev_var 1 rfl))) (.eq (.eq (.eq (.eq (.eq (.eq (.eq (.any (.any (.any (.any (.any (.any (.any .nil)))))))))))))) (fun (s_2 : (List (T3 Int Int Int))) (x_7 : (T3 Int Int Int)) => [.v (works : (T3 Int (List (T3 Int Int Int)) (List (T3 Int Int Int)))), .v (shop : (T2 (List (T3 Int Int Int)) (List (T3 Int Int Int)))), .v (buying : (T2 (List Int) (List Int))), .v (high__1 : (List Int)), .v (low_ : (List Int)), .l (fires : (List (T3 Int Int Int))), .l (s_2 : (List (T3 Int Int Int))), .any, .v (x_7.a : Int), .v (x_7.b : Int), .v (x_7.c : Int), .any, .any, .any]) (fun s_2 x_7 => (tv_tup (tvs_cons (tv_name 8 sc_law_closer.nd) (tvs_cons (tv_name 9 sc_law_closer.nd) (tvs_cons (tv_name 10 sc_law_closer.nd) tvs_nil))))) (by simp) (by intro pre x s _ h; simp only [m_law_closer_L3, List.length_append, List.length_cons, List.length_nil] at h ⊢; omega) ?_ PassesOwn.never
    · intro pre x_7 post s_2 hx_7 hs_2 hI_2
      refine bv_cons (sv_app 6 (pe_bm PySem.F.plainAttrs_list PySem.F.slot_list_append PySem.F.type_list_append mt_append (pv 6) (pa_cons pe pa_nil)) rfl (ev_t3 (ea_cons (ev_lixD (0 : Int) (ev_new (en_lst (xs := ([x_7.a, (max (0 : Int) ((minL low_) - works.a))] : List Int)) (ea_cons (ev_var 8 rfl) (ea_cons (ev_max2 rfl T.z_max ev_int (ev_sub (ev_minL rfl T.z_min (ev_var 4 rfl) (by omega)) (ev_tixv 0 (works.a) (ev_var 0 rfl)))) ea_nil)))) (ev_intB T.z_int (ev_eq (ev_var 8 rfl) ev_int)) (by cases decide (x_7.a = 0) <;> decide) (by show _ < (2 : Int); cases decide (x_7.a = 0) <;> decide)) (ea_cons (ev_var 9 rfl) (ea_cons (ev_var 10 rfl) ea_nil)))) (by have hl0 := congrArg List.length hx_7; simp only [List.length_append, List.length_cons, List.length_nil] at hl0 hI_2; have := hpre.1.nb; omega)) ?_
      exact .nxs bv_nil (.eq (.eq (.eq (.eq (.eq (.eq (.eq (.any (.any (.any (.any (.any (.any (.any .nil))))))))))))))
  intro waters e_waters
  refine bv_frz 5 rfl ?_
  refine bv_frz 6 rfl ?_
  exact bv_ret (ev_t2 (ea_cons (ev_var 5 rfl) (ea_cons (ev_var 6 rfl) ea_nil)))
/-! law -/
def m_law_L2 (x : (T2 (T2 (List (T3 Int Int Int)) (List (T3 Int Int Int))) (T2 (List Int) (List Int)))) (s_1 : Unit) (x_1 : (T3 Int (List (T3 Int Int Int)) (List (T3 Int Int Int)))) : LR (Unit) Bool := (bif (!(m_law_told x_1 x.a x.b)) then (.re false) else (.go ()))
def m_law_L1 (works : (T3 Int (List (T3 Int Int Int)) (List (T3 Int Int Int)))) (s : Unit) (x : (T2 (T2 (List (T3 Int Int Int)) (List (T3 Int Int Int))) (T2 (List Int) (List Int)))) : LR (Unit) Bool := ((runL (m_law_L2 x) () ([works, (T3.mk works.a ([] : (List (T3 Int Int Int))) ([] : (List (T3 Int Int Int)))), (T3.mk works.a ([] : (List (T3 Int Int Int))) works.c), (T3.mk works.a works.b ([] : (List (T3 Int Int Int))))] : List (T3 Int (List (T3 Int Int Int)) (List (T3 Int Int Int))))).bind (fun (r_1 : Unit) => (.go ())))
def m_law_L3 (handed : (T3 Int (List (T3 Int Int Int)) (List (T3 Int Int Int)))) (r : (T2 (List (T3 Int Int Int)) (List (T3 Int Int Int)))) (buying : (T2 (List Int) (List Int))) (s_2 : Unit) (x_2 : Int) : LR (Unit) Bool := (let other : (T2 (List Int) (List Int)) := (T2.mk buying.a buying.b); (let side : Int := ((m_law_stir x_2 (0 : Int)) % (2 : Int)); (let at_ : Int := ((m_law_stir x_2 (1 : Int)) % ((other.list.getD side.toNat ([] : (List Int))).length : Int)); (let change : Int := ((([(1 : Int), ((1 : Int) + ((m_law_stir x_2 (3 : Int)) % (50 : Int)))] : List Int).getD ((m_law_stir x_2 (4 : Int)) % (2 : Int)).toNat (0 : Int)) * (([(1 : Int), (-(1 : Int))] : List Int).getD ((m_law_stir x_2 (2 : Int)) % (2 : Int)).toNat (0 : Int))); (let other_1 : (T2 (List Int) (List Int)) := (putP other side ((other.list.getD side.toNat []).set at_.toNat (min ((r.list.getD side.toNat ([] : (List (T3 Int Int Int)))).getD at_.toNat (T3.mk (0 : Int) (0 : Int) (0 : Int))).c (max (0 : Int) (((other.list.getD side.toNat ([] : (List Int))).getD at_.toNat (0 : Int)) + change))))); (let b_3 := (decide ((0 : Int) < ((m_law_stir x_2 (5 : Int)) % (3 : Int)))); (bif (!(m_law_told handed r (bif b_3 then (putP other_1 ((1 : Int) - side) ((other_1.list.getD ((1 : Int) - side).toNat []).set ((m_law_stir x_2 (6 : Int)) % ((other_1.list.getD ((1 : Int) - side).toNat ([] : (List Int))).length : Int)).toNat (min ((r.list.getD ((1 : Int) - side).toNat ([] : (List (T3 Int Int Int)))).getD ((m_law_stir x_2 (6 : Int)) % ((other_1.list.getD ((1 : Int) - side).toNat ([] : (List Int))).length : Int)).toNat (T3.mk (0 : Int) (0 : Int) (0 : Int))).c (max (0 : Int) (((other_1.list.getD ((1 : Int) - side).toNat ([] : (List Int))).getD ((m_law_stir x_2 (6 : Int)) % ((other_1.list.getD ((1 : Int) - side).toNat ([] : (List Int))).length : Int)).toNat (0 : Int)) + change))))) else other_1))) then (.re false) else (.go ()))))))))
def m_law (script : (List Int)) : Bool := (let works : (T3 Int (List (T3 Int Int Int)) (List (T3 Int Int Int))) := (m_law_works script); (let head : Int := (pySlice script (some (0 : Int)) (some (63 : Int)) (some (37 : Int))).sum; (let shop : (T2 (List (T3 Int Int Int)) (List (T3 Int Int Int))) := (m_law_with_ends (m_law_shop script) (m_law_stir head (7 : Int))); (let buying : (T2 (List Int) (List Int)) := (m_law_made works shop script); (let handed : (T3 Int (List (T3 Int Int Int)) (List (T3 Int Int Int))) := (T3.mk works.a works.b works.c); (bif ((!(m_law_told handed shop buying)) || (!decide (handed = works))) then false else (let plain : (T2 (List (T3 Int Int Int)) (List (T3 Int Int Int))) := (m_law_shop script); (bif (!(m_law_told handed plain (T2.mk (m_law_amounts plain.a script (600 : Int)) (m_law_amounts plain.b script (700 : Int))))) then false else ((bif (decide (((m_law_stir head (9 : Int)) % (2 : Int)) = (1 : Int))) then (let shop_1 : (T2 (List (T3 Int Int Int)) (List (T3 Int Int Int))) := (m_law_closer works shop buying); (bif (!(m_law_told handed shop_1 buying)) then (.re false) else (.go shop_1))) else (.go shop) : LR ((T2 (List (T3 Int Int Int)) (List (T3 Int Int Int)))) Bool).fin (fun (r : (T2 (List (T3 Int Int Int)) (List (T3 Int Int Int)))) => (let sides : (List (T2 (T2 (List (T3 Int Int Int)) (List (T3 Int Int Int))) (T2 (List Int) (List Int)))) := ([(T2.mk (T2.mk r.a ([] : (List (T3 Int Int Int)))) (T2.mk buying.a ([] : (List Int)))), (T2.mk (T2.mk ([] : (List (T3 Int Int Int))) r.b) (T2.mk ([] : (List Int)) buying.b)), (T2.mk (T2.mk ([] : (List (T3 Int Int Int))) ([] : (List (T3 Int Int Int)))) (T2.mk ([] : (List Int)) ([] : (List Int))))] : List (T2 (T2 (List (T3 Int Int Int)) (List (T3 Int Int Int))) (T2 (List Int) (List Int)))); ((runL (m_law_L1 works) () sides).fin (fun (r_2 : Unit) => ((runL (m_law_L3 handed r buying) () (pySlice script none (some (30 : Int)) none)).fin (fun (r_3 : Unit) => true)))))))))))))))

theorem ShopOk.am {s : T2 (List (T3 Int Int Int)) (List (T3 Int Int Int))} (h : ShopOk s) : AmOk s.a ∧ AmOk s.b := ⟨⟨by have := h.nf; omega, fun o ho => (h.f o ho).m0⟩, ⟨by have := h.nw; omega, fun o ho => (h.w o ho).m0⟩⟩
theorem ShopOk.sp {w : T3 Int (List (T3 Int Int Int)) (List (T3 Int Int Int))} {s : T2 (List (T3 Int Int Int)) (List (T3 Int Int Int))} (hw : WorksOk w) (h : ShopOk s) : SpOk w s := ⟨hw, by have := h.nf; omega, by have := h.nw; omega, fun o ho => by have := (h.f o ho).d0; have := (h.f o ho).d1; omega, fun o ho => by have := (h.w o ho).d0; have := (h.w o ho).d1; omega⟩
theorem ins_mem {α : Type} {xs : List α} {z : Int} {x y : α} : y ∈ insL xs z x ↔ y = x ∨ y ∈ xs := by
  unfold insL
  rw [List.mem_append, List.mem_append, List.mem_singleton]
  constructor
  · rintro ((h | h) | h)
    · exact .inr (List.mem_of_mem_take h)
    · exact .inl h
    · exact .inr (List.mem_of_mem_drop h)
  · rintro (h | h)
    · exact .inl (.inr h)
    · rw [← List.take_append_drop z.toNat xs, List.mem_append] at h
      rcases h with h | h
      · exact .inl (.inl h)
      · exact .inr h
theorem ins_len {α : Type} (xs : List α) (z : Int) (x : α) : (insL xs z x).length = xs.length + 1 := by
  unfold insL
  simp only [List.length_append, List.length_take, List.length_drop, List.length_cons, List.length_nil]
  omega
theorem sl_mem {α : Type} {xs : List α} {a b c : Option Int} {y : α} (h : y ∈ pySlice xs a b c) : y ∈ xs := by
  unfold pySlice at h
  obtain ⟨i, _, e⟩ := List.mem_filterMap.mp h
  exact List.mem_of_getElem? e
theorem with_ends_ok {s : T2 (List (T3 Int Int Int)) (List (T3 Int Int Int))} (h : ShopOk s) (number : Int) : ShopOk (m_law_with_ends s number) ∧ Ends (m_law_with_ends s number) := by
  have hS : ShopOk (m_law_with_ends s number) := by
    unfold m_law_with_ends
    refine ⟨?_, ?_, ?_, ?_⟩
    · dsimp only; rw [ins_len, pySlice_take _ (by decide), List.length_take]; omega
    · dsimp only; rw [ins_len, pySlice_take _ (by decide), List.length_take]; omega
    · intro o ho
      rcases ins_mem.mp ho with e | e
      · subst e; exact ⟨by dsimp only; omega, by dsimp only; omega, by dsimp only; omega, by dsimp only; omega, by dsimp only; omega, by dsimp only; omega⟩
      · exact h.f o (sl_mem e)
    · intro o ho
      rcases ins_mem.mp ho with e | e
      · subst e; exact ⟨by dsimp only; omega, by dsimp only; omega, by dsimp only; omega, by dsimp only; omega, by dsimp only; omega, by dsimp only; omega⟩
      · exact h.w o (sl_mem e)
  refine ⟨hS, hS.am.1, hS.am.2, ?_, ?_⟩
  · unfold m_law_with_ends; exact ⟨_, ins_mem.mpr (.inl rfl), rfl, rfl⟩
  · unfold m_law_with_ends; exact ⟨_, ins_mem.mpr (.inl rfl), rfl, rfl⟩
theorem with_ends_pos (s : T2 (List (T3 Int Int Int)) (List (T3 Int Int Int))) (number : Int) : 0 < (m_law_with_ends s number).a.length ∧ 0 < (m_law_with_ends s number).b.length := by
  unfold m_law_with_ends
  dsimp only
  rw [ins_len, ins_len]
  omega
theorem fold_map {α β : Type} (g : α → β) (f : List β → α → List β) (hf : ∀ s x, f s x = s ++ [g x]) : ∀ (xs : List α) (s : List β), xs.foldl f s = s ++ xs.map g
  | [], s => by simp
  | x :: r, s => by rw [List.foldl_cons, fold_map g f hf r, hf]; simp
theorem closer_ok {w : T3 Int (List (T3 Int Int Int)) (List (T3 Int Int Int))} {s : T2 (List (T3 Int Int Int)) (List (T3 Int Int Int))} (h : SpOk w s) (u : T2 (List Int) (List Int)) : SpOk w (m_law_closer w s u) ∧ (m_law_closer w s u).a.length = s.a.length ∧ (m_law_closer w s u).b.length = s.b.length := by
  unfold m_law_closer
  dsimp only
  generalize hH : (([(1 : Int)] : List Int) ++ (w.c.map (fun (x_1 : (T3 Int Int Int)) => (x_1.b + w.a)))) ++ (s.b.map (fun (x_3 : (T3 Int Int Int)) => ((x_3.a + w.a) + (1 : Int)))) = high
  generalize hL : (iseq 0 (s.a.length : Int).toNat).foldl (m_law_closer_L1 s u) ((w.b.map (fun (x_4 : (T3 Int Int Int)) => x_4.b)) ++ ([((199 : Int) + w.a)] : List Int)) = low
  have h1 : 1 ≤ maxL high ∧ maxL high ≤ 251 := by
    have hlen : 0 < high.length := by rw [← hH]; simp
    refine ⟨maxL_ge (by rw [← hH]; simp), ?_⟩
    have hm := maxL_mem hlen
    rw [← hH] at hm
    have g1 := h.w.g1
    rcases List.mem_append.mp hm with hm | hm
    · rcases List.mem_append.mp hm with hm | hm
      · rw [← hH]; have := List.mem_singleton.mp hm; omega
      · obtain ⟨x, hx, e⟩ := List.mem_map.mp hm
        have := (h.w.c x hx).a2
        rw [← hH]; omega
    · obtain ⟨x, hx, e⟩ := List.mem_map.mp hm
      have := (h.b x hx).2
      rw [← hH]; omega
  have h2 : max 0 (minL low - w.a) ≤ 200 := by
    have hmono : ∀ (xs s0 : List Int) (y : Int), y ∈ s0 → y ∈ xs.foldl (m_law_closer_L1 s u) s0 := by
      intro xs
      induction xs with
      | nil => intro s0 y hy; exact hy
      | cons x r ih =>
        intro s0 y hy
        rw [List.foldl_cons]
        refine ih _ y ?_
        unfold m_law_closer_L1
        dsimp only
        cases ((decide ((s.a.getD x.toNat (T3.mk (0 : Int) (0 : Int) (0 : Int))).a < (250 : Int))) && (decide ((0 : Int) < (u.a.getD x.toNat (0 : Int))))) with
        | true => exact List.mem_append_left _ hy
        | false => exact hy
    have : minL low ≤ 199 + w.a := minL_le (by rw [← hL]; exact hmono _ _ _ (by simp))
    omega
  rw [fold_map (fun x : T3 Int Int Int => (T3.mk (([x.a, (maxL high)] : List Int).getD (bif (decide (x.a = (250 : Int))) then (1 : Int) else 0).toNat (0 : Int)) x.b x.c)) (m_law_closer_L2 high) (fun _ _ => rfl),
    fold_map (fun x : T3 Int Int Int => (T3.mk (([x.a, (max (0 : Int) ((minL low) - w.a))] : List Int).getD (bif (decide (x.a = (0 : Int))) then (1 : Int) else 0).toNat (0 : Int)) x.b x.c)) (m_law_closer_L3 low w) (fun _ _ => rfl)]
  simp only [List.nil_append]
  refine ⟨⟨h.w, by dsimp only; rw [List.length_map]; exact h.na, by dsimp only; rw [List.length_map]; exact h.nb, fun o ho => ?_, fun o ho => ?_⟩, List.length_map .., List.length_map ..⟩
  · obtain ⟨x, hx, e⟩ := List.mem_map.mp ho
    subst e
    have := h.a x hx
    dsimp only
    cases decide (x.a = 250)
    · exact this
    · exact h1
  · obtain ⟨x, hx, e⟩ := List.mem_map.mp ho
    subst e
    have := h.b x hx
    dsimp only
    cases decide (x.a = 0)
    · exact this
    · exact ⟨by show (0 : Int) ≤ max 0 _; omega, h2⟩
/-- as long as the shop's -/
structure PL (t : T2 (List Int) (List Int)) (s : T2 (List (T3 Int Int Int)) (List (T3 Int Int Int))) : Prop where
  a : t.a.length = s.a.length
  b : t.b.length = s.b.length
  pa : 0 < s.a.length
  pb : 0 < s.b.length
theorem PL.side {t : T2 (List Int) (List Int)} {s : T2 (List (T3 Int Int Int)) (List (T3 Int Int Int))} (h : PL t s) {k : Int} (hk : 0 ≤ k ∧ k < 2) : (t.list.getD k.toNat []).length = (s.list.getD k.toNat []).length ∧ 0 < (s.list.getD k.toNat []).length := by
  have : k = 0 ∨ k = 1 := by omega
  rcases this with e | e <;> subst e
  · exact ⟨h.a, h.pa⟩
  · exact ⟨h.b, h.pb⟩
theorem PL.put {t : T2 (List Int) (List Int)} {s : T2 (List (T3 Int Int Int)) (List (T3 Int Int Int))} (h : PL t s) {k : Int} (hk : 0 ≤ k ∧ k < 2) (i : Nat) (x : Int) : PL (putP t k ((t.list.getD k.toNat []).set i x)) s := by
  have : k = 0 ∨ k = 1 := by omega
  rcases this with e | e <;> subst e
  · exact ⟨(List.length_set ..).trans h.a, h.b, h.pa, h.pb⟩
  · exact ⟨h.a, (List.length_set ..).trans h.b, h.pa, h.pb⟩
theorem SpOk.part {w w' : T3 Int (List (T3 Int Int Int)) (List (T3 Int Int Int))} {s s' : T2 (List (T3 Int Int Int)) (List (T3 Int Int Int))} (h : SpOk w s) (e : w'.a = w.a) (hb : w'.b = w.b ∨ w'.b = []) (hc : w'.c = w.c ∨ w'.c = []) (ha' : s'.a = s.a ∨ s'.a = []) (hb' : s'.b = s.b ∨ s'.b = []) : SpOk w' s' := by
  refine ⟨⟨by rw [e]; exact h.w.g0, by rw [e]; exact h.w.g1, ?_, ?_, ?_, ?_⟩, ?_, ?_, ?_, ?_⟩
  · rcases hb with e | e <;> rw [e]; exact h.w.nh; exact Nat.zero_le _
  · rcases hc with e | e <;> rw [e]; exact h.w.nc; exact Nat.zero_le _
  · rcases hb with e | e <;> rw [e]; exact h.w.h; exact fun _ z => by cases z
  · rcases hc with e | e <;> rw [e]; exact h.w.c; exact fun _ z => by cases z
  · rcases ha' with e | e <;> rw [e]; exact h.na; exact Nat.zero_le _
  · rcases hb' with e | e <;> rw [e]; exact h.nb; exact Nat.zero_le _
  · rcases ha' with e | e <;> rw [e]; exact h.a; exact fun _ z => by cases z
  · rcases hb' with e | e <;> rw [e]; exact h.b; exact fun _ z => by cases z
theorem sides_ok {w w' : T3 Int (List (T3 Int Int Int)) (List (T3 Int Int Int))} {r : T2 (List (T3 Int Int Int)) (List (T3 Int Int Int))} {u : T2 (List Int) (List Int)} (h : SpOk w r) {x : T2 (T2 (List (T3 Int Int Int)) (List (T3 Int Int Int))) (T2 (List Int) (List Int))}
    (hx : x ∈ ([(T2.mk (T2.mk r.a ([] : (List (T3 Int Int Int)))) (T2.mk u.a ([] : (List Int)))), (T2.mk (T2.mk ([] : (List (T3 Int Int Int))) r.b) (T2.mk ([] : (List Int)) u.b)), (T2.mk (T2.mk ([] : (List (T3 Int Int Int))) ([] : (List (T3 Int Int Int)))) (T2.mk ([] : (List Int)) ([] : (List Int))))] : List (T2 (T2 (List (T3 Int Int Int)) (List (T3 Int Int Int))) (T2 (List Int) (List Int)))))
    (hw : w' ∈ ([w, (T3.mk w.a ([] : (List (T3 Int Int Int))) ([] : (List (T3 Int Int Int)))), (T3.mk w.a ([] : (List (T3 Int Int Int))) w.c), (T3.mk w.a w.b ([] : (List (T3 Int Int Int))))] : List (T3 Int (List (T3 Int Int Int)) (List (T3 Int Int Int))))) : SpOk w' x.a := by
  have hs : (x.a.a = r.a ∨ x.a.a = []) ∧ (x.a.b = r.b ∨ x.a.b = []) := by
    rcases List.mem_cons.mp hx with e | hx
    · subst e; exact ⟨.inl rfl, .inr rfl⟩
    · rcases List.mem_cons.mp hx with e | hx
      · subst e; exact ⟨.inr rfl, .inl rfl⟩
      · have := List.mem_singleton.mp hx
        subst this; exact ⟨.inr rfl, .inr rfl⟩
  have hw2 : w'.a = w.a ∧ (w'.b = w.b ∨ w'.b = []) ∧ (w'.c = w.c ∨ w'.c = []) := by
    rcases List.mem_cons.mp hw with e | hw
    · subst e; exact ⟨rfl, .inl rfl, .inl rfl⟩
    · rcases List.mem_cons.mp hw with e | hw
      · subst e; exact ⟨rfl, .inr rfl, .inr rfl⟩
      · rcases List.mem_cons.mp hw with e | hw
        · subst e; exact ⟨rfl, .inr rfl, .inl rfl⟩
        · have := List.mem_singleton.mp hw
          subst this; exact ⟨rfl, .inl rfl, .inr rfl⟩
  exact h.part hw2.1 hw2.2.1 hw2.2.2 hs.1 hs.2
theorem shop_r {w : T3 Int (List (T3 Int Int Int)) (List (T3 Int Int Int))} {s r : T2 (List (T3 Int Int Int)) (List (T3 Int Int Int))} {u : T2 (List Int) (List Int)} (h : SpOk w s) {b : Bool} {p : T2 (List (T3 Int Int Int)) (List (T3 Int Int Int)) → Bool} (e : (bif b then (bif p (m_law_closer w s u) then (.re false) else (.go (m_law_closer w s u))) else (.go s) : LR (T2 (List (T3 Int Int Int)) (List (T3 Int Int Int))) Bool) = .go r) : SpOk w r ∧ r.a.length = s.a.length ∧ r.b.length = s.b.length := by
  cases b with
  | false => cases e; exact ⟨h, rfl, rfl⟩
  | true =>
    have hc := closer_ok h u
    generalize m_law_closer w s u = z at *
    cases hp : p z with
    | true => rw [hp] at e; cases e
    | false => rw [hp] at e; cases e; exact hc
theorem PL.pos {t : T2 (List Int) (List Int)} {s : T2 (List (T3 Int Int Int)) (List (T3 Int Int Int))} (h : PL t s) {k : Int} (hk : 0 ≤ k ∧ k < 2) : 0 < (t.list.getD k.toNat []).length := by
  have := h.side hk
  omega
theorem len_pos {n : Nat} (h : 0 < n) : (0 : Int) < (n : Int) := by omega
theorem mod_in (z : Int) {n : Nat} (h : 0 < n) : 0 ≤ z % (n : Int) ∧ z % (n : Int) < (n : Int) := ⟨Int.emod_nonneg _ (by omega), Int.emod_lt_of_pos _ (by omega)⟩
theorem mod_in2 (z : Int) {n m : Nat} (h : 0 < n) (e : n = m) : z % (n : Int) < (m : Int) := by rw [← e]; exact (mod_in z h).2
theorem lt_len {x : Int} {n m : Nat} (h : x < (n : Int)) (e : n = m) : x < (m : Int) := by rw [← e]; exact h
theorem chg1 (z : Int) {k : Int} (hk : 0 ≤ k ∧ k < 51) : -(2 ^ 64) < ([1, k] : List Int).getD (z % 2).toNat 0 ∧ ([1, k] : List Int).getD (z % 2).toNat 0 < 2 ^ 64 := by
  have : (z % 2).toNat = 0 ∨ (z % 2).toNat = 1 := by omega
  rcases this with e | e <;> rw [e]
  · exact ⟨by show _ < (1 : Int); decide, by show (1 : Int) < _; decide⟩
  · exact ⟨by show _ < k; omega, by show k < _; omega⟩

def r_law (ds : List Dat) (d : Dat) : Prop := ∃ (script : (List Int)), ds = [dt script] ∧ d = dt (m_law script)
abbrev s_law : Stmt := topS 23
theorem sc_law : FnScope ["script", "works", "head", "shop", "buying", "handed", "plain", "sides", "some", "part", "one", "cell", "other", "side", "at", "change", "twin"] ["script"] (defScope s_law) := ⟨rfl, rfl, rfl, by decide +kernel, rfl, by decide +kernel, by decide +kernel⟩
theorem ok_law (T : Txt K mg) (H_law_amounts : FnAtO P w K mg base "_law_amounts" 2 ["offers", "script", "k"] r_law_amounts) (H_law_closer : FnAt P w K mg base "_law_closer" 1 ["works", "shop", "buying"] r_law_closer) (H_law_made : FnAt P w K mg base "_law_made" 3 ["works", "shop", "script"] r_law_made) (H_law_shop : FnAt P w K mg base "_law_shop" 3 ["script"] r_law_shop) (H_law_stir : FnAt P w K mg base "_law_stir" 1 ["cell", "k"] r_law_stir) (H_law_told : FnAt P w K mg base "_law_told" 4 ["works", "shop", "buying"] r_law_told) (H_law_with_ends : FnAt P w K mg base "_law_with_ends" 1 ["shop", "number"] r_law_with_ends) (H_law_works : FnAt P w K mg base "_law_works" 3 ["script"] r_law_works) {f : Addr} {fd : FuncData} (F : Fun K "law" "law" s_law f fd) : FnOk P w K mg base CX0 5 f fd ["script"] (PSp K r_law) := by
  refine fn_pure F sc_law (fun ds d h => by obtain ⟨_, rfl, _⟩ := h; rfl) fun cdv A outer s H E ds d hr h => ?_
  obtain ⟨script, rfl, rfl⟩ := h
  refine bv_let (of := fun works => .rt (dt (let head : Int := (pySlice script (some (0 : Int)) (some (63 : Int)) (some (37 : Int))).sum; (let shop : (T2 (List (T3 Int Int Int)) (List (T3 Int Int Int))) := (m_law_with_ends (m_law_shop script) (m_law_stir head (7 : Int))); (let buying : (T2 (List Int) (List Int)) := (m_law_made works shop script); (let handed : (T3 Int (List (T3 Int Int Int)) (List (T3 Int Int Int))) := (T3.mk works.a works.b works.c); (bif ((!(m_law_told handed shop buying)) || (!decide (handed = works))) then false else (let plain : (T2 (List (T3 Int Int Int)) (List (T3 Int Int Int))) := (m_law_shop script); (bif (!(m_law_told handed plain (T2.mk (m_law_amounts plain.a script (600 : Int)) (m_law_amounts plain.b script (700 : Int))))) then false else ((bif (decide (((m_law_stir head (9 : Int)) % (2 : Int)) = (1 : Int))) then (let shop_1 : (T2 (List (T3 Int Int Int)) (List (T3 Int Int Int))) := (m_law_closer works shop buying); (bif (!(m_law_told handed shop_1 buying)) then (.re false) else (.go shop_1))) else (.go shop) : LR ((T2 (List (T3 Int Int Int)) (List (T3 Int Int Int)))) Bool).fin (fun (r : (T2 (List (T3 Int Int Int)) (List (T3 Int Int Int)))) => (let sides : (List (T2 (T2 (List (T3 Int Int Int)) (List (T3 Int Int Int))) (T2 (List Int) (List Int)))) := ([(T2.mk (T2.mk r.a ([] : (List (T3 Int Int Int)))) (T2.mk buying.a ([] : (List Int)))), (T2.mk (T2.mk ([] : (List (T3 Int Int Int))) r.b) (T2.mk ([] : (List Int)) buying.b)), (T2.mk (T2.mk ([] : (List (T3 Int Int Int))) ([] : (List (T3 Int Int Int)))) (T2.mk ([] : (List Int)) ([] : (List Int))))] : List (T2 (T2 (List (T3 Int Int Int)) (List (T3 Int Int Int))) (T2 (List Int) (List Int)))); ((runL (m_law_L1 works) () sides).fin (fun (r_2 : Unit) => ((runL (m_law_L3 handed r buying) () (pySlice script none (some (30 : Int)) none)).fin (fun (r_3 : Unit) => true)))))))))))))))) (sv_set 1 sc_law.nd (ev_fn H_law_works hr (by decide) (ea_cons (ev_var 0 rfl) ea_nil) ⟨_, rfl, rfl⟩)) ?_
  intro works e_works
  have hw : WorksOk works := e_works ▸ works_ok script
  refine bv_let (of := fun head => .rt (dt (let shop : (T2 (List (T3 Int Int Int)) (List (T3 Int Int Int))) := (m_law_with_ends (m_law_shop script) (m_law_stir head (7 : Int))); (let buying : (T2 (List Int) (List Int)) := (m_law_made works shop script); (let handed : (T3 Int (List (T3 Int Int Int)) (List (T3 Int Int Int))) := (T3.mk works.a works.b works.c); (bif ((!(m_law_told handed shop buying)) || (!decide (handed = works))) then false else (let plain : (T2 (List (T3 Int Int Int)) (List (T3 Int Int Int))) := (m_law_shop script); (bif (!(m_law_told handed plain (T2.mk (m_law_amounts plain.a script (600 : Int)) (m_law_amounts plain.b script (700 : Int))))) then false else ((bif (decide (((m_law_stir head (9 : Int)) % (2 : Int)) = (1 : Int))) then (let shop_1 : (T2 (List (T3 Int Int Int)) (List (T3 Int Int Int))) := (m_law_closer works shop buying); (bif (!(m_law_told handed shop_1 buying)) then (.re false) else (.go shop_1))) else (.go shop) : LR ((T2 (List (T3 Int Int Int)) (List (T3 Int Int Int)))) Bool).fin (fun (r : (T2 (List (T3 Int Int Int)) (List (T3 Int Int Int)))) => (let sides : (List (T2 (T2 (List (T3 Int Int Int)) (List (T3 Int Int Int))) (T2 (List Int) (List Int)))) := ([(T2.mk (T2.mk r.a ([] : (List (T3 Int Int Int)))) (T2.mk buying.a ([] : (List Int)))), (T2.mk (T2.mk ([] : (List (T3 Int Int Int))) r.b) (T2.mk ([] : (List Int)) buying.b)), (T2.mk (T2.mk ([] : (List (T3 Int Int Int))) ([] : (List (T3 Int Int Int)))) (T2.mk ([] : (List Int)) ([] : (List Int))))] : List (T2 (T2 (List (T3 Int Int Int)) (List (T3 Int Int Int))) (T2 (List Int) (List Int)))); ((runL (m_law_L1 works) () sides).fin (fun (r_2 : Unit) => ((runL (m_law_L3 handed r buying) () (pySlice script none (some (30 : Int)) none)).fin (fun (r_3 : Unit) => true))))))))))))))) (sv_set 2 sc_law.nd (ev_sum rfl T.z_sum (ev_new (en_slice (ev_var 0 rfl) (eo_some ev_int) (eo_some ev_int) (eo_some ev_int) (by decide))))) ?_
  intro head e_head
  refine bv_let (of := fun shop => .rt (dt (let buying : (T2 (List Int) (List Int)) := (m_law_made works shop script); (let handed : (T3 Int (List (T3 Int Int Int)) (List (T3 Int Int Int))) := (T3.mk works.a works.b works.c); (bif ((!(m_law_told handed shop buying)) || (!decide (handed = works))) then false else (let plain : (T2 (List (T3 Int Int Int)) (List (T3 Int Int Int))) := (m_law_shop script); (bif (!(m_law_told handed plain (T2.mk (m_law_amounts plain.a script (600 : Int)) (m_law_amounts plain.b script (700 : Int))))) then false else ((bif (decide (((m_law_stir head (9 : Int)) % (2 : Int)) = (1 : Int))) then (let shop_1 : (T2 (List (T3 Int Int Int)) (List (T3 Int Int Int))) := (m_law_closer works shop buying); (bif (!(m_law_told handed shop_1 buying)) then (.re false) else (.go shop_1))) else (.go shop) : LR ((T2 (List (T3 Int Int Int)) (List (T3 Int Int Int)))) Bool).fin (fun (r : (T2 (List (T3 Int Int Int)) (List (T3 Int Int Int)))) => (let sides : (List (T2 (T2 (List (T3 Int Int Int)) (List (T3 Int Int Int))) (T2 (List Int) (List Int)))) := ([(T2.mk (T2.mk r.a ([] : (List (T3 Int Int Int)))) (T2.mk buying.a ([] : (List Int)))), (T2.mk (T2.mk ([] : (List (T3 Int Int Int))) r.b) (T2.mk ([] : (List Int)) buying.b)), (T2.mk (T2.mk ([] : (List (T3 Int Int Int))) ([] : (List (T3 Int Int Int)))) (T2.mk ([] : (List Int)) ([] : (List Int))))] : List (T2 (T2 (List (T3 Int Int Int)) (List (T3 Int Int Int))) (T2 (List Int) (List Int)))); ((runL (m_law_L1 works) () sides).fin (fun (r_2 : Unit) => ((runL (m_law_L3 handed r buying) () (pySlice script none (some (30 : Int)) none)).fin (fun (r_3 : Unit) => true)))))))))))))) (sv_set 3 sc_law.nd (ev_fn H_law_with_ends hr (by decide) (ea_cons (ev_fn H_law_shop hr (by decide) (ea_cons (ev_var 0 rfl) ea_nil) ⟨_, rfl, rfl⟩) (ea_cons (ev_fn H_law_stir hr (by decide) (ea_cons (ev_var 2 rfl) (ea_cons ev_int ea_nil)) ⟨_, _, rfl, rfl⟩) ea_nil)) ⟨_, _, rfl, ⟨(shop_ok script).nf, (shop_ok script).nw⟩, rfl⟩)) ?_
  intro shop e_shop
  have hE := with_ends_ok (shop_ok script) (m_law_stir head 7); have hS : ShopOk shop := e_shop ▸ hE.1; have hEn : Ends shop := e_shop ▸ hE.2; have hp0 : 0 < shop.a.length ∧ 0 < shop.b.length := e_shop ▸ with_ends_pos _ _
  refine bv_let (of := fun buying => .rt (dt (let handed : (T3 Int (List (T3 Int Int Int)) (List (T3 Int Int Int))) := (T3.mk works.a works.b works.c); (bif ((!(m_law_told handed shop buying)) || (!decide (handed = works))) then false else (let plain : (T2 (List (T3 Int Int Int)) (List (T3 Int Int Int))) := (m_law_shop script); (bif (!(m_law_told handed plain (T2.mk (m_law_amounts plain.a script (600 : Int)) (m_law_amounts plain.b script (700 : Int))))) then false else ((bif (decide (((m_law_stir head (9 : Int)) % (2 : Int)) = (1 : Int))) then (let shop_1 : (T2 (List (T3 Int Int Int)) (List (T3 Int Int Int))) := (m_law_closer works shop buying); (bif (!(m_law_told handed shop_1 buying)) then (.re false) else (.go shop_1))) else (.go shop) : LR ((T2 (List (T3 Int Int Int)) (List (T3 Int Int Int)))) Bool).fin (fun (r : (T2 (List (T3 Int Int Int)) (List (T3 Int Int Int)))) => (let sides : (List (T2 (T2 (List (T3 Int Int Int)) (List (T3 Int Int Int))) (T2 (List Int) (List Int)))) := ([(T2.mk (T2.mk r.a ([] : (List (T3 Int Int Int)))) (T2.mk buying.a ([] : (List Int)))), (T2.mk (T2.mk ([] : (List (T3 Int Int Int))) r.b) (T2.mk ([] : (List Int)) buying.b)), (T2.mk (T2.mk ([] : (List (T3 Int Int Int))) ([] : (List (T3 Int Int Int)))) (T2.mk ([] : (List Int)) ([] : (List Int))))] : List (T2 (T2 (List (T3 Int Int Int)) (List (T3 Int Int Int))) (T2 (List Int) (List Int)))); ((runL (m_law_L1 works) () sides).fin (fun (r_2 : Unit) => ((runL (m_law_L3 handed r buying) () (pySlice script none (some (30 : Int)) none)).fin (fun (r_3 : Unit) => true))))))))))))) (sv_set 4 sc_law.nd (ev_fn H_law_made hr (by decide) (ea_cons (ev_var 1 rfl) (ea_cons (ev_var 3 rfl) (ea_cons (ev_var 0 rfl) ea_nil))) ⟨_, _, _, rfl, ⟨hS.sp hw, hEn⟩, rfl⟩)) ?_
  intro buying e_buying
  have hbl : buying.a.length = shop.a.length ∧ buying.b.length = shop.b.length := e_buying ▸ made_len
  refine bv_let (of := fun handed => .rt (dt (bif ((!(m_law_told handed shop buying)) || (!decide (handed = works))) then false else (let plain : (T2 (List (T3 Int Int Int)) (List (T3 Int Int Int))) := (m_law_shop script); (bif (!(m_law_told handed plain (T2.mk (m_law_amounts plain.a script (600 : Int)) (m_law_amounts plain.b script (700 : Int))))) then false else ((bif (decide (((m_law_stir head (9 : Int)) % (2 : Int)) = (1 : Int))) then (let shop_1 : (T2 (List (T3 Int Int Int)) (List (T3 Int Int Int))) := (m_law_closer works shop buying); (bif (!(m_law_told handed shop_1 buying)) then (.re false) else (.go shop_1))) else (.go shop) : LR ((T2 (List (T3 Int Int Int)) (List (T3 Int Int Int)))) Bool).fin (fun (r : (T2 (List (T3 Int Int Int)) (List (T3 Int Int Int)))) => (let sides : (List (T2 (T2 (List (T3 Int Int Int)) (List (T3 Int Int Int))) (T2 (List Int) (List Int)))) := ([(T2.mk (T2.mk r.a ([] : (List (T3 Int Int Int)))) (T2.mk buying.a ([] : (List Int)))), (T2.mk (T2.mk ([] : (List (T3 Int Int Int))) r.b) (T2.mk ([] : (List Int)) buying.b)), (T2.mk (T2.mk ([] : (List (T3 Int Int Int))) ([] : (List (T3 Int Int Int)))) (T2.mk ([] : (List Int)) ([] : (List Int))))] : List (T2 (T2 (List (T3 Int Int Int)) (List (T3 Int Int Int))) (T2 (List Int) (List Int)))); ((runL (m_law_L1 works) () sides).fin (fun (r_2 : Unit) => ((runL (m_law_L3 handed r buying) () (pySlice script none (some (30 : Int)) none)).fin (fun (r_3 : Unit) => true)))))))))))) (sv_set 5 sc_law.nd (ev_t3 (ea_cons (ev_tixv 0 (works.a) (ev_var 1 rfl)) (ea_cons (ev_new (en_list T.z_list (ev_tixv 1 (works.b) (ev_var 1 rfl)))) (ea_cons (ev_new (en_list T.z_list (ev_tixv 2 (works.c) (ev_var 1 rfl)))) ea_nil))))) ?_
  intro handed e_handed
  have hh : handed = works := e_handed
  refine bv_ifx (of := fun b_6 => .rt (dt (bif b_6 then false else (let plain : (T2 (List (T3 Int Int Int)) (List (T3 Int Int Int))) := (m_law_shop script); (bif (!(m_law_told handed plain (T2.mk (m_law_amounts plain.a script (600 : Int)) (m_law_amounts plain.b script (700 : Int))))) then false else ((bif (decide (((m_law_stir head (9 : Int)) % (2 : Int)) = (1 : Int))) then (let shop_1 : (T2 (List (T3 Int Int Int)) (List (T3 Int Int Int))) := (m_law_closer works shop buying); (bif (!(m_law_told handed shop_1 buying)) then (.re false) else (.go shop_1))) else (.go shop) : LR ((T2 (List (T3 Int Int Int)) (List (T3 Int Int Int)))) Bool).fin (fun (r : (T2 (List (T3 Int Int Int)) (List (T3 Int Int Int)))) => (let sides : (List (T2 (T2 (List (T3 Int Int Int)) (List (T3 Int Int Int))) (T2 (List Int) (List Int)))) := ([(T2.mk (T2.mk r.a ([] : (List (T3 Int Int Int)))) (T2.mk buying.a ([] : (List Int)))), (T2.mk (T2.mk ([] : (List (T3 Int Int Int))) r.b) (T2.mk ([] : (List Int)) buying.b)), (T2.mk (T2.mk ([] : (List (T3 Int Int Int))) ([] : (List (T3 Int Int Int)))) (T2.mk ([] : (List Int)) ([] : (List Int))))] : List (T2 (T2 (List (T3 Int Int Int)) (List (T3 Int Int Int))) (T2 (List Int) (List Int)))); ((runL (m_law_L1 works) () sides).fin (fun (r_2 : Unit) => ((runL (m_law_L3 handed r buying) () (pySlice script none (some (30 : Int)) none)).fin (fun (r_3 : Unit) => true)))))))))))) (et_w (ew_or (et_not (et_val (ev_fn H_law_told hr (by decide) (ea_cons (ev_var 5 rfl) (ea_cons (ev_var 3 rfl) (ea_cons (ev_var 4 rfl) ea_nil))) ⟨_, _, _, rfl, (by first | (rw [hh]; exact hS.sp hw) | (rw [hh]; exact (shop_ok script).sp hw) | (rw [e_plain, hh]; exact (shop_ok script).sp hw) | (rw [hh]; exact (closer_ok (hS.sp hw) buying).1) | (rw [e_shop_1, hh]; exact (closer_ok (hS.sp hw) buying).1) | (rw [hh]; exact hR.1) | exact sides_ok hR.1 (by rw [← e_sides, hx]; simp) (by rw [hx_1]; simp)), rfl⟩))) (fun hb => (ew_or1 (et_dne hr.units (ev_var 5 rfl) (ev_var 1 rfl) (OkAll.all _) (OkAll.all _)))))) ?_ (by first | trivial | exact xo_ex _) ?_
  · intro hc
    exact bv_ret ev_bl
  · intro hc
    refine bv_let (of := fun plain => .rt (dt (bif (!(m_law_told handed plain (T2.mk (m_law_amounts plain.a script (600 : Int)) (m_law_amounts plain.b script (700 : Int))))) then false else ((bif (decide (((m_law_stir head (9 : Int)) % (2 : Int)) = (1 : Int))) then (let shop_1 : (T2 (List (T3 Int Int Int)) (List (T3 Int Int Int))) := (m_law_closer works shop buying); (bif (!(m_law_told handed shop_1 buying)) then (.re false) else (.go shop_1))) else (.go shop) : LR ((T2 (List (T3 Int Int Int)) (List (T3 Int Int Int)))) Bool).fin (fun (r : (T2 (List (T3 Int Int Int)) (List (T3 Int Int Int)))) => (let sides : (List (T2 (T2 (List (T3 Int Int Int)) (List (T3 Int Int Int))) (T2 (List Int) (List Int)))) := ([(T2.mk (T2.mk r.a ([] : (List (T3 Int Int Int)))) (T2.mk buying.a ([] : (List Int)))), (T2.mk (T2.mk ([] : (List (T3 Int Int Int))) r.b) (T2.mk ([] : (List Int)) buying.b)), (T2.mk (T2.mk ([] : (List (T3 Int Int Int))) ([] : (List (T3 Int Int Int)))) (T2.mk ([] : (List Int)) ([] : (List Int))))] : List (T2 (T2 (List (T3 Int Int Int)) (List (T3 Int Int Int))) (T2 (List Int) (List Int)))); ((runL (m_law_L1 works) () sides).fin (fun (r_2 : Unit) => ((runL (m_law_L3 handed r buying) () (pySlice script none (some (30 : Int)) none)).fin (fun (r_3 : Unit) => true)))))))))) (sv_set 6 sc_law.nd (ev_fn H_law_shop hr (by decide) (ea_cons (ev_var 0 rfl) ea_nil) ⟨_, rfl, rfl⟩)) ?_
    intro plain e_plain
    refine bv_ifx (of := fun b_5 => .rt (dt (bif b_5 then false else ((bif (decide (((m_law_stir head (9 : Int)) % (2 : Int)) = (1 : Int))) then (let shop_1 : (T2 (List (T3 Int Int Int)) (List (T3 Int Int Int))) := (m_law_closer works shop buying); (bif (!(m_law_told handed shop_1 buying)) then (.re false) else (.go shop_1))) else (.go shop) : LR ((T2 (List (T3 Int Int Int)) (List (T3 Int Int Int)))) Bool).fin (fun (r : (T2 (List (T3 Int Int Int)) (List (T3 Int Int Int)))) => (let sides : (List (T2 (T2 (List (T3 Int Int Int)) (List (T3 Int Int Int))) (T2 (List Int) (List Int)))) := ([(T2.mk (T2.mk r.a ([] : (List (T3 Int Int Int)))) (T2.mk buying.a ([] : (List Int)))), (T2.mk (T2.mk ([] : (List (T3 Int Int Int))) r.b) (T2.mk ([] : (List Int)) buying.b)), (T2.mk (T2.mk ([] : (List (T3 Int Int Int))) ([] : (List (T3 Int Int Int)))) (T2.mk ([] : (List Int)) ([] : (List Int))))] : List (T2 (T2 (List (T3 Int Int Int)) (List (T3 Int Int Int))) (T2 (List Int) (List Int)))); ((runL (m_law_L1 works) () sides).fin (fun (r_2 : Unit) => ((runL (m_law_L3 handed r buying) () (pySlice script none (some (30 : Int)) none)).fin (fun (r_3 : Unit) => true)))))))))) (et_not (et_val (ev_fn H_law_told hr (by decide) (ea_cons (ev_var 5 rfl) (ea_cons (ev_var 6 rfl) (ea_cons (ev_t2 (ea_cons (ev_newFz (en_fnO H_law_amounts hr (by decide) (ea_cons (ev_tixv 0 (plain.a) (ev_var 6 rfl)) (ea_cons (ev_var 0 rfl) (ea_cons ev_int ea_nil))) ⟨_, _, _, rfl, (by rw [e_plain]; first | exact (shop_ok script).am.1 | exact (shop_ok script).am.2), rfl⟩)) (ea_cons (ev_newFz (en_fnO H_law_amounts hr (by decide) (ea_cons (ev_tixv 1 (plain.b) (ev_var 6 rfl)) (ea_cons (ev_var 0 rfl) (ea_cons ev_int ea_nil))) ⟨_, _, _, rfl, (by rw [e_plain]; first | exact (shop_ok script).am.1 | exact (shop_ok script).am.2), rfl⟩)) ea_nil))) ea_nil))) ⟨_, _, _, rfl, (by first | (rw [hh]; exact hS.sp hw) | (rw [hh]; exact (shop_ok script).sp hw) | (rw [e_plain, hh]; exact (shop_ok script).sp hw) | (rw [hh]; exact (closer_ok (hS.sp hw) buying).1) | (rw [e_shop_1, hh]; exact (closer_ok (hS.sp hw) buying).1) | (rw [hh]; exact hR.1) | exact sides_ok hR.1 (by rw [← e_sides, hx]; simp) (by rw [hx_1]; simp)), rfl⟩))) ?_ (by first | trivial | exact xo_ex _) ?_
    · intro hc_1
      exact bv_ret ev_bl
    · intro hc_1
      refine bv_forR (Env := fun (r : (T2 (List (T3 Int Int Int)) (List (T3 Int Int Int)))) => [.v (script : (List Int)), .v (works : (T3 Int (List (T3 Int Int Int)) (List (T3 Int Int Int)))), .v (head : Int), .v (r : (T2 (List (T3 Int Int Int)) (List (T3 Int Int Int)))), .v (buying : (T2 (List Int) (List Int))), .v (handed : (T3 Int (List (T3 Int Int Int)) (List (T3 Int Int Int)))), .v (plain : (T2 (List (T3 Int Int Int)) (List (T3 Int Int Int)))), .any, .any, .any, .any, .any, .any, .any, .any, .any, .any]) (r := (bif (decide (((m_law_stir head (9 : Int)) % (2 : Int)) = (1 : Int))) then (let shop_1 : (T2 (List (T3 Int Int Int)) (List (T3 Int Int Int))) := (m_law_closer works shop buying); (bif (!(m_law_told handed shop_1 buying)) then (.re false) else (.go shop_1))) else (.go shop) : LR ((T2 (List (T3 Int Int Int)) (List (T3 Int Int Int)))) Bool)) (g := fun (r : (T2 (List (T3 Int Int Int)) (List (T3 Int Int Int)))) => (let sides : (List (T2 (T2 (List (T3 Int Int Int)) (List (T3 Int Int Int))) (T2 (List Int) (List Int)))) := ([(T2.mk (T2.mk r.a ([] : (List (T3 Int Int Int)))) (T2.mk buying.a ([] : (List Int)))), (T2.mk (T2.mk ([] : (List (T3 Int Int Int))) r.b) (T2.mk ([] : (List Int)) buying.b)), (T2.mk (T2.mk ([] : (List (T3 Int Int Int))) ([] : (List (T3 Int Int Int)))) (T2.mk ([] : (List Int)) ([] : (List Int))))] : List (T2 (T2 (List (T3 Int Int Int)) (List (T3 Int Int Int))) (T2 (List Int) (List Int)))); ((runL (m_law_L1 works) () sides).fin (fun (r_2 : Unit) => ((runL (m_law_L3 handed r buying) () (pySlice script none (some (30 : Int)) none)).fin (fun (r_3 : Unit) => true)))))) ?_ ?_
      · refine (sv_ifo (of := fun b_1 => LR.out (fun (r : (T2 (List (T3 Int Int Int)) (List (T3 Int Int Int)))) => [.v (script : (List Int)), .v (works : (T3 Int (List (T3 Int Int Int)) (List (T3 Int Int Int)))), .v (head : Int), .v (r : (T2 (List (T3 Int Int Int)) (List (T3 Int Int Int)))), .v (buying : (T2 (List Int) (List Int))), .v (handed : (T3 Int (List (T3 Int Int Int)) (List (T3 Int Int Int)))), .v (plain : (T2 (List (T3 Int Int Int)) (List (T3 Int Int Int)))), .any, .any, .any, .any, .any, .any, .any, .any, .any, .any]) (bif b_1 then (let shop_1 : (T2 (List (T3 Int Int Int)) (List (T3 Int Int Int))) := (m_law_closer works shop buying); (bif (!(m_law_told handed shop_1 buying)) then (.re false) else (.go shop_1))) else (.go shop) : LR ((T2 (List (T3 Int Int Int)) (List (T3 Int Int Int)))) Bool)) (et_eq (ev_mod (ev_fn H_law_stir hr (by decide) (ea_cons (ev_var 2 rfl) (ea_cons ev_int ea_nil)) ⟨_, _, rfl, rfl⟩) ev_int (by first | decide | omega | (split <;> omega))) ev_int) ?_ ?_)
        · intro hc_2
          refine bv_let (of := fun shop_1 => LR.out (fun (r : (T2 (List (T3 Int Int Int)) (List (T3 Int Int Int)))) => [.v (script : (List Int)), .v (works : (T3 Int (List (T3 Int Int Int)) (List (T3 Int Int Int)))), .v (head : Int), .v (r : (T2 (List (T3 Int Int Int)) (List (T3 Int Int Int)))), .v (buying : (T2 (List Int) (List Int))), .v (handed : (T3 Int (List (T3 Int Int Int)) (List (T3 Int Int Int)))), .v (plain : (T2 (List (T3 Int Int Int)) (List (T3 Int Int Int)))), .any, .any, .any, .any, .any, .any, .any, .any, .any, .any]) (bif (!(m_law_told handed shop_1 buying)) then (.re false) else (.go shop_1))) (sv_set 3 sc_law.nd (ev_fn H_law_closer hr (by decide) (ea_cons (ev_var 1 rfl) (ea_cons (ev_var 3 rfl) (ea_cons (ev_var 4 rfl) ea_nil))) ⟨_, _, _, rfl, ⟨hS.sp hw, hbl.1⟩, rfl⟩)) ?_
          intro shop_1 e_shop_1
          refine bv_ifx (of := fun b => LR.out (fun (r : (T2 (List (T3 Int Int Int)) (List (T3 Int Int Int)))) => [.v (script : (List Int)), .v (works : (T3 Int (List (T3 Int Int Int)) (List (T3 Int Int Int)))), .v (head : Int), .v (r : (T2 (List (T3 Int Int Int)) (List (T3 Int Int Int)))), .v (buying : (T2 (List Int) (List Int))), .v (handed : (T3 Int (List (T3 Int Int Int)) (List (T3 Int Int Int)))), .v (plain : (T2 (List (T3 Int Int Int)) (List (T3 Int Int Int)))), .any, .any, .any, .any, .any, .any, .any, .any, .any, .any]) (bif b then (.re false) else (.go shop_1))) (et_not (et_val (ev_fn H_law_told hr (by decide) (ea_cons (ev_var 5 rfl) (ea_cons (ev_var 3 rfl) (ea_cons (ev_var 4 rfl) ea_nil))) ⟨_, _, _, rfl, (by first | (rw [hh]; exact hS.sp hw) | (rw [hh]; exact (shop_ok script).sp hw) | (rw [e_plain, hh]; exact (shop_ok script).sp hw) | (rw [hh]; exact (closer_ok (hS.sp hw) buying).1) | (rw [e_shop_1, hh]; exact (closer_ok (hS.sp hw) buying).1) | (rw [hh]; exact hR.1) | exact sides_ok hR.1 (by rw [← e_sides, hx]; simp) (by rw [hx_1]; simp)), rfl⟩))) ?_ (by first | trivial | exact xo_ex _) ?_
          · intro hc_3
            exact bv_ret ev_bl
          · intro hc_3
            exact .nxs bv_nil (.eq (.eq (.eq (.eq (.eq (.eq (.eq (.any (.any (.any (.any (.any (.any (.any (.any (.any (.any .nil)))))))))))))))))
        · intro hc_2
          exact .nxs bv_nil (.eq (.eq (.eq (.eq (.eq (.eq (.eq (.any (.any (.any (.any (.any (.any (.any (.any (.any (.any .nil)))))))))))))))))
      intro r e_r
      have hR : SpOk works r ∧ r.a.length = shop.a.length ∧ r.b.length = shop.b.length := shop_r (p := fun z => !m_law_told handed z buying) (hS.sp hw) e_r; have hP : PL buying r := ⟨hbl.1.trans hR.2.1.symm, hbl.2.trans hR.2.2.symm, by omega, by omega⟩
      refine bv_let (of := fun sides => .rt (dt ((runL (m_law_L1 works) () sides).fin (fun (r_2 : Unit) => ((runL (m_law_L3 handed r buying) () (pySlice script none (some (30 : Int)) none)).fin (fun (r_3 : Unit) => true)))))) (sv_set 7 sc_law.nd (ev_new (en_lst (xs := ([(T2.mk (T2.mk r.a ([] : (List (T3 Int Int Int)))) (T2.mk buying.a ([] : (List Int)))), (T2.mk (T2.mk ([] : (List (T3 Int Int Int))) r.b) (T2.mk ([] : (List Int)) buying.b)), (T2.mk (T2.mk ([] : (List (T3 Int Int Int))) ([] : (List (T3 Int Int Int)))) (T2.mk ([] : (List Int)) ([] : (List Int))))] : List (T2 (T2 (List (T3 Int Int Int)) (List (T3 Int Int Int))) (T2 (List Int) (List Int))))) (ea_cons (ev_t2 (ea_cons (ev_t2 (ea_cons (ev_tixv 0 (r.a) (ev_var 3 rfl)) (ea_cons (ev_new (en_lst (xs := ([] : (List (T3 Int Int Int)))) ea_nil)) ea_nil))) (ea_cons (ev_t2 (ea_cons (ev_tixv 0 (buying.a) (ev_var 4 rfl)) (ea_cons (ev_new (en_lst (xs := ([] : (List Int))) ea_nil)) ea_nil))) ea_nil))) (ea_cons (ev_t2 (ea_cons (ev_t2 (ea_cons (ev_new (en_lst (xs := ([] : (List (T3 Int Int Int)))) ea_nil)) (ea_cons (ev_tixv 1 (r.b) (ev_var 3 rfl)) ea_nil))) (ea_cons (ev_t2 (ea_cons (ev_new (en_lst (xs := ([] : (List Int))) ea_nil)) (ea_cons (ev_tixv 1 (buying.b) (ev_var 4 rfl)) ea_nil))) ea_nil))) (ea_cons (ev_t2 (ea_cons (ev_t2 (ea_cons (ev_new (en_lst (xs := ([] : (List (T3 Int Int Int)))) ea_nil)) (ea_cons (ev_new (en_lst (xs := ([] : (List (T3 Int Int Int)))) ea_nil)) ea_nil))) (ea_cons (ev_t2 (ea_cons (ev_new (en_lst (xs := ([] : (List Int))) ea_nil)) (ea_cons (ev_new (en_lst (xs := ([] : (List Int))) ea_nil)) ea_nil))) ea_nil))) ea_nil)))))) ?_
      intro sides e_sides
      refine bv_forR (Env := fun (s : Unit) => [.v (script : (List Int)), .v (works : (T3 Int (List (T3 Int Int Int)) (List (T3 Int Int Int)))), .v (head : Int), .v (r : (T2 (List (T3 Int Int Int)) (List (T3 Int Int Int)))), .v (buying : (T2 (List Int) (List Int))), .v (handed : (T3 Int (List (T3 Int Int Int)) (List (T3 Int Int Int)))), .v (plain : (T2 (List (T3 Int Int Int)) (List (T3 Int Int Int)))), .v (sides : (List (T2 (T2 (List (T3 Int Int Int)) (List (T3 Int Int Int))) (T2 (List Int) (List Int))))), .any, .any, .any, .any, .any, .any, .any, .any, .any]) (r := runL (m_law_L1 works) () sides) (g := fun (r_2 : Unit) => ((runL (m_law_L3 handed r buying) () (pySlice script none (some (30 : Int)) none)).fin (fun (r_3 : Unit) => true))) ?_ ?_
      · refine sv_forL (fun (s : Unit) => [.v (script : (List Int)), .v (works : (T3 Int (List (T3 Int Int Int)) (List (T3 Int Int Int)))), .v (head : Int), .v (r : (T2 (List (T3 Int Int Int)) (List (T3 Int Int Int)))), .v (buying : (T2 (List Int) (List Int))), .v (handed : (T3 Int (List (T3 Int Int Int)) (List (T3 Int Int Int)))), .v (plain : (T2 (List (T3 Int Int Int)) (List (T3 Int Int Int)))), .v (sides : (List (T2 (T2 (List (T3 Int Int Int)) (List (T3 Int Int Int))) (T2 (List Int) (List Int))))), .any, .any, .any, .any, .any, .any, .any, .any, .any]) () (m_law_L1 works) (iv_list (ev_var 7 rfl)) (.eq (.eq (.eq (.eq (.eq (.eq (.eq (.eq (.any (.any (.any (.any (.any (.any (.any (.any (.any .nil))))))))))))))))) (fun (s : Unit) (x : (T2 (T2 (List (T3 Int Int Int)) (List (T3 Int Int Int))) (T2 (List Int) (List Int)))) => [.v (script : (List Int)), .v (works : (T3 Int (List (T3 Int Int Int)) (List (T3 Int Int Int)))), .v (head : Int), .v (r : (T2 (List (T3 Int Int Int)) (List (T3 Int Int Int)))), .v (buying : (T2 (List Int) (List Int))), .v (handed : (T3 Int (List (T3 Int Int Int)) (List (T3 Int Int Int)))), .v (plain : (T2 (List (T3 Int Int Int)) (List (T3 Int Int Int)))), .v (sides : (List (T2 (T2 (List (T3 Int Int Int)) (List (T3 Int Int Int))) (T2 (List Int) (List Int))))), .v (x.a : (T2 (List (T3 Int Int Int)) (List (T3 Int Int Int)))), .v (x.b : (T2 (List Int) (List Int))), .any, .any, .any, .any, .any, .any, .any]) (fun s x => (tv_tup (tvs_cons (tv_name 8 sc_law.nd) (tvs_cons (tv_name 9 sc_law.nd) tvs_nil)))) ?_ PassesOwn.never
        intro pre x post s hx hs
        refine bv_forB (Env := fun (s_1 : Unit) => [.v (script : (List Int)), .v (works : (T3 Int (List (T3 Int Int Int)) (List (T3 Int Int Int)))), .v (head : Int), .v (r : (T2 (List (T3 Int Int Int)) (List (T3 Int Int Int)))), .v (buying : (T2 (List Int) (List Int))), .v (handed : (T3 Int (List (T3 Int Int Int)) (List (T3 Int Int Int)))), .v (plain : (T2 (List (T3 Int Int Int)) (List (T3 Int Int Int)))), .v (sides : (List (T2 (T2 (List (T3 Int Int Int)) (List (T3 Int Int Int))) (T2 (List Int) (List Int))))), .v (x.a : (T2 (List (T3 Int Int Int)) (List (T3 Int Int Int)))), .v (x.b : (T2 (List Int) (List Int))), .any, .any, .any, .any, .any, .any, .any]) (r := runL (m_law_L2 x) () ([works, (T3.mk works.a ([] : (List (T3 Int Int Int))) ([] : (List (T3 Int Int Int)))), (T3.mk works.a ([] : (List (T3 Int Int Int))) works.c), (T3.mk works.a works.b ([] : (List (T3 Int Int Int))))] : List (T3 Int (List (T3 Int Int Int)) (List (T3 Int Int Int))))) (Env' := (fun (s : Unit) => [.v (script : (List Int)), .v (works : (T3 Int (List (T3 Int Int Int)) (List (T3 Int Int Int)))), .v (head : Int), .v (r : (T2 (List (T3 Int Int Int)) (List (T3 Int Int Int)))), .v (buying : (T2 (List Int) (List Int))), .v (handed : (T3 Int (List (T3 Int Int Int)) (List (T3 Int Int Int)))), .v (plain : (T2 (List (T3 Int Int Int)) (List (T3 Int Int Int)))), .v (sides : (List (T2 (T2 (List (T3 Int Int Int)) (List (T3 Int Int Int))) (T2 (List Int) (List Int))))), .any, .any, .any, .any, .any, .any, .any, .any, .any])) (g := fun (r_1 : Unit) => (.go ())) ?_ ?_
        · refine sv_forL (fun (s_1 : Unit) => [.v (script : (List Int)), .v (works : (T3 Int (List (T3 Int Int Int)) (List (T3 Int Int Int)))), .v (head : Int), .v (r : (T2 (List (T3 Int Int Int)) (List (T3 Int Int Int)))), .v (buying : (T2 (List Int) (List Int))), .v (handed : (T3 Int (List (T3 Int Int Int)) (List (T3 Int Int Int)))), .v (plain : (T2 (List (T3 Int Int Int)) (List (T3 Int Int Int)))), .v (sides : (List (T2 (T2 (List (T3 Int Int Int)) (List (T3 Int Int Int))) (T2 (List Int) (List Int))))), .v (x.a : (T2 (List (T3 Int Int Int)) (List (T3 Int Int Int)))), .v (x.b : (T2 (List Int) (List Int))), .any, .any, .any, .any, .any, .any, .any]) () (m_law_L2 x) (iv_list (ev_new (en_lst (xs := ([works, (T3.mk works.a ([] : (List (T3 Int Int Int))) ([] : (List (T3 Int Int Int)))), (T3.mk works.a ([] : (List (T3 Int Int Int))) works.c), (T3.mk works.a works.b ([] : (List (T3 Int Int Int))))] : List (T3 Int (List (T3 Int Int Int)) (List (T3 Int Int Int))))) (ea_cons (ev_var 1 rfl) (ea_cons (ev_t3 (ea_cons (ev_tixv 0 (works.a) (ev_var 1 rfl)) (ea_cons (ev_new (en_lst (xs := ([] : (List (T3 Int Int Int)))) ea_nil)) (ea_cons (ev_new (en_lst (xs := ([] : (List (T3 Int Int Int)))) ea_nil)) ea_nil)))) (ea_cons (ev_t3 (ea_cons (ev_tixv 0 (works.a) (ev_var 1 rfl)) (ea_cons (ev_new (en_lst (xs := ([] : (List (T3 Int Int Int)))) ea_nil)) (ea_cons (ev_tixv 2 (works.c) (ev_var 1 rfl)) ea_nil)))) (ea_cons (ev_t3 (ea_cons (ev_tixv 0 (works.a) (ev_var 1 rfl)) (ea_cons (ev_tixv 1 (works.b) (ev_var 1 rfl)) (ea_cons (ev_new (en_lst (xs := ([] : (List (T3 Int Int Int)))) ea_nil)) ea_nil)))) ea_nil))))))) (.eq (.eq (.eq (.eq (.eq (.eq (.eq (.eq (.eq (.eq (.any (.any (.any (.any (.any (.any (.any .nil))))))))))))))))) (fun (s_1 : Unit) (x_1 : (T3 Int (List (T3 Int Int Int)) (List (T3 Int Int Int)))) => [.v (script : (List Int)), .v (works : (T3 Int (List (T3 Int Int Int)) (List (T3 Int Int Int)))), .v (head : Int), .v (r : (T2 (List (T3 Int Int Int)) (List (T3 Int Int Int)))), .v (buying : (T2 (List Int) (List Int))), .v (handed : (T3 Int (List (T3 Int Int Int)) (List (T3 Int Int Int)))), .v (plain : (T2 (List (T3 Int Int Int)) (List (T3 Int Int Int)))), .v (sides : (List (T2 (T2 (List (T3 Int Int Int)) (List (T3 Int Int Int))) (T2 (List Int) (List Int))))), .v (x.a : (T2 (List (T3 Int Int Int)) (List (T3 Int Int Int)))), .v (x.b : (T2 (List Int) (List Int))), .v (x_1 : (T3 Int (List (T3 Int Int Int)) (List (T3 Int Int Int)))), .any, .any, .any, .any, .any, .any]) (fun s_1 x_1 => (tv_name 10 sc_law.nd)) ?_ PassesOwn.never
          intro pre x_1 post s_1 hx_1 hs_1
          refine bv_ifx (of := fun b_2 => LR.out (fun (s_1 : Unit) => [.v (script : (List Int)), .v (works : (T3 Int (List (T3 Int Int Int)) (List (T3 Int Int Int)))), .v (head : Int), .v (r : (T2 (List (T3 Int Int Int)) (List (T3 Int Int Int)))), .v (buying : (T2 (List Int) (List Int))), .v (handed : (T3 Int (List (T3 Int Int Int)) (List (T3 Int Int Int)))), .v (plain : (T2 (List (T3 Int Int Int)) (List (T3 Int Int Int)))), .v (sides : (List (T2 (T2 (List (T3 Int Int Int)) (List (T3 Int Int Int))) (T2 (List Int) (List Int))))), .v (x.a : (T2 (List (T3 Int Int Int)) (List (T3 Int Int Int)))), .v (x.b : (T2 (List Int) (List Int))), .any, .any, .any, .any, .any, .any, .any]) (bif b_2 then (.re false) else (.go ()))) (et_not (et_val (ev_fn H_law_told hr (by decide) (ea_cons (ev_var 10 rfl) (ea_cons (ev_var 8 rfl) (ea_cons (ev_var 9 rfl) ea_nil))) ⟨_, _, _, rfl, (by first | (rw [hh]; exact hS.sp hw) | (rw [hh]; exact (shop_ok script).sp hw) | (rw [e_plain, hh]; exact (shop_ok script).sp hw) | (rw [hh]; exact (closer_ok (hS.sp hw) buying).1) | (rw [e_shop_1, hh]; exact (closer_ok (hS.sp hw) buying).1) | (rw [hh]; exact hR.1) | exact sides_ok hR.1 (by rw [← e_sides, hx]; simp) (by rw [hx_1]; simp)), rfl⟩))) ?_ (by first | trivial | exact xo_ex _) ?_
          · intro hc_4
            exact bv_ret ev_bl
          · intro hc_4
            exact .nxs bv_nil (.eq (.eq (.eq (.eq (.eq (.eq (.eq (.eq (.eq (.eq (.any (.any (.any (.any (.any (.any (.any .nil)))))))))))))))))
        intro r_1 e_r_1
        exact .nxs bv_nil (.eq (.eq (.eq (.eq (.eq (.eq (.eq (.eq (.any (.any (.any (.any (.any (.any (.any (.any (.any .nil)))))))))))))))))
      intro r_2 e_r_2
      refine bv_forR (Env := fun (s_2 : Unit) => [.v (script : (List Int)), .v (works : (T3 Int (List (T3 Int Int Int)) (List (T3 Int Int Int)))), .v (head : Int), .v (r : (T2 (List (T3 Int Int Int)) (List (T3 Int Int Int)))), .v (buying : (T2 (List Int) (List Int))), .v (handed : (T3 Int (List (T3 Int Int Int)) (List (T3 Int Int Int)))), .v (plain : (T2 (List (T3 Int Int Int)) (List (T3 Int Int Int)))), .v (sides : (List (T2 (T2 (List (T3 Int Int Int)) (List (T3 Int Int Int))) (T2 (List Int) (List Int))))), .any, .any, .any, .any, .any, .any, .any, .any, .any]) (r := runL (m_law_L3 handed r buying) () (pySlice script none (some (30 : Int)) none)) (g := fun (r_3 : Unit) => true) ?_ ?_
      · refine sv_forL (fun (s_2 : Unit) => [.v (script : (List Int)), .v (works : (T3 Int (List (T3 Int Int Int)) (List (T3 Int Int Int)))), .v (head : Int), .v (r : (T2 (List (T3 Int Int Int)) (List (T3 Int Int Int)))), .v (buying : (T2 (List Int) (List Int))), .v (handed : (T3 Int (List (T3 Int Int Int)) (List (T3 Int Int Int)))), .v (plain : (T2 (List (T3 Int Int Int)) (List (T3 Int Int Int)))), .v (sides : (List (T2 (T2 (List (T3 Int Int Int)) (List (T3 Int Int Int))) (T2 (List Int) (List Int))))), .any, .any, .any, .any, .any, .any, .any, .any, .any]) () (m_law_L3 handed r buying) (iv_list (ev_new (en_slice (ev_var 0 rfl) eo_none (eo_some ev_int) eo_none (by decide)))) (.eq (.eq (.eq (.eq (.eq (.eq (.eq (.eq (.any (.any (.any (.any (.any (.any (.any (.any (.any .nil))))))))))))))))) (fun (s_2 : Unit) (x_2 : Int) => [.v (script : (List Int)), .v (works : (T3 Int (List (T3 Int Int Int)) (List (T3 Int Int Int)))), .v (head : Int), .v (r : (T2 (List (T3 Int Int Int)) (List (T3 Int Int Int)))), .v (buying : (T2 (List Int) (List Int))), .v (handed : (T3 Int (List (T3 Int Int Int)) (List (T3 Int Int Int)))), .v (plain : (T2 (List (T3 Int Int Int)) (List (T3 Int Int Int)))), .v (sides : (List (T2 (T2 (List (T3 Int Int Int)) (List (T3 Int Int Int))) (T2 (List Int) (List Int))))), .any, .any, .any, .v (x_2 : Int), .any, .any, .any, .any, .any]) (fun s_2 x_2 => (tv_name 11 sc_law.nd)) ?_ PassesOwn.never
        intro pre x_2 post s_2 hx_2 hs_2
        refine bv_letS (fun (other : (T2 (List Int) (List Int))) => [.v (script : (List Int)), .v (works : (T3 Int (List (T3 Int Int Int)) (List (T3 Int Int Int)))), .v (head : Int), .v (r : (T2 (List (T3 Int Int Int)) (List (T3 Int Int Int)))), .v (buying : (T2 (List Int) (List Int))), .v (handed : (T3 Int (List (T3 Int Int Int)) (List (T3 Int Int Int)))), .v (plain : (T2 (List (T3 Int Int Int)) (List (T3 Int Int Int)))), .v (sides : (List (T2 (T2 (List (T3 Int Int Int)) (List (T3 Int Int Int))) (T2 (List Int) (List Int))))), .any, .any, .any, .v (x_2 : Int), .o (MP.mk (other : (T2 (List Int) (List Int)))), .any, .any, .any, .any]) (of := fun other => LR.out (fun (s_2 : Unit) => [.v (script : (List Int)), .v (works : (T3 Int (List (T3 Int Int Int)) (List (T3 Int Int Int)))), .v (head : Int), .v (r : (T2 (List (T3 Int Int Int)) (List (T3 Int Int Int)))), .v (buying : (T2 (List Int) (List Int))), .v (handed : (T3 Int (List (T3 Int Int Int)) (List (T3 Int Int Int)))), .v (plain : (T2 (List (T3 Int Int Int)) (List (T3 Int Int Int)))), .v (sides : (List (T2 (T2 (List (T3 Int Int Int)) (List (T3 Int Int Int))) (T2 (List Int) (List Int))))), .any, .any, .any, .any, .any, .any, .any, .any, .any]) (let side : Int := ((m_law_stir x_2 (0 : Int)) % (2 : Int)); (let at_ : Int := ((m_law_stir x_2 (1 : Int)) % ((other.list.getD side.toNat ([] : (List Int))).length : Int)); (let change : Int := ((([(1 : Int), ((1 : Int) + ((m_law_stir x_2 (3 : Int)) % (50 : Int)))] : List Int).getD ((m_law_stir x_2 (4 : Int)) % (2 : Int)).toNat (0 : Int)) * (([(1 : Int), (-(1 : Int))] : List Int).getD ((m_law_stir x_2 (2 : Int)) % (2 : Int)).toNat (0 : Int))); (let other_1 : (T2 (List Int) (List Int)) := (putP other side ((other.list.getD side.toNat []).set at_.toNat (min ((r.list.getD side.toNat ([] : (List (T3 Int Int Int)))).getD at_.toNat (T3.mk (0 : Int) (0 : Int) (0 : Int))).c (max (0 : Int) (((other.list.getD side.toNat ([] : (List Int))).getD at_.toNat (0 : Int)) + change))))); (let b_3 := (decide ((0 : Int) < ((m_law_stir x_2 (5 : Int)) % (3 : Int)))); (bif (!(m_law_told handed r (bif b_3 then (putP other_1 ((1 : Int) - side) ((other_1.list.getD ((1 : Int) - side).toNat []).set ((m_law_stir x_2 (6 : Int)) % ((other_1.list.getD ((1 : Int) - side).toNat ([] : (List Int))).length : Int)).toNat (min ((r.list.getD ((1 : Int) - side).toNat ([] : (List (T3 Int Int Int)))).getD ((m_law_stir x_2 (6 : Int)) % ((other_1.list.getD ((1 : Int) - side).toNat ([] : (List Int))).length : Int)).toNat (T3.mk (0 : Int) (0 : Int) (0 : Int))).c (max (0 : Int) (((other_1.list.getD ((1 : Int) - side).toNat ([] : (List Int))).getD ((m_law_stir x_2 (6 : Int)) % ((other_1.list.getD ((1 : Int) - side).toNat ([] : (List Int))).length : Int)).toNat (0 : Int)) + change))))) else other_1))) then (.re false) else (.go ())))))))) (x := (T2.mk buying.a buying.b)) (sv_own 12 sc_law.nd (en_mp (en_list T.z_list (ev_tixv 0 (buying.a) (ev_var 4 rfl))) (en_list T.z_list (ev_tixv 1 (buying.b) (ev_var 4 rfl))))) ?_
        intro other e_other
        have hO : PL other r := by { rw [e_other]; exact hP }
        refine bv_let (of := fun side => LR.out (fun (s_2 : Unit) => [.v (script : (List Int)), .v (works : (T3 Int (List (T3 Int Int Int)) (List (T3 Int Int Int)))), .v (head : Int), .v (r : (T2 (List (T3 Int Int Int)) (List (T3 Int Int Int)))), .v (buying : (T2 (List Int) (List Int))), .v (handed : (T3 Int (List (T3 Int Int Int)) (List (T3 Int Int Int)))), .v (plain : (T2 (List (T3 Int Int Int)) (List (T3 Int Int Int)))), .v (sides : (List (T2 (T2 (List (T3 Int Int Int)) (List (T3 Int Int Int))) (T2 (List Int) (List Int))))), .any, .any, .any, .any, .any, .any, .any, .any, .any]) (let at_ : Int := ((m_law_stir x_2 (1 : Int)) % ((other.list.getD side.toNat ([] : (List Int))).length : Int)); (let change : Int := ((([(1 : Int), ((1 : Int) + ((m_law_stir x_2 (3 : Int)) % (50 : Int)))] : List Int).getD ((m_law_stir x_2 (4 : Int)) % (2 : Int)).toNat (0 : Int)) * (([(1 : Int), (-(1 : Int))] : List Int).getD ((m_law_stir x_2 (2 : Int)) % (2 : Int)).toNat (0 : Int))); (let other_1 : (T2 (List Int) (List Int)) := (putP other side ((other.list.getD side.toNat []).set at_.toNat (min ((r.list.getD side.toNat ([] : (List (T3 Int Int Int)))).getD at_.toNat (T3.mk (0 : Int) (0 : Int) (0 : Int))).c (max (0 : Int) (((other.list.getD side.toNat ([] : (List Int))).getD at_.toNat (0 : Int)) + change))))); (let b_3 := (decide ((0 : Int) < ((m_law_stir x_2 (5 : Int)) % (3 : Int)))); (bif (!(m_law_told handed r (bif b_3 then (putP other_1 ((1 : Int) - side) ((other_1.list.getD ((1 : Int) - side).toNat []).set ((m_law_stir x_2 (6 : Int)) % ((other_1.list.getD ((1 : Int) - side).toNat ([] : (List Int))).length : Int)).toNat (min ((r.list.getD ((1 : Int) - side).toNat ([] : (List (T3 Int Int Int)))).getD ((m_law_stir x_2 (6 : Int)) % ((other_1.list.getD ((1 : Int) - side).toNat ([] : (List Int))).length : Int)).toNat (T3.mk (0 : Int) (0 : Int) (0 : Int))).c (max (0 : Int) (((other_1.list.getD ((1 : Int) - side).toNat ([] : (List Int))).getD ((m_law_stir x_2 (6 : Int)) % ((other_1.list.getD ((1 : Int) - side).toNat ([] : (List Int))).length : Int)).toNat (0 : Int)) + change))))) else other_1))) then (.re false) else (.go ()))))))) (sv_set 13 sc_law.nd (ev_mod (ev_fn H_law_stir hr (by decide) (ea_cons (ev_var 11 rfl) (ea_cons ev_int ea_nil)) ⟨_, _, rfl, rfl⟩) ev_int (by first | decide | omega | (split <;> omega)))) ?_
        intro side e_side
        have hsd : 0 ≤ side ∧ side < 2 := by { rw [e_side]; omega }
        refine bv_let (of := fun at_ => LR.out (fun (s_2 : Unit) => [.v (script : (List Int)), .v (works : (T3 Int (List (T3 Int Int Int)) (List (T3 Int Int Int)))), .v (head : Int), .v (r : (T2 (List (T3 Int Int Int)) (List (T3 Int Int Int)))), .v (buying : (T2 (List Int) (List Int))), .v (handed : (T3 Int (List (T3 Int Int Int)) (List (T3 Int Int Int)))), .v (plain : (T2 (List (T3 Int Int Int)) (List (T3 Int Int Int)))), .v (sides : (List (T2 (T2 (List (T3 Int Int Int)) (List (T3 Int Int Int))) (T2 (List Int) (List Int))))), .any, .any, .any, .any, .any, .any, .any, .any, .any]) (let change : Int := ((([(1 : Int), ((1 : Int) + ((m_law_stir x_2 (3 : Int)) % (50 : Int)))] : List Int).getD ((m_law_stir x_2 (4 : Int)) % (2 : Int)).toNat (0 : Int)) * (([(1 : Int), (-(1 : Int))] : List Int).getD ((m_law_stir x_2 (2 : Int)) % (2 : Int)).toNat (0 : Int))); (let other_1 : (T2 (List Int) (List Int)) := (putP other side ((other.list.getD side.toNat []).set at_.toNat (min ((r.list.getD side.toNat ([] : (List (T3 Int Int Int)))).getD at_.toNat (T3.mk (0 : Int) (0 : Int) (0 : Int))).c (max (0 : Int) (((other.list.getD side.toNat ([] : (List Int))).getD at_.toNat (0 : Int)) + change))))); (let b_3 := (decide ((0 : Int) < ((m_law_stir x_2 (5 : Int)) % (3 : Int)))); (bif (!(m_law_told handed r (bif b_3 then (putP other_1 ((1 : Int) - side) ((other_1.list.getD ((1 : Int) - side).toNat []).set ((m_law_stir x_2 (6 : Int)) % ((other_1.list.getD ((1 : Int) - side).toNat ([] : (List Int))).length : Int)).toNat (min ((r.list.getD ((1 : Int) - side).toNat ([] : (List (T3 Int Int Int)))).getD ((m_law_stir x_2 (6 : Int)) % ((other_1.list.getD ((1 : Int) - side).toNat ([] : (List Int))).length : Int)).toNat (T3.mk (0 : Int) (0 : Int) (0 : Int))).c (max (0 : Int) (((other_1.list.getD ((1 : Int) - side).toNat ([] : (List Int))).getD ((m_law_stir x_2 (6 : Int)) % ((other_1.list.getD ((1 : Int) - side).toNat ([] : (List Int))).length : Int)).toNat (0 : Int)) + change))))) else other_1))) then (.re false) else (.go ())))))) (sv_set 14 sc_law.nd (ev_fz 12 rfl (ev_mod (ev_fn H_law_stir hr (by decide) (ea_cons (ev_var 11 rfl) (ea_cons ev_int ea_nil)) ⟨_, _, rfl, rfl⟩) (ev_len T.z_len (ev_tixN ([] : (List Int)) (ev_var 12 rfl) (ev_var 13 rfl) (by exact hsd))) (len_pos (hO.pos hsd))))) ?_
        intro at_ e_at_
        have hA : 0 ≤ at_ ∧ at_ < ((other.list.getD side.toNat []).length : Int) := by { rw [e_at_]; exact mod_in _ (hO.pos hsd) }
        refine bv_let (of := fun change => LR.out (fun (s_2 : Unit) => [.v (script : (List Int)), .v (works : (T3 Int (List (T3 Int Int Int)) (List (T3 Int Int Int)))), .v (head : Int), .v (r : (T2 (List (T3 Int Int Int)) (List (T3 Int Int Int)))), .v (buying : (T2 (List Int) (List Int))), .v (handed : (T3 Int (List (T3 Int Int Int)) (List (T3 Int Int Int)))), .v (plain : (T2 (List (T3 Int Int Int)) (List (T3 Int Int Int)))), .v (sides : (List (T2 (T2 (List (T3 Int Int Int)) (List (T3 Int Int Int))) (T2 (List Int) (List Int))))), .any, .any, .any, .any, .any, .any, .any, .any, .any]) (let other_1 : (T2 (List Int) (List Int)) := (putP other side ((other.list.getD side.toNat []).set at_.toNat (min ((r.list.getD side.toNat ([] : (List (T3 Int Int Int)))).getD at_.toNat (T3.mk (0 : Int) (0 : Int) (0 : Int))).c (max (0 : Int) (((other.list.getD side.toNat ([] : (List Int))).getD at_.toNat (0 : Int)) + change))))); (let b_3 := (decide ((0 : Int) < ((m_law_stir x_2 (5 : Int)) % (3 : Int)))); (bif (!(m_law_told handed r (bif b_3 then (putP other_1 ((1 : Int) - side) ((other_1.list.getD ((1 : Int) - side).toNat []).set ((m_law_stir x_2 (6 : Int)) % ((other_1.list.getD ((1 : Int) - side).toNat ([] : (List Int))).length : Int)).toNat (min ((r.list.getD ((1 : Int) - side).toNat ([] : (List (T3 Int Int Int)))).getD ((m_law_stir x_2 (6 : Int)) % ((other_1.list.getD ((1 : Int) - side).toNat ([] : (List Int))).length : Int)).toNat (T3.mk (0 : Int) (0 : Int) (0 : Int))).c (max (0 : Int) (((other_1.list.getD ((1 : Int) - side).toNat ([] : (List Int))).getD ((m_law_stir x_2 (6 : Int)) % ((other_1.list.getD ((1 : Int) - side).toNat ([] : (List Int))).length : Int)).toNat (0 : Int)) + change))))) else other_1))) then (.re false) else (.go ()))))) (sv_set 15 sc_law.nd (ev_mul (ev_lixD (0 : Int) (ev_new (en_lst (xs := ([(1 : Int), ((1 : Int) + ((m_law_stir x_2 (3 : Int)) % (50 : Int)))] : List Int)) (ea_cons ev_int (ea_cons (ev_add ev_int (ev_mod (ev_fn H_law_stir hr (by decide) (ea_cons (ev_var 11 rfl) (ea_cons ev_int ea_nil)) ⟨_, _, rfl, rfl⟩) ev_int (by first | decide | omega | (split <;> omega)))) ea_nil)))) (ev_mod (ev_fn H_law_stir hr (by decide) (ea_cons (ev_var 11 rfl) (ea_cons ev_int ea_nil)) ⟨_, _, rfl, rfl⟩) ev_int (by first | decide | omega | (split <;> omega))) (by omega) (by show _ < (2 : Int); omega)) (ev_lixD (0 : Int) (ev_new (en_lst (xs := ([(1 : Int), (-(1 : Int))] : List Int)) (ea_cons ev_int (ea_cons (ev_neg ev_int) ea_nil)))) (ev_mod (ev_fn H_law_stir hr (by decide) (ea_cons (ev_var 11 rfl) (ea_cons ev_int ea_nil)) ⟨_, _, rfl, rfl⟩) ev_int (by first | decide | omega | (split <;> omega))) (by omega) (by show _ < (2 : Int); omega)) (.inl (chg1 _ (by omega))))) ?_
        intro change e_change
        refine bv_letS (fun (other_1 : (T2 (List Int) (List Int))) => [.v (script : (List Int)), .v (works : (T3 Int (List (T3 Int Int Int)) (List (T3 Int Int Int)))), .v (head : Int), .v (r : (T2 (List (T3 Int Int Int)) (List (T3 Int Int Int)))), .v (buying : (T2 (List Int) (List Int))), .v (handed : (T3 Int (List (T3 Int Int Int)) (List (T3 Int Int Int)))), .v (plain : (T2 (List (T3 Int Int Int)) (List (T3 Int Int Int)))), .v (sides : (List (T2 (T2 (List (T3 Int Int Int)) (List (T3 Int Int Int))) (T2 (List Int) (List Int))))), .any, .any, .any, .v (x_2 : Int), .o (MP.mk (other_1 : (T2 (List Int) (List Int)))), .v (side : Int), .v (at_ : Int), .v (change : Int), .any]) (of := fun other_1 => LR.out (fun (s_2 : Unit) => [.v (script : (List Int)), .v (works : (T3 Int (List (T3 Int Int Int)) (List (T3 Int Int Int)))), .v (head : Int), .v (r : (T2 (List (T3 Int Int Int)) (List (T3 Int Int Int)))), .v (buying : (T2 (List Int) (List Int))), .v (handed : (T3 Int (List (T3 Int Int Int)) (List (T3 Int Int Int)))), .v (plain : (T2 (List (T3 Int Int Int)) (List (T3 Int Int Int)))), .v (sides : (List (T2 (T2 (List (T3 Int Int Int)) (List (T3 Int Int Int))) (T2 (List Int) (List Int))))), .any, .any, .any, .any, .any, .any, .any, .any, .any]) (let b_3 := (decide ((0 : Int) < ((m_law_stir x_2 (5 : Int)) % (3 : Int)))); (bif (!(m_law_told handed r (bif b_3 then (putP other_1 ((1 : Int) - side) ((other_1.list.getD ((1 : Int) - side).toNat []).set ((m_law_stir x_2 (6 : Int)) % ((other_1.list.getD ((1 : Int) - side).toNat ([] : (List Int))).length : Int)).toNat (min ((r.list.getD ((1 : Int) - side).toNat ([] : (List (T3 Int Int Int)))).getD ((m_law_stir x_2 (6 : Int)) % ((other_1.list.getD ((1 : Int) - side).toNat ([] : (List Int))).length : Int)).toNat (T3.mk (0 : Int) (0 : Int) (0 : Int))).c (max (0 : Int) (((other_1.list.getD ((1 : Int) - side).toNat ([] : (List Int))).getD ((m_law_stir x_2 (6 : Int)) % ((other_1.list.getD ((1 : Int) - side).toNat ([] : (List Int))).length : Int)).toNat (0 : Int)) + change))))) else other_1))) then (.re false) else (.go ())))) (x := (putP other side ((other.list.getD side.toNat []).set at_.toNat (min ((r.list.getD side.toNat ([] : (List (T3 Int Int Int)))).getD at_.toNat (T3.mk (0 : Int) (0 : Int) (0 : Int))).c (max (0 : Int) (((other.list.getD side.toNat ([] : (List Int))).getD at_.toNat (0 : Int)) + change)))))) (sv_setP2 12 (ps_asg pe (pg_sub (pe_ix ix_tup (pv 12) pe (fun _ _ => rfl)) pe set_list)) rfl (ev_fz 12 rfl (ev_min2 rfl T.z_min (ev_tixv 2 (((r.list.getD side.toNat ([] : (List (T3 Int Int Int)))).getD at_.toNat (T3.mk (0 : Int) (0 : Int) (0 : Int))).c) (ev_lixD (T3.mk (0 : Int) (0 : Int) (0 : Int)) (ev_tixN ([] : (List (T3 Int Int Int))) (ev_var 3 rfl) (ev_var 13 rfl) (by exact hsd)) (ev_var 14 rfl) (by omega) (lt_len hA.2 (hO.side hsd).1))) (ev_max2 rfl T.z_max ev_int (ev_add (ev_lixD (0 : Int) (ev_tixN ([] : (List Int)) (ev_var 12 rfl) (ev_var 13 rfl) (by exact hsd)) (ev_var 14 rfl) (by omega) (by exact hA.2)) (ev_var 15 rfl))))) (ev_var 13 rfl) (ev_var 14 rfl) (by exact hsd) (by exact hA)) ?_
        intro other_1 e_other_1
        have hO1 : PL other_1 r := by { rw [e_other_1]; exact hO.put hsd _ _ }
        refine bv_ifj (Γf := fun b_3 => [.v (script : (List Int)), .v (works : (T3 Int (List (T3 Int Int Int)) (List (T3 Int Int Int)))), .v (head : Int), .v (r : (T2 (List (T3 Int Int Int)) (List (T3 Int Int Int)))), .v (buying : (T2 (List Int) (List Int))), .v (handed : (T3 Int (List (T3 Int Int Int)) (List (T3 Int Int Int)))), .v (plain : (T2 (List (T3 Int Int Int)) (List (T3 Int Int Int)))), .v (sides : (List (T2 (T2 (List (T3 Int Int Int)) (List (T3 Int Int Int))) (T2 (List Int) (List Int))))), .any, .any, .any, .v (x_2 : Int), .o (MP.mk ((bif b_3 then (putP other_1 ((1 : Int) - side) ((other_1.list.getD ((1 : Int) - side).toNat []).set ((m_law_stir x_2 (6 : Int)) % ((other_1.list.getD ((1 : Int) - side).toNat ([] : (List Int))).length : Int)).toNat (min ((r.list.getD ((1 : Int) - side).toNat ([] : (List (T3 Int Int Int)))).getD ((m_law_stir x_2 (6 : Int)) % ((other_1.list.getD ((1 : Int) - side).toNat ([] : (List Int))).length : Int)).toNat (T3.mk (0 : Int) (0 : Int) (0 : Int))).c (max (0 : Int) (((other_1.list.getD ((1 : Int) - side).toNat ([] : (List Int))).getD ((m_law_stir x_2 (6 : Int)) % ((other_1.list.getD ((1 : Int) - side).toNat ([] : (List Int))).length : Int)).toNat (0 : Int)) + change))))) else other_1) : (T2 (List Int) (List Int)))), .v (side : Int), .v (at_ : Int), .v (change : Int), .any]) (of := fun b_3 => LR.out (fun (s_2 : Unit) => [.v (script : (List Int)), .v (works : (T3 Int (List (T3 Int Int Int)) (List (T3 Int Int Int)))), .v (head : Int), .v (r : (T2 (List (T3 Int Int Int)) (List (T3 Int Int Int)))), .v (buying : (T2 (List Int) (List Int))), .v (handed : (T3 Int (List (T3 Int Int Int)) (List (T3 Int Int Int)))), .v (plain : (T2 (List (T3 Int Int Int)) (List (T3 Int Int Int)))), .v (sides : (List (T2 (T2 (List (T3 Int Int Int)) (List (T3 Int Int Int))) (T2 (List Int) (List Int))))), .any, .any, .any, .any, .any, .any, .any, .any, .any]) (bif (!(m_law_told handed r (bif b_3 then (putP other_1 ((1 : Int) - side) ((other_1.list.getD ((1 : Int) - side).toNat []).set ((m_law_stir x_2 (6 : Int)) % ((other_1.list.getD ((1 : Int) - side).toNat ([] : (List Int))).length : Int)).toNat (min ((r.list.getD ((1 : Int) - side).toNat ([] : (List (T3 Int Int Int)))).getD ((m_law_stir x_2 (6 : Int)) % ((other_1.list.getD ((1 : Int) - side).toNat ([] : (List Int))).length : Int)).toNat (T3.mk (0 : Int) (0 : Int) (0 : Int))).c (max (0 : Int) (((other_1.list.getD ((1 : Int) - side).toNat ([] : (List Int))).getD ((m_law_stir x_2 (6 : Int)) % ((other_1.list.getD ((1 : Int) - side).toNat ([] : (List Int))).length : Int)).toNat (0 : Int)) + change))))) else other_1))) then (.re false) else (.go ()))) (et_gt (ev_mod (ev_fn H_law_stir hr (by decide) (ea_cons (ev_var 11 rfl) (ea_cons ev_int ea_nil)) ⟨_, _, rfl, rfl⟩) ev_int (by first | decide | omega | (split <;> omega))) ev_int) ?_ ?_ ?_
        · intro hc_5
          refine bv_cons (sv_set 16 sc_law.nd (ev_fz 12 rfl (ev_mod (ev_fn H_law_stir hr (by decide) (ea_cons (ev_var 11 rfl) (ea_cons ev_int ea_nil)) ⟨_, _, rfl, rfl⟩) (ev_len T.z_len (ev_tixN ([] : (List Int)) (ev_var 12 rfl) (ev_sub ev_int (ev_var 13 rfl)) (by omega))) (len_pos (hO1.pos (k := 1 - side) (by omega)))))) ?_
          refine bv_cons (sv_setP2 12 (ps_asg pe (pg_sub (pe_ix ix_tup (pv 12) pe (fun _ _ => rfl)) pe set_list)) rfl (ev_fz 12 rfl (ev_min2 rfl T.z_min (ev_tixv 2 (((r.list.getD ((1 : Int) - side).toNat ([] : (List (T3 Int Int Int)))).getD ((m_law_stir x_2 (6 : Int)) % ((other_1.list.getD ((1 : Int) - side).toNat ([] : (List Int))).length : Int)).toNat (T3.mk (0 : Int) (0 : Int) (0 : Int))).c) (ev_lixD (T3.mk (0 : Int) (0 : Int) (0 : Int)) (ev_tixN ([] : (List (T3 Int Int Int))) (ev_var 3 rfl) (ev_sub ev_int (ev_var 13 rfl)) (by omega)) (ev_var 16 rfl) (mod_in _ (hO1.pos (k := 1 - side) (by omega))).1 (mod_in2 _ (hO1.pos (k := 1 - side) (by omega)) (hO1.side (k := 1 - side) (by omega)).1))) (ev_max2 rfl T.z_max ev_int (ev_add (ev_lixD (0 : Int) (ev_tixN ([] : (List Int)) (ev_var 12 rfl) (ev_sub ev_int (ev_var 13 rfl)) (by omega)) (ev_var 16 rfl) (mod_in _ (hO1.pos (k := 1 - side) (by omega))).1 (mod_in _ (hO1.pos (k := 1 - side) (by omega))).2) (ev_var 15 rfl))))) (ev_sub ev_int (ev_var 13 rfl)) (ev_var 16 rfl) (by omega) (mod_in _ (hO1.pos (k := 1 - side) (by omega)))) ?_
          exact .nxs bv_nil (.eq (.eq (.eq (.eq (.eq (.eq (.eq (.eq (.any (.any (.any (.eq (.eq (.eq (.eq (.eq (.any .nil)))))))))))))))))
        · intro hc_5
          exact .nxs bv_nil (.eq (.eq (.eq (.eq (.eq (.eq (.eq (.eq (.any (.any (.any (.eq (.eq (.eq (.eq (.eq (.any .nil)))))))))))))))))
        intro b_3 e_b_3
        refine bv_fz 12 rfl ?_
        show BV _ [.v (script : (List Int)), .v (works : (T3 Int (List (T3 Int Int Int)) (List (T3 Int Int Int)))), .v (head : Int), .v (r : (T2 (List (T3 Int Int Int)) (List (T3 Int Int Int)))), .v (buying : (T2 (List Int) (List Int))), .v (handed : (T3 Int (List (T3 Int Int Int)) (List (T3 Int Int Int)))), .v (plain : (T2 (List (T3 Int Int Int)) (List (T3 Int Int Int)))), .v (sides : (List (T2 (T2 (List (T3 Int Int Int)) (List (T3 Int Int Int))) (T2 (List Int) (List Int))))), .any, .any, .any, .v (x_2 : Int), .v ((bif b_3 then (putP other_1 ((1 : Int) - side) ((other_1.list.getD ((1 : Int) - side).toNat []).set ((m_law_stir x_2 (6 : Int)) % ((other_1.list.getD ((1 : Int) - side).toNat ([] : (List Int))).length : Int)).toNat (min ((r.list.getD ((1 : Int) - side).toNat ([] : (List (T3 Int Int Int)))).getD ((m_law_stir x_2 (6 : Int)) % ((other_1.list.getD ((1 : Int) - side).toNat ([] : (List Int))).length : Int)).toNat (T3.mk (0 : Int) (0 : Int) (0 : Int))).c (max (0 : Int) (((other_1.list.getD ((1 : Int) - side).toNat ([] : (List Int))).getD ((m_law_stir x_2 (6 : Int)) % ((other_1.list.getD ((1 : Int) - side).toNat ([] : (List Int))).length : Int)).toNat (0 : Int)) + change))))) else other_1) : (T2 (List Int) (List Int))), .v (side : Int), .v (at_ : Int), .v (change : Int), .any] _ _
        refine bv_ifx (of := fun b_4 => LR.out (fun (s_2 : Unit) => [.v (script : (List Int)), .v (works : (T3 Int (List (T3 Int Int Int)) (List (T3 Int Int Int)))), .v (head : Int), .v (r : (T2 (List (T3 Int Int Int)) (List (T3 Int Int Int)))), .v (buying : (T2 (List Int) (List Int))), .v (handed : (T3 Int (List (T3 Int Int Int)) (List (T3 Int Int Int)))), .v (plain : (T2 (List (T3 Int Int Int)) (List (T3 Int Int Int)))), .v (sides : (List (T2 (T2 (List (T3 Int Int Int)) (List (T3 Int Int Int))) (T2 (List Int) (List Int))))), .any, .any, .any, .any, .any, .any, .any, .any, .any]) (bif b_4 then (.re false) else (.go ()))) (et_not (et_val (ev_fn H_law_told hr (by decide) (ea_cons (ev_var 5 rfl) (ea_cons (ev_var 3 rfl) (ea_cons (ev_var 12 rfl) ea_nil))) ⟨_, _, _, rfl, (by first | (rw [hh]; exact hS.sp hw) | (rw [hh]; exact (shop_ok script).sp hw) | (rw [e_plain, hh]; exact (shop_ok script).sp hw) | (rw [hh]; exact (closer_ok (hS.sp hw) buying).1) | (rw [e_shop_1, hh]; exact (closer_ok (hS.sp hw) buying).1) | (rw [hh]; exact hR.1) | exact sides_ok hR.1 (by rw [← e_sides, hx]; simp) (by rw [hx_1]; simp)), rfl⟩))) ?_ (by first | trivial | exact xo_ex _) ?_
        · intro hc_6
          exact bv_ret ev_bl
        · intro hc_6
          exact .nxs bv_nil (.eq (.eq (.eq (.eq (.eq (.eq (.eq (.eq (.any (.any (.any (.any (.any (.any (.any (.any (.any .nil)))))))))))))))))
      intro r_3 e_r_3
      exact bv_ret ev_bl
end
end Tw

set_option maxRecDepth 100000
set_option maxHeartbeats 4000000
/-! heat above a level, by streams -/
namespace Tw
open PySem PySem.Spec PyProof.Rows L2 Wl
abbrev Strm := T3 Int Int Int
abbrev Wks := T3 Int (List (T3 Int Int Int)) (List (T3 Int Int Int))
def heat1 (x : Strm) (l : Int) : Int := x.c * max 0 (max x.a x.b - max l (min x.a x.b))
def rat1 (x : Strm) (l : Int) : Int := if min x.a x.b ≤ l ∧ l < max x.a x.b then x.c else 0
def heatM (xs : List Strm) (l : Int) : Int := (xs.map fun x => heat1 x l).sum
def rat (xs : List Strm) (l : Int) : Int := (xs.map fun x => rat1 x l).sum
def lackM (w : Wks) (l : Int) : Int := heatM w.c (l - w.a) - heatM w.b l
theorem foldl_sum {α : Type} (f : α → Int) : ∀ (xs : List α) (a : Int), xs.foldl (fun s x => s + f x) a = a + (xs.map f).sum
  | [], a => by simp
  | x :: r, a => by rw [List.foldl_cons, foldl_sum f r]; simp; omega
theorem heat_above_eq (xs : List Strm) (l : Int) : m_heat_above xs l = heatM xs l := by
  unfold m_heat_above
  dsimp only
  show xs.foldl (fun s x => s + x.c * max 0 (max x.a x.b - max l (min x.a x.b))) 0 = _
  rw [foldl_sum (fun x : Strm => x.c * max 0 (max x.a x.b - max l (min x.a x.b)))]
  unfold heatM heat1
  omega
theorem lack_above_eq (w : Wks) (l : Int) : m_lack_above w l = lackM w l := by
  unfold m_lack_above lackM
  rw [heat_above_eq, heat_above_eq]
theorem heat1_step (x : Strm) (l : Int) : heat1 x l = heat1 x (l + 1) + rat1 x l := by
  unfold heat1 rat1
  by_cases h : min x.a x.b ≤ l ∧ l < max x.a x.b
  · rw [if_pos h, show max 0 (max x.a x.b - max l (min x.a x.b)) = max 0 (max x.a x.b - max (l + 1) (min x.a x.b)) + 1 by omega, Int.mul_add, Int.mul_one]
  · rw [if_neg h, show max 0 (max x.a x.b - max l (min x.a x.b)) = max 0 (max x.a x.b - max (l + 1) (min x.a x.b)) by omega, Int.add_zero]
theorem heat_step (l : Int) : ∀ xs : List Strm, heatM xs l = heatM xs (l + 1) + rat xs l
  | [] => rfl
  | x :: r => by
    have h := heat_step l r
    have h1 := heat1_step x l
    unfold heatM rat at *
    simp only [List.map_cons, List.sum_cons]
    omega
theorem lack_step (w : Wks) (l : Int) : lackM w l = lackM w (l + 1) + (rat w.c (l - w.a) - rat w.b l) := by
  have h1 := heat_step (l - w.a) w.c
  have h2 := heat_step l w.b
  unfold lackM
  rw [h1, h2, show l - w.a + 1 = l + 1 - w.a by omega]
  omega
theorem heat_top {xs : List Strm} {l : Int} (h : ∀ x ∈ xs, max x.a x.b ≤ l) : heatM xs l = 0 := by
  unfold heatM
  induction xs with
  | nil => rfl
  | cons x r ih =>
    have hx := h x (by simp)
    simp only [List.map_cons, List.sum_cons]
    rw [ih fun y hy => h y (by simp [hy])]
    unfold heat1
    rw [show max 0 (max x.a x.b - max l (min x.a x.b)) = 0 by omega]
    simp
/-- degrees from 0 to 200 -/
def DegOk (xs : List Strm) : Prop := ∀ x ∈ xs, 0 ≤ x.a ∧ x.a ≤ 200 ∧ 0 ≤ x.b ∧ x.b ≤ 200
structure WDeg (w : Wks) : Prop where
  g0 : 0 ≤ w.a
  g1 : w.a ≤ 50
  b : DegOk w.b
  c : DegOk w.c
theorem lack_top {w : Wks} (h : WDeg w) {l : Int} (hl : 250 ≤ l) : lackM w l = 0 := by
  have g1 := h.g1
  unfold lackM
  rw [heat_top (fun x hx => by have := h.c x hx; omega), heat_top (fun x hx => by have := h.b x hx; omega)]
  rfl
theorem rat_low {xs : List Strm} (h : DegOk xs) {l : Int} (hl : l < 0) : rat xs l = 0 := by
  unfold rat
  induction xs with
  | nil => rfl
  | cons x r ih =>
    have hx := h x (by simp)
    simp only [List.map_cons, List.sum_cons]
    rw [ih fun y hy => h y (by simp [hy])]
    unfold rat1
    rw [if_neg (by omega)]
    rfl
theorem lack_low {w : Wks} (h : WDeg w) : ∀ (n : Nat), lackM w (-(n : Int)) = lackM w 0
  | 0 => rfl
  | n + 1 => by
    have g0 := h.g0
    rw [lack_step, rat_low h.c (by omega), rat_low h.b (by omega), show -((n + 1 : Nat) : Int) + 1 = -(n : Int) by omega, lack_low h n]
    omega
end Tw

set_option maxRecDepth 100000
set_option maxHeartbeats 4000000
/-! what is spare at a level: by steps, by offers; will_do -/
namespace Tw
open PySem PySem.Spec PyProof.Rows L2 Wl
abbrev Shp := T2 (List (T3 Int Int Int)) (List (T3 Int Int Int))
abbrev Buy := T2 (List Int) (List Int)
abbrev Off := T2 (T3 Int Int Int) Int
theorem WorksOk.deg {w : Wks} (h : WorksOk w) : WDeg w := ⟨h.g0, h.g1, fun s hs => by have := (h.h s hs).a0; have := (h.h s hs).a1; have := (h.h s hs).a2; omega, fun s hs => by have := (h.c s hs).a0; have := (h.c s hs).a1; have := (h.c s hs).a2; omega⟩
/-- bought at a level, at a level and above, by offers and amounts; d: the level of an offer -/
def offAt (d : T3 Int Int Int → Int) (zs : List Off) (l : Int) : Int := (zs.map fun z => if d z.a = l then z.b else 0).sum
def offUp (d : T3 Int Int Int → Int) (zs : List Off) (l : Int) : Int := (zs.map fun z => if l ≤ d z.a then z.b else 0).sum
theorem off_step (d : T3 Int Int Int → Int) (l : Int) : ∀ zs : List Off, offUp d zs l = offUp d zs (l + 1) + offAt d zs l
  | [] => rfl
  | z :: r => by
    have h := off_step d l r
    unfold offUp offAt at *
    simp only [List.map_cons, List.sum_cons]
    by_cases h1 : d z.a = l
    · rw [if_pos (by omega), if_neg (by omega), if_pos h1]; omega
    · by_cases h2 : l ≤ d z.a
      · rw [if_pos h2, if_pos (by omega), if_neg h1]; omega
      · rw [if_neg h2, if_neg (by omega), if_neg h1]; omega
theorem off_top {d : T3 Int Int Int → Int} {zs : List Off} {l : Int} (h : ∀ z ∈ zs, d z.a < l) : offUp d zs l = 0 := by
  unfold offUp
  induction zs with
  | nil => rfl
  | cons z r ih =>
    have := h z (by simp)
    simp only [List.map_cons, List.sum_cons]
    rw [ih fun y hy => h y (by simp [hy]), if_neg (by omega)]
    rfl
theorem off_none {d : T3 Int Int Int → Int} {zs : List Off} {l : Int} (h : ∀ z ∈ zs, d z.a ≠ l) : offAt d zs l = 0 := by
  unfold offAt
  induction zs with
  | nil => rfl
  | cons z r ih =>
    have := h z (by simp)
    simp only [List.map_cons, List.sum_cons]
    rw [ih fun y hy => h y (by simp [hy]), if_neg this]
    rfl
def fLev (o : T3 Int Int Int) : Int := o.a - 1
def wLev (w : Wks) (o : T3 Int Int Int) : Int := o.a + w.a
/-- what is bought at a level and above -/
def upM (w : Wks) (s : Shp) (u : Buy) (l : Int) : Int := offUp fLev (zipL s.a u.a) l - offUp (wLev w) (zipL s.b u.b) l
/-- spare at a level and above -/
def spareM (w : Wks) (s : Shp) (u : Buy) (l : Int) : Int := upM w s u l - lackM w l
theorem spare_step (w : Wks) (s : Shp) (u : Buy) (l : Int) : spareM w s u l = spareM w s u (l + 1) + (offAt fLev (zipL s.a u.a) l - offAt (wLev w) (zipL s.b u.b) l - (rat w.c (l - w.a) - rat w.b l)) := by
  have h1 := off_step fLev l (zipL s.a u.a)
  have h2 := off_step (wLev w) l (zipL s.b u.b)
  have h3 := lack_step w l
  unfold spareM upM
  omega
theorem zip_of {α β : Type} {xs : List α} {ys : List β} {x : T2 α β} (h : x ∈ zipL xs ys) : x.a ∈ xs ∧ x.b ∈ ys := by
  unfold zipL at h
  obtain ⟨p, hp, e⟩ := List.mem_map.mp h
  subst e
  exact ⟨(List.of_mem_zip hp).1, (List.of_mem_zip hp).2⟩
theorem spare_top {w : Wks} {s : Shp} (h : SpOk w s) (u : Buy) {l : Int} (hl : 251 ≤ l) : spareM w s u l = 0 := by
  have g1 := h.w.g1
  unfold spareM upM
  rw [off_top (fun z hz => by have := h.a _ (zip_of hz).1; show z.a.a - 1 < l; omega), off_top (fun z hz => by have := h.b _ (zip_of hz).1; show z.a.a + w.a < l; omega), lack_top h.w.deg (by omega)]
  rfl
/-! ### the law's own sums -/
def cellI (t : List Int) (l : Nat) : Int := t.getD l 0
theorem cell_set {t : List Int} {i y : Int} (ht : t.length = 251) (h0 : 0 ≤ i) (h1 : i < 251) (l : Nat) : cellI (t.set i.toNat (t.getD i.toNat 0 + y)) l = cellI t l + if (l : Int) = i then y else 0 := by
  unfold cellI
  simp only [List.getD_eq_getElem?_getD]
  by_cases e : l = i.toNat
  · subst e
    rw [List.getElem?_set_self (by omega), if_pos (by omega)]; rfl
  · rw [List.getElem?_set_ne (Ne.symm e), if_neg (by omega)]; omega
theorem iseq_succ (lo : Int) (n : Nat) : iseq lo (n + 1) = iseq lo n ++ [lo + (n : Int)] := by
  simp [iseq, List.range_succ]
theorem range_set {y g : Int} (lo : Int) (f : List Int → Int → List Int) (hf : ∀ s x, f s x = s.set (x + g).toNat (s.getD (x + g).toNat 0 + y)) (t : List Int) (ht : t.length = 251) (h0 : 0 ≤ lo + g) (l : Nat) : ∀ n : Nat, lo + g + n ≤ 251 →
    ((iseq lo n).foldl f t).length = 251 ∧ cellI ((iseq lo n).foldl f t) l = cellI t l + if lo + g ≤ (l : Int) ∧ (l : Int) < lo + g + n then y else 0
  | 0, _ => ⟨ht, by
    show cellI t l = _
    rw [if_neg (by omega)]; omega⟩
  | n + 1, hn => by
    obtain ⟨hl, ih⟩ := range_set lo f hf t ht h0 l n (by omega)
    rw [iseq_succ, List.foldl_append]
    simp only [List.foldl_cons, List.foldl_nil]
    rw [hf]
    refine ⟨by rw [List.length_set]; exact hl, ?_⟩
    rw [cell_set hl (by omega) (by omega), ih]
    by_cases h1 : (l : Int) = lo + n + g
    · rw [if_pos h1, if_neg (by omega), if_pos (by omega)]; omega
    · rw [if_neg h1]
      by_cases h2 : lo + g ≤ (l : Int) ∧ (l : Int) < lo + g + n
      · rw [if_pos h2, if_pos (by omega)]; omega
      · rw [if_neg h2, if_neg (by omega)]; omega
theorem hot_rows (f : List Int → Strm → List Int) (hf : ∀ s x, f s x = (iseq x.b (x.a - x.b).toNat).foldl (fun s' x' => s'.set x'.toNat (s'.getD x'.toNat 0 + x.c)) s) (l : Nat) : ∀ (xs : List Strm) (t : List Int), t.length = 251 → (∀ s ∈ xs, HotOk s) → (xs.foldl f t).length = 251 ∧ cellI (xs.foldl f t) l = cellI t l + rat xs l
  | [], t, ht, _ => ⟨ht, by simp [rat]⟩
  | x :: r, t, ht, hx => by
    have hs := hx x (by simp)
    have a0 := hs.a0
    have a1 := hs.a1
    have a2 := hs.a2
    obtain ⟨e1, e2⟩ := range_set (y := x.c) (g := 0) x.b (fun s' x' => s'.set x'.toNat (s'.getD x'.toNat 0 + x.c)) (fun s' x' => by simp only [Int.add_zero]) t ht (by omega) l (x.a - x.b).toNat (by omega)
    rw [← hf] at e1 e2
    obtain ⟨h1, h2⟩ := hot_rows f hf l r (f t x) e1 fun s hs => hx s (by simp [hs])
    rw [List.foldl_cons]
    refine ⟨h1, ?_⟩
    rw [h2, e2]
    unfold rat
    simp only [List.map_cons, List.sum_cons]
    have : (if x.b + 0 ≤ (l : Int) ∧ (l : Int) < x.b + 0 + ((x.a - x.b).toNat : Nat) then x.c else 0) = rat1 x l := by
      unfold rat1
      by_cases hc : x.b ≤ (l : Int) ∧ (l : Int) < x.a
      · rw [if_pos (by omega), if_pos (by omega)]
      · rw [if_neg (by omega), if_neg (by omega)]
    rw [this]
    omega
theorem cold_rows (w : Wks) (g0 : 0 ≤ w.a) (g1 : w.a ≤ 50) (f : List Int → Strm → List Int) (hf : ∀ s x, f s x = (iseq x.a (x.b - x.a).toNat).foldl (fun s' x' => s'.set (x' + w.a).toNat (s'.getD (x' + w.a).toNat 0 - x.c)) s) (l : Nat) : ∀ (xs : List Strm) (t : List Int), t.length = 251 → (∀ s ∈ xs, ColdOk s) → (xs.foldl f t).length = 251 ∧ cellI (xs.foldl f t) l = cellI t l - rat xs ((l : Int) - w.a)
  | [], t, ht, _ => ⟨ht, by simp [rat]⟩
  | x :: r, t, ht, hx => by
    have hs := hx x (by simp)
    have a0 := hs.a0
    have a1 := hs.a1
    have a2 := hs.a2
    obtain ⟨e1, e2⟩ := range_set (y := -x.c) (g := w.a) x.a (fun s' x' => s'.set (x' + w.a).toNat (s'.getD (x' + w.a).toNat 0 - x.c)) (fun s' x' => by rw [Int.sub_eq_add_neg]) t ht (by omega) l (x.b - x.a).toNat (by omega)
    rw [← hf] at e1 e2
    obtain ⟨h1, h2⟩ := cold_rows w g0 g1 f hf l r (f t x) e1 fun s hs => hx s (by simp [hs])
    rw [List.foldl_cons]
    refine ⟨h1, ?_⟩
    rw [h2, e2]
    unfold rat
    simp only [List.map_cons, List.sum_cons]
    have : (if x.a + w.a ≤ (l : Int) ∧ (l : Int) < x.a + w.a + ((x.b - x.a).toNat : Nat) then -x.c else 0) = -rat1 x ((l : Int) - w.a) := by
      unfold rat1
      by_cases hc : x.a ≤ (l : Int) - w.a ∧ (l : Int) - w.a < x.b
      · rw [if_pos (by omega), if_pos (by omega)]
      · rw [if_neg (by omega), if_neg (by omega)]; rfl
    rw [this]
    omega
theorem off_rows (d : T3 Int Int Int → Int) (c : Int) (f : List Int → Off → List Int) (hf : ∀ s x, f s x = s.set (d x.a).toNat (s.getD (d x.a).toNat 0 + c * x.b)) (l : Nat) : ∀ (zs : List Off) (t : List Int), t.length = 251 → (∀ z ∈ zs, 0 ≤ d z.a ∧ d z.a < 251) → (zs.foldl f t).length = 251 ∧ cellI (zs.foldl f t) l = cellI t l + c * offAt d zs l
  | [], t, ht, _ => ⟨ht, by simp [offAt]⟩
  | x :: r, t, ht, hx => by
    have hs := hx x (by simp)
    have e1 : (f t x).length = 251 := by rw [hf, List.length_set]; exact ht
    have e2 : cellI (f t x) l = cellI t l + if (l : Int) = d x.a then c * x.b else 0 := by rw [hf]; exact cell_set ht hs.1 hs.2 l
    obtain ⟨h1, h2⟩ := off_rows d c f hf l r (f t x) e1 fun s hs => hx s (by simp [hs])
    rw [List.foldl_cons]
    refine ⟨h1, ?_⟩
    rw [h2, e2]
    unfold offAt
    simp only [List.map_cons, List.sum_cons]
    rw [Int.mul_add]
    by_cases hc : (l : Int) = d x.a
    · rw [if_pos hc, if_pos hc.symm]; omega
    · rw [if_neg hc, if_neg (fun z => hc z.symm)]; omega
theorem up_rows (S : Int → Int) (f : List Int → Int → List Int) (hf : ∀ s x, f s x = s.set x.toNat (s.getD x.toNat 0 + s.getD (x + 1).toNat 0)) : ∀ (n : Nat) (t : List Int), n ≤ 250 → t.length = 251 → (∀ l : Nat, n ≤ l → l ≤ 250 → cellI t l = S l) → (∀ l : Nat, l < n → cellI t l + S ((l : Int) + 1) = S l) →
    ((iseq 0 n).reverse.foldl f t).length = 251 ∧ ∀ l : Nat, l ≤ 250 → cellI ((iseq 0 n).reverse.foldl f t) l = S l
  | 0, t, _, ht, h, _ => ⟨ht, fun l hl => h l (Nat.zero_le _) hl⟩
  | n + 1, t, hn, ht, h, h2 => by
    rw [iseq_succ, List.reverse_append]
    show ((iseq 0 n).reverse.foldl f (f t (0 + (n : Int)))).length = 251 ∧ ∀ l : Nat, l ≤ 250 → cellI ((iseq 0 n).reverse.foldl f (f t (0 + (n : Int)))) l = S l
    have e1 : (f t (0 + (n : Int))).length = 251 := by rw [hf, List.length_set]; exact ht
    have e2 : ∀ l : Nat, cellI (f t (0 + (n : Int))) l = cellI t l + if (l : Int) = 0 + (n : Int) then S ((n : Int) + 1) else 0 := fun l => by
      rw [hf, cell_set ht (by omega) (by omega)]
      have := h (n + 1) (Nat.le_refl _) hn
      unfold cellI at this ⊢
      rw [show ((0 : Int) + (n : Int) + 1).toNat = n + 1 by omega, this]
      rfl
    refine up_rows S f hf n _ (by omega) e1 (fun l h3 h4 => ?_) (fun l h3 => ?_)
    · rw [e2]
      by_cases e : l = n
      · subst e
        rw [if_pos (by omega)]
        exact h2 l (by omega)
      · rw [if_neg (by omega), Int.add_zero]
        exact h l (by omega) h4
    · rw [e2, if_neg (by omega), Int.add_zero]
      exact h2 l (by omega)
theorem spares_cell {w : Wks} {s : Shp} (h : SpOk w s) (u : Buy) : (m_law_spares w s u).length = 251 ∧ ∀ l : Nat, l ≤ 250 → cellI (m_law_spares w s u) l = spareM w s u l := by
  have g0 := h.w.g0
  have g1 := h.w.g1
  unfold m_law_spares
  dsimp only
  have z : ∀ l : Nat, cellI (repL ([(0 : Int)] : List Int) (251 : Int).toNat) l = 0 := fun l => by
    unfold cellI
    rw [repL_one, List.getD_eq_getElem?_getD, show (251 : Int).toNat = 251 from rfl]
    by_cases hl : l < 251
    · rw [List.getElem?_replicate_of_lt hl]; rfl
    · rw [List.getElem?_eq_none (by rw [List.length_replicate]; exact Nat.le_of_not_lt hl)]; rfl
  have h1 := fun l => hot_rows m_law_spares_L1 (fun _ _ => rfl) l w.b _ (repL_len ([(0 : Int)] : List Int) (251 : Int).toNat) h.w.h
  have h2 := fun l => cold_rows w g0 g1 (m_law_spares_L3 w) (fun _ _ => rfl) l w.c _ (h1 0).1 h.w.c
  have h3 := fun l => off_rows fLev 1 m_law_spares_L5 (fun s x => by rw [Int.one_mul]; rfl) l (zipL s.a u.a) _ (h2 0).1 (fun z hz => by have := h.a _ (zip_of hz).1; unfold fLev; omega)
  have h4 := fun l => off_rows (wLev w) (-1) (m_law_spares_L6 w) (fun s x => by rw [show (-1 : Int) * x.b = -x.b by omega, ← Int.sub_eq_add_neg]; rfl) l (zipL s.b u.b) _ (h3 0).1 (fun z hz => by have := h.b _ (zip_of hz).1; unfold wLev; omega)
  have hv : ∀ l : Nat, cellI ((zipL s.b u.b).foldl (m_law_spares_L6 w) ((zipL s.a u.a).foldl m_law_spares_L5 (w.c.foldl (m_law_spares_L3 w) (w.b.foldl m_law_spares_L1 (repL ([(0 : Int)] : List Int) (251 : Int).toNat))))) l + spareM w s u ((l : Int) + 1) = spareM w s u l := fun l => by
    rw [(h4 l).2, (h3 l).2, (h2 l).2, (h1 l).2, z, spare_step w s u l]
    omega
  refine up_rows (spareM w s u) m_law_spares_L7 (fun _ _ => rfl) 250 _ (Nat.le_refl _) (h4 0).1 (fun l h5 h6 => ?_) fun l _ => hv l
  have e : l = 250 := by omega
  subst e
  have := hv 250
  rw [spare_top h u (by omega)] at this
  omega
/-! ### will_do -/
theorem bought_eq (w : Wks) (s : Shp) (u : Buy) (l : Int) : m_bought_above w s u l = upM w s u l := by
  unfold m_bought_above
  dsimp only
  have h1 : ∀ (zs : List Off) (a : Int), zs.foldl (m_bought_above_L1 l) a = a + offUp fLev zs l := by
    intro zs
    induction zs with
    | nil => intro a; simp [offUp]
    | cons z r ih =>
      intro a
      rw [List.foldl_cons, ih]
      unfold offUp
      simp only [List.map_cons, List.sum_cons]
      show (let b := decide (l ≤ m_fire_level z.a); (bif b then a + z.b else a)) + _ = _
      unfold m_fire_level fLev
      dsimp only
      by_cases h : l ≤ z.a.a - 1
      · rw [decide_eq_true h, if_pos h]; simp only [cond_true]; omega
      · rw [decide_eq_false h, if_neg h]; simp only [cond_false]; omega
  have h2 : ∀ (zs : List Off) (a : Int), zs.foldl (m_bought_above_L2 w l) a = a - offUp (wLev w) zs l := by
    intro zs
    induction zs with
    | nil => intro a; simp [offUp]
    | cons z r ih =>
      intro a
      rw [List.foldl_cons, ih]
      unfold offUp
      simp only [List.map_cons, List.sum_cons]
      show (let b := decide (l ≤ m_water_level w z.a); (bif b then a - z.b else a)) - _ = _
      unfold m_water_level wLev
      dsimp only
      by_cases h : l ≤ z.a.a + w.a
      · rw [decide_eq_true h, if_pos h]; simp only [cond_true]; omega
      · rw [decide_eq_false h, if_neg h]; simp only [cond_false]; omega
  rw [h1, h2]
  unfold upM
  omega
theorem dput_keys {β : Type} (kvs : List (Int × β)) (k : Int) (v : β) (j : Int) : j ∈ (dput kvs k v).map (·.1) ↔ j = k ∨ j ∈ kvs.map (·.1) := by
  unfold dput
  split
  · rename_i h
    have e : ((kvs.map fun p => if p.1 = k then (p.1, v) else p).map (·.1)) = kvs.map (·.1) := by
      rw [List.map_map]
      apply List.map_congr_left
      intro p _
      show (if p.1 = k then (p.1, v) else p).1 = p.1
      split <;> rfl
    rw [e]
    constructor
    · exact .inr
    · rintro (h2 | h2)
      · subst h2
        obtain ⟨p, hp, e2⟩ := List.any_eq_true.mp h
        exact List.mem_map.mpr ⟨p, hp, of_decide_eq_true e2⟩
      · exact h2
  · rw [List.map_append, List.mem_append]
    constructor
    · rintro (h | h)
      · exact .inr h
      · exact .inl (by simpa using h)
    · rintro (h | h)
      · exact .inr (by simpa using h)
      · exact .inl h
theorem fold_keys (f : List (Int × Bool) → Strm → List (Int × Bool)) (u v : Strm → Int) (hf : ∀ s x, f s x = dput (dput s (u x) true) (v x) true) : ∀ (xs : List Strm) (s : List (Int × Bool)) (j : Int),
    j ∈ (xs.foldl f s).map (·.1) ↔ j ∈ s.map (·.1) ∨ ∃ x ∈ xs, j = u x ∨ j = v x
  | [], s, j => by simp
  | x :: r, s, j => by
    rw [List.foldl_cons, fold_keys f u v hf r, hf, dput_keys, dput_keys]
    simp only [List.mem_cons, exists_eq_or_imp]
    constructor
    · rintro ((h | h | h) | h)
      · exact .inr (.inl (.inr h))
      · exact .inr (.inl (.inl h))
      · exact .inl h
      · exact .inr (.inr h)
    · rintro (h | (h | h) | h)
      · exact .inl (.inr (.inr h))
      · exact .inl (.inr (.inl h))
      · exact .inl (.inl h)
      · exact .inr h
theorem fold_keys1 (f : List (Int × Bool) → T3 Int Int Int → List (Int × Bool)) (u : T3 Int Int Int → Int) (hf : ∀ s x, f s x = dput s (u x) true) : ∀ (xs : List (T3 Int Int Int)) (s : List (Int × Bool)) (j : Int),
    j ∈ (xs.foldl f s).map (·.1) ↔ j ∈ s.map (·.1) ∨ ∃ x ∈ xs, j = u x
  | [], s, j => by simp
  | x :: r, s, j => by
    rw [List.foldl_cons, fold_keys1 f u hf r, hf, dput_keys]
    simp only [List.mem_cons, exists_eq_or_imp]
    constructor
    · rintro ((h | h) | h)
      · exact .inr (.inl h)
      · exact .inl h
      · exact .inr (.inr h)
    · rintro (h | h | h)
      · exact .inl (.inr h)
      · exact .inl (.inl h)
      · exact .inr h
theorem turns_mem (w : Wks) (k : Int) : k ∈ m_turns w ↔ k = 0 ∨ k = 250 ∨ (∃ x ∈ w.b, k = x.a ∨ k = x.b) ∨ ∃ x ∈ w.c, k = x.a + w.a ∨ k = x.b + w.a := by
  unfold m_turns
  dsimp only
  rw [fold_keys (m_turns_L2 w) (fun x => x.a + w.a) (fun x => x.b + w.a) (fun s x => rfl), fold_keys m_turns_L1 (fun x => x.a) (fun x => x.b) (fun s x => rfl), dput_keys]
  simp only [List.map_cons, List.map_nil, List.mem_cons, List.not_mem_nil, or_false]
  constructor
  · rintro (((h | h) | h) | h)
    · exact .inr (.inl h)
    · exact .inl h
    · exact .inr (.inr (.inl h))
    · exact .inr (.inr (.inr h))
  · rintro (h | h | h | h)
    · exact .inl (.inl (.inr h))
    · exact .inl (.inl (.inl h))
    · exact .inl (.inr h)
    · exact .inr h
theorem offered_mem (w : Wks) (s : Shp) (k : Int) : k ∈ m_offered w s ↔ (∃ x ∈ s.a, k = fLev x) ∨ ∃ x ∈ s.b, k = wLev w x := by
  unfold m_offered
  dsimp only
  rw [(sortD_perm _).mem_iff, fold_keys1 (m_offered_L2 w) (wLev w) (fun s x => rfl), fold_keys1 m_offered_L1 fLev (fun s x => rfl)]
  simp only [List.map_nil, List.not_mem_nil, false_or]
theorem rat_same {xs : List Strm} {l : Int} (h : ∀ x ∈ xs, l ≠ x.a ∧ l ≠ x.b) : rat xs l = rat xs (l - 1) := by
  unfold rat
  induction xs with
  | nil => rfl
  | cons x r ih =>
    have hx := h x (by simp)
    simp only [List.map_cons, List.sum_cons]
    rw [ih fun y hy => h y (by simp [hy])]
    have : rat1 x l = rat1 x (l - 1) := by
      unfold rat1
      by_cases hc : min x.a x.b ≤ l ∧ l < max x.a x.b
      · rw [if_pos hc, if_pos (by omega)]
      · rw [if_neg hc, if_neg (by omega)]
    rw [this]
/-- the lack goes straight on where it doesn't turn -/
theorem lack_flat {w : Wks} {l : Int} (h : l ∉ m_turns w) : lackM w (l - 1) - lackM w l = lackM w l - lackM w (l + 1) := by
  rw [turns_mem] at h
  have h1 : rat w.b l = rat w.b (l - 1) := rat_same fun x hx => ⟨fun e => h (.inr (.inr (.inl ⟨x, hx, .inl e⟩))), fun e => h (.inr (.inr (.inl ⟨x, hx, .inr e⟩)))⟩
  have h2 : rat w.c (l - w.a) = rat w.c (l - w.a - 1) := rat_same fun x hx => ⟨fun e => h (.inr (.inr (.inr ⟨x, hx, .inl (by omega)⟩))), fun e => h (.inr (.inr (.inr ⟨x, hx, .inr (by omega)⟩)))⟩
  have s1 := lack_step w l
  have s2 := lack_step w (l - 1)
  rw [show l - 1 + 1 = l by omega, show l - 1 - w.a = l - w.a - 1 by omega] at s2
  omega
/-- a buying that will do -/
def Will (w : Wks) (s : Shp) (u : Buy) : Prop := (∀ l : Int, 0 ≤ l → l ≤ 250 → 0 ≤ spareM w s u l) ∧ spareM w s u 0 = 0
theorem up_same {w : Wks} {s : Shp} {u : Buy} {l : Int} (h : l ∉ m_offered w s) : upM w s u l = upM w s u (l + 1) := by
  rw [offered_mem] at h
  have h1 := off_step fLev l (zipL s.a u.a)
  have h2 := off_step (wLev w) l (zipL s.b u.b)
  rw [off_none (fun z hz e => h (.inl ⟨_, (zip_of hz).1, e.symm⟩))] at h1
  rw [off_none (fun z hz e => h (.inr ⟨_, (zip_of hz).1, e.symm⟩))] at h2
  unfold upM
  omega
theorem spare_flat {w : Wks} {s : Shp} {u : Buy} {l : Int} (h1 : l ∉ m_turns w) (h2 : l ∉ m_offered w s) (h3 : l - 1 ∉ m_offered w s) : spareM w s u (l - 1) - spareM w s u l = spareM w s u l - spareM w s u (l + 1) := by
  have e1 := lack_flat h1
  have e2 := up_same (u := u) h2
  have e3 := up_same (u := u) h3
  rw [show l - 1 + 1 = l by omega] at e3
  unfold spareM
  omega
def Crit (w : Wks) (s : Shp) (l : Int) : Prop := l ∈ m_turns w ∨ l ∈ m_offered w s ∨ l - 1 ∈ m_offered w s
theorem crit_all {w : Wks} {s : Shp} {u : Buy} (h : ∀ l, Crit w s l → 0 ≤ spareM w s u l) : ∀ l : Int, 0 ≤ l → l ≤ 250 → 0 ≤ spareM w s u l := by
  have flat : ∀ l, spareM w s u l < 0 → spareM w s u (l - 1) - spareM w s u l = spareM w s u l - spareM w s u (l + 1) := fun l hl => spare_flat (fun z => by have := h l (.inl z); omega) (fun z => by have := h l (.inr (.inl z)); omega) (fun z => by have := h l (.inr (.inr z)); omega)
  have up : ∀ (n : Nat) (l : Int), 250 - l = n → spareM w s u l < 0 → spareM w s u (l + 1) ≤ spareM w s u l → False := by
    intro n
    induction n with
    | zero =>
      intro l e h1 _
      have := h l (.inl ((turns_mem w l).mpr (.inr (.inl (by omega)))))
      omega
    | succ n ih =>
      intro l e h1 h2
      have := flat (l + 1) (by omega)
      rw [show l + 1 - 1 = l by omega] at this
      exact ih (l + 1) (by omega) (by omega) (by omega)
  have down : ∀ (n : Nat) (l : Int), l = n → spareM w s u l < 0 → spareM w s u (l - 1) ≤ spareM w s u l → False := by
    intro n
    induction n with
    | zero =>
      intro l e h1 _
      have := h l (.inl ((turns_mem w l).mpr (.inl (by omega))))
      omega
    | succ n ih =>
      intro l e h1 h2
      have := flat (l - 1) (by omega)
      rw [show l - 1 + 1 = l by omega] at this
      exact ih (l - 1) (by omega) (by omega) (by omega)
  intro l h0 h1
  apply Classical.byContradiction
  intro hn
  have hf := flat l (by omega)
  by_cases hc : spareM w s u (l + 1) ≤ spareM w s u l
  · exact up (250 - l).toNat l (by omega) (by omega) hc
  · exact down l.toNat l (by omega) (by omega) (by omega)
theorem runL_cons_go {τ α ρ : Type} {f : τ → α → LR τ ρ} {s s' : τ} {x : α} {r : List α} (h : f s x = .go s') : runL f s (x :: r) = runL f s' r := by
  show (match f s x with | .go s' => runL f s' r | .re y => .re y) = _
  rw [h]
theorem runL_all {τ α ρ : Type} (f : τ → α → LR τ ρ) (s : τ) : ∀ xs : List α, (∀ x ∈ xs, f s x = .go s) → runL f s xs = .go s
  | [], _ => rfl
  | x :: r, h => by
    show (match f s x with | .go s' => runL f s' r | .re y => .re y) = _
    rw [h x (by simp)]
    exact runL_all f s r fun y hy => h y (by simp [hy])
theorem runL_some {τ α ρ : Type} (f : τ → α → LR τ ρ) (s : τ) (y : ρ) : ∀ xs : List α, (∀ x ∈ xs, f s x = .go s ∨ f s x = .re y) → (∃ x ∈ xs, f s x = .re y) → runL f s xs = .re y
  | [], _, ⟨_, h, _⟩ => by cases h
  | x :: r, h, ⟨z, hz, e⟩ => by
    show (match f s x with | .go s' => runL f s' r | .re y => .re y) = _
    rcases h x (by simp) with e1 | e1
    · rw [e1]
      refine runL_some f s y r (fun y hy => h y (by simp [hy])) ⟨z, ?_, e⟩
      rcases List.mem_cons.mp hz with e2 | e2
      · subst e2; rw [e1] at e; cases e
      · exact e2
    · rw [e1]
theorem will_do_iff {w : Wks} {s : Shp} (h : SpOk w s) (u : Buy) : m_will_do w s u = true ↔ Will w s u := by
  unfold m_will_do
  dsimp only
  have hL : ∀ x, m_will_do_L1 w s u () x = if upM w s u x < lackM w x then .re false else .go () := fun x => by
    show (bif decide (m_bought_above w s u x < m_lack_above w x) then _ else _) = _
    rw [bought_eq, lack_above_eq]
    by_cases hc : upM w s u x < lackM w x
    · rw [decide_eq_true hc, if_pos hc]; rfl
    · rw [decide_eq_false hc, if_neg hc]; rfl
  have hm : ∀ l, l ∈ ((m_turns w ++ m_offered w s) ++ (m_offered w s).map (fun (x : Int) => x + 1)) ↔ Crit w s l := fun l => by
    unfold Crit
    rw [List.mem_append, List.mem_append, List.mem_map]
    constructor
    · rintro ((h | h) | ⟨y, h, e⟩)
      · exact .inl h
      · exact .inr (.inl h)
      · exact .inr (.inr (by rw [← e, show y + 1 - 1 = y by omega]; exact h))
    · rintro (h | h | h)
      · exact .inl (.inl h)
      · exact .inl (.inr h)
      · exact .inr ⟨l - 1, h, by omega⟩
  by_cases hc : ∀ l, Crit w s l → 0 ≤ spareM w s u l
  · rw [runL_all _ _ _ (fun x hx => by rw [hL, if_neg]; have := hc x ((hm x).mp hx); unfold spareM at this; omega)]
    show decide (m_bought_above w s u 0 = m_lack_above w 0) = true ↔ _
    rw [bought_eq, lack_above_eq, decide_eq_true_eq]
    refine ⟨fun e => ⟨crit_all hc, by unfold spareM; omega⟩, fun e => ?_⟩
    have := e.2
    unfold spareM at this
    omega
  · have ⟨l, hl⟩ := Classical.not_forall.mp hc
    obtain ⟨h1, h2⟩ := Classical.not_imp.mp hl
    have h2 : upM w s u l < lackM w l := by unfold spareM at h2; omega
    rw [runL_some (y := false) _ _ _ (fun x hx => by
      rw [hL]
      by_cases hc : upM w s u x < lackM w x
      · rw [if_pos hc]; exact .inr rfl
      · rw [if_neg hc]; exact .inl rfl) ⟨l, (hm l).mpr h1, by rw [hL, if_pos h2]⟩]
    refine ⟨fun z => (by cases z), fun e => ?_⟩
    exfalso
    apply hc
    intro k hk
    by_cases h3 : 0 ≤ k
    · by_cases h4 : k ≤ 250
      · exact e.1 k h3 h4
      · rw [spare_top h u (by omega)]; exact Int.le_refl _
    · exfalso
      have g0 := h.w.g0
      rcases hk with hk | hk | hk
      · rcases (turns_mem w k).mp hk with z | z | ⟨x, hx, z⟩ | ⟨x, hx, z⟩
        · omega
        · omega
        · have := h.w.deg.b x hx; omega
        · have := h.w.deg.c x hx; omega
      · rcases (offered_mem w s k).mp hk with ⟨x, hx, z⟩ | ⟨x, hx, z⟩
        · have := h.a x hx; unfold fLev at z; omega
        · have := h.b x hx; unfold wLev at z; omega
      · rcases (offered_mem w s (k - 1)).mp hk with ⟨x, hx, z⟩ | ⟨x, hx, z⟩
        · have := h.a x hx; unfold fLev at z; omega
        · have := h.b x hx; unfold wLev at z; omega
/-- the least of the spares, and the one at 0 -/
theorem spares_will {w : Wks} {s : Shp} (h : SpOk w s) (u : Buy) : (decide (0 ≤ minL (m_law_spares w s u)) && decide ((m_law_spares w s u).getD (0 : Int).toNat (0 : Int) = 0)) = true ↔ Will w s u := by
  obtain ⟨h1, h2⟩ := spares_cell h u
  have e0 : (m_law_spares w s u).getD (0 : Int).toNat (0 : Int) = spareM w s u 0 := h2 0 (by omega)
  rw [Bool.and_eq_true, decide_eq_true_eq, decide_eq_true_eq, e0]
  refine ⟨fun q => ⟨fun l h3 h4 => ?_, q.2⟩, fun q => ⟨?_, q.2⟩⟩
  · have h5 := h2 l.toNat (by omega)
    rw [show ((l.toNat : Nat) : Int) = l by omega] at h5
    rw [← h5]
    refine Int.le_trans q.1 (minL_le ?_)
    unfold cellI
    rw [List.getD_eq_getElem?_getD, List.getElem?_eq_getElem (by omega)]
    exact List.getElem_mem _
  · have hm := minL_mem (ns := m_law_spares w s u) (by omega)
    obtain ⟨i, hi, e⟩ := List.getElem_of_mem hm
    have h5 := h2 i (by omega)
    unfold cellI at h5
    rw [List.getD_eq_getElem?_getD, List.getElem?_eq_getElem hi] at h5
    have h5 : (m_law_spares w s u)[i] = spareM w s u i := h5
    rw [← e, h5]
    exact q.1 i (by omega) (by omega)
end Tw

set_option maxRecDepth 100000
set_option maxHeartbeats 4000000
namespace Tw
open PySem PySem.Spec PyProof.Rows L2 Wl
theorem told_true {w : Wks} {s : Shp} (h : SpOk w s) (u : Buy) : m_law_told w s u = true := by
  unfold m_law_told
  dsimp only
  have e1 : (T2.mk u.a u.b : Buy) = u := rfl
  have e2 : (T2.mk s.a s.b : Shp) = s := rfl
  rw [e1, e2, decide_eq_true (rfl : u = u), decide_eq_true (rfl : s = s)]
  show decide (m_will_do w s u = (decide (0 ≤ minL (m_law_spares w s u)) && decide ((m_law_spares w s u).getD (0 : Int).toNat (0 : Int) = 0))) = true
  refine decide_eq_true (Bool.eq_iff_iff.mpr ?_)
  rw [will_do_iff h, spares_will h]
theorem law_true (ns : List Int) (_ : ns.length ≤ 63) : m_law ns = true := by
  have hw := works_ok ns
  have hs0 := shop_ok ns
  unfold m_law
  dsimp only
  generalize m_law_works ns = works at hw ⊢
  have e4 : (T3.mk works.a works.b works.c) = works := rfl
  rw [e4]
  have hE := with_ends_ok hs0 (m_law_stir (pySlice ns (some (0 : Int)) (some (63 : Int)) (some (37 : Int))).sum 7)
  generalize m_law_with_ends (m_law_shop ns) _ = shop at hE ⊢
  have hS := hE.1.sp hw
  generalize m_law_shop ns = plain at hs0 ⊢
  generalize m_law_made works shop ns = buying
  rw [told_true hS, decide_eq_true (rfl : works = works), told_true (hs0.sp hw)]
  simp only [Bool.not_true, Bool.or_false, cond_false]
  have hr : ∃ r, (bif decide (m_law_stir (pySlice ns (some (0 : Int)) (some (63 : Int)) (some (37 : Int))).sum 9 % 2 = 1) then (bif !(m_law_told works (m_law_closer works shop buying) buying) then (.re false) else (.go (m_law_closer works shop buying))) else (.go shop) : LR Shp Bool) = .go r ∧ SpOk works r := by
    have hc := closer_ok hS buying
    rw [told_true hc.1]
    cases decide (m_law_stir (pySlice ns (some (0 : Int)) (some (63 : Int)) (some (37 : Int))).sum 9 % 2 = 1)
    · exact ⟨shop, rfl, hS⟩
    · exact ⟨_, rfl, hc.1⟩
  obtain ⟨r, e, hR⟩ := hr
  rw [e]
  have q3 : runL (m_law_L3 works r buying) () (pySlice ns none (some (30 : Int)) none) = .go () := runL_all _ _ _ (fun x _ => by
    unfold m_law_L3
    dsimp only
    rw [told_true hR]
    rfl)
  show LR.fin (fun _ => LR.fin (fun _ => true) (runL (m_law_L3 works r buying) () (pySlice ns none (some (30 : Int)) none))) (runL (m_law_L1 works) () _) = true
  rw [q3, runL_all _ _ _ (fun x hx => ?_)]
  · rfl
  · unfold m_law_L1
    rw [runL_all _ _ _ (fun y hy => ?_)]
    · rfl
    · unfold m_law_L2
      rw [told_true (sides_ok hR hx hy)]
      rfl
end Tw

set_option maxRecDepth 100000
set_option maxHeartbeats 4000000
namespace Tw
open PySem PySem.Spec PyProof.Rows L2 Wl
theorem all_mk {l : PySem.W.OpenLaw} {w : World} {K : PySem.W.Frag} {h : Heap} {mg : Str → Option Value} {fa f1 f2 f3 f4 f5 f6 f7 f8 f9 f10 f11 f12 f13 f14 f15 f16 f17 f18 f19 f20 f21 : Addr} (X : K.In h) (G : h.Ns mainGlobals mg) (hfa : mg "law" = some (.ref fa))
    {od1 an1 od2 an2 od3 an3 od4 an4 od5 an5 od6 an6 od7 an7 od8 an8 od9 an9 od10 an10 od11 an11 od12 an12 od13 an13 od14 an14 od15 an15 od16 an16 od17 an17 od18 an18 od19 an19 od20 an20 od21 an21 : Option Addr} {sl1 sl2 sl3 sl4 sl5 sl6 sl7 sl8 sl9 sl10 sl11 sl12 sl13 sl14 sl15 sl16 sl17 sl18 sl19 sl20 sl21 : Array (Option Value)} {oc1 kV1 dc1 pm1 cd1 ct1 oc2 kV2 dc2 pm2 cd2 ct2 oc3 kV3 dc3 pm3 cd3 ct3 oc4 kV4 dc4 pm4 cd4 ct4 oc5 kV5 dc5 pm5 cd5 ct5 oc6 kV6 dc6 pm6 cd6 ct6 oc7 kV7 dc7 pm7 cd7 ct7 oc8 kV8 dc8 pm8 cd8 ct8 oc9 kV9 dc9 pm9 cd9 ct9 oc10 kV10 dc10 pm10 cd10 ct10 oc11 kV11 dc11 pm11 cd11 ct11 oc12 kV12 dc12 pm12 cd12 ct12 oc13 kV13 dc13 pm13 cd13 ct13 oc14 kV14 dc14 pm14 cd14 ct14 oc15 kV15 dc15 pm15 cd15 ct15 oc16 kV16 dc16 pm16 cd16 ct16 oc17 kV17 dc17 pm17 cd17 ct17 oc18 kV18 dc18 pm18 cd18 ct18 oc19 kV19 dc19 pm19 cd19 ct19 oc20 kV20 dc20 pm20 cd20 ct20 oc21 kV21 dc21 pm21 cd21 ct21 : Value}
    (a1 : PySem.W.nsIn K mainGlobals "_law_stir" = some (some (.ref f1))) (l1 : K.lookup f1 = some ⟨oc1, od1, .func (PySem.W.fnOf "_law_stir" "_law_stir" (defArgs s_law_stir) (defBody s_law_stir) (defScope s_law_stir) .none kV1 dc1 pm1 an1 cd1 ct1), sl1⟩) (c1 : PySem.W.codeIn K cd1 "_law_stir" = true) (k1 : PySem.W.keepIn K (.ref f1) = true)
    (a2 : PySem.W.nsIn K mainGlobals "_law_stream" = some (some (.ref f2))) (l2 : K.lookup f2 = some ⟨oc2, od2, .func (PySem.W.fnOf "_law_stream" "_law_stream" (defArgs s_law_stream) (defBody s_law_stream) (defScope s_law_stream) .none kV2 dc2 pm2 an2 cd2 ct2), sl2⟩) (c2 : PySem.W.codeIn K cd2 "_law_stream" = true) (k2 : PySem.W.keepIn K (.ref f2) = true)
    (a3 : PySem.W.nsIn K mainGlobals "_law_works" = some (some (.ref f3))) (l3 : K.lookup f3 = some ⟨oc3, od3, .func (PySem.W.fnOf "_law_works" "_law_works" (defArgs s_law_works) (defBody s_law_works) (defScope s_law_works) .none kV3 dc3 pm3 an3 cd3 ct3), sl3⟩) (c3 : PySem.W.codeIn K cd3 "_law_works" = true) (k3 : PySem.W.keepIn K (.ref f3) = true)
    (a4 : PySem.W.nsIn K mainGlobals "_law_with_ends" = some (some (.ref f4))) (l4 : K.lookup f4 = some ⟨oc4, od4, .func (PySem.W.fnOf "_law_with_ends" "_law_with_ends" (defArgs s_law_with_ends) (defBody s_law_with_ends) (defScope s_law_with_ends) .none kV4 dc4 pm4 an4 cd4 ct4), sl4⟩) (c4 : PySem.W.codeIn K cd4 "_law_with_ends" = true) (k4 : PySem.W.keepIn K (.ref f4) = true)
    (a5 : PySem.W.nsIn K mainGlobals "_law_amounts" = some (some (.ref f5))) (l5 : K.lookup f5 = some ⟨oc5, od5, .func (PySem.W.fnOf "_law_amounts" "_law_amounts" (defArgs s_law_amounts) (defBody s_law_amounts) (defScope s_law_amounts) .none kV5 dc5 pm5 an5 cd5 ct5), sl5⟩) (c5 : PySem.W.codeIn K cd5 "_law_amounts" = true) (k5 : PySem.W.keepIn K (.ref f5) = true)
    (a6 : PySem.W.nsIn K mainGlobals "_law_spares" = some (some (.ref f6))) (l6 : K.lookup f6 = some ⟨oc6, od6, .func (PySem.W.fnOf "_law_spares" "_law_spares" (defArgs s_law_spares) (defBody s_law_spares) (defScope s_law_spares) .none kV6 dc6 pm6 an6 cd6 ct6), sl6⟩) (c6 : PySem.W.codeIn K cd6 "_law_spares" = true) (k6 : PySem.W.keepIn K (.ref f6) = true)
    (a7 : PySem.W.nsIn K mainGlobals "_law_spares" = some (some (.ref f7))) (l7 : K.lookup f7 = some ⟨oc7, od7, .func (PySem.W.fnOf "_law_spares" "_law_spares" (defArgs s_law_spares_2) (defBody s_law_spares_2) (defScope s_law_spares_2) .none kV7 dc7 pm7 an7 cd7 ct7), sl7⟩) (c7 : PySem.W.codeIn K cd7 "_law_spares" = true) (k7 : PySem.W.keepIn K (.ref f7) = true)
    (a8 : PySem.W.nsIn K mainGlobals "_law_made" = some (some (.ref f8))) (l8 : K.lookup f8 = some ⟨oc8, od8, .func (PySem.W.fnOf "_law_made" "_law_made" (defArgs s_law_made) (defBody s_law_made) (defScope s_law_made) .none kV8 dc8 pm8 an8 cd8 ct8), sl8⟩) (c8 : PySem.W.codeIn K cd8 "_law_made" = true) (k8 : PySem.W.keepIn K (.ref f8) = true)
    (a9 : PySem.W.nsIn K mainGlobals "_law_offer" = some (some (.ref f9))) (l9 : K.lookup f9 = some ⟨oc9, od9, .func (PySem.W.fnOf "_law_offer" "_law_offer" (defArgs s_law_offer) (defBody s_law_offer) (defScope s_law_offer) .none kV9 dc9 pm9 an9 cd9 ct9), sl9⟩) (c9 : PySem.W.codeIn K cd9 "_law_offer" = true) (k9 : PySem.W.keepIn K (.ref f9) = true)
    (a10 : PySem.W.nsIn K mainGlobals "_law_shop" = some (some (.ref f10))) (l10 : K.lookup f10 = some ⟨oc10, od10, .func (PySem.W.fnOf "_law_shop" "_law_shop" (defArgs s_law_shop) (defBody s_law_shop) (defScope s_law_shop) .none kV10 dc10 pm10 an10 cd10 ct10), sl10⟩) (c10 : PySem.W.codeIn K cd10 "_law_shop" = true) (k10 : PySem.W.keepIn K (.ref f10) = true)
    (a11 : PySem.W.nsIn K mainGlobals "fire_level" = some (some (.ref f11))) (l11 : K.lookup f11 = some ⟨oc11, od11, .func (PySem.W.fnOf "fire_level" "fire_level" (defArgs s_fire_level) (defBody s_fire_level) (defScope s_fire_level) .none kV11 dc11 pm11 an11 cd11 ct11), sl11⟩) (c11 : PySem.W.codeIn K cd11 "fire_level" = true) (k11 : PySem.W.keepIn K (.ref f11) = true)
    (a12 : PySem.W.nsIn K mainGlobals "water_level" = some (some (.ref f12))) (l12 : K.lookup f12 = some ⟨oc12, od12, .func (PySem.W.fnOf "water_level" "water_level" (defArgs s_water_level) (defBody s_water_level) (defScope s_water_level) .none kV12 dc12 pm12 an12 cd12 ct12), sl12⟩) (c12 : PySem.W.codeIn K cd12 "water_level" = true) (k12 : PySem.W.keepIn K (.ref f12) = true)
    (a13 : PySem.W.nsIn K mainGlobals "offered" = some (some (.ref f13))) (l13 : K.lookup f13 = some ⟨oc13, od13, .func (PySem.W.fnOf "offered" "offered" (defArgs s_offered) (defBody s_offered) (defScope s_offered) .none kV13 dc13 pm13 an13 cd13 ct13), sl13⟩) (c13 : PySem.W.codeIn K cd13 "offered" = true) (k13 : PySem.W.keepIn K (.ref f13) = true)
    (a14 : PySem.W.nsIn K mainGlobals "bought_above" = some (some (.ref f14))) (l14 : K.lookup f14 = some ⟨oc14, od14, .func (PySem.W.fnOf "bought_above" "bought_above" (defArgs s_bought_above) (defBody s_bought_above) (defScope s_bought_above) .none kV14 dc14 pm14 an14 cd14 ct14), sl14⟩) (c14 : PySem.W.codeIn K cd14 "bought_above" = true) (k14 : PySem.W.keepIn K (.ref f14) = true)
    (a15 : PySem.W.nsIn K mainGlobals "heat_above" = some (some (.ref f15))) (l15 : K.lookup f15 = some ⟨oc15, od15, .func (PySem.W.fnOf "heat_above" "heat_above" (defArgs s_heat_above) (defBody s_heat_above) (defScope s_heat_above) .none kV15 dc15 pm15 an15 cd15 ct15), sl15⟩) (c15 : PySem.W.codeIn K cd15 "heat_above" = true) (k15 : PySem.W.keepIn K (.ref f15) = true)
    (a16 : PySem.W.nsIn K mainGlobals "lack_above" = some (some (.ref f16))) (l16 : K.lookup f16 = some ⟨oc16, od16, .func (PySem.W.fnOf "lack_above" "lack_above" (defArgs s_lack_above) (defBody s_lack_above) (defScope s_lack_above) .none kV16 dc16 pm16 an16 cd16 ct16), sl16⟩) (c16 : PySem.W.codeIn K cd16 "lack_above" = true) (k16 : PySem.W.keepIn K (.ref f16) = true)
    (a17 : PySem.W.nsIn K mainGlobals "turns" = some (some (.ref f17))) (l17 : K.lookup f17 = some ⟨oc17, od17, .func (PySem.W.fnOf "turns" "turns" (defArgs s_turns) (defBody s_turns) (defScope s_turns) .none kV17 dc17 pm17 an17 cd17 ct17), sl17⟩) (c17 : PySem.W.codeIn K cd17 "turns" = true) (k17 : PySem.W.keepIn K (.ref f17) = true)
    (a18 : PySem.W.nsIn K mainGlobals "will_do" = some (some (.ref f18))) (l18 : K.lookup f18 = some ⟨oc18, od18, .func (PySem.W.fnOf "will_do" "will_do" (defArgs s_will_do) (defBody s_will_do) (defScope s_will_do) .none kV18 dc18 pm18 an18 cd18 ct18), sl18⟩) (c18 : PySem.W.codeIn K cd18 "will_do" = true) (k18 : PySem.W.keepIn K (.ref f18) = true)
    (a19 : PySem.W.nsIn K mainGlobals "_law_told" = some (some (.ref f19))) (l19 : K.lookup f19 = some ⟨oc19, od19, .func (PySem.W.fnOf "_law_told" "_law_told" (defArgs s_law_told) (defBody s_law_told) (defScope s_law_told) .none kV19 dc19 pm19 an19 cd19 ct19), sl19⟩) (c19 : PySem.W.codeIn K cd19 "_law_told" = true) (k19 : PySem.W.keepIn K (.ref f19) = true)
    (a20 : PySem.W.nsIn K mainGlobals "_law_closer" = some (some (.ref f20))) (l20 : K.lookup f20 = some ⟨oc20, od20, .func (PySem.W.fnOf "_law_closer" "_law_closer" (defArgs s_law_closer) (defBody s_law_closer) (defScope s_law_closer) .none kV20 dc20 pm20 an20 cd20 ct20), sl20⟩) (c20 : PySem.W.codeIn K cd20 "_law_closer" = true) (k20 : PySem.W.keepIn K (.ref f20) = true)
    (a21 : PySem.W.nsIn K mainGlobals "law" = some (some (.ref f21))) (l21 : K.lookup f21 = some ⟨oc21, od21, .func (PySem.W.fnOf "law" "law" (defArgs s_law) (defBody s_law) (defScope s_law) .none kV21 dc21 pm21 an21 cd21 ct21), sl21⟩) (c21 : PySem.W.codeIn K cd21 "law" = true) (k21 : PySem.W.keepIn K (.ref f21) = true)
    (z_bool : PySem.W.nsIn K mainGlobals "bool" = some none) (z_int : PySem.W.nsIn K mainGlobals "int" = some none) (z_isinstance : PySem.W.nsIn K mainGlobals "isinstance" = some none) (z_len : PySem.W.nsIn K mainGlobals "len" = some none) (z_list : PySem.W.nsIn K mainGlobals "list" = some none) (z_max : PySem.W.nsIn K mainGlobals "max" = some none) (z_min : PySem.W.nsIn K mainGlobals "min" = some none) (z_range : PySem.W.nsIn K mainGlobals "range" = some none) (z_reversed : PySem.W.nsIn K mainGlobals "reversed" = some none) (z_sorted : PySem.W.nsIn K mainGlobals "sorted" = some none) (z_sum : PySem.W.nsIn K mainGlobals "sum" = some none) (z_zip : PySem.W.nsIn K mainGlobals "zip" = some none) {tc_TOP : Tok} (c_TOP : PySem.W.nsIn K mainGlobals "TOP" = some (some (.int (250) tc_TOP))) :
    ∃ fd : FuncData, (∀ (s : Shared) (v : Value), BindsTo s fd ⟨[v], []⟩ [("script", v)]) ∧ ∀ base : Heap, K.In base → base.Ns mainGlobals mg → FnOk l.prog w K mg base CX0 5 fa fd ["script"] (PSp K r_law) := by
  have e := hfa.symm.trans (PySem.W.mg_of X G a21)
  cases e
  have T : Txt K mg := ⟨PySem.W.mg_none_of X G z_bool, PySem.W.mg_none_of X G z_int, PySem.W.mg_none_of X G z_isinstance, PySem.W.mg_none_of X G z_len, PySem.W.mg_none_of X G z_list, PySem.W.mg_none_of X G z_max, PySem.W.mg_none_of X G z_min, PySem.W.mg_none_of X G z_range, PySem.W.mg_none_of X G z_reversed, PySem.W.mg_none_of X G z_sorted, PySem.W.mg_none_of X G z_sum, PySem.W.mg_none_of X G z_zip, ⟨_, PySem.W.mg_of X G c_TOP⟩⟩
  have F1 := fun_mk (st := s_law_stir) l1 c1 k1
  have b1 := F1.binds (ps := ["cell", "k"]) fun _ _ _ _ _ _ us hl => match us, hl with | [_, _], _ => rfl
  have F2 := fun_mk (st := s_law_stream) l2 c2 k2
  have b2 := F2.binds (ps := ["cell", "least"]) fun _ _ _ _ _ _ us hl => match us, hl with | [_, _], _ => rfl
  have F3 := fun_mk (st := s_law_works) l3 c3 k3
  have b3 := F3.binds (ps := ["script"]) fun _ _ _ _ _ _ us hl => match us, hl with | [_], _ => rfl
  have F4 := fun_mk (st := s_law_with_ends) l4 c4 k4
  have b4 := F4.binds (ps := ["shop", "number"]) fun _ _ _ _ _ _ us hl => match us, hl with | [_, _], _ => rfl
  have F5 := fun_mk (st := s_law_amounts) l5 c5 k5
  have b5 := F5.binds (ps := ["offers", "script", "k"]) fun _ _ _ _ _ _ us hl => match us, hl with | [_, _, _], _ => rfl
  have F6 := fun_mk (st := s_law_spares) l6 c6 k6
  have b6 := F6.binds (ps := ["works", "shop", "buying"]) fun _ _ _ _ _ _ us hl => match us, hl with | [_, _, _], _ => rfl
  have F7 := fun_mk (st := s_law_spares_2) l7 c7 k7
  have b7 := F7.binds (ps := ["works", "shop", "buying"]) fun _ _ _ _ _ _ us hl => match us, hl with | [_, _, _], _ => rfl
  have F8 := fun_mk (st := s_law_made) l8 c8 k8
  have b8 := F8.binds (ps := ["works", "shop", "script"]) fun _ _ _ _ _ _ us hl => match us, hl with | [_, _, _], _ => rfl
  have F9 := fun_mk (st := s_law_offer) l9 c9 k9
  have b9 := F9.binds (ps := ["cell", "least"]) fun _ _ _ _ _ _ us hl => match us, hl with | [_, _], _ => rfl
  have F10 := fun_mk (st := s_law_shop) l10 c10 k10
  have b10 := F10.binds (ps := ["script"]) fun _ _ _ _ _ _ us hl => match us, hl with | [_], _ => rfl
  have F11 := fun_mk (st := s_fire_level) l11 c11 k11
  have b11 := F11.binds (ps := ["fire"]) fun _ _ _ _ _ _ us hl => match us, hl with | [_], _ => rfl
  have F12 := fun_mk (st := s_water_level) l12 c12 k12
  have b12 := F12.binds (ps := ["works", "water"]) fun _ _ _ _ _ _ us hl => match us, hl with | [_, _], _ => rfl
  have F13 := fun_mk (st := s_offered) l13 c13 k13
  have b13 := F13.binds (ps := ["works", "shop"]) fun _ _ _ _ _ _ us hl => match us, hl with | [_, _], _ => rfl
  have F14 := fun_mk (st := s_bought_above) l14 c14 k14
  have b14 := F14.binds (ps := ["works", "shop", "buying", "level"]) fun _ _ _ _ _ _ us hl => match us, hl with | [_, _, _, _], _ => rfl
  have F15 := fun_mk (st := s_heat_above) l15 c15 k15
  have b15 := F15.binds (ps := ["streams", "step"]) fun _ _ _ _ _ _ us hl => match us, hl with | [_, _], _ => rfl
  have F16 := fun_mk (st := s_lack_above) l16 c16 k16
  have b16 := F16.binds (ps := ["works", "level"]) fun _ _ _ _ _ _ us hl => match us, hl with | [_, _], _ => rfl
  have F17 := fun_mk (st := s_turns) l17 c17 k17
  have b17 := F17.binds (ps := ["works"]) fun _ _ _ _ _ _ us hl => match us, hl with | [_], _ => rfl
  have F18 := fun_mk (st := s_will_do) l18 c18 k18
  have b18 := F18.binds (ps := ["works", "shop", "buying"]) fun _ _ _ _ _ _ us hl => match us, hl with | [_, _, _], _ => rfl
  have F19 := fun_mk (st := s_law_told) l19 c19 k19
  have b19 := F19.binds (ps := ["works", "shop", "buying"]) fun _ _ _ _ _ _ us hl => match us, hl with | [_, _, _], _ => rfl
  have F20 := fun_mk (st := s_law_closer) l20 c20 k20
  have b20 := F20.binds (ps := ["works", "shop", "buying"]) fun _ _ _ _ _ _ us hl => match us, hl with | [_, _, _], _ => rfl
  have F21 := fun_mk (st := s_law) l21 c21 k21
  refine ⟨PySem.W.fnOf "law" "law" (defArgs s_law) (defBody s_law) (defScope s_law) .none kV21 dc21 pm21 an21 cd21 ct21, fun s v => .of_eq rfl, fun base _ _ => ?_⟩
  have A_law_stir : FnAt l.prog w K mg base "_law_stir" 1 ["cell", "k"] r_law_stir := ⟨f1, _, ok_law_stir T  F1, PySem.W.mg_of X G a1, k1, b1⟩
  have A_law_stream : FnAt l.prog w K mg base "_law_stream" 2 ["cell", "least"] r_law_stream := ⟨f2, _, ok_law_stream T A_law_stir F2, PySem.W.mg_of X G a2, k2, b2⟩
  have A_law_works : FnAt l.prog w K mg base "_law_works" 3 ["script"] r_law_works := ⟨f3, _, ok_law_works T A_law_stir A_law_stream F3, PySem.W.mg_of X G a3, k3, b3⟩
  have A_law_with_ends : FnAt l.prog w K mg base "_law_with_ends" 1 ["shop", "number"] r_law_with_ends := ⟨f4, _, ok_law_with_ends T  F4, PySem.W.mg_of X G a4, k4, b4⟩
  have A_law_amounts : FnAtO l.prog w K mg base "_law_amounts" 2 ["offers", "script", "k"] r_law_amounts := ⟨f5, _, ok_law_amounts T A_law_stir F5, PySem.W.mg_of X G a5, k5, b5⟩
  have A_law_spares : FnAt l.prog w K mg base "_law_spares" 1 ["works", "shop", "buying"] r_law_spares := ⟨f6, _, ok_law_spares T  F6, PySem.W.mg_of X G a6, k6, b6⟩
  have A_law_spares_2 : FnAt l.prog w K mg base "_law_spares" 1 ["works", "shop", "buying"] r_law_spares_2 := ⟨f7, _, ok_law_spares_2 T  F7, PySem.W.mg_of X G a7, k7, b7⟩
  have A_law_made : FnAt l.prog w K mg base "_law_made" 3 ["works", "shop", "script"] r_law_made := ⟨f8, _, ok_law_made T A_law_amounts A_law_spares_2 F8, PySem.W.mg_of X G a8, k8, b8⟩
  have A_law_offer : FnAt l.prog w K mg base "_law_offer" 2 ["cell", "least"] r_law_offer := ⟨f9, _, ok_law_offer T A_law_stir F9, PySem.W.mg_of X G a9, k9, b9⟩
  have A_law_shop : FnAt l.prog w K mg base "_law_shop" 3 ["script"] r_law_shop := ⟨f10, _, ok_law_shop T A_law_offer A_law_stir F10, PySem.W.mg_of X G a10, k10, b10⟩
  have A_fire_level : FnAt l.prog w K mg base "fire_level" 1 ["fire"] r_fire_level := ⟨f11, _, ok_fire_level T  F11, PySem.W.mg_of X G a11, k11, b11⟩
  have A_water_level : FnAt l.prog w K mg base "water_level" 1 ["works", "water"] r_water_level := ⟨f12, _, ok_water_level T  F12, PySem.W.mg_of X G a12, k12, b12⟩
  have A_offered : FnAt l.prog w K mg base "offered" 2 ["works", "shop"] r_offered := ⟨f13, _, ok_offered T A_fire_level A_water_level F13, PySem.W.mg_of X G a13, k13, b13⟩
  have A_bought_above : FnAt l.prog w K mg base "bought_above" 2 ["works", "shop", "buying", "level"] r_bought_above := ⟨f14, _, ok_bought_above T A_fire_level A_water_level F14, PySem.W.mg_of X G a14, k14, b14⟩
  have A_heat_above : FnAt l.prog w K mg base "heat_above" 1 ["streams", "step"] r_heat_above := ⟨f15, _, ok_heat_above T  F15, PySem.W.mg_of X G a15, k15, b15⟩
  have A_lack_above : FnAt l.prog w K mg base "lack_above" 2 ["works", "level"] r_lack_above := ⟨f16, _, ok_lack_above T A_heat_above F16, PySem.W.mg_of X G a16, k16, b16⟩
  have A_turns : FnAt l.prog w K mg base "turns" 1 ["works"] r_turns := ⟨f17, _, ok_turns T  F17, PySem.W.mg_of X G a17, k17, b17⟩
  have A_will_do : FnAt l.prog w K mg base "will_do" 3 ["works", "shop", "buying"] r_will_do := ⟨f18, _, ok_will_do T A_bought_above A_lack_above A_offered A_turns F18, PySem.W.mg_of X G a18, k18, b18⟩
  have A_law_told : FnAt l.prog w K mg base "_law_told" 4 ["works", "shop", "buying"] r_law_told := ⟨f19, _, ok_law_told T A_law_spares A_will_do F19, PySem.W.mg_of X G a19, k19, b19⟩
  have A_law_closer : FnAt l.prog w K mg base "_law_closer" 1 ["works", "shop", "buying"] r_law_closer := ⟨f20, _, ok_law_closer T  F20, PySem.W.mg_of X G a20, k20, b20⟩
  exact ok_law T A_law_amounts A_law_closer A_law_made A_law_shop A_law_stir A_law_told A_law_with_ends A_law_works F21
theorem law_sp {K : PySem.W.Frag} {H : Hp} {a : Addr} {ns : List Int} (hl : ns.length ≤ 63) (hS : SqL K H a (ns.map V.int)) : PSp K r_law [.ref a] H (fun v _ => v = .bl true) fun _ _ _ => False :=
  ⟨H, [dt ns], dt (m_law ns), Same.refl _, .cons ⟨a, _, rfl, hS, ints_reps ns⟩ .nil, ⟨ns, rfl, rfl⟩, fun v G2 H2 _ rv => by
    have e : v = .bl (m_law ns) := bl_of rv
    rw [e, law_true ns hl]⟩
end Tw
open PySem PySem.W PyProof.Rows
set_option maxRecDepth 100000 in
set_option maxHeartbeats 0 in
theorem PySem.Challenge.cw_warmshare_k21_what_will_do_holds : PySem.Challenge.rw_warmshare_k21_what_will_do.Holds := by
  w_on; o_law; k_head; (case hw => w_witness2)
  k_fill
  refine L2.walk_of (l := PySem.Challenge.rw_warmshare_k21_what_will_do) (n := 63) (k := 5) (x := "script") (CX := fun _ => L2.CX0) (sp := fun w => Wl.PSp _ Tw.r_law) rfl (by decide) rfl ⟨rfl, by decide, by decide⟩ (fun w h Y => PySem.W.kIn_of Y) ?F (fun _ _ a ns hl _ hS => Tw.law_sp hl hS) (fun _ _ _ _ _ h => h)
  case F =>
    intro w mg fa h KX G hmg
    refine' Tw.all_mk KX G hmg ?a1 ?l1 ?c1 ?k1 ?a2 ?l2 ?c2 ?k2 ?a3 ?l3 ?c3 ?k3 ?a4 ?l4 ?c4 ?k4 ?a5 ?l5 ?c5 ?k5 ?a6 ?l6 ?c6 ?k6 ?a7 ?l7 ?c7 ?k7 ?a8 ?l8 ?c8 ?k8 ?a9 ?l9 ?c9 ?k9 ?a10 ?l10 ?c10 ?k10 ?a11 ?l11 ?c11 ?k11 ?a12 ?l12 ?c12 ?k12 ?a13 ?l13 ?c13 ?k13 ?a14 ?l14 ?c14 ?k14 ?a15 ?l15 ?c15 ?k15 ?a16 ?l16 ?c16 ?k16 ?a17 ?l17 ?c17 ?k17 ?a18 ?l18 ?c18 ?k18 ?a19 ?l19 ?c19 ?k19 ?a20 ?l20 ?c20 ?k20 ?a21 ?l21 ?c21 ?k21 ?z_bool ?z_int ?z_isinstance ?z_len ?z_list ?z_max ?z_min ?z_range ?z_reversed ?z_sorted ?z_sum ?z_zip ?c_TOP
    (case a1 => k_is)
    (case l1 => k_is)
    (case c1 => k_is)
    (case k1 => k_is)
    (case a2 => k_is)
    (case l2 => k_is)
    (case c2 => k_is)
    (case k2 => k_is)
    (case a3 => k_is)
    (case l3 => k_is)
    (case c3 => k_is)
    (case k3 => k_is)
    (case a4 => k_is)
    (case l4 => k_is)
    (case c4 => k_is)
    (case k4 => k_is)
    (case a5 => k_is)
    (case l5 => k_is)
    (case c5 => k_is)
    (case k5 => k_is)
    (case a6 => k_is)
    (case l6 => k_is)
    (case c6 => k_is)
    (case k6 => k_is)
    (case a7 => k_is)
    (case l7 => k_is)
    (case c7 => k_is)
    (case k7 => k_is)
    (case a8 => k_is)
    (case l8 => k_is)
    (case c8 => k_is)
    (case k8 => k_is)
    (case a9 => k_is)
    (case l9 => k_is)
    (case c9 => k_is)
    (case k9 => k_is)
    (case a10 => k_is)
    (case l10 => k_is)
    (case c10 => k_is)
    (case k10 => k_is)
    (case a11 => k_is)
    (case l11 => k_is)
    (case c11 => k_is)
    (case k11 => k_is)
    (case a12 => k_is)
    (case l12 => k_is)
    (case c12 => k_is)
    (case k12 => k_is)
    (case a13 => k_is)
    (case l13 => k_is)
    (case c13 => k_is)
    (case k13 => k_is)
    (case a14 => k_is)
    (case l14 => k_is)
    (case c14 => k_is)
    (case k14 => k_is)
    (case a15 => k_is)
    (case l15 => k_is)
    (case c15 => k_is)
    (case k15 => k_is)
    (case a16 => k_is)
    (case l16 => k_is)
    (case c16 => k_is)
    (case k16 => k_is)
    (case a17 => k_is)
    (case l17 => k_is)
    (case c17 => k_is)
    (case k17 => k_is)
    (case a18 => k_is)
    (case l18 => k_is)
    (case c18 => k_is)
    (case k18 => k_is)
    (case a19 => k_is)
    (case l19 => k_is)
    (case c19 => k_is)
    (case k19 => k_is)
    (case a20 => k_is)
    (case l20 => k_is)
    (case c20 => k_is)
    (case k20 => k_is)
    (case a21 => k_is)
    (case l21 => k_is)
    (case c21 => k_is)
    (case k21 => k_is)
    (case z_bool => k_is)
    (case z_int => k_is)
    (case z_isinstance => k_is)
    (case z_len => k_is)
    (case z_list => k_is)
    (case z_max => k_is)
    (case z_min => k_is)
    (case z_range => k_is)
    (case z_reversed => k_is)
    (case z_sorted => k_is)
    (case z_sum => k_is)
    (case z_zip => k_is)
    (case c_TOP => k_is)

