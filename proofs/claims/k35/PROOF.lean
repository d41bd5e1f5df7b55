import PyProof.Rows.All
import Wide.All
import OpenK.AllK
import Wide.FinOn
import PySem.Challenge.RW_warmshare_k35_whole_none_buys_less
import HandS.ForMost
import HandS.Walk
import HandS.Exc
import HandS.ExcOwn
import HandS.WordsExc
import HandS.TryMany
import HandS.ExcIs
import HandS.IsInst
import HandS.Style
import HandS.Conv
import HandS.RevRange
import HandS.SortKw
import HandS.More
import HandS.TryOnly
import HandS.Zip
import HandS.TupSets
import HandS.SortOrd
import HandS.ExcValue
import HandS.Text
import KE.KDictList
import KE.DatumOrd
import HandS.SortInts
import HandS.Codes
import HandS.Rev
set_option Elab.async false
set_option linter.all false
set_option maxRecDepth 100000
set_option maxHeartbeats 2000000
/-! Wl: typed readings over the hand layer: data of Lean types told of values (Rp), typed slots, what expressions and statements come to (EV, ET, SV, BV). -/
namespace Wl
open PySem PySem.Spec PyProof.Rows L2

/-! ### tuples of Python as structures -/
structure T1 (α : Type) where
  a : α
deriving DecidableEq
structure T2 (α β : Type) where
  a : α
  b : β
deriving DecidableEq
structure T3 (α β γ : Type) where
  a : α
  b : β
  c : γ
deriving DecidableEq
structure T4 (α β γ δ : Type) where
  a : α
  b : β
  c : γ
  d : δ
deriving DecidableEq
structure T5 (α β γ δ ε : Type) where
  a : α
  b : β
  c : γ
  d : δ
  e : ε
deriving DecidableEq

/-! ### typed data -/
theorem seqT {K : PySem.W.Frag} {H H' : Hp} {a : Addr} {xs : List V} (e : Same H H') (h : SqT K H a xs) : SqT K H' a xs := by
  rcases h with (h | ⟨o, h⟩) | h
  · exact .inl (.inl (e _ _ h))
  · exact .inl (.inr ⟨o, e _ _ h⟩)
  · exact .inr h
class Rp (α : Type) where
  rep : PySem.W.Frag → Hp → V → α → Prop
  mono : ∀ {K : PySem.W.Frag} {G G' : Hp} {v : V} {x : α}, Same G G' → rep K G v x → rep K G' v x
instance : Rp Int := ⟨fun _ _ v x => v = .int x, fun _ h => h⟩
instance : Rp Bool := ⟨fun _ _ v x => v = .bl x, fun _ h => h⟩
instance : Rp Str := ⟨fun _ _ v x => v = .str x, fun _ h => h⟩
instance : Rp Unit := ⟨fun _ _ v _ => v = .non, fun _ h => h⟩
instance {α : Type} [Rp α] : Rp (Option α) := ⟨fun K G v x => match x with
  | none => v = .non
  | some y => Rp.rep K G v y ∧ v ≠ .non, fun {K G G' v x} e h => by
    cases x with
    | none => exact h
    | some y => exact ⟨Rp.mono e h.1, h.2⟩⟩
instance {α : Type} [Rp α] : Rp (T1 α) := ⟨fun K G v x => ∃ p v1, v = .ref p ∧ SqT K G p [v1] ∧ Rp.rep K G v1 x.a,
  fun e h => by obtain ⟨p, v1, h0, hs, h1⟩ := h; exact ⟨p, v1, h0, seqT e hs, Rp.mono e h1⟩⟩
instance {α β : Type} [Rp α] [Rp β] : Rp (T2 α β) := ⟨fun K G v x => ∃ p v1 v2, v = .ref p ∧ SqT K G p [v1, v2] ∧ Rp.rep K G v1 x.a ∧ Rp.rep K G v2 x.b,
  fun e h => by obtain ⟨p, v1, v2, h0, hs, h1, h2⟩ := h; exact ⟨p, v1, v2, h0, seqT e hs, Rp.mono e h1, Rp.mono e h2⟩⟩
instance {α β γ : Type} [Rp α] [Rp β] [Rp γ] : Rp (T3 α β γ) := ⟨fun K G v x => ∃ p v1 v2 v3, v = .ref p ∧ SqT K G p [v1, v2, v3] ∧ Rp.rep K G v1 x.a ∧ Rp.rep K G v2 x.b ∧ Rp.rep K G v3 x.c,
  fun e h => by obtain ⟨p, v1, v2, v3, h0, hs, h1, h2, h3⟩ := h; exact ⟨p, v1, v2, v3, h0, seqT e hs, Rp.mono e h1, Rp.mono e h2, Rp.mono e h3⟩⟩
instance {α β γ δ : Type} [Rp α] [Rp β] [Rp γ] [Rp δ] : Rp (T4 α β γ δ) := ⟨fun K G v x => ∃ p v1 v2 v3 v4, v = .ref p ∧ SqT K G p [v1, v2, v3, v4] ∧ Rp.rep K G v1 x.a ∧ Rp.rep K G v2 x.b ∧ Rp.rep K G v3 x.c ∧ Rp.rep K G v4 x.d,
  fun e h => by obtain ⟨p, v1, v2, v3, v4, h0, hs, h1, h2, h3, h4⟩ := h; exact ⟨p, v1, v2, v3, v4, h0, seqT e hs, Rp.mono e h1, Rp.mono e h2, Rp.mono e h3, Rp.mono e h4⟩⟩
instance {α β γ δ ε : Type} [Rp α] [Rp β] [Rp γ] [Rp δ] [Rp ε] : Rp (T5 α β γ δ ε) := ⟨fun K G v x => ∃ p v1 v2 v3 v4 v5, v = .ref p ∧ SqT K G p [v1, v2, v3, v4, v5] ∧ Rp.rep K G v1 x.a ∧ Rp.rep K G v2 x.b ∧ Rp.rep K G v3 x.c ∧ Rp.rep K G v4 x.d ∧ Rp.rep K G v5 x.e,
  fun e h => by obtain ⟨p, v1, v2, v3, v4, v5, h0, hs, h1, h2, h3, h4, h5⟩ := h; exact ⟨p, v1, v2, v3, v4, v5, h0, seqT e hs, Rp.mono e h1, Rp.mono e h2, Rp.mono e h3, Rp.mono e h4, Rp.mono e h5⟩⟩
/-- values of a list of data -/
def Reps {α : Type} [Rp α] (K : PySem.W.Frag) (G : Hp) (vs : List V) (xs : List α) : Prop := Paired (Rp.rep K G) vs xs
theorem Reps.mono {α : Type} [Rp α] {K : PySem.W.Frag} {G G' : Hp} {vs : List V} {xs : List α} (e : Same G G') (h : Reps K G vs xs) : Reps K G' vs xs := Paired.mapP h fun _ _ r => Rp.mono e r
instance {α : Type} [Rp α] : Rp (List α) := ⟨fun K G v xs => ∃ p vs, v = .ref p ∧ SqL K G p vs ∧ Reps K G vs xs,
  fun e h => by obtain ⟨p, vs, h0, hs, hr⟩ := h; exact ⟨p, vs, h0, Same.seq e hs, hr.mono e⟩⟩
section
variable {α : Type} [Rp α] {K : PySem.W.Frag} {G : Hp} {vs : List V} {xs : List α}
theorem Reps.len (h : Reps K G vs xs) : vs.length = xs.length := Paired.length h
theorem paired_get {α β : Type} {R : α → β → Prop} : ∀ {xs : List α} {ys : List β}, Paired R xs ys → ∀ (i : Nat) (x : α), xs[i]? = some x → ∃ y, ys[i]? = some y ∧ R x y
  | _, _, .nil, i, x, e => by simp at e
  | _, _, .cons r _, 0, x, e => by simp at e; subst e; exact ⟨_, rfl, r⟩
  | _, _, .cons _ t, i + 1, x, e => by
    obtain ⟨y, h1, h2⟩ := paired_get t i x (by simpa using e)
    exact ⟨y, by simpa using h1, h2⟩
theorem paired_get2 {α β : Type} {R : α → β → Prop} : ∀ {xs : List α} {ys : List β}, Paired R xs ys → ∀ (i : Nat) (y : β), ys[i]? = some y → ∃ x, xs[i]? = some x ∧ R x y
  | _, _, .nil, i, x, e => by simp at e
  | _, _, .cons r _, 0, x, e => by simp at e; subst e; exact ⟨_, rfl, r⟩
  | _, _, .cons _ t, i + 1, x, e => by
    obtain ⟨y, h1, h2⟩ := paired_get2 t i x (by simpa using e)
    exact ⟨y, by simpa using h1, h2⟩
theorem paired_app {α β : Type} {R : α → β → Prop} : ∀ {xs xs' : List α} {ys ys' : List β}, Paired R xs ys → Paired R xs' ys' → Paired R (xs ++ xs') (ys ++ ys')
  | _, _, _, _, .nil, s => s
  | _, _, _, _, .cons r t, s => .cons r (paired_app t s)
theorem paired_ints : ∀ {vs : List V} {ns : List Int}, Paired (fun v (x : Int) => v = V.int x) vs ns → vs = ns.map V.int
  | _, _, .nil => rfl
  | _, _, .cons r t => by rw [r, paired_ints t]; rfl
theorem ints_reps {K : PySem.W.Frag} {G : Hp} : ∀ (ns : List Int), Reps K G (ns.map V.int) ns
  | [] => .nil
  | _ :: r => .cons rfl (ints_reps r)
theorem Reps.ints {ns : List Int} (h : Reps K G vs ns) : vs = ns.map V.int := paired_ints h
end

/-- a datum with its type -/
structure Dat where
  α : Type
  inst : Rp α
  x : α
abbrev dt {α : Type} [i : Rp α] (x : α) : Dat := ⟨α, i, x⟩
def Dat.rep (d : Dat) (K : PySem.W.Frag) (G : Hp) (v : V) : Prop := @Rp.rep d.α d.inst K G v d.x
theorem Dat.mono {d : Dat} {K : PySem.W.Frag} {G G' : Hp} {v : V} (e : Same G G') (h : d.rep K G v) : d.rep K G' v := @Rp.mono d.α d.inst K G G' v d.x e h
inductive DatsOk (K : PySem.W.Frag) (G : Hp) : List V → List Dat → Prop
  | nil : DatsOk K G [] []
  | cons {v : V} {d : Dat} {vs : List V} {ds : List Dat} : d.rep K G v → DatsOk K G vs ds → DatsOk K G (v :: vs) (d :: ds)
theorem DatsOk.mono {K : PySem.W.Frag} {G G' : Hp} (e : Same G G') : ∀ {vs : List V} {ds : List Dat}, DatsOk K G vs ds → DatsOk K G' vs ds
  | _, _, .nil => .nil
  | _, _, .cons r t => .cons (Dat.mono e r) (DatsOk.mono e t)

/-- no tuple -/
def Nt (o : HO) : Prop := ∀ us, o ≠ .tup us
theorem nt_lst {vs : List V} : Nt (.lst vs) := fun _ z => by cases z
theorem nt_dK {ws : List (Key × V)} : Nt (.dK ws) := fun _ z => by cases z
theorem nt_ins {C dx : Addr} {fs : List (Str × V)} : Nt (.ins C dx fs) := fun _ z => by cases z
theorem nt_dT {ws : List (List Key × V)} : Nt (.dT ws) := fun _ z => by cases z
/-- objects that a def owns: the value, the addresses, what stands there -/
class Ow (τ : Type) where
  ok : PySem.W.Frag → Hp → Hp → V → List Addr → τ → Prop
  mono : ∀ {K : PySem.W.Frag} {G G' H H' : Hp} {v : V} {fp : List Addr} {x : τ}, Same G G' → (∀ a ∈ fp, H' a = H a) → ok K G H v fp x → ok K G' H' v fp x
  nt : ∀ {K : PySem.W.Frag} {G H : Hp} {v : V} {fp : List Addr} {x : τ}, ok K G H v fp x → ∀ a ∈ fp, ∀ o, H a = some o → Nt o
structure Odat where
  τ : Type
  inst : Ow τ
  x : τ
abbrev ot {τ : Type} [i : Ow τ] (x : τ) : Odat := ⟨τ, i, x⟩
def Odat.ok (d : Odat) (K : PySem.W.Frag) (G H : Hp) (v : V) (fp : List Addr) : Prop := @Ow.ok d.τ d.inst K G H v fp d.x
theorem Odat.mono {d : Odat} {K : PySem.W.Frag} {G G' H H' : Hp} {v : V} {fp : List Addr} (e : Same G G') (eh : ∀ a ∈ fp, H' a = H a) (h : d.ok K G H v fp) : d.ok K G' H' v fp := @Ow.mono d.τ d.inst K G G' H H' v fp d.x e eh h
theorem Odat.nt {d : Odat} {K : PySem.W.Frag} {G H : Hp} {v : V} {fp : List Addr} (h : d.ok K G H v fp) : ∀ a ∈ fp, ∀ o, H a = some o → Nt o := @Ow.nt d.τ d.inst K G H v fp d.x h
theorem nt_one {H : Hp} {p : Addr} {ho : HO} (e : H p = some ho) (n : Nt ho) : ∀ a ∈ [p], ∀ o, H a = some o → Nt o := fun a ha o z => by
  have : a = p := by simpa using ha
  rw [this, e] at z
  cases z
  exact n
/-- a list that is changed -/
structure ML (α : Type) where
  xs : List α
instance {α : Type} [Rp α] : Ow (ML α) := ⟨fun K G H v fp x => ∃ p vs, v = .ref p ∧ fp = [p] ∧ H p = some (.lst vs) ∧ Reps K G vs x.xs, fun e eh h => by obtain ⟨p, vs, h0, h1, h2, hr⟩ := h; exact ⟨p, vs, h0, h1, by rw [eh p (by rw [h1]; simp)]; exact h2, hr.mono e⟩, fun h => by obtain ⟨p, vs, _, rfl, h2, _⟩ := h; exact nt_one h2 nt_lst⟩

/-! ### slots -/
inductive Slot where
  | any
  | val (d : Dat)
  | own (d : Odat)
abbrev Slot.v {α : Type} [Rp α] (x : α) : Slot := .val (dt x)
abbrev Slot.o {τ : Type} [Ow τ] (x : τ) : Slot := .own (ot x)
/-- an owned list -/
abbrev Slot.l {α : Type} [Rp α] (xs : List α) : Slot := .own (ot (ML.mk xs))
def SlotOk (K : PySem.W.Frag) (B G H : Hp) (o : Option V) (fp : List Addr) : Slot → Prop
  | .any => True
  | .val d => ∃ v, o = some v ∧ d.rep K G v
  | .own d => ∃ v, o = some v ∧ (∀ a ∈ fp, B a = none ∧ G a = none ∧ ∃ ho, H a = some ho) ∧ d.ok K G H v fp
def Slot.isOwn : Slot → Bool
  | .own _ => true
  | _ => false
structure LoF (K : PySem.W.Frag) (B G H : Hp) (σ : L2.St) (Γ : List Slot) (F : Nat → List Addr) : Prop where
  len : σ.length = Γ.length
  ok : ∀ (i : Nat) (s : Slot), Γ[i]? = some s → ∃ o, σ[i]? = some o ∧ SlotOk K B G H o (F i) s
  sep : ∀ (i j : Nat) (s t : Slot), i ≠ j → Γ[i]? = some s → Γ[j]? = some t → s.isOwn = true → t.isOwn = true → ∀ a ∈ F i, a ∉ F j
def Lo (K : PySem.W.Frag) (B G H : Hp) (σ : L2.St) (Γ : List Slot) : Prop := ∃ F, LoF K B G H σ Γ F

structure Grow (G H G' H' : Hp) : Prop where
  g : Same G G'
  h : Same H H'
  gh : Same G' H'
  fr0 : ∀ a o, H a = some o → Nt o → G' a = G a
theorem Grow.fr {G H G' H' : Hp} (g : Grow G H G' H') (a : Addr) (o : HO) (e : H a = some o) (n : Nt o := by first | exact nt_lst | exact nt_dK | exact nt_dT | exact nt_ins) : G' a = G a := g.fr0 a o e n
theorem Grow.refl {G H : Hp} (e : Same G H) : Grow G H G H := ⟨Same.refl _, Same.refl _, e, fun _ _ _ _ => rfl⟩
theorem Grow.trans {G H G1 H1 G2 H2 : Hp} (a : Grow G H G1 H1) (b : Grow G1 H1 G2 H2) : Grow G H G2 H2 :=
  ⟨a.g.trans b.g, a.h.trans b.h, b.gh, fun x o e n => (b.fr x o (a.h x o e) n).trans (a.fr x o e n)⟩
/-- a new object, known for good -/
theorem Grow.new {G H : Hp} {p : Addr} {o : HO} (e : Same G H) (hp : H p = none) : Grow G H (upd G p o) (upd H p o) := by
  have hg : G p = none := e.free hp
  refine ⟨fun b u h => ?_, fun b u h => ?_, fun b u h => ?_, fun b u h _ => ?_⟩
  · rw [upd_ne (ne_of_none h hg)]; exact h
  · rw [upd_ne (ne_of_none h hp)]; exact h
  · by_cases hb : b = p
    · subst hb; rw [upd_same] at h ⊢; exact h
    · rw [upd_ne hb] at h ⊢; exact e b u h
  · rw [upd_ne (ne_of_none h hp)]
/-- a new object that may be changed later -/
theorem Grow.own {G H : Hp} {p : Addr} {o : HO} (e : Same G H) (hp : H p = none) : Grow G H G (upd H p o) := by
  refine ⟨Same.refl _, fun b u h => ?_, fun b u h => ?_, fun _ _ _ _ => rfl⟩
  · rw [upd_ne (ne_of_none h hp)]; exact h
  · rw [upd_ne (ne_of_none (e b u h) hp)]; exact e b u h
/-- what a statement leaves: B stands -/
structure Stp (B G G' H' : Hp) : Prop where
  b : Same B H'
  g : Same G G'
  gh : Same G' H'
  fr0 : ∀ a o, B a = some o → Nt o → G' a = G a
theorem Stp.fr {B G G' H' : Hp} (g : Stp B G G' H') (a : Addr) (o : HO) (e : B a = some o) (n : Nt o := by first | exact nt_lst | exact nt_dK | exact nt_dT | exact nt_ins) : G' a = G a := g.fr0 a o e n
theorem Stp.refl {B G H : Hp} (hb : Same B H) (e : Same G H) : Stp B G G H := ⟨hb, Same.refl _, e, fun _ _ _ _ => rfl⟩
theorem Stp.trans {B G G1 H1 G2 H2 : Hp} (a : Stp B G G1 H1) (b : Stp B G1 G2 H2) : Stp B G G2 H2 :=
  ⟨b.b, a.g.trans b.g, b.gh, fun x o e n => (b.fr x o e n).trans (a.fr x o e n)⟩
theorem Grow.step {B G H G' H' : Hp} (hb : Same B H) (g : Grow G H G' H') : Stp B G G' H' :=
  ⟨hb.trans g.h, g.g, g.gh, fun a o e n => g.fr a o (hb a o e) n⟩
theorem SlotOk.grow {K : PySem.W.Frag} {B G H G' H' : Hp} {o : Option V} {fp : List Addr} {s : Slot} (g : Grow G H G' H') (h : SlotOk K B G H o fp s) : SlotOk K B G' H' o fp s := by
  cases s with
  | any => trivial
  | val d => obtain ⟨v, e, r⟩ := h; exact ⟨v, e, Dat.mono g.g r⟩
  | own d =>
    obtain ⟨v, e, hf, r⟩ := h
    refine ⟨v, e, fun a ha => ?_, Odat.mono g.g (fun a ha => ?_) r⟩
    · obtain ⟨hb, hg, ho, hh⟩ := hf a ha
      exact ⟨hb, (g.fr a ho hh (Odat.nt r a ha ho hh)).trans hg, ho, g.h _ _ hh⟩
    · obtain ⟨hb, hg, ho, hh⟩ := hf a ha
      rw [g.h _ _ hh, hh]
theorem LoF.nt {K : PySem.W.Frag} {B G H : Hp} {σ : L2.St} {Γ : List Slot} {F : Nat → List Addr} {i : Nat} {d : Odat} (l : LoF K B G H σ Γ F) (h : Γ[i]? = some (.own d)) : ∀ a ∈ F i, ∀ o, H a = some o → Nt o := by
  obtain ⟨o, _, v, _, _, r⟩ := l.ok i _ h
  exact Odat.nt r
theorem LoF.grow {K : PySem.W.Frag} {B G H G' H' : Hp} {σ : L2.St} {Γ : List Slot} {F : Nat → List Addr} (l : LoF K B G H σ Γ F) (g : Grow G H G' H') : LoF K B G' H' σ Γ F :=
  ⟨l.len, fun i s e => let ⟨o, h1, h2⟩ := l.ok i s e; ⟨o, h1, h2.grow g⟩, l.sep⟩
theorem Lo.grow {K : PySem.W.Frag} {B G H G' H' : Hp} {σ : L2.St} {Γ : List Slot} (l : Lo K B G H σ Γ) (g : Grow G H G' H') : Lo K B G' H' σ Γ := let ⟨F, l⟩ := l; ⟨F, l.grow g⟩
theorem Lo.len {K : PySem.W.Frag} {B G H : Hp} {σ : L2.St} {Γ : List Slot} (l : Lo K B G H σ Γ) : σ.length = Γ.length := let ⟨_, l⟩ := l; l.len
theorem Lo.val {K : PySem.W.Frag} {B G H : Hp} {σ : L2.St} {Γ : List Slot} (l : Lo K B G H σ Γ) {i : Nat} {d : Dat} (h : Γ[i]? = some (.val d)) : ∃ v, σ[i]? = some (some v) ∧ d.rep K G v := by
  obtain ⟨F, l⟩ := l
  obtain ⟨o, h1, v, h2, h3⟩ := l.ok i _ h
  subst h2
  exact ⟨v, h1, h3⟩

/-! ### Γ with less known -/
def sub1 (a b : Slot) : Prop := b = .any ∨ a = b
inductive Sb : List Slot → List Slot → Prop
  | nil : Sb [] []
  | cons {a b : Slot} {r t : List Slot} : sub1 a b → Sb r t → Sb (a :: r) (b :: t)
theorem Sb.eq {a : Slot} {r t : List Slot} (h : Sb r t) : Sb (a :: r) (a :: t) := .cons (.inr rfl) h
theorem Sb.any {a : Slot} {r t : List Slot} (h : Sb r t) : Sb (a :: r) (.any :: t) := .cons (.inl rfl) h
theorem Sb.eqv {a b : Slot} {r t : List Slot} (e : a = b) (h : Sb r t) : Sb (a :: r) (b :: t) := .cons (.inr e) h
theorem Sb.refl : ∀ Γ, Sb Γ Γ
  | [] => .nil
  | _ :: r => .cons (.inr rfl) (Sb.refl r)
theorem Sb.len {Γ Γ' : List Slot} (h : Sb Γ Γ') : Γ.length = Γ'.length := by
  induction h with
  | nil => rfl
  | cons _ _ ih => simp [ih]
theorem Sb.get {Γ Γ' : List Slot} (h : Sb Γ Γ') : ∀ (i : Nat) (s : Slot), Γ'[i]? = some s → ∃ s', Γ[i]? = some s' ∧ sub1 s' s := by
  induction h with
  | nil => intro i s e; simp at e
  | @cons a b r t hs _ ih =>
    intro i s e
    cases i with
    | zero => simp at e; subst e; exact ⟨a, by simp, hs⟩
    | succ n => simp at e; obtain ⟨s', h1, h2⟩ := ih n s e; exact ⟨s', by simpa using h1, h2⟩
theorem Lo.sub {K : PySem.W.Frag} {B G H : Hp} {σ : L2.St} {Γ Γ' : List Slot} (l : Lo K B G H σ Γ) (h : Sb Γ Γ') : Lo K B G H σ Γ' := by
  obtain ⟨F, l⟩ := l
  refine ⟨F, l.len.trans h.len, fun i s e => ?_, fun i j s t hij hi hj hs ht => ?_⟩
  · obtain ⟨s', h1, h2⟩ := h.get i s e
    obtain ⟨o, h3, h4⟩ := l.ok i s' h1
    rcases h2 with h2 | h2
    · subst h2; exact ⟨o, h3, trivial⟩
    · subst h2; exact ⟨o, h3, h4⟩
  · obtain ⟨s', h1, h2⟩ := h.get i s hi
    obtain ⟨t', h3, h4⟩ := h.get j t hj
    rcases h2 with h2 | h2
    · subst h2; cases hs
    · subst h2
      rcases h4 with h4 | h4
      · subst h4; cases ht
      · subst h4; exact l.sep i j _ _ hij h1 h3 hs ht
theorem set_get {α : Type _} {l : List α} {i j : Nat} {x y : α} (e : (l.set i x)[j]? = some y) : (i = j ∧ y = x ∧ i < l.length) ∨ (i ≠ j ∧ l[j]? = some y) := by
  by_cases h : i = j
  · subst h
    have hi : i < l.length := by simpa using (List.getElem?_eq_some_iff.mp e).1
    rw [List.getElem?_set_self hi] at e
    cases e
    exact .inl ⟨rfl, rfl, hi⟩
  · rw [List.getElem?_set_ne h] at e
    exact .inr ⟨h, e⟩
/-- a slot is stored -/
theorem Lo.set {K : PySem.W.Frag} {B G H : Hp} {σ : L2.St} {Γ : List Slot} {i : Nat} {v : V} {d : Dat} (l : Lo K B G H σ Γ) (r : d.rep K G v) : Lo K B G H (σ.set i (some v)) (Γ.set i (.val d)) := by
  obtain ⟨F, l⟩ := l
  refine ⟨F, by simp [l.len], fun j s e => ?_, fun j k s t hjk hj hk hs ht => ?_⟩
  · rcases set_get e with ⟨rfl, rfl, hi⟩ | ⟨hij, e⟩
    · exact ⟨some v, by rw [List.getElem?_set_self (by rw [l.len]; exact hi)], v, rfl, r⟩
    · rw [List.getElem?_set_ne hij]
      exact l.ok j s e
  · rcases set_get hj with ⟨rfl, rfl, hi⟩ | ⟨hij, hj⟩
    · cases hs
    · rcases set_get hk with ⟨rfl, rfl, hi⟩ | ⟨hik, hk⟩
      · cases ht
      · exact l.sep j k s t hjk hj hk hs ht
/-- what stands in a slot is forgotten -/
theorem Lo.drop {K : PySem.W.Frag} {B G H : Hp} {σ : L2.St} {Γ : List Slot} {i : Nat} {o : Option V} (l : Lo K B G H σ Γ) : Lo K B G H (σ.set i o) (Γ.set i .any) := by
  obtain ⟨F, l⟩ := l
  refine ⟨F, by simp [l.len], fun j s e => ?_, fun j k s t hjk hj hk hs ht => ?_⟩
  · rcases set_get e with ⟨rfl, rfl, hi⟩ | ⟨hij, e⟩
    · exact ⟨o, by rw [List.getElem?_set_self (by rw [l.len]; exact hi)], trivial⟩
    · rw [List.getElem?_set_ne hij]
      exact l.ok j s e
  · rcases set_get hj with ⟨rfl, rfl, hi⟩ | ⟨hij, hj⟩
    · cases hs
    · rcases set_get hk with ⟨rfl, rfl, hi⟩ | ⟨hik, hk⟩
      · cases ht
      · exact l.sep j k s t hjk hj hk hs ht
/-- new objects of one's own are stored -/
theorem Lo.setOwn {K : PySem.W.Frag} {B G H G1 H1 : Hp} {σ : L2.St} {Γ : List Slot} {i : Nat} {v : V} {fp : List Addr} {d : Odat} (l : Lo K B G H σ Γ) (hB : Same B H) (g : Grow G H G1 H1) (hf : ∀ a ∈ fp, H a = none ∧ G1 a = none ∧ ∃ ho, H1 a = some ho) (r : d.ok K G1 H1 v fp) :
    Lo K B G1 H1 (σ.set i (some v)) (Γ.set i (.own d)) := by
  obtain ⟨F, l⟩ := l
  refine ⟨fun j => if j = i then fp else F j, by simp [l.len], fun j s e => ?_, fun j k s t hjk hj hk hs ht a ha hb => ?_⟩
  · rcases set_get e with ⟨rfl, rfl, hi⟩ | ⟨hij, e⟩
    · refine ⟨some v, by rw [List.getElem?_set_self (by rw [l.len]; exact hi)], v, rfl, fun a ha => ?_, ?_⟩
      · rw [if_pos rfl] at ha
        obtain ⟨h1, h2, h3⟩ := hf a ha
        exact ⟨hB.free h1, h2, h3⟩
      · rw [if_pos rfl]; exact r
    · rw [List.getElem?_set_ne hij, if_neg (Ne.symm hij)]
      obtain ⟨o, h1, h2⟩ := l.ok j s e
      exact ⟨o, h1, h2.grow g⟩
  · have old : ∀ (j : Nat) (s : Slot), Γ[j]? = some s → s.isOwn = true → ∀ a ∈ F j, ∃ ho, H a = some ho := fun j s e hs a ha => by
      obtain ⟨o, _, h2⟩ := l.ok j s e
      cases s with
      | any => cases hs
      | val _ => cases hs
      | own d2 => obtain ⟨_, _, h3, _⟩ := h2; exact (h3 a ha).2.2
    rcases set_get hj with ⟨rfl, rfl, hi⟩ | ⟨hij, hj⟩
    · rcases set_get hk with ⟨rfl, _, _⟩ | ⟨hik, hk⟩
      · exact hjk rfl
      · simp only [if_pos] at ha
        simp only [if_neg (Ne.symm hik)] at hb
        obtain ⟨ho, e⟩ := old k t hk ht a hb
        rw [(hf a ha).1] at e; cases e
    · simp only [if_neg (Ne.symm hij)] at ha
      rcases set_get hk with ⟨rfl, rfl, hi⟩ | ⟨hik, hk⟩
      · simp only [if_pos] at hb
        obtain ⟨ho, e⟩ := old j s hj hs a ha
        rw [(hf a hb).1] at e; cases e
      · simp only [if_neg (Ne.symm hik)] at hb
        exact l.sep j k s t hjk hj hk hs ht a ha hb
/-- an owned slot, its value and addresses -/
theorem own_at {K : PySem.W.Frag} {B G H : Hp} {σ : L2.St} {Γ : List Slot} {i : Nat} {τ : Type} [Ow τ] {x : τ} (l : Lo K B G H σ Γ) (h : Γ[i]? = some (.o x)) : ∃ F v, LoF K B G H σ Γ F ∧ σ[i]? = some (some v) ∧ (∀ a ∈ F i, B a = none ∧ G a = none ∧ ∃ ho, H a = some ho) ∧ Ow.ok K G H v (F i) x := by
  obtain ⟨F, l⟩ := l
  obtain ⟨o, e1, v, e2, hf, ok⟩ := l.ok i _ h
  subst e2
  exact ⟨F, v, l, e1, hf, ok⟩
/-- what stands at an owned slot changes -/
theorem LoF.mut {K : PySem.W.Frag} {B G H H' : Hp} {σ : L2.St} {Γ : List Slot} {F : Nat → List Addr} {i : Nat} {v : V} {fp : List Addr} {d d' : Odat} (l : LoF K B G H σ Γ F) (hi : Γ[i]? = some (.own d)) (hv : σ[i]? = some (some v))
    (hk : ∀ a, a ∉ F i → ∀ o, H a = some o → H' a = some o) (hf : ∀ a ∈ fp, (a ∈ F i ∨ H a = none) ∧ B a = none ∧ G a = none ∧ ∃ ho, H' a = some ho) (r : d'.ok K G H' v fp) : Lo K B G H' σ (Γ.set i (.own d')) := by
  have old : ∀ (j : Nat) (s : Slot), Γ[j]? = some s → s.isOwn = true → ∀ a ∈ F j, ∃ ho, H a = some ho := fun j s e hs a ha => by
    obtain ⟨o, _, h2⟩ := l.ok j s e
    cases s with
    | any => cases hs
    | val _ => cases hs
    | own d2 => obtain ⟨_, _, h3, _⟩ := h2; exact (h3 a ha).2.2
  refine ⟨fun j => if j = i then fp else F j, by simp [l.len], fun j s e => ?_, fun j k s t hjk hj hk' hs ht a ha hb => ?_⟩
  · rcases set_get e with ⟨rfl, rfl, hi'⟩ | ⟨hij, e⟩
    · refine ⟨_, hv, v, rfl, fun a ha => ?_, ?_⟩
      · rw [if_pos rfl] at ha; exact (hf a ha).2
      · rw [if_pos rfl]; exact r
    · rw [if_neg (Ne.symm hij)]
      obtain ⟨o, h3, h4⟩ := l.ok j s e
      refine ⟨o, h3, ?_⟩
      cases s with
      | any => trivial
      | val _ => exact h4
      | own d2 =>
        obtain ⟨v2, e2, hf2, r2⟩ := h4
        have ne : ∀ a ∈ F j, a ∉ F i := l.sep j i _ _ (Ne.symm hij) e hi rfl rfl
        refine ⟨v2, e2, fun a ha => ?_, Odat.mono (Same.refl _) (fun a ha => ?_) r2⟩
        · obtain ⟨q1, q2, ho, q3⟩ := hf2 a ha
          exact ⟨q1, q2, ho, hk a (ne a ha) ho q3⟩
        · obtain ⟨q1, q2, ho, q3⟩ := hf2 a ha
          rw [hk a (ne a ha) ho q3, q3]
  · rcases set_get hj with ⟨rfl, rfl, _⟩ | ⟨hij, hj⟩
    · rcases set_get hk' with ⟨rfl, _, _⟩ | ⟨hik, hk'⟩
      · exact hjk rfl
      · simp only [if_pos] at ha
        simp only [if_neg (Ne.symm hik)] at hb
        obtain ⟨ho, e⟩ := old k t hk' ht a hb
        rcases (hf a ha).1 with q | q
        · exact l.sep i k _ t hjk hi hk' rfl ht a q hb
        · rw [q] at e; cases e
    · simp only [if_neg (Ne.symm hij)] at ha
      rcases set_get hk' with ⟨rfl, rfl, _⟩ | ⟨hik, hk'⟩
      · simp only [if_pos] at hb
        obtain ⟨ho, e⟩ := old j s hj hs a ha
        rcases (hf a hb).1 with q | q
        · exact l.sep j i s _ hjk hj hi hs rfl a ha q
        · rw [q] at e; cases e
      · simp only [if_neg (Ne.symm hik)] at hb
        exact l.sep j k s t hjk hj hk' hs ht a ha hb
/-- .. and what is known stands -/
theorem Stp.mut {B G H H' : Hp} {fp : List Addr} (hb : Same B H) (e : Same G H) (hf : ∀ a ∈ fp, B a = none ∧ G a = none) (hk : ∀ a, a ∉ fp → ∀ o, H a = some o → H' a = some o) : Stp B G G H' := by
  refine ⟨fun b u h => ?_, Same.refl _, fun b u h => ?_, fun _ _ _ _ => rfl⟩
  · exact hk b (fun z => by rw [(hf b z).1] at h; cases h) u (hb b u h)
  · exact hk b (fun z => by rw [(hf b z).2] at h; cases h) u (e b u h)
/-- an owned list -/
theorem ownL {K : PySem.W.Frag} {B G H : Hp} {σ : L2.St} {Γ : List Slot} {i : Nat} {α : Type} [Rp α] {xs : List α} (l : Lo K B G H σ Γ) (h : Γ[i]? = some (.l xs)) : ∃ F p vs, LoF K B G H σ Γ F ∧ F i = [p] ∧ σ[i]? = some (some (.ref p)) ∧ B p = none ∧ G p = none ∧ H p = some (.lst vs) ∧ Reps K G vs xs := by
  obtain ⟨F, v, lf, e1, hf, p, vs, rfl, e2, e3, r⟩ := own_at l h
  have := hf p (by rw [e2]; simp)
  exact ⟨F, p, vs, lf, e2, e1, this.1, this.2.1, e3, r⟩
theorem LoF.mutL {K : PySem.W.Frag} {B G H : Hp} {σ : L2.St} {Γ : List Slot} {F : Nat → List Addr} {i : Nat} {p : Addr} {vs' : List V} {α : Type} [Rp α] {xs xs' : List α} (l : LoF K B G H σ Γ F) (h : Γ[i]? = some (.l xs)) (hF : F i = [p]) (e1 : σ[i]? = some (some (.ref p))) (hb : B p = none) (hg : G p = none) (r : Reps K G vs' xs') :
    Lo K B G (upd H p (.lst vs')) σ (Γ.set i (.l xs')) :=
  l.mut (fp := [p]) (d' := ot (ML.mk xs')) h e1 (fun a ha o e => by rw [upd_ne (by rw [hF] at ha; simpa using ha)]; exact e) (fun a ha => by
    have : a = p := by simpa using ha
    subst this
    exact ⟨.inl (by rw [hF]; simp), hb, hg, _, upd_same⟩) ⟨p, vs', rfl, rfl, upd_same, r⟩
theorem Stp.mutL {B G H : Hp} {p : Addr} {ho : HO} (hb : Same B H) (e : Same G H) (h1 : B p = none) (h2 : G p = none) : Stp B G G (upd H p ho) :=
  Stp.mut (fp := [p]) hb e (fun a ha => by have : a = p := by simpa using ha
                                           subst this; exact ⟨h1, h2⟩) fun a ha o h => by rw [upd_ne (by simpa using ha)]; exact h

/-! ### weakest readings -/
def WE (X : Cx) (e : Expr) : TE := fun σ H Q => ∀ (pins : List (Addr × Obj)) (s : Shared), Inv X pins σ H s → wpAny (model X.prog X.w) X.A (eval e X.env) (EP X pins σ Q) X.xe s
def WT (X : Cx) (e : Expr) : TT := fun σ H Q => ∀ (pins : List (Addr × Obj)) (s : Shared), Inv X pins σ H s → wpAny (model X.prog X.w) X.A (isTrue e X.env (eval e X.env)) (TP X pins σ Q) X.xe s
def WA (X : Cx) (es : List Expr) : TA := fun σ H Q => ∀ (pos : Pos) (pins : List (Addr × Obj)) (s : Shared), Inv X pins σ H s → wpAny (model X.prog X.w) X.A (spliced (backTo pos (starEach es X.env))) (AP X pins σ Q) X.xe s
def WS (X : Cx) (st : Stmt) : TS := fun D σ H => ∀ (pins : List (Addr × Obj)) (s : Shared), Inv X pins σ H s → wpAny (model X.prog X.w) X.A (exec st X.env) (SP X pins D) X.xe s
def WSs (X : Cx) (sts : List Stmt) : TS := fun D σ H => ∀ (pins : List (Addr × Obj)) (s : Shared), Inv X pins σ H s → wpAny (model X.prog X.w) X.A (execs sts X.env) (SP X pins D) X.xe s
def WG (X : Cx) (tg : Expr) : TG := fun v σ H Q => ∀ (pins : List (Addr × Obj)) (s : Shared) (u : Value), Inv X pins σ H s → RelV v u →
    wpAny (model X.prog X.w) X.A (assign tg X.env u) (fun _ s' => ∃ σ' H', Inv X pins σ' H' s' ∧ Q σ' H') X.xe s
def WI (X : Cx) (tg iter : Expr) : TI := fun σ H R => ∀ (pins : List (Addr × Obj)) (s : Shared), Inv X pins σ H s →
    wpAny (model X.prog X.w) X.A (eval iter X.env) (fun v s1 => wpAny (model X.prog X.w) X.A (pyIter v) (PIE X pins σ tg R) X.xe s1) X.xe s
section
variable {X : Cx} {e : Expr} {es : List Expr} {st : Stmt} {sts : List Stmt} {tg iter : Expr} {σ : L2.St} {H : Hp}
theorem pe : PE X e (WE X e) := ⟨fun pins s _ _ _ I h => h pins s I⟩
theorem pt : PT X e (WT X e) := ⟨fun pins s _ _ _ I h => h pins s I⟩
theorem pa : PA X es (WA X es) := ⟨fun pos pins s _ _ _ I h => h pos pins s I⟩
theorem ps : PS X st (WS X st) := ⟨fun pins s _ _ _ I h => h pins s I⟩
theorem pss : PSs X sts (WSs X sts) := ⟨fun pins s _ _ _ I h => h pins s I⟩
theorem pg : PG X tg (WG X tg) := ⟨fun pins s _ _ _ u _ I r h => h pins s u I r⟩
theorem pi : PI X tg iter (WI X tg iter) := ⟨fun pins s _ _ _ I h => h pins s I⟩
theorem we {t : TE} {Q : VK} (h : PE X e t) (q : t σ H Q) : WE X e σ H Q := fun pins s I => h.run pins s σ H Q I q
theorem wt {t : TT} {Q : Bool → Hp → Prop} (h : PT X e t) (q : t σ H Q) : WT X e σ H Q := fun pins s I => h.run pins s σ H Q I q
theorem wa {t : TA} {Q : List V → Hp → Prop} (h : PA X es t) (q : t σ H Q) : WA X es σ H Q := fun pos pins s I => h.run pos pins s σ H Q I q
theorem ws {t : TS} {D : Ends} (h : PS X st t) (q : t D σ H) : WS X st D σ H := fun pins s I => h.run pins s σ H D I q
theorem wss {t : TS} {D : Ends} (h : PSs X sts t) (q : t D σ H) : WSs X sts D σ H := fun pins s I => h.run pins s σ H D I q
theorem wg {t : TG} {v : V} {Q : L2.St → Hp → Prop} (h : PG X tg t) (q : t v σ H Q) : WG X tg v σ H Q := fun pins s u I r => h.run pins s σ H v u Q I r q
theorem wi {t : TI} {R : It → Hp → Prop} (h : PI X tg iter t) (q : t σ H R) : WI X tg iter σ H R := fun pins s I => h.run pins s σ H R I q
end

/-! ### what an expression comes to -/
structure EV (X : Cx) (Γ : List Slot) (e : Expr) {α : Type} [Rp α] (x : α)  : Prop where
  run : ∀ (B G H : Hp) (σ : L2.St), Same B H → Same G H → Lo X.K B G H σ Γ → ∀ Q : VK, (∀ v G' H', Grow G H G' H' → Rp.rep X.K G' v x → Q v H') → WE X e σ H Q
instance {X : Cx} {Γ : List Slot} {e : Expr} {α : Type} [Rp α] {x : α}  : CoeFun (EV X Γ e x) (fun _ => ∀ (B G H : Hp) (σ : L2.St), Same B H → Same G H → Lo X.K B G H σ Γ → ∀ Q : VK, (∀ v G' H', Grow G H G' H' → Rp.rep X.K G' v x → Q v H') → WE X e σ H Q) := ⟨EV.run⟩
/-- .. a new object of one's own -/
structure EN (X : Cx) (Γ : List Slot) (e : Expr) {τ : Type} [Ow τ] (x : τ)  : Prop where
  run : ∀ (B G H : Hp) (σ : L2.St), Same B H → Same G H → Lo X.K B G H σ Γ → ∀ Q : VK, (∀ v fp G' H', Grow G H G' H' → (∀ a ∈ fp, H a = none ∧ G' a = none ∧ ∃ ho, H' a = some ho) → Ow.ok X.K G' H' v fp x → Q v H') → WE X e σ H Q
instance {X : Cx} {Γ : List Slot} {e : Expr} {τ : Type} [Ow τ] {x : τ}  : CoeFun (EN X Γ e x) (fun _ => ∀ (B G H : Hp) (σ : L2.St), Same B H → Same G H → Lo X.K B G H σ Γ → ∀ Q : VK, (∀ v fp G' H', Grow G H G' H' → (∀ a ∈ fp, H a = none ∧ G' a = none ∧ ∃ ho, H' a = some ho) → Ow.ok X.K G' H' v fp x → Q v H') → WE X e σ H Q) := ⟨EN.run⟩
structure ET (X : Cx) (Γ : List Slot) (e : Expr) (b : Bool)  : Prop where
  run : ∀ (B G H : Hp) (σ : L2.St), Same B H → Same G H → Lo X.K B G H σ Γ → ∀ Q : Bool → Hp → Prop, (∀ G' H', Grow G H G' H' → Q b H') → WT X e σ H Q
instance {X : Cx} {Γ : List Slot} {e : Expr} {b : Bool}  : CoeFun (ET X Γ e b) (fun _ => ∀ (B G H : Hp) (σ : L2.St), Same B H → Same G H → Lo X.K B G H σ Γ → ∀ Q : Bool → Hp → Prop, (∀ G' H', Grow G H G' H' → Q b H') → WT X e σ H Q) := ⟨ET.run⟩
structure EA (X : Cx) (Γ : List Slot) (es : List Expr) (ds : List Dat)  : Prop where
  run : ∀ (B G H : Hp) (σ : L2.St), Same B H → Same G H → Lo X.K B G H σ Γ → ∀ Q : List V → Hp → Prop, (∀ vs G' H', Grow G H G' H' → DatsOk X.K G' vs ds → Q vs H') → WA X es σ H Q
instance {X : Cx} {Γ : List Slot} {es : List Expr} {ds : List Dat}  : CoeFun (EA X Γ es ds) (fun _ => ∀ (B G H : Hp) (σ : L2.St), Same B H → Same G H → Lo X.K B G H σ Γ → ∀ Q : List V → Hp → Prop, (∀ vs G' H', Grow G H G' H' → DatsOk X.K G' vs ds → Q vs H') → WA X es σ H Q) := ⟨EA.run⟩
theorem EV.is {X : Cx} {Γ : List Slot} {e : Expr} {α : Type} [Rp α] {x y : α} (h : EV X Γ e x) (q : x = y) : EV X Γ e y := q ▸ h
theorem ET.is {X : Cx} {Γ : List Slot} {e : Expr} {x y : Bool} (h : ET X Γ e x) (q : x = y) : ET X Γ e y := q ▸ h
section
variable {X : Cx} {Γ : List Slot} {a b c e : Expr} {es : List Expr} {pos : Pos}
theorem ev_var (i : Nat) {α : Type} [Rp α] {x : α} {nm : Str} (h : Γ[i]? = some (.v x)) (hN : X.N[i]? = some nm := by rfl) (hv : Vis X.env.scope nm := by first | exact Or.inl rfl | exact Or.inr (Or.inl rfl) | exact Or.inr (Or.inr rfl))
    (hd : (nm == ("__debug__" : Str)) = false := by decide) (hcd : (nm == ("__classdict__" : Str)) = false := by decide) : EV X Γ (.Name nm pos) x := by
  refine ⟨fun B G H σ hb hg l Q q => ?_⟩
  obtain ⟨v, e1, r⟩ := l.val h
  exact we (pe_var hN hv hd hcd) ⟨v, e1, q v G H (Grow.refl hg) r⟩
theorem ev_int {i : Int} {j : Nat} : EV X Γ (.Constant (.int i) j pos) i := ⟨fun _ G H _ _ hg _ _ q => we pe_int (q _ G H (Grow.refl hg) rfl)⟩
theorem ev_bl {i : Bool} {j : Nat} : EV X Γ (.Constant (.bool i) j pos) i := ⟨fun _ G H _ _ hg _ _ q => we pe_bl (q _ G H (Grow.refl hg) rfl)⟩
theorem ev_str {i : Str} {j : Nat} : EV X Γ (.Constant (.str i) j pos) i := ⟨fun _ G H _ _ hg _ _ q => we pe_str (q _ G H (Grow.refl hg) rfl)⟩
theorem ev_none {j : Nat} : EV X Γ (.Constant .none j pos) () := ⟨fun _ G H _ _ hg _ _ q => we pe_non (q _ G H (Grow.refl hg) rfl)⟩
theorem ev_non {α : Type} [Rp α] {j : Nat} : EV X Γ (.Constant .none j pos) (none : Option α) := ⟨fun _ G H _ _ hg _ _ q => we pe_non (q _ G H (Grow.refl hg) rfl)⟩
/-- two operands -/
theorem ev_bin {α β γ : Type} [Rp α] [Rp β] [Rp γ] {x : α} {y : β} {z : γ} {op : Operator} {r : R2} (ho : OpR X (binaryOp op) r) (ha : EV X Γ a x) (hb : EV X Γ b y)
    (hr : ∀ G H v u, Same G H → Rp.rep X.K G v x → Rp.rep X.K G u y → ∀ Q : VK, (∀ w G' H', Grow G H G' H' → Rp.rep X.K G' w z → Q w H') → r v u H Q) : EV X Γ (.BinOp a op b pos) z := by
  refine ⟨fun B G H σ hB hg l Q q => ?_⟩
  refine we (pe_op ho pe pe) (ha B G H σ hB hg l _ fun v G1 H1 g1 r1 => hb B G1 H1 σ (hB.trans g1.h) g1.gh (l.grow g1) _ fun u G2 H2 g2 r2 => ?_)
  exact hr G2 H2 v u g2.gh (Rp.mono g2.g r1) r2 Q fun w G3 H3 g3 r3 => q w G3 H3 ((g1.trans g2).trans g3) r3
theorem ev_binI {x y z : Int} {op : Operator} {C : Int → Int → Prop} {g : Int → Int → Int} (ho : OpR X (binaryOp op) (rI C fun i j => .int (g i j))) (ha : EV X Γ a x) (hb : EV X Γ b y) (hc : C x y) (hz : g x y = z) : EV X Γ (.BinOp a op b pos) z :=
  ev_bin ho ha hb fun G H v u hg hv hu Q q => ⟨x, y, hv, hu, hc, q _ G H (Grow.refl hg) (by subst hz; rfl)⟩
theorem ev_binI0 {x y z : Int} {op : Operator} {g : Int → Int → Int} (ho : OpR X (binaryOp op) (rI0 fun i j => .int (g i j))) (ha : EV X Γ a x) (hb : EV X Γ b y) (hz : g x y = z) : EV X Γ (.BinOp a op b pos) z :=
  ev_bin ho ha hb fun G H v u hg hv hu Q q => ⟨x, y, hv, hu, q _ G H (Grow.refl hg) (by subst hz; rfl)⟩
theorem ev_add {x y : Int} (ha : EV X Γ a x) (hb : EV X Γ b y) : EV X Γ (.BinOp a .Add b pos) (x + y) := ev_binI0 op_add ha hb rfl
theorem ev_sub {x y : Int} (ha : EV X Γ a x) (hb : EV X Γ b y) : EV X Γ (.BinOp a .Sub b pos) (x - y) := ev_binI0 op_sub ha hb rfl
theorem ev_mul {x y : Int} (ha : EV X Γ a x) (hb : EV X Γ b y) (hc : CMul x y) : EV X Γ (.BinOp a .Mult b pos) (x * y) := ev_binI op_mul ha hb hc rfl
theorem ev_mod {x y : Int} (ha : EV X Γ a x) (hb : EV X Γ b y) (hc : 0 < y) : EV X Γ (.BinOp a .Mod b pos) (x % y) := ev_binI op_mod ha hb hc rfl
theorem ev_div {x y : Int} (ha : EV X Γ a x) (hb : EV X Γ b y) (hc : CDiv x y) : EV X Γ (.BinOp a .FloorDiv b pos) (x / y) := ev_binI op_fdiv ha hb hc rfl
theorem ev_pow {x y : Int} (ha : EV X Γ a x) (hb : EV X Γ b y) (hc : CPow x y) : EV X Γ (.BinOp a .Pow b pos) (x ^ y.toNat) := ev_binI op_pow ha hb hc rfl
theorem ev_neg {x : Int} (ha : EV X Γ a x) : EV X Γ (.UnaryOp .USub a pos) (-x) := by
  refine ⟨fun B G H σ hB hg l Q q => ?_⟩
  exact we (pe_un un_neg pe) (ha B G H σ hB hg l _ fun v G1 H1 g1 r1 => ⟨x, r1, q _ G1 H1 g1 rfl⟩)

/-! ### comparisons -/
theorem ev_cmp {α β : Type} [Rp α] [Rp β] {x : α} {y : β} {z : Bool} {op : CmpOp} {r : R2} (ho : OpR X (compareOp op) r) (hm : behindInMarks op b = false) (ha : EV X Γ a x) (hb : EV X Γ b y)
    (hr : ∀ G H v u, Same G H → Rp.rep X.K G v x → Rp.rep X.K G u y → ∀ Q : VK, (∀ G' H', Grow G H G' H' → Q (.bl z) H') → r v u H Q) : EV X Γ (.Compare a [op] [b] pos) z := by
  refine ⟨fun B G H σ hB hg l Q q => ?_⟩
  refine we (pe_cmpR ho pe pe hm) (ha B G H σ hB hg l _ fun v G1 H1 g1 r1 => hb B G1 H1 σ (hB.trans g1.h) g1.gh (l.grow g1) _ fun u G2 H2 g2 r2 => ?_)
  exact hr G2 H2 v u g2.gh (Rp.mono g2.g r1) r2 Q fun G3 H3 g3 => q _ G3 H3 ((g1.trans g2).trans g3) rfl
theorem et_cmp {α β : Type} [Rp α] [Rp β] {x : α} {y : β} {z : Bool} {op : CmpOp} {r : R2} (ho : OpR X (compareOp op) r) (hm : behindInMarks op b = false) (ha : EV X Γ a x) (hb : EV X Γ b y)
    (hr : ∀ G H v u, Same G H → Rp.rep X.K G v x → Rp.rep X.K G u y → ∀ Q : VK, (∀ G' H', Grow G H G' H' → Q (.bl z) H') → r v u H Q) : ET X Γ (.Compare a [op] [b] pos) z := by
  refine ⟨fun B G H σ hB hg l Q q => ?_⟩
  refine wt (pt_cmpR ho pe pe hm) (ha B G H σ hB hg l _ fun v G1 H1 g1 r1 => hb B G1 H1 σ (hB.trans g1.h) g1.gh (l.grow g1) _ fun u G2 H2 g2 r2 => ?_)
  exact hr G2 H2 v u g2.gh (Rp.mono g2.g r1) r2 _ fun G3 H3 g3 => ⟨z, rfl, q G3 H3 ((g1.trans g2).trans g3)⟩
theorem rI0b {p : Int → Int → Bool} {x y : Int} {K : PySem.W.Frag} : ∀ G H v u, Same G H → Rp.rep K G v x → Rp.rep K G u y → ∀ Q : VK, (∀ G' H', Grow G H G' H' → Q (.bl (p x y)) H') → rI0 (fun i j => .bl (p i j)) v u H Q :=
  fun G H _ _ hg hv hu _ q => ⟨x, y, hv, hu, q G H (Grow.refl hg)⟩
theorem ev_lt {x y : Int} (ha : EV X Γ a x) (hb : EV X Γ b y) : EV X Γ (.Compare a [.Lt] [b] pos) (decide (x < y)) := ev_cmp op_lt (nomark _) ha hb (rI0b (p := fun i j => decide (i < j)))
theorem ev_le {x y : Int} (ha : EV X Γ a x) (hb : EV X Γ b y) : EV X Γ (.Compare a [.LtE] [b] pos) (decide (x ≤ y)) := ev_cmp op_le (nomark _) ha hb (rI0b (p := fun i j => decide (i ≤ j)))
theorem ev_gt {x y : Int} (ha : EV X Γ a x) (hb : EV X Γ b y) : EV X Γ (.Compare a [.Gt] [b] pos) (decide (y < x)) := ev_cmp op_gt (nomark _) ha hb (rI0b (p := fun i j => decide (j < i)))
theorem ev_ge {x y : Int} (ha : EV X Γ a x) (hb : EV X Γ b y) : EV X Γ (.Compare a [.GtE] [b] pos) (decide (y ≤ x)) := ev_cmp op_ge (nomark _) ha hb (rI0b (p := fun i j => decide (j ≤ i)))
theorem et_lt {x y : Int} (ha : EV X Γ a x) (hb : EV X Γ b y) : ET X Γ (.Compare a [.Lt] [b] pos) (decide (x < y)) := et_cmp op_lt (nomark _) ha hb (rI0b (p := fun i j => decide (i < j)))
theorem et_le {x y : Int} (ha : EV X Γ a x) (hb : EV X Γ b y) : ET X Γ (.Compare a [.LtE] [b] pos) (decide (x ≤ y)) := et_cmp op_le (nomark _) ha hb (rI0b (p := fun i j => decide (i ≤ j)))
theorem et_gt {x y : Int} (ha : EV X Γ a x) (hb : EV X Γ b y) : ET X Γ (.Compare a [.Gt] [b] pos) (decide (y < x)) := et_cmp op_gt (nomark _) ha hb (rI0b (p := fun i j => decide (j < i)))
theorem et_ge {x y : Int} (ha : EV X Γ a x) (hb : EV X Γ b y) : ET X Γ (.Compare a [.GtE] [b] pos) (decide (y ≤ x)) := et_cmp op_ge (nomark _) ha hb (rI0b (p := fun i j => decide (j ≤ i)))
/-- scalars for == -/
class Sc (α : Type) extends Rp α where
  of : α → V
  rep_of : ∀ {K G v x}, rep K G v x → v = of x
  scal_of : ∀ x y, scal (of x) (of y) = true
  inj : ∀ x y, of x = of y → x = y
instance : Sc Int := ⟨.int, fun h => h, fun _ _ => rfl, fun _ _ h => V.int.inj h⟩
instance : Sc Bool := ⟨.bl, fun h => h, fun _ _ => rfl, fun _ _ h => V.bl.inj h⟩
instance : Sc Str := ⟨.str, fun h => h, fun _ _ => rfl, fun _ _ h => V.str.inj h⟩
theorem sc_dec {α : Type} [Sc α] [DecidableEq α] (x y : α) : decide (Sc.of x = Sc.of y) = decide (x = y) := by
  by_cases h : x = y
  · subst h; simp
  · rw [decide_eq_false h, decide_eq_false fun e => h (Sc.inj _ _ e)]
theorem rEqS {α : Type} [Sc α] [DecidableEq α] {x y : α} {K : PySem.W.Frag} : ∀ G H v u, Same G H → Rp.rep K G v x → Rp.rep K G u y → ∀ Q : VK, (∀ G' H', Grow G H G' H' → Q (.bl (decide (x = y))) H') → rEq v u H Q := fun G H v u hg hv hu Q q => by
  rw [Sc.rep_of hv, Sc.rep_of hu]
  exact ⟨Sc.scal_of _ _, by rw [sc_dec]; exact q G H (Grow.refl hg)⟩
theorem rNeS {α : Type} [Sc α] [DecidableEq α] {x y : α} {K : PySem.W.Frag} : ∀ G H v u, Same G H → Rp.rep K G v x → Rp.rep K G u y → ∀ Q : VK, (∀ G' H', Grow G H G' H' → Q (.bl (!decide (x = y))) H') → rNe v u H Q := fun G H v u hg hv hu Q q => by
  rw [Sc.rep_of hv, Sc.rep_of hu]
  exact ⟨Sc.scal_of _ _, by rw [sc_dec]; exact q G H (Grow.refl hg)⟩
theorem ev_eq {α : Type} [Sc α] [DecidableEq α] {x y : α} (ha : EV X Γ a x) (hb : EV X Γ b y) : EV X Γ (.Compare a [.Eq] [b] pos) (decide (x = y)) := ev_cmp op_eq (nomark _) ha hb rEqS
theorem ev_ne {α : Type} [Sc α] [DecidableEq α] {x y : α} (ha : EV X Γ a x) (hb : EV X Γ b y) : EV X Γ (.Compare a [.NotEq] [b] pos) (!decide (x = y)) := ev_cmp op_ne (nomark _) ha hb rNeS
theorem et_eq {α : Type} [Sc α] [DecidableEq α] {x y : α} (ha : EV X Γ a x) (hb : EV X Γ b y) : ET X Γ (.Compare a [.Eq] [b] pos) (decide (x = y)) := et_cmp op_eq (nomark _) ha hb rEqS
theorem et_ne {α : Type} [Sc α] [DecidableEq α] {x y : α} (ha : EV X Γ a x) (hb : EV X Γ b y) : ET X Γ (.Compare a [.NotEq] [b] pos) (!decide (x = y)) := et_cmp op_ne (nomark _) ha hb rNeS
/-- a < b < c, a <= b < c .. of ints -/
theorem et_chain {x y z : Int} {op op' : CmpOp} {p p' : Int → Int → Bool} (ho : OpR X (compareOp op) (rI0 fun i j => .bl (p i j))) (ho' : OpR X (compareOp op') (rI0 fun i j => .bl (p' i j))) (ha : EV X Γ a x) (hb : EV X Γ b y) (hc : EV X Γ c z)
    (hm : lastMarks [op, op'] [b, c] = false := by with_unfolding_all rfl) : ET X Γ (.Compare a [op, op'] [b, c] pos) (p x y && p' y z) := by
  refine ⟨fun B G H σ hB hg l Q q => ?_⟩
  refine wt (pt_chain ho ho' pe pe pe hm) (ha B G H σ hB hg l _ fun v G1 H1 g1 r1 => hb B G1 H1 σ (hB.trans g1.h) g1.gh (l.grow g1) _ fun u G2 H2 g2 r2 => ?_)
  refine ⟨x, y, r1, r2, p x y, rfl, ?_⟩
  cases hp : p x y with
  | true =>
    refine hc B G2 H2 σ ((hB.trans g1.h).trans g2.h) g2.gh ((l.grow g1).grow g2) _ fun w G3 H3 g3 r3 => ?_
    exact ⟨y, z, r2, r3, p' y z, rfl, by have := q G3 H3 ((g1.trans g2).trans g3); rw [hp] at this; exact this⟩
  | false =>
    have := q G2 H2 (g1.trans g2)
    rw [hp] at this
    exact ⟨false, rfl, this⟩
end
end Wl

set_option maxRecDepth 100000
set_option maxHeartbeats 2000000
namespace Wl
open PySem PySem.Spec PyProof.Rows L2
section
variable {X : Cx} {Γ : List Slot} {a b c e : Expr} {es : List Expr} {pos : Pos}
/-! ### truth -/
theorem et_val {x : Bool} (h : EV X Γ e x) (he : ∀ whole, isTrue e X.env whole = (do let v ← whole; standAt e.pos; holding [v] (truthy v)) := by intro _; rfl) : ET X Γ e x := by
  refine ⟨fun B G H σ hB hg l Q q => ?_⟩
  exact wt (pt_val pe he) (h B G H σ hB hg l _ fun v G1 H1 g1 r1 => ⟨x, r1, q G1 H1 g1⟩)
theorem et_not {x : Bool} (h : ET X Γ e x) : ET X Γ (.UnaryOp .Not e pos) (!x) := by
  refine ⟨fun B G H σ hB hg l Q q => ?_⟩
  exact wt (pt_not pt) (h B G H σ hB hg l _ fun G1 H1 g1 => q G1 H1 g1)
theorem ev_not {x : Bool} (h : EV X Γ e x) : EV X Γ (.UnaryOp .Not e pos) (!x) := by
  refine ⟨fun B G H σ hB hg l Q q => ?_⟩
  exact we (pe_not pe) (h B G H σ hB hg l _ fun v G1 H1 g1 r1 => ⟨x, r1, q _ G1 H1 g1 rfl⟩)
/-- chains of and, or (tests) -/
def WW (X : Cx) (e : Expr) : TT := fun σ H Q => ∀ (whole : Sem Value) (pins : List (Addr × Obj)) (s : Shared), Inv X pins σ H s → wpAny (model X.prog X.w) X.A (isTrue e X.env whole) (TP X pins σ Q) X.xe s
theorem pw : PW X e (WW X e) := ⟨fun wh pins s _ _ _ I h => h wh pins s I⟩
theorem ww {σ : L2.St} {H : Hp} {t : TT} {Q : Bool → Hp → Prop} (h : PW X e t) (q : t σ H Q) : WW X e σ H Q := fun wh pins s I => h.run wh pins s σ H Q I q
structure EW (X : Cx) (Γ : List Slot) (e : Expr) (b : Bool)  : Prop where
  run : ∀ (B G H : Hp) (σ : L2.St), Same B H → Same G H → Lo X.K B G H σ Γ → ∀ Q : Bool → Hp → Prop, (∀ G' H', Grow G H G' H' → Q b H') → WW X e σ H Q
instance {X : Cx} {Γ : List Slot} {e : Expr} {b : Bool}  : CoeFun (EW X Γ e b) (fun _ => ∀ (B G H : Hp) (σ : L2.St), Same B H → Same G H → Lo X.K B G H σ Γ → ∀ Q : Bool → Hp → Prop, (∀ G' H', Grow G H G' H' → Q b H') → WW X e σ H Q) := ⟨EW.run⟩
theorem et_w {x : Bool} (h : EW X Γ e x) : ET X Γ e x := ⟨fun B G H σ hB hg l Q q => wt pw.pt (h B G H σ hB hg l Q q)⟩
theorem ew_and1 {x : Bool} (h : ET X Γ a x) : EW X Γ (.BoolOp .And [a] pos) x := ⟨fun B G H σ hB hg l Q q => ww (pw_and1 pt) (h B G H σ hB hg l Q q)⟩
theorem ew_or1 {x : Bool} (h : ET X Γ a x) : EW X Γ (.BoolOp .Or [a] pos) x := ⟨fun B G H σ hB hg l Q q => ww (pw_or1 pt) (h B G H σ hB hg l Q q)⟩
theorem ew_and {x y : Bool} (h : ET X Γ a x) (hr : x = true → EW X Γ (.BoolOp .And (b :: es) pos) y) : EW X Γ (.BoolOp .And (a :: b :: es) pos) (x && y) := ⟨fun B G H σ hB hg l Q q =>
  ww (pw_and pt pw) (h B G H σ hB hg l _ fun G1 H1 g1 => by
    cases x with
    | true => exact hr rfl B G1 H1 σ (hB.trans g1.h) g1.gh (l.grow g1) Q fun G2 H2 g2 => q G2 H2 (g1.trans g2)
    | false => exact q G1 H1 g1)⟩
theorem ew_or {x y : Bool} (h : ET X Γ a x) (hr : x = false → EW X Γ (.BoolOp .Or (b :: es) pos) y) : EW X Γ (.BoolOp .Or (a :: b :: es) pos) (x || y) := ⟨fun B G H σ hB hg l Q q =>
  ww (pw_or pt pw) (h B G H σ hB hg l _ fun G1 H1 g1 => by
    cases x with
    | false => exact hr rfl B G1 H1 σ (hB.trans g1.h) g1.gh (l.grow g1) Q fun G2 H2 g2 => q G2 H2 (g1.trans g2)
    | true => exact q G1 H1 g1)⟩
/-- .. as values, bools -/
theorem ev_one {α : Type} [Rp α] {x : α} {op : BoolOp} (h : EV X Γ a x) : EV X Γ (.BoolOp op [a] pos) x := ⟨fun B G H σ hB hg l Q q => we (pe_one pe) (h B G H σ hB hg l Q q)⟩
theorem ev_and {x y : Bool} (h : EV X Γ a x) (hr : x = true → EV X Γ (.BoolOp .And (b :: es) pos) y) : EV X Γ (.BoolOp .And (a :: b :: es) pos) (x && y) := ⟨fun B G H σ hB hg l Q q =>
  we (pe_and pe pe) (h B G H σ hB hg l _ fun v G1 H1 g1 r1 => ⟨x, r1, by
    cases x with
    | true => exact hr rfl B G1 H1 σ (hB.trans g1.h) g1.gh (l.grow g1) Q fun w G2 H2 g2 r2 => q w G2 H2 (g1.trans g2) r2
    | false => exact q _ G1 H1 g1 rfl⟩)⟩
theorem ev_or {x y : Bool} (h : EV X Γ a x) (hr : x = false → EV X Γ (.BoolOp .Or (b :: es) pos) y) : EV X Γ (.BoolOp .Or (a :: b :: es) pos) (x || y) := ⟨fun B G H σ hB hg l Q q =>
  we (pe_or pe pe) (h B G H σ hB hg l _ fun v G1 H1 g1 r1 => ⟨x, r1, by
    cases x with
    | false => exact hr rfl B G1 H1 σ (hB.trans g1.h) g1.gh (l.grow g1) Q fun w G2 H2 g2 r2 => q w G2 H2 (g1.trans g2) r2
    | true => exact q _ G1 H1 g1 rfl⟩)⟩

/-! ### arguments -/
theorem ea_nil : EA X Γ [] [] := ⟨fun _ G H _ _ hg _ _ q => wa pa_nil (q [] G H (Grow.refl hg) .nil)⟩
theorem ea_cons {α : Type} [Rp α] {x : α} {ds : List Dat} (h : EV X Γ e x) (hr : EA X Γ es ds) (hs : starEach (e :: es) X.env = (false, eval e X.env) :: starEach es X.env := by rfl) : EA X Γ (e :: es) (dt x :: ds) := ⟨fun B G H σ hB hg l Q q =>
  wa (pa_cons pe pa hs) (h B G H σ hB hg l _ fun v G1 H1 g1 r1 => hr B G1 H1 σ (hB.trans g1.h) g1.gh (l.grow g1) _ fun vs G2 H2 g2 r2 => q (v :: vs) G2 H2 (g1.trans g2) (.cons (Dat.mono (d := dt x) g2.g r1) r2))⟩
theorem DatsOk.of {α : Type} [Rp α] {K : PySem.W.Frag} {G : Hp} : ∀ {xs : List α} {vs : List V}, DatsOk K G vs (xs.map fun x => dt x) → Reps K G vs xs
  | [], _, .nil => .nil
  | _ :: _, _, .cons r t => .cons r (DatsOk.of t)
theorem DatsOk.len {K : PySem.W.Frag} {G : Hp} : ∀ {vs : List V} {ds : List Dat}, DatsOk K G vs ds → vs.length = ds.length
  | _, _, .nil => rfl
  | _, _, .cons _ t => by simp [DatsOk.len t]
/-- (a, b, ..) -/
theorem we_tup {B G H : Hp} {σ : L2.St} {n : Nat} {ds : List Dat} (h : EA X Γ es ds) (hB : Same B H) (hg : Same G H) (l : Lo X.K B G H σ Γ) {Q : VK} (hn : ds.length ≤ 100)
    (q : ∀ p vs G' H', Grow G H G' H' → DatsOk X.K G' vs ds → SqT X.K G' p vs → Q (.ref p) H') : WE X (.Tuple es n pos) σ H Q :=
  we (pe_tup pa) (h B G H σ hB hg l _ fun vs G1 H1 g1 r1 => ⟨by rw [r1.len]; exact Nat.le_trans hn (by decide), fun p hp =>
    q p vs _ _ (g1.trans (Grow.new g1.gh hp)) (r1.mono (Grow.new g1.gh hp).g) (SqT.of upd_same)⟩)
theorem ev_t1 {α : Type} [Rp α] {x : α} {n : Nat} (h : EA X Γ es [dt x]) : EV X Γ (.Tuple es n pos) (T1.mk x) := ⟨fun B G H σ hB hg l Q q => we_tup h hB hg l (Nat.le_of_ble_eq_true rfl) fun p vs G1 H1 g1 r hs => by
  cases r with | cons r1 t => cases t; exact q _ G1 H1 g1 ⟨p, _, rfl, hs, r1⟩⟩
theorem ev_t2 {α β : Type} [Rp α] [Rp β] {x : α} {y : β} {n : Nat} (h : EA X Γ es [dt x, dt y]) : EV X Γ (.Tuple es n pos) (T2.mk x y) := ⟨fun B G H σ hB hg l Q q => we_tup h hB hg l (Nat.le_of_ble_eq_true rfl) fun p vs G1 H1 g1 r hs => by
  cases r with | cons r1 t => cases t with | cons r2 t => cases t; exact q _ G1 H1 g1 ⟨p, _, _, rfl, hs, r1, r2⟩⟩
theorem ev_t3 {α β γ : Type} [Rp α] [Rp β] [Rp γ] {x : α} {y : β} {z : γ} {n : Nat} (h : EA X Γ es [dt x, dt y, dt z]) : EV X Γ (.Tuple es n pos) (T3.mk x y z) := ⟨fun B G H σ hB hg l Q q => we_tup h hB hg l (Nat.le_of_ble_eq_true rfl) fun p vs G1 H1 g1 r hs => by
  cases r with | cons r1 t => cases t with | cons r2 t => cases t with | cons r3 t => cases t; exact q _ G1 H1 g1 ⟨p, _, _, _, rfl, hs, r1, r2, r3⟩⟩
theorem ev_t4 {α β γ δ : Type} [Rp α] [Rp β] [Rp γ] [Rp δ] {x : α} {y : β} {z : γ} {w : δ} {n : Nat} (h : EA X Γ es [dt x, dt y, dt z, dt w]) : EV X Γ (.Tuple es n pos) (T4.mk x y z w) := ⟨fun B G H σ hB hg l Q q => we_tup h hB hg l (Nat.le_of_ble_eq_true rfl) fun p vs G1 H1 g1 r hs => by
  cases r with | cons r1 t => cases t with | cons r2 t => cases t with | cons r3 t => cases t with | cons r4 t => cases t; exact q _ G1 H1 g1 ⟨p, _, _, _, _, rfl, hs, r1, r2, r3, r4⟩⟩
theorem ev_t5 {α β γ δ ε : Type} [Rp α] [Rp β] [Rp γ] [Rp δ] [Rp ε] {x : α} {y : β} {z : γ} {w : δ} {u : ε} {n : Nat} (h : EA X Γ es [dt x, dt y, dt z, dt w, dt u]) : EV X Γ (.Tuple es n pos) (T5.mk x y z w u) := ⟨fun B G H σ hB hg l Q q => we_tup h hB hg l (Nat.le_of_ble_eq_true rfl) fun p vs G1 H1 g1 r hs => by
  cases r with | cons r1 t => cases t with | cons r2 t => cases t with | cons r3 t => cases t with | cons r4 t => cases t with | cons r5 t => cases t; exact q _ G1 H1 g1 ⟨p, _, _, _, _, _, rfl, hs, r1, r2, r3, r4, r5⟩⟩
/-- a new list: of one's own, or known for good -/
theorem en_lst {α : Type} [Rp α] {xs : List α} (h : EA X Γ es (xs.map fun x => dt x)) (hn : xs.length ≤ 10000 := by exact Nat.le_of_ble_eq_true rfl) : EN X Γ (.List es pos) (ML.mk xs) := ⟨fun B G H σ hB hg l Q q =>
  we (pe_lst pa) (h B G H σ hB hg l _ fun vs G1 H1 g1 r1 => ⟨by rw [r1.len, List.length_map]; exact Nat.le_trans hn (by decide), fun p hp =>
    q (.ref p) [p] G1 _ (g1.trans (Grow.own g1.gh hp)) (fun a ha => by
      have e : a = p := by simpa using ha
      subst e; exact ⟨g1.h.free hp, g1.gh.free hp, _, upd_same⟩) ⟨p, vs, rfl, rfl, upd_same, DatsOk.of r1⟩⟩)⟩
theorem ev_new {α : Type} [Rp α] {xs : List α} (h : EN X Γ e (ML.mk xs)) : EV X Γ e xs := ⟨fun B G H σ hB hg l Q q =>
  h B G H σ hB hg l Q fun v fp G1 H1 g1 hf ok => by
    obtain ⟨p, vs, rfl, rfl, hh, r⟩ := ok
    obtain ⟨hp, hgp, _⟩ := hf p (by simp)
    have hs : Same G1 (upd G1 p (.lst vs)) := fun b u e => by rw [upd_ne (ne_of_none e hgp)]; exact e
    refine q _ (upd G1 p (.lst vs)) H1 ⟨g1.g.trans hs, g1.h, fun b u e => ?_, fun b u e n => ?_⟩ ⟨p, vs, rfl, SqL.of upd_same, r.mono hs⟩
    · by_cases hb : b = p
      · subst hb; rw [upd_same] at e; rw [← e]; exact hh
      · rw [upd_ne hb] at e; exact g1.gh b u e
    · rw [upd_ne (ne_of_none e hp)]; exact g1.fr b u e n⟩
theorem ev_lst {α : Type} [Rp α] {xs : List α} (h : EA X Γ es (xs.map fun x => dt x)) (hn : xs.length ≤ 10000 := by exact Nat.le_of_ble_eq_true rfl) : EV X Γ (.List es pos) xs := ev_new (en_lst h hn)

/-! ### subscripts -/
/-- the i-th of a tuple -/
class TIx (τ : Type) [Rp τ] (i : Nat) (β : outParam Type) [Rp β] where
  get : τ → β
  ok : ∀ {K G v x}, Rp.rep K G v x → ∃ p vs w, v = V.ref p ∧ SqT K G p vs ∧ vs[i]? = some w ∧ Rp.rep K G w (get x)
instance {α : Type} [Rp α] : TIx (T1 α) 0 α := ⟨T1.a, fun h => by obtain ⟨p, v1, h0, hs, h1⟩ := h; exact ⟨p, _, v1, h0, hs, rfl, h1⟩⟩
instance {α β : Type} [Rp α] [Rp β] : TIx (T2 α β) 0 α := ⟨T2.a, fun h => by obtain ⟨p, v1, v2, h0, hs, h1, h2⟩ := h; exact ⟨p, _, v1, h0, hs, rfl, h1⟩⟩
instance {α β : Type} [Rp α] [Rp β] : TIx (T2 α β) 1 β := ⟨T2.b, fun h => by obtain ⟨p, v1, v2, h0, hs, h1, h2⟩ := h; exact ⟨p, _, v2, h0, hs, rfl, h2⟩⟩
instance {α β γ : Type} [Rp α] [Rp β] [Rp γ] : TIx (T3 α β γ) 0 α := ⟨T3.a, fun h => by obtain ⟨p, v1, v2, v3, h0, hs, h1, h2, h3⟩ := h; exact ⟨p, _, v1, h0, hs, rfl, h1⟩⟩
instance {α β γ : Type} [Rp α] [Rp β] [Rp γ] : TIx (T3 α β γ) 1 β := ⟨T3.b, fun h => by obtain ⟨p, v1, v2, v3, h0, hs, h1, h2, h3⟩ := h; exact ⟨p, _, v2, h0, hs, rfl, h2⟩⟩
instance {α β γ : Type} [Rp α] [Rp β] [Rp γ] : TIx (T3 α β γ) 2 γ := ⟨T3.c, fun h => by obtain ⟨p, v1, v2, v3, h0, hs, h1, h2, h3⟩ := h; exact ⟨p, _, v3, h0, hs, rfl, h3⟩⟩
instance {α β γ δ : Type} [Rp α] [Rp β] [Rp γ] [Rp δ] : TIx (T4 α β γ δ) 0 α := ⟨T4.a, fun h => by obtain ⟨p, v1, v2, v3, v4, h0, hs, h1, h2, h3, h4⟩ := h; exact ⟨p, _, v1, h0, hs, rfl, h1⟩⟩
instance {α β γ δ : Type} [Rp α] [Rp β] [Rp γ] [Rp δ] : TIx (T4 α β γ δ) 1 β := ⟨T4.b, fun h => by obtain ⟨p, v1, v2, v3, v4, h0, hs, h1, h2, h3, h4⟩ := h; exact ⟨p, _, v2, h0, hs, rfl, h2⟩⟩
instance {α β γ δ : Type} [Rp α] [Rp β] [Rp γ] [Rp δ] : TIx (T4 α β γ δ) 2 γ := ⟨T4.c, fun h => by obtain ⟨p, v1, v2, v3, v4, h0, hs, h1, h2, h3, h4⟩ := h; exact ⟨p, _, v3, h0, hs, rfl, h3⟩⟩
instance {α β γ δ : Type} [Rp α] [Rp β] [Rp γ] [Rp δ] : TIx (T4 α β γ δ) 3 δ := ⟨T4.d, fun h => by obtain ⟨p, v1, v2, v3, v4, h0, hs, h1, h2, h3, h4⟩ := h; exact ⟨p, _, v4, h0, hs, rfl, h4⟩⟩
instance {α β γ δ ε : Type} [Rp α] [Rp β] [Rp γ] [Rp δ] [Rp ε] : TIx (T5 α β γ δ ε) 0 α := ⟨T5.a, fun h => by obtain ⟨p, v1, v2, v3, v4, v5, h0, hs, h1, h2, h3, h4, h5⟩ := h; exact ⟨p, _, v1, h0, hs, rfl, h1⟩⟩
instance {α β γ δ ε : Type} [Rp α] [Rp β] [Rp γ] [Rp δ] [Rp ε] : TIx (T5 α β γ δ ε) 1 β := ⟨T5.b, fun h => by obtain ⟨p, v1, v2, v3, v4, v5, h0, hs, h1, h2, h3, h4, h5⟩ := h; exact ⟨p, _, v2, h0, hs, rfl, h2⟩⟩
instance {α β γ δ ε : Type} [Rp α] [Rp β] [Rp γ] [Rp δ] [Rp ε] : TIx (T5 α β γ δ ε) 2 γ := ⟨T5.c, fun h => by obtain ⟨p, v1, v2, v3, v4, v5, h0, hs, h1, h2, h3, h4, h5⟩ := h; exact ⟨p, _, v3, h0, hs, rfl, h3⟩⟩
instance {α β γ δ ε : Type} [Rp α] [Rp β] [Rp γ] [Rp δ] [Rp ε] : TIx (T5 α β γ δ ε) 3 δ := ⟨T5.d, fun h => by obtain ⟨p, v1, v2, v3, v4, v5, h0, hs, h1, h2, h3, h4, h5⟩ := h; exact ⟨p, _, v4, h0, hs, rfl, h4⟩⟩
instance {α β γ δ ε : Type} [Rp α] [Rp β] [Rp γ] [Rp δ] [Rp ε] : TIx (T5 α β γ δ ε) 4 ε := ⟨T5.e, fun h => by obtain ⟨p, v1, v2, v3, v4, v5, h0, hs, h1, h2, h3, h4, h5⟩ := h; exact ⟨p, _, v5, h0, hs, rfl, h5⟩⟩
theorem ev_tix (i : Nat) {τ β : Type} [Rp τ] [Rp β] [TIx τ i β] {x : τ} {j : Nat} {pos' : Pos} (ha : EV X Γ a x) : EV X Γ (.Subscript a (.Constant (.int (i : Int)) j pos') pos) (TIx.get i x : β) := ⟨fun B G H σ hB hg l Q q =>
  we (pe_ix ix_tup pe pe (fun _ _ => rfl)) (ha B G H σ hB hg l _ fun v G1 H1 g1 r1 => we pe_int (by
    obtain ⟨p, vs, w, h0, hs, hw, rw'⟩ := TIx.ok (i := i) (β := β) r1
    exact ⟨p, vs, i, w, h0, rfl, seqT g1.gh hs, atI_nat hw, q w G1 H1 g1 rw'⟩))⟩
/-- xs[i], i a place -/
theorem ev_lix {α : Type} [Rp α] {xs : List α} {i : Int} {y : α} (ha : EV X Γ a xs) (hb : EV X Γ b i) (h0 : 0 ≤ i) (hy : xs[i.toNat]? = some y) (hp : PlainIx b := by exact fun _ _ => rfl) : EV X Γ (.Subscript a b pos) y := ⟨fun B G H σ hB hg l Q q =>
  we (pe_ix ix_list pe pe hp) (ha B G H σ hB hg l _ fun v G1 H1 g1 r1 => hb B G1 H1 σ (hB.trans g1.h) g1.gh (l.grow g1) _ fun u G2 H2 g2 r2 => by
    obtain ⟨p, vs, e, hs, hr⟩ := Rp.mono g2.g r1
    obtain ⟨w, hw, rw'⟩ := paired_get2 hr _ _ hy
    have hi : ((i.toNat : Nat) : Int) = i := by omega
    refine ⟨p, vs, i, w, e, r2, Same.seq g2.gh hs, ?_, q w G2 H2 (g1.trans g2) rw'⟩
    rw [← hi]; exact atI_nat hw)⟩
/-- xs[-1] -/
theorem ev_last {α : Type} [Rp α] {xs : List α} {y : α} (ha : EV X Γ a xs) (hb : EV X Γ b (-1 : Int)) (hy : xs.getLast? = some y) (hp : PlainIx b := by exact fun _ _ => rfl) : EV X Γ (.Subscript a b pos) y := ⟨fun B G H σ hB hg l Q q =>
  we (pe_ix ix_list pe pe hp) (ha B G H σ hB hg l _ fun v G1 H1 g1 r1 => hb B G1 H1 σ (hB.trans g1.h) g1.gh (l.grow g1) _ fun u G2 H2 g2 r2 => by
    obtain ⟨p, vs, e, hs, hr⟩ := Rp.mono g2.g r1
    rw [List.getLast?_eq_getElem?] at hy
    obtain ⟨w, hw, rw'⟩ := paired_get2 hr _ _ hy
    refine ⟨p, vs, -1, w, e, r2, Same.seq g2.gh hs, ?_, q w G2 H2 (g1.trans g2) rw'⟩
    have hl := hr.len
    have hpos : 0 < xs.length := by
      have := (List.getElem?_eq_some_iff.mp hy).1
      omega
    unfold atI ixN
    rw [if_neg (by decide), if_pos (by omega)]
    show vs[(-1 + (vs.length : Int)).toNat]? = some w
    rw [show (-1 + (vs.length : Int)).toNat = xs.length - 1 by omega]
    exact hw)⟩

/-! ### calls -/
/-- a def's promise by a relation of arguments and answer -/
def PSp (K : PySem.W.Frag) (R : List Dat → Dat → Prop) : Sp := fun vs H Q _ => ∃ G ds d, Same G H ∧ DatsOk K G vs ds ∧ R ds d ∧ ∀ v G' H', Grow G H G' H' → d.rep K G' v → Q v H'
theorem ev_call {CX : CXT} {k : Nat} {f : Addr} {fd : FuncData} {ps : List Str} {R : List Dat → Dat → Prop} {E : XK} {x : Str} {p : Pos} {α : Type} [Rp α] {y : α} {ds : List Dat} (F : FnOk X.prog X.w X.K X.mg X.base CX k f fd ps (PSp X.K R)) (hr : Room k X.A) (hm : X.mg x = some (.ref f))
    (hk : PySem.W.keepIn X.K (.ref f) = true) (hb : Binds X.K fd ps []) (hx : Passes CX X E) (ha : EA X Γ (e :: es) ds) (hR : R ds (dt y)) (hg : Gl X x := by rfl) (hdb : (x == ("__debug__" : Str)) = false := by decide)
    (he : starEach (e :: es) X.env = (false, eval e X.env) :: starEach es X.env := by rfl) (hpl : (backTo pos (starEach es X.env)).any (·.1) = false := by rfl) : EV X Γ (.Call (.Name x p) (e :: es) [] pos) y := ⟨fun B G H σ hB hgh l Q q =>
  we (pe_call F hr hg hm hk hb .nil hx pa hdb he hpl) (ha B G H σ hB hgh l _ fun vs G1 H1 g1 r1 => by
    rw [List.append_nil]
    exact ⟨G1, ds, dt y, g1.gh, r1, hR, fun v G2 H2 g2 r2 => q v G2 H2 (g1.trans g2) r2⟩)⟩
theorem ev_call0 {CX : CXT} {k : Nat} {f : Addr} {fd : FuncData} {ps : List Str} {R : List Dat → Dat → Prop} {E : XK} {x : Str} {p : Pos} {α : Type} [Rp α] {y : α} (F : FnOk X.prog X.w X.K X.mg X.base CX k f fd ps (PSp X.K R)) (hr : Room k X.A) (hm : X.mg x = some (.ref f))
    (hk : PySem.W.keepIn X.K (.ref f) = true) (hb : Binds X.K fd ps []) (hx : Passes CX X E) (hR : R [] (dt y)) (hg : Gl X x := by rfl) (hdb : (x == ("__debug__" : Str)) = false := by decide) : EV X Γ (.Call (.Name x p) [] [] pos) y := ⟨fun B G H σ hB hgh l Q q =>
  we (pe_call0 F hr hg hm hk hb .nil hx hdb) ⟨G, [], dt y, hgh, .nil, hR, fun v G2 H2 g2 r2 => q v G2 H2 g2 r2⟩⟩
/-- a built-in function -/
theorem ev_cb {r : List V → Hp → VK → Prop} {id : String} {x : Str} {p : Pos} {α : Type} [Rp α] {y : α} {ds : List Dat} (hc : CallR X (.builtin id) r) (hm : X.mg x = none) (hv : bootBuiltins x = some (.builtin id)) (ha : EA X Γ (e :: es) ds)
    (hr : ∀ G H vs, Same G H → DatsOk X.K G vs ds → ∀ Q : VK, (∀ w G' H', Grow G H G' H' → Rp.rep X.K G' w y → Q w H') → r vs H Q) (hg : Gl X x := by rfl) (hn : x ≠ "__name__" := by decide) (hdb : (x == ("__debug__" : Str)) = false := by decide)
    (he : starEach (e :: es) X.env = (false, eval e X.env) :: starEach es X.env := by rfl) (hpl : (backTo pos (starEach es X.env)).any (·.1) = false := by rfl) : EV X Γ (.Call (.Name x p) (e :: es) [] pos) y := ⟨fun B G H σ hB hgh l Q q =>
  we (pe_callB hc hg hm hv pa hn hdb he hpl) (ha B G H σ hB hgh l _ fun vs G1 H1 g1 r1 => hr G1 H1 vs g1.gh r1 Q fun w G2 H2 g2 r2 => q w G2 H2 (g1.trans g2) r2)⟩
theorem ev_cty {r : List V → Hp → VK → Prop} {T : String} {x : Str} {p : Pos} {α : Type} [Rp α] {y : α} {ds : List Dat} (hc : CallR X (.type T) r) (hm : X.mg x = none) (hv : bootBuiltins x = some (.type T)) (ha : EA X Γ (e :: es) ds)
    (hr : ∀ G H vs, Same G H → DatsOk X.K G vs ds → ∀ Q : VK, (∀ w G' H', Grow G H G' H' → Rp.rep X.K G' w y → Q w H') → r vs H Q) (hg : Gl X x := by rfl) (hn : x ≠ "__name__" := by decide) (hdb : (x == ("__debug__" : Str)) = false := by decide)
    (he : starEach (e :: es) X.env = (false, eval e X.env) :: starEach es X.env := by rfl) (hpl : (backTo pos (starEach es X.env)).any (·.1) = false := by rfl) : EV X Γ (.Call (.Name x p) (e :: es) [] pos) y := ⟨fun B G H σ hB hgh l Q q =>
  we (pe_callTy hc hg hm hv pa hn hdb he hpl) (ha B G H σ hB hgh l _ fun vs G1 H1 g1 r1 => hr G1 H1 vs g1.gh r1 Q fun w G2 H2 g2 r2 => q w G2 H2 (g1.trans g2) r2)⟩
theorem max_ite (i j : Int) : (if j > i then j else i) = max i j := by
  rw [Int.max_def]; split <;> split <;> omega
theorem min_ite (i j : Int) : (if j < i then j else i) = min i j := by
  rw [Int.min_def]; split <;> split <;> omega
theorem ev_max2 {p : Pos} {i j : Int} (hc : X.calm = true) (hm : X.mg "max" = none) (ha : EV X Γ a i) (hb : EV X Γ b j) (hg : Gl X "max" := by rfl) (hs : starEach [a, b] X.env = (false, eval a X.env) :: starEach [b] X.env := by rfl) (hs2 : starEach [b] X.env = (false, eval b X.env) :: starEach [] X.env := by rfl)
    (hpl : (backTo pos (starEach [b] X.env)).any (·.1) = false := by rfl) : EV X Γ (.Call (.Name "max" p) [a, b] [] pos) (max i j) :=
  ev_cb (call_max2 hc) hm (by decide +kernel) (ea_cons ha (ea_cons hb ea_nil hs2) hs) (fun G H vs hgh r Q q => by
    cases r with | cons r1 t => cases t with | cons r2 t => cases t; exact ⟨i, j, by rw [show _ = V.int i from r1, show _ = V.int j from r2], by rw [max_ite]; exact q _ G H (Grow.refl hgh) rfl⟩) hg (by decide) (by decide) hs hpl
theorem ev_min2 {p : Pos} {i j : Int} (hc : X.calm = true) (hm : X.mg "min" = none) (ha : EV X Γ a i) (hb : EV X Γ b j) (hg : Gl X "min" := by rfl) (hs : starEach [a, b] X.env = (false, eval a X.env) :: starEach [b] X.env := by rfl) (hs2 : starEach [b] X.env = (false, eval b X.env) :: starEach [] X.env := by rfl)
    (hpl : (backTo pos (starEach [b] X.env)).any (·.1) = false := by rfl) : EV X Γ (.Call (.Name "min" p) [a, b] [] pos) (min i j) :=
  ev_cb (call_min2 hc) hm (by decide +kernel) (ea_cons ha (ea_cons hb ea_nil hs2) hs) (fun G H vs hgh r Q q => by
    cases r with | cons r1 t => cases t with | cons r2 t => cases t; exact ⟨i, j, by rw [show _ = V.int i from r1, show _ = V.int j from r2], by rw [min_ite]; exact q _ G H (Grow.refl hgh) rfl⟩) hg (by decide) (by decide) hs hpl
end
end Wl

set_option maxRecDepth 100000
set_option maxHeartbeats 2000000
namespace Wl
open PySem PySem.Spec PyProof.Rows L2
/-! ### what a statement comes to -/
inductive Out where
  | nx (Γ : List Slot)
  | rt (d : Dat)
  | ro (d : Odat)
  | ex (c : Str) (Γ : List Slot)
  | rx (d : Dat) (Γ : List Slot)
/-- an exception of the class named c may fly here -/
def Fly (X : Cx) (c : Str) (σ : L2.St) (H : Hp) : Prop := ∀ C, X.mg c = some (.ref C) → L2.Takes X (fun cls d σ' H' => cls = .ref C ∧ d = none ∧ σ' = σ ∧ H' = H)
def Sat (X : Cx) (B : Hp) (D : Ends) (G H : Hp) : Out → Prop
  | .nx Γ => ∀ σ, Lo X.K B G H σ Γ → D.nx σ H
  | .rt d => ∀ v, d.rep X.K G v → D.rt v H
  | .ro d => ∀ v fp, (∀ a ∈ fp, B a = none ∧ G a = none ∧ ∃ ho, H a = some ho) → d.ok X.K G H v fp → D.rt v H
  | .ex c Γ => ∀ σ, Lo X.K B G H σ Γ → Fly X c σ H
  | .rx d Γ => ∀ v σ, Lo X.K B G H σ Γ → d.rep X.K G v → D.rt v H
structure SV (X : Cx) (Γ : List Slot) (st : Stmt) (o : Out)  : Prop where
  run : ∀ B G H σ D, Same B H → Same G H → Lo X.K B G H σ Γ → (∀ G' H', Stp B G G' H' → Sat X B D G' H' o) → WS X st D σ H
instance {X : Cx} {Γ : List Slot} {st : Stmt} {o : Out}  : CoeFun (SV X Γ st o) (fun _ => ∀ B G H σ D, Same B H → Same G H → Lo X.K B G H σ Γ → (∀ G' H', Stp B G G' H' → Sat X B D G' H' o) → WS X st D σ H) := ⟨SV.run⟩
structure BV (X : Cx) (Γ : List Slot) (sts : List Stmt) (o : Out)  : Prop where
  run : ∀ B G H σ D, Same B H → Same G H → Lo X.K B G H σ Γ → (∀ G' H', Stp B G G' H' → Sat X B D G' H' o) → WSs X sts D σ H
instance {X : Cx} {Γ : List Slot} {sts : List Stmt} {o : Out}  : CoeFun (BV X Γ sts o) (fun _ => ∀ B G H σ D, Same B H → Same G H → Lo X.K B G H σ Γ → (∀ G' H', Stp B G G' H' → Sat X B D G' H' o) → WSs X sts D σ H) := ⟨BV.run⟩
def Out.exits : Out → Prop
  | .nx _ => False
  | _ => True
section
variable {X : Cx} {Γ Γ' : List Slot} {st : Stmt} {sts rest : List Stmt} {a b c e tg iter : Expr} {es : List Expr} {pos : Pos} {o : Out}
theorem BV.is {o' : Out} (h : BV X Γ sts o) (q : o = o') : BV X Γ sts o' := q ▸ h
theorem SV.is {o' : Out} (h : SV X Γ st o) (q : o = o') : SV X Γ st o' := q ▸ h
theorem BV.rt {α : Type} [Rp α] {x y : α} (h : BV X Γ sts (.rt (dt x))) (q : x = y) : BV X Γ sts (.rt (dt y)) := q ▸ h
theorem BV.sub (h : BV X Γ' sts o) (q : Sb Γ Γ') : BV X Γ sts o := ⟨fun B G H σ D hB hg l k => h B G H σ D hB hg (l.sub q) k⟩
theorem BV.nxs {Γ2 : List Slot} (h : BV X Γ sts (.nx Γ')) (q : Sb Γ' Γ2) : BV X Γ sts (.nx Γ2) := ⟨fun B G H σ D hB hg l k => h B G H σ D hB hg l fun G' H' g σ' l' => k G' H' g σ' (l'.sub q)⟩
theorem SV.nxs {Γ2 : List Slot} (h : SV X Γ st (.nx Γ')) (q : Sb Γ' Γ2) : SV X Γ st (.nx Γ2) := ⟨fun B G H σ D hB hg l k => h B G H σ D hB hg l fun G' H' g σ' l' => k G' H' g σ' (l'.sub q)⟩
theorem bv_nil : BV X Γ [] (.nx Γ) := ⟨fun B G H σ D hB hg l k => wss pss_nil (k G H (Stp.refl hB hg) σ l)⟩
theorem bv_cons (h : SV X Γ st (.nx Γ')) (hr : BV X Γ' sts o) : BV X Γ (st :: sts) o := ⟨fun B G H σ D hB hg l k =>
  wss (pss_cons ps pss) (h B G H σ { D with nx := WSs X sts D } hB hg l fun G1 H1 g1 σ1 l1 => hr B G1 H1 σ1 D g1.b g1.gh l1 fun G2 H2 g2 => k G2 H2 (g1.trans g2))⟩
theorem bv_one (h : SV X Γ st o) : BV X Γ [st] o := ⟨fun B G H σ D hB hg l k => wss (pss_one ps) (h B G H σ D hB hg l k)⟩
/-- a statement that leaves -/
theorem bv_out (h : SV X Γ st o) (ho : o.exits) : BV X Γ (st :: sts) o := ⟨fun B G H σ D hB hg l k =>
  wss (pss_cons ps pss) (h B G H σ { D with nx := WSs X sts D } hB hg l fun G1 H1 g1 => by
    cases o with
    | nx _ => exact ho.elim
    | rt d => exact k G1 H1 g1
    | ro d => exact k G1 H1 g1
    | ex c Γ => exact k G1 H1 g1
    | rx _ _ => exact k G1 H1 g1)⟩
theorem sv_pass : SV X Γ (.Pass pos) (.nx Γ) := ⟨fun B G H σ D hB hg l k => ws ps_pass (k G H (Stp.refl hB hg) σ l)⟩
theorem sv_ret {α : Type} [Rp α] {x : α} (h : EV X Γ e x) : SV X Γ (.Return (some e) pos) (.rt (dt x)) := ⟨fun B G H σ D hB hg l k =>
  ws (ps_ret pe) (h B G H σ hB hg l _ fun v G1 H1 g1 r1 => k G1 H1 (g1.step hB) v r1)⟩
theorem bv_ret {α : Type} [Rp α] {x : α} (h : EV X Γ e x) : BV X Γ (.Return (some e) pos :: sts) (.rt (dt x)) := bv_out (sv_ret h) trivial
/-- name = e -/
theorem sv_set (i : Nat) {α : Type} [Rp α] {x : α} {nm : Str} {pos' : Pos} (hN : X.N.Nodup) (h : EV X Γ e x) (hi : X.N[i]? = some nm := by rfl) (hx : L2.Loc X.env.scope nm := by first | exact Or.inl rfl | exact Or.inr rfl)
    (hs : swapsWith e (some (.Name nm pos')) pos.line X.env = pure false := by rfl) (hf : X.fn nm = true ∨ X.env.scope.names.lookup nm = some .local := by first | exact .inl rfl | exact .inr rfl) : SV X Γ (.Assign [.Name nm pos'] e pos) (.nx (Γ.set i (.v x))) := ⟨fun B G H σ D hB hg l k =>
  ws (ps_set hN hi hx pe hs hf) (h B G H σ hB hg l _ fun v G1 H1 g1 r1 => k G1 H1 (g1.step hB) _ ((l.grow g1).set (d := dt x) r1))⟩
/-- name = a new object of one's own -/
theorem sv_own (i : Nat) {τ : Type} [Ow τ] {x : τ} {nm : Str} {pos' : Pos} (hN : X.N.Nodup) (h : EN X Γ e x) (hi : X.N[i]? = some nm := by rfl) (hx : L2.Loc X.env.scope nm := by first | exact Or.inl rfl | exact Or.inr rfl)
    (hs : swapsWith e (some (.Name nm pos')) pos.line X.env = pure false := by rfl) (hf : X.fn nm = true ∨ X.env.scope.names.lookup nm = some .local := by first | exact .inl rfl | exact .inr rfl) : SV X Γ (.Assign [.Name nm pos'] e pos) (.nx (Γ.set i (.o x))) := ⟨fun B G H σ D hB hg l k =>
  ws (ps_set hN hi hx pe hs hf) (h B G H σ hB hg l _ fun v fp G1 H1 g1 hfp ok => k G1 H1 (g1.step hB) _ (l.setOwn (d := ot x) hB g1 hfp ok))⟩
/-- name op= e -/
theorem sv_aug (i : Nat) {x y z : Int} {nm : Str} {pos' : Pos} {op : Operator} {f : Int → Int → Int} (hN : X.N.Nodup) (ho : PIp X op (ipI f)) (h0 : Γ[i]? = some (.v x)) (h : EV X Γ e y) (hz : f x y = z := by rfl) (hi : X.N[i]? = some nm := by rfl) (hx : L2.Loc X.env.scope nm := by first | exact Or.inl rfl | exact Or.inr rfl)
    (hf : X.fn nm = true ∨ X.env.scope.names.lookup nm = some .local := by first | exact .inl rfl | exact .inr rfl) : SV X Γ (.AugAssign (.Name nm pos') op e pos) (.nx (Γ.set i (.v z))) := ⟨fun B G H σ D hB hg l k => by
  obtain ⟨v, e1, r⟩ := l.val h0
  have r' : v = V.int x := r
  subst r'
  refine ws (ps_aug hN hi hx pe ho hf) ⟨.int x, e1, h B G H σ hB hg l _ fun u G1 H1 g1 r1 => ⟨x, y, rfl, r1, ?_⟩⟩
  subst hz
  exact k G1 H1 (g1.step hB) _ ((l.grow g1).set (d := dt (f x y)) rfl)⟩
/-- an expression alone -/
theorem sv_drop {α : Type} [Rp α] {x : α} (h : EV X Γ e x) (hs : swapsWith e none pos.line X.env = pure false := by rfl) : SV X Γ (.Expr e pos) (.nx Γ) := ⟨fun B G H σ D hB hg l k =>
  ws (ps_expr pe hs) (h B G H σ hB hg l _ fun v G1 H1 g1 r1 => k G1 H1 (g1.step hB) σ (l.grow g1))⟩
/-- xs.append(e); hp by pe_bm PySem.F.plainAttrs_list PySem.F.slot_list_append PySem.F.type_list_append mt_append (pv i) (pa_cons pe pa_nil) -/
theorem sv_app (i : Nat) {α : Type} [Rp α] {xs : List α} {x : α} {c e : Expr} (hp : PE X c (tBM X.K "list" rAppend (tVar i) (tCons (WE X e) tNil))) (h0 : Γ[i]? = some (.l xs)) (h : EV X Γ e x) (hz : xs.length < 10000000) (hs : swapsWith c none pos.line X.env = pure false := by rfl) :
    SV X Γ (.Expr c pos) (.nx (Γ.set i (.l (xs ++ [x])))) := ⟨fun B G H σ D hB hg l k => by
  obtain ⟨F, p, vs, lf, hF, e1, hbp, hgp, hh, r⟩ := ownL l h0
  refine ws (ps_expr hp hs) ⟨_, e1, .inl ⟨rfl, _, .inl (.inl hh)⟩, ?_⟩
  refine h B G H σ hB hg l _ fun v G1 H1 g1 r1 => ?_
  refine ⟨p, vs, v, rfl, rfl, g1.h _ _ hh, by rw [r.len]; exact Nat.lt_of_lt_of_le hz (by decide), ?_⟩
  have hgp1 := (g1.fr p _ hh).trans hgp
  exact k G1 _ ((g1.step hB).trans (Stp.mutL (hB.trans g1.h) g1.gh hbp hgp1)) σ ((lf.grow g1).mutL h0 hF e1 hbp hgp1 (paired_app (r.mono g1.g) (.cons r1 .nil)))⟩

/-! ### if -/
/-- both ways go on, Γ' behind -/
theorem sv_if {x : Bool} {els : List Stmt} {Γf : Bool → List Slot} (h : ET X Γ c x) (h1 : x = true → BV X Γ sts (.nx (Γf true))) (h2 : x = false → BV X Γ els (.nx (Γf false))) : SV X Γ (.If c sts els pos) (.nx (Γf x)) := ⟨fun B G H σ D hB hg l k =>
  ws (ps_if pt pss pss) (h B G H σ hB hg l _ fun G1 H1 g1 => by
    cases x with
    | true => exact h1 rfl B G1 H1 σ D (hB.trans g1.h) g1.gh (l.grow g1) fun G2 H2 g2 => k G2 H2 ((g1.step hB).trans g2)
    | false => exact h2 rfl B G1 H1 σ D (hB.trans g1.h) g1.gh (l.grow g1) fun G2 H2 g2 => k G2 H2 ((g1.step hB).trans g2))⟩
/-- an if and the rest, told way by way -/
theorem bv_if {x : Bool} {els : List Stmt} {of : Bool → Out} (h : ET X Γ c x) (h1 : x = true → BV X Γ sts (of true)) (e1 : (of true).exits) (h2 : x = false → BV X Γ (rest) (of false)) (he : els = [] := by rfl) : BV X Γ (.If c sts els pos :: rest) (of x) := ⟨fun B G H σ D hB hg l k =>
  wss (pss_cons (ps_if pt pss pss) pss) (h B G H σ hB hg l _ fun G1 H1 g1 => by
    subst he
    cases x with
    | true =>
      show WSs X sts { D with nx := WSs X rest D } σ H1
      refine h1 rfl B G1 H1 σ _ (hB.trans g1.h) g1.gh (l.grow g1) fun G2 H2 g2 => ?_
      have q := k G2 H2 ((g1.step hB).trans g2)
      generalize hof : of true = o at *
      cases o with
      | nx _ => exact e1.elim
      | rt d => exact q
      | ro d => exact q
      | ex _ _ => exact q
      | rx _ _ => exact q
    | false =>
      show WSs X [] { D with nx := WSs X rest D } σ H1
      exact wss pss_nil (h2 rfl B G1 H1 σ D (hB.trans g1.h) g1.gh (l.grow g1) fun G2 H2 g2 => k G2 H2 ((g1.step hB).trans g2)))⟩
/-- the same for one outcome -/
theorem bv_ifo {x : Bool} (h : ET X Γ c x) (h1 : x = true → BV X Γ sts o) (e1 : o.exits) (h2 : x = false → BV X Γ rest o) : BV X Γ (.If c sts [] pos :: rest) o := bv_if (of := fun _ => o) h h1 e1 h2
/-- an if whose ways go on apart, to one outcome (the rest is shown for each) -/
theorem bv_if2 {x : Bool} {els : List Stmt} {Γ1 Γ2 : List Slot} (h : ET X Γ c x) (h1 : x = true → BV X Γ sts (.nx Γ1) ∧ BV X Γ1 rest o) (h2 : x = false → BV X Γ els (.nx Γ2) ∧ BV X Γ2 rest o) : BV X Γ (.If c sts els pos :: rest) o := ⟨fun B G H σ D hB hg l k =>
  wss (pss_cons (ps_if pt pss pss) pss) (h B G H σ hB hg l _ fun G1 H1 g1 => by
    cases x with
    | true =>
      obtain ⟨q1, q2⟩ := h1 rfl
      exact q1 B G1 H1 σ { D with nx := WSs X rest D } (hB.trans g1.h) g1.gh (l.grow g1) fun G2 H2 g2 σ2 l2 => q2 B G2 H2 σ2 D g2.b g2.gh l2 fun G3 H3 g3 => k G3 H3 (((g1.step hB).trans g2).trans g3)
    | false =>
      obtain ⟨q1, q2⟩ := h2 rfl
      exact q1 B G1 H1 σ { D with nx := WSs X rest D } (hB.trans g1.h) g1.gh (l.grow g1) fun G2 H2 g2 σ2 l2 => q2 B G2 H2 σ2 D g2.b g2.gh l2 fun G3 H3 g3 => k G3 H3 (((g1.step hB).trans g2).trans g3))⟩

/-! ### targets -/
/-- a value of x is bound -/
structure TV (X : Cx) (Γ : List Slot) (tg : Expr) {α : Type} [Rp α] (x : α) (Γ' : List Slot)  : Prop where
  run : ∀ (B G H : Hp) (σ : L2.St) (v : V), Same B H → Same G H → Lo X.K B G H σ Γ → Rp.rep X.K G v x → ∀ Q : L2.St → Hp → Prop, (∀ σ', Lo X.K B G H σ' Γ' → Q σ' H) → WG X tg v σ H Q
instance {X : Cx} {Γ : List Slot} {tg : Expr} {α : Type} [Rp α] {x : α} {Γ' : List Slot}  : CoeFun (TV X Γ tg x Γ') (fun _ => ∀ (B G H : Hp) (σ : L2.St) (v : V), Same B H → Same G H → Lo X.K B G H σ Γ → Rp.rep X.K G v x → ∀ Q : L2.St → Hp → Prop, (∀ σ', Lo X.K B G H σ' Γ' → Q σ' H) → WG X tg v σ H Q) := ⟨TV.run⟩
theorem tv_name (i : Nat) {α : Type} [Rp α] {x : α} {nm : Str} (hN : X.N.Nodup) (hi : X.N[i]? = some nm := by rfl) (hx : L2.Loc X.env.scope nm := by first | exact Or.inl rfl | exact Or.inr rfl) (hf : X.fn nm = true ∨ X.env.scope.names.lookup nm = some .local := by first | exact .inl rfl | exact .inr rfl) :
    TV X Γ (.Name nm pos) x (Γ.set i (.v x)) := ⟨fun B G H σ v hB hg l r Q q => wg (pg_name hN hi hx hf) (q _ (l.set (d := dt x) r))⟩
/-- several targets, one after another -/
structure TVs (X : Cx) (Γ : List Slot) (ts : List Expr) (ds : List Dat) (Γ' : List Slot)  : Prop where
  run : ∀ (B G H : Hp) (σ : L2.St) (vs : List V), Same B H → Same G H → Lo X.K B G H σ Γ → DatsOk X.K G vs ds → ∀ Q : L2.St → Hp → Prop, (∀ σ', Lo X.K B G H σ' Γ' → Q σ' H) → ∀ (pins : List (Addr × Obj)) (s : Shared) (us : List Value), Inv X pins σ H s → Vals vs us →
    wpAny (model X.prog X.w) X.A (assignInOrder ((assignEach ts X.env).map (·.2)) us) (fun _ s' => ∃ σ' H', Inv X pins σ' H' s' ∧ Q σ' H') X.xe s
instance {X : Cx} {Γ : List Slot} {ts : List Expr} {ds : List Dat} {Γ' : List Slot}  : CoeFun (TVs X Γ ts ds Γ') (fun _ => ∀ (B G H : Hp) (σ : L2.St) (vs : List V), Same B H → Same G H → Lo X.K B G H σ Γ → DatsOk X.K G vs ds → ∀ Q : L2.St → Hp → Prop, (∀ σ', Lo X.K B G H σ' Γ' → Q σ' H) → ∀ (pins : List (Addr × Obj)) (s : Shared) (us : List Value), Inv X pins σ H s → Vals vs us →
    wpAny (model X.prog X.w) X.A (assignInOrder ((assignEach ts X.env).map (·.2)) us) (fun _ s' => ∃ σ' H', Inv X pins σ' H' s' ∧ Q σ' H') X.xe s) := ⟨TVs.run⟩
theorem tvs_nil : TVs X Γ [] [] Γ := ⟨fun B G H σ vs hB hg l r Q q pins s us I rv => by
  cases r
  cases rv
  exact assignInOrder_nil ⟨σ, H, I, q σ l⟩⟩
theorem tvs_cons {α : Type} [Rp α] {x : α} {ds : List Dat} {Γ2 : List Slot} (h : TV X Γ e x Γ') (hr : TVs X Γ' es ds Γ2) (hs : (assignEach (e :: es) X.env).map (·.2) = assign e X.env :: (assignEach es X.env).map (·.2) := by rfl) : TVs X Γ (e :: es) (dt x :: ds) Γ2 := ⟨fun B G H σ vs hB hg l r Q q pins s us I rv => by
  cases r with
  | cons r1 r2 =>
    cases rv with
    | cons q1 q2 =>
      rw [hs]
      refine assignInOrder_cons (thn (h B G H σ _ hB hg l r1 (fun σ1 H1 => H1 = H ∧ Lo X.K B G H σ1 Γ') (fun σ1 l1 => ⟨rfl, l1⟩) pins s _ I q1) fun _ s1 ⟨σ1, H1, I1, eH, l1⟩ => ?_)
      subst eH
      exact hr B G _ σ1 _ hB hg l1 r2 Q q pins s1 _ I1 q2⟩
/-- what a tuple's parts are -/
class TPs (τ : Type) [Rp τ] where
  parts : τ → List Dat
  ok : ∀ {K G v x}, Rp.rep K G v x → ∃ p vs, v = V.ref p ∧ SqT K G p vs ∧ DatsOk K G vs (parts x)
instance {α : Type} [Rp α] : TPs (T1 α) := ⟨fun x => [dt x.a], fun h => by obtain ⟨p, v1, h0, hs, h1⟩ := h; exact ⟨p, _, h0, hs, .cons h1 .nil⟩⟩
instance {α β : Type} [Rp α] [Rp β] : TPs (T2 α β) := ⟨fun x => [dt x.a, dt x.b], fun h => by obtain ⟨p, v1, v2, h0, hs, h1, h2⟩ := h; exact ⟨p, _, h0, hs, .cons h1 (.cons h2 .nil)⟩⟩
instance {α β γ : Type} [Rp α] [Rp β] [Rp γ] : TPs (T3 α β γ) := ⟨fun x => [dt x.a, dt x.b, dt x.c], fun h => by obtain ⟨p, v1, v2, v3, h0, hs, h1, h2, h3⟩ := h; exact ⟨p, _, h0, hs, .cons h1 (.cons h2 (.cons h3 .nil))⟩⟩
instance {α β γ δ : Type} [Rp α] [Rp β] [Rp γ] [Rp δ] : TPs (T4 α β γ δ) := ⟨fun x => [dt x.a, dt x.b, dt x.c, dt x.d], fun h => by obtain ⟨p, v1, v2, v3, v4, h0, hs, h1, h2, h3, h4⟩ := h; exact ⟨p, _, h0, hs, .cons h1 (.cons h2 (.cons h3 (.cons h4 .nil)))⟩⟩
instance {α β γ δ ε : Type} [Rp α] [Rp β] [Rp γ] [Rp δ] [Rp ε] : TPs (T5 α β γ δ ε) := ⟨fun x => [dt x.a, dt x.b, dt x.c, dt x.d, dt x.e], fun h => by obtain ⟨p, v1, v2, v3, v4, v5, h0, hs, h1, h2, h3, h4, h5⟩ := h; exact ⟨p, _, h0, hs, .cons h1 (.cons h2 (.cons h3 (.cons h4 (.cons h5 .nil))))⟩⟩
theorem tv_tup {τ : Type} [Rp τ] [TPs τ] {x : τ} {k : Nat} (h : TVs X Γ es (TPs.parts x) Γ') (hc : X.calm = true := by rfl) (hn : (assignEach es X.env).length = (TPs.parts x).length := by rfl) (hst : (assignEach es X.env).findIdx? (·.1) = none := by rfl) : TV X Γ (.Tuple es k pos) x Γ' := ⟨fun B G H σ v hB hg l r Q q => by
  obtain ⟨p, vs, e, hs, rs⟩ := TPs.ok r
  subst e
  have hp : PGs X es (fun us σ2 H2 Q2 => us = vs ∧ σ2 = σ ∧ H2 = H ∧ ∀ σ', Lo X.K B G H σ' Γ' → Q2 σ' H) := ⟨fun pins s σ2 H2 us2 us Q2 I rv h2 => by
    obtain ⟨e1, e2, e3, q2⟩ := h2
    subst e1 e2 e3
    exact h B G _ _ _ hB hg l rs Q2 q2 pins s us I rv⟩
  exact wg (pg_tup hc hp hn hst) ⟨p, vs, rfl, seqT hg hs, rs.len, rfl, rfl, rfl, q⟩⟩
/-- target = e, a tuple's parts into names -/
theorem sv_asg {α : Type} [Rp α] {x : α} (h : EV X Γ e x) (ht : TV X Γ tg x Γ') (hs : swapsWithSole [tg] e pos.line X.env = pure false := by rfl) (hw : swappedStores [tg] e X.env = pure none := by rfl)
    (h1 : (assignEach [tg] X.env).map (·.2) = [assign tg X.env] := by rfl) : SV X Γ (.Assign [tg] e pos) (.nx Γ') := ⟨fun B G H σ D hB hg l k =>
  ws (ps_asg pe pg hs hw h1) (h B G H σ hB hg l _ fun v G1 H1 g1 r1 => ht B G1 H1 σ v (hB.trans g1.h) g1.gh (l.grow g1) r1 _ fun σ' l' => k G1 H1 (g1.step hB) σ' l')⟩

/-! ### what is walked -/
/-- the iterator gives xs, while what is known in G1 stands -/
def Iters {α : Type} [Rp α] (K : PySem.W.Frag) (J : It) (G1 : Hp) (xs : List α) : Prop :=
  (∀ i G2 H2, Same G1 G2 → Same G2 H2 → i < xs.length → J.go i H2 ∧ ∀ v H3, J.yld i H2 v H3 → ∃ G3 x, Grow G2 H2 G3 H3 ∧ xs[i]? = some x ∧ Rp.rep K G3 v x) ∧ ∀ G2 H2, Same G1 G2 → Same G2 H2 → J.stop xs.length H2
structure IV (X : Cx) (Γ : List Slot) (tg iter : Expr) {α : Type} [Rp α] (xs : List α)  : Prop where
  run : ∀ (B G H : Hp) (σ : L2.St), Same B H → Same G H → Lo X.K B G H σ Γ → ∀ R : It → Hp → Prop, (∀ J G1 H1, Grow G H G1 H1 → Iters X.K J G1 xs → R J H1) → WI X tg iter σ H R
instance {X : Cx} {Γ : List Slot} {tg iter : Expr} {α : Type} [Rp α] {xs : List α}  : CoeFun (IV X Γ tg iter xs) (fun _ => ∀ (B G H : Hp) (σ : L2.St), Same B H → Same G H → Lo X.K B G H σ Γ → ∀ R : It → Hp → Prop, (∀ J G1 H1, Grow G H G1 H1 → Iters X.K J G1 xs → R J H1) → WI X tg iter σ H R) := ⟨IV.run⟩
theorem iters_list {α : Type} [Rp α] {K : PySem.W.Frag} {G : Hp} {p : Addr} {vs : List V} {xs : List α} (hs : SqL K G p vs) (r : Reps K G vs xs) : Iters K (Itl K p) G xs := by
  refine ⟨fun i G2 H2 g h hi => ?_, fun G2 H2 g h => ⟨vs, Same.seq (g.trans h) hs, by rw [r.len]; exact Nat.le_refl _⟩⟩
  obtain ⟨v, hv, rv⟩ := paired_get2 r i xs[i] (List.getElem?_eq_getElem hi)
  refine ⟨⟨vs, v, Same.seq (g.trans h) hs, hv⟩, fun u H3 hy => ?_⟩
  obtain ⟨e, hy⟩ := hy
  subst e
  have e2 := hy vs (Same.seq (g.trans h) hs)
  rw [hv] at e2
  cases e2
  exact ⟨G2, xs[i], Grow.refl h, List.getElem?_eq_getElem hi, Rp.mono g rv⟩
theorem iv_list {α : Type} [Rp α] {xs : List α} (h : EV X Γ iter xs) : IV X Γ tg iter xs := ⟨fun B G H σ hB hg l R q =>
  wi (pi_list pe) (h B G H σ hB hg l _ fun v G1 H1 g1 r1 => by
    obtain ⟨p, vs, e, hs, r⟩ := r1
    exact ⟨p, e, ⟨vs, Same.seq g1.gh hs⟩, q _ G1 H1 g1 (iters_list hs r)⟩)⟩
/-- lo, lo + 1, .., n of them -/
def iseq (lo : Int) (n : Nat) : List Int := (List.range n).map fun (i : Nat) => lo + (i : Int)
theorem iseq_len (lo : Int) (n : Nat) : (iseq lo n).length = n := by simp [iseq]
theorem iseq_get {lo : Int} {n i : Nat} (h : i < n) : (iseq lo n)[i]? = some (lo + (i : Int)) := by simp [iseq, h]
theorem iters_range {K : PySem.W.Frag} {G : Hp} {lo : Int} {n : Nat} : Iters K (Itr lo n) G (iseq lo n) := by
  refine ⟨fun i G2 H2 g h hi => ?_, fun G2 H2 g h => by rw [iseq_len]; exact Nat.le_refl _⟩
  rw [iseq_len] at hi
  refine ⟨hi, fun v H3 hy => ?_⟩
  obtain ⟨e1, e2⟩ := hy
  subst e1 e2
  exact ⟨G2, _, Grow.refl h, iseq_get hi, rfl⟩
theorem iv_range1 {p : Pos} {n : Int} (hm : X.mg "range" = none) (h : EV X Γ a n) (hb : n < 2 ^ 62) (hb2 : -(2 ^ 62) ≤ n) (hg : Gl X "range" := by rfl) (hs : starEach [a] X.env = [(false, eval a X.env)] := by rfl) (hs1 : starEach [a] X.env = (false, eval a X.env) :: starEach [] X.env := by rfl) : IV X Γ tg (.Call (.Name "range" p) [a] [] pos) (iseq 0 n.toNat) := ⟨fun B G H σ hB hgh l R q =>
  wi (pi_range1 hg hm pa hs) (ea_cons h ea_nil hs1 B G H σ hB hgh l _ fun vs G1 H1 g1 r1 => by
    cases r1 with | cons r1 t => cases t; exact ⟨n, by rw [show _ = V.int n from r1], hb2, hb, q _ G1 H1 g1 iters_range⟩)⟩
theorem iv_range2 {p : Pos} {m n : Int} (hm : X.mg "range" = none) (h : EV X Γ a m) (h2 : EV X Γ b n) (hb : -(2 ^ 62) ≤ m ∧ m < 2 ^ 62 ∧ -(2 ^ 62) ≤ n ∧ n < 2 ^ 62) (hg : Gl X "range" := by rfl) (hs : starEach [a, b] X.env = [(false, eval a X.env), (false, eval b X.env)] := by rfl) (hs2 : starEach [b] X.env = [(false, eval b X.env)] := by rfl)
    (hs3 : starEach [a, b] X.env = (false, eval a X.env) :: starEach [b] X.env := by rfl) (hs4 : starEach [b] X.env = (false, eval b X.env) :: starEach [] X.env := by rfl) : IV X Γ tg (.Call (.Name "range" p) [a, b] [] pos) (iseq m (n - m).toNat) := ⟨fun B G H σ hB hgh l R q =>
  wi (pi_range2 hg hm pa hs hs2) (ea_cons h (ea_cons h2 ea_nil hs4) hs3 B G H σ hB hgh l _ fun vs G1 H1 g1 r1 => by
    cases r1 with | cons r1 t => cases t with | cons r2 t => cases t; exact ⟨m, n, by rw [show _ = V.int m from r1, show _ = V.int n from r2], hb, q _ G1 H1 g1 iters_range⟩)⟩

/-! ### for -/
/-- the end of a loop: it goes on with s, or it hands back r -/
inductive LR (τ ρ : Type) where
  | go (s : τ)
  | re (r : ρ)
def runL {τ α ρ : Type} (f : τ → α → LR τ ρ) : τ → List α → LR τ ρ
  | s, [] => .go s
  | s, x :: r => match f s x with
    | .go s' => runL f s' r
    | .re y => .re y
def LR.out {τ ρ : Type} [Rp ρ] (Env : τ → List Slot) : LR τ ρ → Out
  | .go s => .nx (Env s)
  | .re r => .rt (dt r)
theorem runL_app {τ α ρ : Type} (f : τ → α → LR τ ρ) : ∀ (s : τ) (xs ys : List α), runL f s (xs ++ ys) = match runL f s xs with
    | .go s' => runL f s' ys
    | .re y => .re y
  | s, [], ys => rfl
  | s, x :: r, ys => by
    show (match f s x with | .go s' => runL f s' (r ++ ys) | .re y => .re y) = _
    show _ = match (match f s x with | .go s' => runL f s' r | .re y => .re y) with | .go s' => runL f s' ys | .re y => .re y
    cases f s x with
    | go s' => exact runL_app f s' r ys
    | re y => rfl
theorem runL_go {τ α ρ : Type} (f : τ → α → τ) : ∀ (s : τ) (xs : List α), runL (ρ := ρ) (fun s x => .go (f s x)) s xs = .go (xs.foldl f s)
  | s, [] => rfl
  | s, x :: r => runL_go f (f s x) r
/-- for: with state s the slots are Env s; a turn upon x binds it (Γ1), the body comes to f s x -/
theorem sv_forL {α τ ρ : Type} [Rp α] [Rp ρ] {xs : List α} {body : List Stmt} (Env : τ → List Slot) (s0 : τ) (f : τ → α → LR τ ρ) (h : IV X Γ tg iter xs) (h0 : Sb Γ (Env s0)) (Γ1 : τ → α → List Slot) (ht : ∀ s x, TV X (Env s) tg x (Γ1 s x))
    (hb : ∀ pre x post s, xs = pre ++ x :: post → runL f s0 pre = .go s → BV X (Γ1 s x) body (LR.out Env (f s x))) (hp : PassesOwn (model X.prog X.w) X.A X.env X.xe) (hc : X.calm = true := by rfl) (hs : ∀ x, foldedSetIterable iter X.env x = pure x := by intro _; rfl) (ho : LR.out Env (runL f s0 xs) = o := by exact rfl) :
    SV X Γ (.For tg iter body [] pos) o := ⟨fun B G H σ D hB hg l k => by
  subst ho
  refine ws (ps_for hp hc pi pg pss hs) (h B G H σ hB hg l _ fun J G1 H1 g1 hJ => ?_)
  have st1 := g1.step hB
  refine ⟨fun i m σ' H' => m = xs.length - i ∧ i ≤ xs.length ∧ ∃ s G', runL f s0 (xs.take i) = .go s ∧ Stp B G1 G' H' ∧ Lo X.K B G' H' σ' (Env s), ⟨xs.length, by simp, Nat.zero_le _, s0, G1, rfl, Stp.refl st1.b g1.gh, (l.grow g1).sub h0⟩, ?_⟩
  rintro i m σ' H' ⟨rfl, hi, s, G', e, st, lo⟩
  by_cases hlt : i < xs.length
  · obtain ⟨hgo, hy⟩ := hJ.1 i G' H' st.g st.gh hlt
    refine .inr ⟨hgo, fun σ2 H2 => ∃ s2 G2, runL f s0 (xs.take (i + 1)) = .go s2 ∧ Stp B G1 G2 H2 ∧ Lo X.K B G2 H2 σ2 (Env s2), fun σ2 H2 ⟨s2, G2, e2, st2, lo2⟩ => ⟨xs.length - (i + 1), by omega, rfl, hlt, s2, G2, e2, st2, lo2⟩, fun v H3 hv => ?_⟩
    obtain ⟨G3, x, g3, hx, rx⟩ := hy v H3 hv
    have st3 := st.trans (g3.step st.b)
    have ex : xs = xs.take i ++ x :: xs.drop (i + 1) := by
      have h1 : xs[i] = x := by rw [List.getElem?_eq_getElem hlt] at hx; exact Option.some.inj hx
      rw [← h1, List.getElem_cons_drop, List.take_append_drop]
    refine ht s x B G3 H3 σ' v st3.b st3.gh (lo.grow g3) rx _ fun σ4 l4 => ?_
    refine hb _ x _ s ex e B G3 H3 σ4 _ st3.b st3.gh l4 fun G5 H5 st5 => ?_
    have et : xs.take (i + 1) = xs.take i ++ [x] := by
      rw [List.take_add_one, hx]; rfl
    have e2 : runL f s0 (xs.take (i + 1)) = f s x := by
      rw [et, runL_app, e]
      show (match f s x with | .go s' => runL f s' [] | .re y => .re y) = f s x
      cases f s x <;> rfl
    cases hf : f s x with
    | go s2 =>
      intro σ6 l6
      rw [hf] at e2
      exact ⟨s2, G5, e2, st3.trans st5, l6⟩
    | re r =>
      intro v6 r6
      rw [hf] at e2
      have e3 : runL f s0 xs = .re r := by
        conv => lhs; rw [← List.take_append_drop (i + 1) xs]
        rw [runL_app, e2]
      have q := k G5 H5 ((st1.trans st3).trans st5)
      rw [e3] at q
      exact q v6 r6
  · have ei : i = xs.length := by omega
    subst ei
    rw [List.take_length] at e
    refine .inl ⟨hJ.2 G' H' st.g st.gh, ?_⟩
    have q := k G' H' (st1.trans st)
    rw [e] at q
    exact q σ' lo⟩
/-- for without a return -/
theorem sv_for {α τ : Type} [Rp α] {xs : List α} {body : List Stmt} (Env : τ → List Slot) (s0 : τ) (f : τ → α → τ) (h : IV X Γ tg iter xs) (h0 : Sb Γ (Env s0)) (Γ1 : τ → α → List Slot) (ht : ∀ s x, TV X (Env s) tg x (Γ1 s x))
    (hb : ∀ pre x post s, xs = pre ++ x :: post → pre.foldl f s0 = s → BV X (Γ1 s x) body (.nx (Env (f s x)))) (hp : PassesOwn (model X.prog X.w) X.A X.env X.xe) (hc : X.calm = true := by rfl) (hs : ∀ x, foldedSetIterable iter X.env x = pure x := by intro _; rfl) (ho : .nx (Env (xs.foldl f s0)) = o := by exact rfl) :
    SV X Γ (.For tg iter body [] pos) o := by
  subst ho
  have q := sv_forL (ρ := Int) (pos := pos) Env s0 (fun s x => .go (f s x)) h h0 Γ1 ht (fun pre x post s e1 e2 => hb pre x post s e1 (by rw [runL_go] at e2; exact LR.go.inj e2)) hp hc hs
  rw [runL_go] at q
  exact q

/-! ### a def's promise -/
/-- the arguments' slots -/
def slots (ds : List Dat) (n : Nat) : List Slot := ds.map Slot.val ++ List.replicate (n - ds.length) .any
theorem dats_get {K : PySem.W.Frag} {G : Hp} : ∀ {vs : List V} {ds : List Dat}, DatsOk K G vs ds → ∀ (i : Nat) (d : Dat), ds[i]? = some d → ∃ v, vs[i]? = some v ∧ d.rep K G v
  | _, _, .nil, i, d, e => by simp at e
  | _, _, .cons r1 t, 0, d, e => by simp at e; subst e; exact ⟨_, by simp, r1⟩
  | _, _, .cons r1 t, n + 1, d, e => by
    obtain ⟨v, h1, h2⟩ := dats_get t n d (by simpa using e)
    exact ⟨v, by simpa using h1, h2⟩
theorem lo_start {K : PySem.W.Frag} {G H : Hp} {N : List Str} {vs : List V} {ds : List Dat} (r : DatsOk K G vs ds) : Lo K H G H (L2.start N vs) (slots ds N.length) := by
  have hl := r.len
  have noown : ∀ (i : Nat) (s : Slot), (slots ds N.length)[i]? = some s → s.isOwn = false := fun i s e => by
    unfold slots at e
    by_cases h1 : i < ds.length
    · rw [List.getElem?_append_left (by simpa using h1)] at e
      simp only [List.getElem?_map, Option.map_eq_some_iff] at e
      obtain ⟨d, _, e⟩ := e
      subst e
      rfl
    · rw [List.getElem?_append_right (by simpa using h1)] at e
      simp only [List.getElem?_replicate] at e
      split at e
      · cases e; rfl
      · cases e
  refine ⟨fun _ => [], by simp [L2.start, slots, hl], fun i s e => ?_, fun i j s t _ hi _ hs _ => by rw [noown i s hi] at hs; cases hs⟩
  unfold slots at e
  unfold L2.start
  by_cases hi : i < ds.length
  · rw [List.getElem?_append_left (by simpa using hi)] at e
    rw [List.getElem?_append_left (by simpa [hl] using hi)]
    simp only [List.getElem?_map, Option.map_eq_some_iff] at e
    obtain ⟨d, hd, e⟩ := e
    subst e
    obtain ⟨v, hv, rv⟩ := dats_get r i d hd
    exact ⟨some v, by simp [hv], v, rfl, rv⟩
  · rw [List.getElem?_append_right (by simpa using hi)] at e
    rw [List.getElem?_append_right (by simpa [hl] using hi)]
    simp only [List.getElem?_replicate, List.length_map] at e
    split at e
    · rename_i h2
      cases e
      refine ⟨none, ?_, trivial⟩
      simp only [List.getElem?_replicate, List.length_map]
      rw [if_pos (by omega)]
    · cases e
end
section
variable {P : Program} {w : World} {K : PySem.W.Frag} {mg : Str → Option Value} {base : Heap}
/-- THE RULE: a def that raises nothing, by what its body comes to -/
theorem fn_pure {x qual : Str} {st : Stmt} {f : Addr} {fd : FuncData} {N ps : List Str} {k : Nat} {R : List Dat → Dat → Prop} (F : Fun K x qual st f fd) (S : FnScope N ps (defScope st)) (len : ∀ ds d, R ds d → ds.length = ps.length)
    (body : ∀ (cdv : Value) (A : Around) (outer : List Env) (s : Shared) (H : Hp) (E : XK) (ds : List Dat) (d : Dat), Room k (A.deeper (envOfC qual (defScope st) s.heap.objs.size f cdv)) → R ds d →
      BV (cxOf CX0 P w K mg base N qual (defScope st) f cdv A outer s H E).nox (slots ds N.length) (defBody st) (.rt d)) : FnOk P w K mg base CX0 (k + 1) f fd ps (PSp K R) :=
  F.ok S (fun vs H Q E h => by
    obtain ⟨G, ds, d, _, r, hR, _⟩ := h
    rw [r.len]
    exact len ds d hR) (fun cdv A outer s H vs Q E hr h => by
    obtain ⟨G, ds, d, hg, r, hR, q⟩ := h
    exact ⟨_, pss, body cdv A outer s H E ds d hr hR H G H (L2.start N vs) _ (Same.refl _) hg (lo_start r) fun G' H' st v rv => q v G' H' ⟨st.g, st.b, st.gh, st.fr0⟩ rv⟩)
end
end Wl

set_option maxRecDepth 100000
set_option maxHeartbeats 2000000
namespace Wl
open PySem PySem.Spec PyProof.Rows L2
section
variable {X : Cx} {Γ Γ' : List Slot} {st : Stmt} {sts rest : List Stmt} {a b c e tg iter : Expr} {es : List Expr} {pos : Pos} {o : Out}
/-! ### a value gets a name -/
theorem bv_let {α : Type} [Rp α] {i : Nat} {x : α} {of : α → Out} (h : SV X Γ st (.nx (Γ.set i (.v x)))) (hr : ∀ y : α, y = x → BV X (Γ.set i (.v y)) rest (of y)) (ho : of x = o := by exact rfl) : BV X Γ (st :: rest) o := ho ▸ bv_cons h (hr x rfl)
/-- .. with a fact alone -/
theorem bv_gen {i : Nat} {α : Type} [Rp α] {x : α} (h : SV X Γ st (.nx (Γ.set i (.v x)))) (hr : ∀ y : α, y = x → BV X (Γ.set i (.v y)) rest o) : BV X Γ (st :: rest) o := bv_cons h (hr x rfl)

/-! ### one's own lists, known for good -/
theorem frz_same {G H : Hp} {p : Addr} {o : HO} (hg : Same G H) (hp : H p = some o) (hgp : G p = none) : Same (upd G p o) H := fun b u e => by
  by_cases hb : b = p
  · subst hb; rw [upd_same] at e; rw [← e]; exact hp
  · rw [upd_ne hb] at e; exact hg b u e
theorem same_upd {G : Hp} {p : Addr} {o : HO} (hgp : G p = none) : Same G (upd G p o) := fun b u e => by rw [upd_ne (ne_of_none e hgp)]; exact e
theorem LoF.frz {K : PySem.W.Frag} {B G H : Hp} {σ : L2.St} {F : Nat → List Addr} {i : Nat} {p : Addr} {vs : List V} {α : Type} [Rp α] {xs : List α} (l : LoF K B G H σ Γ F) (h : Γ[i]? = some (.l xs)) (hF : F i = [p]) (e1 : σ[i]? = some (some (.ref p))) (hgp : G p = none) (r : Reps K G vs xs) :
    Lo K B (upd G p (.lst vs)) H σ (Γ.set i (.v xs)) := by
  have hs : Same G (upd G p (.lst vs)) := same_upd hgp
  refine ⟨F, by simp [l.len], fun j s e => ?_, fun j k s t hjk hj hk hs' ht => ?_⟩
  · rcases set_get e with ⟨rfl, rfl, _⟩ | ⟨hij, e⟩
    · exact ⟨_, e1, .ref p, rfl, p, vs, rfl, SqL.of upd_same, r.mono hs⟩
    · obtain ⟨o, h1, h2⟩ := l.ok j s e
      refine ⟨o, h1, ?_⟩
      cases s with
      | any => trivial
      | val d => obtain ⟨v, e4, r4⟩ := h2; exact ⟨v, e4, Dat.mono hs r4⟩
      | own d =>
        obtain ⟨v, e4, hf, r4⟩ := h2
        refine ⟨v, e4, fun a ha => ?_, Odat.mono hs (fun _ _ => rfl) r4⟩
        obtain ⟨q1, q2, q3⟩ := hf a ha
        refine ⟨q1, ?_, q3⟩
        rw [upd_ne]
        · exact q2
        · intro z
          subst z
          exact l.sep i j _ _ hij h e rfl rfl a (by rw [hF]; simp) ha
  · rcases set_get hj with ⟨rfl, rfl, _⟩ | ⟨hij, hj⟩
    · cases hs'
    · rcases set_get hk with ⟨rfl, rfl, _⟩ | ⟨hik, hk⟩
      · cases ht
      · exact l.sep j k s t hjk hj hk hs' ht
/-- from here on the list at slot i is only read -/
theorem bv_frz (i : Nat) {α : Type} [Rp α] {xs : List α} (h : Γ[i]? = some (.l xs)) (hr : BV X (Γ.set i (.v xs)) sts o) : BV X Γ sts o := ⟨fun B G H σ D hB hg l k => by
  obtain ⟨F, p, vs, lf, hF, e1, hbp, hgp, hh, r⟩ := ownL l h
  refine hr B _ H σ D hB (frz_same hg hh hgp) (lf.frz h hF e1 hgp r) fun G' H' g => k G' H' ⟨g.b, (same_upd hgp).trans g.g, g.gh, fun b u e n => ?_⟩
  rw [g.fr b u e n, upd_ne (ne_of_none e hbp)]⟩
/-- data without objects -/
class Flat (α : Type) [Rp α] : Prop where
  any : ∀ {K : PySem.W.Frag} {G G' : Hp} {v : V} {x : α}, Rp.rep K G v x → Rp.rep K G' v x
instance : Flat Int := ⟨fun h => h⟩
instance : Flat Bool := ⟨fun h => h⟩
instance : Flat Str := ⟨fun h => h⟩
instance : Flat Unit := ⟨fun h => h⟩
instance {α : Type} [Rp α] [Flat α] : Flat (Option α) := ⟨fun {K G G' v x} h => by
  cases x with
  | none => exact h
  | some y => exact ⟨Flat.any h.1, h.2⟩⟩
/-- one's own list is read in an expression whose answer bears no object -/
theorem ev_frz (i : Nat) {α β : Type} [Rp α] [Rp β] [Flat β] {xs : List α} {y : β} (h : Γ[i]? = some (.l xs)) (hr : EV X (Γ.set i (.v xs)) e y) : EV X Γ e y := ⟨fun B G H σ hB hg l Q q => by
  obtain ⟨F, p, vs, lf, hF, e1, hbp, hgp, hh, r⟩ := ownL l h
  exact hr B _ H σ hB (frz_same hg hh hgp) (lf.frz h hF e1 hgp r) Q fun v G' H' g rv => q v G H' ⟨Same.refl _, g.h, hg.trans g.h, fun _ _ _ _ => rfl⟩ (Flat.any rv)⟩
theorem et_frz (i : Nat) {α : Type} [Rp α] {xs : List α} {y : Bool} (h : Γ[i]? = some (.l xs)) (hr : ET X (Γ.set i (.v xs)) e y) : ET X Γ e y := ⟨fun B G H σ hB hg l Q q => by
  obtain ⟨F, p, vs, lf, hF, e1, hbp, hgp, hh, r⟩ := ownL l h
  exact hr B _ H σ hB (frz_same hg hh hgp) (lf.frz h hF e1 hgp r) Q fun G' H' g => q G H' ⟨Same.refl _, g.h, hg.trans g.h, fun _ _ _ _ => rfl⟩⟩
/-- what is known of a value may be forgotten, a name's -/
theorem bv_forget (i : Nat) (hr : BV X (Γ.set i .any) sts o) : BV X Γ sts o := hr.sub (by
  have : ∀ (Γ : List Slot) (i : Nat), Sb Γ (Γ.set i .any) := by
    intro Γ
    induction Γ with
    | nil => intro i; exact .nil
    | cons s r ih => intro i; cases i with
      | zero => exact .any (Sb.refl r)
      | succ n => exact .eq (ih n)
  exact this Γ i)

/-! ### isinstance -/
structure TyN where
  n : String
instance : Rp TyN := ⟨fun _ _ v x => v = .ty x.n, fun _ h => h⟩
theorem ev_tyn {x : Str} {T : String} (hm : X.mg x = none) (hv : bootBuiltins x = some (.type T)) (hg : Gl X x := by rfl) (hn : x ≠ "__name__" := by decide) (hd : (x == ("__debug__" : Str)) = false := by decide) : EV X Γ (.Name x pos) (TyN.mk T) := ⟨fun B G H σ hB hgh l Q q =>
  we (pe_bltn (v := .ty T) hg hm hv rfl hn hd) (q _ G H (Grow.refl hgh) rfl)⟩
/-- data of one built-in type -/
class Ty1 (α : Type) [Rp α] where
  t : String
  ok : ∀ {K : PySem.W.Frag} {G : Hp} {v : V} {x : α}, Rp.rep K G v x → TyX K G v (.type t)
theorem tyL {K : PySem.W.Frag} {G : Hp} {p : Addr} {vs : List V} (h : SqL K G p vs) : TyX K G (.ref p) (.type "list") := by
  rcases h with (h | ⟨o, h⟩) | ⟨o, its, n, h, hc, _⟩
  · exact .base (.lst h)
  · exact .base (.frz h)
  · exact .kList h hc
theorem tyT {K : PySem.W.Frag} {G : Hp} {p : Addr} {vs : List V} (h : SqT K G p vs) : TyX K G (.ref p) (.type "tuple") := by
  rcases h with (h | ⟨o, h⟩) | ⟨o, its, n, h, hc, _⟩
  · exact .base (.tup h)
  · exact .fTuple h
  · exact .kTuple h hc
theorem TyOf.mono {K : PySem.W.Frag} {G G' : Hp} {v : V} {t : Value} (e : Same G G') (h : TyOf K G v t) : TyOf K G' v t := by
  cases h with
  | non => exact .non
  | bl x => exact .bl x
  | int x => exact .int x
  | str x => exact .str x
  | flt x => exact .flt x
  | lst h => exact .lst (e _ _ h)
  | frz h => exact .frz (e _ _ h)
  | tup h => exact .tup (e _ _ h)
  | dK h => exact .dK (e _ _ h)
  | dT h => exact .dT (e _ _ h)
  | ins h a b c d f => exact .ins (e _ _ h) a b c d f
theorem TyX.mono {K : PySem.W.Frag} {G G' : Hp} {v : V} {t : Value} (e : Same G G') (h : TyX K G v t) : TyX K G' v t := by
  cases h with
  | base h => exact .base (TyOf.mono e h)
  | byt b => exact .byt b
  | set h => exact .set (e _ _ h)
  | kList h c => exact .kList h c
  | kTuple h c => exact .kTuple h c
  | kDict h c => exact .kDict h c
  | fTuple h => exact .fTuple (e _ _ h)
  | fDict h => exact .fDict (e _ _ h)
instance : Ty1 Int := ⟨"int", fun {K G v x} h => by have e : v = .int x := h; subst e; exact .base (.int x)⟩
instance : Ty1 Bool := ⟨"bool", fun {K G v x} h => by have e : v = .bl x := h; subst e; exact .base (.bl x)⟩
instance : Ty1 Str := ⟨"str", fun {K G v x} h => by have e : v = .str x := h; subst e; exact .base (.str x)⟩
instance : Ty1 Unit := ⟨"NoneType", fun {K G v x} h => by have e : v = .non := h; subst e; exact .base .non⟩
instance {α : Type} [Rp α] : Ty1 (List α) := ⟨"list", fun h => by obtain ⟨p, vs, rfl, hs, _⟩ := h; exact tyL hs⟩
instance {α : Type} [Rp α] : Ty1 (T1 α) := ⟨"tuple", fun h => by obtain ⟨p, v1, rfl, hs, _⟩ := h; exact tyT hs⟩
instance {α β : Type} [Rp α] [Rp β] : Ty1 (T2 α β) := ⟨"tuple", fun h => by obtain ⟨p, v1, v2, rfl, hs, _⟩ := h; exact tyT hs⟩
instance {α β γ : Type} [Rp α] [Rp β] [Rp γ] : Ty1 (T3 α β γ) := ⟨"tuple", fun h => by obtain ⟨p, v1, v2, v3, rfl, hs, _⟩ := h; exact tyT hs⟩
instance {α β γ δ : Type} [Rp α] [Rp β] [Rp γ] [Rp δ] : Ty1 (T4 α β γ δ) := ⟨"tuple", fun h => by obtain ⟨p, v1, v2, v3, v4, rfl, hs, _⟩ := h; exact tyT hs⟩
instance {α β γ δ ε : Type} [Rp α] [Rp β] [Rp γ] [Rp δ] [Rp ε] : Ty1 (T5 α β γ δ ε) := ⟨"tuple", fun h => by obtain ⟨p, v1, v2, v3, v4, v5, rfl, hs, _⟩ := h; exact tyT hs⟩
/-- isinstance(x, T), T a built-in type -/
theorem ev_isi {α : Type} [Rp α] [Ty1 α] {x : α} {T : String} {r : Bool} {p : Pos} (hm : X.mg "isinstance" = none) (ha : EV X Γ a x) (hb : EV X Γ b (TyN.mk T)) (hr : kitB (Ty1.t α) T = some r) (hg : Gl X "isinstance" := by rfl) (hs : starEach [a, b] X.env = (false, eval a X.env) :: starEach [b] X.env := by rfl) (hs2 : starEach [b] X.env = (false, eval b X.env) :: starEach [] X.env := by rfl)
    (hpl : (backTo pos (starEach [b] X.env)).any (·.1) = false := by rfl) : EV X Γ (.Call (.Name "isinstance" p) [a, b] [] pos) r :=
  ev_cb call_isi hm (by decide +kernel) (ea_cons ha (ea_cons hb ea_nil hs2) hs) (fun G H vs hgh r1 Q q => by
    cases r1 with | cons r1 t => cases t with | cons r2 t => cases t; exact ⟨_, _, _, _, r, rfl, by rw [show _ = V.ty T from r2]; exact .ty T, TyX.mono hgh (Ty1.ok r1), kit_ty hr, q _ G H (Grow.refl hgh) rfl⟩) hg (by decide) (by decide) hs hpl

end
/-! ### == of data -/
class DEq (α : Type) [Rp α] where
  toD : α → PyData
  dp : ∀ {K : PySem.W.Frag} {G : Hp} {v : V} {x : α}, Rp.rep K G v x → Dp K G v (toD x)
  n : Nat
  ok : α → Prop
  lay : ∀ x, ok x → (toD x).canLay0 = true
  dep : ∀ x, (toD x).depth ≤ n
  eqv : ∀ x y, PyData.eqv (toD x) (toD y) = true ↔ x = y
instance : DEq Int := ⟨.int, fun {K G v x} h => by have e : v = .int x := h; subst e; exact .int x, 0, fun _ => True, fun x _ => rfl, fun x => Nat.le_refl _, fun x y => by simp [PyData.eqv]⟩
instance : DEq Bool := ⟨.bool, fun {K G v x} h => by have e : v = .bl x := h; subst e; exact .bl x, 0, fun _ => True, fun x _ => rfl, fun x => Nat.le_refl _, fun x y => by simp [PyData.eqv]⟩
instance : DEq Str := ⟨.str, fun {K G v x} h => by have e : v = .str x := h; subst e; exact .str x, 0, fun x => PyData.strOk x = true, fun x h => h, fun x => Nat.le_refl _, fun x y => by simp [PyData.eqv]⟩
def allD {α : Type} (f : α → PyData) (xs : List α) : List PyData := xs.map f
theorem dpAll {α : Type} [Rp α] [DEq α] {K : PySem.W.Frag} {G : Hp} : ∀ {vs : List V} {xs : List α}, Reps K G vs xs → DpAll K G vs (xs.map DEq.toD)
  | _, _, .nil => .nil
  | _, _, .cons r t => .cons (DEq.dp r) (dpAll t)
theorem layAll {α : Type} [Rp α] [DEq α] : ∀ {xs : List α}, (∀ x ∈ xs, DEq.ok x) → PyData.canLayAll0 (xs.map DEq.toD) = true
  | [], _ => rfl
  | x :: r, h => by
    show ((DEq.toD x).canLay0 && PyData.canLayAll0 (r.map DEq.toD)) = true
    rw [DEq.lay x (h x (by simp)), layAll (fun y hy => h y (by simp [hy]))]
    rfl
theorem depAll {α : Type} [Rp α] [DEq α] : ∀ (xs : List α), PyData.depthAll (xs.map DEq.toD) ≤ DEq.n α
  | [] => Nat.zero_le _
  | x :: r => by
    show max (DEq.toD x).depth (PyData.depthAll (r.map DEq.toD)) ≤ _
    exact Nat.max_le.mpr ⟨DEq.dep x, depAll r⟩
theorem eqvAll' {α : Type} [Rp α] [DEq α] : ∀ (xs ys : List α), PyData.eqvAll (xs.map DEq.toD) (ys.map DEq.toD) = true ↔ xs = ys
  | [], [] => by simp [PyData.eqvAll]
  | [], y :: ys => by simp [PyData.eqvAll]
  | x :: xs, [] => by simp [PyData.eqvAll]
  | x :: xs, y :: ys => by
    have h := eqvAll' xs ys
    simp only [List.map_cons, PyData.eqvAll, Bool.and_eq_true, DEq.eqv, h, List.cons.injEq]
instance {α : Type} [Rp α] [DEq α] : DEq (List α) := ⟨fun xs => .list (xs.map DEq.toD), fun h => by obtain ⟨p, vs, rfl, hs, r⟩ := h; exact .lst hs (dpAll r), DEq.n α + 1, fun xs => ∀ x ∈ xs, DEq.ok x, fun xs h => layAll h, fun xs => Nat.succ_le_succ (depAll xs), fun xs ys => by
  show PyData.eqvAll _ _ = true ↔ _
  exact eqvAll' xs ys⟩
instance {α : Type} [Rp α] [DEq α] : DEq (T1 α) := ⟨fun x => .tuple [DEq.toD x.a], fun h => by obtain ⟨p, v1, rfl, hs, h1⟩ := h; exact .tup hs (.cons (DEq.dp h1) .nil), DEq.n α + 1, fun x => DEq.ok x.a, fun x h => by
  show (_ && true) = true
  rw [DEq.lay _ h] <;> rfl, fun x => by
  show max _ 0 + 1 ≤ _
  have := DEq.dep x.a
  omega, fun x y => by
  cases x; cases y
  simp [PyData.eqv, PyData.eqvAll, DEq.eqv]⟩
instance {α β : Type} [Rp α] [Rp β] [DEq α] [DEq β] : DEq (T2 α β) := ⟨fun x => .tuple [DEq.toD x.a, DEq.toD x.b], fun h => by obtain ⟨p, v1, v2, rfl, hs, h1, h2⟩ := h; exact .tup hs (.cons (DEq.dp h1) (.cons (DEq.dp h2) .nil)), max (DEq.n α) (DEq.n β) + 1, fun x => DEq.ok x.a ∧ DEq.ok x.b, fun x h => by
  show (_ && (_ && true)) = true
  rw [DEq.lay _ h.1, DEq.lay _ h.2] <;> rfl, fun x => by
  show max _ (max _ 0) + 1 ≤ _
  have := DEq.dep x.a
  have := DEq.dep x.b
  omega, fun x y => by
  cases x; cases y
  simp [PyData.eqv, PyData.eqvAll, DEq.eqv]⟩
instance {α β γ : Type} [Rp α] [Rp β] [Rp γ] [DEq α] [DEq β] [DEq γ] : DEq (T3 α β γ) := ⟨fun x => .tuple [DEq.toD x.a, DEq.toD x.b, DEq.toD x.c], fun h => by obtain ⟨p, v1, v2, v3, rfl, hs, h1, h2, h3⟩ := h; exact .tup hs (.cons (DEq.dp h1) (.cons (DEq.dp h2) (.cons (DEq.dp h3) .nil))), max (DEq.n α) (max (DEq.n β) (DEq.n γ)) + 1, fun x => DEq.ok x.a ∧ DEq.ok x.b ∧ DEq.ok x.c, fun x h => by
  show (_ && (_ && (_ && true))) = true
  rw [DEq.lay _ h.1, DEq.lay _ h.2.1, DEq.lay _ h.2.2] <;> rfl, fun x => by
  show max _ (max _ (max _ 0)) + 1 ≤ _
  have := DEq.dep x.a
  have := DEq.dep x.b
  have := DEq.dep x.c
  omega, fun x y => by
  cases x; cases y
  simp [PyData.eqv, PyData.eqvAll, DEq.eqv]⟩
instance {α β γ δ : Type} [Rp α] [Rp β] [Rp γ] [Rp δ] [DEq α] [DEq β] [DEq γ] [DEq δ] : DEq (T4 α β γ δ) := ⟨fun x => .tuple [DEq.toD x.a, DEq.toD x.b, DEq.toD x.c, DEq.toD x.d], fun h => by obtain ⟨p, v1, v2, v3, v4, rfl, hs, h1, h2, h3, h4⟩ := h; exact .tup hs (.cons (DEq.dp h1) (.cons (DEq.dp h2) (.cons (DEq.dp h3) (.cons (DEq.dp h4) .nil)))), max (DEq.n α) (max (DEq.n β) (max (DEq.n γ) (DEq.n δ))) + 1, fun x => DEq.ok x.a ∧ DEq.ok x.b ∧ DEq.ok x.c ∧ DEq.ok x.d, fun x h => by
  show (_ && (_ && (_ && (_ && true)))) = true
  rw [DEq.lay _ h.1, DEq.lay _ h.2.1, DEq.lay _ h.2.2.1, DEq.lay _ h.2.2.2] <;> rfl, fun x => by
  show max _ (max _ (max _ (max _ 0))) + 1 ≤ _
  have := DEq.dep x.a
  have := DEq.dep x.b
  have := DEq.dep x.c
  have := DEq.dep x.d
  omega, fun x y => by
  cases x; cases y
  simp [PyData.eqv, PyData.eqvAll, DEq.eqv]⟩
instance {α β γ δ ε : Type} [Rp α] [Rp β] [Rp γ] [Rp δ] [Rp ε] [DEq α] [DEq β] [DEq γ] [DEq δ] [DEq ε] : DEq (T5 α β γ δ ε) := ⟨fun x => .tuple [DEq.toD x.a, DEq.toD x.b, DEq.toD x.c, DEq.toD x.d, DEq.toD x.e], fun h => by obtain ⟨p, v1, v2, v3, v4, v5, rfl, hs, h1, h2, h3, h4, h5⟩ := h; exact .tup hs (.cons (DEq.dp h1) (.cons (DEq.dp h2) (.cons (DEq.dp h3) (.cons (DEq.dp h4) (.cons (DEq.dp h5) .nil))))), max (DEq.n α) (max (DEq.n β) (max (DEq.n γ) (max (DEq.n δ) (DEq.n ε)))) + 1, fun x => DEq.ok x.a ∧ DEq.ok x.b ∧ DEq.ok x.c ∧ DEq.ok x.d ∧ DEq.ok x.e, fun x h => by
  show (_ && (_ && (_ && (_ && (_ && true))))) = true
  rw [DEq.lay _ h.1, DEq.lay _ h.2.1, DEq.lay _ h.2.2.1, DEq.lay _ h.2.2.2.1, DEq.lay _ h.2.2.2.2] <;> rfl, fun x => by
  show max _ (max _ (max _ (max _ (max _ 0)))) + 1 ≤ _
  have := DEq.dep x.a
  have := DEq.dep x.b
  have := DEq.dep x.c
  have := DEq.dep x.d
  have := DEq.dep x.e
  omega, fun x y => by
  cases x; cases y
  simp [PyData.eqv, PyData.eqvAll, DEq.eqv]⟩
/-- data without texts -/
class OkAll (α : Type) [Rp α] [DEq α] : Prop where
  all : ∀ x : α, DEq.ok x
instance : OkAll Int := ⟨fun _ => trivial⟩
instance : OkAll Bool := ⟨fun _ => trivial⟩
instance {α : Type} [Rp α] [DEq α] [OkAll α] : OkAll (List α) := ⟨fun _ x _ => OkAll.all x⟩
instance {α : Type} [Rp α] [DEq α] [OkAll α] : OkAll (T1 α) := ⟨fun x => OkAll.all x.a⟩
instance {α β : Type} [Rp α] [Rp β] [DEq α] [DEq β] [OkAll α] [OkAll β] : OkAll (T2 α β) := ⟨fun x => ⟨OkAll.all x.a, OkAll.all x.b⟩⟩
instance {α β γ : Type} [Rp α] [Rp β] [Rp γ] [DEq α] [DEq β] [DEq γ] [OkAll α] [OkAll β] [OkAll γ] : OkAll (T3 α β γ) := ⟨fun x => ⟨OkAll.all x.a, OkAll.all x.b, OkAll.all x.c⟩⟩
instance {α β γ δ : Type} [Rp α] [Rp β] [Rp γ] [Rp δ] [DEq α] [DEq β] [DEq γ] [DEq δ] [OkAll α] [OkAll β] [OkAll γ] [OkAll δ] : OkAll (T4 α β γ δ) := ⟨fun x => ⟨OkAll.all x.a, OkAll.all x.b, OkAll.all x.c, OkAll.all x.d⟩⟩
instance {α β γ δ ε : Type} [Rp α] [Rp β] [Rp γ] [Rp δ] [Rp ε] [DEq α] [DEq β] [DEq γ] [DEq δ] [DEq ε] [OkAll α] [OkAll β] [OkAll γ] [OkAll δ] [OkAll ε] : OkAll (T5 α β γ δ ε) := ⟨fun x => ⟨OkAll.all x.a, OkAll.all x.b, OkAll.all x.c, OkAll.all x.d, OkAll.all x.e⟩⟩
theorem Dp.mono {K : PySem.W.Frag} {G G' : Hp} (e : Same G G') {α : Type} [Rp α] [DEq α] {v : V} {x : α} (h : Rp.rep K G v x) : Dp K G' v (DEq.toD x) := DEq.dp (Rp.mono e h)
theorem shaped_of {α : Type} [Rp α] [DEq α] {x : α} (h : DEq.ok x) (hn : DEq.n α ≤ 64) : SeqAt.shaped (DEq.toD x) = true := by
  unfold SeqAt.shaped
  rw [DEq.lay x h, decide_eq_true (Nat.le_trans (DEq.dep x) hn)]
  rfl
theorem eqv_dec {α : Type} [Rp α] [DEq α] [DecidableEq α] (x y : α) : PyData.eqv (DEq.toD x) (DEq.toD y) = decide (x = y) := by
  have h := DEq.eqv x y
  by_cases e : x = y
  · rw [decide_eq_true e]; exact h.mpr e
  · rw [decide_eq_false e]
    cases q : PyData.eqv (DEq.toD x) (DEq.toD y) with
    | true => exact absurd (h.mp q) e
    | false => rfl
theorem rEqDd {α : Type} [Rp α] [DEq α] [DecidableEq α] {x y : α} {K : PySem.W.Frag} (h1 : DEq.ok x) (h2 : DEq.ok y) (hn : DEq.n α ≤ 64) : ∀ G H v u, Same G H → Rp.rep K G v x → Rp.rep K G u y → ∀ Q : VK, (∀ G' H', Grow G H G' H' → Q (.bl (decide (x = y))) H') → rEqD K v u H Q := fun G H v u hg hv hu Q q =>
  ⟨DEq.toD x, DEq.toD y, Dp.mono hg hv, Dp.mono hg hu, shaped_of h1 hn, shaped_of h2 hn, by rw [eqv_dec]; exact q G H (Grow.refl hg)⟩
theorem rNeDd {α : Type} [Rp α] [DEq α] [DecidableEq α] {x y : α} {K : PySem.W.Frag} (h1 : DEq.ok x) (h2 : DEq.ok y) (hn : DEq.n α ≤ 64) : ∀ G H v u, Same G H → Rp.rep K G v x → Rp.rep K G u y → ∀ Q : VK, (∀ G' H', Grow G H G' H' → Q (.bl (!decide (x = y))) H') → rNeD K v u H Q := fun G H v u hg hv hu Q q =>
  ⟨DEq.toD x, DEq.toD y, Dp.mono hg hv, Dp.mono hg hu, shaped_of h1 hn, shaped_of h2 hn, by rw [eqv_dec]; exact q G H (Grow.refl hg)⟩
section
variable {X : Cx} {Γ : List Slot} {a b : Expr} {pos : Pos}
theorem ev_deq {α : Type} [Rp α] [DEq α] [DecidableEq α] {x y : α} (hu : X.A.units + 64 < cLine) (ha : EV X Γ a x) (hb : EV X Γ b y) (h1 : DEq.ok x) (h2 : DEq.ok y) (hn : DEq.n α ≤ 64 := by exact Nat.le_of_ble_eq_true rfl) : EV X Γ (.Compare a [.Eq] [b] pos) (decide (x = y)) := ev_cmp (op_eqD hu) (nomark _) ha hb (rEqDd h1 h2 hn)
theorem ev_dne {α : Type} [Rp α] [DEq α] [DecidableEq α] {x y : α} (hu : X.A.units + 64 < cLine) (ha : EV X Γ a x) (hb : EV X Γ b y) (h1 : DEq.ok x) (h2 : DEq.ok y) (hn : DEq.n α ≤ 64 := by exact Nat.le_of_ble_eq_true rfl) : EV X Γ (.Compare a [.NotEq] [b] pos) (!decide (x = y)) := ev_cmp (op_neD hu) (nomark _) ha hb (rNeDd h1 h2 hn)
theorem et_deq {α : Type} [Rp α] [DEq α] [DecidableEq α] {x y : α} (hu : X.A.units + 64 < cLine) (ha : EV X Γ a x) (hb : EV X Γ b y) (h1 : DEq.ok x) (h2 : DEq.ok y) (hn : DEq.n α ≤ 64 := by exact Nat.le_of_ble_eq_true rfl) : ET X Γ (.Compare a [.Eq] [b] pos) (decide (x = y)) := et_cmp (op_eqD hu) (nomark _) ha hb (rEqDd h1 h2 hn)
theorem et_dne {α : Type} [Rp α] [DEq α] [DecidableEq α] {x y : α} (hu : X.A.units + 64 < cLine) (ha : EV X Γ a x) (hb : EV X Γ b y) (h1 : DEq.ok x) (h2 : DEq.ok y) (hn : DEq.n α ≤ 64 := by exact Nat.le_of_ble_eq_true rfl) : ET X Γ (.Compare a [.NotEq] [b] pos) (!decide (x = y)) := et_cmp (op_neD hu) (nomark _) ha hb (rNeDd h1 h2 hn)
end
end Wl

set_option maxRecDepth 100000
set_option maxHeartbeats 2000000
namespace Wl
open PySem PySem.Spec PyProof.Rows L2
section
variable {X : Cx} {Γ Γ' : List Slot} {st : Stmt} {sts rest : List Stmt} {a b c e tg iter elt : Expr} {es ifs : List Expr} {pos : Pos} {o : Out}
theorem one_new {G H H1 : Hp} {p : Addr} {o : HO} (h1 : H p = none) (h2 : G p = none) : ∀ a ∈ [p], H a = none ∧ G a = none ∧ ∃ ho, upd H1 p o a = some ho := fun a ha => by
  have e : a = p := by simpa using ha
  subst e; exact ⟨h1, h2, _, upd_same⟩
/-! ### built-in functions on lists -/
theorem ev_call1 {r : List V → Hp → VK → Prop} {id : String} {x : Str} {p : Pos} {α β : Type} [Rp α] [Rp β] {y : α} {z : β} (hc : CallR X (.builtin id) r) (hm : X.mg x = none) (hv : bootBuiltins x = some (.builtin id)) (ha : EV X Γ a y)
    (hr : ∀ G H v, Same G H → Rp.rep X.K G v y → ∀ Q : VK, (∀ w G' H', Grow G H G' H' → Rp.rep X.K G' w z → Q w H') → r [v] H Q) (hg : Gl X x := by rfl) (hn : x ≠ "__name__" := by decide) (hdb : (x == ("__debug__" : Str)) = false := by decide)
    (he : starEach [a] X.env = (false, eval a X.env) :: starEach [] X.env := by rfl) (hpl : (backTo pos (starEach [] X.env)).any (·.1) = false := by rfl) : EV X Γ (.Call (.Name x p) [a] [] pos) z :=
  ev_cb hc hm hv (ea_cons ha ea_nil he) (fun G H vs hgh r1 Q q => by cases r1 with | cons r1 t => cases t; exact hr G H _ hgh r1 Q q) hg hn hdb he hpl
theorem ev_sum {p : Pos} {ns : List Int} (hc : X.calm = true) (hm : X.mg "sum" = none) (ha : EV X Γ a ns) (hg : Gl X "sum" := by rfl) (he : starEach [a] X.env = (false, eval a X.env) :: starEach [] X.env := by rfl) (hpl : (backTo pos (starEach [] X.env)).any (·.1) = false := by rfl) : EV X Γ (.Call (.Name "sum" p) [a] [] pos) ns.sum :=
  ev_call1 (cr_sum hc) hm (by decide +kernel) ha (fun G H v hgh r Q q => by
    obtain ⟨p, vs, rfl, hs, hr⟩ := r
    rw [hr.ints] at hs
    exact ⟨p, ns, rfl, Same.seq hgh hs, q _ G H (Grow.refl hgh) rfl⟩) hg (by decide) (by decide) he hpl
theorem ev_len {p : Pos} {α : Type} [Rp α] {xs : List α} (hm : X.mg "len" = none) (ha : EV X Γ a xs) (hg : Gl X "len" := by rfl) (he : starEach [a] X.env = (false, eval a X.env) :: starEach [] X.env := by rfl) (hpl : (backTo pos (starEach [] X.env)).any (·.1) = false := by rfl) : EV X Γ (.Call (.Name "len" p) [a] [] pos) (xs.length : Int) :=
  ev_call1 call_len_seq hm PySem.boot_len ha (fun G H v hgh r Q q => by
    obtain ⟨p, vs, rfl, hs, hr⟩ := r
    exact ⟨p, vs, rfl, .inl (Same.seq hgh hs), q _ G H (Grow.refl hgh) (by rw [hr.len]; rfl)⟩) hg (by decide) (by decide) he hpl
theorem ev_max {p : Pos} {ns : List Int} {m : Int} (hc : X.calm = true) (hm : X.mg "max" = none) (ha : EV X Γ a ns) (h0 : 0 < ns.length) (h1 : ∀ z, z ∈ ns → (∀ y, y ∈ ns → y ≤ z) → z = m) (hg : Gl X "max" := by rfl) (he : starEach [a] X.env = (false, eval a X.env) :: starEach [] X.env := by rfl) (hpl : (backTo pos (starEach [] X.env)).any (·.1) = false := by rfl) : EV X Γ (.Call (.Name "max" p) [a] [] pos) m :=
  ev_call1 (cr_max hc) hm (by decide +kernel) ha (fun G H v hgh r Q q => by
    obtain ⟨p, vs, rfl, hs, hr⟩ := r
    rw [hr.ints] at hs
    exact ⟨p, ns, rfl, Same.seq hgh hs, h0, fun z hz hy => by rw [h1 z hz hy]; exact q _ G H (Grow.refl hgh) rfl⟩) hg (by decide) (by decide) he hpl
theorem ev_abs {p : Pos} {n : Int} (hm : X.mg "abs" = none) (ha : EV X Γ a n) (hg : Gl X "abs" := by rfl) (he : starEach [a] X.env = (false, eval a X.env) :: starEach [] X.env := by rfl) (hpl : (backTo pos (starEach [] X.env)).any (·.1) = false := by rfl) : EV X Γ (.Call (.Name "abs" p) [a] [] pos) (if n < 0 then -n else n) :=
  ev_call1 call_abs hm (by decide +kernel) ha (fun G H v hgh r Q q => ⟨n, by rw [show v = V.int n from r], q _ G H (Grow.refl hgh) rfl⟩) hg (by decide) (by decide) he hpl
/-- list(xs) -/
theorem en_list {p : Pos} {α : Type} [Rp α] {xs : List α} (hm : X.mg "list" = none) (ha : EV X Γ a xs) (hg : Gl X "list" := by rfl) (he : starEach [a] X.env = (false, eval a X.env) :: starEach [] X.env := by rfl) (hpl : (backTo pos (starEach [] X.env)).any (·.1) = false := by rfl) : EN X Γ (.Call (.Name "list" p) [a] [] pos) (ML.mk xs) := ⟨fun B G H σ hB hgh l Q q =>
  we (pe_callTy call_list_of hg hm (by decide +kernel) pa (by decide) (by decide) he hpl) (ea_cons ha ea_nil he B G H σ hB hgh l _ fun vs G1 H1 g1 r1 => by
    cases r1 with
    | cons r1 t =>
      cases t
      obtain ⟨p, ws, rfl, hs, hr⟩ := r1
      exact ⟨p, ws, rfl, .inl (Same.seq g1.gh hs), fun l hl => q (.ref l) [l] G1 _ (g1.trans (Grow.own g1.gh hl)) (one_new (g1.h.free hl) (g1.gh.free hl)) ⟨l, ws, rfl, rfl, upd_same, hr⟩⟩)⟩
/-- a range object, handed to a call -/
structure Rg where
  lo : Int
  hi : Int
/-- xs + ys, new -/
theorem en_cat {α : Type} [Rp α] {xs ys : List α} (ha : EN X Γ a (ML.mk xs)) (hb : EN X Γ b (ML.mk ys)) (hz : xs.length + ys.length ≤ 10000000) : EN X Γ (.BinOp a .Add b pos) (ML.mk (xs ++ ys)) := ⟨fun B G H σ hB hg l Q q =>
  we (pe_op op_cat pe pe) (ha B G H σ hB hg l _ fun v fp G1 H1 g1 hf ok => hb B G1 H1 σ (hB.trans g1.h) g1.gh (l.grow g1) _ fun v2 fp2 G2 H2 g2 hf2 ok2 => by
    obtain ⟨p, vs, rfl, rfl, hh, r⟩ := ok
    obtain ⟨p2, ws, rfl, rfl, hh2, r2⟩ := ok2
    refine ⟨p, p2, vs, ws, rfl, rfl, g2.h _ _ hh, hh2, ?_, fun p3 hp3 => q (.ref p3) [p3] G2 _ ((g1.trans g2).trans (Grow.own g2.gh hp3)) (one_new ((g1.trans g2).h.free hp3) (g2.gh.free hp3)) ⟨p3, _, rfl, rfl, upd_same, paired_app (r.mono g2.g) r2⟩⟩
    have := r.len
    have := r2.len
    rw [sizeLine_eq]
    show vs.length + ws.length ≤ _
    simp only at *
    omega)⟩

/-! ### slices of lists -/
def pySlice {α : Type} (xs : List α) (lo hi st : Option Int) : List α :=
  (sliceRange (sliceBounds lo hi st xs.length).1 (sliceBounds lo hi st xs.length).2.1 (sliceBounds lo hi st xs.length).2.2).filterMap (xs[·]?)
theorem paired_pick {α β : Type} {R : α → β → Prop} {xs : List α} {ys : List β} (h : Paired R xs ys) : ∀ l : List Nat, Paired R (l.filterMap (xs[·]?)) (l.filterMap (ys[·]?))
  | [] => .nil
  | i :: r => by
    simp only [List.filterMap_cons]
    cases hx : xs[i]? with
    | none =>
      cases hy : ys[i]? with
      | none => exact paired_pick h r
      | some y =>
        obtain ⟨x, e, _⟩ := paired_get2 h i y hy
        rw [hx] at e; cases e
    | some x =>
      obtain ⟨y, e, q⟩ := paired_get h i x hx
      rw [e]
      exact .cons q (paired_pick h r)
theorem pySlice_len {α : Type} (xs : List α) (lo hi st : Option Int) : (pySlice xs lo hi st).length ≤ xs.length := by
  have h := slicePick_size_le (xs.map fun _ => Value.none).toArray lo hi st
  have e : (slicePick (xs.map fun _ => Value.none).toArray lo hi st).size = (pySlice xs lo hi st).length := by
    unfold slicePick pySlice
    simp only [List.size_toArray, List.length_map, List.getElem?_toArray, List.getElem?_map]
    generalize sliceRange (sliceBounds lo hi st xs.length).1 (sliceBounds lo hi st xs.length).2.1 (sliceBounds lo hi st xs.length).2.2 = l
    induction l with
    | nil => rfl
    | cons i r ih =>
      simp only [List.filterMap_cons]
      cases xs[i]? with
      | none => exact ih
      | some x => simp only [Option.map_some, List.length_cons, ih]
  rw [e] at h
  simpa using h
def EO (X : Cx) (Γ : List Slot) (e : Option Expr) (d : Option Int) : Prop := (e = none ∧ d = none) ∨ ∃ e' i, e = some e' ∧ d = some i ∧ EV X Γ e' i
theorem eo_none : EO X Γ none none := .inl ⟨rfl, rfl⟩
theorem eo_some {i : Int} (h : EV X Γ e i) : EO X Γ (some e) (some i) := .inr ⟨e, i, rfl, rfl, h⟩
def WO (X : Cx) (e : Option Expr) (σ : L2.St) (H : Hp) (Q : Option Int → Hp → Prop) : Prop := ∀ (pins : List (Addr × Obj)) (s : Shared), Inv X pins σ H s → wpAny (model X.prog X.w) X.A (evalPart e X.env) (fun v s' => ∃ d H', Inv X pins σ H' s' ∧ IsPart v d ∧ Q d H') X.xe s
theorem eo_run {eo : Option Expr} {d : Option Int} (h : EO X Γ eo d) {B G H : Hp} {σ : L2.St} (hB : Same B H) (hg : Same G H) (l : Lo X.K B G H σ Γ) {Q : Option Int → Hp → Prop} (q : ∀ G' H', Grow G H G' H' → Q d H') : WO X eo σ H Q := fun pins s I => by
  rcases h with ⟨rfl, rfl⟩ | ⟨e', i, rfl, rfl, h⟩
  · exact (po_none (X := X)).run pins s σ H Q I (q G H (Grow.refl hg))
  · refine (po_some (X := X) (pe (X := X) (e := e'))).run pins s σ H Q I ?_
    exact h B G H σ hB hg l _ fun v G1 H1 g1 r1 => ⟨i, r1, q G1 H1 g1⟩
/-- xs[lo:hi:st] of a list, new -/
theorem en_slice {α : Type} [Rp α] {xs : List α} {lo hi st : Option Expr} {l u k : Option Int} {p2 : Pos} (ha : EV X Γ a xs) (hl : EO X Γ lo l) (hu : EO X Γ hi u) (hk : EO X Γ st k) (h0 : k ≠ some 0)
    (hops : ∃ ops : Value → Value → List Value, ∀ o i, subscripted (.Slice lo hi st p2) false o i = operate (ops o i) (getItem o i) := by first | exact ⟨fun o i => [o, i], by intro _ _; with_unfolding_all rfl⟩ | exact ⟨fun o i => [i, o], by intro _ _; with_unfolding_all rfl⟩ | exact ⟨fun o i => [i], by intro _ _; with_unfolding_all rfl⟩) :
    EN X Γ (.Subscript a (.Slice lo hi st p2) pos) (ML.mk (pySlice xs l u k)) := ⟨fun B G H σ hB hg lo0 Q q pins s I => by
  refine Subscript_ (thn (ha B G H σ hB hg lo0 (fun v H1 => ∃ G1, Grow G H G1 H1 ∧ Rp.rep X.K G1 v xs) (fun v G1 H1 g1 r1 => ⟨G1, g1, r1⟩) pins s I) fun v s1 ⟨x, H1, I1, r1, G1, g1, p, vs, ex, hs, hr⟩ => ?_)
  subst ex
  cases r1
  refine wpAny_Slice (thn (eo_run hl (hB.trans g1.h) g1.gh (lo0.grow g1) (Q := fun d H2 => d = l ∧ ∃ G2, Grow G1 H1 G2 H2) (fun G2 H2 g2 => ⟨rfl, G2, g2⟩) pins s1 I1) fun vl s2 ⟨d2, H2, I2, pl, e2, G2, g2⟩ => ?_)
  subst e2
  refine thn (eo_run hu (hB.trans (g1.trans g2).h) g2.gh (lo0.grow (g1.trans g2)) (Q := fun d H3 => d = u ∧ ∃ G3, Grow G2 H2 G3 H3) (fun G3 H3 g3 => ⟨rfl, G3, g3⟩) pins s2 I2) fun vu s3 ⟨d3, H3, I3, pu, e3, G3, g3⟩ => ?_
  subst e3
  refine thn (eo_run hk (hB.trans ((g1.trans g2).trans g3).h) g3.gh (lo0.grow ((g1.trans g2).trans g3)) (Q := fun d H4 => d = k ∧ ∃ G4, Grow G3 H3 G4 H4) (fun G4 H4 g4 => ⟨rfl, G4, g4⟩) pins s3 I3) fun vk s4 ⟨d4, H4, I4, pk, e4, G4, g4⟩ => ?_
  subst e4
  have g := ((g1.trans g2).trans g3).trans g4
  have gr := (g2.trans g3).trans g4
  have I5 : Inv X pins σ H4 { s4 with heap := s4.heap.push { cls := .type "slice", data := .fields #[vl, vu, vk] } } := I4.kept (t' := s4.toks) fun b ob q => Heap.get?_push_of_some _ q
  obtain ⟨its, r, ht, hz⟩ := I5.list (Same.seq (gr.g.trans gr.gh) hs)
  have hlen := r.length
  have hlx := hr.len
  obtain ⟨ops, hops⟩ := hops
  show wpAny (model X.prog X.w) X.A (subscriptTail a (.Slice lo hi st p2) (.ref p) (.ref s4.heap.objs.size)) (EP X pins σ Q) X.xe { s4 with heap := s4.heap.push { cls := .type "slice", data := .fields #[vl, vu, vk] } }
  refine tail_any (ops := ops (.ref p) (.ref s4.heap.objs.size)) ht.isList.typeIs (PySem.slot_list_getitem.lookup) ?_ (hops _ _)
  refine wpAny_getItem_list_slice ht.isList (Heap.IsSliceOf.new _ vl vu vk) pl pu pk h0 ?_ (by rw [List.size_toArray]; omega)
  have hp : slicePick its.toArray d2 d3 d4 = (pySlice its d2 d3 d4).toArray := by
    unfold slicePick pySlice
    simp only [List.size_toArray, List.getElem?_toArray]
  rw [hp]
  have hv : Vals (pySlice vs d2 d3 d4) (pySlice its d2 d3 d4) := by
    unfold pySlice; rw [hlen]; exact paired_pick r _
  have hx : Reps X.K G4 (pySlice vs d2 d3 d4) (pySlice xs d2 d3 d4) := by
    unfold pySlice; rw [hlx]; exact paired_pick (hr.mono gr.g) _
  have hn : H4 (s4.heap.push { cls := .type "slice", data := .fields #[vl, vu, vk] }).objs.size = none := I5.hok.fresh (Nat.le_refl _)
  refine ⟨.ref _, _, I5.laid (t' := s4.toks) (o := .lst (pySlice vs d2 d3 d4)) (fun b ob q => Heap.get?_push_of_some _ q) (Nat.le_refl _) ?_, rfl, q _ _ G4 _ (g.trans (Grow.own g4.gh hn)) (one_new (g.h.free hn) (g4.gh.free hn)) ⟨_, _, rfl, rfl, upd_same, hx⟩⟩
  exact ⟨Nat.le_trans (pySlice_len _ _ _ _) hz, _, 0, hv, Heap.get?_push_size _ rfl⟩⟩
/-! ### comprehensions -/
def wipeG (Γ : List Slot) : List Nat → List Slot
  | [] => Γ
  | v :: vs => (wipeG Γ vs).set v .any
theorem Lo.wipe {K : PySem.W.Frag} {B G H : Hp} {σ : L2.St} (l : Lo K B G H σ Γ) : ∀ vs : List Nat, Lo K B G H (wipe σ vs) (wipeG Γ vs)
  | [] => l
  | v :: vs => (Lo.wipe l vs).drop
theorem wipe_set {σ : L2.St} {i : Nat} {x : Option V} : ∀ {vs : List Nat}, i ∈ vs → L2.wipe (σ.set i x) vs = L2.wipe σ vs
  | [], h => by simp at h
  | v :: vs, h => by
    unfold L2.wipe
    by_cases hv : i = v
    · subst hv
      by_cases h2 : i ∈ vs
      · rw [wipe_set h2]
      · have : ∀ (ws : List Nat) (τ : L2.St), (L2.wipe (τ.set i x) ws).set i none = (L2.wipe τ ws).set i none := by
          intro ws
          induction ws with
          | nil => intro τ; show (τ.set i x).set i none = _; rw [List.set_set]; rfl
          | cons w ws ih =>
            intro τ
            unfold L2.wipe
            by_cases hw : w = i
            · subst hw; rw [List.set_set, List.set_set]; exact ih τ
            · rw [List.set_comm _ _ hw, List.set_comm (l := L2.wipe τ ws) _ _ hw, ih τ]
        exact this vs σ
    · have h2 : i ∈ vs := by
        rcases List.mem_cons.mp h with e | e
        · exact absurd e hv
        · exact e
      rw [wipe_set h2]
/-- a target's store, within vs alone -/
structure TX (X : Cx) (vs : List Nat) (Γ : List Slot) (tg : Expr) {α : Type} [Rp α] (x : α) (Γ' : List Slot)  : Prop where
  run : ∀ (B G H : Hp) (σ : L2.St) (v : V), Same B H → Same G H → Lo X.K B G H σ Γ → Rp.rep X.K G v x → ∀ Q : L2.St → Hp → Prop, (∀ σ', L2.wipe σ' vs = L2.wipe σ vs → Lo X.K B G H σ' Γ' → Q σ' H) → WG X tg v σ H Q
instance {X : Cx} {vs : List Nat} {Γ : List Slot} {tg : Expr} {α : Type} [Rp α] {x : α} {Γ' : List Slot}  : CoeFun (TX X vs Γ tg x Γ') (fun _ => ∀ (B G H : Hp) (σ : L2.St) (v : V), Same B H → Same G H → Lo X.K B G H σ Γ → Rp.rep X.K G v x → ∀ Q : L2.St → Hp → Prop, (∀ σ', L2.wipe σ' vs = L2.wipe σ vs → Lo X.K B G H σ' Γ' → Q σ' H) → WG X tg v σ H Q) := ⟨TX.run⟩
theorem tx_name {vs : List Nat} (i : Nat) {α : Type} [Rp α] {x : α} {nm : Str} (hN : X.N.Nodup) (hv : i ∈ vs := by decide) (hi : X.N[i]? = some nm := by rfl) (hx : L2.Loc X.env.scope nm := by first | exact Or.inl rfl | exact Or.inr rfl) (hf : X.fn nm = true ∨ X.env.scope.names.lookup nm = some .local := by first | exact .inl rfl | exact .inr rfl) :
    TX X vs Γ (.Name nm pos) x (Γ.set i (.v x)) := ⟨fun B G H σ v hB hg l r Q q => wg (pg_name hN hi hx hf) (q _ (wipe_set hv) (l.set (d := dt x) r))⟩
structure TXs (X : Cx) (vs : List Nat) (Γ : List Slot) (ts : List Expr) (ds : List Dat) (Γ' : List Slot)  : Prop where
  run : ∀ (B G H : Hp) (σ : L2.St) (ws : List V), Same B H → Same G H → Lo X.K B G H σ Γ → DatsOk X.K G ws ds → ∀ Q : L2.St → Hp → Prop, (∀ σ', L2.wipe σ' vs = L2.wipe σ vs → Lo X.K B G H σ' Γ' → Q σ' H) → ∀ (pins : List (Addr × Obj)) (s : Shared) (us : List Value), Inv X pins σ H s → Vals ws us →
    wpAny (model X.prog X.w) X.A (assignInOrder ((assignEach ts X.env).map (·.2)) us) (fun _ s' => ∃ σ' H', Inv X pins σ' H' s' ∧ Q σ' H') X.xe s
instance {X : Cx} {vs : List Nat} {Γ : List Slot} {ts : List Expr} {ds : List Dat} {Γ' : List Slot}  : CoeFun (TXs X vs Γ ts ds Γ') (fun _ => ∀ (B G H : Hp) (σ : L2.St) (ws : List V), Same B H → Same G H → Lo X.K B G H σ Γ → DatsOk X.K G ws ds → ∀ Q : L2.St → Hp → Prop, (∀ σ', L2.wipe σ' vs = L2.wipe σ vs → Lo X.K B G H σ' Γ' → Q σ' H) → ∀ (pins : List (Addr × Obj)) (s : Shared) (us : List Value), Inv X pins σ H s → Vals ws us →
    wpAny (model X.prog X.w) X.A (assignInOrder ((assignEach ts X.env).map (·.2)) us) (fun _ s' => ∃ σ' H', Inv X pins σ' H' s' ∧ Q σ' H') X.xe s) := ⟨TXs.run⟩
theorem txs_nil {vs : List Nat} : TXs X vs Γ [] [] Γ := ⟨fun B G H σ ws hB hg l r Q q pins s us I rv => by
  cases r
  cases rv
  exact assignInOrder_nil ⟨σ, H, I, q σ rfl l⟩⟩
theorem txs_cons {vs : List Nat} {α : Type} [Rp α] {x : α} {ds : List Dat} {Γ2 : List Slot} (h : TX X vs Γ e x Γ') (hr : TXs X vs Γ' es ds Γ2) (hs : (assignEach (e :: es) X.env).map (·.2) = assign e X.env :: (assignEach es X.env).map (·.2) := by rfl) : TXs X vs Γ (e :: es) (dt x :: ds) Γ2 := ⟨fun B G H σ ws hB hg l r Q q pins s us I rv => by
  cases r with
  | cons r1 r2 =>
    cases rv with
    | cons q1 q2 =>
      rw [hs]
      refine assignInOrder_cons (thn (h B G H σ _ hB hg l r1 (fun σ1 H1 => H1 = H ∧ L2.wipe σ1 vs = L2.wipe σ vs ∧ Lo X.K B G H σ1 Γ') (fun σ1 e1 l1 => ⟨rfl, e1, l1⟩) pins s _ I q1) fun _ s1 ⟨σ1, H1, I1, eH, e1, l1⟩ => ?_)
      subst eH
      exact hr B G _ σ1 _ hB hg l1 r2 Q (fun σ' e2 l2 => q σ' (e2.trans e1) l2) pins s1 _ I1 q2⟩
theorem tx_tup {vs : List Nat} {τ : Type} [Rp τ] [TPs τ] {x : τ} {k : Nat} (h : TXs X vs Γ es (TPs.parts x) Γ') (hc : X.calm = true := by rfl) (hn : (assignEach es X.env).length = (TPs.parts x).length := by rfl) (hst : (assignEach es X.env).findIdx? (·.1) = none := by rfl) : TX X vs Γ (.Tuple es k pos) x Γ' := ⟨fun B G H σ v hB hg l r Q q => by
  obtain ⟨p, ws, e, hs, rs⟩ := TPs.ok r
  subst e
  have hp : PGs X es (fun us σ2 H2 Q2 => us = ws ∧ σ2 = σ ∧ H2 = H ∧ ∀ σ', L2.wipe σ' vs = L2.wipe σ vs → Lo X.K B G H σ' Γ' → Q2 σ' H) := ⟨fun pins s σ2 H2 us2 us Q2 I rv h2 => by
    obtain ⟨e1, e2, e3, q2⟩ := h2
    subst e1 e2 e3
    exact h B G _ _ _ hB hg l rs Q2 q2 pins s us I rv⟩
  exact wg (pg_tup hc hp hn hst) ⟨p, ws, rfl, seqT hg hs, rs.len, rfl, rfl, rfl, q⟩⟩
/-- the contexts of a comprehension's block -/
abbrev blkX (X : Cx) (scope : Scope) (s : Shared) (H : Hp) (C : Addr) (cl : List (Str × Addr)) (fp : List Addr) : Cx := X.blk s H scope (compEnvC scope cl C X.env) fp
/-- a comprehension, its parts -/
def EL (X : Cx) (Γ : List Slot) (tg iter : Expr) (ifs : List Expr) (elt : Expr) (scope : Scope) (own : List (Str × Nat)) {τ : Type} [Ow τ] (x : τ) : Prop :=
  ∃ (g : TG) (tt : TT) (te : TE), (∀ (s : Shared) (H : Hp) (C : Addr) (cl : List (Str × Addr)) (fp : List Addr), PG (blkX X scope s H C cl fp) tg g) ∧ (∀ (s : Shared) (H : Hp) (C : Addr) (cl : List (Str × Addr)) (fp : List Addr), PTs (blkX X scope s H C cl fp) ifs tt) ∧
    (∀ (s : Shared) (H : Hp) (C : Addr) (cl : List (Str × Addr)) (fp : List Addr), PE (blkX X scope s H C cl fp) elt te) ∧
    ∀ (B G H : Hp) (σ : L2.St), Same B H → Same G H → Lo X.K B G H σ Γ → ∀ Q : VK, (∀ v fp G' H', Grow G H G' H' → (∀ a ∈ fp, H a = none ∧ G' a = none ∧ ∃ ho, H' a = some ho) → Ow.ok X.K G' H' v fp x → Q v H') → tLc (WI X tg iter) g tt te (own.map (·.2)) σ H Q
theorem en_el {scope : Scope} {own : List (Str × Nat)} {τ : Type} [Ow τ] {x : τ} (hc : X.calm = true) (hN : X.N.Nodup) (ok : BlkOk X.N X.env.scope scope own) (h : EL X Γ tg iter ifs elt scope own x) (hs : ∀ x, foldedSetIterable iter X.env x = pure x := by intro _; rfl) :
    EN X Γ (.ListComp elt [⟨tg, iter, ifs, 0⟩] scope pos) x := ⟨fun B G H σ hB hg l Q q => by
  obtain ⟨g, tt, te, h1, h2, h3, h4⟩ := h
  exact we (pe_lc hc hN pi ok h1 h2 h3 hs) (h4 B G H σ hB hg l Q q)⟩
/-- y = [..] on one line -/
theorem sv_el (i : Nat) {scope : Scope} {own : List (Str × Nat)} {τ : Type} [Ow τ] {x : τ} {y : Str} {py spos : Pos} (hc : X.calm = true) (hN : X.N.Nodup) (ok : BlkOk X.N X.env.scope scope own) (h : EL X Γ tg iter ifs elt scope own x) (hy : X.N[i]? = some y := by rfl) (hyl : X.env.scope.names.lookup y = some .local := by rfl)
    (hsw : swapsWith (.ListComp elt [⟨tg, iter, ifs, 0⟩] scope pos) (some (.Name y py)) spos.line X.env = pure true := by exact sw_true rfl rfl rfl (by decide +kernel)) (hs : ∀ x, foldedSetIterable iter X.env x = pure x := by intro _; rfl) :
    SV X Γ (.Assign [.Name y py] (.ListComp elt [⟨tg, iter, ifs, 0⟩] scope pos) spos) (.nx (Γ.set i (.o x))) := ⟨fun B G H σ D hB hg l k => by
  obtain ⟨g, tt, te, h1, h2, h3, h4⟩ := h
  exact ws (ps_setLc hc hN hy hyl hsw pi ok h1 h2 h3 hs) (h4 B G H σ hB hg l _ fun v fp G1 H1 g1 hfp ok => k G1 H1 (g1.step hB) _ (l.setOwn (d := ot x) hB g1 hfp ok))⟩
/-- .. the new list only read from then on -/
theorem sv_elv (i : Nat) {scope : Scope} {own : List (Str × Nat)} {α : Type} [Rp α] {xs : List α} {y : Str} {py spos : Pos} (hc : X.calm = true) (hN : X.N.Nodup) (ok : BlkOk X.N X.env.scope scope own) (h : EL X Γ tg iter ifs elt scope own (ML.mk xs)) (hy : X.N[i]? = some y := by rfl) (hyl : X.env.scope.names.lookup y = some .local := by rfl)
    (hsw : swapsWith (.ListComp elt [⟨tg, iter, ifs, 0⟩] scope pos) (some (.Name y py)) spos.line X.env = pure true := by exact sw_true rfl rfl rfl (by decide +kernel)) (hs : ∀ x, foldedSetIterable iter X.env x = pure x := by intro _; rfl) :
    SV X Γ (.Assign [.Name y py] (.ListComp elt [⟨tg, iter, ifs, 0⟩] scope pos) spos) (.nx (Γ.set i (.v xs))) := ⟨fun B G H σ D hB hg l k => by
  obtain ⟨g, tt, te, h1, h2, h3, h4⟩ := h
  refine ws (ps_setLc hc hN hy hyl hsw pi ok h1 h2 h3 hs) (h4 B G H σ hB hg l _ fun v fp G1 H1 g1 hf ok => ?_)
  obtain ⟨p, vs, rfl, rfl, hh, r⟩ := ok
  obtain ⟨hp, hgp, _⟩ := hf p (by simp)
  have hs : Same G1 (upd G1 p (.lst vs)) := fun b u e => by rw [upd_ne (ne_of_none e hgp)]; exact e
  have g2 : Grow G H (upd G1 p (.lst vs)) H1 := ⟨g1.g.trans hs, g1.h, fun b u e => by
    by_cases hb : b = p
    · subst hb; rw [upd_same] at e; rw [← e]; exact hh
    · rw [upd_ne hb] at e; exact g1.gh b u e, fun b u e n => by rw [upd_ne (ne_of_none e hp)]; exact g1.fr b u e n⟩
  exact k _ H1 (g2.step hB) _ ((l.grow g2).set (d := dt xs) ⟨p, vs, rfl, SqL.of upd_same, r.mono hs⟩)⟩
theorem lc_both {α β : Type} [Rp α] [Rp β] {xs : List α} {scope : Scope} {own : List (Str × Nat)} {tt : TT} {p : α → Bool} {f : α → β} (Γ1 : α → List Slot) (hi : IV X Γ tg iter xs)
    (ht : ∀ s H C cl fp x, TX (blkX X scope s H C cl fp) (own.map (·.2)) (wipeG Γ (own.map (·.2))) tg x (Γ1 x))
    (hpt : ∀ (s : Shared) (H : Hp) (C : Addr) (cl : List (Str × Addr)) (fp : List Addr), PTs (blkX X scope s H C cl fp) ifs tt)
    (htt : ∀ pre x post, xs = pre ++ x :: post → ∀ (B G H : Hp) (σ : L2.St), Same B H → Same G H → Lo X.K B G H σ (Γ1 x) → ∀ Q : Bool → Hp → Prop, (∀ G' H', Grow G H G' H' → Q (p x) H') → tt σ H Q)
    (he : ∀ pre x post, xs = pre ++ x :: post → p x = true → ∀ s H C cl fp, EV (blkX X scope s H C cl fp) (Γ1 x) elt (f x)) (hsz : xs.length ≤ 10000000) :
    EL X Γ tg iter ifs elt scope own (ML.mk ((xs.filter p).map f)) := by
  refine ⟨fun v σ H Q => ∀ s H0 C cl fp, WG (blkX X scope s H0 C cl fp) tg v σ H Q, tt, fun σ H Q => ∀ s H0 C cl fp, WE (blkX X scope s H0 C cl fp) elt σ H Q,
    fun s H0 C cl fp => ⟨fun pins s' _ _ _ u _ I r h => h s H0 C cl fp pins s' u I r⟩, hpt, fun s H0 C cl fp => ⟨fun pins s' _ _ _ I h => h s H0 C cl fp pins s' I⟩, fun B G H σ hB hg l Q q => ?_⟩
  refine hi B G H σ hB hg l _ fun J G1 H1 g1 hJ D hD => ?_
  have hsm := g1.h
  refine ⟨fun i m H' => m = xs.length - i ∧ i ≤ xs.length ∧ ∃ G' ws, Grow G1 H1 G' H' ∧ G' D = none ∧ H' D = some (.lst ws) ∧ Reps X.K G' ws (((xs.take i).filter p).map f), ⟨xs.length, by simp, Nat.zero_le _, G1, [], Grow.own g1.gh hD, g1.gh.free hD, upd_same, .nil⟩, ?_⟩
  rintro i m H' ⟨rfl, hi', G', ws, g', hGD, hHD, rws⟩
  by_cases hlt : i < xs.length
  · obtain ⟨hgo, hy⟩ := hJ.1 i G' H' g'.g g'.gh hlt
    refine .inr ⟨hgo, fun H2 => ∃ G2 ws, Grow G1 H1 G2 H2 ∧ G2 D = none ∧ H2 D = some (.lst ws) ∧ Reps X.K G2 ws (((xs.take (i + 1)).filter p).map f), fun H2 ⟨G2, ws2, a1, a2, a3, a4⟩ => ⟨xs.length - (i + 1), by omega, rfl, hlt, G2, ws2, a1, a2, a3, a4⟩, fun v H3 hv => ?_⟩
    obtain ⟨G3, x, g3, hx, rx⟩ := hy v H3 hv
    have ex : xs = xs.take i ++ x :: xs.drop (i + 1) := by
      have h1 : xs[i] = x := by rw [List.getElem?_eq_getElem hlt] at hx; exact Option.some.inj hx
      rw [← h1, List.getElem_cons_drop, List.take_append_drop]
    have et : xs.take (i + 1) = xs.take i ++ [x] := by rw [List.take_add_one, hx]; rfl
    intro s H0 C cl fp
    have lw := ((l.grow g1).grow (g'.trans g3)).wipe (own.map (·.2))
    refine ht s H0 C cl fp x B G3 H3 _ v (hB.trans (g1.trans (g'.trans g3)).h) g3.gh lw rx _ fun σ2 ew l2 => ⟨?_, ?_⟩
    · rw [ew]
      have idem : ∀ (ws : List Nat) (τ : L2.St), L2.wipe (L2.wipe τ ws) ws = L2.wipe τ ws := by
        intro ws
        induction ws with
        | nil => intro τ; rfl
        | cons w ws ih =>
          intro τ
          show (L2.wipe ((L2.wipe τ ws).set w none) ws).set w none = (L2.wipe τ ws).set w none
          by_cases hw : w ∈ ws
          · rw [wipe_set hw, ih]
          · have : ∀ (us : List Nat) (τ : L2.St), w ∉ us → L2.wipe (τ.set w none) us = (L2.wipe τ us).set w none := by
              intro us
              induction us with
              | nil => intro τ _; rfl
              | cons u us ih2 =>
                intro τ hu
                show (L2.wipe (τ.set w none) us).set u none = ((L2.wipe τ us).set u none).set w none
                rw [ih2 τ (fun h => hu (List.mem_cons_of_mem _ h)), List.set_comm _ _ (fun e : w = u => hu (by rw [e]; exact List.mem_cons_self))]
            rw [this ws _ hw, List.set_set, ih]
      exact idem _ _
    · have hBH := hB.trans (g1.trans (g'.trans g3)).h
      refine htt _ x _ ex B G3 H3 σ2 hBH g3.gh l2 _ fun G4 H4 g4 => ?_
      cases hpx : p x with
      | true =>
        intro s H0 C cl fp
        refine he _ x _ ex hpx s H0 C cl fp B G4 H4 σ2 (hBH.trans g4.h) g4.gh (l2.grow g4) _ fun y G5 H5 g5 ry => ?_
        have gA := ((g3.trans g4).trans g5)
        refine ⟨ws, gA.h _ _ hHD, ?_, G5, ws ++ [y], ?_, (gA.fr D _ hHD).trans hGD, upd_same, ?_⟩
        · rw [rws.len, sizeLine_eq, List.length_map]
          have := List.length_filter_le p (xs.take i)
          have := List.length_take_le i xs
          have : (xs.take i).length ≤ xs.length := by simp; omega
          omega
        · have gB := g'.trans gA
          refine ⟨gB.g, fun b u e => ?_, fun b u e => ?_, gB.fr0⟩
          · rw [upd_ne (ne_of_none e hD)]; exact gB.h b u e
          · have hG5 : G5 D = none := (gA.fr D _ hHD).trans hGD
            rw [upd_ne (ne_of_none e hG5)]; exact gB.gh b u e
        · rw [et, List.filter_append, List.map_append]
          refine paired_app (rws.mono gA.g) ?_
          rw [List.filter_cons, if_pos hpx]
          exact .cons ry .nil
      | false =>
        refine ⟨G4, ws, g'.trans (g3.trans g4), ((g3.trans g4).fr D _ hHD).trans hGD, (g3.trans g4).h _ _ hHD, ?_⟩
        rw [et, List.filter_append, List.map_append, List.filter_cons, if_neg (by rw [hpx]; decide)]
        show Reps _ _ _ (_ ++ [])
        rw [List.append_nil]
        exact rws.mono (g3.trans g4).g
  · have ei : i = xs.length := by omega
    subst ei
    rw [List.take_length] at rws
    exact .inl ⟨hJ.2 G' H' g'.g g'.gh, q (.ref D) [D] G' H' (g1.trans g') (fun a ha => by
      have e : a = D := by simpa using ha
      subst e; exact ⟨g1.h.free hD, hGD, _, hHD⟩) ⟨D, ws, rfl, rfl, hHD, rws⟩⟩
/-- [e for x in xs] -/
theorem el_lc {α β : Type} [Rp α] [Rp β] {xs : List α} {scope : Scope} {own : List (Str × Nat)} (Γ1 : α → List Slot) (f : α → β) (hi : IV X Γ tg iter xs)
    (ht : ∀ s H C cl fp x, TX (blkX X scope s H C cl fp) (own.map (·.2)) (wipeG Γ (own.map (·.2))) tg x (Γ1 x))
    (he : ∀ pre x post, xs = pre ++ x :: post → ∀ s H C cl fp, EV (blkX X scope s H C cl fp) (Γ1 x) elt (f x)) (hsz : xs.length ≤ 10000000) :
    EL X Γ tg iter [] elt scope own (ML.mk (xs.map f)) := by
  have h := lc_both (elt := elt) (ifs := []) (tt := tYes) (p := fun _ => true) (f := f) Γ1 hi ht (fun _ _ _ _ _ => pts_nil) (fun pre x post e B G H σ hB hg l Q q => q G H (Grow.refl hg)) (fun pre x post e _ => he pre x post e) hsz
  rw [List.filter_eq_self.mpr (fun _ _ => rfl)] at h
  exact h
/-- [e for x in xs if c] -/
theorem el_lcIf {α β : Type} [Rp α] [Rp β] {xs : List α} {scope : Scope} {own : List (Str × Nat)} (Γ1 : α → List Slot) (p : α → Bool) (f : α → β) (hi : IV X Γ tg iter xs)
    (ht : ∀ s H C cl fp x, TX (blkX X scope s H C cl fp) (own.map (·.2)) (wipeG Γ (own.map (·.2))) tg x (Γ1 x))
    (hp : ∀ pre x post, xs = pre ++ x :: post → ∀ s H C cl fp, ET (blkX X scope s H C cl fp) (Γ1 x) c (p x))
    (he : ∀ pre x post, xs = pre ++ x :: post → p x = true → ∀ s H C cl fp, EV (blkX X scope s H C cl fp) (Γ1 x) elt (f x)) (hsz : xs.length ≤ 10000000) :
    EL X Γ tg iter [c] elt scope own (ML.mk ((xs.filter p).map f)) :=
  lc_both (ifs := [c]) (tt := fun σ H Q => ∀ s H0 C cl fp, WT (blkX X scope s H0 C cl fp) c σ H Q) Γ1 hi ht (fun s H0 C cl fp => pts_one ⟨fun pins s' _ _ _ I h => h s H0 C cl fp pins s' I⟩)
    (fun pre x post e B G H σ hB hg l Q q s H0 C cl fp => hp pre x post e s H0 C cl fp B G H σ hB hg l Q q) he hsz
end
end Wl

set_option maxRecDepth 100000
set_option maxHeartbeats 2000000
namespace Wl
open PySem PySem.Spec PyProof.Rows L2
/-! ### a def of the text as its callers see it -/
structure FnAt (P : Program) (w : World) (K : PySem.W.Frag) (mg : Str → Option Value) (base : Heap) (x : Str) (k : Nat) (ps : List Str) (R : List Dat → Dat → Prop) : Prop where
  ex : ∃ f fd, FnOk P w K mg base CX0 k f fd ps (PSp K R) ∧ mg x = some (.ref f) ∧ PySem.W.keepIn K (.ref f) = true ∧ Binds K fd ps []
section
variable {X : Cx} {Γ Γ' : List Slot} {st : Stmt} {sts els rest : List Stmt} {a b c e tg iter elt : Expr} {es ifs : List Expr} {pos : Pos} {o : Out}
theorem ev_fn {k j : Nat} {ps : List Str} {R : List Dat → Dat → Prop} {x : Str} {p : Pos} {α : Type} [Rp α] {y : α} {ds : List Dat} (F : FnAt X.prog X.w X.K X.mg X.base x k ps R) (hr : Room j X.A) (hj : k ≤ j) (ha : EA X Γ (e :: es) ds) (hR : R ds (dt y)) (hg : Gl X x := by rfl) (hdb : (x == ("__debug__" : Str)) = false := by decide)
    (he : starEach (e :: es) X.env = (false, eval e X.env) :: starEach es X.env := by rfl) (hpl : (backTo pos (starEach es X.env)).any (·.1) = false := by rfl) : EV X Γ (.Call (.Name x p) (e :: es) [] pos) y := by
  obtain ⟨f, fd, F1, hm, hk, hb⟩ := F.ex
  exact ev_call F1 (hr.mono hj) hm hk hb pass0 ha hR hg hdb he hpl
theorem ev_fn0 {k j : Nat} {ps : List Str} {R : List Dat → Dat → Prop} {x : Str} {p : Pos} {α : Type} [Rp α] {y : α} (F : FnAt X.prog X.w X.K X.mg X.base x k ps R) (hr : Room j X.A) (hj : k ≤ j) (hR : R [] (dt y)) (hg : Gl X x := by rfl) (hdb : (x == ("__debug__" : Str)) = false := by decide) : EV X Γ (.Call (.Name x p) [] [] pos) y := by
  obtain ⟨f, fd, F1, hm, hk, hb⟩ := F.ex
  exact ev_call0 F1 (hr.mono hj) hm hk hb pass0 hR hg hdb
/-- xs[i], i within -/
theorem ev_lixD {α : Type} [Rp α] {xs : List α} {i : Int} (d : α) (ha : EV X Γ a xs) (hb : EV X Γ b i) (h0 : 0 ≤ i) (h1 : i < (xs.length : Int)) (hp : PlainIx b := by exact fun _ _ => rfl) : EV X Γ (.Subscript a b pos) (xs.getD i.toNat d) :=
  ev_lix ha hb h0 (by
    have h : i.toNat < xs.length := by omega
    rw [List.getElem?_eq_getElem h, List.getD_eq_getElem?_getD, List.getElem?_eq_getElem h]
    rfl) hp
/-- an if whose ways join, and the rest -/
theorem bv_ifj {x : Bool} {Γf : Bool → List Slot} {of : Bool → Out} (h : ET X Γ c x) (h1 : x = true → BV X Γ sts (.nx (Γf true))) (h2 : x = false → BV X Γ els (.nx (Γf false))) (hr : ∀ y : Bool, y = x → BV X (Γf y) rest (of y)) (ho : of x = o := by exact rfl) : BV X Γ (.If c sts els pos :: rest) o :=
  ho ▸ bv_cons (sv_if h h1 h2) (hr x rfl)
theorem bv_ifx {x : Bool} {of : Bool → Out} (h : ET X Γ c x) (h1 : x = true → BV X Γ sts (of true)) (e1 : (of true).exits) (h2 : x = false → BV X Γ rest (of false)) (ho : of x = o := by exact rfl) : BV X Γ (.If c sts [] pos :: rest) o := ho ▸ bv_if h h1 e1 h2
/-- the answer behind a loop -/
def LR.fin {τ ρ : Type} (g : τ → ρ) : LR τ ρ → ρ
  | .go s => g s
  | .re r => r
def LR.bind {τ τ' ρ : Type} (g : τ → LR τ' ρ) : LR τ ρ → LR τ' ρ
  | .go s => g s
  | .re r => .re r
theorem bv_forR {τ ρ : Type} [Rp ρ] {Env : τ → List Slot} {r : LR τ ρ} {g : τ → ρ} (h : SV X Γ st (LR.out Env r)) (hr : ∀ s, r = .go s → BV X (Env s) rest (.rt (dt (g s)))) (ho : .rt (dt (r.fin g)) = o := by exact rfl) : BV X Γ (st :: rest) o := by
  subst ho
  cases r with
  | go s => exact bv_cons h (hr s rfl)
  | re y => exact bv_out h trivial
theorem bv_forB {τ τ' ρ : Type} [Rp ρ] {Env : τ → List Slot} {Env' : τ' → List Slot} {r : LR τ ρ} {g : τ → LR τ' ρ} (h : SV X Γ st (LR.out Env r)) (hr : ∀ s, r = .go s → BV X (Env s) rest (LR.out Env' (g s))) (ho : LR.out Env' (r.bind g) = o := by exact rfl) : BV X Γ (st :: rest) o := by
  subst ho
  cases r with
  | go s => exact bv_cons h (hr s rfl)
  | re y => exact bv_out h trivial
/-- for with a word I of the part taken and the state -/
theorem sv_forI {α τ : Type} [Rp α] {xs : List α} {body : List Stmt} (Env : τ → List Slot) (s0 : τ) (f : τ → α → τ) (I : List α → τ → Prop) (h : IV X Γ tg iter xs) (h0 : Sb Γ (Env s0)) (Γ1 : τ → α → List Slot) (ht : ∀ s x, TV X (Env s) tg x (Γ1 s x))
    (i0 : I [] s0) (is : ∀ pre x s, x ∈ xs → I pre s → I (pre ++ [x]) (f s x))
    (hb : ∀ pre x post s, xs = pre ++ x :: post → pre.foldl f s0 = s → I pre s → BV X (Γ1 s x) body (.nx (Env (f s x)))) (hp : PassesOwn (model X.prog X.w) X.A X.env X.xe) (hc : X.calm = true := by rfl) (hs : ∀ x, foldedSetIterable iter X.env x = pure x := by intro _; rfl) (ho : .nx (Env (xs.foldl f s0)) = o := by exact rfl) :
    SV X Γ (.For tg iter body [] pos) o := by
  subst ho
  have inv : ∀ (l pre : List α) (s : τ), (∀ x ∈ l, x ∈ xs) → I pre s → I (pre ++ l) (l.foldl f s) := by
    intro l
    induction l with
    | nil => intro pre s _ h; rw [List.append_nil]; exact h
    | cons x l ih =>
      intro pre s hm h
      have h2 := ih (pre ++ [x]) (f s x) (fun y hy => hm y (List.mem_cons_of_mem _ hy)) (is pre x s (hm x List.mem_cons_self) h)
      rw [List.append_assoc] at h2
      exact h2
  exact sv_for Env s0 f h h0 Γ1 ht (fun pre x post s e1 e2 => hb pre x post s e1 e2 (by rw [← e2]; exact inv pre [] s0 (fun y hy => by rw [e1]; simp [hy]) i0)) hp hc hs

/-! ### while -/
def runW {τ ρ : Type} (c : τ → Bool) (f : τ → LR τ ρ) : Nat → τ → LR τ ρ
  | 0, s => .go s
  | n + 1, s => bif c s then (match f s with
    | .go s' => runW c f n s'
    | .re r => .re r) else .go s
/-- while: enough turns n, at the end the test is false -/
theorem sv_while {τ ρ : Type} [Rp ρ] {body : List Stmt} (Env : τ → List Slot) (s0 : τ) (cf : τ → Bool) (f : τ → LR τ ρ) (n : Nat) (I : τ → Prop) (h0 : Sb Γ (Env s0)) (i0 : I s0) (is : ∀ s s', I s → cf s = true → f s = .go s' → I s') (ht : ∀ s, I s → ET X (Env s) c (cf s))
    (hb : ∀ s, I s → cf s = true → BV X (Env s) body (LR.out Env (f s))) (hend : ∀ s, runW cf f n s0 = .go s → cf s = false) (hp : PassesOwn (model X.prog X.w) X.A X.env X.xe) (ho : LR.out Env (runW cf f n s0) = o := by exact rfl) :
    SV X Γ (.While c body [] pos) o := ⟨fun B G H σ D hB hg l k => by
  subst ho
  refine ws (ps_while hp pt pss) ⟨fun m σ' H' => ∃ s G', I s ∧ runW cf f m s = runW cf f n s0 ∧ Stp B G G' H' ∧ Lo X.K B G' H' σ' (Env s), ⟨n, s0, G, i0, rfl, Stp.refl hB hg, l.sub h0⟩, ?_⟩
  rintro m σ' H' ⟨s, G', hi, e, st, lo⟩
  refine ht s hi B G' H' σ' st.b st.gh lo _ fun G1 H1 g1 => ?_
  cases hc : cf s with
  | false =>
    have er : runW cf f m s = .go s := by
      cases m with
      | zero => rfl
      | succ m => unfold runW; rw [hc]; rfl
    have q := k G1 H1 (st.trans (g1.step st.b))
    rw [← e, er] at q
    exact q σ' (lo.grow g1)
  | true =>
    cases m with
    | zero =>
      have : runW cf f n s0 = .go s := e.symm
      rw [hend s this] at hc
      cases hc
    | succ m =>
      refine ⟨fun σ2 H2 => ∃ s2 G2, f s = .go s2 ∧ Stp B G G2 H2 ∧ Lo X.K B G2 H2 σ2 (Env s2), fun σ2 H2 ⟨s2, G2, e2, st2, lo2⟩ => ⟨m, Nat.lt_succ_self m, s2, G2, is s s2 hi hc e2, ?_, st2, lo2⟩, ?_⟩
      · rw [← e]
        show _ = runW cf f (m + 1) s
        unfold runW
        rw [hc, e2]
        cases m <;> rfl
      · have st1 := st.trans (g1.step st.b)
        refine hb s hi hc B G1 H1 σ' _ st1.b st1.gh (lo.grow g1) fun G3 H3 st3 => ?_
        cases hf : f s with
        | go s2 => intro σ4 l4; exact ⟨s2, G3, rfl, st1.trans st3, l4⟩
        | re r =>
          intro v rv
          have q := k G3 H3 (st1.trans st3)
          have er : runW cf f n s0 = .re r := by
            rw [← e]
            unfold runW
            rw [hc, hf]
            rfl
          rw [er] at q
          exact q v rv⟩

/-! ### methods that change an owned list -/
/-- xs.reverse() | xs.clear() .., without an answer; hp by pe_bm0 PySem.F.plainAttrs_list PySem.F.slot_list_reverse PySem.F.type_list_reverse mt_reverse (pv i) -/
theorem sv_reverse (i : Nat) {α : Type} [Rp α] {xs : List α} (hp : PE X c (tBM0 X.K "list" rReverse (tVar i))) (h0 : Γ[i]? = some (.l xs)) (hs : swapsWith c none pos.line X.env = pure false := by rfl) : SV X Γ (.Expr c pos) (.nx (Γ.set i (.l xs.reverse))) := ⟨fun B G H σ D hB hg l k => by
  obtain ⟨F, p, vs, lf, hF, e1, hbp, hgp, hh, r⟩ := ownL l h0
  refine ws (ps_expr hp hs) ⟨_, e1, .inl ⟨rfl, _, .inl (.inl hh)⟩, p, vs, rfl, rfl, hh, ?_⟩
  have rv : Reps X.K G vs.reverse xs.reverse := by
    have : ∀ {vs : List V} {xs : List α}, Reps X.K G vs xs → Reps X.K G vs.reverse xs.reverse := by
      intro vs xs r
      induction r with
      | nil => exact .nil
      | cons r1 t ih => rw [List.reverse_cons, List.reverse_cons]; exact paired_app ih (.cons r1 .nil)
    exact this r
  exact k G _ (Stp.mutL hB hg hbp hgp) σ (lf.mutL h0 hF e1 hbp hgp rv)⟩
end
end Wl

set_option maxRecDepth 100000
set_option maxHeartbeats 2000000
namespace Wl
open PySem PySem.Spec PyProof.Rows L2
section
variable {X : Cx} {Γ Γ' : List Slot} {st : Stmt} {sts els rest : List Stmt} {a b c e tg iter elt : Expr} {es ifs : List Expr} {pos : Pos} {o : Out}
theorem bv_letT {τ : Type} {of : τ → Out} {x : τ} (Γf : τ → List Slot) (h : SV X Γ st (.nx (Γf x))) (hr : ∀ y : τ, y = x → BV X (Γf y) rest (of y)) (ho : of x = o := by exact rfl) : BV X Γ (st :: rest) o := ho ▸ bv_cons h (hr x rfl)
theorem bv_letS {τ : Type} (Γf : τ → List Slot) {of : τ → Out} {x : τ} (h : SV X Γ st (.nx (Γf x))) (hr : ∀ y : τ, y = x → BV X (Γf y) rest (of y)) (ho : of x = o := by exact rfl) : BV X Γ (st :: rest) o := ho ▸ bv_cons h (hr x rfl)
/-! ### list(range(..)) -/
structure ER (X : Cx) (Γ : List Slot) (e : Expr) (lo hi : Int)  : Prop where
  run : ∀ (B G H : Hp) (σ : L2.St), Same B H → Same G H → Lo X.K B G H σ Γ → ∀ Q : Int → Int → Hp → Prop, (∀ G' H', Grow G H G' H' → Q lo hi H') → ∀ (pins : List (Addr × Obj)) (s : Shared), Inv X pins σ H s →
    wpAny (model X.prog X.w) X.A (eval e X.env) (fun x s' => ∃ r a b t u v H', x = .ref r ∧ IsRange s'.heap r a b 1 t u v ∧ Inv X pins σ H' s' ∧ Q a b H') X.xe s
instance {X : Cx} {Γ : List Slot} {e : Expr} {lo hi : Int}  : CoeFun (ER X Γ e lo hi) (fun _ => ∀ (B G H : Hp) (σ : L2.St), Same B H → Same G H → Lo X.K B G H σ Γ → ∀ Q : Int → Int → Hp → Prop, (∀ G' H', Grow G H G' H' → Q lo hi H') → ∀ (pins : List (Addr × Obj)) (s : Shared), Inv X pins σ H s →
    wpAny (model X.prog X.w) X.A (eval e X.env) (fun x s' => ∃ r a b t u v H', x = .ref r ∧ IsRange s'.heap r a b 1 t u v ∧ Inv X pins σ H' s' ∧ Q a b H') X.xe s) := ⟨ER.run⟩
theorem er_1 {p : Pos} {n : Int} (hm : X.mg "range" = none) (h : EV X Γ a n) (hg : Gl X "range" := by rfl) (na : starEach [a] X.env = (false, eval a X.env) :: starEach [] X.env := by rfl) : ER X Γ (.Call (.Name "range" p) [a] [] pos) 0 n := ⟨fun B G H σ hB hgh l Q q pins s I =>
  prg_1 hg hm pe na pins s σ H Q I (h B G H σ hB hgh l _ fun v G1 H1 g1 r1 => ⟨n, r1, q G1 H1 g1⟩)⟩
theorem er_2 {p : Pos} {m n : Int} (hm : X.mg "range" = none) (h : EV X Γ a m) (h2 : EV X Γ b n) (hg : Gl X "range" := by rfl) (na : starEach [a, b] X.env = (false, eval a X.env) :: starEach [b] X.env := by rfl)
    (nb : starEach [b] X.env = (false, eval b X.env) :: starEach [] X.env := by rfl) (hp : (backTo pos (starEach [b] X.env)).any (·.1) = false := by rfl) : ER X Γ (.Call (.Name "range" p) [a, b] [] pos) m n := ⟨fun B G H σ hB hgh l Q q pins s I =>
  prg_2 hg hm pe pe na nb hp pins s σ H Q I (h B G H σ hB hgh l _ fun v G1 H1 g1 r1 => h2 B G1 H1 σ (hB.trans g1.h) g1.gh (l.grow g1) _ fun u G2 H2 g2 r2 => ⟨m, n, r1, r2, q G2 H2 (g1.trans g2)⟩)⟩
theorem rgV_iseq (lo hi : Int) : rgV lo hi = (iseq lo (hi - lo).toNat).map V.int := by
  unfold rgV iseq
  rw [List.map_map]
  rfl
theorem en_listR {p : Pos} {lo hi : Int} (hc : X.calm = true) (hm : X.mg "list" = none) (h : ER X Γ a lo hi) (hok : RgOk lo hi) (hg : Gl X "list" := by rfl) (na : starEach [a] X.env = (false, eval a X.env) :: starEach [] X.env := by rfl) : EN X Γ (.Call (.Name "list" p) [a] [] pos) (ML.mk (iseq lo (hi - lo).toNat)) := ⟨fun B G H σ hB hgh l Q q =>
  we (pe_listRg (te := fun σ2 H2 Q2 => σ2 = σ ∧ H2 = H ∧ ∀ G' H', Grow G H G' H' → Q2 lo hi H') hc hg hm (fun pins s σ2 H2 Q2 I ⟨e1, e2, q2⟩ => by subst e1 e2; exact h B G _ _ hB hgh l Q2 q2 pins s I) na) ⟨rfl, rfl, fun G1 H1 g1 => ⟨hok, fun r hr => by
    rw [rgV_iseq]
    exact q (.ref r) [r] G1 _ (g1.trans (Grow.own g1.gh hr)) (one_new (g1.h.free hr) (g1.gh.free hr)) ⟨r, _, rfl, rfl, upd_same, ints_reps _⟩⟩⟩⟩
/-! ### owned things, known for good -/
def gl (G H : Hp) (fp : List Addr) : Hp := fun a => if a ∈ fp then H a else G a
theorem gl_in {G H : Hp} {fp : List Addr} {a : Addr} (h : a ∈ fp) : gl G H fp a = H a := if_pos h
theorem gl_out {G H : Hp} {fp : List Addr} {a : Addr} (h : a ∉ fp) : gl G H fp a = G a := if_neg h
theorem gl_up {G H : Hp} {fp : List Addr} (h : ∀ a ∈ fp, G a = none) : Same G (gl G H fp) := fun b u e => by
  rw [gl_out (fun z => by rw [h b z] at e; cases e)]; exact e
theorem gl_dn {G H : Hp} {fp : List Addr} (hg : Same G H) : Same (gl G H fp) H := fun b u e => by
  by_cases z : b ∈ fp
  · rw [gl_in z] at e; exact e
  · rw [gl_out z] at e; exact hg b u e
class Fz (τ : Type) [Ow τ] (β : outParam Type) [Rp β] where
  val : τ → β
  ok : ∀ {K : PySem.W.Frag} {G H : Hp} {v : V} {fp : List Addr} {x : τ}, (∀ a ∈ fp, G a = none) → Ow.ok K G H v fp x → Rp.rep K (gl G H fp) v (val x)
instance {α : Type} [Rp α] : Fz (ML α) (List α) := ⟨ML.xs, fun {K G H v fp x} hf h => by
  obtain ⟨p, vs, rfl, rfl, h2, r⟩ := h
  exact ⟨p, vs, rfl, SqL.of (by rw [gl_in (by simp)]; exact h2), r.mono (gl_up hf)⟩⟩
theorem LoF.fz {K : PySem.W.Frag} {B G H : Hp} {σ : L2.St} {F : Nat → List Addr} {i : Nat} {v : V} {τ β : Type} [Ow τ] [Rp β] [Fz τ β] {x : τ} (l : LoF K B G H σ Γ F) (h : Γ[i]? = some (.o x)) (e1 : σ[i]? = some (some v)) (hf : ∀ a ∈ F i, G a = none) (r : Ow.ok K G H v (F i) x) :
    Lo K B (gl G H (F i)) H σ (Γ.set i (.v (Fz.val x : β))) := by
  have hs : Same G (gl G H (F i)) := gl_up hf
  refine ⟨F, by simp [l.len], fun j s e => ?_, fun j k s t hjk hj hk hs' ht => ?_⟩
  · rcases set_get e with ⟨rfl, rfl, _⟩ | ⟨hij, e⟩
    · exact ⟨_, e1, v, rfl, Fz.ok hf r⟩
    · obtain ⟨o, h1, h2⟩ := l.ok j s e
      refine ⟨o, h1, ?_⟩
      cases s with
      | any => trivial
      | val d => obtain ⟨w, e4, r4⟩ := h2; exact ⟨w, e4, Dat.mono hs r4⟩
      | own d =>
        obtain ⟨w, e4, hf2, r4⟩ := h2
        refine ⟨w, e4, fun a ha => ?_, Odat.mono hs (fun _ _ => rfl) r4⟩
        obtain ⟨q1, q2, q3⟩ := hf2 a ha
        exact ⟨q1, by rw [gl_out (fun z => l.sep i j _ _ hij h e rfl rfl a z ha)]; exact q2, q3⟩
  · rcases set_get hj with ⟨rfl, rfl, _⟩ | ⟨hij, hj⟩
    · cases hs'
    · rcases set_get hk with ⟨rfl, rfl, _⟩ | ⟨hik, hk⟩
      · cases ht
      · exact l.sep j k s t hjk hj hk hs' ht
theorem bv_fz (i : Nat) {τ β : Type} [Ow τ] [Rp β] [Fz τ β] {x : τ} (h : Γ[i]? = some (.o x)) (hr : BV X (Γ.set i (.v (Fz.val x : β))) sts o) : BV X Γ sts o := ⟨fun B G H σ D hB hg l k => by
  obtain ⟨F, v, lf, e1, hf, r⟩ := own_at l h
  have hgn : ∀ a ∈ F i, G a = none := fun a ha => (hf a ha).2.1
  refine hr B _ H σ D hB (gl_dn hg) (lf.fz h e1 hgn r) fun G' H' g => k G' H' ⟨g.b, (gl_up hgn).trans g.g, g.gh, fun b u e n => ?_⟩
  rw [g.fr b u e n, gl_out (fun z => by rw [(hf b z).1] at e; cases e)]⟩
theorem ev_fz (i : Nat) {τ β γ : Type} [Ow τ] [Rp β] [Fz τ β] [Rp γ] [Flat γ] {x : τ} {y : γ} (h : Γ[i]? = some (.o x)) (hr : EV X (Γ.set i (.v (Fz.val x : β))) e y) : EV X Γ e y := ⟨fun B G H σ hB hg l Q q => by
  obtain ⟨F, v, lf, e1, hf, r⟩ := own_at l h
  exact hr B _ H σ hB (gl_dn hg) (lf.fz h e1 (fun a ha => (hf a ha).2.1) r) Q fun v G' H' g rv => q v G H' ⟨Same.refl _, g.h, hg.trans g.h, fun _ _ _ _ => rfl⟩ (Flat.any rv)⟩
theorem et_fz (i : Nat) {τ β : Type} [Ow τ] [Rp β] [Fz τ β] {x : τ} {y : Bool} (h : Γ[i]? = some (.o x)) (hr : ET X (Γ.set i (.v (Fz.val x : β))) e y) : ET X Γ e y := ⟨fun B G H σ hB hg l Q q => by
  obtain ⟨F, v, lf, e1, hf, r⟩ := own_at l h
  exact hr B _ H σ hB (gl_dn hg) (lf.fz h e1 (fun a ha => (hf a ha).2.1) r) Q fun G' H' g => q G H' ⟨Same.refl _, g.h, hg.trans g.h, fun _ _ _ _ => rfl⟩⟩

/-! ### a list of owned lists -/
structure MT (α : Type) where
  rows : List (List α)
def RowsOk {α : Type} [Rp α] (K : PySem.W.Frag) (G H : Hp) (qs : List Addr) (rows : List (List α)) : Prop := Paired (fun q row => ∃ vs, H q = some (.lst vs) ∧ Reps K G vs row) qs rows
theorem RowsOk.mono {α : Type} [Rp α] {K : PySem.W.Frag} {G G' H H' : Hp} {qs : List Addr} {rows : List (List α)} (e : Same G G') (eh : ∀ q ∈ qs, H' q = H q) (h : RowsOk K G H qs rows) : RowsOk K G' H' qs rows := by
  unfold RowsOk at *
  induction h with
  | nil => exact .nil
  | cons r t ih =>
    obtain ⟨vs, h1, h2⟩ := r
    exact .cons ⟨vs, by rw [eh _ (by simp)]; exact h1, h2.mono e⟩ (ih fun q hq => eh q (by simp [hq]))
instance {α : Type} [Rp α] : Ow (MT α) := ⟨fun K G H v fp x => ∃ p qs, v = .ref p ∧ fp = p :: qs ∧ fp.Nodup ∧ H p = some (.lst (qs.map V.ref)) ∧ RowsOk K G H qs x.rows, fun e eh h => by
  obtain ⟨p, qs, h0, h1, h2, h3, h4⟩ := h
  subst h1
  exact ⟨p, qs, h0, rfl, h2, by rw [eh p (by simp)]; exact h3, h4.mono e fun q hq => eh q (by simp [hq])⟩, fun h a ha o e => by
  obtain ⟨p, qs, _, rfl, _, h3, h4⟩ := h
  rcases List.mem_cons.mp ha with z | z
  · rw [z, h3] at e; cases e; exact nt_lst
  · obtain ⟨j, hj⟩ := List.mem_iff_getElem?.mp z
    obtain ⟨row, _, vs, h', _⟩ := paired_get h4 j a hj
    rw [h'] at e; cases e; exact nt_lst⟩
theorem rows_reps {α : Type} [Rp α] {K : PySem.W.Frag} {G G' H : Hp} (hs : Same G G') : ∀ {qs : List Addr} {rows : List (List α)}, (∀ q ∈ qs, G' q = H q) → RowsOk K G H qs rows → Reps K G' (qs.map V.ref) rows
  | _, _, _, .nil => .nil
  | _, _, hq, .cons r t => by
    obtain ⟨vs, h1, h2⟩ := r
    exact .cons ⟨_, vs, rfl, SqL.of (by rw [hq _ (by simp)]; exact h1), h2.mono hs⟩ (rows_reps hs (fun q h => hq q (by simp [h])) t)
instance {α : Type} [Rp α] : Fz (MT α) (List (List α)) := ⟨MT.rows, fun {K G H v fp x} hf h => by
  obtain ⟨p, qs, rfl, rfl, h2, h3, h4⟩ := h
  exact ⟨p, qs.map V.ref, rfl, SqL.of (by rw [gl_in (by simp)]; exact h3), rows_reps (gl_up hf) (fun q hq => gl_in (by simp [hq])) h4⟩⟩
def rGetL (K : PySem.W.Frag) : V → V → Hp → VK → Prop := fun o i H Q => ∃ p xs k w, o = .ref p ∧ i = .int k ∧ SqL K H p xs ∧ 0 ≤ k ∧ xs[k.toNat]? = some w ∧ Q w H
theorem pget_list : PGet X (rGetL X.K) := by
  intro pins s σ H o i ov iv Q I ro ri h
  obtain ⟨p, xs, k, w, rfl, rfl, hq, h0, hw, q⟩ := h
  cases ro
  obtain ⟨t, rfl⟩ := ri
  obtain ⟨its, r, pl, hz⟩ := I.list hq
  obtain ⟨u, hu, ru⟩ := r.get hw
  have hl := r.length
  have hn := line63
  have hlt : k.toNat < xs.length := (List.getElem?_eq_some_iff.mp hw).1
  exact wpAny_getItem_list (x := u) pl.isList h0 (by omega) (by simpa using hu) ⟨w, H, I, ru, q⟩
theorem paired_set {α β : Type} {R : α → β → Prop} {x : α} {y : β} (r : R x y) : ∀ {xs : List α} {ys : List β} (i : Nat), Paired R xs ys → Paired R (xs.set i x) (ys.set i y)
  | _, _, _, .nil => .nil
  | _, _, 0, .cons _ t => .cons r t
  | _, _, i + 1, .cons q t => .cons q (paired_set r i t)
theorem rows_set {α : Type} [Rp α] {K : PySem.W.Frag} {G H H' : Hp} {row : List α} {q : Addr} : ∀ {qs : List Addr} {rows : List (List α)} (r : Nat), qs.Nodup → qs[r]? = some q → (∃ vs, H' q = some (.lst vs) ∧ Reps K G vs row) → (∀ a ∈ qs, a ≠ q → H' a = H a) → RowsOk K G H qs rows → RowsOk K G H' qs (rows.set r row)
  | [], _, _, _, e, _, _, _ => by simp at e
  | a :: qs, _, 0, hn, e, hr, hk, .cons h t => by
    simp at e; subst e
    refine .cons hr (RowsOk.mono (Same.refl _) (fun b hb => hk b (by simp [hb]) ?_) t)
    intro z; subst z
    exact (List.nodup_cons.mp hn).1 hb
  | a :: qs, _, r + 1, hn, e, hr, hk, .cons h t => by
    have e' : qs[r]? = some q := by simpa using e
    obtain ⟨vs, h1, h2⟩ := h
    have ne : a ≠ q := fun z => by subst z; exact (List.nodup_cons.mp hn).1 (List.mem_of_getElem? e')
    exact .cons ⟨vs, by rw [hk a (by simp) ne]; exact h1, h2⟩ (rows_set r (List.nodup_cons.mp hn).2 e' hr (fun b hb hne => hk b (by simp [hb]) hne) t)
/-- t[r][c] op= e of a list of owned lists of ints -/
theorem sv_augT (i : Nat) {rows : List (List Int)} {r c y z : Int} {row : List Int} {e1 e2 e3 : Expr} {f : Int → Int → Int} (hp : PS X st (tAugS (tOp (rIxL X.K) (tVar i) (WE X e1)) (WE X e2) (WE X e3) (rGetL X.K) (ipI f) rSetL)) (h0 : Γ[i]? = some (.o (MT.mk rows))) (h1 : EV X Γ e1 r) (h2 : EV X Γ e2 c) (h3 : EV X Γ e3 y)
    (hr : 0 ≤ r) (hrow : rows[r.toNat]? = some row) (hc : 0 ≤ c) (hz : row[c.toNat]? = some z) : SV X Γ st (.nx (Γ.set i (.o (MT.mk (rows.set r.toNat (row.set c.toNat (f z y))))))) := ⟨fun B G H σ D hB hg l k => by
  obtain ⟨F, v, lf, ev, hf, p, qs, rfl, hF, hnd, hp', hrows⟩ := own_at l h0
  refine ws hp ⟨_, ev, h1 B G H σ hB hg l _ fun v1 G1 H1 g1 r1 => ?_⟩
  obtain ⟨q, hq, vs, hvs, rvs⟩ := paired_get2 hrows r.toNat row hrow
  have mem : ∀ a ∈ F i, ∀ ho, H a = some ho → H1 a = some ho := fun a _ ho e => g1.h a ho e
  refine ⟨p, qs.map V.ref, r, .ref q, rfl, r1, .inl (.inl (g1.h _ _ hp')), ?_, ?_⟩
  · have hi : ((r.toNat : Nat) : Int) = r := by omega
    rw [← hi]; exact atI_nat (by rw [List.getElem?_map, hq]; rfl)
  · refine h2 B G1 H1 σ (hB.trans g1.h) g1.gh (l.grow g1) _ fun v2 G2 H2 g2 r2 => ?_
    obtain ⟨w, hw, rw'⟩ := paired_get2 rvs c.toNat z hz
    have hvs2 : H2 q = some (.lst vs) := (g1.trans g2).h _ _ hvs
    refine ⟨q, vs, c, w, rfl, r2, .inl (.inl hvs2), hc, hw, ?_⟩
    refine h3 B G2 H2 σ (hB.trans (g1.trans g2).h) g2.gh (l.grow (g1.trans g2)) _ fun v3 G3 H3 g3 r3 => ?_
    have g := (g1.trans g2).trans g3
    have hvs3 : H3 q = some (.lst vs) := g.h _ _ hvs
    refine ⟨z, y, rw', r3, q, vs, c, c.toNat, rfl, r2, hvs3, ?_, ?_⟩
    · have hlt : c.toNat < vs.length := (List.getElem?_eq_some_iff.mp hw).1
      unfold ixN
      rw [if_pos hc, if_pos (by omega)]
    · have hqF : q ∈ F i := by rw [hF]; exact List.mem_cons_of_mem _ (List.mem_of_getElem? hq)
      have lg := lf.grow g
      have hf3 : ∀ a ∈ F i, B a = none ∧ G3 a = none := fun a ha => by
        obtain ⟨q1, q2, ho, q3⟩ := hf a ha
        exact ⟨q1, (g.fr a ho q3 (lf.nt h0 a ha ho q3)).trans q2⟩
      have hk : ∀ a, a ∉ F i → ∀ o, H3 a = some o → upd H3 q (.lst (vs.set c.toNat (.int (f z y)))) a = some o := fun a ha o e => by
        rw [upd_ne (fun z => ha (by rw [z]; exact hqF))]; exact e
      refine k G3 _ ((g.step hB).trans (Stp.mut (hB.trans g.h) g.gh hf3 hk)) σ (lg.mut (fp := F i) (d' := ot (MT.mk (rows.set r.toNat (row.set c.toNat (f z y))))) h0 ev hk (fun a ha => ?_) ?_)
      · obtain ⟨q1, q2, ho, q3⟩ := hf a ha
        refine ⟨.inl ha, q1, (hf3 a ha).2, ?_⟩
        by_cases haq : a = q
        · subst haq; exact ⟨_, upd_same⟩
        · exact ⟨ho, by rw [upd_ne haq]; exact g.h _ _ q3⟩
      · have hnd' : (p :: qs).Nodup := by rw [← hF]; exact hnd
        have hpq : p ≠ q := fun z => by subst z; exact (List.nodup_cons.mp hnd').1 (List.mem_of_getElem? hq)
        refine ⟨p, qs, rfl, hF, hnd, by rw [upd_ne hpq]; exact g.h _ _ hp', ?_⟩
        refine rows_set r.toNat (List.nodup_cons.mp hnd').2 hq ⟨_, upd_same, paired_set (R := Rp.rep X.K G3) (x := V.int (f z y)) (y := f z y) rfl _ (rvs.mono g.g)⟩ (fun a _ hne => by rw [upd_ne hne]) (hrows.mono g.g fun a ha => ?_)
        obtain ⟨_, _, ho, q3⟩ := hf a (by rw [hF]; exact List.mem_cons_of_mem _ ha)
        rw [g.h _ _ q3, q3]⟩
/-- [[..] for x in xs]: new lists in a new list -/
theorem el_lcT {α β : Type} [Rp α] [Rp β] {xs : List α} {scope : Scope} {own : List (Str × Nat)} (Γ1 : α → List Slot) (f : α → List β) (hi : IV X Γ tg iter xs)
    (ht : ∀ s H C cl fp x, TX (blkX X scope s H C cl fp) (own.map (·.2)) (wipeG Γ (own.map (·.2))) tg x (Γ1 x))
    (he : ∀ pre x post, xs = pre ++ x :: post → ∀ s H C cl fp, EN (blkX X scope s H C cl fp) (Γ1 x) elt (ML.mk (f x))) (hsz : xs.length ≤ 10000000) :
    EL X Γ tg iter [] elt scope own (MT.mk (xs.map f)) := by
  refine ⟨fun v σ H Q => ∀ s H0 C cl fp, WG (blkX X scope s H0 C cl fp) tg v σ H Q, tYes, fun σ H Q => ∀ s H0 C cl fp, WE (blkX X scope s H0 C cl fp) elt σ H Q,
    fun s H0 C cl fp => ⟨fun pins s' _ _ _ u _ I r h => h s H0 C cl fp pins s' u I r⟩, fun _ _ _ _ _ => pts_nil, fun s H0 C cl fp => ⟨fun pins s' _ _ _ I h => h s H0 C cl fp pins s' I⟩, fun B G H σ hB hg l Q q => ?_⟩
  refine hi B G H σ hB hg l _ fun J G1 H1 g1 hJ D hD => ?_
  refine ⟨fun i m H' => m = xs.length - i ∧ i ≤ xs.length ∧ ∃ G' qs, Grow G1 H1 G' H' ∧ (D :: qs).Nodup ∧ G' D = none ∧ (∀ a ∈ qs, H1 a = none ∧ G' a = none) ∧ H' D = some (.lst (qs.map V.ref)) ∧ RowsOk X.K G' H' qs ((xs.take i).map f),
    ⟨xs.length, by simp, Nat.zero_le _, G1, [], Grow.own g1.gh hD, by simp, g1.gh.free hD, by simp, upd_same, .nil⟩, ?_⟩
  rintro i m H' ⟨rfl, hi', G', qs, g', hnd, hGD, hqs, hHD, rws⟩
  have qlen : qs.length = i := by
    have := Paired.length rws
    rw [this, List.length_map, List.length_take]
    omega
  by_cases hlt : i < xs.length
  · obtain ⟨hgo, hy⟩ := hJ.1 i G' H' g'.g g'.gh hlt
    refine .inr ⟨hgo, fun H2 => ∃ G2 qs, Grow G1 H1 G2 H2 ∧ (D :: qs).Nodup ∧ G2 D = none ∧ (∀ a ∈ qs, H1 a = none ∧ G2 a = none) ∧ H2 D = some (.lst (qs.map V.ref)) ∧ RowsOk X.K G2 H2 qs ((xs.take (i + 1)).map f), fun H2 ⟨G2, qs2, a1, a2, a3, a4, a5, a6⟩ => ⟨xs.length - (i + 1), by omega, rfl, hlt, G2, qs2, a1, a2, a3, a4, a5, a6⟩, fun v H3 hv => ?_⟩
    obtain ⟨G3, x, g3, hx, rx⟩ := hy v H3 hv
    have ex : xs = xs.take i ++ x :: xs.drop (i + 1) := by
      have h1 : xs[i] = x := by rw [List.getElem?_eq_getElem hlt] at hx; exact Option.some.inj hx
      rw [← h1, List.getElem_cons_drop, List.take_append_drop]
    have et : xs.take (i + 1) = xs.take i ++ [x] := by rw [List.take_add_one, hx]; rfl
    intro s H0 C cl fp
    have lw := ((l.grow g1).grow (g'.trans g3)).wipe (own.map (·.2))
    refine ht s H0 C cl fp x B G3 H3 _ v (hB.trans (g1.trans (g'.trans g3)).h) g3.gh lw rx _ fun σ2 ew l2 => ⟨?_, ?_⟩
    · rw [ew]
      have idem : ∀ (ws : List Nat) (τ : L2.St), L2.wipe (L2.wipe τ ws) ws = L2.wipe τ ws := by
        intro ws
        induction ws with
        | nil => intro τ; rfl
        | cons w ws ih =>
          intro τ
          show (L2.wipe ((L2.wipe τ ws).set w none) ws).set w none = (L2.wipe τ ws).set w none
          by_cases hw : w ∈ ws
          · rw [wipe_set hw, ih]
          · have : ∀ (us : List Nat) (τ : L2.St), w ∉ us → L2.wipe (τ.set w none) us = (L2.wipe τ us).set w none := by
              intro us
              induction us with
              | nil => intro τ _; rfl
              | cons u us ih2 =>
                intro τ hu
                show (L2.wipe (τ.set w none) us).set u none = ((L2.wipe τ us).set u none).set w none
                rw [ih2 τ (fun h => hu (List.mem_cons_of_mem _ h)), List.set_comm _ _ (fun e : w = u => hu (by rw [e]; exact List.mem_cons_self))]
            rw [this ws _ hw, List.set_set, ih]
      exact idem _ _
    · have hBH := hB.trans (g1.trans (g'.trans g3)).h
      intro s H0 C cl fp
      refine he _ x _ ex s H0 C cl fp B G3 H3 σ2 hBH g3.gh l2 _ fun y fq G5 H5 g5 hfq oky => ?_
      obtain ⟨q, vs, rfl, rfl, hq, rq⟩ := oky
      obtain ⟨hq3, hq5, _⟩ := hfq q (by simp)
      have gA := g3.trans g5
      have hq' : H' q = none := g3.h.free hq3
      have qnD : q ≠ D := fun z => by subst z; rw [hHD] at hq'; cases hq'
      have oldq : ∀ a ∈ qs, ∃ vs0, H' a = some (.lst vs0) := fun a ha => by
        obtain ⟨j, hj⟩ := List.mem_iff_getElem?.mp ha
        obtain ⟨row, _, vs', h', _⟩ := paired_get rws j a hj
        exact ⟨_, h'⟩
      have qnq : q ∉ qs := fun z => by obtain ⟨ho, e⟩ := oldq q z; rw [hq'] at e; cases e
      have Dnq : D ∉ qs := (List.nodup_cons.mp hnd).1
      have hG5 : G5 D = none := (gA.fr D _ hHD).trans hGD
      refine ⟨qs.map V.ref, gA.h _ _ hHD, ?_, G5, qs ++ [q], ?_, ?_, hG5, fun a ha => ?_, by rw [List.map_append]; exact upd_same, ?_⟩
      · rw [List.length_map, qlen, sizeLine_eq]; omega
      · have gB := g'.trans gA
        refine ⟨gB.g, fun b u e => ?_, fun b u e => ?_, gB.fr0⟩
        · rw [upd_ne (ne_of_none e hD)]; exact gB.h b u e
        · rw [upd_ne (ne_of_none e hG5)]; exact gB.gh b u e
      · rw [List.nodup_cons]
        refine ⟨by simp [Dnq, Ne.symm qnD], ?_⟩
        rw [List.nodup_append]
        exact ⟨(List.nodup_cons.mp hnd).2, by simp, fun a ha b hb z => by have : b = q := by simpa using hb
                                                                          subst this; subst z; exact qnq ha⟩
      · rcases List.mem_append.mp ha with ha | ha
        · obtain ⟨h1, h2⟩ := hqs a ha
          obtain ⟨ho, e⟩ := oldq a ha
          exact ⟨h1, (gA.fr a _ e).trans h2⟩
        · have : a = q := by simpa using ha
          subst this
          exact ⟨g'.h.free hq', hq5⟩
      · rw [et, List.map_append]
        refine paired_app (R := fun q row => ∃ vs, upd H5 D _ q = some (.lst vs) ∧ Reps X.K G5 vs row) (RowsOk.mono gA.g (fun a ha => ?_) rws) (.cons ⟨vs, by rw [upd_ne qnD]; exact hq, rq⟩ .nil)
        obtain ⟨ho, e⟩ := oldq a ha
        rw [upd_ne (fun z => Dnq (by rw [← z]; exact ha)), gA.h _ _ e, e]
  · have ei : i = xs.length := by omega
    subst ei
    rw [List.take_length] at rws
    refine .inl ⟨hJ.2 G' H' g'.g g'.gh, q (.ref D) (D :: qs) G' H' (g1.trans g') (fun a ha => ?_) ⟨D, qs, rfl, rfl, hnd, hHD, rws⟩⟩
    rcases List.mem_cons.mp ha with ha | ha
    · subst ha; exact ⟨g1.h.free hD, hGD, _, hHD⟩
    · obtain ⟨j, hj⟩ := List.mem_iff_getElem?.mp ha
      obtain ⟨row, _, vs', h', _⟩ := paired_get rws j a hj
      exact ⟨g1.h.free (hqs a ha).1, (hqs a ha).2, _, h'⟩
end
end Wl
namespace Wl
open PySem PySem.Spec PyProof.Rows L2
/-- t[r][c] op= y, as a table -/
def augT (rows : List (List Int)) (r c : Int) (f : Int → Int → Int) (y : Int) : List (List Int) := rows.set r.toNat ((rows.getD r.toNat []).set c.toNat (f ((rows.getD r.toNat []).getD c.toNat 0) y))
theorem sv_augTD {X : Cx} {Γ : List Slot} {st : Stmt} (i : Nat) {rows : List (List Int)} {r c y : Int} {e1 e2 e3 : Expr} {f : Int → Int → Int} (hp : PS X st (tAugS (tOp (rIxL X.K) (tVar i) (WE X e1)) (WE X e2) (WE X e3) (rGetL X.K) (ipI f) rSetL)) (h0 : Γ[i]? = some (.o (MT.mk rows))) (h1 : EV X Γ e1 r) (h2 : EV X Γ e2 c) (h3 : EV X Γ e3 y)
    (hs : 0 ≤ r ∧ r < (rows.length : Int) ∧ 0 ≤ c ∧ c < ((rows.getD r.toNat []).length : Int)) : SV X Γ st (.nx (Γ.set i (.o (MT.mk (augT rows r c f y))))) := by
  obtain ⟨a1, a2, a3, a4⟩ := hs
  have hr : rows[r.toNat]? = some (rows.getD r.toNat []) := by
    have h : r.toNat < rows.length := by omega
    rw [List.getD_eq_getElem?_getD, List.getElem?_eq_getElem h]; rfl
  have get : ∀ (l : List Int) (k : Nat), k < l.length → l[k]? = some (l.getD k 0) := fun l k h => by
    rw [List.getD_eq_getElem?_getD, List.getElem?_eq_getElem h]; rfl
  have hc : (rows.getD r.toNat [])[c.toNat]? = some ((rows.getD r.toNat []).getD c.toNat 0) := get _ _ (by omega)
  exact sv_augT i hp h0 h1 h2 h3 a1 hr a3 hc
end Wl

set_option maxRecDepth 100000
set_option maxHeartbeats 2000000
namespace Wl
open PySem PySem.Spec PyProof.Rows L2
section
variable {X : Cx} {Γ Γ' : List Slot} {st : Stmt} {sts els rest : List Stmt} {a b c d e tg iter elt : Expr} {es elts ifs : List Expr} {pos : Pos} {o : Out}
/-! ### more iterables -/
theorem iters_of {α : Type} [Rp α] {K : PySem.W.Frag} {J : It} {G1 : Hp} {xs : List α} (n : Nat) (hn : xs.length = n) (h1 : ∀ i G2 H2, Same G1 G2 → Same G2 H2 → i < n → J.go i H2 ∧ ∀ v H3, J.yld i H2 v H3 → ∃ G3 x, Grow G2 H2 G3 H3 ∧ xs[i]? = some x ∧ Rp.rep K G3 v x) (h2 : ∀ G2 H2, Same G1 G2 → Same G2 H2 → J.stop n H2) : Iters K J G1 xs := by
  subst hn; exact ⟨h1, h2⟩
theorem iters_down {K : PySem.W.Frag} {G : Hp} {hi : Int} {n : Nat} : Iters K (Itc hi (-1) n) G (iseq (hi - n + 1) n).reverse := by
  refine iters_of n (by simp [iseq_len]) (fun i G2 H2 g h hi' => ⟨hi', fun v H3 hy => ?_⟩) fun G2 H2 g h => Nat.le_refl _
  obtain ⟨e1, e2⟩ := hy
  subst e1 e2
  refine ⟨G2, hi + (i : Nat) * (-1), Grow.refl h, ?_, rfl⟩
  rw [List.getElem?_reverse (by rw [iseq_len]; exact hi'), iseq_len, iseq_get (by omega)]
  congr 1
  omega
/-- reversed(range(..)) -/
theorem iv_revRange {p : Pos} {lo hi : Int} (hm : X.mg "reversed" = none) (h : ER X Γ a lo hi) (hb : -(2 ^ 62) ≤ lo ∧ lo < 2 ^ 62 ∧ -(2 ^ 62) ≤ hi ∧ hi < 2 ^ 62) (hg : Gl X "reversed" := by rfl) (hs : starEach [a] X.env = (false, eval a X.env) :: starEach [] X.env := by rfl) :
    IV X Γ tg (.Call (.Name "reversed" p) [a] [] pos) (iseq lo (hi - lo).toNat).reverse := ⟨fun B G H σ hB hgh l R q =>
  wi (pi_revR (tr := fun σ2 H2 Q2 => σ2 = σ ∧ H2 = H ∧ ∀ G' H', Grow G H G' H' → Q2 lo hi H') hg hm (fun pins s σ2 H2 Q2 I ⟨e1, e2, q2⟩ => by subst e1 e2; exact h B G _ _ hB hgh l Q2 q2 pins s I) hs)
    ⟨rfl, rfl, fun G1 H1 g1 => ⟨hb.1, hb.2.1, hb.2.2.1, hb.2.2.2, q _ G1 H1 g1 (by
      have h := iters_down (K := X.K) (G := G1) (hi := lo + (((hi - lo).toNat : Nat) : Int) - 1) (n := (hi - lo).toNat)
      rw [show lo + (((hi - lo).toNat : Nat) : Int) - 1 - ((hi - lo).toNat : Nat) + 1 = lo by omega] at h
      exact h)⟩⟩⟩
/-- range(i, j, -1) -/
theorem iv_rangeDown {p : Pos} {i j : Int} (hm : X.mg "range" = none) (ha : EV X Γ a i) (hb : EV X Γ b j) (hc : EV X Γ c (-1 : Int)) (hbd : -(2 ^ 62) ≤ i ∧ i < 2 ^ 62 ∧ -(2 ^ 62) ≤ j ∧ j < 2 ^ 62) (hle : j ≤ i) (hg : Gl X "range" := by rfl)
    (hs : starEach [a, b, c] X.env = (false, eval a X.env) :: starEach [b, c] X.env := by rfl) (hs2 : starEach [b, c] X.env = (false, eval b X.env) :: starEach [c] X.env := by rfl) (hs3 : starEach [c] X.env = (false, eval c X.env) :: starEach [] X.env := by rfl)
    (hpl : (backTo pos (starEach [b, c] X.env)).any (·.1) = false := by rfl) : IV X Γ tg (.Call (.Name "range" p) [a, b, c] [] pos) (iseq (j + 1) (i - j).toNat).reverse := ⟨fun B G H σ hB hgh l R q =>
  wi (pi_range3 hg hm pa hs hpl) (ea_cons ha (ea_cons hb (ea_cons hc ea_nil hs3) hs2) hs B G H σ hB hgh l _ fun vs G1 H1 g1 r1 => by
    cases r1 with | cons r1 t => cases t with | cons r2 t => cases t with | cons r3 t => cases t; exact ⟨i, j, -1, (i - j).toNat, by rw [show _ = V.int i from r1, show _ = V.int j from r2, show _ = V.int (-1) from r3], RgC.neg hbd.1 hbd.2.1 hbd.2.2.1 hbd.2.2.2, q _ G1 H1 g1 (by
      have h := iters_down (K := X.K) (G := G1) (hi := i) (n := (i - j).toNat)
      rw [show i - ((i - j).toNat : Nat) + 1 = j + 1 by omega] at h
      exact h)⟩)⟩
/-- reversed(xs) -/
theorem iv_reversed {p : Pos} {α : Type} [Rp α] {xs : List α} (hm : X.mg "reversed" = none) (h : EV X Γ a xs) (hg : Gl X "reversed" := by rfl) (hs : starEach [a] X.env = [(false, eval a X.env)] := by rfl) (hs1 : starEach [a] X.env = (false, eval a X.env) :: starEach [] X.env := by rfl) :
    IV X Γ tg (.Call (.Name "reversed" p) [a] [] pos) xs.reverse := ⟨fun B G H σ hB hgh l R q =>
  wi (pi_reversed hg hm pa hs) (ea_cons h ea_nil hs1 B G H σ hB hgh l _ fun vs G1 H1 g1 r1 => by
    cases r1 with
    | cons r1 t =>
      cases t
      obtain ⟨p, ws, rfl, hs, hr⟩ := r1
      refine ⟨p, ws, rfl, Same.seq g1.gh hs, q _ G1 H1 g1 (iters_of ws.length (by simp [hr.len]) (fun i G2 H2 g h hi => ?_) fun G2 H2 g h => Nat.le_refl _)⟩
      have hlt : ws.length - 1 - i < xs.length := by rw [← hr.len]; omega
      obtain ⟨v, hv, rv⟩ := paired_get2 hr (ws.length - 1 - i) xs[ws.length - 1 - i] (List.getElem?_eq_getElem hlt)
      refine ⟨⟨hi, ws, v, Same.seq (g.trans h) hs, hv⟩, fun u H3 hy => ?_⟩
      obtain ⟨e, hy⟩ := hy
      subst e
      have e2 := hy ws (Same.seq (g.trans h) hs)
      rw [hv] at e2
      cases e2
      refine ⟨G2, _, Grow.refl h, ?_, Rp.mono g rv⟩
      rw [List.getElem?_reverse (by rw [← hr.len]; exact hi), ← hr.len]
      exact List.getElem?_eq_getElem hlt)⟩
/-- enumerate(xs) -/
def enumL {α : Type} (xs : List α) : List (T2 Int α) := xs.mapIdx fun i x => T2.mk (i : Int) x
theorem iv_enum {p tpos : Pos} {kk : Nat} {α : Type} [Rp α] {xs : List α} (hm : X.mg "enumerate" = none) (h : EV X Γ a xs) (hg : Gl X "enumerate" := by rfl) (hs : starEach [a] X.env = [(false, eval a X.env)] := by rfl) (hs1 : starEach [a] X.env = (false, eval a X.env) :: starEach [] X.env := by rfl) :
    IV X Γ (.Tuple elts kk tpos) (.Call (.Name "enumerate" p) [a] [] pos) (enumL xs) := ⟨fun B G H σ hB hgh l R q =>
  wi (pi_enum hg hm pa hs) (ea_cons h ea_nil hs1 B G H σ hB hgh l _ fun vs G1 H1 g1 r1 => by
    cases r1 with
    | cons r1 t =>
      cases t
      obtain ⟨p, ws, rfl, hs, hr⟩ := r1
      refine ⟨p, ws, rfl, Same.seq g1.gh hs, q _ G1 H1 g1 (iters_of ws.length (by simp [enumL, hr.len]) (fun i G2 H2 g h hi => ?_) fun G2 H2 g h => ⟨ws, Same.seq (g.trans h) hs, Nat.le_refl _⟩)⟩
      have hlt : i < xs.length := by rw [← hr.len]; exact hi
      obtain ⟨v, hv, rv⟩ := paired_get2 hr i xs[i] (List.getElem?_eq_getElem hlt)
      refine ⟨⟨ws, v, Same.seq (g.trans h) hs, hv⟩, fun u H3 hy => ?_⟩
      obtain ⟨T, x, e, hT, e3, hy⟩ := hy
      subst e e3
      have e2 := hy ws (Same.seq (g.trans h) hs)
      rw [hv] at e2
      cases e2
      have gn := Grow.new (o := .tup [.int (i : Nat), v]) h hT
      refine ⟨upd G2 T (.tup [.int (i : Nat), v]), T2.mk (i : Int) xs[i], gn, ?_, T, .int (i : Nat), v, rfl, SqT.of upd_same, rfl, Rp.mono (g.trans gn.g) rv⟩
      unfold enumL
      rw [List.getElem?_mapIdx, List.getElem?_eq_getElem hlt]
      rfl)⟩
/-- zip(xs, ys) -/
def zipL {α β : Type} (xs : List α) (ys : List β) : List (T2 α β) := (xs.zip ys).map fun p => T2.mk p.1 p.2
theorem iv_zip {p tpos : Pos} {kk : Nat} {α β : Type} [Rp α] [Rp β] {xs : List α} {ys : List β} (hm : X.mg "zip" = none) (h : EV X Γ a xs) (h2 : EV X Γ b ys) (hg : Gl X "zip" := by rfl) (hs : starEach [a, b] X.env = (false, eval a X.env) :: starEach [b] X.env := by rfl) (hs1 : starEach [b] X.env = (false, eval b X.env) :: starEach [] X.env := by rfl) (hpl : (backTo pos (starEach [b] X.env)).any (·.1) = false := by rfl) :
    IV X Γ (.Tuple elts kk tpos) (.Call (.Name "zip" p) [a, b] [] pos) (zipL xs ys) := ⟨fun B G H σ hB hgh l R q =>
  wi (pi_zip hg hm pa hs hpl) (ea_cons h (ea_cons h2 ea_nil hs1) hs B G H σ hB hgh l _ fun vs G1 H1 g1 r1 => by
    cases r1 with
    | cons r1 t =>
      cases t with
      | cons r2 t =>
        cases t
        obtain ⟨p, ws, rfl, hs, hr⟩ := r1
        obtain ⟨p2, ws2, rfl, hs2, hr2⟩ := r2
        refine ⟨p, p2, ws, ws2, rfl, Same.seq g1.gh hs, Same.seq g1.gh hs2, q _ G1 H1 g1 (iters_of (min xs.length ys.length) (by simp [zipL]) (fun i G2 H2 g h hi => ?_) fun G2 H2 g h => ⟨ws, ws2, Same.seq (g.trans h) hs, Same.seq (g.trans h) hs2, by have l1 : ws.length = xs.length := hr.len; have l2 : ws2.length = ys.length := hr2.len; omega⟩)⟩
        have hlt : i < xs.length := by omega
        have hlt2 : i < ys.length := by omega
        obtain ⟨v, hv, rv⟩ := paired_get2 hr i xs[i] (List.getElem?_eq_getElem hlt)
        obtain ⟨v2, hv2, rv2⟩ := paired_get2 hr2 i ys[i] (List.getElem?_eq_getElem hlt2)
        refine ⟨⟨ws, ws2, v, v2, Same.seq (g.trans h) hs, Same.seq (g.trans h) hs2, hv, hv2⟩, fun u H3 hy => ?_⟩
        obtain ⟨T, x, y, e, hT, e3, hy, hy2⟩ := hy
        subst e e3
        have e2 := hy ws (Same.seq (g.trans h) hs)
        rw [hv] at e2
        cases e2
        have e2 := hy2 ws2 (Same.seq (g.trans h) hs2)
        rw [hv2] at e2
        cases e2
        have gn := Grow.new (o := .tup [v, v2]) h hT
        refine ⟨upd G2 T (.tup [v, v2]), T2.mk xs[i] ys[i], gn, ?_, T, v, v2, rfl, SqT.of upd_same, Rp.mono (g.trans gn.g) rv, Rp.mono (g.trans gn.g) rv2⟩
        unfold zipL
        rw [List.getElem?_map, List.getElem?_zip_eq_some (z := (xs[i], ys[i])) |>.mpr ⟨List.getElem?_eq_getElem hlt, List.getElem?_eq_getElem hlt2⟩]
        rfl)⟩
/-- a text, sign by sign -/
def signs (z : Str) : List Str := z.cps.toList.map fun c => ⟨#[c]⟩
theorem iv_str {z : Str} (h : EV X Γ iter z) : IV X Γ tg iter (signs z) := ⟨fun B G H σ hB hg l R q =>
  wi (pi_str pe) (h B G H σ hB hg l _ fun v G1 H1 g1 r1 => ⟨z, r1, q _ G1 H1 g1 (iters_of z.cps.size (by simp [signs]) (fun i G2 H2 g h hi => ⟨hi, fun u H3 hy => by
    obtain ⟨e, c, hc, e2⟩ := hy
    subst e e2
    refine ⟨G2, ⟨#[c]⟩, Grow.refl h, ?_, rfl⟩
    unfold signs
    rw [List.getElem?_map, Array.getElem?_toList, hc]
    rfl⟩) fun G2 H2 g h => Nat.le_refl _)⟩)⟩

/-! ### None or a datum -/
class NN (α : Type) [Rp α] : Prop where
  nn : ∀ {K : PySem.W.Frag} {G : Hp} {v : V} {x : α}, Rp.rep K G v x → v ≠ .non
instance : NN Int := ⟨fun {K G v x} h e => by have h : v = .int x := h; rw [e] at h; cases h⟩
instance : NN Bool := ⟨fun {K G v x} h e => by have h : v = .bl x := h; rw [e] at h; cases h⟩
instance : NN Str := ⟨fun {K G v x} h e => by have h : v = .str x := h; rw [e] at h; cases h⟩
instance {α : Type} [Rp α] : NN (List α) := ⟨fun h e => by obtain ⟨p, vs, h, _⟩ := h; rw [e] at h; cases h⟩
instance {α : Type} [Rp α] : NN (T1 α) := ⟨fun h e => by obtain ⟨p, v1, h, _⟩ := h; rw [e] at h; cases h⟩
instance {α β : Type} [Rp α] [Rp β] : NN (T2 α β) := ⟨fun h e => by obtain ⟨p, v1, v2, h, _⟩ := h; rw [e] at h; cases h⟩
instance {α β γ : Type} [Rp α] [Rp β] [Rp γ] : NN (T3 α β γ) := ⟨fun h e => by obtain ⟨p, v1, v2, v3, h, _⟩ := h; rw [e] at h; cases h⟩
instance {α β γ δ : Type} [Rp α] [Rp β] [Rp γ] [Rp δ] : NN (T4 α β γ δ) := ⟨fun h e => by obtain ⟨p, v1, v2, v3, v4, h, _⟩ := h; rw [e] at h; cases h⟩
instance {α β γ δ ε : Type} [Rp α] [Rp β] [Rp γ] [Rp δ] [Rp ε] : NN (T5 α β γ δ ε) := ⟨fun h e => by obtain ⟨p, v1, v2, v3, v4, v5, h, _⟩ := h; rw [e] at h; cases h⟩
theorem ev_some {α : Type} [Rp α] [NN α] {x : α} (h : EV X Γ e x) : EV X Γ e (some x) := ⟨fun B G H σ hB hg l Q q => h B G H σ hB hg l Q fun v G1 H1 g1 r1 => q v G1 H1 g1 ⟨r1, NN.nn r1⟩⟩
theorem ev_oN {α : Type} [Rp α] (h : EV X Γ e ()) : EV X Γ e (none : Option α) := ⟨fun B G H σ hB hg l Q q => h B G H σ hB hg l Q fun v G1 H1 g1 r1 => q v G1 H1 g1 r1⟩
/-- known not to be None -/
theorem ev_get {α : Type} [Rp α] {x : Option α} {y : α} (h : EV X Γ e x) (hx : x = some y) : EV X Γ e y := ⟨fun B G H σ hB hg l Q q => h B G H σ hB hg l Q fun v G1 H1 g1 r1 => by subst hx; exact q v G1 H1 g1 r1.1⟩
theorem opt_none {α : Type} [Rp α] {K : PySem.W.Frag} {G : Hp} {v : V} {x : Option α} (r : Rp.rep K G v x) : decide (v = .non) = x.isNone := by
  cases x with
  | none => rw [show v = .non from r]; rfl
  | some y => exact decide_eq_false r.2
theorem ev_isN {α : Type} [Rp α] {x : Option α} {j : Nat} {pos' : Pos} (h : EV X Γ a x) : EV X Γ (.Compare a [.Is] [.Constant .none j pos'] pos) x.isNone := ⟨fun B G H σ hB hg l Q q =>
  we (pe_cmp (pc_isN pe) rfl) (h B G H σ hB hg l _ fun v G1 H1 g1 r1 => by rw [opt_none r1]; exact q _ G1 H1 g1 rfl)⟩
theorem ev_notN {α : Type} [Rp α] {x : Option α} {j : Nat} {pos' : Pos} (h : EV X Γ a x) : EV X Γ (.Compare a [.IsNot] [.Constant .none j pos'] pos) (!x.isNone) := ⟨fun B G H σ hB hg l Q q =>
  we (pe_cmp (pc_notN pe) rfl) (h B G H σ hB hg l _ fun v G1 H1 g1 r1 => by rw [opt_none r1]; exact q _ G1 H1 g1 rfl)⟩
theorem et_isN {α : Type} [Rp α] {x : Option α} {j : Nat} {pos' : Pos} (h : EV X Γ a x) : ET X Γ (.Compare a [.Is] [.Constant .none j pos'] pos) x.isNone := ⟨fun B G H σ hB hg l Q q =>
  wt (pt_cmp (pc_isN pe) rfl) (h B G H σ hB hg l _ fun v G1 H1 g1 r1 => ⟨_, rfl, by rw [opt_none r1]; exact q G1 H1 g1⟩)⟩
theorem et_notN {α : Type} [Rp α] {x : Option α} {j : Nat} {pos' : Pos} (h : EV X Γ a x) : ET X Γ (.Compare a [.IsNot] [.Constant .none j pos'] pos) (!x.isNone) := ⟨fun B G H σ hB hg l Q q =>
  wt (pt_cmp (pc_notN pe) rfl) (h B G H σ hB hg l _ fun v G1 H1 g1 r1 => ⟨_, rfl, by rw [opt_none r1]; exact q G1 H1 g1⟩)⟩
instance : Sc (Option Int) := ⟨fun x => match x with
  | none => .non
  | some i => .int i, fun {K G v x} h => by
  cases x with
  | none => exact h
  | some i => exact h.1, fun x y => by cases x <;> cases y <;> rfl, fun x y h => by
  cases x <;> cases y
  · rfl
  · cases h
  · cases h
  · exact congrArg some (V.int.inj h)⟩
/-- isinstance of None or a datum -/
theorem ev_isiO {α : Type} [Rp α] [Ty1 α] {x : Option α} {T : String} {r r0 : Bool} {p : Pos} (hm : X.mg "isinstance" = none) (ha : EV X Γ a x) (hb : EV X Γ b (TyN.mk T)) (hr : kitB (Ty1.t α) T = some r) (hr0 : kitB "NoneType" T = some r0) (hg : Gl X "isinstance" := by rfl) (hs : starEach [a, b] X.env = (false, eval a X.env) :: starEach [b] X.env := by rfl) (hs2 : starEach [b] X.env = (false, eval b X.env) :: starEach [] X.env := by rfl)
    (hpl : (backTo pos (starEach [b] X.env)).any (·.1) = false := by rfl) : EV X Γ (.Call (.Name "isinstance" p) [a, b] [] pos) (bif x.isNone then r0 else r) := by
  cases x with
  | none => exact ev_isi (α := Unit) (x := ()) hm ⟨fun B G H σ hB hg l Q q => ha B G H σ hB hg l Q fun v G1 H1 g1 r1 => q v G1 H1 g1 r1⟩ hb hr0 hg hs hs2 hpl
  | some y => exact ev_isi (α := α) (x := y) hm (ev_get ha rfl) hb hr hg hs hs2 hpl

/-! ### stores into one's own list -/
theorem sv_setL (i : Nat) {α : Type} [Rp α] {xs : List α} {r : Int} {x : α} {e1 e2 : Expr} (hp : PS X st (tAsg (WE X e2) (gSub (tVar i) (WE X e1) rSetL))) (h0 : Γ[i]? = some (.l xs)) (h2 : EV X Γ e2 x) (h1 : EV X Γ e1 r) (hr : 0 ≤ r ∧ r < (xs.length : Int)) : SV X Γ st (.nx (Γ.set i (.l (xs.set r.toNat x)))) := ⟨fun B G H σ D hB hg l k => by
  obtain ⟨F, p, vs, lf, hF, e1', hbp, hgp, hh, rr⟩ := ownL l h0
  refine ws hp (h2 B G H σ hB hg l _ fun v G1 H1 g1 r1 => ⟨_, e1', h1 B G1 H1 σ (hB.trans g1.h) g1.gh (l.grow g1) _ fun u G2 H2 g2 r2 => ?_⟩)
  have g := g1.trans g2
  have hgp2 := (g.fr p _ hh).trans hgp
  refine ⟨p, vs, r, r.toNat, rfl, r2, g.h _ _ hh, ?_, ?_⟩
  · have := rr.len
    unfold ixN
    rw [if_pos hr.1, if_pos (by omega)]
  · exact k G2 _ ((g.step hB).trans (Stp.mutL (hB.trans g.h) g.gh hbp hgp2)) σ ((lf.grow g).mutL h0 hF e1' hbp hgp2 (paired_set (Rp.mono g2.g r1) _ (rr.mono g.g)))⟩
/-- xs[::-1], new -/
theorem en_rev {α : Type} [Rp α] {xs : List α} {k : Nat} {p1 p2 p3 : Pos} (h : EV X Γ a xs) : EN X Γ (.Subscript a (.Slice none none (some (.UnaryOp .USub (.Constant (.int 1) k p1) p2)) p3) pos) (ML.mk xs.reverse) := ⟨fun B G H σ hB hg l Q q =>
  we (pe_revL pe) (h B G H σ hB hg l _ fun v G1 H1 g1 r1 => by
    obtain ⟨p, vs, rfl, hs, hr⟩ := r1
    refine ⟨p, vs, rfl, Same.seq g1.gh hs, fun r hn => q (.ref r) [r] G1 _ (g1.trans (Grow.own g1.gh hn)) (one_new (g1.h.free hn) (g1.gh.free hn)) ⟨r, _, rfl, rfl, upd_same, ?_⟩⟩
    have : ∀ {vs : List V} {xs : List α}, Reps X.K G1 vs xs → Reps X.K G1 vs.reverse xs.reverse := by
      intro vs xs r
      induction r with
      | nil => exact .nil
      | cons r1 t ih => rw [List.reverse_cons, List.reverse_cons]; exact paired_app ih (.cons r1 .nil)
    exact this hr)⟩

/-! ### dicts with int keys, one's own -/
structure MD (β : Type) where
  kvs : List (Int × β)
def DRep {β : Type} [Rp β] (K : PySem.W.Frag) (G : Hp) (ws : List (Key × V)) (kvs : List (Int × β)) : Prop := Paired (fun w y => w.1 = Sum.inl y.1 ∧ Rp.rep K G w.2 y.2) ws kvs
theorem DRep.mono {β : Type} [Rp β] {K : PySem.W.Frag} {G G' : Hp} {ws : List (Key × V)} {kvs : List (Int × β)} (e : Same G G') (h : DRep K G ws kvs) : DRep K G' ws kvs := Paired.mapP h fun _ _ r => ⟨r.1, Rp.mono e r.2⟩
instance {β : Type} [Rp β] : Ow (MD β) := ⟨fun K G H v fp x => ∃ p ws, v = .ref p ∧ fp = [p] ∧ H p = some (.dK ws) ∧ DRep K G ws x.kvs, fun e eh h => by obtain ⟨p, ws, h0, h1, h2, hr⟩ := h; exact ⟨p, ws, h0, h1, by rw [eh p (by rw [h1]; simp)]; exact h2, hr.mono e⟩, fun h => by obtain ⟨p, vs, _, rfl, h2, _⟩ := h; exact nt_one h2 nt_dK⟩
/-- a dict, read only -/
structure DV (β : Type) where
  kvs : List (Int × β)
instance {β : Type} [Rp β] : Rp (DV β) := ⟨fun K G v x => ∃ p ws, v = .ref p ∧ Rd G p (.dK ws) ∧ DRep K G ws x.kvs, fun e h => by
  obtain ⟨p, ws, h0, h1, hr⟩ := h
  refine ⟨p, ws, h0, ?_, hr.mono e⟩
  rcases h1 with h1 | ⟨o, h1⟩
  · exact .inl (e _ _ h1)
  · exact .inr ⟨o, e _ _ h1⟩⟩
instance {β : Type} [Rp β] : Fz (MD β) (DV β) := ⟨fun x => ⟨x.kvs⟩, fun {K G H v fp x} hf h => by
  obtain ⟨p, ws, rfl, rfl, h2, r⟩ := h
  exact ⟨p, ws, rfl, .inl (by rw [gl_in (by simp)]; exact h2), r.mono (gl_up hf)⟩⟩
def dput {β : Type} (kvs : List (Int × β)) (k : Int) (v : β) : List (Int × β) := if (kvs.any fun p => decide (p.1 = k)) = true then kvs.map (fun p => if p.1 = k then (p.1, v) else p) else kvs ++ [(k, v)]
def dget {β : Type} (kvs : List (Int × β)) (k : Int) : Option β := (kvs.find? fun p => decide (p.1 = k)).map (·.2)
theorem inl_dec (a b : Int) : decide ((Sum.inl a : Key) = Sum.inl b) = decide (a = b) := by
  by_cases h : a = b
  · subst h; simp
  · rw [decide_eq_false h, decide_eq_false fun e => h (Sum.inl.inj e)]
theorem DRep.any {β : Type} [Rp β] {K : PySem.W.Frag} {G : Hp} {ws : List (Key × V)} {kvs : List (Int × β)} (h : DRep K G ws kvs) (k : Int) : (ws.any fun w => decide (w.1 = Sum.inl k)) = kvs.any fun p => decide (p.1 = k) := by
  unfold DRep at h
  induction h with
  | nil => rfl
  | cons r t ih => rw [List.any_cons, List.any_cons, ih, r.1, inl_dec]
theorem DRep.get {β : Type} [Rp β] {K : PySem.W.Frag} {G : Hp} {ws : List (Key × V)} {kvs : List (Int × β)} (h : DRep K G ws kvs) (k : Int) : match dget kvs k with
    | none => valV ws (Sum.inl k) = none
    | some y => ∃ v, valV ws (Sum.inl k) = some v ∧ Rp.rep K G v y := by
  unfold DRep at h
  induction h with
  | nil => rfl
  | @cons w y ws kvs r t ih =>
    unfold dget valV at *
    rw [List.find?_cons, List.find?_cons, r.1, inl_dec]
    by_cases e : y.1 = k
    · rw [decide_eq_true e]; exact ⟨_, rfl, r.2⟩
    · rw [decide_eq_false e]; exact ih
theorem DRep.put {β : Type} [Rp β] {K : PySem.W.Frag} {G : Hp} {ws : List (Key × V)} {kvs : List (Int × β)} (h : DRep K G ws kvs) (k : Int) {v : V} {y : β} (r : Rp.rep K G v y) : DRep K G (putK ws (Sum.inl k) v) (dput kvs k y) := by
  unfold putK dput
  rw [h.any k]
  split
  · rename_i hh
    clear hh
    unfold DRep at *
    induction h with
    | nil => exact .nil
    | @cons w z ws kvs q t ih =>
      refine .cons ?_ ih
      dsimp only
      by_cases e : z.1 = k
      · rw [if_pos e, if_pos (by rw [q.1, e])]; exact ⟨q.1, r⟩
      · rw [if_neg e, if_neg (by rw [q.1]; exact fun z => e (Sum.inl.inj z))]; exact q
  · exact paired_app h (.cons ⟨rfl, r⟩ .nil)
theorem DRep.keys {β : Type} [Rp β] {K : PySem.W.Frag} {G : Hp} {ws : List (Key × V)} {kvs : List (Int × β)} (h : DRep K G ws kvs) : ws.map (·.1) = (kvs.map (·.1)).map Sum.inl := by
  unfold DRep at h
  induction h with
  | nil => rfl
  | cons r t ih => rw [List.map_cons, List.map_cons, List.map_cons, ih, r.1]
theorem DRep.len {β : Type} [Rp β] {K : PySem.W.Frag} {G : Hp} {ws : List (Key × V)} {kvs : List (Int × β)} (h : DRep K G ws kvs) : ws.length = kvs.length := Paired.length h
/-- {k: v} -/
theorem en_disp1 {β : Type} [Rp β] {k : Int} {v : β} (hp : PE X c (tDisp [(WE X a, WE X b)])) (h1 : EV X Γ a k) (h2 : EV X Γ b v) : EN X Γ c (MD.mk [(k, v)]) := ⟨fun B G H σ hB hg l Q q =>
  we hp fun p hn => by
    have g0 := Grow.own (o := .dK []) hg hn
    show WE X a σ _ _
    refine h1 B G _ σ (hB.trans g0.h) g0.gh (l.grow g0) _ fun x G1 H1 g1 r1 => ?_
    refine h2 B G1 H1 σ (hB.trans (g0.trans g1).h) g1.gh (l.grow (g0.trans g1)) _ fun y G2 H2 g2 r2 => ?_
    have g := (g0.trans g1).trans g2
    have e2 : H2 p = some (.dK []) := (g1.trans g2).h _ _ upd_same
    have hgp : G2 p = none := ((g1.trans g2).fr p _ upd_same).trans (hg.free hn)
    refine ⟨e2, [(Sum.inl k, y)], by rw [show x = V.int k from r1]; rfl, Nat.le_of_ble_eq_true rfl, q (.ref p) [p] G2 _ ⟨g.g, fun b u e => ?_, fun b u e => ?_, g.fr0⟩ (one_new hn hgp) ⟨p, _, rfl, rfl, upd_same, ?_⟩⟩
    · rw [upd_ne (ne_of_none e hn)]; exact g.h b u e
    · rw [upd_ne (ne_of_none e hgp)]; exact g.gh b u e
    · show DRep X.K G2 [(Sum.inl k, y)] [(k, v)]
      exact .cons ⟨rfl, r2⟩ .nil⟩
/-- {} -/
theorem en_dict0 {β : Type} [Rp β] : EN X Γ (.Dict [] [] pos) (MD.mk ([] : List (Int × β))) := ⟨fun B G H σ hB hg l Q q =>
  we pe_dnewK fun p hn => q (.ref p) [p] G _ (Grow.own hg hn) (one_new hn (hg.free hn)) ⟨p, [], rfl, rfl, upd_same, .nil⟩⟩
/-- d[k] = v -/
theorem sv_dput (i : Nat) {β : Type} [Rp β] {kvs : List (Int × β)} {k : Int} {v : β} {e1 e2 : Expr} (hp : PS X st (sDPut (tVar i) (WE X e1) (WE X e2))) (h0 : Γ[i]? = some (.o (MD.mk kvs))) (h2 : EV X Γ e2 v) (h1 : EV X Γ e1 k) (hz : kvs.length < 10000000) : SV X Γ st (.nx (Γ.set i (.o (MD.mk (dput kvs k v))))) := ⟨fun B G H σ D hB hg l kk => by
  obtain ⟨F, v0, lf, e0, hf, p, ws', rfl, hF, hh, r⟩ := own_at l h0
  refine ws hp (h2 B G H σ hB hg l _ fun x G1 H1 g1 r1 => ⟨_, e0, h1 B G1 H1 σ (hB.trans g1.h) g1.gh (l.grow g1) _ fun y G2 H2 g2 r2 => ?_⟩)
  have g := g1.trans g2
  have hfp := hf p (by rw [hF]; simp)
  have hgp2 := (g.fr p _ hh).trans hfp.2.1
  refine ⟨p, _, rfl, by rw [show y = kV (Sum.inl k) from r2]; exact DPut.k (g.h _ _ hh) (by rw [r.len]; exact Nat.lt_of_lt_of_le hz (by decide)), ?_⟩
  have hk : ∀ a, a ∉ F i → ∀ o, H2 a = some o → upd H2 p (.dK (putK ws' (Sum.inl k) x)) a = some o := fun a ha o e => by rw [upd_ne (by rw [hF] at ha; simpa using ha)]; exact e
  exact kk G2 _ ((g.step hB).trans (Stp.mutL (hB.trans g.h) g.gh hfp.1 hgp2)) σ ((lf.grow g).mut (fp := [p]) (d' := ot (MD.mk (dput kvs k v))) h0 e0 hk (fun a ha => by
    have : a = p := by simpa using ha
    subst this
    exact ⟨.inl (by rw [hF]; simp), hfp.1, hgp2, _, upd_same⟩) ⟨p, _, rfl, rfl, upd_same, (r.mono g.g).put k (Rp.mono g2.g r1)⟩)⟩
theorem DGet.kr {H : Hp} {a : Addr} {kvs : List (Key × V)} {k : Key} (e : Rd H a (.dK kvs)) : DGet H a (kV k) (valV kvs k) := .inl ⟨kvs, k, e, rfl, rfl⟩
theorem rdMono {G H : Hp} {p : Addr} {o : HO} (e : Same G H) (h : Rd G p o) : Rd H p o := by
  rcases h with h | ⟨q, h⟩
  · exact .inl (e _ _ h)
  · exact .inr ⟨q, e _ _ h⟩
/-- k in d -/
theorem ev_din {β : Type} [Rp β] {kvs : List (Int × β)} {k : Int} (hu : X.A.units + 64 < cLine) (ha : EV X Γ a k) (hb : EV X Γ b (DV.mk kvs)) (hm : behindInMarks .In b = false := by rfl) : EV X Γ (.Compare a [.In] [b] pos) (dget kvs k).isSome := ⟨fun B G H σ hB hg l Q q =>
  we (pe_cmp (pc_din (by omega) pe pe) hm) (ha B G H σ hB hg l _ fun v G1 H1 g1 r1 => hb B G1 H1 σ (hB.trans g1.h) g1.gh (l.grow g1) _ fun u G2 H2 g2 r2 => by
    obtain ⟨p, ws, rfl, hr, dr⟩ := r2
    refine ⟨p, _, rfl, by rw [show v = kV (Sum.inl k) from r1]; exact DGet.kr (rdMono g2.gh hr), ?_⟩
    have h := dr.get k
    have e : (valV ws (Sum.inl k)).isSome = (dget kvs k).isSome := by
      cases hd : dget kvs k with
      | none => rw [hd] at h; rw [h]; rfl
      | some y => rw [hd] at h; obtain ⟨w, e, _⟩ := h; rw [e]; rfl
    rw [e]
    exact q _ G2 H2 (g1.trans g2) rfl)⟩
theorem et_din {β : Type} [Rp β] {kvs : List (Int × β)} {k : Int} (hu : X.A.units + 64 < cLine) (ha : EV X Γ a k) (hb : EV X Γ b (DV.mk kvs)) (hm : behindInMarks .In b = false := by rfl) : ET X Γ (.Compare a [.In] [b] pos) (dget kvs k).isSome := ⟨fun B G H σ hB hg l Q q =>
  wt (pt_cmp (pc_din (by omega) pe pe) hm) (ha B G H σ hB hg l _ fun v G1 H1 g1 r1 => hb B G1 H1 σ (hB.trans g1.h) g1.gh (l.grow g1) _ fun u G2 H2 g2 r2 => by
    obtain ⟨p, ws, rfl, hr, dr⟩ := r2
    refine ⟨p, _, rfl, by rw [show v = kV (Sum.inl k) from r1]; exact DGet.kr (rdMono g2.gh hr), _, rfl, ?_⟩
    have h := dr.get k
    have e : (valV ws (Sum.inl k)).isSome = (dget kvs k).isSome := by
      cases hd : dget kvs k with
      | none => rw [hd] at h; rw [h]; rfl
      | some y => rw [hd] at h; obtain ⟨w, e, _⟩ := h; rw [e]; rfl
    rw [e]
    exact q G2 H2 (g1.trans g2))⟩
theorem ev_dnin {β : Type} [Rp β] {kvs : List (Int × β)} {k : Int} (hu : X.A.units + 64 < cLine) (ha : EV X Γ a k) (hb : EV X Γ b (DV.mk kvs)) (hm : behindInMarks .NotIn b = false := by rfl) : EV X Γ (.Compare a [.NotIn] [b] pos) (!(dget kvs k).isSome) := ⟨fun B G H σ hB hg l Q q =>
  we (pe_cmp (pc_dnotin (by omega) pe pe) hm) (ha B G H σ hB hg l _ fun v G1 H1 g1 r1 => hb B G1 H1 σ (hB.trans g1.h) g1.gh (l.grow g1) _ fun u G2 H2 g2 r2 => by
    obtain ⟨p, ws, rfl, hr, dr⟩ := r2
    refine ⟨p, _, rfl, by rw [show v = kV (Sum.inl k) from r1]; exact DGet.kr (rdMono g2.gh hr), ?_⟩
    have h := dr.get k
    have e : (valV ws (Sum.inl k)).isSome = (dget kvs k).isSome := by
      cases hd : dget kvs k with
      | none => rw [hd] at h; rw [h]; rfl
      | some y => rw [hd] at h; obtain ⟨w, e, _⟩ := h; rw [e]; rfl
    rw [e]
    exact q _ G2 H2 (g1.trans g2) rfl)⟩
theorem et_dnin {β : Type} [Rp β] {kvs : List (Int × β)} {k : Int} (hu : X.A.units + 64 < cLine) (ha : EV X Γ a k) (hb : EV X Γ b (DV.mk kvs)) (hm : behindInMarks .NotIn b = false := by rfl) : ET X Γ (.Compare a [.NotIn] [b] pos) (!(dget kvs k).isSome) := ⟨fun B G H σ hB hg l Q q =>
  wt (pt_cmp (pc_dnotin (by omega) pe pe) hm) (ha B G H σ hB hg l _ fun v G1 H1 g1 r1 => hb B G1 H1 σ (hB.trans g1.h) g1.gh (l.grow g1) _ fun u G2 H2 g2 r2 => by
    obtain ⟨p, ws, rfl, hr, dr⟩ := r2
    refine ⟨p, _, rfl, by rw [show v = kV (Sum.inl k) from r1]; exact DGet.kr (rdMono g2.gh hr), _, rfl, ?_⟩
    have h := dr.get k
    have e : (valV ws (Sum.inl k)).isSome = (dget kvs k).isSome := by
      cases hd : dget kvs k with
      | none => rw [hd] at h; rw [h]; rfl
      | some y => rw [hd] at h; obtain ⟨w, e, _⟩ := h; rw [e]; rfl
    rw [e]
    exact q G2 H2 (g1.trans g2))⟩
/-- d[k], there -/
theorem ev_dix {β : Type} [Rp β] {kvs : List (Int × β)} {k : Int} {y : β} (hu : X.A.units + 64 < cLine) (ha : EV X Γ a (DV.mk kvs)) (hb : EV X Γ b k) (hy : dget kvs k = some y) (hs : NoSl b := by exact fun _ _ => rfl) : EV X Γ (.Subscript a b pos) y := ⟨fun B G H σ hB hg l Q q =>
  we (pe_dget (by omega) pe pe hs) (ha B G H σ hB hg l _ fun v G1 H1 g1 r1 => hb B G1 H1 σ (hB.trans g1.h) g1.gh (l.grow g1) _ fun u G2 H2 g2 r2 => by
    obtain ⟨p, ws, rfl, hr, dr⟩ := Rp.mono g2.g r1
    have h := dr.get k
    rw [hy] at h
    obtain ⟨w, e, rw'⟩ := h
    exact ⟨p, w, rfl, by rw [show u = kV (Sum.inl k) from r2, ← e]; exact DGet.kr (rdMono g2.gh hr), q w G2 H2 (g1.trans g2) rw'⟩)⟩
end
end Wl

set_option maxRecDepth 100000
set_option maxHeartbeats 2000000
namespace Wl
open PySem PySem.Spec PyProof.Rows L2
section
variable {X : Cx} {Γ Γ' : List Slot} {st : Stmt} {sts els rest : List Stmt} {a b c d e tg iter elt : Expr} {es elts ifs : List Expr} {pos : Pos} {o : Out}
/-! ### sorted(d, reverse=True), d a dict with int keys -/
theorem cr_sortedRevDI {bb : Bool} (hcalm : X.calm = true) : CallRK X (.builtin "sorted") [Str.ofString "reverse"] (fun xs zs H Q => ∃ (a : Addr) (kvs : List (Key × V)) (ks : List Int), xs = [.ref a] ∧ zs = [.bl bb] ∧ Rd H a (.dK kvs) ∧ kvs.map (·.1) = ks.map Sum.inl ∧
    ∀ (ys : List Int) (p : Addr), ys.Perm ks → OrdB bb ys → H p = none → Q (.ref p) (upd H p (.lst (ys.map V.int)))) := by
  intro pins s σ H xs zs us ws Q I r rz q
  obtain ⟨a, kvs, ks, ex, ez, hd, hks, q⟩ := q
  subst ex
  subst ez
  obtain ⟨u, eu, rx⟩ := vals1 r
  subst eu
  cases rx
  obtain ⟨w1, rfl, e1⟩ := vals1 rz
  obtain rfl : w1 = Value.bool bb := e1
  obtain ⟨z, lo, vs, rel, dd⟩ := dk_rd I.hok hd
  obtain ⟨ep, hat⟩ := dd.dictAt
  have hkeys : vs.map (·.1) = ks.map Sum.inl := rel.keys.symm.trans hks
  have hl : vs.length = ks.length := by
    have e := congrArg List.length hkeys
    rw [List.length_map, List.length_map] at e
    exact e
  have h16 : vs.length ≤ sizeLine := by rw [← rel.length]; exact z
  refine call_function_entry_kw kind_sorted plain_sorted entry_sorted (PyProof.Rows.args_sorted_rev _ _) ?_
  unfold Builtin.«sorted»
  refine wpAny_bind (m := checkCount "sorted" 1 1 _) (wpAny_pure ?_)
  refine wpAny_bind (PySem.W.kdu_collect (A := X.A.in1) (PySem.W.kdl_dict (knd := mixKind X.prog X.w) (kvs := vs) (ep := ep) lo) (I.ok.hd hcalm) hat h16 fun h' tk acc hk hacc => ?_)
  have hal : acc.toList.length = ks.length := by rw [Array.length_toList, hacc.1, hl]
  have hS : IntsAre acc.toList ks := ints_each hal fun j v e => by
    obtain ⟨k, x, e1, e2⟩ := hacc.2 j v (by rw [← Array.getElem?_toList]; exact e)
    have e3 : (vs.map (·.1))[j]? = some k := by rw [List.getElem?_map, e1]; rfl
    rw [hkeys, List.getElem?_map] at e3
    cases e4 : ks[j]? with
    | none => rw [e4] at e3; cases e3
    | some y =>
      rw [e4] at e3
      have e5 : Sum.inl y = k := Option.some.inj e3
      subst e5
      rcases keyIs_shape (show keyIs (Sum.inl y) v = true from e2) with ⟨i, t, ek, ev⟩ | ⟨z, t, ek, ev⟩
      · cases ek
        exact ⟨y, t, rfl, ev⟩
      · cases ek
  have I1 : Inv X pins σ H { s with heap := h', toks := tk } := I.kept hk
  have hz : acc.toList.length ≤ sizeLine := by rw [hal, ← hl]; exact h16
  refine wpAny_bind (wpAny_newList ?_ hz)
  have hoL : (h'.push (seqObj "list" acc.toList.toArray 0)).get? h'.objs.size = some (seqObj "list" acc.toList.toArray 0) := Heap.get?_push_size _ rfl
  show wpAny _ _ _ _ _ { s with heap := h'.push (seqObj "list" acc.toList.toArray 0), toks := tk }
  refine wpAny_bind (wpAny_holding (wpAny_call_entry_kw slot_list_sort ⟨_, hoL, rfl⟩ entry_list_sort ?_ (PyProof.Rows.args_list_sort_rev _ _)))
  refine SrtR.list_sort_ordR SrtO.swo_int hoL hz (fun h2 => SrtO.ints_sortable hS h2) fun out hs hb => ⟨_, rfl, ?_⟩
  obtain ⟨ns', k1, k2, k3⟩ := SrtR.ints_outR hS hs hb
  obtain ⟨e', he'⟩ := PyProof.Rows.sortedHeap_at (vs := acc.toList) (out := (if bb = true then out.toArray.reverse else out.toArray)) hoL
  have hlen : (ns'.map V.int).length ≤ sizeLine := by
    rw [List.length_map, k2.length_eq, ← hal]
    exact hz
  refine wpAny_pure ⟨_, rfl, .ref h'.objs.size, upd H h'.objs.size (.lst (ns'.map V.int)), I1.laid (t' := tk) (fun b u e => ?_) (Nat.le_refl _)
    (show ObjOk X.prog X.w _ _ _ (.lst (ns'.map V.int)) from ⟨hlen, _, e', vals_of_ints k1, by rw [Array.toArray_toList]; exact he'⟩), rfl, q ns' _ k2 k3 (I1.hok.fresh (Nat.le_refl _))⟩
  have hb : b < h'.objs.size := Heap.lt_size e
  rw [PyProof.Rows.sortedHeap_old (Nat.ne_of_lt hb) (by rw [size_push']; exact Nat.lt_succ_of_lt hb)]
  exact Heap.get?_push_of_some _ e
/-- from the greatest down; from the least up -/
def sortD (xs : List Int) : List Int := xs.mergeSort fun a b => decide (b ≤ a)
def sortU (xs : List Int) : List Int := xs.mergeSort fun a b => decide (a ≤ b)
theorem sortD_perm (xs : List Int) : (sortD xs).Perm xs := List.mergeSort_perm _ _
theorem sortD_ord (xs : List Int) : (sortD xs).Pairwise (· ≥ ·) := by
  have h := List.pairwise_mergeSort (le := fun a b : Int => decide (b ≤ a)) (fun a b c h1 h2 => by simp at *; omega) (fun a b => by simp; omega) xs
  exact h.imp fun h => by simpa using h
theorem sortU_perm (xs : List Int) : (sortU xs).Perm xs := List.mergeSort_perm _ _
theorem sortU_ord (xs : List Int) : (sortU xs).Pairwise (· ≤ ·) := by
  have h := List.pairwise_mergeSort (le := fun a b : Int => decide (a ≤ b)) (fun a b c h1 h2 => by simp at *; omega) (fun a b => by simp; omega) xs
  exact h.imp fun h => by simpa using h
theorem sortD_eq {ys xs : List Int} (hp : ys.Perm xs) (ho : ys.Pairwise (· ≥ ·)) : ys = sortD xs :=
  (hp.trans (sortD_perm xs).symm).eq_of_pairwise (fun x y _ _ h1 h2 => Int.le_antisymm h2 h1) ho (sortD_ord xs)
theorem sortU_eq {ys xs : List Int} (hp : ys.Perm xs) (ho : ys.Pairwise (· ≤ ·)) : ys = sortU xs :=
  (hp.trans (sortU_perm xs).symm).eq_of_pairwise (fun x y _ _ h1 h2 => Int.le_antisymm h1 h2) ho (sortU_ord xs)
/-- sorted(d, reverse=True) -/
theorem en_sortedRD {β : Type} [Rp β] {kvs : List (Int × β)} (hc : X.calm = true) (hm : X.mg "sorted" = none) (ha : EV X Γ a (DV.mk kvs))
    (hp : PE X e (tCKw (fun xs zs H Q => ∃ (a : Addr) (kvs : List (Key × V)) (ks : List Int), xs = [.ref a] ∧ zs = [.bl true] ∧ Rd H a (.dK kvs) ∧ kvs.map (·.1) = ks.map Sum.inl ∧
    ∀ (ys : List Int) (p : Addr), ys.Perm ks → OrdB true ys → H p = none → Q (.ref p) (upd H p (.lst (ys.map V.int)))) (tCons (WE X a) tNil) (tCons (tC (.bl true)) tNil))) : EN X Γ e (ML.mk (sortD (kvs.map (·.1)))) := ⟨fun B G H σ hB hg l Q q =>
  we hp (ha B G H σ hB hg l _ fun v G1 H1 g1 r1 => by
    obtain ⟨p, ws, rfl, hr, dr⟩ := r1
    refine ⟨p, ws, kvs.map (·.1), rfl, rfl, rdMono g1.gh hr, dr.keys, fun ys q0 hperm hord hn => ?_⟩
    rw [sortD_eq hperm hord]
    exact q (.ref q0) [q0] G1 _ (g1.trans (Grow.own g1.gh hn)) (one_new (g1.h.free hn) (g1.gh.free hn)) ⟨q0, _, rfl, rfl, upd_same, ints_reps _⟩)⟩
/-- an owned thing read for a new list of ints -/
theorem en_fzI (i : Nat) {τ β : Type} [Ow τ] [Rp β] [Fz τ β] {x : τ} {ns : List Int} (h : Γ[i]? = some (.o x)) (hr : EN X (Γ.set i (.v (Fz.val x : β))) e (ML.mk ns)) : EN X Γ e (ML.mk ns) := ⟨fun B G H σ hB hg l Q q => by
  obtain ⟨F, v, lf, e1, hf, r⟩ := own_at l h
  refine hr B _ H σ hB (gl_dn hg) (lf.fz h e1 (fun a ha => (hf a ha).2.1) r) Q fun v fp G' H' g hfp ok => ?_
  obtain ⟨p, vs, rfl, rfl, hh, rr⟩ := ok
  have hp := hfp p (by simp)
  refine q (.ref p) [p] G H' ⟨Same.refl _, g.h, hg.trans g.h, fun _ _ _ _ => rfl⟩ (fun a ha => by
    have e : a = p := by simpa using ha
    subst e
    exact ⟨hp.1, hg.free hp.1, _, hh⟩) ⟨p, vs, rfl, rfl, hh, ?_⟩
  rw [rr.ints]
  exact ints_reps _⟩
theorem Perm_sum {l1 l2 : List Int} (h : l1.Perm l2) : l1.sum = l2.sum := by
  induction h with
  | nil => rfl
  | cons x _ ih => simp [ih]
  | swap x y l => simp; omega
  | trans _ _ h1 h2 => exact h1.trans h2
/-! ### greatest and least of a list -/
def maxL (ns : List Int) : Int := ns.foldl max (ns.headD 0)
def minL (ns : List Int) : Int := ns.foldl min (ns.headD 0)
theorem foldl_max_ge : ∀ (ns : List Int) (a : Int), a ≤ ns.foldl max a ∧ (∀ y ∈ ns, y ≤ ns.foldl max a) ∧ (ns.foldl max a = a ∨ ns.foldl max a ∈ ns)
  | [], a => ⟨Int.le_refl _, fun y h => by simp at h, .inl rfl⟩
  | x :: r, a => by
    obtain ⟨h1, h2, h3⟩ := foldl_max_ge r (max a x)
    refine ⟨by rw [List.foldl_cons]; omega, fun y hy => ?_, ?_⟩
    · rw [List.foldl_cons]
      rcases List.mem_cons.mp hy with e | hy
      · subst e; omega
      · exact h2 y hy
    · rw [List.foldl_cons]
      rcases h3 with h3 | h3
      · rw [h3]
        by_cases hax : a ≤ x
        · right; rw [show max a x = x by omega]; simp
        · left; omega
      · right; exact List.mem_cons_of_mem _ h3
theorem foldl_min_le : ∀ (ns : List Int) (a : Int), ns.foldl min a ≤ a ∧ (∀ y ∈ ns, ns.foldl min a ≤ y) ∧ (ns.foldl min a = a ∨ ns.foldl min a ∈ ns)
  | [], a => ⟨Int.le_refl _, fun y h => by simp at h, .inl rfl⟩
  | x :: r, a => by
    obtain ⟨h1, h2, h3⟩ := foldl_min_le r (min a x)
    refine ⟨by rw [List.foldl_cons]; omega, fun y hy => ?_, ?_⟩
    · rw [List.foldl_cons]
      rcases List.mem_cons.mp hy with e | hy
      · subst e; omega
      · exact h2 y hy
    · rw [List.foldl_cons]
      rcases h3 with h3 | h3
      · rw [h3]
        by_cases hax : x ≤ a
        · right; rw [show min a x = x by omega]; simp
        · left; omega
      · right; exact List.mem_cons_of_mem _ h3
theorem maxL_ge {ns : List Int} {y : Int} (h : y ∈ ns) : y ≤ maxL ns := (foldl_max_ge ns _).2.1 y h
theorem minL_le {ns : List Int} {y : Int} (h : y ∈ ns) : minL ns ≤ y := (foldl_min_le ns _).2.1 y h
theorem maxL_mem {ns : List Int} (h : 0 < ns.length) : maxL ns ∈ ns := by
  rcases (foldl_max_ge ns (ns.headD 0)).2.2 with e | e
  · unfold maxL; rw [e]
    cases ns with
    | nil => simp at h
    | cons x r => simp
  · exact e
theorem minL_mem {ns : List Int} (h : 0 < ns.length) : minL ns ∈ ns := by
  rcases (foldl_min_le ns (ns.headD 0)).2.2 with e | e
  · unfold minL; rw [e]
    cases ns with
    | nil => simp at h
    | cons x r => simp
  · exact e
theorem ev_maxL {p : Pos} {ns : List Int} (hc : X.calm = true) (hm : X.mg "max" = none) (ha : EV X Γ a ns) (h0 : 0 < ns.length) (hg : Gl X "max" := by rfl) (he : starEach [a] X.env = (false, eval a X.env) :: starEach [] X.env := by rfl) (hpl : (backTo pos (starEach [] X.env)).any (·.1) = false := by rfl) : EV X Γ (.Call (.Name "max" p) [a] [] pos) (maxL ns) :=
  ev_max hc hm ha h0 (fun z hz hy => Int.le_antisymm (maxL_ge hz) (hy _ (maxL_mem h0))) hg he hpl
theorem ev_minL {p : Pos} {ns : List Int} (hc : X.calm = true) (hm : X.mg "min" = none) (ha : EV X Γ a ns) (h0 : 0 < ns.length) (hg : Gl X "min" := by rfl) (he : starEach [a] X.env = (false, eval a X.env) :: starEach [] X.env := by rfl) (hpl : (backTo pos (starEach [] X.env)).any (·.1) = false := by rfl) : EV X Γ (.Call (.Name "min" p) [a] [] pos) (minL ns) :=
  ev_call1 (cr_min hc) hm (by decide +kernel) ha (fun G H v hgh r Q q => by
    obtain ⟨p, vs, rfl, hs, hr⟩ := r
    rw [hr.ints] at hs
    exact ⟨p, ns, rfl, Same.seq hgh hs, h0, fun z hz hy => by rw [Int.le_antisymm (hy _ (minL_mem h0)) (minL_le hz)]; exact q _ G H (Grow.refl hgh) rfl⟩) hg (by decide) (by decide) he hpl
theorem ev_shl {x y : Int} (ha : EV X Γ a x) (hb : EV X Γ b y) (hc : CPow x y) : EV X Γ (.BinOp a .LShift b pos) (x * 2 ^ y.toNat) := ev_binI op_shl ha hb hc rfl
theorem ev_tixv (i : Nat) {τ β : Type} [Rp τ] [Rp β] [TIx τ i β] {x : τ} (y : β) {j : Nat} {pos' : Pos} (ha : EV X Γ a x) (hy : (TIx.get i x : β) = y := by rfl) : EV X Γ (.Subscript a (.Constant (.int (i : Int)) j pos') pos) y := hy ▸ ev_tix i ha
end
end Wl

set_option maxRecDepth 100000
set_option maxHeartbeats 2000000
namespace Wl
open PySem PySem.Spec PyProof.Rows L2
section
variable {X : Cx}
/-! ### xs + ys, lists of any kind -/
def rCatS (K : PySem.W.Frag) : R2 := fun x y H Q => ∃ a b xs ys, x = .ref a ∧ y = .ref b ∧ SqL K H a xs ∧ SqL K H b ys ∧ xs.length + ys.length ≤ sizeLine ∧ ∀ p, H p = none → Q (.ref p) (upd H p (.lst (xs ++ ys)))
theorem op_catS : OpR X (binaryOp .Add) (rCatS X.K) := by
  intro pins s σ H x y v u Q I rx ry h
  obtain ⟨a, b, xs, ys, rfl, rfl, ha, hb, hz, q⟩ := h
  cases rx
  cases ry
  obtain ⟨its, r1, ⟨⟨cls, dd, data, sl⟩, n, ho, hc, hdd, hd⟩, _⟩ := I.list ha
  obtain ⟨its2, r2, ⟨⟨cls2, dd2, data2, sl2⟩, n2, ho2, hc2, hdd2, hd2⟩, _⟩ := I.list hb
  simp only at hc hd hc2 hd2 hdd hdd2
  subst hc hd hc2 hd2 hdd hdd2
  refine concat_meets ⟨_, ho, rfl⟩ ⟨_, ho2, rfl⟩ noFill_list_add seq_list_add PySem.F.slot_list_add PySem.F.entry_list_add (PySem.F.args_list_add_2 _ _) (list_addW a b its.toArray its2.toArray n n2 none none sl sl2 (by rw [List.size_toArray, List.size_toArray, ← r1.length, ← r2.length]; exact hz)) ⟨ho, ho2, ?_⟩
  have ea : its.toArray ++ its2.toArray = (its ++ its2).toArray := by simp
  rw [ea]
  exact ⟨.ref _, _, I.lnew (t' := s.toks) (r1.append r2) (by rw [List.length_append]; omega), rfl, q _ I.fresh⟩
end
section
variable {X : Cx} {Γ Γ' : List Slot} {st : Stmt} {sts els rest : List Stmt} {a b c d e tg iter elt : Expr} {es elts ifs : List Expr} {pos : Pos} {o : Out}
theorem en_catS {α : Type} [Rp α] {xs ys : List α} (ha : EV X Γ a xs) (hb : EV X Γ b ys) (hz : xs.length + ys.length ≤ 10000000) : EN X Γ (.BinOp a .Add b pos) (ML.mk (xs ++ ys)) := ⟨fun B G H σ hB hg l Q q =>
  we (pe_op op_catS pe pe) (ha B G H σ hB hg l _ fun v G1 H1 g1 ok => hb B G1 H1 σ (hB.trans g1.h) g1.gh (l.grow g1) _ fun v2 G2 H2 g2 ok2 => by
    obtain ⟨p, vs, rfl, hh, r⟩ := Rp.mono g2.g ok
    obtain ⟨p2, ws, rfl, hh2, r2⟩ := ok2
    refine ⟨p, p2, vs, ws, rfl, rfl, Same.seq g2.gh hh, Same.seq g2.gh hh2, ?_, fun p3 hp3 => q (.ref p3) [p3] G2 _ ((g1.trans g2).trans (Grow.own g2.gh hp3)) (one_new ((g1.trans g2).h.free hp3) (g2.gh.free hp3)) ⟨p3, _, rfl, rfl, upd_same, paired_app r r2⟩⟩
    have := r.len
    have := r2.len
    rw [sizeLine_eq]
    omega)⟩

/-! ### lists of fixed length, of unlike parts -/
structure Q2 (α β : Type) where
  a : α
  b : β
deriving DecidableEq
structure Q3 (α β γ : Type) where
  a : α
  b : β
  c : γ
deriving DecidableEq
instance {α β : Type} [Rp α] [Rp β] : Rp (Q2 α β) := ⟨fun K G v x => ∃ p v1 v2, v = .ref p ∧ SqL K G p [v1, v2] ∧ Rp.rep K G v1 x.a ∧ Rp.rep K G v2 x.b,
  fun e h => by obtain ⟨p, v1, v2, h0, hs, h1, h2⟩ := h; exact ⟨p, v1, v2, h0, Same.seq e hs, Rp.mono e h1, Rp.mono e h2⟩⟩
instance {α β γ : Type} [Rp α] [Rp β] [Rp γ] : Rp (Q3 α β γ) := ⟨fun K G v x => ∃ p v1 v2 v3, v = .ref p ∧ SqL K G p [v1, v2, v3] ∧ Rp.rep K G v1 x.a ∧ Rp.rep K G v2 x.b ∧ Rp.rep K G v3 x.c,
  fun e h => by obtain ⟨p, v1, v2, v3, h0, hs, h1, h2, h3⟩ := h; exact ⟨p, v1, v2, v3, h0, Same.seq e hs, Rp.mono e h1, Rp.mono e h2, Rp.mono e h3⟩⟩
theorem we_lst {B G H : Hp} {σ : L2.St} {ds : List Dat} (h : EA X Γ es ds) (hB : Same B H) (hg : Same G H) (l : Lo X.K B G H σ Γ) {Q : VK} (hn : ds.length ≤ 100)
    (q : ∀ p vs G' H', Grow G H G' H' → DatsOk X.K G' vs ds → SqL X.K G' p vs → Q (.ref p) H') : WE X (.List es pos) σ H Q :=
  we (pe_lst pa) (h B G H σ hB hg l _ fun vs G1 H1 g1 r1 => ⟨by rw [r1.len]; exact Nat.le_trans hn (by decide), fun p hp =>
    q p vs _ _ (g1.trans (Grow.new g1.gh hp)) (r1.mono (Grow.new g1.gh hp).g) (SqL.of upd_same)⟩)
theorem ev_q2 {α β : Type} [Rp α] [Rp β] {x : α} {y : β} (h : EA X Γ es [dt x, dt y]) : EV X Γ (.List es pos) (Q2.mk x y) := ⟨fun B G H σ hB hg l Q q => we_lst h hB hg l (Nat.le_of_ble_eq_true rfl) fun p vs G1 H1 g1 r hs => by
  cases r with | cons r1 t => cases t with | cons r2 t => cases t; exact q _ G1 H1 g1 ⟨p, _, _, rfl, hs, r1, r2⟩⟩
theorem ev_q3 {α β γ : Type} [Rp α] [Rp β] [Rp γ] {x : α} {y : β} {z : γ} (h : EA X Γ es [dt x, dt y, dt z]) : EV X Γ (.List es pos) (Q3.mk x y z) := ⟨fun B G H σ hB hg l Q q => we_lst h hB hg l (Nat.le_of_ble_eq_true rfl) fun p vs G1 H1 g1 r hs => by
  cases r with | cons r1 t => cases t with | cons r2 t => cases t with | cons r3 t => cases t; exact q _ G1 H1 g1 ⟨p, _, _, _, rfl, hs, r1, r2, r3⟩⟩
class LPs (τ : Type) [Rp τ] where
  parts : τ → List Dat
  ok : ∀ {K G v x}, Rp.rep K G v x → ∃ p vs, v = V.ref p ∧ SqL K G p vs ∧ DatsOk K G vs (parts x)
instance {α β : Type} [Rp α] [Rp β] : LPs (Q2 α β) := ⟨fun x => [dt x.a, dt x.b], fun h => by obtain ⟨p, v1, v2, h0, hs, h1, h2⟩ := h; exact ⟨p, _, h0, hs, .cons h1 (.cons h2 .nil)⟩⟩
instance {α β γ : Type} [Rp α] [Rp β] [Rp γ] : LPs (Q3 α β γ) := ⟨fun x => [dt x.a, dt x.b, dt x.c], fun h => by obtain ⟨p, v1, v2, v3, h0, hs, h1, h2, h3⟩ := h; exact ⟨p, _, h0, hs, .cons h1 (.cons h2 (.cons h3 .nil))⟩⟩
theorem tv_lst {τ : Type} [Rp τ] [LPs τ] {x : τ} {k : Nat} (h : TVs X Γ es (LPs.parts x) Γ') (hc : X.calm = true := by rfl) (hn : (assignEach es X.env).length = (LPs.parts x).length := by rfl) (hst : (assignEach es X.env).findIdx? (·.1) = none := by rfl) : TV X Γ (.Tuple es k pos) x Γ' := ⟨fun B G H σ v hB hg l r Q q => by
  obtain ⟨p, vs, e, hs, rs⟩ := LPs.ok r
  subst e
  have hp : PGs X es (fun us σ2 H2 Q2 => us = vs ∧ σ2 = σ ∧ H2 = H ∧ ∀ σ', Lo X.K B G H σ' Γ' → Q2 σ' H) := ⟨fun pins s σ2 H2 us2 us Q2 I rv h2 => by
    obtain ⟨e1, e2, e3, q2⟩ := h2
    subst e1 e2 e3
    exact h B G _ _ _ hB hg l rs Q2 q2 pins s us I rv⟩
  exact wg (pg_lst hc hp hn hst) ⟨p, vs, rfl, Same.seq hg hs, rs.len, rfl, rfl, rfl, q⟩⟩
theorem tx_lst {vs : List Nat} {τ : Type} [Rp τ] [LPs τ] {x : τ} {k : Nat} (h : TXs X vs Γ es (LPs.parts x) Γ') (hc : X.calm = true := by rfl) (hn : (assignEach es X.env).length = (LPs.parts x).length := by rfl) (hst : (assignEach es X.env).findIdx? (·.1) = none := by rfl) : TX X vs Γ (.Tuple es k pos) x Γ' := ⟨fun B G H σ v hB hg l r Q q => by
  obtain ⟨p, ws, e, hs, rs⟩ := LPs.ok r
  subst e
  have hp : PGs X es (fun us σ2 H2 Q2 => us = ws ∧ σ2 = σ ∧ H2 = H ∧ ∀ σ', L2.wipe σ' vs = L2.wipe σ vs → Lo X.K B G H σ' Γ' → Q2 σ' H) := ⟨fun pins s σ2 H2 us2 us Q2 I rv h2 => by
    obtain ⟨e1, e2, e3, q2⟩ := h2
    subst e1 e2 e3
    exact h B G _ _ _ hB hg l rs Q2 q2 pins s us I rv⟩
  exact wg (pg_lst hc hp hn hst) ⟨p, ws, rfl, Same.seq hg hs, rs.len, rfl, rfl, rfl, q⟩⟩
/-- a list of two, of one kind -/
def toQ2 {α : Type} (d : α) (xs : List α) : Q2 α α := ⟨xs.getD 0 d, xs.getD 1 d⟩
theorem rep_toQ2 {α : Type} [Rp α] {K : PySem.W.Frag} {G : Hp} {v : V} {xs : List α} (d : α) (hl : xs.length = 2) (r : Rp.rep K G v xs) : Rp.rep K G v (toQ2 d xs) := by
  obtain ⟨p, vs, rfl, hs, hr⟩ := r
  cases hr with
  | nil => cases hl
  | cons r1 t => cases t with
    | nil => cases hl
    | cons r2 t => cases t with
      | nil => exact ⟨p, _, _, rfl, hs, r1, r2⟩
      | cons r3 t => simp at hl
theorem iv_toQ2 {α : Type} [Rp α] {xs : List (List α)} (d : α) (h : IV X Γ tg iter xs) (hl : ∀ r ∈ xs, r.length = 2) : IV X Γ tg iter (xs.map (toQ2 d)) := ⟨fun B G H σ hB hg l R q =>
  h B G H σ hB hg l R fun J G1 H1 g1 it => q J G1 H1 g1 (by
    obtain ⟨h1, h2⟩ := it
    refine ⟨fun i G2 H2 e1 e2 hi => ?_, fun G2 H2 e1 e2 => by rw [List.length_map]; exact h2 G2 H2 e1 e2⟩
    rw [List.length_map] at hi
    obtain ⟨k1, k2⟩ := h1 i G2 H2 e1 e2 hi
    refine ⟨k1, fun v H3 hy => ?_⟩
    obtain ⟨G3, x, g3, hx, r⟩ := k2 v H3 hy
    exact ⟨G3, toQ2 d x, g3, by rw [List.getElem?_map, hx]; rfl, rep_toQ2 d (hl x (List.mem_of_getElem? hx)) r⟩)⟩
/-! .. their parts by a number -/
class LIx (τ : Type) [Rp τ] (i : Nat) (β : outParam Type) [Rp β] where
  get : τ → β
  ok : ∀ {K G v x}, Rp.rep K G v x → ∃ p vs w, v = V.ref p ∧ SqL K G p vs ∧ vs[i]? = some w ∧ Rp.rep K G w (get x)
instance {α β : Type} [Rp α] [Rp β] : LIx (Q2 α β) 0 α := ⟨Q2.a, fun h => by obtain ⟨p, v1, v2, h0, hs, h1, h2⟩ := h; exact ⟨p, _, v1, h0, hs, rfl, h1⟩⟩
instance {α β : Type} [Rp α] [Rp β] : LIx (Q2 α β) 1 β := ⟨Q2.b, fun h => by obtain ⟨p, v1, v2, h0, hs, h1, h2⟩ := h; exact ⟨p, _, v2, h0, hs, rfl, h2⟩⟩
instance {α β γ : Type} [Rp α] [Rp β] [Rp γ] : LIx (Q3 α β γ) 0 α := ⟨Q3.a, fun h => by obtain ⟨p, v1, v2, v3, h0, hs, h1, h2, h3⟩ := h; exact ⟨p, _, v1, h0, hs, rfl, h1⟩⟩
instance {α β γ : Type} [Rp α] [Rp β] [Rp γ] : LIx (Q3 α β γ) 1 β := ⟨Q3.b, fun h => by obtain ⟨p, v1, v2, v3, h0, hs, h1, h2, h3⟩ := h; exact ⟨p, _, v2, h0, hs, rfl, h2⟩⟩
instance {α β γ : Type} [Rp α] [Rp β] [Rp γ] : LIx (Q3 α β γ) 2 γ := ⟨Q3.c, fun h => by obtain ⟨p, v1, v2, v3, h0, hs, h1, h2, h3⟩ := h; exact ⟨p, _, v3, h0, hs, rfl, h3⟩⟩
theorem ev_qix (i : Nat) {τ β : Type} [Rp τ] [Rp β] [LIx τ i β] {x : τ} (y : β) {j : Nat} {pos' : Pos} (ha : EV X Γ a x) (hy : (LIx.get i x : β) = y := by rfl) : EV X Γ (.Subscript a (.Constant (.int (i : Int)) j pos') pos) y := hy ▸ ⟨fun B G H σ hB hg l Q q =>
  we (pe_ix ix_list pe pe (fun _ _ => rfl)) (ha B G H σ hB hg l _ fun v G1 H1 g1 r1 => we pe_int (by
    obtain ⟨p, vs, w, rfl, hs, hw, rw'⟩ := LIx.ok (i := i) r1
    exact ⟨p, vs, (i : Int), w, rfl, rfl, Same.seq g1.gh hs, atI_nat hw, q w G1 H1 g1 rw'⟩))⟩

/-! ### == of options -/
class DNo (α : Type) [Rp α] [DEq α] : Prop where
  l : ∀ x : α, PyData.eqv (DEq.toD x) .none = false
  r : ∀ x : α, PyData.eqv .none (DEq.toD x) = false
instance : DNo Int := ⟨fun _ => rfl, fun _ => rfl⟩
instance : DNo Bool := ⟨fun _ => rfl, fun _ => rfl⟩
instance : DNo Str := ⟨fun _ => rfl, fun _ => rfl⟩
instance {α : Type} [Rp α] [DEq α] : DNo (List α) := ⟨fun _ => rfl, fun _ => rfl⟩
instance {α β : Type} [Rp α] [Rp β] [DEq α] [DEq β] : DNo (T2 α β) := ⟨fun _ => rfl, fun _ => rfl⟩
instance {α β γ : Type} [Rp α] [Rp β] [Rp γ] [DEq α] [DEq β] [DEq γ] : DNo (T3 α β γ) := ⟨fun _ => rfl, fun _ => rfl⟩
instance {α : Type} [Rp α] [DEq α] [DNo α] : DEq (Option α) := ⟨fun x => match x with
    | none => .none
    | some y => DEq.toD y, fun {K G v x} h => by
      cases x with
      | none => have e : v = .non := h; subst e; exact .non
      | some y => exact DEq.dp h.1, DEq.n α, fun x => match x with
    | none => True
    | some y => DEq.ok y, fun x h => by
      cases x with
      | none => rfl
      | some y => exact DEq.lay y h, fun x => by
      cases x with
      | none => exact Nat.zero_le _
      | some y => exact DEq.dep y, fun x y => by
      cases x with
      | none => cases y with
        | none => simp [PyData.eqv]
        | some y => simp [DNo.r]
      | some x => cases y with
        | none => simp [DNo.l]
        | some y => simp [DEq.eqv]⟩
instance {α : Type} [Rp α] [DEq α] [DNo α] [OkAll α] : OkAll (Option α) := ⟨fun x => match x with
  | none => trivial
  | some y => OkAll.all y⟩
instance {α β : Type} [Rp α] [Rp β] [DEq α] [DEq β] : DEq (Q2 α β) := ⟨fun x => .list [DEq.toD x.a, DEq.toD x.b], fun h => by obtain ⟨p, v1, v2, rfl, hs, h1, h2⟩ := h; exact .lst hs (.cons (DEq.dp h1) (.cons (DEq.dp h2) .nil)), max (DEq.n α) (DEq.n β) + 1, fun x => DEq.ok x.a ∧ DEq.ok x.b, fun x h => by
  show ((DEq.toD x.a).canLay0 && ((DEq.toD x.b).canLay0 && PyData.canLayAll0 [])) = true
  rw [DEq.lay _ h.1, DEq.lay _ h.2] <;> rfl, fun x => by
  show max (DEq.toD x.a).depth (max (DEq.toD x.b).depth (PyData.depthAll [])) + 1 ≤ _
  have := DEq.dep x.a
  have := DEq.dep x.b
  have e : PyData.depthAll [] = 0 := rfl
  omega, fun x y => by
  cases x; cases y
  simp [PyData.eqv, PyData.eqvAll, DEq.eqv]⟩
instance {α β γ : Type} [Rp α] [Rp β] [Rp γ] [DEq α] [DEq β] [DEq γ] : DEq (Q3 α β γ) := ⟨fun x => .list [DEq.toD x.a, DEq.toD x.b, DEq.toD x.c], fun h => by obtain ⟨p, v1, v2, v3, rfl, hs, h1, h2, h3⟩ := h; exact .lst hs (.cons (DEq.dp h1) (.cons (DEq.dp h2) (.cons (DEq.dp h3) .nil))), max (DEq.n α) (max (DEq.n β) (DEq.n γ)) + 1, fun x => DEq.ok x.a ∧ DEq.ok x.b ∧ DEq.ok x.c, fun x h => by
  show ((DEq.toD x.a).canLay0 && ((DEq.toD x.b).canLay0 && ((DEq.toD x.c).canLay0 && PyData.canLayAll0 []))) = true
  rw [DEq.lay _ h.1, DEq.lay _ h.2.1, DEq.lay _ h.2.2] <;> rfl, fun x => by
  show max (DEq.toD x.a).depth (max (DEq.toD x.b).depth (max (DEq.toD x.c).depth (PyData.depthAll []))) + 1 ≤ _
  have := DEq.dep x.a
  have := DEq.dep x.b
  have := DEq.dep x.c
  have e : PyData.depthAll [] = 0 := rfl
  omega, fun x y => by
  cases x; cases y
  simp [PyData.eqv, PyData.eqvAll, DEq.eqv]⟩
instance {α β : Type} [Rp α] [Rp β] [DEq α] [DEq β] [OkAll α] [OkAll β] : OkAll (Q2 α β) := ⟨fun x => ⟨OkAll.all x.a, OkAll.all x.b⟩⟩
instance {α β γ : Type} [Rp α] [Rp β] [Rp γ] [DEq α] [DEq β] [DEq γ] [OkAll α] [OkAll β] [OkAll γ] : OkAll (Q3 α β γ) := ⟨fun x => ⟨OkAll.all x.a, OkAll.all x.b, OkAll.all x.c⟩⟩
/-- sorted(xs, reverse=True) of ints -/
theorem en_sortedRI {ns : List Int} (ha : EV X Γ a ns) (hp : PE X e (tCKw (rSortedKw X.K true [.bl true]) (tCons (WE X a) tNil) (tCons (tC (.bl true)) tNil))) : EN X Γ e (ML.mk (sortD ns)) := ⟨fun B G H σ hB hg l Q q =>
  we hp (ha B G H σ hB hg l _ fun v G1 H1 g1 r1 => by
    obtain ⟨p, ws, rfl, hs, hr⟩ := r1
    rw [hr.ints] at hs
    refine ⟨p, ns, rfl, rfl, Same.seq g1.gh hs, fun ys q0 hperm hord hn => ?_⟩
    rw [sortD_eq hperm hord]
    exact q (.ref q0) [q0] G1 _ (g1.trans (Grow.own g1.gh hn)) (one_new (g1.h.free hn) (g1.gh.free hn)) ⟨q0, _, rfl, rfl, upd_same, ints_reps _⟩)⟩
end
/-! ### slices as take and drop -/
theorem pick_range {α : Type} (xs : List α) (a : Nat) : ∀ n : Nat, ((List.range n).map fun i => a + i).filterMap (xs[·]?) = (xs.drop a).take n
  | 0 => by simp
  | n + 1 => by
    rw [List.range_succ, List.map_append, List.filterMap_append, pick_range xs a n, List.take_succ, List.getElem?_drop]
    cases h : xs[a + n]? <;> simp [h]
theorem slice_range1 (a b : Nat) : sliceRange (a : Int) (b : Int) 1 = (List.range (b - a)).map fun i => a + i := by
  unfold sliceRange
  have e : (if (1 : Int) > 0 then (if (a : Int) < b then ((b : Int) - a + 1 - 1) / 1 else 0) else (if (a : Int) > b then ((a : Int) - b - 1 - 1) / (-1) else 0)).toNat = b - a := by
    rw [if_pos (by omega)]
    split <;> omega
  dsimp only
  rw [e]
  apply List.map_congr_left
  intro i _
  omega
theorem pySlice_take {α : Type} (xs : List α) {k : Int} (h : 0 ≤ k) : pySlice xs none (some k) none = xs.take k.toNat := by
  have hk : ¬ k < 0 := by omega
  have e : sliceBounds none (some k) none xs.length = (((0 : Nat) : Int), ((min k.toNat xs.length : Nat) : Int), 1) := by
    simp only [sliceBounds, Option.getD_none, hk, if_false, show (1 : Int) > 0 by omega, if_true, show max 0 (min k (xs.length : Int)) = ((min k.toNat xs.length : Nat) : Int) by omega]
    rfl
  unfold pySlice
  rw [e]
  dsimp only
  rw [slice_range1, pick_range, List.drop_zero, Nat.sub_zero, ← List.take_take, List.take_length]
theorem pySlice_drop {α : Type} (xs : List α) {k : Int} (h : 0 ≤ k) : pySlice xs (some k) none none = xs.drop k.toNat := by
  have hk : ¬ k < 0 := by omega
  have e : sliceBounds (some k) none none xs.length = (((min k.toNat xs.length : Nat) : Int), ((xs.length : Nat) : Int), 1) := by
    simp only [sliceBounds, Option.getD_none, hk, if_false, show (1 : Int) > 0 by omega, if_true, show max 0 (min k (xs.length : Int)) = ((min k.toNat xs.length : Nat) : Int) by omega]
  unfold pySlice
  rw [e]
  dsimp only
  rw [slice_range1, pick_range]
  by_cases hk : k.toNat ≤ xs.length
  · rw [Nat.min_eq_left hk, List.take_of_length_le (by rw [List.length_drop]; exact Nat.le_refl _)]
  · rw [Nat.min_eq_right (by omega), List.drop_eq_nil_of_le (as := xs) (i := xs.length) (Nat.le_refl _), List.drop_eq_nil_of_le (by omega), List.take_nil]
end Wl

set_option maxRecDepth 100000
set_option maxHeartbeats 2000000
namespace Wl
open PySem PySem.Spec PyProof.Rows L2
section
variable {X : Cx} {Γ Γ' : List Slot} {st : Stmt} {sts els rest : List Stmt} {a b c d e tg iter elt : Expr} {es elts ifs : List Expr} {pos : Pos} {o : Out}
/-- [xs, ys], new lists in a new list -/
theorem en_mt2 {α : Type} [Rp α] {xs ys : List α} (ha : EN X Γ a (ML.mk xs)) (hb : EN X Γ b (ML.mk ys)) (hs : starEach [a, b] X.env = (false, eval a X.env) :: starEach [b] X.env := by rfl) (hs2 : starEach [b] X.env = (false, eval b X.env) :: starEach [] X.env := by rfl) : EN X Γ (.List [a, b] pos) (MT.mk [xs, ys]) := ⟨fun B G H σ hB hg l Q q =>
  we (pe_lst (pa_cons pe (pa_cons pe pa_nil hs2) hs)) (ha B G H σ hB hg l _ fun v fp G1 H1 g1 hf ok => hb B G1 H1 σ (hB.trans g1.h) g1.gh (l.grow g1) _ fun v2 fp2 G2 H2 g2 hf2 ok2 => by
    obtain ⟨p, vs, rfl, rfl, hh, r⟩ := ok
    obtain ⟨p2, ws, rfl, rfl, hh2, r2⟩ := ok2
    obtain ⟨a1, a2, _⟩ := hf p (by simp)
    obtain ⟨b1, b2, _⟩ := hf2 p2 (by simp)
    have hne : p2 ≠ p := ne_of_none hh b1 |>.symm
    refine ⟨by rw [sizeLine_eq]; exact Nat.le_of_ble_eq_true rfl, fun p3 hp3 => ?_⟩
    have n1 : p3 ≠ p := fun z => by rw [z, g2.h _ _ hh] at hp3; cases hp3
    have n2 : p3 ≠ p2 := fun z => by rw [z, hh2] at hp3; cases hp3
    have gp : G2 p = none := (g2.fr p _ hh).trans a2
    refine q (.ref p3) [p3, p, p2] G2 _ ((g1.trans g2).trans (Grow.own g2.gh hp3)) (fun z hz => ?_) ⟨p3, [p, p2], rfl, rfl, by simp [n1, n2, Ne.symm hne], upd_same, .cons ⟨vs, by rw [upd_ne (Ne.symm n1)]; exact g2.h _ _ hh, r.mono g2.g⟩ (.cons ⟨ws, by rw [upd_ne (Ne.symm n2)]; exact hh2, r2⟩ .nil)⟩
    have hz : z = p3 ∨ z = p ∨ z = p2 := by simpa using hz
    rcases hz with z | z | z <;> subst z
    · exact ⟨(g1.trans g2).h.free hp3, g2.gh.free hp3, _, upd_same⟩
    · exact ⟨a1, gp, _, by rw [upd_ne (Ne.symm n1)]; exact g2.h _ _ hh⟩
    · exact ⟨g1.h.free b1, b2, _, by rw [upd_ne (Ne.symm n2)]; exact hh2⟩)⟩
/-- a row of a list of owned lists is changed -/
theorem mt_mut {α : Type} [Rp α] {i : Nat} {rows : List (List α)} {B G H G3 H3 : Hp} {σ : L2.St} {F : Nat → List Addr} {p q : Addr} {qs : List Addr} {r : Nat} {row : List α} {vs : List V} (lf : LoF X.K B G H σ Γ F) (h0 : Γ[i]? = some (.o (MT.mk rows))) (ev : σ[i]? = some (some (.ref p)))
    (hf : ∀ a ∈ F i, B a = none ∧ G a = none ∧ ∃ ho, H a = some ho) (hF : F i = p :: qs) (hnd : (F i).Nodup) (hp' : H p = some (.lst (qs.map V.ref))) (hrows : RowsOk X.K G H qs rows) (g : Grow G H G3 H3) (hB : Same B H) (hq : qs[r]? = some q) (hr : Reps X.K G3 vs row) :
    Stp B G G3 (upd H3 q (.lst vs)) ∧ Lo X.K B G3 (upd H3 q (.lst vs)) σ (Γ.set i (.o (MT.mk (rows.set r row)))) := by
  have hqF : q ∈ F i := by rw [hF]; exact List.mem_cons_of_mem _ (List.mem_of_getElem? hq)
  have lg := lf.grow g
  have hf3 : ∀ a ∈ F i, B a = none ∧ G3 a = none := fun a ha => by
    obtain ⟨q1, q2, ho, q3⟩ := hf a ha
    exact ⟨q1, (g.fr a ho q3 (lf.nt h0 a ha ho q3)).trans q2⟩
  have hk : ∀ a, a ∉ F i → ∀ o, H3 a = some o → upd H3 q (.lst vs) a = some o := fun a ha o e => by
    rw [upd_ne (fun z => ha (by rw [z]; exact hqF))]; exact e
  refine ⟨(g.step hB).trans (Stp.mut (hB.trans g.h) g.gh hf3 hk), lg.mut (fp := F i) (d' := ot (MT.mk (rows.set r row))) h0 ev hk (fun a ha => ?_) ?_⟩
  · obtain ⟨q1, q2, ho, q3⟩ := hf a ha
    refine ⟨.inl ha, q1, (hf3 a ha).2, ?_⟩
    by_cases haq : a = q
    · subst haq; exact ⟨_, upd_same⟩
    · exact ⟨ho, by rw [upd_ne haq]; exact g.h _ _ q3⟩
  · have hnd' : (p :: qs).Nodup := by rw [← hF]; exact hnd
    have hpq : p ≠ q := fun z => by subst z; exact (List.nodup_cons.mp hnd').1 (List.mem_of_getElem? hq)
    refine ⟨p, qs, rfl, hF, hnd, by rw [upd_ne hpq]; exact g.h _ _ hp', ?_⟩
    refine rows_set r (List.nodup_cons.mp hnd').2 hq ⟨_, upd_same, hr⟩ (fun a _ hne => by rw [upd_ne hne]) (hrows.mono g.g fun a ha => ?_)
    obtain ⟨_, _, ho, q3⟩ := hf a (by rw [hF]; exact List.mem_cons_of_mem _ ha)
    rw [g.h _ _ q3, q3]
/-- t[r].append(x) -/
theorem sv_appT (i : Nat) {α : Type} [Rp α] {rows : List (List α)} {r : Int} {x : α} {c e1 e : Expr} (hp : PE X c (tBM X.K "list" rAppend (tOp (rIxL X.K) (tVar i) (WE X e1)) (tCons (WE X e) tNil))) (h0 : Γ[i]? = some (.o (MT.mk rows))) (h1 : EV X Γ e1 r) (h : EV X Γ e x)
    (hr : 0 ≤ r ∧ r < (rows.length : Int)) (hz : (rows.getD r.toNat []).length < 10000000) (hs : swapsWith c none pos.line X.env = pure false := by rfl) :
    SV X Γ (.Expr c pos) (.nx (Γ.set i (.o (MT.mk (rows.set r.toNat (rows.getD r.toNat [] ++ [x])))))) := ⟨fun B G H σ D hB hg l k => by
  obtain ⟨F, v, lf, ev, hf, p, qs, rfl, hF, hnd, hp', hrows⟩ := own_at l h0
  have hrow : rows[r.toNat]? = some (rows.getD r.toNat []) := by
    have h : r.toNat < rows.length := by omega
    rw [List.getD_eq_getElem?_getD, List.getElem?_eq_getElem h]; rfl
  generalize rows.getD r.toNat [] = row at *
  refine ws (ps_expr hp hs) ⟨_, ev, h1 B G H σ hB hg l _ fun v1 G1 H1 g1 r1 => ?_⟩
  obtain ⟨q, hq, vs, hvs, rvs⟩ := paired_get2 hrows r.toNat row hrow
  refine ⟨p, qs.map V.ref, r, .ref q, rfl, r1, .inl (.inl (g1.h _ _ hp')), ?_, ?_⟩
  · have hi : ((r.toNat : Nat) : Int) = r := by omega
    rw [← hi]; exact atI_nat (by rw [List.getElem?_map, hq]; rfl)
  · refine ⟨.inl ⟨rfl, _, .inl (.inl (g1.h _ _ hvs))⟩, ?_⟩
    refine h B G1 H1 σ (hB.trans g1.h) g1.gh (l.grow g1) _ fun v2 G2 H2 g2 r2 => ?_
    have g := g1.trans g2
    refine ⟨q, vs, v2, rfl, rfl, g.h _ _ hvs, by rw [rvs.len]; exact Nat.lt_of_lt_of_le hz (by decide), ?_⟩
    obtain ⟨s1, s2⟩ := mt_mut (row := row ++ [x]) lf h0 ev hf hF hnd hp' hrows g hB hq (paired_app (rvs.mono g.g) (.cons r2 .nil))
    exact k G2 _ s1 σ s2⟩
/-- xs[i] op= e of one's own list of ints -/
theorem sv_augL (i : Nat) {xs : List Int} {r y : Int} {e1 e3 : Expr} {f : Int → Int → Int} (hp : PS X st (tAugS (tVar i) (WE X e1) (WE X e3) (rGetL X.K) (ipI f) rSetL)) (h0 : Γ[i]? = some (.l xs)) (h1 : EV X Γ e1 r) (h3 : EV X Γ e3 y)
    (hr : 0 ≤ r ∧ r < (xs.length : Int)) : SV X Γ st (.nx (Γ.set i (.l (xs.set r.toNat (f (xs.getD r.toNat 0) y))))) := ⟨fun B G H σ D hB hg l k => by
  obtain ⟨F, p, vs, lf, hF, e1', hbp, hgp, hh, rr⟩ := ownL l h0
  have hx : xs[r.toNat]? = some (xs.getD r.toNat 0) := by
    have h : r.toNat < xs.length := by omega
    rw [List.getD_eq_getElem?_getD, List.getElem?_eq_getElem h]; rfl
  generalize xs.getD r.toNat 0 = z at *
  refine ws hp ⟨_, e1', h1 B G H σ hB hg l _ fun v1 G1 H1 g1 r1 => ?_⟩
  obtain ⟨w, hw, rw'⟩ := paired_get2 rr r.toNat z hx
  refine ⟨p, vs, r, w, rfl, r1, .inl (.inl (g1.h _ _ hh)), hr.1, hw, ?_⟩
  refine h3 B G1 H1 σ (hB.trans g1.h) g1.gh (l.grow g1) _ fun v3 G3 H3 g3 r3 => ?_
  have g := g1.trans g3
  have hgp3 := (g.fr p _ hh).trans hgp
  refine ⟨z, y, rw', r3, p, vs, r, r.toNat, rfl, r1, g.h _ _ hh, ?_, ?_⟩
  · have hlt : r.toNat < vs.length := (List.getElem?_eq_some_iff.mp hw).1
    unfold ixN
    rw [if_pos hr.1, if_pos (by omega)]
  · exact k G3 _ ((g.step hB).trans (Stp.mutL (hB.trans g.h) g.gh hbp hgp3)) σ ((lf.grow g).mutL h0 hF e1' hbp hgp3 (paired_set (R := Rp.rep X.K G3) (x := V.int (f z y)) (y := f z y) rfl _ (rr.mono g.g)))⟩
/-- an if, its ways with outcomes of any kind -/
theorem sv_ifo {x : Bool} {els : List Stmt} {of : Bool → Out} (h : ET X Γ c x) (h1 : x = true → BV X Γ sts (of true)) (h2 : x = false → BV X Γ els (of false)) : SV X Γ (.If c sts els pos) (of x) := ⟨fun B G H σ D hB hg l k =>
  ws (ps_if pt pss pss) (h B G H σ hB hg l _ fun G1 H1 g1 => by
    cases x with
    | true => exact h1 rfl B G1 H1 σ D (hB.trans g1.h) g1.gh (l.grow g1) fun G2 H2 g2 => k G2 H2 ((g1.step hB).trans g2)
    | false => exact h2 rfl B G1 H1 σ D (hB.trans g1.h) g1.gh (l.grow g1) fun G2 H2 g2 => k G2 H2 ((g1.step hB).trans g2))⟩
theorem bv_if3 {x : Bool} {els : List Stmt} {of : Bool → Out} (h : ET X Γ c x) (h1 : x = true → BV X Γ sts (of true)) (h2 : x = false → BV X Γ els (of false)) (he : (of x).exits) (ho : of x = o := by exact rfl) : BV X Γ (.If c sts els pos :: rest) o := ho ▸ bv_out (sv_ifo h h1 h2) he
theorem iseq_mem {lo : Int} {n : Nat} {pre post : List Int} {x : Int} (h : iseq lo n = pre ++ x :: post) : lo ≤ x ∧ x < lo + (n : Int) := by
  have hm : x ∈ iseq lo n := by rw [h]; simp
  unfold iseq at hm
  obtain ⟨i, hi, e⟩ := List.mem_map.mp hm
  have := List.mem_range.mp hi
  omega
end
end Wl

set_option maxRecDepth 100000
set_option maxHeartbeats 2000000
namespace Wl
open PySem PySem.Spec PyProof.Rows L2
section
variable {X : Cx} {Γ Γ' : List Slot} {st : Stmt} {sts els rest : List Stmt} {a b c d e tg iter elt : Expr} {es elts ifs : List Expr} {pos : Pos} {o : Out}
/-- a pair of one kind as a list -/
def T2.list {α : Type} (x : T2 α α) : List α := [x.a, x.b]
theorem T2.seq {α : Type} [Rp α] {K : PySem.W.Frag} {G : Hp} {v : V} {x : T2 α α} (h : Rp.rep K G v x) : ∃ p vs, v = .ref p ∧ SqT K G p vs ∧ Reps K G vs x.list := by
  obtain ⟨p, v1, v2, h0, hs, h1, h2⟩ := h
  exact ⟨p, _, h0, hs, .cons h1 (.cons h2 .nil)⟩
/-- zip of two pairs -/
theorem iv_zipT2 {p tpos : Pos} {kk : Nat} {α β : Type} [Rp α] [Rp β] {x : T2 α α} {y : T2 β β} (hm : X.mg "zip" = none) (h : EV X Γ a x) (h2 : EV X Γ b y) (hg : Gl X "zip" := by rfl) (hs : starEach [a, b] X.env = (false, eval a X.env) :: starEach [b] X.env := by rfl) (hs1 : starEach [b] X.env = (false, eval b X.env) :: starEach [] X.env := by rfl) (hpl : (backTo pos (starEach [b] X.env)).any (·.1) = false := by rfl) :
    IV X Γ (.Tuple elts kk tpos) (.Call (.Name "zip" p) [a, b] [] pos) (zipL x.list y.list) := ⟨fun B G H σ hB hgh l R q =>
  wi (RZ.pi_zipA hg hm pa hs hpl) (ea_cons h (ea_cons h2 ea_nil hs1) hs B G H σ hB hgh l _ fun vs G1 H1 g1 r1 => by
    cases r1 with
    | cons r1 t =>
      cases t with
      | cons r2 t =>
        cases t
        obtain ⟨p, ws, rfl, hs, hr⟩ := T2.seq r1
        obtain ⟨p2, ws2, rfl, hs2, hr2⟩ := T2.seq r2
        generalize x.list = xs at hr q
        generalize y.list = ys at hr2 q
        refine ⟨p, p2, ws, ws2, rfl, .inr ⟨seqT g1.gh hs, seqT g1.gh hs2, q _ G1 H1 g1 (iters_of (min xs.length ys.length) (by simp [zipL]) (fun i G2 H2 g h hi => ?_) fun G2 H2 g h => ⟨ws, ws2, seqT (g.trans h) hs, seqT (g.trans h) hs2, by have l1 : ws.length = xs.length := hr.len; have l2 : ws2.length = ys.length := hr2.len; omega⟩)⟩⟩
        have hlt : i < xs.length := by omega
        have hlt2 : i < ys.length := by omega
        obtain ⟨v, hv, rv⟩ := paired_get2 hr i xs[i] (List.getElem?_eq_getElem hlt)
        obtain ⟨v2, hv2, rv2⟩ := paired_get2 hr2 i ys[i] (List.getElem?_eq_getElem hlt2)
        refine ⟨⟨ws, ws2, v, v2, seqT (g.trans h) hs, seqT (g.trans h) hs2, hv, hv2⟩, fun u H3 hy => ?_⟩
        obtain ⟨T, x, y, e, hT, e3, hy, hy2⟩ := hy
        subst e e3
        have e2 := hy ws (seqT (g.trans h) hs)
        rw [hv] at e2
        cases e2
        have e2 := hy2 ws2 (seqT (g.trans h) hs2)
        rw [hv2] at e2
        cases e2
        have gn := Grow.new (o := .tup [v, v2]) h hT
        refine ⟨upd G2 T (.tup [v, v2]), T2.mk xs[i] ys[i], gn, ?_, T, v, v2, rfl, SqT.of upd_same, Rp.mono (g.trans gn.g) rv, Rp.mono (g.trans gn.g) rv2⟩
        unfold zipL
        rw [List.getElem?_map, List.getElem?_zip_eq_some (z := (xs[i], ys[i])) |>.mpr ⟨List.getElem?_eq_getElem hlt, List.getElem?_eq_getElem hlt2⟩]
        rfl)⟩
/-- x[i] of a pair of one kind -/
theorem ev_tixN {α : Type} [Rp α] {x : T2 α α} {i : Int} (dflt : α) (ha : EV X Γ a x) (hb : EV X Γ b i) (h0 : 0 ≤ i ∧ i < 2) (hp : PlainIx b := by exact fun _ _ => rfl) : EV X Γ (.Subscript a b pos) (x.list.getD i.toNat dflt) := ⟨fun B G H σ hB hg l Q q =>
  we (pe_ix ix_tup pe pe hp) (ha B G H σ hB hg l _ fun v G1 H1 g1 r1 => hb B G1 H1 σ (hB.trans g1.h) g1.gh (l.grow g1) _ fun u G2 H2 g2 r2 => by
    obtain ⟨p, vs, rfl, hs, hr⟩ := T2.seq r1
    have hx : x.list[i.toNat]? = some (x.list.getD i.toNat dflt) := by
      have h : i.toNat < x.list.length := by show i.toNat < 2; omega
      rw [List.getD_eq_getElem?_getD, List.getElem?_eq_getElem h]; rfl
    obtain ⟨w, hw, rw'⟩ := paired_get2 hr _ _ hx
    have hi : ((i.toNat : Nat) : Int) = i := by omega
    exact ⟨p, vs, i, w, rfl, r2, seqT (g1.trans g2).gh (seqT g2.g hs), by rw [← hi]; exact atI_nat hw, q w G2 H2 (g1.trans g2) (Rp.mono g2.g rw')⟩)⟩
end
end Wl

set_option maxRecDepth 100000
set_option maxHeartbeats 2000000
namespace Wl
open PySem PySem.Spec PyProof.Rows L2
/-! ### tuples of ints as keys -/
structure TK where
  ks : List Int
deriving DecidableEq
instance : Rp TK := ⟨fun K G v x => ∃ p, v = .ref p ∧ G p = some (.tup (x.ks.map V.int)), fun e h => by obtain ⟨p, h0, h1⟩ := h; exact ⟨p, h0, e _ _ h1⟩⟩
/-- tuples all of ints -/
class TInts (τ : Type) [Rp τ] where
  nums : τ → List Int
  ok : ∀ {K G v x}, Rp.rep K G v x → ∃ p, v = V.ref p ∧ SqT K G p ((nums x).map V.int)
instance : TInts (T2 Int Int) := ⟨fun x => [x.a, x.b], fun h => by
  obtain ⟨p, v1, v2, h0, hs, h1, h2⟩ := h
  have h1 : v1 = .int _ := h1
  have h2 : v2 = .int _ := h2
  subst h1 h2
  exact ⟨p, h0, hs⟩⟩
instance : TInts (T3 Int Int Int) := ⟨fun x => [x.a, x.b, x.c], fun h => by
  obtain ⟨p, v1, v2, v3, h0, hs, h1, h2, h3⟩ := h
  have h1 : v1 = .int _ := h1
  have h2 : v2 = .int _ := h2
  have h3 : v3 = .int _ := h3
  subst h1 h2 h3
  exact ⟨p, h0, hs⟩⟩
instance : TInts (T4 Int Int Int Int) := ⟨fun x => [x.a, x.b, x.c, x.d], fun h => by
  obtain ⟨p, v1, v2, v3, v4, h0, hs, h1, h2, h3, h4⟩ := h
  have h1 : v1 = .int _ := h1
  have h2 : v2 = .int _ := h2
  have h3 : v3 = .int _ := h3
  have h4 : v4 = .int _ := h4
  subst h1 h2 h3 h4
  exact ⟨p, h0, hs⟩⟩
instance : TInts (T5 Int Int Int Int Int) := ⟨fun x => [x.a, x.b, x.c, x.d, x.e], fun h => by
  obtain ⟨p, v1, v2, v3, v4, v5, h0, hs, h1, h2, h3, h4, h5⟩ := h
  have h1 : v1 = .int _ := h1
  have h2 : v2 = .int _ := h2
  have h3 : v3 = .int _ := h3
  have h4 : v4 = .int _ := h4
  have h5 : v5 = .int _ := h5
  subst h1 h2 h3 h4 h5
  exact ⟨p, h0, hs⟩⟩
/-! ### dicts with such keys -/
structure MDT (β : Type) where
  kvs : List (List Int × β)
def kT (ks : List Int) : List Key := ks.map Sum.inl
theorem kT_inj {a b : List Int} (h : kT a = kT b) : a = b := (List.map_inj_right (fun _ _ h => Sum.inl.inj h)).mp h
theorem kT_val (ks : List Int) : (kT ks).map kV = ks.map V.int := by
  unfold kT
  rw [List.map_map]
  rfl
def DRepT {β : Type} [Rp β] (K : PySem.W.Frag) (G : Hp) (ws : List (List Key × V)) (kvs : List (List Int × β)) : Prop := Paired (fun w y => w.1 = kT y.1 ∧ Rp.rep K G w.2 y.2) ws kvs
theorem DRepT.mono {β : Type} [Rp β] {K : PySem.W.Frag} {G G' : Hp} {ws : List (List Key × V)} {kvs : List (List Int × β)} (e : Same G G') (h : DRepT K G ws kvs) : DRepT K G' ws kvs := Paired.mapP h fun _ _ r => ⟨r.1, Rp.mono e r.2⟩
instance {β : Type} [Rp β] : Ow (MDT β) := ⟨fun K G H v fp x => ∃ p ws, v = .ref p ∧ fp = [p] ∧ H p = some (.dT ws) ∧ DRepT K G ws x.kvs, fun e eh h => by obtain ⟨p, ws, h0, h1, h2, hr⟩ := h; exact ⟨p, ws, h0, h1, by rw [eh p (by rw [h1]; simp)]; exact h2, hr.mono e⟩, fun h => by obtain ⟨p, vs, _, rfl, h2, _⟩ := h; exact nt_one h2 nt_dT⟩
structure DVT (β : Type) where
  kvs : List (List Int × β)
instance {β : Type} [Rp β] : Rp (DVT β) := ⟨fun K G v x => ∃ p ws, v = .ref p ∧ Rd G p (.dT ws) ∧ DRepT K G ws x.kvs, fun e h => by
  obtain ⟨p, ws, h0, h1, hr⟩ := h
  exact ⟨p, ws, h0, rdMono e h1, hr.mono e⟩⟩
instance {β : Type} [Rp β] : Fz (MDT β) (DVT β) := ⟨fun x => ⟨x.kvs⟩, fun {K G H v fp x} hf h => by
  obtain ⟨p, ws, rfl, rfl, h2, r⟩ := h
  exact ⟨p, ws, rfl, .inl (by rw [gl_in (by simp)]; exact h2), r.mono (gl_up hf)⟩⟩
def dputT {β : Type} (kvs : List (List Int × β)) (k : List Int) (v : β) : List (List Int × β) := if (kvs.any fun p => decide (p.1 = k)) = true then kvs.map (fun p => if p.1 = k then (p.1, v) else p) else kvs ++ [(k, v)]
def dgetT {β : Type} (kvs : List (List Int × β)) (k : List Int) : Option β := (kvs.find? fun p => decide (p.1 = k)).map (·.2)
theorem kT_dec (a b : List Int) : decide (kT a = kT b) = decide (a = b) := by
  by_cases h : a = b
  · subst h; simp
  · rw [decide_eq_false h, decide_eq_false fun e => h (kT_inj e)]
section
variable {β : Type} [Rp β] {K : PySem.W.Frag} {G : Hp} {ws : List (List Key × V)} {kvs : List (List Int × β)}
theorem DRepT.any (h : DRepT K G ws kvs) (k : List Int) : (ws.any fun w => decide (w.1 = kT k)) = kvs.any fun p => decide (p.1 = k) := by
  unfold DRepT at h
  induction h with
  | nil => rfl
  | cons r t ih => rw [List.any_cons, List.any_cons, ih, r.1, kT_dec]
theorem DRepT.get (h : DRepT K G ws kvs) (k : List Int) : match dgetT kvs k with
    | none => valV ws (kT k) = none
    | some y => ∃ v, valV ws (kT k) = some v ∧ Rp.rep K G v y := by
  unfold DRepT at h
  induction h with
  | nil => rfl
  | @cons w y ws kvs r t ih =>
    unfold dgetT valV at *
    rw [List.find?_cons, List.find?_cons, r.1, kT_dec]
    by_cases e : y.1 = k
    · rw [decide_eq_true e]; exact ⟨_, rfl, r.2⟩
    · rw [decide_eq_false e]; exact ih
theorem DRepT.put (h : DRepT K G ws kvs) (k : List Int) {v : V} {y : β} (r : Rp.rep K G v y) : DRepT K G (putK ws (kT k) v) (dputT kvs k y) := by
  unfold putK dputT
  rw [h.any k]
  split
  · rename_i hh
    clear hh
    unfold DRepT at *
    induction h with
    | nil => exact .nil
    | @cons w z ws kvs q t ih =>
      refine .cons ?_ ih
      dsimp only
      by_cases e : z.1 = k
      · rw [if_pos e, if_pos (by rw [q.1, e])]; exact ⟨q.1, r⟩
      · rw [if_neg e, if_neg (by rw [q.1]; exact fun z => e (kT_inj z))]; exact q
  · exact paired_app h (.cons ⟨rfl, r⟩ .nil)
theorem DRepT.len (h : DRepT K G ws kvs) : ws.length = kvs.length := Paired.length h
end
theorem DGet.tr {H : Hp} {a b : Addr} {kvs : List (List Key × V)} {k : List Int} (e : Rd H a (.dT kvs)) (eb : H b = some (.tup (k.map V.int))) : DGet H a (.ref b) (valV kvs (kT k)) := .inr ⟨kvs, kT k, b, e, rfl, by rw [kT_val]; exact eb, rfl⟩
section
variable {X : Cx} {Γ Γ' : List Slot} {st : Stmt} {sts els rest : List Stmt} {a b c d e tg iter elt : Expr} {es elts ifs : List Expr} {pos : Pos} {o : Out}
theorem dats_ints {K : PySem.W.Frag} {G : Hp} : ∀ {vs : List V} {ks : List Int}, DatsOk K G vs (ks.map fun x => dt x) → vs = ks.map V.int := fun h => (DatsOk.of h).ints
/-- (a, b, ..) of ints, a new tuple -/
theorem ev_tk {ks : List Int} {n : Nat} (h : EA X Γ es (ks.map fun x => dt x)) (hn : ks.length ≤ 100 := by exact Nat.le_of_ble_eq_true rfl) : EV X Γ (.Tuple es n pos) (TK.mk ks) := ⟨fun B G H σ hB hg l Q q =>
  we (pe_tup pa) (h B G H σ hB hg l _ fun vs G1 H1 g1 r1 => ⟨by rw [r1.len, List.length_map]; exact Nat.le_trans hn (by decide), fun p hp => by
    rw [dats_ints r1]
    exact q _ _ _ (g1.trans (Grow.new g1.gh hp)) ⟨p, rfl, upd_same⟩⟩)⟩
theorem po_w {eo : Option Expr} : PO X eo (WO X eo) := ⟨fun pins s σ H Q I h => h pins s I⟩
/-- t[lo:hi] of ints, not the whole -/
theorem ev_tsl {τ : Type} [Rp τ] [TInts τ] {x : τ} {lo hi : Option Expr} {l u : Option Int} {ks : List Int} {p2 : Pos} {n : Nat} (h : EV X Γ a x) (hl : EO X Γ lo l) (hu : EO X Γ hi u) (hw : ¬ (HT.sIx n 0 l = 0 ∧ HT.sIx n n u = n))
    (hn : (TInts.nums x).length = n := by rfl) (hk : cutV ((TInts.nums x).map V.int) l u = ks.map V.int := by rfl) :
    EV X Γ (.Subscript a (.Slice lo hi none p2) pos) (TK.mk ks) := ⟨fun B G H σ hB hg lo0 Q q =>
  we (pe_slice sl_tup pe po_w po_w) (h B G H σ hB hg lo0 _ fun v G1 H1 g1 r1 => eo_run hl (hB.trans g1.h) g1.gh (lo0.grow g1) fun G2 H2 g2 => eo_run hu ((hB.trans g1.h).trans g2.h) g2.gh ((lo0.grow g1).grow g2) fun G3 H3 g3 => by
    obtain ⟨p, rfl, hs⟩ := TInts.ok r1
    have g := g2.trans g3
    refine ⟨p, _, rfl, seqT (g.g.trans g.gh) hs, by rw [List.length_map, hn]; exact hw, fun p2 hp2 => ?_⟩
    rw [hk]
    exact q _ _ _ ((g1.trans g).trans (Grow.new g3.gh hp2)) ⟨p2, rfl, upd_same⟩)⟩
/-- {} -/
theorem en_dT0 {β : Type} [Rp β] : EN X Γ (.Dict [] [] pos) (MDT.mk ([] : List (List Int × β))) := ⟨fun B G H σ hB hg l Q q =>
  we pe_dnewT fun p hn => q (.ref p) [p] G _ (Grow.own hg hn) (one_new hn (hg.free hn)) ⟨p, [], rfl, rfl, upd_same, .nil⟩⟩
/-- d[k] = v -/
theorem sv_dputT (i : Nat) {β : Type} [Rp β] {kvs : List (List Int × β)} {k : List Int} {v : β} {e1 e2 : Expr} (hp : PS X st (sDPut (tVar i) (WE X e1) (WE X e2))) (h0 : Γ[i]? = some (.o (MDT.mk kvs))) (h2 : EV X Γ e2 v) (h1 : EV X Γ e1 (TK.mk k)) (hz : kvs.length < 10000000) : SV X Γ st (.nx (Γ.set i (.o (MDT.mk (dputT kvs k v))))) := ⟨fun B G H σ D hB hg l kk => by
  obtain ⟨F, v0, lf, e0, hf, p, ws', rfl, hF, hh, r⟩ := own_at l h0
  refine ws hp (h2 B G H σ hB hg l _ fun x G1 H1 g1 r1 => ⟨_, e0, h1 B G1 H1 σ (hB.trans g1.h) g1.gh (l.grow g1) _ fun y G2 H2 g2 r2 => ?_⟩)
  have g := g1.trans g2
  have hfp := hf p (by rw [hF]; simp)
  have hgp2 := (g.fr p _ hh).trans hfp.2.1
  obtain ⟨bk, rfl, hbk⟩ := r2
  refine ⟨p, _, rfl, DPut.t (k := kT k) (g.h _ _ hh) (by rw [kT_val]; exact g2.gh _ _ hbk) (by rw [r.len]; exact Nat.lt_of_lt_of_le hz (by decide)), ?_⟩
  have hk : ∀ a, a ∉ F i → ∀ o, H2 a = some o → upd H2 p (.dT (putK ws' (kT k) x)) a = some o := fun a ha o e => by rw [upd_ne (by rw [hF] at ha; simpa using ha)]; exact e
  exact kk G2 _ ((g.step hB).trans (Stp.mutL (hB.trans g.h) g.gh hfp.1 hgp2)) σ ((lf.grow g).mut (fp := [p]) (d' := ot (MDT.mk (dputT kvs k v))) h0 e0 hk (fun a ha => by
    have : a = p := by simpa using ha
    subst this
    exact ⟨.inl (by rw [hF]; simp), hfp.1, hgp2, _, upd_same⟩) ⟨p, _, rfl, rfl, upd_same, (r.mono g.g).put k (Rp.mono g2.g r1)⟩)⟩
theorem someT {β : Type} [Rp β] {K : PySem.W.Frag} {G : Hp} {ws : List (List Key × V)} {kvs : List (List Int × β)} (dr : DRepT K G ws kvs) (k : List Int) : (valV ws (kT k)).isSome = (dgetT kvs k).isSome := by
  have h := dr.get k
  cases hd : dgetT kvs k with
  | none => rw [hd] at h; rw [h]; rfl
  | some y => rw [hd] at h; obtain ⟨w, e, _⟩ := h; rw [e]; rfl
/-- k in d -/
theorem ev_dinT {β : Type} [Rp β] {kvs : List (List Int × β)} {k : List Int} (hu : X.A.units + 64 < cLine) (ha : EV X Γ a (TK.mk k)) (hb : EV X Γ b (DVT.mk kvs)) (hm : behindInMarks .In b = false := by rfl) : EV X Γ (.Compare a [.In] [b] pos) (dgetT kvs k).isSome := ⟨fun B G H σ hB hg l Q q =>
  we (pe_cmp (pc_din (by omega) pe pe) hm) (ha B G H σ hB hg l _ fun v G1 H1 g1 r1 => hb B G1 H1 σ (hB.trans g1.h) g1.gh (l.grow g1) _ fun u G2 H2 g2 r2 => by
    obtain ⟨p, ws, rfl, hr, dr⟩ := r2
    obtain ⟨bk, rfl, hbk⟩ := r1
    refine ⟨p, _, rfl, DGet.tr (rdMono g2.gh hr) ((g2.g.trans g2.gh) _ _ hbk), ?_⟩
    rw [someT dr k]
    exact q _ G2 H2 (g1.trans g2) rfl)⟩
theorem et_dinT {β : Type} [Rp β] {kvs : List (List Int × β)} {k : List Int} (hu : X.A.units + 64 < cLine) (ha : EV X Γ a (TK.mk k)) (hb : EV X Γ b (DVT.mk kvs)) (hm : behindInMarks .In b = false := by rfl) : ET X Γ (.Compare a [.In] [b] pos) (dgetT kvs k).isSome := ⟨fun B G H σ hB hg l Q q =>
  wt (pt_cmp (pc_din (by omega) pe pe) hm) (ha B G H σ hB hg l _ fun v G1 H1 g1 r1 => hb B G1 H1 σ (hB.trans g1.h) g1.gh (l.grow g1) _ fun u G2 H2 g2 r2 => by
    obtain ⟨p, ws, rfl, hr, dr⟩ := r2
    obtain ⟨bk, rfl, hbk⟩ := r1
    refine ⟨p, _, rfl, DGet.tr (rdMono g2.gh hr) ((g2.g.trans g2.gh) _ _ hbk), _, rfl, ?_⟩
    rw [someT dr k]
    exact q G2 H2 (g1.trans g2))⟩
/-- d.get(k, x) -/
theorem ev_dget2T {β : Type} [Rp β] {kvs : List (List Int × β)} {k : List Int} {x : β} {apos : Pos} (hu : X.A.units + 64 < cLine) (hd : EV X Γ d (DVT.mk kvs)) (ha : EV X Γ a (TK.mk k)) (hb : EV X Γ b x) (m : M2 X d "get" apos a b pos := by exact ⟨rfl, rfl, rfl, rfl⟩) :
    EV X Γ (.Call (.Attribute d "get" apos) [a, b] [] pos) ((dgetT kvs k).getD x) := ⟨fun B G H σ hB hg l Q q =>
  we (pe_dget2 (by omega) pe pe pe m) (hd B G H σ hB hg l _ fun v0 G0 H0 g0 r0 => by
    obtain ⟨p, ws, rfl, hr, dr⟩ := r0
    refine ⟨p, rfl, .inr ⟨ws, rdMono g0.gh hr⟩, ha B G0 H0 σ (hB.trans g0.h) g0.gh (l.grow g0) _ fun v G1 H1 g1 r1 => hb B G1 H1 σ ((hB.trans g0.h).trans g1.h) g1.gh ((l.grow g0).grow g1) _ fun u G2 H2 g2 r2 => ?_⟩
    obtain ⟨bk, rfl, hbk⟩ := r1
    have g := g1.trans g2
    refine ⟨_, DGet.tr (rdMono (g.g.trans g.gh) hr) ((g2.g.trans g2.gh) _ _ hbk), ?_⟩
    have h := (dr.mono g.g).get k
    cases hd : dgetT kvs k with
    | none => rw [hd] at h; rw [h]; exact q _ G2 H2 ((g0.trans g1).trans g2) (by rw [hd]; exact r2)
    | some y => rw [hd] at h; obtain ⟨w, e, rw'⟩ := h; rw [e]; exact q _ G2 H2 ((g0.trans g1).trans g2) (by rw [hd]; exact rw'))⟩
end
end Wl

set_option maxRecDepth 100000
set_option maxHeartbeats 2000000
namespace Wl
open PySem PySem.Spec PyProof.Rows L2
/-! ### how many unlike ones -/
def uniq {α : Type} [DecidableEq α] : List α → List α
  | [] => []
  | x :: r => if x ∈ r then uniq r else x :: uniq r
theorem mem_uniq {α : Type} [DecidableEq α] {x : α} : ∀ {xs : List α}, x ∈ uniq xs ↔ x ∈ xs
  | [] => Iff.rfl
  | y :: r => by
    unfold uniq
    by_cases h : y ∈ r
    · rw [if_pos h, mem_uniq, List.mem_cons]
      constructor
      · exact .inr
      · rintro (e | e)
        · rw [e]; exact h
        · exact e
    · rw [if_neg h, List.mem_cons, List.mem_cons, mem_uniq]
theorem uniq_nodup {α : Type} [DecidableEq α] : ∀ (xs : List α), (uniq xs).Nodup
  | [] => List.nodup_nil
  | y :: r => by
    unfold uniq
    by_cases h : y ∈ r
    · rw [if_pos h]; exact uniq_nodup r
    · rw [if_neg h]; exact List.nodup_cons.mpr ⟨fun z => h (mem_uniq.mp z), uniq_nodup r⟩
theorem uniq_len {α : Type} [DecidableEq α] {xs ys : List α} (hn : ys.Nodup) (h : ∀ x, x ∈ ys ↔ x ∈ xs) : ys.length = (uniq xs).length :=
  ((List.perm_ext_iff_of_nodup hn (uniq_nodup xs)).mpr fun x => (h x).trans mem_uniq.symm).length_eq
theorem uniq_le {α : Type} [DecidableEq α] : ∀ (xs : List α), (uniq xs).length ≤ xs.length
  | [] => Nat.le_refl _
  | y :: r => by
    have := uniq_le r
    unfold uniq
    by_cases h : y ∈ r
    · rw [if_pos h]; exact Nat.le_succ_of_le this
    · rw [if_neg h]; exact Nat.succ_le_succ this
theorem uniq_eq {α : Type} [DecidableEq α] : ∀ (xs : List α), (uniq xs).length = xs.length ↔ xs.Nodup
  | [] => ⟨fun _ => List.nodup_nil, fun _ => rfl⟩
  | y :: r => by
    have ih := uniq_eq r
    have hl := uniq_le r
    unfold uniq
    by_cases h : y ∈ r
    · rw [if_pos h, List.nodup_cons, List.length_cons]
      exact ⟨fun e => by omega, fun e => absurd h e.1⟩
    · rw [if_neg h, List.nodup_cons, List.length_cons, List.length_cons, Nat.succ_inj, ih]
      exact ⟨fun e => ⟨h, e⟩, fun e => e.2⟩
section
variable {X : Cx} {Γ Γ' : List Slot} {st : Stmt} {sts els rest : List Stmt} {a b c d e tg iter elt : Expr} {es elts ifs : List Expr} {pos : Pos} {o : Out}
theorem reps_tk {K : PySem.W.Frag} {G : Hp} : ∀ {vs : List V} {xs : List TK}, Reps K G vs xs → ∃ ks : List (Addr × List Int), vs = ks.map (fun p => V.ref p.1) ∧ (∀ p ∈ ks, G p.1 = some (.tup (p.2.map V.int))) ∧ ks.map (·.2) = xs.map TK.ks
  | _, _, .nil => ⟨[], rfl, by simp, rfl⟩
  | _, _, .cons r t => by
    obtain ⟨p, rfl, hp⟩ := r
    obtain ⟨ks, rfl, h1, h2⟩ := reps_tk t
    exact ⟨(p, _) :: ks, rfl, fun q hq => by
      rcases List.mem_cons.mp hq with e | e
      · rw [e]; exact hp
      · exact h1 q e, by rw [List.map_cons, List.map_cons, h2]⟩
/-- len(set(xs)), xs of fewer than 64 tuples of ints -/
theorem ev_lenSetT {xs : List TK} {p p2 q : Pos} (hc : X.calm = true) (hu : X.A.units + 64 < cLine) (hm : X.mg "len" = none) (hm2 : X.mg "set" = none) (ha : EV X Γ a xs) (hl : xs.length < 64) (hg : Gl X "len" := by rfl) (hg2 : Gl X "set" := by rfl)
    (na : starEach [a] X.env = (false, eval a X.env) :: starEach [] X.env := by rfl) : EV X Γ (.Call (.Name "len" p) [.Call (.Name "set" p2) [a] [] q] [] pos) ((uniq xs).length : Int) := ⟨fun B G H σ hB hgh lo Q qq pins s I => by
  refine Call_ (ld_blt I hg hm boot_len ?_)
  refine PyProof.Rows.callWith_builtin1 (PyProof.Rows.args_cons ?_ rfl) rfl rfl
  refine Call_ (ld_blt I hg2 hm2 boot_set ?_)
  refine PyProof.Rows.callWith_type1 (PyProof.Rows.args_cons (thn (ha B G H σ hB hgh lo (fun v H1 => ∃ G1, Grow G H G1 H1 ∧ Rp.rep X.K G1 v xs) (fun v G1 H1 g1 r1 => ⟨G1, g1, r1⟩) pins s I) fun v s1 ⟨x, H1, I1, r1, G1, g1, rx⟩ => PyProof.Rows.args_nil ?_) na) na rfl
  obtain ⟨l, vs, rfl, hs, hr⟩ := rx
  obtain ⟨ks, rfl, h1, h2⟩ := reps_tk hr
  cases r1
  obtain ⟨its, rv, pl, hz⟩ := I1.list (Same.seq g1.gh hs)
  have hkl : ks.length = xs.length := by simpa using congrArg List.length h2
  refine call_set_tups (P := X.prog) (w := X.w) ks (I1.ok.hd hc) pl.isList (by simpa using refs_of_vals rv) (fun p hp => I1.isT (.inl (.inl (g1.gh _ _ (h1 p hp))))) (by omega) (by omega) fun h' tk L es ep t R g k => ?_
  refine PyProof.Rows.args_nil ?_
  have I2 : Inv X pins σ H1 { s1 with heap := h', toks := tk } := I1.kept k
  have hsz := SetTR.size (s := { s1 with heap := h', toks := tk }) R
  have hLn : L.length = (uniq xs).length := by
    have e : (L.map (·.2)).length = (uniq (xs.map TK.ks)).length := uniq_len R.nd fun y => by
      rw [← h2]
      constructor
      · intro hy
        obtain ⟨p, hp, rfl⟩ := List.mem_map.mp hy
        exact List.mem_map.mpr ⟨p, List.mem_of_mem_take (g.sub p hp), rfl⟩
      · intro hy
        obtain ⟨p, hp, rfl⟩ := List.mem_map.mp hy
        exact g.all p (by rw [List.take_length]; exact hp)
    rw [List.length_map] at e
    rw [e]
    have inj : ∀ ys : List TK, (uniq (ys.map TK.ks)).length = (uniq ys).length := by
      intro ys
      induction ys with
      | nil => rfl
      | cons y r ih =>
        have hm : y.ks ∈ r.map TK.ks ↔ y ∈ r := by
          constructor
          · intro h
            obtain ⟨z, hz, e⟩ := List.mem_map.mp h
            have : z = y := by cases z; cases y; simpa using e
            rw [← this]; exact hz
          · exact fun h => List.mem_map.mpr ⟨y, h, rfl⟩
        rw [List.map_cons]
        unfold uniq
        by_cases h : y ∈ r
        · rw [if_pos h, if_pos (hm.mpr h)]; exact ih
        · rw [if_neg h, if_neg (fun z => h (hm.mp z)), List.length_cons, List.length_cons, ih]
    exact inj xs
  have hfew := R.few
  obtain ⟨o, ho, hex, hd⟩ := R.ob
  refine call_len_set ho hex hd (SetTR.fits (s := { s1 with heap := h', toks := tk }) R) (by rw [hsz]; omega) ⟨.int _, H1, I2.tok _, ⟨_, rfl⟩, ?_⟩
  rw [hsz, hLn]
  exact qq _ G1 H1 g1 rfl⟩
/-- a module's int -/
theorem ev_gint {i : Int} {x : Str} (hm : ∃ t, X.mg x = some (.int i t)) (hg : Gl X x := by rfl) (hd : (x == ("__debug__" : Str)) = false := by decide) : EV X Γ (.Name x pos) i := ⟨fun B G H σ hB hgh l Q q =>
by
  obtain ⟨t, e⟩ := hm
  exact we (pe_glob (v := .int i) hg e ⟨t, rfl⟩ hd) (q _ G H (Grow.refl hgh) rfl)⟩
/-- t[k] of a tuple of ints, k a place -/
theorem ev_tixI {τ : Type} [Rp τ] [TInts τ] {x : τ} {i : Int} (ha : EV X Γ a x) (hb : EV X Γ b i) (h0 : 0 ≤ i ∧ i < ((TInts.nums x).length : Int)) (hp : PlainIx b := by exact fun _ _ => rfl) : EV X Γ (.Subscript a b pos) ((TInts.nums x).getD i.toNat 0) := ⟨fun B G H σ hB hg l Q q =>
  we (pe_ix ix_tup pe pe hp) (ha B G H σ hB hg l _ fun v G1 H1 g1 r1 => hb B G1 H1 σ (hB.trans g1.h) g1.gh (l.grow g1) _ fun u G2 H2 g2 r2 => by
    obtain ⟨p, rfl, hs⟩ := TInts.ok r1
    have hx : (TInts.nums x)[i.toNat]? = some ((TInts.nums x).getD i.toNat 0) := by
      have h : i.toNat < (TInts.nums x).length := by omega
      rw [List.getD_eq_getElem?_getD, List.getElem?_eq_getElem h]; rfl
    have hi : ((i.toNat : Nat) : Int) = i := by omega
    exact ⟨p, _, i, _, rfl, r2, seqT (g1.trans g2).gh (seqT g2.g hs), by rw [← hi]; exact atI_nat (by rw [List.getElem?_map, hx]; rfl), q _ G2 H2 (g1.trans g2) rfl⟩)⟩
/-- tuple(xs), xs a list of five -/
theorem ev_tuple5 {p : Pos} {ns : List Int} (hm : X.mg "tuple" = none) (ha : EV X Γ a ns) (hl : ns.length = 5) (hg : Gl X "tuple" := by rfl) (na : starEach [a] X.env = (false, eval a X.env) :: starEach [] X.env := by rfl) :
    EV X Γ (.Call (.Name "tuple" p) [a] [] pos) (T5.mk (ns.getD 0 0) (ns.getD 1 0) (ns.getD 2 0) (ns.getD 3 0) (ns.getD 4 0)) := ⟨fun B G H σ hB hgh l Q q =>
  we (pe_tupleOf hg hm pe na) (ha B G H σ hB hgh l _ fun v G1 H1 g1 r1 => by
    obtain ⟨p, vs, rfl, hs, hr⟩ := r1
    refine .inl ⟨p, vs, rfl, Same.seq g1.gh hs, fun q0 hq => q (.ref q0) _ _ (g1.trans (Grow.new g1.gh hq)) ?_⟩
    have e := hr.ints
    subst e
    match ns, hl with
    | [x1, x2, x3, x4, x5], _ => exact ⟨q0, _, _, _, _, _, rfl, SqT.of upd_same, rfl, rfl, rfl, rfl, rfl⟩)⟩
theorem bv_letv {τ : Type} {of : τ → Out} {x : τ} (Γf : τ → List Slot) (hr : ∀ y : τ, y = x → BV X (Γf y) sts (of y)) (ho : of x = o := by exact rfl) : BV X (Γf x) sts o := ho ▸ hr x rfl
theorem enumL_len {α : Type} (xs : List α) : (enumL xs).length = xs.length := by simp [enumL]
theorem enum_in {α : Type} {xs : List α} {x : T2 Int α} (h : x ∈ enumL xs) : x.b ∈ xs := by
  unfold enumL at h
  obtain ⟨i, hi, e⟩ := List.mem_mapIdx.mp h
  subst e
  exact List.getElem_mem hi
theorem enum_mem {α : Type} {xs : List α} {pre post : List (T2 Int α)} {x : T2 Int α} (h : enumL xs = pre ++ x :: post) : x.b ∈ xs := enum_in (by rw [h]; simp)
theorem or_dec {p q : Prop} [Decidable p] [Decidable q] (h : (decide p || decide q) = false) : ¬ p ∧ ¬ q := by simpa using h
end
end Wl

set_option maxRecDepth 100000
set_option maxHeartbeats 2000000
/-! sorted(xs), xs tuples of ints of one length, any number of them -/
namespace Wl
open PySem PySem.Spec PyProof.Rows L2
def lexL : List Int → List Int → Bool
  | [], [] => false
  | [], _ :: _ => true
  | _ :: _, [] => false
  | x :: r, y :: t => if x = y then lexL r t else decide (x < y)
theorem lexL_asym : ∀ (x y : List Int), lexL x y = true → lexL y x = false
  | [], [], h => by cases h
  | [], _ :: _, _ => rfl
  | _ :: _, [], h => by cases h
  | x :: r, y :: t, h => by
    unfold lexL at h ⊢
    by_cases e : x = y
    · rw [if_pos e] at h
      rw [if_pos e.symm]
      exact lexL_asym r t h
    · rw [if_neg e] at h
      rw [if_neg (Ne.symm e)]
      have h := of_decide_eq_true h
      exact decide_eq_false (by omega)
theorem lexL_tr : ∀ (x y z : List Int), lexL y x = false → lexL z y = false → lexL z x = false
  | [], [], z, _, h => h
  | [], _ :: _, [], _, _ => rfl
  | [], _ :: _, _ :: _, _, _ => rfl
  | _ :: _, [], _, h, _ => by cases h
  | _ :: _, _ :: _, [], _, h => by cases h
  | x :: r, y :: t, z :: u, h1, h2 => by
    unfold lexL at h1 h2 ⊢
    by_cases e1 : y = x
    · by_cases e2 : z = y
      · rw [if_pos e1] at h1
        rw [if_pos e2] at h2
        rw [if_pos (e2.trans e1)]
        exact lexL_tr r t u h1 h2
      · rw [if_neg e2] at h2
        rw [if_neg (fun w => e2 (w.trans e1.symm)), ← e1]
        exact h2
    · rw [if_neg e1] at h1
      have h1 := of_decide_eq_false h1
      by_cases e2 : z = y
      · rw [if_neg (fun w => e1 (e2.symm.trans w)), e2]
        exact decide_eq_false h1
      · rw [if_neg e2] at h2
        have h2 := of_decide_eq_false h2
        rw [if_neg (fun w => by omega)]
        exact decide_eq_false (by omega)
theorem lexL_eq : ∀ (x y : List Int), lexL x y = false → lexL y x = false → x = y
  | [], [], _, _ => rfl
  | [], _ :: _, h, _ => by cases h
  | _ :: _, [], _, h => by cases h
  | x :: r, y :: t, h1, h2 => by
    unfold lexL at h1 h2
    by_cases e : x = y
    · rw [if_pos e] at h1
      rw [if_pos e.symm] at h2
      rw [e, lexL_eq r t h1 h2]
    · rw [if_neg e] at h1
      rw [if_neg (Ne.symm e)] at h2
      have h1 := of_decide_eq_false h1
      have h2 := of_decide_eq_false h2
      omega
section
variable {prog : Program} {w : World} {A : Around} {E : Value → Shared → Prop} {s : Shared} {Q : Bool → Shared → Prop}
theorem lexT_ints {b : Bool} {xs ys : List Value} {ns ms : List Int} (i : Nat) (hx : IntsAre xs ns) (hy : IntsAre ys ms) (hl : ns.length = ms.length)
    (h : Q (lexL ns ms) s) : PySem.W.KatLex prog w A b false Q (xs.zip ys) i s := by
  induction hx generalizing ys ms i with
  | nil =>
    cases hy with
    | nil => exact PySem.W.kat_nil h
    | cons q u hy => simp at hl
  | @cons p t xs ns hx ih =>
    cases hy with
    | nil => simp at hl
    | @cons q u ys ms hy =>
      have hl' : ns.length = ms.length := by simpa using hl
      show PySem.W.KatLex prog w A b false Q ((Value.int p t, Value.int q u) :: xs.zip ys) i s
      refine PySem.W.kat_cons (wpAny_eqBool_int ?_)
      unfold lexL at h
      by_cases e : p = q
      · subst e
        rw [if_pos rfl] at h
        rw [beq_self_eq_true]
        refine PySem.W.kat_yes ?_
        first
          | exact ih (i + 1) hy hl' h
          | exact ih _ _ (i + 1) hy hl' h
      · rw [if_neg e] at h
        rw [show (p == q) = false from beq_eq_false_iff_ne.mpr e]
        exact PySem.W.kat_no (TS.oneLt_ints _ h)
/-- what is sorted: tuples of d ints -/
def TupsD (h : Heap) (d : Nat) (vs : List Value) : Prop := ∀ v, v ∈ vs → ∃ ns, TS.TupInts h v ns ∧ ns.length = d
theorem TupsD.keeps {h h' : Heap} {d : Nat} {vs : List Value} (x : TupsD h d vs) (k : ∀ b o, h.get? b = some o → o.cls = .type "tuple" → h'.get? b = some o) : TupsD h' d vs := fun v hv =>
  let ⟨ns, t, r⟩ := x v hv; ⟨ns, t.keeps k, r⟩
theorem firstsD {h : Heap} {d : Nat} (hd : 1 ≤ d) : ∀ vs : List Value, TupsD h d vs → ∃ fs, PySem.W.KatTups h vs fs ∧ fs.length = vs.length ∧ ∀ f, f ∈ fs → ∃ n t, f = Value.int n t
  | [], _ => ⟨[], PySem.W.KatTups.nil, rfl, fun f hf => by simp at hf⟩
  | v :: vs, x => by
    obtain ⟨fs, k, hl, hi⟩ := firstsD hd vs fun u hu => x u (List.mem_cons_of_mem _ hu)
    obtain ⟨ns, ⟨a, xs, rfl, ⟨o, ho, hc, n, hdt⟩, i⟩, hn⟩ := x v (List.mem_cons_self ..)
    obtain ⟨y, ys, e⟩ : ∃ y ys, xs.toList = y :: ys := by
      cases q : xs.toList with
      | nil =>
        rw [q] at i
        have l := i.length
        rw [List.length_nil, hn] at l
        omega
      | cons y ys => exact ⟨y, ys, rfl⟩
    obtain ⟨m, t, hy⟩ := i.all y (by rw [e]; exact List.mem_cons_self ..)
    refine ⟨y :: fs, PySem.W.KatTups.cons ho hc hdt ?_ k, by simp [hl], ?_⟩
    · have z := congrArg (fun l : List Value => l[0]?) e
      simpa using z
    · intro f hf
      rcases List.mem_cons.mp hf with rfl | hf
      · exact ⟨m, t, hy⟩
      · exact hi f hf
theorem tupD_cmp {d : Nat} {vs : List Value} (hp : TupsD s.heap d vs) : SrtO.Cmp prog w A s (tuples' true) (fun p => p.1 ∈ vs) (SrtO.lt2 fun v u => lexL (TS.intsOf s.heap v) (TS.intsOf s.heap u)) := by
  intro p q hm hm'
  obtain ⟨ns, tp, lp⟩ := hp _ hm
  obtain ⟨ms, tq, lq⟩ := hp _ hm'
  show wpAny (model prog w) A (keyLt' (tuples' true) p.1 q.1) (fun r s' => s' = s ∧ r = lexL (TS.intsOf s.heap p.1) (TS.intsOf s.heap q.1)) (fun _ _ => False) s
  rw [tp.ints, tq.ints]
  obtain ⟨a, xs, e1, ⟨o, ho, hc, n, hdt⟩, i⟩ := tp
  obtain ⟨a', ys, e2, ⟨o', ho', hc', n', hdt'⟩, i'⟩ := tq
  rw [e1, e2]
  refine PySem.W.kat_lt ho hdt ho' hdt' ?_
  have hsz : decide (xs.size < ys.size) = false := by
    have l1 := i.length
    have l2 := i'.length
    rw [Array.length_toList] at l1 l2
    exact decide_eq_false (by omega)
  rw [hsz]
  exact lexT_ints 0 i i' (by omega) ⟨rfl, rfl⟩
theorem tupD_sortable {a : Addr} {d : Nat} {vs : List Value} (hd : 1 ≤ d) (h0 : 0 < vs.length) (hp : TupsD s.heap d vs) (ha : ∀ o, s.heap.get? a = some o → o.cls ≠ .type "tuple") : SrtO.SortableO prog w A s a vs fun v u => lexL (TS.intsOf s.heap v) (TS.intsOf s.heap u) := by
  intro h' keep
  have kk : ∀ b o, s.heap.get? b = some o → o.cls = .type "tuple" → h'.get? b = some o := fun b o e c => keep b o (fun z => by subst z; exact ha o e c) e
  have hp' := hp.keeps kk
  obtain ⟨fs, h1, h2, h3⟩ := firstsD hd vs hp'
  refine ⟨tuples' true, fun Q E hq => ?_, ?_⟩
  · refine PySem.W.kat_kind (T := .type "int") h1 (by omega) (fun f hm => ?_) (by rfl) ?_
    · obtain ⟨x, t, rfl⟩ := h3 f hm
      exact PySem.W.Looks.now
    · have e : (Value.type "int" != Value.type "tuple") = true := by first | decide +kernel | rfl | decide
      rw [e]
      exact hq
  · have hc := tupD_cmp (prog := prog) (w := w) (A := A) (s := { s with heap := h' }) hp'
    intro p q hm hm'
    have e : ∀ v, v ∈ vs → TS.intsOf h' v = TS.intsOf s.heap v := fun v hv => by
      obtain ⟨ns, t, _⟩ := hp v hv
      rw [t.ints, (t.keeps kk).ints]
    have q1 := hc p q hm hm'
    have z : SrtO.lt2 (fun v u => lexL (TS.intsOf h' v) (TS.intsOf h' u)) p q = SrtO.lt2 (fun v u => lexL (TS.intsOf s.heap v) (TS.intsOf s.heap u)) p q := by
      show lexL (TS.intsOf h' p.1) (TS.intsOf h' q.1) = lexL (TS.intsOf s.heap p.1) (TS.intsOf s.heap q.1)
      rw [e _ hm, e _ hm']
    rw [← z]
    exact q1
end
section
variable {X : Cx}
def rSortLx (K : PySem.W.Frag) (d : Nat) : List V → Hp → VK → Prop := fun vs H Q => ∃ (a : Addr) (xs : List V), vs = [V.ref a] ∧ SqL K H a xs ∧ (∀ x ∈ xs, ∃ ns, TupI K H x ns ∧ ns.length = d) ∧
  ∀ (ys : List V) (p : Addr), ys.Perm xs → ys.Pairwise (fun x y => ∀ n m, TupI K H x n → TupI K H y m → lexL m n = false) → H p = none → Q (.ref p) (upd H p (.lst ys))
theorem cr_sortLx {d : Nat} (hd : 1 ≤ d) : CallR X (.builtin "sorted") (rSortLx X.K d) := by
  intro pins s σ H vs us Q I r h
  obtain ⟨a, xs, rfl, hs, hx, q⟩ := h
  obtain ⟨its, rv, hl, hz⟩ := I.list hs
  rw [Vals.ref1 r]
  obtain ⟨e1, e2⟩ := bkV_refs rv fun x m => by
    obtain ⟨ns, ⟨t, e, _⟩, _⟩ := hx x m
    exact ⟨t, e⟩
  have hT : TupsD s.heap d its := fun v hv => by
    obtain ⟨t, rfl⟩ := e2 v hv
    have hm : V.ref t ∈ xs := by
      rw [e1]
      exact List.mem_map.mpr ⟨_, hv, rfl⟩
    obtain ⟨ns, ⟨t', e, ht⟩, hn⟩ := hx _ hm
    cases e
    exact ⟨ns, tupI_raw I ht, hn⟩
  refine SrtO.sorted_ord (ltv := fun v u => lexL (TS.intsOf s.heap v) (TS.intsOf s.heap u)) ⟨fun x y h => lexL_asym _ _ h, fun x y z h1 h2 => lexL_tr _ _ _ h1 h2⟩ hl.isList (by rw [← rv.length]; exact hz) (fun h2 h₁ a' ha kk => ?_) fun out h1 h2 => ?_
  · have kt : ∀ b o, s.heap.get? b = some o → o.cls = .type "tuple" → h₁.get? b = some o := fun b o e _ => (kk b o e).2
    have hs := tupD_sortable (prog := X.prog) (w := X.w) (A := X.A.in1.in1) (s := { s with heap := h₁ }) (a := a') hd (by omega) (hT.keeps kt) (fun o e => by
      have e' : some o = some (seqObj "list" its.toArray 0) := e.symm.trans ha
      cases e'
      intro c
      exact absurd (Value.type.inj c) (by decide))
    intro h' keep
    obtain ⟨κ, c1, c2⟩ := hs h' keep
    refine ⟨κ, c1, fun p q hm hm' => ?_⟩
    have q1 := c2 p q hm hm'
    have e : ∀ v, v ∈ its → TS.intsOf h₁ v = TS.intsOf s.heap v := fun v hv => by
      obtain ⟨ns, t, _⟩ := hT v hv
      rw [t.ints, (t.keeps kt).ints]
    have z : SrtO.lt2 (fun v u => lexL (TS.intsOf h₁ v) (TS.intsOf h₁ u)) p q = SrtO.lt2 (fun v u => lexL (TS.intsOf s.heap v) (TS.intsOf s.heap u)) p q := by
      show lexL (TS.intsOf h₁ p.1) (TS.intsOf h₁ q.1) = lexL (TS.intsOf s.heap p.1) (TS.intsOf s.heap q.1)
      rw [e _ hm, e _ hm']
    rw [← z]
    exact q1
  · have hperm : out.Perm its := h2.perm
    obtain ⟨ep, he'⟩ := PyProof.Rows.sortedAll_at s.heap its out.toArray
    have h3 : ∀ u ∈ out, ∃ a, u = Value.ref a := fun u hu => e2 u (hperm.mem_iff.mp hu)
    have hp : (out.map bkV).Perm xs := by
      rw [e1]
      exact hperm.map bkV
    have hlen : (out.map bkV).length ≤ sizeLine := by
      rw [hp.length_eq]
      exact hz
    refine ⟨.ref _, upd H (s.heap.objs.size + 1) (.lst (out.map bkV)), I.laid (t' := s.toks) (fun _ _ => PyProof.Rows.sortedAll_old) (Nat.le_succ _) ⟨hlen, out, ep, bkV_vals h3, by simpa using he'⟩, rfl, q _ _ hp ?_ (I.hok.fresh (Nat.le_succ _))⟩
    rw [List.pairwise_map]
    refine List.Pairwise.imp (fun {u v} huv n m hn hm => ?_) h1
    obtain ⟨t, et, ht⟩ := hn
    obtain ⟨t', et', ht'⟩ := hm
    have eu := bkV_ref et
    have ev := bkV_ref et'
    have i1 : TS.intsOf s.heap u = n := by
      rw [eu]
      exact (tupI_raw I ht).ints
    have i2 : TS.intsOf s.heap v = m := by
      rw [ev]
      exact (tupI_raw I ht').ints
    rw [← i1, ← i2]
    exact huv
end
/-- tuples of d ints, told by them -/
class TInN (τ : Type) [Rp τ] [TInts τ] (d : outParam Nat) : Prop where
  len : ∀ x : τ, (TInts.nums x).length = d
  inj : ∀ x y : τ, TInts.nums x = TInts.nums y → x = y
instance : TInN (T2 Int Int) 2 := ⟨fun _ => rfl, fun x y h => by cases x; cases y; simpa [TInts.nums] using h⟩
instance : TInN (T3 Int Int Int) 3 := ⟨fun _ => rfl, fun x y h => by cases x; cases y; simpa [TInts.nums] using h⟩
instance : TInN (T4 Int Int Int Int) 4 := ⟨fun _ => rfl, fun x y h => by cases x; cases y; simpa [TInts.nums] using h⟩
instance : TInN (T5 Int Int Int Int Int) 5 := ⟨fun _ => rfl, fun x y h => by cases x; cases y; simpa [TInts.nums] using h⟩
def sortT {τ : Type} [Rp τ] [TInts τ] (xs : List τ) : List τ := xs.mergeSort fun a b => !lexL (TInts.nums b) (TInts.nums a)
theorem sortT_perm {τ : Type} [Rp τ] [TInts τ] (xs : List τ) : (sortT xs).Perm xs := List.mergeSort_perm _ _
theorem sortT_ord {τ : Type} [Rp τ] [TInts τ] (xs : List τ) : (sortT xs).Pairwise fun a b => lexL (TInts.nums b) (TInts.nums a) = false := by
  have h := List.pairwise_mergeSort (le := fun a b : τ => !lexL (TInts.nums b) (TInts.nums a)) (fun a b c h1 h2 => by
    have h1 : lexL (TInts.nums b) (TInts.nums a) = false := by simpa using h1
    have h2 : lexL (TInts.nums c) (TInts.nums b) = false := by simpa using h2
    rw [lexL_tr _ _ _ h1 h2]; rfl) (fun a b => by
    cases e : lexL (TInts.nums b) (TInts.nums a) with
    | false => rfl
    | true => rw [lexL_asym _ _ e]; rfl) xs
  exact h.imp fun h => by simpa using h
theorem sortT_eq {τ : Type} [Rp τ] [TInts τ] {d : Nat} [TInN τ d] {ys xs : List τ} (hp : ys.Perm xs) (ho : ys.Pairwise fun a b => lexL (TInts.nums b) (TInts.nums a) = false) : ys = sortT xs :=
  (hp.trans (sortT_perm xs).symm).eq_of_pairwise (fun x y _ _ h1 h2 => TInN.inj x y (lexL_eq _ _ h2 h1)) ho (sortT_ord xs)
theorem paired_perm {α β : Type} {R : α → β → Prop} {vs ys : List α} (h : ys.Perm vs) : ∀ {xs : List β}, Paired R vs xs → ∃ zs : List β, zs.Perm xs ∧ Paired R ys zs := by
  induction h with
  | nil => intro xs p; cases p; exact ⟨[], .nil, .nil⟩
  | cons x h ih =>
    intro xs p
    cases p with
    | cons r t => obtain ⟨zs, h1, h2⟩ := ih t; exact ⟨_ :: zs, h1.cons _, .cons r h2⟩
  | swap x y l =>
    intro xs p
    cases p with
    | cons r t => cases t with
      | cons r2 t2 => exact ⟨_ :: _ :: _, List.Perm.swap _ _ _, .cons r2 (.cons r t2)⟩
  | trans h1 h2 ih1 ih2 =>
    intro xs p
    obtain ⟨zs, a1, a2⟩ := ih2 p
    obtain ⟨us, b1, b2⟩ := ih1 a2
    exact ⟨us, b1.trans a1, b2⟩
theorem paired_pw {α β : Type} {R : α → β → Prop} {P : α → α → Prop} {Q : β → β → Prop} (h : ∀ x y x' y', R x x' → R y y' → P x y → Q x' y') : ∀ {xs : List α} {ys : List β}, Paired R xs ys → xs.Pairwise P → ys.Pairwise Q
  | _, _, .nil, _ => .nil
  | _, _, .cons r t, p => by
    rw [List.pairwise_cons] at p ⊢
    refine ⟨fun z hz => ?_, paired_pw h t p.2⟩
    obtain ⟨i, hi⟩ := List.mem_iff_getElem?.mp hz
    obtain ⟨w, hw, rw'⟩ := paired_get2 t i z hi
    exact h _ _ _ _ r rw' (p.1 w (List.mem_of_getElem? hw))
section
variable {X : Cx} {Γ : List Slot} {a : Expr} {pos : Pos}
/-- sorted(xs), xs a list of tuples of ints -/
theorem en_sortedT {p : Pos} {τ : Type} [Rp τ] [TInts τ] {d : Nat} [TInN τ d] {xs : List τ} (hd : 1 ≤ d) (hm : X.mg "sorted" = none) (ha : EV X Γ a xs) (hg : Gl X "sorted" := by rfl) (he : starEach [a] X.env = (false, eval a X.env) :: starEach [] X.env := by rfl) (hpl : (backTo pos (starEach [] X.env)).any (·.1) = false := by rfl) :
    EN X Γ (.Call (.Name "sorted" p) [a] [] pos) (ML.mk (sortT xs)) := ⟨fun B G H σ hB hgh l Q q =>
  we (pe_callB (cr_sortLx hd) hg hm (by decide +kernel) pa (by decide) (by decide) he hpl) (ea_cons ha ea_nil he B G H σ hB hgh l _ fun vs G1 H1 g1 r1 => by
    cases r1 with
    | cons r1 t =>
      cases t
      obtain ⟨p, ws, rfl, hs, hr⟩ := r1
      have hI : ∀ (v : V) (x : τ), Rp.rep X.K G1 v x → TupI X.K H1 v (TInts.nums x) := fun v x r => by
        obtain ⟨p, e, h⟩ := TInts.ok r
        exact ⟨p, e, seqT g1.gh h⟩
      refine ⟨p, ws, rfl, Same.seq g1.gh hs, fun w hw => ?_, fun ys p0 hp ho hn => ?_⟩
      · obtain ⟨i, hi⟩ := List.mem_iff_getElem?.mp hw
        obtain ⟨x, hx, rx⟩ := paired_get hr i w hi
        exact ⟨_, hI w x rx, TInN.len x⟩
      · obtain ⟨zs, z1, z2⟩ := paired_perm hp hr
        have z3 := paired_pw (Q := fun a b : τ => lexL (TInts.nums b) (TInts.nums a) = false) (fun x y x' y' r r' h => h _ _ (hI x x' r) (hI y y' r')) z2 ho
        have ez : zs = sortT xs := sortT_eq z1 z3
        rw [ez] at z2
        exact q (.ref p0) [p0] G1 _ (g1.trans (Grow.own g1.gh hn)) (one_new (g1.h.free hn) (g1.gh.free hn)) ⟨p0, ys, rfl, rfl, upd_same, z2⟩)⟩
end
end Wl

set_option maxRecDepth 100000
set_option maxHeartbeats 2000000
/-! a list that is handed in and changed -/
namespace Wl
open PySem PySem.Spec PyProof.Rows L2
/-- an own list that stands at p -/
structure MLp (α : Type) where
  p : Addr
  xs : List α
instance {α : Type} [Rp α] : Ow (MLp α) := ⟨fun K G H v fp x => ∃ vs, v = .ref x.p ∧ fp = [x.p] ∧ H x.p = some (.lst vs) ∧ Reps K G vs x.xs, fun e eh h => by obtain ⟨vs, h0, h1, h2, hr⟩ := h; exact ⟨vs, h0, h1, by rw [eh _ (by rw [h1]; simp)]; exact h2, hr.mono e⟩, fun h => by obtain ⟨vs, _, rfl, h2, _⟩ := h; exact nt_one h2 nt_lst⟩
instance {α : Type} [Rp α] : Fz (MLp α) (List α) := ⟨fun x => x.xs, fun {K G H v fp x} hf h => by
  obtain ⟨vs, rfl, rfl, h2, r⟩ := h
  exact ⟨x.p, vs, rfl, SqL.of (by rw [gl_in (by simp)]; exact h2), r.mono (gl_up hf)⟩⟩
theorem delH_ne {H : Hp} {a b : Addr} (h : b ≠ a) : delH H a b = H b := by unfold delH; rw [if_neg h]
theorem delH_mono {G G' : Hp} {p : Addr} (e : Same G G') (hp : ∃ o, G p = some o) : Same (delH G p) (delH G' p) := fun b u h => by
  by_cases hb : b = p
  · subst hb; rw [delH_same] at h; cases h
  · rw [delH_ne hb] at h ⊢; exact e b u h
theorem delH_mono' {G G' : Hp} {p : Addr} (e : Same G G') : Same (delH G p) (delH G' p) := fun b u h => by
  by_cases hb : b = p
  · subst hb; rw [delH_same] at h; cases h
  · rw [delH_ne hb] at h ⊢; exact e b u h
theorem delH_sub {G : Hp} {p : Addr} : Same (delH G p) G := fun b u h => by
  by_cases hb : b = p
  · subst hb; rw [delH_same] at h; cases h
  · rw [delH_ne hb] at h; exact h
theorem delH_upd {G : Hp} {p : Addr} {o : HO} (h : G p = none) : delH (upd G p o) p = G := by
  funext b
  by_cases hb : b = p
  · subst hb; rw [delH_same, h]
  · rw [delH_ne hb, upd_ne hb]
/-- an answer and what stands at p -/
def rpAt {α β : Type} [Rp α] [Rp β] (p : Addr) : Rp (β × List α) := ⟨fun K G v x => Rp.rep K (delH G p) v x.1 ∧ ∃ vs, G p = some (.lst vs) ∧ Reps K (delH G p) vs x.2, fun {K G G' v x} e h => by
  obtain ⟨h1, vs, h2, h3⟩ := h
  exact ⟨Rp.mono (delH_mono' e) h1, vs, e _ _ h2, h3.mono (delH_mono' e)⟩⟩
def dtAt {α β : Type} [Rp α] [Rp β] (p : Addr) (y : β) (xs : List α) : Dat := ⟨β × List α, rpAt p, (y, xs)⟩
section
variable {X : Cx} {Γ Γ' : List Slot} {st : Stmt} {sts els rest : List Stmt} {a b c d e tg iter elt : Expr} {es elts ifs : List Expr} {pos : Pos} {o : Out}
theorem ownP {K : PySem.W.Frag} {B G H : Hp} {σ : L2.St} {i : Nat} {α : Type} [Rp α] {x : MLp α} (l : Lo K B G H σ Γ) (h : Γ[i]? = some (.o x)) : ∃ F vs, LoF K B G H σ Γ F ∧ F i = [x.p] ∧ σ[i]? = some (some (.ref x.p)) ∧ B x.p = none ∧ G x.p = none ∧ H x.p = some (.lst vs) ∧ Reps K G vs x.xs := by
  obtain ⟨F, v, lf, e1, hf, vs, rfl, e2, e3, r⟩ := own_at l h
  have := hf x.p (by rw [e2]; simp)
  exact ⟨F, vs, lf, e2, e1, this.1, this.2.1, e3, r⟩
theorem LoF.mutP {K : PySem.W.Frag} {B G H : Hp} {σ : L2.St} {F : Nat → List Addr} {i : Nat} {p : Addr} {vs' : List V} {α : Type} [Rp α] {xs xs' : List α} (l : LoF K B G H σ Γ F) (h : Γ[i]? = some (.o (MLp.mk p xs))) (hF : F i = [p]) (e1 : σ[i]? = some (some (.ref p))) (hb : B p = none) (hg : G p = none) (r : Reps K G vs' xs') :
    Lo K B G (upd H p (.lst vs')) σ (Γ.set i (.o (MLp.mk p xs'))) :=
  l.mut (fp := [p]) (d' := ot (MLp.mk p xs')) h e1 (fun a ha o e => by rw [upd_ne (by rw [hF] at ha; simpa using ha)]; exact e) (fun a ha => by
    have : a = p := by simpa using ha
    subst this
    exact ⟨.inl (by rw [hF]; simp), hb, hg, _, upd_same⟩) ⟨vs', rfl, rfl, upd_same, r⟩
theorem sv_appP (i : Nat) {α : Type} [Rp α] {p : Addr} {xs : List α} {x : α} {c e : Expr} (hp : PE X c (tBM X.K "list" rAppend (tVar i) (tCons (WE X e) tNil))) (h0 : Γ[i]? = some (.o (MLp.mk p xs))) (h : EV X Γ e x) (hz : xs.length < 10000000) (hs : swapsWith c none pos.line X.env = pure false := by rfl) :
    SV X Γ (.Expr c pos) (.nx (Γ.set i (.o (MLp.mk p (xs ++ [x]))))) := ⟨fun B G H σ D hB hg l k => by
  obtain ⟨F, vs, lf, hF, e1, hbp, hgp, hh, r⟩ := ownP l h0
  refine ws (ps_expr hp hs) ⟨_, e1, .inl ⟨rfl, _, .inl (.inl hh)⟩, ?_⟩
  refine h B G H σ hB hg l _ fun v G1 H1 g1 r1 => ?_
  refine ⟨p, vs, v, rfl, rfl, g1.h _ _ hh, by rw [r.len]; exact Nat.lt_of_lt_of_le hz (by decide), ?_⟩
  have hgp1 := (g1.fr p _ hh).trans hgp
  exact k G1 _ ((g1.step hB).trans (Stp.mutL (hB.trans g1.h) g1.gh hbp hgp1)) σ ((lf.grow g1).mutP h0 hF e1 hbp hgp1 (paired_app (r.mono g1.g) (.cons r1 .nil)))⟩
theorem paired_dropLast {α β : Type} {R : α → β → Prop} : ∀ {xs : List α} {ys : List β}, Paired R xs ys → Paired R xs.dropLast ys.dropLast
  | _, _, .nil => .nil
  | [_], [_], .cons _ .nil => .nil
  | _ :: _ :: _, _ :: _ :: _, .cons r (.cons r2 t) => .cons r (paired_dropLast (.cons r2 t))
/-- target = xs.pop() -/
theorem sv_popP (i : Nat) {α : Type} [Rp α] {p : Addr} {xs : List α} {x : α} (hp : PE X e (tBM0 X.K "list" rPop (tVar i))) (h0 : Γ[i]? = some (.o (MLp.mk p xs))) (hx : xs.getLast? = some x) (ht : TV X (Γ.set i (.o (MLp.mk p xs.dropLast))) tg x Γ') (hs : swapsWithSole [tg] e pos.line X.env = pure false := by rfl) (hw : swappedStores [tg] e X.env = pure none := by rfl)
    (h1 : (assignEach [tg] X.env).map (·.2) = [assign tg X.env] := by rfl) : SV X Γ (.Assign [tg] e pos) (.nx Γ') := ⟨fun B G H σ D hB hg l k => by
  obtain ⟨F, vs, lf, hF, e1, hbp, hgp, hh, r⟩ := ownP l h0
  have hl : xs[xs.length - 1]? = some x := by rw [← List.getLast?_eq_getElem?]; exact hx
  obtain ⟨w, hw', rw'⟩ := paired_get2 r _ x hl
  refine ws (ps_asg hp pg hs hw h1) ⟨_, e1, .inl ⟨rfl, _, .inl (.inl hh)⟩, p, vs, w, rfl, rfl, hh, by rw [r.len]; exact hw', ?_⟩
  have st := Stp.mutL (ho := .lst vs.dropLast) hB hg hbp hgp
  have lo := lf.mutP h0 hF e1 hbp hgp (paired_dropLast r)
  exact ht B G _ σ w st.b st.gh lo rw' _ fun σ' l' => k G _ st σ' l'⟩
/-- return e, the list at p stands as it is -/
theorem bv_retP (i : Nat) {α β : Type} [Rp α] [Rp β] {p : Addr} {xs : List α} {y : β} (h0 : Γ[i]? = some (.o (MLp.mk p xs))) (h : EV X Γ e y) : BV X Γ (.Return (some e) pos :: sts) (.rt (dtAt p y xs)) := bv_out (⟨fun B G H σ D hB hg l k => by
  obtain ⟨F, vs, lf, hF, e1, hbp, hgp, hh, r⟩ := ownP l h0
  refine ws (ps_ret pe) (h B G H σ hB hg l _ fun v G1 H1 g1 r1 => ?_)
  have hgp1 : G1 p = none := (g1.fr p _ hh).trans hgp
  have hh1 := g1.h _ _ hh
  refine k (upd G1 p (.lst vs)) H1 ⟨hB.trans g1.h, fun b u e => ?_, fun b u e => ?_, fun b u e n => ?_⟩ v ?_
  · rw [upd_ne (ne_of_none e hgp)]; exact g1.g b u e
  · by_cases hb : b = p
    · subst hb; rw [upd_same] at e; rw [← e]; exact hh1
    · rw [upd_ne hb] at e; exact g1.gh b u e
  · rw [upd_ne (ne_of_none e hbp)]; exact g1.fr b u (hB b u e) n
  · show Rp.rep X.K (delH (upd G1 p (.lst vs)) p) v y ∧ ∃ vs', upd G1 p (.lst vs) p = some (.lst vs') ∧ Reps X.K (delH (upd G1 p (.lst vs)) p) vs' xs
    rw [delH_upd hgp1]
    exact ⟨r1, vs, upd_same, r.mono g1.g⟩⟩ : SV X Γ (.Return (some e) pos) (.rt (dtAt p y xs))) trivial
end
theorem Lo.toOwn {K : PySem.W.Frag} {B B' G H : Hp} {σ : L2.St} {Γ : List Slot} (l : Lo K B G H σ Γ) (no : ∀ (i : Nat) (s : Slot), Γ[i]? = some s → s.isOwn = false) {v : V} {d : Odat} {fp : List Addr} (h0 : σ[0]? = some (some v)) (hf : ∀ a ∈ fp, B' a = none ∧ G a = none ∧ ∃ ho, H a = some ho) (r : d.ok K G H v fp) : Lo K B' G H σ (Γ.set 0 (.own d)) := by
  obtain ⟨F, l⟩ := l
  refine ⟨fun j => if j = 0 then fp else [], by simp [l.len], fun j s e => ?_, fun j k s t hjk hj hk hs ht a ha hb => ?_⟩
  · rcases set_get e with ⟨rfl, rfl, hi⟩ | ⟨hij, e⟩
    · exact ⟨_, h0, v, rfl, by rw [if_pos rfl]; exact hf, by rw [if_pos rfl]; exact r⟩
    · obtain ⟨o, h1, h2⟩ := l.ok j s e
      refine ⟨o, h1, ?_⟩
      have hn := no j s e
      cases s with
      | any => trivial
      | val _ => exact h2
      | own _ => cases hn
  · by_cases h1 : j = 0
    · by_cases h2 : k = 0
      · exact hjk (h1.trans h2.symm)
      · rw [if_neg h2] at hb; cases hb
    · rw [if_neg h1] at ha; cases ha
/-- a datum of which nothing is asked -/
def dNo : Dat := ⟨Unit, ⟨fun _ _ _ _ => True, fun _ h => h⟩, ()⟩
/-- the promise of a def that changes the list it is handed first -/
def MSp {α β : Type} [Rp α] [Rp β] (K : PySem.W.Frag) (R : List α → List Dat → β → List α → Prop) : Sp := fun vs H Q _ => ∃ (G : Hp) (p : Addr) (vs0 ws : List V) (xs : List α) (ds : List Dat) (y : β) (xs' : List α),
  vs = .ref p :: ws ∧ Same G H ∧ H p = some (.lst vs0) ∧ G p = none ∧ Reps K G vs0 xs ∧ DatsOk K G ws ds ∧ R xs ds y xs' ∧
  ∀ (v : V) (G' H' : Hp), Same (delH H p) H' → Same G G' → Same G' H' → G' p = none → (∀ a o, a ≠ p → H a = some o → Nt o → G' a = G a) → (∃ vs', H' p = some (.lst vs') ∧ Reps K G' vs' xs') → Rp.rep K G' v y → Q v H'
section
variable {P : Program} {w : World} {K : PySem.W.Frag} {mg : Str → Option Value} {base : Heap}
theorem slots_noown {ds : List Dat} {n : Nat} : ∀ (i : Nat) (s : Slot), (slots ds n)[i]? = some s → s.isOwn = false := fun i s e => by
  have hm := List.mem_of_getElem? e
  unfold slots at hm
  rcases List.mem_append.mp hm with h | h
  · obtain ⟨d, _, e⟩ := List.mem_map.mp h; subst e; rfl
  · rw [(List.mem_replicate.mp h).2]; rfl
theorem fn_mut {α β : Type} [Rp α] [Rp β] {x qual : Str} {st : Stmt} {f : Addr} {fd : FuncData} {N ps : List Str} {k : Nat} {R : List α → List Dat → β → List α → Prop} (F : Fun K x qual st f fd) (S : FnScope N ps (defScope st)) (len : ∀ xs ds y xs', R xs ds y xs' → ds.length + 1 = ps.length)
    (body : ∀ (cdv : Value) (A : Around) (outer : List Env) (s : Shared) (H : Hp) (E : XK) (p : Addr) (xs : List α) (ds : List Dat) (y : β) (xs' : List α), Room k (A.deeper (envOfC qual (defScope st) s.heap.objs.size f cdv)) → R xs ds y xs' →
      BV (cxOf CX0 P w K mg base N qual (defScope st) f cdv A outer s H E).nox ((slots (dNo :: ds) N.length).set 0 (.o (MLp.mk p xs))) (defBody st) (.rt (dtAt p y xs'))) : FnOk P w K mg base CX0 (k + 1) f fd ps (MSp K R) :=
  F.ok S (fun vs H Q E h => by
    obtain ⟨G, p, vs0, ws, xs, ds, y, xs', rfl, _, _, _, _, r, hR, _⟩ := h
    rw [List.length_cons, r.len]
    exact len _ _ _ _ hR) (fun cdv A outer s H vs Q E hr h => by
    obtain ⟨G, p, vs0, ws, xs, ds, y, xs', rfl, hg, hp, hgp, hx, r, hR, q⟩ := h
    have lo : Lo K H G H (L2.start N (.ref p :: ws)) (slots (dNo :: ds) N.length) := lo_start (.cons trivial r)
    have lo2 : Lo K (delH H p) G H (L2.start N (.ref p :: ws)) ((slots (dNo :: ds) N.length).set 0 (.o (MLp.mk p xs))) := lo.toOwn slots_noown (v := .ref p) (fp := [p]) rfl (fun a ha => by
      have : a = p := by simpa using ha
      subst this
      exact ⟨delH_same, hgp, _, hp⟩) ⟨vs0, rfl, rfl, hp, hx⟩
    refine ⟨_, pss, body cdv A outer s H E p xs ds y xs' hr hR (delH H p) G H (L2.start N (.ref p :: ws)) _ delH_sub hg lo2 fun G' H' st v rv => ?_⟩
    obtain ⟨r1, vs', h2, r3⟩ := (show Rp.rep K (delH G' p) v y ∧ ∃ vs', G' p = some (.lst vs') ∧ Reps K (delH G' p) vs' xs' from rv)
    refine q v (delH G' p) H' st.b (fun b u e => ?_) (delH_sub.trans st.gh) delH_same (fun a o ha e n => ?_) ⟨vs', st.gh _ _ h2, r3⟩ r1
    · rw [delH_ne (ne_of_none e hgp)]; exact st.g b u e
    · rw [delH_ne ha]; exact st.fr a o (by rw [delH_ne ha]; exact e) n)
end
/-! ### the caller -/
structure FnAtM {α β : Type} [Rp α] [Rp β] (P : Program) (w : World) (K : PySem.W.Frag) (mg : Str → Option Value) (base : Heap) (x : Str) (k : Nat) (ps : List Str) (R : List α → List Dat → β → List α → Prop) : Prop where
  ex : ∃ f fd, FnOk P w K mg base CX0 k f fd ps (MSp K R) ∧ mg x = some (.ref f) ∧ PySem.W.keepIn K (.ref f) = true ∧ Binds K fd ps []
/-- an expression with an effect on one's own things -/
structure EVM (X : Cx) (Γ : List Slot) (e : Expr) {β : Type} [Rp β] (y : β) (Γ' : List Slot) : Prop where
  run : ∀ (B G H : Hp) (σ : L2.St), Same B H → Same G H → Lo X.K B G H σ Γ → ∀ Q : VK, (∀ v G' H', Stp B G G' H' → Lo X.K B G' H' σ Γ' → Rp.rep X.K G' v y → Q v H') → WE X e σ H Q
structure IVM (X : Cx) (Γ : List Slot) (tg iter : Expr) {α : Type} [Rp α] (xs : List α) (Γ' : List Slot) : Prop where
  run : ∀ (B G H : Hp) (σ : L2.St), Same B H → Same G H → Lo X.K B G H σ Γ → ∀ R : It → Hp → Prop, (∀ J G1 H1, Stp B G G1 H1 → Lo X.K B G1 H1 σ Γ' → Iters X.K J G1 xs → R J H1) → WI X tg iter σ H R
section
variable {X : Cx} {Γ Γ' : List Slot} {st : Stmt} {sts els rest : List Stmt} {a b c d e tg iter elt : Expr} {es elts ifs : List Expr} {pos : Pos} {o : Out}
theorem iv_listM {α : Type} [Rp α] {xs : List α} (h : EVM X Γ iter xs Γ') : IVM X Γ tg iter xs Γ' := ⟨fun B G H σ hB hg l R q =>
  wi (pi_list pe) (h.run B G H σ hB hg l _ fun v G1 H1 st1 l1 r1 => by
    obtain ⟨p, vs, e, hs, r⟩ := r1
    exact ⟨p, e, ⟨vs, Same.seq st1.gh hs⟩, q _ G1 H1 st1 l1 (iters_list hs r)⟩)⟩
/-- a call of a def that changes its first argument, one's own list -/
theorem ev_fnM (i : Nat) {k j : Nat} {ps : List Str} {α β : Type} [Rp α] [Rp β] {R : List α → List Dat → β → List α → Prop} {x : Str} {p : Pos} {xs xs' : List α} {y : β} {ds : List Dat} {n1 : Expr} (F : FnAtM X.prog X.w X.K X.mg X.base x k ps R) (hr : Room j X.A) (hj : k ≤ j)
    (hv : PE X n1 (tVar i)) (h0 : Γ[i]? = some (.l xs)) (ha : EA X Γ es ds) (hR : R xs ds y xs') (hg : Gl X x := by rfl) (hdb : (x == ("__debug__" : Str)) = false := by decide)
    (he : starEach (n1 :: es) X.env = (false, eval n1 X.env) :: starEach es X.env := by rfl) (hpl : (backTo pos (starEach es X.env)).any (·.1) = false := by rfl) : EVM X Γ (.Call (.Name x p) (n1 :: es) [] pos) y (Γ.set i (.l xs')) := ⟨fun B G H σ hB hgh l Q q => by
  obtain ⟨f, fd, F1, hm, hk, hb⟩ := F.ex
  obtain ⟨Fp, pp, vs, lf, hF, e1, hbp, hgp, hh, r⟩ := ownL l h0
  refine we (pe_call F1 (hr.mono hj) hg hm hk hb .nil pass0 (pa_cons hv pa he) hdb he hpl) ⟨_, e1, ha B G H σ hB hgh l _ fun ws G1 H1 g1 r1 => ?_⟩
  have hh1 := g1.h _ _ hh
  have hgp1 : G1 pp = none := (g1.fr pp _ hh).trans hgp
  show MSp X.K R ((V.ref pp :: ws) ++ []) H1 Q _
  rw [List.append_nil]
  refine ⟨G1, pp, vs, ws, xs, ds, y, xs', rfl, g1.gh, hh1, hgp1, r.mono g1.g, r1, hR, fun v G2 H2 s1 s2 s3 s4 s5 s6 s7 => ?_⟩
  obtain ⟨vs', t1, t2⟩ := s6
  have lf1 := lf.grow g1
  have hB1 := hB.trans g1.h
  have hBp : ∀ b u, B b = some u → b ≠ pp := fun b u e z => by rw [z, hbp] at e; cases e
  have stp : Stp B G1 G2 H2 := ⟨fun b u e => s1 b u (by rw [delH_ne (hBp b u e)]; exact hB1 b u e), s2, s3, fun b u e n => s5 b u (hBp b u e) (hB1 b u e) n⟩
  refine q v G2 H2 ((g1.step hB).trans stp) ?_ s7
  refine ⟨fun j => if j = i then [pp] else Fp j, by simp [lf1.len], fun j s e => ?_, fun j k s t hjk hj hk hs ht a ha hb => ?_⟩
  · rcases set_get e with ⟨rfl, rfl, hi'⟩ | ⟨hij, e⟩
    · exact ⟨_, e1, .ref pp, rfl, fun a ha => by
        rw [if_pos rfl] at ha
        have : a = pp := by simpa using ha
        subst this
        exact ⟨hbp, s4, _, t1⟩, by rw [if_pos rfl]; exact ⟨pp, vs', rfl, rfl, t1, t2⟩⟩
    · obtain ⟨o, h3, h4⟩ := lf1.ok j s e
      refine ⟨o, h3, ?_⟩
      rw [if_neg (Ne.symm hij)]
      cases s with
      | any => trivial
      | val d => obtain ⟨v, e, r⟩ := h4; exact ⟨v, e, Dat.mono s2 r⟩
      | own d2 =>
        obtain ⟨v2, e2, hf2, r2⟩ := h4
        have ne : ∀ a ∈ Fp j, a ≠ pp := fun a ha z => lf1.sep j i _ _ (Ne.symm hij) e h0 rfl rfl a ha (by rw [hF, z]; simp)
        refine ⟨v2, e2, fun a ha => ?_, Odat.mono s2 (fun a ha => ?_) r2⟩
        · obtain ⟨q1, q2, ho, q3⟩ := hf2 a ha
          exact ⟨q1, (s5 a ho (ne a ha) q3 (Odat.nt r2 a ha ho q3)).trans q2, ho, s1 a ho (by rw [delH_ne (ne a ha)]; exact q3)⟩
        · obtain ⟨q1, q2, ho, q3⟩ := hf2 a ha
          rw [s1 a ho (by rw [delH_ne (ne a ha)]; exact q3), q3]
  · rcases set_get hj with ⟨rfl, rfl, _⟩ | ⟨hij, hj⟩
    · rcases set_get hk with ⟨rfl, _, _⟩ | ⟨hik, hk⟩
      · exact hjk rfl
      · simp only [if_pos] at ha
        simp only [if_neg (Ne.symm hik)] at hb
        exact lf1.sep _ _ _ t hjk h0 hk rfl ht a (by rw [hF]; exact ha) hb
    · simp only [if_neg (Ne.symm hij)] at ha
      rcases set_get hk with ⟨rfl, rfl, _⟩ | ⟨hik, hk⟩
      · simp only [if_pos] at hb
        exact lf1.sep _ _ s _ hjk hj h0 hs rfl a ha (by rw [hF]; exact hb)
      · simp only [if_neg (Ne.symm hik)] at hb
        exact lf1.sep j k s t hjk hj hk hs ht a ha hb⟩
theorem sv_forLM {α τ ρ : Type} [Rp α] [Rp ρ] {xs : List α} {body : List Stmt} (Env : τ → List Slot) (s0 : τ) (f : τ → α → LR τ ρ) (h : IVM X Γ tg iter xs Γ') (h0 : Sb Γ' (Env s0)) (Γ1 : τ → α → List Slot) (ht : ∀ s x, TV X (Env s) tg x (Γ1 s x))
    (hb : ∀ pre x post s, xs = pre ++ x :: post → runL f s0 pre = .go s → BV X (Γ1 s x) body (LR.out Env (f s x))) (hp : PassesOwn (model X.prog X.w) X.A X.env X.xe) (hc : X.calm = true := by rfl) (hs : ∀ x, foldedSetIterable iter X.env x = pure x := by intro _; rfl) (ho : LR.out Env (runL f s0 xs) = o := by exact rfl) :
    SV X Γ (.For tg iter body [] pos) o := ⟨fun B G H σ D hB hg l k => by
  subst ho
  refine ws (ps_for hp hc pi pg pss hs) (h.run B G H σ hB hg l _ fun J G1 H1 st1 l1 hJ => ?_)
  refine ⟨fun i m σ' H' => m = xs.length - i ∧ i ≤ xs.length ∧ ∃ s G', runL f s0 (xs.take i) = .go s ∧ Stp B G1 G' H' ∧ Lo X.K B G' H' σ' (Env s), ⟨xs.length, by simp, Nat.zero_le _, s0, G1, rfl, Stp.refl st1.b st1.gh, l1.sub h0⟩, ?_⟩
  rintro i m σ' H' ⟨rfl, hi, s, G', e, st, lo⟩
  by_cases hlt : i < xs.length
  · obtain ⟨hgo, hy⟩ := hJ.1 i G' H' st.g st.gh hlt
    refine .inr ⟨hgo, fun σ2 H2 => ∃ s2 G2, runL f s0 (xs.take (i + 1)) = .go s2 ∧ Stp B G1 G2 H2 ∧ Lo X.K B G2 H2 σ2 (Env s2), fun σ2 H2 ⟨s2, G2, e2, st2, lo2⟩ => ⟨xs.length - (i + 1), by omega, rfl, hlt, s2, G2, e2, st2, lo2⟩, fun v H3 hv => ?_⟩
    obtain ⟨G3, x, g3, hx, rx⟩ := hy v H3 hv
    have st3 := st.trans (g3.step st.b)
    have ex : xs = xs.take i ++ x :: xs.drop (i + 1) := by
      have h1 : xs[i] = x := by rw [List.getElem?_eq_getElem hlt] at hx; exact Option.some.inj hx
      rw [← h1, List.getElem_cons_drop, List.take_append_drop]
    refine ht s x B G3 H3 σ' v st3.b st3.gh (lo.grow g3) rx _ fun σ4 l4 => ?_
    refine hb _ x _ s ex e B G3 H3 σ4 _ st3.b st3.gh l4 fun G5 H5 st5 => ?_
    have et : xs.take (i + 1) = xs.take i ++ [x] := by
      rw [List.take_add_one, hx]; rfl
    have e2 : runL f s0 (xs.take (i + 1)) = f s x := by
      rw [et, runL_app, e]
      show (match f s x with | .go s' => runL f s' [] | .re y => .re y) = f s x
      cases f s x <;> rfl
    cases hf : f s x with
    | go s2 =>
      intro σ6 l6
      rw [hf] at e2
      exact ⟨s2, G5, e2, st3.trans st5, l6⟩
    | re r =>
      intro v6 r6
      rw [hf] at e2
      have e3 : runL f s0 xs = .re r := by
        conv => lhs; rw [← List.take_append_drop (i + 1) xs]
        rw [runL_app, e2]
      have q := k G5 H5 ((st1.trans st3).trans st5)
      rw [e3] at q
      exact q v6 r6
  · have ei : i = xs.length := by omega
    subst ei
    rw [List.take_length] at e
    refine .inl ⟨hJ.2 G' H' st.g st.gh, ?_⟩
    have q := k G' H' (st1.trans st)
    rw [e] at q
    exact q σ' lo⟩
theorem sv_forM {α τ : Type} [Rp α] {xs : List α} {body : List Stmt} (Env : τ → List Slot) (s0 : τ) (f : τ → α → τ) (h : IVM X Γ tg iter xs Γ') (h0 : Sb Γ' (Env s0)) (Γ1 : τ → α → List Slot) (ht : ∀ s x, TV X (Env s) tg x (Γ1 s x))
    (hb : ∀ pre x post s, xs = pre ++ x :: post → pre.foldl f s0 = s → BV X (Γ1 s x) body (.nx (Env (f s x)))) (hp : PassesOwn (model X.prog X.w) X.A X.env X.xe) (hc : X.calm = true := by rfl) (hs : ∀ x, foldedSetIterable iter X.env x = pure x := by intro _; rfl) (ho : .nx (Env (xs.foldl f s0)) = o := by exact rfl) :
    SV X Γ (.For tg iter body [] pos) o := by
  subst ho
  have q := sv_forLM (ρ := Int) (pos := pos) Env s0 (fun s x => .go (f s x)) h h0 Γ1 ht (fun pre x post s e1 e2 => hb pre x post s e1 (by rw [runL_go] at e2; exact LR.go.inj e2)) hp hc hs
  rw [runL_go] at q
  exact q
end
end Wl

set_option maxRecDepth 100000
set_option maxHeartbeats 2000000
/-! while without returns; an option that is something -/
namespace Wl
open PySem PySem.Spec PyProof.Rows L2
/-- f while c, n times at most -/
def runN {τ : Type} (c : τ → Bool) (f : τ → τ) : Nat → τ → τ
  | 0, s => s
  | n + 1, s => bif c s then runN c f n (f s) else s
theorem runN_W {τ ρ : Type} (c : τ → Bool) (f : τ → τ) : ∀ (n : Nat) (s : τ), runW (ρ := ρ) c (fun s => .go (f s)) n s = .go (runN c f n s)
  | 0, s => rfl
  | n + 1, s => by
    unfold runW runN
    cases c s with
    | true => exact runN_W c f n (f s)
    | false => rfl
/-- enough turns -/
theorem runN_end {τ : Type} {c : τ → Bool} {f : τ → τ} (μ : τ → Nat) (h : ∀ s, c s = true → μ (f s) < μ s) : ∀ (n : Nat) (s : τ), μ s ≤ n → c (runN c f n s) = false
  | 0, s, hn => by
    show c s = false
    cases e : c s with
    | false => rfl
    | true => have := h s e; omega
  | n + 1, s, hn => by
    unfold runN
    cases e : c s with
    | false => exact e
    | true => have := h s e; exact runN_end μ h n (f s) (by omega)
/-- a word kept at each turn -/
theorem runN_inv {τ : Type} {c : τ → Bool} {f : τ → τ} (I : τ → Prop) (h : ∀ s, I s → c s = true → I (f s)) : ∀ (n : Nat) (s : τ), I s → I (runN c f n s)
  | 0, s, hs => hs
  | n + 1, s, hs => by
    unfold runN
    cases e : c s with
    | false => exact hs
    | true => exact runN_inv I h n (f s) (h s hs e)
section
variable {X : Cx} {Γ Γ' : List Slot} {st : Stmt} {sts els rest : List Stmt} {a b c d e tg iter elt : Expr} {es elts ifs : List Expr} {pos : Pos} {o : Out}
theorem sv_whileN {τ : Type} {body : List Stmt} (Env : τ → List Slot) (s0 : τ) (cf : τ → Bool) (f : τ → τ) (n : Nat) (I : τ → Prop) (h0 : Sb Γ (Env s0)) (i0 : I s0) (is : ∀ s, I s → cf s = true → I (f s)) (ht : ∀ s, I s → ET X (Env s) c (cf s))
    (hb : ∀ s, I s → cf s = true → BV X (Env s) body (.nx (Env (f s)))) (hend : cf (runN cf f n s0) = false) (hp : PassesOwn (model X.prog X.w) X.A X.env X.xe) (ho : .nx (Env (runN cf f n s0)) = o := by exact rfl) :
    SV X Γ (.While c body [] pos) o := by
  subst ho
  have q := sv_while (ρ := Int) (pos := pos) Env s0 cf (fun s => .go (f s)) n I h0 i0 (fun s s' hi hc e => by cases e; exact is s hi hc) ht hb (fun s e => by
    rw [runN_W] at e
    cases e
    exact hend) hp
  rw [runN_W] at q
  exact q
theorem sv_forIM {α τ : Type} [Rp α] {xs : List α} {body : List Stmt} (Env : τ → List Slot) (s0 : τ) (f : τ → α → τ) (I : List α → τ → Prop) (h : IVM X Γ tg iter xs Γ') (h0 : Sb Γ' (Env s0)) (Γ1 : τ → α → List Slot) (ht : ∀ s x, TV X (Env s) tg x (Γ1 s x))
    (i0 : I [] s0) (is : ∀ pre x s, x ∈ xs → I pre s → I (pre ++ [x]) (f s x))
    (hb : ∀ pre x post s, xs = pre ++ x :: post → pre.foldl f s0 = s → I pre s → BV X (Γ1 s x) body (.nx (Env (f s x)))) (hp : PassesOwn (model X.prog X.w) X.A X.env X.xe) (hc : X.calm = true := by rfl) (hs : ∀ x, foldedSetIterable iter X.env x = pure x := by intro _; rfl) (ho : .nx (Env (xs.foldl f s0)) = o := by exact rfl) :
    SV X Γ (.For tg iter body [] pos) o := by
  subst ho
  have inv : ∀ (l pre : List α) (s : τ), (∀ x ∈ l, x ∈ xs) → I pre s → I (pre ++ l) (l.foldl f s) := by
    intro l
    induction l with
    | nil => intro pre s _ h; rw [List.append_nil]; exact h
    | cons x l ih =>
      intro pre s hm h
      have h2 := ih (pre ++ [x]) (f s x) (fun y hy => hm y (List.mem_cons_of_mem _ hy)) (is pre x s (hm x List.mem_cons_self) h)
      rw [List.append_assoc] at h2
      exact h2
  exact sv_forM Env s0 f h h0 Γ1 ht (fun pre x post s e1 e2 => hb pre x post s e1 e2 (by rw [← e2]; exact inv pre [] s0 (fun y hy => by rw [e1]; simp [hy]) i0)) hp hc hs
theorem ev_lenT {p : Pos} {τ : Type} [Rp τ] [TPs τ] {x : τ} {n : Nat} (hm : X.mg "len" = none) (ha : EV X Γ a x) (hn : (TPs.parts x).length = n := by rfl) (hg : Gl X "len" := by rfl) (he : starEach [a] X.env = (false, eval a X.env) :: starEach [] X.env := by rfl) (hpl : (backTo pos (starEach [] X.env)).any (·.1) = false := by rfl) : EV X Γ (.Call (.Name "len" p) [a] [] pos) (n : Int) :=
  ev_call1 call_len_seq hm PySem.boot_len ha (fun G H v hgh r Q q => by
    obtain ⟨p, vs, rfl, hs, hr⟩ := TPs.ok r
    exact ⟨p, vs, rfl, .inr (seqT hgh hs), q _ G H (Grow.refl hgh) (by rw [hr.len, hn]; rfl)⟩) hg (by decide) (by decide) he hpl
end
theorem foldl_mu {α τ : Type} (μ : τ → Nat) (k : Nat) {f : τ → α → τ} (hf : ∀ s x, μ (f s x) ≤ μ s + k) : ∀ (xs : List α) (s : τ), μ (xs.foldl f s) ≤ μ s + k * xs.length
  | [], s => by simp
  | x :: r, s => by
    have h := foldl_mu μ k hf r (f s x)
    have h2 := hf s x
    rw [List.foldl_cons, List.length_cons, Nat.mul_add, Nat.mul_one]
    omega
theorem opt_some {α : Type} {x : Option α} (d : α) (h : x.isSome = true) : x = some (x.getD d) := by
  cases x with
  | none => cases h
  | some y => rfl
end Wl

set_option maxRecDepth 100000
set_option maxHeartbeats 2000000
/-! least and greatest of a tuple of ints; own tables: rows put in, handed back, walked and changed -/
namespace Wl
open PySem PySem.Spec PyProof.Rows L2
section
variable {prog : Program} {w : World} {A : Around} {E : Value → Shared → Prop} {s : Shared} {l : Addr} {its : List Value} {ns : List Int}
theorem least_tup {Q : Value → Shared → Prop} (hh : A.handled = none) (hl : s.heap.IsTuple l its.toArray) (hi : IntsAre its ns) (hne : 0 < ns.length)
    (h : ∀ h' tk m t', (∀ b o, s.heap.get? b = some o → h'.get? b = some o) → m ∈ ns → (∀ y ∈ ns, m ≤ y) → Q (.int m t') { s with heap := h', toks := tk }) : wpAny (model prog w) A (call (.builtin "min") [.ref l]) Q E s := by
  obtain ⟨xs, e⟩ := hi.allInts.items
  have hn : numsOf (intItems xs).toList = ns := by rw [← e]; exact hi.numsOf
  rw [nums_intItems] at hn
  subst hn
  rw [e] at hl
  have hsz : 0 < xs.size := by simpa using hne
  have hlt : l < s.heap.objs.size := by obtain ⟨_, z, _⟩ := hl; exact Heap.lt_size z
  refine call_min_walk (wpAny_pyIter_tuple hl ?_)
  refine ⟨_, _, _, _, _, _, _, rfl, Walks.tuple (A := A.in1) hh _ l (Nat.ne_of_lt hlt) (intItems xs), ⟨⟨_, Heap.get?_push_size _ rfl, rfl, rfl⟩, hl.at fun o z => Heap.get?_push_of_some _ z⟩, fun b hb => ?_, by simpa [intItems] using hsz, CmpOf.ints_lt (numAt xs) (fun _ _ => intItems_at), fun v h' tk hP hk => ?_⟩
  · have hb : b = s.heap.objs.size ∨ b = l := by simpa using hb
    show b < (s.heap.push _).objs.size
    rw [Heap.size_push]
    rcases hb with e | e
    · rw [e]; exact Nat.lt_succ_self _
    · rw [e]; exact Nat.lt_succ_of_lt hlt
  · have hv : (intItems xs)[argBest (fun i j => decide (numAt xs i < numAt xs j)) (xs.size - 1)]? = some v := by simpa [intItems] using hP
    obtain ⟨t, rfl⟩ := intItems_at hv
    obtain ⟨h1, h2⟩ := argBest_lt (numAt xs) (xs.size - 1)
    refine h h' tk _ t (fun b o z => hk b o (fun hm => ?_) (Heap.get?_push_of_some _ z)) ?_ fun y hy => ?_
    · have hm : b = s.heap.objs.size := by simpa using hm
      exact absurd (Heap.lt_size z) (by rw [hm]; exact Nat.lt_irrefl _)
    · rw [numAt_eq]; exact PySem.getD_mem (by rw [List.length_map, Array.length_toList]; omega)
    · obtain ⟨j, hj, rfl⟩ := mem_getD hy
      rw [List.length_map, Array.length_toList] at hj
      rw [← numAt_eq]; exact h2 j (by omega)
theorem greatest_tup {Q : Value → Shared → Prop} (hh : A.handled = none) (hl : s.heap.IsTuple l its.toArray) (hi : IntsAre its ns) (hne : 0 < ns.length)
    (h : ∀ h' tk m t', (∀ b o, s.heap.get? b = some o → h'.get? b = some o) → m ∈ ns → (∀ y ∈ ns, y ≤ m) → Q (.int m t') { s with heap := h', toks := tk }) : wpAny (model prog w) A (call (.builtin "max") [.ref l]) Q E s := by
  obtain ⟨xs, e⟩ := hi.allInts.items
  have hn : numsOf (intItems xs).toList = ns := by rw [← e]; exact hi.numsOf
  rw [nums_intItems] at hn
  subst hn
  rw [e] at hl
  have hsz : 0 < xs.size := by simpa using hne
  have hlt : l < s.heap.objs.size := by obtain ⟨_, z, _⟩ := hl; exact Heap.lt_size z
  refine call_max_walk (wpAny_pyIter_tuple hl ?_)
  refine ⟨_, _, _, _, _, _, _, rfl, Walks.tuple (A := A.in1) hh _ l (Nat.ne_of_lt hlt) (intItems xs), ⟨⟨_, Heap.get?_push_size _ rfl, rfl, rfl⟩, hl.at fun o z => Heap.get?_push_of_some _ z⟩, fun b hb => ?_, by simpa [intItems] using hsz, CmpOf.ints_gt (numAt xs) (fun _ _ => intItems_at), fun v h' tk hP hk => ?_⟩
  · have hb : b = s.heap.objs.size ∨ b = l := by simpa using hb
    show b < (s.heap.push _).objs.size
    rw [Heap.size_push]
    rcases hb with e | e
    · rw [e]; exact Nat.lt_succ_self _
    · rw [e]; exact Nat.lt_succ_of_lt hlt
  · have hv : (intItems xs)[argBest (fun i j => decide (numAt xs i > numAt xs j)) (xs.size - 1)]? = some v := by simpa [intItems] using hP
    obtain ⟨t, rfl⟩ := intItems_at hv
    obtain ⟨h1, h2⟩ := argBest_gt (numAt xs) (xs.size - 1)
    refine h h' tk _ t (fun b o z => hk b o (fun hm => ?_) (Heap.get?_push_of_some _ z)) ?_ fun y hy => ?_
    · have hm : b = s.heap.objs.size := by simpa using hm
      exact absurd (Heap.lt_size z) (by rw [hm]; exact Nat.lt_irrefl _)
    · rw [numAt_eq]; exact PySem.getD_mem (by rw [List.length_map, Array.length_toList]; omega)
    · obtain ⟨j, hj, rfl⟩ := mem_getD hy
      rw [List.length_map, Array.length_toList] at hj
      rw [← numAt_eq]; exact h2 j (by omega)
end
section
variable {X : Cx} {Γ Γ' : List Slot} {st : Stmt} {sts els rest : List Stmt} {a b c d e tg iter elt : Expr} {es elts ifs : List Expr} {pos : Pos} {o : Out}
def rLeastT (K : PySem.W.Frag) (gt : Bool) : List V → Hp → VK → Prop := fun vs H Q => ∃ (a : Addr) (ns : List Int), vs = [V.ref a] ∧ SqT K H a (ns.map V.int) ∧ 0 < ns.length ∧ ∀ m, m ∈ ns → (∀ y ∈ ns, if gt = true then y ≤ m else m ≤ y) → Q (.int m) H
theorem cr_leastT (hc : X.calm = true) : CallR X (.builtin "min") (rLeastT X.K false) := by
  intro pins s σ H vs us Q I r h
  obtain ⟨a, ns, rfl, hs, hne, q⟩ := h
  obtain ⟨its, rv, hl, _⟩ := I.tuple hs
  rw [Vals.ref1 r]
  exact least_tup (I.ok.hd hc) hl rv.ints hne fun h' tk m t' hk h1 h2 => ⟨.int _, H, I.kept hk, ⟨_, rfl⟩, q m h1 h2⟩
theorem cr_greatestT (hc : X.calm = true) : CallR X (.builtin "max") (rLeastT X.K true) := by
  intro pins s σ H vs us Q I r h
  obtain ⟨a, ns, rfl, hs, hne, q⟩ := h
  obtain ⟨its, rv, hl, _⟩ := I.tuple hs
  rw [Vals.ref1 r]
  exact greatest_tup (I.ok.hd hc) hl rv.ints hne fun h' tk m t' hk h1 h2 => ⟨.int _, H, I.kept hk, ⟨_, rfl⟩, q m h1 h2⟩
/-- min(t), max(t) of a tuple of two -/
theorem ev_minK2 {p : Pos} {x y : Int} (hc : X.calm = true) (hm : X.mg "min" = none) (ha : EV X Γ a (TK.mk [x, y])) (hg : Gl X "min" := by rfl) (he : starEach [a] X.env = (false, eval a X.env) :: starEach [] X.env := by rfl) (hpl : (backTo pos (starEach [] X.env)).any (·.1) = false := by rfl) : EV X Γ (.Call (.Name "min" p) [a] [] pos) (min x y) :=
  ev_call1 (cr_leastT hc) hm (by decide +kernel) ha (fun G H v hgh r Q q => by
    obtain ⟨p, rfl, hs⟩ := r
    refine ⟨p, [x, y], rfl, .inl (.inl (hgh _ _ hs)), Nat.zero_lt_succ _, fun m hm hy => ?_⟩
    have h1 := hy x (by simp)
    have h2 := hy y (by simp)
    have hm : m = x ∨ m = y := by simpa using hm
    rw [if_neg (by decide)] at h1 h2
    have e : m = min x y := by omega
    rw [e]
    exact q _ G H (Grow.refl hgh) rfl) hg (by decide) (by decide) he hpl
theorem ev_maxK2 {p : Pos} {x y : Int} (hc : X.calm = true) (hm : X.mg "max" = none) (ha : EV X Γ a (TK.mk [x, y])) (hg : Gl X "max" := by rfl) (he : starEach [a] X.env = (false, eval a X.env) :: starEach [] X.env := by rfl) (hpl : (backTo pos (starEach [] X.env)).any (·.1) = false := by rfl) : EV X Γ (.Call (.Name "max" p) [a] [] pos) (max x y) :=
  ev_call1 (cr_greatestT hc) hm (by decide +kernel) ha (fun G H v hgh r Q q => by
    obtain ⟨p, rfl, hs⟩ := r
    refine ⟨p, [x, y], rfl, .inl (.inl (hgh _ _ hs)), Nat.zero_lt_succ _, fun m hm hy => ?_⟩
    have h1 := hy x (by simp)
    have h2 := hy y (by simp)
    have hm : m = x ∨ m = y := by simpa using hm
    rw [if_pos rfl] at h1 h2
    have e : m = max x y := by omega
    rw [e]
    exact q _ G H (Grow.refl hgh) rfl) hg (by decide) (by decide) he hpl
/-! ### rows of three -/
def toQ3 {α : Type} (d : α) (xs : List α) : Q3 α α α := ⟨xs.getD 0 d, xs.getD 1 d, xs.getD 2 d⟩
theorem rep_toQ3 {α : Type} [Rp α] {K : PySem.W.Frag} {G : Hp} {v : V} {xs : List α} (d : α) (hl : xs.length = 3) (r : Rp.rep K G v xs) : Rp.rep K G v (toQ3 d xs) := by
  obtain ⟨p, vs, rfl, hs, hr⟩ := r
  cases hr with
  | nil => cases hl
  | cons r1 t => cases t with
    | nil => cases hl
    | cons r2 t => cases t with
      | nil => cases hl
      | cons r3 t => cases t with
        | nil => exact ⟨p, _, _, _, rfl, hs, r1, r2, r3⟩
        | cons r4 t => simp at hl
theorem ev_toQ3 {α : Type} [Rp α] {xs : List α} (d : α) (h : EV X Γ e xs) (hl : xs.length = 3) : EV X Γ e (toQ3 d xs) := ⟨fun B G H σ hB hg l Q q => h B G H σ hB hg l Q fun v G1 H1 g1 r1 => q v G1 H1 g1 (rep_toQ3 d hl r1)⟩
theorem iv_toQ3 {α : Type} [Rp α] {xs : List (List α)} (d : α) (h : IV X Γ tg iter xs) (hl : ∀ r ∈ xs, r.length = 3) : IV X Γ tg iter (xs.map (toQ3 d)) := ⟨fun B G H σ hB hg l R q =>
  h B G H σ hB hg l R fun J G1 H1 g1 it => q J G1 H1 g1 (by
    obtain ⟨h1, h2⟩ := it
    refine ⟨fun i G2 H2 e1 e2 hi => ?_, fun G2 H2 e1 e2 => by rw [List.length_map]; exact h2 G2 H2 e1 e2⟩
    rw [List.length_map] at hi
    obtain ⟨k1, k2⟩ := h1 i G2 H2 e1 e2 hi
    refine ⟨k1, fun v H3 hy => ?_⟩
    obtain ⟨G3, x, g3, hx, r⟩ := k2 v H3 hy
    exact ⟨G3, toQ3 d x, g3, by rw [List.getElem?_map, hx]; rfl, rep_toQ3 d (hl x (List.mem_of_getElem? hx)) r⟩)⟩
/-! ### a row put into one's own table -/
theorem en_mt0 {α : Type} [Rp α] (h : EN X Γ e (ML.mk ([] : List (List α)))) : EN X Γ e (MT.mk ([] : List (List α))) := ⟨fun B G H σ hB hg l Q q =>
  h B G H σ hB hg l Q fun v fp G1 H1 g1 hf ok => q v fp G1 H1 g1 hf (by
    obtain ⟨p, vs, rfl, rfl, hh, r⟩ := ok
    cases r
    exact ⟨p, [], rfl, rfl, by simp, hh, .nil⟩)⟩
/-- as LoF.mut: the new things are apart from all that others own -/
theorem LoF.mut2 {K : PySem.W.Frag} {B G H H' : Hp} {σ : L2.St} {Γ : List Slot} {F : Nat → List Addr} {i : Nat} {v : V} {fp : List Addr} {d d' : Odat} (l : LoF K B G H σ Γ F) (hi : Γ[i]? = some (.own d)) (hv : σ[i]? = some (some v))
    (hk : ∀ a, a ∉ F i → a ∉ fp → ∀ o, H a = some o → H' a = some o) (hf : ∀ a ∈ fp, (∀ j s, Γ[j]? = some s → j ≠ i → s.isOwn = true → a ∉ F j) ∧ B a = none ∧ G a = none ∧ ∃ ho, H' a = some ho) (r : d'.ok K G H' v fp) : Lo K B G H' σ (Γ.set i (.own d')) := by
  refine ⟨fun j => if j = i then fp else F j, by simp [l.len], fun j s e => ?_, fun j k s t hjk hj hk' hs ht a ha hb => ?_⟩
  · rcases set_get e with ⟨rfl, rfl, hi'⟩ | ⟨hij, e⟩
    · refine ⟨_, hv, v, rfl, fun a ha => ?_, ?_⟩
      · rw [if_pos rfl] at ha; exact (hf a ha).2
      · rw [if_pos rfl]; exact r
    · rw [if_neg (Ne.symm hij)]
      obtain ⟨o, h3, h4⟩ := l.ok j s e
      refine ⟨o, h3, ?_⟩
      cases s with
      | any => trivial
      | val _ => exact h4
      | own d2 =>
        obtain ⟨v2, e2, hf2, r2⟩ := h4
        have ne : ∀ a ∈ F j, H' a = H a := fun a ha => by
          obtain ⟨_, _, ho, q3⟩ := hf2 a ha
          rw [hk a (l.sep j i _ _ (Ne.symm hij) e hi rfl rfl a ha) (fun z => (hf a z).1 j _ e (Ne.symm hij) rfl ha) ho q3, q3]
        refine ⟨v2, e2, fun a ha => ?_, Odat.mono (Same.refl _) ne r2⟩
        obtain ⟨q1, q2, ho, q3⟩ := hf2 a ha
        exact ⟨q1, q2, ho, by rw [ne a ha, q3]⟩
  · rcases set_get hj with ⟨rfl, rfl, _⟩ | ⟨hij, hj⟩
    · rcases set_get hk' with ⟨rfl, _, _⟩ | ⟨hik, hk'⟩
      · exact hjk rfl
      · simp only [if_pos] at ha
        simp only [if_neg (Ne.symm hik)] at hb
        exact (hf a ha).1 k t hk' (Ne.symm hik) ht hb
    · simp only [if_neg (Ne.symm hij)] at ha
      rcases set_get hk' with ⟨rfl, rfl, _⟩ | ⟨hik, hk'⟩
      · simp only [if_pos] at hb
        exact (hf a hb).1 j s hj (Ne.symm hij) hs ha
      · simp only [if_neg (Ne.symm hik)] at hb
        exact l.sep j k s t hjk hj hk' hs ht a ha hb
theorem sv_appRow (i : Nat) {α : Type} [Rp α] {rows : List (List α)} {row : List α} {c e : Expr} (hp : PE X c (tBM X.K "list" rAppend (tVar i) (tCons (WE X e) tNil))) (h0 : Γ[i]? = some (.o (MT.mk rows))) (h : EN X Γ e (ML.mk row)) (hz : rows.length < 10000000) (hs : swapsWith c none pos.line X.env = pure false := by rfl) :
    SV X Γ (.Expr c pos) (.nx (Γ.set i (.o (MT.mk (rows ++ [row]))))) := ⟨fun B G H σ D hB hg l k => by
  obtain ⟨F, v, lf, ev, hf, p, qs, rfl, hF, hnd, hp', hrows⟩ := own_at l h0
  refine ws (ps_expr hp hs) ⟨_, ev, .inl ⟨rfl, _, .inl (.inl hp')⟩, ?_⟩
  refine h B G H σ hB hg l _ fun v1 fp1 G1 H1 g1 hf1 ok1 => ?_
  obtain ⟨q, vs, rfl, rfl, hh, r⟩ := ok1
  obtain ⟨n1, n2, _⟩ := hf1 q (by simp)
  have hlen : qs.length = rows.length := Paired.length hrows
  refine ⟨p, qs.map V.ref, .ref q, rfl, rfl, g1.h _ _ hp', by rw [List.length_map, hlen]; exact Nat.lt_of_lt_of_le hz (by decide), ?_⟩
  have lg := lf.grow g1
  have hqF : q ∉ F i := fun z => by
    obtain ⟨_, _, ho, e⟩ := hf q z
    rw [e] at n1; cases n1
  have hqp : q ≠ p := fun z => hqF (by rw [hF, z]; simp)
  have hbq : B q = none := hB.free n1
  have hf3 : ∀ a ∈ F i, B a = none ∧ G1 a = none := fun a ha => by
    obtain ⟨q1, q2, ho, q3⟩ := hf a ha
    exact ⟨q1, (g1.fr a ho q3 (lf.nt h0 a ha ho q3)).trans q2⟩
  have hk : ∀ a, a ∉ F i → ∀ o, H1 a = some o → upd H1 p (.lst (qs.map V.ref ++ [V.ref q])) a = some o := fun a ha o e => by
    rw [upd_ne (fun z => ha (by rw [z, hF]; simp))]; exact e
  have hpF : p ∈ F i := by rw [hF]; simp
  refine k G1 _ ((g1.step hB).trans (Stp.mut (hB.trans g1.h) g1.gh hf3 hk)) σ (lg.mut2 (fp := p :: (qs ++ [q])) (d' := ot (MT.mk (rows ++ [row]))) h0 ev (fun a ha _ => hk a ha) (fun a ha => ?_) ?_)
  · have ha : a = p ∨ a ∈ qs ∨ a = q := by simpa using ha
    have inF : a ∈ F i → (∀ j s, Γ[j]? = some s → j ≠ i → s.isOwn = true → a ∉ F j) := fun z j s e hj hs y => lf.sep j i _ _ hj e h0 hs rfl a y z
    rcases ha with z | z | z
    · subst z
      exact ⟨inF hpF, (hf3 a hpF).1, (hf3 a hpF).2, _, upd_same⟩
    · have haF : a ∈ F i := by rw [hF]; exact List.mem_cons_of_mem _ z
      obtain ⟨q1, q2, ho, q3⟩ := hf a haF
      refine ⟨inF haF, q1, (hf3 a haF).2, ho, ?_⟩
      have hap : a ≠ p := fun y => by
        rw [hF] at hnd
        subst y
        exact (List.nodup_cons.mp hnd).1 z
      rw [upd_ne hap]; exact g1.h _ _ q3
    · subst z
      refine ⟨fun j s e hj hs ha => ?_, hbq, n2, _, by rw [upd_ne hqp]; exact hh⟩
      obtain ⟨o, h1, h2⟩ := lf.ok j s e
      cases s with
      | any => cases hs
      | val _ => cases hs
      | own d2 =>
        obtain ⟨_, _, h3, _⟩ := h2
        obtain ⟨_, _, ho, e⟩ := h3 a ha
        rw [e] at n1; cases n1
  · refine ⟨p, qs ++ [q], rfl, rfl, ?_, by rw [upd_same, List.map_append]; rfl, ?_⟩
    · rw [hF] at hnd
      have h1 := List.nodup_cons.mp hnd
      rw [List.nodup_cons]
      refine ⟨fun z => ?_, ?_⟩
      · have z : p ∈ qs ∨ p = q := by simpa using z
        rcases z with z | z
        · exact h1.1 z
        · exact hqp z.symm
      · rw [List.nodup_append]
        refine ⟨h1.2, by simp, fun a ha b hb y => ?_⟩
        have : b = q := by simpa using hb
        exact hqF (by rw [hF, ← this, ← y]; exact List.mem_cons_of_mem _ ha)
    · unfold RowsOk
      refine paired_app (hrows.mono g1.g fun a ha => ?_) (.cons ⟨vs, by rw [upd_ne hqp]; exact hh, r⟩ .nil)
      have haF : a ∈ F i := by rw [hF]; exact List.mem_cons_of_mem _ ha
      obtain ⟨q1, q2, ho, q3⟩ := hf a haF
      have hap : a ≠ p := fun y => by
        rw [hF] at hnd
        subst y
        exact (List.nodup_cons.mp hnd).1 ha
      rw [upd_ne hap, g1.h _ _ q3, q3]⟩
/-! ### functions that hand back an own thing -/
def OSp {τ : Type} [Ow τ] (K : PySem.W.Frag) (R : List Dat → τ → Prop) : Sp := fun vs H Q _ => ∃ (G : Hp) (ds : List Dat) (x : τ), Same G H ∧ DatsOk K G vs ds ∧ R ds x ∧ ∀ v fp G' H', Grow G H G' H' → (∀ a ∈ fp, H a = none ∧ G' a = none ∧ ∃ ho, H' a = some ho) → Ow.ok K G' H' v fp x → Q v H'
structure FnAtO {τ : Type} [Ow τ] (P : Program) (w : World) (K : PySem.W.Frag) (mg : Str → Option Value) (base : Heap) (x : Str) (k : Nat) (ps : List Str) (R : List Dat → τ → Prop) : Prop where
  ex : ∃ f fd, FnOk P w K mg base CX0 k f fd ps (OSp K R) ∧ mg x = some (.ref f) ∧ PySem.W.keepIn K (.ref f) = true ∧ Binds K fd ps []
theorem en_fnO {τ : Type} [Ow τ] {k j : Nat} {ps : List Str} {R : List Dat → τ → Prop} {x : Str} {p : Pos} {y : τ} {ds : List Dat} (F : FnAtO X.prog X.w X.K X.mg X.base x k ps R) (hr : Room j X.A) (hj : k ≤ j) (ha : EA X Γ (e :: es) ds) (hR : R ds y) (hg : Gl X x := by rfl) (hdb : (x == ("__debug__" : Str)) = false := by decide)
    (he : starEach (e :: es) X.env = (false, eval e X.env) :: starEach es X.env := by rfl) (hpl : (backTo pos (starEach es X.env)).any (·.1) = false := by rfl) : EN X Γ (.Call (.Name x p) (e :: es) [] pos) y := ⟨fun B G H σ hB hgh l Q q => by
  obtain ⟨f, fd, F1, hm, hk, hb⟩ := F.ex
  exact we (pe_call F1 (hr.mono hj) hg hm hk hb .nil pass0 pa hdb he hpl) (ha B G H σ hB hgh l _ fun vs G1 H1 g1 r1 => by
    rw [List.append_nil]
    exact ⟨G1, ds, y, g1.gh, r1, hR, fun v fp G2 H2 g2 hf ok => q v fp G2 H2 (g1.trans g2) (fun a ha => ⟨g1.h.free (hf a ha).1, (hf a ha).2⟩) ok⟩)⟩
section
variable {P : Program} {w : World} {K : PySem.W.Frag} {mg : Str → Option Value} {base : Heap}
theorem fn_own {τ : Type} [Ow τ] {x qual : Str} {st : Stmt} {f : Addr} {fd : FuncData} {N ps : List Str} {k : Nat} {R : List Dat → τ → Prop} (F : Fun K x qual st f fd) (S : FnScope N ps (defScope st)) (len : ∀ ds d, R ds d → ds.length = ps.length)
    (body : ∀ (cdv : Value) (A : Around) (outer : List Env) (s : Shared) (H : Hp) (E : XK) (ds : List Dat) (y : τ), Room k (A.deeper (envOfC qual (defScope st) s.heap.objs.size f cdv)) → R ds y →
      BV (cxOf CX0 P w K mg base N qual (defScope st) f cdv A outer s H E).nox (slots ds N.length) (defBody st) (.ro (ot y))) : FnOk P w K mg base CX0 (k + 1) f fd ps (OSp K R) :=
  F.ok S (fun vs H Q E h => by
    obtain ⟨G, ds, d, _, r, hR, _⟩ := h
    rw [r.len]
    exact len ds d hR) (fun cdv A outer s H vs Q E hr h => by
    obtain ⟨G, ds, d, hg, r, hR, q⟩ := h
    exact ⟨_, pss, body cdv A outer s H E ds d hr hR H G H (L2.start N vs) _ (Same.refl _) hg (lo_start r) fun G' H' st v fp hf ok => q v fp G' H' ⟨st.g, st.b, st.gh, st.fr0⟩ hf ok⟩)
end
/-- an address, no more -/
structure Rf where
  p : Addr
instance : Rp Rf := ⟨fun _ _ v x => v = .ref x.p, fun _ h => h⟩
theorem reps_rf {K : PySem.W.Frag} {G : Hp} : ∀ qs : List Addr, Reps K G (qs.map V.ref) (qs.map Rf.mk)
  | [] => .nil
  | _ :: r => .cons rfl (reps_rf r)
theorem rf_reps {K : PySem.W.Frag} {G : Hp} : ∀ {vs : List V} {rs : List Rf}, Reps K G vs rs → vs = (rs.map Rf.p).map V.ref
  | _, _, .nil => rfl
  | _, _, .cons r t => by rw [show _ = V.ref _ from r, rf_reps t]; rfl
/-- a part of an own thing is known for good, the rest is nobody's -/
theorem LoF.fzS {K : PySem.W.Frag} {B G H : Hp} {σ : L2.St} {F : Nat → List Addr} {i : Nat} {v : V} {fs : List Addr} {d : Odat} {d' : Dat} (l : LoF K B G H σ Γ F) (h : Γ[i]? = some (.own d)) (e1 : σ[i]? = some (some v)) (hsub : ∀ a ∈ fs, a ∈ F i) (hf : ∀ a ∈ F i, G a = none) (r : d'.rep K (gl G H fs) v) :
    Lo K B (gl G H fs) H σ (Γ.set i (.val d')) := by
  have hs : Same G (gl G H fs) := gl_up fun a ha => hf a (hsub a ha)
  refine ⟨F, by simp [l.len], fun j s e => ?_, fun j k s t hjk hj hk hs' ht => ?_⟩
  · rcases set_get e with ⟨rfl, rfl, _⟩ | ⟨hij, e⟩
    · exact ⟨_, e1, v, rfl, r⟩
    · obtain ⟨o, h1, h2⟩ := l.ok j s e
      refine ⟨o, h1, ?_⟩
      cases s with
      | any => trivial
      | val d => obtain ⟨w, e4, r4⟩ := h2; exact ⟨w, e4, Dat.mono hs r4⟩
      | own d =>
        obtain ⟨w, e4, hf2, r4⟩ := h2
        refine ⟨w, e4, fun a ha => ?_, Odat.mono hs (fun _ _ => rfl) r4⟩
        obtain ⟨q1, q2, q3⟩ := hf2 a ha
        exact ⟨q1, by rw [gl_out (fun z => l.sep i j _ _ hij h e rfl rfl a (hsub a z) ha)]; exact q2, q3⟩
  · rcases set_get hj with ⟨rfl, rfl, _⟩ | ⟨hij, hj⟩
    · cases hs'
    · rcases set_get hk with ⟨rfl, rfl, _⟩ | ⟨hik, hk⟩
      · cases ht
      · exact l.sep j k s t hjk hj hk hs' ht
theorem slice_paired {α β : Type} {R : α → β → Prop} {xs : List α} {ys : List β} (h : Paired R xs ys) (a b c : Option Int) : Paired R (pySlice xs a b c) (pySlice ys a b c) := by
  have e : xs.length = ys.length := Paired.length h
  unfold pySlice
  rw [e]
  exact paired_pick h _
theorem rot_perm {α : Type} (xs : List α) {z : Int} (hz : 0 ≤ z) : (pySlice xs (some z) none none ++ pySlice xs none (some z) none).Perm xs := by
  rw [pySlice_drop _ hz, pySlice_take _ hz]
  have h := List.perm_append_comm (l₁ := xs.drop z.toNat) (l₂ := xs.take z.toNat)
  rw [List.take_append_drop] at h
  exact h
/-- return xs[z:] + xs[:z] of one's own table -/
theorem bv_retRot (i : Nat) {α : Type} [Rp α] {rows : List (List α)} {z : Int} (hz : 0 ≤ z) (h0 : Γ[i]? = some (.o (MT.mk rows))) (hE : ∀ qs : List Rf, qs.length = rows.length → EN X (Γ.set i (.v qs)) e (ML.mk (pySlice qs (some z) none none ++ pySlice qs none (some z) none))) :
    BV X Γ (.Return (some e) pos :: sts) (.ro (ot (MT.mk (pySlice rows (some z) none none ++ pySlice rows none (some z) none)))) := bv_out (⟨fun B G H σ D hB hg l k => by
  obtain ⟨F, v, lf, ev, hf, p, qs, rfl, hF, hnd, hp', hrows⟩ := own_at l h0
  have hpF : p ∈ F i := by rw [hF]; simp
  have hlen : qs.length = rows.length := Paired.length hrows
  have hgl : Same G (gl G H [p]) := gl_up fun a ha => by
    have : a = p := by simpa using ha
    rw [this]; exact (hf p hpF).2.1
  have lo := lf.fzS (fs := [p]) (d' := dt (qs.map Rf.mk)) h0 ev (fun a ha => by
    have : a = p := by simpa using ha
    rw [this]; exact hpF) (fun a ha => (hf a ha).2.1) ⟨p, qs.map V.ref, rfl, SqL.of (by rw [gl_in (by simp)]; exact hp'), reps_rf qs⟩
  refine ws (ps_ret pe) (hE (qs.map Rf.mk) (by rw [List.length_map]; exact hlen) B (gl G H [p]) H σ hB (gl_dn hg) lo _ fun v fp G1 H1 g1 hfp ok => ?_)
  obtain ⟨r, vs, rfl, rfl, hh, rr⟩ := ok
  have e1 := rf_reps rr
  obtain ⟨m1, m2, _⟩ := hfp r (by simp)
  have hnd' : (p :: qs).Nodup := by rw [← hF]; exact hnd
  have hpair := slice_paired hrows (some z) none none
  have hpair2 := slice_paired hrows none (some z) none
  have eq1 : ((pySlice (qs.map Rf.mk) (some z) none none ++ pySlice (qs.map Rf.mk) none (some z) none).map Rf.p) = pySlice qs (some z) none none ++ pySlice qs none (some z) none := by
    have : ∀ a b c, (pySlice (qs.map Rf.mk) a b c).map Rf.p = pySlice qs a b c := fun a b c => by
      unfold pySlice
      rw [List.length_map, List.map_filterMap]
      congr 1
      funext j
      rw [List.getElem?_map]
      cases qs[j]? <;> rfl
    rw [List.map_append, this, this]
  rw [eq1] at e1
  have hperm := rot_perm qs hz
  generalize hrot : pySlice qs (some z) none none ++ pySlice qs none (some z) none = ps at *
  have hpsq : ∀ a ∈ ps, a ∈ qs := fun a ha => hperm.mem_iff.mp ha
  have inF : ∀ a ∈ ps, a ∈ F i := fun a ha => by rw [hF]; exact List.mem_cons_of_mem _ (hpsq a ha)
  have hne : ∀ a ∈ ps, a ≠ p := fun a ha y => by
    subst y
    exact (List.nodup_cons.mp hnd').1 (hpsq a ha)
  have hG1 : ∀ a ∈ ps, G1 a = none ∧ ∃ ho, H1 a = some ho := fun a ha => by
    obtain ⟨_, q2, ho, q3⟩ := hf a (inF a ha)
    exact ⟨by rw [g1.fr a ho q3 (lf.nt h0 a (inF a ha) ho q3), gl_out (by simpa using hne a ha)]; exact q2, ho, g1.h _ _ q3⟩
  refine k G1 H1 ⟨hB.trans g1.h, hgl.trans g1.g, g1.gh, fun a o e n => ?_⟩ (.ref r) (r :: ps) (fun a ha => ?_) ⟨r, ps, rfl, rfl, ?_, by rw [hh, e1], ?_⟩
  · rw [g1.fr a o (hB _ _ e) n, gl_out (fun y => by
      have : a = p := by simpa using y
      rw [this, (hf p hpF).1] at e; cases e)]
  · rcases List.mem_cons.mp ha with y | y
    · subst y
      exact ⟨hB.free m1, m2, _, hh⟩
    · exact ⟨(hf a (inF a y)).1, hG1 a y⟩
  · rw [List.nodup_cons]
    refine ⟨fun y => ?_, hperm.nodup_iff.mpr (List.nodup_cons.mp hnd').2⟩
    obtain ⟨_, _, ho, q3⟩ := hf r (inF r y)
    rw [q3] at m1; cases m1
  · unfold RowsOk
    rw [← hrot]
    refine Paired.mapP (paired_app hpair hpair2) fun a b h => ?_
    obtain ⟨ws, h1, h2⟩ := h
    exact ⟨ws, g1.h _ _ h1, h2.mono (hgl.trans g1.g)⟩⟩ : SV X Γ (.Return (some e) pos) _) trivial
end
end Wl

set_option maxRecDepth 100000
set_option maxHeartbeats 2000000
/-! one's own table walked, each row changed in its turn -/
namespace Wl
open PySem PySem.Spec PyProof.Rows L2
section
variable {X : Cx} {Γ Γ' : List Slot} {st : Stmt} {sts els rest : List Stmt} {a b c d e tg iter elt : Expr} {es elts ifs : List Expr} {pos : Pos} {o : Out}
theorem sv_setP (i : Nat) {α : Type} [Rp α] {p : Addr} {xs : List α} {r : Int} {x : α} {e1 e2 : Expr} (hp : PS X st (tAsg (WE X e2) (gSub (tVar i) (WE X e1) rSetL))) (h0 : Γ[i]? = some (.o (MLp.mk p xs))) (h2 : EV X Γ e2 x) (h1 : EV X Γ e1 r) (hr : 0 ≤ r ∧ r < (xs.length : Int)) : SV X Γ st (.nx (Γ.set i (.o (MLp.mk p (xs.set r.toNat x))))) := ⟨fun B G H σ D hB hg l k => by
  obtain ⟨F, vs, lf, hF, e1', hbp, hgp, hh, rr⟩ := ownP l h0
  refine ws hp (h2 B G H σ hB hg l _ fun v G1 H1 g1 r1 => ⟨_, e1', h1 B G1 H1 σ (hB.trans g1.h) g1.gh (l.grow g1) _ fun u G2 H2 g2 r2 => ?_⟩)
  have g := g1.trans g2
  have hgp2 := (g.fr p _ hh).trans hgp
  refine ⟨p, vs, r, r.toNat, rfl, r2, g.h _ _ hh, ?_, ?_⟩
  · have := rr.len
    unfold ixN
    rw [if_pos hr.1, if_pos (by simp only at *; omega)]
  · exact k G2 _ ((g.step hB).trans (Stp.mutL (hB.trans g.h) g.gh hbp hgp2)) σ ((lf.grow g).mutP h0 hF e1' hbp hgp2 (paired_set (Rp.mono g2.g r1) _ (rr.mono g.g)))⟩
/-- state and rows behind a walk -/
def mapRows {τ α : Type} (f : τ → List α → τ × List α) (s0 : τ) (rows : List (List α)) : τ × List (List α) := rows.foldl (fun acc row => ((f acc.1 row).1, acc.2 ++ [(f acc.1 row).2])) (s0, [])
theorem mapRows_app {τ α : Type} (f : τ → List α → τ × List α) (s0 : τ) (a : List (List α)) (x : List α) : mapRows f s0 (a ++ [x]) = ((f (mapRows f s0 a).1 x).1, (mapRows f s0 a).2 ++ [(f (mapRows f s0 a).1 x).2]) := by
  unfold mapRows
  rw [List.foldl_append]
  rfl
theorem mapRows_len {τ α : Type} (f : τ → List α → τ × List α) (s0 : τ) (rows : List (List α)) : (mapRows f s0 rows).2.length = rows.length := by
  have : ∀ (rows : List (List α)) (acc : τ × List (List α)), (rows.foldl (fun acc row => ((f acc.1 row).1, acc.2 ++ [(f acc.1 row).2])) acc).2.length = acc.2.length + rows.length := by
    intro rows
    induction rows with
    | nil => intro acc; rfl
    | cons x r ih => intro acc; rw [List.foldl_cons, ih, List.length_append]; simp only [List.length_cons, List.length_nil]; omega
  have h := this rows (s0, [])
  unfold mapRows
  rw [h]; simp
theorem sv_forRows (i j : Nat) {α τ : Type} [Rp α] {rows : List (List α)} {nm : Str} {body : List Stmt} {p1 : Pos} (Env : τ → List Slot) (s0 : τ) (f : τ → List α → τ × List α) (I : List (List α) → τ → Prop) (hN : X.N.Nodup) (hv : PE X iter (tVar i)) (h0 : Γ[i]? = some (.o (MT.mk rows)))
    (hsb : Sb Γ ((Env s0).set i (.o (MT.mk rows)))) (hij : i ≠ j) (hlen : ∀ s, i < (Env s).length) (hanyj : ∀ s, (Env s)[j]? = some .any)
    (i0 : I [] s0) (is : ∀ pre x s, x ∈ rows → I pre s → I (pre ++ [x]) (f s x).1)
    (hb : ∀ pre row post s, rows = pre ++ row :: post → (mapRows f s0 pre).1 = s → I pre s → ∀ p0 p : Addr, BV X (((Env s).set i (.v (Rf.mk p0))).set j (.o (MLp.mk p row))) body (.nx (((Env (f s row).1).set i (.v (Rf.mk p0))).set j (.o (MLp.mk p (f s row).2)))))
    (hp : PassesOwn (model X.prog X.w) X.A X.env X.xe) (hi : X.N[j]? = some nm := by rfl) (hx : L2.Loc X.env.scope nm := by first | exact Or.inl rfl | exact Or.inr rfl) (hf : X.fn nm = true ∨ X.env.scope.names.lookup nm = some .local := by first | exact .inl rfl | exact .inr rfl)
    (hc : X.calm = true := by rfl) (hs : ∀ x, foldedSetIterable iter X.env x = pure x := by intro _; rfl) (ho : .nx ((Env (mapRows f s0 rows).1).set i (.o (MT.mk (mapRows f s0 rows).2))) = o := by exact rfl) :
    SV X Γ (.For (.Name nm p1) iter body [] pos) o := ⟨fun B G H σ D hB hg l k => by
  subst ho
  have takeS : ∀ m (hm : m < rows.length), rows.take (m + 1) = rows.take m ++ [rows[m]] := fun m hm => by rw [List.take_add_one, List.getElem?_eq_getElem hm]; rfl
  have invI : ∀ (m : Nat), m ≤ rows.length → I (rows.take m) (mapRows f s0 (rows.take m)).1 := by
    intro m
    induction m with
    | zero => intro _; exact i0
    | succ m ih =>
      intro hm
      have h1 := ih (by omega)
      rw [takeS m (by omega), mapRows_app]
      exact is _ _ _ (List.getElem_mem _) h1
  obtain ⟨F0, v0, lf0, ev0, hf0, p0, qs0, rfl, hF0, hnd0, hp0, hrows0⟩ := own_at l h0
  refine ws (ps_for hp hc (pi_list hv) pg pss hs) ⟨_, ev0, p0, rfl, ⟨_, SqL.of hp0⟩, ?_⟩
  refine ⟨fun m r σ' H' => r = rows.length - m ∧ m ≤ rows.length ∧ ∃ G', Stp B G G' H' ∧ Lo X.K B G' H' σ' ((Env (mapRows f s0 (rows.take m)).1).set i (.o (MT.mk ((mapRows f s0 (rows.take m)).2 ++ rows.drop m)))) ∧ σ'[i]? = some (some (.ref p0)),
    ⟨rows.length, by simp, Nat.zero_le _, G, Stp.refl hB hg, by
      show Lo X.K B G H σ ((Env (mapRows f s0 []).1).set i (.o (MT.mk ([] ++ rows.drop 0))))
      exact l.sub hsb, ev0⟩, ?_⟩
  rintro m r σ' H' ⟨rfl, hm, G', st, lo, evp⟩
  have gi : ((Env (mapRows f s0 (rows.take m)).1).set i (.o (MT.mk ((mapRows f s0 (rows.take m)).2 ++ rows.drop m))))[i]? = some (.o (MT.mk ((mapRows f s0 (rows.take m)).2 ++ rows.drop m))) := List.getElem?_set_self (hlen _)
  obtain ⟨F, v, lf, ev, hfF, p, qs, rfl, hF, hnd, hpp, hrows⟩ := own_at lo gi
  have ep : p = p0 := by
    rw [evp] at ev
    injection ev with ev
    injection ev with ev
    injection ev with ev
    exact ev.symm
  subst ep
  have hql : qs.length = rows.length := by
    have h := Paired.length hrows
    rw [List.length_append, mapRows_len, List.length_take, List.length_drop] at h
    omega
  by_cases hlt : m < rows.length
  · have hqm : qs[m]? = some qs[m] := List.getElem?_eq_getElem (by omega)
    generalize hq : qs[m] = q at hqm
    have hvs : (qs.map V.ref)[m]? = some (V.ref q) := by rw [List.getElem?_map, hqm]; rfl
    refine .inr ⟨⟨qs.map V.ref, _, SqL.of hpp, hvs⟩, fun σ2 H2 => ∃ G2, Stp B G G2 H2 ∧ Lo X.K B G2 H2 σ2 ((Env (mapRows f s0 (rows.take (m + 1))).1).set i (.o (MT.mk ((mapRows f s0 (rows.take (m + 1))).2 ++ rows.drop (m + 1))))) ∧ σ2[i]? = some (some (.ref p)),
      fun σ2 H2 ⟨G2, st2, lo2, ev2⟩ => ⟨rows.length - (m + 1), by omega, rfl, hlt, G2, st2, lo2, ev2⟩, fun v H3 hy => ?_⟩
    obtain ⟨e, hy⟩ := hy
    subst e
    have e2 := hy (qs.map V.ref) (SqL.of hpp)
    rw [hvs] at e2
    cases e2
    refine wg (pg_name hN hi hx hf) ?_
    -- the row
    have hdl : (mapRows f s0 (rows.take m)).2.length = m := by rw [mapRows_len, List.length_take]; omega
    have hrow : ((mapRows f s0 (rows.take m)).2 ++ rows.drop m)[m]? = some rows[m] := by
      rw [List.getElem?_append_right (by omega), hdl, Nat.sub_self, List.getElem?_drop, Nat.add_zero, List.getElem?_eq_getElem hlt]
    obtain ⟨row', hr1, ws', hq1, hq2⟩ := paired_get hrows m q hqm
    rw [hrow] at hr1
    have erow : rows[m] = row' := Option.some.inj hr1
    generalize hs1 : (mapRows f s0 (rows.take m)).1 = s1 at *
    generalize hd1 : (mapRows f s0 (rows.take m)).2 = d1 at *
    have hnd' : (p :: qs).Nodup := by rw [← hF]; exact hnd
    have hqp : q ≠ p := fun z => (List.nodup_cons.mp hnd').1 (by rw [← z]; exact List.mem_of_getElem? hqm)
    have hqF : q ∈ F i := by rw [hF]; exact List.mem_cons_of_mem _ (List.mem_of_getElem? hqm)
    have ex : rows = rows.take m ++ rows[m] :: rows.drop (m + 1) := by rw [List.getElem_cons_drop, List.take_append_drop]
    -- what is not this row's stands within B'
    let B' : Hp := fun a => if a ∈ F i ∧ a ≠ q then H3 a else B a
    have b1 : ∀ a, a ∈ F i → a ≠ q → B' a = H3 a := fun a h1 h2 => if_pos ⟨h1, h2⟩
    have b2 : ∀ a, a ∉ F i → B' a = B a := fun a h1 => if_neg (fun z => h1 z.1)
    have b3 : B' q = B q := if_neg (fun z => z.2 rfl)
    have hBB : Same B B' := fun b u e => by
      rw [b2 b (fun z => by rw [(hfF b z).1] at e; cases e)]; exact e
    have hBH : Same B' H3 := fun b u e => by
      by_cases h1 : b ∈ F i
      · by_cases h2 : b = q
        · rw [h2, b3, (hfF q hqF).1] at e; cases e
        · rw [b1 b h1 h2] at e; exact e
      · rw [b2 b h1] at e; exact st.b b u e
    have lenσ : σ'.length = (Env s1).length := by rw [lf.len, List.length_set]
    have hjl : j < (Env s1).length := (List.getElem?_eq_some_iff.mp (hanyj s1)).1
    have lo2 : Lo X.K B' G' H3 (σ'.set j (some (.ref q))) (((Env s1).set i (.v (Rf.mk p))).set j (.o (MLp.mk q rows[m]))) := by
      refine ⟨fun n => if n = j then [q] else F n, by simp [lenσ], fun n s e => ?_, fun n n' s t hnn hn hn' hs' ht => ?_⟩
      · rcases set_get e with ⟨rfl, rfl, _⟩ | ⟨hjn, e⟩
        · refine ⟨_, List.getElem?_set_self (by rw [lenσ]; exact hjl), .ref q, rfl, fun a ha => ?_, ?_⟩
          · rw [if_pos rfl] at ha
            have : a = q := by simpa using ha
            subst this
            obtain ⟨q1, q2, q3⟩ := hfF a hqF
            exact ⟨by rw [b3]; exact q1, q2, q3⟩
          · rw [if_pos rfl]
            exact ⟨ws', rfl, rfl, hq1, by rw [erow]; exact hq2⟩
        · rw [List.getElem?_set_ne hjn, if_neg (Ne.symm hjn)]
          rcases set_get e with ⟨rfl, rfl, _⟩ | ⟨hin, e⟩
          · exact ⟨_, evp, _, rfl, rfl⟩
          · obtain ⟨o, h1, h2⟩ := lf.ok n s (by rw [List.getElem?_set_ne hin]; exact e)
            refine ⟨o, h1, ?_⟩
            cases s with
            | any => trivial
            | val d => exact h2
            | own d =>
              obtain ⟨w, e4, hf2, r4⟩ := h2
              refine ⟨w, e4, fun a ha => ?_, r4⟩
              obtain ⟨q1, q2, q3⟩ := hf2 a ha
              exact ⟨by rw [b2 a (fun z => lf.sep n i _ _ (Ne.symm hin) (by rw [List.getElem?_set_ne hin]; exact e) gi rfl rfl a ha z)]; exact q1, q2, q3⟩
      · intro a ha hb'
        have key : ∀ n s, ((Env s1).set i (.v (Rf.mk p)))[n]? = some s → s.isOwn = true → i ≠ n ∧ (((Env s1).set i (.o (MT.mk (d1 ++ rows.drop m)))))[n]? = some s := fun n s e hs' => by
          rcases set_get e with ⟨rfl, rfl, _⟩ | ⟨hin, e⟩
          · cases hs'
          · exact ⟨hin, by rw [List.getElem?_set_ne hin]; exact e⟩
        rcases set_get hn with ⟨rfl, rfl, _⟩ | ⟨hjn, hn⟩
        · rcases set_get hn' with ⟨rfl, _, _⟩ | ⟨hjn', hn'⟩
          · exact hnn rfl
          · obtain ⟨k1, k2⟩ := key n' t hn' ht
            simp only [if_pos] at ha
            simp only [if_neg (Ne.symm hjn')] at hb'
            have : a = q := by simpa using ha
            subst this
            exact lf.sep i n' _ t k1 gi k2 rfl ht a hqF hb'
        · obtain ⟨k1, k2⟩ := key n s hn hs'
          simp only [if_neg (Ne.symm hjn)] at ha
          rcases set_get hn' with ⟨rfl, rfl, _⟩ | ⟨hjn', hn'⟩
          · simp only [if_pos] at hb'
            have : a = q := by simpa using hb'
            subst this
            exact lf.sep n i s _ (Ne.symm k1) k2 gi hs' rfl a ha hqF
          · obtain ⟨k3, k4⟩ := key n' t hn' ht
            simp only [if_neg (Ne.symm hjn')] at hb'
            exact lf.sep n n' s t hnn k2 k4 hs' ht a ha hb'
    refine hb (rows.take m) rows[m] (rows.drop (m + 1)) s1 ex hs1 (by rw [← hs1]; exact invI m hm) p q B' G' H3 _ _ hBH st.gh lo2 fun G5 H5 st5 => ?_
    intro σ6 l6
    obtain ⟨F6, l6⟩ := l6
    rw [takeS m hlt, mapRows_app, hs1, hd1]
    generalize hs2 : (f s1 rows[m]).1 = s2 at *
    generalize hr2 : (f s1 rows[m]).2 = row2 at *
    have hil := hlen s2
    have hjl2 : j < (Env s2).length := (List.getElem?_eq_some_iff.mp (hanyj s2)).1
    have gI : (((Env s2).set i (.v (Rf.mk p))).set j (.o (MLp.mk q row2)))[i]? = some (.v (Rf.mk p)) := by rw [List.getElem?_set_ne (Ne.symm hij), List.getElem?_set_self hil]
    have gJ : (((Env s2).set i (.v (Rf.mk p))).set j (.o (MLp.mk q row2)))[j]? = some (.o (MLp.mk q row2)) := List.getElem?_set_self (by rw [List.length_set]; exact hjl2)
    have gN : ∀ n s, n ≠ i → n ≠ j → (Env s2)[n]? = some s → (((Env s2).set i (.v (Rf.mk p))).set j (.o (MLp.mk q row2)))[n]? = some s := fun n s h1 h2 e => by rw [List.getElem?_set_ne (Ne.symm h2), List.getElem?_set_ne (Ne.symm h1)]; exact e
    obtain ⟨oi, oi1, vi, oi2, oi3⟩ := l6.ok i _ gI
    have evi : σ6[i]? = some (some (.ref p)) := by rw [oi1, oi2]; exact congrArg (fun z => some (some z)) oi3
    obtain ⟨oj, oj1, vj, oj2, oj3, vs5, oj4, oj5, oj6, oj7⟩ := l6.ok j _ gJ
    have hqj : B' q = none ∧ G5 q = none ∧ ∃ ho, H5 q = some ho := oj3 q (by rw [oj5]; simp)
    have F6out : ∀ n s, n ≠ i → n ≠ j → (Env s2)[n]? = some s → s.isOwn = true → ∀ a ∈ F6 n, a ∉ F i := fun n s h1 h2 e hs' a ha z => by
      by_cases haq : a = q
      · exact l6.sep n j _ _ h2 (gN n s h1 h2 e) gJ hs' rfl a ha (by rw [oj5, haq]; simp)
      · obtain ⟨o, k1, k2⟩ := l6.ok n s (gN n s h1 h2 e)
        cases s with
        | any => cases hs'
        | val _ => cases hs'
        | own d =>
          obtain ⟨w, e4, hf2, r4⟩ := k2
          obtain ⟨_, _, ho, q3⟩ := hfF a z
          have := (hf2 a ha).1
          rw [b1 a z haq, q3] at this
          cases this
    have keepF : ∀ a ∈ F i, a ≠ q → H5 a = H3 a ∧ G5 a = none := fun a ha hne => by
      obtain ⟨_, q2, ho, q3⟩ := hfF a ha
      have h1 : B' a = some ho := by rw [b1 a ha hne]; exact q3
      exact ⟨by rw [st5.b a ho h1, q3], by rw [st5.fr a ho h1 (lf.nt gi a ha ho q3)]; exact q2⟩
    refine ⟨G5, st.trans ⟨fun b u e => st5.b b u (hBB b u e), st5.g, st5.gh, fun b u e n => st5.fr b u (hBB b u e) n⟩, ⟨fun n => if n = i then F i else if n = j then [] else F6 n, ?_, fun n s e => ?_, fun n n' s t hnn hn hn' hs' ht a ha hb' => ?_⟩, evi⟩
    · have := l6.len
      rw [List.length_set, List.length_set] at this
      rw [List.length_set]; exact this
    · rcases set_get e with ⟨rfl, rfl, _⟩ | ⟨hin, e⟩
      · refine ⟨_, evi, .ref p, rfl, fun a ha => ?_, ?_⟩
        · rw [if_pos rfl] at ha
          refine ⟨(hfF a ha).1, ?_⟩
          by_cases haq : a = q
          · rw [haq]; exact hqj.2
          · obtain ⟨k1, k2⟩ := keepF a ha haq
            obtain ⟨_, _, ho, q3⟩ := hfF a ha
            exact ⟨k2, ho, by rw [k1]; exact q3⟩
        · rw [if_pos rfl]
          have hpq : p ≠ q := Ne.symm hqp
          refine ⟨p, qs, rfl, hF, hnd, by rw [(keepF p (by rw [hF]; simp) hpq).1]; exact hpp, ?_⟩
          have hset : d1 ++ [row2] ++ rows.drop (m + 1) = (d1 ++ rows.drop m).set m row2 := by
            have hd : rows.drop m = rows[m] :: rows.drop (m + 1) := by rw [List.getElem_cons_drop]
            rw [hd, List.set_append_right _ _ (by omega), hdl, Nat.sub_self, List.set_cons_zero, List.append_assoc]
            rfl
          rw [hset]
          exact rows_set m (List.nodup_cons.mp hnd').2 hqm ⟨vs5, oj6, oj7⟩ (fun a ha hne => (keepF a (by rw [hF]; exact List.mem_cons_of_mem _ ha) hne).1) (hrows.mono st5.g fun a _ => rfl)
      · rw [if_neg (Ne.symm hin)]
        by_cases hjn : n = j
        · rw [hjn, hanyj s2] at e
          cases e
          rw [hjn]
          exact ⟨_, oj1, trivial⟩
        · rw [if_neg hjn]
          obtain ⟨o, k1, k2⟩ := l6.ok n s (gN n s (Ne.symm hin) hjn e)
          refine ⟨o, k1, ?_⟩
          cases s with
          | any => trivial
          | val d => exact k2
          | own d =>
            obtain ⟨w, e4, hf2, r4⟩ := k2
            refine ⟨w, e4, fun a ha => ?_, r4⟩
            obtain ⟨q1, q2, q3⟩ := hf2 a ha
            exact ⟨by rw [← b2 a (F6out n _ (Ne.symm hin) hjn e rfl a ha)]; exact q1, q2, q3⟩
    · have key : ∀ n s, (Env s2)[n]? = some s → s.isOwn = true → n ≠ j := fun n s e hs' z => by
        rw [z, hanyj s2] at e
        cases e
        cases hs'
      rcases set_get hn with ⟨rfl, rfl, _⟩ | ⟨hin, hn⟩
      · rcases set_get hn' with ⟨rfl, _, _⟩ | ⟨hin', hn'⟩
        · exact hnn rfl
        · have hj' := key n' t hn' ht
          simp only [if_pos] at ha
          simp only [if_neg (Ne.symm hin'), if_neg hj'] at hb'
          exact F6out n' t (Ne.symm hin') hj' hn' ht a hb' ha
      · have hj1 := key n s hn hs'
        simp only [if_neg (Ne.symm hin), if_neg hj1] at ha
        rcases set_get hn' with ⟨rfl, rfl, _⟩ | ⟨hin', hn'⟩
        · simp only [if_pos] at hb'
          exact F6out n s (Ne.symm hin) hj1 hn hs' a ha hb'
        · have hj2 := key n' t hn' ht
          simp only [if_neg (Ne.symm hin'), if_neg hj2] at hb'
          exact l6.sep n n' s t hnn (gN n s (Ne.symm hin) hj1 hn) (gN n' t (Ne.symm hin') hj2 hn') hs' ht a ha hb'
  · have em : m = rows.length := by omega
    subst em
    rw [List.take_length, List.drop_length, List.append_nil] at lo
    exact .inl ⟨⟨qs.map V.ref, SqL.of hpp, by rw [List.length_map, hql]; exact Nat.le_refl _⟩, k G' H' st σ' lo⟩⟩
end
end Wl

set_option maxRecDepth 100000
set_option maxHeartbeats 2000000
/-! texts -/
namespace Wl
open PySem PySem.Spec PyProof.Rows L2
section
variable {X : Cx} {Γ Γ' : List Slot} {st : Stmt} {sts els rest : List Stmt} {a b c d e tg iter elt : Expr} {es elts ifs : List Expr} {pos : Pos} {o : Out}
theorem ev_gstr {z : Str} {x : Str} (hm : ∃ t, X.mg x = some (.str z t)) (hg : Gl X x := by rfl) (hd : (x == ("__debug__" : Str)) = false := by decide) : EV X Γ (.Name x pos) z := ⟨fun B G H σ hB hgh l Q q => by
  obtain ⟨t, e⟩ := hm
  exact we (pe_glob (v := .str z) hg e ⟨t, rfl⟩ hd) (q _ G H (Grow.refl hgh) rfl)⟩
/-- a + b of texts -/
theorem ev_addS {x y : Str} (ha : EV X Γ a x) (hb : EV X Γ b y) (hz : x.length + y.length ≤ 10000000) : EV X Γ (.BinOp a .Add b pos) (x ++ y) := ⟨fun B G H σ hB hg l Q q =>
  we (pe_op op_add_str pe pe) (ha B G H σ hB hg l _ fun v G1 H1 g1 r1 => hb B G1 H1 σ (hB.trans g1.h) g1.gh (l.grow g1) _ fun v2 G2 H2 g2 r2 =>
    ⟨x, y, r1, r2, by rw [sizeLine_eq]; omega, q _ G2 H2 (g1.trans g2) rfl⟩)⟩
theorem ev_callT1 {r : List V → Hp → VK → Prop} {T : String} {x : Str} {p : Pos} {α β : Type} [Rp α] [Rp β] {y : α} {z : β} (hc : CallR X (.type T) r) (hm : X.mg x = none) (hv : bootBuiltins x = some (.type T)) (ha : EV X Γ a y)
    (hr : ∀ G H v, Same G H → Rp.rep X.K G v y → ∀ Q : VK, (∀ w G' H', Grow G H G' H' → Rp.rep X.K G' w z → Q w H') → r [v] H Q) (hg : Gl X x := by rfl) (hn : x ≠ "__name__" := by decide) (hdb : (x == ("__debug__" : Str)) = false := by decide)
    (he : starEach [a] X.env = (false, eval a X.env) :: starEach [] X.env := by rfl) (hpl : (backTo pos (starEach [] X.env)).any (·.1) = false := by rfl) : EV X Γ (.Call (.Name x p) [a] [] pos) z :=
  ev_cty hc hm hv (ea_cons ha ea_nil he) (fun G H vs hgh r1 Q q => by cases r1 with | cons r1 t => cases t; exact hr G H _ hgh r1 Q q) hg hn hdb he hpl
/-- the text of a number -/
def numS (n : Int) : Str := Str.ofString (toString n)
theorem ev_strI {p : Pos} {n : Int} (hm : X.mg "str" = none) (ha : EV X Γ a n) (hz : n.natAbs.log2 < 1920) (hg : Gl X "str" := by rfl) (he : starEach [a] X.env = (false, eval a X.env) :: starEach [] X.env := by rfl) (hpl : (backTo pos (starEach [] X.env)).any (·.1) = false := by rfl) : EV X Γ (.Call (.Name "str" p) [a] [] pos) (numS n) :=
  ev_callT1 call_str_int hm (by decide +kernel) ha (fun G H v hgh r Q q => ⟨n, by rw [show v = V.int n from r], hz, q _ G H (Grow.refl hgh) rfl⟩) hg (by decide) (by decide) he hpl
/-- the number that a text writes -/
def intS (z : Str) : Int := (PySem.intText? z).getD 0
theorem ev_intS {p : Pos} {z : Str} (hm : X.mg "int" = none) (ha : EV X Γ a z) (hs : (PySem.intText? z).isSome = true ∧ z.length ≤ 640) (hg : Gl X "int" := by rfl) (he : starEach [a] X.env = (false, eval a X.env) :: starEach [] X.env := by rfl) (hpl : (backTo pos (starEach [] X.env)).any (·.1) = false := by rfl) : EV X Γ (.Call (.Name "int" p) [a] [] pos) (intS z) :=
  ev_callT1 call_int_str hm (by decide +kernel) ha (fun G H v hgh r Q q => ⟨z, intS z, by rw [show v = V.str z from r], by
    unfold intS
    cases e : PySem.intText? z with
    | none => rw [e] at hs; cases hs.1
    | some n => rfl, hs.2, q _ G H (Grow.refl hgh) rfl⟩) hg (by decide) (by decide) he hpl
/-- int(flag) -/
theorem ev_intB {p : Pos} {x : Bool} (hm : X.mg "int" = none) (ha : EV X Γ a x) (hg : Gl X "int" := by rfl) (he : starEach [a] X.env = (false, eval a X.env) :: starEach [] X.env := by rfl) (hpl : (backTo pos (starEach [] X.env)).any (·.1) = false := by rfl) : EV X Γ (.Call (.Name "int" p) [a] [] pos) (bif x then (1 : Int) else 0) :=
  ev_callT1 call_int1 hm (by decide +kernel) ha (fun G H v hgh r Q q => .inr ⟨x, by rw [show v = V.bl x from r], q _ G H (Grow.refl hgh) (by cases x <;> rfl)⟩) hg (by decide) (by decide) he hpl
/-- len of a text -/
theorem ev_lenS {p : Pos} {z : Str} (hm : X.mg "len" = none) (ha : EV X Γ a z) (hz : z.length ≤ 10000000) (hg : Gl X "len" := by rfl) (he : starEach [a] X.env = (false, eval a X.env) :: starEach [] X.env := by rfl) (hpl : (backTo pos (starEach [] X.env)).any (·.1) = false := by rfl) : EV X Γ (.Call (.Name "len" p) [a] [] pos) (z.length : Int) :=
  ev_call1 call_len_str hm PySem.boot_len ha (fun G H v hgh r Q q => ⟨z, by rw [show v = V.str z from r], by rw [sizeLine_eq]; omega, q _ G H (Grow.refl hgh) rfl⟩) hg (by decide) (by decide) he hpl
/-- s[i], one sign -/
def sgn (z : Str) (i : Int) : Str := ⟨#[z.cps.toList.getD i.toNat 0]⟩
theorem ev_sixS {z : Str} {i : Int} (ha : EV X Γ a z) (hb : EV X Γ b i) (h0 : 0 ≤ i) (h1 : i < (z.length : Int)) (hz : z.length ≤ 10000000) (hp : PlainIx b := by exact fun _ _ => rfl) : EV X Γ (.Subscript a b pos) (sgn z i) := ⟨fun B G H σ hB hg l Q q =>
  we (pe_ix ix_str pe pe hp) (ha B G H σ hB hg l _ fun v G1 H1 g1 r1 => hb B G1 H1 σ (hB.trans g1.h) g1.gh (l.grow g1) _ fun u G2 H2 g2 r2 => by
    refine ⟨z, i, z.cps.toList.getD i.toNat 0, r1, r2, by rw [sizeLine_eq]; omega, ?_, q _ G2 H2 (g1.trans g2) rfl⟩
    have hl : z.cps.toList.length = z.length := by simp [Str.length]
    have hi : i.toNat < z.cps.toList.length := by omega
    have e : z.cps.toList[i.toNat]? = some (z.cps.toList.getD i.toNat 0) := by rw [List.getD_eq_getElem?_getD, List.getElem?_eq_getElem hi]; rfl
    have ei : i = ((i.toNat : Nat) : Int) := by omega
    rw [ei, Int.toNat_natCast]
    exact atI_nat e)⟩
/-- c in s, c one sign -/
def isSgn (c : Str) : Prop := ∃ k : Nat, c = ⟨#[k]⟩
def inS (c z : Str) : Bool := decide (c.cps.toList.headD 0 ∈ z.cps.toList)
theorem et_inS {c z : Str} (ha : EV X Γ a c) (hb : EV X Γ b z) (hc : isSgn c) (hm : behindInMarks .In b = false := by rfl) : ET X Γ (.Compare a [.In] [b] pos) (inS c z) := ⟨fun B G H σ hB hg l Q q =>
  wt (pt_cmpR op_in_sign pe pe hm) (ha B G H σ hB hg l _ fun v G1 H1 g1 r1 => hb B G1 H1 σ (hB.trans g1.h) g1.gh (l.grow g1) _ fun u G2 H2 g2 r2 => by
    obtain ⟨k, rfl⟩ := hc
    exact ⟨k, z, r1, r2, _, rfl, q G2 H2 (g1.trans g2)⟩)⟩
theorem et_ninS {c z : Str} (ha : EV X Γ a c) (hb : EV X Γ b z) (hc : isSgn c) (hm : behindInMarks .NotIn b = false := by rfl) : ET X Γ (.Compare a [.NotIn] [b] pos) (!inS c z) := ⟨fun B G H σ hB hg l Q q =>
  wt (pt_cmpR op_notIn_sign pe pe hm) (ha B G H σ hB hg l _ fun v G1 H1 g1 r1 => hb B G1 H1 σ (hB.trans g1.h) g1.gh (l.grow g1) _ fun u G2 H2 g2 r2 => by
    obtain ⟨k, rfl⟩ := hc
    exact ⟨k, z, r1, r2, _, rfl, q G2 H2 (g1.trans g2)⟩)⟩
theorem str_beq (x y : Str) : (x == y) = decide (x = y) := by
  by_cases h : x = y
  · subst h; simp
  · rw [decide_eq_false h]; simpa using h
/-- x in (y, z) of texts -/
theorem et_in2 {x y z : Str} (ha : EV X Γ a x) (hb : EV X Γ b (T2.mk y z)) (hm : behindInMarks .In b = false := by rfl) : ET X Γ (.Compare a [.In] [b] pos) (decide (y = x) || decide (z = x)) := ⟨fun B G H σ hB hg l Q q =>
  wt (pt_cmpR op_in_seq pe pe hm) (ha B G H σ hB hg l _ fun v G1 H1 g1 r1 => hb B G1 H1 σ (hB.trans g1.h) g1.gh (l.grow g1) _ fun u G2 H2 g2 r2 => by
    obtain ⟨p, v1, v2, rfl, hs, h1, h2⟩ := r2
    have e0 : v = .str x := r1
    have e1 : v1 = .str y := h1
    have e2 : v2 = .str z := h2
    subst e0 e1 e2
    refine ⟨p, _, rfl, .inr (seqT g2.gh hs), rfl, rfl, _, rfl, ?_⟩
    have e : inV (.str x) [.str y, .str z] = (decide (y = x) || decide (z = x)) := by
      show ((y == x) || ((z == x) || false)) = _
      rw [str_beq, str_beq, Bool.or_false]
    rw [if_neg (by decide), e]
    exact q G2 H2 (g1.trans g2))⟩
theorem et_nin2 {x y z : Str} (ha : EV X Γ a x) (hb : EV X Γ b (T2.mk y z)) (hm : behindInMarks .NotIn b = false := by rfl) : ET X Γ (.Compare a [.NotIn] [b] pos) (!(decide (y = x) || decide (z = x))) := ⟨fun B G H σ hB hg l Q q =>
  wt (pt_cmpR op_notIn_seq pe pe hm) (ha B G H σ hB hg l _ fun v G1 H1 g1 r1 => hb B G1 H1 σ (hB.trans g1.h) g1.gh (l.grow g1) _ fun u G2 H2 g2 r2 => by
    obtain ⟨p, v1, v2, rfl, hs, h1, h2⟩ := r2
    have e0 : v = .str x := r1
    have e1 : v1 = .str y := h1
    have e2 : v2 = .str z := h2
    subst e0 e1 e2
    refine ⟨p, _, rfl, .inr (seqT g2.gh hs), rfl, rfl, _, rfl, ?_⟩
    have e : inV (.str x) [.str y, .str z] = (decide (y = x) || decide (z = x)) := by
      show ((y == x) || ((z == x) || false)) = _
      rw [str_beq, str_beq, Bool.or_false]
    rw [if_pos rfl, e]
    exact q G2 H2 (g1.trans g2))⟩
theorem reps_strs {K : PySem.W.Frag} {G : Hp} : ∀ ys : List Str, Reps K G (ys.map V.str) ys
  | [] => .nil
  | _ :: r => .cons rfl (reps_strs r)
theorem strs_reps {K : PySem.W.Frag} {G : Hp} : ∀ {vs : List V} {ys : List Str}, Reps K G vs ys → vs = ys.map V.str
  | _, _, .nil => rfl
  | _, _, .cons r t => by rw [show _ = V.str _ from r, strs_reps t]; rfl
/-- s.split(sep), a new list -/
theorem en_split {apos : Pos} {x y : Str} (ha : EV X Γ a x) (hb : EV X Γ b y) (hy : (y.length == 0) = false) (hz : x.length ≤ 10000000) (hs : starEach [b] X.env = [(false, eval b X.env)] := by rfl) (hbase : attributeBase a "split" X.env (eval a X.env) = eval a X.env := by rfl) (hline : (apos.endLine == pos.line) = true := by rfl) :
    EN X Γ (.Call (.Attribute a "split" apos) [b] [] pos) (ML.mk (Txt.split x y)) := ⟨fun B G H σ hB hg l Q q =>
  we (pe_split pe pe hs hbase hline) (ha B G H σ hB hg l _ fun v G1 H1 g1 r1 => ⟨⟨x, r1⟩, hb B G1 H1 σ (hB.trans g1.h) g1.gh (l.grow g1) _ fun u G2 H2 g2 r2 =>
    ⟨x, y, r1, by rw [show u = V.str y from r2], hy, by rw [sizeLine_eq]; omega, fun p hp => q (.ref p) [p] G2 _ ((g1.trans g2).trans (Grow.own g2.gh hp)) (one_new ((g1.trans g2).h.free hp) (g2.gh.free hp)) ⟨p, _, rfl, rfl, upd_same, reps_strs _⟩⟩⟩)⟩
/-- sep.join(xs) -/
theorem ev_join {apos : Pos} {x : Str} {ys : List Str} (ha : EV X Γ a x) (hb : EV X Γ b ys) (hz : (ys.map (·.length)).sum + ys.length * x.length ≤ 10000000) (hs : starEach [b] X.env = [(false, eval b X.env)] := by rfl) (hbase : attributeBase a "join" X.env (eval a X.env) = eval a X.env := by rfl) (hline : (apos.endLine == pos.line) = true := by rfl) :
    EV X Γ (.Call (.Attribute a "join" apos) [b] [] pos) (Str.join x ys) := ⟨fun B G H σ hB hg l Q q =>
  we (pe_join pe pe hs hbase hline) (ha B G H σ hB hg l _ fun v G1 H1 g1 r1 => ⟨⟨x, r1⟩, hb B G1 H1 σ (hB.trans g1.h) g1.gh (l.grow g1) _ fun u G2 H2 g2 r2 => by
    obtain ⟨p, vs, rfl, hs, hr⟩ := r2
    rw [strs_reps hr] at hs
    exact ⟨x, p, ys, r1, rfl, .inl (Same.seq g2.gh hs), by omega, q _ G2 H2 (g1.trans g2) (by rw [TL.join_eq]; rfl)⟩⟩)⟩
/-- xs.extend(ys), ys a new list -/
theorem sv_extend (i : Nat) {α : Type} [Rp α] {xs ys : List α} {c e : Expr} (hp : PE X c (tBM X.K "list" rExtend (tVar i) (tCons (WE X e) tNil))) (h0 : Γ[i]? = some (.l xs)) (h : EN X Γ e (ML.mk ys)) (hz : xs.length + ys.length ≤ 10000000) (hs : swapsWith c none pos.line X.env = pure false := by rfl) :
    SV X Γ (.Expr c pos) (.nx (Γ.set i (.l (xs ++ ys)))) := ⟨fun B G H σ D hB hg l k => by
  obtain ⟨F, p, vs, lf, hF, e1, hbp, hgp, hh, r⟩ := ownL l h0
  refine ws (ps_expr hp hs) ⟨_, e1, .inl ⟨rfl, _, .inl (.inl hh)⟩, ?_⟩
  refine h B G H σ hB hg l _ fun v fp G1 H1 g1 hf ok => ?_
  obtain ⟨p2, ws2, rfl, rfl, hh2, r2⟩ := ok
  have l1 := r.len
  have l2 := r2.len
  refine ⟨p, p2, vs, ws2, rfl, rfl, g1.h _ _ hh, hh2, by rw [sizeLine_eq]; simp only at *; omega, ?_⟩
  have hgp1 := (g1.fr p _ hh).trans hgp
  exact k G1 _ ((g1.step hB).trans (Stp.mutL (hB.trans g1.h) g1.gh hbp hgp1)) σ ((lf.grow g1).mutL h0 hF e1 hbp hgp1 (paired_app (r.mono g1.g) r2))⟩
/-- an if that is not taken -/
theorem bv_ifF {x : Bool} (h : ET X Γ c x) (hx : x = false) (hr : BV X Γ rest o) : BV X Γ (.If c sts [] pos :: rest) o := by
  subst hx
  exact (bv_if (of := fun b => bif b then .rt (dt ()) else o) h (fun z => by cases z) trivial (fun _ => hr) : BV X Γ _ o)
theorem bv_cases {of : Bool → Out} (x : Bool) (hT : x = true → BV X Γ sts (of true)) (hF : x = false → BV X Γ sts (of false)) (ho : of x = o := by exact rfl) : BV X Γ sts o := by
  subst ho
  cases x with
  | true => exact hT rfl
  | false => exact hF rfl
/-- an if whose ways go on apart -/
theorem bv_ifd {x : Bool} {of : Bool → Out} (Γ1 Γ2 : List Slot) (h : ET X Γ c x) (h1 : x = true → BV X Γ sts (.nx Γ1)) (r1 : x = true → BV X Γ1 rest (of true)) (h2 : x = false → BV X Γ els (.nx Γ2)) (r2 : x = false → BV X Γ2 rest (of false)) (ho : of x = o := by exact rfl) : BV X Γ (.If c sts els pos :: rest) o := by
  subst ho
  cases x with
  | true => exact bv_if2 (Γ1 := Γ1) (Γ2 := Γ2) h (fun z => ⟨h1 rfl, r1 rfl⟩) (fun z => by cases z)
  | false => exact bv_if2 (Γ1 := Γ1) (Γ2 := Γ2) h (fun z => by cases z) (fun z => ⟨h2 rfl, r2 rfl⟩)
/-! ### a list of one's own under another name -/
theorem ev_ownRef (i : Nat) {α : Type} [Rp α] {p : Addr} {xs : List α} (hv : PE X e (tVar i)) (h0 : Γ[i]? = some (.o (MLp.mk p xs))) : EV X Γ e (Rf.mk p) := ⟨fun B G H σ hB hg l Q q => by
  obtain ⟨F, vs, lf, hF, e1, hbp, hgp, hh, r⟩ := ownP l h0
  exact we hv ⟨_, e1, q _ G H (Grow.refl hg) rfl⟩⟩
theorem bv_pin (i : Nat) {α : Type} [Rp α] {xs : List α} (h0 : Γ[i]? = some (.l xs)) (h : ∀ p : Addr, BV X (Γ.set i (.o (MLp.mk p xs))) sts o) : BV X Γ sts o := ⟨fun B G H σ D hB hg l k => by
  obtain ⟨F, p, vs, lf, hF, e1, hbp, hgp, hh, r⟩ := ownL l h0
  have lo := lf.mut (H' := H) (fp := [p]) (d' := ot (MLp.mk p xs)) h0 e1 (fun a _ o e => e) (fun a ha => by
    have : a = p := by simpa using ha
    subst this
    exact ⟨.inl (by rw [hF]; simp), hbp, hgp, _, hh⟩) ⟨vs, rfl, rfl, hh, r⟩
  exact h p B G H σ D hB hg lo k⟩
theorem Lo.unpin {K : PySem.W.Frag} {B G H : Hp} {σ : L2.St} {i : Nat} {α : Type} [Rp α] {p : Addr} {xs : List α} (l : Lo K B G H σ Γ) (h0 : Γ[i]? = some (.o (MLp.mk p xs))) : Lo K B G H σ (Γ.set i (.l xs)) := by
  obtain ⟨F, vs, lf, hF, e1, hbp, hgp, hh, r⟩ := ownP l h0
  exact lf.mut (H' := H) (fp := [p]) (d' := ot (ML.mk xs)) h0 e1 (fun a _ o e => e) (fun a ha => by
    have : a = p := by simpa using ha
    subst this
    exact ⟨.inl (by rw [hF]; simp), hbp, hgp, _, hh⟩) ⟨p, vs, rfl, rfl, hh, r⟩
theorem bv_unpin (i : Nat) {α : Type} [Rp α] {p : Addr} {xs : List α} (h0 : Γ'[i]? = some (.o (MLp.mk p xs))) (h : BV X Γ sts (.nx Γ')) : BV X Γ sts (.nx (Γ'.set i (.l xs))) := ⟨fun B G H σ D hB hg l k =>
  h B G H σ D hB hg l fun G' H' g σ' l' => k G' H' g σ' (l'.unpin h0)⟩
theorem sv_appAl (i j : Nat) {α : Type} [Rp α] {p : Addr} {xs : List α} {x : α} {c e : Expr} (hp : PE X c (tBM X.K "list" rAppend (tVar j) (tCons (WE X e) tNil))) (h0 : Γ[i]? = some (.o (MLp.mk p xs))) (hj : Γ[j]? = some (.v (Rf.mk p))) (h : EV X Γ e x) (hz : xs.length < 10000000) (hs : swapsWith c none pos.line X.env = pure false := by rfl) :
    SV X Γ (.Expr c pos) (.nx (Γ.set i (.o (MLp.mk p (xs ++ [x]))))) := ⟨fun B G H σ D hB hg l k => by
  obtain ⟨vj, ej, rj⟩ := l.val hj
  have rj : vj = .ref p := rj
  subst rj
  obtain ⟨F, vs, lf, hF, e1, hbp, hgp, hh, r⟩ := ownP l h0
  refine ws (ps_expr hp hs) ⟨_, ej, .inl ⟨rfl, _, .inl (.inl hh)⟩, ?_⟩
  refine h B G H σ hB hg l _ fun v G1 H1 g1 r1 => ?_
  refine ⟨p, vs, v, rfl, rfl, g1.h _ _ hh, by rw [r.len]; exact Nat.lt_of_lt_of_le hz (by decide), ?_⟩
  have hgp1 := (g1.fr p _ hh).trans hgp
  exact k G1 _ ((g1.step hB).trans (Stp.mutL (hB.trans g1.h) g1.gh hbp hgp1)) σ ((lf.grow g1).mutP h0 hF e1 hbp hgp1 (paired_app (r.mono g1.g) (.cons r1 .nil)))⟩
theorem ev_lenAl (i j : Nat) {α : Type} [Rp α] {p : Addr} {pn : Pos} {xs : List α} (hm : X.mg "len" = none) (hv : PE X a (tVar j)) (h0 : Γ[i]? = some (.o (MLp.mk p xs))) (hj : Γ[j]? = some (.v (Rf.mk p))) (hg : Gl X "len" := by rfl) (he : starEach [a] X.env = (false, eval a X.env) :: starEach [] X.env := by rfl) (hpl : (backTo pos (starEach [] X.env)).any (·.1) = false := by rfl) :
    EV X Γ (.Call (.Name "len" pn) [a] [] pos) (xs.length : Int) := ⟨fun B G H σ hB hgh l Q q => by
  obtain ⟨vj, ej, rj⟩ := l.val hj
  have rj : vj = .ref p := rj
  subst rj
  obtain ⟨F, vs, lf, hF, e1, hbp, hgp, hh, r⟩ := ownP l h0
  exact we (pe_callB call_len_seq hg hm PySem.boot_len (pa_cons hv pa_nil he) (by decide) (by decide) he hpl) ⟨_, ej, p, vs, rfl, .inl (SqL.of hh), q _ G H (Grow.refl hgh) (by rw [r.len]; rfl)⟩⟩
/-! ### tuples walked -/
theorem iters_tup {α : Type} [Rp α] {K : PySem.W.Frag} {G : Hp} {p : Addr} {vs : List V} {xs : List α} (hs : SqT K G p vs) (r : Reps K G vs xs) : Iters K (Itt K p) G xs := by
  refine ⟨fun i G2 H2 g h hi => ?_, fun G2 H2 g h => ⟨vs, seqT (g.trans h) hs, by rw [r.len]; exact Nat.le_refl _⟩⟩
  obtain ⟨v, hv, rv⟩ := paired_get2 r i xs[i] (List.getElem?_eq_getElem hi)
  refine ⟨⟨vs, v, seqT (g.trans h) hs, hv⟩, fun u H3 hy => ?_⟩
  obtain ⟨e, hy⟩ := hy
  subst e
  have e2 := hy vs (seqT (g.trans h) hs)
  rw [hv] at e2
  cases e2
  exact ⟨G2, xs[i], Grow.refl h, List.getElem?_eq_getElem hi, Rp.mono g rv⟩
theorem iv_tup3 {α : Type} [Rp α] {x : T3 α α α} (h : EV X Γ iter x) : IV X Γ tg iter [x.a, x.b, x.c] := ⟨fun B G H σ hB hg l R q =>
  wi (pi_tup pe) (h B G H σ hB hg l _ fun v G1 H1 g1 r1 => by
    obtain ⟨p, v1, v2, v3, e, hs, h1, h2, h3⟩ := r1
    exact ⟨p, e, ⟨_, seqT g1.gh hs⟩, q _ G1 H1 g1 (iters_tup hs (.cons h1 (.cons h2 (.cons h3 .nil))))⟩)⟩
end
/-! ### defs that change two lists that they are handed -/
def MSp2 {α β : Type} [Rp α] [Rp β] (K : PySem.W.Frag) (R : List α → List β → List Dat → List α → List β → Prop) : Sp := fun vs H Q _ => ∃ (G : Hp) (p q : Addr) (us vs0 ws : List V) (xs : List α) (ys : List β) (ds : List Dat) (xs' : List α) (ys' : List β),
  vs = .ref p :: .ref q :: ws ∧ Same G H ∧ p ≠ q ∧ H p = some (.lst us) ∧ G p = none ∧ H q = some (.lst vs0) ∧ G q = none ∧ Reps K G us xs ∧ Reps K G vs0 ys ∧ DatsOk K G ws ds ∧ R xs ys ds xs' ys' ∧
  ∀ (G' H' : Hp), Same (delH (delH H p) q) H' → Same G G' → Same G' H' → G' p = none → G' q = none → (∀ a o, a ≠ p → a ≠ q → H a = some o → Nt o → G' a = G a) → (∃ us', H' p = some (.lst us') ∧ Reps K G' us' xs') → (∃ vs', H' q = some (.lst vs') ∧ Reps K G' vs' ys') → Q .non H'
section
variable {P : Program} {w : World} {K : PySem.W.Frag} {mg : Str → Option Value} {base : Heap}
theorem Lo.toOwn1 {K : PySem.W.Frag} {B B' G H : Hp} {σ : L2.St} {Γ : List Slot} {j : Nat} (l : Lo K B G H σ Γ) {v : V} {d : Odat} {fp : List Addr} (h0 : σ[j]? = some (some v)) (hBB : ∀ a, B a = none → B' a = none) (hf : ∀ a ∈ fp, B a ≠ none ∧ B' a = none ∧ G a = none ∧ ∃ ho, H a = some ho) (r : d.ok K G H v fp) : Lo K B' G H σ (Γ.set j (.own d)) := by
  obtain ⟨F, l⟩ := l
  refine ⟨fun k => if k = j then fp else F k, by simp [l.len], fun k s e => ?_, fun k m s t hkm hk hm hs ht a ha hb => ?_⟩
  · rcases set_get e with ⟨rfl, rfl, hi⟩ | ⟨hij, e⟩
    · exact ⟨_, h0, v, rfl, by rw [if_pos rfl]; exact fun a ha => (hf a ha).2, by rw [if_pos rfl]; exact r⟩
    · obtain ⟨o, h1, h2⟩ := l.ok k s e
      refine ⟨o, h1, ?_⟩
      rw [if_neg (Ne.symm hij)]
      cases s with
      | any => trivial
      | val _ => exact h2
      | own d2 =>
        obtain ⟨v2, e2, hf2, r2⟩ := h2
        exact ⟨v2, e2, fun a ha => ⟨hBB a (hf2 a ha).1, (hf2 a ha).2⟩, r2⟩
  · have old : ∀ n s, Γ[n]? = some s → s.isOwn = true → ∀ a ∈ F n, B a = none := fun n s e hs a ha => by
      obtain ⟨o, h1, h2⟩ := l.ok n s e
      cases s with
      | any => cases hs
      | val _ => cases hs
      | own d2 => obtain ⟨v2, e2, hf2, r2⟩ := h2; exact (hf2 a ha).1
    rcases set_get hk with ⟨rfl, rfl, _⟩ | ⟨hij, hk⟩
    · rcases set_get hm with ⟨rfl, _, _⟩ | ⟨him, hm⟩
      · exact hkm rfl
      · simp only [if_pos] at ha
        simp only [if_neg (Ne.symm him)] at hb
        exact (hf a ha).1 (old m t hm ht a hb)
    · simp only [if_neg (Ne.symm hij)] at ha
      rcases set_get hm with ⟨rfl, rfl, _⟩ | ⟨him, hm⟩
      · simp only [if_pos] at hb
        exact (hf a hb).1 (old k s hk hs a ha)
      · simp only [if_neg (Ne.symm him)] at hb
        exact l.sep k m s t hkm hk hm hs ht a ha hb
theorem fn_mut2 {α β : Type} [Rp α] [Rp β] {x qual : Str} {st : Stmt} {f : Addr} {fd : FuncData} {N ps : List Str} {k : Nat} {R : List α → List β → List Dat → List α → List β → Prop} (F : Fun K x qual st f fd) (S : FnScope N ps (defScope st)) (len : ∀ xs ys ds xs' ys', R xs ys ds xs' ys' → ds.length + 2 = ps.length)
    (body : ∀ (cdv : Value) (A : Around) (outer : List Env) (s : Shared) (H : Hp) (E : XK) (p q : Addr) (xs : List α) (ys : List β) (ds : List Dat) (xs' : List α) (ys' : List β), Room k (A.deeper (envOfC qual (defScope st) s.heap.objs.size f cdv)) → R xs ys ds xs' ys' →
      ∃ Γ', Γ'[0]? = some (.o (MLp.mk p xs')) ∧ Γ'[1]? = some (.o (MLp.mk q ys')) ∧ BV (cxOf CX0 P w K mg base N qual (defScope st) f cdv A outer s H E).nox (((slots (dNo :: dNo :: ds) N.length).set 0 (.o (MLp.mk p xs))).set 1 (.o (MLp.mk q ys))) (defBody st) (.nx Γ')) : FnOk P w K mg base CX0 (k + 1) f fd ps (MSp2 K R) :=
  F.ok S (fun vs H Q E h => by
    obtain ⟨G, p, q, us, vs0, ws, xs, ys, ds, xs', ys', rfl, _, _, _, _, _, _, _, _, r, hR, _⟩ := h
    rw [List.length_cons, List.length_cons, r.len]
    exact len _ _ _ _ _ hR) (fun cdv A outer s H vs Q E hr h => by
    obtain ⟨G, p, q, us, vs0, ws, xs, ys, ds, xs', ys', rfl, hg, hpq, hp, hgp, hq, hgq, hx, hy, r, hR, qq⟩ := h
    have lo : Lo K H G H (L2.start N (.ref p :: .ref q :: ws)) (slots (dNo :: dNo :: ds) N.length) := lo_start (.cons trivial (.cons trivial r))
    have lo2 : Lo K (delH H p) G H (L2.start N (.ref p :: .ref q :: ws)) ((slots (dNo :: dNo :: ds) N.length).set 0 (.o (MLp.mk p xs))) := lo.toOwn slots_noown (v := .ref p) (fp := [p]) rfl (fun a ha => by
      have : a = p := by simpa using ha
      subst this
      exact ⟨delH_same, hgp, _, hp⟩) ⟨us, rfl, rfl, hp, hx⟩
    have lo3 : Lo K (delH (delH H p) q) G H (L2.start N (.ref p :: .ref q :: ws)) (((slots (dNo :: dNo :: ds) N.length).set 0 (.o (MLp.mk p xs))).set 1 (.o (MLp.mk q ys))) := lo2.toOwn1 (v := .ref q) (fp := [q]) rfl (fun a e => by
        by_cases haq : a = q
        · rw [haq]; exact delH_same
        · rw [delH_ne haq]; exact e) (fun a ha => by
      have : a = q := by simpa using ha
      subst this
      exact ⟨by rw [delH_ne (Ne.symm hpq), hq]; simp, delH_same, hgq, _, hq⟩) ⟨vs0, rfl, rfl, hq, hy⟩
    obtain ⟨Γ', g0, g1, hb⟩ := body cdv A outer s H E p q xs ys ds xs' ys' hr hR
    have hsame : Same (delH (delH H p) q) H := fun b u e => delH_sub b u (delH_sub b u e)
    refine ⟨_, pss, hb (delH (delH H p) q) G H _ _ hsame hg lo3 fun G' H' st σ' l' => ?_⟩
    obtain ⟨F', us', lf, hF, e1, hbp, hgp', hh, rr⟩ := ownP l' g0
    obtain ⟨F2, vs', lf2, hF2, e2, hbq, hgq', hh2, rr2⟩ := ownP l' g1
    exact qq G' H' st.b st.g st.gh hgp' hgq' (fun a o h1 h2 e n => st.fr a o (by rw [delH_ne h2, delH_ne h1]; exact e) n) ⟨us', hh, rr⟩ ⟨vs', hh2, rr2⟩)
end
structure FnAtM2 {α β : Type} [Rp α] [Rp β] (P : Program) (w : World) (K : PySem.W.Frag) (mg : Str → Option Value) (base : Heap) (x : Str) (k : Nat) (ps : List Str) (R : List α → List β → List Dat → List α → List β → Prop) : Prop where
  ex : ∃ f fd, FnOk P w K mg base CX0 k f fd ps (MSp2 K R) ∧ mg x = some (.ref f) ∧ PySem.W.keepIn K (.ref f) = true ∧ Binds K fd ps []
section
variable {X : Cx} {Γ Γ' : List Slot} {es : List Expr} {pos pos' : Pos}
theorem sv_proc2 (i j : Nat) {k m : Nat} {ps : List Str} {α β : Type} [Rp α] [Rp β] {R : List α → List β → List Dat → List α → List β → Prop} {x : Str} {p : Pos} {xs xs' : List α} {ys ys' : List β} {ds : List Dat} {n1 n2 : Expr} (F : FnAtM2 X.prog X.w X.K X.mg X.base x k ps R) (hr : Room m X.A) (hj : k ≤ m) (hij : i ≠ j)
    (hv : PE X n1 (tVar i)) (hv2 : PE X n2 (tVar j)) (h0 : Γ[i]? = some (.l xs)) (h1 : Γ[j]? = some (.l ys)) (ha : EA X Γ es ds) (hR : R xs ys ds xs' ys') (hg : Gl X x := by rfl) (hdb : (x == ("__debug__" : Str)) = false := by decide)
    (he : starEach (n1 :: n2 :: es) X.env = (false, eval n1 X.env) :: starEach (n2 :: es) X.env := by rfl) (he2 : starEach (n2 :: es) X.env = (false, eval n2 X.env) :: starEach es X.env := by rfl) (hpl : (backTo pos (starEach (n2 :: es) X.env)).any (·.1) = false := by rfl)
    (hs : swapsWith (.Call (.Name x p) (n1 :: n2 :: es) [] pos) none pos'.line X.env = pure false := by rfl) : SV X Γ (.Expr (.Call (.Name x p) (n1 :: n2 :: es) [] pos) pos') (.nx ((Γ.set i (.l xs')).set j (.l ys'))) := ⟨fun B G H σ D hB hgh l kk => by
  obtain ⟨f, fd, F1, hm, hk, hb⟩ := F.ex
  obtain ⟨Fp, pp, vs, lf, hF, e1, hbp, hgp, hh, r⟩ := ownL l h0
  obtain ⟨w, ew, hfj, q2, vs2, ew2, hFj0, hh2, r2⟩ : ∃ w, σ[j]? = some (some w) ∧ (∀ a ∈ Fp j, B a = none ∧ G a = none ∧ ∃ ho, H a = some ho) ∧ ∃ q vs, w = .ref q ∧ Fp j = [q] ∧ H q = some (.lst vs) ∧ Reps X.K G vs ys := by
    obtain ⟨o, a1, v, a2, a3, q, vs, a4, a5, a6, a7⟩ := lf.ok j _ h1
    exact ⟨v, by rw [a1, a2], a3, q, vs, a4, a5, a6, a7⟩
  subst ew2
  have hq := hfj q2 (by rw [hFj0]; simp)
  have hpq : pp ≠ q2 := fun z => lf.sep i j _ _ hij h0 h1 rfl rfl pp (by rw [hF]; simp) (by rw [hFj0, z]; simp)
  refine ws (ps_expr (pe_call F1 (hr.mono hj) hg hm hk hb .nil pass0 (pa_cons hv (pa_cons hv2 pa he2) he) hdb he hpl) hs) ⟨_, e1, _, ew, ha B G H σ hB hgh l _ fun ws G1 H1 g1 r1 => ?_⟩
  have hh1 := g1.h _ _ hh
  have hh3 := g1.h _ _ hh2
  have hgp1 : G1 pp = none := (g1.fr pp _ hh).trans hgp
  have hgq1 : G1 q2 = none := (g1.fr q2 _ hh2).trans hq.2.1
  show MSp2 X.K R ((V.ref pp :: V.ref q2 :: ws) ++ []) H1 _ _
  rw [List.append_nil]
  refine ⟨G1, pp, q2, vs, vs2, ws, xs, ys, ds, xs', ys', rfl, g1.gh, hpq, hh1, hgp1, hh3, hgq1, r.mono g1.g, r2.mono g1.g, r1, hR, fun G2 H2 s1 s2 s3 s4 s4' s5 s6 s6' => ?_⟩
  obtain ⟨us', t1, t2⟩ := s6
  obtain ⟨vs', t3, t4⟩ := s6'
  have lf1 := lf.grow g1
  have hB1 := hB.trans g1.h
  have hBp : ∀ b u, B b = some u → b ≠ pp := fun b u e z => by rw [z, hbp] at e; cases e
  have hBq : ∀ b u, B b = some u → b ≠ q2 := fun b u e z => by rw [z, hq.1] at e; cases e
  have stp : Stp B G1 G2 H2 := ⟨fun b u e => s1 b u (by rw [delH_ne (hBq b u e), delH_ne (hBp b u e)]; exact hB1 b u e), s2, s3, fun b u e n => s5 b u (hBp b u e) (hBq b u e) (hB1 b u e) n⟩
  refine kk G2 H2 ((g1.step hB).trans stp) σ ?_
  refine ⟨fun n => if n = i then [pp] else if n = j then [q2] else Fp n, by simp [lf1.len], fun n s e => ?_, fun n n' s t hnn hn hn' hs ht a ha hb => ?_⟩
  · rcases set_get e with ⟨rfl, rfl, hi'⟩ | ⟨hjn, e⟩
    · rw [if_neg (Ne.symm hij), if_pos rfl]
      exact ⟨_, ew, .ref q2, rfl, fun a ha => by
        have : a = q2 := by simpa using ha
        subst this
        exact ⟨hq.1, s4', _, t3⟩, q2, vs', rfl, rfl, t3, t4⟩
    · rcases set_get e with ⟨rfl, rfl, hi'⟩ | ⟨hin, e⟩
      · rw [if_pos rfl]
        exact ⟨_, e1, .ref pp, rfl, fun a ha => by
          have : a = pp := by simpa using ha
          subst this
          exact ⟨hbp, s4, _, t1⟩, pp, us', rfl, rfl, t1, t2⟩
      · rw [if_neg (Ne.symm hin), if_neg (Ne.symm hjn)]
        obtain ⟨o, h3, h4⟩ := lf1.ok n s e
        refine ⟨o, h3, ?_⟩
        cases s with
        | any => trivial
        | val d => obtain ⟨v, e, r⟩ := h4; exact ⟨v, e, Dat.mono s2 r⟩
        | own d2 =>
          obtain ⟨v2, e2, hf2, r2⟩ := h4
          have ne : ∀ a ∈ Fp n, a ≠ pp ∧ a ≠ q2 := fun a ha => ⟨fun z => lf1.sep n i _ _ (Ne.symm hin) e h0 rfl rfl a ha (by rw [hF, z]; simp), fun z => lf1.sep n j _ _ (Ne.symm hjn) e h1 rfl rfl a ha (by rw [hFj0, z]; simp)⟩
          refine ⟨v2, e2, fun a ha => ?_, Odat.mono s2 (fun a ha => ?_) r2⟩
          · obtain ⟨q1, q2', ho, q3⟩ := hf2 a ha
            exact ⟨q1, (s5 a ho (ne a ha).1 (ne a ha).2 q3 (Odat.nt r2 a ha ho q3)).trans q2', ho, s1 a ho (by rw [delH_ne (ne a ha).2, delH_ne (ne a ha).1]; exact q3)⟩
          · obtain ⟨q1, q2', ho, q3⟩ := hf2 a ha
            rw [s1 a ho (by rw [delH_ne (ne a ha).2, delH_ne (ne a ha).1]; exact q3), q3]
  · have fp : ∀ n, (if n = i then [pp] else if n = j then [q2] else Fp n) = Fp n := fun n => by
      split
      · rename_i z; rw [z, hF]
      · split
        · rename_i z; rw [z, hFj0]
        · rfl
    simp only [fp] at ha hb
    have key : ∀ (n : Nat) (s : Slot), ((Γ.set i (Slot.l xs')).set j (Slot.l ys'))[n]? = some s → s.isOwn = true → ∃ t : Slot, Γ[n]? = some t ∧ t.isOwn = true := fun n s e hs => by
      rcases set_get e with ⟨rfl, rfl, _⟩ | ⟨hjn, e⟩
      · exact ⟨_, h1, rfl⟩
      · rcases set_get e with ⟨rfl, rfl, _⟩ | ⟨hin, e⟩
        · exact ⟨_, h0, rfl⟩
        · exact ⟨s, e, hs⟩
    obtain ⟨s', k1, k2⟩ := key n s hn hs
    obtain ⟨t', k3, k4⟩ := key n' t hn' ht
    exact lf1.sep n n' s' t' hnn k1 k3 k2 k4 a ha hb⟩
end
end Wl

set_option maxRecDepth 100000
set_option maxHeartbeats 2000000
/-! works as texts -/
namespace Wl
open PySem PySem.Spec PyProof.Rows L2
theorem numS_tl (n : Nat) : TL.tl (numS (n : Int)) = TL.numL n := TL.tl_num n
theorem str_len (z : Str) : z.length = (TL.tl z).length := TL.len_tl z
/-- a text that writes a number of at most ten figures -/
def NumW (z : Str) : Prop := ∃ n : Nat, n < 10 ^ 10 ∧ z = numS n
theorem numW {n : Int} (h0 : 0 ≤ n) (h1 : n < 10 ^ 10) : NumW (numS n) := ⟨n.toNat, by omega, by rw [Int.toNat_of_nonneg h0]⟩
theorem numS_len {n : Nat} (h : n < 10 ^ 10) : 1 ≤ (numS n).length ∧ (numS n).length ≤ 10 := by
  rw [str_len, numS_tl]
  refine ⟨?_, TL.numL_len (by decide) h⟩
  have := TL.numL_ne n
  cases hl : TL.numL n with
  | nil => exact absurd hl this
  | cons a r => simp
theorem numS_some {n : Nat} (h : n < 10 ^ 10) : PySem.intText? (numS n) = some (n : Int) := TL.int_num (Nat.le_trans (TL.numL_len (by decide) h) (by decide))
theorem numS_int {n : Int} (h0 : 0 ≤ n) (h1 : n < 10 ^ 10) : intS (numS n) = n := by
  unfold intS
  have := numS_some (n := n.toNat) (by omega)
  rw [Int.toNat_of_nonneg h0] at this
  rw [this]; rfl
theorem sgns_is {z x : Str} (h : x ∈ signs z) : ∃ k ∈ TL.tl z, x = ⟨#[k]⟩ := by
  unfold signs at h
  obtain ⟨k, hk, e⟩ := List.mem_map.mp h
  exact ⟨k, hk, e.symm⟩
theorem fig_in {k : Nat} (h : 48 ≤ k ∧ k ≤ 57) : inS ⟨#[k]⟩ (Str.ofString "0123456789") = true := by
  unfold inS
  have e : (Str.ofString "0123456789").cps.toList = [48, 49, 50, 51, 52, 53, 54, 55, 56, 57] := by decide +kernel
  rw [e]
  refine decide_eq_true ?_
  show k ∈ _
  simp only [List.mem_cons, List.not_mem_nil, or_false]
  omega
theorem numS_fig {n : Nat} {x : Str} (h : x ∈ signs (numS n)) : isSgn x ∧ inS x (Str.ofString "0123456789") = true := by
  obtain ⟨k, hk, e⟩ := sgns_is h
  rw [numS_tl] at hk
  have := TL.numL_digits n k hk
  rw [e]
  exact ⟨⟨k, rfl⟩, fig_in (by simpa using this)⟩
theorem numL_head : ∀ (m n : Nat), n ≤ m → 0 < n → (TL.numL n).getD 0 0 ≠ 48
  | 0, n, h, h0 => by omega
  | m + 1, n, h, h0 => by
    by_cases hn : n < 10
    · rw [TL.numL_lt hn]
      show 48 + n ≠ 48
      omega
    · rw [TL.numL_step (by omega)]
      have ih := numL_head m (n / 10) (by omega) (by omega)
      have := TL.numL_ne (n / 10)
      cases hl : TL.numL (n / 10) with
      | nil => exact absurd hl this
      | cons a r => rw [hl] at ih; exact ih
theorem numS_lead {n : Nat} : (decide (sgn (numS n) (0 : Int) = Str.ofString "0") && !decide (numS n = Str.ofString "0")) = false := by
  by_cases h0 : n = 0
  · subst h0
    have e : numS ((0 : Nat) : Int) = Str.ofString "0" := rfl
    rw [e]
    simp
  · have h1 := numL_head n n (Nat.le_refl _) (by omega)
    have : ¬ sgn (numS n) (0 : Int) = Str.ofString "0" := fun z => by
      have z2 := congrArg TL.tl z
      have e : TL.tl (Str.ofString "0") = [48] := by decide +kernel
      rw [e] at z2
      have z3 : [(TL.tl (numS n)).getD (0 : Int).toNat 0] = [48] := z2
      rw [numS_tl] at z3
      injection z3 with z4 _
      exact h1 z4
    rw [decide_eq_false this]
    rfl
theorem log_ok {n : Int} (h0 : 0 ≤ n) (h1 : n < 10 ^ 10) : n.natAbs.log2 < 1920 := by
  have h : n.natAbs < 2 ^ 40 := by
    have : n.natAbs = n.toNat := by omega
    omega
  by_cases hz : n.natAbs = 0
  · rw [hz]; decide
  · have := (Nat.log2_lt hz).mpr h
    omega
/-! ### rows -/
def rowT (kind : Str) (s : T3 Int Int Int) : Str := Str.join (Str.ofString " ") [kind, numS s.a, numS s.b, numS s.c]
def gapT (g : Int) : Str := Str.ofString "gap " ++ numS g
def hotW : Str := Str.ofString "hot"
def coldW : Str := Str.ofString "cold"
abbrev WksT := T3 Int (List (T3 Int Int Int)) (List (T3 Int Int Int))
def rowsT (w : WksT) : List Str := gapT w.a :: (w.b.map (rowT hotW) ++ w.c.map (rowT coldW))
def textT (w : WksT) : Str := Str.join (Str.ofString "\n") (rowsT w)
structure HotS (s : T3 Int Int Int) : Prop where
  a0 : 0 ≤ s.b
  a1 : s.b < s.a
  a2 : s.a ≤ 200
  a3 : 1 ≤ s.c
  a4 : s.c ≤ 1000000000
structure ColdS (s : T3 Int Int Int) : Prop where
  a0 : 0 ≤ s.a
  a1 : s.a < s.b
  a2 : s.b ≤ 200
  a3 : 1 ≤ s.c
  a4 : s.c ≤ 1000000000
structure WorksS (w : WksT) : Prop where
  g0 : 0 ≤ w.a
  g1 : w.a ≤ 50
  nh : w.b.length ≤ 12
  nc : w.c.length ≤ 12
  h : ∀ s ∈ w.b, HotS s
  c : ∀ s ∈ w.c, ColdS s
/-- numbers of a stream -/
structure NumS (s : T3 Int Int Int) : Prop where
  a0 : 0 ≤ s.a
  a1 : s.a ≤ 200
  b0 : 0 ≤ s.b
  b1 : s.b ≤ 200
  c0 : 1 ≤ s.c
  c1 : s.c ≤ 1000000000
theorem HotS.num {s : T3 Int Int Int} (h : HotS s) : NumS s := by
  have := h.a0; have := h.a1; have := h.a2; have := h.a3; have := h.a4
  exact ⟨by omega, by omega, by omega, by omega, by omega, by omega⟩
theorem ColdS.num {s : T3 Int Int Int} (h : ColdS s) : NumS s := by
  have := h.a0; have := h.a1; have := h.a2; have := h.a3; have := h.a4
  exact ⟨by omega, by omega, by omega, by omega, by omega, by omega⟩
theorem numS_free {n : Int} {k : Nat} (h0 : 0 ≤ n) (hk : k < 48 ∨ 57 < k) : k ∉ TL.tl (numS n) := by
  rw [← Int.toNat_of_nonneg h0, numS_tl]
  exact TL.numL_free hk
theorem hotW_tl : TL.tl hotW = [104, 111, 116] := by decide +kernel
theorem coldW_tl : TL.tl coldW = [99, 111, 108, 100] := by decide +kernel
def KindW (k : Str) : Prop := k = hotW ∨ k = coldW
theorem kind_free {k : Str} (h : KindW k) {c : Nat} (hc : c < 97) : c ∉ TL.tl k := by
  rcases h with e | e <;> rw [e]
  · rw [hotW_tl]; simp; omega
  · rw [coldW_tl]; simp; omega
theorem blank_tl : TL.tl (Str.ofString " ") = [32] := by decide +kernel
theorem feed_tl : TL.tl (Str.ofString "\n") = [10] := by decide +kernel
theorem split_row {k : Str} {s : T3 Int Int Int} (hk : KindW k) (hs : NumS s) : Txt.split (rowT k s) (Str.ofString " ") = [k, numS s.a, numS s.b, numS s.c] := by
  have h := TL.split_join (y := Str.ofString " ") (s := 32) (S := []) blank_tl (by decide +kernel) (parts := [k, numS s.a, numS s.b, numS s.c]) (by simp) (fun p hp => by
    have hp : p = k ∨ p = numS s.a ∨ p = numS s.b ∨ p = numS s.c := by simpa using hp
    rcases hp with e | e | e | e <;> rw [e]
    · exact kind_free hk (by decide)
    · exact numS_free hs.a0 (.inl (by decide))
    · exact numS_free hs.b0 (.inl (by decide))
    · exact numS_free (by have := hs.c0; omega) (.inl (by decide)))
  rw [TL.join_eq] at h
  exact h
theorem gapT_join (g : Int) : gapT g = Str.join (Str.ofString " ") [Str.ofString "gap", numS g] := by
  apply TL.ext_tl
  unfold gapT
  rw [TL.tl_append, TL.tl_join, blank_tl]
  have e1 : TL.tl (Str.ofString "gap ") = [103, 97, 112, 32] := by decide +kernel
  have e2 : TL.tl (Str.ofString "gap") = [103, 97, 112] := by decide +kernel
  show _ = TL.joinL [32] [TL.tl (Str.ofString "gap"), TL.tl (numS g)]
  rw [e1, e2]
  rfl
theorem split_gap {g : Int} (h0 : 0 ≤ g) : Txt.split (gapT g) (Str.ofString " ") = [Str.ofString "gap", numS g] := by
  have e2 : TL.tl (Str.ofString "gap") = [103, 97, 112] := by decide +kernel
  have h := TL.split_join (y := Str.ofString " ") (s := 32) (S := []) blank_tl (by decide +kernel) (parts := [Str.ofString "gap", numS g]) (by simp) (fun p hp => by
    have hp : p = Str.ofString "gap" ∨ p = numS g := by simpa using hp
    rcases hp with e | e <;> rw [e]
    · rw [e2]; decide
    · exact numS_free h0 (.inl (by decide)))
  rw [TL.join_eq] at h
  rw [gapT_join]
  exact h
theorem joinL_free {c : Nat} {S : List Nat} (hS : c ∉ S) : ∀ {parts : List (List Nat)}, (∀ p ∈ parts, c ∉ p) → c ∉ TL.joinL S parts
  | [], _ => by simp [TL.joinL]
  | [p], h => by simpa [TL.joinL] using h p (by simp)
  | p :: q :: r, h => by
    have ih := joinL_free hS (parts := q :: r) fun x hx => h x (by simp [hx])
    show c ∉ p ++ (S ++ TL.joinL S (q :: r))
    rw [List.mem_append, List.mem_append]
    rintro (z | z | z)
    · exact h p (by simp) z
    · exact hS z
    · exact ih z
theorem row_free {k : Str} {s : T3 Int Int Int} (hk : KindW k) (hs : NumS s) : 10 ∉ TL.tl (rowT k s) := by
  unfold rowT
  rw [TL.tl_join, blank_tl]
  refine joinL_free (by decide) fun p hp => ?_
  have hp : p = TL.tl k ∨ p = TL.tl (numS s.a) ∨ p = TL.tl (numS s.b) ∨ p = TL.tl (numS s.c) := by simpa using hp
  rcases hp with e | e | e | e <;> rw [e]
  · exact kind_free hk (by decide)
  · exact numS_free hs.a0 (.inl (by decide))
  · exact numS_free hs.b0 (.inl (by decide))
  · exact numS_free (by have := hs.c0; omega) (.inl (by decide))
theorem gap_free {g : Int} (h0 : 0 ≤ g) : 10 ∉ TL.tl (gapT g) := by
  unfold gapT
  rw [TL.tl_append, List.mem_append]
  have e1 : TL.tl (Str.ofString "gap ") = [103, 97, 112, 32] := by decide +kernel
  rintro (z | z)
  · rw [e1] at z; exact absurd z (by decide)
  · exact numS_free h0 (.inl (by decide)) z
theorem split_text {w : WksT} (h : WorksS w) : Txt.split (textT w) (Str.ofString "\n") = rowsT w := by
  have q := TL.split_join (y := Str.ofString "\n") (s := 10) (S := []) feed_tl (by decide +kernel) (parts := rowsT w) (by unfold rowsT; simp) (fun p hp => by
    unfold rowsT at hp
    rcases List.mem_cons.mp hp with e | hp
    · rw [e]; exact gap_free h.g0
    · rcases List.mem_append.mp hp with hp | hp
      · obtain ⟨s, hs, e⟩ := List.mem_map.mp hp
        rw [← e]; exact row_free (.inl rfl) (h.h s hs).num
      · obtain ⟨s, hs, e⟩ := List.mem_map.mp hp
        rw [← e]; exact row_free (.inr rfl) (h.c s hs).num)
  rw [TL.join_eq] at q
  exact q
/-! ### lengths -/
theorem num_le {n : Int} (h0 : 0 ≤ n) (h1 : n < 10 ^ 10) : (numS n).length ≤ 10 := by
  have h := (numS_len (n := n.toNat) (by omega)).2
  rw [Int.toNat_of_nonneg h0] at h
  exact h
theorem joinL_len (S : List Nat) : ∀ parts : List (List Nat), (TL.joinL S parts).length ≤ (parts.map (·.length)).sum + parts.length * S.length
  | [] => Nat.zero_le _
  | [p] => by simp [TL.joinL]
  | p :: q :: r => by
    have ih := joinL_len S (q :: r)
    show (p ++ (S ++ TL.joinL S (q :: r))).length ≤ _
    rw [List.length_append, List.length_append, List.map_cons, List.sum_cons, List.length_cons, Nat.succ_mul]
    omega
theorem kind_len {k : Str} (h : KindW k) : k.length ≤ 4 := by
  rcases h with e | e <;> rw [e, str_len]
  · rw [hotW_tl]; decide
  · rw [coldW_tl]; decide
theorem row_len {k : Str} {s : T3 Int Int Int} (hk : KindW k) (hs : NumS s) : (rowT k s).length ≤ 38 := by
  rw [str_len]
  unfold rowT
  rw [TL.tl_join, blank_tl]
  have h := joinL_len [32] ([k, numS s.a, numS s.b, numS s.c].map TL.tl)
  have h1 := kind_len hk
  have h2 := num_le hs.a0 (by have := hs.a1; omega)
  have h3 := num_le hs.b0 (by have := hs.b1; omega)
  have h4 := num_le (n := s.c) (by have := hs.c0; omega) (by have := hs.c1; omega)
  rw [str_len] at h1 h2 h3 h4
  simp only [List.map_cons, List.map_nil, List.sum_cons, List.sum_nil, List.length_cons, List.length_nil] at h
  show (TL.joinL [32] [TL.tl k, TL.tl (numS s.a), TL.tl (numS s.b), TL.tl (numS s.c)]).length ≤ 38
  omega
theorem gap_len {g : Int} (h0 : 0 ≤ g) (h1 : g ≤ 50) : (gapT g).length ≤ 14 := by
  have h := num_le h0 (by omega)
  rw [str_len] at h ⊢
  unfold gapT
  rw [TL.tl_append, List.length_append]
  have e1 : TL.tl (Str.ofString "gap ") = [103, 97, 112, 32] := by decide +kernel
  rw [e1]
  simp only [List.length_cons, List.length_nil]
  omega
theorem sum_le {α : Type} (f : α → Nat) (k : Nat) : ∀ xs : List α, (∀ x ∈ xs, f x ≤ k) → (xs.map f).sum ≤ k * xs.length
  | [], _ => by simp
  | x :: r, h => by
    have ih := sum_le f k r fun y hy => h y (by simp [hy])
    have := h x (by simp)
    rw [List.map_cons, List.sum_cons, List.length_cons, Nat.mul_succ]
    omega
theorem rows_len {w : WksT} (h : WorksS w) : (rowsT w).length ≤ 25 ∧ ∀ r ∈ rowsT w, r.length ≤ 38 := by
  have := h.nh
  have := h.nc
  refine ⟨by unfold rowsT; rw [List.length_cons, List.length_append, List.length_map, List.length_map]; omega, fun r hr => ?_⟩
  unfold rowsT at hr
  rcases List.mem_cons.mp hr with e | hp
  · rw [e]; have := gap_len h.g0 h.g1; omega
  · rcases List.mem_append.mp hp with hp | hp
    · obtain ⟨s, hs, e⟩ := List.mem_map.mp hp
      rw [← e]; exact row_len (.inl rfl) (h.h s hs).num
    · obtain ⟨s, hs, e⟩ := List.mem_map.mp hp
      rw [← e]; exact row_len (.inr rfl) (h.c s hs).num
theorem join_len (x : Str) (ys : List Str) : (Str.join x ys).length ≤ (ys.map (·.length)).sum + ys.length * x.length := by
  rw [str_len, TL.tl_join]
  have h := joinL_len (TL.tl x) (ys.map TL.tl)
  rw [List.map_map, List.length_map] at h
  rw [str_len x]
  have e : (ys.map (·.length)) = ys.map (List.length ∘ TL.tl) := List.map_congr_left fun y _ => str_len y
  rw [e]; exact h
theorem text_len {w : WksT} (h : WorksS w) : (textT w).length ≤ 1000 := by
  obtain ⟨h1, h2⟩ := rows_len h
  have h3 := join_len (Str.ofString "\n") (rowsT w)
  have h4 := sum_le (·.length) 38 (rowsT w) h2
  have e : (Str.ofString "\n").length = 1 := by decide +kernel
  rw [e] at h3
  unfold textT
  omega
/-! ### what the reading defs ask -/
def GapW (row : Str) : Prop := ∃ g : Int, 0 ≤ g ∧ g ≤ 50 ∧ row = gapT g
def StrOk (kind : Str) (s : T3 Int Int Int) : Prop := (kind = hotW ∧ HotS s) ∨ (kind = coldW ∧ ColdS s)
theorem StrOk.kn {k : Str} {s : T3 Int Int Int} (h : StrOk k s) : KindW k ∧ NumS s := by
  rcases h with ⟨e, h⟩ | ⟨e, h⟩
  · exact ⟨.inl e, h.num⟩
  · exact ⟨.inr e, h.num⟩
theorem hot_cold : hotW ≠ coldW := by decide +kernel
theorem StrOk.way {k : Str} {s : T3 Int Int Int} (h : StrOk k s) : ((decide (k = Str.ofString "hot") && decide (s.a ≤ s.b)) || (decide (k = Str.ofString "cold") && decide (s.b ≤ s.a))) = false := by
  rcases h with ⟨e, h⟩ | ⟨e, h⟩
  · have := h.a1
    rw [decide_eq_false (show ¬ s.a ≤ s.b by omega), decide_eq_false (show ¬ k = Str.ofString "cold" from fun z => hot_cold (e.symm.trans z))]
    simp
  · have := h.a1
    rw [decide_eq_false (show ¬ s.b ≤ s.a by omega), decide_eq_false (show ¬ k = Str.ofString "hot" from fun z => hot_cold (z.symm.trans e))]
    simp
def PutOk (hots colds : List (T3 Int Int Int)) (row : Str) : Prop := ∃ k s, row = rowT k s ∧ hots.length ≤ 12 ∧ colds.length ≤ 12 ∧ ((k = hotW ∧ HotS s ∧ colds = [] ∧ hots.length < 12) ∨ (k = coldW ∧ ColdS s ∧ colds.length < 12))
theorem put_kn {hots colds : List (T3 Int Int Int)} {k : Str} {s : T3 Int Int Int} (h : (k = hotW ∧ HotS s ∧ colds = [] ∧ hots.length < 12) ∨ (k = coldW ∧ ColdS s ∧ colds.length < 12)) : StrOk k s := by
  rcases h with ⟨e, h, _⟩ | ⟨e, h, _⟩
  · exact .inl ⟨e, h⟩
  · exact .inr ⟨e, h⟩
theorem put_hot {hots colds : List (T3 Int Int Int)} {k : Str} {s : T3 Int Int Int} (h : (k = hotW ∧ HotS s ∧ colds = [] ∧ hots.length < 12) ∨ (k = coldW ∧ ColdS s ∧ colds.length < 12)) (hk : k = Str.ofString "hot") : colds = [] ∧ hots.length < 12 := by
  rcases h with ⟨_, _, h⟩ | ⟨e, _, _⟩
  · exact h
  · exact absurd (hk.symm.trans e) hot_cold
theorem put_cold {hots colds : List (T3 Int Int Int)} {k : Str} {s : T3 Int Int Int} (h : (k = hotW ∧ HotS s ∧ colds = [] ∧ hots.length < 12) ∨ (k = coldW ∧ ColdS s ∧ colds.length < 12)) (hk : ¬ k = Str.ofString "hot") : colds.length < 12 := by
  rcases h with ⟨e, _, _⟩ | ⟨_, _, h⟩
  · exact absurd e hk
  · exact h
theorem num_log {s : T3 Int Int Int} (h : NumS s) {x : Int} (hx : x ∈ [s.a, s.b, s.c]) : x.natAbs.log2 < 1920 := by
  have hx : x = s.a ∨ x = s.b ∨ x = s.c := by simpa using hx
  have := h.a0; have := h.a1; have := h.b0; have := h.b1; have := h.c0; have := h.c1
  rcases hx with e | e | e <;> rw [e] <;> exact log_ok (by omega) (by omega)
theorem num_w {k : Str} {s : T3 Int Int Int} (h : NumS s) {x : Str} (hx : x ∈ pySlice [k, numS s.a, numS s.b, numS s.c] (some (1 : Int)) none none) : NumW x := by
  rw [pySlice_drop _ (by decide)] at hx
  have hx : x = numS s.a ∨ x = numS s.b ∨ x = numS s.c := by simpa using hx
  have := h.a0; have := h.a1; have := h.b0; have := h.b1; have := h.c0; have := h.c1
  rcases hx with e | e | e <;> rw [e] <;> exact numW (by omega) (by omega)
theorem row_join {k : Str} {s : T3 Int Int Int} (hk : KindW k) (hs : NumS s) : (([k, numS s.a, numS s.b, numS s.c] : List Str).map (·.length)).sum + ([k, numS s.a, numS s.b, numS s.c] : List Str).length * (Str.ofString " ").length ≤ 10000000 := by
  have h1 := kind_len hk
  have h2 := num_le hs.a0 (by have := hs.a1; omega)
  have h3 := num_le hs.b0 (by have := hs.b1; omega)
  have h4 := num_le (n := s.c) (by have := hs.c0; omega) (by have := hs.c1; omega)
  have e : (Str.ofString " ").length = 1 := by decide +kernel
  rw [e]
  simp only [List.map_cons, List.map_nil, List.sum_cons, List.sum_nil, List.length_cons, List.length_nil]
  omega
theorem rows_join {w : WksT} (h : WorksS w) : ((rowsT w).map (·.length)).sum + (rowsT w).length * (Str.ofString "\n").length ≤ 10000000 := by
  obtain ⟨h1, h2⟩ := rows_len h
  have h4 := sum_le (·.length) 38 (rowsT w) h2
  have e : (Str.ofString "\n").length = 1 := by decide +kernel
  rw [e]
  omega
def ReadOk (text : Str) : Prop := ∃ w, WorksS w ∧ text = textT w
theorem pick2 (a b x : Int) : ([a, b] : List Int).getD (x % 2).toNat 0 = a ∨ ([a, b] : List Int).getD (x % 2).toNat 0 = b := by
  have h : (x % 2).toNat = 0 ∨ (x % 2).toNat = 1 := by omega
  rcases h with e | e <;> rw [e]
  · exact .inl rfl
  · exact .inr rfl
theorem pick4 (a b c d x : Int) : ([a, b, c, d] : List Int).getD (x % 4).toNat 0 = a ∨ ([a, b, c, d] : List Int).getD (x % 4).toNat 0 = b ∨ ([a, b, c, d] : List Int).getD (x % 4).toNat 0 = c ∨ ([a, b, c, d] : List Int).getD (x % 4).toNat 0 = d := by
  have h : (x % 4).toNat = 0 ∨ (x % 4).toNat = 1 ∨ (x % 4).toNat = 2 ∨ (x % 4).toNat = 3 := by omega
  rcases h with e | e | e | e <;> rw [e]
  · exact .inl rfl
  · exact .inr (.inl rfl)
  · exact .inr (.inr (.inl rfl))
  · exact .inr (.inr (.inr rfl))
end Wl

set_option maxRecDepth 100000
set_option maxHeartbeats 2000000
/-! a works of one's own: a tuple of a number and two lists that are changed -/
namespace Wl
open PySem PySem.Spec PyProof.Rows L2
structure MW (α : Type) where
  w : T3 Int (List α) (List α)
instance {α : Type} [Rp α] : Ow (MW α) := ⟨fun K G H v fp x => ∃ t p q us vs, v = .ref t ∧ fp = [p, q] ∧ SqT K G t [.int x.w.a, .ref p, .ref q] ∧ p ≠ q ∧ H p = some (.lst us) ∧ H q = some (.lst vs) ∧ Reps K G us x.w.b ∧ Reps K G vs x.w.c, fun e eh h => by
  obtain ⟨t, p, q, us, vs, h0, h1, ht, hn, h2, h3, r, r'⟩ := h
  subst h1
  exact ⟨t, p, q, us, vs, h0, rfl, seqT e ht, hn, by rw [eh p (by simp)]; exact h2, by rw [eh q (by simp)]; exact h3, r.mono e, r'.mono e⟩, fun h a ha o e => by
  obtain ⟨t, p, q, us, vs, _, rfl, _, _, h2, h3, _⟩ := h
  have ha : a = p ∨ a = q := by simpa using ha
  rcases ha with z | z
  · rw [z, h2] at e; cases e; exact nt_lst
  · rw [z, h3] at e; cases e; exact nt_lst⟩
instance {α : Type} [Rp α] : Fz (MW α) (T3 Int (List α) (List α)) := ⟨MW.w, fun {K G H v fp x} hf h => by
  obtain ⟨t, p, q, us, vs, rfl, rfl, ht, hn, h2, h3, r, r'⟩ := h
  have hs := gl_up (H := H) hf
  exact ⟨t, _, _, _, rfl, seqT hs ht, rfl, ⟨p, us, rfl, SqL.of (by rw [gl_in (by simp)]; exact h2), r.mono hs⟩, ⟨q, vs, rfl, SqL.of (by rw [gl_in (by simp)]; exact h3), r'.mono hs⟩⟩⟩
def selW {α : Type} (k : Bool) (w : T3 Int (List α) (List α)) : List α := match k with | false => w.b | true => w.c
def putW {α : Type} (k : Bool) (w : T3 Int (List α) (List α)) (ys : List α) : T3 Int (List α) (List α) := match k with | false => ⟨w.a, ys, w.c⟩ | true => ⟨w.a, w.b, ys⟩
section
variable {X : Cx} {Γ Γ' : List Slot} {st : Stmt} {sts els rest : List Stmt} {a b c d e tg iter elt : Expr} {es elts ifs : List Expr} {pos : Pos} {o : Out}
theorem ownW {K : PySem.W.Frag} {B G H : Hp} {σ : L2.St} {i : Nat} {α : Type} [Rp α] {w : T3 Int (List α) (List α)} (l : Lo K B G H σ Γ) (h : Γ[i]? = some (.o (MW.mk w))) : ∃ F t p q us vs, LoF K B G H σ Γ F ∧ F i = [p, q] ∧ σ[i]? = some (some (.ref t)) ∧ SqT K G t [.int w.a, .ref p, .ref q] ∧ p ≠ q ∧ (B p = none ∧ G p = none) ∧ (B q = none ∧ G q = none) ∧ H p = some (.lst us) ∧ H q = some (.lst vs) ∧ Reps K G us w.b ∧ Reps K G vs w.c := by
  obtain ⟨F, v, lf, e1, hf, t, p, q, us, vs, rfl, e2, ht, hn, e3, e4, r, r'⟩ := own_at l h
  have h1 := hf p (by rw [e2]; simp)
  have h2 := hf q (by rw [e2]; simp)
  exact ⟨F, t, p, q, us, vs, lf, e2, e1, ht, hn, ⟨h1.1, h1.2.1⟩, ⟨h2.1, h2.2.1⟩, e3, e4, r, r'⟩
/-- a method of a part of one's own works -/
theorem sv_modW (i : Nat) (k : Bool) {α : Type} [Rp α] {w : T3 Int (List α) (List α)} {c e1 : Expr} {r : V → List V → Hp → VK → Prop} {t : TA} (ys : List α) (hp : PE X c (tBM X.K "list" r (tOp (rIxT X.K) (tVar i) (WE X e1)) t)) (h0 : Γ[i]? = some (.o (MW.mk w))) (h1 : EV X Γ e1 (match k with | false => (1 : Int) | true => 2))
    (hm : ∀ (B G H : Hp) (σ : L2.St) (a : Addr) (us : List V), Same B H → Same G H → Lo X.K B G H σ Γ → H a = some (.lst us) → Reps X.K G us (selW k w) → ∀ Q : VK, (∀ G' H' us', Grow G H G' H' → Reps X.K G' us' ys → Q .non (upd H' a (.lst us'))) → t σ H fun xs H2 => r (.ref a) xs H2 Q)
    (hs : swapsWith c none pos.line X.env = pure false := by rfl) : SV X Γ (.Expr c pos) (.nx (Γ.set i (.o (MW.mk (putW k w ys))))) := ⟨fun B G H σ D hB hg l kk => by
  obtain ⟨F, tt, p, q, us, vs, lf, hF, ev, ht, hn, hp1, hq1, hh1, hh2, r1, r2⟩ := ownW l h0
  refine ws (ps_expr hp hs) ⟨_, ev, h1 B G H σ hB hg l _ fun v G1 H1 g1 rv => ?_⟩
  have hB1 := hB.trans g1.h
  have hP1 : G1 p = none := (g1.fr p _ hh1).trans hp1.2
  have hQ1 : G1 q = none := (g1.fr q _ hh2).trans hq1.2
  have lo1 := l.grow g1
  have m1 := g1.h _ _ hh1
  have m2 := g1.h _ _ hh2
  have ht1 : SqT X.K H1 tt [.int w.a, .ref p, .ref q] := seqT (g1.g.trans g1.gh) ht
  cases k with
  | false =>
    have rv' : v = V.int 1 := rv
    subst rv'
    refine ⟨tt, _, 1, .ref p, rfl, rfl, ht1, rfl, .inl ⟨rfl, _, .inl (.inl m1)⟩, ?_⟩
    refine hm B G1 H1 σ p us hB1 g1.gh lo1 m1 (r1.mono g1.g) _ fun G2 H2 us' g2 r' => ?_
    have n1 := g2.h _ _ m1
    have n2 := g2.h _ _ m2
    have hP2 : G2 p = none := (g2.fr p _ m1).trans hP1
    have hQ2 : G2 q = none := (g2.fr q _ m2).trans hQ1
    have lf2 := (lf.grow g1).grow g2
    refine kk G2 _ ((g1.step hB).trans ((g2.step hB1).trans (Stp.mutL (hB1.trans g2.h) g2.gh hp1.1 hP2))) σ ?_
    refine lf2.mut (fp := [p, q]) (d' := ot (MW.mk (⟨w.a, ys, w.c⟩ : T3 Int (List α) (List α)))) h0 ev (fun a ha o e => by rw [upd_ne (fun z => ha (by rw [hF, z]; simp))]; exact e) (fun a ha => ?_) ⟨tt, p, q, us', vs, rfl, rfl, seqT (g1.g.trans g2.g) ht, hn, upd_same, by rw [upd_ne (Ne.symm hn)]; exact n2, r', r2.mono (g1.g.trans g2.g)⟩
    have : a = p ∨ a = q := by simpa using ha
    rcases this with rfl | rfl
    · exact ⟨.inl (by rw [hF]; simp), hp1.1, hP2, _, upd_same⟩
    · exact ⟨.inl (by rw [hF]; simp), hq1.1, hQ2, _, by rw [upd_ne (Ne.symm hn)]; exact n2⟩
  | true =>
    have rv' : v = V.int 2 := rv
    subst rv'
    refine ⟨tt, _, 2, .ref q, rfl, rfl, ht1, rfl, .inl ⟨rfl, _, .inl (.inl m2)⟩, ?_⟩
    refine hm B G1 H1 σ q vs hB1 g1.gh lo1 m2 (r2.mono g1.g) _ fun G2 H2 us' g2 r' => ?_
    have n1 := g2.h _ _ m1
    have n2 := g2.h _ _ m2
    have hP2 : G2 p = none := (g2.fr p _ m1).trans hP1
    have hQ2 : G2 q = none := (g2.fr q _ m2).trans hQ1
    have lf2 := (lf.grow g1).grow g2
    refine kk G2 _ ((g1.step hB).trans ((g2.step hB1).trans (Stp.mutL (hB1.trans g2.h) g2.gh hq1.1 hQ2))) σ ?_
    refine lf2.mut (fp := [p, q]) (d' := ot (MW.mk (⟨w.a, w.b, ys⟩ : T3 Int (List α) (List α)))) h0 ev (fun a ha o e => by rw [upd_ne (fun z => ha (by rw [hF, z]; simp))]; exact e) (fun a ha => ?_) ⟨tt, p, q, us, us', rfl, rfl, seqT (g1.g.trans g2.g) ht, hn, by rw [upd_ne hn]; exact n1, upd_same, r1.mono (g1.g.trans g2.g), r'⟩
    have : a = p ∨ a = q := by simpa using ha
    rcases this with rfl | rfl
    · exact ⟨.inl (by rw [hF]; simp), hp1.1, hP2, _, by rw [upd_ne hn]; exact n1⟩
    · exact ⟨.inl (by rw [hF]; simp), hq1.1, hQ2, _, upd_same⟩⟩
/-- works[k].append(e) -/
theorem sv_appW (i : Nat) (k : Bool) {α : Type} [Rp α] {w : T3 Int (List α) (List α)} {x : α} {c e1 e : Expr} (hp : PE X c (tBM X.K "list" rAppend (tOp (rIxT X.K) (tVar i) (WE X e1)) (tCons (WE X e) tNil))) (h0 : Γ[i]? = some (.o (MW.mk w))) (h1 : EV X Γ e1 (match k with | false => (1 : Int) | true => 2)) (h : EV X Γ e x) (hz : (selW k w).length < 10000000)
    (hs : swapsWith c none pos.line X.env = pure false := by rfl) : SV X Γ (.Expr c pos) (.nx (Γ.set i (.o (MW.mk (putW k w (selW k w ++ [x])))))) :=
  sv_modW i k _ hp h0 h1 (fun B G H σ a us hB hg l hh r Q q => h B G H σ hB hg l _ fun v G1 H1 g1 r1 => ⟨a, us, v, rfl, rfl, g1.h _ _ hh, by rw [r.len]; exact Nat.lt_of_lt_of_le hz (by decide), q G1 H1 _ g1 (paired_app (r.mono g1.g) (.cons r1 .nil))⟩) hs
def insL {α : Type} (xs : List α) (z : Int) (x : α) : List α := xs.take z.toNat ++ [x] ++ xs.drop z.toNat
def rInsert : V → List V → Hp → VK → Prop := fun x vs H Q => ∃ (l : Addr) (xs : List V) (i : Int) (y : V), x = .ref l ∧ vs = [.int i, y] ∧ H l = some (.lst xs) ∧ xs.length < sizeLine ∧ 0 ≤ i ∧ i < 2 ^ 63 ∧ Q .non (upd H l (.lst (xs.take i.toNat ++ [y] ++ xs.drop i.toNat)))
theorem paired_take {α β : Type} {R : α → β → Prop} : ∀ {xs : List α} {ys : List β} (n : Nat), Paired R xs ys → Paired R (xs.take n) (ys.take n)
  | _, _, 0, _ => .nil
  | _, _, _ + 1, .nil => .nil
  | _, _, n + 1, .cons r t => .cons r (paired_take n t)
theorem paired_drop {α β : Type} {R : α → β → Prop} : ∀ {xs : List α} {ys : List β} (n : Nat), Paired R xs ys → Paired R (xs.drop n) (ys.drop n)
  | _, _, 0, h => h
  | _, _, _ + 1, .nil => .nil
  | _, _, n + 1, .cons _ t => paired_drop n t
/-- works[k].insert(z, e) -/
theorem sv_insW (i : Nat) (k : Bool) {α : Type} [Rp α] {w : T3 Int (List α) (List α)} {x : α} {z : Int} {c e1 e0 e : Expr} (hp : PE X c (tBM X.K "list" rInsert (tOp (rIxT X.K) (tVar i) (WE X e1)) (tCons (WE X e0) (tCons (WE X e) tNil)))) (h0 : Γ[i]? = some (.o (MW.mk w))) (h1 : EV X Γ e1 (match k with | false => (1 : Int) | true => 2)) (h2 : EV X Γ e0 z) (h : EV X Γ e x) (hz : 0 ≤ z ∧ z < 2 ^ 63 ∧ (selW k w).length < 10000000)
    (hs : swapsWith c none pos.line X.env = pure false := by rfl) : SV X Γ (.Expr c pos) (.nx (Γ.set i (.o (MW.mk (putW k w (insL (selW k w) z x)))))) :=
  sv_modW i k _ hp h0 h1 (fun B G H σ a us hB hg l hh r Q q => h2 B G H σ hB hg l _ fun v0 G0 H0 g0 r0 => h B G0 H0 σ (hB.trans g0.h) g0.gh (l.grow g0) _ fun v G1 H1 g1 r1 => by
    have e0 : v0 = V.int z := r0
    subst e0
    exact ⟨a, us, z, v, rfl, rfl, g1.h _ _ (g0.h _ _ hh), by rw [r.len]; exact Nat.lt_of_lt_of_le hz.2.2 (by decide), hz.1, hz.2.1, q G1 H1 _ (g0.trans g1) (paired_app (paired_app (paired_take _ (r.mono (g0.g.trans g1.g))) (.cons r1 .nil)) (paired_drop _ (r.mono (g0.g.trans g1.g))))⟩) hs
/-- return (e, xs, ys) of one's own lists xs, ys -/
theorem bv_retW (i j : Nat) (hij : i ≠ j) {α : Type} [Rp α] {g : Int} {xs ys : List α} (h0 : Γ[i]? = some (.l xs)) (h1 : Γ[j]? = some (.l ys)) (hE : ∀ p q : Rf, EV X ((Γ.set i (.v p)).set j (.v q)) e (T3.mk g p q)) :
    BV X Γ (.Return (some e) pos :: sts) (.ro (ot (MW.mk (⟨g, xs, ys⟩ : T3 Int (List α) (List α))))) := bv_out (⟨fun B G H σ D hB hg l k => by
  obtain ⟨F, p, us, lf, hF, e1, hbp, hgp, hh1, r1⟩ := ownL l h0
  obtain ⟨w, ew, hfj, q, vs, ew2, hFj, hh2, r2⟩ : ∃ w, σ[j]? = some (some w) ∧ (∀ a ∈ F j, B a = none ∧ G a = none ∧ ∃ ho, H a = some ho) ∧ ∃ q vs, w = .ref q ∧ F j = [q] ∧ H q = some (.lst vs) ∧ Reps X.K G vs ys := by
    obtain ⟨o, a1, v, a2, a3, q, vs, a4, a5, a6, a7⟩ := lf.ok j _ h1
    exact ⟨v, by rw [a1, a2], a3, q, vs, a4, a5, a6, a7⟩
  subst ew2
  have hq := hfj q (by rw [hFj]; simp)
  have hpq : p ≠ q := fun z => lf.sep i j _ _ hij h0 h1 rfl rfl p (by rw [hF]; simp) (by rw [hFj, z]; simp)
  have lo1 := lf.fzS (fs := []) (d' := dt (Rf.mk p)) h0 e1 (fun a ha => by cases ha) (fun a ha => by
    have : a = p := by rw [hF] at ha; simpa using ha
    rw [this]; exact hgp) rfl
  have egl : ∀ G0 : Hp, gl G0 H [] = G0 := fun G0 => by funext a; exact gl_out (by simp)
  rw [egl] at lo1
  have h1' : (Γ.set i (.val (dt (Rf.mk p))))[j]? = some (.l ys) := by rw [List.getElem?_set_ne hij]; exact h1
  obtain ⟨F2, q2, vs2, lf2, hF2, e2, hbq, hgq, hh3, r3⟩ := ownL lo1 h1'
  have lo2 := lf2.fzS (fs := []) (d' := dt (Rf.mk q2)) h1' e2 (fun a ha => by cases ha) (fun a ha => by
    have : a = q2 := by rw [hF2] at ha; simpa using ha
    rw [this]; exact hgq) rfl
  rw [egl] at lo2
  refine ws (ps_ret pe) (hE (Rf.mk p) (Rf.mk q2) B G H σ hB hg lo2 _ fun v G1 H1 g1 rv => ?_)
  have eq : q2 = q := by rw [ew] at e2; cases e2; rfl
  subst eq
  obtain ⟨t, v1, v2, v3, rfl, ht, k1, k2, k3⟩ := rv
  have k1' : v1 = V.int g := k1
  have k2' : v2 = V.ref p := k2
  have k3' : v3 = V.ref q2 := k3
  subst k1' k2' k3'
  refine k G1 H1 (g1.step hB) (.ref t) [p, q2] (fun a ha => ?_) ⟨t, p, q2, us, vs, rfl, rfl, ht, hpq, g1.h _ _ hh1, g1.h _ _ hh2, r1.mono g1.g, r2.mono g1.g⟩
  have : a = p ∨ a = q2 := by simpa using ha
  rcases this with rfl | rfl
  · exact ⟨hbp, (g1.fr a _ hh1).trans hgp, _, g1.h _ _ hh1⟩
  · exact ⟨hq.1, (g1.fr a _ hh2).trans hq.2.1, _, g1.h _ _ hh2⟩⟩ : SV X Γ (.Return (some e) pos) _) trivial
/-- a new own thing, known for good at once -/
theorem ev_newFz {τ β : Type} [Ow τ] [Rp β] [Fz τ β] {x : τ} (h : EN X Γ e x) : EV X Γ e (Fz.val x : β) := ⟨fun B G H σ hB hg l Q q =>
  h B G H σ hB hg l Q fun v fp G1 H1 g1 hf ok => by
    have hs : Same G1 (gl G1 H1 fp) := gl_up fun a ha => (hf a ha).2.1
    refine q v (gl G1 H1 fp) H1 ⟨g1.g.trans hs, g1.h, gl_dn g1.gh, fun b u e n => ?_⟩ (Fz.ok (fun a ha => (hf a ha).2.1) ok)
    rw [gl_out (fun z => by rw [(hf b z).1] at e; cases e)]
    exact g1.fr b u e n⟩
end
theorem bl_of {K : PySem.W.Frag} {G : Hp} {v : V} {x : Bool} (h : (dt x).rep K G v) : v = .bl x := h
end Wl

set_option maxRecDepth 100000
set_option maxHeartbeats 2000000
/-! exceptions: what a def tells is .go (its answer) or .re (the name of a class) -/
namespace Wl
open PySem PySem.Spec PyProof.Rows L2
/-- what a way comes to: F of its answer, or an exception with the slots Γx -/
def XO {τ : Type} (Γx : List Slot) (F : τ → Out) : LR τ Str → Out
  | .go s => F s
  | .re c => .ex c Γx
theorem XO_exits {τ : Type} {Γx : List Slot} {F : τ → Out} {c : Str} : (XO Γx F (.re c)).exits := trivial
/-- an expression that may raise -/
structure EVX (X : Cx) (Γ : List Slot) (e : Expr) {α : Type} [Rp α] (r : LR α Str) : Prop where
  run : ∀ B G H σ, Same B H → Same G H → Lo X.K B G H σ Γ → ∀ Q : VK, (∀ y, r = .go y → ∀ v G' H', Grow G H G' H' → Rp.rep X.K G' v y → Q v H') → (∀ c, r = .re c → ∀ G' H', Grow G H G' H' → Fly X c σ H') → WE X e σ H Q
/-- the class facts of an error that is raised -/
structure ErrC (K : PySem.W.Frag) (mg : Str → Option Value) (x : Str) : Prop where
  ex : ∃ C bmB B newId initId, ExcBaseFacts B newId initId bmB ∧ PySem.W.excIn K C bmB newId = true ∧ mg x = some (.ref C) ∧ PySem.W.keepIn K (.ref C) = true ∧ PySem.W.subIn K (.ref C) (.type "BaseException") = some true ∧ PySem.W.typeIn K (.ref C) = some (.type "type")
section
variable {X : Cx} {Γ Γ' : List Slot} {st : Stmt} {sts els rest : List Stmt} {a b c d e tg iter elt : Expr} {es elts ifs : List Expr} {pos : Pos} {o : Out}
theorem evx_ev {α : Type} [Rp α] {y : α} (h : EV X Γ e y) : EVX X Γ e (.go y) := ⟨fun B G H σ hB hg l Q q _ => h B G H σ hB hg l Q fun v G' H' g r => q y rfl v G' H' g r⟩
/-- raise C('text') -/
theorem bv_raise {x m : Str} {j : Nat} {p p2 p3 : Pos} {Γx : List Slot} (hc : X.calm = true) (K : ErrC X.K X.mg x) (hx : Sb Γ Γx) (hg : Gl X x := by rfl) (hdb : (x == ("__debug__" : Str)) = false := by decide) :
    BV X Γ (.Raise (some (.Call (.Name x p) [.Constant (.str m) j p2] [] p3)) none pos :: sts) (.ex x Γx) := bv_out (⟨fun B G H σ D hB hgh l k => by
  obtain ⟨C, bmB, B', newId, initId, F, q, gC, kC, hsub, hty⟩ := K.ex
  have tk := k G H (Stp.refl hB hgh) σ (l.sub hx) C gC
  exact ws (ps_raise hc tk (pmk_own F q gC kC (raises_own hsub hty) hg hdb)) ⟨rfl, rfl, rfl, rfl⟩⟩ : SV X Γ _ (.ex x Γx)) trivial
/-- an expression alone that may raise -/
theorem bv_exprX {α τ : Type} [Rp α] {r : LR α Str} {g : α → LR τ Str} {Γx : List Slot} {F : τ → Out} (h : EVX X Γ e r) (hx : Sb Γ Γx) (hr : ∀ y, r = .go y → BV X Γ rest (XO Γx F (g y))) (hs : swapsWith e none pos.line X.env = pure false := by rfl) : BV X Γ (.Expr e pos :: rest) (XO Γx F (r.bind g)) := ⟨fun B G H σ D hB hg l k => by
  refine wss (pss_cons (ps_expr pe hs) pss) (h.run B G H σ hB hg l _ (fun y ey v G1 H1 g1 r1 => ?_) fun c ec G1 H1 g1 => ?_)
  · subst ey
    exact hr y rfl B G1 H1 σ D (hB.trans g1.h) g1.gh (l.grow g1) fun G2 H2 g2 => k G2 H2 ((g1.step hB).trans g2)
  · subst ec
    exact k G1 H1 (g1.step hB) σ ((l.grow g1).sub hx)⟩
/-- name = e that may raise -/
theorem bv_setX (i : Nat) {α τ : Type} [Rp α] {r : LR α Str} {g : α → LR τ Str} {Γx : List Slot} {F : τ → Out} {nm : Str} {pos' : Pos} (hN : X.N.Nodup) (h : EVX X Γ e r) (hx : Sb Γ Γx) (hr : ∀ y, r = .go y → BV X (Γ.set i (.v y)) rest (XO Γx F (g y))) (hi : X.N[i]? = some nm := by rfl) (hl : L2.Loc X.env.scope nm := by first | exact Or.inl rfl | exact Or.inr rfl)
    (hs : swapsWith e (some (.Name nm pos')) pos.line X.env = pure false := by rfl) (hf : X.fn nm = true ∨ X.env.scope.names.lookup nm = some .local := by first | exact .inl rfl | exact .inr rfl) : BV X Γ (.Assign [.Name nm pos'] e pos :: rest) (XO Γx F (r.bind g)) := ⟨fun B G H σ D hB hg l k => by
  refine wss (pss_cons (ps_set hN hi hl pe hs hf) pss) (h.run B G H σ hB hg l _ (fun y ey v G1 H1 g1 r1 => ?_) fun c ec G1 H1 g1 => ?_)
  · subst ey
    exact hr y rfl B G1 H1 _ D (hB.trans g1.h) g1.gh ((l.grow g1).set (d := dt y) r1) fun G2 H2 g2 => k G2 H2 ((g1.step hB).trans g2)
  · subst ec
    exact k G1 H1 (g1.step hB) σ ((l.grow g1).sub hx)⟩
/-- return e that may raise -/
theorem bv_retX {α : Type} [Rp α] {r : LR α Str} {Γx : List Slot} (h : EVX X Γ e r) (hx : Sb Γ Γx) : BV X Γ (.Return (some e) pos :: sts) (XO Γx (fun y => .rt (dt y)) r) := bv_out (⟨fun B G H σ D hB hg l k =>
  ws (ps_ret pe) (h.run B G H σ hB hg l _ (fun y ey v G1 H1 g1 r1 => by
    subst ey
    exact k G1 H1 (g1.step hB) v r1) fun c ec G1 H1 g1 => by
    subst ec
    exact k G1 H1 (g1.step hB) σ ((l.grow g1).sub hx))⟩ : SV X Γ _ (XO Γx (fun y => .rt (dt y)) r)) (by cases r <;> trivial)
/-- xs.append(e) of a list handed in, e may raise -/
theorem sv_appPX (i : Nat) {α : Type} [Rp α] {p : Addr} {xs : List α} {r : LR α Str} {Γx : List Slot} {c e : Expr} (hp : PE X c (tBM X.K "list" rAppend (tVar i) (tCons (WE X e) tNil))) (h0 : Γ[i]? = some (.o (MLp.mk p xs))) (h : EVX X Γ e r) (hx : Sb Γ Γx) (hz : xs.length < 10000000) (hs : swapsWith c none pos.line X.env = pure false := by rfl) :
    SV X Γ (.Expr c pos) (XO Γx (fun x => .nx (Γ.set i (.o (MLp.mk p (xs ++ [x]))))) r) := ⟨fun B G H σ D hB hg l k => by
  obtain ⟨F, vs, lf, hF, e1, hbp, hgp, hh, rr⟩ := ownP l h0
  refine ws (ps_expr hp hs) ⟨_, e1, .inl ⟨rfl, _, .inl (.inl hh)⟩, ?_⟩
  refine h.run B G H σ hB hg l _ (fun x ex v G1 H1 g1 r1 => ?_) fun c ec G1 H1 g1 => ?_
  · subst ex
    refine ⟨p, vs, v, rfl, rfl, g1.h _ _ hh, by rw [rr.len]; exact Nat.lt_of_lt_of_le hz (by decide), ?_⟩
    have hgp1 := (g1.fr p _ hh).trans hgp
    exact k G1 _ ((g1.step hB).trans (Stp.mutL (hB.trans g1.h) g1.gh hbp hgp1)) σ ((lf.grow g1).mutP h0 hF e1 hbp hgp1 (paired_app (rr.mono g1.g) (.cons r1 .nil)))
  · subst ec
    exact k G1 H1 (g1.step hB) σ ((l.grow g1).sub hx)⟩
/-- a statement that may raise, and the rest -/
theorem bv_consX {τ ρ : Type} {r : LR τ Str} {g : τ → LR ρ Str} {Γx : List Slot} {Env : τ → List Slot} {F : ρ → Out} (h : SV X Γ st (XO Γx (fun s => .nx (Env s)) r)) (hr : ∀ s, r = .go s → BV X (Env s) rest (XO Γx F (g s))) : BV X Γ (st :: rest) (XO Γx F (r.bind g)) := ⟨fun B G H σ D hB hg l k =>
  wss (pss_cons ps pss) (h B G H σ { D with nx := WSs X rest D } hB hg l fun G1 H1 g1 => by
    cases r with
    | go s => exact fun σ1 l1 => hr s rfl B G1 H1 σ1 D g1.b g1.gh l1 fun G2 H2 g2 => k G2 H2 (g1.trans g2)
    | re c => exact k G1 H1 g1)⟩
/-- for with a body that may raise -/
theorem sv_forX {α τ : Type} [Rp α] {xs : List α} {body : List Stmt} (Γx : List Slot) (Env : τ → List Slot) (s0 : τ) (f : τ → α → LR τ Str) (h : IV X Γ tg iter xs) (h0 : Sb Γ (Env s0)) (Γ1 : τ → α → List Slot) (ht : ∀ s x, TV X (Env s) tg x (Γ1 s x))
    (hb : ∀ pre x post s, xs = pre ++ x :: post → runL f s0 pre = .go s → BV X (Γ1 s x) body (XO Γx (fun s => .nx (Env s)) (f s x))) (hp : PassesOwn (model X.prog X.w) X.A X.env X.xe) (hc : X.calm = true := by rfl) (hs : ∀ x, foldedSetIterable iter X.env x = pure x := by intro _; rfl) (ho : XO Γx (fun s => .nx (Env s)) (runL f s0 xs) = o := by exact rfl) :
    SV X Γ (.For tg iter body [] pos) o := ⟨fun B G H σ D hB hg l k => by
  subst ho
  refine ws (ps_for hp hc pi pg pss hs) (h B G H σ hB hg l _ fun J G1 H1 g1 hJ => ?_)
  have st1 := g1.step hB
  refine ⟨fun i m σ' H' => m = xs.length - i ∧ i ≤ xs.length ∧ ∃ s G', runL f s0 (xs.take i) = .go s ∧ Stp B G1 G' H' ∧ Lo X.K B G' H' σ' (Env s), ⟨xs.length, by simp, Nat.zero_le _, s0, G1, rfl, Stp.refl st1.b st1.gh, (l.grow g1).sub h0⟩, ?_⟩
  rintro i m σ' H' ⟨rfl, hi, s, G', e, st, lo⟩
  by_cases hlt : i < xs.length
  · obtain ⟨hgo, hy⟩ := hJ.1 i G' H' st.g st.gh hlt
    refine .inr ⟨hgo, fun σ2 H2 => ∃ s2 G2, runL f s0 (xs.take (i + 1)) = .go s2 ∧ Stp B G1 G2 H2 ∧ Lo X.K B G2 H2 σ2 (Env s2), fun σ2 H2 ⟨s2, G2, e2, st2, lo2⟩ => ⟨xs.length - (i + 1), by omega, rfl, hlt, s2, G2, e2, st2, lo2⟩, fun v H3 hv => ?_⟩
    obtain ⟨G3, x, g3, hx, rx⟩ := hy v H3 hv
    have st3 := st.trans (g3.step st.b)
    have ex : xs = xs.take i ++ x :: xs.drop (i + 1) := by
      have h1 : xs[i] = x := by rw [List.getElem?_eq_getElem hlt] at hx; exact Option.some.inj hx
      rw [← h1, List.getElem_cons_drop, List.take_append_drop]
    refine ht s x B G3 H3 σ' v st3.b st3.gh (lo.grow g3) rx _ fun σ4 l4 => ?_
    refine hb _ x _ s ex e B G3 H3 σ4 _ st3.b st3.gh l4 fun G5 H5 st5 => ?_
    have et : xs.take (i + 1) = xs.take i ++ [x] := by
      rw [List.take_add_one, hx]; rfl
    have e2 : runL f s0 (xs.take (i + 1)) = f s x := by
      rw [et, runL_app, e]
      show runL f s [x] = f s x
      unfold runL
      cases f s x <;> rfl
    cases hf : f s x with
    | go s2 =>
      intro σ6 l6
      rw [hf] at e2
      exact ⟨s2, G5, e2, st3.trans st5, l6⟩
    | re r =>
      intro σ6 l6
      rw [hf] at e2
      have e3 : runL f s0 xs = .re r := by
        conv => lhs; rw [← List.take_append_drop (i + 1) xs]
        rw [runL_app, e2]
      have q := k G5 H5 ((st1.trans st3).trans st5)
      rw [e3] at q
      exact q σ6 l6
  · have ei : i = xs.length := by omega
    subst ei
    rw [List.take_length] at e
    refine .inl ⟨hJ.2 G' H' st.g st.gh, ?_⟩
    have q := k G' H' (st1.trans st)
    rw [e] at q
    exact q σ' lo⟩
end
/-! ### defs that may raise -/
inductive RD where
  | go (d : Dat)
  | re (c : Str)
def PSpX (K : PySem.W.Frag) (mg : Str → Option Value) (R : List Dat → RD → Prop) : Sp := fun vs H Q E => ∃ G ds r, Same G H ∧ DatsOk K G vs ds ∧ R ds r ∧ (∀ d, r = .go d → ∀ v G' H', Grow G H G' H' → d.rep K G' v → Q v H') ∧ ∀ c, r = .re c → ∀ C G' H', mg c = some (.ref C) → Grow G H G' H' → E (.ref C) none H'
def RD.out (n : Nat) : RD → Out
  | .go d => .rt d
  | .re c => .ex c (List.replicate n .any)
def LR.dat {α : Type} [Rp α] : LR α Str → RD
  | .go y => .go (dt y)
  | .re c => .re c
structure FnAtX (P : Program) (w : World) (K : PySem.W.Frag) (mg : Str → Option Value) (base : Heap) (x : Str) (k : Nat) (ps : List Str) (R : List Dat → RD → Prop) : Prop where
  ex : ∃ f fd, FnOk P w K mg base (L2.CX P w) k f fd ps (PSpX K mg R) ∧ mg x = some (.ref f) ∧ PySem.W.keepIn K (.ref f) = true ∧ Binds K fd ps []
/-- what is let out is taken -/
theorem fly_pass {X : Cx} {σ : L2.St} {E : XK} (h : ∀ cls d H', E cls d H' → ∃ c C, X.mg c = some (.ref C) ∧ cls = .ref C ∧ d = none ∧ Fly X c σ H') : PassesAt (L2.CX X.prog X.w) X σ E := fun pins H s e s' I z => by
  have x : XE X (fun cls d σ' H' => σ' = σ ∧ E cls d H') e s' := XE.of_call I (fun _ _ _ q => ⟨rfl, q⟩) z
  obtain ⟨a, B, sI, pins', σ', H', cls, d, e1, J, nb, up, sky, na, os, ag, e2, q⟩ := x
  subst e2
  obtain ⟨c, C, hm, rfl, rfl, fl⟩ := h _ _ _ q
  exact fl C hm e s' ⟨a, B, sI, pins', σ', H', _, _, e1, J, nb, up, sky, na, os, ag, rfl, rfl, rfl, rfl⟩
section
variable {X : Cx} {Γ : List Slot} {e : Expr} {es : List Expr} {pos : Pos}
theorem evx_fn {k j : Nat} {ps : List Str} {R : List Dat → RD → Prop} {x : Str} {p : Pos} {α : Type} [Rp α] {r : LR α Str} {ds : List Dat} (F : FnAtX X.prog X.w X.K X.mg X.base x k ps R) (hr : Room j X.A) (hj : k ≤ j) (ha : EA X Γ (e :: es) ds) (hR : R ds r.dat) (hg : Gl X x := by rfl) (hdb : (x == ("__debug__" : Str)) = false := by decide)
    (he : starEach (e :: es) X.env = (false, eval e X.env) :: starEach es X.env := by rfl) (hpl : (backTo pos (starEach es X.env)).any (·.1) = false := by rfl) : EVX X Γ (.Call (.Name x p) (e :: es) [] pos) r := ⟨fun B G H σ hB hgh l Q q qx => by
  obtain ⟨f, fd, F1, hm, hk, hb⟩ := F.ex
  refine we (pe_callS (E := fun σ' cls d H' => σ' = σ ∧ ∃ c C G', r = .re c ∧ X.mg c = some (.ref C) ∧ cls = .ref C ∧ d = none ∧ Grow G H G' H') F1 (hr.mono hj) hg hm hk hb (fun σ' => fly_pass fun cls d H' z => ?_) pa hdb he hpl) (ha B G H σ hB hgh l _ fun vs G1 H1 g1 r1 => ?_)
  · obtain ⟨rfl, c, C, G', er, hc, e1, e2, g⟩ := z
    exact ⟨c, C, hc, e1, e2, qx c er G' H' g⟩
  · refine ⟨G1, ds, r.dat, g1.gh, r1, hR, fun d ed v G2 H2 g2 rv => ?_, fun c ec C G2 H2 hc g2 => ?_⟩
    · cases r with
      | go y =>
        cases ed
        exact q y rfl v G2 H2 (g1.trans g2) rv
      | re c => cases ed
    · cases r with
      | go y => cases ec
      | re c' =>
        cases ec
        exact ⟨rfl, c, C, G2, rfl, hc, rfl, rfl, g1.trans g2⟩⟩
end
section
variable {P : Program} {w : World} {K : PySem.W.Frag} {mg : Str → Option Value} {base : Heap}
/-- a def that may raise -/
theorem fn_x {x qual : Str} {st : Stmt} {f : Addr} {fd : FuncData} {N ps : List Str} {k : Nat} {R : List Dat → RD → Prop} (F : Fun K x qual st f fd) (S : FnScope N ps (defScope st)) (len : ∀ ds d, R ds d → ds.length = ps.length)
    (body : ∀ (X : Cx) (ds : List Dat) (r : RD), (∃ cdv A outer s H E, X = cxOf (L2.CX P w) P w K mg base N qual (defScope st) f cdv A outer s H E) → Room k X.A → PassesOwn (model X.prog X.w) X.A X.env X.xe → R ds r → BV X (slots ds N.length) (defBody st) (RD.out N.length r)) : FnOk P w K mg base (L2.CX P w) (k + 1) f fd ps (PSpX K mg R) :=
  F.okX S (fun vs H Q E h => by
    obtain ⟨G, ds, d, _, r, hR, _⟩ := h
    rw [r.len]
    exact len ds d hR) (fun cdv A outer s H vs Q E hr h => by
    obtain ⟨G, ds, r, hg, rd, hR, q, qx⟩ := h
    have tk := takes_of (X := cxOf (L2.CX P w) P w K mg base N qual (defScope st) f cdv A outer s H E) (E := E) rfl rfl rfl rfl
    refine ⟨_, pss, (body _ ds r ⟨cdv, A, outer, s, H, E, rfl⟩ hr (passes_of (X := cxOf (L2.CX P w) P w K mg base N qual (defScope st) f cdv A outer s H E) rfl) hR).run H G H (L2.start N vs) _ (Same.refl _) hg (lo_start rd) fun G' H' st => ?_⟩
    cases r with
    | go d => exact fun v rv => q d rfl v G' H' ⟨st.g, st.b, st.gh, st.fr0⟩ rv
    | re c =>
      intro σ l C hc
      refine tk.imp fun cls d σ' H'' z => ?_
      obtain ⟨e1, e2, e3, e4⟩ := z
      subst e1 e2 e4
      exact qx c rfl C G' _ hc ⟨st.g, st.b, st.gh, st.fr0⟩)
end
end Wl

set_option maxRecDepth 100000
set_option maxHeartbeats 2000000
/-! exceptions: procedures that may raise, try, isinstance of what is caught -/
namespace Wl
open PySem PySem.Spec PyProof.Rows L2
/-- the two ends of a way that may raise -/
def LR.ends {τ ρ β : Type _} (r : LR τ ρ) (f : τ → β) (g : ρ → β) : β := match r with
  | .go s => f s
  | .re c => g c
/-! ### procedures that change two lists and may raise -/
def MSp2X {α β : Type} [Rp α] [Rp β] (K : PySem.W.Frag) (mg : Str → Option Value) (R : List α → List β → List Dat → LR (List α × List β) Str → Prop) : Sp := fun vs H Q E => ∃ (G : Hp) (p q : Addr) (us vs0 ws : List V) (xs : List α) (ys : List β) (ds : List Dat) (r : LR (List α × List β) Str),
  vs = .ref p :: .ref q :: ws ∧ Same G H ∧ p ≠ q ∧ H p = some (.lst us) ∧ G p = none ∧ H q = some (.lst vs0) ∧ G q = none ∧ Reps K G us xs ∧ Reps K G vs0 ys ∧ DatsOk K G ws ds ∧ R xs ys ds r ∧
  ∀ (G' H' : Hp), Same (delH (delH H p) q) H' → Same G G' → Same G' H' → (∀ a o, a ≠ p → a ≠ q → H a = some o → Nt o → G' a = G a) →
    (∀ xs' ys', r = .go (xs', ys') → G' p = none → G' q = none → (∃ us', H' p = some (.lst us') ∧ Reps K G' us' xs') → (∃ vs', H' q = some (.lst vs') ∧ Reps K G' vs' ys') → Q .non H') ∧
    (∀ c C, r = .re c → mg c = some (.ref C) → E (.ref C) none H')
section
variable {P : Program} {w : World} {K : PySem.W.Frag} {mg : Str → Option Value} {base : Heap}
theorem fn_mut2X {α β : Type} [Rp α] [Rp β] {x qual : Str} {st : Stmt} {f : Addr} {fd : FuncData} {N ps : List Str} {k : Nat} {R : List α → List β → List Dat → LR (List α × List β) Str → Prop} (F : Fun K x qual st f fd) (S : FnScope N ps (defScope st)) (len : ∀ xs ys ds r, R xs ys ds r → ds.length + 2 = ps.length)
    (body : ∀ (X : Cx) (p q : Addr) (xs : List α) (ys : List β) (ds : List Dat) (r : LR (List α × List β) Str), (∃ cdv A outer s H E, X = cxOf (L2.CX P w) P w K mg base N qual (defScope st) f cdv A outer s H E) → Room k X.A → PassesOwn (model X.prog X.w) X.A X.env X.xe → R xs ys ds r →
      ∃ Γ' : List α × List β → List Slot, (∀ z, (Γ' z)[0]? = some (.o (MLp.mk p z.1))) ∧ (∀ z, (Γ' z)[1]? = some (.o (MLp.mk q z.2))) ∧
        BV X (((slots (dNo :: dNo :: ds) N.length).set 0 (.o (MLp.mk p xs))).set 1 (.o (MLp.mk q ys))) (defBody st) (XO (List.replicate N.length .any) (fun s => .nx (Γ' s)) r)) : FnOk P w K mg base (L2.CX P w) (k + 1) f fd ps (MSp2X K mg R) :=
  F.okX S (fun vs H Q E h => by
    obtain ⟨G, p, q, us, vs0, ws, xs, ys, ds, rr, rfl, _, _, _, _, _, _, _, _, r, hR, _⟩ := h
    rw [List.length_cons, List.length_cons, r.len]
    exact len _ _ _ _ hR) (fun cdv A outer s H vs Q E hr h => by
    obtain ⟨G, p, q, us, vs0, ws, xs, ys, ds, rr, rfl, hg, hpq, hp, hgp, hq, hgq, hx, hy, r, hR, qq⟩ := h
    have tk := takes_of (X := cxOf (L2.CX P w) P w K mg base N qual (defScope st) f cdv A outer s H E) (E := E) rfl rfl rfl rfl
    have lo : Lo K H G H (L2.start N (.ref p :: .ref q :: ws)) (slots (dNo :: dNo :: ds) N.length) := lo_start (.cons trivial (.cons trivial r))
    have lo2 : Lo K (delH H p) G H (L2.start N (.ref p :: .ref q :: ws)) ((slots (dNo :: dNo :: ds) N.length).set 0 (.o (MLp.mk p xs))) := lo.toOwn slots_noown (v := .ref p) (fp := [p]) rfl (fun a ha => by
      have : a = p := by simpa using ha
      subst this
      exact ⟨delH_same, hgp, _, hp⟩) ⟨us, rfl, rfl, hp, hx⟩
    have lo3 : Lo K (delH (delH H p) q) G H (L2.start N (.ref p :: .ref q :: ws)) (((slots (dNo :: dNo :: ds) N.length).set 0 (.o (MLp.mk p xs))).set 1 (.o (MLp.mk q ys))) := lo2.toOwn1 (v := .ref q) (fp := [q]) rfl (fun a e => by
        by_cases haq : a = q
        · rw [haq]; exact delH_same
        · rw [delH_ne haq]; exact e) (fun a ha => by
      have : a = q := by simpa using ha
      subst this
      exact ⟨by rw [delH_ne (Ne.symm hpq), hq]; simp, delH_same, hgq, _, hq⟩) ⟨vs0, rfl, rfl, hq, hy⟩
    obtain ⟨Γ', g0, g1, hb⟩ := body _ p q xs ys ds rr ⟨cdv, A, outer, s, H, E, rfl⟩ hr (passes_of (X := cxOf (L2.CX P w) P w K mg base N qual (defScope st) f cdv A outer s H E) rfl) hR
    have hsame : Same (delH (delH H p) q) H := fun b u e => delH_sub b u (delH_sub b u e)
    refine ⟨_, pss, hb.run (delH (delH H p) q) G H _ _ hsame hg lo3 fun G' H' st => ?_⟩
    have z := qq G' H' st.b st.g st.gh (fun a o h1 h2 e n => st.fr a o (by rw [delH_ne h2, delH_ne h1]; exact e) n)
    cases rr with
    | go s2 =>
      intro σ' l'
      obtain ⟨F', us', lf, hF, e1, hbp, hgp', hh, rr⟩ := ownP l' (g0 s2)
      obtain ⟨F2, vs', lf2, hF2, e2, hbq, hgq', hh2, rr2⟩ := ownP l' (g1 s2)
      exact z.1 s2.1 s2.2 rfl hgp' hgq' ⟨us', hh, rr⟩ ⟨vs', hh2, rr2⟩
    | re c =>
      intro σ l C hc
      refine tk.imp fun cls d σ' H'' y => ?_
      obtain ⟨e1, e2, e3, e4⟩ := y
      subst e1 e2 e4
      exact z.2 c C rfl hc)
end
structure FnAtM2X {α β : Type} [Rp α] [Rp β] (P : Program) (w : World) (K : PySem.W.Frag) (mg : Str → Option Value) (base : Heap) (x : Str) (k : Nat) (ps : List Str) (R : List α → List β → List Dat → LR (List α × List β) Str → Prop) : Prop where
  ex : ∃ f fd, FnOk P w K mg base (L2.CX P w) k f fd ps (MSp2X K mg R) ∧ mg x = some (.ref f) ∧ PySem.W.keepIn K (.ref f) = true ∧ Binds K fd ps []
section
variable {X : Cx} {Γ Γ' : List Slot} {e a b : Expr} {es : List Expr} {st : Stmt} {sts rest : List Stmt} {pos pos' : Pos}
theorem ev_of_evx {α : Type} [Rp α] {y : α} (h : EVX X Γ e (.go y)) : EV X Γ e y := ⟨fun B G H σ hB hg l Q q => h.run B G H σ hB hg l Q (fun y' ey v G' H' g r => by cases ey; exact q v G' H' g r) fun c ec => by cases ec⟩
theorem ev_evx {α : Type} [Rp α] {r : LR α Str} {y : α} (h : EVX X Γ e r) (er : r = .go y) : EV X Γ e y := by subst er; exact ev_of_evx h
theorem evx_is {α : Type} [Rp α] {r r' : LR α Str} (h : EVX X Γ e r) (er : r = r') : EVX X Γ e r' := er ▸ h
theorem sv_proc2X (i j : Nat) {k m : Nat} {ps : List Str} {α β : Type} [Rp α] [Rp β] {R : List α → List β → List Dat → LR (List α × List β) Str → Prop} {Γx : List Slot} {x : Str} {p : Pos} {xs : List α} {ys : List β} {r : LR (List α × List β) Str} {ds : List Dat} {n1 n2 : Expr} (F : FnAtM2X X.prog X.w X.K X.mg X.base x k ps R) (hr : Room m X.A) (hj : k ≤ m) (hij : i ≠ j)
    (hv : PE X n1 (tVar i)) (hv2 : PE X n2 (tVar j)) (h0 : Γ[i]? = some (.l xs)) (h1 : Γ[j]? = some (.l ys)) (ha : EA X Γ es ds) (hR : R xs ys ds r) (hx : Sb ((Γ.set i .any).set j .any) Γx) (hg : Gl X x := by rfl) (hdb : (x == ("__debug__" : Str)) = false := by decide)
    (he : starEach (n1 :: n2 :: es) X.env = (false, eval n1 X.env) :: starEach (n2 :: es) X.env := by rfl) (he2 : starEach (n2 :: es) X.env = (false, eval n2 X.env) :: starEach es X.env := by rfl) (hpl : (backTo pos (starEach (n2 :: es) X.env)).any (·.1) = false := by rfl)
    (hs : swapsWith (.Call (.Name x p) (n1 :: n2 :: es) [] pos) none pos'.line X.env = pure false := by rfl) : SV X Γ (.Expr (.Call (.Name x p) (n1 :: n2 :: es) [] pos) pos') (XO Γx (fun s => .nx ((Γ.set i (.l s.1)).set j (.l s.2))) r) := ⟨fun B G H σ D hB hgh l kk => by
  obtain ⟨f, fd, F1, hm, hk, hb⟩ := F.ex
  obtain ⟨Fp, pp, vs, lf, hF, e1, hbp, hgp, hh, rr⟩ := ownL l h0
  obtain ⟨w, ew, hfj, q2, vs2, ew2, hFj0, hh2, r2⟩ : ∃ w, σ[j]? = some (some w) ∧ (∀ a ∈ Fp j, B a = none ∧ G a = none ∧ ∃ ho, H a = some ho) ∧ ∃ q vs, w = .ref q ∧ Fp j = [q] ∧ H q = some (.lst vs) ∧ Reps X.K G vs ys := by
    obtain ⟨o, a1, v, a2, a3, q, vs, a4, a5, a6, a7⟩ := lf.ok j _ h1
    exact ⟨v, by rw [a1, a2], a3, q, vs, a4, a5, a6, a7⟩
  subst ew2
  have hq := hfj q2 (by rw [hFj0]; simp)
  have hpq : pp ≠ q2 := fun z => lf.sep i j _ _ hij h0 h1 rfl rfl pp (by rw [hF]; simp) (by rw [hFj0, z]; simp)
  -- what the two slots and the rest are behind the call
  have key : ∀ (G1 H1 G2 H2 : Hp) (s1t s2t : Slot), Grow G H G1 H1 → Same (delH (delH H1 pp) q2) H2 → Same G1 G2 → Same G2 H2 → (∀ a o, a ≠ pp → a ≠ q2 → H1 a = some o → Nt o → G2 a = G1 a) →
      SlotOk X.K B G2 H2 (some (.ref pp)) [pp] s1t → SlotOk X.K B G2 H2 (some (.ref q2)) [q2] s2t → Stp B G G2 H2 ∧ Lo X.K B G2 H2 σ ((Γ.set i s1t).set j s2t) := by
    intro G1 H1 G2 H2 s1t s2t g1 s1 s2 s3 s5 o1 o2
    have lf1 := lf.grow g1
    have hB1 := hB.trans g1.h
    have hBp : ∀ b u, B b = some u → b ≠ pp := fun b u e z => by rw [z, hbp] at e; cases e
    have hBq : ∀ b u, B b = some u → b ≠ q2 := fun b u e z => by rw [z, hq.1] at e; cases e
    have stp : Stp B G1 G2 H2 := ⟨fun b u e => s1 b u (by rw [delH_ne (hBq b u e), delH_ne (hBp b u e)]; exact hB1 b u e), s2, s3, fun b u e n => s5 b u (hBp b u e) (hBq b u e) (hB1 b u e) n⟩
    refine ⟨(g1.step hB).trans stp, ?_⟩
    refine ⟨fun n => if n = i then [pp] else if n = j then [q2] else Fp n, by simp [lf1.len], fun n s e => ?_, fun n n' s t hnn hn hn' hs ht a ha hb => ?_⟩
    · rcases set_get e with ⟨rfl, rfl, hi'⟩ | ⟨hjn, e⟩
      · rw [if_neg (Ne.symm hij), if_pos rfl]
        exact ⟨_, ew, o2⟩
      · rcases set_get e with ⟨rfl, rfl, hi'⟩ | ⟨hin, e⟩
        · rw [if_pos rfl]
          exact ⟨_, e1, o1⟩
        · rw [if_neg (Ne.symm hin), if_neg (Ne.symm hjn)]
          obtain ⟨o, h3, h4⟩ := lf1.ok n s e
          refine ⟨o, h3, ?_⟩
          cases s with
          | any => trivial
          | val d => obtain ⟨v, e, r⟩ := h4; exact ⟨v, e, Dat.mono s2 r⟩
          | own d2 =>
            obtain ⟨v2, e2, hf2, r2⟩ := h4
            have ne : ∀ a ∈ Fp n, a ≠ pp ∧ a ≠ q2 := fun a ha => ⟨fun z => lf1.sep n i _ _ (Ne.symm hin) e h0 rfl rfl a ha (by rw [hF, z]; simp), fun z => lf1.sep n j _ _ (Ne.symm hjn) e h1 rfl rfl a ha (by rw [hFj0, z]; simp)⟩
            refine ⟨v2, e2, fun a ha => ?_, Odat.mono s2 (fun a ha => ?_) r2⟩
            · obtain ⟨q1, q2', ho, q3⟩ := hf2 a ha
              exact ⟨q1, (s5 a ho (ne a ha).1 (ne a ha).2 q3 (Odat.nt r2 a ha ho q3)).trans q2', ho, s1 a ho (by rw [delH_ne (ne a ha).2, delH_ne (ne a ha).1]; exact q3)⟩
            · obtain ⟨q1, q2', ho, q3⟩ := hf2 a ha
              rw [s1 a ho (by rw [delH_ne (ne a ha).2, delH_ne (ne a ha).1]; exact q3), q3]
    · have fp : ∀ n, (if n = i then [pp] else if n = j then [q2] else Fp n) = Fp n := fun n => by
        split
        · rename_i z; rw [z, hF]
        · split
          · rename_i z; rw [z, hFj0]
          · rfl
      simp only [fp] at ha hb
      have key : ∀ (n : Nat) (s : Slot), ((Γ.set i s1t).set j s2t)[n]? = some s → s.isOwn = true → ∃ t : Slot, Γ[n]? = some t ∧ t.isOwn = true := fun n s e hs => by
        rcases set_get e with ⟨rfl, rfl, _⟩ | ⟨hjn, e⟩
        · exact ⟨_, h1, rfl⟩
        · rcases set_get e with ⟨rfl, rfl, _⟩ | ⟨hin, e⟩
          · exact ⟨_, h0, rfl⟩
          · exact ⟨s, e, hs⟩
      obtain ⟨s', k1, k2⟩ := key n s hn hs
      obtain ⟨t', k3, k4⟩ := key n' t hn' ht
      exact lf1.sep n n' s' t' hnn k1 k3 k2 k4 a ha hb
  refine ws (ps_expr (pe_callS (E := fun σ' cls d H' => σ' = σ ∧ ∃ c C G1 H1 G', r = .re c ∧ X.mg c = some (.ref C) ∧ cls = .ref C ∧ d = none ∧ Grow G H G1 H1 ∧ Same (delH (delH H1 pp) q2) H' ∧ Same G1 G' ∧ Same G' H' ∧ (∀ a o, a ≠ pp → a ≠ q2 → H1 a = some o → Nt o → G' a = G1 a)) F1 (hr.mono hj) hg hm hk hb (fun σ' => fly_pass fun cls d H' z => ?_) (pa_cons hv (pa_cons hv2 pa he2) he) hdb he hpl) hs) ⟨_, e1, _, ew, ha B G H σ hB hgh l _ fun ws G1 H1 g1 r1 => ?_⟩
  · obtain ⟨rfl, c, C, G1, H1, G', er, hc, e3, e4, g1, s1, s2, s3, s5⟩ := z
    subst er
    obtain ⟨st, lo⟩ := key G1 H1 G' H' .any .any g1 s1 s2 s3 s5 trivial trivial
    exact ⟨c, C, hc, e3, e4, kk G' H' st σ' (lo.sub hx)⟩
  have hh1 := g1.h _ _ hh
  have hh3 := g1.h _ _ hh2
  have hgp1 : G1 pp = none := (g1.fr pp _ hh).trans hgp
  have hgq1 : G1 q2 = none := (g1.fr q2 _ hh2).trans hq.2.1
  refine ⟨G1, pp, q2, vs, vs2, ws, xs, ys, ds, r, rfl, g1.gh, hpq, hh1, hgp1, hh3, hgq1, rr.mono g1.g, r2.mono g1.g, r1, hR, fun G2 H2 s1 s2 s3 s5 => ⟨fun xs' ys' er s4 s4' s6 s6' => ?_, fun c C er hc => ⟨rfl, c, C, G1, H1, G2, er, hc, rfl, rfl, g1, s1, s2, s3, s5⟩⟩⟩
  subst er
  obtain ⟨us', t1, t2⟩ := s6
  obtain ⟨vs', t3, t4⟩ := s6'
  obtain ⟨st, lo⟩ := key G1 H1 G2 H2 (.l xs') (.l ys') g1 s1 s2 s3 s5 ⟨.ref pp, rfl, fun a ha => by
      have : a = pp := by simpa using ha
      subst this
      exact ⟨hbp, s4, _, t1⟩, pp, us', rfl, rfl, t1, t2⟩ ⟨.ref q2, rfl, fun a ha => by
      have : a = q2 := by simpa using ha
      subst this
      exact ⟨hq.1, s4', _, t3⟩, q2, vs', rfl, rfl, t3, t4⟩
  exact kk G2 H2 st σ lo⟩
/-- append by an alias, of what may raise -/
theorem sv_appAlX (i j : Nat) {α : Type} [Rp α] {p : Addr} {xs : List α} {r : LR α Str} {Γx : List Slot} {c e : Expr} (hp : PE X c (tBM X.K "list" rAppend (tVar j) (tCons (WE X e) tNil))) (h0 : Γ[i]? = some (.o (MLp.mk p xs))) (hj : Γ[j]? = some (.v (Rf.mk p))) (h : EVX X Γ e r) (hx : Sb Γ Γx) (hz : xs.length < 10000000) (hs : swapsWith c none pos.line X.env = pure false := by rfl) :
    SV X Γ (.Expr c pos) (XO Γx (fun x => .nx (Γ.set i (.o (MLp.mk p (xs ++ [x]))))) r) := ⟨fun B G H σ D hB hg l k => by
  obtain ⟨vj, ej, rj⟩ := l.val hj
  have rj : vj = .ref p := rj
  subst rj
  obtain ⟨F, vs, lf, hF, e1, hbp, hgp, hh, rr⟩ := ownP l h0
  refine ws (ps_expr hp hs) ⟨_, ej, .inl ⟨rfl, _, .inl (.inl hh)⟩, ?_⟩
  refine h.run B G H σ hB hg l _ (fun x ex v G1 H1 g1 r1 => ?_) fun c ec G1 H1 g1 => ?_
  · subst ex
    refine ⟨p, vs, v, rfl, rfl, g1.h _ _ hh, by rw [rr.len]; exact Nat.lt_of_lt_of_le hz (by decide), ?_⟩
    have hgp1 := (g1.fr p _ hh).trans hgp
    exact k G1 _ ((g1.step hB).trans (Stp.mutL (hB.trans g1.h) g1.gh hbp hgp1)) σ ((lf.grow g1).mutP h0 hF e1 hbp hgp1 (paired_app (rr.mono g1.g) (.cons r1 .nil)))
  · subst ec
    exact k G1 H1 (g1.step hB) σ ((l.grow g1).sub hx)⟩
/-! ### try -/
/-- the suite of a clause, as the clauses wish it -/
def gts (X : Cx) (sts : List Stmt) (a : Addr) (cls : Value) (d : Option Addr) : TS := fun D σ H => ∀ oe pn, Zc cls d oe → (∃ vs, oe.data = .fields vs) → WSs (X.suite a ((a, oe) :: pn)) sts D σ H
theorem sv_tryAs (i : Nat) {τ : Type} {x n : Str} {hc : Value} {b₀ : Stmt} {body suite : List Stmt} {np hpos : Pos} {r : LR τ Str} {Γx : List Slot} {Env : τ → List Slot} {Γs : Str → List Slot} (hs : X.stack = X.env :: X.outer) (hf : X.env.frame = some X.env.locals) (hN : X.N.Nodup) (hi : X.N[i]? = some n) (hln : X.env.kindOf n = some .local) (hx : Names X x hc)
    (hb : ∀ pn xe, PassesOwn (model X.prog X.w) X.A X.env xe → BV (X.tr pn xe) Γ body (XO Γx (fun s => .nx (Env s)) r))
    (hm : ∀ c, r = .re c → ∀ C, X.mg c = some (.ref C) → PySem.W.exmOne X.K (.ref C) hc = some true)
    (hsu : ∀ c, r = .re c → ∀ C, X.mg c = some (.ref C) → ∀ a oe pn, Zc (.ref C) none oe → (∃ vs, oe.data = .fields vs) → BV (X.suite a ((a, oe) :: pn)) (Γx.set i (.v (Rf.mk a))) (b₀ :: suite) (.nx ((Γs c).set i (.v (Rf.mk a))))) :
    SV X Γ (.Try body [.ExceptHandler (some (.Name x np)) (some n) (b₀ :: suite) hpos] [] [] pos) (.nx (r.ends Env (fun c => (Γs c).set i .any))) := ⟨fun B G H σ D hB hg l k => by
  refine ws (ps_try_as (tb := fun W => fun D σ H => ∀ pn xe, Takes (X.tr pn xe) W → PassesOwn (model X.prog X.w) X.A X.env xe → WSs (X.tr pn xe) body D σ H) (ts := gts X (b₀ :: suite)) hs hf hN hi hln hx takes0 (fun W pn xe tk hp => ⟨fun pins s σ H D I h => h pn xe tk hp pins s I⟩) (fun a oe cls d pn hz hf => ⟨fun pins s σ H D I h => h oe pn hz hf pins s I⟩)) ?_
  intro pn xe tk hp
  refine (hb pn xe hp).run B G H σ _ hB hg l fun G1 H1 st => ?_
  have kk := k G1 H1 st
  cases r with
  | go s => exact kk
  | re c =>
    intro σ1 l1 C hC
    refine tk.imp fun cls d σ' H' z => ?_
    obtain ⟨rfl, rfl, rfl, rfl⟩ := z
    refine ⟨true, hm c rfl C hC, fun _ a na oe pn2 hz hf => ?_, fun z => nomatch z⟩
    refine (hsu c rfl C hC a oe pn2 hz hf).run B G1 _ _ _ st.b st.gh (l1.set (d := dt (Rf.mk a)) rfl) fun G2 H2 st2 σ2 l2 => ?_
    refine k G2 H2 (st.trans st2) _ ?_
    have z := l2.drop (i := i) (o := none)
    rw [List.set_set] at z
    exact z⟩
theorem hds_nil : HdsOk X [] [] := .nil
theorem hds_cons {x : Str} {c : Value} {b₀ : Stmt} {suite : List Stmt} {np hpos : Pos} {hds : List ExceptHandler} {l : List (Value × (Addr → Value → Option Addr → TS))} (hc : Names X x c) (r : HdsOk X hds l) :
    HdsOk X (.ExceptHandler (some (.Name x np)) none (b₀ :: suite) hpos :: hds) ((c, gts X (b₀ :: suite)) :: l) := .cons hc (fun a oe cls d pn hz hf => ⟨fun pins s σ H D I h => h oe pn hz hf pins s I⟩) r
/-- the clause that takes an error of the class c, and what it comes to -/
inductive Hit (X : Cx) (Γ : List Slot) (c : Str) : List (Value × (Addr → Value → Option Addr → TS)) → List Slot → Prop
  | hit {hc : Value} {sts : List Stmt} {l : List (Value × (Addr → Value → Option Addr → TS))} {Γ' : List Slot} (hm : ∀ C, X.mg c = some (.ref C) → PySem.W.exmOne X.K (.ref C) hc = some true) (hb : ∀ a pn, BV (X.suite a pn) Γ sts (.nx Γ')) : Hit X Γ c ((hc, gts X sts) :: l) Γ'
  | miss {hc : Value} {t : Addr → Value → Option Addr → TS} {l : List (Value × (Addr → Value → Option Addr → TS))} {Γ' : List Slot} (hm : ∀ C, X.mg c = some (.ref C) → PySem.W.exmOne X.K (.ref C) hc = some false) (h : Hit X Γ c l Γ') : Hit X Γ c ((hc, t) :: l) Γ'
theorem Hit.wm {c : Str} {l : List (Value × (Addr → Value → Option Addr → TS))} (h : Hit X Γ c l Γ') {C : Addr} (hC : X.mg c = some (.ref C)) {B G H : Hp} {σ : L2.St} {D : Ends} (hB : Same B H) (hg : Same G H) (lo : Lo X.K B G H σ Γ) (k : ∀ G' H', Stp B G G' H' → ∀ σ', Lo X.K B G' H' σ' Γ' → D.nx σ' H') : wMany X.K (fun _ _ _ _ => False) D l (.ref C) none σ H := by
  induction h with
  | hit hm hb => exact ⟨true, hm C hC, fun _ a _ oe pn hz hf => (hb a _).run B G H σ D hB hg lo fun G' H' st => k G' H' st, fun z => nomatch z⟩
  | miss hm h ih => exact ⟨false, hm C hC, (fun z => Bool.noConfusion z), fun _ => ih k⟩
theorem sv_tryMany {τ : Type} {body : List Stmt} {h₀ : ExceptHandler} {hds : List ExceptHandler} {l : List (Value × (Addr → Value → Option Addr → TS))} {r : LR τ Str} {Γx : List Slot} {Env : τ → List Slot} {Γs : Str → List Slot} (hs : X.stack = X.env :: X.outer) (hf : X.env.frame = some X.env.locals)
    (hb : ∀ pn xe, PassesOwn (model X.prog X.w) X.A X.env xe → BV (X.tr pn xe) Γ body (XO Γx (fun s => .nx (Env s)) r)) (hh : HdsOk X (h₀ :: hds) l) (hsu : ∀ c, r = .re c → Hit X Γx c l (Γs c)) :
    SV X Γ (.Try body (h₀ :: hds) [] [] pos) (.nx (r.ends Env Γs)) := ⟨fun B G H σ D hB hg lo k => by
  refine ws (ps_try_many (tb := fun W => fun D σ H => ∀ pn xe, Takes (X.tr pn xe) W → PassesOwn (model X.prog X.w) X.A X.env xe → WSs (X.tr pn xe) body D σ H) hs hf takes0 (fun W pn xe tk hp => ⟨fun pins s σ H D I h => h pn xe tk hp pins s I⟩) hh) ?_
  intro pn xe tk hp
  refine (hb pn xe hp).run B G H σ _ hB hg lo fun G1 H1 st => ?_
  cases r with
  | go s => exact k G1 H1 st
  | re c =>
    intro σ1 l1 C hC
    refine tk.imp fun cls d σ' H' z => ?_
    obtain ⟨rfl, rfl, rfl, rfl⟩ := z
    exact (hsu c rfl).wm hC st.b st.gh l1 fun G2 H2 st2 => k G2 H2 (st.trans st2)⟩
/-! ### own classes -/
/-- a class's own name -/
theorem ev_cls {x : Str} {C : Addr} (hm : X.mg x = some (.ref C)) (hg : Gl X x := by rfl) (hd : (x == ("__debug__" : Str)) = false := by decide) : EV X Γ (.Name x pos) (Rf.mk C) := ⟨fun B G H σ hB hgh l Q q => we (pe_glob (v := .ref C) hg hm rfl hd) (q _ G H (Grow.refl hgh) rfl)⟩
end
section
variable {X : Cx} {Γ : List Slot} {e1 e2 : Expr} {pos : Pos} {a D : Addr} {oe : Obj} {pn : List (Addr × Obj)}
theorem ev_isE {C : Addr} {r : Bool} {p : Pos} (hC : ExcC X.K D) (hz : Zc (.ref D) none oe) (hf : ∃ vs, oe.data = .fields vs) (hm : X.mg "isinstance" = none) (h1 : EV (X.suite a ((a, oe) :: pn)) Γ e1 (Rf.mk a)) (h2 : EV (X.suite a ((a, oe) :: pn)) Γ e2 (Rf.mk C)) (hk : PySem.W.kitOne X.K (.ref D) (.ref C) = some r)
    (hg : Gl X "isinstance" := by rfl) (hs : starEach [e1, e2] X.env = (false, eval e1 X.env) :: starEach [e2] X.env := by rfl) (hs2 : starEach [e2] X.env = (false, eval e2 X.env) :: starEach [] X.env := by rfl)
    (hpl : (backTo pos (starEach [e2] X.env)).any (·.1) = false := by rfl) : EV (X.suite a ((a, oe) :: pn)) Γ (.Call (.Name "isinstance" p) [e1, e2] [] pos) r :=
  ev_cb (X := X.suite a ((a, oe) :: pn)) (call_isE hC hz hf) hm (by decide +kernel) (ea_cons h1 (ea_cons h2 ea_nil hs2) hs) (fun G H vs hgh r1 Q q => by
    cases r1 with | cons r1 t => cases t with | cons r2 t => cases t; exact ⟨.ref C, .ref C, r, by rw [show _ = V.ref a from r1, show _ = V.ref C from r2], fun u z => z, hk, q _ G H (Grow.refl hgh) rfl⟩) hg (by decide) (by decide) hs hpl
theorem ev_isEB {T : String} {r : Bool} {p : Pos} (hC : ExcC X.K D) (hz : Zc (.ref D) none oe) (hf : ∃ vs, oe.data = .fields vs) (hm : X.mg "isinstance" = none) (h1 : EV (X.suite a ((a, oe) :: pn)) Γ e1 (Rf.mk a)) (h2 : EV (X.suite a ((a, oe) :: pn)) Γ e2 (TyN.mk T)) (hk : PySem.W.kitOne X.K (.ref D) (.type T) = some r)
    (hg : Gl X "isinstance" := by rfl) (hs : starEach [e1, e2] X.env = (false, eval e1 X.env) :: starEach [e2] X.env := by rfl) (hs2 : starEach [e2] X.env = (false, eval e2 X.env) :: starEach [] X.env := by rfl)
    (hpl : (backTo pos (starEach [e2] X.env)).any (·.1) = false := by rfl) : EV (X.suite a ((a, oe) :: pn)) Γ (.Call (.Name "isinstance" p) [e1, e2] [] pos) r :=
  ev_cb (X := X.suite a ((a, oe) :: pn)) (call_isE hC hz hf) hm (by decide +kernel) (ea_cons h1 (ea_cons h2 ea_nil hs2) hs) (fun G H vs hgh r1 Q q => by
    cases r1 with | cons r1 t => cases t with | cons r2 t => cases t; exact ⟨.ty T, .type T, r, by rw [show _ = V.ref a from r1, show _ = V.ty T from r2], fun u z => z, hk, q _ G H (Grow.refl hgh) rfl⟩) hg (by decide) (by decide) hs hpl
end
/-! ### the facts on classes, by their names -/
structure XCls (K : PySem.W.Frag) (mg : Str → Option Value) (x : Str) : Prop where
  err : ErrC K mg x
  exc : ∀ D, mg x = some (.ref D) → ExcC K D
def XKit (K : PySem.W.Frag) (mg : Str → Option Value) (c d : Str) (b : Bool) : Prop := ∀ C D, mg c = some (.ref C) → mg d = some (.ref D) → PySem.W.kitOne K (.ref C) (.ref D) = some b
def XKitB (K : PySem.W.Frag) (mg : Str → Option Value) (c : Str) (T : String) (b : Bool) : Prop := ∀ C, mg c = some (.ref C) → PySem.W.kitOne K (.ref C) (.type T) = some b
def XExm (K : PySem.W.Frag) (mg : Str → Option Value) (c d : Str) (b : Bool) : Prop := ∀ C D, mg c = some (.ref C) → mg d = some (.ref D) → PySem.W.exmOne K (.ref C) (.ref D) = some b
end Wl

set_option maxRecDepth 100000
set_option maxHeartbeats 2000000
namespace Wl
open PySem PySem.Spec PyProof.Rows L2
section
variable {X : Cx} {Γ Γ' : List Slot} {e a b : Expr} {es : List Expr} {st : Stmt} {sts els rest : List Stmt} {pos pos' : Pos} {c : Expr} {o : Out}
theorem ev_toQ2 {α : Type} [Rp α] {xs : List α} (d : α) (h : EV X Γ e xs) (hl : xs.length = 2) : EV X Γ e (toQ2 d xs) := ⟨fun B G H σ hB hg l Q q => h B G H σ hB hg l Q fun v G1 H1 g1 r1 => q v G1 H1 g1 (rep_toQ2 d hl r1)⟩
/-- n times over -/
def repL {α : Type} (xs : List α) : Nat → List α
  | 0 => []
  | n + 1 => xs ++ repL xs n
theorem repL_len {α : Type} (xs : List α) : ∀ n, (repL xs n).length = xs.length * n
  | 0 => by simp [repL]
  | n + 1 => by rw [repL, List.length_append, repL_len xs n, Nat.mul_succ]; omega
theorem repL_one {α : Type} (x : α) : ∀ n, repL [x] n = List.replicate n x
  | 0 => rfl
  | n + 1 => by rw [repL, repL_one x n, List.replicate_succ]; rfl
theorem paired_rep {α β : Type} {R : α → β → Prop} {xs : List α} {ys : List β} (r : Paired R xs ys) : ∀ n, Paired R (List.replicate n xs).flatten (repL ys n)
  | 0 => .nil
  | n + 1 => by rw [List.replicate_succ, List.flatten_cons]; exact paired_app r (paired_rep r n)
theorem en_rep {α : Type} [Rp α] {xs : List α} {k : Int} (ha : EN X Γ a (ML.mk xs)) (hb : EV X Γ b k) (hz : -(2 ^ 63) ≤ k ∧ k < 2 ^ 63 ∧ xs.length * k.toNat ≤ 10000000) : EN X Γ (.BinOp a .Mult b pos) (ML.mk (repL xs k.toNat)) := ⟨fun B G H σ hB hg l Q q =>
  we (pe_op op_rep pe pe) (ha B G H σ hB hg l _ fun v fp G1 H1 g1 hf ok => hb B G1 H1 σ (hB.trans g1.h) g1.gh (l.grow g1) _ fun v2 G2 H2 g2 ok2 => by
    obtain ⟨p, vs, rfl, rfl, hh, r⟩ := ok
    have r : Reps X.K G1 vs xs := r
    have ok2 : v2 = .int k := ok2
    subst ok2
    have hh2 := g2.h _ _ hh
    have r2 := r.mono g2.g
    refine ⟨p, k, vs, rfl, rfl, hh2, hz.1, hz.2.1, ?_, fun p3 hp3 => q (.ref p3) [p3] G2 _ ((g1.trans g2).trans (Grow.own g2.gh hp3)) (one_new ((g1.trans g2).h.free hp3) (g2.gh.free hp3)) ⟨p3, _, rfl, rfl, upd_same, paired_rep r2 _⟩⟩
    have := r.len
    rw [sizeLine_eq, this]
    omega)⟩
/-! ### the classes that may fly -/
def LR.Ok {τ : Type _} (P : Str → Prop) (r : LR τ Str) : Prop := ∀ c, r = .re c → P c
theorem okc_go {τ : Type _} {P : Str → Prop} {s : τ} : (LR.go s : LR τ Str).Ok P := fun c e => by cases e
theorem okc_re {τ : Type _} {P : Str → Prop} {c : Str} (h : P c) : (LR.re c : LR τ Str).Ok P := fun c' e => by cases e; exact h
theorem okc_bind {τ ρ : Type} {P : Str → Prop} {r : LR τ Str} {g : τ → LR ρ Str} (h : r.Ok P) (h2 : ∀ y, (g y).Ok P) : (r.bind g).Ok P := by
  cases r with
  | go s => exact h2 s
  | re c => intro c' e; cases e; exact h c rfl
theorem okc_bif {τ : Type _} {P : Str → Prop} {b : Bool} {r s : LR τ Str} (h : r.Ok P) (h2 : s.Ok P) : (bif b then r else s).Ok P := by cases b <;> assumption
theorem okc_runL {α τ : Type} {P : Str → Prop} {f : τ → α → LR τ Str} (h : ∀ s x, (f s x).Ok P) : ∀ (xs : List α) (s : τ), (runL f s xs).Ok P
  | [], s => okc_go
  | x :: r, s => by
    have h1 := h s x
    unfold runL
    cases e : f s x with
    | go s' => exact okc_runL h r s'
    | re c => rw [e] at h1; intro c' e'; cases e'; exact h1 c rfl
/-- the value of what doesn't raise -/
def LR.val {τ ρ : Type _} (r : LR τ ρ) (d : τ) : τ := match r with
  | .go s => s
  | .re _ => d
def LR.isGo {τ ρ : Type _} (r : LR τ ρ) : Prop := ∃ s, r = .go s
theorem LR.val_go {τ ρ : Type _} {r : LR τ ρ} {d : τ} (h : r.isGo) : r = .go (r.val d) := by obtain ⟨s, e⟩ := h; subst e; rfl
theorem xo_ex {τ : Type} [Rp τ] {Γx : List Slot} (r : LR τ Str) : (XO Γx (fun y => .rt (dt y)) r).exits := by cases r <;> trivial
theorem rd_out {τ : Type} [Rp τ] (n : Nat) (r : LR τ Str) : RD.out n (LR.dat r) = XO (List.replicate n .any) (fun y => .rt (dt y)) r := by cases r <;> rfl
/-- if as a statement, its ways may raise -/
theorem sv_ifX {x : Bool} {of : Bool → Out} (h : ET X Γ c x) (h1 : x = true → BV X Γ sts (of true)) (h2 : x = false → BV X Γ els (of false)) (ho : of x = o := by exact rfl) : SV X Γ (.If c sts els pos) o := ho ▸ sv_ifo (of := of) h h1 h2
end
section
variable {X : Cx} {Γ : List Slot} {e a b : Expr} {pos : Pos}
theorem sv_tryAs2 (i : Nat) {τ υ : Type} {x n : Str} {hc : Value} {b₀ : Stmt} {body suite : List Stmt} {np hpos : Pos} {r : LR τ Str} {Γx : List Slot} (Ef : υ → List Slot) (f : τ → υ) (g : Str → υ) (P : Str → Prop) (hP : r.Ok P) (hs : X.stack = X.env :: X.outer) (hf : X.env.frame = some X.env.locals) (hN : X.N.Nodup) (hx : Names X x hc)
    (hb : ∀ pn xe, PassesOwn (model X.prog X.w) X.A X.env xe → BV (X.tr pn xe) Γ body (XO Γx (fun s => .nx (Ef (f s))) r))
    (hm : ∀ c, P c → ∀ C, X.mg c = some (.ref C) → PySem.W.exmOne X.K (.ref C) hc = some true)
    (hsu : ∀ c, P c → ∀ C, X.mg c = some (.ref C) → ∀ a oe pn, Zc (.ref C) none oe → (∃ vs, oe.data = .fields vs) → BV (X.suite a ((a, oe) :: pn)) (Γx.set i (.v (Rf.mk a))) (b₀ :: suite) (.nx ((Ef (g c)).set i (.v (Rf.mk a)))))
    (hE : ∀ y, (Ef y).set i .any = Ef y := by intro _; rfl) (hi : X.N[i]? = some n := by rfl) (hln : X.env.kindOf n = some .local := by rfl) :
    SV X Γ (.Try body [.ExceptHandler (some (.Name x np)) (some n) (b₀ :: suite) hpos] [] [] pos) (.nx (Ef (r.ends f g))) := by
  have h := sv_tryAs (pos := pos) (np := np) (hpos := hpos) i (Γs := fun c => Ef (g c)) hs hf hN hi hln hx hb (fun c e => hm c (hP c e)) (fun c e => hsu c (hP c e))
  have e : (r.ends (fun s => Ef (f s)) fun c => (Ef (g c)).set i .any) = Ef (r.ends f g) := by
    cases r with
    | go s => rfl
    | re c => exact hE _
  rw [e] at h
  exact h
theorem sv_tryMany2 {τ υ : Type} {body : List Stmt} {h₀ : ExceptHandler} {hds : List ExceptHandler} {l : List (Value × (Addr → Value → Option Addr → TS))} {r : LR τ Str} {Γx : List Slot} (Ef : υ → List Slot) (f : τ → υ) (g : Str → υ) (P : Str → Prop) (hP : r.Ok P) (hs : X.stack = X.env :: X.outer) (hf : X.env.frame = some X.env.locals)
    (hb : ∀ pn xe, PassesOwn (model X.prog X.w) X.A X.env xe → BV (X.tr pn xe) Γ body (XO Γx (fun s => .nx (Ef (f s))) r)) (hh : HdsOk X (h₀ :: hds) l) (hsu : ∀ c, P c → Hit X Γx c l (Ef (g c))) :
    SV X Γ (.Try body (h₀ :: hds) [] [] pos) (.nx (Ef (r.ends f g))) := by
  have h := sv_tryMany (pos := pos) hs hf hb hh (fun c e => hsu c (hP c e))
  have e : r.ends (fun s => Ef (f s)) (fun c => Ef (g c)) = Ef (r.ends f g) := by cases r <;> rfl
  rw [e] at h
  exact h
end
/-! ### what the top says of classes -/
theorem kit_ref {K : PySem.W.Frag} {C D : Addr} {b : Bool} (h2 : PySem.W.isClsIn K D = true) (h3 : PySem.W.typeIn K (.ref D) = some (.type "type")) (hs : PySem.W.subIn K (.ref C) (.ref D) = some b) (hn : b = true ∨ (Value.ref C == Value.ref D) = false) : PySem.W.kitOne K (.ref C) (.ref D) = some b := by
  have h2' : (PySem.W.clsIn K D).isSome = true := h2
  have e2 : ((PySem.W.clsIn K D).isSome && PySem.W.typeIn K (.ref D) == some (.type "type")) = true := by rw [h2', h3] <;> rfl
  show (if (Value.ref C == Value.ref D) = true then some true else if ((PySem.W.clsIn K D).isSome && PySem.W.typeIn K (.ref D) == some (.type "type")) = true then PySem.W.subIn K (.ref C) (.ref D) else none) = some b
  rw [if_pos e2, hs]
  rcases hn with e | e
  · rw [e]; split <;> rfl
  · rw [e]; rfl
theorem exm_refI {K : PySem.W.Frag} {C D : Addr} {b : Bool} (h1 : PySem.W.subIn K (.ref D) (.type "BaseException") = some true) (h2 : PySem.W.isClsIn K D = true) (h3 : PySem.W.typeIn K (.ref D) = some (.type "type")) (hs : PySem.W.subIn K (.ref C) (.ref D) = some b) : PySem.W.exmOne K (.ref C) (.ref D) = some b := by
  have e1 : (PySem.W.subIn K (.ref D) (.type "BaseException") == some true) = true := by rw [h1] <;> rfl
  have h2' : (PySem.W.clsIn K D).isSome = true := h2
  have e2 : ((PySem.W.clsIn K D).isSome && PySem.W.typeIn K (.ref D) == some (.type "type")) = true := by rw [h2', h3] <;> rfl
  show (if (PySem.W.subIn K (.ref D) (.type "BaseException") == some true) = true then (if ((PySem.W.clsIn K D).isSome && PySem.W.typeIn K (.ref D) == some (.type "type")) = true then PySem.W.subIn K (.ref C) (.ref D) else none) else none) = some b
  rw [if_pos e1, if_pos e2]
  exact hs
theorem kit_VE {K : PySem.W.Frag} {C : Addr} {b : Bool} (hs : PySem.W.subIn K (.ref C) (.type "ValueError") = some b) : PySem.W.kitOne K (.ref C) (.type "ValueError") = some b := by
  have e2 : PySem.W.kitMeta "ValueError" = true := by decide +kernel
  show (if (Value.ref C == Value.type "ValueError") = true then some true else if PySem.W.kitMeta "ValueError" = true then PySem.W.subIn K (.ref C) (.type "ValueError") else none) = some b
  rw [if_pos e2, hs]
  rfl
theorem errc_mk {K : PySem.W.Frag} {mg : Str → Option Value} {x : Str} {C : Addr} (q : PySem.W.excIn K C [.type "ValueError", .type "Exception", .type "BaseException", .type "object"] "ValueError.__new__" = true) (hm : mg x = some (.ref C)) (hk : PySem.W.keepIn K (.ref C) = true) (hb : PySem.W.subIn K (.ref C) (.type "BaseException") = some true) (ht : PySem.W.typeIn K (.ref C) = some (.type "type")) : ErrC K mg x :=
  ⟨C, _, _, _, _, PySem.F.excBase_ValueError, q, hm, hk, hb, ht⟩
end Wl

set_option maxRecDepth 100000
set_option maxHeartbeats 2000000
/-! rows of streams of any numbers of up to ten figures -/
namespace Wl
open PySem PySem.Spec PyProof.Rows L2
structure NumG (s : T3 Int Int Int) : Prop where
  a0 : 0 ≤ s.a
  a1 : s.a < 10 ^ 10
  b0 : 0 ≤ s.b
  b1 : s.b < 10 ^ 10
  c0 : 0 ≤ s.c
  c1 : s.c < 10 ^ 10
structure WorksG (w : WksT) : Prop where
  g0 : 0 ≤ w.a
  g1 : w.a ≤ 50
  nh : w.b.length ≤ 13
  nc : w.c.length ≤ 13
  h : ∀ s ∈ w.b, NumG s
  c : ∀ s ∈ w.c, NumG s
theorem split_rowG {k : Str} {s : T3 Int Int Int} (hk : KindW k) (hs : NumG s) : Txt.split (rowT k s) (Str.ofString " ") = [k, numS s.a, numS s.b, numS s.c] := by
  have h := TL.split_join (y := Str.ofString " ") (s := 32) (S := []) blank_tl (by decide +kernel) (parts := [k, numS s.a, numS s.b, numS s.c]) (by simp) (fun p hp => by
    have hp : p = k ∨ p = numS s.a ∨ p = numS s.b ∨ p = numS s.c := by simpa using hp
    rcases hp with e | e | e | e <;> rw [e]
    · exact kind_free hk (by decide)
    · exact numS_free hs.a0 (.inl (by decide))
    · exact numS_free hs.b0 (.inl (by decide))
    · exact numS_free (by have := hs.c0; omega) (.inl (by decide)))
  rw [TL.join_eq] at h
  exact h
theorem row_freeG {k : Str} {s : T3 Int Int Int} (hk : KindW k) (hs : NumG s) : 10 ∉ TL.tl (rowT k s) := by
  unfold rowT
  rw [TL.tl_join, blank_tl]
  refine joinL_free (by decide) fun p hp => ?_
  have hp : p = TL.tl k ∨ p = TL.tl (numS s.a) ∨ p = TL.tl (numS s.b) ∨ p = TL.tl (numS s.c) := by simpa using hp
  rcases hp with e | e | e | e <;> rw [e]
  · exact kind_free hk (by decide)
  · exact numS_free hs.a0 (.inl (by decide))
  · exact numS_free hs.b0 (.inl (by decide))
  · exact numS_free (by have := hs.c0; omega) (.inl (by decide))
theorem split_textG {w : WksT} (h : WorksG w) : Txt.split (textT w) (Str.ofString "\n") = rowsT w := by
  have q := TL.split_join (y := Str.ofString "\n") (s := 10) (S := []) feed_tl (by decide +kernel) (parts := rowsT w) (by unfold rowsT; simp) (fun p hp => by
    unfold rowsT at hp
    rcases List.mem_cons.mp hp with e | hp
    · rw [e]; exact gap_free h.g0
    · rcases List.mem_append.mp hp with hp | hp
      · obtain ⟨s, hs, e⟩ := List.mem_map.mp hp
        rw [← e]; exact row_freeG (.inl rfl) (h.h s hs) 
      · obtain ⟨s, hs, e⟩ := List.mem_map.mp hp
        rw [← e]; exact row_freeG (.inr rfl) (h.c s hs) )
  rw [TL.join_eq] at q
  exact q
theorem row_lenG {k : Str} {s : T3 Int Int Int} (hk : KindW k) (hs : NumG s) : (rowT k s).length ≤ 38 := by
  rw [str_len]
  unfold rowT
  rw [TL.tl_join, blank_tl]
  have h := joinL_len [32] ([k, numS s.a, numS s.b, numS s.c].map TL.tl)
  have h1 := kind_len hk
  have h2 := num_le hs.a0 (by have := hs.a1; omega)
  have h3 := num_le hs.b0 (by have := hs.b1; omega)
  have h4 := num_le (n := s.c) (by have := hs.c0; omega) (by have := hs.c1; omega)
  rw [str_len] at h1 h2 h3 h4
  simp only [List.map_cons, List.map_nil, List.sum_cons, List.sum_nil, List.length_cons, List.length_nil] at h
  show (TL.joinL [32] [TL.tl k, TL.tl (numS s.a), TL.tl (numS s.b), TL.tl (numS s.c)]).length ≤ 38
  omega
theorem rows_lenG {w : WksT} (h : WorksG w) : (rowsT w).length ≤ 27 ∧ ∀ r ∈ rowsT w, r.length ≤ 38 := by
  have := h.nh
  have := h.nc
  refine ⟨by unfold rowsT; rw [List.length_cons, List.length_append, List.length_map, List.length_map]; omega, fun r hr => ?_⟩
  unfold rowsT at hr
  rcases List.mem_cons.mp hr with e | hp
  · rw [e]; have := gap_len h.g0 h.g1; omega
  · rcases List.mem_append.mp hp with hp | hp
    · obtain ⟨s, hs, e⟩ := List.mem_map.mp hp
      rw [← e]; exact row_lenG (.inl rfl) (h.h s hs) 
    · obtain ⟨s, hs, e⟩ := List.mem_map.mp hp
      rw [← e]; exact row_lenG (.inr rfl) (h.c s hs) 
theorem text_lenG {w : WksT} (h : WorksG w) : (textT w).length ≤ 2000 := by
  obtain ⟨h1, h2⟩ := rows_lenG h
  have h3 := join_len (Str.ofString "\n") (rowsT w)
  have h4 := sum_le (·.length) 38 (rowsT w) h2
  have e : (Str.ofString "\n").length = 1 := by decide +kernel
  rw [e] at h3
  unfold textT
  omega
theorem num_logG {s : T3 Int Int Int} (h : NumG s) {x : Int} (hx : x ∈ [s.a, s.b, s.c]) : x.natAbs.log2 < 1920 := by
  have hx : x = s.a ∨ x = s.b ∨ x = s.c := by simpa using hx
  have := h.a0; have := h.a1; have := h.b0; have := h.b1; have := h.c0; have := h.c1
  rcases hx with e | e | e <;> rw [e] <;> exact log_ok (by omega) (by omega)
theorem num_wG {k : Str} {s : T3 Int Int Int} (h : NumG s) {x : Str} (hx : x ∈ pySlice [k, numS s.a, numS s.b, numS s.c] (some (1 : Int)) none none) : NumW x := by
  rw [pySlice_drop _ (by decide)] at hx
  have hx : x = numS s.a ∨ x = numS s.b ∨ x = numS s.c := by simpa using hx
  have := h.a0; have := h.a1; have := h.b0; have := h.b1; have := h.c0; have := h.c1
  rcases hx with e | e | e <;> rw [e] <;> exact numW (by omega) (by omega)
theorem row_joinG {k : Str} {s : T3 Int Int Int} (hk : KindW k) (hs : NumG s) : (([k, numS s.a, numS s.b, numS s.c] : List Str).map (·.length)).sum + ([k, numS s.a, numS s.b, numS s.c] : List Str).length * (Str.ofString " ").length ≤ 10000000 := by
  have h1 := kind_len hk
  have h2 := num_le hs.a0 (by have := hs.a1; omega)
  have h3 := num_le hs.b0 (by have := hs.b1; omega)
  have h4 := num_le (n := s.c) (by have := hs.c0; omega) (by have := hs.c1; omega)
  have e : (Str.ofString " ").length = 1 := by decide +kernel
  rw [e]
  simp only [List.map_cons, List.map_nil, List.sum_cons, List.sum_nil, List.length_cons, List.length_nil]
  omega
theorem rows_joinG {w : WksT} (h : WorksG w) : ((rowsT w).map (·.length)).sum + (rowsT w).length * (Str.ofString "\n").length ≤ 10000000 := by
  obtain ⟨h1, h2⟩ := rows_lenG h
  have h4 := sum_le (·.length) 38 (rowsT w) h2
  have e : (Str.ofString "\n").length = 1 := by decide +kernel
  rw [e]
  omega
end Wl

set_option maxRecDepth 100000
set_option maxHeartbeats 2000000
/-! list(d); insert; rows of one's own table stored; an own pair of lists -/
namespace Wl
open PySem PySem.Spec PyProof.Rows L2
section
variable {X : Cx} {Γ Γ' : List Slot} {st : Stmt} {sts els rest : List Stmt} {a b c d e tg iter elt : Expr} {es elts ifs : List Expr} {pos : Pos} {o : Out}
/-- list(d), d a dict with int keys -/
theorem cr_listDI (hcalm : X.calm = true) : CallR X (.type "list") (fun xs H Q => ∃ (a : Addr) (kvs : List (Key × V)) (ks : List Int), xs = [.ref a] ∧ Rd H a (.dK kvs) ∧ kvs.map (·.1) = ks.map Sum.inl ∧
    ∀ (p : Addr), H p = none → Q (.ref p) (upd H p (.lst (ks.map V.int)))) := by
  intro pins s σ H xs us Q I r q
  obtain ⟨a, kvs, ks, ex, hd, hks, q⟩ := q
  subst ex
  obtain ⟨u, eu, rx⟩ := vals1 r
  subst eu
  cases rx
  obtain ⟨z, lo, vs, rel, dd⟩ := dk_rd I.hok hd
  obtain ⟨ep, hat⟩ := dd.dictAt
  have hkeys : vs.map (·.1) = ks.map Sum.inl := rel.keys.symm.trans hks
  have hl : vs.length = ks.length := by
    have e := congrArg List.length hkeys
    rw [List.length_map, List.length_map] at e
    exact e
  have h16 : vs.length ≤ sizeLine := by rw [← rel.length]; exact z
  refine PySem.W.kdl_call (PySem.W.kdl_dict (knd := mixKind X.prog X.w) (kvs := vs) (ep := ep) lo) (I.ok.hd hcalm) hat h16 fun h' tk acc c' hk hD hacc => ?_
  have hal : acc.toList.length = ks.length := by rw [Array.length_toList, hacc.1, hl]
  have hS : IntsAre acc.toList ks := ints_each hal fun j v e => by
    obtain ⟨k, x, e1, e2⟩ := hacc.2 j v (by rw [← Array.getElem?_toList]; exact e)
    have e3 : (vs.map (·.1))[j]? = some k := by rw [List.getElem?_map, e1]; rfl
    rw [hkeys, List.getElem?_map] at e3
    cases e4 : ks[j]? with
    | none => rw [e4] at e3; cases e3
    | some y =>
      rw [e4] at e3
      have e5 : Sum.inl y = k := Option.some.inj e3
      subst e5
      rcases keyIs_shape (show keyIs (Sum.inl y) v = true from e2) with ⟨i, t, ek, ev⟩ | ⟨z, t, ek, ev⟩
      · cases ek
        exact ⟨y, t, rfl, ev⟩
      · cases ek
  have hz : (ks.map V.int).length ≤ sizeLine := by rw [List.length_map, ← hl]; exact h16
  exact ⟨.ref s.heap.objs.size, _, I.laid (t' := tk) hk (Nat.le_refl _) (show ObjOk X.prog X.w _ h' _ (.lst (ks.map V.int)) from ⟨hz, acc.toList, c', vals_of_ints hS, by rw [Array.toArray_toList]; exact hD⟩), rfl, q _ (I.hok.fresh (Nat.le_refl _))⟩
theorem en_listDI {p : Pos} {β : Type} [Rp β] {kvs : List (Int × β)} (hc : X.calm = true) (hm : X.mg "list" = none) (ha : EV X Γ a (DV.mk kvs)) (hg : Gl X "list" := by rfl) (he : starEach [a] X.env = (false, eval a X.env) :: starEach [] X.env := by rfl) (hpl : (backTo pos (starEach [] X.env)).any (·.1) = false := by rfl) :
    EN X Γ (.Call (.Name "list" p) [a] [] pos) (ML.mk (kvs.map (·.1))) := ⟨fun B G H σ hB hgh l Q q =>
  we (pe_callTy (cr_listDI hc) hg hm (by decide +kernel) pa (by decide) (by decide) he hpl) (ea_cons ha ea_nil he B G H σ hB hgh l _ fun vs G1 H1 g1 r1 => by
    cases r1 with
    | cons r1 t =>
      cases t
      obtain ⟨p, ws, rfl, hr, dr⟩ := r1
      exact ⟨p, ws, kvs.map (·.1), rfl, rdMono g1.gh hr, dr.keys, fun l hl => q (.ref l) [l] G1 _ (g1.trans (Grow.own g1.gh hl)) (one_new (g1.h.free hl) (g1.gh.free hl)) ⟨l, _, rfl, rfl, upd_same, ints_reps _⟩⟩)⟩
/-- xs.insert(z, e) -/
theorem sv_insL (i : Nat) {α : Type} [Rp α] {xs : List α} {x : α} {z : Int} {c e0 e : Expr} (hp : PE X c (tBM X.K "list" rInsert (tVar i) (tCons (WE X e0) (tCons (WE X e) tNil)))) (h0 : Γ[i]? = some (.l xs)) (h2 : EV X Γ e0 z) (h : EV X Γ e x) (hz : 0 ≤ z ∧ z < 2 ^ 63 ∧ xs.length < 10000000) (hs : swapsWith c none pos.line X.env = pure false := by rfl) :
    SV X Γ (.Expr c pos) (.nx (Γ.set i (.l (insL xs z x)))) := ⟨fun B G H σ D hB hg l k => by
  obtain ⟨F, p, vs, lf, hF, e1, hbp, hgp, hh, r⟩ := ownL l h0
  refine ws (ps_expr hp hs) ⟨_, e1, .inl ⟨rfl, _, .inl (.inl hh)⟩, ?_⟩
  refine h2 B G H σ hB hg l _ fun v0 G0 H0 g0 r0 => h B G0 H0 σ (hB.trans g0.h) g0.gh (l.grow g0) _ fun v G1 H1 g1 r1 => ?_
  have g := g0.trans g1
  have e0 : v0 = V.int z := r0
  subst e0
  refine ⟨p, vs, z, v, rfl, rfl, g.h _ _ hh, by rw [r.len]; exact Nat.lt_of_lt_of_le hz.2.2 (by decide), hz.1, hz.2.1, ?_⟩
  have hgp1 := (g.fr p _ hh).trans hgp
  exact k G1 _ ((g.step hB).trans (Stp.mutL (hB.trans g.h) g.gh hbp hgp1)) σ ((lf.grow g).mutL h0 hF e1 hbp hgp1 (paired_app (paired_app (paired_take _ (r.mono g.g)) (.cons r1 .nil)) (paired_drop _ (r.mono g.g))))⟩
/-- t[r][c] = e of one's own table -/
theorem sv_setT (i : Nat) {α : Type} [Rp α] {rows : List (List α)} {r c : Int} {x : α} {e1 e2 e3 : Expr} (hp : PS X st (tAsg (WE X e3) (gSub (tOp (rIxL X.K) (tVar i) (WE X e1)) (WE X e2) rSetL))) (h0 : Γ[i]? = some (.o (MT.mk rows))) (h3 : EV X Γ e3 x) (h1 : EV X Γ e1 r) (h2 : EV X Γ e2 c)
    (hr : 0 ≤ r ∧ r < (rows.length : Int)) (hc : 0 ≤ c ∧ c < ((rows.getD r.toNat []).length : Int)) : SV X Γ st (.nx (Γ.set i (.o (MT.mk (rows.set r.toNat ((rows.getD r.toNat []).set c.toNat x)))))) := ⟨fun B G H σ D hB hg l k => by
  obtain ⟨F, v, lf, ev, hf, p, qs, rfl, hF, hnd, hp', hrows⟩ := own_at l h0
  have hrow : rows[r.toNat]? = some (rows.getD r.toNat []) := by
    have h : r.toNat < rows.length := by omega
    rw [List.getD_eq_getElem?_getD, List.getElem?_eq_getElem h]; rfl
  generalize rows.getD r.toNat [] = row at *
  obtain ⟨q, hq, vs, hvs, rvs⟩ := paired_get2 hrows r.toNat row hrow
  refine ws hp (h3 B G H σ hB hg l _ fun v3 G3 H3 g3 r3 => ?_)
  refine ⟨_, ev, h1 B G3 H3 σ (hB.trans g3.h) g3.gh (l.grow g3) _ fun v1 G1 H1 g1 r1 => ?_⟩
  refine ⟨p, qs.map V.ref, r, .ref q, rfl, r1, .inl (.inl ((g3.trans g1).h _ _ hp')), ?_, ?_⟩
  · have hi : ((r.toNat : Nat) : Int) = r := by omega
    rw [← hi]; exact atI_nat (by rw [List.getElem?_map, hq]; rfl)
  · have g31 := g3.trans g1
    refine h2 B G1 H1 σ (hB.trans g31.h) g1.gh (l.grow g31) _ fun v2 G2 H2 g2 r2 => ?_
    have g := g31.trans g2
    refine ⟨q, vs, c, c.toNat, rfl, r2, g.h _ _ hvs, ?_, ?_⟩
    · have := rvs.len
      unfold ixN
      rw [if_pos hc.1, if_pos (by omega)]
    · obtain ⟨s1, s2⟩ := mt_mut (row := row.set c.toNat x) lf h0 ev hf hF hnd hp' hrows g hB hq (paired_set (Rp.mono (g1.trans g2).g r3) _ (rvs.mono g.g))
      exact k G2 _ s1 σ s2⟩
theorem nodup_set {qs : List Addr} {q : Addr} (h : qs.Nodup) (hq : q ∉ qs) (r : Nat) : (qs.set r q).Nodup := by
  induction qs generalizing r with
  | nil => exact h
  | cons a t ih =>
    obtain ⟨h1, h2⟩ := List.nodup_cons.mp h
    cases r with
    | zero => exact List.nodup_cons.mpr ⟨fun z => hq (List.mem_cons_of_mem _ z), h2⟩
    | succ n =>
      refine List.nodup_cons.mpr ⟨fun z => ?_, ih h2 (fun z => hq (List.mem_cons_of_mem _ z)) n⟩
      rcases List.mem_or_eq_of_mem_set z with z | z
      · exact h1 z
      · exact hq (by rw [z]; simp)
theorem rows_put {α : Type} [Rp α] {K : PySem.W.Frag} {G H : Hp} {row : List α} {q : Addr} (hq : ∃ vs, H q = some (.lst vs) ∧ Reps K G vs row) : ∀ {qs : List Addr} {rows : List (List α)} (r : Nat), RowsOk K G H qs rows → RowsOk K G H (qs.set r q) (rows.set r row)
  | _, _, _, .nil => .nil
  | _, _, 0, .cons _ t => .cons hq t
  | _, _, n + 1, .cons x t => .cons x (rows_put hq n t)
/-- t[r] = a new list, of one's own table -/
theorem sv_setRow (i : Nat) {α : Type} [Rp α] {rows : List (List α)} {row : List α} {r : Int} {e1 e2 : Expr} (hp : PS X st (tAsg (WE X e2) (gSub (tVar i) (WE X e1) rSetL))) (h0 : Γ[i]? = some (.o (MT.mk rows))) (h2 : EN X Γ e2 (ML.mk row)) (h1 : EV X Γ e1 r) (hr : 0 ≤ r ∧ r < (rows.length : Int)) :
    SV X Γ st (.nx (Γ.set i (.o (MT.mk (rows.set r.toNat row))))) := ⟨fun B G H σ D hB hg l k => by
  obtain ⟨F, v, lf, ev, hf, p, qs, rfl, hF, hnd, hp', hrows⟩ := own_at l h0
  refine ws hp (h2 B G H σ hB hg l _ fun v1 fp1 G1 H1 g1 hf1 ok1 => ?_)
  obtain ⟨q, vs, rfl, rfl, hh, rr⟩ := ok1
  obtain ⟨n1, n2, _⟩ := hf1 q (by simp)
  refine ⟨_, ev, h1 B G1 H1 σ (hB.trans g1.h) g1.gh (l.grow g1) _ fun u G2 H2 g2 r2 => ?_⟩
  have g := g1.trans g2
  have hlen : qs.length = rows.length := Paired.length hrows
  refine ⟨p, qs.map V.ref, r, r.toNat, rfl, r2, g.h _ _ hp', ?_, ?_⟩
  · unfold ixN
    rw [if_pos hr.1, List.length_map, if_pos (by omega)]
  have lg := lf.grow g
  have hqF : q ∉ F i := fun z => by
    obtain ⟨_, _, ho, e⟩ := hf q z
    rw [e] at n1; cases n1
  have hqp : q ≠ p := fun z => hqF (by rw [hF, z]; simp)
  have hbq : B q = none := hB.free n1
  have hf3 : ∀ a ∈ F i, B a = none ∧ G2 a = none := fun a ha => by
    obtain ⟨q1, q2, ho, q3⟩ := hf a ha
    exact ⟨q1, (g.fr a ho q3 (lf.nt h0 a ha ho q3)).trans q2⟩
  have hG2q : G2 q = none := (g2.fr q _ hh).trans n2
  have hh2 := g2.h _ _ hh
  have eset : (qs.map V.ref).set r.toNat (.ref q) = (qs.set r.toNat q).map V.ref := by rw [List.map_set]
  rw [eset]
  have hk : ∀ a, a ∉ F i → ∀ o, H2 a = some o → upd H2 p (.lst ((qs.set r.toNat q).map V.ref)) a = some o := fun a ha o e => by
    rw [upd_ne (fun z => ha (by rw [z, hF]; simp))]; exact e
  have hpF : p ∈ F i := by rw [hF]; simp
  rw [hF] at hnd
  obtain ⟨hn1, hn2⟩ := List.nodup_cons.mp hnd
  have hqq : q ∉ qs := fun z => hqF (by rw [hF]; exact List.mem_cons_of_mem _ z)
  refine k G2 _ ((g.step hB).trans (Stp.mut (hB.trans g.h) g.gh hf3 hk)) σ (lg.mut2 (fp := p :: qs.set r.toNat q) (d' := ot (MT.mk (rows.set r.toNat row))) h0 ev (fun a ha _ => hk a ha) (fun a ha => ?_) ?_)
  · have inF : a ∈ F i → (∀ j s, Γ[j]? = some s → j ≠ i → s.isOwn = true → a ∉ F j) := fun z j s e hj hs y => lf.sep j i _ _ hj e h0 hs rfl a y z
    have ha : a = p ∨ a ∈ qs ∨ a = q := by
      rcases List.mem_cons.mp ha with z | z
      · exact .inl z
      · exact .inr (List.mem_or_eq_of_mem_set z)
    rcases ha with z | z | z
    · subst z
      exact ⟨inF hpF, (hf3 a hpF).1, (hf3 a hpF).2, _, upd_same⟩
    · have haF : a ∈ F i := by rw [hF]; exact List.mem_cons_of_mem _ z
      obtain ⟨q1, q2, ho, q3⟩ := hf a haF
      refine ⟨inF haF, q1, (hf3 a haF).2, ho, ?_⟩
      have hap : a ≠ p := fun y => by subst y; exact hn1 z
      rw [upd_ne hap]; exact g.h _ _ q3
    · subst z
      refine ⟨fun j s e hj hs ha => ?_, hbq, hG2q, _, by rw [upd_ne hqp]; exact hh2⟩
      obtain ⟨o, h1, h2⟩ := lf.ok j s e
      cases s with
      | any => cases hs
      | val _ => cases hs
      | own d2 =>
        obtain ⟨_, _, hf2, _⟩ := h2
        obtain ⟨_, _, ho, e3⟩ := hf2 a ha
        rw [e3] at n1; cases n1
  · refine ⟨p, qs.set r.toNat q, rfl, rfl, List.nodup_cons.mpr ⟨fun z => ?_, nodup_set hn2 hqq _⟩, upd_same, ?_⟩
    · rcases List.mem_or_eq_of_mem_set z with z | z
      · exact hn1 z
      · exact hqp z.symm
    · refine rows_put ⟨vs, by rw [upd_ne hqp]; exact hh2, rr.mono g2.g⟩ _ (hrows.mono g.g fun a ha => ?_)
      obtain ⟨_, _, ho, q3⟩ := hf a (by rw [hF]; exact List.mem_cons_of_mem _ ha)
      have hap : a ≠ p := fun y => by subst y; exact hn1 ha
      rw [upd_ne hap, g.h _ _ q3, q3]⟩
end
/-! ### an own pair of lists -/
structure MP (α : Type) where
  w : T2 (List α) (List α)
instance {α : Type} [Rp α] : Ow (MP α) := ⟨fun K G H v fp x => ∃ t p q us vs, v = .ref t ∧ fp = [p, q] ∧ SqT K G t [.ref p, .ref q] ∧ p ≠ q ∧ H p = some (.lst us) ∧ H q = some (.lst vs) ∧ Reps K G us x.w.a ∧ Reps K G vs x.w.b, fun e eh h => by
  obtain ⟨t, p, q, us, vs, h0, h1, ht, hn, h2, h3, r, r'⟩ := h
  subst h1
  exact ⟨t, p, q, us, vs, h0, rfl, seqT e ht, hn, by rw [eh p (by simp)]; exact h2, by rw [eh q (by simp)]; exact h3, r.mono e, r'.mono e⟩, fun h a ha o e => by
  obtain ⟨t, p, q, us, vs, _, rfl, _, _, h2, h3, _⟩ := h
  have ha : a = p ∨ a = q := by simpa using ha
  rcases ha with z | z
  · rw [z, h2] at e; cases e; exact nt_lst
  · rw [z, h3] at e; cases e; exact nt_lst⟩
instance {α : Type} [Rp α] : Fz (MP α) (T2 (List α) (List α)) := ⟨MP.w, fun {K G H v fp x} hf h => by
  obtain ⟨t, p, q, us, vs, rfl, rfl, ht, hn, h2, h3, r, r'⟩ := h
  have hs := gl_up (H := H) hf
  exact ⟨t, _, _, rfl, seqT hs ht, ⟨p, us, rfl, SqL.of (by rw [gl_in (by simp)]; exact h2), r.mono hs⟩, ⟨q, vs, rfl, SqL.of (by rw [gl_in (by simp)]; exact h3), r'.mono hs⟩⟩⟩
/-- a pair with one side put -/
def putP {α : Type} (w : T2 (List α) (List α)) (k : Int) (ys : List α) : T2 (List α) (List α) := bif decide (k = 0) then ⟨ys, w.b⟩ else ⟨w.a, ys⟩
section
variable {X : Cx} {Γ Γ' : List Slot} {st : Stmt} {sts els rest : List Stmt} {a b c d e tg iter elt : Expr} {es elts ifs : List Expr} {pos : Pos} {o : Out}
/-- (xs, ys) of two new lists -/
theorem en_mp {α : Type} [Rp α] {xs ys : List α} {n : Nat} (ha : EN X Γ a (ML.mk xs)) (hb : EN X Γ b (ML.mk ys)) (hs : starEach [a, b] X.env = (false, eval a X.env) :: starEach [b] X.env := by rfl) (hs2 : starEach [b] X.env = (false, eval b X.env) :: starEach [] X.env := by rfl) :
    EN X Γ (.Tuple [a, b] n pos) (MP.mk ⟨xs, ys⟩) := ⟨fun B G H σ hB hg l Q q =>
  we (pe_tup (pa_cons pe (pa_cons pe pa_nil hs2) hs)) (ha B G H σ hB hg l _ fun v1 fp1 G1 H1 g1 hf1 ok1 => hb B G1 H1 σ (hB.trans g1.h) g1.gh (l.grow g1) _ fun v2 fp2 G2 H2 g2 hf2 ok2 => by
    obtain ⟨p, us, rfl, rfl, h1, r1⟩ := ok1
    obtain ⟨p2, vs, rfl, rfl, h2, r2⟩ := ok2
    obtain ⟨a1, a2, _⟩ := hf1 p (by simp)
    obtain ⟨b1, b2, _⟩ := hf2 p2 (by simp)
    have h1' := g2.h _ _ h1
    have hne : p ≠ p2 := fun z => by subst z; rw [h1] at b1; cases b1
    refine ⟨Nat.le_trans (show [V.ref p, V.ref p2].length ≤ 2 from Nat.le_refl _) (by decide), fun t ht => ?_⟩
    have gt := Grow.new (o := .tup [.ref p, .ref p2]) g2.gh ht
    have nt1 : t ≠ p := fun z => by subst z; rw [h1'] at ht; cases ht
    have nt2 : t ≠ p2 := fun z => by subst z; rw [h2] at ht; cases ht
    refine q (.ref t) [p, p2] _ _ ((g1.trans g2).trans gt) (fun a ha => ?_) ⟨t, p, p2, us, vs, rfl, rfl, SqT.of upd_same, hne, by rw [upd_ne (Ne.symm nt1)]; exact h1', by rw [upd_ne (Ne.symm nt2)]; exact h2, r1.mono (g2.trans gt).g, r2.mono gt.g⟩
    have : a = p ∨ a = p2 := by simpa using ha
    rcases this with rfl | rfl
    · exact ⟨a1, by rw [upd_ne (Ne.symm nt1)]; exact (g2.fr _ _ h1).trans a2, _, by rw [upd_ne (Ne.symm nt1)]; exact h1'⟩
    · exact ⟨g1.h.free b1, by rw [upd_ne (Ne.symm nt2)]; exact b2, _, by rw [upd_ne (Ne.symm nt2)]; exact h2⟩)⟩
/-- t[k][c] = e of one's own pair -/
theorem sv_setP2 (i : Nat) {α : Type} [Rp α] {w : T2 (List α) (List α)} {r c : Int} {x : α} {e1 e2 e3 : Expr} (hp : PS X st (tAsg (WE X e3) (gSub (tOp (rIxT X.K) (tVar i) (WE X e1)) (WE X e2) rSetL))) (h0 : Γ[i]? = some (.o (MP.mk w))) (h3 : EV X Γ e3 x) (h1 : EV X Γ e1 r) (h2 : EV X Γ e2 c)
    (hr : 0 ≤ r ∧ r < 2) (hc : 0 ≤ c ∧ c < ((w.list.getD r.toNat []).length : Int)) : SV X Γ st (.nx (Γ.set i (.o (MP.mk (putP w r ((w.list.getD r.toNat []).set c.toNat x)))))) := ⟨fun B G H σ D hB hg l k => by
  obtain ⟨F, v, lf, ev, hf, t, p, q, us, vs, rfl, hF, ht, hn, hh1, hh2, r1, r2⟩ := own_at l h0
  have hp1 := hf p (by rw [hF]; simp)
  have hq1 := hf q (by rw [hF]; simp)
  refine ws hp (h3 B G H σ hB hg l _ fun v3 G3 H3 g3 r3 => ?_)
  refine ⟨_, ev, h1 B G3 H3 σ (hB.trans g3.h) g3.gh (l.grow g3) _ fun v1 G1 H1 g1 rv1 => ?_⟩
  have g31 := g3.trans g1
  have ht1 : SqT X.K H1 t [.ref p, .ref q] := seqT (g31.g.trans g31.gh) ht
  have hr' : r = 0 ∨ r = 1 := by omega
  rcases hr' with rfl | rfl
  · refine ⟨t, _, 0, .ref p, rfl, rv1, ht1, rfl, ?_⟩
    refine h2 B G1 H1 σ (hB.trans g31.h) g1.gh (l.grow g31) _ fun v2 G2 H2 g2 rv2 => ?_
    have g := g31.trans g2
    have n1 := g.h _ _ hh1
    have n2 := g.h _ _ hh2
    have hP2 : G2 p = none := (g.fr p _ hh1).trans hp1.2.1
    have hQ2 : G2 q = none := (g.fr q _ hh2).trans hq1.2.1
    refine ⟨p, us, c, c.toNat, rfl, rv2, n1, ?_, ?_⟩
    · have := r1.len
      unfold ixN
      have hc2 : c < (w.a.length : Int) := hc.2
      have this : us.length = w.a.length := this
      rw [if_pos hc.1, if_pos (by omega)]
    · refine k G2 _ ((g.step hB).trans (Stp.mutL (hB.trans g.h) g.gh hp1.1 hP2)) σ ?_
      refine (lf.grow g).mut (fp := [p, q]) (d' := ot (MP.mk (putP w 0 (w.a.set c.toNat x)))) h0 ev (fun a ha o e => by rw [upd_ne (fun z => ha (by rw [hF, z]; simp))]; exact e) (fun a ha => ?_) ⟨t, p, q, _, vs, rfl, rfl, seqT g.g ht, hn, upd_same, by rw [upd_ne (Ne.symm hn)]; exact n2, paired_set (Rp.mono (g1.trans g2).g r3) _ (r1.mono g.g), r2.mono g.g⟩
      have : a = p ∨ a = q := by simpa using ha
      rcases this with rfl | rfl
      · exact ⟨.inl (by rw [hF]; simp), hp1.1, hP2, _, upd_same⟩
      · exact ⟨.inl (by rw [hF]; simp), hq1.1, hQ2, _, by rw [upd_ne (Ne.symm hn)]; exact n2⟩
  · refine ⟨t, _, 1, .ref q, rfl, rv1, ht1, rfl, ?_⟩
    refine h2 B G1 H1 σ (hB.trans g31.h) g1.gh (l.grow g31) _ fun v2 G2 H2 g2 rv2 => ?_
    have g := g31.trans g2
    have n1 := g.h _ _ hh1
    have n2 := g.h _ _ hh2
    have hP2 : G2 p = none := (g.fr p _ hh1).trans hp1.2.1
    have hQ2 : G2 q = none := (g.fr q _ hh2).trans hq1.2.1
    refine ⟨q, vs, c, c.toNat, rfl, rv2, n2, ?_, ?_⟩
    · have := r2.len
      unfold ixN
      have hc2 : c < (w.b.length : Int) := hc.2
      have this : vs.length = w.b.length := this
      rw [if_pos hc.1, if_pos (by omega)]
    · refine k G2 _ ((g.step hB).trans (Stp.mutL (hB.trans g.h) g.gh hq1.1 hQ2)) σ ?_
      refine (lf.grow g).mut (fp := [p, q]) (d' := ot (MP.mk (putP w 1 (w.b.set c.toNat x)))) h0 ev (fun a ha o e => by rw [upd_ne (fun z => ha (by rw [hF, z]; simp))]; exact e) (fun a ha => ?_) ⟨t, p, q, us, _, rfl, rfl, seqT g.g ht, hn, by rw [upd_ne hn]; exact n1, upd_same, r1.mono g.g, paired_set (Rp.mono (g1.trans g2).g r3) _ (r2.mono g.g)⟩
      have : a = p ∨ a = q := by simpa using ha
      rcases this with rfl | rfl
      · exact ⟨.inl (by rw [hF]; simp), hp1.1, hP2, _, by rw [upd_ne hn]; exact n1⟩
      · exact ⟨.inl (by rw [hF]; simp), hq1.1, hQ2, _, upd_same⟩⟩
/-- return x, an own thing -/
theorem bv_retOwn (i : Nat) {τ : Type} [Ow τ] {x : τ} (hp : PE X e (tVar i)) (h0 : Γ[i]? = some (.o x)) : BV X Γ (.Return (some e) pos :: sts) (.ro (ot x)) := bv_out (⟨fun B G H σ D hB hg l k => by
  obtain ⟨F, v, lf, e1, hf, ok⟩ := own_at l h0
  exact ws (ps_ret hp) ⟨v, e1, k G H (Stp.refl hB hg) v (F i) hf ok⟩⟩ : SV X Γ (.Return (some e) pos) _) trivial
end
end Wl
namespace Wl
open PySem PySem.Spec PyProof.Rows L2
section
variable {X : Cx} {Γ Γ' : List Slot} {st : Stmt} {sts els rest : List Stmt} {a b c d e tg iter elt : Expr} {es elts ifs : List Expr} {pos : Pos} {o : Out}
/-- {k: v, k2: v2} -/
theorem en_disp2 {a2 b2 : Expr} {β : Type} [Rp β] {k k2 : Int} {v v2 : β} (hp : PE X c (tDisp [(WE X a, WE X b), (WE X a2, WE X b2)])) (h1 : EV X Γ a k) (h2 : EV X Γ b v) (h3 : EV X Γ a2 k2) (h4 : EV X Γ b2 v2) : EN X Γ c (MD.mk (dput [(k, v)] k2 v2)) := ⟨fun B G H σ hB hg l Q q =>
  we hp fun p hn => by
    have g0 := Grow.own (o := .dK []) hg hn
    show WE X a σ _ _
    refine h1 B G _ σ (hB.trans g0.h) g0.gh (l.grow g0) _ fun x G1 H1 g1 r1 => ?_
    have ga := g0.trans g1
    refine h2 B G1 H1 σ (hB.trans ga.h) g1.gh (l.grow ga) _ fun y G2 H2 g2 r2 => ?_
    have gb := ga.trans g2
    show WE X a2 σ _ _
    refine h3 B G2 H2 σ (hB.trans gb.h) g2.gh (l.grow gb) _ fun x3 G3 H3 g3 r3 => ?_
    have gc := gb.trans g3
    refine h4 B G3 H3 σ (hB.trans gc.h) g3.gh (l.grow gc) _ fun y4 G4 H4 g4 r4 => ?_
    have g := gc.trans g4
    have e2 : H4 p = some (.dK []) := (((g1.trans g2).trans g3).trans g4).h _ _ upd_same
    have hgp : G4 p = none := ((((g1.trans g2).trans g3).trans g4).fr p _ upd_same).trans (hg.free hn)
    refine ⟨e2, [(Sum.inl k, y), (Sum.inl k2, y4)], by rw [show x = V.int k from r1, show x3 = V.int k2 from r3]; rfl, Nat.le_of_ble_eq_true rfl, q (.ref p) [p] G4 _ ⟨g.g, fun b u e => ?_, fun b u e => ?_, g.fr0⟩ (one_new hn hgp) ⟨p, _, rfl, rfl, upd_same, ?_⟩⟩
    · rw [upd_ne (ne_of_none e hn)]; exact g.h b u e
    · rw [upd_ne (ne_of_none e hgp)]; exact g.gh b u e
    · have d1 : DRep X.K G4 [(Sum.inl k, y)] [(k, v)] := .cons ⟨rfl, Rp.mono (g3.trans g4).g r2⟩ .nil
      exact d1.put k2 r4⟩
end
end Wl

set_option maxRecDepth 100000
set_option maxHeartbeats 2000000
/-! data that are ordered: <, min, max of tuples -/
namespace Wl
open PySem PySem.Spec PyProof.Rows L2
class DLt (α : Type) [Rp α] [DEq α] where
  lt : α → α → Bool
  alike : ∀ a b : α, PySem.W.alike (DEq.toD a) (DEq.toD b) = true
  notNone : ∀ a : α, DEq.toD a ≠ .none
  lt_eq : ∀ a b : α, PySem.W.dataLt (DEq.toD a) (DEq.toD b) = lt a b
instance : DLt Int := ⟨fun a b => decide (a < b), fun a b => by show PySem.W.alike (.int a) (.int b) = true; simp only [PySem.W.alike], fun a e => (by cases e), fun a b => PySem.W.dataLt_int a b⟩
theorem eqv_no {α : Type} [Rp α] [DEq α] {x y : α} (h : x ≠ y) : PyData.eqv (DEq.toD x) (DEq.toD y) = false := by
  cases e : PyData.eqv (DEq.toD x) (DEq.toD y) with
  | false => rfl
  | true => exact absurd ((DEq.eqv x y).mp e) h
def ltT2 {α β : Type} [DecidableEq α] (f : α → α → Bool) (g : β → β → Bool) (p q : T2 α β) : Bool := if p.a = q.a then g p.b q.b else f p.a q.a
instance {α β : Type} [Rp α] [Rp β] [DecidableEq α] [DecidableEq β] [DEq α] [DEq β] [DLt α] [DLt β] : DLt (T2 α β) := ⟨ltT2 DLt.lt DLt.lt, fun p q => by
    show PySem.W.alike (.tuple [_, _]) (.tuple [_, _]) = true
    simp only [PySem.W.alike, PySem.W.alikeAll, DLt.alike, Bool.and_self], fun a e => (by cases e), fun p q => by
    refine (PySem.W.dataLt_tuple _ _).trans ?_
    unfold ltT2
    by_cases h : p.a = q.a
    · rw [if_pos h, PySem.W.dataLt_all_yes (DLt.alike p.a q.a) ((DEq.eqv p.a q.a).mpr h)]
      by_cases h2 : p.b = q.b
      · rw [PySem.W.dataLt_all_yes (DLt.alike p.b q.b) ((DEq.eqv p.b q.b).mpr h2), lex_irrefl, h2]
        exact ((PySem.W.dataLt_self _).symm.trans (DLt.lt_eq q.b q.b))
      · rw [PySem.W.dataLt_all_no (DLt.alike p.b q.b) (eqv_no h2)]
        exact DLt.lt_eq p.b q.b
    · rw [if_neg h, PySem.W.dataLt_all_no (DLt.alike p.a q.a) (eqv_no h)]
      exact DLt.lt_eq p.a q.a⟩
/-- the first of the least, of the greatest, of x :: xs -/
def minF {α : Type} (lt : α → α → Bool) (x : α) (xs : List α) : α := xs.foldl (fun a y => if lt y a = true then y else a) x
def maxF {α : Type} (lt : α → α → Bool) (x : α) (xs : List α) : α := xs.foldl (fun a y => if lt a y = true then y else a) x
section
variable {X : Cx} {Γ Γ' : List Slot} {st : Stmt} {sts els rest : List Stmt} {a b c d e tg iter elt : Expr} {es elts ifs : List Expr} {pos : Pos} {o : Out}
/-- a < b -/
theorem op_ltD {α : Type} [Rp α] [DEq α] [DLt α] (hu : X.A.units + 64 < cLine) (hn : DEq.n α ≤ 60) : OpR X (compareOp .Lt) (fun x y H Q => ∃ s t : α, Dp X.K H x (DEq.toD s) ∧ Dp X.K H y (DEq.toD t) ∧ Q (.bl (DLt.lt s t)) H) := by
  intro pins s σ H x y v u Q I rx ry h
  obtain ⟨z, t, hd, he, q⟩ := h
  obtain ⟨as, r1⟩ := Dp.reads I _ x v hd rx
  obtain ⟨bs, r2⟩ := Dp.reads I _ y u he ry
  have d1 := DEq.dep z
  refine PySem.W.lt_data r1 r2 (DLt.alike z t) (DLt.notNone z) ?_ ⟨.bl (DLt.lt z t), H, I, by rw [DLt.lt_eq]; rfl, q⟩
  have := Nat.min_le_left (DEq.toD z).depth (DEq.toD t).depth
  omega
theorem ev_ltD {α : Type} [Rp α] [DEq α] [DLt α] {x y : α} (hu : X.A.units + 64 < cLine) (ha : EV X Γ a x) (hb : EV X Γ b y) (hn : DEq.n α ≤ 60 := by decide) : EV X Γ (.Compare a [.Lt] [b] pos) (DLt.lt x y) :=
  ev_cmp (op_ltD (α := α) hu hn) (nomark _) ha hb fun G H v u hg hv hw Q q => ⟨x, y, DEq.dp (Rp.mono hg hv), DEq.dp (Rp.mono hg hw), q G H (Grow.refl hg)⟩
theorem et_ltD {α : Type} [Rp α] [DEq α] [DLt α] {x y : α} (hu : X.A.units + 64 < cLine) (ha : EV X Γ a x) (hb : EV X Γ b y) (hn : DEq.n α ≤ 60 := by decide) : ET X Γ (.Compare a [.Lt] [b] pos) (DLt.lt x y) :=
  et_cmp (op_ltD (α := α) hu hn) (nomark _) ha hb fun G H v u hg hv hw Q q => ⟨x, y, DEq.dp (Rp.mono hg hv), DEq.dp (Rp.mono hg hw), q G H (Grow.refl hg)⟩
theorem alikeD {α : Type} [Rp α] [DEq α] [DLt α] (xs : List α) : PySem.W.AlikeAll (xs.map DEq.toD) := by
  constructor
  · intro x hx y hy
    obtain ⟨a, _, rfl⟩ := List.mem_map.mp hx
    obtain ⟨b, _, rfl⟩ := List.mem_map.mp hy
    exact DLt.alike a b
  · intro x hx
    obtain ⟨a, _, rfl⟩ := List.mem_map.mp hx
    exact DLt.notNone a
theorem btD {α : Type} [Rp α] [DEq α] [DLt α] (x : α) (xs : List α) : ∀ k, k ≤ xs.length →
    argBest (fun i j => PySem.W.dataLt (((x :: xs).map DEq.toD).getD i .none) (((x :: xs).map DEq.toD).getD j .none)) k = argBest (fun i j => DLt.lt ((x :: xs).getD i x) ((x :: xs).getD j x)) k ∧ argBest (fun i j => DLt.lt ((x :: xs).getD i x) ((x :: xs).getD j x)) k ≤ k
  | 0, _ => ⟨rfl, Nat.le_refl _⟩
  | k + 1, hk => by
    obtain ⟨i1, i2⟩ := btD x xs k (Nat.le_of_succ_le hk)
    have g : ∀ i, i < (x :: xs).length → ((x :: xs).map DEq.toD).getD i .none = DEq.toD ((x :: xs).getD i x) := fun i hi => by
      rw [List.getD_eq_getElem?_getD, List.getD_eq_getElem?_getD, List.getElem?_map, List.getElem?_eq_getElem hi]; rfl
    unfold argBest
    rw [i1, g (k + 1) (by rw [List.length_cons]; omega), g _ (by rw [List.length_cons]; omega), DLt.lt_eq]
    refine ⟨rfl, ?_⟩
    split
    · exact Nat.le_refl _
    · omega
theorem btG {α : Type} [Rp α] [DEq α] [DLt α] (x : α) (xs : List α) : ∀ k, k ≤ xs.length →
    argBest (fun i j => PySem.W.dataLt (((x :: xs).map DEq.toD).getD j .none) (((x :: xs).map DEq.toD).getD i .none)) k = argBest (fun i j => DLt.lt ((x :: xs).getD j x) ((x :: xs).getD i x)) k ∧ argBest (fun i j => DLt.lt ((x :: xs).getD j x) ((x :: xs).getD i x)) k ≤ k
  | 0, _ => ⟨rfl, Nat.le_refl _⟩
  | k + 1, hk => by
    obtain ⟨i1, i2⟩ := btG x xs k (Nat.le_of_succ_le hk)
    have g : ∀ i, i < (x :: xs).length → ((x :: xs).map DEq.toD).getD i .none = DEq.toD ((x :: xs).getD i x) := fun i hi => by
      rw [List.getD_eq_getElem?_getD, List.getD_eq_getElem?_getD, List.getElem?_map, List.getElem?_eq_getElem hi]; rfl
    unfold argBest
    rw [i1, g (k + 1) (by rw [List.length_cons]; omega), g _ (by rw [List.length_cons]; omega), DLt.lt_eq]
    refine ⟨rfl, ?_⟩
    split
    · exact Nat.le_refl _
    · omega
/-- min(xs) -/
theorem cr_minD {α : Type} [Rp α] [DEq α] [DLt α] (hc : X.calm = true) (hu : X.A.units + 64 < cLine) (hn : DEq.n α ≤ 60) : CallR X (.builtin "min") (fun vs H Q => ∃ (a : Addr) (ws : List V) (x : α) (xs : List α), vs = [.ref a] ∧ SqL X.K H a ws ∧ Reps X.K H ws (x :: xs) ∧
    ∀ (i : Nat) (w : V), ws[i]? = some w → (x :: xs)[i]? = some (minF DLt.lt x xs) → Q w H) := by
  intro pins s σ H vs us Q I r h
  obtain ⟨a, ws, x, xs, rfl, hs, hr, q⟩ := h
  obtain ⟨its, rv, pl, hz⟩ := I.list hs
  rw [Vals.ref1 r]
  have hl : s.heap.IsList a its.toArray := pl.isList
  obtain ⟨as, hrd⟩ := Dp.readsAll I ((x :: xs).map DEq.toD) ws its (dpAll hr) rv
  have hlen : its.length = xs.length + 1 := by rw [← rv.length]; exact hr.len
  have hsz : its.toArray.size = xs.length + 1 := hlen
  refine PySem.call_min_walkH (PySem.W.iter_listW (A := X.A.in1) (I.ok.hd hc) hl fun s₂ e W st hfp hw hk => ?_)
  refine ⟨_, _, _, _, _, _, _, s.heap, _, rfl, W, st, hfp, by omega, hw, hk, PySem.W.cmpIn_lt (A := X.A.in1) (by rw [List.toList_toArray]; exact hrd) (alikeD (x :: xs)) (by have := depAll (x :: xs); show X.A.units + 1 + _ < _; omega), fun v s' hP m => ?_⟩
  obtain ⟨h', tk, rfl, hk'⟩ := PySem.W.moved_old e rfl m
  rw [show its.toArray.size - 1 = xs.length by omega, (btD x xs xs.length (Nat.le_refl _)).1] at hP
  obtain ⟨b1, b2⟩ := PySem.W.argBest_fold (fun a b => DLt.lt a b) x x xs xs.length (Nat.le_refl _)
  rw [List.take_length] at b2
  generalize argBest (fun i j => DLt.lt ((x :: xs).getD i x) ((x :: xs).getD j x)) xs.length = k at hP b1 b2
  have hv : its[k]? = some v := by simpa using hP
  obtain ⟨w, hw1, hw2⟩ := paired_get2 rv k v hv
  refine ⟨w, H, I.kept hk', hw2, q k w hw1 ?_⟩
  rw [List.getElem?_eq_getElem (by rw [List.length_cons]; omega)]
  rw [List.getD_eq_getElem?_getD, List.getElem?_eq_getElem (by rw [List.length_cons]; omega)] at b2
  exact congrArg some b2
theorem ev_minD {p : Pos} {α : Type} [Rp α] [DEq α] [DLt α] {x : α} {xs : List α} (hc : X.calm = true) (hu : X.A.units + 64 < cLine) (hm : X.mg "min" = none) (ha : EV X Γ a (x :: xs)) (hn : DEq.n α ≤ 60 := by decide) (hg : Gl X "min" := by rfl) (he : starEach [a] X.env = (false, eval a X.env) :: starEach [] X.env := by rfl) (hpl : (backTo pos (starEach [] X.env)).any (·.1) = false := by rfl) : EV X Γ (.Call (.Name "min" p) [a] [] pos) (minF DLt.lt x xs) :=
  ev_call1 (cr_minD (α := α) hc hu hn) hm (by decide +kernel) ha (fun G H v hgh r Q q => by
    obtain ⟨p, vs, rfl, hs, hr⟩ := r
    refine ⟨p, vs, x, xs, rfl, Same.seq hgh hs, hr.mono hgh, fun i w hw hi => ?_⟩
    obtain ⟨w', h1, h2⟩ := paired_get2 hr i _ hi
    have : w' = w := Option.some.inj (h1.symm.trans hw)
    subst this
    exact q _ G H (Grow.refl hgh) h2) hg (by decide) (by decide) he hpl
/-- max(a, b) of data -/
theorem call_max_twoH {prog : Program} {w : World} {A : Around} {E : Value → Shared → Prop} {s : Shared} {a b : Value} {Q : Value → Shared → Prop}
    (h : wpAny (model prog w) A.in1 (pyIter (.ref s.heap.objs.size)) (fun it s₂ => ∃ I fp wr G n P St H bt, it = .ref I ∧ WalksS prog w A.in1 I fp wr G n P St ∧ St 0 s₂ ∧ (∀ b ∈ fp, b < s₂.heap.objs.size) ∧ 0 < n ∧
      (∀ b o, H.get? b = some o → b ∉ wr) ∧ (∀ b o, H.get? b = some o → s₂.heap.get? b = some o) ∧ PySem.CmpIn prog w A.in1 .Gt H P bt ∧ ∀ v s', P (argBest bt (n - 1)) v → Moved wr G s₂ s' → Q v s') E
      { s with heap := s.heap.push { cls := .type "tuple", data := .seq #[a, b] } }) :
    wpAny (model prog w) A (call (.builtin "max") [a, b]) Q E s := by
  have hname : (toString "max" ++ toString ".loop" : String) = "max.loop" := by decide
  refine call_function_tree F.kind_max F.plain_max F.entry_max (F.args_max2 _ _) ?_
  show wpAny _ A.in1 (Builtin.Builtins.bindParams "max" ["key", "default"] 0 ⟨[], []⟩ >>= _) _ _ s
  refine wpAny_bind (wpAny_of_eq (show Builtin.Builtins.bindParams "max" ["key", "default"] 0 ⟨[], []⟩ = pure [none, none] from rfl) ?_)
  show wpAny _ A.in1 (newTuple [a, b] >>= _) _ _ s
  refine wpAny_bind (wpAny_newObj_type ?_)
  refine wpAny_bind (wpAny_mono h (fun it s₂ h₂ => ?_) fun _ _ e => e)
  obtain ⟨I, fp, wr, G, n, P, St, H, bt, rfl, W, hst, hfp, hn, hw, hkeep, hcmp, hQ⟩ := h₂
  refine wpAny_bind (wpAny_newObj_type ?_)
  have hSf : s₂.heap.objs.size ∉ fp := fun hm => Nat.lt_irrefl _ (hfp _ hm)
  rw [hname]
  refine wpAny_pure ⟨plainId_quiet F.plain_max_loop _, PySem.codeAny_max_loop_firstH W H hw bt hcmp s₂.heap.objs.size hSf (PySem.fresh_in hkeep) _ hn (fun b o e => Heap.get?_push_of_some _ (hkeep b o e)) (W.frame 0 s₂ _ s₂.toks hst (Nat.le_refl _) fun b _ o e => Heap.get?_push_of_some _ e) (Heap.get?_push_size _ rfl) fun v s' hP hm => ?_⟩
  exact hQ v s' hP (Moved.drop_new (tk := s₂.toks) hm (Nat.le_refl _))
theorem cr_max2D {α : Type} [Rp α] [DEq α] [DLt α] (hc : X.calm = true) (hu : X.A.units + 64 < cLine) (hn : DEq.n α ≤ 60) : CallR X (.builtin "max") (fun vs H Q => ∃ (v1 v2 : V) (x y : α), vs = [v1, v2] ∧ Dp X.K H v1 (DEq.toD x) ∧ Dp X.K H v2 (DEq.toD y) ∧ Q (if DLt.lt x y = true then v2 else v1) H) := by
  intro pins s σ H vs us Q I r h
  obtain ⟨v1, v2, x, y, rfl, d1, d2, q⟩ := h
  cases r with | cons r1 t => cases t with | cons r2 t => cases t with | nil =>
  rename_i u1 u2
  obtain ⟨as, hrd⟩ := Dp.readsAll I [DEq.toD x, DEq.toD y] [v1, v2] [u1, u2] (.cons d1 (.cons d2 .nil)) (.cons r1 (.cons r2 .nil))
  refine call_max_twoH ?_
  generalize hs1 : ({ s with heap := s.heap.push { cls := .type "tuple", data := .seq #[u1, u2] } } : Shared) = s1
  have hk1 : ∀ b o, s.heap.get? b = some o → s1.heap.get? b = some o := fun b o e => by rw [← hs1]; exact Heap.get?_push_of_some _ e
  have hl : s1.heap.IsTuple s.heap.objs.size #[u1, u2] := by rw [← hs1]; exact ⟨_, Heap.get?_push_size _ rfl, rfl, 0, rfl⟩
  refine PySem.W.iter_tupleW (A := X.A.in1) (I.ok.hd hc) hl fun s₂ e W st hfp hw hk => ?_
  have hrd1 : ReadsAll s1.heap (#[u1, u2] : Array Value).toList ([x, y].map DEq.toD) as := ReadsAll.keeps hk1 hrd
  refine ⟨_, _, _, _, _, _, _, s1.heap, _, rfl, W, st, hfp, Nat.zero_lt_succ _, hw, hk, PySem.W.cmpIn_gt (A := X.A.in1) (s := s1) hrd1 (alikeD [x, y]) (by have := depAll [x, y]; show X.A.units + 1 + _ < _; omega), fun v s' hP m => ?_⟩
  obtain ⟨h', tk, rfl, hk'⟩ := PySem.W.moved_old e rfl m
  have hP : (#[u1, u2] : Array Value)[argBest (fun i j => PySem.W.dataLt (([x, y].map DEq.toD).getD j .none) (([x, y].map DEq.toD).getD i .none)) 1]? = some v := hP
  rw [(btG x [y] 1 (Nat.le_refl _)).1] at hP
  have hb : argBest (fun i j => DLt.lt ([x, y].getD j x) ([x, y].getD i x)) 1 = if DLt.lt x y = true then 1 else 0 := rfl
  rw [hb] at hP
  have I2 : Inv X pins σ H { s with heap := h', toks := tk } := I.kept fun b o e => hk' b o (hk1 b o e)
  have I2' : Inv X pins σ H { s1 with heap := h', toks := tk } := by rw [← hs1]; exact I2
  by_cases hlt : DLt.lt x y = true
  · rw [if_pos hlt] at hP q
    have : u2 = v := Option.some.inj hP
    subst this
    exact ⟨v2, H, I2', r2, q⟩
  · rw [if_neg hlt] at hP q
    have : u1 = v := Option.some.inj hP
    subst this
    exact ⟨v1, H, I2', r1, q⟩
theorem ev_max2D {p : Pos} {α : Type} [Rp α] [DEq α] [DLt α] {x y : α} (hc : X.calm = true) (hu : X.A.units + 64 < cLine) (hm : X.mg "max" = none) (ha : EV X Γ a x) (hb : EV X Γ b y) (hn : DEq.n α ≤ 60 := by decide) (hg : Gl X "max" := by rfl) (hs : starEach [a, b] X.env = (false, eval a X.env) :: starEach [b] X.env := by rfl) (hs2 : starEach [b] X.env = (false, eval b X.env) :: starEach [] X.env := by rfl)
    (hpl : (backTo pos (starEach [b] X.env)).any (·.1) = false := by rfl) : EV X Γ (.Call (.Name "max" p) [a, b] [] pos) (if DLt.lt x y = true then y else x) :=
  ev_cb (cr_max2D (α := α) hc hu hn) hm (by decide +kernel) (ea_cons ha (ea_cons hb ea_nil hs2) hs) (fun G H vs hgh r Q q => by
    cases r with | cons r1 t => cases t with | cons r2 t => cases t with | nil =>
    refine ⟨_, _, x, y, rfl, DEq.dp (Rp.mono hgh r1), DEq.dp (Rp.mono hgh r2), ?_⟩
    by_cases hlt : DLt.lt x y = true
    · rw [if_pos hlt]; exact q _ G H (Grow.refl hgh) (by rw [if_pos hlt]; exact r2)
    · rw [if_neg hlt]; exact q _ G H (Grow.refl hgh) (by rw [if_neg hlt]; exact r1)) hg (by decide) (by decide) hs hpl
end
end Wl

set_option maxRecDepth 100000
set_option maxHeartbeats 2000000
/-! dicts: sorted(d), read as own things, changed by op=, at a known place, walked under a lock -/
namespace Wl
open PySem PySem.Spec PyProof.Rows L2
section
variable {X : Cx} {Γ Γ' : List Slot} {st : Stmt} {sts els rest : List Stmt} {a b c d e tg iter elt : Expr} {es elts ifs : List Expr} {pos : Pos} {o : Out}
/-! ### sorted(d) -/
theorem cr_sortedDI (hcalm : X.calm = true) : CallR X (.builtin "sorted") (fun xs H Q => ∃ (a : Addr) (kvs : List (Key × V)) (ks : List Int), xs = [.ref a] ∧ Rd H a (.dK kvs) ∧ kvs.map (·.1) = ks.map Sum.inl ∧
    ∀ (ys : List Int) (p : Addr), ys.Perm ks → ys.Pairwise (· ≤ ·) → H p = none → Q (.ref p) (upd H p (.lst (ys.map V.int)))) := by
  intro pins s σ H xs us Q I r q
  obtain ⟨a, kvs, ks, ex, hd, hks, q⟩ := q
  subst ex
  obtain ⟨u, eu, rx⟩ := vals1 r
  subst eu
  cases rx
  obtain ⟨z, lo, vs, rel, dd⟩ := dk_rd I.hok hd
  obtain ⟨ep, hat⟩ := dd.dictAt
  have hkeys : vs.map (·.1) = ks.map Sum.inl := rel.keys.symm.trans hks
  have hl : vs.length = ks.length := by
    have e := congrArg List.length hkeys
    rw [List.length_map, List.length_map] at e
    exact e
  have h16 : vs.length ≤ sizeLine := by rw [← rel.length]; exact z
  refine Calls.call_function_entry kind_sorted plain_sorted entry_sorted (args_sorted1 _) ?_
  unfold Builtin.«sorted»
  refine wpAny_bind (m := checkCount "sorted" 1 1 _) (wpAny_pure ?_)
  refine wpAny_bind (PySem.W.kdu_collect (A := X.A.in1) (PySem.W.kdl_dict (knd := mixKind X.prog X.w) (kvs := vs) (ep := ep) lo) (I.ok.hd hcalm) hat h16 fun h' tk acc hk hacc => ?_)
  have hal : acc.toList.length = ks.length := by rw [Array.length_toList, hacc.1, hl]
  have hS : IntsAre acc.toList ks := ints_each hal fun j v e => by
    obtain ⟨k, x, e1, e2⟩ := hacc.2 j v (by rw [← Array.getElem?_toList]; exact e)
    have e3 : (vs.map (·.1))[j]? = some k := by rw [List.getElem?_map, e1]; rfl
    rw [hkeys, List.getElem?_map] at e3
    cases e4 : ks[j]? with
    | none => rw [e4] at e3; cases e3
    | some y =>
      rw [e4] at e3
      have e5 : Sum.inl y = k := Option.some.inj e3
      subst e5
      rcases keyIs_shape (show keyIs (Sum.inl y) v = true from e2) with ⟨i, t, ek, ev⟩ | ⟨z, t, ek, ev⟩
      · cases ek
        exact ⟨y, t, rfl, ev⟩
      · cases ek
  have I1 : Inv X pins σ H { s with heap := h', toks := tk } := I.kept hk
  have hz : acc.toList.length ≤ sizeLine := by rw [hal, ← hl]; exact h16
  refine wpAny_bind (wpAny_newList ?_ hz)
  have hoL : (h'.push (seqObj "list" acc.toList.toArray 0)).get? h'.objs.size = some (seqObj "list" acc.toList.toArray 0) := Heap.get?_push_size _ rfl
  show wpAny _ _ _ _ _ { s with heap := h'.push (seqObj "list" acc.toList.toArray 0), toks := tk }
  refine wpAny_bind (wpAny_holding (wpAny_call_entry PyProof.Rows.slot_list_sort ⟨_, hoL, rfl⟩ PyProof.Rows.entry_list_sort ?_ (PyProof.Rows.args_list_sort _)))
  refine SrtO.list_sort_ord SrtO.swo_int hoL hz (fun h2 => SrtO.ints_sortable hS h2) fun out h1 h2 => ⟨_, rfl, ?_⟩
  obtain ⟨k1, k2, k3⟩ := SrtO.ints_out hS h1 h2
  obtain ⟨e', he'⟩ := PyProof.Rows.sortedHeap_at (vs := acc.toList) (out := out.toArray) hoL
  have hlen : ((out.map SrtO.iv).map V.int).length ≤ sizeLine := by
    rw [List.length_map, k2.length_eq, ← hal]
    exact hz
  refine wpAny_pure ⟨_, rfl, .ref h'.objs.size, upd H h'.objs.size (.lst ((out.map SrtO.iv).map V.int)), I1.laid (t' := tk) (fun b u e => ?_) (Nat.le_refl _) ⟨hlen, out, e', vals_of_ints k1, he'⟩, rfl, q _ _ k2 k3 (I1.hok.fresh (Nat.le_refl _))⟩
  have hb : b < h'.objs.size := Heap.lt_size e
  rw [PyProof.Rows.sortedHeap_old (Nat.ne_of_lt hb) (by rw [size_push']; exact Nat.lt_succ_of_lt hb)]
  exact Heap.get?_push_of_some _ e
theorem en_sortedDI {p : Pos} {β : Type} [Rp β] {kvs : List (Int × β)} (hc : X.calm = true) (hm : X.mg "sorted" = none) (ha : EV X Γ a (DV.mk kvs)) (hg : Gl X "sorted" := by rfl) (he : starEach [a] X.env = (false, eval a X.env) :: starEach [] X.env := by rfl) (hpl : (backTo pos (starEach [] X.env)).any (·.1) = false := by rfl) :
    EN X Γ (.Call (.Name "sorted" p) [a] [] pos) (ML.mk (sortU (kvs.map (·.1)))) := ⟨fun B G H σ hB hgh l Q q =>
  we (pe_callB (cr_sortedDI hc) hg hm (by decide +kernel) pa (by decide) (by decide) he hpl) (ea_cons ha ea_nil he B G H σ hB hgh l _ fun vs G1 H1 g1 r1 => by
    cases r1 with
    | cons r1 t =>
      cases t
      obtain ⟨p, ws, rfl, hr, dr⟩ := r1
      refine ⟨p, ws, kvs.map (·.1), rfl, rdMono g1.gh hr, dr.keys, fun ys q0 hperm hord hn => ?_⟩
      rw [sortU_eq hperm hord]
      exact q (.ref q0) [q0] G1 _ (g1.trans (Grow.own g1.gh hn)) (one_new (g1.h.free hn) (g1.gh.free hn)) ⟨q0, _, rfl, rfl, upd_same, ints_reps _⟩)⟩
end
/-- an own dict at p -/
structure MDp (β : Type) where
  p : Addr
  kvs : List (Int × β)
instance {β : Type} [Rp β] : Ow (MDp β) := ⟨fun K G H v fp x => ∃ ws, v = .ref x.p ∧ fp = [x.p] ∧ H x.p = some (.dK ws) ∧ DRep K G ws x.kvs, fun e eh h => by obtain ⟨ws, h0, h1, h2, hr⟩ := h; exact ⟨ws, h0, h1, by rw [eh _ (by rw [h1]; simp)]; exact h2, hr.mono e⟩, fun h => by obtain ⟨ws, _, rfl, h2, _⟩ := h; exact nt_one h2 nt_dK⟩
instance {β : Type} [Rp β] : Fz (MDp β) (DV β) := ⟨fun x => ⟨x.kvs⟩, fun {K G H v fp x} hf h => by
  obtain ⟨ws, rfl, rfl, h2, r⟩ := h
  exact ⟨x.p, ws, rfl, .inl (by rw [gl_in (by simp)]; exact h2), r.mono (gl_up hf)⟩⟩
/-- an own dict, at a known place or not -/
def ODict {β : Type} [Rp β] (s : Slot) (kvs : List (Int × β)) : Prop := s = .o (MD.mk kvs) ∨ ∃ p, s = .o (MDp.mk p kvs)
section
variable {X : Cx} {Γ Γ' : List Slot} {st : Stmt} {sts els rest : List Stmt} {a b c d e tg iter elt : Expr} {es elts ifs : List Expr} {pos : Pos} {o : Out}
theorem ownD {K : PySem.W.Frag} {B G H : Hp} {σ : L2.St} {i : Nat} {β : Type} [Rp β] {s : Slot} {kvs : List (Int × β)} (l : Lo K B G H σ Γ) (h : Γ[i]? = some s) (hs : ODict s kvs) : ∃ F p ws, LoF K B G H σ Γ F ∧ F i = [p] ∧ σ[i]? = some (some (.ref p)) ∧ B p = none ∧ G p = none ∧ H p = some (.dK ws) ∧ DRep K G ws kvs := by
  rcases hs with e | ⟨p0, e⟩
  · subst e
    obtain ⟨F, v, lf, e1, hf, p, ws, rfl, e2, e3, r⟩ := own_at l h
    have := hf p (by rw [e2]; simp)
    exact ⟨F, p, ws, lf, e2, e1, this.1, this.2.1, e3, r⟩
  · subst e
    obtain ⟨F, v, lf, e1, hf, ws, rfl, e2, e3, r⟩ := own_at l h
    have := hf p0 (by rw [e2]; simp)
    exact ⟨F, p0, ws, lf, e2, e1, this.1, this.2.1, e3, r⟩
/-- d[k], d an own dict, k there -/
theorem ev_odix (i : Nat) {β : Type} [Rp β] {s : Slot} {kvs : List (Int × β)} {k : Int} {y : β} (hu : X.A.units + 64 < cLine) (hv : PE X a (tVar i)) (h0 : Γ[i]? = some s) (hs : ODict s kvs) (hb : EV X Γ b k) (hy : dget kvs k = some y) (hn : NoSl b := by exact fun _ _ => rfl) : EV X Γ (.Subscript a b pos) y := ⟨fun B G H σ hB hg l Q q => by
  obtain ⟨F, p, ws, lf, hF, e1, hbp, hgp, hh, r⟩ := ownD l h0 hs
  refine we (pe_dget (by omega) hv pe hn) ⟨_, e1, hb B G H σ hB hg l _ fun u G2 H2 g2 r2 => ?_⟩
  have h := r.get k
  rw [hy] at h
  obtain ⟨w, e, rw'⟩ := h
  exact ⟨p, w, rfl, by rw [show u = kV (Sum.inl k) from r2, ← e]; exact DGet.kr (.inl (g2.h _ _ hh)), q w G2 H2 g2 (Rp.mono g2.g rw')⟩⟩
theorem isSome_of {β : Type} [Rp β] {K : PySem.W.Frag} {G : Hp} {ws : List (Key × V)} {kvs : List (Int × β)} (r : DRep K G ws kvs) (k : Int) : (valV ws (Sum.inl k)).isSome = (dget kvs k).isSome := by
  have h := r.get k
  cases hd : dget kvs k with
  | none => rw [hd] at h; rw [h]; rfl
  | some y => rw [hd] at h; obtain ⟨w, e, _⟩ := h; rw [e]; rfl
/-- k in d, d an own dict -/
theorem ev_odin (i : Nat) {β : Type} [Rp β] {s : Slot} {kvs : List (Int × β)} {k : Int} (hu : X.A.units + 64 < cLine) (ha : EV X Γ a k) (hv : PE X b (tVar i)) (h0 : Γ[i]? = some s) (hs : ODict s kvs) (hm : behindInMarks .In b = false := by rfl) : EV X Γ (.Compare a [.In] [b] pos) (dget kvs k).isSome := ⟨fun B G H σ hB hg l Q q =>
  we (pe_cmp (pc_din (by omega) pe hv) hm) (ha B G H σ hB hg l _ fun v G1 H1 g1 r1 => by
    obtain ⟨F, p, ws, lf, hF, e1, hbp, hgp, hh, r⟩ := ownD l h0 hs
    refine ⟨_, e1, p, _, rfl, by rw [show v = kV (Sum.inl k) from r1]; exact DGet.kr (.inl (g1.h _ _ hh)), ?_⟩
    rw [isSome_of r]
    exact q _ G1 H1 g1 rfl)⟩
theorem et_odin (i : Nat) {β : Type} [Rp β] {s : Slot} {kvs : List (Int × β)} {k : Int} (hu : X.A.units + 64 < cLine) (ha : EV X Γ a k) (hv : PE X b (tVar i)) (h0 : Γ[i]? = some s) (hs : ODict s kvs) (hm : behindInMarks .In b = false := by rfl) : ET X Γ (.Compare a [.In] [b] pos) (dget kvs k).isSome := ⟨fun B G H σ hB hg l Q q =>
  wt (pt_cmp (pc_din (by omega) pe hv) hm) (ha B G H σ hB hg l _ fun v G1 H1 g1 r1 => by
    obtain ⟨F, p, ws, lf, hF, e1, hbp, hgp, hh, r⟩ := ownD l h0 hs
    refine ⟨_, e1, p, _, rfl, by rw [show v = kV (Sum.inl k) from r1]; exact DGet.kr (.inl (g1.h _ _ hh)), _, rfl, ?_⟩
    rw [isSome_of r]
    exact q G1 H1 g1)⟩
theorem ev_odnin (i : Nat) {β : Type} [Rp β] {s : Slot} {kvs : List (Int × β)} {k : Int} (hu : X.A.units + 64 < cLine) (ha : EV X Γ a k) (hv : PE X b (tVar i)) (h0 : Γ[i]? = some s) (hs : ODict s kvs) (hm : behindInMarks .NotIn b = false := by rfl) : EV X Γ (.Compare a [.NotIn] [b] pos) (!(dget kvs k).isSome) := ⟨fun B G H σ hB hg l Q q =>
  we (pe_cmp (pc_dnotin (by omega) pe hv) hm) (ha B G H σ hB hg l _ fun v G1 H1 g1 r1 => by
    obtain ⟨F, p, ws, lf, hF, e1, hbp, hgp, hh, r⟩ := ownD l h0 hs
    refine ⟨_, e1, p, _, rfl, by rw [show v = kV (Sum.inl k) from r1]; exact DGet.kr (.inl (g1.h _ _ hh)), ?_⟩
    rw [isSome_of r]
    exact q _ G1 H1 g1 rfl)⟩
theorem et_odnin (i : Nat) {β : Type} [Rp β] {s : Slot} {kvs : List (Int × β)} {k : Int} (hu : X.A.units + 64 < cLine) (ha : EV X Γ a k) (hv : PE X b (tVar i)) (h0 : Γ[i]? = some s) (hs : ODict s kvs) (hm : behindInMarks .NotIn b = false := by rfl) : ET X Γ (.Compare a [.NotIn] [b] pos) (!(dget kvs k).isSome) := ⟨fun B G H σ hB hg l Q q =>
  wt (pt_cmp (pc_dnotin (by omega) pe hv) hm) (ha B G H σ hB hg l _ fun v G1 H1 g1 r1 => by
    obtain ⟨F, p, ws, lf, hF, e1, hbp, hgp, hh, r⟩ := ownD l h0 hs
    refine ⟨_, e1, p, _, rfl, by rw [show v = kV (Sum.inl k) from r1]; exact DGet.kr (.inl (g1.h _ _ hh)), _, rfl, ?_⟩
    rw [isSome_of r]
    exact q G1 H1 g1)⟩
/-- MD with its place, and back -/
theorem bv_pinD (i : Nat) {β : Type} [Rp β] {kvs : List (Int × β)} (h0 : Γ[i]? = some (.o (MD.mk kvs))) (hr : ∀ p, BV X (Γ.set i (.o (MDp.mk p kvs))) sts o) : BV X Γ sts o := ⟨fun B G H σ D hB hg l k => by
  obtain ⟨F, p, ws, lf, hF, e1, hbp, hgp, hh, r⟩ := ownD l h0 (.inl rfl)
  refine hr p B G H σ D hB hg (lf.mut (fp := [p]) (d' := ot (MDp.mk p kvs)) h0 e1 (fun a _ o e => e) (fun a ha => ?_) ⟨ws, rfl, rfl, hh, r⟩) k
  have : a = p := by simpa using ha
  subst this
  exact ⟨.inl (by rw [hF]; simp), hbp, hgp, _, hh⟩⟩
theorem bv_unpinD (i : Nat) {β : Type} [Rp β] {p : Addr} {kvs : List (Int × β)} (h0 : Γ[i]? = some (.o (MDp.mk p kvs))) (hr : BV X (Γ.set i (.o (MD.mk kvs))) sts o) : BV X Γ sts o := ⟨fun B G H σ D hB hg l k => by
  obtain ⟨F, v, lf, e1, hf, ws, rfl, hF, hh, r⟩ := own_at l h0
  have hp := hf p (by rw [hF]; simp)
  refine hr B G H σ D hB hg (lf.mut (fp := [p]) (d' := ot (MD.mk kvs)) h0 e1 (fun a _ o e => e) (fun a ha => ?_) ⟨p, ws, rfl, rfl, hh, r⟩) k
  have : a = p := by simpa using ha
  subst this
  exact ⟨.inl (by rw [hF]; simp), hp.1, hp.2.1, _, hh⟩⟩
/-- d[k] op= e, ints -/
theorem sv_augDp (i : Nat) {p : Addr} {kvs : List (Int × Int)} {k x y : Int} {e1 e3 : Expr} {f : Int → Int → Int} {rd : V → V → Hp → VK → Prop} (hrd : ∀ x y H Q, Q (V.int (f x y)) H → rd (.int x) (.int y) H Q) (hp : PS X st (sDAug (tVar i) (WE X e1) (WE X e3) rd)) (h0 : Γ[i]? = some (.o (MDp.mk p kvs))) (h1 : EV X Γ e1 k) (h3 : EV X Γ e3 y) (hk : dget kvs k = some x) (hz : kvs.length < 10000000) :
    SV X Γ st (.nx (Γ.set i (.o (MDp.mk p (dput kvs k (f x y)))))) := ⟨fun B G H σ D hB hg l kk => by
  obtain ⟨F, v, lf, ev, hf, wz, rfl, hF, hh, r⟩ := own_at l h0
  have hfp := hf p (by rw [hF]; simp)
  refine ws hp ⟨_, ev, h1 B G H σ hB hg l _ fun u G1 H1 g1 r1 => ?_⟩
  have h := r.get k
  rw [hk] at h
  obtain ⟨w, e, rw'⟩ := h
  refine ⟨p, w, rfl, by rw [show u = kV (Sum.inl k) from r1, ← e]; exact DGet.kr (.inl (g1.h _ _ hh)), h3 B G1 H1 σ (hB.trans g1.h) g1.gh (l.grow g1) _ fun v3 G3 H3 g3 r3 => ?_⟩
  have g := g1.trans g3
  have hgp3 := (g.fr p _ hh).trans hfp.2.1
  rw [show w = V.int x from rw', show v3 = V.int y from r3]
  refine hrd x y H3 _ ⟨_, by rw [show u = kV (Sum.inl k) from r1]; exact DPut.k (g.h _ _ hh) (by rw [r.len]; exact Nat.lt_of_lt_of_le hz (by decide)), ?_⟩
  have hke : ∀ a, a ∉ F i → ∀ o, H3 a = some o → upd H3 p (.dK (putK wz (Sum.inl k) (.int (f x y)))) a = some o := fun a ha o e => by rw [upd_ne (by rw [hF] at ha; simpa using ha)]; exact e
  exact kk G3 _ ((g.step hB).trans (Stp.mutL (hB.trans g.h) g.gh hfp.1 hgp3)) σ ((lf.grow g).mut (fp := [p]) (d' := ot (MDp.mk p (dput kvs k (f x y)))) h0 ev hke (fun a ha => by
    have : a = p := by simpa using ha
    subst this
    exact ⟨.inl (by rw [hF]; simp), hfp.1, hgp3, _, upd_same⟩) ⟨_, rfl, rfl, upd_same, (r.mono g.g).put k rfl⟩)⟩
theorem rd_add : ∀ (x y : Int) (H : Hp) (Q : VK), Q (V.int (x + y)) H → rAdd (.int x) (.int y) H Q := fun x y H Q q => ⟨x, y, rfl, rfl, q⟩
theorem rd_sub : ∀ (x y : Int) (H : Hp) (Q : VK), Q (V.int (x - y)) H → rSub (.int x) (.int y) H Q := fun x y H Q q => ⟨x, y, rfl, rfl, q⟩
end
/-! ### a locked dict -/
structure DL (β : Type) where
  kvs : List (Int × β)
instance {β : Type} [Rp β] : Rp (DL β) := ⟨fun K G v x => ∃ p q ws, v = .ref p ∧ G p = some (.frz q (.dK ws)) ∧ DRep K G ws x.kvs, fun e h => by
  obtain ⟨p, q, ws, h0, h1, h2⟩ := h
  exact ⟨p, q, ws, h0, e _ _ h1, h2.mono e⟩⟩
section
variable {X : Cx} {Γ Γ' : List Slot} {st : Stmt} {sts els rest : List Stmt} {a b c d e tg iter elt : Expr} {es elts ifs : List Expr} {pos : Pos} {o : Out}
theorem ev_dlv {β : Type} [Rp β] {kvs : List (Int × β)} (h : EV X Γ e (DL.mk kvs)) : EV X Γ e (DV.mk kvs) := ⟨fun B G H σ hB hg l Q q => h B G H σ hB hg l Q fun v G' H' g r => q v G' H' g (by
  obtain ⟨p, z, ws, h0, h1, h2⟩ := r
  exact ⟨p, ws, h0, .inr ⟨z, h1⟩, h2⟩)⟩
theorem iters_keys {β : Type} [Rp β] {K : PySem.W.Frag} {G : Hp} {d : Addr} {z : Obj} {ws : List (Key × V)} {kvs : List (Int × β)} (hd : G d = some (.frz z (.dK ws))) (r : DRep K G ws kvs) : Iters K (Itk d z ws) G (kvs.map (·.1)) :=
  iters_of kvs.length (by rw [List.length_map]) (fun i G2 H2 g1 g2 hi => by
    have hl : ws.length = kvs.length := r.len
    refine ⟨⟨g2 _ _ (g1 _ _ hd), by omega⟩, fun v H3 hv => ?_⟩
    obtain ⟨rfl, k, x, e1, rfl⟩ := hv
    have e2 : (ws.map (·.1))[i]? = some k := by rw [List.getElem?_map, e1]; rfl
    rw [r.keys, List.getElem?_map] at e2
    refine ⟨G2, (kvs.map (·.1)).getD i 0, Grow.refl g2, ?_, ?_⟩
    · rw [List.getD_eq_getElem?_getD, List.getElem?_eq_getElem (by rw [List.length_map]; exact hi)]; rfl
    · cases e3 : (kvs.map (·.1))[i]? with
      | none => rw [e3] at e2; cases e2
      | some y =>
        rw [e3] at e2
        have e4 : Sum.inl y = k := Option.some.inj e2
        subst e4
        rw [List.getD_eq_getElem?_getD, e3]
        rfl) fun G2 H2 g1 g2 => ⟨g2 _ _ (g1 _ _ hd), by rw [show ws.length = kvs.length from r.len]; exact Nat.le_refl _⟩
/-- for k in d, d locked -/
theorem iv_keys {β : Type} [Rp β] {kvs : List (Int × β)} (h : EV X Γ iter (DL.mk kvs)) : IV X Γ tg iter (kvs.map (·.1)) := ⟨fun B G H σ hB hg l R q =>
  wi (pi_keys pe) (h B G H σ hB hg l _ fun v G1 H1 g1 r1 => by
    obtain ⟨p, z, ws, rfl, h1, h2⟩ := r1
    exact ⟨p, z, rfl, .inl ⟨ws, g1.gh _ _ h1, q _ G1 H1 g1 (iters_keys h1 h2)⟩⟩)⟩
/-- an expression with a flat answer that walks an own dict -/
theorem ev_lockD (i : Nat) {β γ : Type} [Rp β] [Rp γ] [Flat γ] {s : Slot} {kvs : List (Int × β)} {y : γ} (h0 : Γ[i]? = some s) (hs : ODict s kvs) (hr : EV X (Γ.set i (.v (DL.mk kvs))) e y) : EV X Γ e y := ⟨fun B G H σ hB hg l Q q => by
  obtain ⟨F, p, ws, lf, hF, e1, hbp, hgp, hh, r⟩ := ownD l h0 hs
  refine we (pe_lock pe) ⟨p, _, hh, trivial, fun od => ?_⟩
  have hGl : Same G (upd G p (.frz od (.dK ws))) := fun b u e => by rw [upd_ne (ne_of_none e hgp)]; exact e
  have hgl : Same (upd G p (.frz od (.dK ws))) (upd H p (.frz od (.dK ws))) := fun b u e => by
    by_cases hb : b = p
    · subst hb; rw [upd_same] at e ⊢; exact e
    · rw [upd_ne hb] at e ⊢; exact hg b u e
  have hBl : Same B (upd H p (.frz od (.dK ws))) := fun b u e => by rw [upd_ne (ne_of_none e hbp)]; exact hB b u e
  have lo : Lo X.K B (upd G p (.frz od (.dK ws))) (upd H p (.frz od (.dK ws))) σ (Γ.set i (.v (DL.mk kvs))) := by
    refine ⟨F, by rw [List.length_set]; exact lf.len, fun j t e => ?_, fun j k t u hjk hj hk hts hus => ?_⟩
    · rcases set_get e with ⟨rfl, rfl, hi⟩ | ⟨hij, e⟩
      · exact ⟨_, e1, .ref p, rfl, p, od, ws, rfl, upd_same, r.mono hGl⟩
      · obtain ⟨o, h1, h2⟩ := lf.ok j t e
        refine ⟨o, h1, ?_⟩
        cases t with
        | any => trivial
        | val d => obtain ⟨v, e2, r2⟩ := h2; exact ⟨v, e2, Dat.mono hGl r2⟩
        | own d =>
          obtain ⟨v, e2, hf2, r2⟩ := h2
          have ne : ∀ a ∈ F j, a ≠ p := fun a ha z => by
            refine lf.sep j i _ _ (Ne.symm hij) e h0 rfl (by rcases hs with e3 | ⟨_, e3⟩ <;> rw [e3] <;> rfl) a ha ?_
            rw [hF, z]; simp
          refine ⟨v, e2, fun a ha => ?_, Odat.mono hGl (fun a ha => upd_ne (ne a ha)) r2⟩
          obtain ⟨q1, q2, ho, q3⟩ := hf2 a ha
          exact ⟨q1, by rw [upd_ne (ne a ha)]; exact q2, ho, by rw [upd_ne (ne a ha)]; exact q3⟩
    · rcases set_get hj with ⟨rfl, rfl, _⟩ | ⟨hij, hj⟩
      · cases hts
      · rcases set_get hk with ⟨rfl, rfl, _⟩ | ⟨hik, hk⟩
        · cases hus
        · exact lf.sep j k t u hjk hj hk hts hus
  refine hr B _ _ σ hBl hgl lo _ fun v G' H' g rv => ⟨g.h _ _ upd_same, q v G (upd H' p (.dK ws)) ⟨Same.refl _, fun b u e => ?_, fun b u e => ?_, fun _ _ _ _ => rfl⟩ (Flat.any rv)⟩
  · by_cases hb : b = p
    · subst hb; rw [upd_same, ← e, hh]
    · rw [upd_ne hb]; exact g.h b u (by rw [upd_ne hb]; exact e)
  · rw [upd_ne (ne_of_none e hgp)]
    exact g.h b u (by rw [upd_ne (ne_of_none e hgp)]; exact hg b u e)⟩
end
end Wl

set_option maxRecDepth 100000
set_option maxHeartbeats 2000000
/-! instances of one's own: their fields, what their methods promise, calls -/
namespace Wl
open PySem PySem.Spec PyProof.Rows L2
/-! ### fields -/
inductive FsOk (K : PySem.W.Frag) (G H : Hp) : List (Str × V) → List (Str × Slot) → List Addr → Prop
  | nil : FsOk K G H [] [] []
  | val {n : Str} {v : V} {d : Dat} {ws : List (Str × V)} {ss : List (Str × Slot)} {fp : List Addr} : d.rep K G v → FsOk K G H ws ss fp → FsOk K G H ((n, v) :: ws) ((n, .val d) :: ss) fp
  | own {n : Str} {v : V} {d : Odat} {ws : List (Str × V)} {ss : List (Str × Slot)} {g fp : List Addr} : d.ok K G H v g → (∀ a ∈ g, a ∉ fp) → FsOk K G H ws ss fp → FsOk K G H ((n, v) :: ws) ((n, .own d) :: ss) (g ++ fp)
theorem FsOk.mono {K : PySem.W.Frag} {G G' H H' : Hp} {ws : List (Str × V)} {ss : List (Str × Slot)} {fp : List Addr} (e : Same G G') (h : FsOk K G H ws ss fp) : (∀ a ∈ fp, H' a = H a) → FsOk K G' H' ws ss fp := by
  induction h with
  | nil => intro _; exact .nil
  | val r _ ih => intro eh; exact .val (Dat.mono e r) (ih eh)
  | own r dj _ ih => intro eh; exact .own (Odat.mono e (fun a ha => eh a (List.mem_append_left _ ha)) r) dj (ih fun a ha => eh a (List.mem_append_right _ ha))
theorem FsOk.nt {K : PySem.W.Frag} {G H : Hp} {ws : List (Str × V)} {ss : List (Str × Slot)} {fp : List Addr} (h : FsOk K G H ws ss fp) : ∀ a ∈ fp, ∀ o, H a = some o → Nt o := by
  induction h with
  | nil => intro a ha; cases ha
  | val _ _ ih => exact ih
  | own r _ _ ih =>
    intro a ha
    rcases List.mem_append.mp ha with h | h
    · exact Odat.nt r a h
    · exact ih a h
theorem FsOk.len {K : PySem.W.Frag} {G H : Hp} {ws : List (Str × V)} {ss : List (Str × Slot)} {fp : List Addr} (h : FsOk K G H ws ss fp) : ws.length = ss.length := by
  induction h with
  | nil => rfl
  | val _ _ ih => simp [ih]
  | own _ _ _ ih => simp [ih]
theorem FsOk.no {K : PySem.W.Frag} {G H : Hp} {ws : List (Str × V)} {ss : List (Str × Slot)} {fp : List Addr} {f : Str} (h : FsOk K G H ws ss fp) : ss.lookup f = none → ws.lookup f = none := by
  induction h with
  | nil => intro _; rfl
  | @val n v d ws ss fp r t ih =>
    intro e
    cases hb : f == n with
    | true => simp only [List.lookup, hb] at e; cases e
    | false => simp only [List.lookup, hb] at e ⊢; exact ih e
  | @own n v d ws ss g fp r dj t ih =>
    intro e
    cases hb : f == n with
    | true => simp only [List.lookup, hb] at e; cases e
    | false => simp only [List.lookup, hb] at e ⊢; exact ih e
theorem FsOk.get {K : PySem.W.Frag} {G H : Hp} {ws : List (Str × V)} {ss : List (Str × Slot)} {fp : List Addr} {f : Str} {d : Dat} (h : FsOk K G H ws ss fp) : ss.lookup f = some (.val d) → ∃ v, ws.lookup f = some v ∧ d.rep K G v := by
  induction h with
  | nil => intro e; cases e
  | @val n v d0 ws ss fp r t ih =>
    intro e
    cases hb : f == n with
    | true =>
      simp only [List.lookup, hb] at e ⊢
      cases e
      exact ⟨v, rfl, r⟩
    | false => simp only [List.lookup, hb] at e ⊢; exact ih e
  | @own n v d0 ws ss g fp r dj t ih =>
    intro e
    cases hb : f == n with
    | true => simp only [List.lookup, hb] at e; cases e
    | false => simp only [List.lookup, hb] at e ⊢; exact ih e
def putS (f : Str) (s : Slot) : List (Str × Slot) → List (Str × Slot)
  | [] => [(f, s)]
  | (g, x) :: r => if g = f then (g, s) :: r else (g, x) :: putS f s r
theorem beq_f {f n : Str} (h : (f == n) = true) : n = f := (beq_iff_eq.mp h).symm
theorem bne_f {f n : Str} (h : (f == n) = false) : ¬ n = f := fun e => (beq_eq_false_iff_ne.mp h) e.symm
/-- an own field: what stands there, and how it may change -/
theorem FsOk.getO {K : PySem.W.Frag} {G H : Hp} {ws : List (Str × V)} {ss : List (Str × Slot)} {fp : List Addr} {f : Str} {d : Odat} (h : FsOk K G H ws ss fp) : ss.lookup f = some (.own d) → ∃ v g, ws.lookup f = some v ∧ d.ok K G H v g ∧ (∀ a ∈ g, a ∈ fp) ∧
    (∀ (G' H' : Hp) (d' : Odat), Same G G' → (∀ a ∈ fp, a ∉ g → H' a = H a) → d'.ok K G' H' v g → FsOk K G' H' ws (putS f (.own d') ss) fp) ∧
    (∀ (G' : Hp) (d' : Dat), Same G G' → d'.rep K G' v → ∃ fp', (∀ a ∈ fp', a ∈ fp ∧ a ∉ g) ∧ FsOk K G' H ws (putS f (.val d') ss) fp') := by
  induction h with
  | nil => intro e; cases e
  | @val n v d0 ws ss fp r t ih =>
    intro e
    cases hb : f == n with
    | true => simp only [List.lookup, hb] at e; cases e
    | false =>
      simp only [List.lookup, hb] at e ⊢
      obtain ⟨v', g, h1, h2, h3, h4, h5⟩ := ih e
      refine ⟨v', g, h1, h2, h3, fun G' H' d' eg eh r' => ?_, fun G' d' eg r' => ?_⟩
      · show FsOk K G' H' _ (if n = f then _ else _) fp
        rw [if_neg (bne_f hb)]
        exact .val (Dat.mono eg r) (h4 G' H' d' eg eh r')
      · obtain ⟨fp', k1, k2⟩ := h5 G' d' eg r'
        refine ⟨fp', k1, ?_⟩
        show FsOk K G' H _ (if n = f then _ else _) fp'
        rw [if_neg (bne_f hb)]
        exact .val (Dat.mono eg r) k2
  | @own n v d0 ws ss g0 fp r dj t ih =>
    intro e
    cases hb : f == n with
    | true =>
      simp only [List.lookup, hb] at e ⊢
      cases e
      refine ⟨v, g0, rfl, r, fun a ha => List.mem_append_left _ ha, fun G' H' d' eg eh r' => ?_, fun G' d' eg r' => ⟨fp, fun a ha => ⟨List.mem_append_right _ ha, fun z => dj a z ha⟩, ?_⟩⟩
      · show FsOk K G' H' _ (if n = f then _ else _) _
        rw [if_pos (beq_f hb)]
        exact .own r' dj (t.mono eg fun a ha => eh a (List.mem_append_right _ ha) fun z => dj a z ha)
      · show FsOk K G' H _ (if n = f then _ else _) _
        rw [if_pos (beq_f hb)]
        exact .val r' (t.mono eg fun _ _ => rfl)
    | false =>
      simp only [List.lookup, hb] at e ⊢
      obtain ⟨v', g, h1, h2, h3, h4, h5⟩ := ih e
      refine ⟨v', g, h1, h2, fun a ha => List.mem_append_right _ (h3 a ha), fun G' H' d' eg eh r' => ?_, fun G' d' eg r' => ?_⟩
      · show FsOk K G' H' _ (if n = f then _ else _) _
        rw [if_neg (bne_f hb)]
        refine .own (Odat.mono eg (fun a ha => eh a (List.mem_append_left _ ha) fun z => dj a ha (h3 a z)) r) dj (h4 G' H' d' eg (fun a ha hn => eh a (List.mem_append_right _ ha) hn) r')
      · obtain ⟨fp', k1, k2⟩ := h5 G' d' eg r'
        refine ⟨g0 ++ fp', fun a ha => ?_, ?_⟩
        · rcases List.mem_append.mp ha with z | z
          · exact ⟨List.mem_append_left _ z, fun y => dj a z (h3 a y)⟩
          · exact ⟨List.mem_append_right _ (k1 a z).1, (k1 a z).2⟩
        · show FsOk K G' H _ (if n = f then _ else _) _
          rw [if_neg (bne_f hb)]
          exact .own (Odat.mono eg (fun _ _ => rfl) r) (fun a ha z => dj a ha (k1 a z).1) k2
/-- a field is put, a value -/
theorem FsOk.putV {K : PySem.W.Frag} {G H : Hp} {ws : List (Str × V)} {ss : List (Str × Slot)} {fp : List Addr} {f : Str} {v : V} {d : Dat} (r : d.rep K G v) (h : FsOk K G H ws ss fp) : (ss.lookup f = none ∨ ∃ d0, ss.lookup f = some (.val d0)) → FsOk K G H (putF f v ws) (putS f (.val d) ss) fp := by
  induction h with
  | nil => intro _; exact .val r .nil
  | @val n v0 d0 ws ss fp r0 t ih =>
    intro e
    show FsOk K G H (if n = f then _ else _) (if n = f then _ else _) fp
    cases hb : f == n with
    | true => rw [if_pos (beq_f hb), if_pos (beq_f hb)]; exact .val r t
    | false =>
      simp only [List.lookup, hb] at e
      rw [if_neg (bne_f hb), if_neg (bne_f hb)]
      exact .val r0 (ih e)
  | @own n v0 d0 ws ss g fp r0 dj t ih =>
    intro e
    show FsOk K G H (if n = f then _ else _) (if n = f then _ else _) _
    cases hb : f == n with
    | true =>
      simp only [List.lookup, hb] at e
      rcases e with e | ⟨_, e⟩ <;> cases e
    | false =>
      simp only [List.lookup, hb] at e
      rw [if_neg (bne_f hb), if_neg (bne_f hb)]
      exact .own r0 dj (ih e)
/-- a field is put, a new own thing -/
theorem FsOk.putO {K : PySem.W.Frag} {G H : Hp} {ws : List (Str × V)} {ss : List (Str × Slot)} {fp : List Addr} {f : Str} {v : V} {d : Odat} {g : List Addr} (r : d.ok K G H v g) (h : FsOk K G H ws ss fp) : ss.lookup f = none → (∀ a ∈ g, a ∉ fp) → ∃ fp', (∀ a, a ∈ fp' ↔ a ∈ fp ∨ a ∈ g) ∧ FsOk K G H (putF f v ws) (putS f (.own d) ss) fp' := by
  induction h with
  | nil => intro _ _; exact ⟨g ++ [], fun a => by simp, .own r (fun _ _ z => by cases z) .nil⟩
  | @val n v0 d0 ws ss fp r0 t ih =>
    intro e dj
    show ∃ fp', _ ∧ FsOk K G H (if n = f then _ else _) (if n = f then _ else _) fp'
    cases hb : f == n with
    | true => simp only [List.lookup, hb] at e; cases e
    | false =>
      simp only [List.lookup, hb] at e
      rw [if_neg (bne_f hb), if_neg (bne_f hb)]
      obtain ⟨fp', k1, k2⟩ := ih e dj
      exact ⟨fp', k1, .val r0 k2⟩
  | @own n v0 d0 ws ss g0 fp r0 dj0 t ih =>
    intro e dj
    show ∃ fp', _ ∧ FsOk K G H (if n = f then _ else _) (if n = f then _ else _) fp'
    cases hb : f == n with
    | true => simp only [List.lookup, hb] at e; cases e
    | false =>
      simp only [List.lookup, hb] at e
      rw [if_neg (bne_f hb), if_neg (bne_f hb)]
      obtain ⟨fp', k1, k2⟩ := ih e fun a ha z => dj a ha (List.mem_append_right _ z)
      refine ⟨g0 ++ fp', fun a => ?_, .own r0 (fun a ha z => ?_) k2⟩
      · rw [List.mem_append, List.mem_append, k1, or_assoc]
      · rcases (k1 a).mp z with z | z
        · exact dj0 a ha z
        · exact dj a z (List.mem_append_left _ ha)
/-! ### an own instance of the class at C, at p -/
structure OI (fs : List (Str × Slot)) where
  C : Addr
  p : Addr
instance {fs : List (Str × Slot)} : Ow (OI fs) := ⟨fun K G H v fp x => ∃ dx ws fq, v = .ref x.p ∧ fp = x.p :: fq ∧ x.p ∉ fq ∧ H x.p = some (.ins x.C dx ws) ∧ FsOk K G H ws fs fq, fun e eh h => by
  obtain ⟨dx, ws, fq, h0, h1, h2, h3, h4⟩ := h
  subst h1
  exact ⟨dx, ws, fq, h0, rfl, h2, by rw [eh _ (by simp)]; exact h3, h4.mono e fun a ha => eh a (List.mem_cons_of_mem _ ha)⟩, fun h a ha o e => by
  obtain ⟨dx, ws, fq, h0, rfl, h2, h3, h4⟩ := h
  rcases List.mem_cons.mp ha with z | z
  · rw [z, h3] at e; cases e; exact nt_ins
  · exact h4.nt a z o e⟩
/-- .. at a place not known -/
structure OIu (fs : List (Str × Slot)) where
  C : Addr
instance {fs : List (Str × Slot)} : Ow (OIu fs) := ⟨fun K G H v fp x => ∃ p, Ow.ok K G H v fp (OI.mk x.C p : OI fs), fun e eh h => by obtain ⟨p, h⟩ := h; exact ⟨p, Ow.mono e eh h⟩, fun h => by obtain ⟨p, h⟩ := h; exact Ow.nt h⟩
abbrev oi (C p : Addr) (fs : List (Str × Slot)) : Slot := .o (OI.mk C p : OI fs)
/-- an own thing that stands at p -/
def PinAt (d : Odat) (p : Addr) : Prop := ∀ (K : PySem.W.Frag) (G H : Hp) (v : V) (fp : List Addr), d.ok K G H v fp → v = .ref p
theorem pin_oi {fs : List (Str × Slot)} {C p : Addr} : PinAt (ot (OI.mk C p : OI fs)) p := fun K G H v fp h => by obtain ⟨_, _, _, h0, _⟩ := h; exact h0
theorem pin_mdp {β : Type} [Rp β] {p : Addr} {kvs : List (Int × β)} : PinAt (ot (MDp.mk p kvs)) p := fun K G H v fp h => by obtain ⟨_, h0, _⟩ := h; exact h0
theorem pin_mlp {α : Type} [Rp α] {p : Addr} {xs : List α} : PinAt (ot (MLp.mk p xs)) p := fun K G H v fp h => by obtain ⟨_, h0, _⟩ := h; exact h0
/-! ### what a call leaves -/
def delF (H : Hp) (U : List Addr) : Hp := fun a => if a ∈ U then none else H a
theorem delF_in {H : Hp} {U : List Addr} {a : Addr} (h : a ∈ U) : delF H U a = none := if_pos h
theorem delF_out {H : Hp} {U : List Addr} {a : Addr} (h : a ∉ U) : delF H U a = H a := if_neg h
theorem delF_sub {H : Hp} {U : List Addr} : Same (delF H U) H := fun b u e => by
  by_cases h : b ∈ U
  · rw [delF_in h] at e; cases e
  · rw [delF_out h] at e; exact e
structure Aft (G H G' H' : Hp) (U : List Addr) : Prop where
  h : Same (delF H U) H'
  g : Same G G'
  gh : Same G' H'
  fr : ∀ a o, a ∉ U → H a = some o → Nt o → G' a = G a
theorem Aft.stp {B G H G' H' : Hp} {U : List Addr} (a : Aft G H G' H' U) (hB : Same B H) (hU : ∀ b ∈ U, B b = none) : Stp B G G' H' := by
  have nb : ∀ b u, B b = some u → b ∉ U := fun b u e z => by rw [hU b z] at e; cases e
  exact ⟨fun b u e => a.h b u (by rw [delF_out (nb b u e)]; exact hB b u e), a.g, a.gh, fun b u e n => a.fr b u (nb b u e) (hB b u e) n⟩
theorem LoF.call {K : PySem.W.Frag} {B G H G' H' : Hp} {σ : L2.St} {Γ Γ' : List Slot} {F F' : Nat → List Addr} {U : List Addr} (l : LoF K B G H σ Γ F) (a : Aft G H G' H' U) (I : Nat → Bool) (len : Γ'.length = Γ.length)
    (hU : ∀ j s, I j = false → Γ[j]? = some s → s.isOwn = true → ∀ b ∈ F j, b ∉ U) (old : ∀ j, I j = false → Γ'[j]? = Γ[j]?) (new : ∀ j s, I j = true → Γ'[j]? = some s → ∃ o, σ[j]? = some o ∧ SlotOk K B G' H' o (F' j) s)
    (sub : ∀ j, I j = true → ∀ b ∈ F' j, b ∈ U ∨ H b = none) (dj : ∀ j k, j ≠ k → I j = true → I k = true → ∀ b ∈ F' j, b ∉ F' k) : Lo K B G' H' σ Γ' := by
  have ex : ∀ (j : Nat) (s : Slot), Γ[j]? = some s → s.isOwn = true → ∀ b ∈ F j, ∃ ho, H b = some ho := fun j s e hs b hb => by
    obtain ⟨o, _, h2⟩ := l.ok j s e
    cases s with
    | any => cases hs
    | val _ => cases hs
    | own d2 => obtain ⟨_, _, h3, _⟩ := h2; exact (h3 b hb).2.2
  refine ⟨fun j => if I j = true then F' j else F j, by rw [len, l.len], fun j s e => ?_, fun j k s t hjk hj hk hs ht b hb hb2 => ?_⟩
  · cases hI : I j with
    | true =>
      obtain ⟨o, h1, h2⟩ := new j s hI e
      exact ⟨o, h1, by rw [if_pos rfl]; exact h2⟩
    | false =>
      rw [old j hI] at e
      obtain ⟨o, h1, h2⟩ := l.ok j s e
      refine ⟨o, h1, ?_⟩
      rw [if_neg Bool.false_ne_true]
      cases s with
      | any => trivial
      | val d => obtain ⟨v, e, r⟩ := h2; exact ⟨v, e, Dat.mono a.g r⟩
      | own d =>
        obtain ⟨v, e2, hf, r⟩ := h2
        have nU := hU j _ hI e rfl
        have eq : ∀ b ∈ F j, H' b = H b := fun b hb => by
          obtain ⟨_, _, ho, q3⟩ := hf b hb
          rw [a.h b ho (by rw [delF_out (nU b hb)]; exact q3), q3]
        refine ⟨v, e2, fun b hb => ?_, Odat.mono a.g eq r⟩
        obtain ⟨q1, q2, ho, q3⟩ := hf b hb
        exact ⟨q1, (a.fr b ho (nU b hb) q3 (Odat.nt r b hb ho q3)).trans q2, ho, by rw [eq b hb]; exact q3⟩
  · cases hI : I j with
    | true =>
      rw [if_pos hI] at hb
      cases hI2 : I k with
      | true =>
        rw [if_pos hI2] at hb2
        exact dj j k hjk hI hI2 b hb hb2
      | false =>
        rw [if_neg (by rw [hI2]; exact Bool.false_ne_true)] at hb2
        rw [old k hI2] at hk
        rcases sub j hI b hb with z | z
        · exact hU k t hI2 hk ht b hb2 z
        · obtain ⟨ho, e⟩ := ex k t hk ht b hb2
          rw [e] at z; cases z
    | false =>
      rw [if_neg (by rw [hI]; exact Bool.false_ne_true)] at hb
      rw [old j hI] at hj
      cases hI2 : I k with
      | true =>
        rw [if_pos hI2] at hb2
        rcases sub k hI2 b hb2 with z | z
        · exact hU j s hI hj hs b hb z
        · obtain ⟨ho, e⟩ := ex j s hj hs b hb
          rw [e] at z; cases z
      | false =>
        rw [if_neg (by rw [hI2]; exact Bool.false_ne_true)] at hb2
        rw [old k hI2] at hk
        exact l.sep j k s t hjk hj hk hs ht b hb hb2
/-! ### promises -/
/-- a def that is handed an own thing first -/
def O1Sp {β : Type} [Rp β] (K : PySem.W.Frag) (R : Odat → List Dat → β → Odat → Prop) : Sp := fun vs H Q _ => ∃ (G : Hp) (U : List Addr) (p : Addr) (x : Odat) (ws : List V) (ds : List Dat) (y : β) (x' : Odat),
  vs = .ref p :: ws ∧ Same G H ∧ (∀ a ∈ U, G a = none ∧ ∃ ho, H a = some ho) ∧ x.ok K G H (.ref p) U ∧ DatsOk K G ws ds ∧ R x ds y x' ∧ PinAt x' p ∧
  ∀ (v : V) (G' H' : Hp) (U' : List Addr), Aft G H G' H' U → (∀ a ∈ U', (a ∈ U ∨ H a = none) ∧ G' a = none ∧ ∃ ho, H' a = some ho) → x'.ok K G' H' (.ref p) U' → Rp.rep K G' v y → Q v H'
/-- .. two -/
def O2Sp {β : Type} [Rp β] (K : PySem.W.Frag) (R : Odat → Odat → List Dat → β → Odat → Odat → Prop) : Sp := fun vs H Q _ => ∃ (G : Hp) (U W : List Addr) (p pz : Addr) (x z : Odat) (ws : List V) (ds : List Dat) (y : β) (x' z' : Odat),
  vs = .ref p :: .ref pz :: ws ∧ Same G H ∧ (∀ a ∈ U, G a = none ∧ ∃ ho, H a = some ho) ∧ (∀ a ∈ W, G a = none ∧ ∃ ho, H a = some ho) ∧ (∀ a ∈ U, a ∉ W) ∧ x.ok K G H (.ref p) U ∧ z.ok K G H (.ref pz) W ∧ DatsOk K G ws ds ∧ R x z ds y x' z' ∧ PinAt x' p ∧ PinAt z' pz ∧
  ∀ (v : V) (G' H' : Hp) (U' W' : List Addr), Aft G H G' H' (U ++ W) → (∀ a ∈ U', (a ∈ U ++ W ∨ H a = none) ∧ G' a = none ∧ ∃ ho, H' a = some ho) → (∀ a ∈ W', (a ∈ U ++ W ∨ H a = none) ∧ G' a = none ∧ ∃ ho, H' a = some ho) → (∀ a ∈ U', a ∉ W') → x'.ok K G' H' (.ref p) U' → z'.ok K G' H' (.ref pz) W' → Rp.rep K G' v y → Q v H'
/-- ends: slots with what is handed back -/
def ends1 (n : Nat) (x : Odat) : List Slot := (List.replicate n Slot.any).set 0 (.own x)
def ends2 (n : Nat) (x z : Odat) : List Slot := ((List.replicate n Slot.any).set 0 (.own x)).set 1 (.own z)
section
variable {P : Program} {w : World} {K : PySem.W.Frag} {mg : Str → Option Value} {base : Heap}
theorem lo_own1 {G H : Hp} {N : List Str} {U : List Addr} {x : Odat} {v0 : V} {ws : List V} {ds : List Dat} (hU : ∀ a ∈ U, G a = none ∧ ∃ ho, H a = some ho) (ok : x.ok K G H v0 U) (r : DatsOk K G ws ds) (hn : 0 < N.length) : Lo K (delF H U) G H (L2.start N (v0 :: ws)) ((slots (dNo :: ds) N.length).set 0 (.own x)) := by
  have lo : Lo K H G H (L2.start N (v0 :: ws)) (slots (dNo :: ds) N.length) := lo_start (.cons trivial r)
  refine lo.toOwn slots_noown (v := v0) (d := x) (fp := U) ?_ (fun a ha => ⟨delF_in ha, hU a ha⟩) ok
  cases N with
  | nil => exact absurd hn (Nat.lt_irrefl _)
  | cons _ _ => rfl
theorem fn_o1 {β : Type} [Rp β] {x qual : Str} {st : Stmt} {f : Addr} {fd : FuncData} {N ps : List Str} {k : Nat} {R : Odat → List Dat → β → Odat → Prop} (F : Fun K x qual st f fd) (S : FnScope N ps (defScope st)) (hn : 0 < N.length) (len : ∀ t ds y t', R t ds y t' → ds.length + 1 = ps.length)
    (body : ∀ (cdv : Value) (A : Around) (outer : List Env) (s : Shared) (H : Hp) (E : XK) (t : Odat) (ds : List Dat) (y : β) (t' : Odat), Room k (A.deeper (envOfC qual (defScope st) s.heap.objs.size f cdv)) → R t ds y t' →
      BV (cxOf CX0 P w K mg base N qual (defScope st) f cdv A outer s H E).nox ((slots (dNo :: ds) N.length).set 0 (.own t)) (defBody st) (.rx (dt y) (ends1 N.length t'))) : FnOk P w K mg base CX0 (k + 1) f fd ps (O1Sp K R) :=
  F.ok S (fun vs H Q E h => by
    obtain ⟨G, U, pp, t, ws, ds, y, t', rfl, _, _, _, r, hR, _⟩ := h
    rw [List.length_cons, r.len]
    exact len _ _ _ _ hR) (fun cdv A outer s H vs Q E hr h => by
    obtain ⟨G, U, pp, t, ws, ds, y, t', rfl, hg, hU, ok, r, hR, hp, q⟩ := h
    refine ⟨_, pss, body cdv A outer s H E t ds y t' hr hR (delF H U) G H (L2.start N (.ref pp :: ws)) _ delF_sub hg (lo_own1 hU ok r hn) fun G' H' st v σ' lo rv => ?_⟩
    have h0 : (ends1 N.length t')[0]? = some (.own t') := by
      unfold ends1
      rw [List.getElem?_set_self (by rw [List.length_replicate]; exact hn)]
    obtain ⟨F, lf⟩ := lo
    obtain ⟨o0, e1, v0, _, hf, ok'⟩ := lf.ok 0 _ h0
    have ev : v0 = .ref pp := hp _ _ _ _ _ ok'
    subst ev
    refine q v G' H' (F 0) ⟨st.b, st.g, st.gh, fun a o ha e n => st.fr0 a o (by rw [delF_out ha]; exact e) n⟩ (fun a ha => ?_) ok' rv
    obtain ⟨k1, k2, k3⟩ := hf a ha
    refine ⟨?_, k2, k3⟩
    by_cases hU : a ∈ U
    · exact .inl hU
    · rw [delF_out hU] at k1; exact .inr k1)
/-- a procedure that is handed an own thing -/
theorem fn_o1p {x qual : Str} {st : Stmt} {f : Addr} {fd : FuncData} {N ps : List Str} {k : Nat} {R : Odat → List Dat → Unit → Odat → Prop} (F : Fun K x qual st f fd) (S : FnScope N ps (defScope st)) (hn : 0 < N.length) (len : ∀ t ds y t', R t ds y t' → ds.length + 1 = ps.length)
    (body : ∀ (cdv : Value) (A : Around) (outer : List Env) (s : Shared) (H : Hp) (E : XK) (t : Odat) (ds : List Dat) (t' : Odat), Room k (A.deeper (envOfC qual (defScope st) s.heap.objs.size f cdv)) → R t ds () t' →
      BV (cxOf CX0 P w K mg base N qual (defScope st) f cdv A outer s H E).nox ((slots (dNo :: ds) N.length).set 0 (.own t)) (defBody st) (.nx (ends1 N.length t'))) : FnOk P w K mg base CX0 (k + 1) f fd ps (O1Sp K R) :=
  F.ok S (fun vs H Q E h => by
    obtain ⟨G, U, pp, t, ws, ds, y, t', rfl, _, _, _, r, hR, _⟩ := h
    rw [List.length_cons, r.len]
    exact len _ _ _ _ hR) (fun cdv A outer s H vs Q E hr h => by
    obtain ⟨G, U, pp, t, ws, ds, y, t', rfl, hg, hU, ok, r, hR, hp, q⟩ := h
    refine ⟨_, pss, body cdv A outer s H E t ds t' hr hR (delF H U) G H (L2.start N (.ref pp :: ws)) _ delF_sub hg (lo_own1 hU ok r hn) fun G' H' st σ' lo => ?_⟩
    have h0 : (ends1 N.length t')[0]? = some (.own t') := by
      unfold ends1
      rw [List.getElem?_set_self (by rw [List.length_replicate]; exact hn)]
    obtain ⟨F, lf⟩ := lo
    obtain ⟨o0, e1, v0, _, hf, ok'⟩ := lf.ok 0 _ h0
    have ev : v0 = .ref pp := hp _ _ _ _ _ ok'
    subst ev
    refine q .non G' H' (F 0) ⟨st.b, st.g, st.gh, fun a o ha e n => st.fr0 a o (by rw [delF_out ha]; exact e) n⟩ (fun a ha => ?_) ok' rfl
    obtain ⟨k1, k2, k3⟩ := hf a ha
    refine ⟨?_, k2, k3⟩
    by_cases hU : a ∈ U
    · exact .inl hU
    · rw [delF_out hU] at k1; exact .inr k1)
theorem lo_own2 {G H : Hp} {N : List Str} {U W : List Addr} {x z : Odat} {v0 v1 : V} {ws : List V} {ds : List Dat} (hU : ∀ a ∈ U, G a = none ∧ ∃ ho, H a = some ho) (hW : ∀ a ∈ W, G a = none ∧ ∃ ho, H a = some ho) (dj : ∀ a ∈ U, a ∉ W) (ok : x.ok K G H v0 U) (ok2 : z.ok K G H v1 W) (r : DatsOk K G ws ds) (hn : 1 < N.length) :
    Lo K (delF H (U ++ W)) G H (L2.start N (v0 :: v1 :: ws)) (((slots (dNo :: dNo :: ds) N.length).set 0 (.own x)).set 1 (.own z)) := by
  have lo : Lo K H G H (L2.start N (v0 :: v1 :: ws)) (slots (dNo :: dNo :: ds) N.length) := lo_start (.cons trivial (.cons trivial r))
  obtain ⟨F, l⟩ := lo
  have no := @slots_noown (dNo :: dNo :: ds) N.length
  refine ⟨fun j => if j = 0 then U else if j = 1 then W else [], by simp [l.len], fun j s e => ?_, fun j k s t hjk hj hk hs ht a ha hb => ?_⟩
  · rcases set_get e with ⟨rfl, rfl, hi⟩ | ⟨hij, e⟩
    · refine ⟨some v1, ?_, v1, rfl, by rw [if_neg (by decide), if_pos rfl]; exact fun a ha => ⟨delF_in (List.mem_append_right _ ha), hW a ha⟩, by rw [if_neg (by decide), if_pos rfl]; exact ok2⟩
      cases N with
      | nil => exact absurd hn (by simp)
      | cons _ N => cases N with
        | nil => exact absurd hn (by simp)
        | cons _ _ => rfl
    · rcases set_get e with ⟨rfl, rfl, hi⟩ | ⟨hij2, e⟩
      · refine ⟨some v0, ?_, v0, rfl, by rw [if_pos rfl]; exact fun a ha => ⟨delF_in (List.mem_append_left _ ha), hU a ha⟩, by rw [if_pos rfl]; exact ok⟩
        cases N with
        | nil => exact absurd hn (by simp)
        | cons _ N => rfl
      · obtain ⟨o, h1, h2⟩ := l.ok j s e
        refine ⟨o, h1, ?_⟩
        have hn := no j s e
        cases s with
        | any => trivial
        | val _ => exact h2
        | own _ => cases hn
  · by_cases h1 : j = 0
    · subst h1
      rw [if_pos rfl] at ha
      rw [if_neg (Ne.symm hjk)] at hb
      by_cases h2 : k = 1
      · rw [if_pos h2] at hb; exact dj a ha hb
      · rw [if_neg h2] at hb; cases hb
    · rw [if_neg h1] at ha
      by_cases h2 : j = 1
      · subst h2
        rw [if_pos rfl] at ha
        by_cases h3 : k = 0
        · rw [if_pos h3] at hb; exact dj a hb ha
        · rw [if_neg h3, if_neg (Ne.symm hjk)] at hb; cases hb
      · rw [if_neg h2] at ha; cases ha
theorem end2 {G H G' H' : Hp} {n : Nat} {U W : List Addr} {x' z' : Odat} {σ : L2.St} {px pz : Addr} (hn : 1 < n) (hx : PinAt x' px) (hz : PinAt z' pz) (st : Stp (delF H (U ++ W)) G G' H') (lo : Lo K (delF H (U ++ W)) G' H' σ (ends2 n x' z')) :
    ∃ U' W', Aft G H G' H' (U ++ W) ∧ (∀ a ∈ U', (a ∈ U ++ W ∨ H a = none) ∧ G' a = none ∧ ∃ ho, H' a = some ho) ∧ (∀ a ∈ W', (a ∈ U ++ W ∨ H a = none) ∧ G' a = none ∧ ∃ ho, H' a = some ho) ∧ (∀ a ∈ U', a ∉ W') ∧ x'.ok K G' H' (.ref px) U' ∧ z'.ok K G' H' (.ref pz) W' := by
  have h0 : (ends2 n x' z')[0]? = some (.own x') := by
    unfold ends2
    rw [List.getElem?_set_ne (by decide), List.getElem?_set_self (by rw [List.length_replicate]; omega)]
  have h1 : (ends2 n x' z')[1]? = some (.own z') := by
    unfold ends2
    rw [List.getElem?_set_self (by rw [List.length_set, List.length_replicate]; exact hn)]
  obtain ⟨F, lf⟩ := lo
  obtain ⟨o, _, v0, _, hf, ok⟩ := lf.ok 0 _ h0
  obtain ⟨o1, _, v1, _, hf1, ok1⟩ := lf.ok 1 _ h1
  have ev : v0 = .ref px := hx _ _ _ _ _ ok
  have ev1 : v1 = .ref pz := hz _ _ _ _ _ ok1
  subst ev ev1
  have fr : ∀ a, delF H (U ++ W) a = none → a ∈ U ++ W ∨ H a = none := fun a k1 => by
    by_cases hU : a ∈ U ++ W
    · exact .inl hU
    · rw [delF_out hU] at k1; exact .inr k1
  exact ⟨F 0, F 1, ⟨st.b, st.g, st.gh, fun a o ha e n => st.fr0 a o (by rw [delF_out ha]; exact e) n⟩, fun a ha => ⟨fr a (hf a ha).1, (hf a ha).2⟩, fun a ha => ⟨fr a (hf1 a ha).1, (hf1 a ha).2⟩, fun a ha => lf.sep 0 1 _ _ (by decide) h0 h1 rfl rfl a ha, ok, ok1⟩
theorem fn_o2 {β : Type} [Rp β] {x qual : Str} {st : Stmt} {f : Addr} {fd : FuncData} {N ps : List Str} {k : Nat} {R : Odat → Odat → List Dat → β → Odat → Odat → Prop} (F : Fun K x qual st f fd) (S : FnScope N ps (defScope st)) (hn : 1 < N.length) (len : ∀ t u ds y t' u', R t u ds y t' u' → ds.length + 2 = ps.length)
    (body : ∀ (cdv : Value) (A : Around) (outer : List Env) (s : Shared) (H : Hp) (E : XK) (t u : Odat) (ds : List Dat) (y : β) (t' u' : Odat), Room k (A.deeper (envOfC qual (defScope st) s.heap.objs.size f cdv)) → R t u ds y t' u' →
      BV (cxOf CX0 P w K mg base N qual (defScope st) f cdv A outer s H E).nox (((slots (dNo :: dNo :: ds) N.length).set 0 (.own t)).set 1 (.own u)) (defBody st) (.rx (dt y) (ends2 N.length t' u'))) : FnOk P w K mg base CX0 (k + 1) f fd ps (O2Sp K R) :=
  F.ok S (fun vs H Q E h => by
    obtain ⟨G, U, W, pp, pz, t, u, ws, ds, y, t', u', rfl, _, _, _, _, _, _, r, hR, _⟩ := h
    rw [List.length_cons, List.length_cons, r.len]
    exact len _ _ _ _ _ _ hR) (fun cdv A outer s H vs Q E hr h => by
    obtain ⟨G, U, W, pp, pz, t, u, ws, ds, y, t', u', rfl, hg, hU, hW, dj, ok, ok2, r, hR, hp, hp2, q⟩ := h
    refine ⟨_, pss, body cdv A outer s H E t u ds y t' u' hr hR (delF H (U ++ W)) G H _ _ delF_sub hg (lo_own2 hU hW dj ok ok2 r hn) fun G' H' st v σ' lo rv => ?_⟩
    obtain ⟨U', W', k1, k2, k3, k4, k5, k6⟩ := end2 hn hp hp2 st lo
    exact q v G' H' U' W' k1 k2 k3 k4 k5 k6 rv)
theorem fn_o2p {x qual : Str} {st : Stmt} {f : Addr} {fd : FuncData} {N ps : List Str} {k : Nat} {R : Odat → Odat → List Dat → Unit → Odat → Odat → Prop} (F : Fun K x qual st f fd) (S : FnScope N ps (defScope st)) (hn : 1 < N.length) (len : ∀ t u ds y t' u', R t u ds y t' u' → ds.length + 2 = ps.length)
    (body : ∀ (cdv : Value) (A : Around) (outer : List Env) (s : Shared) (H : Hp) (E : XK) (t u : Odat) (ds : List Dat) (t' u' : Odat), Room k (A.deeper (envOfC qual (defScope st) s.heap.objs.size f cdv)) → R t u ds () t' u' →
      BV (cxOf CX0 P w K mg base N qual (defScope st) f cdv A outer s H E).nox (((slots (dNo :: dNo :: ds) N.length).set 0 (.own t)).set 1 (.own u)) (defBody st) (.nx (ends2 N.length t' u'))) : FnOk P w K mg base CX0 (k + 1) f fd ps (O2Sp K R) :=
  F.ok S (fun vs H Q E h => by
    obtain ⟨G, U, W, pp, pz, t, u, ws, ds, y, t', u', rfl, _, _, _, _, _, _, r, hR, _⟩ := h
    rw [List.length_cons, List.length_cons, r.len]
    exact len _ _ _ _ _ _ hR) (fun cdv A outer s H vs Q E hr h => by
    obtain ⟨G, U, W, pp, pz, t, u, ws, ds, y, t', u', rfl, hg, hU, hW, dj, ok, ok2, r, hR, hp, hp2, q⟩ := h
    refine ⟨_, pss, body cdv A outer s H E t u ds t' u' hr hR (delF H (U ++ W)) G H _ _ delF_sub hg (lo_own2 hU hW dj ok ok2 r hn) fun G' H' st σ' lo => ?_⟩
    obtain ⟨U', W', k1, k2, k3, k4, k5, k6⟩ := end2 hn hp hp2 st lo
    exact q .non G' H' U' W' k1 k2 k3 k4 k5 k6 rfl)
end
end Wl

set_option maxRecDepth 100000
set_option maxHeartbeats 2000000
/-! rules of own instances: fields read and stored, methods called, instances made -/
namespace Wl
open PySem PySem.Spec PyProof.Rows L2
section
variable {X : Cx} {Γ Γ' : List Slot} {st : Stmt} {sts els rest : List Stmt} {a b c d e tg iter elt : Expr} {es elts ifs : List Expr} {pos : Pos} {o : Out}
theorem ownI {K : PySem.W.Frag} {B G H : Hp} {σ : L2.St} {i : Nat} {C p : Addr} {fs : List (Str × Slot)} (l : Lo K B G H σ Γ) (h : Γ[i]? = some (oi C p fs)) : ∃ F dx wz fq, LoF K B G H σ Γ F ∧ F i = p :: fq ∧ p ∉ fq ∧ σ[i]? = some (some (.ref p)) ∧ H p = some (.ins C dx wz) ∧ FsOk K G H wz fs fq ∧ ∀ a ∈ F i, B a = none ∧ G a = none ∧ ∃ ho, H a = some ho := by
  obtain ⟨F, v, lf, e1, hf, dx, wz, fq, rfl, hF, hp, hh, ok⟩ := own_at l h
  exact ⟨F, dx, wz, fq, lf, hF, hp, e1, hh, ok, hf⟩
/-- self.f -/
theorem ev_fld (i : Nat) {α : Type} [Rp α] {C p : Addr} {fs : List (Str × Slot)} {f : Str} {y : α} (hc : Cls X.K C) (hn : NoAttr X.K C f) (hv : PE X a (tVar i)) (h0 : Γ[i]? = some (oi C p fs)) (hf : fs.lookup f = some (.v y)) (hb : attributeBase a f X.env (eval a X.env) = eval a X.env := by rfl) : EV X Γ (.Attribute a f pos) y := ⟨fun B G H σ hB hg l Q q => by
  obtain ⟨F, dx, wz, fq, lf, hF, hp, e1, hh, ok, hfr⟩ := ownI l h0
  obtain ⟨v, e2, r⟩ := ok.get hf
  exact we (pe_fld hv hb) ⟨_, e1, p, C, dx, wz, v, rfl, hh, hc, hn, e2, q v G H (Grow.refl hg) r⟩⟩
/-- an own field becomes known -/
theorem Lo.frzF {K : PySem.W.Frag} {B G H : Hp} {σ : L2.St} {i : Nat} {C p : Addr} {fs : List (Str × Slot)} {f : Str} {τ β : Type} [Ow τ] [Rp β] [Fz τ β] {x : τ} (l : Lo K B G H σ Γ) (h0 : Γ[i]? = some (oi C p fs)) (hf : fs.lookup f = some (.o x)) :
    ∃ g, (∀ a ∈ g, B a = none ∧ G a = none ∧ ∃ ho, H a = some ho) ∧ Lo K B (gl G H g) H σ (Γ.set i (oi C p (putS f (.v (Fz.val x : β)) fs))) := by
  obtain ⟨F, dx, wz, fq, lf, hF, hp, e1, hh, ok, hfr⟩ := ownI l h0
  obtain ⟨v, g, e2, r, hsub, _, h5⟩ := ok.getO hf
  have hgF : ∀ a ∈ g, a ∈ F i := fun a ha => by rw [hF]; exact List.mem_cons_of_mem _ (hsub a ha)
  have hgn : ∀ a ∈ g, G a = none := fun a ha => (hfr a (hgF a ha)).2.1
  have hs : Same G (gl G H g) := gl_up hgn
  obtain ⟨fq', k1, k2⟩ := h5 (gl G H g) (dt (Fz.val x : β)) hs (Fz.ok hgn r)
  refine ⟨g, fun a ha => hfr a (hgF a ha), fun j => if j = i then p :: fq' else F j, by rw [List.length_set]; exact lf.len, fun j s e => ?_, fun j k s t hjk hj hk hs' ht b hb hb2 => ?_⟩
  · rcases set_get e with ⟨rfl, rfl, _⟩ | ⟨hij, e⟩
    · refine ⟨_, e1, .ref p, rfl, fun a ha => ?_, ?_⟩
      · rw [if_pos rfl] at ha
        have : a ∈ F i ∧ a ∉ g := by
          rcases List.mem_cons.mp ha with z | z
          · subst z; exact ⟨by rw [hF]; simp, fun y => hp (hsub a y)⟩
          · exact ⟨by rw [hF]; exact List.mem_cons_of_mem _ (k1 a z).1, (k1 a z).2⟩
        obtain ⟨q1, q2, q3⟩ := hfr a this.1
        exact ⟨q1, by rw [gl_out this.2]; exact q2, q3⟩
      · rw [if_pos rfl]
        exact ⟨dx, wz, fq', rfl, rfl, fun z => hp (k1 p z).1, hh, k2⟩
    · obtain ⟨o, h1, h2⟩ := lf.ok j s e
      refine ⟨o, h1, ?_⟩
      rw [if_neg (Ne.symm hij)]
      cases s with
      | any => trivial
      | val d => obtain ⟨w, e4, r4⟩ := h2; exact ⟨w, e4, Dat.mono hs r4⟩
      | own d =>
        obtain ⟨w, e4, hf2, r4⟩ := h2
        refine ⟨w, e4, fun a ha => ?_, Odat.mono hs (fun _ _ => rfl) r4⟩
        obtain ⟨q1, q2, q3⟩ := hf2 a ha
        exact ⟨q1, by rw [gl_out (fun z => lf.sep j i _ _ (Ne.symm hij) e h0 rfl rfl a ha (hgF a z))]; exact q2, q3⟩
  · have sub : ∀ a ∈ p :: fq', a ∈ F i := fun a ha => by
      rcases List.mem_cons.mp ha with z | z
      · subst z; rw [hF]; simp
      · rw [hF]; exact List.mem_cons_of_mem _ (k1 a z).1
    rcases set_get hj with ⟨rfl, rfl, _⟩ | ⟨hij, hj⟩
    · simp only [if_pos] at hb
      rcases set_get hk with ⟨rfl, rfl, _⟩ | ⟨hik, hk⟩
      · exact hjk rfl
      · simp only [if_neg (Ne.symm hik)] at hb2
        exact lf.sep _ _ _ t hjk h0 hk rfl ht b (sub b hb) hb2
    · simp only [if_neg (Ne.symm hij)] at hb
      rcases set_get hk with ⟨rfl, rfl, _⟩ | ⟨hik, hk⟩
      · simp only [if_pos] at hb2
        exact lf.sep _ _ s _ hjk hj h0 hs' rfl b hb (sub b hb2)
      · simp only [if_neg (Ne.symm hik)] at hb2
        exact lf.sep j k s t hjk hj hk hs' ht b hb hb2
theorem bv_frzF (i : Nat) {C p : Addr} {fs : List (Str × Slot)} (f : Str) {τ β : Type} [Ow τ] [Rp β] [Fz τ β] {x : τ} (h0 : Γ[i]? = some (oi C p fs)) (hf : fs.lookup f = some (.o x)) (hr : BV X (Γ.set i (oi C p (putS f (.v (Fz.val x : β)) fs))) sts o) : BV X Γ sts o := ⟨fun B G H σ D hB hg l k => by
  obtain ⟨g, hgn, lo⟩ := l.frzF h0 hf
  refine hr B _ H σ D hB (gl_dn hg) lo fun G' H' s => k G' H' ⟨s.b, (gl_up fun a ha => (hgn a ha).2.1).trans s.g, s.gh, fun b u e n => ?_⟩
  rw [s.fr b u e n, gl_out (fun z => by rw [(hgn b z).1] at e; cases e)]⟩
theorem ev_thawF (i : Nat) {C p : Addr} {fs : List (Str × Slot)} (f : Str) {τ β γ : Type} [Ow τ] [Rp β] [Fz τ β] [Rp γ] [Flat γ] {x : τ} {y : γ} (h0 : Γ[i]? = some (oi C p fs)) (hf : fs.lookup f = some (.o x)) (hr : EV X (Γ.set i (oi C p (putS f (.v (Fz.val x : β)) fs))) e y) : EV X Γ e y := ⟨fun B G H σ hB hg l Q q => by
  obtain ⟨g, hgn, lo⟩ := l.frzF h0 hf
  exact hr B _ H σ hB (gl_dn hg) lo Q fun v G' H' gr rv => q v G H' ⟨Same.refl _, gr.h, hg.trans gr.h, fun _ _ _ _ => rfl⟩ (Flat.any rv)⟩
theorem et_thawF (i : Nat) {C p : Addr} {fs : List (Str × Slot)} (f : Str) {τ β : Type} [Ow τ] [Rp β] [Fz τ β] {x : τ} {y : Bool} (h0 : Γ[i]? = some (oi C p fs)) (hf : fs.lookup f = some (.o x)) (hr : ET X (Γ.set i (oi C p (putS f (.v (Fz.val x : β)) fs))) e y) : ET X Γ e y := ⟨fun B G H σ hB hg l Q q => by
  obtain ⟨g, hgn, lo⟩ := l.frzF h0 hf
  exact hr B _ H σ hB (gl_dn hg) lo Q fun G' H' gr => q G H' ⟨Same.refl _, gr.h, hg.trans gr.h, fun _ _ _ _ => rfl⟩⟩
theorem en_thawF (i : Nat) {C p : Addr} {fs : List (Str × Slot)} (f : Str) {τ β : Type} [Ow τ] [Rp β] [Fz τ β] {x : τ} {ns : List Int} (h0 : Γ[i]? = some (oi C p fs)) (hf : fs.lookup f = some (.o x)) (hr : EN X (Γ.set i (oi C p (putS f (.v (Fz.val x : β)) fs))) e (ML.mk ns)) : EN X Γ e (ML.mk ns) := ⟨fun B G H σ hB hg l Q q => by
  obtain ⟨g, hgn, lo⟩ := l.frzF h0 hf
  refine hr B _ H σ hB (gl_dn hg) lo Q fun v fp G' H' gr hfp ok => ?_
  obtain ⟨q0, vs, rfl, rfl, hh, rr⟩ := ok
  have hp := hfp q0 (by simp)
  refine q (.ref q0) [q0] G H' ⟨Same.refl _, gr.h, hg.trans gr.h, fun _ _ _ _ => rfl⟩ (fun a ha => by
    have e : a = q0 := by simpa using ha
    subst e
    exact ⟨hp.1, hg.free hp.1, _, hh⟩) ⟨q0, vs, rfl, rfl, hh, ?_⟩
  rw [rr.ints]
  exact ints_reps _⟩
/-- the fields change, what stands at p is written -/
theorem oi_put {C p dx : Addr} {fs fs' : List (Str × Slot)} {B G H G1 H1 : Hp} {σ : L2.St} {F : Nat → List Addr} {i : Nat} {fq fq' : List Addr} {wz' : List (Str × V)} (lf : LoF X.K B G H σ Γ F) (h0 : Γ[i]? = some (oi C p fs)) (hF : F i = p :: fq) (hp : p ∉ fq) (e1 : σ[i]? = some (some (.ref p))) (hfr : ∀ a ∈ F i, B a = none ∧ G a = none ∧ ∃ ho, H a = some ho) (g : Grow G H G1 H1) (hB : Same B H)
    (hn : ∀ a ∈ fq', a ∈ fq ∨ (H a = none ∧ G1 a = none ∧ ∃ ho, H1 a = some ho)) (hp' : p ∉ fq') (ok : FsOk X.K G1 (upd H1 p (.ins C dx wz')) wz' fs' fq') : Stp B G G1 (upd H1 p (.ins C dx wz')) ∧ Lo X.K B G1 (upd H1 p (.ins C dx wz')) σ (Γ.set i (oi C p fs')) := by
  have lg := lf.grow g
  have hpF : p ∈ F i := by rw [hF]; simp
  have hf3 : ∀ a ∈ F i, B a = none ∧ G1 a = none := fun a ha => by
    obtain ⟨q1, q2, ho, q3⟩ := hfr a ha
    exact ⟨q1, (g.fr a ho q3 (lf.nt h0 a ha ho q3)).trans q2⟩
  have hk : ∀ a, a ∉ F i → ∀ o, H1 a = some o → upd H1 p (.ins C dx wz') a = some o := fun a ha o e => by rw [upd_ne (fun z => ha (by rw [z]; exact hpF))]; exact e
  refine ⟨(g.step hB).trans (Stp.mut (hB.trans g.h) g.gh hf3 hk), lg.mut2 (fp := p :: fq') (d' := ot (OI.mk C p : OI fs')) h0 e1 (fun a ha _ => hk a ha) (fun a ha => ?_) ⟨dx, wz', fq', rfl, rfl, hp', upd_same, ok⟩⟩
  have inF : a ∈ F i → (∀ j s, Γ[j]? = some s → j ≠ i → s.isOwn = true → a ∉ F j) := fun z j s e hj hs y => lf.sep j i _ _ hj e h0 hs rfl a y z
  rcases List.mem_cons.mp ha with z | z
  · subst z; exact ⟨inF hpF, (hf3 a hpF).1, (hf3 a hpF).2, _, upd_same⟩
  · have hap : a ≠ p := fun y => hp' (y ▸ z)
    rcases hn a z with z | ⟨z1, z2, ho, z3⟩
    · have haF : a ∈ F i := by rw [hF]; exact List.mem_cons_of_mem _ z
      obtain ⟨q1, q2, ho, q3⟩ := hfr a haF
      exact ⟨inF haF, q1, (hf3 a haF).2, ho, by rw [upd_ne hap]; exact g.h _ _ q3⟩
    · refine ⟨fun j s e hj hs y => ?_, hB.free z1, z2, ho, by rw [upd_ne hap]; exact z3⟩
      obtain ⟨o, _, h2⟩ := lf.ok j s e
      cases s with
      | any => cases hs
      | val _ => cases hs
      | own d2 =>
        obtain ⟨_, _, hf2, _⟩ := h2
        obtain ⟨_, _, ho2, e3⟩ := hf2 a y
        rw [e3] at z1; cases z1
/-- self.f = e -/
theorem sv_fldSet (i : Nat) {α : Type} [Rp α] {C p : Addr} {fs : List (Str × Slot)} {f : Str} {y : α} (hc : Cls X.K C) (hn : NoAttr X.K C f) (hps : PS X st (sFld X.K (tVar i) (WE X e) f)) (h0 : Γ[i]? = some (oi C p fs)) (hf : fs.lookup f = none ∨ ∃ d0, fs.lookup f = some (.val d0)) (h : EV X Γ e y) (hl : fs.length < 1000 := by decide) :
    SV X Γ st (.nx (Γ.set i (oi C p (putS f (.v y) fs)))) := ⟨fun B G H σ D hB hg l k => by
  obtain ⟨F, dx, wz, fq, lf, hF, hp, e1, hh, ok, hfr⟩ := ownI l h0
  refine ws hps (h B G H σ hB hg l _ fun v G1 H1 g1 r1 => ⟨_, e1, p, C, dx, wz, rfl, g1.h _ _ hh, hc, hn, by rw [ok.len]; exact hl, ?_⟩)
  have hap : ∀ a ∈ fq, a ≠ p := fun a ha z => hp (z ▸ ha)
  have ok1 : FsOk X.K G1 (upd H1 p (.ins C dx (putF f v wz))) wz fs fq := ok.mono g1.g fun a ha => by
    obtain ⟨_, _, ho, q3⟩ := hfr a (by rw [hF]; exact List.mem_cons_of_mem _ ha)
    rw [upd_ne (hap a ha), g1.h _ _ q3, q3]
  obtain ⟨s1, s2⟩ := oi_put lf h0 hF hp e1 hfr g1 hB (fun a ha => .inl ha) hp (FsOk.putV (d := dt y) r1 ok1 hf)
  exact k G1 _ s1 σ s2⟩
/-- self.f = a new thing of one's own -/
theorem sv_fldNew (i : Nat) {τ : Type} [Ow τ] {C p : Addr} {fs : List (Str × Slot)} {f : Str} {y : τ} (hc : Cls X.K C) (hn : NoAttr X.K C f) (hps : PS X st (sFld X.K (tVar i) (WE X e) f)) (h0 : Γ[i]? = some (oi C p fs)) (hf : fs.lookup f = none) (h : EN X Γ e y) (hl : fs.length < 1000 := by decide) :
    SV X Γ st (.nx (Γ.set i (oi C p (putS f (.o y) fs)))) := ⟨fun B G H σ D hB hg l k => by
  obtain ⟨F, dx, wz, fq, lf, hF, hp, e1, hh, ok, hfr⟩ := ownI l h0
  refine ws hps (h B G H σ hB hg l _ fun v g0 G1 H1 g1 hf1 r1 => ⟨_, e1, p, C, dx, wz, rfl, g1.h _ _ hh, hc, hn, by rw [ok.len]; exact hl, ?_⟩)
  have hap : ∀ a ∈ fq, a ≠ p := fun a ha z => hp (z ▸ ha)
  have hold : ∀ a ∈ F i, ∃ ho, H a = some ho := fun a ha => (hfr a ha).2.2
  have hnew : ∀ a ∈ g0, a ∉ F i := fun a ha z => by
    obtain ⟨ho, e⟩ := hold a z
    rw [(hf1 a ha).1] at e; cases e
  have hgp : ∀ a ∈ g0, a ≠ p := fun a ha z => hnew a ha (by rw [hF, z]; simp)
  have ok1 : FsOk X.K G1 (upd H1 p (.ins C dx (putF f v wz))) wz fs fq := ok.mono g1.g fun a ha => by
    obtain ⟨_, _, ho, q3⟩ := hfr a (by rw [hF]; exact List.mem_cons_of_mem _ ha)
    rw [upd_ne (hap a ha), g1.h _ _ q3, q3]
  have r2 : (ot y).ok X.K G1 (upd H1 p (.ins C dx (putF f v wz))) v g0 := Ow.mono (Same.refl _) (fun a ha => upd_ne (hgp a ha)) r1
  obtain ⟨fq', k1, k2⟩ := FsOk.putO r2 ok1 hf fun a ha z => hnew a ha (by rw [hF]; exact List.mem_cons_of_mem _ z)
  obtain ⟨s1, s2⟩ := oi_put (fq' := fq') lf h0 hF hp e1 hfr g1 hB (fun a ha => ((k1 a).mp ha).elim .inl fun z => .inr (hf1 a z)) (fun z => ((k1 p).mp z).elim hp fun z => hgp p z rfl) k2
  exact k G1 _ s1 σ s2⟩
/-- an own field of one address changes -/
theorem oi_mut {B G H : Hp} {σ : L2.St} {i : Nat} {C p : Addr} {fs : List (Str × Slot)} {f : Str} {d : Odat} (l : Lo X.K B G H σ Γ) (hB : Same B H) (h0 : Γ[i]? = some (oi C p fs)) (hf : fs.lookup f = some (.own d)) : ∃ dx wz v g, σ[i]? = some (some (.ref p)) ∧ H p = some (.ins C dx wz) ∧ wz.lookup f = some v ∧ d.ok X.K G H v g ∧ (∀ a ∈ g, B a = none ∧ G a = none ∧ ∃ ho, H a = some ho) ∧
    ∀ (G1 H1 : Hp) (gr : Grow G H G1 H1) (q : Addr) (ho : HO) (d' : Odat), g = [q] → d'.ok X.K G1 (upd H1 q ho) v [q] → Stp B G G1 (upd H1 q ho) ∧ Lo X.K B G1 (upd H1 q ho) σ (Γ.set i (oi C p (putS f (.own d') fs))) := by
  obtain ⟨F, dx, wz, fq, lf, hF, hp, e1, hh, ok, hfr⟩ := ownI l h0
  obtain ⟨v, g, e2, r, hsub, h4, _⟩ := ok.getO hf
  have hgF : ∀ a ∈ g, a ∈ F i := fun a ha => by rw [hF]; exact List.mem_cons_of_mem _ (hsub a ha)
  refine ⟨dx, wz, v, g, e1, hh, e2, r, fun a ha => hfr a (hgF a ha), fun G1 H1 gr q ho d' eg r' => ?_⟩
  subst eg
  have hqF : q ∈ F i := hgF q (by simp)
  have hpq : p ≠ q := fun z => hp (z ▸ hsub q (by simp))
  have lg := lf.grow gr
  have hf3 : ∀ a ∈ F i, B a = none ∧ G1 a = none := fun a ha => by
    obtain ⟨q1, q2, ho, q3⟩ := hfr a ha
    exact ⟨q1, (gr.fr a ho q3 (lf.nt h0 a ha ho q3)).trans q2⟩
  have hk : ∀ a, a ∉ F i → ∀ o, H1 a = some o → upd H1 q ho a = some o := fun a ha o e => by rw [upd_ne (fun z => ha (by rw [z]; exact hqF))]; exact e
  refine ⟨(gr.step hB).trans (Stp.mut (hB.trans gr.h) gr.gh hf3 hk), lg.mut (fp := F i) (d' := ot (OI.mk C p : OI (putS f (.own d') fs))) h0 e1 hk (fun a ha => ?_) ?_⟩
  · obtain ⟨q1, q2, h1, q3⟩ := hfr a ha
    refine ⟨.inl ha, q1, (hf3 a ha).2, ?_⟩
    by_cases haq : a = q
    · subst haq; exact ⟨_, upd_same⟩
    · exact ⟨h1, by rw [upd_ne haq]; exact gr.h _ _ q3⟩
  · refine ⟨dx, wz, fq, rfl, hF, hp, by rw [upd_ne hpq]; exact gr.h _ _ hh, h4 G1 _ d' gr.g (fun a ha hn => ?_) r'⟩
    obtain ⟨_, _, h1, q3⟩ := hfr a (by rw [hF]; exact List.mem_cons_of_mem _ ha)
    rw [upd_ne (fun z => hn (by rw [z]; simp)), gr.h _ _ q3, q3]
/-- self.f.append(e) -/
theorem sv_fldApp (i : Nat) {α : Type} [Rp α] {C p : Addr} {fs : List (Str × Slot)} {f : Str} {xs : List α} {x : α} {c e : Expr} (hc : Cls X.K C) (hn : NoAttr X.K C f) (hp : PE X c (tBM X.K "list" rAppend (tFld X.K (tVar i) f) (tCons (WE X e) tNil))) (h0 : Γ[i]? = some (oi C p fs)) (hf : fs.lookup f = some (.l xs)) (h : EV X Γ e x) (hz : xs.length < 10000000) (hs : swapsWith c none pos.line X.env = pure false := by rfl) :
    SV X Γ (.Expr c pos) (.nx (Γ.set i (oi C p (putS f (.l (xs ++ [x])) fs)))) := ⟨fun B G H σ D hB hg l k => by
  obtain ⟨dx, wz, v, g, e1, hh, e2, ok, hfr, hm⟩ := oi_mut l hB h0 hf
  obtain ⟨q, vs, rfl, rfl, hq, r⟩ := ok
  refine ws (ps_expr hp hs) ⟨_, e1, p, C, dx, wz, .ref q, rfl, hh, hc, hn, e2, .inl ⟨rfl, _, .inl (.inl hq)⟩, ?_⟩
  refine h B G H σ hB hg l _ fun v G1 H1 g1 r1 => ?_
  refine ⟨q, vs, v, rfl, rfl, g1.h _ _ hq, by rw [r.len]; exact Nat.lt_of_lt_of_le hz (by decide), ?_⟩
  obtain ⟨s1, s2⟩ := hm G1 H1 g1 q (.lst (vs ++ [v])) (ot (ML.mk (xs ++ [x]))) rfl ⟨q, _, rfl, rfl, upd_same, paired_app (r.mono g1.g) (.cons r1 .nil)⟩
  exact k G1 _ s1 σ s2⟩
/-- self.f[e1] op= e3, ints -/
theorem sv_fldAug (i : Nat) {C p : Addr} {fs : List (Str × Slot)} {f : Str} {xs : List Int} {r y : Int} {e1 e3 : Expr} {g : Int → Int → Int} (hc : Cls X.K C) (hn : NoAttr X.K C f) (hp : PS X st (tAugS (tFld X.K (tVar i) f) (WE X e1) (WE X e3) (rGetL X.K) (ipI g) rSetL)) (h0 : Γ[i]? = some (oi C p fs)) (hf : fs.lookup f = some (.l xs)) (h1 : EV X Γ e1 r) (h3 : EV X Γ e3 y)
    (hr : 0 ≤ r ∧ r < (xs.length : Int)) : SV X Γ st (.nx (Γ.set i (oi C p (putS f (.l (xs.set r.toNat (g (xs.getD r.toNat 0) y))) fs)))) := ⟨fun B G H σ D hB hg l k => by
  obtain ⟨dx, wz, v, g0, ev, hh, e2, ok, hfr, hm⟩ := oi_mut l hB h0 hf
  obtain ⟨q, vs, rfl, rfl, hq, rr⟩ := ok
  refine ws hp ⟨_, ev, p, C, dx, wz, .ref q, rfl, hh, hc, hn, e2, h1 B G H σ hB hg l _ fun u G1 H1 g1 r1 => ?_⟩
  have hx : xs[r.toNat]? = some (xs.getD r.toNat 0) := by
    have h : r.toNat < xs.length := by omega
    rw [List.getD_eq_getElem?_getD, List.getElem?_eq_getElem h]; rfl
  obtain ⟨w, hw, rw'⟩ := paired_get2 rr _ _ hx
  refine ⟨q, vs, r, w, rfl, r1, .inl (.inl (g1.h _ _ hq)), hr.1, hw, ?_⟩
  refine h3 B G1 H1 σ (hB.trans g1.h) g1.gh (l.grow g1) _ fun v3 G3 H3 g3 r3 => ?_
  have gr := g1.trans g3
  refine ⟨xs.getD r.toNat 0, y, rw', r3, q, vs, r, r.toNat, rfl, r1, gr.h _ _ hq, ?_, ?_⟩
  · have this : vs.length = xs.length := rr.len
    unfold ixN
    rw [if_pos hr.1, if_pos (by omega)]
  · have rr : Reps X.K G vs xs := rr
    obtain ⟨s1, s2⟩ := hm G3 H3 gr q (.lst (vs.set r.toNat (.int (g (xs.getD r.toNat 0) y)))) (ot (ML.mk (xs.set r.toNat (g (xs.getD r.toNat 0) y)))) rfl ⟨q, _, rfl, rfl, upd_same, paired_set (R := fun v (x : Int) => v = V.int x) rfl _ (rr.mono gr.g)⟩
    exact k G3 _ s1 σ s2⟩
/-! ### an instance is made -/
theorem en_make {CX : CXT} {k j : Nat} {C f : Addr} {fd : FuncData} {ps : List Str} {R : Odat → List Dat → Unit → Odat → Prop} {E : XK} {x : Str} {p : Pos} {ds : List Dat} {fs' : List (Str × Slot)} (M : Mk X.K C f) (F : FnOk X.prog X.w X.K X.mg X.base CX k f fd ps (O1Sp X.K R)) (hr : Room j X.A) (hj : k + 1 ≤ j) (hm : X.mg x = some (.ref C)) (hb : Binds X.K fd ps []) (hx : Passes CX X E) (ha : EA X Γ (e :: es) ds)
    (hR : ∀ p, R (ot (OI.mk C p : OI [])) ds () (ot (OI.mk C p : OI fs'))) (hg : Gl X x := by rfl) (hdb : (x == ("__debug__" : Str)) = false := by decide) (he : starEach (e :: es) X.env = (false, eval e X.env) :: starEach es X.env := by rfl) (hpl : (backTo pos (starEach es X.env)).any (·.1) = false := by rfl) :
    EN X Γ (.Call (.Name x p) (e :: es) [] pos) (OIu.mk C : OIu fs') := ⟨fun B G H σ hB hgh l Q q =>
  we (pe_make M F (hr.mono hj) hg hm hb .nil hx pa hdb he hpl) (ha B G H σ hB hgh l _ fun vs G1 H1 g1 r1 y dx ny ndx nex => by
    show O1Sp X.K R (.ref y :: (vs ++ [])) _ _ _
    rw [List.append_nil]
    have s2 : Same H1 (upd (upd H1 dx (.own y)) y (.ins C dx [])) := fun b o e => by
      rw [upd_ne (ne_of_none e ny), upd_ne (ne_of_none e ndx)]; exact e
    refine ⟨G1, [y], y, ot (OI.mk C y : OI []), vs, ds, (), _, rfl, g1.gh.trans s2, fun a ha => ?_, ⟨dx, [], [], rfl, rfl, by simp, upd_same, .nil⟩, r1, hR y, pin_oi, fun v G' H' U' aft fr ok rv => ⟨rv, ?_⟩⟩
    · have : a = y := by simpa using ha
      subst this
      exact ⟨g1.gh.free ny, _, upd_same⟩
    · have hd : ∀ b o, H1 b = some o → delF (upd (upd H1 dx (.own y)) y (.ins C dx [])) [y] b = some o := fun b o e => by
        have hby : b ≠ y := ne_of_none e ny
        rw [delF_out (by simpa using hby)]
        exact s2 b o e
      refine q (.ref y) U' G' H' ⟨g1.g.trans aft.g, fun b o e => aft.h b o (hd b o (g1.h b o e)), aft.gh, fun b o e n => ?_⟩ (fun a ha => ?_) ⟨y, ok⟩
      · have e1 := g1.h b o e
        have hby : b ≠ y := ne_of_none e1 ny
        rw [aft.fr b o (by simpa using hby) (s2 b o e1) n]
        exact g1.fr b o e n
      · obtain ⟨k1, k2, k3⟩ := fr a ha
        refine ⟨?_, k2, k3⟩
        rcases k1 with z | z
        · have : a = y := by simpa using z
          subst this
          exact g1.h.free ny
        · cases e : H a with
          | none => rfl
          | some o => rw [s2 a o (g1.h a o e)] at z; cases z)⟩
theorem bv_pinO (i : Nat) {C : Addr} {fs : List (Str × Slot)} (h0 : Γ[i]? = some (.o (OIu.mk C : OIu fs))) (hr : ∀ p, BV X (Γ.set i (oi C p fs)) sts o) : BV X Γ sts o := ⟨fun B G H σ D hB hg l k => by
  obtain ⟨F, v, lf, e1, hf, p, ok⟩ := own_at l h0
  exact hr p B G H σ D hB hg (lf.mut (fp := F i) (d' := ot (OI.mk C p : OI fs)) h0 e1 (fun a _ o e => e) (fun a ha => ⟨.inl ha, hf a ha⟩) ok) k⟩
/-! ### calls -/
theorem call1 {B G H : Hp} {σ : L2.St} {i : Nat} {p : Addr} {d : Odat} {β : Type} [Rp β] {R : Odat → List Dat → β → Odat → Prop} {ds : List Dat} {y : β} {d' : Odat} {F : Nat → List Addr} (hB : Same B H) (hg : Same G H) (lf : LoF X.K B G H σ Γ F) (h0 : Γ[i]? = some (.own d)) (e1 : σ[i]? = some (some (.ref p))) (hf : ∀ a ∈ F i, B a = none ∧ G a = none ∧ ∃ ho, H a = some ho) (ok : d.ok X.K G H (.ref p) (F i)) {vs : List V} {G1 H1 : Hp} (g1 : Grow G H G1 H1) (r1 : DatsOk X.K G1 vs ds) (hR : R d ds y d') (hp : PinAt d' p) {Q : VK} {E : XK}
    (q : ∀ v G' H', Stp B G G' H' → Lo X.K B G' H' σ (Γ.set i (.own d')) → Rp.rep X.K G' v y → Q v H') : O1Sp X.K R (.ref p :: vs) H1 Q E := by
  have lg := lf.grow g1
  have hf1 : ∀ a ∈ F i, B a = none ∧ G1 a = none ∧ ∃ ho, H1 a = some ho := fun a ha => by
    obtain ⟨q1, q2, ho, q3⟩ := hf a ha
    exact ⟨q1, (g1.fr a ho q3 (lf.nt h0 a ha ho q3)).trans q2, ho, g1.h _ _ q3⟩
  refine ⟨G1, F i, p, d, vs, ds, y, d', rfl, g1.gh, fun a ha => (hf1 a ha).2, Odat.mono g1.g (fun a ha => ?_) ok, r1, hR, hp, fun v G' H' U' aft fr ok' rv => q v G' H' ((g1.step hB).trans (aft.stp (hB.trans g1.h) fun b hb => (hf b hb).1)) ?_ rv⟩
  · obtain ⟨_, _, ho, q3⟩ := hf a ha
    rw [g1.h _ _ q3, q3]
  · refine lg.call aft (fun j => decide (j = i)) (F' := fun _ => U') (by rw [List.length_set]) (fun j s hI e hs b hb hb2 => ?_) (fun j hI => ?_) (fun j s hI e => ?_) (fun j hI b hb => (fr b hb).1) (fun j k hjk hj hk => absurd ((of_decide_eq_true hj).trans (of_decide_eq_true hk).symm) hjk)
    · exact lf.sep j i _ _ (of_decide_eq_false hI) e h0 hs rfl b hb hb2
    · rw [List.getElem?_set_ne (Ne.symm (of_decide_eq_false hI))]
    · have : j = i := of_decide_eq_true hI
      subst this
      rcases set_get e with ⟨_, rfl, _⟩ | ⟨hij, _⟩
      · refine ⟨_, e1, .ref p, rfl, fun a ha => ?_, ok'⟩
        obtain ⟨k1, k2, k3⟩ := fr a ha
        refine ⟨?_, k2, k3⟩
        rcases k1 with z | z
        · exact (hf a z).1
        · exact (hB.trans g1.h).free z
      · exact absurd rfl hij
/-- self.m(..), the instance may change -/
theorem ev_mt1 (i : Nat) {k j : Nat} {C p : Addr} {fs : List (Str × Slot)} {m : Str} {apos : Pos} {β : Type} [Rp β] {R : Odat → List Dat → β → Odat → Prop} {y : β} {ds : List Dat} {d' : Odat} {pl : Sem Bool} (M : C8.Met X.prog X.w X.K X.mg X.base k C m (O1Sp X.K R) []) (hr : Room j X.A) (hj : k ≤ j) (hv : PE X a (tVar i)) (h0 : Γ[i]? = some (oi C p fs)) (hl : fs.lookup m = none) (ha : EA X Γ (e :: es) ds) (hR : R (ot (OI.mk C p : OI fs)) ds y d') (hp : PinAt d' p)
    (hst : starEach (e :: es) X.env = (false, eval e X.env) :: starEach es X.env := by rfl) (hpl : (backTo pos (starEach es X.env)).any (·.1) = false := by rfl)
    (ht : eval (.Call (.Attribute a m apos) (e :: es) [] pos) X.env = (do
      let ov ← eval a X.env
      standAt apos.atName
      let (f, first) ← holding [ov] (getMethod ov m pl)
      callWith pos f first (backTo pos (starEach (e :: es) X.env)) (backToKw pos (keywordEach [] X.env))) := by rfl) : EVM X Γ (.Call (.Attribute a m apos) (e :: es) [] pos) y (Γ.set i (.own d')) := ⟨fun B G H σ hB hg l Q q => by
  obtain ⟨F, v0, lf, e1, hf, dx, wz, fq, rfl, hF, hpq, hh, ok⟩ := own_at l h0
  refine we (C8.pe_mt (pl := pl) M hr hj hv pa hst hpl ht) ⟨_, e1, p, dx, wz, rfl, hh, ok.no hl, ha B G H σ hB hg l _ fun vs G1 H1 g1 r1 => ?_⟩
  show O1Sp X.K R (.ref p :: (vs ++ [])) _ _ _
  rw [List.append_nil]
  exact call1 hB hg lf h0 e1 hf ⟨dx, wz, fq, rfl, hF, hpq, hh, ok⟩ g1 r1 hR hp q⟩
theorem ev_mt1z (i : Nat) {k j : Nat} {C p : Addr} {fs : List (Str × Slot)} {m : Str} {apos : Pos} {β : Type} [Rp β] {R : Odat → List Dat → β → Odat → Prop} {y : β} {d' : Odat} {pl : Sem Bool} (M : C8.Met X.prog X.w X.K X.mg X.base k C m (O1Sp X.K R) []) (hr : Room j X.A) (hj : k ≤ j) (hv : PE X a (tVar i)) (h0 : Γ[i]? = some (oi C p fs)) (hl : fs.lookup m = none) (hR : R (ot (OI.mk C p : OI fs)) [] y d') (hp : PinAt d' p)
    (ht : eval (.Call (.Attribute a m apos) [] [] pos) X.env = (do
      let ov ← eval a X.env
      standAt apos.atName
      let (f, first) ← holding [ov] (getMethod ov m pl)
      callWith pos f first (backTo pos (starEach [] X.env)) (backToKw pos (keywordEach [] X.env))) := by rfl) : EVM X Γ (.Call (.Attribute a m apos) [] [] pos) y (Γ.set i (.own d')) := ⟨fun B G H σ hB hg l Q q => by
  obtain ⟨F, v0, lf, e1, hf, dx, wz, fq, rfl, hF, hpq, hh, ok⟩ := own_at l h0
  refine we (C8.pe_mt0 (pl := pl) M hr hj hv ht) ⟨_, e1, p, dx, wz, rfl, hh, ok.no hl, ?_⟩
  exact call1 (E := fun _ _ _ => True) hB hg lf h0 e1 hf ⟨dx, wz, fq, rfl, hF, hpq, hh, ok⟩ (Grow.refl hg) .nil hR hp q⟩
/-- self.m(d, ..), d one's own thing at a known place, too -/
theorem ev_mt2 (i i2 : Nat) {k j : Nat} {C p p2 : Addr} {fs : List (Str × Slot)} {m : Str} {apos : Pos} {β : Type} [Rp β] {R : Odat → Odat → List Dat → β → Odat → Odat → Prop} {y : β} {ds : List Dat} {z d' z' : Odat} {pl : Sem Bool} {n2 : Expr} (M : C8.Met X.prog X.w X.K X.mg X.base k C m (O2Sp X.K R) []) (hr : Room j X.A) (hj : k ≤ j) (hii : i ≠ i2) (hv : PE X a (tVar i)) (hv2 : PE X n2 (tVar i2)) (h0 : Γ[i]? = some (oi C p fs)) (h2 : Γ[i2]? = some (.own z)) (hz : PinAt z p2) (hl : fs.lookup m = none) (ha : EA X Γ es ds) (hR : R (ot (OI.mk C p : OI fs)) z ds y d' z') (hp : PinAt d' p) (hp2 : PinAt z' p2)
    (hst : starEach (n2 :: es) X.env = (false, eval n2 X.env) :: starEach es X.env := by rfl) (hpl : (backTo pos (starEach es X.env)).any (·.1) = false := by rfl)
    (ht : eval (.Call (.Attribute a m apos) (n2 :: es) [] pos) X.env = (do
      let ov ← eval a X.env
      standAt apos.atName
      let (f, first) ← holding [ov] (getMethod ov m pl)
      callWith pos f first (backTo pos (starEach (n2 :: es) X.env)) (backToKw pos (keywordEach [] X.env))) := by rfl) : EVM X Γ (.Call (.Attribute a m apos) (n2 :: es) [] pos) y ((Γ.set i (.own d')).set i2 (.own z')) := ⟨fun B G H σ hB hg l Q q => by
  obtain ⟨F, lf⟩ := l
  obtain ⟨o1, e1, v0, ev0, hf, dx, wz, fq, rfl, hF, hpq, hh, ok⟩ := lf.ok i _ h0
  obtain ⟨o2, e2, v2, ev2, hf2, okz⟩ := lf.ok i2 _ h2
  have := hz _ _ _ _ _ okz
  subst this
  subst ev0 ev2
  have ok1 : (ot (OI.mk C p : OI fs)).ok X.K G H (.ref p) (F i) := ⟨dx, wz, fq, rfl, hF, hpq, hh, ok⟩
  refine we (C8.pe_mt (pl := pl) M hr hj hv (pa_cons hv2 pa hst) hst hpl ht) ⟨_, e1, p, dx, wz, rfl, hh, ok.no hl, _, e2, ha B G H σ hB hg ⟨F, lf⟩ _ fun vs G1 H1 g1 r1 => ?_⟩
  show O2Sp X.K R (.ref p :: ((.ref p2 :: vs) ++ [])) _ _ _
  rw [List.append_nil]
  have lg := lf.grow g1
  have up : ∀ (jj : Nat) (dd : Odat), Γ[jj]? = some (.own dd) → (∀ a ∈ F jj, B a = none ∧ G a = none ∧ ∃ ho, H a = some ho) → ∀ a ∈ F jj, B a = none ∧ G1 a = none ∧ ∃ ho, H1 a = some ho := fun jj dd hd hff a ha => by
    obtain ⟨q1, q2, ho, q3⟩ := hff a ha
    exact ⟨q1, (g1.fr a ho q3 (lf.nt hd a ha ho q3)).trans q2, ho, g1.h _ _ q3⟩
  have f1 := up i _ h0 hf
  have f2 := up i2 _ h2 hf2
  have keep : ∀ (jj : Nat), (∀ a ∈ F jj, B a = none ∧ G a = none ∧ ∃ ho, H a = some ho) → ∀ a ∈ F jj, H1 a = H a := fun jj hff a ha => by
    obtain ⟨_, _, ho, q3⟩ := hff a ha
    rw [g1.h _ _ q3, q3]
  refine ⟨G1, F i, F i2, p, p2, _, z, vs, ds, y, d', z', rfl, g1.gh, fun a ha => (f1 a ha).2, fun a ha => (f2 a ha).2, fun a ha => lf.sep i i2 _ _ hii h0 h2 rfl rfl a ha, Odat.mono g1.g (keep i hf) ok1, Odat.mono g1.g (keep i2 hf2) okz, r1, hR, hp, hp2, fun v G' H' U' W' aft fr fr2 dj okd okz' rv => q v G' H' ((g1.step hB).trans (aft.stp (hB.trans g1.h) fun b hb => (List.mem_append.mp hb).elim (fun z => (hf b z).1) fun z => (hf2 b z).1)) ?_ rv⟩
  have Bn : ∀ a, (a ∈ F i ++ F i2 ∨ H1 a = none) → B a = none := fun a k1 => by
    rcases k1 with z | z
    · rcases List.mem_append.mp z with z | z
      · exact (hf a z).1
      · exact (hf2 a z).1
    · exact (hB.trans g1.h).free z
  refine lg.call aft (fun j => decide (j = i ∨ j = i2)) (F' := fun j => if j = i then U' else W') (by rw [List.length_set, List.length_set]) (fun j s hI e hs b hb hb2 => ?_) (fun j hI => ?_) (fun j s hI e => ?_) (fun j hI b hb => ?_) (fun j k hjk hj hk b hb hb2 => ?_)
  · have hI := of_decide_eq_false hI
    rcases List.mem_append.mp hb2 with z | z
    · exact lf.sep j i _ _ (fun y => hI (.inl y)) e h0 hs rfl b hb z
    · exact lf.sep j i2 _ _ (fun y => hI (.inr y)) e h2 hs rfl b hb z
  · have hI := of_decide_eq_false hI
    rw [List.getElem?_set_ne (fun y => hI (.inr y.symm)), List.getElem?_set_ne (fun y => hI (.inl y.symm))]
  · rcases set_get e with ⟨rfl, rfl, _⟩ | ⟨hij2, e⟩
    · refine ⟨_, e2, .ref p2, rfl, fun a ha => ?_, by rw [if_neg (Ne.symm hii)]; exact okz'⟩
      rw [if_neg (Ne.symm hii)] at ha
      obtain ⟨k1, k2, k3⟩ := fr2 a ha
      exact ⟨Bn a k1, k2, k3⟩
    · rcases set_get e with ⟨rfl, rfl, _⟩ | ⟨hij, e⟩
      · refine ⟨_, e1, .ref p, rfl, fun a ha => ?_, by rw [if_pos rfl]; exact okd⟩
        rw [if_pos rfl] at ha
        obtain ⟨k1, k2, k3⟩ := fr a ha
        exact ⟨Bn a k1, k2, k3⟩
      · rcases of_decide_eq_true hI with y | y
        · exact absurd y.symm hij
        · exact absurd y.symm hij2
  · by_cases h : j = i
    · rw [if_pos h] at hb; exact (fr b hb).1
    · rw [if_neg h] at hb; exact (fr2 b hb).1
  · by_cases h : j = i
    · rw [if_pos h] at hb
      rw [if_neg (fun y => hjk (h.trans y.symm))] at hb2
      exact dj b hb hb2
    · rw [if_neg h] at hb
      have hk' : k = i := by
        rcases of_decide_eq_true hk with y | y
        · exact y
        · rcases of_decide_eq_true hj with w | w
          · exact absurd w h
          · exact absurd (w.trans y.symm) hjk
      rw [if_pos hk'] at hb2
      exact dj b hb2 hb⟩
/-! ### statements -/
theorem sv_setM (i : Nat) {α : Type} [Rp α] {x : α} {nm : Str} {pos' : Pos} (hN : X.N.Nodup) (h : EVM X Γ e x Γ') (hi : X.N[i]? = some nm := by rfl) (hx : L2.Loc X.env.scope nm := by first | exact Or.inl rfl | exact Or.inr rfl)
    (hs : swapsWith e (some (.Name nm pos')) pos.line X.env = pure false := by rfl) (hf : X.fn nm = true ∨ X.env.scope.names.lookup nm = some .local := by first | exact .inl rfl | exact .inr rfl) : SV X Γ (.Assign [.Name nm pos'] e pos) (.nx (Γ'.set i (.v x))) := ⟨fun B G H σ D hB hg l k =>
  ws (ps_set hN hi hx pe hs hf) (h.run B G H σ hB hg l _ fun v G1 H1 s1 l1 r1 => k G1 H1 s1 _ (l1.set (d := dt x) r1))⟩
theorem sv_asgM {Γ2 : List Slot} {α : Type} [Rp α] {x : α} (h : EVM X Γ e x Γ') (ht : TV X Γ' tg x Γ2) (hs : swapsWithSole [tg] e pos.line X.env = pure false := by rfl) (hw : swappedStores [tg] e X.env = pure none := by rfl)
    (h1 : (assignEach [tg] X.env).map (·.2) = [assign tg X.env] := by rfl) : SV X Γ (.Assign [tg] e pos) (.nx Γ2) := ⟨fun B G H σ D hB hg l k =>
  ws (ps_asg pe pg hs hw h1) (h.run B G H σ hB hg l _ fun v G1 H1 s1 l1 r1 => ht B G1 H1 σ v s1.b s1.gh l1 r1 _ fun σ' l' => k G1 H1 s1 σ' l')⟩
theorem sv_dropM {α : Type} [Rp α] {x : α} (h : EVM X Γ e x Γ') (hs : swapsWith e none pos.line X.env = pure false := by rfl) : SV X Γ (.Expr e pos) (.nx Γ') := ⟨fun B G H σ D hB hg l k =>
  ws (ps_expr pe hs) (h.run B G H σ hB hg l _ fun v G1 H1 s1 l1 r1 => k G1 H1 s1 σ l1)⟩
theorem evm_is {α : Type} [Rp α] {x y : α} (h : EVM X Γ e x Γ') (q : x = y) : EVM X Γ e y Γ' := q ▸ h
/-- t[i] of what a call tells -/
theorem evm_tix (i : Nat) {τ β : Type} [Rp τ] [Rp β] [TIx τ i β] {x : τ} (y : β) {j : Nat} {pos' : Pos} (ha : EVM X Γ a x Γ') (hy : (TIx.get i x : β) = y := by rfl) : EVM X Γ (.Subscript a (.Constant (.int (i : Int)) j pos') pos) y Γ' := hy ▸ ⟨fun B G H σ hB hg l Q q =>
  we (pe_ix ix_tup pe pe (fun _ _ => rfl)) (ha.run B G H σ hB hg l _ fun v G1 H1 s1 l1 r1 => we pe_int (by
    obtain ⟨p, vs, w, h0, hs, hw, rw'⟩ := TIx.ok (i := i) (β := β) r1
    exact ⟨p, vs, i, w, h0, rfl, seqT s1.gh hs, atI_nat hw, q w G1 H1 s1 l1 rw'⟩))⟩
/-- return e, one's own things handed back -/
theorem bv_retR {Γe : List Slot} {α : Type} [Rp α] {x : α} (h : EV X Γ e x) (hs : Sb Γ Γe) : BV X Γ (.Return (some e) pos :: sts) (.rx (dt x) Γe) := bv_out (⟨fun B G H σ D hB hg l k =>
  ws (ps_ret pe) (h B G H σ hB hg l _ fun v G1 H1 g1 r1 => k G1 H1 (g1.step hB) v σ ((l.grow g1).sub hs) r1)⟩ : SV X Γ (.Return (some e) pos) (.rx (dt x) Γe)) trivial
theorem bv_retM {Γe : List Slot} {α : Type} [Rp α] {x : α} (h : EVM X Γ e x Γ') (hs : Sb Γ' Γe) : BV X Γ (.Return (some e) pos :: sts) (.rx (dt x) Γe) := bv_out (⟨fun B G H σ D hB hg l k =>
  ws (ps_ret pe) (h.run B G H σ hB hg l _ fun v G1 H1 s1 l1 r1 => k G1 H1 s1 v σ (l1.sub hs) r1)⟩ : SV X Γ (.Return (some e) pos) (.rx (dt x) Γe)) trivial
end
end Wl

set_option maxRecDepth 100000
set_option maxHeartbeats 2000000
/-! x in a list of ints; one of two types; the greater of two data -/
namespace Wl
open PySem PySem.Spec PyProof.Rows L2
def maxD {α : Type} [Rp α] [DEq α] [DLt α] (x y : α) : α := if DLt.lt x y = true then y else x
/-! ### one of two -/
instance {α β : Type} [Rp α] [Rp β] : Rp (α ⊕ β) := ⟨fun K G v x => match x with
  | .inl y => Rp.rep K G v y
  | .inr y => Rp.rep K G v y, fun {K G G' v x} e h => by
    cases x with
    | inl y => exact Rp.mono e h
    | inr y => exact Rp.mono e h⟩
instance {α β γ : Type} {i : Nat} [Rp α] [Rp β] [Rp γ] [TIx α i γ] [TIx β i γ] : TIx (α ⊕ β) i γ := ⟨fun x => match x with
  | .inl y => TIx.get i y
  | .inr y => TIx.get i y, fun {K G v x} h => by
    cases x with
    | inl y => exact TIx.ok (i := i) h
    | inr y => exact TIx.ok (i := i) h⟩
instance {α β : Type} [Rp α] [Rp β] [NN α] [NN β] : NN (α ⊕ β) := ⟨fun {K G v x} h => by
  cases x with
  | inl y => exact NN.nn (α := α) h
  | inr y => exact NN.nn (α := β) h⟩
section
variable {X : Cx} {Γ Γ' : List Slot} {st : Stmt} {sts els rest : List Stmt} {a b c d e tg iter elt : Expr} {es elts ifs : List Expr} {pos : Pos} {o : Out}
theorem ev_inl {α β : Type} [Rp α] [Rp β] {x : α} (h : EV X Γ e x) : EV X Γ e (.inl x : α ⊕ β) := ⟨fun B G H σ hB hg l Q q => h B G H σ hB hg l Q q⟩
theorem ev_inr {α β : Type} [Rp α] [Rp β] {x : β} (h : EV X Γ e x) : EV X Γ e (.inr x : α ⊕ β) := ⟨fun B G H σ hB hg l Q q => h B G H σ hB hg l Q q⟩
/-- a name that holds one of two, by cases -/
theorem bv_sum (i : Nat) {α β : Type} [Rp α] [Rp β] {x : α ⊕ β} {of : α ⊕ β → Out} (h0 : Γ[i]? = some (.v x)) (h1 : ∀ y, x = .inl y → BV X (Γ.set i (.v y)) sts (of (.inl y))) (h2 : ∀ y, x = .inr y → BV X (Γ.set i (.v y)) sts (of (.inr y))) (ho : of x = o := by exact rfl) : BV X Γ sts o := ⟨fun B G H σ D hB hg l k => by
  subst ho
  obtain ⟨v, e1, r⟩ := l.val h0
  have hi : i < Γ.length := (List.getElem?_eq_some_iff.mp h0).1
  have hs : σ.set i (some v) = σ := by
    apply List.ext_getElem?
    intro j
    by_cases hj : i = j
    · subst hj
      rw [List.getElem?_set_self (by rw [l.len]; exact hi), e1]
    · rw [List.getElem?_set_ne hj]
  cases x with
  | inl y =>
    have l' := l.set (i := i) (d := dt y) (v := v) r
    rw [hs] at l'
    exact (h1 y rfl).run B G H σ D hB hg l' k
  | inr y =>
    have l' := l.set (i := i) (d := dt y) (v := v) r
    rw [hs] at l'
    exact (h2 y rfl).run B G H σ D hB hg l' k⟩
theorem inV_ints (x : Int) : ∀ xs : List Int, inV (.int x) (xs.map V.int) = decide (x ∈ xs)
  | [] => by simp [inV]
  | y :: r => by
    have h := inV_ints x r
    unfold inV at h ⊢
    rw [List.map_cons, List.any_cons, h]
    by_cases e : x = y
    · subst e; simp [eqV]
    · have : ¬ y = x := fun z => e z.symm
      simp [eqV, e, this]
theorem flat_ints (xs : List Int) : (xs.map V.int).all flatV = true := by
  rw [List.all_eq_true]
  intro v hv
  obtain ⟨x, _, e⟩ := List.mem_map.mp hv
  subst e; rfl
/-- x in xs, ints -/
theorem rIn_ints {K : PySem.W.Frag} {x : Int} {xs : List Int} : ∀ G H v u, Same G H → Rp.rep K G v x → Rp.rep K G u xs → ∀ Q : VK, (∀ G' H', Grow G H G' H' → Q (.bl (decide (x ∈ xs))) H') → rIn K false v u H Q := fun G H v u hg hv hu Q q => by
  obtain ⟨p, vs, rfl, hs, hr⟩ := hu
  have hv : v = .int x := hv
  subst hv
  rw [hr.ints] at hs
  refine ⟨p, _, rfl, .inl (Same.seq hg hs), rfl, flat_ints xs, ?_⟩
  show Q (.bl (inV (.int x) (xs.map V.int))) H
  rw [inV_ints]
  exact q G H (Grow.refl hg)
theorem rNin_ints {K : PySem.W.Frag} {x : Int} {xs : List Int} : ∀ G H v u, Same G H → Rp.rep K G v x → Rp.rep K G u xs → ∀ Q : VK, (∀ G' H', Grow G H G' H' → Q (.bl (!decide (x ∈ xs))) H') → rIn K true v u H Q := fun G H v u hg hv hu Q q => by
  obtain ⟨p, vs, rfl, hs, hr⟩ := hu
  have hv : v = .int x := hv
  subst hv
  rw [hr.ints] at hs
  refine ⟨p, _, rfl, .inl (Same.seq hg hs), rfl, flat_ints xs, ?_⟩
  show Q (.bl (!inV (.int x) (xs.map V.int))) H
  rw [inV_ints]
  exact q G H (Grow.refl hg)
theorem ev_inLI {x : Int} {xs : List Int} (ha : EV X Γ a x) (hb : EV X Γ b xs) (hm : behindInMarks .In b = false := by rfl) : EV X Γ (.Compare a [.In] [b] pos) (decide (x ∈ xs)) := ev_cmp op_in_seq hm ha hb rIn_ints
theorem et_inLI {x : Int} {xs : List Int} (ha : EV X Γ a x) (hb : EV X Γ b xs) (hm : behindInMarks .In b = false := by rfl) : ET X Γ (.Compare a [.In] [b] pos) (decide (x ∈ xs)) := et_cmp op_in_seq hm ha hb rIn_ints
theorem ev_ninLI {x : Int} {xs : List Int} (ha : EV X Γ a x) (hb : EV X Γ b xs) (hm : behindInMarks .NotIn b = false := by rfl) : EV X Γ (.Compare a [.NotIn] [b] pos) (!decide (x ∈ xs)) := ev_cmp op_notIn_seq hm ha hb rNin_ints
theorem et_ninLI {x : Int} {xs : List Int} (ha : EV X Γ a x) (hb : EV X Γ b xs) (hm : behindInMarks .NotIn b = false := by rfl) : ET X Γ (.Compare a [.NotIn] [b] pos) (!decide (x ∈ xs)) := et_cmp op_notIn_seq hm ha hb rNin_ints
/-- xs[-1] -/
theorem ev_lastD {α : Type} [Rp α] {xs : List α} (d : α) (ha : EV X Γ a xs) (hb : EV X Γ b (-1 : Int)) (hl : 0 < xs.length) (hp : PlainIx b := by exact fun _ _ => rfl) : EV X Γ (.Subscript a b pos) (xs.getLastD d) :=
  ev_last ha hb (by cases xs with
    | nil => exact absurd hl (by simp)
    | cons x r => rw [List.getLastD_cons, List.getLast?_cons, List.getLastD_eq_getLast?]) hp
end
/-- enough turns, if there are such -/
noncomputable def fuelOf {τ : Type} (c : τ → Bool) (f : τ → τ) (s : τ) : Nat := open Classical in if h : ∃ n, c (runN c f n s) = false then h.choose else 0
theorem fuelOf_end {τ : Type} {c : τ → Bool} {f : τ → τ} {s : τ} (h : ∃ n, c (runN c f n s) = false) : c (runN c f (fuelOf c f s) s) = false := by
  unfold fuelOf
  rw [dif_pos h]
  exact h.choose_spec
end Wl

set_option maxRecDepth 100000
set_option maxHeartbeats 2000000
/-! small things for walks with instances -/
namespace Wl
open PySem PySem.Spec PyProof.Rows L2
theorem dget_of {β : Type} {kvs : List (Int × β)} {k : Int} (d : β) (h : (dget kvs k).isSome = true) : dget kvs k = some ((dget kvs k).getD d) := opt_some d h
theorem has_of {b : Bool} (h : (!b) = false) : b = true := by cases b <;> simp_all
theorem nn_of {α : Type} {x : Option α} (h : (!x.isNone) = true) : x.isSome = true := by cases x <;> simp_all
def minDL {α : Type} [Rp α] [DEq α] [DLt α] (d : α) : List α → α
  | [] => d
  | x :: xs => minF DLt.lt x xs
section
variable {X : Cx} {Γ Γ' : List Slot} {st : Stmt} {sts els rest : List Stmt} {a b c d e tg iter elt : Expr} {es elts ifs : List Expr} {pos : Pos} {o : Out}
theorem ev_minDL {p : Pos} {α : Type} [Rp α] [DEq α] [DLt α] {xs : List α} (dd : α) (hc : X.calm = true) (hu : X.A.units + 64 < cLine) (hm : X.mg "min" = none) (ha : EV X Γ a xs) (hl : 0 < xs.length) (hn : DEq.n α ≤ 60 := by decide) (hg : Gl X "min" := by rfl) (he : starEach [a] X.env = (false, eval a X.env) :: starEach [] X.env := by rfl) (hpl : (backTo pos (starEach [] X.env)).any (·.1) = false := by rfl) : EV X Γ (.Call (.Name "min" p) [a] [] pos) (minDL dd xs) := by
  cases xs with
  | nil => exact absurd hl (by simp)
  | cons x r => exact ev_minD hc hu hm ha hn hg he hpl
/-- a class that may be made -/
theorem en_makeC {k j : Nat} {C : Addr} {R : Odat → List Dat → Unit → Odat → Prop} {x : Str} {p : Pos} {ds : List Dat} {fs' : List (Str × Slot)} (M : C8.Mak X.prog X.w X.K X.mg X.base k x C (O1Sp X.K R) []) (hr : Room j X.A) (hj : k + 1 ≤ j) (ha : EA X Γ (e :: es) ds)
    (hR : ∀ p, R (ot (OI.mk C p : OI [])) ds () (ot (OI.mk C p : OI fs'))) (hg : Gl X x := by rfl) (hdb : (x == ("__debug__" : Str)) = false := by decide) (he : starEach (e :: es) X.env = (false, eval e X.env) :: starEach es X.env := by rfl) (hpl : (backTo pos (starEach es X.env)).any (·.1) = false := by rfl) :
    EN X Γ (.Call (.Name x p) (e :: es) [] pos) (OIu.mk C : OIu fs') := by
  obtain ⟨f, fd, ps, ds', M', F, hm, hb, hd⟩ := M.ex
  cases hd
  exact en_make M' F hr hj hm hb (E := fun _ _ _ => True) C8.pass0 ha hR hg hdb he hpl
end
end Wl

set_option maxRecDepth 100000
set_option maxHeartbeats 2000000
/-! plain laws of dicts, of enough turns; nearest ways (labels that fall) -/
namespace Wl
open PySem PySem.Spec PyProof.Rows L2
/-! ### dicts -/
theorem dget_nil {β : Type} (k : Int) : dget ([] : List (Int × β)) k = none := rfl
theorem dget_cons {β : Type} (p : Int × β) (r : List (Int × β)) (k : Int) : dget (p :: r) k = if p.1 = k then some p.2 else dget r k := by
  unfold dget
  rw [List.find?_cons]
  by_cases h : p.1 = k
  · rw [if_pos h, decide_eq_true h]; rfl
  · rw [if_neg h, decide_eq_false h]
theorem dget_key {β : Type} {k : Int} : ∀ {kvs : List (Int × β)}, (dget kvs k).isSome = true ↔ k ∈ kvs.map (·.1)
  | [] => by simp [dget_nil]
  | p :: r => by
    have ih := @dget_key β k r
    rw [dget_cons, List.map_cons, List.mem_cons]
    by_cases h : p.1 = k
    · rw [if_pos h]; simp [h.symm]
    · rw [if_neg h, ih]
      constructor
      · exact .inr
      · rintro (e | e)
        · exact absurd e.symm h
        · exact e
theorem dget_put {β : Type} (kvs : List (Int × β)) (k : Int) (v : β) (j : Int) : dget (dput kvs k v) j = if j = k then some v else dget kvs j := by
  have hmap : ∀ l : List (Int × β), (l.any fun p => decide (p.1 = k)) = true → dget (l.map fun p => if p.1 = k then (p.1, v) else p) j = if j = k then some v else dget l j := by
    intro l
    induction l with
    | nil => intro h; simp at h
    | cons p r ih =>
      intro h
      rw [List.map_cons, dget_cons, dget_cons]
      by_cases e : p.1 = k
      · rw [if_pos e]
        dsimp only
        by_cases e2 : j = k
        · rw [if_pos e2, if_pos (e.trans e2.symm)]
        · have e3 : ¬ p.1 = j := fun z => e2 (z.symm.trans e)
          rw [if_neg e2, if_neg e3, if_neg e3]
          by_cases hr : (r.any fun p => decide (p.1 = k)) = true
          · have := ih hr; rw [if_neg e2] at this; exact this
          · have : ∀ q ∈ r, ¬ q.1 = k := fun q hq z => hr (List.any_eq_true.mpr ⟨q, hq, decide_eq_true z⟩)
            have e4 : (r.map fun p => if p.1 = k then (p.1, v) else p) = r := by
              conv => rhs; rw [← List.map_id r]
              apply List.map_congr_left
              intro q hq
              rw [if_neg (this q hq)]; rfl
            rw [e4]
      · rw [if_neg e]
        have hr : (r.any fun p => decide (p.1 = k)) = true := by
          rw [List.any_cons, decide_eq_false e] at h
          simpa using h
        rw [ih hr]
        by_cases e3 : p.1 = j
        · rw [if_pos e3, if_pos e3, if_neg (fun z => e (e3.trans z))]
        · rw [if_neg e3, if_neg e3]
  unfold dput
  by_cases h : (kvs.any fun p => decide (p.1 = k)) = true
  · rw [if_pos h]; exact hmap kvs h
  · rw [if_neg h]
    have hn : ∀ q ∈ kvs, ¬ q.1 = k := fun q hq z => h (List.any_eq_true.mpr ⟨q, hq, decide_eq_true z⟩)
    have app : ∀ l : List (Int × β), (∀ q ∈ l, ¬ q.1 = k) → dget (l ++ [(k, v)]) j = if j = k then some v else dget l j := by
      intro l
      induction l with
      | nil =>
        intro _
        rw [List.nil_append, dget_cons]
        by_cases e : j = k
        · rw [if_pos e, if_pos e.symm]
        · rw [if_neg e, if_neg (Ne.symm e)]
      | cons p r ih =>
        intro hl
        rw [List.cons_append, dget_cons, dget_cons, ih fun q hq => hl q (by simp [hq])]
        by_cases e3 : p.1 = j
        · rw [if_pos e3, if_pos e3, if_neg (fun z => hl p (by simp) (e3.trans z))]
        · rw [if_neg e3, if_neg e3]
    exact app kvs hn
theorem put_keys {β : Type} (kvs : List (Int × β)) (k : Int) (v : β) : (dput kvs k v).map (·.1) = if k ∈ kvs.map (·.1) then kvs.map (·.1) else kvs.map (·.1) ++ [k] := by
  unfold dput
  by_cases h : (kvs.any fun p => decide (p.1 = k)) = true
  · have h2 : k ∈ kvs.map (·.1) := by
      obtain ⟨p, hp, e⟩ := List.any_eq_true.mp h
      exact List.mem_map.mpr ⟨p, hp, of_decide_eq_true e⟩
    rw [if_pos h, if_pos h2, List.map_map]
    apply List.map_congr_left
    intro p _
    show (if p.1 = k then (p.1, v) else p).1 = p.1
    split <;> rfl
  · have h2 : ¬ k ∈ kvs.map (·.1) := fun z => by
      obtain ⟨p, hp, e⟩ := List.mem_map.mp z
      exact h (List.any_eq_true.mpr ⟨p, hp, decide_eq_true e⟩)
    rw [if_neg h, if_neg h2, List.map_append]
    rfl
theorem put_nodup {β : Type} {kvs : List (Int × β)} {k : Int} {v : β} (h : (kvs.map (·.1)).Nodup) : ((dput kvs k v).map (·.1)).Nodup := by
  rw [put_keys]
  split
  · exact h
  · rename_i hk
    rw [List.nodup_append]
    exact ⟨h, by simp, fun a ha b hb e => by
      have : b = k := by simpa using hb
      subst this; subst e
      exact hk ha⟩
/-- no more keys than there may be -/
theorem nodup_le : ∀ (n : Nat) (xs : List Int), xs.Nodup → (∀ x ∈ xs, 0 ≤ x ∧ x < (n : Int)) → xs.length ≤ n
  | 0, xs, _, h => by
    cases xs with
    | nil => exact Nat.le_refl _
    | cons x r => have := h x (by simp); omega
  | n + 1, xs, hd, h => by
    have h2 := nodup_le n (xs.erase (n : Int)) (hd.erase _) fun x hx => by
      have h1 := hd.mem_erase_iff.mp hx
      have := h x h1.2
      have := h1.1
      omega
    by_cases hm : (n : Int) ∈ xs
    · rw [List.length_erase_of_mem hm] at h2; omega
    · rw [List.erase_of_not_mem hm] at h2; omega
theorem keys_le {β : Type} {kvs : List (Int × β)} (hd : (kvs.map (·.1)).Nodup) (h : ∀ v, (dget kvs v).isSome = true → 0 ≤ v ∧ v ≤ 5000) : kvs.length ≤ 5001 := by
  rw [← List.length_map (f := (·.1))]
  exact nodup_le 5001 _ hd fun x hx => by have := h x (dget_key.mpr hx); omega
/-! ### turns -/
theorem runN_succ {τ : Type} (c : τ → Bool) (f : τ → τ) : ∀ (n : Nat) (s : τ), runN c f (n + 1) s = bif c (runN c f n s) then f (runN c f n s) else runN c f n s
  | 0, s => by
    show (bif c s then f s else s) = (bif c s then f s else s)
    rfl
  | n + 1, s => by
    show (bif c s then runN c f (n + 1) (f s) else s) = _
    cases h : c s with
    | true =>
      rw [show runN c f (n + 1) s = runN c f n (f s) from by show (bif c s then runN c f n (f s) else s) = _; rw [h]; rfl]
      exact runN_succ c f n (f s)
    | false =>
      rw [show runN c f (n + 1) s = s from by show (bif c s then runN c f n (f s) else s) = _; rw [h]; rfl, h]
      rfl
/-- what falls in a well-founded order stands still at last -/
theorem stab {α : Type} {r : α → α → Prop} (wf : WellFounded r) (g : Nat → α) (h : ∀ n, g (n + 1) = g n ∨ r (g (n + 1)) (g n)) : ∃ N, ∀ n, N ≤ n → g n = g N := by
  have key : ∀ m k, g (m + k) = g m ∨ Relation.TransGen r (g (m + k)) (g m) := fun m k => by
    induction k with
    | zero => exact .inl rfl
    | succ k ih =>
      rcases h (m + k) with e | e
      · rw [show m + (k + 1) = m + k + 1 from rfl, e]; exact ih
      · rcases ih with e2 | e2
        · rw [e2] at e; exact .inr (.single e)
        · exact .inr (.trans (.single e) e2)
  have main : ∀ a, ∀ m, g m = a → ∃ N, ∀ n, N ≤ n → g n = g N := fun a => by
    induction a using wf.transGen.induction with
    | _ a ih =>
      intro m hm
      by_cases hs : ∀ n, m ≤ n → g n = g m
      · exact ⟨m, hs⟩
      · have : ∃ n, m ≤ n ∧ g n ≠ g m := Classical.byContradiction fun z => hs fun n hn => Classical.byContradiction fun e => z ⟨n, hn, e⟩
        obtain ⟨n, hn, e⟩ := this
        obtain ⟨k, rfl⟩ : ∃ k, n = m + k := ⟨n - m, by omega⟩
        rcases key m k with e2 | e2
        · exact absurd e2 e
        · exact ih (g (m + k)) (hm ▸ e2) (m + k) rfl
  exact main _ 0 rfl
/-- turns that fall by a well-founded order come to an end -/
theorem runN_wf {τ α : Type} {r : α → α → Prop} (wf : WellFounded r) {c : τ → Bool} {f : τ → τ} (μ : τ → α) (I : τ → Prop) (h : ∀ s, I s → c s = true → I (f s) ∧ r (μ (f s)) (μ s)) {s : τ} (hs : I s) : ∃ n, c (runN c f n s) = false := by
  have main : ∀ a, ∀ s, μ s = a → I s → ∃ n, c (runN c f n s) = false := fun a => by
    induction a using wf.induction with
    | _ a ih =>
      intro s hm hs
      cases e : c s with
      | false => exact ⟨0, e⟩
      | true =>
        obtain ⟨h1, h2⟩ := h s hs e
        obtain ⟨n, hn⟩ := ih _ (hm ▸ h2) (f s) rfl h1
        refine ⟨n + 1, ?_⟩
        show c (bif c s then runN c f n (f s) else s) = false
        rw [e]
        exact hn
  exact main _ s rfl hs
/-! ### nearest ways -/
abbrev Sp5 := T5 Int Int Int Int Int
abbrev Lab := T2 Int Int
def lexLt (x y : Lab) : Prop := x.a < y.a ∨ (x.a = y.a ∧ x.b < y.b)
def lexLe (x y : Lab) : Prop := x.a < y.a ∨ (x.a = y.a ∧ x.b ≤ y.b)
theorem lt_lex (x y : Lab) : DLt.lt x y = true ↔ lexLt x y := by
  show ltT2 DLt.lt DLt.lt x y = true ↔ _
  unfold ltT2 lexLt
  by_cases h : x.a = y.a
  · rw [if_pos h]
    show decide (x.b < y.b) = true ↔ _
    rw [decide_eq_true_iff]
    omega
  · rw [if_neg h]
    show decide (x.a < y.a) = true ↔ _
    rw [decide_eq_true_iff]
    omega
def more (l : Lab) (s : Sp5) : Lab := T2.mk (l.a + s.e) (l.b + 1)
abbrev BfS := List (Int × Lab) × List (Int × Option Sp5) × Bool
def better (z : BfS) (s : Sp5) : Bool := (dget z.1 s.a).isSome && (!(dget z.1 s.b).isSome || DLt.lt (more ((dget z.1 s.a).getD (T2.mk 0 0)) s) ((dget z.1 s.b).getD (T2.mk 0 0)))
def relax (z : BfS) (s : Sp5) : BfS := bif better z s then (dput z.1 s.b (more ((dget z.1 s.a).getD (T2.mk 0 0)) s), dput z.2.1 s.b (some s), true) else z
def turn (st : List Sp5) (z : BfS) : BfS := st.foldl relax (z.1, z.2.1, false)
theorem better_iff (z : BfS) (s : Sp5) : better z s = true ↔ ∃ la, dget z.1 s.a = some la ∧ ∀ lb, dget z.1 s.b = some lb → lexLt (more la s) lb := by
  unfold better
  cases h : dget z.1 s.a with
  | none => simp
  | some la =>
    cases h2 : dget z.1 s.b with
    | none => simp
    | some lb =>
      show (true && (!true || DLt.lt (more la s) lb)) = true ↔ _
      rw [Bool.true_and, Bool.not_true, Bool.false_or, lt_lex]
      constructor
      · intro q; exact ⟨la, rfl, fun l e => by cases e; exact q⟩
      · rintro ⟨_, e, q⟩; cases e; exact q lb rfl
structure BfI (st : List Sp5) (starts : List Int) (pot : Int → Int) (top : Int) (z : BfS) : Prop where
  nd : (z.1.map (·.1)).Nodup
  ndc : (z.2.1.map (·.1)).Nodup
  key : ∀ v, (dget z.2.1 v).isSome = (dget z.1 v).isSome
  src : ∀ v, (dget z.1 v).isSome = true → v ∈ starts ∨ ∃ s ∈ st, s.b = v
  low : ∀ v l, dget z.1 v = some l → pot v - top ≤ l.a ∧ 0 ≤ l.b
  st0 : ∀ v, dget z.2.1 v = some none → v ∈ starts
  via : ∀ v s, dget z.2.1 v = some (some s) → s ∈ st ∧ s.b = v ∧ ∃ la lv, dget z.1 s.a = some la ∧ dget z.1 v = some lv ∧ lexLe (more la s) lv
  all : ∀ v ∈ starts, ∃ l, dget z.1 v = some l ∧ lexLe l (T2.mk 0 0)
def Pot (st : List Sp5) (pot : Int → Int) : Prop := ∀ s ∈ st, pot s.b ≤ pot s.a + s.e
theorem relax_inv {st : List Sp5} {starts : List Int} {pot : Int → Int} {top : Int} (hp : Pot st pot) {z : BfS} {s : Sp5} (hs : s ∈ st) (h : BfI st starts pot top z) : BfI st starts pot top (relax z s) := by
  unfold relax
  cases hb : better z s with
  | false => exact h
  | true =>
    obtain ⟨la, ha, hlt⟩ := (better_iff z s).mp hb
    rw [ha]
    show BfI st starts pot top (dput z.1 s.b (more la s), dput z.2.1 s.b (some s), true)
    have hl := h.low _ _ ha
    have hps := hp s hs
    have hne : s.a ≠ s.b := fun e => by
      have := hlt la (by rw [← e]; exact ha)
      unfold lexLt more at this
      dsimp only at this
      rw [e] at hps
      omega
    have gL : ∀ v, dget (dput z.1 s.b (more la s)) v = if v = s.b then some (more la s) else dget z.1 v := dget_put _ _ _
    have gC : ∀ v, dget (dput z.2.1 s.b (some s)) v = if v = s.b then some (some s) else dget z.2.1 v := dget_put _ _ _
    refine ⟨put_nodup h.nd, put_nodup h.ndc, fun v => ?_, fun v hv => ?_, fun v l e => ?_, fun v e => ?_, fun v x e => ?_, fun v hv => ?_⟩
    · dsimp only
      rw [gL, gC]
      split
      · rfl
      · exact h.key v
    · dsimp only at hv
      rw [gL] at hv
      by_cases e : v = s.b
      · exact .inr ⟨s, hs, e.symm⟩
      · rw [if_neg e] at hv; exact h.src v hv
    · dsimp only at e
      rw [gL] at e
      by_cases e1 : v = s.b
      · rw [if_pos e1] at e
        cases e
        show pot v - top ≤ la.a + s.e ∧ 0 ≤ la.b + 1
        rw [e1]; omega
      · rw [if_neg e1] at e; exact h.low v l e
    · dsimp only at e
      rw [gC] at e
      by_cases e1 : v = s.b
      · rw [if_pos e1] at e; cases e
      · rw [if_neg e1] at e; exact h.st0 v e
    · dsimp only at e
      rw [gC] at e
      by_cases e1 : v = s.b
      · rw [if_pos e1] at e
        cases e
        refine ⟨hs, e1.symm, la, more la s, ?_, ?_, .inr ⟨rfl, Int.le_refl _⟩⟩
        · show dget (dput z.1 s.b (more la s)) s.a = _
          rw [gL, if_neg hne]; exact ha
        · show dget (dput z.1 s.b (more la s)) v = _
          rw [gL, if_pos e1]
      · rw [if_neg e1] at e
        obtain ⟨k1, k2, lx, lv, k3, k4, k5⟩ := h.via v x e
        by_cases e2 : x.a = s.b
        · refine ⟨k1, k2, more la s, lv, ?_, ?_, ?_⟩
          · show dget (dput z.1 s.b (more la s)) x.a = _
            rw [gL, if_pos e2]
          · show dget (dput z.1 s.b (more la s)) v = _
            rw [gL, if_neg e1]; exact k4
          · have := hlt lx (by rw [← e2]; exact k3)
            unfold lexLt more at this
            unfold lexLe more at *
            dsimp only at *
            omega
        · refine ⟨k1, k2, lx, lv, ?_, ?_, k5⟩
          · show dget (dput z.1 s.b (more la s)) x.a = _
            rw [gL, if_neg e2]; exact k3
          · show dget (dput z.1 s.b (more la s)) v = _
            rw [gL, if_neg e1]; exact k4
    · obtain ⟨l, k1, k2⟩ := h.all v hv
      by_cases e1 : v = s.b
      · refine ⟨more la s, by show dget (dput z.1 s.b (more la s)) v = _; rw [gL, if_pos e1], ?_⟩
        have := hlt l (by rw [← e1]; exact k1)
        unfold lexLt at this
        unfold lexLe at *
        omega
      · exact ⟨l, by show dget (dput z.1 s.b (more la s)) v = _; rw [gL, if_neg e1]; exact k1, k2⟩
theorem relaxes_inv {st : List Sp5} {starts : List Int} {pot : Int → Int} {top : Int} (hp : Pot st pot) : ∀ (l : List Sp5) (z : BfS), (∀ s ∈ l, s ∈ st) → BfI st starts pot top z → BfI st starts pot top (l.foldl relax z)
  | [], _, _, h => h
  | s :: r, z, hl, h => relaxes_inv hp r _ (fun x hx => hl x (by simp [hx])) (relax_inv hp (hl s (by simp)) h)
theorem flag_inv {st : List Sp5} {starts : List Int} {pot : Int → Int} {top : Int} {z : BfS} {b : Bool} (h : BfI st starts pot top z) : BfI st starts pot top (z.1, z.2.1, b) := ⟨h.nd, h.ndc, h.key, h.src, h.low, h.st0, h.via, h.all⟩
theorem turn_inv {st : List Sp5} {starts : List Int} {pot : Int → Int} {top : Int} (hp : Pot st pot) {z : BfS} (h : BfI st starts pot top z) : BfI st starts pot top (turn st z) := relaxes_inv hp st _ (fun _ hs => hs) (flag_inv h)
/-! what one turn does to a label -/
def low1 (o o' : Option Lab) : Prop := o' = o ∨ (o = none ∧ o' ≠ none) ∨ ∃ l l', o = some l ∧ o' = some l' ∧ lexLt l' l
theorem low1.trans {a b c : Option Lab} (h1 : low1 a b) (h2 : low1 b c) : low1 a c := by
  rcases h2 with rfl | ⟨e1, e2⟩ | ⟨l, l', e1, e2, e3⟩
  · exact h1
  · subst e1
    rcases h1 with rfl | ⟨_, e⟩ | ⟨_, _, _, e, _⟩
    · exact .inr (.inl ⟨rfl, e2⟩)
    · exact absurd rfl e
    · cases e
  · subst e1 e2
    rcases h1 with rfl | ⟨e, _⟩ | ⟨m, m', e, em, e4⟩
    · exact .inr (.inr ⟨_, _, rfl, rfl, e3⟩)
    · exact .inr (.inl ⟨e, by simp⟩)
    · cases em
      refine .inr (.inr ⟨m, l', e, rfl, ?_⟩)
      unfold lexLt at *
      omega
theorem relax_low (z : BfS) (s : Sp5) (v : Int) : low1 (dget z.1 v) (dget (relax z s).1 v) := by
  unfold relax
  cases hb : better z s with
  | false => exact .inl rfl
  | true =>
    obtain ⟨la, ha, hlt⟩ := (better_iff z s).mp hb
    rw [ha]
    show low1 (dget z.1 v) (dget (dput z.1 s.b (more la s)) v)
    rw [dget_put]
    by_cases e : v = s.b
    · rw [if_pos e]
      cases h : dget z.1 v with
      | none => exact .inr (.inl ⟨rfl, by simp⟩)
      | some l => exact .inr (.inr ⟨l, _, rfl, rfl, hlt l (by rw [← e]; exact h)⟩)
    · rw [if_neg e]; exact .inl rfl
theorem relaxes_low (v : Int) : ∀ (l : List Sp5) (z : BfS), low1 (dget z.1 v) (dget (l.foldl relax z).1 v)
  | [], _ => .inl rfl
  | s :: r, z => (relax_low z s v).trans (relaxes_low v r _)
theorem turn_low (st : List Sp5) (z : BfS) (v : Int) : low1 (dget z.1 v) (dget (turn st z).1 v) := relaxes_low v st _
theorem relax_flag (z : BfS) (s : Sp5) : relax z s = z ∨ ((relax z s).2.2 = true ∧ ∃ v, dget (relax z s).1 v ≠ dget z.1 v) := by
  unfold relax
  cases hb : better z s with
  | false => exact .inl rfl
  | true =>
    obtain ⟨la, ha, hlt⟩ := (better_iff z s).mp hb
    refine .inr ⟨rfl, s.b, ?_⟩
    rw [ha]
    show dget (dput z.1 s.b (more la s)) s.b ≠ _
    rw [dget_put, if_pos rfl]
    intro e
    have := hlt _ e.symm
    unfold lexLt at this
    omega
theorem relaxes_up : ∀ (l : List Sp5) (z : BfS), z.2.2 = true → (l.foldl relax z).2.2 = true
  | [], _, h => h
  | s :: r, z, h => relaxes_up r _ (by
    rcases relax_flag z s with e | ⟨e, _⟩
    · rw [e]; exact h
    · exact e)
theorem low1.back {a b c : Option Lab} (h1 : low1 a b) (h2 : low1 b c) (hn : b ≠ a) : c ≠ a := by
  intro e
  subst e
  rcases h1 with rfl | ⟨e1, e2⟩ | ⟨l, l', e1, e2, e3⟩
  · exact hn rfl
  · subst e1
    rcases h2 with e | ⟨e, _⟩ | ⟨_, _, _, e, _⟩
    · exact e2 e.symm
    · exact e2 e
    · cases e
  · subst e1 e2
    rcases h2 with e | ⟨e, _⟩ | ⟨m, m', e4, e5, e6⟩
    · exact hn e.symm
    · cases e
    · cases e4; cases e5
      unfold lexLt at *
      omega
/-- a turn that changes says so, one that says no has looked at all -/
theorem relaxes_flag : ∀ (l : List Sp5) (z : BfS), z.2.2 = false → ((l.foldl relax z).2.2 = false → l.foldl relax z = z ∧ ∀ s ∈ l, better z s = false) ∧ ((l.foldl relax z).2.2 = true → ∃ v, dget (l.foldl relax z).1 v ≠ dget z.1 v)
  | [], z, h => ⟨fun _ => ⟨rfl, fun _ hs => nomatch hs⟩, fun e => absurd (h.symm.trans e) (by decide)⟩
  | s :: r, z, h => by
    rw [List.foldl_cons]
    rcases relax_flag z s with e | ⟨e, v, hv⟩
    · have hb : better z s = false := by
        cases hb : better z s with
        | false => rfl
        | true =>
          unfold relax at e
          rw [hb] at e
          have : true = z.2.2 := congrArg (fun z : BfS => z.2.2) e
          rw [h] at this; cases this
      rw [e]
      obtain ⟨h1, h2⟩ := relaxes_flag r z h
      refine ⟨fun q => ⟨(h1 q).1, fun x hx => ?_⟩, h2⟩
      rcases List.mem_cons.mp hx with rfl | hx
      · exact hb
      · exact (h1 q).2 x hx
    · exact ⟨fun q => (by rw [relaxes_up r _ e] at q; cases q), fun _ => ⟨v, (relax_low z s v).back (relaxes_low v r _) hv⟩⟩
def Closed (st : List Sp5) (z : BfS) : Prop := ∀ s ∈ st, ∀ la, dget z.1 s.a = some la → ∃ lb, dget z.1 s.b = some lb ∧ lb.a ≤ la.a + s.e
theorem closed_of {st : List Sp5} {z : BfS} (h : ∀ s ∈ st, better z s = false) : Closed st z := fun s hs la ha => by
  have := h s hs
  cases hb : dget z.1 s.b with
  | none =>
    have : better z s = true := (better_iff z s).mpr ⟨la, ha, fun lb e => by rw [hb] at e; cases e⟩
    rw [h s hs] at this; cases this
  | some lb =>
    refine ⟨lb, rfl, Classical.byContradiction fun hn => ?_⟩
    have : better z s = true := (better_iff z s).mpr ⟨la, ha, fun l e => by
      rw [hb] at e; cases e
      unfold lexLt more
      dsimp only
      omega⟩
    rw [h s hs] at this; cases this
theorem turn_flag (st : List Sp5) (z : BfS) : ((turn st z).2.2 = false → Closed st (turn st z)) ∧ ((turn st z).2.2 = true → ∃ v, dget (turn st z).1 v ≠ dget z.1 v) := by
  obtain ⟨h1, h2⟩ := relaxes_flag st (z.1, z.2.1, false) rfl
  refine ⟨fun q => ?_, h2⟩
  obtain ⟨e, hb⟩ := h1 q
  show Closed st (st.foldl relax _)
  rw [e]
  exact closed_of hb
def r3 : Nat × Nat × Nat → Nat × Nat × Nat → Prop := (Prod.lex Nat.lt_wfRel (Prod.lex Nat.lt_wfRel Nat.lt_wfRel)).rel
theorem r3_wf : WellFounded r3 := (Prod.lex Nat.lt_wfRel (Prod.lex Nat.lt_wfRel Nat.lt_wfRel)).wf
theorem r3_of {a b c a' b' c' : Nat} (h : a < a' ∨ (a = a' ∧ (b < b' ∨ (b = b' ∧ c < c')))) : r3 (a, b, c) (a', b', c') := by
  rcases h with h | ⟨rfl, h | ⟨rfl, h⟩⟩
  · exact Prod.Lex.left _ _ h
  · exact Prod.Lex.right _ (Prod.Lex.left _ _ h)
  · exact Prod.Lex.right _ (Prod.Lex.right _ h)
def rk (lo : Int) : Option Lab → Nat × Nat × Nat
  | none => (1, 0, 0)
  | some l => (0, (l.a - lo).toNat, l.b.toNat)
/-- the turns of nearest ways come to an end -/
theorem turns_end {st : List Sp5} {starts : List Int} {pot : Int → Int} {top : Int} (hp : Pot st pot) {z0 : BfS} (h0 : BfI st starts pot top z0) : ∃ n, (fun z : BfS => z.2.2) (runN (fun z : BfS => z.2.2) (turn st) n z0) = false := by
  refine Classical.byContradiction fun hno => ?_
  have hall : ∀ n, (runN (fun z : BfS => z.2.2) (turn st) n z0).2.2 = true := fun n => by
    cases e : (runN (fun z : BfS => z.2.2) (turn st) n z0).2.2 with
    | true => rfl
    | false => exact absurd ⟨n, e⟩ hno
  generalize hg : (fun n => runN (fun z : BfS => z.2.2) (turn st) n z0) = g at *
  have hall : ∀ n, (g n).2.2 = true := fun n => by subst hg; exact hall n
  have hs : ∀ n, g (n + 1) = turn st (g n) := fun n => by
    have := hall n
    subst hg
    show runN _ _ (n + 1) z0 = _
    rw [runN_succ]
    dsimp only at this
    rw [this]
    rfl
  have hz : g 0 = z0 := by subst hg; rfl
  have hi : ∀ n, BfI st starts pot top (g n) := fun n => by
    induction n with
    | zero => rw [hz]; exact h0
    | succ n ih => rw [hs]; exact turn_inv hp ih
  have one : ∀ v, ∃ N, ∀ n, N ≤ n → dget (g n).1 v = dget (g N).1 v := fun v => by
    obtain ⟨N, hN⟩ := stab (r := InvImage r3 (rk (pot v - top))) (InvImage.wf _ r3_wf) (fun n => dget (g n).1 v) fun n => by
      have hl := turn_low st (g n) v
      rw [← hs] at hl
      rcases hl with e | ⟨e1, e2⟩ | ⟨l, l', e1, e2, e3⟩
      · exact .inl e
      · refine .inr ?_
        show r3 (rk _ (dget (g (n + 1)).1 v)) (rk _ (dget (g n).1 v))
        rw [e1]
        cases h : dget (g (n + 1)).1 v with
        | none => exact absurd h e2
        | some l => exact r3_of (.inl (by omega))
      · refine .inr ?_
        show r3 (rk _ (dget (g (n + 1)).1 v)) (rk _ (dget (g n).1 v))
        have q1 := (hi n).low v l e1
        have q2 := (hi (n + 1)).low v l' e2
        rw [e1, e2]
        refine r3_of (.inr ⟨rfl, ?_⟩)
        unfold lexLt at e3
        omega
    exact ⟨N, hN⟩
  have many : ∀ l : List Int, ∃ N, ∀ v ∈ l, ∀ n, N ≤ n → dget (g n).1 v = dget (g N).1 v := fun l => by
    induction l with
    | nil => exact ⟨0, fun v hv => by cases hv⟩
    | cons x r ih =>
      obtain ⟨N, hN⟩ := ih
      obtain ⟨M, hM⟩ := one x
      refine ⟨max N M, fun v hv n hn => ?_⟩
      rcases List.mem_cons.mp hv with rfl | hv
      · rw [hM n (by omega), hM (max N M) (by omega)]
      · rw [hN v hv n (by omega), hN v hv (max N M) (by omega)]
  obtain ⟨N, hN⟩ := many (starts ++ st.map (·.b))
  have hc := hall (N + 1)
  rw [hs] at hc
  obtain ⟨v, hv⟩ := (turn_flag st (g N)).2 hc
  rw [← hs] at hv
  by_cases hm : v ∈ starts ++ st.map (·.b)
  · exact hv (hN v hm (N + 1) (by omega))
  · have no : ∀ n, dget (g n).1 v = none := fun n => by
      cases e : dget (g n).1 v with
      | none => rfl
      | some l =>
        refine absurd ?_ hm
        rcases (hi n).src v (by rw [e]; rfl) with h | ⟨s, h1, h2⟩
        · exact List.mem_append_left _ h
        · exact List.mem_append_right _ (List.mem_map.mpr ⟨s, h1, h2⟩)
    exact hv ((no _).trans (no _).symm)
/-- labels at the start -/
def put0 (z : List (Int × Lab) × List (Int × Option Sp5)) (x : Int) : List (Int × Lab) × List (Int × Option Sp5) := (dput z.1 x (T2.mk 0 0), dput z.2 x none)
theorem put0_get : ∀ (xs : List Int) (z : List (Int × Lab) × List (Int × Option Sp5)) (v : Int), dget (xs.foldl put0 z).1 v = (if v ∈ xs then some (T2.mk 0 0) else dget z.1 v) ∧ dget (xs.foldl put0 z).2 v = (if v ∈ xs then some none else dget z.2 v)
  | [], z, v => by simp
  | x :: r, z, v => by
    obtain ⟨h1, h2⟩ := put0_get r (put0 z x) v
    rw [List.foldl_cons, h1, h2]
    unfold put0
    dsimp only
    rw [dget_put, dget_put]
    by_cases e : v ∈ r
    · simp [e]
    · by_cases e2 : v = x
      · simp [e, e2]
      · simp [e, e2]
theorem put0_nd : ∀ (xs : List Int) (z : List (Int × Lab) × List (Int × Option Sp5)), (z.1.map (·.1)).Nodup → (z.2.map (·.1)).Nodup → ((xs.foldl put0 z).1.map (·.1)).Nodup ∧ ((xs.foldl put0 z).2.map (·.1)).Nodup
  | [], z, h1, h2 => ⟨h1, h2⟩
  | x :: r, z, h1, h2 => put0_nd r _ (put_nodup h1) (put_nodup h2)
theorem start_inv {st : List Sp5} {starts : List Int} {pot : Int → Int} {top : Int} (ht : ∀ v ∈ starts, pot v ≤ top) : BfI st starts pot top ((starts.foldl put0 ([], [])).1, (starts.foldl put0 ([], [])).2, true) := by
  have hg := fun v => put0_get starts ([], []) v
  have hn := put0_nd starts ([], []) (by simp) (by simp)
  have g1 : ∀ v, dget (starts.foldl put0 ([], [])).1 v = if v ∈ starts then some (T2.mk 0 0) else none := fun v => (hg v).1
  have g2 : ∀ v, dget (starts.foldl put0 ([], [])).2 v = if v ∈ starts then some none else none := fun v => (hg v).2
  refine ⟨hn.1, hn.2, fun v => ?_, fun v hv => ?_, fun v l e => ?_, fun v e => ?_, fun v s e => ?_, fun v hv => ?_⟩
  · dsimp only
    rw [g1, g2]; split <;> rfl
  · dsimp only at hv
    rw [g1] at hv
    by_cases h : v ∈ starts
    · exact .inl h
    · rw [if_neg h] at hv; cases hv
  · dsimp only at e
    rw [g1] at e
    by_cases h : v ∈ starts
    · rw [if_pos h] at e
      cases e
      have := ht v h
      dsimp only
      omega
    · rw [if_neg h] at e; cases e
  · dsimp only at e
    rw [g2] at e
    by_cases h : v ∈ starts
    · exact h
    · rw [if_neg h] at e; cases e
  · dsimp only at e
    rw [g2] at e
    by_cases h : v ∈ starts
    · rw [if_pos h] at e; cases e
    · rw [if_neg h] at e; cases e
  · exact ⟨T2.mk 0 0, by dsimp only; rw [g1, if_pos hv], .inr ⟨rfl, Int.le_refl _⟩⟩
theorem top_of (pot : Int → Int) : ∀ starts : List Int, ∃ top, ∀ v ∈ starts, pot v ≤ top
  | [] => ⟨0, fun v h => by cases h⟩
  | x :: r => by
    obtain ⟨t, h⟩ := top_of pot r
    refine ⟨max t (pot x), fun v hv => ?_⟩
    rcases List.mem_cons.mp hv with rfl | hv
    · exact Int.le_max_right _ _
    · exact Int.le_trans (h v hv) (Int.le_max_left _ _)
/-- what nearest ways tell -/
structure Ways (st : List Sp5) (starts : List Int) (labs : List (Int × Lab)) (came : List (Int × Option Sp5)) : Prop where
  nd : (labs.map (·.1)).Nodup
  ndc : (came.map (·.1)).Nodup
  key : ∀ v, (dget came v).isSome = (dget labs v).isSome
  src : ∀ v, (dget labs v).isSome = true → v ∈ starts ∨ ∃ s ∈ st, s.b = v
  st0 : ∀ v, dget came v = some none → v ∈ starts
  via : ∀ v s, dget came v = some (some s) → s ∈ st ∧ s.b = v ∧ ∃ la lv, dget labs s.a = some la ∧ dget labs v = some lv ∧ lv.a = la.a + s.e
  all : ∀ v ∈ starts, ∃ l, dget labs v = some l
  closed : ∀ s ∈ st, ∀ la, dget labs s.a = some la → ∃ lb, dget labs s.b = some lb ∧ lb.a ≤ la.a + s.e
  rank : ∃ k : Int → Nat × Nat × Nat, ∀ v s, dget came v = some (some s) → r3 (k s.a) (k v)
theorem ways_of {st : List Sp5} {starts : List Int} {pot : Int → Int} (hp : Pot st pot) (n : Nat) {z : BfS} (hz : z = runN (fun z : BfS => z.2.2) (turn st) n ((starts.foldl put0 ([], [])).1, (starts.foldl put0 ([], [])).2, true)) (hc : z.2.2 = false) : Ways st starts z.1 z.2.1 := by
  obtain ⟨top, ht⟩ := top_of pot starts
  have hi : BfI st starts pot top z ∧ (z.2.2 = false → Closed st z) := by
    rw [hz]
    exact runN_inv (fun z => BfI st starts pot top z ∧ (z.2.2 = false → Closed st z)) (fun s hs _ => ⟨turn_inv hp hs.1, (turn_flag st s).1⟩) n _ ⟨start_inv ht, fun e => by cases e⟩
  obtain ⟨h, hcl⟩ := hi
  have hcl := hcl hc
  refine ⟨h.nd, h.ndc, h.key, h.src, h.st0, fun v s e => ?_, fun v hv => ?_, hcl, ⟨fun v => rk (pot v - top) (dget z.1 v), fun v s e => ?_⟩⟩
  · obtain ⟨k1, k2, la, lv, k3, k4, k5⟩ := h.via v s e
    refine ⟨k1, k2, la, lv, k3, k4, ?_⟩
    obtain ⟨lb, q1, q2⟩ := hcl s k1 la k3
    rw [k2, k4] at q1
    cases q1
    unfold lexLe more at k5
    dsimp only at k5
    omega
  · obtain ⟨l, k, _⟩ := h.all v hv; exact ⟨l, k⟩
  · obtain ⟨k1, k2, la, lv, k3, k4, k5⟩ := h.via v s e
    dsimp only
    rw [k3, k4]
    have q1 := h.low _ _ k3
    have q2 := h.low _ _ k4
    have q3 := hp s k1
    rw [k2] at q3
    unfold lexLe more at k5
    dsimp only at k5
    exact r3_of (.inr ⟨rfl, by omega⟩)
end Wl

set_option maxRecDepth 100000
set_option maxHeartbeats 2000000
/-! nets: what is open, a way gone back, as much sent as can be -/
namespace Wl
open PySem PySem.Spec PyProof.Rows L2
abbrev Arc := T4 Int Int (Option Int) Int
abbrev arc0 : Arc := T4.mk 0 0 none 0
abbrev s50 : Sp5 := T5.mk 0 0 0 0 0
structure Net (arcs : List Arc) (flow : List Int) : Prop where
  len : flow.length = arcs.length
  small : arcs.length ≤ 5000
  node : ∀ a ∈ arcs, (0 ≤ a.a ∧ a.a ≤ 5000) ∧ (0 ≤ a.b ∧ a.b ≤ 5000)
  cap : ∀ k, k < arcs.length → 0 ≤ flow.getD k 0 ∧ ∀ m, (arcs.getD k arc0).c = some m → flow.getD k 0 ≤ m
def fwdB (flow : List Int) (x : T2 Int Arc) : Bool := x.b.c.isNone || decide (flow.getD x.a.toNat (0 : Int) < x.b.c.getD (0 : Int))
def bwdB (flow : List Int) (x : T2 Int Arc) : Bool := decide ((0 : Int) < flow.getD x.a.toNat (0 : Int))
def fwdS (x : T2 Int Arc) : Sp5 := T5.mk x.b.a x.b.b x.a 1 x.b.d
def bwdS (x : T2 Int Arc) : Sp5 := T5.mk x.b.b x.b.a x.a (-1) (-x.b.d)
def openL (flow : List Int) (x : T2 Int Arc) : List Sp5 := (bif fwdB flow x then [fwdS x] else []) ++ (bif bwdB flow x then [bwdS x] else [])
def opens (arcs : List Arc) (flow : List Int) : List Sp5 := (enumL arcs).flatMap (openL flow)
theorem mem_enumL {α : Type} {xs : List α} {x : T2 Int α} (d : α) : x ∈ enumL xs ↔ ∃ k, k < xs.length ∧ x = T2.mk (k : Int) (xs.getD k d) := by
  unfold enumL
  rw [List.mem_mapIdx]
  constructor
  · rintro ⟨i, h, e⟩
    refine ⟨i, h, ?_⟩
    rw [← e, List.getD_eq_getElem?_getD, List.getElem?_eq_getElem h]; rfl
  · rintro ⟨i, h, e⟩
    refine ⟨i, h, ?_⟩
    rw [e, List.getD_eq_getElem?_getD, List.getElem?_eq_getElem h]; rfl
/-- arc k, forth or back -/
def OpenAt (arcs : List Arc) (flow : List Int) (k : Nat) (s : Sp5) : Prop :=
  ((∀ m, (arcs.getD k arc0).c = some m → flow.getD k 0 < m) ∧ s = fwdS (T2.mk (k : Int) (arcs.getD k arc0))) ∨ (0 < flow.getD k 0 ∧ s = bwdS (T2.mk (k : Int) (arcs.getD k arc0)))
theorem mem_opens {arcs : List Arc} {flow : List Int} {s : Sp5} : s ∈ opens arcs flow ↔ ∃ k, k < arcs.length ∧ OpenAt arcs flow k s := by
  unfold opens
  rw [List.mem_flatMap]
  have one : ∀ k : Nat, s ∈ openL flow (T2.mk (k : Int) (arcs.getD k arc0)) ↔ OpenAt arcs flow k s := fun k => by
    unfold openL OpenAt fwdB bwdB
    rw [List.mem_append]
    dsimp only
    rw [show ((k : Int)).toNat = k from by omega]
    generalize arcs.getD k arc0 = a
    generalize flow.getD k 0 = q
    have h1 : (s ∈ (bif (a.c.isNone || decide (q < a.c.getD 0)) then [fwdS (T2.mk (k : Int) a)] else [])) ↔ ((∀ m, a.c = some m → q < m) ∧ s = fwdS (T2.mk (k : Int) a)) := by
      cases hc : a.c with
      | none => simp
      | some m =>
        by_cases hm : q < m
        · simp [hm]
        · simp [hm]
    have h2 : (s ∈ (bif decide (0 < q) then [bwdS (T2.mk (k : Int) a)] else [])) ↔ (0 < q ∧ s = bwdS (T2.mk (k : Int) a)) := by
      by_cases hm : 0 < q
      · simp [hm]
      · simp [hm]
    rw [h1, h2]
  constructor
  · rintro ⟨x, hx, hs⟩
    obtain ⟨k, hk, rfl⟩ := (mem_enumL arc0).mp hx
    exact ⟨k, hk, (one k).mp hs⟩
  · rintro ⟨k, hk, hs⟩
    exact ⟨_, (mem_enumL arc0).mpr ⟨k, hk, rfl⟩, (one k).mpr hs⟩
theorem opens_len {arcs : List Arc} {flow : List Int} : (opens arcs flow).length ≤ 2 * arcs.length := by
  unfold opens
  have h : ∀ l : List (T2 Int Arc), (l.flatMap (openL flow)).length ≤ 2 * l.length := fun l => by
    induction l with
    | nil => simp
    | cons x r ih =>
      rw [List.flatMap_cons, List.length_append, List.length_cons]
      have : (openL flow x).length ≤ 2 := by
        unfold openL
        rw [List.length_append]
        cases fwdB flow x <;> cases bwdB flow x <;> simp
      omega
  have := h (enumL arcs)
  unfold enumL at *
  rw [List.length_mapIdx] at this
  exact this
theorem getD_mem {α : Type} {xs : List α} {k : Nat} {d : α} (h : k < xs.length) : xs.getD k d ∈ xs := by
  rw [List.getD_eq_getElem?_getD, List.getElem?_eq_getElem h]
  exact List.getElem_mem h
/-- what an open step says -/
theorem OpenAt.ends {arcs : List Arc} {flow : List Int} {k : Nat} {s : Sp5} (h : OpenAt arcs flow k s) : s.c = (k : Int) ∧ ((s.d = 1 ∧ s.a = (arcs.getD k arc0).a ∧ s.b = (arcs.getD k arc0).b ∧ s.e = (arcs.getD k arc0).d) ∨ (s.d = -1 ∧ s.a = (arcs.getD k arc0).b ∧ s.b = (arcs.getD k arc0).a ∧ s.e = -(arcs.getD k arc0).d)) := by
  rcases h with ⟨_, rfl⟩ | ⟨_, rfl⟩
  · exact ⟨rfl, .inl ⟨rfl, rfl, rfl, rfl⟩⟩
  · exact ⟨rfl, .inr ⟨rfl, rfl, rfl, rfl⟩⟩
theorem open_node {arcs : List Arc} {flow : List Int} {s : Sp5} (h : s ∈ opens arcs flow) : ∃ a ∈ arcs, (s.a = a.a ∨ s.a = a.b) ∧ (s.b = a.a ∨ s.b = a.b) := by
  obtain ⟨k, hk, h⟩ := mem_opens.mp h
  refine ⟨_, getD_mem (d := arc0) hk, ?_⟩
  rcases h.ends.2 with ⟨_, h1, h2, _⟩ | ⟨_, h1, h2, _⟩
  · exact ⟨.inl h1, .inr h2⟩
  · exact ⟨.inr h1, .inl h2⟩
/-! ### the way back -/
def wayC (came : List (Int × Option Sp5)) (z : List Sp5 × Int) : Bool := !((dget came z.2).getD (none : Option Sp5)).isNone
def wayF (came : List (Int × Option Sp5)) (z : List Sp5 × Int) : List Sp5 × Int := (z.1 ++ [((dget came z.2).getD (none : Option Sp5)).getD s50], (((dget came z.2).getD (none : Option Sp5)).getD s50).a)
structure Way (came : List (Int × Option Sp5)) (k : Int → Nat × Nat × Nat) (goal : Int) (z : List Sp5 × Int) : Prop where
  here : (dget came z.2).isSome = true
  mem : ∀ s ∈ z.1, dget came s.b = some (some s)
  nd : (z.1.map (·.b)).Nodup
  low : ∀ s ∈ z.1, Relation.TransGen r3 (k z.2) (k s.b)
  tel : ∀ φ : Int → Int, (z.1.map fun s => φ s.b - φ s.a).sum = φ goal - φ z.2
theorem irr {a : Nat × Nat × Nat} (h : Relation.TransGen r3 a a) : False := by
  have wf := r3_wf.transGen
  exact wf.induction (C := fun a => ¬ Relation.TransGen r3 a a) a (fun x ih h => ih x h h) h
theorem wayC_get {came : List (Int × Option Sp5)} {z : List Sp5 × Int} (h : wayC came z = true) : ∃ s, dget came z.2 = some (some s) ∧ wayF came z = (z.1 ++ [s], s.a) := by
  unfold wayC at h
  unfold wayF
  cases e : dget came z.2 with
  | none => rw [e] at h; simp at h
  | some o =>
    cases o with
    | none => rw [e] at h; simp at h
    | some s => exact ⟨s, rfl, rfl⟩
theorem way_step {st : List Sp5} {starts : List Int} {labs : List (Int × Lab)} {came : List (Int × Option Sp5)} {k : Int → Nat × Nat × Nat} {goal : Int} {z : List Sp5 × Int} (w : Ways st starts labs came) (hk : ∀ v s, dget came v = some (some s) → r3 (k s.a) (k v)) (h : Way came k goal z) (hc : wayC came z = true) : Way came k goal (wayF came z) ∧ r3 (k (wayF came z).2) (k z.2) := by
  obtain ⟨s, e, ef⟩ := wayC_get hc
  rw [ef]
  obtain ⟨k1, k2, la, lv, k3, k4, k5⟩ := w.via _ _ e
  have hr := hk _ _ e
  refine ⟨⟨?_, fun x hx => ?_, ?_, fun x hx => ?_, fun φ => ?_⟩, hr⟩
  · show (dget came s.a).isSome = true
    rw [w.key, k3]; rfl
  · rcases List.mem_append.mp hx with hx | hx
    · exact h.mem x hx
    · have : x = s := by simpa using hx
      subst this
      rw [k2]; exact e
  · show ((z.1 ++ [s]).map (·.b)).Nodup
    rw [List.map_append, List.nodup_append]
    refine ⟨h.nd, by simp, fun a ha b hb e2 => ?_⟩
    have : b = s.b := by simpa using hb
    subst this; subst e2
    obtain ⟨x, hx, ex⟩ := List.mem_map.mp ha
    have := h.low x hx
    rw [ex, k2] at this
    exact irr this
  · show Relation.TransGen r3 (k s.a) (k x.b)
    rcases List.mem_append.mp hx with hx | hx
    · exact .trans (.single hr) (h.low x hx)
    · have : x = s := by simpa using hx
      subst this
      rw [k2]; exact .single hr
  · show ((z.1 ++ [s]).map fun s => φ s.b - φ s.a).sum = φ goal - φ s.a
    rw [List.map_append, List.sum_append, h.tel φ]
    simp only [List.map_cons, List.map_nil, List.sum_cons, List.sum_nil]
    rw [k2]; omega
theorem way_start {came : List (Int × Option Sp5)} {k : Int → Nat × Nat × Nat} {goal : Int} (h : (dget came goal).isSome = true) : Way came k goal ([], goal) :=
  ⟨h, fun _ hs => (nomatch hs), List.nodup_nil, fun _ hs => (nomatch hs), fun φ => by show (0 : Int) = φ goal - φ goal; omega⟩
theorem way_ends {st : List Sp5} {starts : List Int} {labs : List (Int × Lab)} {came : List (Int × Option Sp5)} {goal : Int} (w : Ways st starts labs came) (h : (dget came goal).isSome = true) : ∃ n, wayC came (runN (wayC came) (wayF came) n ([], goal)) = false := by
  obtain ⟨k, hk⟩ := w.rank
  exact runN_wf r3_wf (fun z => k z.2) (Way came k goal) (fun z hz hc => way_step w hk hz hc) (way_start h)
theorem way_inv {st : List Sp5} {starts : List Int} {labs : List (Int × Lab)} {came : List (Int × Option Sp5)} {goal : Int} (w : Ways st starts labs came) (h : (dget came goal).isSome = true) : ∃ k : Int → Nat × Nat × Nat, ∀ n, Way came k goal (runN (wayC came) (wayF came) n ([], goal)) := by
  obtain ⟨k, hk⟩ := w.rank
  exact ⟨k, fun n => runN_inv (Way came k goal) (fun z hz hc => (way_step w hk hz hc).1) n _ (way_start h)⟩
/-! ### sums over arcs -/
def netS (φ : Int → Int) : List Arc → List Int → Int
  | a :: as, f :: fs => f * (φ a.b - φ a.a) + netS φ as fs
  | _, _ => 0
theorem netS_set (φ : Int → Int) : ∀ (as : List Arc) (fs : List Int) (k : Nat) (x : Int), fs.length = as.length → k < as.length → netS φ as (fs.set k (fs.getD k 0 + x)) = netS φ as fs + x * (φ (as.getD k arc0).b - φ (as.getD k arc0).a)
  | [], _, k, x, _, h => absurd h (by simp)
  | a :: as, [], k, x, h, _ => by simp at h
  | a :: as, f :: fs, 0, x, _, _ => by
    show (f + x) * (φ a.b - φ a.a) + netS φ as fs = f * (φ a.b - φ a.a) + netS φ as fs + x * (φ a.b - φ a.a)
    rw [Int.add_mul]; omega
  | a :: as, f :: fs, k + 1, x, h, hk => by
    have ih := netS_set φ as fs k x (by simpa using h) (by simpa using hk)
    show f * (φ a.b - φ a.a) + netS φ as (fs.set k (fs.getD k 0 + x)) = _
    rw [ih]
    show f * (φ a.b - φ a.a) + (netS φ as fs + x * (φ (as.getD k arc0).b - φ (as.getD k arc0).a)) = f * (φ a.b - φ a.a) + netS φ as fs + x * (φ (as.getD k arc0).b - φ (as.getD k arc0).a)
    omega
/-! ### sent -/
def pushF (amt : Int) (fl : List Int) (s : Sp5) : List Int := fl.set s.c.toNat (fl.getD s.c.toNat 0 + (s.d * amt))
theorem push_len (amt : Int) : ∀ (l : List Sp5) (fl : List Int), (l.foldl (pushF amt) fl).length = fl.length
  | [], _ => rfl
  | s :: r, fl => by rw [List.foldl_cons, push_len]; unfold pushF; rw [List.length_set]
theorem push_none (amt : Int) (k : Nat) : ∀ (l : List Sp5) (fl : List Int), (∀ s ∈ l, s.c.toNat ≠ k) → (l.foldl (pushF amt) fl).getD k 0 = fl.getD k 0
  | [], _, _ => rfl
  | s :: r, fl, h => by
    rw [List.foldl_cons, push_none amt k r _ fun x hx => h x (by simp [hx])]
    unfold pushF
    rw [List.getD_eq_getElem?_getD, List.getElem?_set_ne (h s (by simp)), ← List.getD_eq_getElem?_getD]
theorem push_one (amt : Int) (s : Sp5) : ∀ (l : List Sp5) (fl : List Int), (l.map fun s => s.c.toNat).Nodup → s ∈ l → s.c.toNat < fl.length → (l.foldl (pushF amt) fl).getD s.c.toNat 0 = fl.getD s.c.toNat 0 + s.d * amt
  | [], _, _, h, _ => by cases h
  | x :: r, fl, hd, hm, hl => by
    rw [List.map_cons, List.nodup_cons] at hd
    rw [List.foldl_cons]
    rcases List.mem_cons.mp hm with rfl | hm
    · rw [push_none amt _ r _ fun y hy e => hd.1 (List.mem_map.mpr ⟨y, hy, e⟩)]
      unfold pushF
      rw [List.getD_eq_getElem?_getD, List.getElem?_set_self hl]
      rfl
    · have hne : x.c.toNat ≠ s.c.toNat := fun e => hd.1 (List.mem_map.mpr ⟨s, hm, e.symm⟩)
      rw [push_one amt s r _ hd.2 hm (by unfold pushF; rw [List.length_set]; exact hl)]
      unfold pushF
      rw [List.getD_eq_getElem?_getD, List.getElem?_set_ne hne, ← List.getD_eq_getElem?_getD]
theorem push_net (φ : Int → Int) (arcs : List Arc) (amt : Int) : ∀ (l : List Sp5) (fl : List Int), fl.length = arcs.length → (∀ s ∈ l, s.c.toNat < arcs.length ∧ s.d * (φ (arcs.getD s.c.toNat arc0).b - φ (arcs.getD s.c.toNat arc0).a) = φ s.b - φ s.a) → netS φ arcs (l.foldl (pushF amt) fl) = netS φ arcs fl + amt * (l.map fun s => φ s.b - φ s.a).sum
  | [], fl, _, _ => by simp
  | s :: r, fl, hl, h => by
    have hs := h s (by simp)
    rw [List.foldl_cons, push_net φ arcs amt r _ (by unfold pushF; rw [List.length_set]; exact hl) fun x hx => h x (by simp [hx])]
    unfold pushF
    rw [netS_set φ arcs fl s.c.toNat _ hl hs.1, List.map_cons, List.sum_cons, Int.mul_add]
    have : s.d * amt * (φ (arcs.getD s.c.toNat arc0).b - φ (arcs.getD s.c.toNat arc0).a) = amt * (φ s.b - φ s.a) := by
      rw [← hs.2, Int.mul_comm s.d amt, Int.mul_assoc]
    rw [this]; omega
/-- how much can flow by a step -/
def roomF (arcs : List Arc) (flow : List Int) (s : Sp5) : Option Int := bif decide (s.d < (0 : Int)) then some (flow.getD s.c.toNat (0 : Int)) else (bif (arcs.getD s.c.toNat arc0).c.isNone then none else some ((arcs.getD s.c.toNat arc0).c.getD (0 : Int) - flow.getD s.c.toNat (0 : Int)))
def leastF (arcs : List Arc) (flow : List Int) (a : Int) (s : Sp5) : Int := bif !(roomF arcs flow s).isNone then min a ((roomF arcs flow s).getD (0 : Int)) else a
theorem least_le (arcs : List Arc) (flow : List Int) : ∀ (l : List Sp5) (a : Int), l.foldl (leastF arcs flow) a ≤ a ∧ ∀ s ∈ l, ∀ r, roomF arcs flow s = some r → l.foldl (leastF arcs flow) a ≤ r
  | [], a => ⟨Int.le_refl _, fun _ hs => (nomatch hs)⟩
  | s :: r, a => by
    obtain ⟨h1, h2⟩ := least_le arcs flow r (leastF arcs flow a s)
    have h3 : leastF arcs flow a s ≤ a := by
      unfold leastF
      cases roomF arcs flow s with
      | none => exact Int.le_refl _
      | some x => exact Int.min_le_left _ _
    refine ⟨Int.le_trans h1 h3, fun x hx y hy => ?_⟩
    rcases List.mem_cons.mp hx with rfl | hx
    · refine Int.le_trans h1 ?_
      unfold leastF
      rw [hy]
      exact Int.min_le_right _ _
    · exact h2 x hx y hy
theorem least_pos (arcs : List Arc) (flow : List Int) : ∀ (l : List Sp5) (a : Int), 0 < a → (∀ s ∈ l, ∀ r, roomF arcs flow s = some r → 0 < r) → 0 < l.foldl (leastF arcs flow) a
  | [], a, h, _ => h
  | s :: r, a, h, hr => by
    refine least_pos arcs flow r _ ?_ fun x hx => hr x (by simp [hx])
    have := hr s (by simp)
    unfold leastF
    cases hq : roomF arcs flow s with
    | none => exact h
    | some x =>
      have := this x hq
      show 0 < min a x
      omega
theorem room_open {arcs : List Arc} {flow : List Int} {k : Nat} {s : Sp5} (h : OpenAt arcs flow k s) : ∀ r, roomF arcs flow s = some r → 0 < r := fun r e => by
  unfold roomF at e
  have hc : s.c.toNat = k := by rw [h.ends.1]; omega
  rcases h with ⟨h1, h2⟩ | ⟨h1, h2⟩
  · have hd : s.d = 1 := by rw [h2]; rfl
    rw [hd, hc, decide_eq_false (by decide)] at e
    cases hm : (arcs.getD k arc0).c with
    | none => rw [hm] at e; cases e
    | some m =>
      rw [hm] at e
      have := h1 m hm
      have e : some (m - flow.getD k 0) = some r := e
      have := Option.some.inj e
      omega
  · have hd : s.d = -1 := by rw [h2]; rfl
    rw [hd, hc, decide_eq_true (by decide)] at e
    have e : some (flow.getD k 0) = some r := e
    have := Option.some.inj e
    omega
/-! ### too much and lacking -/
def exv (ex : List (Int × Int)) (v : Int) : Int := (dget ex v).getD 0
theorem exv_of {ex : List (Int × Int)} {v o : Int} (h : dget ex v = some o) : exv ex v = o := by unfold exv; rw [h]; rfl
def posS (ex : List (Int × Int)) : Int := (ex.map fun p => max 0 p.2).sum
theorem posS_nn : ∀ ex, 0 ≤ posS ex
  | [] => Int.le_refl _
  | p :: r => by
    have := posS_nn r
    unfold posS at *
    rw [List.map_cons, List.sum_cons]
    omega
theorem posS_put {ex : List (Int × Int)} {k o v : Int} (hd : (ex.map (·.1)).Nodup) (h : dget ex k = some o) : posS (dput ex k v) = posS ex - max 0 o + max 0 v := by
  have hk : k ∈ ex.map (·.1) := dget_key.mp (by rw [h]; rfl)
  have ha : (ex.any fun p => decide (p.1 = k)) = true := by
    obtain ⟨p, hp, e⟩ := List.mem_map.mp hk
    exact List.any_eq_true.mpr ⟨p, hp, decide_eq_true e⟩
  unfold dput
  rw [if_pos ha]
  clear ha hk
  induction ex with
  | nil => cases h
  | cons p r ih =>
    rw [List.map_cons, List.nodup_cons] at hd
    rw [dget_cons] at h
    unfold posS at *
    rw [List.map_cons, List.map_cons, List.sum_cons, List.map_cons, List.sum_cons]
    by_cases e : p.1 = k
    · rw [if_pos e] at h
      cases h
      rw [if_pos e]
      have e4 : (r.map fun p => if p.1 = k then (p.1, v) else p) = r := by
        conv => rhs; rw [← List.map_id r]
        apply List.map_congr_left
        intro q hq
        rw [if_neg (fun z => hd.1 (List.mem_map.mpr ⟨q, hq, z.trans e.symm⟩))]; rfl
      rw [e4]
      dsimp only
      omega
    · rw [if_neg e] at h
      rw [if_neg e, ih hd.2 h]
      omega
structure ExOk (arcs : List Arc) (ex : List (Int × Int)) : Prop where
  nd : (ex.map (·.1)).Nodup
  dom : ∀ v, (dget ex v).isSome = true → 0 ≤ v ∧ v ≤ 5000
  has : ∀ a ∈ arcs, (dget ex a.a).isSome = true ∧ (dget ex a.b).isSome = true
def ind (v : Int) : Int → Int := fun u => if u = v then 1 else 0
structure NextOk (arcs : List Arc) (flow : List Int) (ex : List (Int × Int)) : Prop where
  net : Net arcs flow
  pot : ∃ p, Pot (opens arcs flow) p
  ex : ExOk arcs ex
structure SentOk (arcs : List Arc) (flow : List Int) (ex : List (Int × Int)) (came : List (Int × Option Sp5)) (goal : Int) : Prop where
  ok : NextOk arcs flow ex
  ways : ∃ starts labs, Ways (opens arcs flow) starts labs came ∧ ∀ v ∈ starts, 0 < exv ex v ∧ (dget ex v).isSome = true
  here : (dget came goal).isSome = true
  neg : exv ex goal < 0
theorem list_top {α : Type} (g : α → Int) : ∀ l : List α, ∃ K, ∀ x ∈ l, g x ≤ K
  | [] => ⟨0, fun _ h => (nomatch h)⟩
  | x :: r => by
    obtain ⟨t, h⟩ := list_top g r
    refine ⟨max t (g x), fun v hv => ?_⟩
    rcases List.mem_cons.mp hv with rfl | hv
    · exact Int.le_max_right _ _
    · exact Int.le_trans (h v hv) (Int.le_max_left _ _)
noncomputable def way (came : List (Int × Option Sp5)) (goal : Int) : List Sp5 × Int := runN (wayC came) (wayF came) (fuelOf (wayC came) (wayF came) (([] : List Sp5), goal)) (([] : List Sp5), goal)
structure Sent (arcs : List Arc) (flow : List Int) (ex : List (Int × Int)) (flow' : List Int) (ex' : List (Int × Int)) : Prop where
  ok : NextOk arcs flow' ex'
  bal : ∀ v, exv ex' v - netS (ind v) arcs flow' = exv ex v - netS (ind v) arcs flow
  keys : ∀ v, (dget ex' v).isSome = (dget ex v).isSome
  falls : posS ex' < posS ex
/-- facts on the way back from the goal -/
theorem way_facts {arcs : List Arc} {flow : List Int} {ex : List (Int × Int)} {came : List (Int × Option Sp5)} {goal : Int} (h : SentOk arcs flow ex came goal) :
    wayC came (way came goal) = false ∧ (way came goal).1.length ≤ 5001 ∧ (∀ s ∈ (way came goal).1, ∃ k, k < arcs.length ∧ OpenAt arcs flow k s) ∧ 0 < exv ex (way came goal).2 ∧ (dget ex (way came goal).2).isSome = true ∧ (dget ex goal).isSome = true := by
  obtain ⟨starts, labs, w, hst⟩ := h.ways
  have he := fuelOf_end (way_ends w h.here)
  obtain ⟨k, hw⟩ := way_inv w h.here
  have hw : Way came k goal (way came goal) := hw _
  have op : ∀ s ∈ (way came goal).1, s ∈ opens arcs flow := fun s hs => (w.via _ _ (hw.mem s hs)).1
  have hend : (way came goal).2 ∈ starts := by
    have he : wayC came (way came goal) = false := he
    unfold wayC at he
    have hh := hw.here
    cases e : dget came (way came goal).2 with
    | none => rw [e] at hh; cases hh
    | some o =>
      cases o with
      | none => exact w.st0 _ e
      | some s => rw [e] at he; cases he
  refine ⟨he, ?_, fun s hs => mem_opens.mp (op s hs), (hst _ hend).1, (hst _ hend).2, ?_⟩
  · rw [← List.length_map (f := fun s : Sp5 => s.b)]
    refine nodup_le 5001 _ hw.nd fun x hx => ?_
    obtain ⟨s, hs, rfl⟩ := List.mem_map.mp hx
    obtain ⟨a, ha, _, h2⟩ := open_node (op s hs)
    have := h.ok.net.node a ha
    rcases h2 with e | e <;> rw [e] <;> omega
  · rcases w.src goal (by rw [← w.key]; exact h.here) with hg | ⟨s, hs, e⟩
    · exact (hst _ hg).2
    · obtain ⟨a, ha, _, h2⟩ := open_node hs
      have := h.ok.ex.has a ha
      rw [← e]
      rcases h2 with e2 | e2 <;> rw [e2]
      · exact this.1
      · exact this.2
theorem sent_ok {arcs : List Arc} {flow : List Int} {ex : List (Int × Int)} {came : List (Int × Option Sp5)} {goal : Int} (h : SentOk arcs flow ex came goal) {amt : Int} (ha : amt = (way came goal).1.foldl (leastF arcs flow) (min (exv ex (way came goal).2) (-(exv ex goal)))) :
    Sent arcs flow ex ((way came goal).1.foldl (pushF amt) flow) (dput (dput ex (way came goal).2 (exv ex (way came goal).2 - amt)) goal (exv (dput ex (way came goal).2 (exv ex (way came goal).2 - amt)) goal + amt)) := by
  obtain ⟨f1, f2, f3, f4, f5, f6⟩ := way_facts h
  obtain ⟨starts, labs, w, hst⟩ := h.ways
  obtain ⟨k, hw⟩ := way_inv w h.here
  have hw : Way came k goal (way came goal) := hw _
  generalize way came goal = r at *
  obtain ⟨steps, node⟩ := r
  dsimp only at *
  have hnet := h.ok.net
  have hneg := h.neg
  have hl := least_le arcs flow steps (min (exv ex node) (-(exv ex goal)))
  rw [← ha] at hl
  have hp : 0 < amt := ha ▸ least_pos arcs flow steps _ (by omega) fun s hs => by
    obtain ⟨j, _, ho⟩ := f3 s hs
    exact room_open ho
  have hng : node ≠ goal := fun e => by rw [e] at f4; omega
  have idx : ∀ s ∈ steps, s.c.toNat < arcs.length ∧ OpenAt arcs flow s.c.toNat s := fun s hs => by
    obtain ⟨j, hj, ho⟩ := f3 s hs
    have : s.c.toNat = j := by rw [ho.ends.1]; omega
    rw [this]; exact ⟨hj, ho⟩
  -- no arc twice
  have ndc : (steps.map fun s => s.c.toNat).Nodup := by
    have inj : ∀ x ∈ steps, ∀ y ∈ steps, x.c.toNat = y.c.toNat → x.b = y.b := fun x hx y hy e => by
      have ex1 := (idx x hx).2.ends.2
      have ey1 := (idx y hy).2.ends.2
      rw [e] at ex1
      have vx := hw.mem x hx
      have vy := hw.mem y hy
      have op : ∀ z : Sp5, dget came z.b = some (some z) → ∀ z2 : Sp5, dget came z2.b = some (some z2) → z.b = z2.a → z.a = z2.b → False := fun z hz z2 hz2 e1 e2 => by
        obtain ⟨rk, hrk⟩ := w.rank
        have q1 := hrk _ _ hz
        have q2 := hrk _ _ hz2
        rw [← e1, ← e2] at q2
        exact irr (.trans (.single q1) (.single q2))
      rcases ex1 with ⟨_, a1, a2, _⟩ | ⟨_, a1, a2, _⟩ <;> rcases ey1 with ⟨_, b1, b2, _⟩ | ⟨_, b1, b2, _⟩
      · rw [a2, b2]
      · exact (op x vx y vy (by rw [a2, b1]) (by rw [a1, b2])).elim
      · exact (op x vx y vy (by rw [a2, b1]) (by rw [a1, b2])).elim
      · rw [a2, b2]
    have gen : ∀ l : List Sp5, (∀ x ∈ l, x ∈ steps) → (l.map (·.b)).Nodup → (l.map fun s => s.c.toNat).Nodup := fun l => by
      induction l with
      | nil => intro _ _; simp
      | cons x t ih =>
        intro hm hd
        rw [List.map_cons, List.nodup_cons] at hd ⊢
        refine ⟨fun z => ?_, ih (fun y hy => hm y (by simp [hy])) hd.2⟩
        obtain ⟨y, hy, e⟩ := List.mem_map.mp z
        exact hd.1 (List.mem_map.mpr ⟨y, hy, inj y (hm y (by simp [hy])) x (hm x (by simp)) e⟩)
    exact gen steps (fun x hx => hx) hw.nd
  have hlen : (steps.foldl (pushF amt) flow).length = arcs.length := by rw [push_len]; exact hnet.len
  have flow_at : ∀ j, j < arcs.length → ((∀ s ∈ steps, s.c.toNat ≠ j) ∧ (steps.foldl (pushF amt) flow).getD j 0 = flow.getD j 0) ∨ ∃ s ∈ steps, s.c.toNat = j ∧ (steps.foldl (pushF amt) flow).getD j 0 = flow.getD j 0 + s.d * amt := fun j hj => by
    by_cases hs : ∃ s ∈ steps, s.c.toNat = j
    · obtain ⟨s, hs, rfl⟩ := hs
      exact .inr ⟨s, hs, rfl, push_one amt s steps flow ndc hs (by rw [hnet.len]; exact hj)⟩
    · have hs : ∀ s ∈ steps, s.c.toNat ≠ j := fun s h1 h2 => hs ⟨s, h1, h2⟩
      exact .inl ⟨hs, push_none amt j steps flow hs⟩
  obtain ⟨on, hon⟩ : ∃ o, dget ex node = some o := Option.isSome_iff_exists.mp f5
  obtain ⟨og, hog⟩ : ∃ o, dget ex goal = some o := Option.isSome_iff_exists.mp f6
  have en : exv ex node = on := exv_of hon
  have eg : exv ex goal = og := exv_of hog
  have eg2 : dget (dput ex node (exv ex node - amt)) goal = some og := by rw [dget_put, if_neg (Ne.symm hng)]; exact hog
  have eg3 : exv (dput ex node (exv ex node - amt)) goal = og := exv_of eg2
  have gE : ∀ v, dget (dput (dput ex node (exv ex node - amt)) goal (exv (dput ex node (exv ex node - amt)) goal + amt)) v = if v = goal then some (og + amt) else if v = node then some (on - amt) else dget ex v := fun v => by
    rw [dget_put, eg3, dget_put, en]
  refine ⟨⟨⟨hlen, hnet.small, hnet.node, fun j hj => ?_⟩, ?_, ⟨put_nodup (put_nodup h.ok.ex.nd), fun v hv => ?_, fun a ha => ?_⟩⟩, fun v => ?_, fun v => ?_, ?_⟩
  · have c := hnet.cap j hj
    rcases flow_at j hj with ⟨_, e⟩ | ⟨s, hs, e1, e⟩
    · rw [e]; exact c
    · rw [e]
      have hr := hl.2 s hs
      have ho := (idx s hs).2
      rw [e1] at ho
      unfold roomF at hr
      rw [e1] at hr
      rcases ho.ends.2 with ⟨hd, _⟩ | ⟨hd, _⟩
      · rw [hd, decide_eq_false (by decide)] at hr
        rw [hd, Int.one_mul]
        refine ⟨by omega, fun m hm => ?_⟩
        have q := hr (m - flow.getD j 0) (by rw [hm]; rfl)
        omega
      · rw [hd, decide_eq_true (by decide)] at hr
        rw [hd]
        have q := hr (flow.getD j 0) rfl
        refine ⟨by omega, fun m hm => ?_⟩
        have := c.2 m hm
        omega
  · -- labels are a height again
    obtain ⟨pot, hpot⟩ := h.ok.pot
    obtain ⟨K, hK⟩ := list_top (fun s : Sp5 => ((dget labs s.b).getD (T2.mk 0 0)).a - pot s.a - s.e) (opens arcs (steps.foldl (pushF amt) flow))
    refine ⟨fun v => match dget labs v with | some l => l.a | none => pot v + K, fun s hs => ?_⟩
    have hk := hK s hs
    obtain ⟨j, hj, ho⟩ := mem_opens.mp hs
    have old : (∀ x ∈ steps, x.c.toNat ≠ j) → s ∈ opens arcs flow := fun hn => by
      refine mem_opens.mpr ⟨j, hj, ?_⟩
      unfold OpenAt at *
      rw [push_none amt j steps flow hn] at ho
      exact ho
    have both : (∃ x ∈ steps, x.c.toNat = j) → ∃ la lb, dget labs s.a = some la ∧ dget labs s.b = some lb ∧ lb.a = la.a + s.e := fun ⟨x, hx, e⟩ => by
      obtain ⟨q1, q2, la, lv, q3, q4, q5⟩ := w.via _ _ (hw.mem x hx)
      have hox := (idx x hx).2
      rw [e] at hox
      rcases hox.ends.2 with ⟨_, a1, a2, a3⟩ | ⟨_, a1, a2, a3⟩ <;> rcases ho.ends.2 with ⟨_, b1, b2, b3⟩ | ⟨_, b1, b2, b3⟩
      · exact ⟨la, lv, by rw [b1, ← a1]; exact q3, by rw [b2, ← a2]; exact q4, by rw [q5, a3, b3]⟩
      · exact ⟨lv, la, by rw [b1, ← a2]; exact q4, by rw [b2, ← a1]; exact q3, by rw [q5, a3, b3]; omega⟩
      · exact ⟨lv, la, by rw [b1, ← a2]; exact q4, by rw [b2, ← a1]; exact q3, by rw [q5, a3, b3]; omega⟩
      · exact ⟨la, lv, by rw [b1, ← a1]; exact q3, by rw [b2, ← a2]; exact q4, by rw [q5, a3, b3]⟩
    show (match dget labs s.b with | some l => l.a | none => pot s.b + K) ≤ (match dget labs s.a with | some l => l.a | none => pot s.a + K) + s.e
    by_cases hx : ∃ x ∈ steps, x.c.toNat = j
    · obtain ⟨la, lb, q1, q2, q3⟩ := both hx
      rw [q1, q2]
      dsimp only
      omega
    · have ho2 := old fun x h1 h2 => hx ⟨x, h1, h2⟩
      cases ea : dget labs s.a with
      | some la =>
        obtain ⟨lb, q1, q2⟩ := w.closed s ho2 la ea
        rw [q1]
        exact q2
      | none =>
        cases eb : dget labs s.b with
        | some lb =>
          rw [eb] at hk
          have hk : lb.a - pot s.a - s.e ≤ K := hk
          show lb.a ≤ pot s.a + K + s.e
          omega
        | none =>
          have := hpot s ho2
          show pot s.b + K ≤ pot s.a + K + s.e
          omega
  · rw [gE] at hv
    by_cases e1 : v = goal
    · rw [e1]; exact h.ok.ex.dom _ f6
    · rw [if_neg e1] at hv
      by_cases e2 : v = node
      · rw [e2]; exact h.ok.ex.dom _ f5
      · rw [if_neg e2] at hv; exact h.ok.ex.dom v hv
  · have q := h.ok.ex.has a ha
    have up : ∀ v, (dget ex v).isSome = true → (dget (dput (dput ex node (exv ex node - amt)) goal (exv (dput ex node (exv ex node - amt)) goal + amt)) v).isSome = true := fun v hv => by
      rw [gE]
      split
      · rfl
      · split
        · rfl
        · exact hv
    exact ⟨up _ q.1, up _ q.2⟩
  · have hb := push_net (ind v) arcs amt steps flow hnet.len fun s hs => by
      refine ⟨(idx s hs).1, ?_⟩
      rcases (idx s hs).2.ends.2 with ⟨hd, a1, a2, _⟩ | ⟨hd, a1, a2, _⟩
      · rw [hd, a1, a2]; omega
      · rw [hd, a1, a2]; omega
    rw [hw.tel] at hb
    rw [hb]
    have e1 : exv (dput (dput ex node (exv ex node - amt)) goal (exv (dput ex node (exv ex node - amt)) goal + amt)) v = if v = goal then og + amt else if v = node then on - amt else exv ex v := by
      unfold exv
      have := gE v
      unfold exv at this
      rw [this]
      by_cases e1 : v = goal
      · rw [if_pos e1, if_pos e1]; rfl
      · rw [if_neg e1, if_neg e1]
        by_cases e2 : v = node
        · rw [if_pos e2, if_pos e2]; rfl
        · rw [if_neg e2, if_neg e2]
    rw [e1]
    unfold ind
    by_cases e1 : v = goal
    · have e2 : ¬ node = v := fun e => hng (e.trans e1)
      rw [if_pos e1, if_pos e1.symm, if_neg e2, e1, eg]
      have : amt * ((1 : Int) - 0) = amt := by omega
      rw [this]; omega
    · rw [if_neg e1, if_neg (Ne.symm e1)]
      by_cases e2 : v = node
      · rw [if_pos e2, if_pos e2.symm, e2, en]
        have : amt * ((0 : Int) - 1) = -amt := by omega
        rw [this]; omega
      · rw [if_neg e2, if_neg (Ne.symm e2)]
        have : amt * ((0 : Int) - 0) = 0 := by omega
        rw [this]; omega
  · rw [gE]
    by_cases e1 : v = goal
    · rw [if_pos e1, e1, f6]; rfl
    · rw [if_neg e1]
      by_cases e2 : v = node
      · rw [if_pos e2, e2, f5]; rfl
      · rw [if_neg e2]
  · rw [posS_put (put_nodup h.ok.ex.nd) eg2, posS_put h.ok.ex.nd hon, eg3, en]
    rw [en, eg] at hl
    have := hl.1
    omega
end Wl

set_option maxRecDepth 100000
set_option maxHeartbeats 2000000
/-! what walks over nets ask: keys that stay few, the next goal, settled -/
namespace Wl
open PySem PySem.Spec PyProof.Rows L2
theorem put_len {β : Type} (kvs : List (Int × β)) (k : Int) (v : β) : (dput kvs k v).length ≤ kvs.length + 1 := by
  unfold dput
  split <;> simp
theorem foldl_flat {α β : Type} {f : List β → α → List β} {g : α → List β} (h : ∀ s x, f s x = s ++ g x) : ∀ (l : List α) (s : List β), l.foldl f s = s ++ l.flatMap g
  | [], s => by simp
  | x :: r, s => by rw [List.foldl_cons, foldl_flat h r, h, List.flatMap_cons, List.append_assoc]
def Dom {β : Type} (kvs : List (Int × β)) : Prop := (kvs.map (·.1)).Nodup ∧ ∀ v, (dget kvs v).isSome = true → 0 ≤ v ∧ v ≤ 5000
theorem Dom.len {β : Type} {kvs : List (Int × β)} (h : Dom kvs) : kvs.length ≤ 5001 := keys_le h.1 h.2
theorem Dom.put {β : Type} {kvs : List (Int × β)} {k : Int} {v : β} (h : Dom kvs) (hk : 0 ≤ k ∧ k ≤ 5000) : Dom (dput kvs k v) := ⟨put_nodup h.1, fun u hu => by
  rw [dget_put] at hu
  by_cases e : u = k
  · rw [e]; exact hk
  · rw [if_neg e] at hu; exact h.2 u hu⟩
theorem dom_nil {β : Type} : Dom ([] : List (Int × β)) := ⟨List.nodup_nil, fun v hv => by cases hv⟩
structure WaysOk (arcs : List Arc) (flow : List Int) (starts : List Int) : Prop where
  net : Net arcs flow
  pot : ∃ p, Pot (opens arcs flow) p
  dom : ∀ v ∈ starts, 0 ≤ v ∧ v ≤ 5000
structure RoomOk (arcs : List Arc) (flow : List Int) (s : Sp5) : Prop where
  net : Net arcs flow
  lo : 0 ≤ s.c
  hi : s.c < (arcs.length : Int)
def KeyOk (z : BfS) : Prop := Dom z.1 ∧ Dom z.2.1
theorem keyok_relax {arcs : List Arc} {flow : List Int} (hn : Net arcs flow) {z : BfS} {s : Sp5} (hs : s ∈ opens arcs flow) (h : KeyOk z) : KeyOk (relax z s) := by
  obtain ⟨a, ha, _, h2⟩ := open_node hs
  have q := hn.node a ha
  have hb : 0 ≤ s.b ∧ s.b ≤ 5000 := by rcases h2 with e | e <;> rw [e] <;> omega
  unfold relax
  cases better z s with
  | false => exact h
  | true => exact ⟨h.1.put hb, h.2.put hb⟩
theorem keyok_turn {arcs : List Arc} {flow : List Int} (hn : Net arcs flow) {z : BfS} (h : KeyOk z) : KeyOk (turn (opens arcs flow) z) := by
  unfold turn
  have : ∀ (l : List Sp5) (z : BfS), (∀ s ∈ l, s ∈ opens arcs flow) → KeyOk z → KeyOk (l.foldl relax z) := fun l => by
    induction l with
    | nil => intro z _ h; exact h
    | cons s r ih => intro z hl h; exact ih _ (fun x hx => hl x (by simp [hx])) (keyok_relax hn (hl s (by simp)) h)
  exact this _ _ (fun _ hs => hs) h
def Key0 (z : List (Int × Lab) × List (Int × Option Sp5)) : Prop := Dom z.1 ∧ Dom z.2
theorem key0_put {z : List (Int × Lab) × List (Int × Option Sp5)} {x : Int} (hx : 0 ≤ x ∧ x ≤ 5000) (h : Key0 z) : Key0 (put0 z x) := ⟨h.1.put hx, h.2.put hx⟩
theorem key0_all : ∀ (xs : List Int) (z : List (Int × Lab) × List (Int × Option Sp5)), (∀ x ∈ xs, 0 ≤ x ∧ x ≤ 5000) → Key0 z → Key0 (xs.foldl put0 z)
  | [], _, _, h => h
  | x :: r, z, hx, h => key0_all r _ (fun y hy => hx y (by simp [hy])) (key0_put (hx x (by simp)) h)
theorem ways_turns {arcs : List Arc} {flow : List Int} {starts : List Int} (h : WaysOk arcs flow starts) : ∃ n, (fun z : BfS => z.2.2) (runN (fun z : BfS => z.2.2) (turn (opens arcs flow)) n ((starts.foldl put0 ([], [])).1, (starts.foldl put0 ([], [])).2, true)) = false := by
  obtain ⟨p, hp⟩ := h.pot
  obtain ⟨t, ht⟩ := top_of p starts
  exact turns_end hp (start_inv ht)
/-! ### the next goal -/
def ngStarts (ex : List (Int × Int)) : List Int := ((sortU (ex.map (·.1))).filter (fun (x : Int) => decide ((0 : Int) < (dget ex x).getD (0 : Int)))).map (fun (x : Int) => x)
def ngGoals (ex : List (Int × Int)) (labs : List (Int × Lab)) : List (T2 Lab Int) := ((sortU (labs.map (·.1))).filter (fun (x : Int) => decide ((dget ex x).getD (0 : Int) < (0 : Int)))).map (fun (x : Int) => T2.mk ((dget labs x).getD (T2.mk (0 : Int) (0 : Int))) x)
def Nxt (arcs : List Arc) (flow : List Int) (ex : List (Int × Int)) (came : List (Int × Option Sp5)) (goal : Option Int) : Prop := ∃ labs, Ways (opens arcs flow) (ngStarts ex) labs came ∧ (goal = none → ∀ v, (dget labs v).isSome = true → 0 ≤ exv ex v) ∧ (∀ g, goal = some g → (dget labs g).isSome = true ∧ exv ex g < 0)
theorem mem_starts {ex : List (Int × Int)} {v : Int} : v ∈ ngStarts ex ↔ (dget ex v).isSome = true ∧ 0 < exv ex v := by
  unfold ngStarts exv
  rw [List.map_id', List.mem_filter, (sortU_perm _).mem_iff, dget_key, decide_eq_true_iff]
theorem mem_goals {ex : List (Int × Int)} {labs : List (Int × Lab)} {q : T2 Lab Int} : q ∈ ngGoals ex labs ↔ (dget labs q.b).isSome = true ∧ exv ex q.b < 0 ∧ q.a = (dget labs q.b).getD (T2.mk 0 0) := by
  unfold ngGoals exv
  rw [List.mem_map]
  constructor
  · rintro ⟨x, hx, rfl⟩
    rw [List.mem_filter, (sortU_perm _).mem_iff, decide_eq_true_iff] at hx
    exact ⟨dget_key.mpr hx.1, hx.2, rfl⟩
  · rintro ⟨h1, h2, h3⟩
    refine ⟨q.b, ?_, by rw [← h3]⟩
    rw [List.mem_filter, (sortU_perm _).mem_iff, decide_eq_true_iff]
    exact ⟨dget_key.mp h1, h2⟩
theorem minF_mem {α : Type} (lt : α → α → Bool) : ∀ (xs : List α) (x : α), minF lt x xs = x ∨ minF lt x xs ∈ xs
  | [], x => .inl rfl
  | y :: r, x => by
    unfold minF
    rw [List.foldl_cons]
    rcases minF_mem lt r (if lt y x = true then y else x) with h | h
    · unfold minF at h
      rw [h]
      split
      · exact .inr (by simp)
      · exact .inl rfl
    · exact .inr (List.mem_cons_of_mem _ h)
theorem minDL_mem {α : Type} [Rp α] [DEq α] [DLt α] (d : α) {xs : List α} (h : xs ≠ []) : minDL d xs ∈ xs := by
  cases xs with
  | nil => exact absurd rfl h
  | cons x r =>
    show minF DLt.lt x r ∈ x :: r
    rcases minF_mem DLt.lt r x with e | e
    · rw [e]; simp
    · exact List.mem_cons_of_mem _ e
theorem nxt_of {arcs : List Arc} {flow : List Int} {ex : List (Int × Int)} {labs : List (Int × Lab)} {came : List (Int × Option Sp5)} (w : Ways (opens arcs flow) (ngStarts ex) labs came) : (ngGoals ex labs = [] → Nxt arcs flow ex came none) ∧ (ngGoals ex labs ≠ [] → ∀ d, Nxt arcs flow ex came (some (minDL d (ngGoals ex labs)).b)) := by
  refine ⟨fun h => ⟨labs, w, fun _ v hv => ?_, fun g e => by cases e⟩, fun h d => ⟨labs, w, fun e => (by cases e), fun g e => ?_⟩⟩
  · refine Classical.byContradiction fun hn => ?_
    have : (T2.mk ((dget labs v).getD (T2.mk 0 0)) v : T2 Lab Int) ∈ ngGoals ex labs := mem_goals.mpr ⟨hv, by dsimp only; omega, rfl⟩
    rw [h] at this; cases this
  · have q := mem_goals.mp (minDL_mem d h)
    cases e
    exact ⟨q.1, q.2.1⟩
theorem NextOk.ways {arcs : List Arc} {flow : List Int} {ex : List (Int × Int)} (h : NextOk arcs flow ex) : WaysOk arcs flow (ngStarts ex) := ⟨h.net, h.pot, fun v hv => h.ex.dom v (mem_starts.mp hv).1⟩
/-- what is come to has a place among the excesses -/
theorem ways_has {arcs : List Arc} {flow : List Int} {ex : List (Int × Int)} {labs : List (Int × Lab)} {came : List (Int × Option Sp5)} (h : ExOk arcs ex) (w : Ways (opens arcs flow) (ngStarts ex) labs came) {v : Int} (hv : (dget labs v).isSome = true) : (dget ex v).isSome = true := by
  rcases w.src v hv with e | ⟨s, hs, rfl⟩
  · exact (mem_starts.mp e).1
  · obtain ⟨a, ha, _, h2⟩ := open_node hs
    have := h.has a ha
    rcases h2 with e | e <;> rw [e]
    · exact this.1
    · exact this.2
theorem ways_dom {arcs : List Arc} {flow : List Int} {ex : List (Int × Int)} {labs : List (Int × Lab)} {came : List (Int × Option Sp5)} (h : ExOk arcs ex) (w : Ways (opens arcs flow) (ngStarts ex) labs came) : labs.length ≤ 5001 ∧ came.length ≤ 5001 :=
  ⟨keys_le w.nd fun v hv => h.dom v (ways_has h w hv), keys_le w.ndc fun v hv => h.dom v (ways_has h w (by rw [← w.key]; exact hv))⟩
theorem nxt_sent {arcs : List Arc} {flow : List Int} {ex : List (Int × Int)} {came : List (Int × Option Sp5)} {g : Int} (h : NextOk arcs flow ex) (n : Nxt arcs flow ex came (some g)) : SentOk arcs flow ex came g := by
  obtain ⟨labs, w, _, h2⟩ := n
  obtain ⟨h3, h4⟩ := h2 g rfl
  exact ⟨h, ⟨_, labs, w, fun v hv => ⟨(mem_starts.mp hv).2, (mem_starts.mp hv).1⟩⟩, by rw [w.key]; exact h3, h4⟩
/-- settled: what is known at the end and on the way -/
structure Kept (arcs : List Arc) (flow0 : List Int) (ex0 : List (Int × Int)) (flow : List Int) (ex : List (Int × Int)) : Prop where
  ok : NextOk arcs flow ex
  bal : ∀ v, exv ex v - netS (ind v) arcs flow = exv ex0 v - netS (ind v) arcs flow0
  keys : ∀ v, (dget ex v).isSome = (dget ex0 v).isSome
theorem Kept.sent {arcs : List Arc} {flow0 flow flow' : List Int} {ex0 ex ex' : List (Int × Int)} (k : Kept arcs flow0 ex0 flow ex) (s : Sent arcs flow ex flow' ex') : Kept arcs flow0 ex0 flow' ex' := ⟨s.ok, fun v => (s.bal v).trans (k.bal v), fun v => (s.keys v).trans (k.keys v)⟩
theorem kept_start {arcs : List Arc} {flow : List Int} {ex : List (Int × Int)} (h : NextOk arcs flow ex) : Kept arcs flow ex flow ex := ⟨h, fun _ => rfl, fun _ => rfl⟩
abbrev SeS := List (Int × Int) × DV (Option Sp5) × Option Int × List Int
structure SetI (arcs : List Arc) (flow0 : List Int) (ex0 : List (Int × Int)) (s : SeS) : Prop where
  kept : Kept arcs flow0 ex0 s.2.2.2 s.1
  nxt : Nxt arcs s.2.2.2 s.1 s.2.1.kvs s.2.2.1
theorem sorted_len {β : Type} {kvs : List (Int × β)} : (sortU (kvs.map (·.1))).length = kvs.length := by rw [(sortU_perm _).length_eq, List.length_map]
theorem sorted_mem {β : Type} {kvs : List (Int × β)} {pre post : List Int} {x : Int} (h : sortU (kvs.map (·.1)) = pre ++ x :: post) : (dget kvs x).isSome = true := dget_key.mpr ((sortU_perm _).mem_iff.mp (by rw [h]; simp))
end Wl

set_option maxRecDepth 100000
set_option maxHeartbeats 2000000
/-! what the defs of the market ask -/
namespace Wl
open PySem PySem.Spec PyProof.Rows L2
abbrev Wk3 := T3 Int (List (T3 Int Int Int)) (List (T3 Int Int Int))
abbrev Sh2 := T2 (List (T3 Int Int Int)) (List (T3 Int Int Int))
structure MkOk (w : Wk3) (s : Sh2) (nodes : List Int) : Prop where
  fire : ∀ o ∈ s.a, o.a - 1 ∈ nodes
  water : ∀ o ∈ s.b, o.a + w.a ∈ nodes
  na : s.a.length ≤ 1000
  nb : s.b.length ≤ 1000
  nn : nodes.length ≤ 2000
structure ShortOk (lacks : List (T2 Int Int)) (r : List Int) : Prop where
  len : lacks.length ≤ 5000
  heat : 0 ∈ r → ∃ k : Int, 1 ≤ k ∧ k < (lacks.length : Int) ∧ k ∉ r
  cold : 0 ∉ r → r ≠ [] ∧ ∀ k ∈ r, 1 ≤ k ∧ k ≤ (lacks.length : Int)
structure SpreadOk (worths : List Int) (lacks : List (T2 Int Int)) : Prop where
  pos : 0 < worths.length
  le : worths.length ≤ lacks.length
  len : lacks.length ≤ 5000
  lev : ∀ x ∈ lacks, 0 ≤ x.b ∧ x.b ≤ 250
structure CheapOk (w : Wk3) (s : Sh2) : Prop where
  g0 : 0 ≤ w.a
  g1 : w.a ≤ 50
  nb : w.b.length ≤ 1000
  nc : w.c.length ≤ 1000
  h : ∀ x ∈ w.b, 0 ≤ x.b ∧ x.b < x.a ∧ x.a ≤ 200 ∧ 1 ≤ x.c ∧ x.c ≤ 1000000000000
  c : ∀ x ∈ w.c, 0 ≤ x.a ∧ x.a < x.b ∧ x.b ≤ 200 ∧ 1 ≤ x.c ∧ x.c ≤ 1000000000000
  na : s.a.length ≤ 1000
  nw : s.b.length ≤ 1000
  f : ∀ o ∈ s.a, 1 ≤ o.a ∧ o.a ≤ 250 ∧ 0 ≤ o.b ∧ o.b ≤ 1000000000000 ∧ 0 ≤ o.c
  w : ∀ o ∈ s.b, 0 ≤ o.a ∧ o.a ≤ 200 ∧ 0 ≤ o.b ∧ o.b ≤ 1000000000000 ∧ 0 ≤ o.c
theorem zip_le {α β : Type} (xs : List α) (ys : List β) : (zipL xs ys).length ≤ xs.length := by
  unfold zipL
  rw [List.length_map, List.length_zip]
  exact Nat.min_le_left _ _
theorem iseq_mem_iff {lo : Int} {n : Nat} {x : Int} : x ∈ iseq lo n ↔ lo ≤ x ∧ x < lo + (n : Int) := by
  unfold iseq
  rw [List.mem_map]
  constructor
  · rintro ⟨i, hi, e⟩
    have := List.mem_range.mp hi
    omega
  · rintro ⟨h1, h2⟩
    exact ⟨(x - lo).toNat, List.mem_range.mpr (by omega), by omega⟩
/-! the places of nodes -/
def placeF (s : List (Int × Int)) (x : T2 Int Int) : List (Int × Int) := dput s x.b (x.a + 1)
theorem places_get : ∀ (l : List (T2 Int Int)) (s : List (Int × Int)) (v : Int), (∃ x ∈ l, x.b = v) → ∃ x ∈ l, x.b = v ∧ dget (l.foldl placeF s) v = some (x.a + 1)
  | [], s, v, h => by obtain ⟨x, hx, _⟩ := h; cases hx
  | y :: r, s, v, h => by
    rw [List.foldl_cons]
    by_cases hr : ∃ x ∈ r, x.b = v
    · obtain ⟨x, hx, e, g⟩ := places_get r (placeF s y) v hr
      exact ⟨x, by simp [hx], e, g⟩
    · obtain ⟨x, hx, e⟩ := h
      rcases List.mem_cons.mp hx with rfl | hx
      · refine ⟨x, by simp, e, ?_⟩
        have keep : ∀ (l : List (T2 Int Int)) (s : List (Int × Int)), (∀ x ∈ l, x.b ≠ v) → dget (l.foldl placeF s) v = dget s v := fun l => by
          induction l with
          | nil => intro s _; rfl
          | cons z t ih =>
            intro s hz
            rw [List.foldl_cons, ih _ fun x hx => hz x (by simp [hx])]
            unfold placeF
            rw [dget_put, if_neg (Ne.symm (hz z (by simp)))]
        rw [keep r _ fun z hz e2 => hr ⟨z, hz, e2⟩]
        unfold placeF
        rw [dget_put, if_pos e.symm]
      · exact absurd ⟨x, hx, e⟩ hr
theorem node_place {nodes : List Int} {v : Int} (h : v ∈ nodes) : ∃ k : Nat, k < nodes.length ∧ nodes.getD k 0 = v ∧ dget ((enumL nodes).foldl placeF []) v = some ((k : Int) + 1) := by
  obtain ⟨i, hi, e⟩ := List.getElem_of_mem h
  have hm : (T2.mk (i : Int) v : T2 Int Int) ∈ enumL nodes := (mem_enumL 0).mpr ⟨i, hi, by rw [List.getD_eq_getElem?_getD, List.getElem?_eq_getElem hi]; show _ = T2.mk _ nodes[i]; rw [e]⟩
  obtain ⟨x, hx, e2, g⟩ := places_get (enumL nodes) [] v ⟨_, hm, rfl⟩
  obtain ⟨k, hk, rfl⟩ := (mem_enumL 0).mp hx
  exact ⟨k, hk, e2, g⟩
end Wl

set_option maxRecDepth 100000
set_option maxHeartbeats 2000000
/-! a test that walks an own dict; sums over all nodes; the market's net at the start -/
namespace Wl
open PySem PySem.Spec PyProof.Rows L2
def tLockT (t : TT) : TT := fun σ H Q => ∃ d u, H d = some u ∧ Mut (some u) ∧ ∀ od, t σ (upd H d (.frz od u)) fun v H' => H' d = some (.frz od u) ∧ Q v (upd H' d u)
theorem pt_lock {X : Cx} {e : Expr} {t : TT} (h : PT X e t) : PT X e (tLockT t) := by
  refine ⟨fun pins s σ H Q I hw => ?_⟩
  obtain ⟨d, u, hd, mu, hw⟩ := hw
  obtain ⟨od, I1⟩ := I.lock hd mu
  refine thn (h.run pins s σ _ _ I1 (hw od)) fun v s1 ⟨H1, I2, e2, q⟩ => ?_
  exact ⟨_, I2.unlock e2 (I.nofrz hd mu), q⟩
theorem et_lockD {X : Cx} {Γ : List Slot} {e : Expr} (i : Nat) {β : Type} [Rp β] {s : Slot} {kvs : List (Int × β)} {y : Bool} (h0 : Γ[i]? = some s) (hs : ODict s kvs) (hr : ET X (Γ.set i (.v (DL.mk kvs))) e y) : ET X Γ e y := ⟨fun B G H σ hB hg l Q q => by
  obtain ⟨F, p, ws, lf, hF, e1, hbp, hgp, hh, r⟩ := ownD l h0 hs
  refine wt (pt_lock (t := WT X e) ⟨fun pins s σ H Q I h => h pins s I⟩) ⟨p, _, hh, trivial, fun od => ?_⟩
  have hGl : Same G (upd G p (.frz od (.dK ws))) := fun b u e => by rw [upd_ne (ne_of_none e hgp)]; exact e
  have hgl : Same (upd G p (.frz od (.dK ws))) (upd H p (.frz od (.dK ws))) := fun b u e => by
    by_cases hb : b = p
    · subst hb; rw [upd_same] at e ⊢; exact e
    · rw [upd_ne hb] at e ⊢; exact hg b u e
  have hBl : Same B (upd H p (.frz od (.dK ws))) := fun b u e => by rw [upd_ne (ne_of_none e hbp)]; exact hB b u e
  have lo : Lo X.K B (upd G p (.frz od (.dK ws))) (upd H p (.frz od (.dK ws))) σ (Γ.set i (.v (DL.mk kvs))) := by
    refine ⟨F, by rw [List.length_set]; exact lf.len, fun j t e => ?_, fun j k t u hjk hj hk hts hus => ?_⟩
    · rcases set_get e with ⟨rfl, rfl, hi⟩ | ⟨hij, e⟩
      · exact ⟨_, e1, .ref p, rfl, p, od, ws, rfl, upd_same, r.mono hGl⟩
      · obtain ⟨o, h1, h2⟩ := lf.ok j t e
        refine ⟨o, h1, ?_⟩
        cases t with
        | any => trivial
        | val d => obtain ⟨v, e2, r2⟩ := h2; exact ⟨v, e2, Dat.mono hGl r2⟩
        | own d =>
          obtain ⟨v, e2, hf2, r2⟩ := h2
          have ne : ∀ a ∈ F j, a ≠ p := fun a ha z => by
            refine lf.sep j i _ _ (Ne.symm hij) e h0 rfl (by rcases hs with e3 | ⟨_, e3⟩ <;> rw [e3] <;> rfl) a ha ?_
            rw [hF, z]; simp
          refine ⟨v, e2, fun a ha => ?_, Odat.mono hGl (fun a ha => upd_ne (ne a ha)) r2⟩
          obtain ⟨q1, q2, ho, q3⟩ := hf2 a ha
          exact ⟨q1, by rw [upd_ne (ne a ha)]; exact q2, ho, by rw [upd_ne (ne a ha)]; exact q3⟩
    · rcases set_get hj with ⟨rfl, rfl, _⟩ | ⟨hij, hj⟩
      · cases hts
      · rcases set_get hk with ⟨rfl, rfl, _⟩ | ⟨hik, hk⟩
        · cases hus
        · exact lf.sep j k t u hjk hj hk hts hus
  refine hr B _ _ σ hBl hgl lo _ fun G' H' g => ⟨g.h _ _ upd_same, q G (upd H' p (.dK ws)) ⟨Same.refl _, fun b u e => ?_, fun b u e => ?_, fun _ _ _ _ => rfl⟩⟩
  · by_cases hb : b = p
    · subst hb; rw [upd_same, ← e, hh]
    · rw [upd_ne hb]; exact g.h b u (by rw [upd_ne hb]; exact e)
  · rw [upd_ne (ne_of_none e hgp)]
    exact g.h b u (by rw [upd_ne (ne_of_none e hgp)]; exact hg b u e)⟩
theorem app_map {α β : Type} {f : List β → α → List β} {g : α → β} (h : ∀ s x, f s x = s ++ [g x]) : ∀ (l : List α) (s : List β), l.foldl f s = s ++ l.map g
  | [], s => by simp
  | x :: r, s => by rw [List.foldl_cons, app_map h r, h, List.map_cons]; simp
theorem iq_succ (lo : Int) (n : Nat) : iseq lo (n + 1) = iseq lo n ++ [lo + (n : Int)] := by
  unfold iseq
  rw [List.range_succ, List.map_append]
  rfl
theorem fold_put {β : Type} {f : List (Int × β) → Int → List (Int × β)} {g : Int → β} (h : ∀ s x, f s x = dput s x (g x)) (v : Int) : ∀ (l : List Int) (s : List (Int × β)), dget (l.foldl f s) v = if v ∈ l then some (g v) else dget s v
  | [], s => by simp
  | x :: r, s => by
    rw [List.foldl_cons, fold_put h v r, h, dget_put]
    by_cases e : v ∈ r
    · simp [e]
    · by_cases e2 : v = x
      · subst e2; simp [e]
      · simp [e, e2]
theorem fold_nd {β : Type} {f : List (Int × β) → Int → List (Int × β)} {g : Int → β} (h : ∀ s x, f s x = dput s x (g x)) : ∀ (l : List Int) (s : List (Int × β)), (s.map (·.1)).Nodup → ((l.foldl f s).map (·.1)).Nodup
  | [], s, hs => hs
  | x :: r, s, hs => by rw [List.foldl_cons]; exact fold_nd h r _ (by rw [h]; exact put_nodup hs)
/-! ### sums over 0 .. n -/
def tot (n : Nat) (φ : Int → Int) : Int := ((iseq 0 (n + 1)).map φ).sum
theorem sumf_add {l : List Int} (φ ψ : Int → Int) : (l.map fun v => φ v + ψ v).sum = (l.map φ).sum + (l.map ψ).sum := by
  induction l with
  | nil => rfl
  | cons x r ih => simp only [List.map_cons, List.sum_cons]; rw [ih]; omega
theorem sumf_mul {l : List Int} (c : Int) (φ : Int → Int) : (l.map fun v => c * φ v).sum = c * (l.map φ).sum := by
  induction l with
  | nil => simp
  | cons x r ih => simp only [List.map_cons, List.sum_cons]; rw [ih, Int.mul_add]
theorem sumf_sub {l : List Int} (φ ψ : Int → Int) : (l.map fun v => φ v - ψ v).sum = (l.map φ).sum - (l.map ψ).sum := by
  induction l with
  | nil => rfl
  | cons x r ih => simp only [List.map_cons, List.sum_cons]; rw [ih]; omega
theorem sum_ind (u : Int) : ∀ (n : Nat) (lo : Int), ((iseq lo n).map fun v => ind v u).sum = if lo ≤ u ∧ u < lo + (n : Int) then 1 else 0
  | 0, lo => by
    have : ¬ (lo ≤ u ∧ u < lo + ((0 : Nat) : Int)) := by omega
    rw [if_neg this]; rfl
  | n + 1, lo => by
    rw [iq_succ, List.map_append, List.sum_append, sum_ind u n lo]
    simp only [List.map_cons, List.map_nil, List.sum_cons, List.sum_nil]
    unfold ind
    by_cases h1 : lo ≤ u ∧ u < lo + (n : Int)
    · rw [if_pos h1, if_neg (by omega), if_pos (by omega)]; rfl
    · by_cases h2 : u = lo + (n : Int)
      · rw [if_neg h1, if_pos h2, if_pos (by omega)]; rfl
      · rw [if_neg h1, if_neg h2, if_neg (by omega)]; rfl
theorem tot_ind {n : Nat} {u : Int} (h : 0 ≤ u ∧ u ≤ (n : Int)) : tot n (fun v => ind v u) = 1 := by
  unfold tot
  rw [sum_ind, if_pos (by omega)]
theorem tot_net {n : Nat} : ∀ (as : List Arc) (fs : List Int), (∀ a ∈ as, (0 ≤ a.a ∧ a.a ≤ (n : Int)) ∧ (0 ≤ a.b ∧ a.b ≤ (n : Int))) → tot n (fun v => netS (ind v) as fs) = 0
  | [], fs, _ => by
    unfold tot netS
    rw [show (fun v : Int => (0 : Int)) = fun v => 0 * (0 : Int) from rfl, sumf_mul]; simp
  | a :: as, [], _ => by
    unfold tot netS
    rw [show (fun v : Int => (0 : Int)) = fun v => 0 * (0 : Int) from rfl, sumf_mul]; simp
  | a :: as, f :: fs, h => by
    have ih := tot_net as fs fun x hx => h x (by simp [hx])
    have ha := h a (by simp)
    unfold tot at *
    show ((iseq 0 (n + 1)).map fun v => f * (ind v a.b - ind v a.a) + netS (ind v) as fs).sum = 0
    rw [sumf_add, ih, sumf_mul, sumf_sub]
    have h1 := tot_ind ha.1
    have h2 := tot_ind ha.2
    unfold tot at h1 h2
    rw [h1, h2]
    omega
theorem tot_neg {n : Nat} {φ : Int → Int} (h : tot n φ = 0) (hn : ∃ v, 0 ≤ v ∧ v ≤ (n : Int) ∧ φ v ≠ 0) : (∃ v, 0 ≤ v ∧ v ≤ (n : Int) ∧ 0 < φ v) ∧ ∃ v, 0 ≤ v ∧ v ≤ (n : Int) ∧ φ v < 0 := by
  have pos : ∀ (l : List Int) (ψ : Int → Int), (∀ v ∈ l, 0 ≤ ψ v) → 0 ≤ (l.map ψ).sum ∧ ((l.map ψ).sum = 0 → ∀ v ∈ l, ψ v = 0) := fun l ψ => by
    induction l with
    | nil => intro _; exact ⟨Int.le_refl _, fun _ _ hv => nomatch hv⟩
    | cons x r ih =>
      intro hl
      obtain ⟨i1, i2⟩ := ih fun v hv => hl v (by simp [hv])
      have hx := hl x (by simp)
      simp only [List.map_cons, List.sum_cons]
      refine ⟨by omega, fun e v hv => ?_⟩
      rcases List.mem_cons.mp hv with rfl | hv
      · omega
      · exact i2 (by omega) v hv
  have mem : ∀ v, v ∈ iseq 0 (n + 1) ↔ 0 ≤ v ∧ v ≤ (n : Int) := fun v => by rw [iseq_mem_iff]; omega
  obtain ⟨u, u0, u1, hu⟩ := hn
  constructor
  · refine Classical.byContradiction fun hno => ?_
    have hall : ∀ v ∈ iseq 0 (n + 1), 0 ≤ (fun v => 0 - φ v) v := fun v hv => by
      have := (mem v).mp hv
      exact Classical.byContradiction fun z => hno ⟨v, this.1, this.2, by dsimp only at z; omega⟩
    have h0 := (pos _ _ hall).2 (by
      unfold tot at h
      rw [sumf_sub, h, show (fun v : Int => (0 : Int)) = fun v => 0 * (0 : Int) from rfl, sumf_mul]; simp) u ((mem u).mpr ⟨u0, u1⟩)
    omega
  · refine Classical.byContradiction fun hno => ?_
    have hall : ∀ v ∈ iseq 0 (n + 1), 0 ≤ φ v := fun v hv => by
      have := (mem v).mp hv
      exact Classical.byContradiction fun z => hno ⟨v, this.1, this.2, by omega⟩
    exact hu ((pos _ _ hall).2 h u ((mem u).mpr ⟨u0, u1⟩))
/-- no flow, no net -/
theorem net_zero (φ : Int → Int) : ∀ (as : List Arc) (fs : List Int), (∀ f ∈ fs, f = 0) → netS φ as fs = 0
  | [], _, _ => rfl
  | _ :: _, [], _ => rfl
  | a :: as, f :: fs, h => by
    show f * _ + netS φ as fs = 0
    rw [net_zero φ as fs fun x hx => h x (by simp [hx]), h f (by simp)]
    omega
/-! ### the market's arcs -/
def plc (nodes : List Int) : List (Int × Int) := (enumL nodes).foldl placeF []
def fArc (nodes : List Int) (o : T3 Int Int Int) : Arc := T4.mk 0 ((dget (plc nodes) (o.a - 1)).getD 0) (some o.c) o.b
def wArc (w : Wk3) (nodes : List Int) (o : T3 Int Int Int) : Arc := T4.mk ((dget (plc nodes) (o.a + w.a)).getD 0) 0 (some o.c) o.b
def cArc (k : Int) : Arc := T4.mk k (k + 1) none 0
def mkArcs (w : Wk3) (s : Sh2) (nodes : List Int) : List Arc := s.a.map (fArc nodes) ++ s.b.map (wArc w nodes) ++ (iseq 1 ((nodes.length : Int) - 1).toNat).map cArc
def exOf (lacks : List (T2 Int Int)) (k : Int) : Int := if k = 0 then (lacks.getLastD (T2.mk 0 0)).a - (lacks.getD 0 (T2.mk 0 0)).a else (lacks.getD (k - 1).toNat (T2.mk 0 0)).a - (lacks.getD k.toNat (T2.mk 0 0)).a
structure MarketOk (n : Nat) (lacks : List (T2 Int Int)) (arcs : List Arc) (flow : List Int) (ex : List (Int × Int)) : Prop where
  next : NextOk arcs flow ex
  zero : ∀ f ∈ flow, f = 0
  dom : ∀ v, (dget ex v).isSome = true ↔ 0 ≤ v ∧ v ≤ (n : Int)
  inN : ∀ a ∈ arcs, (0 ≤ a.a ∧ a.a ≤ (n : Int)) ∧ (0 ≤ a.b ∧ a.b ≤ (n : Int))
  val : ∀ v, 0 ≤ v → v ≤ (n : Int) → exv ex v = exOf lacks v
  len : lacks.length = n + 1
theorem last_get {lacks : List (T2 Int Int)} {n : Nat} (h : lacks.length = n + 1) : lacks.getLastD (T2.mk 0 0) = lacks.getD n (T2.mk 0 0) := by
  rw [List.getLastD_eq_getLast?, List.getLast?_eq_getElem?, h, List.getD_eq_getElem?_getD]
  rfl
theorem tele (L : Int → Int) : ∀ n : Nat, ((iseq 1 n).map fun k => L (k - 1) - L k).sum = L 0 - L (n : Int)
  | 0 => by
    show (0 : Int) = L 0 - L 0
    omega
  | n + 1 => by
    rw [iq_succ, List.map_append, List.sum_append, tele L n]
    simp only [List.map_cons, List.map_nil, List.sum_cons, List.sum_nil]
    rw [show (1 : Int) + (n : Int) - 1 = (n : Int) from by omega, show ((n + 1 : Nat) : Int) = 1 + (n : Int) from by omega]
    omega
theorem iq_cons (lo : Int) : ∀ n : Nat, iseq lo (n + 1) = lo :: iseq (lo + 1) n
  | 0 => by rw [iq_succ]; simp [iseq]
  | n + 1 => by
    rw [iq_succ, iq_cons lo n, iq_succ, List.cons_append]
    rw [show lo + ((n + 1 : Nat) : Int) = lo + 1 + (n : Int) from by omega]
theorem tot_ex {n : Nat} {lacks : List (T2 Int Int)} (h : lacks.length = n + 1) : tot n (exOf lacks) = 0 := by
  unfold tot
  rw [iq_cons, List.map_cons, List.sum_cons]
  have e : (iseq (0 + 1) n).map (exOf lacks) = (iseq 1 n).map fun k => (fun j : Int => (lacks.getD j.toNat (T2.mk 0 0)).a) (k - 1) - (fun j : Int => (lacks.getD j.toNat (T2.mk 0 0)).a) k := by
    apply List.map_congr_left
    intro k hk
    have := iseq_mem_iff.mp hk
    unfold exOf
    rw [if_neg (by omega)]
  rw [e, tele (fun j : Int => (lacks.getD j.toNat (T2.mk 0 0)).a) n]
  unfold exOf
  rw [if_pos rfl, last_get h]
  rw [show ((n : Int)).toNat = n from by omega]
  show _ - _ + ((lacks.getD (0 : Int).toNat (T2.mk 0 0)).a - _) = (0 : Int)
  rw [show ((0 : Int)).toNat = 0 from rfl]
  omega
/-- all that is too much in all is nothing -/
theorem kept_tot {n : Nat} {lacks : List (T2 Int Int)} {arcs : List Arc} {flow flow' : List Int} {ex ex' : List (Int × Int)} (m : MarketOk n lacks arcs flow ex) (k : Kept arcs flow ex flow' ex') : tot n (exv ex') = 0 := by
  have h1 := tot_net (n := n) arcs flow m.inN
  have h2 := tot_net (n := n) arcs flow' m.inN
  have h3 := tot_ex m.len
  unfold tot at *
  have e : (iseq 0 (n + 1)).map (exv ex') = (iseq 0 (n + 1)).map fun v => (exOf lacks v - netS (ind v) arcs flow) + netS (ind v) arcs flow' := by
    apply List.map_congr_left
    intro v hv
    have := iseq_mem_iff.mp hv
    rw [← m.val v (by omega) (by omega)]
    have := k.bal v
    omega
  rw [e, sumf_add, sumf_sub, h1, h2, h3]
  rfl
end Wl

set_option maxRecDepth 100000
set_option maxHeartbeats 2000000
/-! a triple or four, as one type; an option that is known to be something -/
namespace Wl
open PySem PySem.Spec PyProof.Rows L2
instance {α β γ δ ε ζ η : Type} [Rp α] [Rp β] [Rp γ] [Rp δ] [Rp ε] [Rp ζ] [Rp η] : Ty1 (T3 α β γ ⊕ T4 δ ε ζ η) := ⟨"tuple", fun {K G v x} h => by
  cases x with
  | inl y => exact Ty1.ok (α := T3 α β γ) h
  | inr y => exact Ty1.ok (α := T4 δ ε ζ η) h⟩
instance {α β γ δ ε ζ η : Type} [Rp α] [Rp β] [Rp γ] [Rp δ] [Rp ε] [Rp ζ] [Rp η] [DEq α] [DEq β] [DEq γ] [DEq δ] [DEq ε] [DEq ζ] [DEq η] : DEq (T3 α β γ ⊕ T4 δ ε ζ η) := ⟨fun x => match x with
    | .inl y => DEq.toD y
    | .inr y => DEq.toD y, fun {K G v x} h => by
      cases x with
      | inl y => exact DEq.dp (α := T3 α β γ) h
      | inr y => exact DEq.dp (α := T4 δ ε ζ η) h, max (DEq.n (T3 α β γ)) (DEq.n (T4 δ ε ζ η)), fun x => match x with
    | .inl y => DEq.ok y
    | .inr y => DEq.ok y, fun x h => by
      cases x with
      | inl y => exact DEq.lay y h
      | inr y => exact DEq.lay y h, fun x => by
      cases x with
      | inl y => exact Nat.le_trans (DEq.dep y) (Nat.le_max_left _ _)
      | inr y => exact Nat.le_trans (DEq.dep y) (Nat.le_max_right _ _), fun x y => by
      cases x with
      | inl x => cases y with
        | inl y => simp [DEq.eqv]
        | inr y =>
          constructor
          · intro h
            have h : PyData.eqv (.tuple [DEq.toD x.a, DEq.toD x.b, DEq.toD x.c]) (.tuple [DEq.toD y.a, DEq.toD y.b, DEq.toD y.c, DEq.toD y.d]) = true := h
            simp [PyData.eqv, PyData.eqvAll] at h
          · intro h; cases h
      | inr x => cases y with
        | inl y =>
          constructor
          · intro h
            have h : PyData.eqv (.tuple [DEq.toD x.a, DEq.toD x.b, DEq.toD x.c, DEq.toD x.d]) (.tuple [DEq.toD y.a, DEq.toD y.b, DEq.toD y.c]) = true := h
            simp [PyData.eqv, PyData.eqvAll] at h
          · intro h; cases h
        | inr y => simp [DEq.eqv]⟩
instance {α β γ δ ε ζ η : Type} [Rp α] [Rp β] [Rp γ] [Rp δ] [Rp ε] [Rp ζ] [Rp η] [DEq α] [DEq β] [DEq γ] [DEq δ] [DEq ε] [DEq ζ] [DEq η] : DNo (T3 α β γ ⊕ T4 δ ε ζ η) := ⟨fun x => by cases x <;> rfl, fun x => by cases x <;> rfl⟩
section
variable {X : Cx} {Γ Γ' : List Slot} {st : Stmt} {sts els rest : List Stmt} {a b c d e tg iter elt : Expr} {es elts ifs : List Expr} {pos : Pos} {o : Out}
/-- an if that is surely taken, and leaves -/
theorem bv_ifT {x : Bool} {els : List Stmt} (h : ET X Γ c x) (hx : x = true) (hb : BV X Γ sts o) (he : o.exits) : BV X Γ (.If c sts els pos :: rest) o := bv_if3 (of := fun _ => o) h (fun _ => hb) (fun z => by rw [hx] at z; cases z) he
theorem bitM (b : Bool) (x : Int) : CMul x (bif b then (1 : Int) else 0) := .inr (by cases b <;> decide)
/-- a name that holds something -/
theorem bv_unO (i : Nat) {α : Type} [Rp α] {x : Option α} (y : α) (h0 : Γ[i]? = some (.v x)) (hx : x = some y) (hr : BV X (Γ.set i (.v y)) sts o) : BV X Γ sts o := ⟨fun B G H σ D hB hg l k => by
  subst hx
  obtain ⟨v, e1, r⟩ := l.val h0
  have hs : σ.set i (some v) = σ := by
    have hi : i < Γ.length := (List.getElem?_eq_some_iff.mp h0).1
    apply List.ext_getElem?
    intro j
    by_cases hj : i = j
    · subst hj
      rw [List.getElem?_set_self (by rw [l.len]; exact hi), e1]
    · rw [List.getElem?_set_ne hj]
  have l' := l.set (i := i) (d := dt y) (v := v) r.1
  rw [hs] at l'
  exact hr.run B G H σ D hB hg l' k⟩
end
end Wl

set_option maxRecDepth 100000
set_option maxHeartbeats 2000000
/-! x in a list of texts -/
namespace Wl
open PySem PySem.Spec PyProof.Rows L2
theorem reps_texts {K : PySem.W.Frag} {G : Hp} : ∀ {vs : List V} {xs : List Str}, Reps K G vs xs → vs = xs.map V.str
  | _, _, .nil => rfl
  | _, _, .cons h t => by
    have e := reps_texts t
    rw [e, List.map_cons]
    congr 1
theorem inV_strs (x : Str) : ∀ xs : List Str, inV (.str x) (xs.map V.str) = decide (x ∈ xs)
  | [] => by simp [inV]
  | y :: r => by
    have h := inV_strs x r
    unfold inV at h ⊢
    rw [List.map_cons, List.any_cons, h]
    by_cases e : x = y
    · subst e; simp [eqV]
    · have : ¬ y = x := fun z => e z.symm
      simp [eqV, e, this]
theorem flat_strs (xs : List Str) : (xs.map V.str).all flatV = true := by
  rw [List.all_eq_true]
  intro v hv
  obtain ⟨x, _, e⟩ := List.mem_map.mp hv
  subst e; rfl
section
variable {X : Cx} {Γ Γ' : List Slot} {a b : Expr} {pos : Pos}
theorem rIn_strs {K : PySem.W.Frag} {x : Str} {xs : List Str} : ∀ G H v u, Same G H → Rp.rep K G v x → Rp.rep K G u xs → ∀ Q : VK, (∀ G' H', Grow G H G' H' → Q (.bl (decide (x ∈ xs))) H') → rIn K false v u H Q := fun G H v u hg hv hu Q q => by
  obtain ⟨p, vs, rfl, hs, hr⟩ := hu
  have hv : v = .str x := hv
  subst hv
  rw [reps_texts hr] at hs
  refine ⟨p, _, rfl, .inl (Same.seq hg hs), rfl, flat_strs xs, ?_⟩
  show Q (.bl (inV (.str x) (xs.map V.str))) H
  rw [inV_strs]
  exact q G H (Grow.refl hg)
theorem ev_inLS {x : Str} {xs : List Str} (ha : EV X Γ a x) (hb : EV X Γ b xs) (hm : behindInMarks .In b = false := by rfl) : EV X Γ (.Compare a [.In] [b] pos) (decide (x ∈ xs)) := ev_cmp op_in_seq hm ha hb rIn_strs
theorem et_inLS {x : Str} {xs : List Str} (ha : EV X Γ a x) (hb : EV X Γ b xs) (hm : behindInMarks .In b = false := by rfl) : ET X Γ (.Compare a [.In] [b] pos) (decide (x ∈ xs)) := et_cmp op_in_seq hm ha hb rIn_strs
theorem iv_tup2 {α : Type} [Rp α] {iter tg : Expr} {x : T2 α α} (h : EV X Γ iter x) : IV X Γ tg iter [x.a, x.b] := ⟨fun B G H σ hB hg l R q =>
  wi (pi_tup pe) (h B G H σ hB hg l _ fun v G1 H1 g1 r1 => by
    obtain ⟨p, v1, v2, e, hs, h1, h2⟩ := r1
    exact ⟨p, e, ⟨_, seqT g1.gh hs⟩, q _ G1 H1 g1 (iters_tup hs (.cons h1 (.cons h2 .nil)))⟩)⟩
end
end Wl

set_option maxRecDepth 100000
set_option maxHeartbeats 2000000
/-! what is told, of one's own: a buying; is with true and false -/
namespace Wl
open PySem PySem.Spec PyProof.Rows L2
abbrev T4B := T4 Str (T2 (List Int) (List Int)) Int (List Int)
abbrev T3B := T3 Str Str Int
/-- a told buying, its three lists at known places -/
structure MFp where
  p : Addr
  q : Addr
  r : Addr
  y : T4B
instance : Ow MFp := ⟨fun K G H v fp x => ∃ t u us vs ws, v = .ref t ∧ fp = [x.p, x.q, x.r] ∧ SqT K G t [.str x.y.a, .ref u, .int x.y.c, .ref x.r] ∧ SqT K G u [.ref x.p, .ref x.q] ∧ x.p ≠ x.q ∧ x.p ≠ x.r ∧ x.q ≠ x.r ∧
    H x.p = some (.lst us) ∧ H x.q = some (.lst vs) ∧ H x.r = some (.lst ws) ∧ Reps K G us x.y.b.a ∧ Reps K G vs x.y.b.b ∧ Reps K G ws x.y.d, fun e eh h => by
  obtain ⟨t, u, us, vs, ws, h0, h1, ht, hu, n1, n2, n3, h2, h3, h4, r1, r2, r3⟩ := h
  subst h1
  exact ⟨t, u, us, vs, ws, h0, rfl, seqT e ht, seqT e hu, n1, n2, n3, by rw [eh _ (by simp)]; exact h2, by rw [eh _ (by simp)]; exact h3, by rw [eh _ (by simp)]; exact h4, r1.mono e, r2.mono e, r3.mono e⟩, fun {K G H v fp x} h a ha o e => by
  obtain ⟨t, u, us, vs, ws, _, rfl, _, _, _, _, _, h2, h3, h4, _⟩ := h
  have ha : a = x.p ∨ a = x.q ∨ a = x.r := by simpa using ha
  rcases ha with z | z | z
  · rw [z, h2] at e; cases e; exact nt_lst
  · rw [z, h3] at e; cases e; exact nt_lst
  · rw [z, h4] at e; cases e; exact nt_lst⟩
instance : Fz MFp T4B := ⟨MFp.y, fun {K G H v fp x} hf h => by
  obtain ⟨t, u, us, vs, ws, rfl, rfl, ht, hu, n1, n2, n3, h2, h3, h4, r1, r2, r3⟩ := h
  have hs := gl_up (H := H) hf
  exact ⟨t, _, _, _, _, rfl, seqT hs ht, rfl, ⟨u, _, _, rfl, seqT hs hu, ⟨_, us, rfl, SqL.of (by rw [gl_in (by simp)]; exact h2), r1.mono hs⟩, ⟨_, vs, rfl, SqL.of (by rw [gl_in (by simp)]; exact h3), r2.mono hs⟩⟩, rfl, ⟨_, ws, rfl, SqL.of (by rw [gl_in (by simp)]; exact h4), r3.mono hs⟩⟩⟩
/-- what is told: why none will do, or a buying -/
structure MU where
  x : T3B ⊕ T4B
instance : Ow MU := ⟨fun K G H v fp x => match x.x with
    | .inl y => fp = [] ∧ Rp.rep K G v y
    | .inr y => ∃ p q r, Ow.ok K G H v fp (MFp.mk p q r y), fun {K G G' H H' v fp x} e eh h => by
  obtain ⟨x⟩ := x
  cases x with
  | inl y => exact ⟨h.1, Rp.mono e h.2⟩
  | inr y =>
    obtain ⟨p, q, r, h⟩ := h
    exact ⟨p, q, r, Ow.mono e eh h⟩, fun {K G H v fp x} h => by
  obtain ⟨x⟩ := x
  cases x with
  | inl y => intro a ha; rw [h.1] at ha; cases ha
  | inr y =>
    obtain ⟨p, q, r, h⟩ := h
    exact Ow.nt h⟩
instance : Fz MU (T3B ⊕ T4B) := ⟨MU.x, fun {K G H v fp x} hf h => by
  obtain ⟨x⟩ := x
  cases x with
  | inl y =>
    obtain ⟨rfl, h⟩ := h
    exact Rp.mono (gl_up hf) (show Rp.rep K G v y from h)
  | inr y =>
    obtain ⟨p, q, r, h⟩ := h
    exact Fz.ok (τ := MFp) hf h⟩
section
variable {X : Cx} {Γ Γ' : List Slot} {st : Stmt} {sts els rest : List Stmt} {a b c d e tg iter elt : Expr} {es elts ifs : List Expr} {pos : Pos} {o : Out}
/-- return of what is known -/
theorem bv_retU1 {y : T3B} (h : EV X Γ e y) : BV X Γ (.Return (some e) pos :: sts) (.ro (ot (MU.mk (.inl y)))) := bv_out (⟨fun B G H σ D hB hg l k => by
  refine ws (ps_ret pe) (h B G H σ hB hg l _ fun v G1 H1 g1 r1 => ?_)
  exact k G1 H1 (g1.step hB) v [] (fun a ha => by cases ha) ⟨rfl, r1⟩⟩ : SV X Γ (.Return (some e) pos) _) trivial
/-- return (e, pair, e, new list) -/
theorem bv_retU2 (i : Nat) {n : Nat} {s : Str} {w : T2 (List Int) (List Int)} {z : Int} {xs : List Int} (ha : EV X Γ a s) (hv : PE X b (tVar i)) (h0 : Γ[i]? = some (.o (MP.mk w))) (hc : EV X Γ c z) (hd : EN X Γ d (ML.mk xs))
    (hs : starEach [a, b, c, d] X.env = (false, eval a X.env) :: starEach [b, c, d] X.env := by rfl) (hs2 : starEach [b, c, d] X.env = (false, eval b X.env) :: starEach [c, d] X.env := by rfl) (hs3 : starEach [c, d] X.env = (false, eval c X.env) :: starEach [d] X.env := by rfl) (hs4 : starEach [d] X.env = (false, eval d X.env) :: starEach [] X.env := by rfl) :
    BV X Γ (.Return (some (.Tuple [a, b, c, d] n pos)) pos2 :: sts) (.ro (ot (MU.mk (.inr ⟨s, w, z, xs⟩)))) := bv_out (⟨fun B G H σ D hB hg l k => by
  refine ws (ps_ret (pe_tup (pa_cons pe (pa_cons hv (pa_cons pe (pa_cons pe pa_nil hs4) hs3) hs2) hs))) (ha B G H σ hB hg l _ fun v1 G1 H1 g1 r1 => ?_)
  have l1 := l.grow g1
  obtain ⟨F, v, lf, ev, hf, u, p, q, us, vs, rfl, hF, ht, hn, hh1, hh2, q1, q2⟩ := own_at l1 h0
  have hp1 := hf p (by rw [hF]; simp)
  have hq1 := hf q (by rw [hF]; simp)
  refine ⟨_, ev, hc B G1 H1 σ (hB.trans g1.h) g1.gh l1 _ fun v3 G3 H3 g3 r3 => ?_⟩
  refine hd B G3 H3 σ (hB.trans (g1.trans g3).h) g3.gh (l1.grow g3) _ fun v4 fp G4 H4 g4 hf4 ok4 => ?_
  obtain ⟨r, ws', rfl, rfl, hh3, q3⟩ := ok4
  obtain ⟨c1, c2, _⟩ := hf4 r (by simp)
  have g := g3.trans g4
  have m1 := g.h _ _ hh1
  have m2 := g.h _ _ hh2
  have hpr : p ≠ r := fun z => by subst z; rw [g3.h _ _ hh1] at c1; cases c1
  have hqr : q ≠ r := fun z => by subst z; rw [g3.h _ _ hh2] at c1; cases c1
  refine ⟨Nat.le_trans (show [v1, V.ref u, v3, V.ref r].length ≤ 4 from Nat.le_refl _) (by decide), fun t htn => ?_⟩
  have gt := Grow.new (o := .tup [v1, .ref u, v3, .ref r]) g4.gh htn
  have e1 : v1 = V.str s := r1
  have e3 : v3 = V.int z := r3
  subst e1 e3
  have np : t ≠ p := fun y => by subst y; rw [m1] at htn; cases htn
  have nq : t ≠ q := fun y => by subst y; rw [m2] at htn; cases htn
  have nr : t ≠ r := fun y => by subst y; rw [hh3] at htn; cases htn
  refine k _ _ ((((g1.trans g3).trans g4).trans gt).step hB) (.ref t) [p, q, r] (fun a ha => ?_) ⟨p, q, r, t, u, us, vs, ws', rfl, rfl, SqT.of upd_same, seqT (g.trans gt).g ht, hn, hpr, hqr, by rw [upd_ne (Ne.symm np)]; exact m1, by rw [upd_ne (Ne.symm nq)]; exact m2, by rw [upd_ne (Ne.symm nr)]; exact hh3, q1.mono (g.trans gt).g, q2.mono (g.trans gt).g, q3.mono gt.g⟩
  have : a = p ∨ a = q ∨ a = r := by simpa using ha
  rcases this with rfl | rfl | rfl
  · exact ⟨hp1.1, by rw [upd_ne (Ne.symm np)]; exact (g.fr _ _ hh1).trans hp1.2.1, _, by rw [upd_ne (Ne.symm np)]; exact m1⟩
  · exact ⟨hq1.1, by rw [upd_ne (Ne.symm nq)]; exact (g.fr _ _ hh2).trans hq1.2.1, _, by rw [upd_ne (Ne.symm nq)]; exact m2⟩
  · exact ⟨(hB.trans (g1.trans g3).h).free c1, by rw [upd_ne (Ne.symm nr)]; exact c2, _, by rw [upd_ne (Ne.symm nr)]; exact hh3⟩⟩ : SV X Γ (.Return (some (.Tuple [a, b, c, d] n pos)) pos2) _) trivial
/-- what is told, its kind known from here on -/
theorem bv_splitU (i : Nat) {x : T3B ⊕ T4B} {of : (T3B ⊕ T4B) → Out} (h0 : Γ[i]? = some (.o (MU.mk x))) (hl : ∀ y, x = .inl y → BV X (Γ.set i (.v y)) sts (of (.inl y))) (hr : ∀ y, x = .inr y → ∀ p q r, p ≠ q → p ≠ r → q ≠ r → BV X (Γ.set i (.o (MFp.mk p q r y))) sts (of (.inr y))) (ho : of x = o := by exact rfl) : BV X Γ sts o := by
  subst ho
  cases x with
  | inl y =>
    refine ⟨fun B G H σ D hB hg l k => ?_⟩
    obtain ⟨F, v, lf, e1, hf, hfp, ok⟩ := own_at l h0
    have lo := lf.fzS (fs := []) (d' := dt y) h0 e1 (fun a ha => by cases ha) (fun a ha => by rw [hfp] at ha; cases ha) ok
    have egl : ∀ G0 : Hp, gl G0 H [] = G0 := fun G0 => by funext a; exact gl_out (by simp)
    rw [egl] at lo
    exact hl y rfl B G H σ D hB hg lo k
  | inr y =>
    refine ⟨fun B G H σ D hB hg l k => ?_⟩
    obtain ⟨F, v, lf, e1, hf, p, q, r, ok⟩ := own_at l h0
    have ok2 := ok
    obtain ⟨t, u, us, vs, ws, _, hfp, _, _, n1, n2, n3, _⟩ := ok
    refine hr y rfl p q r n1 n2 n3 B G H σ D hB hg (lf.mut (fp := F i) (d' := ot (MFp.mk p q r y)) h0 e1 (fun a _ o e => e) (fun a ha => ⟨.inl ha, (hf a ha).1, (hf a ha).2.1, (hf a ha).2.2⟩) ok2) k
/-! ### the lists of a told buying, by their places -/
theorem ownF {K : PySem.W.Frag} {B G H : Hp} {σ : L2.St} {i : Nat} {p q r : Addr} {y : T4B} (l : Lo K B G H σ Γ) (h : Γ[i]? = some (.o (MFp.mk p q r y))) : ∃ F t u us vs ws, LoF K B G H σ Γ F ∧ F i = [p, q, r] ∧ σ[i]? = some (some (.ref t)) ∧ SqT K G t [.str y.a, .ref u, .int y.c, .ref r] ∧ SqT K G u [.ref p, .ref q] ∧ p ≠ q ∧ p ≠ r ∧ q ≠ r ∧
    (B p = none ∧ G p = none) ∧ (B q = none ∧ G q = none) ∧ (B r = none ∧ G r = none) ∧ H p = some (.lst us) ∧ H q = some (.lst vs) ∧ H r = some (.lst ws) ∧ Reps K G us y.b.a ∧ Reps K G vs y.b.b ∧ Reps K G ws y.d := by
  obtain ⟨F, v, lf, e1, hf, t, u, us, vs, ws, rfl, e2, ht, hu, n1, n2, n3, h2, h3, h4, r1, r2, r3⟩ := own_at l h
  dsimp only at e2
  have a1 := hf p (by rw [e2]; simp)
  have a2 := hf q (by rw [e2]; simp)
  have a3 := hf r (by rw [e2]; simp)
  exact ⟨F, t, u, us, vs, ws, lf, e2, e1, ht, hu, n1, n2, n3, ⟨a1.1, a1.2.1⟩, ⟨a2.1, a2.2.1⟩, ⟨a3.1, a3.2.1⟩, h2, h3, h4, r1, r2, r3⟩
/-- t[1][k] as a place -/
theorem ev_mf1 (i : Nat) (k : Bool) {p q r : Addr} {y : T4B} {e1 e2 : Expr} (hp : PE X c (tOp (rIxT X.K) (tOp (rIxT X.K) (tVar i) (WE X e1)) (WE X e2))) (h0 : Γ[i]? = some (.o (MFp.mk p q r y))) (h1 : EV X Γ e1 (1 : Int)) (h2 : EV X Γ e2 (match k with | false => (0 : Int) | true => 1)) : EV X Γ c (match k with | false => Rf.mk p | true => Rf.mk q) := ⟨fun B G H σ hB hg l Q q0 => by
  obtain ⟨F, t, u, us, vs, ws, lf, hF, ev, ht, hu, n1, n2, n3, a1, a2, a3, hh1, hh2, hh3, r1, r2, r3⟩ := ownF l h0
  refine we hp ⟨_, ev, h1 B G H σ hB hg l _ fun v1 G1 H1 g1 rv1 => ?_⟩
  have e1 : v1 = V.int 1 := rv1
  subst e1
  refine ⟨t, _, 1, .ref u, rfl, rfl, seqT (g1.g.trans g1.gh) ht, rfl, ?_⟩
  refine h2 B G1 H1 σ (hB.trans g1.h) g1.gh (l.grow g1) _ fun v2 G2 H2 g2 rv2 => ?_
  have hu2 : SqT X.K H2 u [.ref p, .ref q] := seqT ((g1.trans g2).g.trans g2.gh) hu
  cases k with
  | false =>
    have e2 : v2 = V.int 0 := rv2
    subst e2
    exact ⟨u, _, 0, .ref p, rfl, rfl, hu2, rfl, q0 _ G2 H2 (g1.trans g2) rfl⟩
  | true =>
    have e2 : v2 = V.int 1 := rv2
    subst e2
    exact ⟨u, _, 1, .ref q, rfl, rfl, hu2, rfl, q0 _ G2 H2 (g1.trans g2) rfl⟩⟩
/-- t[3] as a place -/
theorem ev_mf3 (i : Nat) {p q r : Addr} {y : T4B} {e1 : Expr} (hp : PE X c (tOp (rIxT X.K) (tVar i) (WE X e1))) (h0 : Γ[i]? = some (.o (MFp.mk p q r y))) (h1 : EV X Γ e1 (3 : Int)) : EV X Γ c (Rf.mk r) := ⟨fun B G H σ hB hg l Q q0 => by
  obtain ⟨F, t, u, us, vs, ws, lf, hF, ev, ht, hu, n1, n2, n3, a1, a2, a3, hh1, hh2, hh3, r1, r2, r3⟩ := ownF l h0
  refine we hp ⟨_, ev, h1 B G H σ hB hg l _ fun v1 G1 H1 g1 rv1 => ?_⟩
  have e1 : v1 = V.int 3 := rv1
  subst e1
  exact ⟨t, _, 3, .ref r, rfl, rfl, seqT (g1.g.trans g1.gh) ht, rfl, q0 _ G1 H1 g1 rfl⟩⟩
/-- one of the lists, made longer -/
def appF (p q : Addr) (x : Int) (y : T4B) (z : Rf) : T4B := if z.p = p then ⟨y.a, ⟨y.b.a ++ [x], y.b.b⟩, y.c, y.d⟩ else if z.p = q then ⟨y.a, ⟨y.b.a, y.b.b ++ [x]⟩, y.c, y.d⟩ else ⟨y.a, y.b, y.c, y.d ++ [x]⟩
theorem sv_appF (i j : Nat) {p q r : Addr} {y : T4B} {z : Rf} {x : Int} (hp : PE X c (tBM X.K "list" rAppend (tVar j) (tCons (WE X e) tNil))) (h0 : Γ[i]? = some (.o (MFp.mk p q r y))) (hj : Γ[j]? = some (.v z)) (hz : z ∈ [Rf.mk p, Rf.mk q, Rf.mk r]) (h : EV X Γ e x) (hl : y.b.a.length < 10000000 ∧ y.b.b.length < 10000000 ∧ y.d.length < 10000000) (hs : swapsWith c none pos.line X.env = pure false := by rfl) :
    SV X Γ (.Expr c pos) (.nx (Γ.set i (.o (MFp.mk p q r (appF p q x y z))))) := ⟨fun B G H σ D hB hg l k => by
  obtain ⟨vj, ej, rj⟩ := l.val hj
  obtain ⟨z⟩ := z
  have rj : vj = .ref z := rj
  subst rj
  obtain ⟨F, t, u, us, vs, ws', lf, hF, ev, ht, hu, n1, n2, n3, a1, a2, a3, hh1, hh2, hh3, r1, r2, r3⟩ := ownF l h0
  have hm : z = p ∨ z = q ∨ z = r := by simpa using hz
  have some_ : ∃ xs, H z = some (.lst xs) := by
    rcases hm with rfl | rfl | rfl
    · exact ⟨_, hh1⟩
    · exact ⟨_, hh2⟩
    · exact ⟨_, hh3⟩
  obtain ⟨xs0, hz0⟩ := some_
  refine ws (ps_expr hp hs) ⟨_, ej, .inl ⟨rfl, _, .inl (.inl hz0)⟩, ?_⟩
  refine h B G H σ hB hg l _ fun v G1 H1 g1 rv => ?_
  have m1 := g1.h _ _ hh1
  have m2 := g1.h _ _ hh2
  have m3 := g1.h _ _ hh3
  have b1 : G1 p = none := (g1.fr p _ hh1).trans a1.2
  have b2 : G1 q = none := (g1.fr q _ hh2).trans a2.2
  have b3 : G1 r = none := (g1.fr r _ hh3).trans a3.2
  have ht1 := seqT g1.g ht
  have hu1 := seqT g1.g hu
  have fpof : ∀ H2 : Hp, (∃ o, H2 p = some o) → (∃ o, H2 q = some o) → (∃ o, H2 r = some o) → ∀ a ∈ [p, q, r], ((a ∈ F i ∨ H1 a = none) ∧ B a = none ∧ G1 a = none ∧ ∃ ho, H2 a = some ho) := fun H2 o1 o2 o3 a ha => by
    have : a = p ∨ a = q ∨ a = r := by simpa using ha
    rcases this with rfl | rfl | rfl
    · exact ⟨.inl (by rw [hF]; simp), a1.1, b1, o1⟩
    · exact ⟨.inl (by rw [hF]; simp), a2.1, b2, o2⟩
    · exact ⟨.inl (by rw [hF]; simp), a3.1, b3, o3⟩
  rcases hm with rfl | rfl | rfl
  · refine ⟨z, us, v, rfl, rfl, m1, by rw [r1.len]; exact Nat.lt_of_lt_of_le hl.1 (by decide), ?_⟩
    have e : appF z q x y (Rf.mk z) = ⟨y.a, ⟨y.b.a ++ [x], y.b.b⟩, y.c, y.d⟩ := by unfold appF; rw [if_pos rfl]
    rw [e] at k
    exact k G1 _ ((g1.step hB).trans (Stp.mutL (hB.trans g1.h) g1.gh a1.1 b1)) σ ((lf.grow g1).mut (fp := [z, q, r]) (d' := ot (MFp.mk z q r ⟨y.a, ⟨y.b.a ++ [x], y.b.b⟩, y.c, y.d⟩)) h0 ev (fun a ha o e => by rw [upd_ne (fun w => ha (by rw [hF, w]; simp))]; exact e) (fpof _ ⟨_, upd_same⟩ ⟨_, by rw [upd_ne (Ne.symm n1)]; exact m2⟩ ⟨_, by rw [upd_ne (Ne.symm n2)]; exact m3⟩)
      ⟨t, u, _, vs, ws', rfl, rfl, ht1, hu1, n1, n2, n3, upd_same, by rw [upd_ne (Ne.symm n1)]; exact m2, by rw [upd_ne (Ne.symm n2)]; exact m3, paired_app (r1.mono g1.g) (.cons rv .nil), r2.mono g1.g, r3.mono g1.g⟩)
  · refine ⟨z, vs, v, rfl, rfl, m2, by rw [r2.len]; exact Nat.lt_of_lt_of_le hl.2.1 (by decide), ?_⟩
    have e : appF p z x y (Rf.mk z) = ⟨y.a, ⟨y.b.a, y.b.b ++ [x]⟩, y.c, y.d⟩ := by unfold appF; rw [if_neg (Ne.symm n1), if_pos rfl]
    rw [e] at k
    exact k G1 _ ((g1.step hB).trans (Stp.mutL (hB.trans g1.h) g1.gh a2.1 b2)) σ ((lf.grow g1).mut (fp := [p, z, r]) (d' := ot (MFp.mk p z r ⟨y.a, ⟨y.b.a, y.b.b ++ [x]⟩, y.c, y.d⟩)) h0 ev (fun a ha o e => by rw [upd_ne (fun w => ha (by rw [hF, w]; simp))]; exact e) (fpof _ ⟨_, by rw [upd_ne n1]; exact m1⟩ ⟨_, upd_same⟩ ⟨_, by rw [upd_ne (Ne.symm n3)]; exact m3⟩)
      ⟨t, u, us, _, ws', rfl, rfl, ht1, hu1, n1, n2, n3, by rw [upd_ne n1]; exact m1, upd_same, by rw [upd_ne (Ne.symm n3)]; exact m3, r1.mono g1.g, paired_app (r2.mono g1.g) (.cons rv .nil), r3.mono g1.g⟩)
  · refine ⟨z, ws', v, rfl, rfl, m3, by rw [r3.len]; exact Nat.lt_of_lt_of_le hl.2.2 (by decide), ?_⟩
    have e : appF p q x y (Rf.mk z) = ⟨y.a, y.b, y.c, y.d ++ [x]⟩ := by unfold appF; rw [if_neg (Ne.symm n2), if_neg (Ne.symm n3)]
    rw [e] at k
    exact k G1 _ ((g1.step hB).trans (Stp.mutL (hB.trans g1.h) g1.gh a3.1 b3)) σ ((lf.grow g1).mut (fp := [p, q, z]) (d' := ot (MFp.mk p q z ⟨y.a, y.b, y.c, y.d ++ [x]⟩)) h0 ev (fun a ha o e => by rw [upd_ne (fun w => ha (by rw [hF, w]; simp))]; exact e) (fpof _ ⟨_, by rw [upd_ne n2]; exact m1⟩ ⟨_, by rw [upd_ne n3]; exact m2⟩ ⟨_, upd_same⟩)
      ⟨t, u, us, vs, _, rfl, rfl, ht1, hu1, n1, n2, n3, by rw [upd_ne n2]; exact m1, by rw [upd_ne n3]; exact m2, upd_same, r1.mono g1.g, r2.mono g1.g, paired_app (r3.mono g1.g) (.cons rv .nil)⟩)⟩
/-! ### is, with true and false -/
theorem beq_bool (a b : Bool) : (Value.bool a == Value.bool b) = decide (a = b) := by cases a <;> cases b <;> rfl
theorem op_isB : OpR X (compareOp .Is) (fun x y H Q => ∃ a b, x = .bl a ∧ y = .bl b ∧ Q (.bl (decide (a = b))) H) := by
  intro pins s σ H x y v u Q I rx ry h
  obtain ⟨a, b, rfl, rfl, q⟩ := h
  cases rx
  cases ry
  exact wpAny_is_plain rfl (fin_bl I q (beq_bool a b).symm)
theorem op_isnotB : OpR X (compareOp .IsNot) (fun x y H Q => ∃ a b, x = .bl a ∧ y = .bl b ∧ Q (.bl (!decide (a = b))) H) := by
  intro pins s σ H x y v u Q I rx ry h
  obtain ⟨a, b, rfl, rfl, q⟩ := h
  cases rx
  cases ry
  exact wpAny_isNot_plain rfl (fin_bl I q (congrArg not (beq_bool a b).symm))
theorem rIsB {neg : Bool} {x y : Bool} {K : PySem.W.Frag} : ∀ G H v u, Same G H → Rp.rep K G v x → Rp.rep K G u y → ∀ Q : VK, (∀ G' H', Grow G H G' H' → Q (.bl (if neg then !decide (x = y) else decide (x = y))) H') → ∃ a b, v = .bl a ∧ u = .bl b ∧ Q (.bl (if neg then !decide (a = b) else decide (a = b))) H := fun G H v u hg rv ru Q q => ⟨x, y, rv, ru, q G H (Grow.refl hg)⟩
theorem et_isB {x y : Bool} (ha : EV X Γ a x) (hb : EV X Γ b y) (hm : behindInMarks .Is b = false := by rfl) : ET X Γ (.Compare a [.Is] [b] pos) (decide (x = y)) := et_cmp op_isB hm ha hb (rIsB (neg := false))
theorem et_isnotB {x y : Bool} (ha : EV X Γ a x) (hb : EV X Γ b y) (hm : behindInMarks .IsNot b = false := by rfl) : ET X Γ (.Compare a [.IsNot] [b] pos) (!decide (x = y)) := et_cmp op_isnotB hm ha hb (rIsB (neg := true))
/-- what is told is not None -/
theorem et_isNU {x : T3B ⊕ T4B} {j : Nat} {pos' : Pos} (h : EV X Γ a x) : ET X Γ (.Compare a [.Is] [.Constant .none j pos'] pos) false := ⟨fun B G H σ hB hg l Q q =>
  wt (pt_cmp (pc_isN pe) rfl) (h B G H σ hB hg l _ fun v G1 H1 g1 r1 => ⟨_, rfl, by
    have e : decide (v = V.non) = false := by
      cases x with
      | inl y => obtain ⟨p, _, _, _, rfl, _⟩ := (show Rp.rep X.K G1 v y from r1); rfl
      | inr y => obtain ⟨p, _, _, _, _, rfl, _⟩ := (show Rp.rep X.K G1 v y from r1); rfl
    rw [e]; exact q G1 H1 g1⟩)⟩
/-- t[k][c] op= e of one's own pair -/
theorem sv_augP2 (i : Nat) {w : T2 (List Int) (List Int)} {r c y : Int} {e1 e2 e3 : Expr} {f : Int → Int → Int} (hp : PS X st (tAugS (tOp (rIxT X.K) (tVar i) (WE X e1)) (WE X e2) (WE X e3) (rGetL X.K) (ipI f) rSetL)) (h0 : Γ[i]? = some (.o (MP.mk w))) (h1 : EV X Γ e1 r) (h2 : EV X Γ e2 c) (h3 : EV X Γ e3 y)
    (hr : 0 ≤ r ∧ r < 2) (hc : 0 ≤ c ∧ c < ((w.list.getD r.toNat []).length : Int)) : SV X Γ st (.nx (Γ.set i (.o (MP.mk (putP w r ((w.list.getD r.toNat []).set c.toNat (f ((w.list.getD r.toNat []).getD c.toNat 0) y))))))) := ⟨fun B G H σ D hB hg l k => by
  obtain ⟨F, v, lf, ev, hf, t, p, q, us, vs, rfl, hF, ht, hn, hh1, hh2, r1, r2⟩ := own_at l h0
  have hp1 := hf p (by rw [hF]; simp)
  have hq1 := hf q (by rw [hF]; simp)
  refine ws hp ⟨_, ev, h1 B G H σ hB hg l _ fun v1 G1 H1 g1 rv1 => ?_⟩
  have ht1 : SqT X.K H1 t [.ref p, .ref q] := seqT (g1.g.trans g1.gh) ht
  have hr' : r = 0 ∨ r = 1 := by omega
  rcases hr' with rfl | rfl
  · refine ⟨t, _, 0, .ref p, rfl, rv1, ht1, rfl, ?_⟩
    refine h2 B G1 H1 σ (hB.trans g1.h) g1.gh (l.grow g1) _ fun v2 G2 H2 g2 rv2 => ?_
    have g12 := g1.trans g2
    have hc2 : c < (w.a.length : Int) := hc.2
    have hx : w.a[c.toNat]? = some (w.a.getD c.toNat 0) := by
      have h : c.toNat < w.a.length := by omega
      rw [List.getD_eq_getElem?_getD, List.getElem?_eq_getElem h]; rfl
    obtain ⟨z, hz, rz⟩ := paired_get2 r1 c.toNat _ hx
    refine ⟨p, us, c, z, rfl, rv2, .inl (.inl (g12.h _ _ hh1)), hc.1, hz, ?_⟩
    refine h3 B G2 H2 σ (hB.trans g12.h) g2.gh (l.grow g12) _ fun v3 G3 H3 g3 rv3 => ?_
    have g := g12.trans g3
    have n1 := g.h _ _ hh1
    have n2 := g.h _ _ hh2
    have hP2 : G3 p = none := (g.fr p _ hh1).trans hp1.2.1
    have hQ2 : G3 q = none := (g.fr q _ hh2).trans hq1.2.1
    refine ⟨_, y, rz, rv3, p, us, c, c.toNat, rfl, rv2, n1, ?_, ?_⟩
    · have : us.length = w.a.length := r1.len
      unfold ixN
      rw [if_pos hc.1, if_pos (by omega)]
    · refine k G3 _ ((g.step hB).trans (Stp.mutL (hB.trans g.h) g.gh hp1.1 hP2)) σ ?_
      refine (lf.grow g).mut (fp := [p, q]) (d' := ot (MP.mk (putP w 0 (w.a.set c.toNat (f (w.a.getD c.toNat 0) y))))) h0 ev (fun a ha o e => by rw [upd_ne (fun z => ha (by rw [hF, z]; simp))]; exact e) (fun a ha => ?_) ⟨t, p, q, _, vs, rfl, rfl, seqT g.g ht, hn, upd_same, by rw [upd_ne (Ne.symm hn)]; exact n2, paired_set (R := Rp.rep X.K G3) (x := V.int (f (w.a.getD c.toNat 0) y)) (y := f (w.a.getD c.toNat 0) y) rfl _ (r1.mono g.g), r2.mono g.g⟩
      have : a = p ∨ a = q := by simpa using ha
      rcases this with rfl | rfl
      · exact ⟨.inl (by rw [hF]; simp), hp1.1, hP2, _, upd_same⟩
      · exact ⟨.inl (by rw [hF]; simp), hq1.1, hQ2, _, by rw [upd_ne (Ne.symm hn)]; exact n2⟩
  · refine ⟨t, _, 1, .ref q, rfl, rv1, ht1, rfl, ?_⟩
    refine h2 B G1 H1 σ (hB.trans g1.h) g1.gh (l.grow g1) _ fun v2 G2 H2 g2 rv2 => ?_
    have g12 := g1.trans g2
    have hc2 : c < (w.b.length : Int) := hc.2
    have hx : w.b[c.toNat]? = some (w.b.getD c.toNat 0) := by
      have h : c.toNat < w.b.length := by omega
      rw [List.getD_eq_getElem?_getD, List.getElem?_eq_getElem h]; rfl
    obtain ⟨z, hz, rz⟩ := paired_get2 r2 c.toNat _ hx
    refine ⟨q, vs, c, z, rfl, rv2, .inl (.inl (g12.h _ _ hh2)), hc.1, hz, ?_⟩
    refine h3 B G2 H2 σ (hB.trans g12.h) g2.gh (l.grow g12) _ fun v3 G3 H3 g3 rv3 => ?_
    have g := g12.trans g3
    have n1 := g.h _ _ hh1
    have n2 := g.h _ _ hh2
    have hP2 : G3 p = none := (g.fr p _ hh1).trans hp1.2.1
    have hQ2 : G3 q = none := (g.fr q _ hh2).trans hq1.2.1
    refine ⟨_, y, rz, rv3, q, vs, c, c.toNat, rfl, rv2, n2, ?_, ?_⟩
    · have : vs.length = w.b.length := r2.len
      unfold ixN
      rw [if_pos hc.1, if_pos (by omega)]
    · refine k G3 _ ((g.step hB).trans (Stp.mutL (hB.trans g.h) g.gh hq1.1 hQ2)) σ ?_
      refine (lf.grow g).mut (fp := [p, q]) (d' := ot (MP.mk (putP w 1 (w.b.set c.toNat (f (w.b.getD c.toNat 0) y))))) h0 ev (fun a ha o e => by rw [upd_ne (fun z => ha (by rw [hF, z]; simp))]; exact e) (fun a ha => ?_) ⟨t, p, q, us, _, rfl, rfl, seqT g.g ht, hn, by rw [upd_ne hn]; exact n1, upd_same, r1.mono g.g, paired_set (R := Rp.rep X.K G3) (x := V.int (f (w.b.getD c.toNat 0) y)) (y := f (w.b.getD c.toNat 0) y) rfl _ (r2.mono g.g)⟩
      have : a = p ∨ a = q := by simpa using ha
      rcases this with rfl | rfl
      · exact ⟨.inl (by rw [hF]; simp), hp1.1, hP2, _, by rw [upd_ne hn]; exact n1⟩
      · exact ⟨.inl (by rw [hF]; simp), hq1.1, hQ2, _, upd_same⟩⟩
end
/-- all three made longer by a 1 -/
def appF3 (y : T4B) : T4B := ⟨y.a, ⟨y.b.a ++ [1], y.b.b ++ [1]⟩, y.c, y.d ++ [1]⟩
theorem appF_all (y : T4B) {p q r : Addr} (n1 : p ≠ q) (n2 : p ≠ r) (n3 : q ≠ r) : [Rf.mk p, Rf.mk q, Rf.mk r].foldl (appF p q 1) y = appF3 y := by
  have e1 : ∀ s, appF p q 1 s (Rf.mk p) = ⟨s.a, ⟨s.b.a ++ [1], s.b.b⟩, s.c, s.d⟩ := fun s => by unfold appF; rw [if_pos rfl]
  have e2 : ∀ s, appF p q 1 s (Rf.mk q) = ⟨s.a, ⟨s.b.a, s.b.b ++ [1]⟩, s.c, s.d⟩ := fun s => by unfold appF; rw [if_neg (Ne.symm n1), if_pos rfl]
  have e3 : ∀ s, appF p q 1 s (Rf.mk r) = ⟨s.a, s.b, s.c, s.d ++ [1]⟩ := fun s => by unfold appF; rw [if_neg (Ne.symm n2), if_neg (Ne.symm n3)]
  rw [List.foldl_cons, List.foldl_cons, List.foldl_cons, List.foldl_nil, e1, e2, e3]
  rfl
def LenF (y : T4B) (n : Nat) (s : T4B) : Prop := s.b.a.length ≤ y.b.a.length + n ∧ s.b.b.length ≤ y.b.b.length + n ∧ s.d.length ≤ y.d.length + n
theorem lenF_0 (y : T4B) : LenF y ([] : List Rf).length y := ⟨Nat.le_refl _, Nat.le_refl _, Nat.le_refl _⟩
theorem lenF_step {y s : T4B} {pre : List Rf} {x : Rf} {p q : Addr} (h : LenF y pre.length s) : LenF y (pre ++ [x]).length (appF p q 1 s x) := by
  unfold LenF appF at *
  rw [List.length_append, List.length_singleton]
  by_cases h1 : x.p = p
  · rw [if_pos h1]
    dsimp only
    rw [List.length_append, List.length_singleton]
    omega
  · rw [if_neg h1]
    by_cases h2 : x.p = q
    · rw [if_pos h2]
      dsimp only
      rw [List.length_append, List.length_singleton]
      omega
    · rw [if_neg h2]
      dsimp only
      rw [List.length_append, List.length_singleton]
      omega
theorem lenF_few {y s : T4B} {n : Nat} (h : LenF y n s) (hy : y.b.a.length ≤ 9000000 ∧ y.b.b.length ≤ 9000000 ∧ y.d.length ≤ 9000000) (hn : n ≤ 3) : s.b.a.length < 10000000 ∧ s.b.b.length < 10000000 ∧ s.d.length < 10000000 := by
  unfold LenF at h
  omega
/-- op= at a place of a pair of lists -/
def augP (w : T2 (List Int) (List Int)) (r c : Int) (f : Int → Int → Int) (y : Int) : T2 (List Int) (List Int) := putP w r ((w.list.getD r.toNat []).set c.toNat (f ((w.list.getD r.toNat []).getD c.toNat 0) y))
end Wl

set_option maxRecDepth 100000
set_option maxHeartbeats 2000000
/-! own dicts with pairs of ints as keys -/
namespace Wl
open PySem PySem.Spec PyProof.Rows L2
/-! ### pairs of ints, as tuples known for good -/
structure KT2 where
  a : Int
  b : Int
deriving DecidableEq
def KT2.ks (k : KT2) : List Int := [k.a, k.b]
theorem KT2.inj {k l : KT2} (h : k.ks = l.ks) : k = l := by
  cases k; cases l
  simpa [KT2.ks] using h
instance : Rp KT2 := ⟨fun K G v x => ∃ p, v = .ref p ∧ G p = some (.tup (x.ks.map V.int)), fun e h => by obtain ⟨p, h0, h1⟩ := h; exact ⟨p, h0, e _ _ h1⟩⟩
/-! ### lists of pairs as dicts -/
section
variable {κ β : Type} [DecidableEq κ]
def dputG (kvs : List (κ × β)) (k : κ) (v : β) : List (κ × β) := if (kvs.any fun p => decide (p.1 = k)) = true then kvs.map (fun p => if p.1 = k then (p.1, v) else p) else kvs ++ [(k, v)]
def dgetG (kvs : List (κ × β)) (k : κ) : Option β := (kvs.find? fun p => decide (p.1 = k)).map (·.2)
end
structure MDK (β : Type) where
  kvs : List (KT2 × β)
structure DVK (β : Type) where
  kvs : List (KT2 × β)
def DRepK {β : Type} [Rp β] (K : PySem.W.Frag) (G : Hp) (ws : List (List Key × V)) (kvs : List (KT2 × β)) : Prop := Paired (fun w y => w.1 = kT y.1.ks ∧ Rp.rep K G w.2 y.2) ws kvs
theorem DRepK.mono {β : Type} [Rp β] {K : PySem.W.Frag} {G G' : Hp} {ws : List (List Key × V)} {kvs : List (KT2 × β)} (e : Same G G') (h : DRepK K G ws kvs) : DRepK K G' ws kvs := Paired.mapP h fun _ _ r => ⟨r.1, Rp.mono e r.2⟩
instance {β : Type} [Rp β] : Ow (MDK β) := ⟨fun K G H v fp x => ∃ p ws, v = .ref p ∧ fp = [p] ∧ H p = some (.dT ws) ∧ DRepK K G ws x.kvs, fun e eh h => by obtain ⟨p, ws, h0, h1, h2, hr⟩ := h; exact ⟨p, ws, h0, h1, by rw [eh p (by rw [h1]; simp)]; exact h2, hr.mono e⟩, fun h => by obtain ⟨p, vs, _, rfl, h2, _⟩ := h; exact nt_one h2 nt_dT⟩
instance {β : Type} [Rp β] : Rp (DVK β) := ⟨fun K G v x => ∃ p ws, v = .ref p ∧ Rd G p (.dT ws) ∧ DRepK K G ws x.kvs, fun e h => by
  obtain ⟨p, ws, h0, h1, hr⟩ := h
  exact ⟨p, ws, h0, rdMono e h1, hr.mono e⟩⟩
instance {β : Type} [Rp β] : Fz (MDK β) (DVK β) := ⟨fun x => ⟨x.kvs⟩, fun {K G H v fp x} hf h => by
  obtain ⟨p, ws, rfl, rfl, h2, r⟩ := h
  exact ⟨p, ws, rfl, .inl (by rw [gl_in (by simp)]; exact h2), r.mono (gl_up hf)⟩⟩
theorem kK_inj {a b : KT2} (h : kT a.ks = kT b.ks) : a = b := KT2.inj (kT_inj h)
theorem kK_dec (a b : KT2) : decide (kT a.ks = kT b.ks) = decide (a = b) := by
  by_cases h : a = b
  · subst h; simp
  · rw [decide_eq_false h, decide_eq_false fun e => h (kK_inj e)]
section
variable {β : Type} [Rp β] {K : PySem.W.Frag} {G : Hp} {ws : List (List Key × V)} {kvs : List (KT2 × β)}
theorem DRepK.any (h : DRepK K G ws kvs) (k : KT2) : (ws.any fun w => decide (w.1 = kT k.ks)) = kvs.any fun p => decide (p.1 = k) := by
  unfold DRepK at h
  induction h with
  | nil => rfl
  | cons r t ih => rw [List.any_cons, List.any_cons, ih, r.1, kK_dec]
theorem DRepK.get (h : DRepK K G ws kvs) (k : KT2) : match dgetG kvs k with
    | none => valV ws (kT k.ks) = none
    | some y => ∃ v, valV ws (kT k.ks) = some v ∧ Rp.rep K G v y := by
  unfold DRepK at h
  induction h with
  | nil => rfl
  | @cons w y ws kvs r t ih =>
    unfold dgetG valV at *
    rw [List.find?_cons, List.find?_cons, r.1, kK_dec]
    by_cases e : y.1 = k
    · rw [decide_eq_true e]; exact ⟨_, rfl, r.2⟩
    · rw [decide_eq_false e]; exact ih
theorem DRepK.put (h : DRepK K G ws kvs) (k : KT2) {v : V} {y : β} (r : Rp.rep K G v y) : DRepK K G (putK ws (kT k.ks) v) (dputG kvs k y) := by
  unfold putK dputG
  rw [h.any k]
  split
  · rename_i hh
    clear hh
    unfold DRepK at *
    induction h with
    | nil => exact .nil
    | @cons w z ws kvs q t ih =>
      refine .cons ?_ ih
      dsimp only
      by_cases e : z.1 = k
      · rw [if_pos e, if_pos (by rw [q.1, e])]; exact ⟨q.1, r⟩
      · rw [if_neg e, if_neg (by rw [q.1]; exact fun z => e (kK_inj z))]; exact q
  · exact paired_app h (.cons ⟨rfl, r⟩ .nil)
theorem DRepK.len (h : DRepK K G ws kvs) : ws.length = kvs.length := Paired.length h
theorem DRepK.keys (h : DRepK K G ws kvs) : ws.map (·.1) = (kvs.map (·.1.ks)).map kT := by
  unfold DRepK at h
  induction h with
  | nil => rfl
  | cons r t ih => rw [List.map_cons, List.map_cons, List.map_cons, ih, r.1]
end
/-! ### sorted(d) -/
section
variable {X : Cx}
theorem cr_sortedDT (hcalm : X.calm = true) {d : Nat} (hd1 : 1 ≤ d) : CallR X (.builtin "sorted") (fun xs H Q => ∃ (a : Addr) (kvs : List (List Key × V)) (ks : List (List Int)), xs = [.ref a] ∧ Rd H a (.dT kvs) ∧ kvs.map (·.1) = ks.map kT ∧ (∀ k ∈ ks, k.length = d) ∧
    ∀ (ys : List (List Int)) (bs : List Addr) (p : Addr), ys.Perm ks → ys.Pairwise (fun x y => lexL y x = false) → Paired (fun b k => H b = some (.tup (k.map V.int))) bs ys → H p = none → Q (.ref p) (upd H p (.lst (bs.map V.ref)))) := by
  intro pins s σ H xs us Q I r q
  obtain ⟨a, kvs, ks, ex, hd, hks, hlen, q⟩ := q
  subst ex
  obtain ⟨u, eu, rx⟩ := vals1 r
  subst eu
  cases rx
  obtain ⟨z, lo, zs, rel, o, es, ep, ho, hx, hdt, hes, _, _⟩ := dt_rd I.hok hd
  have hse : es.size = kvs.length := by
    rw [← Array.length_toList, hes, List.length_map]
    exact (Paired.length rel).symm
  have h16 : es.size ≤ sizeLine := by rw [hse]; exact z
  refine Calls.call_function_entry kind_sorted plain_sorted entry_sorted (args_sorted1 _) ?_
  unfold Builtin.«sorted»
  refine wpAny_bind (m := checkCount "sorted" 1 1 _) (wpAny_pure ?_)
  refine wpAny_bind (PySem.W.kdu_collect (A := X.A.in1) (kdl_raw lo hx hdt) (I.ok.hd hcalm) ho h16 fun h' tk acc hk hacc => ?_)
  have I1 : Inv X pins σ H { s with heap := h', toks := tk } := I.kept hk
  -- what was met: the keys' tuples, in the dict's order
  have hal : acc.toList.length = es.size := by rw [Array.length_toList]; exact hacc.1
  have hP : Paired (fun (v : Value) (k : List Int) => ∃ b, v = .ref b ∧ H b = some (.tup (k.map V.int))) acc.toList ks := by
    have key : ∀ {kvs : List (List Key × V)} {zs : List (List Key × Addr × Value)} {ks : List (List Int)} {vs : List Value}, KT H kvs zs → kvs.map (·.1) = ks.map kT → vs = zs.map (fun x => Value.ref x.2.1) → Paired (fun (v : Value) (k : List Int) => ∃ b, v = .ref b ∧ H b = some (.tup (k.map V.int))) vs ks := by
      intro kvs zs ks vs rel
      induction rel generalizing ks vs with
      | nil =>
        intro e1 e2
        cases ks with
        | nil => subst e2; exact .nil
        | cons _ _ => cases e1
      | @cons p q ps qs hq t ih =>
        intro e1 e2
        cases ks with
        | nil => cases e1
        | cons k ks =>
          rw [List.map_cons, List.map_cons] at e1
          injection e1 with e3 e4
          subst e2
          refine .cons ⟨_, rfl, ?_⟩ (ih e4 rfl)
          rw [hq.2.1, e3, kT_val]
    refine key rel hks ?_
    have e1 : acc.toList = es.toList.map (·.key) := by
      apply List.ext_getElem?
      intro i
      rw [List.getElem?_map]
      cases hi : acc.toList[i]? with
      | none =>
        have : es.toList.length ≤ i := by
          rw [Array.length_toList, ← hal]
          exact List.getElem?_eq_none_iff.mp hi
        rw [List.getElem?_eq_none this]
        rfl
      | some v =>
        obtain ⟨en, e2, e3⟩ := hacc.2 i v (by rw [← Array.getElem?_toList]; exact hi)
        rw [Array.getElem?_toList, e2, e3]
        rfl
    rw [e1, hes, List.map_map]
    rfl
  have hT : TupsD h' d acc.toList := fun v hv => by
    obtain ⟨i, hi⟩ := List.mem_iff_getElem?.mp hv
    obtain ⟨k, hk2, b, rfl, hb⟩ := paired_get hP i v hi
    exact ⟨k, tupI_raw I1 (SqT.of hb), hlen k (List.mem_of_getElem? hk2)⟩
  have hz : acc.toList.length ≤ sizeLine := by rw [hal]; exact h16
  refine wpAny_bind (wpAny_newList ?_ hz)
  have hoL : (h'.push (seqObj "list" acc.toList.toArray 0)).get? h'.objs.size = some (seqObj "list" acc.toList.toArray 0) := Heap.get?_push_size _ rfl
  show wpAny _ _ _ _ _ { s with heap := h'.push (seqObj "list" acc.toList.toArray 0), toks := tk }
  have hT2 : TupsD (h'.push (seqObj "list" acc.toList.toArray 0)) d acc.toList := hT.keeps fun b o e _ => Heap.get?_push_of_some _ e
  refine wpAny_bind (wpAny_holding (wpAny_call_entry PyProof.Rows.slot_list_sort ⟨_, hoL, rfl⟩ PyProof.Rows.entry_list_sort ?_ (PyProof.Rows.args_list_sort _)))
  refine SrtO.list_sort_ord (ltv := fun v u => lexL (TS.intsOf (h'.push (seqObj "list" acc.toList.toArray 0)) v) (TS.intsOf (h'.push (seqObj "list" acc.toList.toArray 0)) u)) ⟨fun x y h => lexL_asym _ _ h, fun x y z h1 h2 => lexL_tr _ _ _ h1 h2⟩ hoL hz (fun h2 => tupD_sortable hd1 (by omega) hT2 (fun o e => by
    have e' : some o = some (seqObj "list" acc.toList.toArray 0) := e.symm.trans hoL
    cases e'
    intro c
    exact absurd (Value.type.inj c) (by decide))) fun out h1 h2 => ⟨_, rfl, ?_⟩
  have hperm : out.Perm acc.toList := h2.perm
  obtain ⟨ys, hy1, hy2⟩ := paired_perm hperm hP
  obtain ⟨bs, hb1, hb2⟩ : ∃ bs : List Addr, out = bs.map Value.ref ∧ Paired (fun b k => H b = some (.tup (k.map V.int))) bs ys := by
    have key : ∀ {out : List Value} {ys : List (List Int)}, Paired (fun (v : Value) (k : List Int) => ∃ b, v = .ref b ∧ H b = some (.tup (k.map V.int))) out ys → ∃ bs : List Addr, out = bs.map Value.ref ∧ Paired (fun b k => H b = some (.tup (k.map V.int))) bs ys := by
      intro out ys h
      induction h with
      | nil => exact ⟨[], rfl, .nil⟩
      | @cons v k vs ks hv t ih =>
        obtain ⟨b, rfl, hb⟩ := hv
        obtain ⟨bs, rfl, hbs⟩ := ih
        exact ⟨b :: bs, rfl, .cons hb hbs⟩
    exact key hy2
  have hord : ys.Pairwise (fun x y => lexL y x = false) := by
    refine paired_pw (P := fun v u => lexL (TS.intsOf (h'.push (seqObj "list" acc.toList.toArray 0)) u) (TS.intsOf (h'.push (seqObj "list" acc.toList.toArray 0)) v) = false) (fun v u k l hv hu huv => ?_) hy2 (h1.imp fun h => h)
    obtain ⟨b, rfl, hb⟩ := hv
    obtain ⟨c, rfl, hc⟩ := hu
    have i1 := ((tupI_raw I1 (SqT.of hb)).keeps (h' := h'.push (seqObj "list" acc.toList.toArray 0)) fun b o e _ => Heap.get?_push_of_some _ e).ints
    have i2 := ((tupI_raw I1 (SqT.of hc)).keeps (h' := h'.push (seqObj "list" acc.toList.toArray 0)) fun b o e _ => Heap.get?_push_of_some _ e).ints
    rw [i1, i2] at huv
    exact huv
  obtain ⟨e', he'⟩ := PyProof.Rows.sortedHeap_at (vs := acc.toList) (out := out.toArray) hoL
  have hlen2 : (bs.map V.ref).length ≤ sizeLine := by
    have := hperm.length_eq
    rw [hb1, List.length_map] at this
    rw [List.length_map, this]
    exact hz
  have hvals : Vals (bs.map V.ref) out := by
    rw [hb1]
    clear hb1 hb2 hlen2
    induction bs with
    | nil => exact .nil
    | cons b bs ih => exact .cons rfl ih
  refine wpAny_pure ⟨_, rfl, .ref h'.objs.size, upd H h'.objs.size (.lst (bs.map V.ref)), I1.laid (t' := tk) (fun b u e => ?_) (Nat.le_refl _) ⟨hlen2, out, e', hvals, he'⟩, rfl, q _ _ _ hy1 hord hb2 (I1.hok.fresh (Nat.le_refl _))⟩
  have hb : b < h'.objs.size := Heap.lt_size e
  rw [PyProof.Rows.sortedHeap_old (Nat.ne_of_lt hb) (by rw [size_push']; exact Nat.lt_succ_of_lt hb)]
  exact Heap.get?_push_of_some _ e
end
/-! ### the tuples that stand are known -/
def tupG (G H : Hp) : Hp := fun a => match H a with
  | some (.tup us) => some (.tup us)
  | _ => G a
theorem tupG_tup {G H : Hp} {a : Addr} {us : List V} (e : H a = some (.tup us)) : tupG G H a = some (.tup us) := by unfold tupG; rw [e]
theorem tupG_nt {G H : Hp} {a : Addr} {o : HO} (e : H a = some o) (n : Nt o) : tupG G H a = G a := by
  unfold tupG
  rw [e]
  cases o with
  | tup us => exact absurd rfl (n us)
  | _ => rfl
theorem grow_tup {G H : Hp} (hg : Same G H) : Grow G H (tupG G H) H := by
  refine ⟨fun a o e => ?_, Same.refl _, fun a o e => ?_, fun a o e n => tupG_nt e n⟩
  · have h := hg a o e
    cases o with
    | tup us => exact tupG_tup h
    | _ => rw [tupG_nt h (fun us z => by cases z)]; exact e
  · unfold tupG at e
    cases h : H a with
    | none => rw [h] at e; exact (hg a o e).symm.trans h |>.symm ▸ rfl
    | some u =>
      rw [h] at e
      cases u with
      | tup us => exact e
      | _ => rw [← h]; exact hg a o e
/-! ### rules -/
def lexK (a b : KT2) : Bool := lexL a.ks b.ks
def sortK (xs : List KT2) : List KT2 := xs.mergeSort fun a b => !lexK b a
theorem sortK_perm (xs : List KT2) : (sortK xs).Perm xs := List.mergeSort_perm _ _
theorem sortK_ord (xs : List KT2) : (sortK xs).Pairwise fun a b => lexK b a = false := by
  have h := List.pairwise_mergeSort (le := fun a b : KT2 => !lexK b a) (fun a b c h1 h2 => by
    have h1 : lexL b.ks a.ks = false := by simpa [lexK] using h1
    have h2 : lexL c.ks b.ks = false := by simpa [lexK] using h2
    show (!lexL c.ks a.ks) = true
    rw [lexL_tr _ _ _ h1 h2]; rfl) (fun a b => by
    show ((!lexL b.ks a.ks) || (!lexL a.ks b.ks)) = true
    cases e : lexL b.ks a.ks with
    | false => rfl
    | true => rw [lexL_asym _ _ e]; rfl) xs
  exact h.imp fun h => by simpa using h
theorem sortK_eq {ys xs : List KT2} (hp : ys.Perm xs) (ho : ys.Pairwise fun a b => lexK b a = false) : ys = sortK xs :=
  (hp.trans (sortK_perm xs).symm).eq_of_pairwise (fun x y _ _ h1 h2 => KT2.inj (lexL_eq _ _ h2 h1)) ho (sortK_ord xs)
instance : TPs KT2 := ⟨fun x => [dt x.a, dt x.b], fun {K G v x} h => by
  obtain ⟨p, h0, hs⟩ := h
  exact ⟨p, _, h0, SqT.of hs, .cons rfl (.cons rfl .nil)⟩⟩
section
variable {X : Cx} {Γ Γ' : List Slot} {st : Stmt} {sts els rest : List Stmt} {a b c d e tg iter elt : Expr} {es elts ifs : List Expr} {pos : Pos} {o : Out}
/-- a new pair as a key -/
theorem ev_tkK {x y : Int} (h : EV X Γ e (TK.mk [x, y])) : EV X Γ e (KT2.mk x y) := ⟨fun B G H σ hB hg l Q q => h B G H σ hB hg l Q fun v G1 H1 g1 r1 => q v G1 H1 g1 r1⟩
/-- a key as a pair -/
theorem ev_kT2 {k : KT2} (h : EV X Γ e k) : EV X Γ e (T2.mk k.a k.b) := ⟨fun B G H σ hB hg l Q q => h B G H σ hB hg l Q fun v G1 H1 g1 r1 => by
  obtain ⟨p, h0, hs⟩ := r1
  exact q v G1 H1 g1 ⟨p, _, _, h0, SqT.of hs, rfl, rfl⟩⟩
theorem en_sortedDK {p : Pos} {β : Type} [Rp β] {kvs : List (KT2 × β)} (hc : X.calm = true) (hm : X.mg "sorted" = none) (ha : EV X Γ a (DVK.mk kvs)) (hg : Gl X "sorted" := by rfl) (he : starEach [a] X.env = (false, eval a X.env) :: starEach [] X.env := by rfl) (hpl : (backTo pos (starEach [] X.env)).any (·.1) = false := by rfl) :
    EN X Γ (.Call (.Name "sorted" p) [a] [] pos) (ML.mk (sortK (kvs.map (·.1)))) := ⟨fun B G H σ hB hgh l Q q =>
  we (pe_callB (cr_sortedDT hc (d := 2) (by decide)) hg hm (by decide +kernel) pa (by decide) (by decide) he hpl) (ea_cons ha ea_nil he B G H σ hB hgh l _ fun vs G1 H1 g1 r1 => by
    cases r1 with
    | cons r1 t =>
      cases t
      obtain ⟨p, ws, rfl, hr, dr⟩ := r1
      refine ⟨p, ws, kvs.map (·.1.ks), rfl, rdMono g1.gh hr, dr.keys, fun k hk => ?_, fun ys bs q0 hperm hord hbs hn => ?_⟩
      · obtain ⟨y, _, rfl⟩ := List.mem_map.mp hk
        rfl
      · obtain ⟨zs, z1, z2⟩ : ∃ zs : List KT2, zs.Perm (kvs.map (·.1)) ∧ Paired (fun (l : List Int) (k : KT2) => l = k.ks) ys zs := by
          refine paired_perm hperm ?_
          have : ∀ l : List (KT2 × β), Paired (fun (l : List Int) (k : KT2) => l = k.ks) (l.map (·.1.ks)) (l.map (·.1)) := fun l => by
            induction l with
            | nil => exact .nil
            | cons x r ih => exact .cons rfl ih
          exact this kvs
        have z3 := paired_pw (Q := fun a b : KT2 => lexK b a = false) (fun x y x' y' r r' h => by rw [r, r'] at h; exact h) z2 hord
        rw [sortK_eq z1 z3] at z2
        have gt := grow_tup g1.gh
        have g2 := g1.trans gt
        refine q (.ref q0) [q0] _ _ (g2.trans (Grow.own gt.gh hn)) (one_new (g1.h.free hn) (gt.gh.free hn)) ⟨q0, _, rfl, rfl, upd_same, ?_⟩
        have key : ∀ {bs : List Addr} {ys : List (List Int)} {zs : List KT2}, Paired (fun b k => H1 b = some (.tup (k.map V.int))) bs ys → Paired (fun (l : List Int) (k : KT2) => l = k.ks) ys zs → Reps X.K (tupG G1 H1) (bs.map V.ref) zs := by
          intro bs ys zs h1
          induction h1 generalizing zs with
          | nil => intro h2; cases h2; exact .nil
          | @cons b k bs ks hb t ih =>
            intro h2
            cases h2 with
            | cons e t2 =>
              subst e
              exact .cons ⟨b, rfl, tupG_tup hb⟩ (ih t2)
        exact key hbs z2)⟩
/-- sorted(d), d an own dict -/
theorem en_sortedOK (i : Nat) {p : Pos} {β : Type} [Rp β] {kvs : List (KT2 × β)} (hc : X.calm = true) (hm : X.mg "sorted" = none) (hv : PE X a (tVar i)) (h0 : Γ[i]? = some (.o (MDK.mk kvs))) (hg : Gl X "sorted" := by rfl) (he : starEach [a] X.env = (false, eval a X.env) :: starEach [] X.env := by rfl) (hpl : (backTo pos (starEach [] X.env)).any (·.1) = false := by rfl) :
    EN X Γ (.Call (.Name "sorted" p) [a] [] pos) (ML.mk (sortK (kvs.map (·.1)))) := ⟨fun B G H σ hB hgh l Q q => by
  obtain ⟨F, v, lf, e1, hf, p, ws, rfl, hF, hh, dr⟩ := own_at l h0
  refine we (pe_callB (cr_sortedDT hc (d := 2) (by decide)) hg hm (by decide +kernel) (pa_cons hv pa_nil he) (by decide) (by decide) he hpl) ⟨_, e1, ?_⟩
  refine ⟨p, ws, kvs.map (·.1.ks), rfl, .inl hh, dr.keys, fun k hk => ?_, fun ys bs q0 hperm hord hbs hn => ?_⟩
  · obtain ⟨y, _, rfl⟩ := List.mem_map.mp hk
    rfl
  · obtain ⟨zs, z1, z2⟩ : ∃ zs : List KT2, zs.Perm (kvs.map (·.1)) ∧ Paired (fun (l : List Int) (k : KT2) => l = k.ks) ys zs := by
      refine paired_perm hperm ?_
      have : ∀ l : List (KT2 × β), Paired (fun (l : List Int) (k : KT2) => l = k.ks) (l.map (·.1.ks)) (l.map (·.1)) := fun l => by
        induction l with
        | nil => exact .nil
        | cons x r ih => exact .cons rfl ih
      exact this kvs
    have z3 := paired_pw (Q := fun a b : KT2 => lexK b a = false) (fun x y x' y' r r' h => by rw [r, r'] at h; exact h) z2 hord
    rw [sortK_eq z1 z3] at z2
    have gt := grow_tup hgh
    refine q (.ref q0) [q0] _ _ (gt.trans (Grow.own gt.gh hn)) (one_new hn (gt.gh.free hn)) ⟨q0, _, rfl, rfl, upd_same, ?_⟩
    have key : ∀ {bs : List Addr} {ys : List (List Int)} {zs : List KT2}, Paired (fun b k => H b = some (.tup (k.map V.int))) bs ys → Paired (fun (l : List Int) (k : KT2) => l = k.ks) ys zs → Reps X.K (tupG G H) (bs.map V.ref) zs := by
      intro bs ys zs h1
      induction h1 generalizing zs with
      | nil => intro h2; cases h2; exact .nil
      | @cons b k bs ks hb t ih =>
        intro h2
        cases h2 with
        | cons e t2 =>
          subst e
          exact .cons ⟨b, rfl, tupG_tup hb⟩ (ih t2)
    exact key hbs z2⟩
theorem dgetG_of {β : Type} {kvs : List (KT2 × β)} {k : KT2} (d : β) (h : (dgetG kvs k).isSome = true) : dgetG kvs k = some ((dgetG kvs k).getD d) := by
  cases e : dgetG kvs k with
  | none => rw [e] at h; cases h
  | some y => rfl
/-- {} -/
theorem en_dK0 {β : Type} [Rp β] : EN X Γ (.Dict [] [] pos) (MDK.mk ([] : List (KT2 × β))) := ⟨fun B G H σ hB hg l Q q =>
  we pe_dnewT fun p hn => q (.ref p) [p] G _ (Grow.own hg hn) (one_new hn (hg.free hn)) ⟨p, [], rfl, rfl, upd_same, .nil⟩⟩
/-- d[k], k there -/
theorem ev_dixK {β : Type} [Rp β] {kvs : List (KT2 × β)} {k : KT2} {y : β} (hu : X.A.units + 64 < cLine) (ha : EV X Γ a (DVK.mk kvs)) (hb : EV X Γ b k) (hy : dgetG kvs k = some y) (hs : NoSl b := by exact fun _ _ => rfl) : EV X Γ (.Subscript a b pos) y := ⟨fun B G H σ hB hg l Q q =>
  we (pe_dget (by omega) pe pe hs) (ha B G H σ hB hg l _ fun v G1 H1 g1 r1 => hb B G1 H1 σ (hB.trans g1.h) g1.gh (l.grow g1) _ fun u G2 H2 g2 r2 => by
    obtain ⟨p, ws, rfl, hr, dr⟩ := Rp.mono g2.g r1
    have h := dr.get k
    rw [hy] at h
    obtain ⟨w, e, rw'⟩ := h
    obtain ⟨bk, rfl, hbk⟩ := r2
    exact ⟨p, w, rfl, by rw [← e]; exact DGet.tr (rdMono g2.gh hr) (g2.gh _ _ hbk), q w G2 H2 (g1.trans g2) rw'⟩)⟩
/-- d[k] = v -/
theorem sv_dputK (i : Nat) {β : Type} [Rp β] {kvs : List (KT2 × β)} {k : KT2} {v : β} {e1 e2 : Expr} (hp : PS X st (sDPut (tVar i) (WE X e1) (WE X e2))) (h0 : Γ[i]? = some (.o (MDK.mk kvs))) (h2 : EV X Γ e2 v) (h1 : EV X Γ e1 k) (hz : kvs.length < 10000000) : SV X Γ st (.nx (Γ.set i (.o (MDK.mk (dputG kvs k v))))) := ⟨fun B G H σ D hB hg l kk => by
  obtain ⟨F, v0, lf, e0, hf, p, ws', rfl, hF, hh, r⟩ := own_at l h0
  refine ws hp (h2 B G H σ hB hg l _ fun x G1 H1 g1 r1 => ⟨_, e0, h1 B G1 H1 σ (hB.trans g1.h) g1.gh (l.grow g1) _ fun y G2 H2 g2 r2 => ?_⟩)
  have g := g1.trans g2
  have hfp := hf p (by rw [hF]; simp)
  have hgp2 := (g.fr p _ hh).trans hfp.2.1
  obtain ⟨bk, rfl, hbk⟩ := r2
  refine ⟨p, _, rfl, DPut.t (k := kT k.ks) (g.h _ _ hh) (by rw [kT_val]; exact g2.gh _ _ hbk) (by rw [r.len]; exact Nat.lt_of_lt_of_le hz (by decide)), ?_⟩
  have hk : ∀ a, a ∉ F i → ∀ o, H2 a = some o → upd H2 p (.dT (putK ws' (kT k.ks) x)) a = some o := fun a ha o e => by rw [upd_ne (by rw [hF] at ha; simpa using ha)]; exact e
  exact kk G2 _ ((g.step hB).trans (Stp.mutL (hB.trans g.h) g.gh hfp.1 hgp2)) σ ((lf.grow g).mut (fp := [p]) (d' := ot (MDK.mk (dputG kvs k v))) h0 e0 hk (fun a ha => by
    have : a = p := by simpa using ha
    subst this
    exact ⟨.inl (by rw [hF]; simp), hfp.1, hgp2, _, upd_same⟩) ⟨p, _, rfl, rfl, upd_same, (r.mono g.g).put k (Rp.mono g2.g r1)⟩)⟩
/-- d[k] op= e, ints -/
theorem sv_augDK (i : Nat) {kvs : List (KT2 × Int)} {k : KT2} {x y : Int} {e1 e3 : Expr} {f : Int → Int → Int} {rd : V → V → Hp → VK → Prop} (hrd : ∀ x y H Q, Q (V.int (f x y)) H → rd (.int x) (.int y) H Q) (hp : PS X st (sDAug (tVar i) (WE X e1) (WE X e3) rd)) (h0 : Γ[i]? = some (.o (MDK.mk kvs))) (h1 : EV X Γ e1 k) (h3 : EV X Γ e3 y) (hk : dgetG kvs k = some x) (hz : kvs.length < 10000000) :
    SV X Γ st (.nx (Γ.set i (.o (MDK.mk (dputG kvs k (f x y)))))) := ⟨fun B G H σ D hB hg l kk => by
  obtain ⟨F, v, lf, ev, hf, p, wz, rfl, hF, hh, r⟩ := own_at l h0
  have hfp := hf p (by rw [hF]; simp)
  refine ws hp ⟨_, ev, h1 B G H σ hB hg l _ fun u G1 H1 g1 r1 => ?_⟩
  have h := r.get k
  rw [hk] at h
  obtain ⟨w, e, rw'⟩ := h
  obtain ⟨bk, rfl, hbk⟩ := r1
  refine ⟨p, w, rfl, by rw [← e]; exact DGet.tr (.inl (g1.h _ _ hh)) (g1.gh _ _ hbk), h3 B G1 H1 σ (hB.trans g1.h) g1.gh (l.grow g1) _ fun v3 G3 H3 g3 r3 => ?_⟩
  have g := g1.trans g3
  have hgp3 := (g.fr p _ hh).trans hfp.2.1
  rw [show w = V.int x from rw', show v3 = V.int y from r3]
  refine hrd x y H3 _ ⟨_, DPut.t (k := kT k.ks) (g.h _ _ hh) (by rw [kT_val]; exact (g3.g.trans g3.gh) _ _ hbk) (by rw [r.len]; exact Nat.lt_of_lt_of_le hz (by decide)), ?_⟩
  have hke : ∀ a, a ∉ F i → ∀ o, H3 a = some o → upd H3 p (.dT (putK wz (kT k.ks) (.int (f x y)))) a = some o := fun a ha o e => by rw [upd_ne (by rw [hF] at ha; simpa using ha)]; exact e
  exact kk G3 _ ((g.step hB).trans (Stp.mutL (hB.trans g.h) g.gh hfp.1 hgp3)) σ ((lf.grow g).mut (fp := [p]) (d' := ot (MDK.mk (dputG kvs k (f x y)))) h0 ev hke (fun a ha => by
    have : a = p := by simpa using ha
    subst this
    exact ⟨.inl (by rw [hF]; simp), hfp.1, hgp3, _, upd_same⟩) ⟨p, _, rfl, rfl, upd_same, (r.mono g.g).put k rfl⟩)⟩
end
/-! ### a pair of such dicts -/
structure MD2 (β : Type) where
  a : List (KT2 × β)
  b : List (KT2 × β)
instance {β : Type} [Rp β] : Ow (MD2 β) := ⟨fun K G H v fp x => ∃ t p q ws vs, v = .ref t ∧ fp = [p, q] ∧ SqT K G t [.ref p, .ref q] ∧ p ≠ q ∧ H p = some (.dT ws) ∧ H q = some (.dT vs) ∧ DRepK K G ws x.a ∧ DRepK K G vs x.b, fun e eh h => by
  obtain ⟨t, p, q, us, vs, h0, h1, ht, hn, h2, h3, r, r'⟩ := h
  subst h1
  exact ⟨t, p, q, us, vs, h0, rfl, seqT e ht, hn, by rw [eh p (by simp)]; exact h2, by rw [eh q (by simp)]; exact h3, r.mono e, r'.mono e⟩, fun h a ha o e => by
  obtain ⟨t, p, q, us, vs, _, rfl, _, _, h2, h3, _⟩ := h
  have ha : a = p ∨ a = q := by simpa using ha
  rcases ha with z | z
  · rw [z, h2] at e; cases e; exact nt_dT
  · rw [z, h3] at e; cases e; exact nt_dT⟩
theorem Lo.base {K : PySem.W.Frag} {B B' G H : Hp} {σ : L2.St} {Γ : List Slot} (l : Lo K B G H σ Γ) (h : ∀ a, (∃ o, H a = some o) → B' a = B a) : Lo K B' G H σ Γ := by
  obtain ⟨F, l⟩ := l
  refine ⟨F, l.len, fun i s e => ?_, l.sep⟩
  obtain ⟨o, h1, h2⟩ := l.ok i s e
  refine ⟨o, h1, ?_⟩
  cases s with
  | any => trivial
  | val d => exact h2
  | own d =>
    obtain ⟨v, e2, hf, ok⟩ := h2
    exact ⟨v, e2, fun a ha => ⟨by rw [h a (hf a ha).2.2]; exact (hf a ha).1, (hf a ha).2.1, (hf a ha).2.2⟩, ok⟩
section
variable {X : Cx} {Γ Γ' : List Slot} {st : Stmt} {sts els rest : List Stmt} {a b c d e tg iter elt : Expr} {es elts ifs : List Expr} {pos : Pos} {o : Out}
/-- x, y = two own dicts -/
theorem sv_asgD2 (i j : Nat) (hij : i ≠ j) {β : Type} [Rp β] {xs ys : List (KT2 × β)} (h : EN X Γ e (MD2.mk xs ys)) (ht : ∀ p q : Rf, TV X Γ tg (T2.mk p q) ((Γ.set i (.v p)).set j (.v q))) (hi : i < Γ.length := by exact Nat.le_of_ble_eq_true rfl) (hj : j < Γ.length := by exact Nat.le_of_ble_eq_true rfl) (hs : swapsWithSole [tg] e pos.line X.env = pure false := by rfl) (hw : swappedStores [tg] e X.env = pure none := by rfl)
    (h1 : (assignEach [tg] X.env).map (·.2) = [assign tg X.env] := by rfl) : SV X Γ (.Assign [tg] e pos) (.nx ((Γ.set i (.o (MDK.mk xs))).set j (.o (MDK.mk ys)))) := ⟨fun B G H σ D hB hg l k =>
  ws (ps_asg pe pg hs hw h1) (h B G H σ hB hg l _ fun v fp G1 H1 g1 hfp ok => by
    obtain ⟨t, p, q, ws, vs, rfl, rfl, htt, hne, h2, h3, r1, r2⟩ := ok
    have fp1 := hfp p (by simp)
    have fp2 := hfp q (by simp)
    have hB1 := hB.trans g1.h
    have lo1 : Lo X.K (fun a => if a = p then H1 p else if a = q then H1 q else B a) G1 H1 σ Γ := (l.base (B' := fun a => if a = p then H1 p else if a = q then H1 q else B a) fun a ⟨o, e⟩ => by
      have n1 : a ≠ p := fun z => by subst z; rw [fp1.1] at e; cases e
      have n2 : a ≠ q := fun z => by subst z; rw [fp2.1] at e; cases e
      show (if a = p then _ else if a = q then _ else B a) = B a
      rw [if_neg n1, if_neg n2]).grow g1
    have hB' : Same (fun a => if a = p then H1 p else if a = q then H1 q else B a) H1 := fun a o e => by
      have e : (if a = p then H1 p else if a = q then H1 q else B a) = some o := e
      by_cases n1 : a = p
      · rw [if_pos n1] at e; rw [n1]; exact e
      · rw [if_neg n1] at e
        by_cases n2 : a = q
        · rw [if_pos n2] at e; rw [n2]; exact e
        · rw [if_neg n2] at e; exact hB1 a o e
    refine ht (Rf.mk p) (Rf.mk q) _ G1 H1 σ (.ref t) hB' g1.gh lo1 ⟨t, _, _, rfl, htt, rfl, rfl⟩ _ fun σ' l' => ?_
    have e1 : ((Γ.set i (.v (Rf.mk p))).set j (.v (Rf.mk q)))[i]? = some (.v (Rf.mk p)) := by rw [List.getElem?_set_ne (Ne.symm hij)]; exact List.getElem?_set_self hi
    have e2 : ((Γ.set i (.v (Rf.mk p))).set j (.v (Rf.mk q)))[j]? = some (.v (Rf.mk q)) := List.getElem?_set_self (by rw [List.length_set]; exact hj)
    obtain ⟨v1, s1, rv1⟩ := l'.val e1
    obtain ⟨v2, s2, rv2⟩ := l'.val e2
    have rv1 : v1 = .ref p := rv1
    have rv2 : v2 = .ref q := rv2
    subst rv1 rv2
    have lo2 := l'.toOwn1 (B' := fun a => if a = q then H1 q else B a) (d := ot (MDK.mk xs)) (fp := [p]) s1 (fun a e => by
      have e : (if a = p then H1 p else if a = q then H1 q else B a) = none := e
      show (if a = q then H1 q else B a) = none
      by_cases n1 : a = p
      · rw [if_pos n1, h2] at e; cases e
      · rw [if_neg n1] at e; exact e) (fun a ha => by
        have : a = p := by simpa using ha
        subst this
        refine ⟨?_, ?_, fp1.2.1, _, h2⟩
        · show (if a = a then H1 a else _) ≠ none
          rw [if_pos rfl, h2]; exact fun z => by cases z
        · show (if a = q then H1 q else B a) = none
          rw [if_neg hne]; exact hB.free fp1.1) ⟨p, ws, rfl, rfl, h2, r1⟩
    have lo3 := lo2.toOwn1 (B' := B) (d := ot (MDK.mk ys)) (fp := [q]) s2 (fun a e => by
      have e : (if a = q then H1 q else B a) = none := e
      by_cases n1 : a = q
      · rw [if_pos n1, h3] at e; cases e
      · rw [if_neg n1] at e; exact e) (fun a ha => by
        have : a = q := by simpa using ha
        subst this
        refine ⟨?_, hB.free fp2.1, fp2.2.1, _, h3⟩
        show (if a = a then H1 a else _) ≠ none
        rw [if_pos rfl, h3]; exact fun z => by cases z) ⟨q, vs, rfl, rfl, h3, r2⟩
    have eΓ : ((((Γ.set i (.v (Rf.mk p))).set j (.v (Rf.mk q))).set i (.own (ot (MDK.mk xs)))).set j (.own (ot (MDK.mk ys)))) = ((Γ.set i (.o (MDK.mk xs))).set j (.o (MDK.mk ys))) := by
      rw [List.set_comm _ _ (Ne.symm hij), List.set_set, List.set_set]
    rw [eΓ] at lo3
    exact k G1 H1 (g1.step hB) σ' lo3)⟩
/-- return (x, y), two own dicts -/
theorem bv_retD2 (i j : Nat) (hij : i ≠ j) {β : Type} [Rp β] {xs ys : List (KT2 × β)} (h0 : Γ[i]? = some (.o (MDK.mk xs))) (h1 : Γ[j]? = some (.o (MDK.mk ys))) (hE : ∀ p q : Rf, EV X ((Γ.set i (.v p)).set j (.v q)) e (T2.mk p q)) :
    BV X Γ (.Return (some e) pos :: sts) (.ro (ot (MD2.mk xs ys))) := bv_out (⟨fun B G H σ D hB hg l k => by
  obtain ⟨F, v, lf, e1, hf, p, us, rfl, hF, hh1, r1⟩ := own_at l h0
  have hp := hf p (by rw [hF]; simp)
  obtain ⟨w, ew, hfj, q, vs, ew2, hFj, hh2, r2⟩ : ∃ w, σ[j]? = some (some w) ∧ (∀ a ∈ F j, B a = none ∧ G a = none ∧ ∃ ho, H a = some ho) ∧ ∃ q vs, w = .ref q ∧ F j = [q] ∧ H q = some (.dT vs) ∧ DRepK X.K G vs ys := by
    obtain ⟨o, a1, v, a2, a3, q, vs, a4, a5, a6, a7⟩ := lf.ok j _ h1
    exact ⟨v, by rw [a1, a2], a3, q, vs, a4, a5, a6, a7⟩
  subst ew2
  have hq := hfj q (by rw [hFj]; simp)
  have hpq : p ≠ q := fun z => lf.sep i j _ _ hij h0 h1 rfl rfl p (by rw [hF]; simp) (by rw [hFj, z]; simp)
  have lo1 := lf.fzS (fs := []) (d' := dt (Rf.mk p)) h0 e1 (fun a ha => by cases ha) (fun a ha => by
    have : a = p := by rw [hF] at ha; simpa using ha
    rw [this]; exact hp.2.1) rfl
  have egl : ∀ G0 : Hp, gl G0 H [] = G0 := fun G0 => by funext a; exact gl_out (by simp)
  rw [egl] at lo1
  have h1' : (Γ.set i (.val (dt (Rf.mk p))))[j]? = some (.o (MDK.mk ys)) := by rw [List.getElem?_set_ne hij]; exact h1
  obtain ⟨F2, v2, lf2, e2, hf2, q2, vs2, rfl, hF2, hh3, r3⟩ := own_at lo1 h1'
  have hq2 := hf2 q2 (by rw [hF2]; simp)
  have lo2 := lf2.fzS (fs := []) (d' := dt (Rf.mk q2)) h1' e2 (fun a ha => by cases ha) (fun a ha => by
    have : a = q2 := by rw [hF2] at ha; simpa using ha
    rw [this]; exact hq2.2.1) rfl
  rw [egl] at lo2
  refine ws (ps_ret pe) (hE (Rf.mk p) (Rf.mk q2) B G H σ hB hg lo2 _ fun v G1 H1 g1 rv => ?_)
  have eq : q2 = q := by rw [ew] at e2; cases e2; rfl
  subst eq
  obtain ⟨t, v1, v2, rfl, ht, k2, k3⟩ := rv
  have k2' : v1 = V.ref p := k2
  have k3' : v2 = V.ref q2 := k3
  subst k2' k3'
  refine k G1 H1 (g1.step hB) (.ref t) [p, q2] (fun a ha => ?_) ⟨t, p, q2, us, vs, rfl, rfl, ht, hpq, g1.h _ _ hh1, g1.h _ _ hh2, r1.mono g1.g, r2.mono g1.g⟩
  have : a = p ∨ a = q2 := by simpa using ha
  rcases this with rfl | rfl
  · exact ⟨hp.1, (g1.fr a _ hh1).trans hp.2.1, _, g1.h _ _ hh1⟩
  · exact ⟨hq.1, (g1.fr a _ hh2).trans hq.2.1, _, g1.h _ _ hh2⟩⟩ : SV X Γ (.Return (some e) pos) _) trivial
end
end Wl

set_option maxRecDepth 100000
set_option maxHeartbeats 2000000
/-! laws of dicts as lists of pairs; what a def's loop keeps -/
namespace Wl
open PySem PySem.Spec PyProof.Rows L2
section
variable {κ β : Type} [DecidableEq κ]
theorem dputG_len (kvs : List (κ × β)) (k : κ) (v : β) : (dputG kvs k v).length ≤ kvs.length + 1 := by
  unfold dputG
  split <;> simp
theorem dputG_all {P : κ × β → Prop} {kvs : List (κ × β)} {k : κ} {v : β} (h : ∀ kv ∈ kvs, P kv) (hk : P (k, v)) : ∀ kv ∈ dputG kvs k v, P kv := by
  unfold dputG
  split
  · intro kv hkv
    obtain ⟨x, hx, rfl⟩ := List.mem_map.mp hkv
    by_cases e : x.1 = k
    · rw [if_pos e, e]; exact hk
    · rw [if_neg e]; exact h x hx
  · intro kv hkv
    rcases List.mem_append.mp hkv with h1 | h1
    · exact h kv h1
    · rw [List.mem_singleton.mp h1]; exact hk
theorem any_key {kvs : List (κ × β)} {k : κ} : (kvs.any fun p => decide (p.1 = k)) = true ↔ k ∈ kvs.map (·.1) := by
  rw [List.any_eq_true, List.mem_map]
  constructor
  · rintro ⟨x, hx, e⟩; exact ⟨x, hx, of_decide_eq_true e⟩
  · rintro ⟨x, hx, e⟩; exact ⟨x, hx, decide_eq_true e⟩
theorem dputG_keys {kvs : List (κ × β)} {k : κ} (h : k ∈ kvs.map (·.1)) (v : β) : (dputG kvs k v).map (·.1) = kvs.map (·.1) := by
  unfold dputG
  rw [if_pos (any_key.mpr h), List.map_map]
  apply List.map_congr_left
  intro x _
  show (if x.1 = k then (x.1, v) else x).1 = x.1
  split <;> rfl
theorem dputG_new {kvs : List (κ × β)} {k : κ} (h : k ∉ kvs.map (·.1)) (v : β) : dputG kvs k v = kvs ++ [(k, v)] := by
  unfold dputG
  rw [if_neg fun z => h (any_key.mp z)]
theorem dgetG_has {kvs : List (κ × β)} {k : κ} (h : k ∈ kvs.map (·.1)) : (dgetG kvs k).isSome = true := by
  unfold dgetG
  obtain ⟨x, hx, e⟩ := List.mem_map.mp h
  cases e2 : kvs.find? fun p => decide (p.1 = k) with
  | none => exact absurd (decide_eq_true e) (by simpa using List.find?_eq_none.mp e2 x hx)
  | some y => rfl
theorem dgetG_mem {kvs : List (κ × β)} {k : κ} {v : β} (h : dgetG kvs k = some v) : (k, v) ∈ kvs := by
  unfold dgetG at h
  cases e2 : kvs.find? fun p => decide (p.1 = k) with
  | none => rw [e2] at h; cases h
  | some y =>
    rw [e2] at h
    have h : y.2 = v := Option.some.inj h
    have h1 := List.mem_of_find?_eq_some e2
    have h2 : y.1 = k := by simpa using List.find?_some e2
    rw [← h, ← h2]
    exact h1
theorem dgetG_in {kvs : List (κ × β)} {k : κ} (d : β) (h : k ∈ kvs.map (·.1)) : (k, (dgetG kvs k).getD d) ∈ kvs := by
  cases e : dgetG kvs k with
  | none => have := dgetG_has h; rw [e] at this; cases this
  | some y => exact dgetG_mem e
/-- a sum over a dict -/
theorem sum_putG (f : κ → Int → Int) {kvs : List (κ × Int)} (hn : (kvs.map (·.1)).Nodup) {k : κ} (h : k ∈ kvs.map (·.1)) (v : Int) : ((dputG kvs k v).map fun x => f x.1 x.2).sum = (kvs.map fun x => f x.1 x.2).sum - f k ((dgetG kvs k).getD 0) + f k v := by
  unfold dputG
  rw [if_pos (any_key.mpr h)]
  induction kvs with
  | nil => cases h
  | cons y r ih =>
    rw [List.map_cons, List.nodup_cons] at hn
    simp only [List.map_cons, List.sum_cons]
    by_cases e : y.1 = k
    · have hr : ∀ x ∈ r, ¬ x.1 = k := fun x hx z => hn.1 (by rw [e, ← z]; exact List.mem_map.mpr ⟨x, hx, rfl⟩)
      have e2 : r.map (fun p => if p.1 = k then (p.1, v) else p) = r := by
        conv => rhs; rw [← List.map_id r]
        apply List.map_congr_left
        intro x hx
        rw [if_neg (hr x hx)]; rfl
      rw [e2, if_pos e]
      have e3 : dgetG (y :: r) k = some y.2 := by unfold dgetG; rw [List.find?_cons, decide_eq_true e]; rfl
      rw [e3]
      show f y.1 v + _ = f y.1 y.2 + _ - f k y.2 + f k v
      rw [e]
      omega
    · rw [if_neg e]
      have hk : k ∈ r.map (·.1) := by
        rcases List.mem_cons.mp h with z | z
        · exact absurd z.symm e
        · exact z
      have e3 : dgetG (y :: r) k = dgetG r k := by unfold dgetG; rw [List.find?_cons, decide_eq_false e]
      rw [e3, ih hn.2 hk]
      omega
end
theorem foldl_keeps {α τ : Type} (P : τ → Prop) (f : τ → α → τ) : ∀ (l : List α) (s : τ), (∀ s, ∀ x ∈ l, P s → P (f s x)) → P s → P (l.foldl f s)
  | [], s, _, h => h
  | x :: r, s, hf, h => foldl_keeps P f r (f s x) (fun s z hz => hf s z (List.mem_cons_of_mem _ hz)) (hf s x (List.mem_cons_self ..) h)
theorem sortK_mem {xs : List KT2} {x : KT2} : x ∈ sortK xs ↔ x ∈ xs := (sortK_perm xs).mem_iff
theorem bit0 (b : Bool) : (0 : Int) ≤ (bif b then (1 : Int) else 0) := by cases b <;> decide
theorem bit1 (b : Bool) : (bif b then (1 : Int) else 0) < 2 := by cases b <;> decide
theorem pick2b (P : Int → Prop) (b : Bool) (x y : Int) (hx : P x) (hy : P y) : P (([x, y] : List Int).getD (bif b then (1 : Int) else 0).toNat 0) := by
  cases b
  · exact hx
  · exact hy
theorem pick2m (P : Int → Prop) (n x y : Int) (hx : P x) (hy : P y) : P (([x, y] : List Int).getD (n % 2).toNat 0) := by
  have h : (n % 2).toNat = 0 ∨ (n % 2).toNat = 1 := by omega
  rcases h with e | e <;> rw [e] <;> assumption
section
variable {X : Cx} {Γ Γ' : List Slot} {sts rest : List Stmt} {c : Expr} {pos : Pos}
/-- an if that leaves, the answers apart -/
theorem bv_ifxV {α : Type} [Rp α] {x : Bool} (a b : α) (h : ET X Γ c x) (h1 : x = true → BV X Γ sts (.rt (dt a))) (h2 : x = false → BV X Γ rest (.rt (dt b))) : BV X Γ (.If c sts [] pos :: rest) (.rt (dt (bif x then a else b))) :=
  bv_ifx (of := fun z => .rt (dt (bif z then a else b))) h (fun e => h1 e) trivial (fun e => h2 e)
end
end Wl

set_option maxRecDepth 100000
set_option maxHeartbeats 2000000
/-! own dicts walked by a statement; keys compared; list(reversed(xs)) -/
namespace Wl
open PySem PySem.Spec PyProof.Rows L2
instance : DEq KT2 := ⟨fun x => .tuple [.int x.a, .int x.b], fun {K G v x} h => by
  obtain ⟨p, rfl, hs⟩ := h
  exact .tup (SqT.of hs) (.cons (.int x.a) (.cons (.int x.b) .nil)), 1, fun _ => True, fun x _ => rfl, fun x => Nat.le_of_ble_eq_true rfl, fun x y => by
  cases x; cases y
  simp [PyData.eqv, PyData.eqvAll]⟩
instance : OkAll KT2 := ⟨fun _ => trivial⟩
/-- an own dict while it is walked -/
structure MLK (β : Type) where
  p : Addr
  od : Obj
  ws : List (List Key × V)
  kvs : List (KT2 × β)
theorem nt_frz {o : Obj} {u : HO} : Nt (.frz o u) := fun _ z => by cases z
instance {β : Type} [Rp β] : Ow (MLK β) := ⟨fun K G H v fp x => v = .ref x.p ∧ fp = [x.p] ∧ H x.p = some (.frz x.od (.dT x.ws)) ∧ DRepK K G x.ws x.kvs, fun e eh h => by
  obtain ⟨h0, h1, h2, hr⟩ := h
  exact ⟨h0, h1, by rw [eh _ (by rw [h1]; simp)]; exact h2, hr.mono e⟩, fun h => by
  obtain ⟨_, rfl, h2, _⟩ := h
  exact nt_one h2 nt_frz⟩
instance {β : Type} [Rp β] : Fz (MLK β) (DVK β) := ⟨fun x => ⟨x.kvs⟩, fun {K G H v fp x} hf h => by
  obtain ⟨rfl, rfl, h2, r⟩ := h
  exact ⟨x.p, x.ws, rfl, .inr ⟨x.od, by rw [gl_in (by simp)]; exact h2⟩, r.mono (gl_up hf)⟩⟩
section
variable {X : Cx} {Γ Γ' : List Slot} {st : Stmt} {sts els rest : List Stmt} {a b c d e tg iter elt : Expr} {es elts ifs : List Expr} {pos : Pos} {o : Out}
/-- for k in d, d an own dict that the body only reads -/
theorem sv_forDK (i : Nat) {β τ : Type} [Rp β] {kvs : List (KT2 × β)} {body : List Stmt} (Env : Slot → τ → List Slot) (s0 : τ) (f : τ → KT2 → τ) (I : List KT2 → τ → Prop) (hv : PE X iter (tVar i)) (h0 : Γ[i]? = some (.o (MDK.mk kvs)))
    (hE0 : ∀ z, Sb (Γ.set i z) (Env z s0)) (hEi : ∀ z s, (Env z s)[i]? = some z) (hEs : ∀ z z' s, (Env z s).set i z' = Env z' s) (Γ1 : Slot → τ → KT2 → List Slot) (ht : ∀ z s x, TV X (Env z s) tg x (Γ1 z s x))
    (i0 : I [] s0) (is : ∀ pre x s, x ∈ kvs.map (·.1) → I pre s → I (pre ++ [x]) (f s x))
    (hb : ∀ p od wz pre x post s, kvs.map (·.1) = pre ++ x :: post → pre.foldl f s0 = s → I pre s → BV X (Γ1 (.o (MLK.mk p od wz kvs)) s x) body (.nx (Env (.o (MLK.mk p od wz kvs)) (f s x)))) (hp : PassesOwn (model X.prog X.w) X.A X.env X.xe) (hc : X.calm = true := by rfl) (hs : ∀ x, foldedSetIterable iter X.env x = pure x := by intro _; rfl) :
    SV X Γ (.For tg iter body [] pos) (.nx (Env (.o (MDK.mk kvs)) ((kvs.map (·.1)).foldl f s0))) := ⟨fun B G H σ D hB hg l k => by
  have inv : ∀ (l pre : List KT2) (s : τ), (∀ x ∈ l, x ∈ kvs.map (·.1)) → I pre s → I (pre ++ l) (l.foldl f s) := by
    intro l
    induction l with
    | nil => intro pre s _ h; rw [List.append_nil]; exact h
    | cons x l ih =>
      intro pre s hm h
      have h2 := ih (pre ++ [x]) (f s x) (fun y hy => hm y (List.mem_cons_of_mem _ hy)) (is pre x s (hm x List.mem_cons_self) h)
      rw [List.append_assoc] at h2
      exact h2
  obtain ⟨F, v, lf, e1, hf, p, wz, rfl, hF, hh, r⟩ := own_at l h0
  have hfp := hf p (by rw [hF]; simp)
  refine ws (ps_lock (ps_for hp hc (pi_keys hv) pg pss hs)) ⟨p, _, hh, trivial, fun od => ?_⟩
  have st0 : Stp B G G (upd H p (.frz od (.dT wz))) := Stp.mutL hB hg hfp.1 hfp.2.1
  have lo1 : Lo X.K B G (upd H p (.frz od (.dT wz))) σ (Γ.set i (.o (MLK.mk p od wz kvs))) := lf.mut (fp := [p]) (d' := ot (MLK.mk p od wz kvs)) h0 e1 (fun a ha o e => by rw [upd_ne (by rw [hF] at ha; simpa using ha)]; exact e) (fun a ha => by
    have : a = p := by simpa using ha
    subst this
    exact ⟨.inl (by rw [hF]; simp), hfp.1, hfp.2.1, _, upd_same⟩) ⟨rfl, rfl, upd_same, r⟩
  have lo2 := lo1.sub (hE0 _)
  have hlen : wz.length = (kvs.map (·.1)).length := by rw [List.length_map]; exact r.len
  refine ⟨_, e1, p, od, rfl, .inr ⟨wz, upd_same, ?_⟩⟩
  refine ⟨fun j m σ' H' => m = (kvs.map (·.1)).length - j ∧ j ≤ (kvs.map (·.1)).length ∧ ∃ s G', ((kvs.map (·.1)).take j).foldl f s0 = s ∧ Stp B G G' H' ∧ Lo X.K B G' H' σ' (Env (.o (MLK.mk p od wz kvs)) s), ⟨(kvs.map (·.1)).length, by simp, Nat.zero_le _, s0, G, rfl, st0, lo2⟩, ?_⟩
  rintro j m σ' H' ⟨rfl, hj, s, G', e, st, lo⟩
  obtain ⟨F2, v2, lf2, e2, hf2, rfl, hF2, hh2, r2⟩ := own_at lo (hEi _ s)
  dsimp only at e2 hF2 hh2
  have hp2 := hf2 p (by rw [hF2]; simp)
  by_cases hlt : j < (kvs.map (·.1)).length
  · refine .inr ⟨⟨hh2, by rw [hlen]; exact hlt⟩, fun σ3 H3 => ∃ s2 G2, ((kvs.map (·.1)).take (j + 1)).foldl f s0 = s2 ∧ Stp B G G2 H3 ∧ Lo X.K B G2 H3 σ3 (Env (.o (MLK.mk p od wz kvs)) s2), fun σ3 H3 ⟨s2, G2, q1, q2, q3⟩ => ⟨(kvs.map (·.1)).length - (j + 1), by omega, rfl, hlt, s2, G2, q1, q2, q3⟩, fun v3 H3 hv3 => ?_⟩
    obtain ⟨rfl, k1, v1, q1, hw1, rfl, hq1⟩ := hv3
    obtain ⟨x, hx⟩ : ∃ x, (kvs.map (·.1))[j]? = some x := ⟨_, List.getElem?_eq_getElem hlt⟩
    have ek : k1 = kT x.ks := by
      have h3 := congrArg (fun l : List (List Key) => l[j]?) r2.keys
      dsimp only at h3
      rw [List.getElem?_map, hw1, List.getElem?_map, show (kvs.map fun x => x.1.ks) = (kvs.map (·.1)).map KT2.ks from by rw [List.map_map]; rfl, List.getElem?_map, hx] at h3
      exact Option.some.inj h3
    subst ek
    rw [kT_val] at hq1
    have gt := grow_tup st.gh
    have st3 := st.trans (gt.step st.b)
    have ex : kvs.map (·.1) = (kvs.map (·.1)).take j ++ x :: (kvs.map (·.1)).drop (j + 1) := by
      have h1 : (kvs.map (·.1))[j] = x := by rw [List.getElem?_eq_getElem hlt] at hx; exact Option.some.inj hx
      rw [← h1, List.getElem_cons_drop, List.take_append_drop]
    refine ht _ s x B _ H3 σ' _ st3.b st3.gh (lo.grow gt) ⟨q1, rfl, tupG_tup hq1⟩ _ fun σ4 l4 => ?_
    have hI : I ((kvs.map (·.1)).take j) s := by
      rw [← e]
      exact inv _ [] s0 (fun y hy => List.mem_of_mem_take hy) i0
    refine hb p od wz _ x _ s ex e hI B _ H3 σ4 _ st3.b st3.gh l4 fun G5 H5 st5 σ6 l6 => ?_
    exact ⟨f s x, G5, by rw [List.take_add_one, hx, Option.toList_some, List.foldl_append, e]; rfl, st3.trans st5, l6⟩
  · have ej : j = (kvs.map (·.1)).length := by omega
    subst ej
    rw [List.take_length] at e
    refine .inl ⟨⟨hh2, by rw [hlen]; exact Nat.le_refl _⟩, hh2, ?_⟩
    have st6 : Stp B G' G' (upd H' p (.dT wz)) := Stp.mutL st.b st.gh hp2.1 hp2.2.1
    have lo6 := lf2.mut (H' := upd H' p (.dT wz)) (fp := [p]) (d' := ot (MDK.mk kvs)) (hEi _ s) e2 (fun a ha o e => by rw [upd_ne (by rw [hF2] at ha; simpa using ha)]; exact e) (fun a ha => by
      have : a = p := by simpa using ha
      subst this
      exact ⟨.inl (by rw [hF2]; simp), hp2.1, hp2.2.1, _, upd_same⟩) ⟨p, wz, rfl, rfl, upd_same, r2⟩
    have q := k G' _ (st.trans st6) σ'
    rw [e] at q
    refine q ?_
    have eE : (Env (.o (MLK.mk p od wz kvs)) s).set i (.own (ot (MDK.mk kvs))) = Env (.o (MDK.mk kvs)) s := hEs _ _ _
    rw [eE] at lo6
    exact lo6⟩
end
/-! ### list(reversed(xs)) -/
section
open PySem.Calls PyProof.V PySem.W
variable {prog : Program} {w : World} {A : Around} {E : Value → Shared → Prop} {s : Shared}
/-- an empty list at S takes over what the iterator of a list, from its end on, still has -/
theorem extend_rev {it l S : Addr} {items : Array Value} {c₀ : Nat} {R : Result → Shared → Prop} (hh : A.handled = none) (hit : s.heap.IsRevIter it l ((items.size : Int) - 1)) (hl : s.heap.IsList l items) (hne : l ≠ it) (hn : items.size ≤ sizeLine) (hSi : S ≠ it) (hSl : S ≠ l) (hS : s.heap.get? S = some { cls := .type "list", data := .seq #[] c₀ })
    (hR : ∀ (h' : Heap) (tk : Nat) (acc : Array Value) (c : Nat), (∀ b o, b ≠ it → b ≠ S → s.heap.get? b = some o → h'.get? b = some o) → h'.get? S = some { cls := .type "list", dict := none, data := .seq acc c, slots := #[] } → ItemsOf (fun i v => items[items.size - 1 - i]? = some v) acc items.size → R (.ok (.ret .none)) { s with heap := h', toks := tk }) :
    wpAny (model prog w) A.in1 (Builtin.List.listExtendWith (.ref S) (.ref it) .none)
      (fun fin s' => match fin with | .done f => R (.ok f) s' | .again c' => c'.quiet = true ∧ codeAny (model prog w) A c' R s') (fun e s' => R (.error e) s') s := by
  have W := (Walks.listRev (prog := prog) (w := w) (A := A.in1) hh it l hne items).toS
  have far : S ∉ [it, l] := by simp [hSi, hSl]
  have hT : s.TypeIs (.ref it) "list_reverseiterator" := hit.typeIs
  have other : Builtin.List.listSameRef (.ref S) (.ref it) = false := by simp [Builtin.List.listSameRef, hSi]
  unfold Builtin.List.listExtendWith
  refine wpAny_bind (wpAny_typeOf hT ?_)
  rw [if_neg (by rw [other]; decide)]
  refine wpAny_bind (wpAny_pyIter_revIter hit ?_)
  refine wpAny_bind (wpAny_holding ?_)
  unfold Builtin.List.listLengthHint
  refine wpAny_bind (wpAny_specialOf hT RT.nolen_lri ?_)
  refine wpAny_bind (wpAny_specialOf hT RT.hint_lri ?_)
  generalize hid : ("list_reverseiterator.__length_hint__" : String) = id0
  wp_delta
  rw [show splitId id0 = some ("list_reverseiterator", "__length_hint__") from by subst hid; decide +kernel]
  subst hid
  refine wpAny_bind (wpAny_isInstance (b := true) hT (by rw [isSubtype_type]; kernel_rfl) ?_)
  refine wpAny_pure ?_
  rw [if_neg (by decide)]
  have e0 : ((items.size : Nat) : Int) - 1 - ((0 : Nat) : Int) = (items.size : Int) - 1 := by omega
  refine wpAny_pure ⟨plainId_quiet F.plain_extend_loop _, codeAny_extend_loopS W hn S far .none items.size 0 _ #[] c₀ rfl (Nat.zero_le _) ⟨Nat.zero_le _, by rw [e0]; exact hit, hl⟩ hS (ItemsOf.nil _) fun s' acc' c' hm hS' hacc => ?_⟩
  rw [Moved.eq_with hm]
  refine hR s'.heap s'.toks acc' c' (fun b o h1 h2 e => hm.heap b o (fun hmem => ?_) e) hS' hacc
  have : b = S ∨ b = it := by simpa using hmem
  rcases this with z | z
  · exact h2 z
  · exact h1 z
theorem call_list_rev {it l : Addr} {items : Array Value} {Q : Value → Shared → Prop} (hh : A.handled = none) (hit : s.heap.IsRevIter it l ((items.size : Int) - 1)) (hl : s.heap.IsList l items) (hne : l ≠ it) (hn : items.size ≤ sizeLine)
    (hQ : ∀ (h' : Heap) (tk : Nat) (acc : Array Value) (c : Nat), (∀ b o, b ≠ it → s.heap.get? b = some o → h'.get? b = some o) → h'.get? s.heap.objs.size = some { cls := .type "list", dict := none, data := .seq acc c, slots := #[] } → ItemsOf (fun i v => items[items.size - 1 - i]? = some v) acc items.size → Q (.ref s.heap.objs.size) { s with heap := h', toks := tk }) :
    wpAny (model prog w) A (call (.type "list") [.ref it]) Q E s := by
  refine callType_codes (Q₁ := fun obj s₁ => obj = .ref s.heap.objs.size ∧ s₁ = { s with heap := s.heap.push { cls := .type "list", data := .seq #[] } }) PySem.F.called_list (PySem.F.typeCall_list_1 _) PySem.F.entry_list_init
    (code_list_new _ ⟨rfl, rfl⟩) fun obj s₁ h₁ => ?_
  obtain ⟨rfl, rfl⟩ := h₁
  have hS : (s.heap.push { cls := .type "list", data := .seq #[] }).get? s.heap.objs.size = some { cls := .type "list", data := .seq #[] } := Heap.get?_push_size _ rfl
  obtain ⟨oi, hoi, _⟩ := id hit
  obtain ⟨ol, hol, _⟩ := id hl
  have n1 : s.heap.objs.size ≠ it := Nat.ne_of_gt (Heap.lt_size hoi)
  have n2 : s.heap.objs.size ≠ l := Nat.ne_of_gt (Heap.lt_size hol)
  refine ⟨⟨_, hS, rfl⟩, PySem.F.args_list_init_2 _ _, ?_⟩
  show wpAny _ _ (do let old ← Builtin.List.listItems (.ref s.heap.objs.size); Builtin.List.listUpdate (.ref s.heap.objs.size) (fun _ => #[]); letGo old.toList.reverse; Builtin.List.listExtendWith (.ref s.heap.objs.size) (.ref it) .none) _ _ _
  refine wpAny_bind ?_
  unfold Builtin.List.listItems
  refine wpAny_bind (wpAny_seqItems hS rfl (wpAny_pure ?_))
  show wpAny _ _ (updateSeq s.heap.objs.size (fun _ => #[]) >>= fun _ => letGo (#[] : Array Value).toList.reverse >>= fun _ => Builtin.List.listExtendWith (.ref s.heap.objs.size) (.ref it) .none) _ _ _
  refine wpAny_bind (wpAny_updateSeq hS rfl ?_)
  have hS2 := Heap.get?_update_self (Obj.mapSeq (fun _ => (#[] : Array Value))) hS rfl
  have keep : ∀ b o, s.heap.get? b = some o → ((s.heap.push { cls := .type "list", data := .seq #[] }).update s.heap.objs.size (Obj.mapSeq (fun _ => (#[] : Array Value)))).get? b = some o :=
    fun b o e => (Heap.get?_update_other _ _ (Ne.symm (Nat.ne_of_lt (Heap.lt_size e)))).trans (Heap.get?_push_of_some _ e)
  refine wpAny_bind (wpAny_letGo ?_)
  refine extend_rev (A := A.in1) hh (hit.at fun o e => keep _ _ e) (let ⟨o, ho, r⟩ := hl; ⟨o, keep _ _ ho, r⟩) hne hn n1 n2 hS2 fun h' tk acc c hk hS' hacc => ?_
  exact ⟨rfl, hQ h' tk acc c (fun b o h1 e => hk b o h1 (Nat.ne_of_lt (Heap.lt_size e)) (keep _ _ e)) hS' hacc⟩
end
section
variable {X : Cx}
def tLstRev (K : PySem.W.Frag) (te : TE) : TE := fun σ H Q => te σ H fun v H1 => ∃ (a : Addr) (xs : List V), v = .ref a ∧ SqL K H1 a xs ∧ ∀ p, H1 p = none → Q (.ref p) (upd H1 p (.lst xs.reverse))
theorem pe_lstRev {e : Expr} {te : TE} {p p2 pos pos2 : Pos} (hc : X.calm = true) (hg : Gl X "list") (hm : X.mg "list" = none) (hg2 : Gl X "reversed") (hm2 : X.mg "reversed" = none) (he : PE X e te)
    (hs : starEach [e] X.env = (false, eval e X.env) :: starEach [] X.env := by rfl)
    (hs2 : starEach [.Call (.Name "reversed" p2) [e] [] pos2] X.env = (false, eval (.Call (.Name "reversed" p2) [e] [] pos2) X.env) :: starEach [] X.env := by rfl) :
    PE X (.Call (.Name "list" p) [.Call (.Name "reversed" p2) [e] [] pos2] [] pos) (tLstRev X.K te) := by
  refine ⟨fun pins s σ H Q I h => ?_⟩
  refine Call_ (ld_blt I hg hm PyProof.Rows.boot_list (PyProof.Rows.callWith_type1 (args_cons (Call_ (ld_blt I hg2 hm2 PyProof.Rows.boot_reversed (PyProof.Rows.callWith_type1 (args_cons (thn (he.run pins s σ H _ I h) fun u s1 ⟨v, H1, I1, r1, q1⟩ => args_nil ?_) hs) hs rfl))) hs2) hs2 rfl))
  obtain ⟨a, xs, ev, hq, q⟩ := q1
  subst ev
  obtain rfl : u = Value.ref a := r1
  obtain ⟨its, rv, p', hz⟩ := I1.list hq
  refine call_reversed_list p'.isList (args_nil ?_)
  have k0 : ∀ b o, s1.heap.get? b = some o → (s1.heap.push (revObj a ((its.toArray.size : Int) - 1))).get? b = some o := fun b o e => Heap.get?_push_of_some _ e
  have I2 : Inv X pins σ H1 { s1 with heap := s1.heap.push (revObj a ((its.toArray.size : Int) - 1)) } := I1.kept (t' := s1.toks) k0
  have hfp := I1.fpOk (H' := H1) (b := s1.heap.objs.size) (Nat.le_refl _) (I1.hok.fresh (Nat.le_refl _))
  have hl := p'.isList
  obtain ⟨ol, hol, _⟩ := id hl
  have hne : a ≠ s1.heap.objs.size := Nat.ne_of_lt (Heap.lt_size hol)
  have hn : its.toArray.size ≤ sizeLine := by rw [List.size_toArray, ← rv.length]; exact hz
  refine call_list_rev (s := { s1 with heap := s1.heap.push (revObj a ((its.toArray.size : Int) - 1)) }) (I1.ok.hd hc) ⟨_, Heap.get?_push_size _ rfl, rfl, rfl⟩ (hl.push _) hne hn fun h' tk acc c hk hL hi => ?_
  have hfr : s1.heap.objs.size ≤ (s1.heap.push (revObj a ((its.toArray.size : Int) - 1))).objs.size := by rw [Heap.size_push]; exact Nat.le_succ _
  have hnone : H1 (s1.heap.push (revObj a ((its.toArray.size : Int) - 1))).objs.size = none := I1.hok.fresh hfr
  refine ⟨.ref _, upd H1 (s1.heap.push (revObj a ((its.toArray.size : Int) - 1))).objs.size (.lst xs.reverse), I2.turnedNew (t' := tk) (ch := [s1.heap.objs.size]) (fun b o hb e => hk b o (by simpa using hb) e) (fun b hb => ?_) (Nat.le_refl _) ⟨by rw [List.length_reverse]; exact hz, acc.toList, c, RT.vals_rev rv hi, by rw [Array.toArray_toList]; exact hL⟩, rfl, q _ hnone⟩
  have : b = s1.heap.objs.size := by simpa using hb
  rw [this]
  exact hfp
end
section
variable {X : Cx} {Γ : List Slot} {a : Expr} {pos : Pos}
theorem paired_revD {α β : Type} {R : α → β → Prop} : ∀ {xs : List α} {ys : List β}, Paired R xs ys → Paired R xs.reverse ys.reverse
  | _, _, .nil => .nil
  | _, _, .cons r t => by
    rw [List.reverse_cons, List.reverse_cons]
    exact paired_app (paired_revD t) (.cons r .nil)
/-- list(reversed(xs)) -/
theorem en_listRev {p p2 pos2 : Pos} {α : Type} [Rp α] {xs : List α} (hc : X.calm = true) (hm : X.mg "list" = none) (hm2 : X.mg "reversed" = none) (ha : EV X Γ a xs) (hg : Gl X "list" := by rfl) (hg2 : Gl X "reversed" := by rfl) (hs : starEach [a] X.env = (false, eval a X.env) :: starEach [] X.env := by rfl)
    (hs2 : starEach [.Call (.Name "reversed" p2) [a] [] pos2] X.env = (false, eval (.Call (.Name "reversed" p2) [a] [] pos2) X.env) :: starEach [] X.env := by rfl) :
    EN X Γ (.Call (.Name "list" p) [.Call (.Name "reversed" p2) [a] [] pos2] [] pos) (ML.mk xs.reverse) := ⟨fun B G H σ hB hgh l Q q =>
  we (pe_lstRev hc hg hm hg2 hm2 pe hs hs2) (ha B G H σ hB hgh l _ fun v G1 H1 g1 r1 => by
    obtain ⟨a, vs, rfl, hs, hr⟩ := r1
    have hr : Reps X.K G1 vs xs := hr
    refine ⟨a, vs, rfl, Same.seq g1.gh hs, fun p0 hn => q (.ref p0) [p0] G1 _ (g1.trans (Grow.own g1.gh hn)) (one_new (g1.h.free hn) (g1.gh.free hn)) ⟨p0, _, rfl, rfl, upd_same, ?_⟩⟩
    exact paired_revD hr)⟩
end
end Wl

set_option maxRecDepth 100000
set_option maxHeartbeats 4000000
namespace Tw
open PySem PySem.Spec PyProof.Rows L2 Wl
def topS (i : Nat) : Stmt := PySem.Challenge.pw_warmshare_k35_whole_none_buys_less.main.body.getD i (.Pass ⟨0, 0, 0, 0⟩)
structure Txt (K : PySem.W.Frag) (mg : Str → Option Value) : Prop where
  z_enumerate : mg "enumerate" = none
  z_int : mg "int" = none
  z_len : mg "len" = none
  z_list : mg "list" = none
  z_max : mg "max" = none
  z_min : mg "min" = none
  z_range : mg "range" = none
  z_reversed : mg "reversed" = none
  z_sorted : mg "sorted" = none
  z_sum : mg "sum" = none
  c_BOUGHT : ∃ t, mg "BOUGHT" = some (.int (-1) t)
noncomputable section
variable {P : Program} {w : World} {K : PySem.W.Frag} {mg : Str → Option Value} {base : Heap}

/-- rates that may be multiplied -/
def RatesOk (xs : List (T3 Int Int Int)) : Prop := ∀ s ∈ xs, -(2 ^ 62) < s.c ∧ s.c < 2 ^ 62
/-- a works of few streams -/
structure WSm (w : T3 Int (List (T3 Int Int Int)) (List (T3 Int Int Int))) : Prop where
  nb : w.b.length ≤ 1000
  nc : w.c.length ≤ 1000
  rb : RatesOk w.b
  rc : RatesOk w.c

/-! _law_cell_at -/
def m_law_cell_at (script : (List Int)) (k : Int) : Int := (bif (decide (k < (script.length : Int))) then (script.getD k.toNat (0 : Int)) else (0 : Int))
def r_law_cell_at (ds : List Dat) (d : Dat) : Prop := ∃ (script : (List Int)) (k : Int), ds = [dt script, dt k] ∧ (0 ≤ k) ∧ d = dt (m_law_cell_at script k)
abbrev s_law_cell_at : Stmt := topS 15
theorem sc_law_cell_at : FnScope ["script", "k"] ["script", "k"] (defScope s_law_cell_at) := ⟨rfl, rfl, rfl, by decide +kernel, rfl, by decide +kernel, by decide +kernel⟩
theorem ok_law_cell_at (T : Txt K mg)  {f : Addr} {fd : FuncData} (F : Fun K "_law_cell_at" "_law_cell_at" s_law_cell_at f fd) : FnOk P w K mg base CX0 1 f fd ["script", "k"] (PSp K r_law_cell_at) := by
  refine fn_pure F sc_law_cell_at (fun ds d h => by obtain ⟨_, _, rfl, _⟩ := h; rfl) fun cdv A outer s H E ds d hr h => ?_
  obtain ⟨script, k, rfl, hpre, rfl⟩ := h
  refine bv_ifx (of := fun b => .rt (dt (bif b then (script.getD k.toNat (0 : Int)) else (0 : Int)))) (et_lt (ev_var 1 rfl) (ev_len T.z_len (ev_var 0 rfl))) ?_ (by first | trivial | exact xo_ex _) ?_
  · intro hc
    exact bv_ret (ev_lixD (0 : Int) (ev_var 0 rfl) (ev_var 1 rfl) hpre (of_decide_eq_true hc))
  · intro hc
    exact bv_ret ev_int
/-! _law_mixed -/
def m_law_mixed (cell : Int) (k : Int) : Int := (let found : Int := ((((cell % (2147483629 : Int)) + ((101 : Int) * k)) + (7 : Int)) % (2147483629 : Int)); (((((found * found) % (2147483587 : Int)) + (found / (5 : Int))) * (48271 : Int)) % (2147483647 : Int)))
def r_law_mixed (ds : List Dat) (d : Dat) : Prop := ∃ (cell : Int) (k : Int), ds = [dt cell, dt k] ∧ d = dt (m_law_mixed cell k)
abbrev s_law_mixed : Stmt := topS 16
theorem sc_law_mixed : FnScope ["cell", "k", "found"] ["cell", "k"] (defScope s_law_mixed) := ⟨rfl, rfl, rfl, by decide +kernel, rfl, by decide +kernel, by decide +kernel⟩
theorem ok_law_mixed (T : Txt K mg)  {f : Addr} {fd : FuncData} (F : Fun K "_law_mixed" "_law_mixed" s_law_mixed f fd) : FnOk P w K mg base CX0 1 f fd ["cell", "k"] (PSp K r_law_mixed) := by
  refine fn_pure F sc_law_mixed (fun ds d h => by obtain ⟨_, _, rfl, _⟩ := h; rfl) fun cdv A outer s H E ds d hr h => ?_
  obtain ⟨cell, k, rfl, rfl⟩ := h
  refine bv_let (of := fun found => .rt (dt (((((found * found) % (2147483587 : Int)) + (found / (5 : Int))) * (48271 : Int)) % (2147483647 : Int)))) (sv_set 2 sc_law_mixed.nd (ev_mod (ev_add (ev_add (ev_mod (ev_var 0 rfl) ev_int (by first | decide | omega | (split <;> omega))) (ev_mul ev_int (ev_var 1 rfl) (by first | exact .inr ⟨by decide, by decide⟩ | exact .inl ⟨by decide, by decide⟩ | exact .inl ⟨by omega, by omega⟩ | exact .inr ⟨by omega, by omega⟩))) ev_int) ev_int (by first | decide | omega | (split <;> omega)))) ?_
  intro found e_found
  refine bv_cons (sv_set 2 sc_law_mixed.nd (ev_add (ev_mod (ev_mul (ev_var 2 rfl) (ev_var 2 rfl) (by first | exact .inr ⟨by decide, by decide⟩ | exact .inl ⟨by decide, by decide⟩ | exact .inl ⟨by omega, by omega⟩ | exact .inr ⟨by omega, by omega⟩)) ev_int (by first | decide | omega | (split <;> omega))) (ev_div (ev_var 2 rfl) ev_int (by first | exact ⟨by decide, by decide⟩ | exact ⟨by omega, by omega⟩)))) ?_
  exact bv_ret (ev_mod (ev_mul (ev_var 2 rfl) ev_int (by first | exact .inr ⟨by decide, by decide⟩ | exact .inl ⟨by decide, by decide⟩ | exact .inl ⟨by omega, by omega⟩ | exact .inr ⟨by omega, by omega⟩)) ev_int (by first | decide | omega | (split <;> omega)))
/-! _law_rate -/
def m_law_rate (script : (List Int)) (number : Int) (k : Int) : Int := ((1 : Int) + (((pySlice script (some k) (some (63 : Int)) (some (8 : Int))).sum + (number / (2 : Int))) % (([(9 : Int), (1000000000 : Int)] : List Int).getD (number % (2 : Int)).toNat (0 : Int))))

structure HotOk (s : T3 Int Int Int) : Prop where
  a0 : 0 ≤ s.b
  a1 : s.b < s.a
  a2 : s.a ≤ 200
  a3 : 1 ≤ s.c
  a4 : s.c ≤ 1000000000
structure ColdOk (s : T3 Int Int Int) : Prop where
  a0 : 0 ≤ s.a
  a1 : s.a < s.b
  a2 : s.b ≤ 200
  a3 : 1 ≤ s.c
  a4 : s.c ≤ 1000000000
structure WorksOk (w : T3 Int (List (T3 Int Int Int)) (List (T3 Int Int Int))) : Prop where
  g0 : 0 ≤ w.a
  g1 : w.a ≤ 50
  nh : w.b.length ≤ 12
  nc : w.c.length ≤ 12
  h : ∀ s ∈ w.b, HotOk s
  c : ∀ s ∈ w.c, ColdOk s

theorem foldl_app_len {α β : Type} (f : List β → α → List β) (hf : ∀ s x, ∃ y, f s x = s ++ [y]) : ∀ (xs : List α) (s : List β), (xs.foldl f s).length = s.length + xs.length
  | [], s => rfl
  | x :: r, s => by
    rw [List.foldl_cons, foldl_app_len f hf r]
    obtain ⟨y, e⟩ := hf s x
    rw [e]; simp; omega
theorem foldl_app_all {α β : Type} (P : β → Prop) (f : List β → α → List β) (hf : ∀ s x, ∃ y, f s x = s ++ [y] ∧ P y) : ∀ (xs : List α) (s : List β), (∀ y ∈ s, P y) → ∀ y ∈ xs.foldl f s, P y
  | [], s, h => h
  | x :: r, s, h => by
    rw [List.foldl_cons]
    obtain ⟨y, e, hy⟩ := hf s x
    refine foldl_app_all P f hf r _ ?_
    rw [e]
    intro z hz
    rcases List.mem_append.mp hz with hz | hz
    · exact h z hz
    · have : z = y := by simpa using hz
      rw [this]; exact hy

/-- no hot step below the gap, few streams -/
structure WorksM (w : T3 Int (List (T3 Int Int Int)) (List (T3 Int Int Int))) : Prop where
  ok : WorksOk w
  hi : ∀ x ∈ w.b, w.a ≤ x.b
  g3 : w.a ≤ 3
  n4 : w.b.length ≤ 4
  m4 : w.c.length ≤ 4
theorem WorksOk.sm {w : T3 Int (List (T3 Int Int Int)) (List (T3 Int Int Int))} (h : WorksOk w) : WSm w := ⟨by have := h.nh; omega, by have := h.nc; omega, fun s hs => by have := (h.h s hs).a3; have := (h.h s hs).a4; omega, fun s hs => by have := (h.c s hs).a3; have := (h.c s hs).a4; omega⟩
theorem rate_ok (script : List Int) (n k : Int) : 1 ≤ m_law_rate script n k ∧ m_law_rate script n k ≤ 1000000000 := by
  unfold m_law_rate
  have h := pick2m (fun y => 0 < y ∧ y ≤ 1000000000) n 9 1000000000 (by decide) (by decide)
  generalize (([(9 : Int), 1000000000] : List Int).getD (n % 2).toNat 0) = m at *
  generalize (pySlice script (some k) (some 63) (some 8)).sum + n / 2 = z
  have h1 := Int.emod_nonneg z (b := m) (by omega)
  have h2 := Int.emod_lt_of_pos z (b := m) (by omega)
  omega

structure SpOk (w : T3 Int (List (T3 Int Int Int)) (List (T3 Int Int Int))) (s : T2 (List (T3 Int Int Int)) (List (T3 Int Int Int))) : Prop where
  w : WorksOk w
  na : s.a.length ≤ 1000
  nb : s.b.length ≤ 1000
  a : ∀ o ∈ s.a, 1 ≤ o.a ∧ o.a ≤ 251
  b : ∀ o ∈ s.b, 0 ≤ o.a ∧ o.a ≤ 200
theorem zip_mem {α β : Type} {xs : List α} {ys : List β} {pre post : List (T2 α β)} {x : T2 α β} (h : zipL xs ys = pre ++ x :: post) : x.a ∈ xs ∧ x.b ∈ ys := by
  have hm : x ∈ zipL xs ys := by rw [h]; simp
  unfold zipL at hm
  obtain ⟨p, hp, e⟩ := List.mem_map.mp hm
  subst e
  exact ⟨(List.of_mem_zip hp).1, (List.of_mem_zip hp).2⟩
theorem rev_in {pre post : List Int} {x : Int} {n : Nat} (h : (iseq 0 n).reverse = pre ++ x :: post) : 0 ≤ x ∧ x < (n : Int) := by
  have hm : x ∈ iseq 0 n := by
    have : x ∈ (iseq 0 n).reverse := by rw [h]; simp
    exact List.mem_reverse.mp this
  unfold iseq at hm
  obtain ⟨i, hi, e⟩ := List.mem_map.mp hm
  have h2 := List.mem_range.mp hi
  omega
theorem sp_hot {w : T3 Int (List (T3 Int Int Int)) (List (T3 Int Int Int))} {s : T2 (List (T3 Int Int Int)) (List (T3 Int Int Int))} (h : SpOk w s) {pre post : List (T3 Int Int Int)} {x : T3 Int Int Int} (hx : w.b = pre ++ x :: post) : 0 ≤ x.b ∧ x.b < x.a ∧ x.a ≤ 200 := by
  have q := h.w.h x (by rw [hx]; simp)
  exact ⟨q.a0, q.a1, q.a2⟩
theorem sp_cold {w : T3 Int (List (T3 Int Int Int)) (List (T3 Int Int Int))} {s : T2 (List (T3 Int Int Int)) (List (T3 Int Int Int))} (h : SpOk w s) {pre post : List (T3 Int Int Int)} {x : T3 Int Int Int} (hx : w.c = pre ++ x :: post) : 0 ≤ x.a ∧ x.a < x.b ∧ x.b ≤ 200 := by
  have q := h.w.c x (by rw [hx]; simp)
  exact ⟨q.a0, q.a1, q.a2⟩

theorem dput_len {β : Type} (kvs : List (Int × β)) (k : Int) (v : β) : (dput kvs k v).length ≤ kvs.length + 1 := by
  unfold dput
  split <;> simp
theorem ins_side (z : Int) {n : Nat} (h : n ≤ 1000) : 0 ≤ z % ((n : Int) + 1) ∧ z % ((n : Int) + 1) < 2 ^ 63 ∧ n < 10000000 := by
  have h1 := Int.emod_nonneg z (b := (n : Int) + 1) (by omega)
  have h2 := Int.emod_lt_of_pos z (b := (n : Int) + 1) (by omega)
  exact ⟨h1, by omega, by omega⟩
theorem fold_len {α : Type} (f : List Int → α → List Int) (hf : ∀ s x, (f s x).length = s.length) : ∀ (xs : List α) (s : List Int), (xs.foldl f s).length = s.length
  | [], s => rfl
  | x :: r, s => by rw [List.foldl_cons, fold_len f hf r, hf]

def r_law_rate (ds : List Dat) (d : Dat) : Prop := ∃ (script : (List Int)) (number : Int) (k : Int), ds = [dt script, dt number, dt k] ∧ d = dt (m_law_rate script number k)
abbrev s_law_rate : Stmt := topS 17
theorem sc_law_rate : FnScope ["script", "number", "k", "most"] ["script", "number", "k"] (defScope s_law_rate) := ⟨rfl, rfl, rfl, by decide +kernel, rfl, by decide +kernel, by decide +kernel⟩
theorem ok_law_rate (T : Txt K mg)  {f : Addr} {fd : FuncData} (F : Fun K "_law_rate" "_law_rate" s_law_rate f fd) : FnOk P w K mg base CX0 1 f fd ["script", "number", "k"] (PSp K r_law_rate) := by
  refine fn_pure F sc_law_rate (fun ds d h => by obtain ⟨_, _, _, rfl, _⟩ := h; rfl) fun cdv A outer s H E ds d hr h => ?_
  obtain ⟨script, number, k, rfl, rfl⟩ := h
  refine bv_cons (sv_set 3 sc_law_rate.nd (ev_lixD (0 : Int) (ev_new (en_lst (xs := ([(9 : Int), (1000000000 : Int)] : List Int)) (ea_cons ev_int (ea_cons (EV.is (y := (1000000000 : Int)) (ev_pow (x := 10) (y := 9) ev_int ev_int ⟨by decide, by decide, by decide⟩) (by decide)) ea_nil)))) (ev_mod (ev_var 1 rfl) ev_int (by first | decide | omega | (split <;> omega))) (by omega) (by simp only [List.length_cons, List.length_nil, List.length_map, iseq_len]; omega))) ?_
  exact bv_ret (ev_add ev_int (ev_mod (ev_add (ev_sum rfl T.z_sum (ev_new (en_slice (ev_var 0 rfl) (eo_some (ev_var 2 rfl)) (eo_some ev_int) (eo_some ev_int) (by decide)))) (ev_div (ev_var 1 rfl) ev_int (by first | exact ⟨by decide, by decide⟩ | exact ⟨by omega, by omega⟩))) (ev_var 3 rfl) (pick2m (fun y => 0 < y) _ _ _ (by decide) (by decide))))
/-! _law_works -/
def m_law_works_L1 (script : (List Int)) (base : Int) (gap : Int) (s : (List (T3 Int Int Int))) (x : Int) : (List (T3 Int Int Int)) := (let number : Int := (m_law_mixed (m_law_cell_at script ((1 : Int) + x)) x); (let low_ : Int := ((base + gap) + (number % (7 : Int))); (let high_ : Int := (([((low_ + (1 : Int)) + ((number / (7 : Int)) % (5 : Int))), (200 : Int)] : List Int).getD (bif ((decide (((number / (35 : Int)) % (2 : Int)) = (0 : Int))) && (decide ((184 : Int) < low_))) then (1 : Int) else 0).toNat (0 : Int)); (s ++ [(T3.mk high_ low_ (m_law_rate script (number / (35 : Int)) x))]))))
def m_law_works_L2 (script : (List Int)) (base : Int) (s_1 : (List (T3 Int Int Int))) (x_1 : Int) : (List (T3 Int Int Int)) := (let number_1 : Int := (m_law_mixed (m_law_cell_at script ((4 : Int) + x_1)) ((20 : Int) + x_1)); (let low__1 : Int := (base + (number_1 % (9 : Int))); (let high__1 : Int := (([((low__1 + (1 : Int)) + ((number_1 / (9 : Int)) % (5 : Int))), (200 : Int)] : List Int).getD (bif ((decide (((number_1 / (45 : Int)) % (2 : Int)) = (0 : Int))) && (decide ((184 : Int) < low__1))) then (1 : Int) else 0).toNat (0 : Int)); (s_1 ++ [(T3.mk low__1 high__1 (m_law_rate script (number_1 / (45 : Int)) ((4 : Int) + x_1)))]))))
def m_law_works (script : (List Int)) : (T3 Int (List (T3 Int Int Int)) (List (T3 Int Int Int))) := (let first : Int := (m_law_cell_at script (0 : Int)); (let gap : Int := (first % (4 : Int)); (let base : Int := (([((first / (100 : Int)) % (181 : Int)), (185 : Int)] : List Int).getD (bif (decide (((first / (100 : Int)) % (8 : Int)) = (3 : Int))) then (1 : Int) else 0).toNat (0 : Int)); (let hots : (List (T3 Int Int Int)) := ((iseq 0 ((first / (4 : Int)) % (5 : Int)).toNat).foldl (m_law_works_L1 script base gap) ([] : (List (T3 Int Int Int)))); (let colds : (List (T3 Int Int Int)) := ((iseq 0 ((first / (20 : Int)) % (5 : Int)).toNat).foldl (m_law_works_L2 script base) ([] : (List (T3 Int Int Int)))); (T3.mk gap hots colds))))))

theorem works_ok (script : List Int) : WorksM (m_law_works script) := by
  unfold m_law_works
  dsimp only
  generalize m_law_cell_at script 0 = first
  have hb := pick2b (fun y => 0 ≤ y ∧ y ≤ 185) (decide (first / 100 % 8 = 3)) (first / 100 % 181) 185 (by omega) (by decide)
  generalize (([first / 100 % 181, 185] : List Int).getD (bif decide (first / 100 % 8 = 3) then (1 : Int) else 0).toNat 0) = base at *
  have hg : 0 ≤ first % 4 ∧ first % 4 ≤ 3 := by omega
  generalize first % 4 = gap at *
  have one : ∀ (low n : Int) (b : Bool), 0 ≤ low → low ≤ 194 → low < ([low + 1 + n % 5, 200] : List Int).getD (bif b then (1 : Int) else 0).toNat 0 ∧ ([low + 1 + n % 5, 200] : List Int).getD (bif b then (1 : Int) else 0).toNat 0 ≤ 200 := fun low n b h0 h1 => pick2b (fun y => low < y ∧ y ≤ 200) b _ 200 (by omega) (by omega)
  have hL1 : ∀ s x, ∃ y, m_law_works_L1 script base gap s x = s ++ [y] ∧ (HotOk y ∧ gap ≤ y.b) := fun s x => by
    refine ⟨_, rfl, ?_⟩
    have h := one (base + gap + m_law_mixed (m_law_cell_at script (1 + x)) x % 7) (m_law_mixed (m_law_cell_at script (1 + x)) x / 7) (decide (m_law_mixed (m_law_cell_at script (1 + x)) x / 35 % 2 = 0) && decide (184 < base + gap + m_law_mixed (m_law_cell_at script (1 + x)) x % 7)) (by omega) (by omega)
    have hr := rate_ok script (m_law_mixed (m_law_cell_at script (1 + x)) x / 35) x
    exact ⟨⟨by dsimp only; omega, h.1, h.2, hr.1, hr.2⟩, by dsimp only; omega⟩
  have hL2 : ∀ s x, ∃ y, m_law_works_L2 script base s x = s ++ [y] ∧ ColdOk y := fun s x => by
    refine ⟨_, rfl, ?_⟩
    have h := one (base + m_law_mixed (m_law_cell_at script (4 + x)) (20 + x) % 9) (m_law_mixed (m_law_cell_at script (4 + x)) (20 + x) / 9) (decide (m_law_mixed (m_law_cell_at script (4 + x)) (20 + x) / 45 % 2 = 0) && decide (184 < base + m_law_mixed (m_law_cell_at script (4 + x)) (20 + x) % 9)) (by omega) (by omega)
    have hr := rate_ok script (m_law_mixed (m_law_cell_at script (4 + x)) (20 + x) / 45) (4 + x)
    exact ⟨by dsimp only; omega, h.1, h.2, hr.1, hr.2⟩
  have l1 : ((iseq 0 (first / 4 % 5).toNat).foldl (m_law_works_L1 script base gap) []).length ≤ 4 := by
    rw [foldl_app_len _ (fun s x => let ⟨y, e, _⟩ := hL1 s x; ⟨y, e⟩), iseq_len, List.length_nil]
    omega
  have l2 : ((iseq 0 (first / 20 % 5).toNat).foldl (m_law_works_L2 script base) []).length ≤ 4 := by
    rw [foldl_app_len _ (fun s x => let ⟨y, e, _⟩ := hL2 s x; ⟨y, e⟩), iseq_len, List.length_nil]
    omega
  have a1 := foldl_app_all _ _ hL1 (iseq 0 (first / 4 % 5).toNat) [] (by simp)
  have a2 := foldl_app_all _ _ hL2 (iseq 0 (first / 20 % 5).toNat) [] (by simp)
  exact ⟨⟨hg.1, by show gap ≤ 50; omega, Nat.le_trans l1 (by decide), Nat.le_trans l2 (by decide), fun x hx => (a1 x hx).1, a2⟩, fun x hx => (a1 x hx).2, hg.2, l1, l2⟩

def r_law_works (ds : List Dat) (d : Dat) : Prop := ∃ (script : (List Int)), ds = [dt script] ∧ d = dt (m_law_works script)
abbrev s_law_works : Stmt := topS 18
theorem sc_law_works : FnScope ["script", "first", "gap", "base", "hots", "k", "number", "low", "high", "colds"] ["script"] (defScope s_law_works) := ⟨rfl, rfl, rfl, by decide +kernel, rfl, by decide +kernel, by decide +kernel⟩
theorem ok_law_works (T : Txt K mg) (H_law_cell_at : FnAt P w K mg base "_law_cell_at" 1 ["script", "k"] r_law_cell_at) (H_law_mixed : FnAt P w K mg base "_law_mixed" 1 ["cell", "k"] r_law_mixed) (H_law_rate : FnAt P w K mg base "_law_rate" 1 ["script", "number", "k"] r_law_rate) {f : Addr} {fd : FuncData} (F : Fun K "_law_works" "_law_works" s_law_works f fd) : FnOk P w K mg base CX0 2 f fd ["script"] (PSp K r_law_works) := by
  refine fn_pure F sc_law_works (fun ds d h => by obtain ⟨_, rfl, _⟩ := h; rfl) fun cdv A outer s H E ds d hr h => ?_
  obtain ⟨script, rfl, rfl⟩ := h
  refine bv_let (of := fun first => .rt (dt (let gap : Int := (first % (4 : Int)); (let base : Int := (([((first / (100 : Int)) % (181 : Int)), (185 : Int)] : List Int).getD (bif (decide (((first / (100 : Int)) % (8 : Int)) = (3 : Int))) then (1 : Int) else 0).toNat (0 : Int)); (let hots : (List (T3 Int Int Int)) := ((iseq 0 ((first / (4 : Int)) % (5 : Int)).toNat).foldl (m_law_works_L1 script base gap) ([] : (List (T3 Int Int Int)))); (let colds : (List (T3 Int Int Int)) := ((iseq 0 ((first / (20 : Int)) % (5 : Int)).toNat).foldl (m_law_works_L2 script base) ([] : (List (T3 Int Int Int)))); (T3.mk gap hots colds))))))) (sv_set 1 sc_law_works.nd (ev_fn H_law_cell_at hr (by decide) (ea_cons (ev_var 0 rfl) (ea_cons ev_int ea_nil)) ⟨_, _, rfl, (by omega), rfl⟩)) ?_
  intro first e_first
  refine bv_let (of := fun gap => .rt (dt (let base : Int := (([((first / (100 : Int)) % (181 : Int)), (185 : Int)] : List Int).getD (bif (decide (((first / (100 : Int)) % (8 : Int)) = (3 : Int))) then (1 : Int) else 0).toNat (0 : Int)); (let hots : (List (T3 Int Int Int)) := ((iseq 0 ((first / (4 : Int)) % (5 : Int)).toNat).foldl (m_law_works_L1 script base gap) ([] : (List (T3 Int Int Int)))); (let colds : (List (T3 Int Int Int)) := ((iseq 0 ((first / (20 : Int)) % (5 : Int)).toNat).foldl (m_law_works_L2 script base) ([] : (List (T3 Int Int Int)))); (T3.mk gap hots colds)))))) (sv_set 2 sc_law_works.nd (ev_mod (ev_var 1 rfl) ev_int (by first | decide | omega | (split <;> omega)))) ?_
  intro gap e_gap
  refine bv_let (of := fun base => .rt (dt (let hots : (List (T3 Int Int Int)) := ((iseq 0 ((first / (4 : Int)) % (5 : Int)).toNat).foldl (m_law_works_L1 script base gap) ([] : (List (T3 Int Int Int)))); (let colds : (List (T3 Int Int Int)) := ((iseq 0 ((first / (20 : Int)) % (5 : Int)).toNat).foldl (m_law_works_L2 script base) ([] : (List (T3 Int Int Int)))); (T3.mk gap hots colds))))) (sv_set 3 sc_law_works.nd (ev_lixD (0 : Int) (ev_new (en_lst (xs := ([((first / (100 : Int)) % (181 : Int)), (185 : Int)] : List Int)) (ea_cons (ev_mod (ev_div (ev_var 1 rfl) ev_int (by first | exact ⟨by decide, by decide⟩ | exact ⟨by omega, by omega⟩)) ev_int (by first | decide | omega | (split <;> omega))) (ea_cons ev_int ea_nil)))) (ev_intB T.z_int (ev_eq (ev_mod (ev_div (ev_var 1 rfl) ev_int (by first | exact ⟨by decide, by decide⟩ | exact ⟨by omega, by omega⟩)) ev_int (by first | decide | omega | (split <;> omega))) ev_int)) (by first | omega | exact bit0 _) (by first | (simp only [List.length_cons, List.length_nil, List.length_map, iseq_len]; omega) | exact bit1 _))) ?_
  intro base e_base
  refine bv_cons (sv_own 4 sc_law_works.nd (en_lst (xs := ([] : (List (T3 Int Int Int)))) ea_nil)) ?_
  refine bv_letS (fun (hots : (List (T3 Int Int Int))) => [.v (script : (List Int)), .v (first : Int), .v (gap : Int), .v (base : Int), .l (hots : (List (T3 Int Int Int))), .any, .any, .any, .any, .any]) (of := fun hots => .rt (dt (let colds : (List (T3 Int Int Int)) := ((iseq 0 ((first / (20 : Int)) % (5 : Int)).toNat).foldl (m_law_works_L2 script base) ([] : (List (T3 Int Int Int)))); (T3.mk gap hots colds)))) (x := ((iseq 0 ((first / (4 : Int)) % (5 : Int)).toNat).foldl (m_law_works_L1 script base gap) ([] : (List (T3 Int Int Int))))) ?_ ?_
  · refine sv_forI (fun (s : (List (T3 Int Int Int))) => [.v (script : (List Int)), .v (first : Int), .v (gap : Int), .v (base : Int), .l (s : (List (T3 Int Int Int))), .any, .any, .any, .any, .any]) ([] : (List (T3 Int Int Int))) (m_law_works_L1 script base gap) (fun (pre : List Int) (s : (List (T3 Int Int Int))) => s.length ≤ ([] : (List (T3 Int Int Int))).length + pre.length) (iv_range1 T.z_range (ev_mod (ev_div (ev_var 1 rfl) ev_int (by first | exact ⟨by decide, by decide⟩ | exact ⟨by omega, by omega⟩)) ev_int (by first | decide | omega | (split <;> omega))) (by omega) (by omega)) (.eq (.eq (.eq (.eq (.eq (.any (.any (.any (.any (.any .nil)))))))))) (fun (s : (List (T3 Int Int Int))) (x : Int) => [.v (script : (List Int)), .v (first : Int), .v (gap : Int), .v (base : Int), .l (s : (List (T3 Int Int Int))), .v (x : Int), .any, .any, .any, .any]) (fun s x => (tv_name 5 sc_law_works.nd)) (by simp) (by intro pre x s _ h; simp only [m_law_works_L1, List.length_append, List.length_cons, List.length_nil] at h ⊢; omega) ?_ PassesOwn.never
    · intro pre x post s hx hs hI
      have hq := iseq_mem hx
      have hl0 := congrArg List.length hx
      rw [iseq_len, List.length_append, List.length_cons] at hl0
      refine bv_let (of := fun number => .nx ((fun (s : (List (T3 Int Int Int))) => [.v (script : (List Int)), .v (first : Int), .v (gap : Int), .v (base : Int), .l (s : (List (T3 Int Int Int))), .any, .any, .any, .any, .any]) (let low_ : Int := ((base + gap) + (number % (7 : Int))); (let high_ : Int := (([((low_ + (1 : Int)) + ((number / (7 : Int)) % (5 : Int))), (200 : Int)] : List Int).getD (bif ((decide (((number / (35 : Int)) % (2 : Int)) = (0 : Int))) && (decide ((184 : Int) < low_))) then (1 : Int) else 0).toNat (0 : Int)); (s ++ [(T3.mk high_ low_ (m_law_rate script (number / (35 : Int)) x))]))))) (sv_set 6 sc_law_works.nd (ev_fn H_law_mixed hr (by decide) (ea_cons (ev_fn H_law_cell_at hr (by decide) (ea_cons (ev_var 0 rfl) (ea_cons (ev_add ev_int (ev_var 5 rfl)) ea_nil)) ⟨_, _, rfl, (by omega), rfl⟩) (ea_cons (ev_var 5 rfl) ea_nil)) ⟨_, _, rfl, rfl⟩)) ?_
      intro number e_number
      refine bv_let (of := fun low_ => .nx ((fun (s : (List (T3 Int Int Int))) => [.v (script : (List Int)), .v (first : Int), .v (gap : Int), .v (base : Int), .l (s : (List (T3 Int Int Int))), .any, .any, .any, .any, .any]) (let high_ : Int := (([((low_ + (1 : Int)) + ((number / (7 : Int)) % (5 : Int))), (200 : Int)] : List Int).getD (bif ((decide (((number / (35 : Int)) % (2 : Int)) = (0 : Int))) && (decide ((184 : Int) < low_))) then (1 : Int) else 0).toNat (0 : Int)); (s ++ [(T3.mk high_ low_ (m_law_rate script (number / (35 : Int)) x))])))) (sv_set 7 sc_law_works.nd (ev_add (ev_add (ev_var 3 rfl) (ev_var 2 rfl)) (ev_mod (ev_var 6 rfl) ev_int (by first | decide | omega | (split <;> omega))))) ?_
      intro low_ e_low_
      refine bv_let (of := fun high_ => .nx ((fun (s : (List (T3 Int Int Int))) => [.v (script : (List Int)), .v (first : Int), .v (gap : Int), .v (base : Int), .l (s : (List (T3 Int Int Int))), .any, .any, .any, .any, .any]) (s ++ [(T3.mk high_ low_ (m_law_rate script (number / (35 : Int)) x))]))) (sv_set 8 sc_law_works.nd (ev_lixD (0 : Int) (ev_new (en_lst (xs := ([((low_ + (1 : Int)) + ((number / (7 : Int)) % (5 : Int))), (200 : Int)] : List Int)) (ea_cons (ev_add (ev_add (ev_var 7 rfl) ev_int) (ev_mod (ev_div (ev_var 6 rfl) ev_int (by first | exact ⟨by decide, by decide⟩ | exact ⟨by omega, by omega⟩)) ev_int (by first | decide | omega | (split <;> omega)))) (ea_cons ev_int ea_nil)))) (ev_intB T.z_int (ev_and (ev_eq (ev_mod (ev_div (ev_var 6 rfl) ev_int (by first | exact ⟨by decide, by decide⟩ | exact ⟨by omega, by omega⟩)) ev_int (by first | decide | omega | (split <;> omega))) ev_int) (fun hb => (ev_one (ev_gt (ev_var 7 rfl) ev_int))))) (by first | omega | exact bit0 _) (by first | (simp only [List.length_cons, List.length_nil, List.length_map, iseq_len]; omega) | exact bit1 _))) ?_
      intro high_ e_high_
      refine bv_cons (sv_app 4 (pe_bm PySem.F.plainAttrs_list PySem.F.slot_list_append PySem.F.type_list_append mt_append (pv 4) (pa_cons pe pa_nil)) rfl (ev_t3 (ea_cons (ev_var 8 rfl) (ea_cons (ev_var 7 rfl) (ea_cons (ev_fn H_law_rate hr (by decide) (ea_cons (ev_var 0 rfl) (ea_cons (ev_div (ev_var 6 rfl) ev_int (by first | exact ⟨by decide, by decide⟩ | exact ⟨by omega, by omega⟩)) (ea_cons (ev_var 5 rfl) ea_nil))) ⟨_, _, _, rfl, rfl⟩) ea_nil)))) (by simp only [List.length_nil] at hI; omega)) ?_
      exact .nxs bv_nil (.eq (.eq (.eq (.eq (.eq (.any (.any (.any (.any (.any .nil))))))))))
  intro hots e_hots
  refine bv_cons (sv_own 9 sc_law_works.nd (en_lst (xs := ([] : (List (T3 Int Int Int)))) ea_nil)) ?_
  refine bv_letS (fun (colds : (List (T3 Int Int Int))) => [.v (script : (List Int)), .v (first : Int), .v (gap : Int), .v (base : Int), .l (hots : (List (T3 Int Int Int))), .any, .any, .any, .any, .l (colds : (List (T3 Int Int Int)))]) (of := fun colds => .rt (dt (T3.mk gap hots colds))) (x := ((iseq 0 ((first / (20 : Int)) % (5 : Int)).toNat).foldl (m_law_works_L2 script base) ([] : (List (T3 Int Int Int))))) ?_ ?_
  · refine sv_forI (fun (s_1 : (List (T3 Int Int Int))) => [.v (script : (List Int)), .v (first : Int), .v (gap : Int), .v (base : Int), .l (hots : (List (T3 Int Int Int))), .any, .any, .any, .any, .l (s_1 : (List (T3 Int Int Int)))]) ([] : (List (T3 Int Int Int))) (m_law_works_L2 script base) (fun (pre : List Int) (s_1 : (List (T3 Int Int Int))) => s_1.length ≤ ([] : (List (T3 Int Int Int))).length + pre.length) (iv_range1 T.z_range (ev_mod (ev_div (ev_var 1 rfl) ev_int (by first | exact ⟨by decide, by decide⟩ | exact ⟨by omega, by omega⟩)) ev_int (by first | decide | omega | (split <;> omega))) (by omega) (by omega)) (.eq (.eq (.eq (.eq (.eq (.any (.any (.any (.any (.eq .nil)))))))))) (fun (s_1 : (List (T3 Int Int Int))) (x_1 : Int) => [.v (script : (List Int)), .v (first : Int), .v (gap : Int), .v (base : Int), .l (hots : (List (T3 Int Int Int))), .v (x_1 : Int), .any, .any, .any, .l (s_1 : (List (T3 Int Int Int)))]) (fun s_1 x_1 => (tv_name 5 sc_law_works.nd)) (by simp) (by intro pre x s _ h; simp only [m_law_works_L2, List.length_append, List.length_cons, List.length_nil] at h ⊢; omega) ?_ PassesOwn.never
    · intro pre x_1 post s_1 hx_1 hs_1 hI_1
      have hq1 := iseq_mem hx_1
      have hl1 := congrArg List.length hx_1
      rw [iseq_len, List.length_append, List.length_cons] at hl1
      refine bv_let (of := fun number_1 => .nx ((fun (s_1 : (List (T3 Int Int Int))) => [.v (script : (List Int)), .v (first : Int), .v (gap : Int), .v (base : Int), .l (hots : (List (T3 Int Int Int))), .any, .any, .any, .any, .l (s_1 : (List (T3 Int Int Int)))]) (let low__1 : Int := (base + (number_1 % (9 : Int))); (let high__1 : Int := (([((low__1 + (1 : Int)) + ((number_1 / (9 : Int)) % (5 : Int))), (200 : Int)] : List Int).getD (bif ((decide (((number_1 / (45 : Int)) % (2 : Int)) = (0 : Int))) && (decide ((184 : Int) < low__1))) then (1 : Int) else 0).toNat (0 : Int)); (s_1 ++ [(T3.mk low__1 high__1 (m_law_rate script (number_1 / (45 : Int)) ((4 : Int) + x_1)))]))))) (sv_set 6 sc_law_works.nd (ev_fn H_law_mixed hr (by decide) (ea_cons (ev_fn H_law_cell_at hr (by decide) (ea_cons (ev_var 0 rfl) (ea_cons (ev_add ev_int (ev_var 5 rfl)) ea_nil)) ⟨_, _, rfl, (by omega), rfl⟩) (ea_cons (ev_add ev_int (ev_var 5 rfl)) ea_nil)) ⟨_, _, rfl, rfl⟩)) ?_
      intro number_1 e_number_1
      refine bv_let (of := fun low__1 => .nx ((fun (s_1 : (List (T3 Int Int Int))) => [.v (script : (List Int)), .v (first : Int), .v (gap : Int), .v (base : Int), .l (hots : (List (T3 Int Int Int))), .any, .any, .any, .any, .l (s_1 : (List (T3 Int Int Int)))]) (let high__1 : Int := (([((low__1 + (1 : Int)) + ((number_1 / (9 : Int)) % (5 : Int))), (200 : Int)] : List Int).getD (bif ((decide (((number_1 / (45 : Int)) % (2 : Int)) = (0 : Int))) && (decide ((184 : Int) < low__1))) then (1 : Int) else 0).toNat (0 : Int)); (s_1 ++ [(T3.mk low__1 high__1 (m_law_rate script (number_1 / (45 : Int)) ((4 : Int) + x_1)))])))) (sv_set 7 sc_law_works.nd (ev_add (ev_var 3 rfl) (ev_mod (ev_var 6 rfl) ev_int (by first | decide | omega | (split <;> omega))))) ?_
      intro low__1 e_low__1
      refine bv_let (of := fun high__1 => .nx ((fun (s_1 : (List (T3 Int Int Int))) => [.v (script : (List Int)), .v (first : Int), .v (gap : Int), .v (base : Int), .l (hots : (List (T3 Int Int Int))), .any, .any, .any, .any, .l (s_1 : (List (T3 Int Int Int)))]) (s_1 ++ [(T3.mk low__1 high__1 (m_law_rate script (number_1 / (45 : Int)) ((4 : Int) + x_1)))]))) (sv_set 8 sc_law_works.nd (ev_lixD (0 : Int) (ev_new (en_lst (xs := ([((low__1 + (1 : Int)) + ((number_1 / (9 : Int)) % (5 : Int))), (200 : Int)] : List Int)) (ea_cons (ev_add (ev_add (ev_var 7 rfl) ev_int) (ev_mod (ev_div (ev_var 6 rfl) ev_int (by first | exact ⟨by decide, by decide⟩ | exact ⟨by omega, by omega⟩)) ev_int (by first | decide | omega | (split <;> omega)))) (ea_cons ev_int ea_nil)))) (ev_intB T.z_int (ev_and (ev_eq (ev_mod (ev_div (ev_var 6 rfl) ev_int (by first | exact ⟨by decide, by decide⟩ | exact ⟨by omega, by omega⟩)) ev_int (by first | decide | omega | (split <;> omega))) ev_int) (fun hb_1 => (ev_one (ev_gt (ev_var 7 rfl) ev_int))))) (by first | omega | exact bit0 _) (by first | (simp only [List.length_cons, List.length_nil, List.length_map, iseq_len]; omega) | exact bit1 _))) ?_
      intro high__1 e_high__1
      refine bv_cons (sv_app 9 (pe_bm PySem.F.plainAttrs_list PySem.F.slot_list_append PySem.F.type_list_append mt_append (pv 9) (pa_cons pe pa_nil)) rfl (ev_t3 (ea_cons (ev_var 7 rfl) (ea_cons (ev_var 8 rfl) (ea_cons (ev_fn H_law_rate hr (by decide) (ea_cons (ev_var 0 rfl) (ea_cons (ev_div (ev_var 6 rfl) ev_int (by first | exact ⟨by decide, by decide⟩ | exact ⟨by omega, by omega⟩)) (ea_cons (ev_add ev_int (ev_var 5 rfl)) ea_nil))) ⟨_, _, _, rfl, rfl⟩) ea_nil)))) (by simp only [List.length_nil] at hI_1; omega)) ?_
      exact .nxs bv_nil (.eq (.eq (.eq (.eq (.eq (.any (.any (.any (.any (.eq .nil))))))))))
  intro colds e_colds
  refine bv_frz 4 rfl ?_
  refine bv_frz 9 rfl ?_
  exact bv_ret (ev_t3 (ea_cons (ev_var 2 rfl) (ea_cons (ev_var 4 rfl) (ea_cons (ev_var 9 rfl) ea_nil))))
/-! _law_steps -/
def m_law_steps_L2 (x : Int) (works : (T3 Int (List (T3 Int Int Int)) (List (T3 Int Int Int)))) (s_1 : (List (KT2 × Int))) (x_1 : Int) : (List (KT2 × Int)) := (dputG s_1 (KT2.mk x x_1) (works.b.getD x.toNat (T3.mk (0 : Int) (0 : Int) (0 : Int))).c)
def m_law_steps_L1 (works : (T3 Int (List (T3 Int Int Int)) (List (T3 Int Int Int)))) (s : (List (KT2 × Int))) (x : Int) : (List (KT2 × Int)) := (let hots : (List (KT2 × Int)) := ((iseq (works.b.getD x.toNat (T3.mk (0 : Int) (0 : Int) (0 : Int))).b ((works.b.getD x.toNat (T3.mk (0 : Int) (0 : Int) (0 : Int))).a - (works.b.getD x.toNat (T3.mk (0 : Int) (0 : Int) (0 : Int))).b).toNat).foldl (m_law_steps_L2 x works) s); hots)
def m_law_steps_L4 (x_2 : Int) (works : (T3 Int (List (T3 Int Int Int)) (List (T3 Int Int Int)))) (s_3 : (List (KT2 × Int))) (x_3 : Int) : (List (KT2 × Int)) := (dputG s_3 (KT2.mk x_2 x_3) (works.c.getD x_2.toNat (T3.mk (0 : Int) (0 : Int) (0 : Int))).c)
def m_law_steps_L3 (works : (T3 Int (List (T3 Int Int Int)) (List (T3 Int Int Int)))) (s_2 : (List (KT2 × Int))) (x_2 : Int) : (List (KT2 × Int)) := (let colds : (List (KT2 × Int)) := ((iseq (works.c.getD x_2.toNat (T3.mk (0 : Int) (0 : Int) (0 : Int))).a ((works.c.getD x_2.toNat (T3.mk (0 : Int) (0 : Int) (0 : Int))).b - (works.c.getD x_2.toNat (T3.mk (0 : Int) (0 : Int) (0 : Int))).a).toNat).foldl (m_law_steps_L4 x_2 works) s_2); colds)
def m_law_steps (works : (T3 Int (List (T3 Int Int Int)) (List (T3 Int Int Int)))) : (T2 (List (KT2 × Int)) (List (KT2 × Int))) := (let hots_1 : (List (KT2 × Int)) := ((iseq 0 (works.b.length : Int).toNat).foldl (m_law_steps_L1 works) ([] : (List (KT2 × Int)))); (let colds_1 : (List (KT2 × Int)) := ((iseq 0 (works.c.length : Int).toNat).foldl (m_law_steps_L3 works) ([] : (List (KT2 × Int)))); (T2.mk hots_1 colds_1)))

theorem fold_put_len (f : Int → KT2) (g : Int → Int) : ∀ (l : List Int) (s : List (KT2 × Int)), (l.foldl (fun s x => dputG s (f x) (g x)) s).length ≤ s.length + l.length
  | [], s => Nat.le_refl _
  | x :: r, s => by
    rw [List.foldl_cons, List.length_cons]
    have h1 := fold_put_len f g r (dputG s (f x) (g x))
    have h2 := dputG_len s (f x) (g x)
    omega
theorem st_L1_len {works : T3 Int (List (T3 Int Int Int)) (List (T3 Int Int Int))} (h : WorksOk works) {x : Int} (hm : x ∈ iseq 0 (works.b.length : Int).toNat) (s : List (KT2 × Int)) : (m_law_steps_L1 works s x).length ≤ s.length + 200 := by
  have hq := iseq_mem_iff.mp hm
  have hst := h.h _ (Wl.getD_mem (d := T3.mk (0 : Int) (0 : Int) (0 : Int)) (xs := works.b) (k := x.toNat) (by omega))
  have b0 := hst.a0; have b1 := hst.a1; have b2 := hst.a2
  have := fold_put_len (fun z => KT2.mk x z) (fun _ => (works.b.getD x.toNat (T3.mk (0 : Int) (0 : Int) (0 : Int))).c) (iseq (works.b.getD x.toNat (T3.mk (0 : Int) (0 : Int) (0 : Int))).b ((works.b.getD x.toNat (T3.mk (0 : Int) (0 : Int) (0 : Int))).a - (works.b.getD x.toNat (T3.mk (0 : Int) (0 : Int) (0 : Int))).b).toNat) s
  rw [iseq_len] at this
  exact Nat.le_trans this (by omega)
theorem st_L3_len {works : T3 Int (List (T3 Int Int Int)) (List (T3 Int Int Int))} (h : WorksOk works) {x : Int} (hm : x ∈ iseq 0 (works.c.length : Int).toNat) (s : List (KT2 × Int)) : (m_law_steps_L3 works s x).length ≤ s.length + 200 := by
  have hq := iseq_mem_iff.mp hm
  have hst := h.c _ (Wl.getD_mem (d := T3.mk (0 : Int) (0 : Int) (0 : Int)) (xs := works.c) (k := x.toNat) (by omega))
  have b0 := hst.a0; have b1 := hst.a1; have b2 := hst.a2
  have := fold_put_len (fun z => KT2.mk x z) (fun _ => (works.c.getD x.toNat (T3.mk (0 : Int) (0 : Int) (0 : Int))).c) (iseq (works.c.getD x.toNat (T3.mk (0 : Int) (0 : Int) (0 : Int))).a ((works.c.getD x.toNat (T3.mk (0 : Int) (0 : Int) (0 : Int))).b - (works.c.getD x.toNat (T3.mk (0 : Int) (0 : Int) (0 : Int))).a).toNat) s
  rw [iseq_len] at this
  exact Nat.le_trans this (by omega)
/-- what holds of each step -/
theorem steps_all {works : T3 Int (List (T3 Int Int Int)) (List (T3 Int Int Int))} {P Q : KT2 × Int → Prop} (hP : ∀ (k : Int) (x : T3 Int Int Int) (at_ : Int), 0 ≤ k → k < (works.b.length : Int) → x ∈ works.b → x.b ≤ at_ → at_ < x.a → P (KT2.mk k at_, x.c)) (hQ : ∀ (k : Int) (x : T3 Int Int Int) (at_ : Int), 0 ≤ k → k < (works.c.length : Int) → x ∈ works.c → x.a ≤ at_ → at_ < x.b → Q (KT2.mk k at_, x.c)) : (∀ kv ∈ (m_law_steps works).a, P kv) ∧ ∀ kv ∈ (m_law_steps works).b, Q kv := by
  constructor
  · refine Wl.foldl_keeps (fun s : List (KT2 × Int) => ∀ kv ∈ s, P kv) _ _ _ (fun s k hk hs => ?_) (fun _ h => by cases h)
    have hq := iseq_mem_iff.mp hk
    refine Wl.foldl_keeps (fun s : List (KT2 × Int) => ∀ kv ∈ s, P kv) _ _ _ (fun s z hz hs => ?_) hs
    have hz := iseq_mem_iff.mp hz
    exact dputG_all hs (hP k _ z hq.1 (by omega) (Wl.getD_mem (by omega)) hz.1 (by omega))
  · refine Wl.foldl_keeps (fun s : List (KT2 × Int) => ∀ kv ∈ s, Q kv) _ _ _ (fun s k hk hs => ?_) (fun _ h => by cases h)
    have hq := iseq_mem_iff.mp hk
    refine Wl.foldl_keeps (fun s : List (KT2 × Int) => ∀ kv ∈ s, Q kv) _ _ _ (fun s z hz hs => ?_) hs
    have hz := iseq_mem_iff.mp hz
    exact dputG_all hs (hQ k _ z hq.1 (by omega) (Wl.getD_mem (by omega)) hz.1 (by omega))
theorem steps_len {works : T3 Int (List (T3 Int Int Int)) (List (T3 Int Int Int))} (h : WorksOk works) : (m_law_steps works).a.length ≤ 200 * works.b.length ∧ (m_law_steps works).b.length ≤ 200 * works.c.length := by
  have one : ∀ (f : List (KT2 × Int) → Int → List (KT2 × Int)) (l : List Int) (s : List (KT2 × Int)), (∀ s, ∀ x ∈ l, (f s x).length ≤ s.length + 200) → (l.foldl f s).length ≤ s.length + 200 * l.length := fun f l => by
    induction l with
    | nil => intro s _; exact Nat.le_refl _
    | cons x r ih =>
      intro s hf
      rw [List.foldl_cons, List.length_cons]
      have h1 := ih (f s x) fun s z hz => hf s z (List.mem_cons_of_mem _ hz)
      have h2 := hf s x (List.mem_cons_self ..)
      omega
  have h1 := one (m_law_steps_L1 works) (iseq 0 (works.b.length : Int).toNat) [] (fun s x hx => st_L1_len h hx s)
  have h2 := one (m_law_steps_L3 works) (iseq 0 (works.c.length : Int).toNat) [] (fun s x hx => st_L3_len h hx s)
  rw [iseq_len, List.length_nil] at h1 h2
  exact ⟨Nat.le_trans h1 (by omega), Nat.le_trans h2 (by omega)⟩
theorem steps_few {works : T3 Int (List (T3 Int Int Int)) (List (T3 Int Int Int))} (h : WorksOk works) : (m_law_steps works).a.length ≤ 2400 ∧ (m_law_steps works).b.length ≤ 2400 := by
  have := steps_len h
  have := h.nh; have := h.nc
  omega

def r_law_steps (ds : List Dat) (y_ : MD2 Int) : Prop := ∃ (works : (T3 Int (List (T3 Int Int Int)) (List (T3 Int Int Int)))), ds = [dt works] ∧ (WorksOk works) ∧ y_ = MD2.mk (m_law_steps works).a (m_law_steps works).b
abbrev s_law_steps : Stmt := topS 19
theorem sc_law_steps : FnScope ["works", "hots", "k", "at", "colds", "into"] ["works"] (defScope s_law_steps) := ⟨rfl, rfl, rfl, by decide +kernel, rfl, by decide +kernel, by decide +kernel⟩
theorem ok_law_steps (T : Txt K mg)  {f : Addr} {fd : FuncData} (F : Fun K "_law_steps" "_law_steps" s_law_steps f fd) : FnOk P w K mg base CX0 1 f fd ["works"] (OSp K r_law_steps) := by
  refine fn_own F sc_law_steps (fun ds d h => by obtain ⟨_, rfl, _⟩ := h; rfl) fun cdv A outer s H E ds d hr h => ?_
  obtain ⟨works, rfl, hpre, rfl⟩ := h
  refine bv_cons (sv_own 1 sc_law_steps.nd (en_dK0 (β := Int))) ?_
  refine bv_letS (fun (hots_1 : (List (KT2 × Int))) => [.v (works : (T3 Int (List (T3 Int Int Int)) (List (T3 Int Int Int)))), .o (MDK.mk (hots_1 : (List (KT2 × Int)))), .any, .any, .any, .any]) (of := fun hots_1 => .ro (ot (MD2.mk ((let colds_1 : (List (KT2 × Int)) := ((iseq 0 (works.c.length : Int).toNat).foldl (m_law_steps_L3 works) ([] : (List (KT2 × Int)))); (T2.mk hots_1 colds_1))).a ((let colds_1 : (List (KT2 × Int)) := ((iseq 0 (works.c.length : Int).toNat).foldl (m_law_steps_L3 works) ([] : (List (KT2 × Int)))); (T2.mk hots_1 colds_1))).b))) (x := ((iseq 0 (works.b.length : Int).toNat).foldl (m_law_steps_L1 works) ([] : (List (KT2 × Int))))) ?_ ?_
  · refine sv_forI (fun (s : (List (KT2 × Int))) => [.v (works : (T3 Int (List (T3 Int Int Int)) (List (T3 Int Int Int)))), .o (MDK.mk (s : (List (KT2 × Int)))), .any, .any, .any, .any]) ([] : (List (KT2 × Int))) (m_law_steps_L1 works) (fun (pre : List Int) (s : (List (KT2 × Int))) => s.length ≤ 200 * pre.length) (iv_range1 T.z_range (ev_len T.z_len (ev_tixv 1 (works.b) (ev_var 0 rfl))) (by first | (have := hpre.nh; have := hpre.nc; omega) | omega) (by first | (have := hpre.nh; have := hpre.nc; omega) | omega)) (.eq (.eq (.any (.any (.any (.any .nil)))))) (fun (s : (List (KT2 × Int))) (x : Int) => [.v (works : (T3 Int (List (T3 Int Int Int)) (List (T3 Int Int Int)))), .o (MDK.mk (s : (List (KT2 × Int)))), .v (x : Int), .any, .any, .any]) (fun s x => (tv_name 2 sc_law_steps.nd)) (by simp) (fun pre x s hm h => by have := st_L1_len hpre hm s; simp only [List.length_append, List.length_cons, List.length_nil]; omega) ?_ PassesOwn.never
    · intro pre x post s hx hs hI
      have hq := iseq_mem hx
      have hst := hpre.h _ (Wl.getD_mem (d := T3.mk (0 : Int) (0 : Int) (0 : Int)) (xs := works.b) (k := x.toNat) (by omega))
      have b0 := hst.a0; have b1 := hst.a1; have b2 := hst.a2
      have hl0 := congrArg List.length hx
      rw [iseq_len, List.length_append, List.length_cons] at hl0
      have hnh := hpre.nh
      refine bv_letS (fun (hots : (List (KT2 × Int))) => [.v (works : (T3 Int (List (T3 Int Int Int)) (List (T3 Int Int Int)))), .o (MDK.mk (hots : (List (KT2 × Int)))), .v (x : Int), .any, .any, .any]) (of := fun hots => .nx ((fun (s : (List (KT2 × Int))) => [.v (works : (T3 Int (List (T3 Int Int Int)) (List (T3 Int Int Int)))), .o (MDK.mk (s : (List (KT2 × Int)))), .any, .any, .any, .any]) hots)) (x := ((iseq (works.b.getD x.toNat (T3.mk (0 : Int) (0 : Int) (0 : Int))).b ((works.b.getD x.toNat (T3.mk (0 : Int) (0 : Int) (0 : Int))).a - (works.b.getD x.toNat (T3.mk (0 : Int) (0 : Int) (0 : Int))).b).toNat).foldl (m_law_steps_L2 x works) s)) ?_ ?_
      · refine sv_forI (fun (s_1 : (List (KT2 × Int))) => [.v (works : (T3 Int (List (T3 Int Int Int)) (List (T3 Int Int Int)))), .o (MDK.mk (s_1 : (List (KT2 × Int)))), .v (x : Int), .any, .any, .any]) s (m_law_steps_L2 x works) (fun (pre : List Int) (s_1 : (List (KT2 × Int))) => s_1.length ≤ s.length + pre.length) (iv_range2 T.z_range (ev_tixv 1 ((works.b.getD x.toNat (T3.mk (0 : Int) (0 : Int) (0 : Int))).b) (ev_lixD (T3.mk (0 : Int) (0 : Int) (0 : Int)) (ev_tixv 1 (works.b) (ev_var 0 rfl)) (ev_var 2 rfl) (by omega) (by omega))) (ev_tixv 0 ((works.b.getD x.toNat (T3.mk (0 : Int) (0 : Int) (0 : Int))).a) (ev_lixD (T3.mk (0 : Int) (0 : Int) (0 : Int)) (ev_tixv 1 (works.b) (ev_var 0 rfl)) (ev_var 2 rfl) (by omega) (by omega))) (by first | (have := hpre.nh; have := hpre.nc; omega) | omega)) (.eq (.eq (.eq (.any (.any (.any .nil)))))) (fun (s_1 : (List (KT2 × Int))) (x_1 : Int) => [.v (works : (T3 Int (List (T3 Int Int Int)) (List (T3 Int Int Int)))), .o (MDK.mk (s_1 : (List (KT2 × Int)))), .v (x : Int), .v (x_1 : Int), .any, .any]) (fun s_1 x_1 => (tv_name 3 sc_law_steps.nd)) (by simp) (fun pre z s _ h => by have := dputG_len s (KT2.mk x z) (works.b.getD x.toNat (T3.mk (0 : Int) (0 : Int) (0 : Int))).c; show (dputG s (KT2.mk x z) _).length ≤ _; simp only [List.length_append, List.length_cons, List.length_nil]; omega) ?_ PassesOwn.never
        · intro pre x_1 post s_1 hx_1 hs_1 hI_1
          have hl1 := congrArg List.length hx_1
          rw [iseq_len, List.length_append, List.length_cons] at hl1
          refine bv_cons (sv_dputK 1 (ps_dput (hu_of hr) (pv 1) pe pe rfl) rfl (ev_tixv 2 ((works.b.getD x.toNat (T3.mk (0 : Int) (0 : Int) (0 : Int))).c) (ev_lixD (T3.mk (0 : Int) (0 : Int) (0 : Int)) (ev_tixv 1 (works.b) (ev_var 0 rfl)) (ev_var 2 rfl) (by omega) (by omega))) (ev_tkK (ev_tk (ks := [x, x_1]) (ea_cons (ev_var 2 rfl) (ea_cons (ev_var 3 rfl) ea_nil)))) (by omega)) ?_
          exact .nxs bv_nil (.eq (.eq (.eq (.any (.any (.any .nil))))))
      intro hots e_hots
      exact .nxs bv_nil (.eq (.eq (.any (.any (.any (.any .nil))))))
  intro hots_1 e_hots_1
  refine bv_cons (sv_own 4 sc_law_steps.nd (en_dK0 (β := Int))) ?_
  refine bv_letS (fun (colds_1 : (List (KT2 × Int))) => [.v (works : (T3 Int (List (T3 Int Int Int)) (List (T3 Int Int Int)))), .o (MDK.mk (hots_1 : (List (KT2 × Int)))), .any, .any, .o (MDK.mk (colds_1 : (List (KT2 × Int)))), .any]) (of := fun colds_1 => .ro (ot (MD2.mk ((T2.mk hots_1 colds_1)).a ((T2.mk hots_1 colds_1)).b))) (x := ((iseq 0 (works.c.length : Int).toNat).foldl (m_law_steps_L3 works) ([] : (List (KT2 × Int))))) ?_ ?_
  · refine sv_forI (fun (s_2 : (List (KT2 × Int))) => [.v (works : (T3 Int (List (T3 Int Int Int)) (List (T3 Int Int Int)))), .o (MDK.mk (hots_1 : (List (KT2 × Int)))), .any, .any, .o (MDK.mk (s_2 : (List (KT2 × Int)))), .any]) ([] : (List (KT2 × Int))) (m_law_steps_L3 works) (fun (pre : List Int) (s_2 : (List (KT2 × Int))) => s_2.length ≤ 200 * pre.length) (iv_range1 T.z_range (ev_len T.z_len (ev_tixv 2 (works.c) (ev_var 0 rfl))) (by first | (have := hpre.nh; have := hpre.nc; omega) | omega) (by first | (have := hpre.nh; have := hpre.nc; omega) | omega)) (.eq (.eq (.any (.any (.eq (.any .nil)))))) (fun (s_2 : (List (KT2 × Int))) (x_2 : Int) => [.v (works : (T3 Int (List (T3 Int Int Int)) (List (T3 Int Int Int)))), .o (MDK.mk (hots_1 : (List (KT2 × Int)))), .v (x_2 : Int), .any, .o (MDK.mk (s_2 : (List (KT2 × Int)))), .any]) (fun s_2 x_2 => (tv_name 2 sc_law_steps.nd)) (by simp) (fun pre x s hm h => by have := st_L3_len hpre hm s; simp only [List.length_append, List.length_cons, List.length_nil]; omega) ?_ PassesOwn.never
    · intro pre x_2 post s_2 hx_2 hs_2 hI_2
      have hq := iseq_mem hx_2
      have hst := hpre.c _ (Wl.getD_mem (d := T3.mk (0 : Int) (0 : Int) (0 : Int)) (xs := works.c) (k := x_2.toNat) (by omega))
      have b0 := hst.a0; have b1 := hst.a1; have b2 := hst.a2
      have hl0 := congrArg List.length hx_2
      rw [iseq_len, List.length_append, List.length_cons] at hl0
      have hnh := hpre.nc
      refine bv_letS (fun (colds : (List (KT2 × Int))) => [.v (works : (T3 Int (List (T3 Int Int Int)) (List (T3 Int Int Int)))), .o (MDK.mk (hots_1 : (List (KT2 × Int)))), .v (x_2 : Int), .any, .o (MDK.mk (colds : (List (KT2 × Int)))), .any]) (of := fun colds => .nx ((fun (s_2 : (List (KT2 × Int))) => [.v (works : (T3 Int (List (T3 Int Int Int)) (List (T3 Int Int Int)))), .o (MDK.mk (hots_1 : (List (KT2 × Int)))), .any, .any, .o (MDK.mk (s_2 : (List (KT2 × Int)))), .any]) colds)) (x := ((iseq (works.c.getD x_2.toNat (T3.mk (0 : Int) (0 : Int) (0 : Int))).a ((works.c.getD x_2.toNat (T3.mk (0 : Int) (0 : Int) (0 : Int))).b - (works.c.getD x_2.toNat (T3.mk (0 : Int) (0 : Int) (0 : Int))).a).toNat).foldl (m_law_steps_L4 x_2 works) s_2)) ?_ ?_
      · refine sv_forI (fun (s_3 : (List (KT2 × Int))) => [.v (works : (T3 Int (List (T3 Int Int Int)) (List (T3 Int Int Int)))), .o (MDK.mk (hots_1 : (List (KT2 × Int)))), .v (x_2 : Int), .any, .o (MDK.mk (s_3 : (List (KT2 × Int)))), .any]) s_2 (m_law_steps_L4 x_2 works) (fun (pre : List Int) (s_3 : (List (KT2 × Int))) => s_3.length ≤ s_2.length + pre.length) (iv_range2 T.z_range (ev_tixv 0 ((works.c.getD x_2.toNat (T3.mk (0 : Int) (0 : Int) (0 : Int))).a) (ev_lixD (T3.mk (0 : Int) (0 : Int) (0 : Int)) (ev_tixv 2 (works.c) (ev_var 0 rfl)) (ev_var 2 rfl) (by omega) (by omega))) (ev_tixv 1 ((works.c.getD x_2.toNat (T3.mk (0 : Int) (0 : Int) (0 : Int))).b) (ev_lixD (T3.mk (0 : Int) (0 : Int) (0 : Int)) (ev_tixv 2 (works.c) (ev_var 0 rfl)) (ev_var 2 rfl) (by omega) (by omega))) (by first | (have := hpre.nh; have := hpre.nc; omega) | omega)) (.eq (.eq (.eq (.any (.eq (.any .nil)))))) (fun (s_3 : (List (KT2 × Int))) (x_3 : Int) => [.v (works : (T3 Int (List (T3 Int Int Int)) (List (T3 Int Int Int)))), .o (MDK.mk (hots_1 : (List (KT2 × Int)))), .v (x_2 : Int), .any, .o (MDK.mk (s_3 : (List (KT2 × Int)))), .v (x_3 : Int)]) (fun s_3 x_3 => (tv_name 5 sc_law_steps.nd)) (by simp) (fun pre z s _ h => by have := dputG_len s (KT2.mk x_2 z) (works.c.getD x_2.toNat (T3.mk (0 : Int) (0 : Int) (0 : Int))).c; show (dputG s (KT2.mk x_2 z) _).length ≤ _; simp only [List.length_append, List.length_cons, List.length_nil]; omega) ?_ PassesOwn.never
        · intro pre x_3 post s_3 hx_3 hs_3 hI_3
          have hl1 := congrArg List.length hx_3
          rw [iseq_len, List.length_append, List.length_cons] at hl1
          refine bv_cons (sv_dputK 4 (ps_dput (hu_of hr) (pv 4) pe pe rfl) rfl (ev_tixv 2 ((works.c.getD x_2.toNat (T3.mk (0 : Int) (0 : Int) (0 : Int))).c) (ev_lixD (T3.mk (0 : Int) (0 : Int) (0 : Int)) (ev_tixv 2 (works.c) (ev_var 0 rfl)) (ev_var 2 rfl) (by omega) (by omega))) (ev_tkK (ev_tk (ks := [x_2, x_3]) (ea_cons (ev_var 2 rfl) (ea_cons (ev_var 5 rfl) ea_nil)))) (by omega)) ?_
          exact .nxs bv_nil (.eq (.eq (.eq (.any (.eq (.any .nil))))))
      intro colds e_colds
      exact .nxs bv_nil (.eq (.eq (.any (.any (.eq (.any .nil))))))
  intro colds_1 e_colds_1
  exact bv_retD2 1 4 (by decide) rfl rfl (fun pw qw => (ev_t2 (ea_cons (ev_var 1 rfl) (ea_cons (ev_var 4 rfl) ea_nil))))
/-! _law_order -/
def m_law_order (keys : (List KT2)) (cell : Int) : (List KT2) := (bif (decide (keys = ([] : (List KT2)))) then ([] : (List KT2)) else (let at_ : Int := (cell % (keys.length : Int)); (let found : (List KT2) := ((pySlice keys (some at_) none none) ++ (pySlice keys none (some at_) none)); (let b := (decide (((cell / (64 : Int)) % (2 : Int)) = (1 : Int))); (bif b then found.reverse else found)))))

theorem order_perm (keys : List KT2) (cell : Int) : (m_law_order keys cell).Perm keys := by
  unfold m_law_order
  by_cases q : keys = []
  · rw [decide_eq_true q, q]; exact List.Perm.refl _
  · rw [decide_eq_false q]
    have hl := List.length_pos_iff.mpr q
    have h0 := Int.emod_nonneg cell (b := (keys.length : Int)) (by omega)
    dsimp only
    have hp : (pySlice keys (some (cell % (keys.length : Int))) none none ++ pySlice keys none (some (cell % (keys.length : Int))) none).Perm keys := by
      rw [pySlice_drop _ h0, pySlice_take _ h0]
      refine List.perm_append_comm.trans ?_
      rw [List.take_append_drop]
    show (bif decide (cell / 64 % 2 = 1) then _ else _ : List KT2).Perm keys
    cases decide (cell / 64 % 2 = 1) with
    | true => exact (List.reverse_perm _).trans hp
    | false => exact hp
theorem order_mem {D : List (KT2 × Int)} {cell : Int} {x : KT2} : x ∈ m_law_order (sortK (D.map (·.1))) cell ↔ x ∈ D.map (·.1) := ((order_perm _ _).trans (sortK_perm _)).mem_iff
theorem order_in {D : List (KT2 × Int)} {cell : Int} {pre post : List KT2} {x : KT2} (h : m_law_order (sortK (D.map (·.1))) cell = pre ++ x :: post) : x ∈ D.map (·.1) := order_mem.mp (by rw [h]; simp)
theorem order_len {D : List (KT2 × Int)} {cell : Int} : (m_law_order (sortK (D.map (·.1))) cell).length = D.length := by rw [((order_perm _ _).trans (sortK_perm _)).length_eq, List.length_map]
theorem order_pre {D : List (KT2 × Int)} {cell : Int} {pre post : List KT2} {x : KT2} (h : m_law_order (sortK (D.map (·.1))) cell = pre ++ x :: post) : pre.length < D.length := by
  have := congrArg List.length h
  rw [order_len, List.length_append, List.length_cons] at this
  omega

def r_law_order (ds : List Dat) (d : Dat) : Prop := ∃ (keys : (List KT2)) (cell : Int), ds = [dt keys, dt cell] ∧ (keys.length ≤ 5000) ∧ d = dt (m_law_order keys cell)
abbrev s_law_order : Stmt := topS 20
theorem sc_law_order : FnScope ["keys", "cell", "at", "found"] ["keys", "cell"] (defScope s_law_order) := ⟨rfl, rfl, rfl, by decide +kernel, rfl, by decide +kernel, by decide +kernel⟩
theorem ok_law_order (T : Txt K mg)  {f : Addr} {fd : FuncData} (F : Fun K "_law_order" "_law_order" s_law_order f fd) : FnOk P w K mg base CX0 1 f fd ["keys", "cell"] (PSp K r_law_order) := by
  refine fn_pure F sc_law_order (fun ds d h => by obtain ⟨_, _, rfl, _⟩ := h; rfl) fun cdv A outer s H E ds d hr h => ?_
  obtain ⟨keys, cell, rfl, hpre, rfl⟩ := h
  refine bv_ifx (of := fun b_1 => .rt (dt (bif b_1 then ([] : (List KT2)) else (let at_ : Int := (cell % (keys.length : Int)); (let found : (List KT2) := ((pySlice keys (some at_) none none) ++ (pySlice keys none (some at_) none)); (let b := (decide (((cell / (64 : Int)) % (2 : Int)) = (1 : Int))); (bif b then found.reverse else found))))))) (et_deq hr.units (ev_var 0 rfl) (ev_new (en_lst (xs := ([] : (List KT2))) ea_nil)) (OkAll.all _) (OkAll.all _)) ?_ (by first | trivial | exact xo_ex _) ?_
  · intro hc
    exact bv_ret (ev_new (en_lst (xs := ([] : (List KT2))) ea_nil))
  · intro hc
    refine bv_let (of := fun at_ => .rt (dt (let found : (List KT2) := ((pySlice keys (some at_) none none) ++ (pySlice keys none (some at_) none)); (let b := (decide (((cell / (64 : Int)) % (2 : Int)) = (1 : Int))); (bif b then found.reverse else found))))) (sv_set 2 sc_law_order.nd (ev_mod (ev_var 1 rfl) (ev_len T.z_len (ev_var 0 rfl)) (by have := List.length_pos_iff.mpr (of_decide_eq_false hc); omega))) ?_
    intro at_ e_at_
    refine bv_let (of := fun found => .rt (dt (let b := (decide (((cell / (64 : Int)) % (2 : Int)) = (1 : Int))); (bif b then found.reverse else found)))) (sv_set 3 sc_law_order.nd (ev_new (en_catS (ev_new (en_slice (ev_var 0 rfl) (eo_some (ev_var 2 rfl)) eo_none eo_none (by decide))) (ev_new (en_slice (ev_var 0 rfl) eo_none (eo_some (ev_var 2 rfl)) eo_none (by decide))) (by have h1 := pySlice_len keys (some at_) none none; have h2 := pySlice_len keys none (some at_) none; omega)))) ?_
    intro found e_found
    refine bv_ifj (Γf := fun b => [.v (keys : (List KT2)), .v (cell : Int), .v (at_ : Int), .v ((bif b then found.reverse else found) : (List KT2))]) (of := fun b => .rt (dt (bif b then found.reverse else found))) (et_eq (ev_mod (ev_div (ev_var 1 rfl) ev_int (by first | exact ⟨by decide, by decide⟩ | exact ⟨by omega, by omega⟩)) ev_int (by first | decide | omega | (split <;> omega))) ev_int) ?_ ?_ ?_
    · intro hc_1
      refine bv_cons (sv_set 3 sc_law_order.nd (ev_new (en_listRev rfl T.z_list T.z_reversed (ev_var 3 rfl)))) ?_
      exact .nxs bv_nil (.eq (.eq (.eq (.eq .nil))))
    · intro hc_1
      exact .nxs bv_nil (.eq (.eq (.eq (.eq .nil))))
    intro b e_b
    exact bv_ret (ev_var 3 rfl)
/-! _law_drawn -/
def m_law_drawn_L2 (x : KT2) (works : (T3 Int (List (T3 Int Int Int)) (List (T3 Int Int Int)))) (script : (List Int)) (s_1 : (List (KT2 × Int)) × (List (KT2 × Int)) × (List (T5 Int Int Int Int Int)) × Int) (x_1 : KT2) : (List (KT2 × Int)) × (List (KT2 × Int)) × (List (T5 Int Int Int Int Int)) × Int := (let count_1 : Int := (s_1.2.2.2 + (1 : Int)); (let most : Int := (min ((dgetG s_1.1 (KT2.mk x.a x.b)).getD (0 : Int)) ((dgetG s_1.2.1 (KT2.mk x_1.a x_1.b)).getD (0 : Int))); (let number : Int := (m_law_mixed (m_law_cell_at script (count_1 % (max (1 : Int) (min (63 : Int) (script.length : Int))))) ((40 : Int) + count_1)); (let much : Int := (([most, ((number / (6 : Int)) % (most + (1 : Int))), (0 : Int)] : List Int).getD (([(0 : Int), (0 : Int), (1 : Int), (1 : Int), (1 : Int), (2 : Int)] : List Int).getD (number % (6 : Int)).toNat (0 : Int)).toNat (0 : Int)); (let b := ((decide ((x_1.b + works.a) ≤ x.b)) && (decide ((0 : Int) < much))); ((bif b then (dputG s_1.1 (KT2.mk x.a x.b) ((dgetG s_1.1 (KT2.mk x.a x.b)).getD 0 - much)) else s_1.1), (bif b then (dputG s_1.2.1 (KT2.mk x_1.a x_1.b) ((dgetG s_1.2.1 (KT2.mk x_1.a x_1.b)).getD 0 - much)) else s_1.2.1), (bif b then (s_1.2.2.1 ++ [(T5.mk x.a x.b x_1.a x_1.b much)]) else s_1.2.2.1), count_1))))))
def m_law_drawn_L1 (script : (List Int)) (works : (T3 Int (List (T3 Int Int Int)) (List (T3 Int Int Int)))) (s : (List (KT2 × Int)) × (List (KT2 × Int)) × (List (T5 Int Int Int Int Int)) × Int) (x : KT2) : (List (KT2 × Int)) × (List (KT2 × Int)) × (List (T5 Int Int Int Int Int)) × Int := (let r_1 : (List (KT2 × Int)) × (List (KT2 × Int)) × (List (T5 Int Int Int Int Int)) × Int := ((m_law_order (sortK (s.2.1.map (·.1))) (m_law_cell_at script (10 : Int))).foldl (m_law_drawn_L2 x works script) (s.1, s.2.1, s.2.2.1, s.2.2.2)); (r_1.1, r_1.2.1, r_1.2.2.1, r_1.2.2.2))
def m_law_drawn_L3 (r_3 : (List (KT2 × Int)) × (List (KT2 × Int)) × (List (T5 Int Int Int Int Int)) × Int) (s_2 : (List (T5 Int Int Int Int Int))) (x_2 : KT2) : (List (T5 Int Int Int Int Int)) := (let b_1 := (decide ((0 : Int) < ((dgetG r_3.1 (KT2.mk x_2.a x_2.b)).getD (0 : Int)))); (bif b_1 then (s_2 ++ [(T5.mk x_2.a x_2.b ((0 : Int) - (1 : Int)) ((0 : Int) - (1 : Int)) ((dgetG r_3.1 (KT2.mk x_2.a x_2.b)).getD (0 : Int)))]) else s_2))
def m_law_drawn_L4 (r_3 : (List (KT2 × Int)) × (List (KT2 × Int)) × (List (T5 Int Int Int Int Int)) × Int) (s_3 : (List (T5 Int Int Int Int Int))) (x_3 : KT2) : (List (T5 Int Int Int Int Int)) := (let b_2 := (decide ((0 : Int) < ((dgetG r_3.2.1 (KT2.mk x_3.a x_3.b)).getD (0 : Int)))); (bif b_2 then (s_3 ++ [(T5.mk ((0 : Int) - (1 : Int)) ((0 : Int) - (1 : Int)) x_3.a x_3.b ((dgetG r_3.2.1 (KT2.mk x_3.a x_3.b)).getD (0 : Int)))]) else s_3))
def m_law_drawn (works : (T3 Int (List (T3 Int Int Int)) (List (T3 Int Int Int)))) (script : (List Int)) : (List (T5 Int Int Int Int Int)) := (let t : (T2 (List (KT2 × Int)) (List (KT2 × Int))) := (m_law_steps works); (let count : Int := (0 : Int); (let r_3 : (List (KT2 × Int)) × (List (KT2 × Int)) × (List (T5 Int Int Int Int Int)) × Int := ((m_law_order (sortK (t.a.map (·.1))) (m_law_cell_at script (9 : Int))).foldl (m_law_drawn_L1 script works) (t.a, t.b, ([] : (List (T5 Int Int Int Int Int))), count)); (let passes : (List (T5 Int Int Int Int Int)) := ((r_3.1.map (·.1)).foldl (m_law_drawn_L3 r_3) r_3.2.2.1); (let passes_1 : (List (T5 Int Int Int Int Int)) := ((r_3.2.1.map (·.1)).foldl (m_law_drawn_L4 r_3) passes); passes_1)))))

structure NeedI (h0 c0 h c : List (KT2 × Int)) : Prop where
  kh : h.map (·.1) = h0.map (·.1)
  kc : c.map (·.1) = c0.map (·.1)
  vh : ∀ kv ∈ h, 0 ≤ kv.2
  vc : ∀ kv ∈ c, 0 ≤ kv.2
theorem steps_nn {works : T3 Int (List (T3 Int Int Int)) (List (T3 Int Int Int))} (h : WorksOk works) : NeedI (m_law_steps works).a (m_law_steps works).b (m_law_steps works).a (m_law_steps works).b := by
  have := steps_all (works := works) (P := fun kv => 0 ≤ kv.2) (Q := fun kv => 0 ≤ kv.2) (fun k x z _ _ hx _ _ => by have := (h.h x hx).a3; dsimp only; omega) (fun k x z _ _ hx _ _ => by have := (h.c x hx).a3; dsimp only; omega)
  exact ⟨rfl, rfl, this.1, this.2⟩
theorem val_nn {h : List (KT2 × Int)} (v : ∀ kv ∈ h, 0 ≤ kv.2) {k : KT2} (e : (dgetG h k).isSome = true) : 0 ≤ (dgetG h k).getD 0 := by
  cases e2 : dgetG h k with
  | none => rw [e2] at e; cases e
  | some y => exact v _ (dgetG_mem e2)
theorem need_most {h0 c0 h c : List (KT2 × Int)} {x y : KT2} (hx : (dgetG h x).isSome = true) (hy : (dgetG c y).isSome = true) (i : NeedI h0 c0 h c) : 0 ≤ min ((dgetG h x).getD 0) ((dgetG c y).getD 0) := by
  have h1 := val_nn i.vh hx
  have h2 := val_nn i.vc hy
  omega
theorem idx6 (n : Int) : 0 ≤ ([(0 : Int), 0, 1, 1, 1, 2] : List Int).getD (n % 6).toNat 0 ∧ ([(0 : Int), 0, 1, 1, 1, 2] : List Int).getD (n % 6).toNat 0 ≤ 2 := by
  have h : (n % 6).toNat = 0 ∨ (n % 6).toNat = 1 ∨ (n % 6).toNat = 2 ∨ (n % 6).toNat = 3 ∨ (n % 6).toNat = 4 ∨ (n % 6).toNat = 5 := by omega
  rcases h with e | e | e | e | e | e <;> rw [e] <;> decide
theorem much_ok {most : Int} (h : 0 ≤ most) (n : Int) : 0 ≤ ([most, n / 6 % (most + 1), 0] : List Int).getD (([(0 : Int), 0, 1, 1, 1, 2] : List Int).getD (n % 6).toNat 0).toNat 0 ∧ ([most, n / 6 % (most + 1), 0] : List Int).getD (([(0 : Int), 0, 1, 1, 1, 2] : List Int).getD (n % 6).toNat 0).toNat 0 ≤ most := by
  have hi := idx6 n
  generalize ([(0 : Int), 0, 1, 1, 1, 2] : List Int).getD (n % 6).toNat 0 = i at *
  have h1 := Int.emod_nonneg (n / 6) (b := most + 1) (by omega)
  have h2 := Int.emod_lt_of_pos (n / 6) (b := most + 1) (by omega)
  have e : i = 0 ∨ i = 1 ∨ i = 2 := by omega
  rcases e with rfl | rfl | rfl
  · exact ⟨h, Int.le_refl _⟩
  · exact ⟨h1, by show n / 6 % (most + 1) ≤ most; omega⟩
  · exact ⟨Int.le_refl _, h⟩

theorem steps_few4 {works : T3 Int (List (T3 Int Int Int)) (List (T3 Int Int Int))} (h : WorksM works) : (m_law_steps works).a.length ≤ 800 ∧ (m_law_steps works).b.length ≤ 800 := by
  have := steps_len h.ok
  have := h.n4; have := h.m4
  omega
theorem grow_len {α τ : Type} {f : List τ → α → List τ} (h : ∀ s x, (f s x).length ≤ s.length + 1) : ∀ (l : List α) (s : List τ), (l.foldl f s).length ≤ s.length + l.length
  | [], s => Nat.le_refl _
  | x :: r, s => by
    rw [List.foldl_cons, List.length_cons]
    have h1 := grow_len h r (f s x)
    have h2 := h s x
    omega
abbrev DrS := (List (KT2 × Int)) × (List (KT2 × Int)) × (List (T5 Int Int Int Int Int)) × Int
def DrawI (h0 c0 : List (KT2 × Int)) (n : Nat) (s : DrS) : Prop := NeedI h0 c0 s.1 s.2.1 ∧ s.2.2.1.length ≤ n
/-- one pass, at most: what is told of it -/
theorem pass_is (x : KT2) (works : T3 Int (List (T3 Int Int Int)) (List (T3 Int Int Int))) (script : List Int) (s : DrS) (y : KT2) (hm : 0 ≤ min ((dgetG s.1 x).getD 0) ((dgetG s.2.1 y).getD 0)) : ((m_law_drawn_L2 x works script s y).1 = s.1 ∧ (m_law_drawn_L2 x works script s y).2.1 = s.2.1 ∧ (m_law_drawn_L2 x works script s y).2.2.1 = s.2.2.1) ∨ (y.b + works.a ≤ x.b ∧ ∃ m, 0 < m ∧ m ≤ (dgetG s.1 x).getD 0 ∧ m ≤ (dgetG s.2.1 y).getD 0 ∧ (m_law_drawn_L2 x works script s y).1 = dputG s.1 x ((dgetG s.1 x).getD 0 - m) ∧ (m_law_drawn_L2 x works script s y).2.1 = dputG s.2.1 y ((dgetG s.2.1 y).getD 0 - m) ∧ (m_law_drawn_L2 x works script s y).2.2.1 = s.2.2.1 ++ [T5.mk x.a x.b y.a y.b m]) := by
  have hu := much_ok hm (m_law_mixed (m_law_cell_at script ((s.2.2.2 + 1) % (max 1 (min 63 (script.length : Int))))) (40 + (s.2.2.2 + 1)))
  have e : ∀ b : Bool, (decide (y.b + works.a ≤ x.b) && decide (0 < (([min ((dgetG s.1 x).getD 0) ((dgetG s.2.1 y).getD 0), m_law_mixed (m_law_cell_at script ((s.2.2.2 + 1) % (max 1 (min 63 (script.length : Int))))) (40 + (s.2.2.2 + 1)) / 6 % (min ((dgetG s.1 x).getD 0) ((dgetG s.2.1 y).getD 0) + 1), 0] : List Int).getD (([(0 : Int), 0, 1, 1, 1, 2] : List Int).getD (m_law_mixed (m_law_cell_at script ((s.2.2.2 + 1) % (max 1 (min 63 (script.length : Int))))) (40 + (s.2.2.2 + 1)) % 6).toNat 0).toNat 0))) = b → (m_law_drawn_L2 x works script s y).1 = (bif b then dputG s.1 x ((dgetG s.1 x).getD 0 - (([min ((dgetG s.1 x).getD 0) ((dgetG s.2.1 y).getD 0), m_law_mixed (m_law_cell_at script ((s.2.2.2 + 1) % (max 1 (min 63 (script.length : Int))))) (40 + (s.2.2.2 + 1)) / 6 % (min ((dgetG s.1 x).getD 0) ((dgetG s.2.1 y).getD 0) + 1), 0] : List Int).getD (([(0 : Int), 0, 1, 1, 1, 2] : List Int).getD (m_law_mixed (m_law_cell_at script ((s.2.2.2 + 1) % (max 1 (min 63 (script.length : Int))))) (40 + (s.2.2.2 + 1)) % 6).toNat 0).toNat 0)) else s.1) ∧ (m_law_drawn_L2 x works script s y).2.1 = (bif b then dputG s.2.1 y ((dgetG s.2.1 y).getD 0 - (([min ((dgetG s.1 x).getD 0) ((dgetG s.2.1 y).getD 0), m_law_mixed (m_law_cell_at script ((s.2.2.2 + 1) % (max 1 (min 63 (script.length : Int))))) (40 + (s.2.2.2 + 1)) / 6 % (min ((dgetG s.1 x).getD 0) ((dgetG s.2.1 y).getD 0) + 1), 0] : List Int).getD (([(0 : Int), 0, 1, 1, 1, 2] : List Int).getD (m_law_mixed (m_law_cell_at script ((s.2.2.2 + 1) % (max 1 (min 63 (script.length : Int))))) (40 + (s.2.2.2 + 1)) % 6).toNat 0).toNat 0)) else s.2.1) ∧ (m_law_drawn_L2 x works script s y).2.2.1 = (bif b then s.2.2.1 ++ [T5.mk x.a x.b y.a y.b (([min ((dgetG s.1 x).getD 0) ((dgetG s.2.1 y).getD 0), m_law_mixed (m_law_cell_at script ((s.2.2.2 + 1) % (max 1 (min 63 (script.length : Int))))) (40 + (s.2.2.2 + 1)) / 6 % (min ((dgetG s.1 x).getD 0) ((dgetG s.2.1 y).getD 0) + 1), 0] : List Int).getD (([(0 : Int), 0, 1, 1, 1, 2] : List Int).getD (m_law_mixed (m_law_cell_at script ((s.2.2.2 + 1) % (max 1 (min 63 (script.length : Int))))) (40 + (s.2.2.2 + 1)) % 6).toNat 0).toNat 0)] else s.2.2.1) := fun b hb => by
    subst hb
    exact ⟨rfl, rfl, rfl⟩
  generalize (([min ((dgetG s.1 x).getD 0) ((dgetG s.2.1 y).getD 0), m_law_mixed (m_law_cell_at script ((s.2.2.2 + 1) % (max 1 (min 63 (script.length : Int))))) (40 + (s.2.2.2 + 1)) / 6 % (min ((dgetG s.1 x).getD 0) ((dgetG s.2.1 y).getD 0) + 1), 0] : List Int).getD (([(0 : Int), 0, 1, 1, 1, 2] : List Int).getD (m_law_mixed (m_law_cell_at script ((s.2.2.2 + 1) % (max 1 (min 63 (script.length : Int))))) (40 + (s.2.2.2 + 1)) % 6).toNat 0).toNat 0) = m at *
  by_cases q : y.b + works.a ≤ x.b ∧ 0 < m
  · have := e true (by rw [decide_eq_true q.1, decide_eq_true q.2]; rfl)
    exact .inr ⟨q.1, m, q.2, Int.le_trans hu.2 (by omega), Int.le_trans hu.2 (by omega), this⟩
  · refine .inl (e false ?_)
    by_cases q1 : y.b + works.a ≤ x.b
    · rw [decide_eq_true q1, decide_eq_false (fun z => q ⟨q1, z⟩)]; rfl
    · rw [decide_eq_false q1]; rfl
theorem draw_L2 {h0 c0 : List (KT2 × Int)} {x y : KT2} {n : Nat} {pre : List KT2} {works : T3 Int (List (T3 Int Int Int)) (List (T3 Int Int Int))} {script : List Int} {s : DrS} (i : DrawI h0 c0 (n + pre.length) s) (hx : x ∈ h0.map (·.1)) (hy : y ∈ c0.map (·.1)) : DrawI h0 c0 (n + (pre ++ [y]).length) (m_law_drawn_L2 x works script s y) := by
  have hx1 : x ∈ s.1.map (·.1) := by rw [i.1.kh]; exact hx
  have hy1 : y ∈ s.2.1.map (·.1) := by rw [i.1.kc]; exact hy
  have i2 := i.2
  unfold DrawI
  rw [List.length_append, List.length_singleton]
  rcases pass_is x works script s y (need_most (dgetG_has hx1) (dgetG_has hy1) i.1) with ⟨e1, e2, e3⟩ | ⟨_, m, m0, m1, m2, e1, e2, e3⟩
  · rw [e1, e2, e3]; exact ⟨i.1, by omega⟩
  · rw [e1, e2, e3]
    exact ⟨⟨by rw [dputG_keys hx1]; exact i.1.kh, by rw [dputG_keys hy1]; exact i.1.kc, dputG_all i.1.vh (by dsimp only; omega), dputG_all i.1.vc (by dsimp only; omega)⟩, by rw [List.length_append, List.length_singleton]; omega⟩
theorem draw_fold {h0 c0 : List (KT2 × Int)} {x : KT2} {n : Nat} {works : T3 Int (List (T3 Int Int Int)) (List (T3 Int Int Int))} {script : List Int} (hx : x ∈ h0.map (·.1)) : ∀ (l pre : List KT2) (s : DrS), DrawI h0 c0 (n + pre.length) s → (∀ y ∈ l, y ∈ c0.map (·.1)) → DrawI h0 c0 (n + (pre ++ l).length) (l.foldl (m_law_drawn_L2 x works script) s)
  | [], pre, s, h, _ => by rw [List.append_nil]; exact h
  | y :: r, pre, s, h, hl => by
    have := draw_fold (works := works) (script := script) hx r (pre ++ [y]) _ (draw_L2 (works := works) (script := script) h hx (hl y (by simp))) fun z hz => hl z (by simp [hz])
    rw [List.append_assoc] at this
    exact this
theorem draw_L1 {h0 c0 : List (KT2 × Int)} {x : KT2} {pre : List KT2} {works : T3 Int (List (T3 Int Int Int)) (List (T3 Int Int Int))} {script : List Int} {s : DrS} (hc : c0.length ≤ 800) (i : DrawI h0 c0 (800 * pre.length) s) (hx : x ∈ h0.map (·.1)) : DrawI h0 c0 (800 * (pre ++ [x]).length) (m_law_drawn_L1 script works s x) := by
  have h := draw_fold (n := 800 * pre.length) (works := works) (script := script) hx (m_law_order (sortK (s.2.1.map (·.1))) (m_law_cell_at script (10 : Int))) [] (s.1, s.2.1, s.2.2.1, s.2.2.2) i fun y hy => by rw [← i.1.kc]; exact order_mem.mp hy
  have e : (m_law_order (sortK (s.2.1.map (·.1))) (m_law_cell_at script (10 : Int))).length ≤ 800 := by
    rw [order_len]
    have h2 := congrArg List.length i.1.kc
    rw [List.length_map, List.length_map] at h2
    omega
  refine ⟨h.1, Nat.le_trans h.2 ?_⟩
  rw [List.nil_append, List.length_append, List.length_singleton]
  omega
theorem draw_all {h0 c0 : List (KT2 × Int)} {works : T3 Int (List (T3 Int Int Int)) (List (T3 Int Int Int))} {script : List Int} (i : NeedI h0 c0 h0 c0) (hh : h0.length ≤ 800) (hc : c0.length ≤ 800) {cell : Int} : DrawI h0 c0 640000 ((m_law_order (sortK (h0.map (·.1))) cell).foldl (m_law_drawn_L1 script works) (h0, c0, ([] : List (T5 Int Int Int Int Int)), (0 : Int))) := by
  have go : ∀ (l pre : List KT2) (s : DrS), DrawI h0 c0 (800 * pre.length) s → (∀ y ∈ l, y ∈ h0.map (·.1)) → DrawI h0 c0 (800 * (pre ++ l).length) (l.foldl (m_law_drawn_L1 script works) s) := fun l => by
    induction l with
    | nil => intro pre s h _; rw [List.append_nil]; exact h
    | cons y r ih =>
      intro pre s h hl
      have := ih (pre ++ [y]) _ (draw_L1 (works := works) (script := script) hc h (hl y (by simp))) fun z hz => hl z (by simp [hz])
      rw [List.append_assoc] at this
      exact this
  have h := go (m_law_order (sortK (h0.map (·.1))) cell) [] (h0, c0, ([] : List (T5 Int Int Int Int Int)), (0 : Int)) ⟨i, by simp⟩ fun y hy => order_mem.mp hy
  refine ⟨h.1, Nat.le_trans h.2 ?_⟩
  rw [List.nil_append, order_len]
  omega
theorem draw_L3 (r : DrS) (s : List (T5 Int Int Int Int Int)) (x : KT2) : (m_law_drawn_L3 r s x).length ≤ s.length + 1 := by
  unfold m_law_drawn_L3
  dsimp only
  cases decide ((0 : Int) < (dgetG r.1 (KT2.mk x.a x.b)).getD 0) with
  | true => show (s ++ [_]).length ≤ _; rw [List.length_append, List.length_singleton]; exact Nat.le_refl _
  | false => exact Nat.le_succ _
theorem draw_L4 (r : DrS) (s : List (T5 Int Int Int Int Int)) (x : KT2) : (m_law_drawn_L4 r s x).length ≤ s.length + 1 := by
  unfold m_law_drawn_L4
  dsimp only
  cases decide ((0 : Int) < (dgetG r.2.1 (KT2.mk x.a x.b)).getD 0) with
  | true => show (s ++ [_]).length ≤ _; rw [List.length_append, List.length_singleton]; exact Nat.le_refl _
  | false => exact Nat.le_succ _
theorem drawn_few {w : T3 Int (List (T3 Int Int Int)) (List (T3 Int Int Int))} (h : WorksM w) (script : List Int) : (m_law_drawn w script).length ≤ 641600 := by
  have hf := steps_few4 h
  have hR := draw_all (works := w) (script := script) (steps_nn h.ok) hf.1 hf.2 (cell := m_law_cell_at script 9)
  have h1 := congrArg List.length hR.1.kh
  have h2 := congrArg List.length hR.1.kc
  rw [List.length_map, List.length_map] at h1 h2
  have h3 := hR.2
  unfold m_law_drawn
  dsimp only
  generalize ((m_law_order (sortK ((m_law_steps w).a.map (·.1))) (m_law_cell_at script (9 : Int))).foldl (m_law_drawn_L1 script w) ((m_law_steps w).a, (m_law_steps w).b, ([] : (List (T5 Int Int Int Int Int))), (0 : Int))) = r at *
  have a1 := grow_len (draw_L3 r) (r.1.map (·.1)) r.2.2.1
  have a2 := grow_len (draw_L4 r) (r.2.1.map (·.1)) ((r.1.map (·.1)).foldl (m_law_drawn_L3 r) r.2.2.1)
  rw [List.length_map] at a1 a2
  omega

def r_law_drawn (ds : List Dat) (d : Dat) : Prop := ∃ (works : (T3 Int (List (T3 Int Int Int)) (List (T3 Int Int Int)))) (script : (List Int)), ds = [dt works, dt script] ∧ (WorksM works) ∧ d = dt (m_law_drawn works script)
abbrev s_law_drawn : Stmt := topS 21
theorem sc_law_drawn : FnScope ["works", "script", "hots", "colds", "passes", "count", "giver", "at", "taker", "into", "most", "number", "much"] ["works", "script"] (defScope s_law_drawn) := ⟨rfl, rfl, rfl, by decide +kernel, rfl, by decide +kernel, by decide +kernel⟩
theorem ok_law_drawn (T : Txt K mg) (H_law_cell_at : FnAt P w K mg base "_law_cell_at" 1 ["script", "k"] r_law_cell_at) (H_law_mixed : FnAt P w K mg base "_law_mixed" 1 ["cell", "k"] r_law_mixed) (H_law_order : FnAt P w K mg base "_law_order" 1 ["keys", "cell"] r_law_order) (H_law_steps : FnAtO P w K mg base "_law_steps" 1 ["works"] r_law_steps) {f : Addr} {fd : FuncData} (F : Fun K "_law_drawn" "_law_drawn" s_law_drawn f fd) : FnOk P w K mg base CX0 2 f fd ["works", "script"] (PSp K r_law_drawn) := by
  refine fn_pure F sc_law_drawn (fun ds d h => by obtain ⟨_, _, rfl, _⟩ := h; rfl) fun cdv A outer s H E ds d hr h => ?_
  obtain ⟨works, script, rfl, hpre, rfl⟩ := h
  refine bv_letS (fun (t : (T2 (List (KT2 × Int)) (List (KT2 × Int)))) => [.v (works : (T3 Int (List (T3 Int Int Int)) (List (T3 Int Int Int)))), .v (script : (List Int)), .o (MDK.mk (t.a : (List (KT2 × Int)))), .o (MDK.mk (t.b : (List (KT2 × Int)))), .any, .any, .any, .any, .any, .any, .any, .any, .any]) (of := fun t => .rt (dt (let count : Int := (0 : Int); (let r_3 : (List (KT2 × Int)) × (List (KT2 × Int)) × (List (T5 Int Int Int Int Int)) × Int := ((m_law_order (sortK (t.a.map (·.1))) (m_law_cell_at script (9 : Int))).foldl (m_law_drawn_L1 script works) (t.a, t.b, ([] : (List (T5 Int Int Int Int Int))), count)); (let passes : (List (T5 Int Int Int Int Int)) := ((r_3.1.map (·.1)).foldl (m_law_drawn_L3 r_3) r_3.2.2.1); (let passes_1 : (List (T5 Int Int Int Int Int)) := ((r_3.2.1.map (·.1)).foldl (m_law_drawn_L4 r_3) passes); passes_1)))))) (x := (m_law_steps works)) (sv_asgD2 2 3 (by decide) (xs := (m_law_steps works).a) (ys := (m_law_steps works).b) (en_fnO H_law_steps hr (by decide) (ea_cons (ev_var 0 rfl) ea_nil) ⟨_, rfl, hpre.ok, rfl⟩) (fun pw qw => (tv_tup (tvs_cons (tv_name 2 sc_law_drawn.nd) (tvs_cons (tv_name 3 sc_law_drawn.nd) tvs_nil))))) ?_
  intro t e_t
  have hD := steps_nn hpre.ok; have hF := steps_few4 hpre; rw [← e_t] at hD hF
  refine bv_cons (sv_own 4 sc_law_drawn.nd (en_lst (xs := ([] : (List (T5 Int Int Int Int Int)))) ea_nil)) ?_
  refine bv_let (of := fun count => .rt (dt (let r_3 : (List (KT2 × Int)) × (List (KT2 × Int)) × (List (T5 Int Int Int Int Int)) × Int := ((m_law_order (sortK (t.a.map (·.1))) (m_law_cell_at script (9 : Int))).foldl (m_law_drawn_L1 script works) (t.a, t.b, ([] : (List (T5 Int Int Int Int Int))), count)); (let passes : (List (T5 Int Int Int Int Int)) := ((r_3.1.map (·.1)).foldl (m_law_drawn_L3 r_3) r_3.2.2.1); (let passes_1 : (List (T5 Int Int Int Int Int)) := ((r_3.2.1.map (·.1)).foldl (m_law_drawn_L4 r_3) passes); passes_1))))) (sv_set 5 sc_law_drawn.nd ev_int) ?_
  intro count e_count
  refine bv_letS (fun (r_3 : (List (KT2 × Int)) × (List (KT2 × Int)) × (List (T5 Int Int Int Int Int)) × Int) => [.v (works : (T3 Int (List (T3 Int Int Int)) (List (T3 Int Int Int)))), .v (script : (List Int)), .o (MDK.mk (r_3.1 : (List (KT2 × Int)))), .o (MDK.mk (r_3.2.1 : (List (KT2 × Int)))), .l (r_3.2.2.1 : (List (T5 Int Int Int Int Int))), .v (r_3.2.2.2 : Int), .any, .any, .any, .any, .any, .any, .any]) (of := fun r_3 => .rt (dt (let passes : (List (T5 Int Int Int Int Int)) := ((r_3.1.map (·.1)).foldl (m_law_drawn_L3 r_3) r_3.2.2.1); (let passes_1 : (List (T5 Int Int Int Int Int)) := ((r_3.2.1.map (·.1)).foldl (m_law_drawn_L4 r_3) passes); passes_1)))) (x := ((m_law_order (sortK (t.a.map (·.1))) (m_law_cell_at script (9 : Int))).foldl (m_law_drawn_L1 script works) (t.a, t.b, ([] : (List (T5 Int Int Int Int Int))), count))) ?_ ?_
  · refine sv_forI (fun (s : (List (KT2 × Int)) × (List (KT2 × Int)) × (List (T5 Int Int Int Int Int)) × Int) => [.v (works : (T3 Int (List (T3 Int Int Int)) (List (T3 Int Int Int)))), .v (script : (List Int)), .o (MDK.mk (s.1 : (List (KT2 × Int)))), .o (MDK.mk (s.2.1 : (List (KT2 × Int)))), .l (s.2.2.1 : (List (T5 Int Int Int Int Int))), .v (s.2.2.2 : Int), .any, .any, .any, .any, .any, .any, .any]) (t.a, t.b, ([] : (List (T5 Int Int Int Int Int))), count) (m_law_drawn_L1 script works) (fun (pre : List KT2) (s : (List (KT2 × Int)) × (List (KT2 × Int)) × (List (T5 Int Int Int Int Int)) × Int) => DrawI t.a t.b (800 * pre.length) s) (iv_list (ev_fn H_law_order hr (by decide) (ea_cons (ev_new (en_sortedOK 2 rfl T.z_sorted (pv 2) rfl)) (ea_cons (ev_fn H_law_cell_at hr (by decide) (ea_cons (ev_var 1 rfl) (ea_cons ev_int ea_nil)) ⟨_, _, rfl, (by first | decide | exact Int.emod_nonneg _ (by omega)), rfl⟩) ea_nil)) ⟨_, _, rfl, (by rw [(sortK_perm _).length_eq, List.length_map]; first | omega | (have h2 := congrArg List.length hI.1.kc; rw [List.length_map, List.length_map] at h2; omega)), rfl⟩)) (.eq (.eq (.eq (.eq (.eq (.eq (.any (.any (.any (.any (.any (.any (.any .nil))))))))))))) (fun (s : (List (KT2 × Int)) × (List (KT2 × Int)) × (List (T5 Int Int Int Int Int)) × Int) (x : KT2) => [.v (works : (T3 Int (List (T3 Int Int Int)) (List (T3 Int Int Int)))), .v (script : (List Int)), .o (MDK.mk (s.1 : (List (KT2 × Int)))), .o (MDK.mk (s.2.1 : (List (KT2 × Int)))), .l (s.2.2.1 : (List (T5 Int Int Int Int Int))), .v (s.2.2.2 : Int), .v (x.a : Int), .v (x.b : Int), .any, .any, .any, .any, .any]) (fun s x => (tv_tup (tvs_cons (tv_name 6 sc_law_drawn.nd) (tvs_cons (tv_name 7 sc_law_drawn.nd) tvs_nil)))) ⟨hD, by simp⟩ (fun pre x s hm h => draw_L1 hF.2 h (order_mem.mp hm)) ?_ PassesOwn.never
    · intro pre x post s hx hs hI
      have hl0 := order_pre hx
      refine bv_letS (fun (r_1 : (List (KT2 × Int)) × (List (KT2 × Int)) × (List (T5 Int Int Int Int Int)) × Int) => [.v (works : (T3 Int (List (T3 Int Int Int)) (List (T3 Int Int Int)))), .v (script : (List Int)), .o (MDK.mk (r_1.1 : (List (KT2 × Int)))), .o (MDK.mk (r_1.2.1 : (List (KT2 × Int)))), .l (r_1.2.2.1 : (List (T5 Int Int Int Int Int))), .v (r_1.2.2.2 : Int), .v (x.a : Int), .v (x.b : Int), .any, .any, .any, .any, .any]) (of := fun r_1 => .nx ((fun (s : (List (KT2 × Int)) × (List (KT2 × Int)) × (List (T5 Int Int Int Int Int)) × Int) => [.v (works : (T3 Int (List (T3 Int Int Int)) (List (T3 Int Int Int)))), .v (script : (List Int)), .o (MDK.mk (s.1 : (List (KT2 × Int)))), .o (MDK.mk (s.2.1 : (List (KT2 × Int)))), .l (s.2.2.1 : (List (T5 Int Int Int Int Int))), .v (s.2.2.2 : Int), .any, .any, .any, .any, .any, .any, .any]) (r_1.1, r_1.2.1, r_1.2.2.1, r_1.2.2.2))) (x := ((m_law_order (sortK (s.2.1.map (·.1))) (m_law_cell_at script (10 : Int))).foldl (m_law_drawn_L2 x works script) (s.1, s.2.1, s.2.2.1, s.2.2.2))) ?_ ?_
      · refine sv_forI (fun (s_1 : (List (KT2 × Int)) × (List (KT2 × Int)) × (List (T5 Int Int Int Int Int)) × Int) => [.v (works : (T3 Int (List (T3 Int Int Int)) (List (T3 Int Int Int)))), .v (script : (List Int)), .o (MDK.mk (s_1.1 : (List (KT2 × Int)))), .o (MDK.mk (s_1.2.1 : (List (KT2 × Int)))), .l (s_1.2.2.1 : (List (T5 Int Int Int Int Int))), .v (s_1.2.2.2 : Int), .v (x.a : Int), .v (x.b : Int), .any, .any, .any, .any, .any]) (s.1, s.2.1, s.2.2.1, s.2.2.2) (m_law_drawn_L2 x works script) (fun (pre : List KT2) (s_1 : (List (KT2 × Int)) × (List (KT2 × Int)) × (List (T5 Int Int Int Int Int)) × Int) => DrawI t.a t.b (s.2.2.1.length + pre.length) s_1) (iv_list (ev_fn H_law_order hr (by decide) (ea_cons (ev_new (en_sortedOK 3 rfl T.z_sorted (pv 3) rfl)) (ea_cons (ev_fn H_law_cell_at hr (by decide) (ea_cons (ev_var 1 rfl) (ea_cons ev_int ea_nil)) ⟨_, _, rfl, (by first | decide | exact Int.emod_nonneg _ (by omega)), rfl⟩) ea_nil)) ⟨_, _, rfl, (by rw [(sortK_perm _).length_eq, List.length_map]; first | omega | (have h2 := congrArg List.length hI.1.kc; rw [List.length_map, List.length_map] at h2; omega)), rfl⟩)) (.eq (.eq (.eq (.eq (.eq (.eq (.eq (.eq (.any (.any (.any (.any (.any .nil))))))))))))) (fun (s_1 : (List (KT2 × Int)) × (List (KT2 × Int)) × (List (T5 Int Int Int Int Int)) × Int) (x_1 : KT2) => [.v (works : (T3 Int (List (T3 Int Int Int)) (List (T3 Int Int Int)))), .v (script : (List Int)), .o (MDK.mk (s_1.1 : (List (KT2 × Int)))), .o (MDK.mk (s_1.2.1 : (List (KT2 × Int)))), .l (s_1.2.2.1 : (List (T5 Int Int Int Int Int))), .v (s_1.2.2.2 : Int), .v (x.a : Int), .v (x.b : Int), .v (x_1.a : Int), .v (x_1.b : Int), .any, .any, .any]) (fun s_1 x_1 => (tv_tup (tvs_cons (tv_name 8 sc_law_drawn.nd) (tvs_cons (tv_name 9 sc_law_drawn.nd) tvs_nil)))) ⟨hI.1, by simp⟩ (fun pre z s_ hm h => draw_L2 h (order_in hx) (by rw [← hI.1.kc]; exact order_mem.mp hm)) ?_ PassesOwn.never
        · intro pre x_1 post s_1 hx_1 hs_1 hI_1
          have hl1 := order_pre hx_1
          have hl2 := congrArg List.length hI.1.kc
          rw [List.length_map, List.length_map] at hl2
          have hl3 := hI.2
          have hl4 := hI_1.2
          refine bv_let (of := fun count_1 => .nx ((fun (s_1 : (List (KT2 × Int)) × (List (KT2 × Int)) × (List (T5 Int Int Int Int Int)) × Int) => [.v (works : (T3 Int (List (T3 Int Int Int)) (List (T3 Int Int Int)))), .v (script : (List Int)), .o (MDK.mk (s_1.1 : (List (KT2 × Int)))), .o (MDK.mk (s_1.2.1 : (List (KT2 × Int)))), .l (s_1.2.2.1 : (List (T5 Int Int Int Int Int))), .v (s_1.2.2.2 : Int), .v (x.a : Int), .v (x.b : Int), .any, .any, .any, .any, .any]) (let most : Int := (min ((dgetG s_1.1 (KT2.mk x.a x.b)).getD (0 : Int)) ((dgetG s_1.2.1 (KT2.mk x_1.a x_1.b)).getD (0 : Int))); (let number : Int := (m_law_mixed (m_law_cell_at script (count_1 % (max (1 : Int) (min (63 : Int) (script.length : Int))))) ((40 : Int) + count_1)); (let much : Int := (([most, ((number / (6 : Int)) % (most + (1 : Int))), (0 : Int)] : List Int).getD (([(0 : Int), (0 : Int), (1 : Int), (1 : Int), (1 : Int), (2 : Int)] : List Int).getD (number % (6 : Int)).toNat (0 : Int)).toNat (0 : Int)); (let b := ((decide ((x_1.b + works.a) ≤ x.b)) && (decide ((0 : Int) < much))); ((bif b then (dputG s_1.1 (KT2.mk x.a x.b) ((dgetG s_1.1 (KT2.mk x.a x.b)).getD 0 - much)) else s_1.1), (bif b then (dputG s_1.2.1 (KT2.mk x_1.a x_1.b) ((dgetG s_1.2.1 (KT2.mk x_1.a x_1.b)).getD 0 - much)) else s_1.2.1), (bif b then (s_1.2.2.1 ++ [(T5.mk x.a x.b x_1.a x_1.b much)]) else s_1.2.2.1), count_1))))))) (sv_aug 5 sc_law_drawn.nd ip_add rfl ev_int) ?_
          intro count_1 e_count_1
          refine bv_let (of := fun most => .nx ((fun (s_1 : (List (KT2 × Int)) × (List (KT2 × Int)) × (List (T5 Int Int Int Int Int)) × Int) => [.v (works : (T3 Int (List (T3 Int Int Int)) (List (T3 Int Int Int)))), .v (script : (List Int)), .o (MDK.mk (s_1.1 : (List (KT2 × Int)))), .o (MDK.mk (s_1.2.1 : (List (KT2 × Int)))), .l (s_1.2.2.1 : (List (T5 Int Int Int Int Int))), .v (s_1.2.2.2 : Int), .v (x.a : Int), .v (x.b : Int), .any, .any, .any, .any, .any]) (let number : Int := (m_law_mixed (m_law_cell_at script (count_1 % (max (1 : Int) (min (63 : Int) (script.length : Int))))) ((40 : Int) + count_1)); (let much : Int := (([most, ((number / (6 : Int)) % (most + (1 : Int))), (0 : Int)] : List Int).getD (([(0 : Int), (0 : Int), (1 : Int), (1 : Int), (1 : Int), (2 : Int)] : List Int).getD (number % (6 : Int)).toNat (0 : Int)).toNat (0 : Int)); (let b := ((decide ((x_1.b + works.a) ≤ x.b)) && (decide ((0 : Int) < much))); ((bif b then (dputG s_1.1 (KT2.mk x.a x.b) ((dgetG s_1.1 (KT2.mk x.a x.b)).getD 0 - much)) else s_1.1), (bif b then (dputG s_1.2.1 (KT2.mk x_1.a x_1.b) ((dgetG s_1.2.1 (KT2.mk x_1.a x_1.b)).getD 0 - much)) else s_1.2.1), (bif b then (s_1.2.2.1 ++ [(T5.mk x.a x.b x_1.a x_1.b much)]) else s_1.2.2.1), count_1)))))) (sv_set 10 sc_law_drawn.nd (ev_fz 2 rfl (ev_fz 3 rfl (ev_min2 rfl T.z_min (ev_dixK hr.units (ev_var 2 rfl) (ev_tkK (ev_tk (ks := [x.a, x.b]) (ea_cons (ev_var 6 rfl) (ea_cons (ev_var 7 rfl) ea_nil)))) (dgetG_of (0 : Int) (dgetG_has (show KT2.mk x.a x.b ∈ s_1.1.map (·.1) by rw [hI_1.1.kh]; exact order_in hx)))) (ev_dixK hr.units (ev_var 3 rfl) (ev_tkK (ev_tk (ks := [x_1.a, x_1.b]) (ea_cons (ev_var 8 rfl) (ea_cons (ev_var 9 rfl) ea_nil)))) (dgetG_of (0 : Int) (dgetG_has (show KT2.mk x_1.a x_1.b ∈ s_1.2.1.map (·.1) by rw [hI_1.1.kc, ← hI.1.kc]; exact order_in hx_1)))))))) ?_
          intro most e_most
          have hM : 0 ≤ most := e_most ▸ need_most (dgetG_has (show KT2.mk x.a x.b ∈ s_1.1.map (·.1) by rw [hI_1.1.kh]; exact order_in hx)) (dgetG_has (show KT2.mk x_1.a x_1.b ∈ s_1.2.1.map (·.1) by rw [hI_1.1.kc, ← hI.1.kc]; exact order_in hx_1)) hI_1.1
          refine bv_let (of := fun number => .nx ((fun (s_1 : (List (KT2 × Int)) × (List (KT2 × Int)) × (List (T5 Int Int Int Int Int)) × Int) => [.v (works : (T3 Int (List (T3 Int Int Int)) (List (T3 Int Int Int)))), .v (script : (List Int)), .o (MDK.mk (s_1.1 : (List (KT2 × Int)))), .o (MDK.mk (s_1.2.1 : (List (KT2 × Int)))), .l (s_1.2.2.1 : (List (T5 Int Int Int Int Int))), .v (s_1.2.2.2 : Int), .v (x.a : Int), .v (x.b : Int), .any, .any, .any, .any, .any]) (let much : Int := (([most, ((number / (6 : Int)) % (most + (1 : Int))), (0 : Int)] : List Int).getD (([(0 : Int), (0 : Int), (1 : Int), (1 : Int), (1 : Int), (2 : Int)] : List Int).getD (number % (6 : Int)).toNat (0 : Int)).toNat (0 : Int)); (let b := ((decide ((x_1.b + works.a) ≤ x.b)) && (decide ((0 : Int) < much))); ((bif b then (dputG s_1.1 (KT2.mk x.a x.b) ((dgetG s_1.1 (KT2.mk x.a x.b)).getD 0 - much)) else s_1.1), (bif b then (dputG s_1.2.1 (KT2.mk x_1.a x_1.b) ((dgetG s_1.2.1 (KT2.mk x_1.a x_1.b)).getD 0 - much)) else s_1.2.1), (bif b then (s_1.2.2.1 ++ [(T5.mk x.a x.b x_1.a x_1.b much)]) else s_1.2.2.1), count_1))))) (sv_set 11 sc_law_drawn.nd (ev_fn H_law_mixed hr (by decide) (ea_cons (ev_fn H_law_cell_at hr (by decide) (ea_cons (ev_var 1 rfl) (ea_cons (ev_mod (ev_var 5 rfl) (ev_max2 rfl T.z_max ev_int (ev_min2 rfl T.z_min ev_int (ev_len T.z_len (ev_var 1 rfl)))) (by first | decide | omega | (split <;> omega))) ea_nil)) ⟨_, _, rfl, (by first | decide | exact Int.emod_nonneg _ (by omega)), rfl⟩) (ea_cons (ev_add ev_int (ev_var 5 rfl)) ea_nil)) ⟨_, _, rfl, rfl⟩)) ?_
          intro number e_number
          refine bv_let (of := fun much => .nx ((fun (s_1 : (List (KT2 × Int)) × (List (KT2 × Int)) × (List (T5 Int Int Int Int Int)) × Int) => [.v (works : (T3 Int (List (T3 Int Int Int)) (List (T3 Int Int Int)))), .v (script : (List Int)), .o (MDK.mk (s_1.1 : (List (KT2 × Int)))), .o (MDK.mk (s_1.2.1 : (List (KT2 × Int)))), .l (s_1.2.2.1 : (List (T5 Int Int Int Int Int))), .v (s_1.2.2.2 : Int), .v (x.a : Int), .v (x.b : Int), .any, .any, .any, .any, .any]) (let b := ((decide ((x_1.b + works.a) ≤ x.b)) && (decide ((0 : Int) < much))); ((bif b then (dputG s_1.1 (KT2.mk x.a x.b) ((dgetG s_1.1 (KT2.mk x.a x.b)).getD 0 - much)) else s_1.1), (bif b then (dputG s_1.2.1 (KT2.mk x_1.a x_1.b) ((dgetG s_1.2.1 (KT2.mk x_1.a x_1.b)).getD 0 - much)) else s_1.2.1), (bif b then (s_1.2.2.1 ++ [(T5.mk x.a x.b x_1.a x_1.b much)]) else s_1.2.2.1), count_1)))) (sv_set 12 sc_law_drawn.nd (ev_lixD (0 : Int) (ev_new (en_lst (xs := ([most, ((number / (6 : Int)) % (most + (1 : Int))), (0 : Int)] : List Int)) (ea_cons (ev_var 10 rfl) (ea_cons (ev_mod (ev_div (ev_var 11 rfl) ev_int (by first | exact ⟨by decide, by decide⟩ | exact ⟨by omega, by omega⟩)) (ev_add (ev_var 10 rfl) ev_int) (by first | decide | omega | (split <;> omega))) (ea_cons ev_int ea_nil))))) (ev_lixD (0 : Int) (ev_new (en_lst (xs := ([(0 : Int), (0 : Int), (1 : Int), (1 : Int), (1 : Int), (2 : Int)] : List Int)) (ea_cons ev_int (ea_cons ev_int (ea_cons ev_int (ea_cons ev_int (ea_cons ev_int (ea_cons ev_int ea_nil)))))))) (ev_mod (ev_var 11 rfl) ev_int (by first | decide | omega | (split <;> omega))) (by omega) (by simp only [List.length_cons, List.length_nil, List.length_map, iseq_len]; omega)) (idx6 _).1 (by have := (idx6 number).2; simp only [List.length_cons, List.length_nil]; omega))) ?_
          intro much e_much
          refine bv_ifj (Γf := fun b => [.v (works : (T3 Int (List (T3 Int Int Int)) (List (T3 Int Int Int)))), .v (script : (List Int)), .o (MDK.mk ((bif b then (dputG s_1.1 (KT2.mk x.a x.b) ((dgetG s_1.1 (KT2.mk x.a x.b)).getD 0 - much)) else s_1.1) : (List (KT2 × Int)))), .o (MDK.mk ((bif b then (dputG s_1.2.1 (KT2.mk x_1.a x_1.b) ((dgetG s_1.2.1 (KT2.mk x_1.a x_1.b)).getD 0 - much)) else s_1.2.1) : (List (KT2 × Int)))), .l ((bif b then (s_1.2.2.1 ++ [(T5.mk x.a x.b x_1.a x_1.b much)]) else s_1.2.2.1) : (List (T5 Int Int Int Int Int))), .v (count_1 : Int), .v (x.a : Int), .v (x.b : Int), .v (x_1.a : Int), .v (x_1.b : Int), .v (most : Int), .v (number : Int), .v (much : Int)]) (of := fun b => .nx ((fun (s_1 : (List (KT2 × Int)) × (List (KT2 × Int)) × (List (T5 Int Int Int Int Int)) × Int) => [.v (works : (T3 Int (List (T3 Int Int Int)) (List (T3 Int Int Int)))), .v (script : (List Int)), .o (MDK.mk (s_1.1 : (List (KT2 × Int)))), .o (MDK.mk (s_1.2.1 : (List (KT2 × Int)))), .l (s_1.2.2.1 : (List (T5 Int Int Int Int Int))), .v (s_1.2.2.2 : Int), .v (x.a : Int), .v (x.b : Int), .any, .any, .any, .any, .any]) ((bif b then (dputG s_1.1 (KT2.mk x.a x.b) ((dgetG s_1.1 (KT2.mk x.a x.b)).getD 0 - much)) else s_1.1), (bif b then (dputG s_1.2.1 (KT2.mk x_1.a x_1.b) ((dgetG s_1.2.1 (KT2.mk x_1.a x_1.b)).getD 0 - much)) else s_1.2.1), (bif b then (s_1.2.2.1 ++ [(T5.mk x.a x.b x_1.a x_1.b much)]) else s_1.2.2.1), count_1))) (et_w (ew_and (et_ge (ev_var 7 rfl) (ev_add (ev_var 9 rfl) (ev_tixv 0 (works.a) (ev_var 0 rfl)))) (fun hb => (ew_and1 (et_gt (ev_var 12 rfl) ev_int))))) ?_ ?_ ?_
          · intro hc
            refine bv_cons (sv_app 4 (pe_bm PySem.F.plainAttrs_list PySem.F.slot_list_append PySem.F.type_list_append mt_append (pv 4) (pa_cons pe pa_nil)) rfl (ev_t5 (ea_cons (ev_var 6 rfl) (ea_cons (ev_var 7 rfl) (ea_cons (ev_var 8 rfl) (ea_cons (ev_var 9 rfl) (ea_cons (ev_var 12 rfl) ea_nil)))))) (by omega)) ?_
            refine bv_cons (sv_augDK 2 (f := fun a b => a - b) rd_sub (ps_daug (hu_of hr) (pv 2) pe pe in_sub (by intros; rfl)) rfl (ev_tkK (ev_tk (ks := [x.a, x.b]) (ea_cons (ev_var 6 rfl) (ea_cons (ev_var 7 rfl) ea_nil)))) (ev_var 12 rfl) (dgetG_of 0 (dgetG_has (show KT2.mk x.a x.b ∈ s_1.1.map (·.1) by rw [hI_1.1.kh]; exact order_in hx))) (by have h2 := congrArg List.length hI_1.1.kh; rw [List.length_map, List.length_map] at h2; omega)) ?_
            refine bv_cons (sv_augDK 3 (f := fun a b => a - b) rd_sub (ps_daug (hu_of hr) (pv 3) pe pe in_sub (by intros; rfl)) rfl (ev_tkK (ev_tk (ks := [x_1.a, x_1.b]) (ea_cons (ev_var 8 rfl) (ea_cons (ev_var 9 rfl) ea_nil)))) (ev_var 12 rfl) (dgetG_of 0 (dgetG_has (show KT2.mk x_1.a x_1.b ∈ s_1.2.1.map (·.1) by rw [hI_1.1.kc, ← hI.1.kc]; exact order_in hx_1))) (by have h2 := congrArg List.length hI_1.1.kc; rw [List.length_map, List.length_map] at h2; omega)) ?_
            exact .nxs bv_nil (.eq (.eq (.eq (.eq (.eq (.eq (.eq (.eq (.eq (.eq (.eq (.eq (.eq .nil)))))))))))))
          · intro hc
            exact .nxs bv_nil (.eq (.eq (.eq (.eq (.eq (.eq (.eq (.eq (.eq (.eq (.eq (.eq (.eq .nil)))))))))))))
          intro b e_b
          exact .nxs bv_nil (.eq (.eq (.eq (.eq (.eq (.eq (.eq (.eq (.any (.any (.any (.any (.any .nil)))))))))))))
      intro r_1 e_r_1
      exact .nxs bv_nil (.eq (.eq (.eq (.eq (.eq (.eq (.any (.any (.any (.any (.any (.any (.any .nil)))))))))))))
  intro r_3 e_r_3
  have hR : DrawI t.a t.b 640000 r_3 := by rw [e_r_3, e_count]; exact draw_all hD hF.1 hF.2
  refine bv_letS (fun (passes : (List (T5 Int Int Int Int Int))) => [.v (works : (T3 Int (List (T3 Int Int Int)) (List (T3 Int Int Int)))), .v (script : (List Int)), .o (MDK.mk (r_3.1 : (List (KT2 × Int)))), .o (MDK.mk (r_3.2.1 : (List (KT2 × Int)))), .l (passes : (List (T5 Int Int Int Int Int))), .v (r_3.2.2.2 : Int), .any, .any, .any, .any, .any, .any, .any]) (of := fun passes => .rt (dt (let passes_1 : (List (T5 Int Int Int Int Int)) := ((r_3.2.1.map (·.1)).foldl (m_law_drawn_L4 r_3) passes); passes_1))) (x := ((r_3.1.map (·.1)).foldl (m_law_drawn_L3 r_3) r_3.2.2.1)) ?_ ?_
  · refine sv_forDK 2 (fun (z_ : Slot) (s_2 : (List (T5 Int Int Int Int Int))) => [.v (works : (T3 Int (List (T3 Int Int Int)) (List (T3 Int Int Int)))), .v (script : (List Int)), z_, .o (MDK.mk (r_3.2.1 : (List (KT2 × Int)))), .l (s_2 : (List (T5 Int Int Int Int Int))), .v (r_3.2.2.2 : Int), .any, .any, .any, .any, .any, .any, .any]) r_3.2.2.1 (m_law_drawn_L3 r_3) (fun (pre : List KT2) (s_2 : (List (T5 Int Int Int Int Int))) => s_2.length ≤ r_3.2.2.1.length + pre.length) (pv 2) rfl (fun z_ => (.eq (.eq (.eq (.eq (.eq (.eq (.any (.any (.any (.any (.any (.any (.any .nil)))))))))))))) (fun _ _ => rfl) (fun _ _ _ => rfl) (fun (z_ : Slot) (s_2 : (List (T5 Int Int Int Int Int))) (x_2 : KT2) => [.v (works : (T3 Int (List (T3 Int Int Int)) (List (T3 Int Int Int)))), .v (script : (List Int)), z_, .o (MDK.mk (r_3.2.1 : (List (KT2 × Int)))), .l (s_2 : (List (T5 Int Int Int Int Int))), .v (r_3.2.2.2 : Int), .v (x_2.a : Int), .v (x_2.b : Int), .any, .any, .any, .any, .any]) (fun z_ s_2 x_2 => (tv_tup (tvs_cons (tv_name 6 sc_law_drawn.nd) (tvs_cons (tv_name 7 sc_law_drawn.nd) tvs_nil)))) (by simp) (fun pre x s _ h => by have := draw_L3 r_3 s x; simp only [List.length_append, List.length_cons, List.length_nil]; omega) ?_ PassesOwn.never
    · intro pd od wd pre x_2 post s_2 hx_2 hs_2 hI_2
      have hl0 := congrArg List.length hx_2
      rw [List.length_map, List.length_append, List.length_cons] at hl0
      have hl1 := congrArg List.length hR.1.kh
      rw [List.length_map, List.length_map] at hl1
      have hl2 := hR.2
      refine bv_ifj (Γf := fun b_1 => [.v (works : (T3 Int (List (T3 Int Int Int)) (List (T3 Int Int Int)))), .v (script : (List Int)), .o (MLK.mk pd od wd (r_3.1 : (List (KT2 × Int)))), .o (MDK.mk (r_3.2.1 : (List (KT2 × Int)))), .l ((bif b_1 then (s_2 ++ [(T5.mk x_2.a x_2.b ((0 : Int) - (1 : Int)) ((0 : Int) - (1 : Int)) ((dgetG r_3.1 (KT2.mk x_2.a x_2.b)).getD (0 : Int)))]) else s_2) : (List (T5 Int Int Int Int Int))), .v (r_3.2.2.2 : Int), .v (x_2.a : Int), .v (x_2.b : Int), .any, .any, .any, .any, .any]) (of := fun b_1 => .nx ((fun (s_2 : (List (T5 Int Int Int Int Int))) => [.v (works : (T3 Int (List (T3 Int Int Int)) (List (T3 Int Int Int)))), .v (script : (List Int)), .o (MLK.mk pd od wd (r_3.1 : (List (KT2 × Int)))), .o (MDK.mk (r_3.2.1 : (List (KT2 × Int)))), .l (s_2 : (List (T5 Int Int Int Int Int))), .v (r_3.2.2.2 : Int), .any, .any, .any, .any, .any, .any, .any]) (bif b_1 then (s_2 ++ [(T5.mk x_2.a x_2.b ((0 : Int) - (1 : Int)) ((0 : Int) - (1 : Int)) ((dgetG r_3.1 (KT2.mk x_2.a x_2.b)).getD (0 : Int)))]) else s_2))) (et_fz 2 rfl (et_gt (ev_dixK hr.units (ev_var 2 rfl) (ev_tkK (ev_tk (ks := [x_2.a, x_2.b]) (ea_cons (ev_var 6 rfl) (ea_cons (ev_var 7 rfl) ea_nil)))) (dgetG_of (0 : Int) (dgetG_has (show KT2.mk x_2.a x_2.b ∈ r_3.1.map (·.1) by rw [hx_2]; simp)))) ev_int)) ?_ ?_ ?_
      · intro hc_1
        refine bv_cons (sv_app 4 (pe_bm PySem.F.plainAttrs_list PySem.F.slot_list_append PySem.F.type_list_append mt_append (pv 4) (pa_cons pe pa_nil)) rfl (ev_t5 (ea_cons (ev_var 6 rfl) (ea_cons (ev_var 7 rfl) (ea_cons (ev_sub ev_int ev_int) (ea_cons (ev_sub ev_int ev_int) (ea_cons (ev_fz 2 rfl (ev_dixK hr.units (ev_var 2 rfl) (ev_tkK (ev_tk (ks := [x_2.a, x_2.b]) (ea_cons (ev_var 6 rfl) (ea_cons (ev_var 7 rfl) ea_nil)))) (dgetG_of (0 : Int) (dgetG_has (show KT2.mk x_2.a x_2.b ∈ r_3.1.map (·.1) by rw [hx_2]; simp))))) ea_nil)))))) (by omega)) ?_
        exact .nxs bv_nil (.eq (.eq (.eq (.eq (.eq (.eq (.eq (.eq (.any (.any (.any (.any (.any .nil)))))))))))))
      · intro hc_1
        exact .nxs bv_nil (.eq (.eq (.eq (.eq (.eq (.eq (.eq (.eq (.any (.any (.any (.any (.any .nil)))))))))))))
      intro b_1 e_b_1
      exact .nxs bv_nil (.eq (.eq (.eq (.eq (.eq (.eq (.any (.any (.any (.any (.any (.any (.any .nil)))))))))))))
  intro passes e_passes
  have hP : passes.length ≤ 640800 := by { rw [e_passes]; exact Nat.le_trans (grow_len (fun s x => draw_L3 _ s x) _ _) (by have h1 := hR.2; have h2 := congrArg List.length hR.1.kh; rw [List.length_map, List.length_map] at h2; rw [List.length_map]; omega) }
  refine bv_letS (fun (passes_1 : (List (T5 Int Int Int Int Int))) => [.v (works : (T3 Int (List (T3 Int Int Int)) (List (T3 Int Int Int)))), .v (script : (List Int)), .o (MDK.mk (r_3.1 : (List (KT2 × Int)))), .o (MDK.mk (r_3.2.1 : (List (KT2 × Int)))), .l (passes_1 : (List (T5 Int Int Int Int Int))), .v (r_3.2.2.2 : Int), .any, .any, .any, .any, .any, .any, .any]) (of := fun passes_1 => .rt (dt passes_1)) (x := ((r_3.2.1.map (·.1)).foldl (m_law_drawn_L4 r_3) passes)) ?_ ?_
  · refine sv_forDK 3 (fun (z_ : Slot) (s_3 : (List (T5 Int Int Int Int Int))) => [.v (works : (T3 Int (List (T3 Int Int Int)) (List (T3 Int Int Int)))), .v (script : (List Int)), .o (MDK.mk (r_3.1 : (List (KT2 × Int)))), z_, .l (s_3 : (List (T5 Int Int Int Int Int))), .v (r_3.2.2.2 : Int), .any, .any, .any, .any, .any, .any, .any]) passes (m_law_drawn_L4 r_3) (fun (pre : List KT2) (s_3 : (List (T5 Int Int Int Int Int))) => s_3.length ≤ passes.length + pre.length) (pv 3) rfl (fun z_ => (.eq (.eq (.eq (.eq (.eq (.eq (.any (.any (.any (.any (.any (.any (.any .nil)))))))))))))) (fun _ _ => rfl) (fun _ _ _ => rfl) (fun (z_ : Slot) (s_3 : (List (T5 Int Int Int Int Int))) (x_3 : KT2) => [.v (works : (T3 Int (List (T3 Int Int Int)) (List (T3 Int Int Int)))), .v (script : (List Int)), .o (MDK.mk (r_3.1 : (List (KT2 × Int)))), z_, .l (s_3 : (List (T5 Int Int Int Int Int))), .v (r_3.2.2.2 : Int), .any, .any, .v (x_3.a : Int), .v (x_3.b : Int), .any, .any, .any]) (fun z_ s_3 x_3 => (tv_tup (tvs_cons (tv_name 8 sc_law_drawn.nd) (tvs_cons (tv_name 9 sc_law_drawn.nd) tvs_nil)))) (by simp) (fun pre x s _ h => by have := draw_L4 r_3 s x; simp only [List.length_append, List.length_cons, List.length_nil]; omega) ?_ PassesOwn.never
    · intro pd_1 od_1 wd_1 pre x_3 post s_3 hx_3 hs_3 hI_3
      have hl0 := congrArg List.length hx_3
      rw [List.length_map, List.length_append, List.length_cons] at hl0
      have hl1 := congrArg List.length hR.1.kc
      rw [List.length_map, List.length_map] at hl1
      refine bv_ifj (Γf := fun b_2 => [.v (works : (T3 Int (List (T3 Int Int Int)) (List (T3 Int Int Int)))), .v (script : (List Int)), .o (MDK.mk (r_3.1 : (List (KT2 × Int)))), .o (MLK.mk pd_1 od_1 wd_1 (r_3.2.1 : (List (KT2 × Int)))), .l ((bif b_2 then (s_3 ++ [(T5.mk ((0 : Int) - (1 : Int)) ((0 : Int) - (1 : Int)) x_3.a x_3.b ((dgetG r_3.2.1 (KT2.mk x_3.a x_3.b)).getD (0 : Int)))]) else s_3) : (List (T5 Int Int Int Int Int))), .v (r_3.2.2.2 : Int), .any, .any, .v (x_3.a : Int), .v (x_3.b : Int), .any, .any, .any]) (of := fun b_2 => .nx ((fun (s_3 : (List (T5 Int Int Int Int Int))) => [.v (works : (T3 Int (List (T3 Int Int Int)) (List (T3 Int Int Int)))), .v (script : (List Int)), .o (MDK.mk (r_3.1 : (List (KT2 × Int)))), .o (MLK.mk pd_1 od_1 wd_1 (r_3.2.1 : (List (KT2 × Int)))), .l (s_3 : (List (T5 Int Int Int Int Int))), .v (r_3.2.2.2 : Int), .any, .any, .any, .any, .any, .any, .any]) (bif b_2 then (s_3 ++ [(T5.mk ((0 : Int) - (1 : Int)) ((0 : Int) - (1 : Int)) x_3.a x_3.b ((dgetG r_3.2.1 (KT2.mk x_3.a x_3.b)).getD (0 : Int)))]) else s_3))) (et_fz 3 rfl (et_gt (ev_dixK hr.units (ev_var 3 rfl) (ev_tkK (ev_tk (ks := [x_3.a, x_3.b]) (ea_cons (ev_var 8 rfl) (ea_cons (ev_var 9 rfl) ea_nil)))) (dgetG_of (0 : Int) (dgetG_has (show KT2.mk x_3.a x_3.b ∈ r_3.2.1.map (·.1) by rw [hx_3]; simp)))) ev_int)) ?_ ?_ ?_
      · intro hc_2
        refine bv_cons (sv_app 4 (pe_bm PySem.F.plainAttrs_list PySem.F.slot_list_append PySem.F.type_list_append mt_append (pv 4) (pa_cons pe pa_nil)) rfl (ev_t5 (ea_cons (ev_sub ev_int ev_int) (ea_cons (ev_sub ev_int ev_int) (ea_cons (ev_var 8 rfl) (ea_cons (ev_var 9 rfl) (ea_cons (ev_fz 3 rfl (ev_dixK hr.units (ev_var 3 rfl) (ev_tkK (ev_tk (ks := [x_3.a, x_3.b]) (ea_cons (ev_var 8 rfl) (ea_cons (ev_var 9 rfl) ea_nil)))) (dgetG_of (0 : Int) (dgetG_has (show KT2.mk x_3.a x_3.b ∈ r_3.2.1.map (·.1) by rw [hx_3]; simp))))) ea_nil)))))) (by omega)) ?_
        exact .nxs bv_nil (.eq (.eq (.eq (.eq (.eq (.eq (.any (.any (.eq (.eq (.any (.any (.any .nil)))))))))))))
      · intro hc_2
        exact .nxs bv_nil (.eq (.eq (.eq (.eq (.eq (.eq (.any (.any (.eq (.eq (.any (.any (.any .nil)))))))))))))
      intro b_2 e_b_2
      exact .nxs bv_nil (.eq (.eq (.eq (.eq (.eq (.eq (.any (.any (.any (.any (.any (.any (.any .nil)))))))))))))
  intro passes_1 e_passes_1
  refine bv_frz 4 rfl ?_
  exact bv_ret (ev_var 4 rfl)
/-! _law_spoilt -/
def m_law_spoilt (passes : (List (T5 Int Int Int Int Int))) (cell : Int) : (List (T5 Int Int Int Int Int)) := (let at_ : Int := ((cell / (4 : Int)) % (passes.length : Int)); (let t := (passes.getD at_.toNat (T5.mk (0 : Int) (0 : Int) (0 : Int) (0 : Int) (0 : Int))); (bif (decide ((cell % (4 : Int)) = (0 : Int))) then (((pySlice passes none (some at_) none) ++ ([(T5.mk t.a t.b t.c t.d (t.e + (1 : Int)))] : List (T5 Int Int Int Int Int))) ++ (pySlice passes (some (at_ + (1 : Int))) none none)) else (bif (decide ((cell % (4 : Int)) = (1 : Int))) then (((pySlice passes none (some at_) none) ++ ([(T5.mk t.a t.b t.c t.d (0 : Int))] : List (T5 Int Int Int Int Int))) ++ (pySlice passes (some at_) none none)) else (bif ((decide ((cell % (4 : Int)) = (2 : Int))) && (decide ((1 : Int) < t.e))) then (let part : Int := ((1 : Int) + ((cell / (64 : Int)) % (t.e - (1 : Int)))); ((((pySlice passes none (some at_) none) ++ ([(T5.mk t.a t.b t.c t.d part)] : List (T5 Int Int Int Int Int))) ++ (pySlice passes (some (at_ + (1 : Int))) none none)) ++ ([(T5.mk t.a t.b t.c t.d (t.e - part))] : List (T5 Int Int Int Int Int)))) else (bif (decide ((cell % (4 : Int)) = (2 : Int))) then (((pySlice passes none (some at_) none) ++ ([(passes.getD at_.toNat (T5.mk (0 : Int) (0 : Int) (0 : Int) (0 : Int) (0 : Int)))] : List (T5 Int Int Int Int Int))) ++ (pySlice passes (some at_) none none)) else ((pySlice passes none (some at_) none) ++ (pySlice passes (some (at_ + (1 : Int))) none none))))))))
def r_law_spoilt (ds : List Dat) (d : Dat) : Prop := ∃ (passes : (List (T5 Int Int Int Int Int))) (cell : Int), ds = [dt passes, dt cell] ∧ (0 < passes.length ∧ passes.length ≤ 2000000) ∧ d = dt (m_law_spoilt passes cell)
abbrev s_law_spoilt : Stmt := topS 22
theorem sc_law_spoilt : FnScope ["passes", "cell", "at", "giver", "here", "taker", "into", "much", "part", "found"] ["passes", "cell"] (defScope s_law_spoilt) := ⟨rfl, rfl, rfl, by decide +kernel, rfl, by decide +kernel, by decide +kernel⟩
theorem ok_law_spoilt (T : Txt K mg)  {f : Addr} {fd : FuncData} (F : Fun K "_law_spoilt" "_law_spoilt" s_law_spoilt f fd) : FnOk P w K mg base CX0 1 f fd ["passes", "cell"] (PSp K r_law_spoilt) := by
  refine fn_pure F sc_law_spoilt (fun ds d h => by obtain ⟨_, _, rfl, _⟩ := h; rfl) fun cdv A outer s H E ds d hr h => ?_
  obtain ⟨passes, cell, rfl, hpre, rfl⟩ := h
  refine bv_let (of := fun at_ => .rt (dt (let t := (passes.getD at_.toNat (T5.mk (0 : Int) (0 : Int) (0 : Int) (0 : Int) (0 : Int))); (bif (decide ((cell % (4 : Int)) = (0 : Int))) then (((pySlice passes none (some at_) none) ++ ([(T5.mk t.a t.b t.c t.d (t.e + (1 : Int)))] : List (T5 Int Int Int Int Int))) ++ (pySlice passes (some (at_ + (1 : Int))) none none)) else (bif (decide ((cell % (4 : Int)) = (1 : Int))) then (((pySlice passes none (some at_) none) ++ ([(T5.mk t.a t.b t.c t.d (0 : Int))] : List (T5 Int Int Int Int Int))) ++ (pySlice passes (some at_) none none)) else (bif ((decide ((cell % (4 : Int)) = (2 : Int))) && (decide ((1 : Int) < t.e))) then (let part : Int := ((1 : Int) + ((cell / (64 : Int)) % (t.e - (1 : Int)))); ((((pySlice passes none (some at_) none) ++ ([(T5.mk t.a t.b t.c t.d part)] : List (T5 Int Int Int Int Int))) ++ (pySlice passes (some (at_ + (1 : Int))) none none)) ++ ([(T5.mk t.a t.b t.c t.d (t.e - part))] : List (T5 Int Int Int Int Int)))) else (bif (decide ((cell % (4 : Int)) = (2 : Int))) then (((pySlice passes none (some at_) none) ++ ([(passes.getD at_.toNat (T5.mk (0 : Int) (0 : Int) (0 : Int) (0 : Int) (0 : Int)))] : List (T5 Int Int Int Int Int))) ++ (pySlice passes (some at_) none none)) else ((pySlice passes none (some at_) none) ++ (pySlice passes (some (at_ + (1 : Int))) none none))))))))) (sv_set 2 sc_law_spoilt.nd (ev_mod (ev_div (ev_var 1 rfl) ev_int (by first | exact ⟨by decide, by decide⟩ | exact ⟨by omega, by omega⟩)) (ev_len T.z_len (ev_var 0 rfl)) (by have := hpre.1; omega))) ?_
  intro at_ e_at_
  have hA : 0 ≤ at_ ∧ at_ < (passes.length : Int) := ⟨e_at_ ▸ Int.emod_nonneg _ (by have := hpre.1; omega), e_at_ ▸ Int.emod_lt_of_pos _ (by have := hpre.1; omega)⟩
  refine bv_letT (of := fun t => .rt (dt (bif (decide ((cell % (4 : Int)) = (0 : Int))) then (((pySlice passes none (some at_) none) ++ ([(T5.mk t.a t.b t.c t.d (t.e + (1 : Int)))] : List (T5 Int Int Int Int Int))) ++ (pySlice passes (some (at_ + (1 : Int))) none none)) else (bif (decide ((cell % (4 : Int)) = (1 : Int))) then (((pySlice passes none (some at_) none) ++ ([(T5.mk t.a t.b t.c t.d (0 : Int))] : List (T5 Int Int Int Int Int))) ++ (pySlice passes (some at_) none none)) else (bif ((decide ((cell % (4 : Int)) = (2 : Int))) && (decide ((1 : Int) < t.e))) then (let part : Int := ((1 : Int) + ((cell / (64 : Int)) % (t.e - (1 : Int)))); ((((pySlice passes none (some at_) none) ++ ([(T5.mk t.a t.b t.c t.d part)] : List (T5 Int Int Int Int Int))) ++ (pySlice passes (some (at_ + (1 : Int))) none none)) ++ ([(T5.mk t.a t.b t.c t.d (t.e - part))] : List (T5 Int Int Int Int Int)))) else (bif (decide ((cell % (4 : Int)) = (2 : Int))) then (((pySlice passes none (some at_) none) ++ ([(passes.getD at_.toNat (T5.mk (0 : Int) (0 : Int) (0 : Int) (0 : Int) (0 : Int)))] : List (T5 Int Int Int Int Int))) ++ (pySlice passes (some at_) none none)) else ((pySlice passes none (some at_) none) ++ (pySlice passes (some (at_ + (1 : Int))) none none)))))))) (x := (passes.getD at_.toNat (T5.mk (0 : Int) (0 : Int) (0 : Int) (0 : Int) (0 : Int)))) (fun t => [.v (passes : (List (T5 Int Int Int Int Int))), .v (cell : Int), .v (at_ : Int), .v (t.a : Int), .v (t.b : Int), .v (t.c : Int), .v (t.d : Int), .v (t.e : Int), .any, .any]) (sv_asg (ev_lixD (T5.mk (0 : Int) (0 : Int) (0 : Int) (0 : Int) (0 : Int)) (ev_var 0 rfl) (ev_var 2 rfl) hA.1 hA.2) (tv_tup (tvs_cons (tv_name 3 sc_law_spoilt.nd) (tvs_cons (tv_name 4 sc_law_spoilt.nd) (tvs_cons (tv_name 5 sc_law_spoilt.nd) (tvs_cons (tv_name 6 sc_law_spoilt.nd) (tvs_cons (tv_name 7 sc_law_spoilt.nd) tvs_nil))))))) ?_
  intro t e_t
  refine bv_ifx (of := fun b_3 => .rt (dt (bif b_3 then (((pySlice passes none (some at_) none) ++ ([(T5.mk t.a t.b t.c t.d (t.e + (1 : Int)))] : List (T5 Int Int Int Int Int))) ++ (pySlice passes (some (at_ + (1 : Int))) none none)) else (bif (decide ((cell % (4 : Int)) = (1 : Int))) then (((pySlice passes none (some at_) none) ++ ([(T5.mk t.a t.b t.c t.d (0 : Int))] : List (T5 Int Int Int Int Int))) ++ (pySlice passes (some at_) none none)) else (bif ((decide ((cell % (4 : Int)) = (2 : Int))) && (decide ((1 : Int) < t.e))) then (let part : Int := ((1 : Int) + ((cell / (64 : Int)) % (t.e - (1 : Int)))); ((((pySlice passes none (some at_) none) ++ ([(T5.mk t.a t.b t.c t.d part)] : List (T5 Int Int Int Int Int))) ++ (pySlice passes (some (at_ + (1 : Int))) none none)) ++ ([(T5.mk t.a t.b t.c t.d (t.e - part))] : List (T5 Int Int Int Int Int)))) else (bif (decide ((cell % (4 : Int)) = (2 : Int))) then (((pySlice passes none (some at_) none) ++ ([(passes.getD at_.toNat (T5.mk (0 : Int) (0 : Int) (0 : Int) (0 : Int) (0 : Int)))] : List (T5 Int Int Int Int Int))) ++ (pySlice passes (some at_) none none)) else ((pySlice passes none (some at_) none) ++ (pySlice passes (some (at_ + (1 : Int))) none none)))))))) (et_eq (ev_mod (ev_var 1 rfl) ev_int (by first | decide | omega | (split <;> omega))) ev_int) ?_ (by first | trivial | exact xo_ex _) ?_
  · intro hc
    exact bv_ret (ev_new (en_catS (ev_new (en_catS (ev_new (en_slice (ev_var 0 rfl) eo_none (eo_some (ev_var 2 rfl)) eo_none (by decide))) (ev_new (en_lst (xs := ([(T5.mk t.a t.b t.c t.d (t.e + (1 : Int)))] : List (T5 Int Int Int Int Int))) (ea_cons (ev_t5 (ea_cons (ev_var 3 rfl) (ea_cons (ev_var 4 rfl) (ea_cons (ev_var 5 rfl) (ea_cons (ev_var 6 rfl) (ea_cons (ev_add (ev_var 7 rfl) ev_int) ea_nil)))))) ea_nil))) (by have h1 := pySlice_len passes none (some at_) none; have h2 := pySlice_len passes (some (at_ + (1 : Int))) none none; have h3 := pySlice_len passes (some at_) none none; have := hpre.2; (try simp only [List.length_append, List.length_cons, List.length_nil]); omega))) (ev_new (en_slice (ev_var 0 rfl) (eo_some (ev_add (ev_var 2 rfl) ev_int)) eo_none eo_none (by decide))) (by have h1 := pySlice_len passes none (some at_) none; have h2 := pySlice_len passes (some (at_ + (1 : Int))) none none; have h3 := pySlice_len passes (some at_) none none; have := hpre.2; (try simp only [List.length_append, List.length_cons, List.length_nil]); omega)))
  · intro hc
    refine bv_ifx (of := fun b_2 => .rt (dt (bif b_2 then (((pySlice passes none (some at_) none) ++ ([(T5.mk t.a t.b t.c t.d (0 : Int))] : List (T5 Int Int Int Int Int))) ++ (pySlice passes (some at_) none none)) else (bif ((decide ((cell % (4 : Int)) = (2 : Int))) && (decide ((1 : Int) < t.e))) then (let part : Int := ((1 : Int) + ((cell / (64 : Int)) % (t.e - (1 : Int)))); ((((pySlice passes none (some at_) none) ++ ([(T5.mk t.a t.b t.c t.d part)] : List (T5 Int Int Int Int Int))) ++ (pySlice passes (some (at_ + (1 : Int))) none none)) ++ ([(T5.mk t.a t.b t.c t.d (t.e - part))] : List (T5 Int Int Int Int Int)))) else (bif (decide ((cell % (4 : Int)) = (2 : Int))) then (((pySlice passes none (some at_) none) ++ ([(passes.getD at_.toNat (T5.mk (0 : Int) (0 : Int) (0 : Int) (0 : Int) (0 : Int)))] : List (T5 Int Int Int Int Int))) ++ (pySlice passes (some at_) none none)) else ((pySlice passes none (some at_) none) ++ (pySlice passes (some (at_ + (1 : Int))) none none))))))) (et_eq (ev_mod (ev_var 1 rfl) ev_int (by first | decide | omega | (split <;> omega))) ev_int) ?_ (by first | trivial | exact xo_ex _) ?_
    · intro hc_1
      exact bv_ret (ev_new (en_catS (ev_new (en_catS (ev_new (en_slice (ev_var 0 rfl) eo_none (eo_some (ev_var 2 rfl)) eo_none (by decide))) (ev_new (en_lst (xs := ([(T5.mk t.a t.b t.c t.d (0 : Int))] : List (T5 Int Int Int Int Int))) (ea_cons (ev_t5 (ea_cons (ev_var 3 rfl) (ea_cons (ev_var 4 rfl) (ea_cons (ev_var 5 rfl) (ea_cons (ev_var 6 rfl) (ea_cons ev_int ea_nil)))))) ea_nil))) (by have h1 := pySlice_len passes none (some at_) none; have h2 := pySlice_len passes (some (at_ + (1 : Int))) none none; have h3 := pySlice_len passes (some at_) none none; have := hpre.2; (try simp only [List.length_append, List.length_cons, List.length_nil]); omega))) (ev_new (en_slice (ev_var 0 rfl) (eo_some (ev_var 2 rfl)) eo_none eo_none (by decide))) (by have h1 := pySlice_len passes none (some at_) none; have h2 := pySlice_len passes (some (at_ + (1 : Int))) none none; have h3 := pySlice_len passes (some at_) none none; have := hpre.2; (try simp only [List.length_append, List.length_cons, List.length_nil]); omega)))
    · intro hc_1
      refine bv_ifx (of := fun b_1 => .rt (dt (bif b_1 then (let part : Int := ((1 : Int) + ((cell / (64 : Int)) % (t.e - (1 : Int)))); ((((pySlice passes none (some at_) none) ++ ([(T5.mk t.a t.b t.c t.d part)] : List (T5 Int Int Int Int Int))) ++ (pySlice passes (some (at_ + (1 : Int))) none none)) ++ ([(T5.mk t.a t.b t.c t.d (t.e - part))] : List (T5 Int Int Int Int Int)))) else (bif (decide ((cell % (4 : Int)) = (2 : Int))) then (((pySlice passes none (some at_) none) ++ ([(passes.getD at_.toNat (T5.mk (0 : Int) (0 : Int) (0 : Int) (0 : Int) (0 : Int)))] : List (T5 Int Int Int Int Int))) ++ (pySlice passes (some at_) none none)) else ((pySlice passes none (some at_) none) ++ (pySlice passes (some (at_ + (1 : Int))) none none)))))) (et_w (ew_and (et_eq (ev_mod (ev_var 1 rfl) ev_int (by first | decide | omega | (split <;> omega))) ev_int) (fun hb => (ew_and1 (et_gt (ev_var 7 rfl) ev_int))))) ?_ (by first | trivial | exact xo_ex _) ?_
      · intro hc_2
        refine bv_let (of := fun part => .rt (dt ((((pySlice passes none (some at_) none) ++ ([(T5.mk t.a t.b t.c t.d part)] : List (T5 Int Int Int Int Int))) ++ (pySlice passes (some (at_ + (1 : Int))) none none)) ++ ([(T5.mk t.a t.b t.c t.d (t.e - part))] : List (T5 Int Int Int Int Int))))) (sv_set 8 sc_law_spoilt.nd (ev_add ev_int (ev_mod (ev_div (ev_var 1 rfl) ev_int (by first | exact ⟨by decide, by decide⟩ | exact ⟨by omega, by omega⟩)) (ev_sub (ev_var 7 rfl) ev_int) (by have h := (Bool.and_eq_true_iff.mp (show (decide (cell % 4 = 2) && decide (1 < t.e)) = true by assumption)).2; have := of_decide_eq_true h; omega)))) ?_
        intro part e_part
        refine bv_cons (sv_set 9 sc_law_spoilt.nd (ev_new (en_catS (ev_new (en_catS (ev_new (en_slice (ev_var 0 rfl) eo_none (eo_some (ev_var 2 rfl)) eo_none (by decide))) (ev_new (en_lst (xs := ([(T5.mk t.a t.b t.c t.d part)] : List (T5 Int Int Int Int Int))) (ea_cons (ev_t5 (ea_cons (ev_var 3 rfl) (ea_cons (ev_var 4 rfl) (ea_cons (ev_var 5 rfl) (ea_cons (ev_var 6 rfl) (ea_cons (ev_var 8 rfl) ea_nil)))))) ea_nil))) (by have h1 := pySlice_len passes none (some at_) none; have h2 := pySlice_len passes (some (at_ + (1 : Int))) none none; have h3 := pySlice_len passes (some at_) none none; have := hpre.2; (try simp only [List.length_append, List.length_cons, List.length_nil]); omega))) (ev_new (en_slice (ev_var 0 rfl) (eo_some (ev_add (ev_var 2 rfl) ev_int)) eo_none eo_none (by decide))) (by have h1 := pySlice_len passes none (some at_) none; have h2 := pySlice_len passes (some (at_ + (1 : Int))) none none; have h3 := pySlice_len passes (some at_) none none; have := hpre.2; (try simp only [List.length_append, List.length_cons, List.length_nil]); omega)))) ?_
        exact bv_ret (ev_new (en_catS (ev_var 9 rfl) (ev_new (en_lst (xs := ([(T5.mk t.a t.b t.c t.d (t.e - part))] : List (T5 Int Int Int Int Int))) (ea_cons (ev_t5 (ea_cons (ev_var 3 rfl) (ea_cons (ev_var 4 rfl) (ea_cons (ev_var 5 rfl) (ea_cons (ev_var 6 rfl) (ea_cons (ev_sub (ev_var 7 rfl) (ev_var 8 rfl)) ea_nil)))))) ea_nil))) (by have h1 := pySlice_len passes none (some at_) none; have h2 := pySlice_len passes (some (at_ + (1 : Int))) none none; have h3 := pySlice_len passes (some at_) none none; have := hpre.2; (try simp only [List.length_append, List.length_cons, List.length_nil]); omega)))
      · intro hc_2
        refine bv_ifx (of := fun b => .rt (dt (bif b then (((pySlice passes none (some at_) none) ++ ([(passes.getD at_.toNat (T5.mk (0 : Int) (0 : Int) (0 : Int) (0 : Int) (0 : Int)))] : List (T5 Int Int Int Int Int))) ++ (pySlice passes (some at_) none none)) else ((pySlice passes none (some at_) none) ++ (pySlice passes (some (at_ + (1 : Int))) none none))))) (et_eq (ev_mod (ev_var 1 rfl) ev_int (by first | decide | omega | (split <;> omega))) ev_int) ?_ (by first | trivial | exact xo_ex _) ?_
        · intro hc_3
          exact bv_ret (ev_new (en_catS (ev_new (en_catS (ev_new (en_slice (ev_var 0 rfl) eo_none (eo_some (ev_var 2 rfl)) eo_none (by decide))) (ev_new (en_lst (xs := ([(passes.getD at_.toNat (T5.mk (0 : Int) (0 : Int) (0 : Int) (0 : Int) (0 : Int)))] : List (T5 Int Int Int Int Int))) (ea_cons (ev_lixD (T5.mk (0 : Int) (0 : Int) (0 : Int) (0 : Int) (0 : Int)) (ev_var 0 rfl) (ev_var 2 rfl) hA.1 hA.2) ea_nil))) (by have h1 := pySlice_len passes none (some at_) none; have h2 := pySlice_len passes (some (at_ + (1 : Int))) none none; have h3 := pySlice_len passes (some at_) none none; have := hpre.2; (try simp only [List.length_append, List.length_cons, List.length_nil]); omega))) (ev_new (en_slice (ev_var 0 rfl) (eo_some (ev_var 2 rfl)) eo_none eo_none (by decide))) (by have h1 := pySlice_len passes none (some at_) none; have h2 := pySlice_len passes (some (at_ + (1 : Int))) none none; have h3 := pySlice_len passes (some at_) none none; have := hpre.2; (try simp only [List.length_append, List.length_cons, List.length_nil]); omega)))
        · intro hc_3
          exact bv_ret (ev_new (en_catS (ev_new (en_slice (ev_var 0 rfl) eo_none (eo_some (ev_var 2 rfl)) eo_none (by decide))) (ev_new (en_slice (ev_var 0 rfl) (eo_some (ev_add (ev_var 2 rfl) ev_int)) eo_none eo_none (by decide))) (by have h1 := pySlice_len passes none (some at_) none; have h2 := pySlice_len passes (some (at_ + (1 : Int))) none none; have h3 := pySlice_len passes (some at_) none none; have := hpre.2; (try simp only [List.length_append, List.length_cons, List.length_nil]); omega)))
/-! steps_of -/
def m_steps_of (stream : (T3 Int Int Int)) : (List Int) := (iseq (min stream.a stream.b) ((max stream.a stream.b) - (min stream.a stream.b)).toNat)

/-- degrees that may be walked -/
structure StrD (s : T3 Int Int Int) : Prop where
  a0 : -100000 ≤ s.a
  a1 : s.a ≤ 100000
  b0 : -100000 ≤ s.b
  b1 : s.b ≤ 100000

def r_steps_of (ds : List Dat) (d : Dat) : Prop := ∃ (stream : (T3 Int Int Int)), ds = [dt stream] ∧ (StrD stream) ∧ d = dt (m_steps_of stream)
abbrev s_steps_of : Stmt := topS 2
theorem sc_steps_of : FnScope ["stream"] ["stream"] (defScope s_steps_of) := ⟨rfl, rfl, rfl, by decide +kernel, rfl, by decide +kernel, by decide +kernel⟩
theorem ok_steps_of (T : Txt K mg)  {f : Addr} {fd : FuncData} (F : Fun K "steps_of" "steps_of" s_steps_of f fd) : FnOk P w K mg base CX0 1 f fd ["stream"] (PSp K r_steps_of) := by
  refine fn_pure F sc_steps_of (fun ds d h => by obtain ⟨_, rfl, _⟩ := h; rfl) fun cdv A outer s H E ds d hr h => ?_
  obtain ⟨stream, rfl, hpre, rfl⟩ := h
  exact bv_ret (ev_new (en_listR rfl T.z_list (er_2 T.z_range (ev_min2 rfl T.z_min (ev_tixv 0 (stream.a) (ev_var 0 rfl)) (ev_tixv 1 (stream.b) (ev_var 0 rfl))) (ev_max2 rfl T.z_max (ev_tixv 0 (stream.a) (ev_var 0 rfl)) (ev_tixv 1 (stream.b) (ev_var 0 rfl)))) (by have := hpre.a0; have := hpre.a1; have := hpre.b0; have := hpre.b1; exact ⟨by omega, by omega, by omega, by omega, by omega⟩)))
/-! all_just -/
def m_all_just_L2 (sums : (DVT Int)) (x : (T2 Int (T3 Int Int Int))) (s_1 : Unit) (x_1 : Int) : LR (Unit) Bool := (bif (!decide (((dgetT sums.kvs [x.a, x_1]).getD (0 : Int)) = x.b.c)) then (.re false) else (.go ()))
def m_all_just_L1 (sums : (DVT Int)) (s : Unit) (x : (T2 Int (T3 Int Int Int))) : LR (Unit) Bool := ((runL (m_all_just_L2 sums x) () (m_steps_of x.b)).bind (fun (r : Unit) => (.go ())))
def m_all_just (streams : (List (T3 Int Int Int))) (sums : (DVT Int)) : Bool := ((runL (m_all_just_L1 sums) () (enumL streams)).fin (fun (r_1 : Unit) => true))
def r_all_just (ds : List Dat) (d : Dat) : Prop := ∃ (streams : (List (T3 Int Int Int))) (sums : (DVT Int)), ds = [dt streams, dt sums] ∧ (∀ s ∈ streams, StrD s) ∧ d = dt (m_all_just streams sums)
abbrev s_all_just : Stmt := topS 5
theorem sc_all_just : FnScope ["streams", "sums", "number", "stream", "degree"] ["streams", "sums"] (defScope s_all_just) := ⟨rfl, rfl, rfl, by decide +kernel, rfl, by decide +kernel, by decide +kernel⟩
theorem ok_all_just (T : Txt K mg) (H_steps_of : FnAt P w K mg base "steps_of" 1 ["stream"] r_steps_of) {f : Addr} {fd : FuncData} (F : Fun K "all_just" "all_just" s_all_just f fd) : FnOk P w K mg base CX0 2 f fd ["streams", "sums"] (PSp K r_all_just) := by
  refine fn_pure F sc_all_just (fun ds d h => by obtain ⟨_, _, rfl, _⟩ := h; rfl) fun cdv A outer s H E ds d hr h => ?_
  obtain ⟨streams, sums, rfl, hpre, rfl⟩ := h
  refine bv_forR (Env := fun (s : Unit) => [.v (streams : (List (T3 Int Int Int))), .v (sums : (DVT Int)), .any, .any, .any]) (r := runL (m_all_just_L1 sums) () (enumL streams)) (g := fun (r_1 : Unit) => true) ?_ ?_
  · refine sv_forL (fun (s : Unit) => [.v (streams : (List (T3 Int Int Int))), .v (sums : (DVT Int)), .any, .any, .any]) () (m_all_just_L1 sums) (iv_enum T.z_enumerate (ev_var 0 rfl)) (.eq (.eq (.any (.any (.any .nil))))) (fun (s : Unit) (x : (T2 Int (T3 Int Int Int))) => [.v (streams : (List (T3 Int Int Int))), .v (sums : (DVT Int)), .v (x.a : Int), .v (x.b : (T3 Int Int Int)), .any]) (fun s x => (tv_tup (tvs_cons (tv_name 2 sc_all_just.nd) (tvs_cons (tv_name 3 sc_all_just.nd) tvs_nil)))) ?_ PassesOwn.never
    intro pre x post s hx hs
    refine bv_forB (Env := fun (s_1 : Unit) => [.v (streams : (List (T3 Int Int Int))), .v (sums : (DVT Int)), .v (x.a : Int), .v (x.b : (T3 Int Int Int)), .any]) (r := runL (m_all_just_L2 sums x) () (m_steps_of x.b)) (Env' := (fun (s : Unit) => [.v (streams : (List (T3 Int Int Int))), .v (sums : (DVT Int)), .any, .any, .any])) (g := fun (r : Unit) => (.go ())) ?_ ?_
    · refine sv_forL (fun (s_1 : Unit) => [.v (streams : (List (T3 Int Int Int))), .v (sums : (DVT Int)), .v (x.a : Int), .v (x.b : (T3 Int Int Int)), .any]) () (m_all_just_L2 sums x) (iv_list (ev_fn H_steps_of hr (by decide) (ea_cons (ev_var 3 rfl) ea_nil) ⟨_, rfl, (hpre _ (enum_mem hx)), rfl⟩)) (.eq (.eq (.eq (.eq (.any .nil))))) (fun (s_1 : Unit) (x_1 : Int) => [.v (streams : (List (T3 Int Int Int))), .v (sums : (DVT Int)), .v (x.a : Int), .v (x.b : (T3 Int Int Int)), .v (x_1 : Int)]) (fun s_1 x_1 => (tv_name 4 sc_all_just.nd)) ?_ PassesOwn.never
      intro pre x_1 post s_1 hx_1 hs_1
      refine bv_ifx (of := fun b => LR.out (fun (s_1 : Unit) => [.v (streams : (List (T3 Int Int Int))), .v (sums : (DVT Int)), .v (x.a : Int), .v (x.b : (T3 Int Int Int)), .any]) (bif b then (.re false) else (.go ()))) (et_ne (ev_dget2T hr.units (ev_var 1 rfl) (ev_tk (ks := [x.a, x_1]) (ea_cons (ev_var 2 rfl) (ea_cons (ev_var 4 rfl) ea_nil))) ev_int) (ev_tixv 2 (x.b.c) (ev_var 3 rfl))) ?_ (by first | trivial | exact xo_ex _) ?_
      · intro hc
        exact bv_ret ev_bl
      · intro hc
        exact .nxs bv_nil (.eq (.eq (.eq (.eq (.any .nil)))))
    intro r e_r
    exact .nxs bv_nil (.eq (.eq (.any (.any (.any .nil)))))
  intro r_1 e_r_1
  exact bv_ret ev_bl
/-! is_step -/
def m_is_step (streams : (List (T3 Int Int Int))) (number : Int) (degree : Int) : Bool := (bif ((decide (number < (0 : Int))) || (decide ((streams.length : Int) ≤ number))) then false else (let t := (streams.getD number.toNat (T3.mk (0 : Int) (0 : Int) (0 : Int))); ((decide ((min t.a t.b) ≤ degree)) && (decide (degree < (max t.a t.b))))))
def r_is_step (ds : List Dat) (d : Dat) : Prop := ∃ (streams : (List (T3 Int Int Int))) (number : Int) (degree : Int), ds = [dt streams, dt number, dt degree] ∧ d = dt (m_is_step streams number degree)
abbrev s_is_step : Stmt := topS 3
theorem sc_is_step : FnScope ["streams", "number", "degree", "start", "goal", "rate"] ["streams", "number", "degree"] (defScope s_is_step) := ⟨rfl, rfl, rfl, by decide +kernel, rfl, by decide +kernel, by decide +kernel⟩
theorem ok_is_step (T : Txt K mg)  {f : Addr} {fd : FuncData} (F : Fun K "is_step" "is_step" s_is_step f fd) : FnOk P w K mg base CX0 1 f fd ["streams", "number", "degree"] (PSp K r_is_step) := by
  refine fn_pure F sc_is_step (fun ds d h => by obtain ⟨_, _, _, rfl, _⟩ := h; rfl) fun cdv A outer s H E ds d hr h => ?_
  obtain ⟨streams, number, degree, rfl, rfl⟩ := h
  refine bv_ifx (of := fun b => .rt (dt (bif b then false else (let t := (streams.getD number.toNat (T3.mk (0 : Int) (0 : Int) (0 : Int))); ((decide ((min t.a t.b) ≤ degree)) && (decide (degree < (max t.a t.b)))))))) (et_w (ew_or (et_lt (ev_var 1 rfl) ev_int) (fun hb => (ew_or1 (et_ge (ev_var 1 rfl) (ev_len T.z_len (ev_var 0 rfl))))))) ?_ (by first | trivial | exact xo_ex _) ?_
  · intro hc
    exact bv_ret ev_bl
  · intro hc
    refine bv_letT (of := fun t => .rt (dt ((decide ((min t.a t.b) ≤ degree)) && (decide (degree < (max t.a t.b)))))) (x := (streams.getD number.toNat (T3.mk (0 : Int) (0 : Int) (0 : Int)))) (fun t => [.v (streams : (List (T3 Int Int Int))), .v (number : Int), .v (degree : Int), .v (t.a : Int), .v (t.b : Int), .v (t.c : Int)]) (sv_asg (ev_lixD (T3.mk (0 : Int) (0 : Int) (0 : Int)) (ev_var 0 rfl) (ev_var 1 rfl) (by have := or_dec hc; omega) (by have := or_dec hc; omega)) (tv_tup (tvs_cons (tv_name 3 sc_is_step.nd) (tvs_cons (tv_name 4 sc_is_step.nd) (tvs_cons (tv_name 5 sc_is_step.nd) tvs_nil))))) ?_
    intro t e_t
    exact bv_ret (ev_and (ev_le (ev_min2 rfl T.z_min (ev_var 3 rfl) (ev_var 4 rfl)) (ev_var 2 rfl)) (fun hb_1 => (ev_one (ev_lt (ev_var 2 rfl) (ev_max2 rfl T.z_max (ev_var 3 rfl) (ev_var 4 rfl))))))
/-! may_pass -/
def m_may_pass (works : (T3 Int (List (T3 Int Int Int)) (List (T3 Int Int Int)))) (one : (T5 Int Int Int Int Int)) : Bool := (let from_without : Bool := ((decide (one.a = (-1 : Int))) && (decide (one.b = (-1 : Int)))); (let to_without : Bool := ((decide (one.c = (-1 : Int))) && (decide (one.d = (-1 : Int)))); (bif ((decide (one.e < (1 : Int))) || (from_without && to_without)) then false else (bif ((!from_without) && (!(m_is_step works.b one.a one.b))) then false else (bif ((!to_without) && (!(m_is_step works.c one.c one.d))) then false else (from_without || (to_without || (decide ((one.d + works.a) ≤ one.b)))))))))
def r_may_pass (ds : List Dat) (d : Dat) : Prop := ∃ (works : (T3 Int (List (T3 Int Int Int)) (List (T3 Int Int Int)))) (one : (T5 Int Int Int Int Int)), ds = [dt works, dt one] ∧ d = dt (m_may_pass works one)
abbrev s_may_pass : Stmt := topS 4
theorem sc_may_pass : FnScope ["works", "one", "giver", "at", "taker", "into", "heat", "from_without", "to_without"] ["works", "one"] (defScope s_may_pass) := ⟨rfl, rfl, rfl, by decide +kernel, rfl, by decide +kernel, by decide +kernel⟩
theorem ok_may_pass (T : Txt K mg) (H_is_step : FnAt P w K mg base "is_step" 1 ["streams", "number", "degree"] r_is_step) {f : Addr} {fd : FuncData} (F : Fun K "may_pass" "may_pass" s_may_pass f fd) : FnOk P w K mg base CX0 2 f fd ["works", "one"] (PSp K r_may_pass) := by
  refine fn_pure F sc_may_pass (fun ds d h => by obtain ⟨_, _, rfl, _⟩ := h; rfl) fun cdv A outer s H E ds d hr h => ?_
  obtain ⟨works, one, rfl, rfl⟩ := h
  refine bv_cons (sv_asg (ev_var 1 rfl) (tv_tup (tvs_cons (tv_name 2 sc_may_pass.nd) (tvs_cons (tv_name 3 sc_may_pass.nd) (tvs_cons (tv_name 4 sc_may_pass.nd) (tvs_cons (tv_name 5 sc_may_pass.nd) (tvs_cons (tv_name 6 sc_may_pass.nd) tvs_nil))))))) ?_
  refine bv_let (of := fun from_without => .rt (dt (let to_without : Bool := ((decide (one.c = (-1 : Int))) && (decide (one.d = (-1 : Int)))); (bif ((decide (one.e < (1 : Int))) || (from_without && to_without)) then false else (bif ((!from_without) && (!(m_is_step works.b one.a one.b))) then false else (bif ((!to_without) && (!(m_is_step works.c one.c one.d))) then false else (from_without || (to_without || (decide ((one.d + works.a) ≤ one.b)))))))))) (sv_set 7 sc_may_pass.nd (ev_and (ev_eq (ev_var 2 rfl) (ev_gint T.c_BOUGHT)) (fun hb => (ev_one (ev_eq (ev_var 3 rfl) (ev_gint T.c_BOUGHT)))))) ?_
  intro from_without e_from_without
  refine bv_let (of := fun to_without => .rt (dt (bif ((decide (one.e < (1 : Int))) || (from_without && to_without)) then false else (bif ((!from_without) && (!(m_is_step works.b one.a one.b))) then false else (bif ((!to_without) && (!(m_is_step works.c one.c one.d))) then false else (from_without || (to_without || (decide ((one.d + works.a) ≤ one.b))))))))) (sv_set 8 sc_may_pass.nd (ev_and (ev_eq (ev_var 4 rfl) (ev_gint T.c_BOUGHT)) (fun hb_1 => (ev_one (ev_eq (ev_var 5 rfl) (ev_gint T.c_BOUGHT)))))) ?_
  intro to_without e_to_without
  refine bv_ifx (of := fun b_2 => .rt (dt (bif b_2 then false else (bif ((!from_without) && (!(m_is_step works.b one.a one.b))) then false else (bif ((!to_without) && (!(m_is_step works.c one.c one.d))) then false else (from_without || (to_without || (decide ((one.d + works.a) ≤ one.b))))))))) (et_w (ew_or (et_lt (ev_var 6 rfl) ev_int) (fun hb_2 => (ew_or1 (et_w (ew_and (et_val (ev_var 7 rfl)) (fun hb_3 => (ew_and1 (et_val (ev_var 8 rfl)))))))))) ?_ (by first | trivial | exact xo_ex _) ?_
  · intro hc
    exact bv_ret ev_bl
  · intro hc
    refine bv_ifx (of := fun b_1 => .rt (dt (bif b_1 then false else (bif ((!to_without) && (!(m_is_step works.c one.c one.d))) then false else (from_without || (to_without || (decide ((one.d + works.a) ≤ one.b)))))))) (et_w (ew_and (et_not (et_val (ev_var 7 rfl))) (fun hb_4 => (ew_and1 (et_not (et_val (ev_fn H_is_step hr (by decide) (ea_cons (ev_tixv 1 (works.b) (ev_var 0 rfl)) (ea_cons (ev_var 2 rfl) (ea_cons (ev_var 3 rfl) ea_nil))) ⟨_, _, _, rfl, rfl⟩))))))) ?_ (by first | trivial | exact xo_ex _) ?_
    · intro hc_1
      exact bv_ret ev_bl
    · intro hc_1
      refine bv_ifx (of := fun b => .rt (dt (bif b then false else (from_without || (to_without || (decide ((one.d + works.a) ≤ one.b))))))) (et_w (ew_and (et_not (et_val (ev_var 8 rfl))) (fun hb_5 => (ew_and1 (et_not (et_val (ev_fn H_is_step hr (by decide) (ea_cons (ev_tixv 2 (works.c) (ev_var 0 rfl)) (ea_cons (ev_var 4 rfl) (ea_cons (ev_var 5 rfl) ea_nil))) ⟨_, _, _, rfl, rfl⟩))))))) ?_ (by first | trivial | exact xo_ex _) ?_
      · intro hc_2
        exact bv_ret ev_bl
      · intro hc_2
        exact bv_ret (ev_or (ev_var 7 rfl) (fun hb_6 => (ev_or (ev_var 8 rfl) (fun hb_7 => (ev_one (ev_ge (ev_var 3 rfl) (ev_add (ev_var 5 rfl) (ev_tixv 0 (works.a) (ev_var 0 rfl)))))))))
/-! looked_through -/
def m_looked_through_L1 (works : (T3 Int (List (T3 Int Int Int)) (List (T3 Int Int Int)))) (s : (List (List Int × Bool)) × (List (List Int × Int)) × (List (List Int × Int))) (x : (T5 Int Int Int Int Int)) : LR ((List (List Int × Bool)) × (List (List Int × Int)) × (List (List Int × Int))) (Option (T2 Int Int)) := (bif ((!(m_may_pass works x)) || ((dgetT s.1 [x.a, x.b, x.c, x.d]).isSome)) then (.re (none : (Option (T2 Int Int)))) else (.go ((dputT s.1 [x.a, x.b, x.c, x.d] true), (dputT s.2.1 [x.a, x.b] (((dgetT s.2.1 [x.a, x.b]).getD (0 : Int)) + x.e)), (dputT s.2.2 [x.c, x.d] (((dgetT s.2.2 [x.c, x.d]).getD (0 : Int)) + x.e)))))
def m_looked_through (works : (T3 Int (List (T3 Int Int Int)) (List (T3 Int Int Int)))) (passes : (List (T5 Int Int Int Int Int))) : (Option (T2 Int Int)) := ((runL (m_looked_through_L1 works) (([] : (List (List Int × Bool))), ([] : (List (List Int × Int))), ([] : (List (List Int × Int)))) passes).fin (fun (r : (List (List Int × Bool)) × (List (List Int × Int)) × (List (List Int × Int))) => (bif ((!(m_all_just works.b (DVT.mk r.2.1))) || (!(m_all_just works.c (DVT.mk r.2.2)))) then (none : (Option (T2 Int Int))) else (some (T2.mk ((dgetT r.2.1 [(-1 : Int), (-1 : Int)]).getD (0 : Int)) ((dgetT r.2.2 [(-1 : Int), (-1 : Int)]).getD (0 : Int)))))))

theorem dputT_len {β : Type} (kvs : List (List Int × β)) (k : List Int) (v : β) : (dputT kvs k v).length ≤ kvs.length + 1 := by
  unfold dputT
  split
  · rw [List.length_map]; exact Nat.le_succ _
  · rw [List.length_append]; exact Nat.le_refl _

theorem look_step {works : T3 Int (List (T3 Int Int Int)) (List (T3 Int Int Int))} {s s' : (List (List Int × Bool)) × (List (List Int × Int)) × (List (List Int × Int))} {x : T5 Int Int Int Int Int} (h : m_looked_through_L1 works s x = .go s') : s'.1.length ≤ s.1.length + 1 ∧ s'.2.1.length ≤ s.2.1.length + 1 ∧ s'.2.2.length ≤ s.2.2.length + 1 := by
  unfold m_looked_through_L1 at h
  cases hb : ((!(m_may_pass works x)) || ((dgetT s.1 [x.a, x.b, x.c, x.d]).isSome)) with
  | true => rw [hb] at h; cases h
  | false =>
    rw [hb] at h
    have h := LR.go.inj h
    rw [← h]
    exact ⟨dputT_len _ _ _, dputT_len _ _ _, dputT_len _ _ _⟩
theorem look_len {works : T3 Int (List (T3 Int Int Int)) (List (T3 Int Int Int))} : ∀ {pre : List (T5 Int Int Int Int Int)} {s0 s : (List (List Int × Bool)) × (List (List Int × Int)) × (List (List Int × Int))}, runL (m_looked_through_L1 works) s0 pre = .go s → s.1.length ≤ s0.1.length + pre.length ∧ s.2.1.length ≤ s0.2.1.length + pre.length ∧ s.2.2.length ≤ s0.2.2.length + pre.length
  | [], s0, s, h => by
    have h := LR.go.inj h
    rw [h]
    exact ⟨Nat.le_refl _, Nat.le_refl _, Nat.le_refl _⟩
  | x :: r, s0, s, h => by
    unfold runL at h
    cases hf : m_looked_through_L1 works s0 x with
    | re y => rw [hf] at h; cases h
    | go s1 =>
      rw [hf] at h
      have h1 := look_step hf
      have h2 := look_len (pre := r) h
      rw [List.length_cons]
      omega

def r_looked_through (ds : List Dat) (d : Dat) : Prop := ∃ (works : (T3 Int (List (T3 Int Int Int)) (List (T3 Int Int Int)))) (passes : (List (T5 Int Int Int Int Int))), ds = [dt works, dt passes] ∧ ((∀ s ∈ works.b, StrD s) ∧ (∀ s ∈ works.c, StrD s) ∧ passes.length ≤ 9000000) ∧ d = dt (m_looked_through works passes)
abbrev s_looked_through : Stmt := topS 6
theorem sc_looked_through : FnScope ["works", "passes", "ways", "gives", "gets", "one"] ["works", "passes"] (defScope s_looked_through) := ⟨rfl, rfl, rfl, by decide +kernel, rfl, by decide +kernel, by decide +kernel⟩
theorem ok_looked_through (T : Txt K mg) (H_all_just : FnAt P w K mg base "all_just" 2 ["streams", "sums"] r_all_just) (H_may_pass : FnAt P w K mg base "may_pass" 2 ["works", "one"] r_may_pass) {f : Addr} {fd : FuncData} (F : Fun K "looked_through" "looked_through" s_looked_through f fd) : FnOk P w K mg base CX0 3 f fd ["works", "passes"] (PSp K r_looked_through) := by
  refine fn_pure F sc_looked_through (fun ds d h => by obtain ⟨_, _, rfl, _⟩ := h; rfl) fun cdv A outer s H E ds d hr h => ?_
  obtain ⟨works, passes, rfl, hpre, rfl⟩ := h
  refine bv_cons (sv_own 2 sc_looked_through.nd (en_dT0 (β := Bool))) ?_
  refine bv_cons (sv_own 3 sc_looked_through.nd (en_dT0 (β := Int))) ?_
  refine bv_cons (sv_own 4 sc_looked_through.nd (en_dT0 (β := Int))) ?_
  refine bv_forR (Env := fun (s : (List (List Int × Bool)) × (List (List Int × Int)) × (List (List Int × Int))) => [.v (works : (T3 Int (List (T3 Int Int Int)) (List (T3 Int Int Int)))), .v (passes : (List (T5 Int Int Int Int Int))), .o (MDT.mk (s.1 : (List (List Int × Bool)))), .o (MDT.mk (s.2.1 : (List (List Int × Int)))), .o (MDT.mk (s.2.2 : (List (List Int × Int)))), .any]) (r := runL (m_looked_through_L1 works) (([] : (List (List Int × Bool))), ([] : (List (List Int × Int))), ([] : (List (List Int × Int)))) passes) (g := fun (r : (List (List Int × Bool)) × (List (List Int × Int)) × (List (List Int × Int))) => (bif ((!(m_all_just works.b (DVT.mk r.2.1))) || (!(m_all_just works.c (DVT.mk r.2.2)))) then (none : (Option (T2 Int Int))) else (some (T2.mk ((dgetT r.2.1 [(-1 : Int), (-1 : Int)]).getD (0 : Int)) ((dgetT r.2.2 [(-1 : Int), (-1 : Int)]).getD (0 : Int)))))) ?_ ?_
  · refine sv_forL (fun (s : (List (List Int × Bool)) × (List (List Int × Int)) × (List (List Int × Int))) => [.v (works : (T3 Int (List (T3 Int Int Int)) (List (T3 Int Int Int)))), .v (passes : (List (T5 Int Int Int Int Int))), .o (MDT.mk (s.1 : (List (List Int × Bool)))), .o (MDT.mk (s.2.1 : (List (List Int × Int)))), .o (MDT.mk (s.2.2 : (List (List Int × Int)))), .any]) (([] : (List (List Int × Bool))), ([] : (List (List Int × Int))), ([] : (List (List Int × Int)))) (m_looked_through_L1 works) (iv_list (ev_var 1 rfl)) (.eq (.eq (.eq (.eq (.eq (.any .nil)))))) (fun (s : (List (List Int × Bool)) × (List (List Int × Int)) × (List (List Int × Int))) (x : (T5 Int Int Int Int Int)) => [.v (works : (T3 Int (List (T3 Int Int Int)) (List (T3 Int Int Int)))), .v (passes : (List (T5 Int Int Int Int Int))), .o (MDT.mk (s.1 : (List (List Int × Bool)))), .o (MDT.mk (s.2.1 : (List (List Int × Int)))), .o (MDT.mk (s.2.2 : (List (List Int × Int)))), .v (x : (T5 Int Int Int Int Int))]) (fun s x => (tv_name 5 sc_looked_through.nd)) ?_ PassesOwn.never
    intro pre x post s hx hs
    refine bv_ifx (of := fun b => LR.out (fun (s : (List (List Int × Bool)) × (List (List Int × Int)) × (List (List Int × Int))) => [.v (works : (T3 Int (List (T3 Int Int Int)) (List (T3 Int Int Int)))), .v (passes : (List (T5 Int Int Int Int Int))), .o (MDT.mk (s.1 : (List (List Int × Bool)))), .o (MDT.mk (s.2.1 : (List (List Int × Int)))), .o (MDT.mk (s.2.2 : (List (List Int × Int)))), .any]) (bif b then (.re (none : (Option (T2 Int Int)))) else (.go ((dputT s.1 [x.a, x.b, x.c, x.d] true), (dputT s.2.1 [x.a, x.b] (((dgetT s.2.1 [x.a, x.b]).getD (0 : Int)) + x.e)), (dputT s.2.2 [x.c, x.d] (((dgetT s.2.2 [x.c, x.d]).getD (0 : Int)) + x.e)))))) (et_fz 2 rfl (et_w (ew_or (et_not (et_val (ev_fn H_may_pass hr (by decide) (ea_cons (ev_var 0 rfl) (ea_cons (ev_var 5 rfl) ea_nil)) ⟨_, _, rfl, rfl⟩))) (fun hb => (ew_or1 (et_dinT hr.units (ev_tsl (ks := [x.a, x.b, x.c, x.d]) (n := 5) (l := none) (u := (some (4 : Int))) (ev_var 5 rfl) eo_none (eo_some ev_int) (by decide)) (ev_var 2 rfl))))))) ?_ (by first | trivial | exact xo_ex _) ?_
    · intro hc
      exact bv_ret (ev_oN ev_none)
    · intro hc
      refine bv_cons (sv_dputT 2 (ps_dput (hu_of hr) (pv 2) pe pe rfl) rfl ev_bl (ev_tsl (ks := [x.a, x.b, x.c, x.d]) (n := 5) (l := none) (u := (some (4 : Int))) (ev_var 5 rfl) eo_none (eo_some ev_int) (by decide)) (by have hz := look_len hs; have hl0 := congrArg List.length hx; rw [List.length_append, List.length_cons] at hl0; simp only [List.length_nil] at hz; have := hpre.2.2; omega)) ?_
      refine bv_cons (sv_dputT 3 (ps_dput (hu_of hr) (pv 3) pe pe rfl) rfl (ev_fz 3 rfl (ev_add (ev_dget2T hr.units (ev_var 3 rfl) (ev_tsl (ks := [x.a, x.b]) (n := 5) (l := none) (u := (some (2 : Int))) (ev_var 5 rfl) eo_none (eo_some ev_int) (by decide)) ev_int) (ev_tixv 4 (x.e) (ev_var 5 rfl)))) (ev_tsl (ks := [x.a, x.b]) (n := 5) (l := none) (u := (some (2 : Int))) (ev_var 5 rfl) eo_none (eo_some ev_int) (by decide)) (by have hz := look_len hs; have hl0 := congrArg List.length hx; rw [List.length_append, List.length_cons] at hl0; simp only [List.length_nil] at hz; have := hpre.2.2; omega)) ?_
      refine bv_cons (sv_dputT 4 (ps_dput (hu_of hr) (pv 4) pe pe rfl) rfl (ev_fz 4 rfl (ev_add (ev_dget2T hr.units (ev_var 4 rfl) (ev_tsl (ks := [x.c, x.d]) (n := 5) (l := (some (2 : Int))) (u := (some (4 : Int))) (ev_var 5 rfl) (eo_some ev_int) (eo_some ev_int) (by decide)) ev_int) (ev_tixv 4 (x.e) (ev_var 5 rfl)))) (ev_tsl (ks := [x.c, x.d]) (n := 5) (l := (some (2 : Int))) (u := (some (4 : Int))) (ev_var 5 rfl) (eo_some ev_int) (eo_some ev_int) (by decide)) (by have hz := look_len hs; have hl0 := congrArg List.length hx; rw [List.length_append, List.length_cons] at hl0; simp only [List.length_nil] at hz; have := hpre.2.2; omega)) ?_
      exact .nxs bv_nil (.eq (.eq (.eq (.eq (.eq (.any .nil))))))
  intro r e_r
  refine bv_fz 3 rfl ?_
  refine bv_fz 4 rfl ?_
  refine bv_ifx (of := fun b_1 => .rt (dt (bif b_1 then (none : (Option (T2 Int Int))) else (some (T2.mk ((dgetT r.2.1 [(-1 : Int), (-1 : Int)]).getD (0 : Int)) ((dgetT r.2.2 [(-1 : Int), (-1 : Int)]).getD (0 : Int))))))) (et_w (ew_or (et_not (et_val (ev_fn H_all_just hr (by decide) (ea_cons (ev_tixv 1 (works.b) (ev_var 0 rfl)) (ea_cons (ev_var 3 rfl) ea_nil)) ⟨_, _, rfl, (by first | exact hpre.1 | exact hpre.2.1), rfl⟩))) (fun hb_1 => (ew_or1 (et_not (et_val (ev_fn H_all_just hr (by decide) (ea_cons (ev_tixv 2 (works.c) (ev_var 0 rfl)) (ea_cons (ev_var 4 rfl) ea_nil)) ⟨_, _, rfl, (by first | exact hpre.1 | exact hpre.2.1), rfl⟩))))))) ?_ (by first | trivial | exact xo_ex _) ?_
  · intro hc_1
    exact bv_ret (ev_oN ev_none)
  · intro hc_1
    exact bv_ret (ev_some (ev_t2 (ea_cons (ev_dget2T hr.units (ev_var 3 rfl) (ev_tk (ks := [(-1 : Int), (-1 : Int)]) (ea_cons (ev_gint T.c_BOUGHT) (ea_cons (ev_gint T.c_BOUGHT) ea_nil))) ev_int) (ea_cons (ev_dget2T hr.units (ev_var 4 rfl) (ev_tk (ks := [(-1 : Int), (-1 : Int)]) (ea_cons (ev_gint T.c_BOUGHT) (ea_cons (ev_gint T.c_BOUGHT) ea_nil))) ev_int) ea_nil))))
/-! heat_above -/
def m_heat_above_L1 (step : Int) (s : Int) (x : (T3 Int Int Int)) : Int := (s + (x.c * (max (0 : Int) ((max x.a x.b) - (max step (min x.a x.b))))))
def m_heat_above (streams : (List (T3 Int Int Int))) (step : Int) : Int := (let found : Int := (streams.foldl (m_heat_above_L1 step) (0 : Int)); found)
def r_heat_above (ds : List Dat) (d : Dat) : Prop := ∃ (streams : (List (T3 Int Int Int))) (step : Int), ds = [dt streams, dt step] ∧ (RatesOk streams) ∧ d = dt (m_heat_above streams step)
abbrev s_heat_above : Stmt := topS 8
theorem sc_heat_above : FnScope ["streams", "step", "found", "start", "goal", "rate"] ["streams", "step"] (defScope s_heat_above) := ⟨rfl, rfl, rfl, by decide +kernel, rfl, by decide +kernel, by decide +kernel⟩
theorem ok_heat_above (T : Txt K mg)  {f : Addr} {fd : FuncData} (F : Fun K "heat_above" "heat_above" s_heat_above f fd) : FnOk P w K mg base CX0 1 f fd ["streams", "step"] (PSp K r_heat_above) := by
  refine fn_pure F sc_heat_above (fun ds d h => by obtain ⟨_, _, rfl, _⟩ := h; rfl) fun cdv A outer s H E ds d hr h => ?_
  obtain ⟨streams, step, rfl, hpre, rfl⟩ := h
  refine bv_cons (sv_set 2 sc_heat_above.nd ev_int) ?_
  refine bv_letS (fun (found : Int) => [.v (streams : (List (T3 Int Int Int))), .v (step : Int), .v (found : Int), .any, .any, .any]) (of := fun found => .rt (dt found)) (x := (streams.foldl (m_heat_above_L1 step) (0 : Int))) ?_ ?_
  · refine sv_for (fun (s : Int) => [.v (streams : (List (T3 Int Int Int))), .v (step : Int), .v (s : Int), .any, .any, .any]) (0 : Int) (m_heat_above_L1 step) (iv_list (ev_var 0 rfl)) (.eq (.eq (.eq (.any (.any (.any .nil)))))) (fun (s : Int) (x : (T3 Int Int Int)) => [.v (streams : (List (T3 Int Int Int))), .v (step : Int), .v (s : Int), .v (x.a : Int), .v (x.b : Int), .v (x.c : Int)]) (fun s x => (tv_tup (tvs_cons (tv_name 3 sc_heat_above.nd) (tvs_cons (tv_name 4 sc_heat_above.nd) (tvs_cons (tv_name 5 sc_heat_above.nd) tvs_nil))))) ?_ PassesOwn.never
    · intro pre x post s hx hs
      refine bv_cons (sv_aug 2 sc_heat_above.nd ip_add rfl (ev_mul (ev_var 5 rfl) (ev_max2 rfl T.z_max ev_int (ev_sub (ev_max2 rfl T.z_max (ev_var 3 rfl) (ev_var 4 rfl)) (ev_max2 rfl T.z_max (ev_var 1 rfl) (ev_min2 rfl T.z_min (ev_var 3 rfl) (ev_var 4 rfl))))) (.inl (by have h := hpre x (by rw [hx]; simp); omega)))) ?_
      exact .nxs bv_nil (.eq (.eq (.eq (.any (.any (.any .nil))))))
  intro found e_found
  exact bv_ret (ev_var 2 rfl)
/-! lack_above -/
def m_lack_above (works : (T3 Int (List (T3 Int Int Int)) (List (T3 Int Int Int)))) (level : Int) : Int := ((m_heat_above works.c (level - works.a)) - (m_heat_above works.b level))
def r_lack_above (ds : List Dat) (d : Dat) : Prop := ∃ (works : (T3 Int (List (T3 Int Int Int)) (List (T3 Int Int Int)))) (level : Int), ds = [dt works, dt level] ∧ (WSm works) ∧ d = dt (m_lack_above works level)
abbrev s_lack_above : Stmt := topS 9
theorem sc_lack_above : FnScope ["works", "level"] ["works", "level"] (defScope s_lack_above) := ⟨rfl, rfl, rfl, by decide +kernel, rfl, by decide +kernel, by decide +kernel⟩
theorem ok_lack_above (T : Txt K mg) (H_heat_above : FnAt P w K mg base "heat_above" 1 ["streams", "step"] r_heat_above) {f : Addr} {fd : FuncData} (F : Fun K "lack_above" "lack_above" s_lack_above f fd) : FnOk P w K mg base CX0 2 f fd ["works", "level"] (PSp K r_lack_above) := by
  refine fn_pure F sc_lack_above (fun ds d h => by obtain ⟨_, _, rfl, _⟩ := h; rfl) fun cdv A outer s H E ds d hr h => ?_
  obtain ⟨works, level, rfl, hpre, rfl⟩ := h
  exact bv_ret (ev_sub (ev_fn H_heat_above hr (by decide) (ea_cons (ev_tixv 2 (works.c) (ev_var 0 rfl)) (ea_cons (ev_sub (ev_var 1 rfl) (ev_tixv 0 (works.a) (ev_var 0 rfl))) ea_nil)) ⟨_, _, rfl, (by first | exact hpre.rc | exact hpre.rb), rfl⟩) (ev_fn H_heat_above hr (by decide) (ea_cons (ev_tixv 1 (works.b) (ev_var 0 rfl)) (ea_cons (ev_var 1 rfl) ea_nil)) ⟨_, _, rfl, (by first | exact hpre.rc | exact hpre.rb), rfl⟩))
/-! kinks -/
def m_kinks_L1  (s : (List (Int × Bool))) (x : (T3 Int Int Int)) : (List (Int × Bool)) := (dput (dput s x.a true) x.b true)
def m_kinks_L2 (works : (T3 Int (List (T3 Int Int Int)) (List (T3 Int Int Int)))) (s_1 : (List (Int × Bool))) (x_1 : (T3 Int Int Int)) : (List (Int × Bool)) := (dput (dput s_1 (x_1.a + works.a) true) (x_1.b + works.a) true)
def m_kinks (works : (T3 Int (List (T3 Int Int Int)) (List (T3 Int Int Int)))) : (List Int) := (let found : (List (Int × Bool)) := (works.b.foldl m_kinks_L1 ([((0 : Int), true)] : List (Int × Bool))); (let found_1 : (List (Int × Bool)) := (works.c.foldl (m_kinks_L2 works) found); (sortD (found_1.map (·.1)))))
theorem kinks_fold_len (f : List (Int × Bool) → T3 Int Int Int → List (Int × Bool)) (hf : ∀ s x, (f s x).length ≤ s.length + 2) : ∀ (xs : List (T3 Int Int Int)) (s : List (Int × Bool)), (xs.foldl f s).length ≤ s.length + 2 * xs.length
  | [], s => by simp
  | x :: r, s => by
    have h := kinks_fold_len f hf r (f s x)
    have h2 := hf s x
    rw [List.foldl_cons, List.length_cons]
    omega
theorem kinks_L1_le (s : List (Int × Bool)) (x : T3 Int Int Int) : (m_kinks_L1 s x).length ≤ s.length + 2 := by
  have h1 := dput_len (dput s x.a true) x.b true
  have h2 := dput_len s x.a true
  show (dput (dput s x.a true) x.b true).length ≤ _
  omega
theorem kinks_L2_le (works : T3 Int (List (T3 Int Int Int)) (List (T3 Int Int Int))) (s : List (Int × Bool)) (x : T3 Int Int Int) : (m_kinks_L2 works s x).length ≤ s.length + 2 := by
  have h1 := dput_len (dput s (x.a + works.a) true) (x.b + works.a) true
  have h2 := dput_len s (x.a + works.a) true
  show (dput (dput s (x.a + works.a) true) (x.b + works.a) true).length ≤ _
  omega
theorem kinks_L1_len {works : T3 Int (List (T3 Int Int Int)) (List (T3 Int Int Int))} {found : List (Int × Bool)} (hw : WSm works) (e : found = works.b.foldl m_kinks_L1 [((0 : Int), true)]) : found.length ≤ 2001 := by
  have h := kinks_fold_len _ kinks_L1_le works.b [((0 : Int), true)]
  have := hw.nb
  rw [e]
  simp only [List.length_cons, List.length_nil] at h
  omega
theorem kinks_len {works : T3 Int (List (T3 Int Int Int)) (List (T3 Int Int Int))} (hw : WSm works) : (m_kinks works).length ≤ 4001 := by
  unfold m_kinks
  dsimp only
  rw [(sortD_perm _).length_eq, List.length_map]
  have h := kinks_fold_len _ (kinks_L2_le works) works.c (works.b.foldl m_kinks_L1 [((0 : Int), true)])
  have h2 := kinks_L1_len hw rfl
  have := hw.nc
  omega

def r_kinks (ds : List Dat) (d : Dat) : Prop := ∃ (works : (T3 Int (List (T3 Int Int Int)) (List (T3 Int Int Int)))), ds = [dt works] ∧ (WSm works) ∧ d = dt (m_kinks works)
abbrev s_kinks : Stmt := topS 11
theorem sc_kinks : FnScope ["works", "found", "start", "goal", "rate"] ["works"] (defScope s_kinks) := ⟨rfl, rfl, rfl, by decide +kernel, rfl, by decide +kernel, by decide +kernel⟩
theorem ok_kinks (T : Txt K mg)  {f : Addr} {fd : FuncData} (F : Fun K "kinks" "kinks" s_kinks f fd) : FnOk P w K mg base CX0 1 f fd ["works"] (PSp K r_kinks) := by
  refine fn_pure F sc_kinks (fun ds d h => by obtain ⟨_, rfl, _⟩ := h; rfl) fun cdv A outer s H E ds d hr h => ?_
  obtain ⟨works, rfl, hpre, rfl⟩ := h
  refine bv_cons (sv_own 1 sc_kinks.nd (en_disp1 (pe_disp (pps_cons pe pe pps_nil) (by rfl) (by rfl) (fun z => by cases z) (by decide)) ev_int ev_bl)) ?_
  refine bv_letS (fun (found : (List (Int × Bool))) => [.v (works : (T3 Int (List (T3 Int Int Int)) (List (T3 Int Int Int)))), .o (MD.mk (found : (List (Int × Bool)))), .any, .any, .any]) (of := fun found => .rt (dt (let found_1 : (List (Int × Bool)) := (works.c.foldl (m_kinks_L2 works) found); (sortD (found_1.map (·.1)))))) (x := (works.b.foldl m_kinks_L1 ([((0 : Int), true)] : List (Int × Bool)))) ?_ ?_
  · refine sv_forI (fun (s : (List (Int × Bool))) => [.v (works : (T3 Int (List (T3 Int Int Int)) (List (T3 Int Int Int)))), .o (MD.mk (s : (List (Int × Bool)))), .any, .any, .any]) ([((0 : Int), true)] : List (Int × Bool)) m_kinks_L1 (fun (pre : List (T3 Int Int Int)) (s : (List (Int × Bool))) => s.length ≤ 1 + 2 * pre.length) (iv_list (ev_tixv 1 (works.b) (ev_var 0 rfl))) (.eq (.eq (.any (.any (.any .nil))))) (fun (s : (List (Int × Bool))) (x : (T3 Int Int Int)) => [.v (works : (T3 Int (List (T3 Int Int Int)) (List (T3 Int Int Int)))), .o (MD.mk (s : (List (Int × Bool)))), .v (x.a : Int), .v (x.b : Int), .v (x.c : Int)]) (fun s x => (tv_tup (tvs_cons (tv_name 2 sc_kinks.nd) (tvs_cons (tv_name 3 sc_kinks.nd) (tvs_cons (tv_name 4 sc_kinks.nd) tvs_nil))))) (by simp) (fun pre x s _ h => by have h1 := dput_len (dput s x.a true) x.b true; have h2 := dput_len s x.a true; show (dput (dput s x.a true) x.b true).length ≤ _; simp only [List.length_append, List.length_cons, List.length_nil]; omega) ?_ PassesOwn.never
    · intro pre x post s hx hs hI
      refine bv_cons (sv_dput 1 (ps_dput (hu_of hr) (pv 1) pe pe rfl) rfl ev_bl (ev_var 2 rfl) (by have hl := congrArg List.length hx; have hb := hpre.nb; simp only [List.length_append, List.length_cons] at hl; have hl : works.b.length = _ := hl; omega)) ?_
      refine bv_cons (sv_dput 1 (ps_dput (hu_of hr) (pv 1) pe pe rfl) rfl ev_bl (ev_var 3 rfl) (by have hl := congrArg List.length hx; have hb := hpre.nb; simp only [List.length_append, List.length_cons] at hl; have hl : works.b.length = _ := hl; have h2 := dput_len s x.a true; omega)) ?_
      exact .nxs bv_nil (.eq (.eq (.any (.any (.any .nil)))))
  intro found e_found
  refine bv_letS (fun (found_1 : (List (Int × Bool))) => [.v (works : (T3 Int (List (T3 Int Int Int)) (List (T3 Int Int Int)))), .o (MD.mk (found_1 : (List (Int × Bool)))), .any, .any, .any]) (of := fun found_1 => .rt (dt (sortD (found_1.map (·.1))))) (x := (works.c.foldl (m_kinks_L2 works) found)) ?_ ?_
  · refine sv_forI (fun (s_1 : (List (Int × Bool))) => [.v (works : (T3 Int (List (T3 Int Int Int)) (List (T3 Int Int Int)))), .o (MD.mk (s_1 : (List (Int × Bool)))), .any, .any, .any]) found (m_kinks_L2 works) (fun (pre : List (T3 Int Int Int)) (s_1 : (List (Int × Bool))) => s_1.length ≤ found.length + 2 * pre.length) (iv_list (ev_tixv 2 (works.c) (ev_var 0 rfl))) (.eq (.eq (.any (.any (.any .nil))))) (fun (s_1 : (List (Int × Bool))) (x_1 : (T3 Int Int Int)) => [.v (works : (T3 Int (List (T3 Int Int Int)) (List (T3 Int Int Int)))), .o (MD.mk (s_1 : (List (Int × Bool)))), .v (x_1.a : Int), .v (x_1.b : Int), .v (x_1.c : Int)]) (fun s_1 x_1 => (tv_tup (tvs_cons (tv_name 2 sc_kinks.nd) (tvs_cons (tv_name 3 sc_kinks.nd) (tvs_cons (tv_name 4 sc_kinks.nd) tvs_nil))))) (by simp) (fun pre x s _ h => by have h1 := dput_len (dput s (x.a + works.a) true) (x.b + works.a) true; have h2 := dput_len s (x.a + works.a) true; show (dput (dput s (x.a + works.a) true) (x.b + works.a) true).length ≤ _; simp only [List.length_append, List.length_cons, List.length_nil]; omega) ?_ PassesOwn.never
    · intro pre x_1 post s_1 hx_1 hs_1 hI_1
      refine bv_cons (sv_dput 1 (ps_dput (hu_of hr) (pv 1) pe pe rfl) rfl ev_bl (ev_add (ev_var 2 rfl) (ev_tixv 0 (works.a) (ev_var 0 rfl))) (by have hl := congrArg List.length hx_1; have hb := hpre.nc; have hn := kinks_L1_len hpre e_found; simp only [List.length_append, List.length_cons] at hl; have hl : works.c.length = _ := hl; omega)) ?_
      refine bv_cons (sv_dput 1 (ps_dput (hu_of hr) (pv 1) pe pe rfl) rfl ev_bl (ev_add (ev_var 3 rfl) (ev_tixv 0 (works.a) (ev_var 0 rfl))) (by have hl := congrArg List.length hx_1; have hb := hpre.nc; have hn := kinks_L1_len hpre e_found; simp only [List.length_append, List.length_cons] at hl; have hl : works.c.length = _ := hl; have h2 := dput_len s_1 (x_1.a + works.a) true; omega)) ?_
      exact .nxs bv_nil (.eq (.eq (.any (.any (.any .nil)))))
  intro found_1 e_found_1
  refine bv_fz 1 rfl ?_
  exact bv_ret (ev_new (en_sortedRD rfl T.z_sorted (ev_var 1 rfl) (pe_callBK (cr_sortedRevDI rfl) (by rfl) T.z_sorted (by decide +kernel) (pa_cons pe pa_nil) (pk_cons pe_bl pk_nil))))
/-! least_heat -/
def m_least_heat (works : (T3 Int (List (T3 Int Int Int)) (List (T3 Int Int Int)))) : Int := (maxL (([(0 : Int)] : List Int) ++ ((m_kinks works).map (fun (x_1 : Int) => (m_lack_above works x_1)))))
def r_least_heat (ds : List Dat) (d : Dat) : Prop := ∃ (works : (T3 Int (List (T3 Int Int Int)) (List (T3 Int Int Int)))), ds = [dt works] ∧ (WSm works) ∧ d = dt (m_least_heat works)
abbrev s_least_heat : Stmt := topS 12
theorem sc_least_heat : FnScope ["works", "level"] ["works"] (defScope s_least_heat) := ⟨rfl, rfl, rfl, by decide +kernel, rfl, by decide +kernel, by decide +kernel⟩
theorem ok_least_heat (T : Txt K mg) (H_kinks : FnAt P w K mg base "kinks" 1 ["works"] r_kinks) (H_lack_above : FnAt P w K mg base "lack_above" 2 ["works", "level"] r_lack_above) {f : Addr} {fd : FuncData} (F : Fun K "least_heat" "least_heat" s_least_heat f fd) : FnOk P w K mg base CX0 3 f fd ["works"] (PSp K r_least_heat) := by
  refine fn_pure F sc_least_heat (fun ds d h => by obtain ⟨_, rfl, _⟩ := h; rfl) fun cdv A outer s H E ds d hr h => ?_
  obtain ⟨works, rfl, hpre, rfl⟩ := h
  exact bv_ret (ev_maxL rfl T.z_max (ev_new (en_catS (ev_new (en_lst (xs := ([(0 : Int)] : List Int)) (ea_cons ev_int ea_nil))) (ev_new (en_el rfl sc_least_heat.nd (blkOk_by (own := [(Str.ofString "level", 1)]) (N := ["works", "level"]) (sc := defScope s_least_heat) (by decide +kernel)) (el_lc (own := [(Str.ofString "level", 1)]) (fun (x_1 : Int) => [.v (works : (T3 Int (List (T3 Int Int Int)) (List (T3 Int Int Int)))), .v (x_1 : Int)]) (fun (x_1 : Int) => (m_lack_above works x_1)) (iv_list (ev_fn H_kinks hr (by decide) (ea_cons (ev_var 0 rfl) ea_nil) ⟨_, rfl, hpre, rfl⟩)) (fun _ _ _ _ _ x_1 => (tx_name 1 sc_least_heat.nd)) (fun _ x_1 _ hx_1 _ _ _ _ _ => (ev_fn H_lack_above hr (by decide) (ea_cons (ev_var 0 rfl) (ea_cons (ev_var 1 rfl) ea_nil)) ⟨_, _, rfl, hpre, rfl⟩)) (by have := kinks_len hpre; first | omega | (simp only [List.length_cons, List.length_nil, List.length_map]; omega))))) (by have := kinks_len hpre; first | omega | (simp only [List.length_cons, List.length_nil, List.length_map]; omega)))) (by rw [List.length_append]; simp only [List.length_cons]; omega))
/-! least_cold -/
def m_least_cold (works : (T3 Int (List (T3 Int Int Int)) (List (T3 Int Int Int)))) : Int := ((m_least_heat works) - (m_lack_above works (0 : Int)))
def r_least_cold (ds : List Dat) (d : Dat) : Prop := ∃ (works : (T3 Int (List (T3 Int Int Int)) (List (T3 Int Int Int)))), ds = [dt works] ∧ (WSm works) ∧ d = dt (m_least_cold works)
abbrev s_least_cold : Stmt := topS 13
theorem sc_least_cold : FnScope ["works"] ["works"] (defScope s_least_cold) := ⟨rfl, rfl, rfl, by decide +kernel, rfl, by decide +kernel, by decide +kernel⟩
theorem ok_least_cold (T : Txt K mg) (H_lack_above : FnAt P w K mg base "lack_above" 2 ["works", "level"] r_lack_above) (H_least_heat : FnAt P w K mg base "least_heat" 3 ["works"] r_least_heat) {f : Addr} {fd : FuncData} (F : Fun K "least_cold" "least_cold" s_least_cold f fd) : FnOk P w K mg base CX0 4 f fd ["works"] (PSp K r_least_cold) := by
  refine fn_pure F sc_least_cold (fun ds d h => by obtain ⟨_, rfl, _⟩ := h; rfl) fun cdv A outer s H E ds d hr h => ?_
  obtain ⟨works, rfl, hpre, rfl⟩ := h
  exact bv_ret (ev_sub (ev_fn H_least_heat hr (by decide) (ea_cons (ev_var 0 rfl) ea_nil) ⟨_, rfl, hpre, rfl⟩) (ev_fn H_lack_above hr (by decide) (ea_cons (ev_var 0 rfl) (ea_cons ev_int ea_nil)) ⟨_, _, rfl, hpre, rfl⟩))
/-! law -/
def m_law (script : (List Int)) : Bool := (let works : (T3 Int (List (T3 Int Int Int)) (List (T3 Int Int Int))) := (m_law_works script); (let handed : (T3 Int (List (T3 Int Int Int)) (List (T3 Int Int Int))) := (T3.mk works.a works.b works.c); (let passes : (List (T5 Int Int Int Int Int)) := (m_law_drawn works script); (let heat : Int := ((passes.filter (fun (x : (T5 Int Int Int Int Int)) => (decide (x.a < (0 : Int))))).map (fun (x : (T5 Int Int Int Int Int)) => x.e)).sum; (let cold : Int := ((passes.filter (fun (x_1 : (T5 Int Int Int Int Int)) => (decide (x_1.c < (0 : Int))))).map (fun (x_1 : (T5 Int Int Int Int Int)) => x_1.e)).sum; (let asked : (List (T5 Int Int Int Int Int)) := passes; (bif ((!decide ((m_looked_through handed asked) = (some (T2.mk heat cold)))) || ((!decide (asked = passes)) || (!decide (handed = works)))) then false else (bif ((decide (heat < (m_least_heat works))) || (!decide ((heat - (m_least_heat works)) = (cold - (m_least_cold works))))) then false else (bif (decide (passes = ([] : (List (T5 Int Int Int Int Int))))) then true else ((m_looked_through works (m_law_spoilt passes (m_law_cell_at script (11 : Int)))).isNone))))))))))

theorem WorksOk.dh {w : T3 Int (List (T3 Int Int Int)) (List (T3 Int Int Int))} (h : WorksOk w) : ∀ s ∈ w.b, StrD s := fun s hs => by
  have := (h.h s hs).a0
  have := (h.h s hs).a1
  have := (h.h s hs).a2
  exact ⟨by omega, by omega, by omega, by omega⟩
theorem WorksOk.dc {w : T3 Int (List (T3 Int Int Int)) (List (T3 Int Int Int))} (h : WorksOk w) : ∀ s ∈ w.c, StrD s := fun s hs => by
  have := (h.c s hs).a0
  have := (h.c s hs).a1
  have := (h.c s hs).a2
  exact ⟨by omega, by omega, by omega, by omega⟩
theorem spoilt_len {ps : List (T5 Int Int Int Int Int)} {cell : Int} : (m_law_spoilt ps cell).length ≤ 2 * ps.length + 2 := by
  unfold m_law_spoilt
  dsimp only
  generalize cell / 4 % (ps.length : Int) = z
  have h1 := pySlice_len ps none (some z) none
  have h2 := pySlice_len ps (some (z + (1 : Int))) none none
  have h3 := pySlice_len ps (some z) none none
  have two : ∀ (b : Bool) (p q : List (T5 Int Int Int Int Int)) (n : Nat), p.length ≤ n → q.length ≤ n → (bif b then p else q).length ≤ n := fun b p q n hp hq => by cases b <;> assumption
  refine two _ _ _ _ ?_ (two _ _ _ _ ?_ (two _ _ _ _ ?_ (two _ _ _ _ ?_ ?_)))
  all_goals (simp only [List.length_append, List.length_cons, List.length_nil]; omega)

def r_law (ds : List Dat) (d : Dat) : Prop := ∃ (script : (List Int)), ds = [dt script] ∧ d = dt (m_law script)
abbrev s_law : Stmt := topS 23
theorem sc_law : FnScope ["script", "works", "handed", "passes", "heat", "cold", "asked", "spoilt", "one"] ["script"] (defScope s_law) := ⟨rfl, rfl, rfl, by decide +kernel, rfl, by decide +kernel, by decide +kernel⟩
theorem ok_law (T : Txt K mg) (H_law_cell_at : FnAt P w K mg base "_law_cell_at" 1 ["script", "k"] r_law_cell_at) (H_law_drawn : FnAt P w K mg base "_law_drawn" 2 ["works", "script"] r_law_drawn) (H_law_spoilt : FnAt P w K mg base "_law_spoilt" 1 ["passes", "cell"] r_law_spoilt) (H_law_works : FnAt P w K mg base "_law_works" 2 ["script"] r_law_works) (H_least_cold : FnAt P w K mg base "least_cold" 4 ["works"] r_least_cold) (H_least_heat : FnAt P w K mg base "least_heat" 3 ["works"] r_least_heat) (H_looked_through : FnAt P w K mg base "looked_through" 3 ["works", "passes"] r_looked_through) {f : Addr} {fd : FuncData} (F : Fun K "law" "law" s_law f fd) : FnOk P w K mg base CX0 5 f fd ["script"] (PSp K r_law) := by
  refine fn_pure F sc_law (fun ds d h => by obtain ⟨_, rfl, _⟩ := h; rfl) fun cdv A outer s H E ds d hr h => ?_
  obtain ⟨script, rfl, rfl⟩ := h
  refine bv_let (of := fun works => .rt (dt (let handed : (T3 Int (List (T3 Int Int Int)) (List (T3 Int Int Int))) := (T3.mk works.a works.b works.c); (let passes : (List (T5 Int Int Int Int Int)) := (m_law_drawn works script); (let heat : Int := ((passes.filter (fun (x : (T5 Int Int Int Int Int)) => (decide (x.a < (0 : Int))))).map (fun (x : (T5 Int Int Int Int Int)) => x.e)).sum; (let cold : Int := ((passes.filter (fun (x_1 : (T5 Int Int Int Int Int)) => (decide (x_1.c < (0 : Int))))).map (fun (x_1 : (T5 Int Int Int Int Int)) => x_1.e)).sum; (let asked : (List (T5 Int Int Int Int Int)) := passes; (bif ((!decide ((m_looked_through handed asked) = (some (T2.mk heat cold)))) || ((!decide (asked = passes)) || (!decide (handed = works)))) then false else (bif ((decide (heat < (m_least_heat works))) || (!decide ((heat - (m_least_heat works)) = (cold - (m_least_cold works))))) then false else (bif (decide (passes = ([] : (List (T5 Int Int Int Int Int))))) then true else ((m_looked_through works (m_law_spoilt passes (m_law_cell_at script (11 : Int)))).isNone))))))))))) (sv_set 1 sc_law.nd (ev_fn H_law_works hr (by decide) (ea_cons (ev_var 0 rfl) ea_nil) ⟨_, rfl, rfl⟩)) ?_
  intro works e_works
  have hw : WorksM works := e_works ▸ works_ok script
  refine bv_let (of := fun handed => .rt (dt (let passes : (List (T5 Int Int Int Int Int)) := (m_law_drawn works script); (let heat : Int := ((passes.filter (fun (x : (T5 Int Int Int Int Int)) => (decide (x.a < (0 : Int))))).map (fun (x : (T5 Int Int Int Int Int)) => x.e)).sum; (let cold : Int := ((passes.filter (fun (x_1 : (T5 Int Int Int Int Int)) => (decide (x_1.c < (0 : Int))))).map (fun (x_1 : (T5 Int Int Int Int Int)) => x_1.e)).sum; (let asked : (List (T5 Int Int Int Int Int)) := passes; (bif ((!decide ((m_looked_through handed asked) = (some (T2.mk heat cold)))) || ((!decide (asked = passes)) || (!decide (handed = works)))) then false else (bif ((decide (heat < (m_least_heat works))) || (!decide ((heat - (m_least_heat works)) = (cold - (m_least_cold works))))) then false else (bif (decide (passes = ([] : (List (T5 Int Int Int Int Int))))) then true else ((m_looked_through works (m_law_spoilt passes (m_law_cell_at script (11 : Int)))).isNone)))))))))) (sv_set 2 sc_law.nd (ev_t3 (ea_cons (ev_tixv 0 (works.a) (ev_var 1 rfl)) (ea_cons (ev_new (en_list T.z_list (ev_tixv 1 (works.b) (ev_var 1 rfl)))) (ea_cons (ev_new (en_list T.z_list (ev_tixv 2 (works.c) (ev_var 1 rfl)))) ea_nil))))) ?_
  intro handed e_handed
  refine bv_let (of := fun passes => .rt (dt (let heat : Int := ((passes.filter (fun (x : (T5 Int Int Int Int Int)) => (decide (x.a < (0 : Int))))).map (fun (x : (T5 Int Int Int Int Int)) => x.e)).sum; (let cold : Int := ((passes.filter (fun (x_1 : (T5 Int Int Int Int Int)) => (decide (x_1.c < (0 : Int))))).map (fun (x_1 : (T5 Int Int Int Int Int)) => x_1.e)).sum; (let asked : (List (T5 Int Int Int Int Int)) := passes; (bif ((!decide ((m_looked_through handed asked) = (some (T2.mk heat cold)))) || ((!decide (asked = passes)) || (!decide (handed = works)))) then false else (bif ((decide (heat < (m_least_heat works))) || (!decide ((heat - (m_least_heat works)) = (cold - (m_least_cold works))))) then false else (bif (decide (passes = ([] : (List (T5 Int Int Int Int Int))))) then true else ((m_looked_through works (m_law_spoilt passes (m_law_cell_at script (11 : Int)))).isNone))))))))) (sv_set 3 sc_law.nd (ev_fn H_law_drawn hr (by decide) (ea_cons (ev_var 1 rfl) (ea_cons (ev_var 0 rfl) ea_nil)) ⟨_, _, rfl, hw, rfl⟩)) ?_
  intro passes e_passes
  have hN : passes.length ≤ 641600 := e_passes ▸ drawn_few hw script
  refine bv_let (of := fun heat => .rt (dt (let cold : Int := ((passes.filter (fun (x_1 : (T5 Int Int Int Int Int)) => (decide (x_1.c < (0 : Int))))).map (fun (x_1 : (T5 Int Int Int Int Int)) => x_1.e)).sum; (let asked : (List (T5 Int Int Int Int Int)) := passes; (bif ((!decide ((m_looked_through handed asked) = (some (T2.mk heat cold)))) || ((!decide (asked = passes)) || (!decide (handed = works)))) then false else (bif ((decide (heat < (m_least_heat works))) || (!decide ((heat - (m_least_heat works)) = (cold - (m_least_cold works))))) then false else (bif (decide (passes = ([] : (List (T5 Int Int Int Int Int))))) then true else ((m_looked_through works (m_law_spoilt passes (m_law_cell_at script (11 : Int)))).isNone)))))))) (sv_set 4 sc_law.nd (ev_sum rfl T.z_sum (ev_new (en_el rfl sc_law.nd (blkOk_by (own := [(Str.ofString "one", 8)]) (N := ["script", "works", "handed", "passes", "heat", "cold", "asked", "spoilt", "one"]) (sc := defScope s_law) (by decide +kernel)) (el_lcIf (own := [(Str.ofString "one", 8)]) (fun (x : (T5 Int Int Int Int Int)) => [.v (script : (List Int)), .v (works : (T3 Int (List (T3 Int Int Int)) (List (T3 Int Int Int)))), .v (handed : (T3 Int (List (T3 Int Int Int)) (List (T3 Int Int Int)))), .v (passes : (List (T5 Int Int Int Int Int))), .any, .any, .any, .any, .v (x : (T5 Int Int Int Int Int))]) (fun (x : (T5 Int Int Int Int Int)) => (decide (x.a < (0 : Int)))) (fun (x : (T5 Int Int Int Int Int)) => x.e) (iv_list (ev_var 3 rfl)) (fun _ _ _ _ _ x => (tx_name 8 sc_law.nd)) (fun _ x _ hx _ _ _ _ _ => (et_lt (ev_tixv 0 (x.a) (ev_var 8 rfl)) ev_int)) (fun _ x _ hx hp _ _ _ _ _ => (ev_tixv 4 (x.e) (ev_var 8 rfl))) (by omega)))))) ?_
  intro heat e_heat
  refine bv_let (of := fun cold => .rt (dt (let asked : (List (T5 Int Int Int Int Int)) := passes; (bif ((!decide ((m_looked_through handed asked) = (some (T2.mk heat cold)))) || ((!decide (asked = passes)) || (!decide (handed = works)))) then false else (bif ((decide (heat < (m_least_heat works))) || (!decide ((heat - (m_least_heat works)) = (cold - (m_least_cold works))))) then false else (bif (decide (passes = ([] : (List (T5 Int Int Int Int Int))))) then true else ((m_looked_through works (m_law_spoilt passes (m_law_cell_at script (11 : Int)))).isNone))))))) (sv_set 5 sc_law.nd (ev_sum rfl T.z_sum (ev_new (en_el rfl sc_law.nd (blkOk_by (own := [(Str.ofString "one", 8)]) (N := ["script", "works", "handed", "passes", "heat", "cold", "asked", "spoilt", "one"]) (sc := defScope s_law) (by decide +kernel)) (el_lcIf (own := [(Str.ofString "one", 8)]) (fun (x_1 : (T5 Int Int Int Int Int)) => [.v (script : (List Int)), .v (works : (T3 Int (List (T3 Int Int Int)) (List (T3 Int Int Int)))), .v (handed : (T3 Int (List (T3 Int Int Int)) (List (T3 Int Int Int)))), .v (passes : (List (T5 Int Int Int Int Int))), .v (heat : Int), .any, .any, .any, .v (x_1 : (T5 Int Int Int Int Int))]) (fun (x_1 : (T5 Int Int Int Int Int)) => (decide (x_1.c < (0 : Int)))) (fun (x_1 : (T5 Int Int Int Int Int)) => x_1.e) (iv_list (ev_var 3 rfl)) (fun _ _ _ _ _ x_1 => (tx_name 8 sc_law.nd)) (fun _ x_1 _ hx_1 _ _ _ _ _ => (et_lt (ev_tixv 2 (x_1.c) (ev_var 8 rfl)) ev_int)) (fun _ x_1 _ hx_1 hp_1 _ _ _ _ _ => (ev_tixv 4 (x_1.e) (ev_var 8 rfl))) (by omega)))))) ?_
  intro cold e_cold
  refine bv_let (of := fun asked => .rt (dt (bif ((!decide ((m_looked_through handed asked) = (some (T2.mk heat cold)))) || ((!decide (asked = passes)) || (!decide (handed = works)))) then false else (bif ((decide (heat < (m_least_heat works))) || (!decide ((heat - (m_least_heat works)) = (cold - (m_least_cold works))))) then false else (bif (decide (passes = ([] : (List (T5 Int Int Int Int Int))))) then true else ((m_looked_through works (m_law_spoilt passes (m_law_cell_at script (11 : Int)))).isNone)))))) (sv_set 6 sc_law.nd (ev_new (en_list T.z_list (ev_var 3 rfl)))) ?_
  intro asked e_asked
  have hN1 : asked.length ≤ 641600 := e_asked ▸ hN
  refine bv_ifx (of := fun b_2 => .rt (dt (bif b_2 then false else (bif ((decide (heat < (m_least_heat works))) || (!decide ((heat - (m_least_heat works)) = (cold - (m_least_cold works))))) then false else (bif (decide (passes = ([] : (List (T5 Int Int Int Int Int))))) then true else ((m_looked_through works (m_law_spoilt passes (m_law_cell_at script (11 : Int)))).isNone)))))) (et_w (ew_or (et_dne hr.units (ev_fn H_looked_through hr (by decide) (ea_cons (ev_var 2 rfl) (ea_cons (ev_var 6 rfl) ea_nil)) ⟨_, _, rfl, (by first | (rw [e_handed]; exact ⟨hw.ok.dh, hw.ok.dc, by omega⟩) | exact ⟨hw.ok.dh, hw.ok.dc, Nat.le_trans spoilt_len (by omega)⟩), rfl⟩) (ev_some (ev_t2 (ea_cons (ev_var 4 rfl) (ea_cons (ev_var 5 rfl) ea_nil)))) (OkAll.all _) (OkAll.all _)) (fun hb => (ew_or (et_dne hr.units (ev_var 6 rfl) (ev_var 3 rfl) (OkAll.all _) (OkAll.all _)) (fun hb_1 => (ew_or1 (et_dne hr.units (ev_var 2 rfl) (ev_var 1 rfl) (OkAll.all _) (OkAll.all _)))))))) ?_ (by first | trivial | exact xo_ex _) ?_
  · intro hc
    exact bv_ret ev_bl
  · intro hc
    refine bv_ifx (of := fun b_1 => .rt (dt (bif b_1 then false else (bif (decide (passes = ([] : (List (T5 Int Int Int Int Int))))) then true else ((m_looked_through works (m_law_spoilt passes (m_law_cell_at script (11 : Int)))).isNone))))) (et_w (ew_or (et_lt (ev_var 4 rfl) (ev_fn H_least_heat hr (by decide) (ea_cons (ev_var 1 rfl) ea_nil) ⟨_, rfl, hw.ok.sm, rfl⟩)) (fun hb_2 => (ew_or1 (et_ne (ev_sub (ev_var 4 rfl) (ev_fn H_least_heat hr (by decide) (ea_cons (ev_var 1 rfl) ea_nil) ⟨_, rfl, hw.ok.sm, rfl⟩)) (ev_sub (ev_var 5 rfl) (ev_fn H_least_cold hr (by decide) (ea_cons (ev_var 1 rfl) ea_nil) ⟨_, rfl, hw.ok.sm, rfl⟩))))))) ?_ (by first | trivial | exact xo_ex _) ?_
    · intro hc_1
      exact bv_ret ev_bl
    · intro hc_1
      refine bv_ifx (of := fun b => .rt (dt (bif b then true else ((m_looked_through works (m_law_spoilt passes (m_law_cell_at script (11 : Int)))).isNone)))) (et_deq hr.units (ev_var 3 rfl) (ev_new (en_lst (xs := ([] : (List (T5 Int Int Int Int Int)))) ea_nil)) (OkAll.all _) (OkAll.all _)) ?_ (by first | trivial | exact xo_ex _) ?_
      · intro hc_2
        exact bv_ret ev_bl
      · intro hc_2
        refine bv_cons (sv_set 7 sc_law.nd (ev_fn H_law_spoilt hr (by decide) (ea_cons (ev_var 3 rfl) (ea_cons (ev_fn H_law_cell_at hr (by decide) (ea_cons (ev_var 0 rfl) (ea_cons ev_int ea_nil)) ⟨_, _, rfl, (by decide), rfl⟩) ea_nil)) ⟨_, _, rfl, ⟨List.length_pos_iff.mpr (of_decide_eq_false (by assumption)), by omega⟩, rfl⟩)) ?_
        exact bv_ret (ev_isN (ev_fn H_looked_through hr (by decide) (ea_cons (ev_var 1 rfl) (ea_cons (ev_var 7 rfl) ea_nil)) ⟨_, _, rfl, (by first | (rw [e_handed]; exact ⟨hw.ok.dh, hw.ok.dc, by omega⟩) | exact ⟨hw.ok.dh, hw.ok.dc, Nat.le_trans spoilt_len (by omega)⟩), rfl⟩))
end
end Tw

set_option maxRecDepth 100000
set_option maxHeartbeats 4000000
/-! heat above a level, by streams -/
namespace Tw
open PySem PySem.Spec PyProof.Rows L2 Wl
abbrev Strm := T3 Int Int Int
abbrev Wks := T3 Int (List (T3 Int Int Int)) (List (T3 Int Int Int))
def heat1 (x : Strm) (l : Int) : Int := x.c * max 0 (max x.a x.b - max l (min x.a x.b))
def rat1 (x : Strm) (l : Int) : Int := if min x.a x.b ≤ l ∧ l < max x.a x.b then x.c else 0
def heatM (xs : List Strm) (l : Int) : Int := (xs.map fun x => heat1 x l).sum
def rat (xs : List Strm) (l : Int) : Int := (xs.map fun x => rat1 x l).sum
def lackM (w : Wks) (l : Int) : Int := heatM w.c (l - w.a) - heatM w.b l
theorem foldl_sum {α : Type} (f : α → Int) : ∀ (xs : List α) (a : Int), xs.foldl (fun s x => s + f x) a = a + (xs.map f).sum
  | [], a => by simp
  | x :: r, a => by rw [List.foldl_cons, foldl_sum f r]; simp; omega
theorem heat_above_eq (xs : List Strm) (l : Int) : m_heat_above xs l = heatM xs l := by
  unfold m_heat_above
  dsimp only
  show xs.foldl (fun s x => s + x.c * max 0 (max x.a x.b - max l (min x.a x.b))) 0 = _
  rw [foldl_sum (fun x : Strm => x.c * max 0 (max x.a x.b - max l (min x.a x.b)))]
  unfold heatM heat1
  omega
theorem lack_above_eq (w : Wks) (l : Int) : m_lack_above w l = lackM w l := by
  unfold m_lack_above lackM
  rw [heat_above_eq, heat_above_eq]
theorem heat1_step (x : Strm) (l : Int) : heat1 x l = heat1 x (l + 1) + rat1 x l := by
  unfold heat1 rat1
  by_cases h : min x.a x.b ≤ l ∧ l < max x.a x.b
  · rw [if_pos h, show max 0 (max x.a x.b - max l (min x.a x.b)) = max 0 (max x.a x.b - max (l + 1) (min x.a x.b)) + 1 by omega, Int.mul_add, Int.mul_one]
  · rw [if_neg h, show max 0 (max x.a x.b - max l (min x.a x.b)) = max 0 (max x.a x.b - max (l + 1) (min x.a x.b)) by omega, Int.add_zero]
theorem heat_step (l : Int) : ∀ xs : List Strm, heatM xs l = heatM xs (l + 1) + rat xs l
  | [] => rfl
  | x :: r => by
    have h := heat_step l r
    have h1 := heat1_step x l
    unfold heatM rat at *
    simp only [List.map_cons, List.sum_cons]
    omega
theorem lack_step (w : Wks) (l : Int) : lackM w l = lackM w (l + 1) + (rat w.c (l - w.a) - rat w.b l) := by
  have h1 := heat_step (l - w.a) w.c
  have h2 := heat_step l w.b
  unfold lackM
  rw [h1, h2, show l - w.a + 1 = l + 1 - w.a by omega]
  omega
theorem heat_top {xs : List Strm} {l : Int} (h : ∀ x ∈ xs, max x.a x.b ≤ l) : heatM xs l = 0 := by
  unfold heatM
  induction xs with
  | nil => rfl
  | cons x r ih =>
    have hx := h x (by simp)
    simp only [List.map_cons, List.sum_cons]
    rw [ih fun y hy => h y (by simp [hy])]
    unfold heat1
    rw [show max 0 (max x.a x.b - max l (min x.a x.b)) = 0 by omega]
    simp
/-- degrees from 0 to 200 -/
def DegOk (xs : List Strm) : Prop := ∀ x ∈ xs, 0 ≤ x.a ∧ x.a ≤ 200 ∧ 0 ≤ x.b ∧ x.b ≤ 200
structure WDeg (w : Wks) : Prop where
  g0 : 0 ≤ w.a
  g1 : w.a ≤ 50
  b : DegOk w.b
  c : DegOk w.c
theorem lack_top {w : Wks} (h : WDeg w) {l : Int} (hl : 250 ≤ l) : lackM w l = 0 := by
  have g1 := h.g1
  unfold lackM
  rw [heat_top (fun x hx => by have := h.c x hx; omega), heat_top (fun x hx => by have := h.b x hx; omega)]
  rfl
theorem rat_low {xs : List Strm} (h : DegOk xs) {l : Int} (hl : l < 0) : rat xs l = 0 := by
  unfold rat
  induction xs with
  | nil => rfl
  | cons x r ih =>
    have hx := h x (by simp)
    simp only [List.map_cons, List.sum_cons]
    rw [ih fun y hy => h y (by simp [hy])]
    unfold rat1
    rw [if_neg (by omega)]
    rfl
theorem lack_low {w : Wks} (h : WDeg w) : ∀ (n : Nat), lackM w (-(n : Int)) = lackM w 0
  | 0 => rfl
  | n + 1 => by
    have g0 := h.g0
    rw [lack_step, rat_low h.c (by omega), rat_low h.b (by omega), show -((n + 1 : Nat) : Int) + 1 = -(n : Int) by omega, lack_low h n]
    omega
end Tw

set_option maxRecDepth 100000
set_option maxHeartbeats 4000000
/-! kinks, the least heat, the pinch -/
namespace Tw
open PySem PySem.Spec PyProof.Rows L2 Wl
theorem dput_keys {β : Type} (kvs : List (Int × β)) (k : Int) (v : β) (j : Int) : j ∈ (dput kvs k v).map (·.1) ↔ j = k ∨ j ∈ kvs.map (·.1) := by
  unfold dput
  split
  · rename_i h
    have e : ((kvs.map fun p => if p.1 = k then (p.1, v) else p).map (·.1)) = kvs.map (·.1) := by
      rw [List.map_map]
      apply List.map_congr_left
      intro p _
      show (if p.1 = k then (p.1, v) else p).1 = p.1
      split <;> rfl
    rw [e]
    constructor
    · exact .inr
    · rintro (h2 | h2)
      · subst h2
        obtain ⟨p, hp, e2⟩ := List.any_eq_true.mp h
        exact List.mem_map.mpr ⟨p, hp, of_decide_eq_true e2⟩
      · exact h2
  · rw [List.map_append, List.mem_append]
    constructor
    · rintro (h | h)
      · exact .inr h
      · exact .inl (by simpa using h)
    · rintro (h | h)
      · exact .inr (by simpa using h)
      · exact .inl h
theorem fold_keys (f : List (Int × Bool) → Strm → List (Int × Bool)) (u v : Strm → Int) (hf : ∀ s x, f s x = dput (dput s (u x) true) (v x) true) : ∀ (xs : List Strm) (s : List (Int × Bool)) (j : Int),
    j ∈ (xs.foldl f s).map (·.1) ↔ j ∈ s.map (·.1) ∨ ∃ x ∈ xs, j = u x ∨ j = v x
  | [], s, j => by simp
  | x :: r, s, j => by
    rw [List.foldl_cons, fold_keys f u v hf r, hf, dput_keys, dput_keys]
    simp only [List.mem_cons, exists_eq_or_imp]
    constructor
    · rintro ((h | h | h) | h)
      · exact .inr (.inl (.inr h))
      · exact .inr (.inl (.inl h))
      · exact .inl h
      · exact .inr (.inr h)
    · rintro (h | (h | h) | h)
      · exact .inl (.inr (.inr h))
      · exact .inl (.inr (.inl h))
      · exact .inl (.inl h)
      · exact .inr h
theorem kinks_mem (w : Wks) (k : Int) : k ∈ m_kinks w ↔ k = 0 ∨ (∃ x ∈ w.b, k = x.a ∨ k = x.b) ∨ ∃ x ∈ w.c, k = x.a + w.a ∨ k = x.b + w.a := by
  unfold m_kinks
  dsimp only
  rw [(sortD_perm _).mem_iff, fold_keys (m_kinks_L2 w) (fun x => x.a + w.a) (fun x => x.b + w.a) (fun s x => rfl), fold_keys m_kinks_L1 (fun x => x.a) (fun x => x.b) (fun s x => rfl)]
  simp only [List.map_cons, List.map_nil, List.mem_cons, List.not_mem_nil, or_false]
  constructor
  · rintro ((h | h) | h)
    · exact .inl h
    · exact .inr (.inl h)
    · exact .inr (.inr h)
  · rintro (h | h | h)
    · exact .inl (.inl h)
    · exact .inl (.inr h)
    · exact .inr h
theorem kinks_in {w : Wks} (h : WDeg w) {k : Int} (hk : k ∈ m_kinks w) : 0 ≤ k ∧ k ≤ 250 := by
  have g0 := h.g0
  have g1 := h.g1
  rcases (kinks_mem w k).mp hk with e | ⟨x, hx, e⟩ | ⟨x, hx, e⟩
  · omega
  · have := h.b x hx; omega
  · have := h.c x hx; omega
/-- where no stream of the list begins or ends, the rates are as one degree lower -/
theorem rat_same {xs : List Strm} {l : Int} (h : ∀ x ∈ xs, l ≠ x.a ∧ l ≠ x.b) : rat xs l = rat xs (l - 1) := by
  unfold rat
  induction xs with
  | nil => rfl
  | cons x r ih =>
    have hx := h x (by simp)
    simp only [List.map_cons, List.sum_cons]
    rw [ih fun y hy => h y (by simp [hy])]
    have : rat1 x l = rat1 x (l - 1) := by
      unfold rat1
      by_cases hc : min x.a x.b ≤ l ∧ l < max x.a x.b
      · rw [if_pos hc, if_pos (by omega)]
      · rw [if_neg hc, if_neg (by omega)]
    rw [this]
/-- a highest level of the greatest lack is a kink -/
theorem top_is_kink {w : Wks} {l : Int} (hm : lackM w (l - 1) ≤ lackM w l) (ht : lackM w (l + 1) < lackM w l) : l ∈ m_kinks w := by
  apply Classical.byContradiction
  intro hn
  rw [kinks_mem] at hn
  have h1 : rat w.b l = rat w.b (l - 1) := rat_same fun x hx => ⟨fun e => hn (.inr (.inl ⟨x, hx, .inl e⟩)), fun e => hn (.inr (.inl ⟨x, hx, .inr e⟩))⟩
  have h2 : rat w.c (l - w.a) = rat w.c (l - w.a - 1) := rat_same fun x hx => ⟨fun e => hn (.inr (.inr ⟨x, hx, .inl (by omega)⟩)), fun e => hn (.inr (.inr ⟨x, hx, .inr (by omega)⟩))⟩
  have s1 := lack_step w l
  have s2 := lack_step w (l - 1)
  rw [show l - 1 + 1 = l by omega, show l - 1 - w.a = l - w.a - 1 by omega] at s2
  omega
/-- the greatest lack over the levels from n on upward, or 0 -/
def maxFrom (w : Wks) : Nat → Int
  | 0 => 0
  | n + 1 => max (lackM w ((250 - n : Nat) : Int)) (maxFrom w n)
/-- M is the greatest lack above any level, or 0 -/
structure IsMost (w : Wks) (M : Int) : Prop where
  nn : 0 ≤ M
  ge : ∀ l : Int, 0 ≤ l → lackM w l ≤ M
  at_ : M = 0 ∨ ∃ l : Int, 0 ≤ l ∧ l ≤ 250 ∧ lackM w l = M
theorem IsMost.uniq {w : Wks} {M M' : Int} (h : IsMost w M) (h' : IsMost w M') : M = M' := by
  have h1 : M ≤ M' := by
    rcases h.at_ with e | ⟨l, h0, _, e⟩
    · rw [e]; exact h'.nn
    · rw [← e]; exact h'.ge l h0
  have h2 : M' ≤ M := by
    rcases h'.at_ with e | ⟨l, h0, _, e⟩
    · rw [e]; exact h.nn
    · rw [← e]; exact h.ge l h0
  omega
/-- from any level on there is a highest one with a lack no less -/
theorem climb {w : Wks} (hw : WDeg w) (M : Int) (hM : ∀ l : Int, 0 ≤ l → lackM w l ≤ M) (hp : 0 < M) : ∀ (n : Nat) (l : Int), 0 ≤ l → 250 - l ≤ n → lackM w l = M → ∃ k : Int, l ≤ k ∧ k ≤ 250 ∧ lackM w k = M ∧ ∀ j : Int, k < j → lackM w j < M
  | 0, l, h0, hn, e => by
    have := lack_top hw (l := l) (by omega)
    omega
  | n + 1, l, h0, hn, e => by
    by_cases h : ∃ j : Int, l < j ∧ lackM w j = M
    · obtain ⟨j, hj, ej⟩ := h
      have hj2 : j < 250 := by
        apply Classical.byContradiction
        intro z
        have := lack_top hw (l := j) (by omega)
        omega
      obtain ⟨k, a1, a2, a3, a4⟩ := climb hw M hM hp n j (by omega) (by omega) ej
      exact ⟨k, by omega, a2, a3, a4⟩
    · refine ⟨l, Int.le_refl _, ?_, e, fun j hj => ?_⟩
      · apply Classical.byContradiction
        intro z
        have := lack_top hw (l := l) (by omega)
        omega
      · have h1 := hM j (by omega)
        have h2 : lackM w j ≠ M := fun z => h ⟨j, hj, z⟩
        omega
theorem most_ex {w : Wks} (hw : WDeg w) : ∃ M, IsMost w M := by
  have h : ∀ n : Nat, n ≤ 251 → ∃ M : Int, 0 ≤ M ∧ (∀ l : Int, 250 - (n : Int) < l → lackM w l ≤ M) ∧ (M = 0 ∨ ∃ l : Int, 0 ≤ l ∧ l ≤ 250 ∧ lackM w l = M) := by
    intro n
    induction n with
    | zero => intro _; exact ⟨0, by omega, fun l hl => by rw [lack_top hw (by omega)]; omega, .inl rfl⟩
    | succ n ih =>
      intro hn
      obtain ⟨M, h1, h2, h3⟩ := ih (by omega)
      by_cases hc : lackM w (250 - (n : Int)) ≤ M
      · refine ⟨M, h1, fun l hl => ?_, h3⟩
        by_cases e : l = 250 - (n : Int)
        · rw [e]; exact hc
        · exact h2 l (by omega)
      · refine ⟨lackM w (250 - (n : Int)), by omega, fun l hl => ?_, .inr ⟨250 - (n : Int), by omega, by omega, rfl⟩⟩
        by_cases e : l = 250 - (n : Int)
        · rw [e]; exact Int.le_refl _
        · have := h2 l (by omega); omega
  obtain ⟨M, h1, h2, h3⟩ := h 251 (by omega)
  exact ⟨M, h1, fun l hl => h2 l (by omega), h3⟩
/-- the highest level of the greatest lack is among the kinks -/
theorem most_kink {w : Wks} (hw : WDeg w) {M : Int} (h : IsMost w M) (hp : 0 < M) : ∃ k ∈ m_kinks w, lackM w k = M ∧ ∀ j : Int, k < j → lackM w j < M := by
  rcases h.at_ with e | ⟨l, h0, h1, e⟩
  · omega
  · obtain ⟨k, a1, a2, a3, a4⟩ := climb hw M h.ge hp 251 l h0 (by omega) e
    refine ⟨k, ?_, a3, a4⟩
    by_cases k0 : k = 0
    · exact (kinks_mem w k).mpr (.inl k0)
    · exact top_is_kink (by rw [a3]; exact h.ge _ (by omega)) (by rw [a3]; exact a4 _ (by omega))
theorem least_most {w : Wks} (hw : WDeg w) : IsMost w (m_least_heat w) := by
  obtain ⟨M, hM⟩ := most_ex hw
  have e : m_least_heat w = M := by
    unfold m_least_heat
    have hlen : 0 < (([(0 : Int)] : List Int) ++ (m_kinks w).map (fun x => m_lack_above w x)).length := by simp
    have hmem := maxL_mem hlen
    have hge : ∀ y ∈ (([(0 : Int)] : List Int) ++ (m_kinks w).map (fun x => m_lack_above w x)), y ≤ maxL (([(0 : Int)] : List Int) ++ (m_kinks w).map (fun x => m_lack_above w x)) := fun y hy => maxL_ge hy
    apply Int.le_antisymm
    · rcases List.mem_append.mp hmem with h | h
      · have : maxL (([(0 : Int)] : List Int) ++ (m_kinks w).map (fun x => m_lack_above w x)) = 0 := by simpa using h
        rw [this]; exact hM.nn
      · obtain ⟨k, hk, e⟩ := List.mem_map.mp h
        rw [← e, lack_above_eq]
        exact hM.ge k (kinks_in hw hk).1
    · by_cases hp : 0 < M
      · obtain ⟨k, hk, e, _⟩ := most_kink hw hM hp
        rw [← e, ← lack_above_eq]
        exact hge _ (List.mem_append_right _ (List.mem_map.mpr ⟨k, hk, rfl⟩))
      · have := hM.nn
        have h0 := hge 0 (by simp)
        omega
  rw [e]; exact hM
theorem least_cold_eq {w : Wks} : m_least_cold w = m_least_heat w - lackM w 0 := by
  unfold m_least_cold
  rw [lack_above_eq]
end Tw

set_option maxRecDepth 100000
set_option maxHeartbeats 4000000
/-! what looked_through tells -/
namespace Tw
open PySem PySem.Spec PyProof.Rows L2 Wl
abbrev Pass := T5 Int Int Int Int Int
theorem dget_dput {β : Type} (k k' : List Int) (v : β) : ∀ kvs : List (List Int × β), dgetT (dputT kvs k v) k' = if k' = k then some v else dgetT kvs k' := by
  intro kvs
  have hfind : ∀ l : List (List Int × β), (l.any fun p => decide (p.1 = k)) = true → ((l.map fun p => if p.1 = k then (p.1, v) else p).find? fun p => decide (p.1 = k')).map (·.2) = if k' = k then some v else dgetT l k' := by
    intro l
    induction l with
    | nil => intro h; simp at h
    | cons p r ih =>
      intro h
      unfold dgetT at *
      rw [List.map_cons, List.find?_cons, List.find?_cons]
      by_cases e : p.1 = k
      · rw [if_pos e]
        by_cases e2 : k' = k
        · rw [if_pos e2, decide_eq_true (by dsimp only; rw [e, e2])]; rfl
        · rw [if_neg e2]
          have e3 : ¬ p.1 = k' := fun z => e2 (by rw [← z, e])
          rw [decide_eq_false (by dsimp only; exact e3)]
          dsimp only
          by_cases hr : (r.any fun p => decide (p.1 = k)) = true
          · have := ih hr; rw [if_neg e2] at this; exact this
          · have : ∀ q ∈ r, ¬ q.1 = k := fun q hq z => hr (List.any_eq_true.mpr ⟨q, hq, decide_eq_true z⟩)
            have e4 : (r.map fun p => if p.1 = k then (p.1, v) else p) = r := by
              conv => rhs; rw [← List.map_id r]
              apply List.map_congr_left
              intro q hq
              rw [if_neg (this q hq)]; rfl
            rw [e4]
      · rw [if_neg e]
        have hr : (r.any fun p => decide (p.1 = k)) = true := by
          rw [List.any_cons, decide_eq_false e] at h
          simpa using h
        by_cases e3 : p.1 = k'
        · rw [decide_eq_true e3]
          rw [if_neg (fun z => e (by rw [e3, z]))]
        · rw [decide_eq_false e3]
          exact ih hr
  unfold dputT
  by_cases h : (kvs.any fun p => decide (p.1 = k)) = true
  · rw [if_pos h]
    exact hfind kvs h
  · rw [if_neg h]
    have hn : ∀ q ∈ kvs, ¬ q.1 = k := fun q hq z => h (List.any_eq_true.mpr ⟨q, hq, decide_eq_true z⟩)
    unfold dgetT
    rw [List.find?_append]
    by_cases e2 : k' = k
    · rw [if_pos e2]
      have : (kvs.find? fun p => decide (p.1 = k')) = none := by
        rw [List.find?_eq_none]
        intro q hq
        rw [e2]
        simpa using hn q hq
      rw [this, e2]
      simp
    · rw [if_neg e2]
      have : ([(k, v)].find? fun p => decide (p.1 = k')) = none := by
        simp [Ne.symm e2]
      rw [this]
      simp
/-- the heat of the passes that p takes -/
def S (p : Pass → Bool) (ps : List Pass) : Int := (ps.map fun x => bif p x then x.e else 0).sum
theorem S_nil (p : Pass → Bool) : S p [] = 0 := rfl
theorem S_cons (p : Pass → Bool) (x : Pass) (r : List Pass) : S p (x :: r) = (bif p x then x.e else 0) + S p r := by
  unfold S; rw [List.map_cons, List.sum_cons]
theorem S_app (p : Pass → Bool) (a b : List Pass) : S p (a ++ b) = S p a + S p b := by unfold S; rw [List.map_append, List.sum_append]
theorem S_perm {p : Pass → Bool} {a b : List Pass} (h : a.Perm b) : S p a = S p b := Perm_sum (h.map _)
theorem S_congr {p q : Pass → Bool} : ∀ {ps : List Pass}, (∀ x ∈ ps, p x = q x) → S p ps = S q ps
  | [], _ => rfl
  | x :: r, h => by rw [S_cons, S_cons, h x (by simp), S_congr fun y hy => h y (by simp [hy])]
def givK (k : List Int) (x : Pass) : Bool := decide ([x.a, x.b] = k)
def getK (k : List Int) (x : Pass) : Bool := decide ([x.c, x.d] = k)
def key4 (x : Pass) : List Int := [x.a, x.b, x.c, x.d]
/-- the state behind the passes ps -/
structure St (ps : List Pass) (s : (List (List Int × Bool)) × (List (List Int × Int)) × (List (List Int × Int))) : Prop where
  w : ∀ k, (dgetT s.1 k).isSome = decide (k ∈ ps.map key4)
  g : ∀ k, (dgetT s.2.1 k).getD 0 = S (givK k) ps
  t : ∀ k, (dgetT s.2.2 k).getD 0 = S (getK k) ps
theorem look_run (w : Wks) : ∀ (rest pre : List Pass) (s : (List (List Int × Bool)) × (List (List Int × Int)) × (List (List Int × Int))), St pre s → (pre.map key4).Nodup →
    (((∀ x ∈ rest, m_may_pass w x = true) ∧ ((pre ++ rest).map key4).Nodup) ∧ ∃ s', runL (m_looked_through_L1 w) s rest = .go s' ∧ St (pre ++ rest) s') ∨
    (¬ ((∀ x ∈ rest, m_may_pass w x = true) ∧ ((pre ++ rest).map key4).Nodup) ∧ runL (m_looked_through_L1 w) s rest = .re none)
  | [], pre, s, h, hn => .inl ⟨⟨fun x hx => by simp at hx, by rw [List.append_nil]; exact hn⟩, s, rfl, by rw [List.append_nil]; exact h⟩
  | x :: r, pre, s, h, hn => by
    unfold runL
    have hw := h.w (key4 x)
    by_cases hm : m_may_pass w x = true
    · by_cases hk : key4 x ∈ pre.map key4
      · right
        have e : m_looked_through_L1 w s x = .re none := by
          unfold m_looked_through_L1
          have hw2 : (dgetT s.1 [x.a, x.b, x.c, x.d]).isSome = true := by rw [decide_eq_true hk] at hw; exact hw
          rw [hm, hw2]
          rfl
        rw [e]
        refine ⟨fun z => ?_, rfl⟩
        have := z.2
        rw [List.map_append, List.map_cons, List.nodup_append] at this
        exact this.2.2 _ hk _ (by simp) rfl
      · have hw2 : (dgetT s.1 [x.a, x.b, x.c, x.d]).isSome = false := by rw [decide_eq_false hk] at hw; exact hw
        have e : m_looked_through_L1 w s x = .go ((dputT s.1 [x.a, x.b, x.c, x.d] true), (dputT s.2.1 [x.a, x.b] (((dgetT s.2.1 [x.a, x.b]).getD (0 : Int)) + x.e)), (dputT s.2.2 [x.c, x.d] (((dgetT s.2.2 [x.c, x.d]).getD (0 : Int)) + x.e))) := by
          unfold m_looked_through_L1
          rw [hm, hw2]
          rfl
        rw [e]
        have hs' : St (pre ++ [x]) ((dputT s.1 [x.a, x.b, x.c, x.d] true), (dputT s.2.1 [x.a, x.b] (((dgetT s.2.1 [x.a, x.b]).getD (0 : Int)) + x.e)), (dputT s.2.2 [x.c, x.d] (((dgetT s.2.2 [x.c, x.d]).getD (0 : Int)) + x.e))) := by
          refine ⟨fun k => ?_, fun k => ?_, fun k => ?_⟩
          · dsimp only
            rw [dget_dput, List.map_append, List.map_cons, List.map_nil]
            by_cases e1 : k = [x.a, x.b, x.c, x.d]
            · rw [if_pos e1, decide_eq_true (by rw [e1]; simp [key4])]; rfl
            · rw [if_neg e1, h.w k]
              have e2 : (k ∈ pre.map key4 ++ [key4 x]) ↔ k ∈ pre.map key4 := by
                rw [List.mem_append]
                constructor
                · rintro (z | z)
                  · exact z
                  · exact absurd (by simpa [key4] using z) e1
                · exact .inl
              by_cases e3 : k ∈ pre.map key4
              · rw [decide_eq_true e3, decide_eq_true (e2.mpr e3)]
              · rw [decide_eq_false e3, decide_eq_false (fun z => e3 (e2.mp z))]
          · dsimp only
            rw [dget_dput, S_app, S_cons, S_nil]
            by_cases e1 : k = [x.a, x.b]
            · rw [if_pos e1, show givK k x = true from decide_eq_true e1.symm, ← h.g k, e1]
              show _ + x.e = _ + (x.e + 0)
              omega
            · rw [if_neg e1, show givK k x = false from decide_eq_false (fun z => e1 z.symm), h.g k]
              show _ = _ + (0 + 0)
              omega
          · dsimp only
            rw [dget_dput, S_app, S_cons, S_nil]
            by_cases e1 : k = [x.c, x.d]
            · rw [if_pos e1, show getK k x = true from decide_eq_true e1.symm, ← h.t k, e1]
              show _ + x.e = _ + (x.e + 0)
              omega
            · rw [if_neg e1, show getK k x = false from decide_eq_false (fun z => e1 z.symm), h.t k]
              show _ = _ + (0 + 0)
              omega
        have hn' : ((pre ++ [x]).map key4).Nodup := by
          rw [List.map_append, List.nodup_append]
          refine ⟨hn, by simp, fun a ha b hb => ?_⟩
          have : b = key4 x := by simpa using hb
          rw [this]
          intro z
          exact hk (by rw [← z]; exact ha)
        have q := look_run w r (pre ++ [x]) _ hs' hn'
        rw [List.append_assoc, List.singleton_append] at q
        rcases q with ⟨⟨q1, q2⟩, q3⟩ | ⟨q1, q2⟩
        · left
          refine ⟨⟨fun y hy => ?_, q2⟩, q3⟩
          rcases List.mem_cons.mp hy with z | z
          · rw [z]; exact hm
          · exact q1 y z
        · right
          exact ⟨fun z => q1 ⟨fun y hy => z.1 y (by simp [hy]), z.2⟩, q2⟩
    · right
      have hm : m_may_pass w x = false := by simpa using hm
      have e : m_looked_through_L1 w s x = .re none := by
        unfold m_looked_through_L1
        rw [hm]
        rfl
      rw [e]
      exact ⟨fun z => (by have := z.1 x (by simp); rw [hm] at this; cases this), rfl⟩
/-- each step of each stream gets its rate -/
def Just (xs : List Strm) (f : List Int → Int) : Prop := ∀ n : Nat, ∀ s : Strm, xs[n]? = some s → ∀ d : Int, min s.a s.b ≤ d → d < max s.a s.b → f [(n : Int), d] = s.c
theorem iseq_in {lo d : Int} {n : Nat} : d ∈ iseq lo n ↔ lo ≤ d ∧ d < lo + (n : Int) := by
  unfold iseq
  rw [List.mem_map]
  constructor
  · intro ⟨i, hi, e⟩
    have := List.mem_range.mp hi
    omega
  · intro ⟨h1, h2⟩
    exact ⟨(d - lo).toNat, List.mem_range.mpr (by omega), by omega⟩
theorem runU {α ρ : Type} (f : Unit → α → LR Unit ρ) (y : ρ) (P : α → Prop) (h : ∀ x, (P x ∧ f () x = .go ()) ∨ (¬ P x ∧ f () x = .re y)) : ∀ xs : List α, ((∀ x ∈ xs, P x) ∧ runL f () xs = .go ()) ∨ (¬ (∀ x ∈ xs, P x) ∧ runL f () xs = .re y)
  | [] => .inl ⟨fun x hx => by simp at hx, rfl⟩
  | x :: r => by
    unfold runL
    rcases h x with ⟨h1, e⟩ | ⟨h1, e⟩
    · rw [e]
      rcases runU f y P h r with ⟨q1, q2⟩ | ⟨q1, q2⟩
      · exact .inl ⟨fun z hz => by
          rcases List.mem_cons.mp hz with e | e
          · rw [e]; exact h1
          · exact q1 z e, q2⟩
      · exact .inr ⟨fun z => q1 fun y hy => z y (by simp [hy]), q2⟩
    · rw [e]
      exact .inr ⟨fun z => h1 (z x (by simp)), rfl⟩
theorem all_just_iff (xs : List Strm) (kvs : List (List Int × Int)) : m_all_just xs (DVT.mk kvs) = true ↔ Just xs fun k => (dgetT kvs k).getD 0 := by
  have h2 : ∀ x : T2 Int Strm, ((∀ d ∈ m_steps_of x.b, (dgetT kvs [x.a, d]).getD 0 = x.b.c) ∧ m_all_just_L1 (DVT.mk kvs) () x = .go ()) ∨ (¬ (∀ d ∈ m_steps_of x.b, (dgetT kvs [x.a, d]).getD 0 = x.b.c) ∧ m_all_just_L1 (DVT.mk kvs) () x = .re false) := fun x => by
    have h := runU (m_all_just_L2 (DVT.mk kvs) x) false (fun d => (dgetT kvs [x.a, d]).getD 0 = x.b.c) (fun d => by
      unfold m_all_just_L2
      by_cases e : (dgetT kvs [x.a, d]).getD 0 = x.b.c
      · exact .inl ⟨e, by rw [decide_eq_true e]; rfl⟩
      · exact .inr ⟨e, by rw [decide_eq_false e]; rfl⟩) (m_steps_of x.b)
    unfold m_all_just_L1
    rcases h with ⟨q1, q2⟩ | ⟨q1, q2⟩
    · exact .inl ⟨q1, by rw [q2]; rfl⟩
    · exact .inr ⟨q1, by rw [q2]; rfl⟩
  have hj : (∀ x ∈ enumL xs, ∀ d ∈ m_steps_of x.b, (dgetT kvs [x.a, d]).getD 0 = x.b.c) ↔ Just xs fun k => (dgetT kvs k).getD 0 := by
    constructor
    · intro h n s hs d d1 d2
      have hn := (List.getElem?_eq_some_iff.mp hs)
      obtain ⟨hlt, e⟩ := hn
      have hm : T2.mk (n : Int) s ∈ enumL xs := by
        unfold enumL
        rw [List.mem_mapIdx]
        exact ⟨n, hlt, by rw [e]⟩
      exact h _ hm d (by
        unfold m_steps_of
        rw [iseq_in]
        dsimp only
        omega)
    · intro h x hx d hd
      unfold enumL at hx
      rw [List.mem_mapIdx] at hx
      obtain ⟨i, hi, e⟩ := hx
      subst e
      unfold m_steps_of at hd
      rw [iseq_in] at hd
      dsimp only at hd ⊢
      exact h i xs[i] (List.getElem?_eq_getElem hi) d (by omega) (by omega)
  rw [← hj]
  unfold m_all_just
  rcases runU (m_all_just_L1 (DVT.mk kvs)) false _ h2 (enumL xs) with ⟨q1, q2⟩ | ⟨q1, q2⟩
  · rw [q2]; exact ⟨fun _ => q1, fun _ => rfl⟩
  · rw [q2]; exact ⟨fun z => (by cases z), fun z => absurd z q1⟩
/-- a good sharing -/
structure Good (w : Wks) (ps : List Pass) : Prop where
  may : ∀ x ∈ ps, m_may_pass w x = true
  nd : (ps.map key4).Nodup
  b : Just w.b fun k => S (givK k) ps
  c : Just w.c fun k => S (getK k) ps
theorem look_eq (w : Wks) (ps : List Pass) : (Good w ps ∧ m_looked_through w ps = some (T2.mk (S (givK [-1, -1]) ps) (S (getK [-1, -1]) ps))) ∨ (¬ Good w ps ∧ m_looked_through w ps = none) := by
  unfold m_looked_through
  rcases look_run w ps [] ([], [], []) ⟨fun k => rfl, fun k => rfl, fun k => rfl⟩ List.nodup_nil with ⟨⟨q1, q2⟩, s, e, st⟩ | ⟨q1, e⟩
  · rw [e]
    rw [List.nil_append] at q2 st
    show (_ ∧ (bif ((!(m_all_just w.b (DVT.mk s.2.1))) || (!(m_all_just w.c (DVT.mk s.2.2)))) then none else some (T2.mk ((dgetT s.2.1 [-1, -1]).getD 0) ((dgetT s.2.2 [-1, -1]).getD 0))) = _) ∨ (_ ∧ (bif ((!(m_all_just w.b (DVT.mk s.2.1))) || (!(m_all_just w.c (DVT.mk s.2.2)))) then none else some (T2.mk ((dgetT s.2.1 [-1, -1]).getD 0) ((dgetT s.2.2 [-1, -1]).getD 0))) = _)
    have jb := all_just_iff w.b s.2.1
    have jc := all_just_iff w.c s.2.2
    rw [show (fun k => (dgetT s.2.1 k).getD 0) = fun k => S (givK k) ps from funext st.g] at jb
    rw [show (fun k => (dgetT s.2.2 k).getD 0) = fun k => S (getK k) ps from funext st.t] at jc
    rw [st.g, st.t]
    by_cases h1 : m_all_just w.b (DVT.mk s.2.1) = true
    · by_cases h2 : m_all_just w.c (DVT.mk s.2.2) = true
      · left
        exact ⟨⟨q1, q2, jb.mp h1, jc.mp h2⟩, by rw [h1, h2]; rfl⟩
      · right
        refine ⟨fun z => h2 (jc.mpr z.c), ?_⟩
        have h2 : m_all_just w.c (DVT.mk s.2.2) = false := by simpa using h2
        rw [h2, h1]; rfl
    · right
      refine ⟨fun z => h1 (jb.mpr z.b), ?_⟩
      have h1 : m_all_just w.b (DVT.mk s.2.1) = false := by simpa using h1
      rw [h1]; rfl
  · right
    rw [e]
    exact ⟨fun z => q1 ⟨z.may, by rw [List.nil_append]; exact z.nd⟩, rfl⟩
end Tw

set_option maxRecDepth 100000
set_option maxHeartbeats 4000000
/-! what shared tells: a good sharing that buys the least -/
namespace Tw
open PySem PySem.Spec PyProof.Rows L2 Wl
abbrev Ent := T3 Int Int Int
def dS : Strm := T3.mk 0 0 0
/-- stream n has a step at d -/
def IsS (xs : List Strm) (n d : Int) : Prop := 0 ≤ n ∧ n < (xs.length : Int) ∧ min (xs.getD n.toNat dS).a (xs.getD n.toNat dS).b ≤ d ∧ d < max (xs.getD n.toNat dS).a (xs.getD n.toNat dS).b
def rtO (xs : List Strm) (n : Int) : Int := (xs.getD n.toNat dS).c
theorem is_step_iff (xs : List Strm) (n d : Int) : m_is_step xs n d = true ↔ IsS xs n d := by
  unfold m_is_step IsS
  show (bif _ then false else (decide (min (xs.getD n.toNat dS).a (xs.getD n.toNat dS).b ≤ d) && decide (d < max (xs.getD n.toNat dS).a (xs.getD n.toNat dS).b))) = true ↔ _
  generalize xs.getD n.toNat dS = t
  by_cases h1 : n < 0
  · rw [decide_eq_true h1]; simp; omega
  · rw [decide_eq_false h1]
    by_cases h2 : (xs.length : Int) ≤ n
    · rw [decide_eq_true h2]; simp; omega
    · rw [decide_eq_false h2]
      simp only [Bool.or_false, cond_false, Bool.and_eq_true, decide_eq_true_eq]
      omega
theorem foldl_fm {α β : Type} (p : α → Bool) (g : α → β) : ∀ (xs : List α) (s : List β), xs.foldl (fun s x => bif p x then s ++ [g x] else s) s = s ++ (xs.filter p).map g
  | [], s => by simp
  | x :: r, s => by
    rw [List.foldl_cons, foldl_fm p g r]
    cases h : p x with
    | true => rw [List.filter_cons_of_pos h]; simp
    | false => rw [List.filter_cons_of_neg (by rw [h]; simp)]; simp
def stepP (d : Int) (x : T2 Int Strm) : Bool := decide (min x.b.a x.b.b ≤ d) && decide (d < max x.b.a x.b.b)
theorem enum_iff {xs : List Strm} {x : T2 Int Strm} : x ∈ enumL xs ↔ 0 ≤ x.a ∧ x.a < (xs.length : Int) ∧ x.b = xs.getD x.a.toNat dS := by
  unfold enumL
  rw [List.mem_mapIdx]
  constructor
  · rintro ⟨i, hi, e⟩
    subst e
    refine ⟨Int.natCast_nonneg _, ?_, ?_⟩
    · show (i : Int) < _; omega
    · show xs[i] = xs.getD ((i : Int)).toNat dS
      rw [show ((i : Int)).toNat = i by omega, List.getD_eq_getElem?_getD, List.getElem?_eq_getElem hi]
      rfl
  · rintro ⟨h1, h2, h3⟩
    have hi : x.a.toNat < xs.length := by omega
    refine ⟨x.a.toNat, hi, ?_⟩
    rw [List.getD_eq_getElem?_getD, List.getElem?_eq_getElem hi] at h3
    obtain ⟨a, b⟩ := x
    show T2.mk _ _ = _
    dsimp only at *
    rw [h3, Int.toNat_of_nonneg h1]
    rfl
theorem enum_lt (xs : List Strm) : (enumL xs).Pairwise fun x y => x.a < y.a := by
  rw [List.pairwise_iff_getElem]
  intro i j hi hj hij
  have h : ∀ (i : Nat) (h : i < (enumL xs).length), ((enumL xs)[i]).a = (i : Int) := fun i h => by simp [enumL]
  rw [h, h]
  omega
theorem sum_fm {α : Type} (p : α → Bool) (g : α → Int) : ∀ xs : List α, ((xs.filter p).map g).sum = (xs.map fun x => bif p x then g x else 0).sum
  | [] => rfl
  | x :: r => by
    rw [List.map_cons, List.sum_cons, ← sum_fm p g r]
    cases h : p x with
    | true => rw [List.filter_cons_of_pos h, List.map_cons, List.sum_cons]; rfl
    | false => rw [List.filter_cons_of_neg (by rw [h]; simp)]; simp
theorem enum_map (xs : List Strm) : (enumL xs).map (·.b) = xs := by
  apply List.ext_getElem?
  intro i
  unfold enumL
  rw [List.getElem?_map, List.getElem?_mapIdx]
  cases xs[i]? <;> rfl
theorem two_eq {a b c d : Int} (h1 : a = c) (h2 : b = d) : [a, b] = [c, d] := by rw [h1, h2]
def kE (e : Ent) : List Int := [e.a, e.b]
def lefU (u : List Ent) (k : List Int) : Int := (u.map fun e => if kE e = k then e.c else 0).sum
def totU (u : List Ent) : Int := (u.map (·.c)).sum
theorem lef_cons (e : Ent) (r : List Ent) (k : List Int) : lefU (e :: r) k = (if kE e = k then e.c else 0) + lefU r k := by unfold lefU; rw [List.map_cons, List.sum_cons]
theorem lef_app (a b : List Ent) (k : List Int) : lefU (a ++ b) k = lefU a k + lefU b k := by unfold lefU; rw [List.map_append, List.sum_append]
theorem lef_none {u : List Ent} {k : List Int} (h : k ∉ u.map kE) : lefU u k = 0 := by
  induction u with
  | nil => rfl
  | cons e r ih =>
    rw [List.map_cons, List.mem_cons] at h
    rw [lef_cons, if_neg (fun z => h (.inl z.symm)), ih (fun z => h (.inr z))]; rfl
theorem tot_cons (e : Ent) (r : List Ent) : totU (e :: r) = e.c + totU r := by unfold totU; rw [List.map_cons, List.sum_cons]
theorem tot_app (a b : List Ent) : totU (a ++ b) = totU a + totU b := by unfold totU; rw [List.map_append, List.sum_append]
theorem tot_nn {u : List Ent} (h : ∀ e ∈ u, 1 ≤ e.c) : 0 ≤ totU u := by
  induction u with
  | nil => exact Int.le_refl _
  | cons e r ih =>
    have := ih fun x hx => h x (by simp [hx])
    have := h e (by simp)
    rw [tot_cons]; omega
theorem lef_perm {a b : List Ent} (h : a.Perm b) (k : List Int) : lefU a k = lefU b k := Perm_sum (h.map _)
theorem tot_perm {a b : List Ent} (h : a.Perm b) : totU a = totU b := Perm_sum (h.map _)
theorem may_iff (w : Wks) (x : Pass) : m_may_pass w x = true ↔ 1 ≤ x.e ∧ ((x.a = -1 ∧ x.b = -1 ∧ IsS w.c x.c x.d) ∨ (IsS w.b x.a x.b ∧ x.c = -1 ∧ x.d = -1) ∨ (IsS w.b x.a x.b ∧ IsS w.c x.c x.d ∧ x.d + w.a ≤ x.b)) := by
  have n1 : IsS w.b x.a x.b → x.a ≠ -1 := fun h z => by have := h.1; omega
  have n2 : IsS w.c x.c x.d → x.c ≠ -1 := fun h z => by have := h.1; omega
  have b1 := is_step_iff w.b x.a x.b
  have b2 := is_step_iff w.c x.c x.d
  have n1 : m_is_step w.b x.a x.b = true → x.a ≠ -1 := fun h => n1 (b1.mp h)
  have n2 : m_is_step w.c x.c x.d = true → x.c ≠ -1 := fun h => n2 (b2.mp h)
  rw [← b1, ← b2]
  unfold m_may_pass
  dsimp only
  clear b1 b2
  generalize m_is_step w.b x.a x.b = s1 at *
  generalize m_is_step w.c x.c x.d = s2 at *
  by_cases he : x.e < 1
  · rw [decide_eq_true he]
    simp; omega
  · rw [decide_eq_false he]
    by_cases a1 : x.a = -1
    · have s10 : s1 = false := by
        cases s1 with
        | false => rfl
        | true => exact absurd a1 (n1 rfl)
      subst s10
      rw [decide_eq_true a1]
      by_cases a2 : x.b = -1
      · rw [decide_eq_true a2]
        by_cases c1 : x.c = -1
        · have s20 : s2 = false := by
            cases s2 with
            | false => rfl
            | true => exact absurd c1 (n2 rfl)
          subst s20
          rw [decide_eq_true c1]
          by_cases c2 : x.d = -1
          · rw [decide_eq_true c2]; simp
          · rw [decide_eq_false c2]; simp
        · rw [decide_eq_false c1]
          cases s2 <;> simp <;> omega
      · rw [decide_eq_false a2]; simp; omega
    · rw [decide_eq_false a1]
      by_cases c1 : x.c = -1
      · have s20 : s2 = false := by
          cases s2 with
          | false => rfl
          | true => exact absurd c1 (n2 rfl)
        subst s20
        rw [decide_eq_true c1]
        by_cases c2 : x.d = -1
        · rw [decide_eq_true c2]; cases s1 <;> simp <;> omega
        · rw [decide_eq_false c2]; cases s1 <;> simp <;> omega
      · rw [decide_eq_false c1]
        cases s1 <;> cases s2 <;> simp <;> omega
def mkP (m d : Int) (f : Ent) : Pass := T5.mk f.a f.b m d f.c
theorem S_giv_mk (m d : Int) (k : List Int) : ∀ F : List Ent, S (givK k) (F.map (mkP m d)) = lefU F k
  | [] => rfl
  | f :: r => by
    rw [List.map_cons, S_cons, lef_cons, S_giv_mk m d k r]
    congr 1
    show (bif decide ([f.a, f.b] = k) then f.c else 0) = if [f.a, f.b] = k then f.c else 0
    by_cases h : [f.a, f.b] = k
    · rw [decide_eq_true h, if_pos h]; rfl
    · rw [decide_eq_false h, if_neg h]; rfl
theorem S_get_mk (m d : Int) (k : List Int) : ∀ F : List Ent, S (getK k) (F.map (mkP m d)) = if [m, d] = k then totU F else 0
  | [] => by
    split
    · rfl
    · rfl
  | f :: r => by
    rw [List.map_cons, S_cons, S_get_mk m d k r, tot_cons]
    show (bif decide ([m, d] = k) then f.c else 0) + _ = _
    by_cases h : [m, d] = k
    · rw [decide_eq_true h, if_pos h, if_pos h]; rfl
    · rw [decide_eq_false h, if_neg h, if_neg h]; rfl
theorem S_none {p : Pass → Bool} {P : List Pass} (h : ∀ x ∈ P, p x = false) : S p P = 0 := by
  induction P with
  | nil => rfl
  | cons x r ih => rw [S_cons, h x (by simp), ih fun y hy => h y (by simp [hy])]; rfl
theorem foldl_app_map {α β : Type} (g : α → β) : ∀ (xs : List α) (s : List β), xs.foldl (fun s x => s ++ [g x]) s = s ++ xs.map g
  | [], s => by simp
  | x :: r, s => by rw [List.foldl_cons, foldl_app_map g r]; simp
structure RatePos (w : Wks) : Prop where
  b : ∀ s ∈ w.b, 1 ≤ s.c
  c : ∀ s ∈ w.c, 1 ≤ s.c
theorem rtO_pos {xs : List Strm} (h : ∀ s ∈ xs, 1 ≤ s.c) {n d : Int} (hs : IsS xs n d) : 1 ≤ rtO xs n := by
  have hi : n.toNat < xs.length := by have := hs.1; have := hs.2.1; omega
  unfold rtO
  rw [List.getD_eq_getElem?_getD, List.getElem?_eq_getElem hi]
  exact h _ (List.getElem_mem hi)
structure MostFrom (w : Wks) (l N : Int) : Prop where
  nn : 0 ≤ N
  ge : ∀ j : Int, l ≤ j → lackM w j ≤ N
  at_ : N = 0 ∨ ∃ j : Int, l ≤ j ∧ j ≤ 250 ∧ lackM w j = N
theorem iseq_rev (n : Nat) : (iseq 0 (n + 1)).reverse = (n : Int) :: (iseq 0 n).reverse := by
  have : iseq 0 (n + 1) = iseq 0 n ++ [(n : Int)] := by simp [iseq, List.range_succ]
  rw [this]; simp
theorem isS_deg {xs : List Strm} (hd : DegOk xs) {n d : Int} (h : IsS xs n d) : 0 ≤ d ∧ d < 200 := by
  have hi : n.toNat < xs.length := by have := h.1; have := h.2.1; omega
  have q := hd (xs.getD n.toNat dS) (by
    rw [List.getD_eq_getElem?_getD, List.getElem?_eq_getElem hi]
    exact List.getElem_mem hi)
  have := h.2.2
  omega
theorem just_of {xs : List Strm} {f : List Int → Int} (h : ∀ n d, IsS xs n d → f [n, d] = rtO xs n) : Just xs f := fun n s hs d d1 d2 => by
  have hlt := (List.getElem?_eq_some_iff.mp hs).1
  have e : xs.getD ((n : Int)).toNat dS = s := by rw [show ((n : Int)).toNat = n by omega, List.getD_eq_getElem?_getD, hs]; rfl
  have q := h n d ⟨by omega, by omega, by rw [e]; exact d1, by rw [e]; exact d2⟩
  rw [q]; unfold rtO; rw [e]
theorem just_to {xs : List Strm} {f : List Int → Int} (h : Just xs f) {n d : Int} (hs : IsS xs n d) : f [n, d] = rtO xs n := by
  have hi : n.toNat < xs.length := by have := hs.1; have := hs.2.1; omega
  have e : xs.getD n.toNat dS = xs[n.toNat] := by rw [List.getD_eq_getElem?_getD, List.getElem?_eq_getElem hi]; rfl
  have q := h n.toNat xs[n.toNat] (List.getElem?_eq_getElem hi) d (by rw [← e]; exact hs.2.2.1) (by rw [← e]; exact hs.2.2.2)
  rw [show ((n.toNat : Nat) : Int) = n by have := hs.1; omega] at q
  rw [q]; unfold rtO; rw [e]
theorem Good.perm {w : Wks} {a b : List Pass} (h : Good w a) (p : a.Perm b) : Good w b := by
  refine ⟨fun x hx => h.may x (p.mem_iff.mpr hx), (p.map key4).nodup_iff.mp h.nd, ?_, ?_⟩
  · have := h.b
    rw [show (fun k => S (givK k) a) = fun k => S (givK k) b from funext fun k => S_perm p] at this
    exact this
  · have := h.c
    rw [show (fun k => S (getK k) a) = fun k => S (getK k) b from funext fun k => S_perm p] at this
    exact this
/-- all that goes from without comes from -1, -1 -/
theorem good_heat {w : Wks} {ps : List Pass} (h : Good w ps) : S (fun x => decide (x.a = -1)) ps = S (givK [-1, -1]) ps := S_congr fun x hx => by
  have hm := (may_iff w x).mp (h.may x hx)
  by_cases e : x.a = -1
  · rw [decide_eq_true e]
    have e2 : x.b = -1 := by
      rcases hm.2 with z | z | z
      · exact z.2.1
      · have := z.1.1; omega
      · have := z.1.1; omega
    exact (decide_eq_true (by rw [e, e2])).symm
  · rw [decide_eq_false e]
    exact (decide_eq_false (fun z => by injection z with y1 _; exact e y1)).symm
theorem good_cold {w : Wks} {ps : List Pass} (h : Good w ps) : S (fun x => decide (x.c = -1)) ps = S (getK [-1, -1]) ps := S_congr fun x hx => by
  have hm := (may_iff w x).mp (h.may x hx)
  by_cases e : x.c = -1
  · rw [decide_eq_true e]
    have e2 : x.d = -1 := by
      rcases hm.2 with z | z | z
      · have := z.2.2.1; omega
      · exact z.2.2
      · have := z.2.1.1; omega
    exact (decide_eq_true (by rw [e, e2])).symm
  · rw [decide_eq_false e]
    exact (decide_eq_false (fun z => by injection z with y1 _; exact e y1)).symm
theorem sum_S (p : Pass → Bool) (ps : List Pass) : ((ps.filter p).map fun x => x.e).sum = S p ps := sum_fm p (fun x => x.e) ps
end Tw

set_option maxRecDepth 100000
set_option maxHeartbeats 4000000
/-! works of the laws of sharing: degrees, rates; lacks compared -/
namespace Tw
open PySem PySem.Spec PyProof.Rows L2 Wl
theorem WorksOk.deg {w : Wks} (h : WorksOk w) : WDeg w := ⟨h.g0, h.g1, fun s hs => by have := (h.h s hs).a0; have := (h.h s hs).a1; have := (h.h s hs).a2; omega, fun s hs => by have := (h.c s hs).a0; have := (h.c s hs).a1; have := (h.c s hs).a2; omega⟩
theorem WorksOk.pos {w : Wks} (h : WorksOk w) : RatePos w := ⟨fun s hs => (h.h s hs).a3, fun s hs => (h.c s hs).a3⟩
theorem MostFrom.most {w : Wks} {N : Int} (h : MostFrom w 0 N) : IsMost w N := ⟨h.nn, h.ge, h.at_⟩
theorem most_cmp {w w' : Wks} {N N' h : Int} (hN : MostFrom w 0 N) (hN' : MostFrom w' 0 N') (h0 : 0 ≤ h) (hl : ∀ l : Int, 0 ≤ l → lackM w l ≤ lackM w' l + h) : N ≤ N' + h := by
  rcases hN.at_ with e | ⟨l, a, _, e⟩
  · have := hN'.nn; omega
  · have := hN'.ge l a
    have := hl l a
    omega
theorem heat1_nn {x : Strm} (h : 0 ≤ x.c) (l : Int) : 0 ≤ heat1 x l := Int.mul_nonneg h (by omega)
theorem heat1_le {x : Strm} (h : 0 ≤ x.c) (l : Int) : heat1 x l ≤ (max x.a x.b - min x.a x.b) * x.c := by
  unfold heat1
  rw [Int.mul_comm]
  exact Int.mul_le_mul_of_nonneg_right (by omega) h
theorem heat1_low {x : Strm} {l : Int} (hl : l ≤ min x.a x.b) : heat1 x l = (max x.a x.b - min x.a x.b) * x.c := by
  unfold heat1
  rw [Int.mul_comm, show max 0 (max x.a x.b - max l (min x.a x.b)) = max x.a x.b - min x.a x.b by omega]
theorem heat1_anti {x : Strm} (h : 0 ≤ x.c) {l l' : Int} (hl : l ≤ l') : heat1 x l' ≤ heat1 x l := by
  unfold heat1
  exact Int.mul_le_mul_of_nonneg_left (by omega) h
theorem heatM_anti {xs : List Strm} (h : ∀ s ∈ xs, 0 ≤ s.c) {l l' : Int} (hl : l ≤ l') : heatM xs l' ≤ heatM xs l := by
  unfold heatM
  induction xs with
  | nil => exact Int.le_refl _
  | cons x r ih =>
    have := ih fun s hs => h s (by simp [hs])
    have := heat1_anti (h x (by simp)) hl
    simp only [List.map_cons, List.sum_cons]
    omega
theorem heatM_app (a b : List Strm) (l : Int) : heatM (a ++ b) l = heatM a l + heatM b l := by unfold heatM; rw [List.map_append, List.sum_append]
theorem heatM_one (x : Strm) (l : Int) : heatM [x] l = heat1 x l := by unfold heatM; simp
theorem heatM_nn {xs : List Strm} (h : ∀ s ∈ xs, 0 ≤ s.c) (l : Int) : 0 ≤ heatM xs l := by
  unfold heatM
  induction xs with
  | nil => exact Int.le_refl _
  | cons x r ih =>
    have := ih fun s hs => h s (by simp [hs])
    have := heat1_nn (h x (by simp)) l
    simp only [List.map_cons, List.sum_cons]
    omega
theorem heatM_low {xs : List Strm} {l : Int} (f : Strm → Int) (h : ∀ s ∈ xs, l ≤ min s.a s.b ∧ (max s.a s.b - min s.a s.b) * s.c = f s) : heatM xs l = (xs.map f).sum := by
  unfold heatM
  induction xs with
  | nil => rfl
  | cons x r ih =>
    obtain ⟨h1, h2⟩ := h x (by simp)
    simp only [List.map_cons, List.sum_cons]
    rw [ih fun s hs => h s (by simp [hs]), heat1_low h1, h2]
end Tw

set_option maxRecDepth 100000
set_option maxHeartbeats 4000000
/-! what any good sharing buys: the lack above a level and all that crosses it -/
namespace Tw
open PySem PySem.Spec PyProof.Rows L2 Wl
theorem two_inv {a b c d : Int} (h : [a, b] = [c, d]) : a = c ∧ b = d := by simpa using h
theorem S_add {p q r : Pass → Bool} {ps : List Pass} (h : ∀ x ∈ ps, (bif p x then x.e else 0) = (bif q x then x.e else 0) + (bif r x then x.e else 0)) : S p ps = S q ps + S r ps := by
  induction ps with
  | nil => rfl
  | cons x t ih =>
    rw [S_cons, S_cons, S_cons, ih fun y hy => h y (by simp [hy]), h x (by simp)]
    omega
theorem S_nn {p : Pass → Bool} {ps : List Pass} (h : ∀ x ∈ ps, 0 ≤ x.e) : 0 ≤ S p ps := by
  induction ps with
  | nil => exact Int.le_refl _
  | cons x t ih =>
    have := ih fun y hy => h y (by simp [hy])
    have := h x (by simp)
    rw [S_cons]
    cases p x with
    | true => dsimp only [cond]; omega
    | false => dsimp only [cond]; omega
theorem S_pos {p : Pass → Bool} {ps : List Pass} (h : ∀ x ∈ ps, 1 ≤ x.e) : 0 < S p ps ↔ ∃ x ∈ ps, p x = true := by
  induction ps with
  | nil => simp [S]
  | cons x t ih =>
    have h0 := S_nn (p := p) (ps := t) fun y hy => by have := h y (by simp [hy]); omega
    have h1 := h x (by simp)
    have ih := ih fun y hy => h y (by simp [hy])
    rw [S_cons]
    constructor
    · intro z
      cases e : p x with
      | true => exact ⟨x, by simp, e⟩
      | false =>
        rw [e] at z
        dsimp only [cond] at z
        obtain ⟨y, hy, ey⟩ := ih.mp (by omega)
        exact ⟨y, by simp [hy], ey⟩
    · rintro ⟨y, hy, ey⟩
      rcases List.mem_cons.mp hy with e | hy
      · rw [← e, ey]; dsimp only [cond]; rw [e]; omega
      · have := ih.mpr ⟨y, hy, ey⟩
        cases p x with
        | true => dsimp only [cond]; omega
        | false => dsimp only [cond]; omega
theorem rat_app (a b : List Strm) (d : Int) : rat (a ++ b) d = rat a d + rat b d := by unfold rat; rw [List.map_append, List.sum_append]
/-- one degree -/
theorem deg_sum {xs : List Strm} {u v : Pass → Int} {ps : List Pass} (d : Int) (hv : ∀ x ∈ ps, u x = -1 ∨ IsS xs (u x) (v x)) (hs : ∀ n d, IsS xs n d → S (fun x => decide (u x = n) && decide (v x = d)) ps = rtO xs n) :
    ∀ k : Nat, k ≤ xs.length → S (fun x => decide (0 ≤ u x) && (decide (u x < (k : Int)) && decide (v x = d))) ps = rat (xs.take k) d
  | 0, _ => by
    rw [S_none fun x hx => ?_]
    · rfl
    · rcases hv x hx with e | e
      · rw [e]; rfl
      · rw [decide_eq_false (show ¬ u x < ((0 : Nat) : Int) by have := e.1; omega)]; simp
  | k + 1, hk => by
    have ih := deg_sum d hv hs k (by omega)
    have et : xs.take (k + 1) = xs.take k ++ [xs[k]] := by rw [List.take_add_one, List.getElem?_eq_getElem (by omega)]; rfl
    rw [et, rat_app, ← ih]
    have hd : xs.getD ((k : Int)).toNat dS = xs[k] := by rw [show ((k : Int)).toNat = k by omega, List.getD_eq_getElem?_getD, List.getElem?_eq_getElem (by omega)]; rfl
    have h1 : S (fun x => decide (u x = (k : Int)) && decide (v x = d)) ps = rat [xs[k]] d := by
      have e1 : rat [xs[k]] d = rat1 xs[k] d := by unfold rat; simp
      rw [e1]
      by_cases hst : IsS xs k d
      · rw [hs _ _ hst]
        unfold rtO rat1
        rw [hd, if_pos]
        have := hst.2.2
        rw [hd] at this
        exact this
      · have hn : ¬ (min xs[k].a xs[k].b ≤ d ∧ d < max xs[k].a xs[k].b) := fun z => hst ⟨by omega, by omega, by rw [hd]; exact z⟩
        unfold rat1
        rw [if_neg hn]
        refine S_none fun x hx => ?_
        by_cases e2 : u x = (k : Int)
        · by_cases e3 : v x = d
          · rcases hv x hx with e | e
            · omega
            · rw [e2, e3] at e; exact absurd e hst
          · rw [decide_eq_false e3]; simp
        · rw [decide_eq_false e2]; rfl
    rw [← h1]
    refine S_add fun x hx => ?_
    by_cases c1 : 0 ≤ u x
    · rw [decide_eq_true c1]
      by_cases c3 : v x = d
      · rw [decide_eq_true c3]
        by_cases c2 : u x < (k : Int)
        · rw [decide_eq_true c2, decide_eq_true (show u x < ((k + 1 : Nat) : Int) by omega), decide_eq_false (show ¬ u x = (k : Int) by omega)]
          simp
        · by_cases c4 : u x = (k : Int)
          · rw [decide_eq_false c2, decide_eq_true (show u x < ((k + 1 : Nat) : Int) by omega), decide_eq_true c4]
            simp
          · rw [decide_eq_false c2, decide_eq_false (show ¬ u x < ((k + 1 : Nat) : Int) by omega), decide_eq_false c4]
            rfl
      · rw [decide_eq_false c3]; simp
    · rw [decide_eq_false c1, decide_eq_false (show ¬ u x = (k : Int) by omega)]
      rfl
theorem heat_sum {xs : List Strm} (hd : DegOk xs) {u v : Pass → Int} {ps : List Pass} (hv : ∀ x ∈ ps, u x = -1 ∨ IsS xs (u x) (v x)) (hs : ∀ n d, IsS xs n d → S (fun x => decide (u x = n) && decide (v x = d)) ps = rtO xs n) :
    ∀ (k : Nat) (l : Int), 200 - l ≤ k → S (fun x => decide (0 ≤ u x) && decide (l ≤ v x)) ps = heatM xs l
  | 0, l, hl => by
    rw [heat_top fun x hx => by have := hd x hx; omega]
    refine S_none fun x hx => ?_
    rcases hv x hx with e | e
    · rw [e]; rfl
    · have := isS_deg hd e
      rw [decide_eq_false (show ¬ l ≤ v x by omega)]; simp
  | k + 1, l, hl => by
    have ih := heat_sum hd hv hs k (l + 1) (by omega)
    have h1 := deg_sum l hv hs xs.length (Nat.le_refl _)
    rw [List.take_length] at h1
    rw [heat_step, ← ih, ← h1]
    refine S_add fun x hx => ?_
    by_cases c1 : 0 ≤ u x
    · rw [decide_eq_true c1]
      have c2 : u x < (xs.length : Int) := by
        rcases hv x hx with e | e
        · omega
        · exact e.2.1
      rw [decide_eq_true c2]
      by_cases c3 : v x = l
      · rw [decide_eq_true c3, decide_eq_true (show l ≤ v x by omega), decide_eq_false (show ¬ l + 1 ≤ v x by omega)]
        simp
      · rw [decide_eq_false c3]
        by_cases c4 : l ≤ v x
        · rw [decide_eq_true c4, decide_eq_true (show l + 1 ≤ v x by omega)]; simp
        · rw [decide_eq_false c4, decide_eq_false (show ¬ l + 1 ≤ v x by omega)]; rfl
    · rw [decide_eq_false c1]; rfl
/-- heat that goes down over a level, or from above it without need -/
def crossP (w : Wks) (l : Int) (x : Pass) : Bool := (!decide (x.a = -1) && (decide (l ≤ x.b) && (decide (x.c = -1) || decide (x.d + w.a < l)))) || (decide (x.a = -1) && decide (x.d + w.a < l))
theorem good_cross {w : Wks} (hw : WDeg w) {ps : List Pass} (h : Good w ps) (l : Int) : S (givK [-1, -1]) ps = lackM w l + S (crossP w l) ps := by
  have hm : ∀ x ∈ ps, _ := fun x hx => (may_iff w x).mp (h.may x hx)
  have hA := heat_sum hw.c (u := fun x => x.c) (v := fun x => x.d) (ps := ps) (fun x hx => by
    rcases (hm x hx).2 with z | z | z
    · exact .inr z.2.2
    · exact .inl z.2.1
    · exact .inr z.2.1) (fun n d hs => by
    have q := just_to h.c hs
    rw [← q]
    refine S_congr fun x _ => ?_
    unfold getK
    by_cases e1 : x.c = n
    · by_cases e2 : x.d = d
      · rw [decide_eq_true e1, decide_eq_true e2, decide_eq_true (by rw [e1, e2])]; rfl
      · rw [decide_eq_false e2, decide_eq_false (fun z => e2 (two_inv z).2)]; simp
    · rw [decide_eq_false e1, decide_eq_false (fun z => e1 (two_inv z).1)]; rfl) (200 - (l - w.a)).toNat (l - w.a) (by omega)
  have hB := heat_sum hw.b (u := fun x => x.a) (v := fun x => x.b) (ps := ps) (fun x hx => by
    rcases (hm x hx).2 with z | z | z
    · exact .inl z.1
    · exact .inr z.1
    · exact .inr z.1) (fun n d hs => by
    have q := just_to h.b hs
    rw [← q]
    refine S_congr fun x _ => ?_
    unfold givK
    by_cases e1 : x.a = n
    · by_cases e2 : x.b = d
      · rw [decide_eq_true e1, decide_eq_true e2, decide_eq_true (by rw [e1, e2])]; rfl
      · rw [decide_eq_false e2, decide_eq_false (fun z => e2 (two_inv z).2)]; simp
    · rw [decide_eq_false e1, decide_eq_false (fun z => e1 (two_inv z).1)]; rfl) (200 - l).toNat l (by omega)
  unfold lackM
  rw [← hA, ← hB]
  have key : S (givK [-1, -1]) ps + S (fun x => decide (0 ≤ x.a) && decide (l ≤ x.b)) ps = S (fun x => decide (0 ≤ x.c) && decide (l - w.a ≤ x.d)) ps + S (crossP w l) ps := by
    clear hA hB
    have hm : ∀ x ∈ ps, 1 ≤ x.e ∧ ((x.a = -1 ∧ x.b = -1 ∧ IsS w.c x.c x.d) ∨ (IsS w.b x.a x.b ∧ x.c = -1 ∧ x.d = -1) ∨ (IsS w.b x.a x.b ∧ IsS w.c x.c x.d ∧ x.d + w.a ≤ x.b)) := hm
    have : ∀ qs : List Pass, (∀ x ∈ qs, (x.a = -1 ∧ x.b = -1 ∧ 0 ≤ x.c) ∨ (0 ≤ x.a ∧ x.c = -1 ∧ x.d = -1) ∨ (0 ≤ x.a ∧ 0 ≤ x.c ∧ x.d + w.a ≤ x.b)) → S (givK [-1, -1]) qs + S (fun x => decide (0 ≤ x.a) && decide (l ≤ x.b)) qs = S (fun x => decide (0 ≤ x.c) && decide (l - w.a ≤ x.d)) qs + S (crossP w l) qs := by
      intro qs
      induction qs with
      | nil => intro _; rfl
      | cons x r ih =>
        intro hq
        have ih := ih fun y hy => hq y (by simp [hy])
        rw [S_cons, S_cons, S_cons, S_cons]
        have hx : (bif givK [-1, -1] x then x.e else 0) + (bif (decide (0 ≤ x.a) && decide (l ≤ x.b)) then x.e else 0) = (bif (decide (0 ≤ x.c) && decide (l - w.a ≤ x.d)) then x.e else 0) + (bif crossP w l x then x.e else 0) := by
          unfold crossP givK
          rcases hq x (by simp) with ⟨z1, z2, z3⟩ | ⟨z1, z2, z3⟩ | ⟨z1, z2, z3⟩
          · rw [decide_eq_true (show [x.a, x.b] = [-1, -1] by rw [z1, z2]), decide_eq_false (show ¬ 0 ≤ x.a by omega), decide_eq_true z1, decide_eq_true z3]
            by_cases c : l - w.a ≤ x.d
            · rw [decide_eq_true c, decide_eq_false (show ¬ x.d + w.a < l by omega)]; simp
            · rw [decide_eq_false c, decide_eq_true (show x.d + w.a < l by omega)]; simp
          · rw [decide_eq_false (show ¬ [x.a, x.b] = [-1, -1] from fun z => by have := (two_inv z).1; omega), decide_eq_true z1, decide_eq_false (show ¬ x.a = -1 by omega), decide_eq_false (show ¬ 0 ≤ x.c by omega), decide_eq_true z2]
            cases decide (l ≤ x.b) <;> simp
          · rw [decide_eq_false (show ¬ [x.a, x.b] = [-1, -1] from fun z => by have := (two_inv z).1; omega), decide_eq_true z1, decide_eq_false (show ¬ x.a = -1 by omega), decide_eq_true z2, decide_eq_false (show ¬ x.c = -1 by omega)]
            by_cases c : l - w.a ≤ x.d
            · rw [decide_eq_true c, decide_eq_true (show l ≤ x.b by omega), decide_eq_false (show ¬ x.d + w.a < l by omega)]; simp
            · rw [decide_eq_false c, decide_eq_true (show x.d + w.a < l by omega)]
              cases decide (l ≤ x.b) <;> simp
        omega
    refine this ps fun x hx => ?_
    rcases (hm x hx).2 with z | z | z
    · exact .inl ⟨z.1, z.2.1, z.2.2.1⟩
    · exact .inr (.inl ⟨z.1.1, z.2.1, z.2.2⟩)
    · exact .inr (.inr ⟨z.1.1, z.2.1.1, z.2.2⟩)
  omega
theorem good_e {w : Wks} {ps : List Pass} (h : Good w ps) : ∀ x ∈ ps, 1 ≤ x.e := fun x hx => ((may_iff w x).mp (h.may x hx)).1
/-- none buys less -/
theorem good_least {w : Wks} (hw : WDeg w) {ps : List Pass} (h : Good w ps) {N : Int} (hN : MostFrom w 0 N) : N ≤ S (givK [-1, -1]) ps ∧ S (givK [-1, -1]) ps - S (getK [-1, -1]) ps = lackM w 0 := by
  have hn := S_nn (p := givK [-1, -1]) (ps := ps) fun x hx => by have := good_e h x hx; omega
  refine ⟨?_, ?_⟩
  · rcases hN.at_ with e | ⟨l, _, _, e⟩
    · rw [e]; exact hn
    · have := good_cross hw h l
      have := S_nn (p := crossP w l) (ps := ps) fun x hx => by have := good_e h x hx; omega
      omega
  · have hc := good_cross hw h 0
    have e : S (crossP w 0) ps = S (getK [-1, -1]) ps := S_congr fun x hx => by
      have hm := (may_iff w x).mp (h.may x hx)
      have g0 := hw.g0
      unfold crossP getK
      rcases hm.2 with z | z | z
      · have := (isS_deg hw.c z.2.2).1
        have := z.2.2.1
        rw [decide_eq_true z.1, decide_eq_false (show ¬ x.d + w.a < 0 by omega), decide_eq_false (show ¬ [x.c, x.d] = [-1, -1] from fun y => by have := (two_inv y).1; omega)]
        simp
      · have := (isS_deg hw.b z.1).1
        have := z.1.1
        rw [decide_eq_false (show ¬ x.a = -1 by omega), decide_eq_true z.2.1, decide_eq_true (show [x.c, x.d] = [-1, -1] by rw [z.2.1, z.2.2])]
        rw [decide_eq_true (show 0 ≤ x.b by omega)]; simp
      · have := (isS_deg hw.c z.2.1).1
        have := z.2.1.1
        have := z.1.1
        rw [decide_eq_false (show ¬ x.a = -1 by omega), decide_eq_false (show ¬ x.c = -1 by omega), decide_eq_false (show ¬ x.d + w.a < 0 by omega), decide_eq_false (show ¬ [x.c, x.d] = [-1, -1] from fun y => by have := (two_inv y).1; omega)]
        simp
    omega
end Tw

set_option maxRecDepth 100000
set_option maxHeartbeats 4000000
/-! k35: the drawn sharing is good -/
namespace Tw
open PySem PySem.Spec PyProof.Rows L2 Wl
abbrev DK := List (KT2 × Int)
/-! ### the steps' keys -/
theorem put_in (D : DK) (k' : KT2) (c : Int) (k : KT2) : k ∈ (dputG D k' c).map (·.1) ↔ k ∈ D.map (·.1) ∨ k = k' := by
  by_cases h : k' ∈ D.map (·.1)
  · rw [dputG_keys h]
    exact ⟨.inl, fun z => z.elim id fun e => by rw [e]; exact h⟩
  · rw [dputG_new h, List.map_append, List.mem_append]
    exact or_congr Iff.rfl (by simp)
theorem put_nd (D : DK) (k' : KT2) (c : Int) (h : (D.map (·.1)).Nodup) : ((dputG D k' c).map (·.1)).Nodup := by
  by_cases q : k' ∈ D.map (·.1)
  · rw [dputG_keys q]; exact h
  · rw [dputG_new q, List.map_append]
    refine List.nodup_append.mpr ⟨h, by simp, fun a ha b hb e => ?_⟩
    have : b = k' := by simpa using hb
    exact q (by rw [← this, ← e]; exact ha)
theorem put_fold (g : Int → KT2) (c : Int) : ∀ (l : List Int) (D : DK), (D.map (·.1)).Nodup → ((l.foldl (fun s z => dputG s (g z) c) D).map (·.1)).Nodup ∧ ∀ k, k ∈ (l.foldl (fun s z => dputG s (g z) c) D).map (·.1) ↔ k ∈ D.map (·.1) ∨ ∃ z ∈ l, k = g z
  | [], D, h => ⟨h, fun k => by simp⟩
  | y :: r, D, h => by
    have ih := put_fold g c r (dputG D (g y) c) (put_nd D _ c h)
    rw [List.foldl_cons]
    refine ⟨ih.1, fun k => ?_⟩
    rw [ih.2, put_in, or_assoc]
    simp only [List.mem_cons, exists_eq_or_imp]
theorem put_folds (f : DK → Int → DK) (L : Int → List Int) (g : Int → Int → KT2) (c : Int → Int) (hf : ∀ s j, f s j = (L j).foldl (fun s z => dputG s (g j z) (c j)) s) : ∀ (l : List Int) (D : DK), (D.map (·.1)).Nodup → ((l.foldl f D).map (·.1)).Nodup ∧ ∀ k, k ∈ (l.foldl f D).map (·.1) ↔ k ∈ D.map (·.1) ∨ ∃ j ∈ l, ∃ z ∈ L j, k = g j z
  | [], D, h => ⟨h, fun k => by simp⟩
  | y :: r, D, h => by
    have h1 := put_fold (g y) (c y) (L y) D h
    have ih := put_folds f L g c hf r (f D y) (by rw [hf]; exact h1.1)
    rw [List.foldl_cons]
    refine ⟨ih.1, fun k => ?_⟩
    rw [ih.2, hf, h1.2, or_assoc]
    simp only [List.mem_cons, exists_eq_or_imp]
/-- the steps of a kind, with what is left of each -/
structure Keys (xs : List Strm) (D : DK) : Prop where
  nd : (D.map (·.1)).Nodup
  mem : ∀ k, k ∈ D.map (·.1) ↔ IsS xs k.a k.b
  val : ∀ kv ∈ D, kv.2 = rtO xs kv.1.a
theorem steps_hot {w : Wks} (h : WorksOk w) : Keys w.b (m_law_steps w).a := by
  have hm := put_folds (m_law_steps_L1 w) (fun j => iseq (w.b.getD j.toNat (T3.mk 0 0 0)).b ((w.b.getD j.toNat (T3.mk 0 0 0)).a - (w.b.getD j.toNat (T3.mk 0 0 0)).b).toNat) (fun j z => KT2.mk j z) (fun j => (w.b.getD j.toNat (T3.mk 0 0 0)).c) (fun _ _ => rfl) (iseq 0 (w.b.length : Int).toNat) [] List.nodup_nil
  refine ⟨hm.1, fun k => ?_, ?_⟩
  · refine (hm.2 k).trans ?_
    constructor
    · rintro (z | ⟨j, hj, z, hz, e⟩)
      · cases z
      · have hj := iseq_in.mp hj
        have hz := iseq_in.mp hz
        subst e
        refine ⟨hj.1, by dsimp only; omega, ?_⟩
        dsimp only
        unfold dS
        omega
    · rintro ⟨h0, h1, h2, h3⟩
      refine .inr ⟨k.a, iseq_in.mpr ⟨h0, by omega⟩, k.b, iseq_in.mpr ?_, rfl⟩
      have hx := h.h _ (Wl.getD_mem (d := dS) (xs := w.b) (k := k.a.toNat) (by omega))
      have := hx.a1
      unfold dS at *
      omega
  · intro kv hkv
    have := (steps_all (works := w) (P := fun kv => ∃ j : Int, 0 ≤ j) (Q := fun kv => True) (fun k x z _ _ _ _ _ => ⟨0, by omega⟩) (fun _ _ _ _ _ _ _ _ => trivial)).1
    have hv : ∀ kv ∈ (m_law_steps w).a, kv.2 = rtO w.b kv.1.a := by
      refine Wl.foldl_keeps (fun s : List (KT2 × Int) => ∀ kv ∈ s, kv.2 = rtO w.b kv.1.a) _ _ _ (fun s k hk hs => ?_) (fun _ h => by cases h)
      refine Wl.foldl_keeps (fun s : List (KT2 × Int) => ∀ kv ∈ s, kv.2 = rtO w.b kv.1.a) _ _ _ (fun s z hz hs => ?_) hs
      exact dputG_all hs rfl
    exact hv kv hkv
theorem steps_cold {w : Wks} (h : WorksOk w) : Keys w.c (m_law_steps w).b := by
  have hm := put_folds (m_law_steps_L3 w) (fun j => iseq (w.c.getD j.toNat (T3.mk 0 0 0)).a ((w.c.getD j.toNat (T3.mk 0 0 0)).b - (w.c.getD j.toNat (T3.mk 0 0 0)).a).toNat) (fun j z => KT2.mk j z) (fun j => (w.c.getD j.toNat (T3.mk 0 0 0)).c) (fun _ _ => rfl) (iseq 0 (w.c.length : Int).toNat) [] List.nodup_nil
  refine ⟨hm.1, fun k => ?_, ?_⟩
  · refine (hm.2 k).trans ?_
    constructor
    · rintro (z | ⟨j, hj, z, hz, e⟩)
      · cases z
      · have hj := iseq_in.mp hj
        have hz := iseq_in.mp hz
        subst e
        refine ⟨hj.1, by dsimp only; omega, ?_⟩
        dsimp only
        unfold dS
        omega
    · rintro ⟨h0, h1, h2, h3⟩
      refine .inr ⟨k.a, iseq_in.mpr ⟨h0, by omega⟩, k.b, iseq_in.mpr ?_, rfl⟩
      have hx := h.c _ (Wl.getD_mem (d := dS) (xs := w.c) (k := k.a.toNat) (by omega))
      have := hx.a1
      unfold dS at *
      omega
  · have hv : ∀ kv ∈ (m_law_steps w).b, kv.2 = rtO w.c kv.1.a := by
      refine Wl.foldl_keeps (fun s : List (KT2 × Int) => ∀ kv ∈ s, kv.2 = rtO w.c kv.1.a) _ _ _ (fun s k hk hs => ?_) (fun _ h => by cases h)
      refine Wl.foldl_keeps (fun s : List (KT2 × Int) => ∀ kv ∈ s, kv.2 = rtO w.c kv.1.a) _ _ _ (fun s z hz hs => ?_) hs
      exact dputG_all hs rfl
    exact hv
/-! ### what is asked of a key -/
theorem dgetG_put (D : DK) (k k' : KT2) (v : Int) (h : k ∈ D.map (·.1)) : (dgetG (dputG D k v) k').getD 0 = if k' = k then v else (dgetG D k').getD 0 := by
  have hp : (D.any fun p => decide (p.1 = k)) = true := any_key.mpr h
  unfold dputG
  rw [if_pos hp]
  clear hp
  induction D with
  | nil => cases h
  | cons p r ih =>
    unfold dgetG at *
    rw [List.map_cons, List.find?_cons, List.find?_cons]
    by_cases e : p.1 = k
    · rw [if_pos e]
      by_cases e2 : k' = k
      · rw [if_pos e2, decide_eq_true (by dsimp only; rw [e, e2])]; rfl
      · rw [if_neg e2]
        rw [decide_eq_false (show ¬ p.1 = k' from fun z => e2 (by rw [← z, e]))]
        dsimp only
        by_cases hr : k ∈ r.map (·.1)
        · have := ih hr; rw [if_neg e2] at this; exact this
        · have e4 : (r.map fun p => if p.1 = k then (p.1, v) else p) = r := by
            conv => rhs; rw [← List.map_id r]
            apply List.map_congr_left
            intro q hq
            rw [if_neg fun z => hr (List.mem_map.mpr ⟨q, hq, z⟩)]; rfl
          rw [e4]
    · rw [if_neg e]
      have hr : k ∈ r.map (·.1) := by
        rcases List.mem_cons.mp h with z | z
        · exact absurd z.symm e
        · exact z
      by_cases e3 : p.1 = k'
      · rw [decide_eq_true e3, if_neg fun z => e (by rw [e3, z])]
      · rw [decide_eq_false e3]
        exact ih hr
theorem get_nodup {D : DK} (hn : (D.map (·.1)).Nodup) : ∀ kv ∈ D, (dgetG D kv.1).getD 0 = kv.2 := by
  induction D with
  | nil => intro kv h; cases h
  | cons y r ih =>
    rw [List.map_cons, List.nodup_cons] at hn
    intro kv hkv
    rcases List.mem_cons.mp hkv with rfl | hkv
    · unfold dgetG; rw [List.find?_cons, decide_eq_true rfl]; rfl
    · have hne : ¬ y.1 = kv.1 := fun e => hn.1 (by rw [e]; exact List.mem_map.mpr ⟨kv, hkv, rfl⟩)
      have := ih hn.2 kv hkv
      unfold dgetG at this ⊢
      rw [List.find?_cons, decide_eq_false hne]
      exact this
theorem Keys.get {xs : List Strm} {D : DK} (h : Keys xs D) {k : KT2} (hk : k ∈ D.map (·.1)) : (dgetG D k).getD 0 = rtO xs k.a := by
  obtain ⟨kv, hkv, e⟩ := List.mem_map.mp hk
  rw [← e, get_nodup h.nd kv hkv, h.val kv hkv]
/-! ### a walk with what lies behind it -/
theorem foldl_pre {α τ : Type} {Inv : List α → τ → Prop} (f : τ → α → τ) (l : List α) (h : ∀ pre x post s, l = pre ++ x :: post → Inv pre s → Inv (pre ++ [x]) (f s x)) (s : τ) (h0 : Inv [] s) : Inv l (l.foldl f s) := by
  have go : ∀ (r pre : List α) (s : τ), l = pre ++ r → Inv pre s → Inv l (r.foldl f s) := fun r => by
    induction r with
    | nil => intro pre s e hi; rw [List.append_nil] at e; rw [e]; exact hi
    | cons x r ih =>
      intro pre s e hi
      exact ih (pre ++ [x]) (f s x) (by rw [e]; simp) (h pre x r s e hi)
  exact go l [] s rfl h0
structure PI (w : Wks) (h0 c0 : DK) (done : KT2 → KT2 → Prop) (s : DrS) : Prop where
  i : NeedI h0 c0 s.1 s.2.1
  ok : ∀ x ∈ s.2.2.1, IsS w.b x.a x.b ∧ IsS w.c x.c x.d ∧ x.d + w.a ≤ x.b ∧ 1 ≤ x.e ∧ done (KT2.mk x.a x.b) (KT2.mk x.c x.d)
  hot : ∀ k ∈ h0.map (·.1), S (givK [k.a, k.b]) s.2.2.1 + (dgetG s.1 k).getD 0 = rtO w.b k.a
  cold : ∀ k ∈ c0.map (·.1), S (getK [k.a, k.b]) s.2.2.1 + (dgetG s.2.1 k).getD 0 = rtO w.c k.a
  nd : (s.2.2.1.map key4).Nodup
theorem kt_eq {k k' : KT2} : k = k' ↔ [k.a, k.b] = [k'.a, k'.b] := by
  constructor
  · intro e; rw [e]
  · intro e
    obtain ⟨e1, e2⟩ := two_inv e
    cases k; cases k'
    dsimp only at e1 e2
    rw [e1, e2]
theorem PI.weak {w : Wks} {h0 c0 : DK} {d d' : KT2 → KT2 → Prop} {s : DrS} (h : PI w h0 c0 d s) (hd : ∀ x y, d x y → d' x y) : PI w h0 c0 d' s :=
  ⟨h.i, fun x hx => by obtain ⟨a, b, c, e, f⟩ := h.ok x hx; exact ⟨a, b, c, e, hd _ _ f⟩, h.hot, h.cold, h.nd⟩
theorem PI.step {w : Wks} {h0 c0 : DK} {done : KT2 → KT2 → Prop} {s : DrS} (hh : ∀ k, k ∈ h0.map (·.1) → IsS w.b k.a k.b) (hc : ∀ k, k ∈ c0.map (·.1) → IsS w.c k.a k.b) (h : PI w h0 c0 done s) {x y : KT2} {script : List Int} (hx : x ∈ h0.map (·.1)) (hy : y ∈ c0.map (·.1)) (hn : ¬ done x y) :
    PI w h0 c0 (fun a b => done a b ∨ (a = x ∧ b = y)) (m_law_drawn_L2 x w script s y) := by
  have hx1 : x ∈ s.1.map (·.1) := by rw [h.i.kh]; exact hx
  have hy1 : y ∈ s.2.1.map (·.1) := by rw [h.i.kc]; exact hy
  rcases pass_is x w script s y (need_most (dgetG_has hx1) (dgetG_has hy1) h.i) with ⟨e1, e2, e3⟩ | ⟨q, m, m0, m1, m2, e1, e2, e3⟩
  · exact ⟨by rw [e1, e2]; exact h.i, fun z hz => by rw [e3] at hz; obtain ⟨a, b, c, e, f⟩ := h.ok z hz; exact ⟨a, b, c, e, .inl f⟩, fun k hk => by rw [e1, e3]; exact h.hot k hk, fun k hk => by rw [e2, e3]; exact h.cold k hk, by rw [e3]; exact h.nd⟩
  · refine ⟨?_, fun z hz => ?_, fun k hk => ?_, fun k hk => ?_, ?_⟩
    · rw [e1, e2]
      exact ⟨by rw [dputG_keys hx1]; exact h.i.kh, by rw [dputG_keys hy1]; exact h.i.kc, dputG_all h.i.vh (by dsimp only; omega), dputG_all h.i.vc (by dsimp only; omega)⟩
    · rw [e3] at hz
      rcases List.mem_append.mp hz with hz | hz
      · obtain ⟨a, b, c, e, f⟩ := h.ok z hz
        exact ⟨a, b, c, e, .inl f⟩
      · have : z = T5.mk x.a x.b y.a y.b m := by simpa using hz
        subst this
        exact ⟨hh x hx, hc y hy, q, by dsimp only; omega, .inr ⟨rfl, rfl⟩⟩
    · rw [e1, e3, S_app, S_cons, S_nil, dgetG_put _ _ _ _ hx1]
      have := h.hot k hk
      show S (givK [k.a, k.b]) s.2.2.1 + ((bif decide ([x.a, x.b] = [k.a, k.b]) then m else 0) + 0) + _ = _
      by_cases e : k = x
      · rw [if_pos e, decide_eq_true (kt_eq.mp e.symm)]
        rw [e] at this ⊢
        show _ + (m + 0) + _ = _
        omega
      · rw [if_neg e, decide_eq_false fun z => e (kt_eq.mpr z).symm]
        show _ + ((0 : Int) + 0) + _ = _
        omega
    · rw [e2, e3, S_app, S_cons, S_nil, dgetG_put _ _ _ _ hy1]
      have := h.cold k hk
      show S (getK [k.a, k.b]) s.2.2.1 + ((bif decide ([y.a, y.b] = [k.a, k.b]) then m else 0) + 0) + _ = _
      by_cases e : k = y
      · rw [if_pos e, decide_eq_true (kt_eq.mp e.symm)]
        rw [e] at this ⊢
        show _ + (m + 0) + _ = _
        omega
      · rw [if_neg e, decide_eq_false fun z => e (kt_eq.mpr z).symm]
        show _ + ((0 : Int) + 0) + _ = _
        omega
    · rw [e3, List.map_append]
      refine List.nodup_append.mpr ⟨h.nd, by simp, fun a ha b hb e => ?_⟩
      have hb : b = [x.a, x.b, y.a, y.b] := by simpa [key4] using hb
      obtain ⟨z, hz, ez⟩ := List.mem_map.mp ha
      have hd := (h.ok z hz).2.2.2.2
      rw [e, hb] at ez
      unfold key4 at ez
      injection ez with z1 ez
      injection ez with z2 ez
      injection ez with z3 ez
      injection ez with z4 _
      rw [z1, z2, z3, z4] at hd
      exact hn hd
theorem notin_pre {α : Type} {l pre post : List α} {x : α} (hn : l.Nodup) (e : l = pre ++ x :: post) : x ∉ pre := fun h => by
  rw [e, List.nodup_append] at hn
  exact hn.2.2 x h x (by simp) rfl
theorem drawn_pi {w : Wks} (h : WorksOk w) (script : List Int) (cell : Int) : PI w (m_law_steps w).a (m_law_steps w).b (fun _ _ => True) ((m_law_order (sortK ((m_law_steps w).a.map (·.1))) cell).foldl (m_law_drawn_L1 script w) ((m_law_steps w).a, (m_law_steps w).b, ([] : List (T5 Int Int Int Int Int)), (0 : Int))) := by
  have kh := steps_hot h
  have kc := steps_cold h
  have hh := fun k hk => (kh.mem k).mp hk
  have hc := fun k hk => (kc.mem k).mp hk
  have nd : ∀ {D : DK} {c : Int}, (D.map (·.1)).Nodup → (m_law_order (sortK (D.map (·.1))) c).Nodup := fun hn => ((order_perm _ _).trans (sortK_perm _)).nodup_iff.mpr hn
  have h0 : PI w (m_law_steps w).a (m_law_steps w).b (fun x y => x ∈ ([] : List KT2)) ((m_law_steps w).a, (m_law_steps w).b, ([] : List (T5 Int Int Int Int Int)), (0 : Int)) :=
    ⟨steps_nn h, fun x hx => (by cases hx), fun k hk => by rw [S_nil, kh.get hk]; omega, fun k hk => by rw [S_nil, kc.get hk]; omega, List.nodup_nil⟩
  refine (foldl_pre (Inv := fun pre s => PI w (m_law_steps w).a (m_law_steps w).b (fun x y => x ∈ pre) s) (m_law_drawn_L1 script w) _ (fun pre x post s e hs => ?_) _ h0).weak fun _ _ _ => trivial
  have hx : x ∈ (m_law_steps w).a.map (·.1) := order_in e
  have hxp := notin_pre (nd kh.nd) e
  show PI w _ _ _ ((m_law_order (sortK (s.2.1.map (·.1))) (m_law_cell_at script (10 : Int))).foldl (m_law_drawn_L2 x w script) (s.1, s.2.1, s.2.2.1, s.2.2.2))
  have kn : (s.2.1.map (·.1)).Nodup := by rw [hs.i.kc]; exact kc.nd
  refine (foldl_pre (Inv := fun pre2 s => PI w (m_law_steps w).a (m_law_steps w).b (fun a b => a ∈ pre ∨ (a = x ∧ b ∈ pre2)) s) (m_law_drawn_L2 x w script) _ (fun pre2 y post2 s2 e2 hs2 => ?_) (s.1, s.2.1, s.2.2.1, s.2.2.2) (hs.weak fun _ _ z => .inl z)).weak fun a b z => ?_
  · have hy : y ∈ (m_law_steps w).b.map (·.1) := by rw [← hs.i.kc]; exact order_in e2
    have hyp := notin_pre (nd kn) e2
    refine (hs2.step (script := script) hh hc hx hy fun z => ?_).weak fun a b z => ?_
    · rcases z with z | z
      · exact hxp z
      · exact hyp z.2
    · rcases z with (z | z) | z
      · exact .inl z
      · exact .inr ⟨z.1, List.mem_append_left _ z.2⟩
      · exact .inr ⟨z.1, by rw [z.2]; simp⟩
  · rcases z with z | z
    · exact List.mem_append_left _ z
    · rw [z.1]; simp
/-! ### what is left is bought -/
theorem tail_S (n d : Int) (f : KT2 → Int) (mk : KT2 → Pass) (p : Pass → Bool) (hp : ∀ k, p (mk k) = decide ([k.a, k.b] = [n, d])) (he : ∀ k, (mk k).e = f k) : ∀ K : List KT2, K.Nodup → (∀ k ∈ K, 0 ≤ f k) → S p ((K.filter fun k => decide (0 < f k)).map mk) = if KT2.mk n d ∈ K then f (KT2.mk n d) else 0
  | [], _, _ => rfl
  | x :: r, hn, hf => by
    rw [List.nodup_cons] at hn
    have ih := tail_S n d f mk p hp he r hn.2 fun k hk => hf k (List.mem_cons_of_mem _ hk)
    have h0 := hf x (List.mem_cons_self ..)
    have e1 : S p (((x :: r).filter fun k => decide (0 < f k)).map mk) = (bif p (mk x) then f x else 0) + S p ((r.filter fun k => decide (0 < f k)).map mk) := by
      rw [List.filter_cons]
      by_cases q : 0 < f x
      · rw [if_pos (decide_eq_true q), List.map_cons, S_cons, he]
      · rw [if_neg (by simpa using q), show f x = 0 by omega]
        cases p (mk x) <;> simp
    rw [e1, ih, hp]
    by_cases e : x = KT2.mk n d
    · rw [decide_eq_true (kt_eq.mp e), ← e, if_neg hn.1, if_pos (List.mem_cons_self ..)]
      show f x + 0 = f x
      omega
    · rw [decide_eq_false fun z => e (kt_eq.mpr z)]
      show (0 : Int) + _ = _
      rw [Int.zero_add]
      by_cases q : KT2.mk n d ∈ r
      · rw [if_pos q, if_pos (List.mem_cons_of_mem _ q)]
      · rw [if_neg q, if_neg fun z => (List.mem_cons.mp z).elim (fun z => e z.symm) q]
theorem kmk (k : KT2) : KT2.mk k.a k.b = k := rfl
theorem drawn_is (w : Wks) (script : List Int) (r : DrS) (hr : r = (m_law_order (sortK ((m_law_steps w).a.map (·.1))) (m_law_cell_at script 9)).foldl (m_law_drawn_L1 script w) ((m_law_steps w).a, (m_law_steps w).b, ([] : List (T5 Int Int Int Int Int)), (0 : Int))) :
    m_law_drawn w script = (r.2.2.1 ++ ((r.1.map (·.1)).filter fun k => decide (0 < (dgetG r.1 k).getD 0)).map fun k => T5.mk k.a k.b (-1) (-1) ((dgetG r.1 k).getD 0)) ++ ((r.2.1.map (·.1)).filter fun k => decide (0 < (dgetG r.2.1 k).getD 0)).map fun k => T5.mk (-1) (-1) k.a k.b ((dgetG r.2.1 k).getD 0) := by
  unfold m_law_drawn
  dsimp only
  rw [← hr]
  have h1 := foldl_fm (fun k : KT2 => decide (0 < (dgetG r.1 k).getD 0)) (fun k : KT2 => T5.mk k.a k.b (-1 : Int) (-1 : Int) ((dgetG r.1 k).getD 0)) (r.1.map (·.1)) r.2.2.1
  have h2 := fun s => foldl_fm (fun k : KT2 => decide (0 < (dgetG r.2.1 k).getD 0)) (fun k : KT2 => T5.mk (-1 : Int) (-1 : Int) k.a k.b ((dgetG r.2.1 k).getD 0)) (r.2.1.map (·.1)) s
  rw [← h1, ← h2]
  rfl
theorem drawn_good {w : Wks} (h : WorksOk w) (script : List Int) : Good w (m_law_drawn w script) := by
  have kh := steps_hot h
  have kc := steps_cold h
  have hp := drawn_pi h script (m_law_cell_at script 9)
  rw [drawn_is w script _ rfl]
  generalize (m_law_order (sortK ((m_law_steps w).a.map (·.1))) (m_law_cell_at script 9)).foldl (m_law_drawn_L1 script w) ((m_law_steps w).a, (m_law_steps w).b, ([] : List (T5 Int Int Int Int Int)), (0 : Int)) = r at *
  obtain ⟨hD, cD, P, n⟩ := r
  have pok := hp.ok
  have phot := hp.hot
  have pcold := hp.cold
  have pnd := hp.nd
  have pi := hp.i
  clear hp
  dsimp only at *
  have nh : (hD.map (·.1)).Nodup := by rw [pi.kh]; exact kh.nd
  have nc : (cD.map (·.1)).Nodup := by rw [pi.kc]; exact kc.nd
  have mh : ∀ k, k ∈ hD.map (·.1) ↔ IsS w.b k.a k.b := fun k => by rw [pi.kh]; exact kh.mem k
  have mc : ∀ k, k ∈ cD.map (·.1) ↔ IsS w.c k.a k.b := fun k => by rw [pi.kc]; exact kc.mem k
  have fh : ∀ k ∈ hD.map (·.1), 0 ≤ (dgetG hD k).getD 0 := fun k hk => val_nn pi.vh (dgetG_has hk)
  have fc : ∀ k ∈ cD.map (·.1), 0 ≤ (dgetG cD k).getD 0 := fun k hk => val_nn pi.vc (dgetG_has hk)
  refine ⟨fun x hx => ?_, ?_, just_of fun n d hs => ?_, just_of fun n d hs => ?_⟩
  · refine (may_iff w x).mpr ?_
    rcases List.mem_append.mp hx with hx | hx
    · rcases List.mem_append.mp hx with hx | hx
      · obtain ⟨a, b, c, e, _⟩ := pok x hx
        exact ⟨e, .inr (.inr ⟨a, b, c⟩)⟩
      · obtain ⟨k, hk, e⟩ := List.mem_map.mp hx
        obtain ⟨hk1, hk2⟩ := List.mem_filter.mp hk
        have := of_decide_eq_true hk2
        subst e
        exact ⟨by dsimp only; omega, .inr (.inl ⟨(mh k).mp hk1, rfl, rfl⟩)⟩
    · obtain ⟨k, hk, e⟩ := List.mem_map.mp hx
      obtain ⟨hk1, hk2⟩ := List.mem_filter.mp hk
      have := of_decide_eq_true hk2
      subst e
      exact ⟨by dsimp only; omega, .inl ⟨rfl, rfl, (mc k).mp hk1⟩⟩
  · rw [List.map_append, List.map_append]
    refine List.nodup_append.mpr ⟨List.nodup_append.mpr ⟨pnd, ?_, ?_⟩, ?_, ?_⟩
    · rw [List.map_map]
      unfold List.Nodup
      rw [List.pairwise_map]
      exact (nh.filter _).imp fun {a b} hne e => hne (kt_eq.mpr (by
        injection e with z1 e
        injection e with z2 e
        rw [show a.a = b.a from z1, show a.b = b.b from z2]))
    · intro a ha b hb e
      obtain ⟨x, hx, ex⟩ := List.mem_map.mp ha
      obtain ⟨y, hy, ey⟩ := List.mem_map.mp hb
      obtain ⟨k, hk, ek⟩ := List.mem_map.mp hy
      subst ek
      rw [← ex, ← ey] at e
      injection e with z1 e
      injection e with z2 e
      injection e with z3 e
      have z3 : x.c = -1 := z3
      have := (pok x hx).2.1.1
      omega
    · rw [List.map_map]
      unfold List.Nodup
      rw [List.pairwise_map]
      exact (nc.filter _).imp fun {a b} hne e => hne (kt_eq.mpr (by
        have q : [(-1 : Int), -1, a.a, a.b] = [-1, -1, b.a, b.b] := e
        simp only [List.cons.injEq, true_and, and_true] at q
        rw [q.1, q.2]))
    · intro a ha b hb e
      obtain ⟨y, hy, ey⟩ := List.mem_map.mp hb
      obtain ⟨k, hk, ek⟩ := List.mem_map.mp hy
      subst ek
      rcases List.mem_append.mp ha with ha | ha
      · obtain ⟨x, hx, ex⟩ := List.mem_map.mp ha
        rw [← ex, ← ey] at e
        injection e with z1 e
        have z1 : x.a = -1 := z1
        have := (pok x hx).1.1
        omega
      · obtain ⟨x, hx, ex⟩ := List.mem_map.mp ha
        obtain ⟨k2, hk2, ek2⟩ := List.mem_map.mp hx
        subst ek2
        rw [← ex, ← ey] at e
        injection e with z1 e
        have z1 : k2.a = -1 := z1
        have := ((mh k2).mp (List.mem_filter.mp hk2).1).1
        omega
  · have h1 := phot (KT2.mk n d) ((kh.mem (KT2.mk n d)).mpr hs)
    have h2 := tail_S n d (fun k => (dgetG hD k).getD 0) (fun k => T5.mk k.a k.b (-1) (-1) ((dgetG hD k).getD 0)) (givK [n, d]) (fun _ => rfl) (fun _ => rfl) _ nh fh
    rw [if_pos ((mh (KT2.mk n d)).mpr hs)] at h2
    have h3 : S (givK [n, d]) (((cD.map (·.1)).filter fun k => decide (0 < (dgetG cD k).getD 0)).map fun k => T5.mk (-1) (-1) k.a k.b ((dgetG cD k).getD 0)) = 0 := S_none fun x hx => by
      obtain ⟨k, _, e⟩ := List.mem_map.mp hx
      subst e
      refine decide_eq_false fun z => ?_
      have : (-1 : Int) = n := (two_inv z).1
      have := hs.1
      omega
    show S _ _ = _
    rw [S_app, S_app, h2, h3]
    dsimp only at *
    omega
  · have h1 := pcold (KT2.mk n d) ((kc.mem (KT2.mk n d)).mpr hs)
    have h2 := tail_S n d (fun k => (dgetG cD k).getD 0) (fun k => T5.mk (-1) (-1) k.a k.b ((dgetG cD k).getD 0)) (getK [n, d]) (fun _ => rfl) (fun _ => rfl) _ nc fc
    rw [if_pos ((mc (KT2.mk n d)).mpr hs)] at h2
    have h3 : S (getK [n, d]) (((hD.map (·.1)).filter fun k => decide (0 < (dgetG hD k).getD 0)).map fun k => T5.mk k.a k.b (-1) (-1) ((dgetG hD k).getD 0)) = 0 := S_none fun x hx => by
      obtain ⟨k, _, e⟩ := List.mem_map.mp hx
      subst e
      refine decide_eq_false fun z => ?_
      have : (-1 : Int) = n := (two_inv z).1
      have := hs.1
      omega
    show S _ _ = _
    rw [S_app, S_app, h2, h3]
    dsimp only at *
    omega
end Tw

set_option maxRecDepth 100000
set_option maxHeartbeats 4000000
/-! k35: none buys less; spoilt ones are told none -/
namespace Tw
open PySem PySem.Spec PyProof.Rows L2 Wl
theorem good_ends {w : Wks} {ps qs : List Pass} (h : Good w ps) (h' : Good w qs) {t : Pass} (ht : t ∈ ps) : S (givK [t.a, t.b]) ps = S (givK [t.a, t.b]) qs ∧ t.a ≠ -1 ∨ S (getK [t.c, t.d]) ps = S (getK [t.c, t.d]) qs ∧ t.c ≠ -1 := by
  rcases ((may_iff w t).mp (h.may t ht)).2 with z | z | z
  · exact .inr ⟨(just_to h.c z.2.2).trans (just_to h'.c z.2.2).symm, by have := z.2.2.1; omega⟩
  · exact .inl ⟨(just_to h.b z.1).trans (just_to h'.b z.1).symm, by have := z.1.1; omega⟩
  · exact .inl ⟨(just_to h.b z.1).trans (just_to h'.b z.1).symm, by have := z.1.1; omega⟩
theorem giv_self (t : Pass) (m : Int) : givK [t.a, t.b] (T5.mk t.a t.b t.c t.d m) = true := decide_eq_true rfl
theorem get_self (t : Pass) (m : Int) : getK [t.c, t.d] (T5.mk t.a t.b t.c t.d m) = true := decide_eq_true rfl
theorem not_more {w : Wks} {A B M : List Pass} {t : Pass} (h : Good w (A ++ t :: B)) (hM : S (givK [t.a, t.b]) M ≠ t.e ∧ S (getK [t.c, t.d]) M ≠ t.e) : ¬ Good w (A ++ M ++ B) := fun h' => by
  rcases good_ends h h' (t := t) (by simp) with ⟨z, _⟩ | ⟨z, _⟩
  · rw [S_app, S_cons, S_app, S_app, show givK [t.a, t.b] t = true from decide_eq_true rfl] at z
    dsimp only [cond] at z
    omega
  · rw [S_app, S_cons, S_app, S_app, show getK [t.c, t.d] t = true from decide_eq_true rfl] at z
    dsimp only [cond] at z
    omega
theorem not_twice {w : Wks} {A B C : List Pass} {x y : Pass} (e : key4 x = key4 y) : ¬ Good w (A ++ x :: (B ++ y :: C)) := fun h => by
  have hn := h.nd
  rw [List.map_append, List.nodup_append] at hn
  have h2 := hn.2.1
  rw [List.map_cons, List.nodup_cons] at h2
  exact h2.1 (by rw [e]; simp)
theorem spoilt_not {w : Wks} {ps : List Pass} (h : Good w ps) (hne : ps ≠ []) (cell : Int) : ¬ Good w (m_law_spoilt ps cell) := by
  have hl := List.length_pos_iff.mpr hne
  have h0 := Int.emod_nonneg (cell / 4) (b := (ps.length : Int)) (by omega)
  have h1 := Int.emod_lt_of_pos (cell / 4) (b := (ps.length : Int)) (by omega)
  unfold m_law_spoilt
  dsimp only
  generalize cell / 4 % (ps.length : Int) = at_ at *
  have hi : at_.toNat < ps.length := by omega
  have e0 : ps.getD at_.toNat (T5.mk 0 0 0 0 0) = ps[at_.toNat] := by rw [List.getD_eq_getElem?_getD, List.getElem?_eq_getElem hi]; rfl
  have ed : ps.drop at_.toNat = ps[at_.toNat] :: ps.drop (at_.toNat + 1) := List.drop_eq_getElem_cons hi
  have eps : ps = ps.take at_.toNat ++ ps[at_.toNat] :: ps.drop (at_.toNat + 1) := by rw [← ed, List.take_append_drop]
  rw [pySlice_take _ h0, pySlice_drop _ h0, pySlice_drop _ (show 0 ≤ at_ + 1 by omega), show (at_ + 1).toNat = at_.toNat + 1 by omega, e0, ed]
  generalize ps[at_.toNat] = t at *
  generalize ps.take at_.toNat = A at *
  generalize ps.drop (at_.toNat + 1) = B at *
  have hg : Good w (A ++ t :: B) := eps ▸ h
  have he := good_e hg t (by simp)
  clear h eps ed e0
  by_cases c0 : cell % 4 = 0
  · rw [decide_eq_true c0]
    refine not_more hg ⟨?_, ?_⟩
    · rw [S_cons, S_nil, giv_self]
      dsimp only [cond]
      omega
    · rw [S_cons, S_nil, get_self]
      dsimp only [cond]
      omega
  rw [decide_eq_false c0]
  dsimp only [cond]
  by_cases c1 : cell % 4 = 1
  · rw [decide_eq_true c1]
    dsimp only [cond]
    intro z
    have := good_e z (T5.mk t.a t.b t.c t.d 0) (by simp)
    dsimp only at this
    omega
  rw [decide_eq_false c1]
  dsimp only [cond]
  by_cases c2 : cell % 4 = 2
  · rw [decide_eq_true c2]
    by_cases c3 : 1 < t.e
    · rw [decide_eq_true c3]
      show ¬ Good w (A ++ [_] ++ B ++ [_])
      rw [List.append_assoc, List.append_assoc]
      exact not_twice (C := []) rfl
    · rw [decide_eq_false c3]
      show ¬ Good w (A ++ [t] ++ t :: B)
      rw [List.append_assoc]
      exact not_twice (B := []) rfl
  · rw [decide_eq_false c2]
    dsimp only [cond, Bool.false_and]
    have := not_more (M := []) hg ⟨by rw [S_nil]; omega, by rw [S_nil]; omega⟩
    rw [List.append_nil] at this
    exact this
theorem neg_heat {w : Wks} {ps : List Pass} (h : Good w ps) : ((ps.filter fun x => decide (x.a < 0)).map fun x => x.e).sum = S (givK [-1, -1]) ps ∧ ((ps.filter fun x => decide (x.c < 0)).map fun x => x.e).sum = S (getK [-1, -1]) ps := by
  refine ⟨?_, ?_⟩
  · rw [sum_S, ← good_heat h]
    refine S_congr fun x hx => ?_
    have hm := ((may_iff w x).mp (h.may x hx)).2
    have : x.a < 0 ↔ x.a = -1 := by
      rcases hm with z | z | z
      · have := z.1; omega
      · have := z.1.1; omega
      · have := z.1.1; omega
    rw [decide_eq_decide]; exact this
  · rw [sum_S, ← good_cold h]
    refine S_congr fun x hx => ?_
    have hm := ((may_iff w x).mp (h.may x hx)).2
    have : x.c < 0 ↔ x.c = -1 := by
      rcases hm with z | z | z
      · have := z.2.2.1; omega
      · have := z.2.1; omega
      · have := z.2.1.1; omega
    rw [decide_eq_decide]; exact this
theorem law_true (script : List Int) (_ : script.length ≤ 63) : m_law script = true := by
  unfold m_law
  have hw : WorksOk (m_law_works script) := (works_ok script).ok
  dsimp only
  generalize m_law_works script = w at *
  have hg := drawn_good hw script
  generalize m_law_drawn w script = ps at *
  obtain ⟨n1, n2⟩ := neg_heat hg
  rw [n1, n2]
  have im := least_most hw.deg
  have mf : MostFrom w 0 (m_least_heat w) := ⟨im.nn, im.ge, im.at_⟩
  obtain ⟨g1, g2⟩ := good_least hw.deg hg mf
  have hl : m_looked_through (T3.mk w.a w.b w.c) ps = some (T2.mk (S (givK [-1, -1]) ps) (S (getK [-1, -1]) ps)) := by
    rcases look_eq w ps with ⟨_, q⟩ | ⟨q, _⟩
    · exact q
    · exact absurd hg q
  rw [hl, least_cold_eq, decide_eq_true rfl, decide_eq_true rfl, decide_eq_true (show T3.mk w.a w.b w.c = w from rfl), decide_eq_false (show ¬ S (givK [-1, -1]) ps < m_least_heat w by omega), decide_eq_true (show S (givK [-1, -1]) ps - m_least_heat w = S (getK [-1, -1]) ps - (m_least_heat w - lackM w 0) by omega)]
  show (bif decide (ps = []) then true else (m_looked_through w (m_law_spoilt ps (m_law_cell_at script 11))).isNone) = true
  by_cases e : ps = []
  · rw [decide_eq_true e]; rfl
  · rw [decide_eq_false e]
    rcases look_eq w (m_law_spoilt ps (m_law_cell_at script 11)) with ⟨q, _⟩ | ⟨_, q⟩
    · exact absurd q (spoilt_not hg e _)
    · rw [q]; rfl
end Tw

set_option maxRecDepth 100000
set_option maxHeartbeats 4000000
namespace Tw
open PySem PySem.Spec PyProof.Rows L2 Wl
theorem all_mk {l : PySem.W.OpenLaw} {w : World} {K : PySem.W.Frag} {h : Heap} {mg : Str → Option Value} {fa f1 f2 f3 f4 f5 f6 f7 f8 f9 f10 f11 f12 f13 f14 f15 f16 f17 f18 f19 : Addr} (X : K.In h) (G : h.Ns mainGlobals mg) (hfa : mg "law" = some (.ref fa))
    {od1 an1 od2 an2 od3 an3 od4 an4 od5 an5 od6 an6 od7 an7 od8 an8 od9 an9 od10 an10 od11 an11 od12 an12 od13 an13 od14 an14 od15 an15 od16 an16 od17 an17 od18 an18 od19 an19 : Option Addr} {sl1 sl2 sl3 sl4 sl5 sl6 sl7 sl8 sl9 sl10 sl11 sl12 sl13 sl14 sl15 sl16 sl17 sl18 sl19 : Array (Option Value)} {oc1 kV1 dc1 pm1 cd1 ct1 oc2 kV2 dc2 pm2 cd2 ct2 oc3 kV3 dc3 pm3 cd3 ct3 oc4 kV4 dc4 pm4 cd4 ct4 oc5 kV5 dc5 pm5 cd5 ct5 oc6 kV6 dc6 pm6 cd6 ct6 oc7 kV7 dc7 pm7 cd7 ct7 oc8 kV8 dc8 pm8 cd8 ct8 oc9 kV9 dc9 pm9 cd9 ct9 oc10 kV10 dc10 pm10 cd10 ct10 oc11 kV11 dc11 pm11 cd11 ct11 oc12 kV12 dc12 pm12 cd12 ct12 oc13 kV13 dc13 pm13 cd13 ct13 oc14 kV14 dc14 pm14 cd14 ct14 oc15 kV15 dc15 pm15 cd15 ct15 oc16 kV16 dc16 pm16 cd16 ct16 oc17 kV17 dc17 pm17 cd17 ct17 oc18 kV18 dc18 pm18 cd18 ct18 oc19 kV19 dc19 pm19 cd19 ct19 : Value}
    (a1 : PySem.W.nsIn K mainGlobals "_law_cell_at" = some (some (.ref f1))) (l1 : K.lookup f1 = some ⟨oc1, od1, .func (PySem.W.fnOf "_law_cell_at" "_law_cell_at" (defArgs s_law_cell_at) (defBody s_law_cell_at) (defScope s_law_cell_at) .none kV1 dc1 pm1 an1 cd1 ct1), sl1⟩) (c1 : PySem.W.codeIn K cd1 "_law_cell_at" = true) (k1 : PySem.W.keepIn K (.ref f1) = true)
    (a2 : PySem.W.nsIn K mainGlobals "_law_mixed" = some (some (.ref f2))) (l2 : K.lookup f2 = some ⟨oc2, od2, .func (PySem.W.fnOf "_law_mixed" "_law_mixed" (defArgs s_law_mixed) (defBody s_law_mixed) (defScope s_law_mixed) .none kV2 dc2 pm2 an2 cd2 ct2), sl2⟩) (c2 : PySem.W.codeIn K cd2 "_law_mixed" = true) (k2 : PySem.W.keepIn K (.ref f2) = true)
    (a3 : PySem.W.nsIn K mainGlobals "_law_rate" = some (some (.ref f3))) (l3 : K.lookup f3 = some ⟨oc3, od3, .func (PySem.W.fnOf "_law_rate" "_law_rate" (defArgs s_law_rate) (defBody s_law_rate) (defScope s_law_rate) .none kV3 dc3 pm3 an3 cd3 ct3), sl3⟩) (c3 : PySem.W.codeIn K cd3 "_law_rate" = true) (k3 : PySem.W.keepIn K (.ref f3) = true)
    (a4 : PySem.W.nsIn K mainGlobals "_law_works" = some (some (.ref f4))) (l4 : K.lookup f4 = some ⟨oc4, od4, .func (PySem.W.fnOf "_law_works" "_law_works" (defArgs s_law_works) (defBody s_law_works) (defScope s_law_works) .none kV4 dc4 pm4 an4 cd4 ct4), sl4⟩) (c4 : PySem.W.codeIn K cd4 "_law_works" = true) (k4 : PySem.W.keepIn K (.ref f4) = true)
    (a5 : PySem.W.nsIn K mainGlobals "_law_steps" = some (some (.ref f5))) (l5 : K.lookup f5 = some ⟨oc5, od5, .func (PySem.W.fnOf "_law_steps" "_law_steps" (defArgs s_law_steps) (defBody s_law_steps) (defScope s_law_steps) .none kV5 dc5 pm5 an5 cd5 ct5), sl5⟩) (c5 : PySem.W.codeIn K cd5 "_law_steps" = true) (k5 : PySem.W.keepIn K (.ref f5) = true)
    (a6 : PySem.W.nsIn K mainGlobals "_law_order" = some (some (.ref f6))) (l6 : K.lookup f6 = some ⟨oc6, od6, .func (PySem.W.fnOf "_law_order" "_law_order" (defArgs s_law_order) (defBody s_law_order) (defScope s_law_order) .none kV6 dc6 pm6 an6 cd6 ct6), sl6⟩) (c6 : PySem.W.codeIn K cd6 "_law_order" = true) (k6 : PySem.W.keepIn K (.ref f6) = true)
    (a7 : PySem.W.nsIn K mainGlobals "_law_drawn" = some (some (.ref f7))) (l7 : K.lookup f7 = some ⟨oc7, od7, .func (PySem.W.fnOf "_law_drawn" "_law_drawn" (defArgs s_law_drawn) (defBody s_law_drawn) (defScope s_law_drawn) .none kV7 dc7 pm7 an7 cd7 ct7), sl7⟩) (c7 : PySem.W.codeIn K cd7 "_law_drawn" = true) (k7 : PySem.W.keepIn K (.ref f7) = true)
    (a8 : PySem.W.nsIn K mainGlobals "_law_spoilt" = some (some (.ref f8))) (l8 : K.lookup f8 = some ⟨oc8, od8, .func (PySem.W.fnOf "_law_spoilt" "_law_spoilt" (defArgs s_law_spoilt) (defBody s_law_spoilt) (defScope s_law_spoilt) .none kV8 dc8 pm8 an8 cd8 ct8), sl8⟩) (c8 : PySem.W.codeIn K cd8 "_law_spoilt" = true) (k8 : PySem.W.keepIn K (.ref f8) = true)
    (a9 : PySem.W.nsIn K mainGlobals "steps_of" = some (some (.ref f9))) (l9 : K.lookup f9 = some ⟨oc9, od9, .func (PySem.W.fnOf "steps_of" "steps_of" (defArgs s_steps_of) (defBody s_steps_of) (defScope s_steps_of) .none kV9 dc9 pm9 an9 cd9 ct9), sl9⟩) (c9 : PySem.W.codeIn K cd9 "steps_of" = true) (k9 : PySem.W.keepIn K (.ref f9) = true)
    (a10 : PySem.W.nsIn K mainGlobals "all_just" = some (some (.ref f10))) (l10 : K.lookup f10 = some ⟨oc10, od10, .func (PySem.W.fnOf "all_just" "all_just" (defArgs s_all_just) (defBody s_all_just) (defScope s_all_just) .none kV10 dc10 pm10 an10 cd10 ct10), sl10⟩) (c10 : PySem.W.codeIn K cd10 "all_just" = true) (k10 : PySem.W.keepIn K (.ref f10) = true)
    (a11 : PySem.W.nsIn K mainGlobals "is_step" = some (some (.ref f11))) (l11 : K.lookup f11 = some ⟨oc11, od11, .func (PySem.W.fnOf "is_step" "is_step" (defArgs s_is_step) (defBody s_is_step) (defScope s_is_step) .none kV11 dc11 pm11 an11 cd11 ct11), sl11⟩) (c11 : PySem.W.codeIn K cd11 "is_step" = true) (k11 : PySem.W.keepIn K (.ref f11) = true)
    (a12 : PySem.W.nsIn K mainGlobals "may_pass" = some (some (.ref f12))) (l12 : K.lookup f12 = some ⟨oc12, od12, .func (PySem.W.fnOf "may_pass" "may_pass" (defArgs s_may_pass) (defBody s_may_pass) (defScope s_may_pass) .none kV12 dc12 pm12 an12 cd12 ct12), sl12⟩) (c12 : PySem.W.codeIn K cd12 "may_pass" = true) (k12 : PySem.W.keepIn K (.ref f12) = true)
    (a13 : PySem.W.nsIn K mainGlobals "looked_through" = some (some (.ref f13))) (l13 : K.lookup f13 = some ⟨oc13, od13, .func (PySem.W.fnOf "looked_through" "looked_through" (defArgs s_looked_through) (defBody s_looked_through) (defScope s_looked_through) .none kV13 dc13 pm13 an13 cd13 ct13), sl13⟩) (c13 : PySem.W.codeIn K cd13 "looked_through" = true) (k13 : PySem.W.keepIn K (.ref f13) = true)
    (a14 : PySem.W.nsIn K mainGlobals "heat_above" = some (some (.ref f14))) (l14 : K.lookup f14 = some ⟨oc14, od14, .func (PySem.W.fnOf "heat_above" "heat_above" (defArgs s_heat_above) (defBody s_heat_above) (defScope s_heat_above) .none kV14 dc14 pm14 an14 cd14 ct14), sl14⟩) (c14 : PySem.W.codeIn K cd14 "heat_above" = true) (k14 : PySem.W.keepIn K (.ref f14) = true)
    (a15 : PySem.W.nsIn K mainGlobals "lack_above" = some (some (.ref f15))) (l15 : K.lookup f15 = some ⟨oc15, od15, .func (PySem.W.fnOf "lack_above" "lack_above" (defArgs s_lack_above) (defBody s_lack_above) (defScope s_lack_above) .none kV15 dc15 pm15 an15 cd15 ct15), sl15⟩) (c15 : PySem.W.codeIn K cd15 "lack_above" = true) (k15 : PySem.W.keepIn K (.ref f15) = true)
    (a16 : PySem.W.nsIn K mainGlobals "kinks" = some (some (.ref f16))) (l16 : K.lookup f16 = some ⟨oc16, od16, .func (PySem.W.fnOf "kinks" "kinks" (defArgs s_kinks) (defBody s_kinks) (defScope s_kinks) .none kV16 dc16 pm16 an16 cd16 ct16), sl16⟩) (c16 : PySem.W.codeIn K cd16 "kinks" = true) (k16 : PySem.W.keepIn K (.ref f16) = true)
    (a17 : PySem.W.nsIn K mainGlobals "least_heat" = some (some (.ref f17))) (l17 : K.lookup f17 = some ⟨oc17, od17, .func (PySem.W.fnOf "least_heat" "least_heat" (defArgs s_least_heat) (defBody s_least_heat) (defScope s_least_heat) .none kV17 dc17 pm17 an17 cd17 ct17), sl17⟩) (c17 : PySem.W.codeIn K cd17 "least_heat" = true) (k17 : PySem.W.keepIn K (.ref f17) = true)
    (a18 : PySem.W.nsIn K mainGlobals "least_cold" = some (some (.ref f18))) (l18 : K.lookup f18 = some ⟨oc18, od18, .func (PySem.W.fnOf "least_cold" "least_cold" (defArgs s_least_cold) (defBody s_least_cold) (defScope s_least_cold) .none kV18 dc18 pm18 an18 cd18 ct18), sl18⟩) (c18 : PySem.W.codeIn K cd18 "least_cold" = true) (k18 : PySem.W.keepIn K (.ref f18) = true)
    (a19 : PySem.W.nsIn K mainGlobals "law" = some (some (.ref f19))) (l19 : K.lookup f19 = some ⟨oc19, od19, .func (PySem.W.fnOf "law" "law" (defArgs s_law) (defBody s_law) (defScope s_law) .none kV19 dc19 pm19 an19 cd19 ct19), sl19⟩) (c19 : PySem.W.codeIn K cd19 "law" = true) (k19 : PySem.W.keepIn K (.ref f19) = true)
    (z_enumerate : PySem.W.nsIn K mainGlobals "enumerate" = some none) (z_int : PySem.W.nsIn K mainGlobals "int" = some none) (z_len : PySem.W.nsIn K mainGlobals "len" = some none) (z_list : PySem.W.nsIn K mainGlobals "list" = some none) (z_max : PySem.W.nsIn K mainGlobals "max" = some none) (z_min : PySem.W.nsIn K mainGlobals "min" = some none) (z_range : PySem.W.nsIn K mainGlobals "range" = some none) (z_reversed : PySem.W.nsIn K mainGlobals "reversed" = some none) (z_sorted : PySem.W.nsIn K mainGlobals "sorted" = some none) (z_sum : PySem.W.nsIn K mainGlobals "sum" = some none) {tc_BOUGHT : Tok} (c_BOUGHT : PySem.W.nsIn K mainGlobals "BOUGHT" = some (some (.int (-1) tc_BOUGHT))) :
    ∃ fd : FuncData, (∀ (s : Shared) (v : Value), BindsTo s fd ⟨[v], []⟩ [("script", v)]) ∧ ∀ base : Heap, K.In base → base.Ns mainGlobals mg → FnOk l.prog w K mg base CX0 5 fa fd ["script"] (PSp K r_law) := by
  have e := hfa.symm.trans (PySem.W.mg_of X G a19)
  cases e
  have T : Txt K mg := ⟨PySem.W.mg_none_of X G z_enumerate, PySem.W.mg_none_of X G z_int, PySem.W.mg_none_of X G z_len, PySem.W.mg_none_of X G z_list, PySem.W.mg_none_of X G z_max, PySem.W.mg_none_of X G z_min, PySem.W.mg_none_of X G z_range, PySem.W.mg_none_of X G z_reversed, PySem.W.mg_none_of X G z_sorted, PySem.W.mg_none_of X G z_sum, ⟨_, PySem.W.mg_of X G c_BOUGHT⟩⟩
  have F1 := fun_mk (st := s_law_cell_at) l1 c1 k1
  have b1 := F1.binds (ps := ["script", "k"]) fun _ _ _ _ _ _ us hl => match us, hl with | [_, _], _ => rfl
  have F2 := fun_mk (st := s_law_mixed) l2 c2 k2
  have b2 := F2.binds (ps := ["cell", "k"]) fun _ _ _ _ _ _ us hl => match us, hl with | [_, _], _ => rfl
  have F3 := fun_mk (st := s_law_rate) l3 c3 k3
  have b3 := F3.binds (ps := ["script", "number", "k"]) fun _ _ _ _ _ _ us hl => match us, hl with | [_, _, _], _ => rfl
  have F4 := fun_mk (st := s_law_works) l4 c4 k4
  have b4 := F4.binds (ps := ["script"]) fun _ _ _ _ _ _ us hl => match us, hl with | [_], _ => rfl
  have F5 := fun_mk (st := s_law_steps) l5 c5 k5
  have b5 := F5.binds (ps := ["works"]) fun _ _ _ _ _ _ us hl => match us, hl with | [_], _ => rfl
  have F6 := fun_mk (st := s_law_order) l6 c6 k6
  have b6 := F6.binds (ps := ["keys", "cell"]) fun _ _ _ _ _ _ us hl => match us, hl with | [_, _], _ => rfl
  have F7 := fun_mk (st := s_law_drawn) l7 c7 k7
  have b7 := F7.binds (ps := ["works", "script"]) fun _ _ _ _ _ _ us hl => match us, hl with | [_, _], _ => rfl
  have F8 := fun_mk (st := s_law_spoilt) l8 c8 k8
  have b8 := F8.binds (ps := ["passes", "cell"]) fun _ _ _ _ _ _ us hl => match us, hl with | [_, _], _ => rfl
  have F9 := fun_mk (st := s_steps_of) l9 c9 k9
  have b9 := F9.binds (ps := ["stream"]) fun _ _ _ _ _ _ us hl => match us, hl with | [_], _ => rfl
  have F10 := fun_mk (st := s_all_just) l10 c10 k10
  have b10 := F10.binds (ps := ["streams", "sums"]) fun _ _ _ _ _ _ us hl => match us, hl with | [_, _], _ => rfl
  have F11 := fun_mk (st := s_is_step) l11 c11 k11
  have b11 := F11.binds (ps := ["streams", "number", "degree"]) fun _ _ _ _ _ _ us hl => match us, hl with | [_, _, _], _ => rfl
  have F12 := fun_mk (st := s_may_pass) l12 c12 k12
  have b12 := F12.binds (ps := ["works", "one"]) fun _ _ _ _ _ _ us hl => match us, hl with | [_, _], _ => rfl
  have F13 := fun_mk (st := s_looked_through) l13 c13 k13
  have b13 := F13.binds (ps := ["works", "passes"]) fun _ _ _ _ _ _ us hl => match us, hl with | [_, _], _ => rfl
  have F14 := fun_mk (st := s_heat_above) l14 c14 k14
  have b14 := F14.binds (ps := ["streams", "step"]) fun _ _ _ _ _ _ us hl => match us, hl with | [_, _], _ => rfl
  have F15 := fun_mk (st := s_lack_above) l15 c15 k15
  have b15 := F15.binds (ps := ["works", "level"]) fun _ _ _ _ _ _ us hl => match us, hl with | [_, _], _ => rfl
  have F16 := fun_mk (st := s_kinks) l16 c16 k16
  have b16 := F16.binds (ps := ["works"]) fun _ _ _ _ _ _ us hl => match us, hl with | [_], _ => rfl
  have F17 := fun_mk (st := s_least_heat) l17 c17 k17
  have b17 := F17.binds (ps := ["works"]) fun _ _ _ _ _ _ us hl => match us, hl with | [_], _ => rfl
  have F18 := fun_mk (st := s_least_cold) l18 c18 k18
  have b18 := F18.binds (ps := ["works"]) fun _ _ _ _ _ _ us hl => match us, hl with | [_], _ => rfl
  have F19 := fun_mk (st := s_law) l19 c19 k19
  refine ⟨PySem.W.fnOf "law" "law" (defArgs s_law) (defBody s_law) (defScope s_law) .none kV19 dc19 pm19 an19 cd19 ct19, fun s v => .of_eq rfl, fun base _ _ => ?_⟩
  have A_law_cell_at : FnAt l.prog w K mg base "_law_cell_at" 1 ["script", "k"] r_law_cell_at := ⟨f1, _, ok_law_cell_at T  F1, PySem.W.mg_of X G a1, k1, b1⟩
  have A_law_mixed : FnAt l.prog w K mg base "_law_mixed" 1 ["cell", "k"] r_law_mixed := ⟨f2, _, ok_law_mixed T  F2, PySem.W.mg_of X G a2, k2, b2⟩
  have A_law_rate : FnAt l.prog w K mg base "_law_rate" 1 ["script", "number", "k"] r_law_rate := ⟨f3, _, ok_law_rate T  F3, PySem.W.mg_of X G a3, k3, b3⟩
  have A_law_works : FnAt l.prog w K mg base "_law_works" 2 ["script"] r_law_works := ⟨f4, _, ok_law_works T A_law_cell_at A_law_mixed A_law_rate F4, PySem.W.mg_of X G a4, k4, b4⟩
  have A_law_steps : FnAtO l.prog w K mg base "_law_steps" 1 ["works"] r_law_steps := ⟨f5, _, ok_law_steps T  F5, PySem.W.mg_of X G a5, k5, b5⟩
  have A_law_order : FnAt l.prog w K mg base "_law_order" 1 ["keys", "cell"] r_law_order := ⟨f6, _, ok_law_order T  F6, PySem.W.mg_of X G a6, k6, b6⟩
  have A_law_drawn : FnAt l.prog w K mg base "_law_drawn" 2 ["works", "script"] r_law_drawn := ⟨f7, _, ok_law_drawn T A_law_cell_at A_law_mixed A_law_order A_law_steps F7, PySem.W.mg_of X G a7, k7, b7⟩
  have A_law_spoilt : FnAt l.prog w K mg base "_law_spoilt" 1 ["passes", "cell"] r_law_spoilt := ⟨f8, _, ok_law_spoilt T  F8, PySem.W.mg_of X G a8, k8, b8⟩
  have A_steps_of : FnAt l.prog w K mg base "steps_of" 1 ["stream"] r_steps_of := ⟨f9, _, ok_steps_of T  F9, PySem.W.mg_of X G a9, k9, b9⟩
  have A_all_just : FnAt l.prog w K mg base "all_just" 2 ["streams", "sums"] r_all_just := ⟨f10, _, ok_all_just T A_steps_of F10, PySem.W.mg_of X G a10, k10, b10⟩
  have A_is_step : FnAt l.prog w K mg base "is_step" 1 ["streams", "number", "degree"] r_is_step := ⟨f11, _, ok_is_step T  F11, PySem.W.mg_of X G a11, k11, b11⟩
  have A_may_pass : FnAt l.prog w K mg base "may_pass" 2 ["works", "one"] r_may_pass := ⟨f12, _, ok_may_pass T A_is_step F12, PySem.W.mg_of X G a12, k12, b12⟩
  have A_looked_through : FnAt l.prog w K mg base "looked_through" 3 ["works", "passes"] r_looked_through := ⟨f13, _, ok_looked_through T A_all_just A_may_pass F13, PySem.W.mg_of X G a13, k13, b13⟩
  have A_heat_above : FnAt l.prog w K mg base "heat_above" 1 ["streams", "step"] r_heat_above := ⟨f14, _, ok_heat_above T  F14, PySem.W.mg_of X G a14, k14, b14⟩
  have A_lack_above : FnAt l.prog w K mg base "lack_above" 2 ["works", "level"] r_lack_above := ⟨f15, _, ok_lack_above T A_heat_above F15, PySem.W.mg_of X G a15, k15, b15⟩
  have A_kinks : FnAt l.prog w K mg base "kinks" 1 ["works"] r_kinks := ⟨f16, _, ok_kinks T  F16, PySem.W.mg_of X G a16, k16, b16⟩
  have A_least_heat : FnAt l.prog w K mg base "least_heat" 3 ["works"] r_least_heat := ⟨f17, _, ok_least_heat T A_kinks A_lack_above F17, PySem.W.mg_of X G a17, k17, b17⟩
  have A_least_cold : FnAt l.prog w K mg base "least_cold" 4 ["works"] r_least_cold := ⟨f18, _, ok_least_cold T A_lack_above A_least_heat F18, PySem.W.mg_of X G a18, k18, b18⟩
  exact ok_law T A_law_cell_at A_law_drawn A_law_spoilt A_law_works A_least_cold A_least_heat A_looked_through F19
theorem law_sp {K : PySem.W.Frag} {H : Hp} {a : Addr} {ns : List Int} (hl : ns.length ≤ 63) (hS : SqL K H a (ns.map V.int)) : PSp K r_law [.ref a] H (fun v _ => v = .bl true) fun _ _ _ => False :=
  ⟨H, [dt ns], dt (m_law ns), Same.refl _, .cons ⟨a, _, rfl, hS, ints_reps ns⟩ .nil, ⟨ns, rfl, rfl⟩, fun v G2 H2 _ rv => by
    have e : v = .bl (m_law ns) := bl_of rv
    rw [e, law_true ns hl]⟩
end Tw
open PySem PySem.W PyProof.Rows
set_option maxRecDepth 100000 in
set_option maxHeartbeats 0 in
theorem PySem.Challenge.cw_warmshare_k35_whole_none_buys_less_holds : PySem.Challenge.rw_warmshare_k35_whole_none_buys_less.Holds := by
  w_on; o_law; k_head; (case hw => w_witness2)
  k_fill
  refine L2.walk_of (l := PySem.Challenge.rw_warmshare_k35_whole_none_buys_less) (n := 63) (k := 5) (x := "script") (CX := fun _ => L2.CX0) (sp := fun w => Wl.PSp _ Tw.r_law) rfl (by decide) rfl ⟨rfl, by decide, by decide⟩ (fun w h Y => PySem.W.kIn_of Y) ?F (fun _ _ a ns hl _ hS => Tw.law_sp hl hS) (fun _ _ _ _ _ h => h)
  case F =>
    intro w mg fa h KX G hmg
    refine' Tw.all_mk KX G hmg ?a1 ?l1 ?c1 ?k1 ?a2 ?l2 ?c2 ?k2 ?a3 ?l3 ?c3 ?k3 ?a4 ?l4 ?c4 ?k4 ?a5 ?l5 ?c5 ?k5 ?a6 ?l6 ?c6 ?k6 ?a7 ?l7 ?c7 ?k7 ?a8 ?l8 ?c8 ?k8 ?a9 ?l9 ?c9 ?k9 ?a10 ?l10 ?c10 ?k10 ?a11 ?l11 ?c11 ?k11 ?a12 ?l12 ?c12 ?k12 ?a13 ?l13 ?c13 ?k13 ?a14 ?l14 ?c14 ?k14 ?a15 ?l15 ?c15 ?k15 ?a16 ?l16 ?c16 ?k16 ?a17 ?l17 ?c17 ?k17 ?a18 ?l18 ?c18 ?k18 ?a19 ?l19 ?c19 ?k19 ?z_enumerate ?z_int ?z_len ?z_list ?z_max ?z_min ?z_range ?z_reversed ?z_sorted ?z_sum ?c_BOUGHT
    (case a1 => k_is)
    (case l1 => k_is)
    (case c1 => k_is)
    (case k1 => k_is)
    (case a2 => k_is)
    (case l2 => k_is)
    (case c2 => k_is)
    (case k2 => k_is)
    (case a3 => k_is)
    (case l3 => k_is)
    (case c3 => k_is)
    (case k3 => k_is)
    (case a4 => k_is)
    (case l4 => k_is)
    (case c4 => k_is)
    (case k4 => k_is)
    (case a5 => k_is)
    (case l5 => k_is)
    (case c5 => k_is)
    (case k5 => k_is)
    (case a6 => k_is)
    (case l6 => k_is)
    (case c6 => k_is)
    (case k6 => k_is)
    (case a7 => k_is)
    (case l7 => k_is)
    (case c7 => k_is)
    (case k7 => k_is)
    (case a8 => k_is)
    (case l8 => k_is)
    (case c8 => k_is)
    (case k8 => k_is)
    (case a9 => k_is)
    (case l9 => k_is)
    (case c9 => k_is)
    (case k9 => k_is)
    (case a10 => k_is)
    (case l10 => k_is)
    (case c10 => k_is)
    (case k10 => k_is)
    (case a11 => k_is)
    (case l11 => k_is)
    (case c11 => k_is)
    (case k11 => k_is)
    (case a12 => k_is)
    (case l12 => k_is)
    (case c12 => k_is)
    (case k12 => k_is)
    (case a13 => k_is)
    (case l13 => k_is)
    (case c13 => k_is)
    (case k13 => k_is)
    (case a14 => k_is)
    (case l14 => k_is)
    (case c14 => k_is)
    (case k14 => k_is)
    (case a15 => k_is)
    (case l15 => k_is)
    (case c15 => k_is)
    (case k15 => k_is)
    (case a16 => k_is)
    (case l16 => k_is)
    (case c16 => k_is)
    (case k16 => k_is)
    (case a17 => k_is)
    (case l17 => k_is)
    (case c17 => k_is)
    (case k17 => k_is)
    (case a18 => k_is)
    (case l18 => k_is)
    (case c18 => k_is)
    (case k18 => k_is)
    (case a19 => k_is)
    (case l19 => k_is)
    (case c19 => k_is)
    (case k19 => k_is)
    (case z_enumerate => k_is)
    (case z_int => k_is)
    (case z_len => k_is)
    (case z_list => k_is)
    (case z_max => k_is)
    (case z_min => k_is)
    (case z_range => k_is)
    (case z_reversed => k_is)
    (case z_sorted => k_is)
    (case z_sum => k_is)
    (case c_BOUGHT => k_is)

