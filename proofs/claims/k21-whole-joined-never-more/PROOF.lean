import PyProof.Rows.All
import Wide.All
import OpenK.AllK
import Wide.FinOn
import HandS.ForMost
import HandS.DictComp
import HandS.IsInst
import HandS.TupAny
import HandS.Style
import HandS.Star
import HandS.Defaults
import HandS.Zip
import KE.KDictSum
import HandS.Strs
import HandS.HeadHook1
import HandS.HeadHook2
import PySem.Challenge.RW_beforeclose_k21_whole_joined_never_more
set_option Elab.async false
set_option linter.all false
set_option maxRecDepth 100000
set_option maxHeartbeats 4000000
/-! DW: readings over plain data. An expression's reading (HandS) is told by the plain data that it gives; own lists and dicts are carried as plain data in the slots. -/
namespace DW
open PySem PySem.Spec PyProof.Rows L2
abbrev Frag := PySem.W.Frag

/-! ### heaps: S is the part that never changes, H the whole -/
def Ex (S S' : Hp) : Prop := ∀ a o, S a = some o → S' a = some o
theorem Ex.refl (S : Hp) : Ex S S := fun _ _ h => h
theorem Ex.trans {S S1 S2 : Hp} (a : Ex S S1) (b : Ex S1 S2) : Ex S S2 := fun c o h => b c o (a c o h)
theorem Ex.upd {S : Hp} {p : Addr} {o : HO} (h : S p = none) : Ex S (upd S p o) := fun a u e => by
  rw [upd_ne (ne_of_none e h)]
  exact e
def isDic : HO → Prop
  | .dK _ => True
  | .dT _ => True
  | _ => False
def Sub (S H : Hp) : Prop := ∀ a o, S a = some o → H a = some o ∨ (isDic o ∧ ∃ ob, H a = some (.frz ob o))
theorem Sub.nn {S H : Hp} (h : Sub S H) {a : Addr} (e : H a = none) : S a = none := by
  cases q : S a with
  | none => rfl
  | some o =>
    rcases h a o q with z | ⟨_, ob, z⟩
    · rw [e] at z
      cases z
    · rw [e] at z
      cases z
theorem Sub.rd {S H : Hp} (h : Sub S H) {a : Addr} {o : HO} (e : S a = some o) : Rd H a o := by
  rcases h a o e with z | ⟨_, ob, z⟩
  · exact .inl z
  · exact .inr ⟨ob, z⟩
theorem Sub.lst {S H : Hp} (h : Sub S H) {a : Addr} {xs : List V} (e : S a = some (.lst xs)) : H a = some (.lst xs) := by
  rcases h a _ e with z | ⟨z, _⟩
  · exact z
  · exact z.elim
theorem Sub.tup {S H : Hp} (h : Sub S H) {a : Addr} {xs : List V} (e : S a = some (.tup xs)) : H a = some (.tup xs) := by
  rcases h a _ e with z | ⟨z, _⟩
  · exact z
  · exact z.elim
theorem Sub.rdrd {S H : Hp} (h : Sub S H) {a : Addr} {xs : List V} (e : Rd S a (.tup xs)) : Rd H a (.tup xs) := by
  rcases e with e | ⟨ob, e⟩
  · exact .inl (h.tup e)
  · rcases h a _ e with z | ⟨z, _⟩
    · exact .inr ⟨ob, z⟩
    · exact z.elim
theorem Sub.sqT {S H : Hp} (h : Sub S H) {K : Frag} {a : Addr} {xs : List V} (e : SqT K S a xs) : SqT K H a xs := by
  rcases e with e | e
  · exact .inl (h.rdrd e)
  · exact .inr e
theorem Ex.sqT {S S' : Hp} (h : Ex S S') {K : Frag} {a : Addr} {xs : List V} (e : SqT K S a xs) : SqT K S' a xs := by
  rcases e with (e | ⟨ob, e⟩) | e
  · exact .inl (.inl (h a _ e))
  · exact .inl (.inr ⟨ob, h a _ e⟩)
  · exact .inr e

/-! ### plain data -/
class Rep (α : Type) where
  rep : Frag → Hp → V → α → Prop
  mono : ∀ {K : Frag} {S S' : Hp} {v : V} {x : α}, Ex S S' → rep K S v x → rep K S' v x
abbrev rep {α : Type} [i : Rep α] (K : Frag) (S : Hp) (v : V) (x : α) : Prop := i.rep K S v x
/-- values told without the heap -/
class Flat (α : Type) extends Rep α where
  val : α → V
  flat : ∀ {K : Frag} {S : Hp} {v : V} {x : α}, rep K S v x ↔ v = val x
instance : Flat Int where
  rep _ _ v x := v = .int x
  mono _ h := h
  val := V.int
  flat := Iff.rfl
instance : Flat Bool where
  rep _ _ v x := v = .bl x
  mono _ h := h
  val := V.bl
  flat := Iff.rfl
instance : Flat Str where
  rep _ _ v x := v = .str x
  mono _ h := h
  val := V.str
  flat := Iff.rfl
instance : Flat Unit where
  rep _ _ v _ := v = .non
  mono _ h := h
  val := fun _ => V.non
  flat := Iff.rfl
instance {α : Type} [Rep α] : Rep (Option α) where
  rep K S v x := match x with
    | none => v = .non
    | some y => v ≠ .non ∧ rep K S v y
  mono := fun {K S S' v x} e h => by
    cases x with
    | none => exact h
    | some y => exact ⟨h.1, Rep.mono e h.2⟩
abbrev Reps {α : Type} [Rep α] (K : Frag) (S : Hp) : List V → List α → Prop := Paired (rep K S)
theorem Paired.mapR {α β : Type} {F G : α → β → Prop} (f : ∀ a b, F a b → G a b) : ∀ {l₁ : List α} {l₂ : List β}, Paired F l₁ l₂ → Paired G l₁ l₂
  | _, _, .nil => .nil
  | _, _, .cons r t => .cons (f _ _ r) (Paired.mapR f t)
theorem Reps.mono {α : Type} [Rep α] {K : Frag} {S S' : Hp} {vs : List V} {xs : List α} (e : Ex S S') (h : Reps K S vs xs) : Reps K S' vs xs := Paired.mapR (fun _ _ z => Rep.mono e z) h
instance {α : Type} [Rep α] : Rep (List α) where
  rep K S v xs := ∃ a vs, v = .ref a ∧ S a = some (.lst vs) ∧ Reps K S vs xs
  mono := fun e ⟨a, vs, h1, h2, h3⟩ => ⟨a, vs, h1, e _ _ h2, h3.mono e⟩
/-- a tuple of many alike -/
structure Tp (α : Type) where
  l : List α
instance {α : Type} [Rep α] : Rep (Tp α) where
  rep K S v xs := ∃ a vs, v = .ref a ∧ SqT K S a vs ∧ Reps K S vs xs.l
  mono := fun e ⟨a, vs, h1, h2, h3⟩ => ⟨a, vs, h1, e.sqT h2, h3.mono e⟩
instance {α β : Type} [Rep α] [Rep β] : Rep (α × β) where
  rep K S v x := ∃ a v1 v2, v = .ref a ∧ SqT K S a [v1, v2] ∧ rep K S v1 x.1 ∧ rep K S v2 x.2
  mono := fun e ⟨a, v1, v2, h1, h2, h3, h4⟩ => ⟨a, v1, v2, h1, e.sqT h2, Rep.mono e h3, Rep.mono e h4⟩
structure T3 (α β γ : Type) where
  a : α
  b : β
  c : γ
instance {α β γ : Type} [Rep α] [Rep β] [Rep γ] : Rep (T3 α β γ) where
  rep K S v x := ∃ a v1 v2 v3, v = .ref a ∧ SqT K S a [v1, v2, v3] ∧ rep K S v1 x.a ∧ rep K S v2 x.b ∧ rep K S v3 x.c
  mono := fun e ⟨a, v1, v2, v3, h1, h2, h3, h4, h5⟩ => ⟨a, v1, v2, v3, h1, e.sqT h2, Rep.mono e h3, Rep.mono e h4, Rep.mono e h5⟩
structure T4 (α β γ δ : Type) where
  a : α
  b : β
  c : γ
  d : δ
instance {α β γ δ : Type} [Rep α] [Rep β] [Rep γ] [Rep δ] : Rep (T4 α β γ δ) where
  rep K S v x := ∃ a v1 v2 v3 v4, v = .ref a ∧ SqT K S a [v1, v2, v3, v4] ∧ rep K S v1 x.a ∧ rep K S v2 x.b ∧ rep K S v3 x.c ∧ rep K S v4 x.d
  mono := fun e ⟨a, v1, v2, v3, v4, h1, h2, h3, h4, h5, h6⟩ => ⟨a, v1, v2, v3, v4, h1, e.sqT h2, Rep.mono e h3, Rep.mono e h4, Rep.mono e h5, Rep.mono e h6⟩
/-- keys -/
class DKey (κ : Type) extends Flat κ where
  key : κ → Key
  inj : ∀ {x y}, key x = key y → x = y
  kv : ∀ x, kV (key x) = val x
instance : DKey Int where
  key := Sum.inl
  inj := fun h => Sum.inl.inj h
  kv _ := rfl
instance : DKey Str where
  key := Sum.inr
  inj := fun h => Sum.inr.inj h
  kv _ := rfl
/-- a dict with int or text keys -/
structure Dc (κ α : Type) where
  l : List (κ × α)
abbrev RepKV {κ α : Type} [DKey κ] [Rep α] (K : Frag) (S : Hp) : List (Key × V) → List (κ × α) → Prop := Paired fun p q => p.1 = DKey.key q.1 ∧ rep K S p.2 q.2
theorem RepKV.mono {κ α : Type} [DKey κ] [Rep α] {K : Frag} {S S' : Hp} {vs : List (Key × V)} {xs : List (κ × α)} (e : Ex S S') (h : RepKV K S vs xs) : RepKV K S' vs xs := Paired.mapR (fun _ _ z => ⟨z.1, Rep.mono e z.2⟩) h
instance {κ α : Type} [DKey κ] [Rep α] : Rep (Dc κ α) where
  rep K S v x := ∃ a kvs, v = .ref a ∧ S a = some (.dK kvs) ∧ RepKV K S kvs x.l ∧ (x.l.map Prod.fst).Nodup
  mono := fun {K S S' v x} e h => by
    obtain ⟨a, vs, h1, h2, h3, h4⟩ := h
    exact ⟨a, vs, h1, e _ _ h2, RepKV.mono e h3, h4⟩

/-! ### a world: an own thing of the caller's that calls may change (the state that draws) -/
structure Wd where
  root : V
  ok : Hp → Prop
  fp : Hp → Addr → Prop
  nn : ∀ {H a}, ok H → fp H a → H a ≠ none
  loc : ∀ {H H'}, ok H → (∀ a, fp H a → H' a = H a) → ok H' ∧ ∀ a, (fp H' a ↔ fp H a)
def W0 : Wd := ⟨.non, fun _ => True, fun _ _ => False, fun _ h => h.elim, fun _ _ => ⟨trivial, fun _ => Iff.rfl⟩⟩
/-- O: what must not be touched -/
structure Good (W : Wd) (O : Addr → Prop) (S H : Hp) : Prop where
  sub : Sub S H
  ok : W.ok H
  fpS : ∀ a, W.fp H a → S a = none
  fpO : ∀ a, W.fp H a → ¬ O a
  oS : ∀ a, O a → S a = none
  oH : ∀ a, O a → H a ≠ none
theorem Good.less {W : Wd} {O O' : Addr → Prop} {S H : Hp} (g : Good W O S H) (h : ∀ a, O' a → O a) : Good W O' S H :=
  ⟨g.sub, g.ok, g.fpS, fun a z q => g.fpO a z (h a q), fun a z => g.oS a (h a z), fun a z => g.oH a (h a z)⟩
structure Mv (W : Wd) (O : Addr → Prop) (S H S' H' : Hp) : Prop where
  ex : Ex S S'
  keep : ∀ a, O a → H' a = H a
  stay : ∀ a, S a ≠ none → H' a = H a
  good : Good W O S' H'
section
variable {W : Wd} {O : Addr → Prop} {S H S1 H1 S2 H2 : Hp}
theorem Mv.refl (g : Good W O S H) : Mv W O S H S H := ⟨Ex.refl S, fun _ _ => rfl, fun _ _ => rfl, g⟩
theorem Ex.nn (e : Ex S S1) {a : Addr} (h : S a ≠ none) : S1 a ≠ none := by
  cases q : S a with
  | none => exact absurd q h
  | some o =>
    rw [e a o q]
    intro z
    cases z
theorem Mv.trans {W0 : Wd} (a : Mv W0 O S H S1 H1) (b : Mv W O S1 H1 S2 H2) : Mv W O S H S2 H2 :=
  ⟨a.ex.trans b.ex, fun c h => (b.keep c h).trans (a.keep c h), fun c h => (b.stay c (a.ex.nn h)).trans (a.stay c h), b.good⟩
theorem Mv.less {O' : Addr → Prop} (m : Mv W O S H S1 H1) (h : ∀ a, O' a → O a) : Mv W O' S H S1 H1 := ⟨m.ex, fun a z => m.keep a (h a z), m.stay, m.good.less h⟩
/-- an object of nobody's is new: kept as such -/
theorem Good.temp (g : Good W O S H) {p : Addr} {o : HO} (hp : H p = none) : Good W O S (upd H p o) := by
  have l := W.loc g.ok (H' := upd H p o) fun a h => upd_ne fun e => W.nn g.ok h (by rw [e]; exact hp)
  refine ⟨fun a u e => ?_, l.1, fun a h => g.fpS a ((l.2 a).mp h), fun a h => g.fpO a ((l.2 a).mp h), g.oS, fun a h => ?_⟩
  · have ne : a ≠ p := fun z => by
      rw [z, g.sub.nn hp] at e
      cases e
    rw [upd_ne ne]
    exact g.sub a u e
  · by_cases z : a = p
    · rw [z, upd_same]
      intro q
      cases q
    · rw [upd_ne z]
      exact g.oH a h
theorem Mv.temp (g : Good W O S H) {p : Addr} {o : HO} (hp : H p = none) : Mv W O S H S (upd H p o) :=
  ⟨Ex.refl S, fun a h => upd_ne fun z => g.oH a h (by rw [z]; exact hp), fun a h => upd_ne fun z => h (by rw [z]; exact g.sub.nn hp), g.temp hp⟩
/-- what stands at p and is nobody's is from now on fixed -/
theorem Good.fix (g : Good W O S H) {p : Addr} {o : HO} (hp : H p = some o) (hs : S p = none) (hf : ¬ W.fp H p) (ho : ¬ O p) : Good W O (upd S p o) H := by
  refine ⟨fun a u e => ?_, g.ok, fun a h => ?_, g.fpO, fun a h => ?_, g.oH⟩
  · by_cases z : a = p
    · rw [z, upd_same] at e
      cases e
      rw [z]
      exact .inl hp
    · rw [upd_ne z] at e
      exact g.sub a u e
  · rw [upd_ne fun z => hf (by rw [← z]; exact h)]
    exact g.fpS a h
  · rw [upd_ne fun z => ho (by rw [← z]; exact h)]
    exact g.oS a h
theorem Mv.fix (m : Mv W O S H S1 H1) {p : Addr} {o : HO} (hp : H1 p = some o) (hs : S1 p = none) (hf : ¬ W.fp H1 p) (ho : ¬ O p) : Mv W O S H (upd S1 p o) H1 :=
  ⟨m.ex.trans (Ex.upd hs), m.keep, m.stay, m.good.fix hp hs hf ho⟩
theorem Good.nfp (g : Good W O S H) {p : Addr} (hp : H p = none) : ¬ W.fp H p := fun h => W.nn g.ok h hp
/-- a new fixed object -/
theorem Mv.new (g : Good W O S H) {p : Addr} {o : HO} (hp : H p = none) : Mv W O S H (upd S p o) (upd H p o) := by
  have l := W.loc g.ok (H' := upd H p o) fun a h => upd_ne fun e => W.nn g.ok h (by rw [e]; exact hp)
  exact (Mv.temp g hp).fix upd_same (g.sub.nn hp) (fun h => g.nfp hp ((l.2 p).mp h)) fun z => g.oH p z hp
/-- a new object of one's own: p is told -/
structure Fresh (W : Wd) (O : Addr → Prop) (S H : Hp) (p : Addr) (o : HO) : Prop where
  at_ : H p = some o
  s : S p = none
  f : ¬ W.fp H p
  o : ¬ O p
theorem Fresh.new (g : Good W O S H) {p : Addr} {o : HO} (hp : H p = none) : Fresh W O S (upd H p o) p o := by
  have l := W.loc g.ok (H' := upd H p o) fun a h => upd_ne fun e => W.nn g.ok h (by rw [e]; exact hp)
  exact ⟨upd_same, g.sub.nn hp, fun h => g.nfp hp ((l.2 p).mp h), fun z => g.oH p z hp⟩
theorem Mv.fixF (m : Mv W O S H S1 H1) {p : Addr} {o : HO} (f : Fresh W O S1 H1 p o) : Mv W O S H (upd S1 p o) H1 := m.fix f.at_ f.s f.f f.o
/-- a world that allows more -/
structure Wle (W W' : Wd) : Prop where
  ok : ∀ H, W.ok H → W'.ok H
  fp : ∀ H a, W'.fp H a → W.fp H a
theorem Wle.refl (W : Wd) : Wle W W := ⟨fun _ h => h, fun _ _ h => h⟩
theorem Wle.trans {W W' W'' : Wd} (a : Wle W W') (b : Wle W' W'') : Wle W W'' := ⟨fun H h => b.ok H (a.ok H h), fun H x h => a.fp H x (b.fp H x h)⟩
theorem Good.wle {W' : Wd} (g : Good W O S H) (l : Wle W W') : Good W' O S H := ⟨g.sub, l.ok H g.ok, fun a h => g.fpS a (l.fp H a h), fun a h => g.fpO a (l.fp H a h), g.oS, g.oH⟩
theorem Mv.wle {W' : Wd} (m : Mv W O S H S1 H1) (l : Wle W W') : Mv W' O S H S1 H1 := ⟨m.ex, m.keep, m.stay, m.good.wle l⟩
theorem Fresh.wle {W' : Wd} {p : Addr} {o : HO} (f : Fresh W O S H p o) (l : Wle W W') : Fresh W' O S H p o := ⟨f.at_, f.s, fun h => f.f (l.fp H p h), f.o⟩
end
end DW
set_option maxHeartbeats 4000000
namespace DW
open PySem PySem.Spec PyProof.Rows L2

/-! ### slots -/
inductive DSlot : Type 1 where
  | non
  | raw (v : V)
  | dat {α : Type} (i : Rep α) (x : α)
  | ol {α : Type} (i : Rep α) (xs : List α)
  | od {κ α : Type} (ik : DKey κ) (i : Rep α) (xs : List (κ × α))
abbrev DEnv := List DSlot
abbrev sD {α : Type} [i : Rep α] (x : α) : DSlot := .dat i x
abbrev sL {α : Type} [i : Rep α] (xs : List α) : DSlot := .ol i xs
abbrev sM {κ α : Type} [ik : DKey κ] [i : Rep α] (xs : List (κ × α)) : DSlot := .od ik i xs
def DSlot.own : DSlot → Bool
  | .ol _ _ => true
  | .od _ _ _ => true
  | _ => false
def SlotOk (K : Frag) (S H : Hp) (ov : Option V) : DSlot → Prop
  | .non => True
  | .raw v => ov = some v
  | .dat i x => ∃ v, ov = some v ∧ i.rep K S v x
  | .ol i xs => ∃ q vs, ov = some (.ref q) ∧ H q = some (.lst vs) ∧ Paired (i.rep K S) vs xs
  | .od ik i xs => ∃ q kvs, ov = some (.ref q) ∧ H q = some (.dK kvs) ∧ @RepKV _ _ ik i K S kvs xs ∧ (xs.map Prod.fst).Nodup
def Sl (K : Frag) (S H : Hp) (σ : L2.St) (δ : DEnv) : Prop := σ.length = δ.length ∧ ∀ (i : Nat) (d : DSlot), δ[i]? = some d → ∃ ov, σ[i]? = some ov ∧ SlotOk K S H ov d
def OwnAt (σ : L2.St) (δ : DEnv) (a : Addr) : Prop := ∃ (i : Nat) (d : DSlot), δ[i]? = some d ∧ d.own = true ∧ σ[i]? = some (some (.ref a))
structure Stt (W : Wd) (K : Frag) (O : Addr → Prop) (S H : Hp) (σ : L2.St) (δ : DEnv) : Prop where
  g : Good W O S H
  sl : Sl K S H σ δ
  own : ∀ a, OwnAt σ δ a → O a
section
variable {W W1 W2 W3 W4 : Wd} {K : Frag} {O : Addr → Prop} {S H S1 H1 S2 H2 : Hp} {σ : L2.St} {δ : DEnv}
theorem SlotOk.mv {ov : Option V} {d : DSlot} (h : SlotOk K S H ov d) (ex : Ex S S1) (k : d.own = true → ∀ a, ov = some (.ref a) → H1 a = H a) : SlotOk K S1 H1 ov d := by
  cases d with
  | non => trivial
  | raw v => exact h
  | dat i x =>
    obtain ⟨v, e, r⟩ := h
    exact ⟨v, e, i.mono ex r⟩
  | ol i xs =>
    obtain ⟨q, vs, e, hq, r⟩ := h
    exact ⟨q, vs, e, (k rfl q e).trans hq, Paired.mapR (fun _ _ z => i.mono ex z) r⟩
  | od ik i xs =>
    obtain ⟨q, kvs, e, hq, r, nd⟩ := h
    exact ⟨q, kvs, e, (k rfl q e).trans hq, Paired.mapR (fun _ _ z => ⟨z.1, i.mono ex z.2⟩) r, nd⟩
theorem Stt.mv (s : Stt W K O S H σ δ) (m : Mv W1 O S H S1 H1) : Stt W1 K O S1 H1 σ δ := by
  refine ⟨m.good, ⟨s.sl.1, fun i d hd => ?_⟩, s.own⟩
  obtain ⟨ov, e, ok⟩ := s.sl.2 i d hd
  exact ⟨ov, e, ok.mv m.ex fun ho a ea => m.keep a (s.own a ⟨i, d, hd, ho, by rw [e, ea]⟩)⟩
end

/-! ### what an expression gives -/
def Ev {α : Type} [Rep α] (W W' : Wd) (K : Frag) (te : TE) (δ : DEnv) (P : α → Prop) : Prop := ∀ O S H σ, Stt W K O S H σ δ → ∀ Q : VK,
  (∀ v S' H' x, Mv W' O S H S' H' → rep K S' v x → P x → Q v H') → te σ H Q
def EvT (W W' : Wd) (K : Frag) (tt : TT) (δ : DEnv) (P : Bool → Prop) : Prop := ∀ O S H σ, Stt W K O S H σ δ → ∀ Q : Bool → Hp → Prop,
  (∀ b S' H', Mv W' O S H S' H' → P b → Q b H') → tt σ H Q
/-- a new list of nobody's -/
def EvF {α : Type} [Rep α] (W W' : Wd) (K : Frag) (te : TE) (δ : DEnv) (P : List α → Prop) : Prop := ∀ O S H σ, Stt W K O S H σ δ → ∀ Q : VK,
  (∀ q vs S' H' xs, Mv W' O S H S' H' → Fresh W' O S' H' q (.lst vs) → Reps K S' vs xs → P xs → Q (.ref q) H') → te σ H Q
/-- a new dict of nobody's -/
def EvG {κ α : Type} [DKey κ] [Rep α] (W W' : Wd) (K : Frag) (te : TE) (δ : DEnv) (P : List (κ × α) → Prop) : Prop := ∀ O S H σ, Stt W K O S H σ δ → ∀ Q : VK,
  (∀ q kvs S' H' xs, Mv W' O S H S' H' → Fresh W' O S' H' q (.dK kvs) → RepKV K S' kvs xs → (xs.map Prod.fst).Nodup → P xs → Q (.ref q) H') → te σ H Q
/-- a list to be read: fixed, or one's own -/
def LAt (O : Addr → Prop) (S H : Hp) (q : Addr) (o : HO) : Prop := S q = some o ∨ (O q ∧ H q = some o)
def EvC {α : Type} [Rep α] (W W' : Wd) (K : Frag) (te : TE) (δ : DEnv) (P : List α → Prop) : Prop := ∀ O S H σ, Stt W K O S H σ δ → ∀ Q : VK,
  (∀ q vs S' H' xs, Mv W' O S H S' H' → LAt O S' H' q (.lst vs) → Reps K S' vs xs → P xs → Q (.ref q) H') → te σ H Q
def EvCD {κ α : Type} [DKey κ] [Rep α] (W W' : Wd) (K : Frag) (te : TE) (δ : DEnv) (P : List (κ × α) → Prop) : Prop := ∀ O S H σ, Stt W K O S H σ δ → ∀ Q : VK,
  (∀ q kvs S' H' xs, Mv W' O S H S' H' → LAt O S' H' q (.dK kvs) → RepKV K S' kvs xs → (xs.map Prod.fst).Nodup → P xs → Q (.ref q) H') → te σ H Q
section
variable {W W1 W2 W3 W4 : Wd} {K : Frag} {O : Addr → Prop} {S H S1 H1 S2 H2 : Hp} {σ : L2.St} {δ : DEnv} {α β κ : Type} [Rep α] [Rep β] [DKey κ] {te ta tb tc : TE} {tt tu : TT}
theorem LAt.mv {q : Addr} {o : HO} (h : LAt O S H q o) (m : Mv W O S H S1 H1) : LAt O S1 H1 q o := by
  rcases h with h | ⟨h1, h2⟩
  · exact .inl (m.ex _ _ h)
  · exact .inr ⟨h1, (m.keep q h1).trans h2⟩
theorem LAt.lst {q : Addr} {vs : List V} (h : LAt O S H q (.lst vs)) (g : Sub S H) : H q = some (.lst vs) := by
  rcases h with h | ⟨_, h⟩
  · exact g.lst h
  · exact h
theorem LAt.rd {q : Addr} {o : HO} (h : LAt O S H q o) (g : Sub S H) : Rd H q o := by
  rcases h with h | ⟨_, h⟩
  · exact g.rd h
  · exact .inl h
theorem LAt.sq {q : Addr} {vs : List V} (h : LAt O S H q (.lst vs)) (g : Sub S H) : SqL K H q vs := .inl (.inl (h.lst g))

theorem Ev.imp {P P' : α → Prop} (h : Ev W W1 K te δ P) (f : ∀ x, P x → P' x) : Ev W W1 K te δ P' := fun O S H σ s Q q => h O S H σ s Q fun v S' H' x m r p => q v S' H' x m r (f x p)
theorem EvT.imp {P P' : Bool → Prop} (h : EvT W W1 K tt δ P) (f : ∀ x, P x → P' x) : EvT W W1 K tt δ P' := fun O S H σ s Q q => h O S H σ s Q fun b S' H' m p => q b S' H' m (f b p)
theorem EvF.imp {P P' : List α → Prop} (h : EvF W W1 K te δ P) (f : ∀ x, P x → P' x) : EvF W W1 K te δ P' := fun O S H σ s Q q => h O S H σ s Q fun a vs S' H' x m r l p => q a vs S' H' x m r l (f x p)
theorem EvC.imp {P P' : List α → Prop} (h : EvC W W1 K te δ P) (f : ∀ x, P x → P' x) : EvC W W1 K te δ P' := fun O S H σ s Q q => h O S H σ s Q fun a vs S' H' x m r l p => q a vs S' H' x m r l (f x p)
theorem ev_fresh {P : List α → Prop} (h : EvF W W1 K te δ P) : Ev W W1 K te δ P := fun O S H σ s Q q => h O S H σ s Q fun a vs S' H' xs m f l p =>
  q _ _ _ xs (m.fixF f) ⟨a, vs, rfl, upd_same, l.mono (Ex.upd f.s)⟩ p
theorem ec_ev {P : List α → Prop} (h : Ev W W1 K te δ P) : EvC W W1 K te δ P := fun O S H σ s Q q => h O S H σ s Q fun v S' H' xs m ⟨a, vs, e, ha, r⟩ p => by
  subst e
  exact q a vs S' H' xs m (.inl ha) r p
theorem ec_own {α : Type} [ri : Rep α] {P : List α → Prop} {i : Nat} {xs : List α} (hi : δ[i]? = some (.ol ri xs)) (p : P xs) : EvC W W K (tVar i) δ P := fun O S H σ s Q q => by
  obtain ⟨ov, e, a, vs, ea, ha, r⟩ := s.sl.2 i _ hi
  subst ea
  exact ⟨_, e, q a vs S H xs (Mv.refl s.g) (.inr ⟨s.own a ⟨i, _, hi, rfl, e⟩, ha⟩) r p⟩
theorem evd_fresh {P : Dc κ α → Prop} (h : EvG W W1 K te δ fun xs => P ⟨xs⟩) : Ev W W1 K te δ P := fun O S H σ s Q q => h O S H σ s Q fun a vs S' H' xs m f l nd p =>
  q _ _ _ ⟨xs⟩ (m.fixF f) ⟨a, vs, rfl, upd_same, l.mono (Ex.upd f.s), nd⟩ p
theorem ecd_ev {P : List (κ × α) → Prop} (h : Ev W W1 K te δ fun d : Dc κ α => P d.l) : EvCD W W1 K te δ P := fun O S H σ s Q q => h O S H σ s Q fun v S' H' xs m hr p => by
  obtain ⟨a, vs, e, ha, r, nd⟩ := hr
  subst e
  exact q a vs S' H' xs.l m (.inl ha) r nd p
theorem ecd_own {α κ : Type} [rk : DKey κ] [ri : Rep α] {P : List (κ × α) → Prop} {i : Nat} {xs : List (κ × α)} (hi : δ[i]? = some (.od rk ri xs)) (p : P xs) : EvCD W W K (tVar i) δ P := fun O S H σ s Q q => by
  obtain ⟨ov, e, a, vs, ea, ha, r, nd⟩ := s.sl.2 i _ hi
  subst ea
  exact ⟨_, e, q a vs S H xs (Mv.refl s.g) (.inr ⟨s.own a ⟨i, _, hi, rfl, e⟩, ha⟩) r nd p⟩

/-! ### names, constants, operators -/
theorem ev_var {α : Type} [ri : Rep α] {P : α → Prop} {i : Nat} {x : α} (hi : δ[i]? = some (.dat ri x)) (p : P x) : Ev W W K (tVar i) δ P := fun O S H σ s Q q => by
  obtain ⟨ov, e, v, ev, r⟩ := s.sl.2 i _ hi
  subst ev
  exact ⟨v, e, q v S H x (Mv.refl s.g) r p⟩
theorem ev_c {P : α → Prop} {v : V} {x : α} (p : P x) (h : ∀ K S, rep K S v x := by intros; rfl) : Ev W W K (tC v) δ P := fun O S H σ s Q q => q v S H x (Mv.refl s.g) (h K S) p
theorem ev_int {P : Int → Prop} {i : Int} (p : P i) : Ev W W K (tC (.int i)) δ P := ev_c p
theorem ev_str {P : Str → Prop} {x : Str} (p : P x) : Ev W W K (tC (.str x)) δ P := ev_c p
theorem ev_bl {P : Bool → Prop} {b : Bool} (p : P b) : Ev W W K (tC (.bl b)) δ P := ev_c p
theorem ev_non {P : Unit → Prop} (p : P ()) : Ev W W K (tC .non) δ P := ev_c p
theorem ev_nonO {P : Option α → Prop} (p : P none) : Ev W W K (tC .non) δ P := ev_c p
theorem ev_someO {P : Option α → Prop} (h : Ev W W1 K te δ fun x : α => P (some x)) (nn : ∀ {K S v} {x : α}, rep K S v x → v ≠ .non) : Ev W W1 K te δ P := fun O S H σ s Q q => h O S H σ s Q fun v S' H' x m r p =>
  q v S' H' (some x) m ⟨nn r, r⟩ p
/-- two in a row -/
theorem ev_two {P : β → Prop} {γ : Type} [Rep γ] {r : R2} {P' : α → γ → Prop} (ha : Ev W W1 K ta δ fun x : α => Ev W1 W2 K tb δ fun y : γ => P' x y)
    (hr : ∀ O S H v u x y, Good W2 O S H → rep K S v x → rep K S u y → P' x y → ∀ Q : VK, (∀ v S' H' z, Mv W2 O S H S' H' → rep K S' v z → P z → Q v H') → r v u H Q) : Ev W W2 K (tOp r ta tb) δ P := fun O S H σ s Q q =>
  ha O S H σ s _ fun v S1 H1 x m1 r1 e1 => e1 O S1 H1 σ (s.mv m1) _ fun u S2 H2 y m2 r2 p => hr O S2 H2 v u x y m2.good (Rep.mono m2.ex r1) r2 p Q fun w S3 H3 z m3 r3 pz => q w S3 H3 z ((m1.trans m2).trans m3) r3 pz
theorem ev_un {P : β → Prop} {r : V → Hp → VK → Prop} {P' : α → Prop} (ha : Ev W W1 K ta δ P')
    (hr : ∀ O S H v x, Good W1 O S H → rep K S v x → P' x → ∀ Q : VK, (∀ v S' H' z, Mv W1 O S H S' H' → rep K S' v z → P z → Q v H') → r v H Q) : Ev W W1 K (tUn r ta) δ P := fun O S H σ s Q q =>
  ha O S H σ s _ fun v S1 H1 x m1 r1 p => hr O S1 H1 v x m1.good r1 p Q fun w S3 H3 z m3 r3 pz => q w S3 H3 z (m1.trans m3) r3 pz
theorem ev_I0 {β : Type} [Flat β] {P : β → Prop} {f : Int → Int → β} {g : Int → Int → V} {r0 : R2} (inc : ∀ {x y H Q}, rI0 g x y H Q → r0 x y H Q) (ha : Ev W W1 K ta δ fun i : Int => Ev W1 W2 K tb δ fun j : Int => P (f i j)) (hg : ∀ i j, g i j = Flat.val (f i j) := by intros; rfl) : Ev W W2 K (tOp r0 ta tb) δ P :=
  ev_two ha fun O S H v u x y gd r1 r2 p Q q => inc ⟨x, y, r1, r2, by rw [hg]; exact q _ S H _ (Mv.refl gd) (Flat.flat.mpr rfl) p⟩
theorem ev_I {β : Type} [Flat β] {P : β → Prop} {C : Int → Int → Prop} {f : Int → Int → β} {g : Int → Int → V} {r0 : R2} (inc : ∀ {x y H Q}, rI C g x y H Q → r0 x y H Q) (ha : Ev W W1 K ta δ fun i : Int => Ev W1 W2 K tb δ fun j : Int => C i j ∧ P (f i j)) (hg : ∀ i j, g i j = Flat.val (f i j) := by intros; rfl) : Ev W W2 K (tOp r0 ta tb) δ P :=
  ev_two ha fun O S H v u x y gd r1 r2 p Q q => inc ⟨x, y, r1, r2, p.1, by rw [hg]; exact q _ S H _ (Mv.refl gd) (Flat.flat.mpr rfl) p.2⟩
theorem ev_U {β : Type} [Flat β] {P : β → Prop} {f : Int → β} {g : Int → V} (ha : Ev W W1 K ta δ fun i : Int => P (f i)) (hg : ∀ i, g i = Flat.val (f i) := by intros; rfl) : Ev W W1 K (tUn (rU g) ta) δ P :=
  ev_un ha fun O S H v x gd r1 p Q q => ⟨x, r1, by rw [hg]; exact q _ S H _ (Mv.refl gd) (Flat.flat.mpr rfl) p⟩
theorem ev_eqI {P : Bool → Prop} {r0 : R2} (inc : ∀ {x y H Q}, rEq x y H Q → r0 x y H Q) (ha : Ev W W1 K ta δ fun i : Int => Ev W1 W2 K tb δ fun j : Int => P (decide (i = j))) : Ev W W2 K (tOp r0 ta tb) δ P :=
  ev_two ha fun O S H v u x y gd r1 r2 p Q q => by
    obtain rfl : v = .int x := r1
    obtain rfl : u = .int y := r2
    refine inc ⟨rfl, ?_⟩
    rw [show decide (V.int x = V.int y) = decide (x = y) by simp]
    exact q _ S H _ (Mv.refl gd) rfl p
theorem ev_neI {P : Bool → Prop} {r0 : R2} (inc : ∀ {x y H Q}, rNe x y H Q → r0 x y H Q) (ha : Ev W W1 K ta δ fun i : Int => Ev W1 W2 K tb δ fun j : Int => P (!decide (i = j))) : Ev W W2 K (tOp r0 ta tb) δ P :=
  ev_two ha fun O S H v u x y gd r1 r2 p Q q => by
    obtain rfl : v = .int x := r1
    obtain rfl : u = .int y := r2
    refine inc ⟨rfl, ?_⟩
    rw [show decide (V.int x = V.int y) = decide (x = y) by simp]
    exact q _ S H _ (Mv.refl gd) rfl p
theorem ev_eqS {P : Bool → Prop} {r0 : R2} (inc : ∀ {x y H Q}, rEq x y H Q → r0 x y H Q) (ha : Ev W W1 K ta δ fun i : Str => Ev W1 W2 K tb δ fun j : Str => P (decide (i = j))) : Ev W W2 K (tOp r0 ta tb) δ P :=
  ev_two ha fun O S H v u x y gd r1 r2 p Q q => by
    obtain rfl : v = .str x := r1
    obtain rfl : u = .str y := r2
    refine inc ⟨rfl, ?_⟩
    rw [show decide (V.str x = V.str y) = decide (x = y) by simp]
    exact q _ S H _ (Mv.refl gd) rfl p
theorem ev_neS {P : Bool → Prop} {r0 : R2} (inc : ∀ {x y H Q}, rNe x y H Q → r0 x y H Q) (ha : Ev W W1 K ta δ fun i : Str => Ev W1 W2 K tb δ fun j : Str => P (!decide (i = j))) : Ev W W2 K (tOp r0 ta tb) δ P :=
  ev_two ha fun O S H v u x y gd r1 r2 p Q q => by
    obtain rfl : v = .str x := r1
    obtain rfl : u = .str y := r2
    refine inc ⟨rfl, ?_⟩
    rw [show decide (V.str x = V.str y) = decide (x = y) by simp]
    exact q _ S H _ (Mv.refl gd) rfl p

/-! ### tests -/
theorem et_test {P : Bool → Prop} (h : Ev W W1 K te δ P) : EvT W W1 K (tTest te) δ P := fun O S H σ s Q q => h O S H σ s _ fun v S' H' x m r p => ⟨x, r, q x S' H' m p⟩
theorem et_B {P : Bool → Prop} (h : Ev W W1 K te δ P) : EvT W W1 K (tB te) δ P := fun O S H σ s Q q => h O S H σ s _ fun v S' H' x m r p => ⟨x, r, q x S' H' m p⟩
theorem et_and {P : Bool → Prop} (h : EvT W W1 K tt δ fun a => (a = true → EvT W1 W2 K tu δ P) ∧ (a = false → P false)) (le : Wle W1 W2 := by exact Wle.refl _) : EvT W W2 K (tAnd tt tu) δ P := fun O S H σ s Q q => h O S H σ s _ fun b S1 H1 m p => by
  cases b with
  | true =>
    show tu σ H1 Q
    exact p.1 rfl O S1 H1 σ (s.mv m) Q fun b2 S2 H2 m2 p2 => q b2 S2 H2 (m.trans m2) p2
  | false =>
    show Q false H1
    exact q false S1 H1 (m.wle le) (p.2 rfl)
theorem et_or {P : Bool → Prop} (h : EvT W W1 K tt δ fun a => (a = false → EvT W1 W2 K tu δ P) ∧ (a = true → P true)) (le : Wle W1 W2 := by exact Wle.refl _) : EvT W W2 K (tOr tt tu) δ P := fun O S H σ s Q q => h O S H σ s _ fun b S1 H1 m p => by
  cases b with
  | false =>
    show tu σ H1 Q
    exact p.1 rfl O S1 H1 σ (s.mv m) Q fun b2 S2 H2 m2 p2 => q b2 S2 H2 (m.trans m2) p2
  | true =>
    show Q true H1
    exact q true S1 H1 (m.wle le) (p.2 rfl)
theorem et_not {P : Bool → Prop} (h : EvT W W1 K tt δ fun a => P (!a)) : EvT W W1 K (tNot tt) δ P := fun O S H σ s Q q => h O S H σ s _ fun b S1 H1 m p => q _ S1 H1 m p
theorem ev_andV {P : Bool → Prop} (h : Ev W W1 K ta δ fun a : Bool => (a = true → Ev W1 W2 K tb δ P) ∧ (a = false → P false)) (le : Wle W1 W2 := by exact Wle.refl _) : Ev W W2 K (tAndV ta tb) δ P := fun O S H σ s Q q => h O S H σ s _ fun v S1 H1 b m r p => by
  obtain rfl : v = .bl b := r
  refine ⟨b, rfl, ?_⟩
  cases b with
  | true =>
    show tb σ H1 Q
    exact p.1 rfl O S1 H1 σ (s.mv m) Q fun b2 S2 H2 x m2 r2 p2 => q b2 S2 H2 x (m.trans m2) r2 p2
  | false =>
    show Q (.bl false) H1
    exact q _ S1 H1 false (m.wle le) rfl (p.2 rfl)
theorem ev_orV {P : Bool → Prop} (h : Ev W W1 K ta δ fun a : Bool => (a = false → Ev W1 W2 K tb δ P) ∧ (a = true → P true)) (le : Wle W1 W2 := by exact Wle.refl _) : Ev W W2 K (tOrV ta tb) δ P := fun O S H σ s Q q => h O S H σ s _ fun v S1 H1 b m r p => by
  obtain rfl : v = .bl b := r
  refine ⟨b, rfl, ?_⟩
  cases b with
  | false =>
    show tb σ H1 Q
    exact p.1 rfl O S1 H1 σ (s.mv m) Q fun b2 S2 H2 x m2 r2 p2 => q b2 S2 H2 x (m.trans m2) r2 p2
  | true =>
    show Q (.bl true) H1
    exact q _ S1 H1 true (m.wle le) rfl (p.2 rfl)
theorem ev_notV {P : Bool → Prop} (h : Ev W W1 K ta δ fun a : Bool => P (!a)) : Ev W W1 K (tNotV ta) δ P := fun O S H σ s Q q => h O S H σ s _ fun v S1 H1 b m r p => ⟨b, r, q _ S1 H1 _ m rfl p⟩
theorem ev_if {P : α → Prop} (h : EvT W W1 K tt δ fun b => (b = true → Ev W1 W2 K ta δ P) ∧ (b = false → Ev W1 W2 K tb δ P)) : Ev W W2 K (tIf tt ta tb) δ P := fun O S H σ s Q q => h O S H σ s _ fun b S1 H1 m p => by
  cases b with
  | true =>
    show ta σ H1 Q
    exact p.1 rfl O S1 H1 σ (s.mv m) Q fun b2 S2 H2 x m2 r2 p2 => q b2 S2 H2 x (m.trans m2) r2 p2
  | false =>
    show tb σ H1 Q
    exact p.2 rfl O S1 H1 σ (s.mv m) Q fun b2 S2 H2 x m2 r2 p2 => q b2 S2 H2 x (m.trans m2) r2 p2
theorem evc_if {P : List α → Prop} (h : EvT W W1 K tt δ fun b => (b = true → EvC W1 W2 K ta δ P) ∧ (b = false → EvC W1 W2 K tb δ P)) : EvC W W2 K (tIf tt ta tb) δ P := fun O S H σ s Q q => h O S H σ s _ fun b S1 H1 m p => by
  cases b with
  | true =>
    show ta σ H1 Q
    exact p.1 rfl O S1 H1 σ (s.mv m) Q fun a vs S2 H2 x m2 l2 r2 p2 => q a vs S2 H2 x (m.trans m2) l2 r2 p2
  | false =>
    show tb σ H1 Q
    exact p.2 rfl O S1 H1 σ (s.mv m) Q fun a vs S2 H2 x m2 l2 r2 p2 => q a vs S2 H2 x (m.trans m2) l2 r2 p2
/-- a world that allows more -/
theorem ev_wk {P : α → Prop} (le : Wle W1 W2) (h : Ev W W1 K te δ P) : Ev W W2 K te δ P := fun O S H σ s Q q => h O S H σ s Q fun v S' H' x m r p => q v S' H' x (m.wle le) r p
theorem et_wk {P : Bool → Prop} (le : Wle W1 W2) (h : EvT W W1 K tt δ P) : EvT W W2 K tt δ P := fun O S H σ s Q q => h O S H σ s Q fun b S' H' m p => q b S' H' (m.wle le) p
/-- a fact kept aside -/
theorem ev_have {P : α → Prop} {R : α → Prop} (h : Ev W W1 K te δ R) (f : ∀ x, R x → P x) : Ev W W1 K te δ P := h.imp f
end

/-! ### arguments, displays, calls -/
inductive Stk where
  | tok
class RepA (γ : Type) where
  repA : Wd → Frag → Hp → List V → γ → Prop
  mono : ∀ {W : Wd} {K : Frag} {S S' : Hp} {vs : List V} {g : γ}, Ex S S' → repA W K S vs g → repA W K S' vs g
  slots : Wd → γ → DEnv
  arity : Nat
  len : ∀ {W : Wd} {K : Frag} {S : Hp} {vs : List V} {g : γ}, repA W K S vs g → vs.length = arity
  slen : ∀ (W : Wd) (g : γ), (slots W g).length = arity
  ok : ∀ {W : Wd} {K : Frag} {S H : Hp} {vs : List V} {g : γ}, repA W K S vs g → ∀ (i : Nat) (d : DSlot), (slots W g)[i]? = some d → ∃ v, vs[i]? = some v ∧ SlotOk K S H (some v) d ∧ d.own = false
instance : RepA Unit where
  repA _ _ _ vs _ := vs = []
  mono _ h := h
  slots _ _ := []
  arity := 0
  len h := by rw [h]; rfl
  slen _ _ := rfl
  ok := fun _ i d hd => by simp at hd
instance {α γ : Type} [Rep α] [RepA γ] : RepA (α × γ) where
  repA W K S vs g := ∃ v r, vs = v :: r ∧ rep K S v g.1 ∧ RepA.repA W K S r g.2
  mono := fun e ⟨v, r, h1, h2, h3⟩ => ⟨v, r, h1, Rep.mono e h2, RepA.mono e h3⟩
  slots W g := sD g.1 :: RepA.slots W g.2
  arity := RepA.arity γ + 1
  len := fun ⟨v, r, h1, h2, h3⟩ => by rw [h1, List.length_cons, RepA.len h3]
  slen W g := by rw [List.length_cons, RepA.slen]
  ok := fun ⟨v, r, h1, h2, h3⟩ i d hd => by
    cases i with
    | zero =>
      have e := Option.some.inj hd
      subst e
      exact ⟨v, by rw [h1] <;> rfl, ⟨v, rfl, h2⟩, rfl⟩
    | succ i =>
      obtain ⟨u, e, k⟩ := RepA.ok h3 i d hd
      exact ⟨u, by rw [h1]; exact e, k⟩
instance {γ : Type} [RepA γ] : RepA (Stk × γ) where
  repA W K S vs g := ∃ r, vs = W.root :: r ∧ RepA.repA W K S r g.2
  mono := fun e ⟨r, h1, h3⟩ => ⟨r, h1, RepA.mono e h3⟩
  slots W g := .raw W.root :: RepA.slots W g.2
  arity := RepA.arity γ + 1
  len := fun ⟨r, h1, h3⟩ => by rw [h1, List.length_cons, RepA.len h3]
  slen W g := by rw [List.length_cons, RepA.slen]
  ok := fun {W} _ _ _ _ _ ⟨r, h1, h3⟩ i d hd => by
    cases i with
    | zero =>
      have e := Option.some.inj hd
      subst e
      exact ⟨W.root, by rw [h1] <;> rfl, rfl, rfl⟩
    | succ i =>
      obtain ⟨u, e, k⟩ := RepA.ok h3 i d hd
      exact ⟨u, by rw [h1]; exact e, k⟩
def EvA {γ : Type} [RepA γ] (W W' : Wd) (K : Frag) (ta : TA) (δ : DEnv) (P : γ → Prop) : Prop := ∀ O S H σ, Stt W K O S H σ δ → ∀ Q : List V → Hp → Prop,
  (∀ vs S' H' g, Mv W' O S H S' H' → RepA.repA W' K S' vs g → P g → Q vs H') → ta σ H Q
/-- items alike, of a display -/
def EvS {α : Type} [Rep α] (W W' : Wd) (K : Frag) (ta : TA) (δ : DEnv) (P : List α → Prop) : Prop := ∀ O S H σ, Stt W K O S H σ δ → ∀ Q : List V → Hp → Prop,
  (∀ vs S' H' xs, Mv W' O S H S' H' → Reps K S' vs xs → P xs → Q vs H') → ta σ H Q
/-- what a def that gives plain data promises -/
def spD {γ β : Type} [RepA γ] [Rep β] (K : Frag) (Wp : Wd → Wd → Prop) (F : γ → (β → Prop) → Prop) : Sp := fun vs H Q _ => ∃ (W W' : Wd) (O : Addr → Prop) (S : Hp) (g : γ) (P : β → Prop), Wp W W' ∧ Good W O S H ∧ RepA.repA W K S vs g ∧ F g P ∧
  ∀ v S' H' y, Mv W' O S H S' H' → rep K S' v y → P y → Q v H'
section
variable {W W1 W2 W3 W4 : Wd} {K : Frag} {O : Addr → Prop} {S H S1 H1 S2 H2 : Hp} {σ : L2.St} {δ : DEnv} {α β γ κ : Type} [Rep α] [Rep β] [RepA γ] [DKey κ] {te tb tc : TE} {ta tr : TA}
theorem ea_nil {P : Unit → Prop} (p : P ()) : EvA W W K tNil δ P := fun O S H σ s Q q => q [] S H () (Mv.refl s.g) rfl p
theorem ea_cons {P : α × γ → Prop} (h : Ev W W1 K te δ fun x : α => EvA W1 W2 K tr δ fun r : γ => P (x, r)) : EvA W W2 K (tCons te tr) δ P := fun O S H σ s Q q =>
  h O S H σ s _ fun v S1 H1 x m1 r1 e1 => e1 O S1 H1 σ (s.mv m1) _ fun vs S2 H2 g m2 r2 p => q (v :: vs) S2 H2 (x, g) (m1.trans m2) ⟨v, vs, rfl, Rep.mono m2.ex r1, r2⟩ p
theorem ea_tok {P : Stk × γ → Prop} {i : Nat} (hi : δ[i]? = some (.raw W.root)) (h : EvA W W1 K tr δ fun r : γ => P (.tok, r)) (hr : W1.root = W.root := by rfl) : EvA W W1 K (tCons (tVar i) tr) δ P := fun O S H σ s Q q => by
  obtain ⟨ov, e, k⟩ := s.sl.2 i _ hi
  have k' : ov = some W.root := k
  subst k'
  exact ⟨_, e, h O S H σ s _ fun vs S2 H2 g m2 r2 p => q (W.root :: vs) S2 H2 (.tok, g) m2 ⟨vs, by rw [hr], r2⟩ p⟩
theorem ev_call {P : β → Prop} {Wp : Wd → Wd → Prop} {F : γ → (β → Prop) → Prop} {E : XK} (hW : Wp W1 W2) (h : EvA W W1 K ta δ fun g : γ => F g P) : Ev W W2 K (tCall (spD K Wp F) [] E ta) δ P := fun O S H σ s Q q =>
  h O S H σ s _ fun vs S1 H1 g m r p => ⟨W1, W2, O, S1, g, P, hW, m.good, by rw [List.append_nil]; exact r, p, fun v S2 H2 y m2 r2 py => q v S2 H2 y (m.trans m2) r2 py⟩
/-- .. with defaults -/
theorem ev_callD {γ' : Type} [RepA γ'] {P : β → Prop} {Wp : Wd → Wd → Prop} {F : γ → (β → Prop) → Prop} {E : XK} {dvs : List V} (app : γ' → γ) (hA : ∀ W K S vs g, RepA.repA W K S vs g → RepA.repA W K S (vs ++ dvs) (app g)) (hW : Wp W1 W2)
    (h : EvA W W1 K ta δ fun g : γ' => F (app g) P) : Ev W W2 K (tCall (spD K Wp F) dvs E ta) δ P := fun O S H σ s Q q =>
  h O S H σ s _ fun vs S1 H1 g m r p => ⟨W1, W2, O, S1, app g, P, hW, m.good, hA _ _ _ _ _ r, p, fun v S2 H2 y m2 r2 py => q v S2 H2 y (m.trans m2) r2 py⟩
theorem es_nil {P : List α → Prop} (p : P []) : EvS W W K tNil δ P := fun O S H σ s Q q => q [] S H [] (Mv.refl s.g) .nil p
theorem es_cons {P : List α → Prop} (h : Ev W W1 K te δ fun x : α => EvS W1 W2 K tr δ fun r : List α => P (x :: r)) : EvS W W2 K (tCons te tr) δ P := fun O S H σ s Q q =>
  h O S H σ s _ fun v S1 H1 x m1 r1 e1 => e1 O S1 H1 σ (s.mv m1) _ fun vs S2 H2 g m2 r2 p => q (v :: vs) S2 H2 (x :: g) (m1.trans m2) (.cons (Rep.mono m2.ex r1) r2) p
theorem small_len {n : Nat} (h : n ≤ 100000) : n ≤ sizeLine := Nat.le_trans h (by decide)
theorem reps_len {vs : List V} {xs : List α} (h : Reps K S vs xs) : vs.length = xs.length := Paired.length h
theorem ef_lst {P : List α → Prop} (h : EvS W W1 K ta δ fun xs => xs.length ≤ 100000 ∧ P xs) : EvF W W1 K (tLst ta) δ P := fun O S H σ s Q q =>
  h O S H σ s _ fun vs S1 H1 xs m r p => ⟨by rw [reps_len r]; exact small_len p.1, fun a ha => q a vs S1 _ xs (m.trans (Mv.temp m.good ha)) (Fresh.new m.good ha) r p.2⟩
theorem ev_tp {P : Tp α → Prop} (h : EvS W W1 K ta δ fun xs => xs.length ≤ 100000 ∧ P ⟨xs⟩) : Ev W W1 K (tTup ta) δ P := fun O S H σ s Q q =>
  h O S H σ s _ fun vs S1 H1 xs m r p => ⟨by rw [reps_len r]; exact small_len p.1, fun a ha => q _ (upd S1 a (.tup vs)) _ ⟨xs⟩ (m.trans (Mv.new m.good ha)) ⟨a, vs, rfl, .inl (.inl upd_same), r.mono (Ex.upd (m.good.sub.nn ha))⟩ p.2⟩
theorem ev_tup2 {P : α × β → Prop} (h : EvA W W1 K ta δ fun g : α × β × Unit => P (g.1, g.2.1)) : Ev W W1 K (tTup ta) δ P := fun O S H σ s Q q =>
  h O S H σ s _ fun vs S1 H1 g m ⟨v1, r, e1, r1, v2, r', e2, r2, e3⟩ p => by
    have e3' : r' = [] := e3
    subst e3' e2 e1
    exact ⟨by show 2 ≤ sizeLine; decide, fun a ha => q _ (upd S1 a (.tup [v1, v2])) _ _ (m.trans (Mv.new m.good ha)) ⟨a, v1, v2, rfl, .inl (.inl upd_same), Rep.mono (Ex.upd (m.good.sub.nn ha)) r1, Rep.mono (Ex.upd (m.good.sub.nn ha)) r2⟩ p⟩
theorem ev_tup3 {γ' : Type} [Rep γ'] {P : T3 α β γ' → Prop} (h : EvA W W1 K ta δ fun g : α × β × γ' × Unit => P ⟨g.1, g.2.1, g.2.2.1⟩) : Ev W W1 K (tTup ta) δ P := fun O S H σ s Q q =>
  h O S H σ s _ fun vs S1 H1 g m ⟨v1, r, e1, r1, v2, r', e2, r2, v3, r'', e3, r3, e4⟩ p => by
    have e4' : r'' = [] := e4
    subst e4' e3 e2 e1
    exact ⟨by show 3 ≤ sizeLine; decide, fun a ha => q _ (upd S1 a (.tup [v1, v2, v3])) _ _ (m.trans (Mv.new m.good ha)) ⟨a, v1, v2, v3, rfl, .inl (.inl upd_same), Rep.mono (Ex.upd (m.good.sub.nn ha)) r1, Rep.mono (Ex.upd (m.good.sub.nn ha)) r2, Rep.mono (Ex.upd (m.good.sub.nn ha)) r3⟩ p⟩
theorem ev_tup4 {γ' δ' : Type} [Rep γ'] [Rep δ'] {P : T4 α β γ' δ' → Prop} (h : EvA W W1 K ta δ fun g : α × β × γ' × δ' × Unit => P ⟨g.1, g.2.1, g.2.2.1, g.2.2.2.1⟩) : Ev W W1 K (tTup ta) δ P := fun O S H σ s Q q =>
  h O S H σ s _ fun vs S1 H1 g m ⟨v1, r, e1, r1, v2, r', e2, r2, v3, r'', e3, r3, v4, r''', e4, r4, e5⟩ p => by
    have e5' : r''' = [] := e5
    subst e5' e4 e3 e2 e1
    exact ⟨by show 4 ≤ sizeLine; decide, fun a ha => q _ (upd S1 a (.tup [v1, v2, v3, v4])) _ _ (m.trans (Mv.new m.good ha)) ⟨a, v1, v2, v3, v4, rfl, .inl (.inl upd_same), Rep.mono (Ex.upd (m.good.sub.nn ha)) r1, Rep.mono (Ex.upd (m.good.sub.nn ha)) r2, Rep.mono (Ex.upd (m.good.sub.nn ha)) r3, Rep.mono (Ex.upd (m.good.sub.nn ha)) r4⟩ p⟩
end
end DW
set_option maxHeartbeats 4000000
namespace DW
open PySem PySem.Spec PyProof.Rows L2

/-! ### statements -/
structure DE (β : Type) where
  nx : Wd → DEnv → Prop
  rt : Wd → β → Prop
  bk : Wd → DEnv → Prop := fun _ _ => False
  ct : Wd → DEnv → Prop := fun _ _ => False
/-- own things stand apart -/
def Dst (σ : L2.St) (δ : DEnv) : Prop := ∀ (i j : Nat) (d e : DSlot) (a : Addr), δ[i]? = some d → d.own = true → σ[i]? = some (some (.ref a)) → δ[j]? = some e → e.own = true → σ[j]? = some (some (.ref a)) → i = j
structure Cf (W : Wd) (K : Frag) (O : Addr → Prop) (S H : Hp) (σ : L2.St) (δ : DEnv) : Prop where
  g : Good W (fun a => O a ∨ OwnAt σ δ a) S H
  sl : Sl K S H σ δ
  dst : Dst σ δ
  out : ∀ a, OwnAt σ δ a → ¬ O a
structure Mo (O : Addr → Prop) (S H S' H' : Hp) : Prop where
  ex : Ex S S'
  keep : ∀ a, O a → H' a = H a
  stay : ∀ a, S a ≠ none → H' a = H a
section
variable {W W1 W2 W3 W4 : Wd} {K : Frag} {O : Addr → Prop} {S H S1 H1 S2 H2 : Hp} {σ σ' : L2.St} {δ δ' : DEnv}
theorem Mo.refl : Mo O S H S H := ⟨Ex.refl S, fun _ _ => rfl, fun _ _ => rfl⟩
theorem Mo.trans (a : Mo O S H S1 H1) (b : Mo O S1 H1 S2 H2) : Mo O S H S2 H2 :=
  ⟨a.ex.trans b.ex, fun c h => (b.keep c h).trans (a.keep c h), fun c h => (b.stay c (a.ex.nn h)).trans (a.stay c h)⟩
theorem Mv.mo {O' : Addr → Prop} (m : Mv W O S H S1 H1) (h : ∀ a, O' a → O a) : Mo O' S H S1 H1 := ⟨m.ex, fun a z => m.keep a (h a z), m.stay⟩
theorem Cf.stt (c : Cf W K O S H σ δ) : Stt W K (fun a => O a ∨ OwnAt σ δ a) S H σ δ := ⟨c.g, c.sl, fun _ h => .inr h⟩
theorem Cf.good (c : Cf W K O S H σ δ) : Good W O S H := c.g.less fun _ h => .inl h
theorem Cf.mv (c : Cf W K O S H σ δ) (m : Mv W1 (fun a => O a ∨ OwnAt σ δ a) S H S1 H1) : Cf W1 K O S1 H1 σ δ := ⟨m.good, (c.stt.mv m).sl, c.dst, c.out⟩
/-- no own thing at the i-th place: it is set to what is no own thing -/
theorem own_set {i : Nat} {v : V} {d : DSlot} {a : Addr} (hd : d.own = false) (h : OwnAt (σ.set i (some v)) (δ.set i d) a) : OwnAt σ δ a := by
  obtain ⟨j, e, h1, h2, h3⟩ := h
  by_cases hj : j = i
  · subst hj
    rw [List.getElem?_set] at h1
    simp only [if_true] at h1
    split at h1
    · cases h1
      rw [hd] at h2
      cases h2
    · cases h1
  · rw [List.getElem?_set_ne (Ne.symm hj)] at h1 h3
    exact ⟨j, e, h1, h2, h3⟩
theorem Sl.set (h : Sl K S H σ δ) {i : Nat} {v : V} {d : DSlot} (ok : SlotOk K S H (some v) d) : Sl K S H (σ.set i (some v)) (δ.set i d) := by
  refine ⟨by rw [List.length_set, List.length_set]; exact h.1, fun j e hj => ?_⟩
  by_cases q : j = i
  · subst q
    rw [List.getElem?_set] at hj
    simp only [if_true] at hj
    split at hj
    · rename_i hl
      cases hj
      exact ⟨some v, by rw [List.getElem?_set_self (by rw [h.1]; exact hl)], ok⟩
    · cases hj
  · rw [List.getElem?_set_ne (Ne.symm q)] at hj ⊢
    exact h.2 j e hj
theorem Cf.set (c : Cf W K O S H σ δ) {i : Nat} {v : V} {d : DSlot} (hd : d.own = false) (ok : SlotOk K S H (some v) d) : Cf W K O S H (σ.set i (some v)) (δ.set i d) := by
  refine ⟨c.g.less fun a h => h.imp id (own_set hd), c.sl.set ok, fun j k e f a h1 h2 h3 h4 h5 h6 => ?_, fun a h => c.out a (own_set hd h)⟩
  by_cases hj : j = i
  · subst hj
    rw [List.getElem?_set] at h1
    simp only [if_true] at h1
    split at h1
    · cases h1
      rw [hd] at h2
      cases h2
    · cases h1
  · by_cases hk : k = i
    · subst hk
      rw [List.getElem?_set] at h4
      simp only [if_true] at h4
      split at h4
      · cases h4
        rw [hd] at h5
        cases h5
      · cases h4
    · rw [List.getElem?_set_ne (Ne.symm hj)] at h1 h3
      rw [List.getElem?_set_ne (Ne.symm hk)] at h4 h6
      exact c.dst j k e f a h1 h2 h3 h4 h5 h6
/-- the i-th place is given a new thing of one's own -/
theorem own_setN {i : Nat} {q a : Addr} {d : DSlot} (h : OwnAt (σ.set i (some (.ref q))) (δ.set i d) a) : a = q ∨ OwnAt σ δ a := by
  obtain ⟨j, e, h1, h2, h3⟩ := h
  by_cases hj : j = i
  · subst hj
    rw [List.getElem?_set] at h3
    simp only [if_true] at h3
    split at h3
    · cases h3
      exact .inl rfl
    · cases h3
  · rw [List.getElem?_set_ne (Ne.symm hj)] at h1 h3
    exact .inr ⟨j, e, h1, h2, h3⟩
theorem Cf.setN (c : Cf W K O S H σ δ) {i : Nat} {q : Addr} {o : HO} {d : DSlot} (f : Fresh W (fun a => O a ∨ OwnAt σ δ a) S H q o) (ok : SlotOk K S H (some (.ref q)) d) : Cf W K O S H (σ.set i (some (.ref q))) (δ.set i d) := by
  have nq : ¬ OwnAt σ δ q := fun z => f.o (.inr z)
  refine ⟨⟨c.g.sub, c.g.ok, c.g.fpS, fun a h z => ?_, fun a z => ?_, fun a z => ?_⟩, c.sl.set ok, fun j k e e' a h1 h2 h3 h4 h5 h6 => ?_, fun a h => ?_⟩
  · rcases z with z | z
    · exact c.g.fpO a h (.inl z)
    · rcases own_setN z with z | z
      · rw [z] at h
        exact f.f h
      · exact c.g.fpO a h (.inr z)
  · rcases z with z | z
    · exact c.g.oS a (.inl z)
    · rcases own_setN z with z | z
      · rw [z]
        exact f.s
      · exact c.g.oS a (.inr z)
  · rcases z with z | z
    · exact c.g.oH a (.inl z)
    · rcases own_setN z with z | z
      · rw [z, f.at_]
        intro y
        cases y
      · exact c.g.oH a (.inr z)
  · by_cases hj : j = i
    · by_cases hk : k = i
      · rw [hj, hk]
      · subst hj
        rw [List.getElem?_set_ne (Ne.symm hk)] at h4 h6
        rw [List.getElem?_set] at h3
        simp only [if_true] at h3
        split at h3
        · cases h3
          exact absurd ⟨k, e', h4, h5, h6⟩ nq
        · cases h3
    · by_cases hk : k = i
      · subst hk
        rw [List.getElem?_set_ne (Ne.symm hj)] at h1 h3
        rw [List.getElem?_set] at h6
        simp only [if_true] at h6
        split at h6
        · cases h6
          exact absurd ⟨j, e, h1, h2, h3⟩ nq
        · cases h6
      · rw [List.getElem?_set_ne (Ne.symm hj)] at h1 h3
        rw [List.getElem?_set_ne (Ne.symm hk)] at h4 h6
        exact c.dst j k e e' a h1 h2 h3 h4 h5 h6
  · rcases own_setN h with z | z
    · rw [z]
      exact fun y => f.o (.inl y)
    · exact c.out a z
/-- the own thing of the i-th place is changed -/
theorem Cf.wr (c : Cf W K O S H σ δ) {i : Nat} {q : Addr} {o : HO} {d d' : DSlot} (hd : δ[i]? = some d) (ho : d.own = true) (hq : σ[i]? = some (some (.ref q))) (hd' : d'.own = true) (ok : SlotOk K S (upd H q o) (some (.ref q)) d') :
    Cf W K O S (upd H q o) σ (δ.set i d') ∧ Mo O S H S (upd H q o) := by
  have oq : OwnAt σ δ q := ⟨i, d, hd, ho, hq⟩
  have sq : S q = none := c.g.oS q (.inr oq)
  have hl : i < δ.length := (List.getElem?_eq_some_iff.mp hd).1
  have l := W.loc c.g.ok (H' := upd H q o) fun a h => upd_ne fun e => c.g.fpO a h (by rw [e]; exact .inr oq)
  have ow : ∀ a, OwnAt σ (δ.set i d') a → OwnAt σ δ a := fun a ⟨j, e, h1, h2, h3⟩ => by
    by_cases hj : j = i
    · rw [hj] at h3
      exact ⟨i, d, hd, ho, h3⟩
    · rw [List.getElem?_set_ne (Ne.symm hj)] at h1
      exact ⟨j, e, h1, h2, h3⟩
  have old : ∀ (j : Nat) (e : DSlot), (δ.set i d')[j]? = some e → e.own = true → ∃ e0 : DSlot, δ[j]? = some e0 ∧ e0.own = true := fun j e h1 h2 => by
    by_cases hj : j = i
    · rw [hj]
      exact ⟨d, hd, ho⟩
    · rw [List.getElem?_set_ne (Ne.symm hj)] at h1
      exact ⟨e, h1, h2⟩
  refine ⟨⟨⟨fun a u e => ?_, l.1, fun a h => c.g.fpS a ((l.2 a).mp h), fun a h z => ?_, fun a z => ?_, fun a z => ?_⟩, ⟨by rw [List.length_set]; exact c.sl.1, fun j e hj => ?_⟩, fun j k e e' a h1 h2 h3 h4 h5 h6 => ?_, fun a h => c.out a (ow a h)⟩, ⟨Ex.refl S, fun a h => upd_ne fun z => c.out q oq (by rw [← z]; exact h), fun a h => upd_ne fun z => h (by rw [z]; exact sq)⟩⟩
  · rw [upd_ne (ne_of_none e sq)]
    exact c.g.sub a u e
  · exact c.g.fpO a ((l.2 a).mp h) (z.imp id (ow a))
  · exact c.g.oS a (z.imp id (ow a))
  · by_cases y : a = q
    · rw [y, upd_same]
      intro w
      cases w
    · rw [upd_ne y]
      exact c.g.oH a (z.imp id (ow a))
  · by_cases y : j = i
    · subst y
      rw [List.getElem?_set_self hl] at hj
      cases hj
      exact ⟨_, hq, ok⟩
    · rw [List.getElem?_set_ne (Ne.symm y)] at hj
      obtain ⟨ov, e1, k⟩ := c.sl.2 j e hj
      refine ⟨ov, e1, k.mv (Ex.refl S) fun h2 a ea => upd_ne fun z => y ?_⟩
      rw [ea, z] at e1
      exact c.dst j i e d q hj h2 e1 hd ho hq
  · obtain ⟨f, g1, g2⟩ := old j e h1 h2
    obtain ⟨f', g1', g2'⟩ := old k e' h4 h5
    exact c.dst j k f f' a g1 g2 h3 g1' g2' h6
/-- the own list of the i-th place is fixed -/
theorem Cf.fix (c : Cf W K O S H σ δ) {i : Nat} {q : Addr} {o : HO} {d d' : DSlot} (hd : δ[i]? = some d) (ho : d.own = true) (hq : σ[i]? = some (some (.ref q))) (hH : H q = some o) (hd' : d'.own = false) (ok : SlotOk K (upd S q o) H (some (.ref q)) d') :
    Cf W K O (upd S q o) H σ (δ.set i d') ∧ Mo O S H (upd S q o) H := by
  have oq : OwnAt σ δ q := ⟨i, d, hd, ho, hq⟩
  have sq : S q = none := c.g.oS q (.inr oq)
  have nf : ¬ W.fp H q := fun h => c.g.fpO q h (.inr oq)
  have hl : i < δ.length := (List.getElem?_eq_some_iff.mp hd).1
  have ow : ∀ a, OwnAt σ (δ.set i d') a → OwnAt σ δ a ∧ a ≠ q := fun a ⟨j, e, h1, h2, h3⟩ => by
    by_cases hj : j = i
    · rw [hj, List.getElem?_set_self hl] at h1
      cases h1
      rw [hd'] at h2
      cases h2
    · rw [List.getElem?_set_ne (Ne.symm hj)] at h1
      exact ⟨⟨j, e, h1, h2, h3⟩, fun z => hj (by rw [z] at h3; exact c.dst j i e d q h1 h2 h3 hd ho hq)⟩
  have less : Good W (fun a => O a ∨ OwnAt σ (δ.set i d') a) S H := c.g.less fun a h => h.imp id fun z => (ow a z).1
  refine ⟨⟨less.fix hH sq nf fun z => z.elim (c.out q oq) fun z => (ow q z).2 rfl, ⟨by rw [List.length_set]; exact c.sl.1, fun j e hj => ?_⟩, fun j k e e' a h1 h2 h3 h4 h5 h6 => ?_, fun a h => c.out a (ow a h).1⟩, ⟨Ex.upd sq, fun _ _ => rfl, fun _ _ => rfl⟩⟩
  · by_cases y : j = i
    · subst y
      rw [List.getElem?_set_self hl] at hj
      cases hj
      exact ⟨_, hq, ok⟩
    · rw [List.getElem?_set_ne (Ne.symm y)] at hj
      obtain ⟨ov, e1, k⟩ := c.sl.2 j e hj
      exact ⟨ov, e1, k.mv (Ex.upd sq) fun _ _ _ => rfl⟩
  · by_cases hj : j = i
    · rw [hj, List.getElem?_set_self hl] at h1
      cases h1
      rw [hd'] at h2
      cases h2
    · by_cases hk : k = i
      · rw [hk, List.getElem?_set_self hl] at h4
        cases h4
        rw [hd'] at h5
        cases h5
      · rw [List.getElem?_set_ne (Ne.symm hj)] at h1
        rw [List.getElem?_set_ne (Ne.symm hk)] at h4
        exact c.dst j k e e' a h1 h2 h3 h4 h5 h6
end
theorem Cf.wle {W : Wd} {K : Frag} {O : Addr → Prop} {S H : Hp} {σ : L2.St} {δ : DEnv} {W' : Wd} (c : Cf W K O S H σ δ) (l : Wle W W') : Cf W' K O S H σ δ := ⟨c.g.wle l, c.sl, c.dst, c.out⟩
structure Reach {β : Type} [Rep β] (K : Frag) (O : Addr → Prop) (S H : Hp) (D : DE β) (E : Ends) : Prop where
  nx : ∀ {W'} S' H' σ' δ', Mo O S H S' H' → Cf W' K O S' H' σ' δ' → D.nx W' δ' → E.nx σ' H'
  bk : ∀ {W'} S' H' σ' δ', Mo O S H S' H' → Cf W' K O S' H' σ' δ' → D.bk W' δ' → E.bk σ' H'
  ct : ∀ {W'} S' H' σ' δ', Mo O S H S' H' → Cf W' K O S' H' σ' δ' → D.ct W' δ' → E.ct σ' H'
  rt : ∀ {W'} v S' H' y, Mv W' O S H S' H' → rep K S' v y → D.rt W' y → E.rt v H'
def Sd {β : Type} [Rep β] (W : Wd) (K : Frag) (ts : TS) (δ : DEnv) (D : DE β) : Prop := ∀ O S H σ, Cf W K O S H σ δ → ∀ E : Ends, Reach K O S H D E → ts E σ H
section
variable {W W1 W2 W3 W4 : Wd} {K : Frag} {O : Addr → Prop} {S H S1 H1 S2 H2 : Hp} {σ : L2.St} {δ : DEnv} {α β κ : Type} [Rep α] [Rep β] [DKey κ] {D D' : DE β} {E : Ends} {te tk tv : TE} {tt : TT} {t u : TS} {i : Nat}
theorem Mo.mv {O : Addr → Prop} (a : Mo O S H S1 H1) (b : Mv W O S1 H1 S2 H2) : Mv W O S H S2 H2 :=
  ⟨a.ex.trans b.ex, fun c h => (b.keep c h).trans (a.keep c h), fun c h => (b.stay c (a.ex.nn h)).trans (a.stay c h), b.good⟩
theorem Reach.mo (r : Reach K O S H D E) (m : Mo O S H S1 H1) : Reach K O S1 H1 D E :=
  ⟨fun S' H' σ' δ' m' => r.nx S' H' σ' δ' (m.trans m'), fun S' H' σ' δ' m' => r.bk S' H' σ' δ' (m.trans m'), fun S' H' σ' δ' m' => r.ct S' H' σ' δ' (m.trans m'), fun v S' H' y m' => r.rt v S' H' y (m.mv m')⟩
theorem Sd.imp (h : Sd W K t δ D) (hn : ∀ W' δ', D.nx W' δ' → D'.nx W' δ') (hr : ∀ W' y, D.rt W' y → D'.rt W' y) (hb : ∀ W' δ', D.bk W' δ' → D'.bk W' δ' := by intro _ _ h; first | exact h | exact h.elim) (hc : ∀ W' δ', D.ct W' δ' → D'.ct W' δ' := by intro _ _ h; first | exact h | exact h.elim) : Sd W K t δ D' := fun O S H σ c E r =>
  h O S H σ c E ⟨fun S' H' σ' δ' m c' q => r.nx S' H' σ' δ' m c' (hn _ δ' q), fun S' H' σ' δ' m c' q => r.bk S' H' σ' δ' m c' (hb _ δ' q), fun S' H' σ' δ' m c' q => r.ct S' H' σ' δ' m c' (hc _ δ' q), fun v S' H' y m q p => r.rt v S' H' y m q (hr _ y p)⟩
theorem sd_seq (h : Sd W K t δ { D with nx := fun W' δ' => Sd W' K u δ' D }) : Sd W K (tSeq t u) δ D := fun O S H σ c E r =>
  h O S H σ c { E with nx := u E } ⟨fun S' H' σ' δ' m c' q => q O S' H' σ' c' E (r.mo m), r.bk, r.ct, r.rt⟩
theorem sd_next (h : D.nx W δ) : Sd W K tNext δ D := fun O S H σ c E r => r.nx S H σ δ Mo.refl c h
theorem sd_break (h : D.bk W δ) : Sd W K tBreak δ D := fun O S H σ c E r => r.bk S H σ δ Mo.refl c h
theorem sd_cont (h : D.ct W δ) : Sd W K tCont δ D := fun O S H σ c E r => r.ct S H σ δ Mo.refl c h
theorem sd_asg (h : Ev W W1 K te δ fun x : α => D.nx W1 (δ.set i (sD x))) : Sd W K (tAsg te (gName i)) δ D := fun O S H σ c E r =>
  h _ S H σ c.stt _ fun v S1 H1 x m rv p => r.nx S1 H1 _ _ (m.mo fun _ z => .inl z) ((c.mv m).set (d := sD x) rfl ⟨v, rfl, rv⟩) p
theorem sd_asgL (h : EvF W W1 K te δ fun xs : List α => D.nx W1 (δ.set i (sL xs))) : Sd W K (tAsg te (gName i)) δ D := fun O S H σ c E r =>
  h _ S H σ c.stt _ fun q vs S1 H1 xs m f rv p => r.nx S1 H1 _ _ (m.mo fun _ z => .inl z) ((c.mv m).setN (d := sL xs) f ⟨q, vs, rfl, f.at_, rv⟩) p
theorem sd_asgM (h : EvG W W1 K te δ fun xs : List (κ × α) => D.nx W1 (δ.set i (sM xs))) : Sd W K (tAsg te (gName i)) δ D := fun O S H σ c E r =>
  h _ S H σ c.stt _ fun q vs S1 H1 xs m f rv nd p => r.nx S1 H1 _ _ (m.mo fun _ z => .inl z) ((c.mv m).setN (d := sM xs) f ⟨q, vs, rfl, f.at_, rv, nd⟩) p
theorem sd_drop (h : Ev W W1 K te δ fun _ : α => D.nx W1 δ) : Sd W K (tDrop te) δ D := fun O S H σ c E r =>
  h _ S H σ c.stt _ fun v S1 H1 x m rv p => r.nx S1 H1 _ _ (m.mo fun _ z => .inl z) (c.mv m) p
theorem sd_ret (h : Ev W W1 K te δ (D.rt W1)) : Sd W K (tRet te) δ D := fun O S H σ c E r =>
  h _ S H σ c.stt _ fun v S1 H1 x m rv p => r.rt v S1 H1 x (m.less fun _ z => .inl z) rv p
theorem sd_retN {y : β} (p : D.rt W y) (h : ∀ K S, rep K S .non y := by intros; rfl) : Sd W K tRetN δ D := fun O S H σ c E r => r.rt .non S H y (Mv.refl c.good) (h K S) p
theorem sd_if (h : EvT W W1 K tt δ fun b => (b = true → Sd W1 K t δ D) ∧ (b = false → Sd W1 K u δ D)) : Sd W K (tIfS tt t u) δ D := fun O S H σ c E r =>
  h _ S H σ c.stt _ fun b S1 H1 m p => by
    cases b with
    | true =>
      show t E σ H1
      exact p.1 rfl O S1 H1 σ (c.mv m) E (r.mo (m.mo fun _ z => .inl z))
    | false =>
      show u E σ H1
      exact p.2 rfl O S1 H1 σ (c.mv m) E (r.mo (m.mo fun _ z => .inl z))
/-- an own list from now on fixed -/
theorem sd_fix {α : Type} [ri : Rep α] {xs : List α} (hi : δ[i]? = some (.ol ri xs)) (h : Sd W K t (δ.set i (sD xs)) D) : Sd W K t δ D := fun O S H σ c E r => by
  obtain ⟨ov, e, q, vs, eq, hq, rv⟩ := c.sl.2 i _ hi
  subst eq
  have sq : S q = none := c.g.oS q (.inr ⟨i, _, hi, rfl, e⟩)
  have k := c.fix (d' := sD xs) hi rfl e hq rfl ⟨_, rfl, q, vs, rfl, upd_same, Reps.mono (Ex.upd sq) rv⟩
  exact h O _ H σ k.1 E (r.mo k.2)
theorem sd_fixM {α κ : Type} [rk : DKey κ] [ri : Rep α] {xs : List (κ × α)} (hi : δ[i]? = some (.od rk ri xs)) (h : Sd W K t (δ.set i (sD (⟨xs⟩ : Dc κ α))) D) : Sd W K t δ D := fun O S H σ c E r => by
  obtain ⟨ov, e, q, vs, eq, hq, rv, nd⟩ := c.sl.2 i _ hi
  subst eq
  have sq : S q = none := c.g.oS q (.inr ⟨i, _, hi, rfl, e⟩)
  have k := c.fix (d' := sD (⟨xs⟩ : Dc κ α)) hi rfl e hq rfl ⟨_, rfl, q, vs, rfl, upd_same, RepKV.mono (Ex.upd sq) rv, nd⟩
  exact h O _ H σ k.1 E (r.mo k.2)
theorem sd_never (h : False) : Sd W K tNever δ D := h.elim
theorem sd_append {α : Type} [ri : Rep α] {xs : List α} (hi : δ[i]? = some (.ol ri xs)) (h : Ev W W1 K te δ fun y : α => xs.length < 100000 ∧ D.nx W1 (δ.set i (sL (xs ++ [y])))) : Sd W K (tDrop (tBM K "list" rAppend (tVar i) (tCons te tNil))) δ D := fun O S H σ c E r => by
  obtain ⟨ov, e, q, vs, eq, hq, rv⟩ := c.sl.2 i _ hi
  subst eq
  refine ⟨_, e, .inl ⟨rfl, vs, .inl (.inl hq)⟩, ?_⟩
  refine h _ S H σ c.stt _ fun v S1 H1 y m rv1 p => ?_
  have c1 := c.mv m
  have hq1 : H1 q = some (.lst vs) := (m.keep q (.inr ⟨i, _, hi, rfl, e⟩)).trans hq
  have rv' : Reps K S1 vs xs := Reps.mono m.ex rv
  have sz : vs.length < sizeLine := by
    rw [reps_len rv']
    exact Nat.lt_of_lt_of_le p.1 (by decide)
  refine ⟨q, vs, v, rfl, rfl, hq1, sz, ?_⟩
  have k := c1.wr (d' := sL (xs ++ [y])) (o := .lst (vs ++ [v])) hi rfl e rfl ⟨q, _, rfl, upd_same, Paired.snoc rv' rv1⟩
  exact r.nx S1 _ σ _ ((m.mo fun _ z => .inl z).trans k.2) k.1 p.2
theorem sd_aug {α : Type} {a : Int} {f : Int → Int → Int} (hi : δ[i]? = some (sD a)) (h : Ev W W1 K te δ fun b : Int => D.nx W1 (δ.set i (sD (f a b)))) : Sd W K (tAug i te (ipI f)) δ D := fun O S H σ c E r => by
  obtain ⟨ov, e, v, ev, rv⟩ := c.sl.2 i _ hi
  subst ev
  obtain rfl : v = .int a := rv
  refine ⟨_, e, h _ S H σ c.stt _ fun u S1 H1 b m ru p => ⟨a, b, rfl, ru, ?_⟩⟩
  exact r.nx S1 H1 _ _ (m.mo fun _ z => .inl z) ((c.mv m).set (d := sD (f a b)) rfl ⟨_, rfl, rfl⟩) p
/-- a, b = e1, e2 -/
theorem sd_par {γ : Type} [Rep γ] {ta : TA} {j : Nat} (h : EvA W W1 K ta δ fun g : α × γ × Unit => D.nx W1 ((δ.set i (sD g.1)).set j (sD g.2.1))) : Sd W K (tPar i j ta) δ D := fun O S H σ c E r =>
  h _ S H σ c.stt _ fun vs S1 H1 g m ⟨v1, r1, e1, q1, v2, r2, e2, q2, e3⟩ p => by
    have e3' : r2 = [] := e3
    subst e3' e2 e1
    exact ⟨v1, v2, rfl, r.nx S1 H1 _ _ (m.mo fun _ z => .inl z) (((c.mv m).set (d := sD g.1) rfl ⟨v1, rfl, q1⟩).set (d := sD g.2.1) rfl ⟨v2, rfl, q2⟩) p⟩
end

/-! ### targets -/
/-- a value is stored in a target: what the slots hold then -/
def Tg {α : Type} [Rep α] (W : Wd) (K : Frag) (g : TG) (x : α) (δ : DEnv) (N : DEnv → Prop) : Prop := ∀ O S H σ v, Cf W K O S H σ δ → rep K S v x → ∀ Q : L2.St → Hp → Prop, (∀ σ' δ', Cf W K O S H σ' δ' → N δ' → Q σ' H) → g v σ H Q
section
variable {W W1 W2 W3 W4 : Wd} {K : Frag} {δ : DEnv} {α β γ : Type} [Rep α] [Rep β] [Rep γ] {i j k l : Nat} {N : DEnv → Prop} {D : DE β} {te : TE} {g : TG}
theorem tg_name {x : α} (h : N (δ.set i (sD x))) : Tg W K (gName i) x δ N := fun O S H σ v c r Q q => q _ _ (c.set (d := sD x) rfl ⟨v, rfl, r⟩) h
theorem tg_two {x : α × γ} (h : N ((δ.set i (sD x.1)).set j (sD x.2))) : Tg W K (gTup K 2 (gCons (gName i) (gCons (gName j) gNil))) x δ N := fun O S H σ v c ⟨a, v1, v2, e, hs, r1, r2⟩ Q q => by
  subst e
  exact ⟨a, _, rfl, c.g.sub.sqT hs, rfl, v1, [v2], rfl, v2, [], rfl, rfl, q _ _ ((c.set (d := sD x.1) rfl ⟨v1, rfl, r1⟩).set (d := sD x.2) rfl ⟨v2, rfl, r2⟩) h⟩
theorem tg_three {x : T3 α β γ} (h : N (((δ.set i (sD x.a)).set j (sD x.b)).set k (sD x.c))) : Tg W K (gTup K 3 (gCons (gName i) (gCons (gName j) (gCons (gName k) gNil)))) x δ N := fun O S H σ v c ⟨a, v1, v2, v3, e, hs, r1, r2, r3⟩ Q q => by
  subst e
  exact ⟨a, _, rfl, c.g.sub.sqT hs, rfl, v1, _, rfl, v2, _, rfl, v3, [], rfl, rfl, q _ _ (((c.set (d := sD x.a) rfl ⟨v1, rfl, r1⟩).set (d := sD x.b) rfl ⟨v2, rfl, r2⟩).set (d := sD x.c) rfl ⟨v3, rfl, r3⟩) h⟩
theorem tg_four {ζ : Type} [Rep ζ] {x : T4 α β γ ζ} (h : N ((((δ.set i (sD x.a)).set j (sD x.b)).set k (sD x.c)).set l (sD x.d))) : Tg W K (gTup K 4 (gCons (gName i) (gCons (gName j) (gCons (gName k) (gCons (gName l) gNil))))) x δ N := fun O S H σ v c ⟨a, v1, v2, v3, v4, e, hs, r1, r2, r3, r4⟩ Q q => by
  subst e
  exact ⟨a, _, rfl, c.g.sub.sqT hs, rfl, v1, _, rfl, v2, _, rfl, v3, _, rfl, v4, [], rfl, rfl, q _ _ ((((c.set (d := sD x.a) rfl ⟨v1, rfl, r1⟩).set (d := sD x.b) rfl ⟨v2, rfl, r2⟩).set (d := sD x.c) rfl ⟨v3, rfl, r3⟩).set (d := sD x.d) rfl ⟨v4, rfl, r4⟩) h⟩
theorem sd_asgT {D : DE β} (h : Ev W W1 K te δ fun x : α => Tg W1 K g x δ (D.nx W1)) : Sd W K (tAsg te g) δ D := fun O S H σ c E r =>
  h _ S H σ c.stt _ fun v S1 H1 x m rv p => p O S1 H1 σ v (c.mv m) rv _ fun σ' δ' c' hn => r.nx S1 H1 σ' δ' (m.mo fun _ z => .inl z) c' hn
end
end DW
set_option maxHeartbeats 4000000
namespace DW
open PySem PySem.Spec PyProof.Rows L2

/-! ### what is walked -/
/-- the iterator J yields xs, while what is fixed, and what Fx tells, stays as it is -/
def ItOk {α : Type} [Rep α] (K : Frag) (Fx : Addr → Prop) (J : It) (xs : List α) (S0 H0 : Hp) : Prop :=
  ∀ {W : Wd} (i : Nat) (O : Addr → Prop) (S H : Hp), Ex S0 S → (∀ a, Fx a → H a = H0 a) → (∀ a, S0 a ≠ none → H a = H0 a) → Good W O S H →
    (∀ x, xs[i]? = some x → J.go i H ∧ ∀ v H', J.yld i H v H' → ∃ S', Mv W O S H S' H' ∧ rep K S' v x) ∧ (i = xs.length → J.stop i H)
/-- of fixed things -/
def EvI {α : Type} [Rep α] (W W' : Wd) (K : Frag) (wi : TI) (δ : DEnv) (P : List α → Prop) : Prop := ∀ O S H σ, Stt W K O S H σ δ → ∀ R : It → Hp → Prop,
  (∀ J S' H' xs, Mv W' O S H S' H' → ItOk K (fun _ => False) J xs S' H' → P xs → R J H') → wi σ H R
/-- of fixed or own things -/
def EvIO {α : Type} [Rep α] (W W' : Wd) (K : Frag) (wi : TI) (δ : DEnv) (P : List α → Prop) : Prop := ∀ O S H σ, Stt W K O S H σ δ → ∀ R : It → Hp → Prop,
  (∀ J S' H' xs, Mv W' O S H S' H' → ItOk K O J xs S' H' → P xs → R J H') → wi σ H R
section
variable {W W1 W2 W3 W4 : Wd} {K : Frag} {O : Addr → Prop} {S H S1 H1 S2 H2 : Hp} {σ : L2.St} {δ : DEnv} {α β κ : Type} [Rep α] [Rep β] [DKey κ] {te : TE} {ta : TA} {wi : TI}
theorem evio {P : List α → Prop} (h : EvI W W1 K wi δ P) : EvIO W W1 K wi δ P := fun O S H σ s R q => h O S H σ s R fun J S' H' xs m it p => q J S' H' xs m (fun i O2 S2 H2 e1 e2 e3 g => it i O2 S2 H2 e1 (fun a z => z.elim) e3 g) p
theorem Paired.at {α β : Type} {F : α → β → Prop} : ∀ {l₁ : List α} {l₂ : List β} {i : Nat} {y : β}, Paired F l₁ l₂ → l₂[i]? = some y → ∃ x, l₁[i]? = some x ∧ F x y
  | _, _, _, _, .nil, h => by simp at h
  | _, _, 0, _, .cons r t, h => ⟨_, rfl, by cases h; exact r⟩
  | _, _, i + 1, _, .cons r t, h => by
    obtain ⟨x, e, f⟩ := Paired.at t (i := i) (by simpa using h)
    exact ⟨x, by simpa using e, f⟩
theorem it_list {Fx : Addr → Prop} {q : Addr} {vs : List V} {xs : List α} {S0 H0 : Hp} (hl : S0 q = some (.lst vs) ∨ (Fx q ∧ H0 q = some (.lst vs))) (hs : Sub S0 H0) (r : Reps K S0 vs xs) : ItOk K Fx (Itl K q) xs S0 H0 := fun i O S H ex fx st g => by
  have hq : H q = some (.lst vs) := by
    rcases hl with h | ⟨h1, h2⟩
    · exact (st q (by rw [h]; intro z; cases z)).trans (hs.lst h)
    · exact (fx q h1).trans h2
  have sq : SqL K H q vs := .inl (.inl hq)
  refine ⟨fun x hx => ?_, fun e => ⟨vs, sq, by rw [reps_len r]; exact Nat.le_of_eq e.symm⟩⟩
  obtain ⟨v, hv, rv⟩ := Paired.at r hx
  refine ⟨⟨vs, v, sq, hv⟩, fun u H' y => ?_⟩
  obtain ⟨e, f⟩ := y
  subst e
  have e2 : u = v := Option.some.inj ((f vs sq).symm.trans hv)
  subst e2
  exact ⟨S, Mv.refl g, Rep.mono ex rv⟩
theorem evi_list {P : List α → Prop} (h : Ev W W1 K te δ P) : EvI W W1 K (iList K te) δ P := fun O S H σ s R q => h O S H σ s _ fun v S1 H1 xs m hr p => by
  obtain ⟨a, vs, e, ha, r⟩ := hr
  subst e
  exact ⟨a, rfl, ⟨vs, .inl (.inl (m.good.sub.lst ha))⟩, q _ S1 H1 xs m (it_list (.inl ha) m.good.sub r) p⟩
theorem evio_list {P : List α → Prop} (h : EvC W W1 K te δ P) : EvIO W W1 K (iList K te) δ P := fun O S H σ s R q => h O S H σ s _ fun a vs S1 H1 xs m l r p =>
  ⟨a, rfl, ⟨vs, l.sq m.good.sub⟩, q _ S1 H1 xs m (it_list l m.good.sub r) p⟩
theorem evi_tup {P : List α → Prop} (h : Ev W W1 K te δ fun t : Tp α => P t.l) : EvI W W1 K (iTup K te) δ P := fun O S H σ s R q => h O S H σ s _ fun v S1 H1 xs m hr p => by
  obtain ⟨a, vs, e, ha, r⟩ := hr
  subst e
  refine ⟨a, rfl, ⟨vs, m.good.sub.sqT ha⟩, q _ S1 H1 xs.l m (fun i O2 S2 H2 ex fx st g => ?_) p⟩
  have sq : SqT K H2 a vs := g.sub.sqT (ex.sqT ha)
  refine ⟨fun x hx => ?_, fun e => ⟨vs, sq, by rw [reps_len r]; exact Nat.le_of_eq e.symm⟩⟩
  obtain ⟨v, hv, rv⟩ := Paired.at r hx
  refine ⟨⟨vs, v, sq, hv⟩, fun u H' y => ?_⟩
  obtain ⟨e, f⟩ := y
  subst e
  have e2 : u = v := Option.some.inj ((f vs sq).symm.trans hv)
  subst e2
  exact ⟨S2, Mv.refl g, Rep.mono ex rv⟩
def rng (lo : Int) (n : Nat) : List Int := (List.range n).map fun (i : Nat) => lo + (i : Int)
theorem rng_at {lo : Int} {n i : Nat} {x : Int} (h : (rng lo n)[i]? = some x) : i < n ∧ x = lo + (i : Int) := by
  unfold rng at h
  rw [List.getElem?_map] at h
  by_cases hi : i < n
  · rw [List.getElem?_range hi] at h
    exact ⟨hi, (Option.some.inj h).symm⟩
  · rw [List.getElem?_eq_none (by rw [List.length_range]; omega)] at h
    cases h
theorem rng_len {lo : Int} {n : Nat} : (rng lo n).length = n := by unfold rng; rw [List.length_map, List.length_range]
theorem it_rng {Fx : Addr → Prop} {lo : Int} {n : Nat} {S0 H0 : Hp} : ItOk K Fx (Itr lo n) (rng lo n) S0 H0 := fun i O S H ex fx st g => by
  refine ⟨fun x hx => ?_, fun e => ?_⟩
  · obtain ⟨h1, h2⟩ := rng_at hx
    refine ⟨h1, fun v H' y => ?_⟩
    obtain ⟨e, f⟩ := y
    subst e
    subst f
    exact ⟨S, Mv.refl g, by rw [h2]; rfl⟩
  · rw [rng_len] at e
    exact Nat.le_of_eq e.symm
theorem evi_rng1 {P : List Int → Prop} (h : EvA W W1 K ta δ fun g : Int × Unit => (-(2 ^ 62) ≤ g.1 ∧ g.1 < 2 ^ 62) ∧ P (rng 0 g.1.toNat)) : EvI W W1 K (iRng1 ta) δ P := fun O S H σ s R q => h O S H σ s _ fun vs S1 H1 g m hr p => by
  obtain ⟨v, r, e, hv, e2⟩ := hr
  have e2' : r = [] := e2
  subst e2' e
  exact ⟨g.1, congrArg (fun z => [z]) hv, p.1.1, p.1.2, q _ S1 H1 _ m it_rng p.2⟩
theorem evi_rng2 {P : List Int → Prop} (h : EvA W W1 K ta δ fun g : Int × Int × Unit => (-(2 ^ 62) ≤ g.1 ∧ g.1 < 2 ^ 62 ∧ -(2 ^ 62) ≤ g.2.1 ∧ g.2.1 < 2 ^ 62) ∧ P (rng g.1 (g.2.1 - g.1).toNat)) : EvI W W1 K (iRng2 ta) δ P := fun O S H σ s R q => h O S H σ s _ fun vs S1 H1 g m hr p => by
  obtain ⟨v, r, e, hv, v2, r2, e1, hv2, e2⟩ := hr
  have e2' : r2 = [] := e2
  subst e2' e1 e
  obtain rfl : v = .int g.1 := hv
  obtain rfl : v2 = .int g.2.1 := hv2
  exact ⟨g.1, g.2.1, rfl, p.1, q _ S1 H1 _ m it_rng p.2⟩
end

/-! ### for -/
section
variable {W W1 W2 W3 W4 : Wd} {K : Frag} {O : Addr → Prop} {S H S1 H1 S2 H2 : Hp} {σ : L2.St} {δ : DEnv} {α β κ : Type} [Rep α] [Rep β] [DKey κ] {te : TE} {wi : TI} {g : TG} {tb : TS} {D : DE β}
/-- the loop from an iterator: Inv by the turn -/
theorem for_run (Wi : Nat → Wd) {J : It} {xs : List α} (it : ItOk K (fun _ => False) J xs S H) (c : Cf (Wi 0) K O S H σ δ) {E : Ends} (r : Reach K O S H D E) (Inv : Nat → DEnv → Prop) (h0 : Inv 0 δ)
    (hs : ∀ (i : Nat) x δ', i < xs.length → xs[i]? = some x → Inv i δ' → Tg (Wi i) K g x δ' fun δ2 => Sd (Wi i) K tb δ2 { D with nx := fun W' δ' => Wle W' (Wi (i + 1)) ∧ Inv (i + 1) δ', ct := fun W' δ' => Wle W' (Wi (i + 1)) ∧ Inv (i + 1) δ', bk := D.nx }) (hd : ∀ δ', Inv xs.length δ' → D.nx (Wi xs.length) δ') :
    ∃ Wm : Nat → Nat → L2.St → Hp → Prop, (∃ m, Wm 0 m σ H) ∧ ∀ i m σ H, Wm i m σ H →
      (J.stop i H ∧ E.nx σ H) ∨ (J.go i H ∧ ∃ N : L2.St → Hp → Prop, (∀ σ' H', N σ' H' → ∃ m', m' < m ∧ Wm (i + 1) m' σ' H') ∧ ∀ x H', J.yld i H x H' → g x σ H' fun σ2 H2 => tb { E with nx := N, ct := N, bk := E.nx } σ2 H2) := by
  refine ⟨fun i m σ' H' => m = xs.length - i ∧ i ≤ xs.length ∧ ∃ S' δ', Mo O S H S' H' ∧ Cf (Wi i) K O S' H' σ' δ' ∧ Inv i δ', ⟨xs.length, by simp, Nat.zero_le _, S, δ, Mo.refl, c, h0⟩, ?_⟩
  rintro i m σ' H' ⟨rfl, hi, S', δ', mo, c', iv⟩
  have k := it i _ S' H' mo.ex (fun a z => z.elim) mo.stay c'.g
  by_cases hlt : i < xs.length
  · have hx : xs[i]? = some xs[i] := List.getElem?_eq_getElem hlt
    obtain ⟨go, yl⟩ := k.1 _ hx
    refine .inr ⟨go, fun σ2 H2 => ∃ S2 δ2, Mo O S H S2 H2 ∧ Cf (Wi (i + 1)) K O S2 H2 σ2 δ2 ∧ Inv (i + 1) δ2, fun σ2 H2 q => ⟨xs.length - (i + 1), by omega, rfl, hlt, q⟩, fun v H2 y => ?_⟩
    obtain ⟨S2, m2, rv⟩ := yl v H2 y
    have mo2 := mo.trans (m2.mo fun _ z => .inl z)
    refine hs i _ δ' hlt hx iv O S2 H2 σ' v (c'.mv m2) rv _ fun σ3 δ3 c3 h3 => ?_
    refine h3 O S2 H2 σ3 c3 _ ⟨fun S4 H4 σ4 δ4 m4 c4 q => ⟨S4, δ4, mo2.trans m4, c4.wle q.1, q.2⟩, fun S4 H4 σ4 δ4 m4 c4 q => r.nx S4 H4 σ4 δ4 (mo2.trans m4) c4 q, fun S4 H4 σ4 δ4 m4 c4 q => ⟨S4, δ4, mo2.trans m4, c4.wle q.1, q.2⟩, fun v S4 H4 y m4 q p => r.rt v S4 H4 y (mo2.mv m4) q p⟩
  · have e : i = xs.length := by omega
    subst e
    exact .inl ⟨k.2 rfl, r.nx S' H' σ' δ' mo c' (hd δ' iv)⟩
theorem sd_for (h : EvI W W1 K wi δ fun xs : List α => ∃ (Wi : Nat → Wd) (Inv : Nat → DEnv → Prop), Wi 0 = W1 ∧ Inv 0 δ ∧ (∀ (i : Nat) x δ', i < xs.length → xs[i]? = some x → Inv i δ' → Tg (Wi i) K g x δ' fun δ2 => Sd (Wi i) K tb δ2 { D with nx := fun W' δ' => Wle W' (Wi (i + 1)) ∧ Inv (i + 1) δ', ct := fun W' δ' => Wle W' (Wi (i + 1)) ∧ Inv (i + 1) δ', bk := D.nx }) ∧ ∀ δ', Inv xs.length δ' → D.nx (Wi xs.length) δ') :
    Sd W K (tFor wi g tb) δ D := fun O S H σ c E r => h _ S H σ c.stt _ fun J S1 H1 xs m it ⟨Wi, Iv, e, h0, hs, hd⟩ => by
  subst e
  exact for_run Wi it (c.mv m) (r.mo (m.mo fun _ z => .inl z)) Iv h0 hs hd
end

/-! ### locks: a dict that is walked -/
def tLockO (t : TS) : TS := fun D σ H => tLock t D σ H ∨ t D σ H
def tLockOE (t : TE) : TE := fun σ H Q => tLockE t σ H Q ∨ t σ H Q
theorem ps_lockO {X : Cx} {st : Stmt} {t : TS} (h : PS X st t) : PS X st (tLockO t) := ⟨fun pins s σ H D I hw => hw.elim ((ps_lock h).run pins s σ H D I) (h.run pins s σ H D I)⟩
theorem pe_lockO {X : Cx} {e : Expr} {t : TE} (h : PE X e t) : PE X e (tLockOE t) := ⟨fun pins s σ H Q I hw => hw.elim ((pe_lock h).run pins s σ H Q I) (h.run pins s σ H Q I)⟩
section
variable {W W1 W2 W3 W4 : Wd} {K : Frag} {O : Addr → Prop} {S H S1 H1 S2 H2 : Hp} {σ : L2.St} {δ : DEnv} {α β κ : Type} [Rep α] [Rep β] [DKey κ] {d : Addr} {u : HO} {ob : Obj}
theorem Good.relock (g : Good W O S H) (hS : S d = some u) (o : HO) (ho : o = u ∨ (isDic u ∧ ∃ ob, o = .frz ob u)) : Good W O S (upd H d o) := by
  have l := W.loc g.ok (H' := upd H d o) fun a h => upd_ne fun e => by
    have z := g.fpS a h
    rw [e, hS] at z
    cases z
  refine ⟨fun a w e => ?_, l.1, fun a h => g.fpS a ((l.2 a).mp h), fun a h => g.fpO a ((l.2 a).mp h), g.oS, fun a h => ?_⟩
  · by_cases z : a = d
    · subst z
      rw [hS] at e
      cases e
      rw [upd_same]
      rcases ho with rfl | ⟨h1, ob, rfl⟩
      · exact .inl rfl
      · exact .inr ⟨h1, ob, rfl⟩
    · rw [upd_ne z]
      exact g.sub a w e
  · rw [upd_ne fun z => by
      have y := g.oS a h
      rw [z, hS] at y
      cases y]
    exact g.oH a h
theorem Stt.relock (s : Stt W K O S H σ δ) (hS : S d = some u) (o : HO) (ho : o = u ∨ (isDic u ∧ ∃ ob, o = .frz ob u)) : Stt W K O S (upd H d o) σ δ := by
  refine ⟨s.g.relock hS o ho, ⟨s.sl.1, fun i e hd => ?_⟩, s.own⟩
  obtain ⟨ov, h1, h2⟩ := s.sl.2 i e hd
  exact ⟨ov, h1, h2.mv (Ex.refl S) fun h3 a ea => upd_ne fun z => by
    have y := s.g.oS a (s.own a ⟨i, e, hd, h3, by rw [h1, ea]⟩)
    rw [z, hS] at y
    cases y⟩
theorem Cf.relock (c : Cf W K O S H σ δ) (hS : S d = some u) (o : HO) (ho : o = u ∨ (isDic u ∧ ∃ ob, o = .frz ob u)) : Cf W K O S (upd H d o) σ δ :=
  ⟨c.g.relock hS o ho, (c.stt.relock hS o ho).sl, c.dst, c.out⟩
/-- from the locked heap back -/
theorem Mo.unlock (g : Good W O S H) (hH : H d = some u) (hS : S d = some u) (m : Mo O S (upd H d (.frz ob u)) S1 H1) : H1 d = some (.frz ob u) ∧ Mo O S H S1 (upd H1 d u) := by
  have nO : ∀ a, O a → a ≠ d := fun a h z => by
    have y := g.oS a h
    rw [z, hS] at y
    cases y
  refine ⟨by rw [m.stay d (by rw [hS]; intro z; cases z), upd_same], ⟨m.ex, fun a h => ?_, fun a h => ?_⟩⟩
  · rw [upd_ne (nO a h), m.keep a h, upd_ne (nO a h)]
  · by_cases z : a = d
    · rw [z, upd_same, hH]
    · rw [upd_ne z, m.stay a h, upd_ne z]
theorem Mv.unlock (g : Good W O S H) (hH : H d = some u) (hS : S d = some u) (m : Mv W1 O S (upd H d (.frz ob u)) S1 H1) : H1 d = some (.frz ob u) ∧ Mv W1 O S H S1 (upd H1 d u) := by
  have k := Mo.unlock g hH hS (m.mo fun _ h => h)
  exact ⟨k.1, k.2.ex, k.2.keep, k.2.stay, m.good.relock (m.ex _ _ hS) u (.inl rfl)⟩
theorem RepKV.at {kvs : List (Key × V)} {xs : List (κ × α)} {i : Nat} {y : κ × α} (r : RepKV K S kvs xs) (h : xs[i]? = some y) : ∃ v, kvs[i]? = some (DKey.key y.1, v) ∧ rep K S v y.2 := by
  obtain ⟨p, e, h1, h2⟩ := Paired.at r h
  obtain ⟨k, v⟩ := p
  have h1' : k = DKey.key y.1 := h1
  subst h1'
  exact ⟨v, e, h2⟩
theorem repkv_len {kvs : List (Key × V)} {xs : List (κ × α)} (r : RepKV K S kvs xs) : kvs.length = xs.length := Paired.length r
theorem it_keys {Fx : Addr → Prop} {kvs : List (Key × V)} {xs : List (κ × α)} {S0 H0 : Hp} (hS : S0 d = some (.dK kvs)) (hH : H0 d = some (.frz ob (.dK kvs))) (r : RepKV K S0 kvs xs) : ItOk K Fx (Itk d ob kvs) (xs.map Prod.fst) S0 H0 := fun i O S H ex fx st g => by
  have hd : H d = some (.frz ob (.dK kvs)) := (st d (by rw [hS]; intro z; cases z)).trans hH
  have len := repkv_len r
  refine ⟨fun x hx => ?_, fun e => ⟨hd, by rw [len, e, List.length_map]; exact Nat.le_refl _⟩⟩
  rw [List.getElem?_map] at hx
  obtain ⟨y, hy, rfl⟩ := Option.map_eq_some_iff.mp hx
  obtain ⟨v, hv, rv⟩ := RepKV.at r hy
  refine ⟨⟨hd, (List.getElem?_eq_some_iff.mp hv).1⟩, fun w H' yl => ?_⟩
  obtain ⟨e, k, v', hk, ew⟩ := yl
  subst e
  rw [hv] at hk
  cases hk
  subst ew
  exact ⟨S, Mv.refl g, Flat.flat.mpr (DKey.kv _)⟩
theorem it_vals {Fx : Addr → Prop} {kvs : List (Key × V)} {xs : List (κ × α)} {S0 H0 : Hp} (hS : S0 d = some (.dK kvs)) (hH : H0 d = some (.frz ob (.dK kvs))) (r : RepKV K S0 kvs xs) : ItOk K Fx (Itd d ob kvs) (xs.map Prod.snd) S0 H0 := fun i O S H ex fx st g => by
  have hd : H d = some (.frz ob (.dK kvs)) := (st d (by rw [hS]; intro z; cases z)).trans hH
  have len := repkv_len r
  refine ⟨fun x hx => ?_, fun e => ⟨hd, by rw [len, e, List.length_map]; exact Nat.le_refl _⟩⟩
  rw [List.getElem?_map] at hx
  obtain ⟨y, hy, rfl⟩ := Option.map_eq_some_iff.mp hx
  obtain ⟨v, hv, rv⟩ := RepKV.at r hy
  refine ⟨⟨hd, (List.getElem?_eq_some_iff.mp hv).1⟩, fun w H' yl => ?_⟩
  obtain ⟨e, k, hk⟩ := yl
  subst e
  rw [hv] at hk
  cases hk
  exact ⟨S, Mv.refl g, Rep.mono ex rv⟩
theorem it_items {Fx : Addr → Prop} {kvs : List (Key × V)} {xs : List (κ × α)} {S0 H0 : Hp} (hS : S0 d = some (.dK kvs)) (hH : H0 d = some (.frz ob (.dK kvs))) (r : RepKV K S0 kvs xs) : ItOk K Fx (Iti d ob kvs) xs S0 H0 := fun i O S H ex fx st g => by
  have hd : H d = some (.frz ob (.dK kvs)) := (st d (by rw [hS]; intro z; cases z)).trans hH
  have len := repkv_len r
  refine ⟨fun x hx => ?_, fun e => ⟨hd, by rw [len, e]; exact Nat.le_refl _⟩⟩
  obtain ⟨v, hv, rv⟩ := RepKV.at r hx
  refine ⟨⟨hd, (List.getElem?_eq_some_iff.mp hv).1⟩, fun w H' yl => ?_⟩
  obtain ⟨T, k, v', hk, ew, hT, eH⟩ := yl
  rw [hv] at hk
  cases hk
  subst ew eH
  exact ⟨_, Mv.new g hT, T, _, _, rfl, .inl (.inl upd_same), Flat.flat.mpr (DKey.kv _), Rep.mono (ex.trans (Ex.upd (g.sub.nn hT))) rv⟩
variable {g : TG} {tb : TS} {D : DE β} {wi : TI} {i : Nat}
/-- the dict at slot i is walked, by wi -/
theorem sd_forLock {γ : Type} [Rep γ] {mk : Addr → Obj → List (Key × V) → It} {xs : List (κ × α)} {ys : List γ} (hi : δ[i]? = some (sD (⟨xs⟩ : Dc κ α)))
    (hw : ∀ (σ : L2.St) (H : Hp) (R : It → Hp → Prop) (d : Addr) (o : Obj) (kvs : List (Key × V)), σ[i]? = some (some (.ref d)) → H d = some (.frz o (.dK kvs)) → R (mk d o kvs) H → wi σ H R)
    (hm : ∀ (d : Addr) (ob : Obj) (kvs : List (Key × V)) (S0 H0 : Hp), S0 d = some (.dK kvs) → H0 d = some (.frz ob (.dK kvs)) → RepKV K S0 kvs xs → ItOk K (fun _ => False) (mk d ob kvs) ys S0 H0)
    (Inv : Nat → DEnv → Prop) (h0 : Inv 0 δ) (hs : ∀ (i : Nat) x δ', ys[i]? = some x → Inv i δ' → Tg W K g x δ' fun δ2 => Sd W K tb δ2 { D with nx := fun W' δ' => Wle W' W ∧ Inv (i + 1) δ', ct := fun W' δ' => Wle W' W ∧ Inv (i + 1) δ', bk := D.nx }) (hd : ∀ δ', Inv ys.length δ' → D.nx W δ') :
    Sd W K (tLockO (tFor wi g tb)) δ D := fun O S H σ c E r => by
  obtain ⟨ov, e, v, ev, a, kvs, ea, ha, rv, nd⟩ := c.sl.2 i _ hi
  subst ev ea
  rcases c.g.sub a _ ha with h | ⟨hx, ob, h⟩
  · refine .inl ⟨a, _, h, trivial, fun od => ?_⟩
    have c1 := c.relock ha (.frz od (.dK kvs)) (.inr ⟨trivial, od, rfl⟩)
    refine hw σ _ _ a od kvs e upd_same (for_run (fun _ => W) (hm a od kvs S _ ha upd_same rv) c1 (E := ⟨_, _, _, _⟩) ⟨fun S' H' σ' δ' m c' q => ?_, fun S' H' σ' δ' m c' q => ?_, fun S' H' σ' δ' m c' q => ?_, fun v S' H' y m q p => ?_⟩ Inv h0 (fun i x δ' _ => hs i x δ') hd)
    · have k := Mo.unlock c.good h ha m
      exact ⟨k.1, r.nx S' _ σ' δ' k.2 (c'.relock (m.ex _ _ ha) _ (.inl rfl)) q⟩
    · have k := Mo.unlock c.good h ha m
      exact ⟨k.1, r.bk S' _ σ' δ' k.2 (c'.relock (m.ex _ _ ha) _ (.inl rfl)) q⟩
    · have k := Mo.unlock c.good h ha m
      exact ⟨k.1, r.ct S' _ σ' δ' k.2 (c'.relock (m.ex _ _ ha) _ (.inl rfl)) q⟩
    · have k := Mv.unlock c.good h ha m
      exact ⟨k.1, r.rt v S' _ y k.2 q p⟩
  · exact .inr (hw σ _ _ a ob kvs e h (for_run (fun _ => W) (hm a ob kvs S _ ha h rv) c r Inv h0 (fun i x δ' _ => hs i x δ') hd))
theorem sd_forKeys {xs : List (κ × α)} (hi : δ[i]? = some (sD (⟨xs⟩ : Dc κ α))) (Inv : Nat → DEnv → Prop) (h0 : Inv 0 δ)
    (hs : ∀ (i : Nat) x δ', (xs.map Prod.fst)[i]? = some x → Inv i δ' → Tg W K g x δ' fun δ2 => Sd W K tb δ2 { D with nx := fun W' δ' => Wle W' W ∧ Inv (i + 1) δ', ct := fun W' δ' => Wle W' W ∧ Inv (i + 1) δ', bk := D.nx }) (hd : ∀ δ', Inv xs.length δ' → D.nx W δ') :
    Sd W K (tLockO (tFor (iKeys (tVar i)) g tb)) δ D :=
  sd_forLock (mk := Itk) hi (fun σ H R d o kvs e h q => ⟨_, e, d, o, rfl, .inl ⟨kvs, h, q⟩⟩) (fun d ob kvs S0 H0 h1 h2 h3 => it_keys h1 h2 h3) Inv h0 hs (fun δ' q => hd δ' (by rw [List.length_map] at q; exact q))
theorem sd_forItems {xs : List (κ × α)} (hi : δ[i]? = some (sD (⟨xs⟩ : Dc κ α))) (Inv : Nat → DEnv → Prop) (h0 : Inv 0 δ)
    (hs : ∀ (i : Nat) x δ', xs[i]? = some x → Inv i δ' → Tg W K g x δ' fun δ2 => Sd W K tb δ2 { D with nx := fun W' δ' => Wle W' W ∧ Inv (i + 1) δ', ct := fun W' δ' => Wle W' W ∧ Inv (i + 1) δ', bk := D.nx }) (hd : ∀ δ', Inv xs.length δ' → D.nx W δ') :
    Sd W K (tLockO (tFor (iItems (tVar i)) g tb)) δ D :=
  sd_forLock (mk := Iti) hi (fun σ H R d o kvs e h q => ⟨_, e, d, o, kvs, rfl, h, q⟩) (fun d ob kvs S0 H0 h1 h2 h3 => it_items h1 h2 h3) Inv h0 hs hd
end

/-! ### comprehensions -/
def wipeD (δ : DEnv) : List Nat → DEnv
  | [] => δ
  | v :: vs => (wipeD δ vs).set v .non
theorem sl_none {K : Frag} {S H : Hp} {σ : L2.St} {δ : DEnv} (h : Sl K S H σ δ) (i : Nat) : Sl K S H (σ.set i none) (δ.set i .non) := by
  refine ⟨by rw [List.length_set, List.length_set]; exact h.1, fun j e hj => ?_⟩
  by_cases q : j = i
  · subst q
    rw [List.getElem?_set] at hj
    simp only [if_true] at hj
    split at hj
    · rename_i hl
      cases hj
      exact ⟨none, by rw [List.getElem?_set_self (by rw [h.1]; exact hl)], trivial⟩
    · cases hj
  · rw [List.getElem?_set_ne (Ne.symm q)] at hj ⊢
    exact h.2 j e hj
theorem own_none {σ : L2.St} {δ : DEnv} {i : Nat} {a : Addr} (h : OwnAt (σ.set i none) (δ.set i .non) a) : OwnAt σ δ a := by
  obtain ⟨j, e, h1, h2, h3⟩ := h
  by_cases hj : j = i
  · subst hj
    rw [List.getElem?_set] at h3
    simp only [if_true] at h3
    split at h3
    · cases h3
    · cases h3
  · rw [List.getElem?_set_ne (Ne.symm hj)] at h1 h3
    exact ⟨j, e, h1, h2, h3⟩
section
variable {W W1 W2 W3 W4 : Wd} {K : Frag} {O : Addr → Prop} {S H S1 H1 S2 H2 : Hp} {σ : L2.St} {δ : DEnv} {α β κ : Type} [Rep α] [Rep β] [DKey κ] {te tk tv : TE} {tt : TT} {wi : TI} {g : TG} {vs : List Nat}
theorem Stt.wipe (s : Stt W K O S H σ δ) : ∀ vs : List Nat, Stt W K O S H (wipe σ vs) (wipeD δ vs)
  | [] => s
  | v :: vs => by
    have k := Stt.wipe s vs
    exact ⟨k.g, sl_none k.sl v, fun a h => k.own a (own_none h)⟩
theorem Stt.set (s : Stt W K O S H σ δ) {i : Nat} {v : V} {x : α} (r : rep K S v x) : Stt W K O S H (σ.set i (some v)) (δ.set i (sD x)) :=
  ⟨s.g, s.sl.set (d := sD x) ⟨v, rfl, r⟩, fun a h => s.own a (own_set rfl h)⟩
/-- the target within a comprehension -/
def TgC {α : Type} [Rep α] (W : Wd) (K : Frag) (g : TG) (vs : List Nat) (x : α) (δ : DEnv) (N : DEnv → Prop) : Prop := ∀ O S H σ v, Stt W K O S H (L2.wipe σ vs) δ → rep K S v x → ∀ Q : L2.St → Hp → Prop,
  (∀ σ' δ', Stt W K O S H σ' δ' → L2.wipe σ' vs = L2.wipe σ vs → N δ' → Q σ' H) → g v (L2.wipe σ vs) H Q
theorem wipe_set {σ : L2.St} {i : Nat} {o : Option V} : ∀ {vs : List Nat}, i ∈ vs → L2.wipe (σ.set i o) vs = L2.wipe σ vs
  | v :: vs, h => by
    unfold L2.wipe
    by_cases e : i = v
    · subst e
      by_cases h2 : i ∈ vs
      · rw [wipe_set h2]
      · have c : ∀ {ws : List Nat}, i ∉ ws → L2.wipe (σ.set i o) ws = (L2.wipe σ ws).set i o := fun {ws} => by
          induction ws with
          | nil => intro _; rfl
          | cons w ws ih =>
            intro hw
            unfold L2.wipe
            rw [ih fun z => hw (List.mem_cons_of_mem _ z), List.set_comm]
            exact fun z => hw (by rw [z]; exact List.mem_cons_self)
        rw [c h2, List.set_set]
    · have h2 : i ∈ vs := by
        rcases List.mem_cons.mp h with z | z
        · exact absurd z e
        · exact z
      rw [wipe_set h2]
theorem wipe_idem : ∀ {vs : List Nat}, L2.wipe (L2.wipe σ vs) vs = L2.wipe σ vs := fun {vs} => by
  have c : ∀ {ws : List Nat}, (∀ w ∈ ws, w ∈ vs) → L2.wipe (L2.wipe σ ws) vs = L2.wipe σ vs := fun {ws} => by
    induction ws with
    | nil => intro _; rfl
    | cons w ws ih =>
      intro h
      show L2.wipe ((L2.wipe σ ws).set w none) vs = _
      rw [wipe_set (h w List.mem_cons_self), ih fun z hz => h z (List.mem_cons_of_mem _ hz)]
  exact c fun _ h => h
theorem tgc_name {x : α} {i : Nat} {N : DEnv → Prop} (h : N (δ.set i (sD x))) (hi : i ∈ vs := by decide) : TgC W K (gName i) vs x δ N := fun O S H σ v s r Q q =>
  q _ _ (s.set r) (by rw [wipe_set hi, wipe_idem]) h
theorem tgc_two {x : α × β} {i j : Nat} {N : DEnv → Prop} (h : N ((δ.set i (sD x.1)).set j (sD x.2))) (hi : i ∈ vs := by decide) (hj : j ∈ vs := by decide) : TgC W K (gTup K 2 (gCons (gName i) (gCons (gName j) gNil))) vs x δ N := fun O S H σ v s ⟨a, v1, v2, e, hs, r1, r2⟩ Q q => by
  subst e
  exact ⟨a, _, rfl, s.g.sub.sqT hs, rfl, v1, _, rfl, v2, [], rfl, rfl, q _ _ ((s.set r1).set r2) (by rw [wipe_set hj, wipe_set hi, wipe_idem]) h⟩
theorem tgc_three {γ : Type} [Rep γ] {x : T3 α β γ} {i j k : Nat} {N : DEnv → Prop} (h : N (((δ.set i (sD x.a)).set j (sD x.b)).set k (sD x.c))) (hi : i ∈ vs := by decide) (hj : j ∈ vs := by decide) (hk : k ∈ vs := by decide) :
    TgC W K (gTup K 3 (gCons (gName i) (gCons (gName j) (gCons (gName k) gNil)))) vs x δ N := fun O S H σ v s ⟨a, v1, v2, v3, e, hs, r1, r2, r3⟩ Q q => by
  subst e
  exact ⟨a, _, rfl, s.g.sub.sqT hs, rfl, v1, _, rfl, v2, _, rfl, v3, [], rfl, rfl, q _ _ (((s.set r1).set r2).set r3) (by rw [wipe_set hk, wipe_set hj, wipe_set hi, wipe_idem]) h⟩
theorem tgc_four {γ ζ : Type} [Rep γ] [Rep ζ] {x : T4 α β γ ζ} {i j k l : Nat} {N : DEnv → Prop} (h : N ((((δ.set i (sD x.a)).set j (sD x.b)).set k (sD x.c)).set l (sD x.d))) (hi : i ∈ vs := by decide) (hj : j ∈ vs := by decide) (hk : k ∈ vs := by decide) (hl : l ∈ vs := by decide) :
    TgC W K (gTup K 4 (gCons (gName i) (gCons (gName j) (gCons (gName k) (gCons (gName l) gNil))))) vs x δ N := fun O S H σ v s ⟨a, v1, v2, v3, v4, e, hs, r1, r2, r3, r4⟩ Q q => by
  subst e
  exact ⟨a, _, rfl, s.g.sub.sqT hs, rfl, v1, _, rfl, v2, _, rfl, v3, _, rfl, v4, [], rfl, rfl, q _ _ ((((s.set r1).set r2).set r3).set r4) (by rw [wipe_set hl, wipe_set hk, wipe_set hj, wipe_set hi, wipe_idem]) h⟩

end
end DW
set_option maxHeartbeats 4000000
namespace DW
open PySem PySem.Spec PyProof.Rows L2

theorem flat_reps {α : Type} [Flat α] {K : Frag} {S : Hp} : ∀ {vs : List V} {xs : List α}, Reps K S vs xs → vs = xs.map Flat.val
  | _, _, .nil => rfl
  | v :: vs, x :: xs, .cons r t => by
    have e : v = Flat.val x := Flat.flat.mp r
    rw [e, flat_reps t] <;> rfl
theorem reps_flat {α : Type} [Flat α] {K : Frag} {S : Hp} : ∀ {xs : List α}, Reps K S (xs.map Flat.val) xs
  | [] => .nil
  | x :: xs => .cons (Flat.flat.mpr rfl) reps_flat
theorem reps_cut {α : Type} [Rep α] {K : Frag} {S : Hp} : ∀ {vs : List V} {xs : List α} (n : Nat), Reps K S vs xs → Reps K S (vs.drop n) (xs.drop n)
  | _, _, 0, r => r
  | _, _, _ + 1, .nil => .nil
  | _, _, n + 1, .cons _ t => reps_cut n t
theorem reps_take {α : Type} [Rep α] {K : Frag} {S : Hp} : ∀ {vs : List V} {xs : List α} (n : Nat), Reps K S vs xs → Reps K S (vs.take n) (xs.take n)
  | _, _, 0, _ => .nil
  | _, _, _ + 1, .nil => .nil
  | _, _, n + 1, .cons r t => .cons r (reps_take n t)
theorem reps_app {α : Type} [Rep α] {K : Frag} {S : Hp} : ∀ {vs us : List V} {xs ys : List α}, Reps K S vs xs → Reps K S us ys → Reps K S (vs ++ us) (xs ++ ys)
  | _, _, _, _, .nil, t => t
  | _, _, _, _, .cons r s, t => .cons r (reps_app s t)
theorem reps_rev {α : Type} [Rep α] {K : Frag} {S : Hp} : ∀ {vs : List V} {xs : List α}, Reps K S vs xs → Reps K S vs.reverse xs.reverse
  | _, _, .nil => .nil
  | v :: vs, x :: xs, .cons r s => by
    rw [List.reverse_cons, List.reverse_cons]
    exact reps_app (reps_rev s) (.cons r .nil)
/-- xs[lo:hi] -/
def cutL {α : Type} (xs : List α) (lo hi : Option Int) : List α := (xs.drop (HT.sIx xs.length 0 lo)).take (HT.sIx xs.length xs.length hi - HT.sIx xs.length 0 lo)
theorem reps_sl {α : Type} [Rep α] {K : Frag} {S : Hp} {vs : List V} {xs : List α} (lo hi : Option Int) (r : Reps K S vs xs) : Reps K S (cutV vs lo hi) (cutL xs lo hi) := by
  unfold cutV cutL
  rw [reps_len r]
  exact reps_take _ (reps_cut _ r)

section
variable {W W1 W2 W3 W4 : Wd} {K : Frag} {O : Addr → Prop} {S H S1 H1 S2 H2 : Hp} {σ : L2.St} {δ : DEnv} {α β γ κ : Type} [Rep α] [Rep β] [Rep γ] [DKey κ] {te ta tb tc : TE} {tr : TA} {tl th : TO}
/-! ### len, sum, max, min, all, any -/
theorem ev_lenC {P : Int → Prop} {r0 : List V → Hp → VK → Prop} (inc : ∀ {xs H Q}, (fun xs H Q => ∃ p ys, xs = [.ref p] ∧ (SqL K H p ys ∨ SqT K H p ys) ∧ Q (.int ys.length) H) xs H Q → r0 xs H Q) (h : EvC W W1 K ta δ fun xs : List α => P (xs.length : Int)) : Ev W W1 K (tCB r0 (tCons ta tNil)) δ P := fun O S H σ s Q q =>
  h O S H σ s _ fun a vs S1 H1 xs m l r p => inc ⟨a, vs, rfl, .inl (l.sq m.good.sub), by rw [reps_len r]; exact q _ S1 H1 _ m rfl p⟩
theorem ev_lenT {P : Int → Prop} {r0 : List V → Hp → VK → Prop} (inc : ∀ {xs H Q}, (fun xs H Q => ∃ p ys, xs = [.ref p] ∧ (SqL K H p ys ∨ SqT K H p ys) ∧ Q (.int ys.length) H) xs H Q → r0 xs H Q) (h : Ev W W1 K ta δ fun t : Tp α => P (t.l.length : Int)) : Ev W W1 K (tCB r0 (tCons ta tNil)) δ P := fun O S H σ s Q q =>
  h O S H σ s _ fun v S1 H1 t m hr p => by
    obtain ⟨a, vs, e, ha, r⟩ := hr
    subst e
    exact inc ⟨a, vs, rfl, .inr (m.good.sub.sqT ha), by rw [reps_len r]; exact q _ S1 H1 _ m rfl p⟩
theorem ev_lenT2 {P : Int → Prop} {r0 : List V → Hp → VK → Prop} (inc : ∀ {xs H Q}, (fun xs H Q => ∃ p ys, xs = [.ref p] ∧ (SqL K H p ys ∨ SqT K H p ys) ∧ Q (.int ys.length) H) xs H Q → r0 xs H Q) (h : Ev W W1 K ta δ fun t : α × β => P 2) : Ev W W1 K (tCB r0 (tCons ta tNil)) δ P := fun O S H σ s Q q =>
  h O S H σ s _ fun v S1 H1 t m hr p => by
    obtain ⟨a, v1, v2, e, ha, r⟩ := hr
    subst e
    exact inc ⟨a, _, rfl, .inr (m.good.sub.sqT ha), q _ S1 H1 _ m rfl p⟩
theorem ev_lenT4 {α' β' γ' δ' : Type} [Rep α'] [Rep β'] [Rep γ'] [Rep δ'] {P : Int → Prop} {r0 : List V → Hp → VK → Prop} (inc : ∀ {xs H Q}, (fun xs H Q => ∃ p ys, xs = [.ref p] ∧ (SqL K H p ys ∨ SqT K H p ys) ∧ Q (.int ys.length) H) xs H Q → r0 xs H Q) (h : Ev W W1 K ta δ fun t : T4 α' β' γ' δ' => P 4) : Ev W W1 K (tCB r0 (tCons ta tNil)) δ P := fun O S H σ s Q q =>
  h O S H σ s _ fun v S1 H1 t m hr p => by
    obtain ⟨a, v1, v2, v3, v4, e, ha, r⟩ := hr
    subst e
    exact inc ⟨a, _, rfl, .inr (m.good.sub.sqT ha), q _ S1 H1 _ m rfl p⟩
theorem ev_lenS {P : Int → Prop} {r0 : List V → Hp → VK → Prop} (inc : ∀ {xs H Q}, (fun xs H Q => ∃ z, xs = [.str z] ∧ z.length ≤ sizeLine ∧ Q (.int z.length) H) xs H Q → r0 xs H Q) (h : Ev W W1 K ta δ fun t : Str => t.length ≤ 100000 ∧ P (t.length : Int)) : Ev W W1 K (tCB r0 (tCons ta tNil)) δ P := fun O S H σ s Q q =>
  h O S H σ s _ fun v S1 H1 t m r p => inc ⟨t, congrArg (fun z => [z]) r, small_len p.1, q _ S1 H1 _ m rfl p.2⟩
theorem ev_lenD {P : Int → Prop} {r0 : List V → Hp → VK → Prop} (inc : ∀ {xs H Q}, (fun xs H Q => ∃ a kvs, xs = [V.ref a] ∧ Rd H a (.dK kvs) ∧ Q (.int kvs.length) H) xs H Q → r0 xs H Q) (h : EvCD W W1 K ta δ fun xs : List (κ × α) => P (xs.length : Int)) : Ev W W1 K (tCB r0 (tCons ta tNil)) δ P := fun O S H σ s Q q =>
  h O S H σ s _ fun a kvs S1 H1 xs m l r nd p => inc ⟨a, kvs, rfl, l.rd m.good.sub, by rw [repkv_len r]; exact q _ S1 H1 _ m rfl p⟩
theorem ev_sum {P : Int → Prop} (h : EvC W W1 K ta δ fun xs : List Int => P xs.sum) : Ev W W1 K (tCB (rSum K) (tCons ta tNil)) δ P := fun O S H σ s Q q =>
  h O S H σ s _ fun a vs S1 H1 xs m l r p => ⟨a, xs, rfl, by rw [show xs.map V.int = vs from (flat_reps r).symm]; exact l.sq m.good.sub, q _ S1 H1 _ m rfl p⟩
theorem ev_max {P : Int → Prop} (h : EvC W W1 K ta δ fun xs : List Int => 0 < xs.length ∧ ∀ m, m ∈ xs → (∀ y, y ∈ xs → y ≤ m) → P m) : Ev W W1 K (tCB (rMax K) (tCons ta tNil)) δ P := fun O S H σ s Q q =>
  h O S H σ s _ fun a vs S1 H1 xs m l r p => ⟨a, xs, rfl, by rw [show xs.map V.int = vs from (flat_reps r).symm]; exact l.sq m.good.sub, p.1, fun z h1 h2 => q _ S1 H1 _ m rfl (p.2 z h1 h2)⟩
theorem ev_min {P : Int → Prop} (h : EvC W W1 K ta δ fun xs : List Int => 0 < xs.length ∧ ∀ m, m ∈ xs → (∀ y, y ∈ xs → m ≤ y) → P m) : Ev W W1 K (tCB (rMin K) (tCons ta tNil)) δ P := fun O S H σ s Q q =>
  h O S H σ s _ fun a vs S1 H1 xs m l r p => ⟨a, xs, rfl, by rw [show xs.map V.int = vs from (flat_reps r).symm]; exact l.sq m.good.sub, p.1, fun z h1 h2 => q _ S1 H1 _ m rfl (p.2 z h1 h2)⟩
theorem ev_all {P : Bool → Prop} (h : EvC W W1 K ta δ fun xs : List Bool => P (xs.all id)) : Ev W W1 K (tCB (rAll K) (tCons ta tNil)) δ P := fun O S H σ s Q q =>
  h O S H σ s _ fun a vs S1 H1 xs m l r p => ⟨a, xs, rfl, by rw [show xs.map V.bl = vs from (flat_reps r).symm]; exact l.sq m.good.sub, q _ S1 H1 _ m rfl p⟩
theorem ev_any {P : Bool → Prop} (h : EvC W W1 K ta δ fun xs : List Bool => P (xs.any id)) : Ev W W1 K (tCB (rAny K) (tCons ta tNil)) δ P := fun O S H σ s Q q =>
  h O S H σ s _ fun a vs S1 H1 xs m l r p => ⟨a, xs, rfl, by rw [show xs.map V.bl = vs from (flat_reps r).symm]; exact l.sq m.good.sub, q _ S1 H1 _ m rfl p⟩
theorem ev_abs {P : Int → Prop} (h : Ev W W1 K ta δ fun i : Int => P (if i < 0 then -i else i)) : Ev W W1 K (tCB (fun xs H Q => ∃ i, xs = [.int i] ∧ Q (.int (if i < 0 then -i else i)) H) (tCons ta tNil)) δ P := fun O S H σ s Q q =>
  h O S H σ s _ fun v S1 H1 t m r p => ⟨t, congrArg (fun z => [z]) r, q _ S1 H1 _ m rfl p⟩
theorem ev_toint {P : Int → Prop} (h : Ev W W1 K ta δ P) : Ev W W1 K (tCB (fun xs H Q => (∃ i, xs = [.int i] ∧ Q (.int i) H) ∨ ∃ k, xs = [.bl k] ∧ Q (.int (if k then 1 else 0)) H) (tCons ta tNil)) δ P := fun O S H σ s Q q =>
  h O S H σ s _ fun v S1 H1 t m r p => .inl ⟨t, congrArg (fun z => [z]) r, q _ S1 H1 _ m rfl p⟩
theorem ev_btoint {P : Int → Prop} (h : Ev W W1 K ta δ fun b : Bool => P (if b then 1 else 0)) : Ev W W1 K (tCB (fun xs H Q => (∃ i, xs = [.int i] ∧ Q (.int i) H) ∨ ∃ k, xs = [.bl k] ∧ Q (.int (if k then 1 else 0)) H) (tCons ta tNil)) δ P := fun O S H σ s Q q =>
  h O S H σ s _ fun v S1 H1 t m r p => .inr ⟨t, congrArg (fun z => [z]) r, q _ S1 H1 _ m rfl p⟩
theorem ev_call2 {P : Int → Prop} {f : Int → Int → Int} (h : Ev W W1 K ta δ fun i : Int => Ev W1 W2 K tb δ fun j : Int => P (f i j)) : Ev W W2 K (tCB (fun xs H Q => ∃ i j, xs = [.int i, .int j] ∧ Q (.int (f i j)) H) (tCons ta (tCons tb tNil))) δ P := fun O S H σ s Q q =>
  h O S H σ s _ fun v S1 H1 x m r p => p O S1 H1 σ (s.mv m) _ fun u S2 H2 y m2 r2 p2 => by
    obtain rfl : v = .int x := r
    obtain rfl : u = .int y := r2
    exact ⟨x, y, rfl, q _ S2 H2 _ (m.trans m2) rfl p2⟩
theorem ev_min2 {P : Int → Prop} (h : Ev W W1 K ta δ fun i : Int => Ev W1 W2 K tb δ fun j : Int => P (if j < i then j else i)) : Ev W W2 K (tCB (fun xs H Q => ∃ i j, xs = [.int i, .int j] ∧ Q (.int (if j < i then j else i)) H) (tCons ta (tCons tb tNil))) δ P := ev_call2 (f := fun i j => if j < i then j else i) h
theorem ev_max2 {P : Int → Prop} (h : Ev W W1 K ta δ fun i : Int => Ev W1 W2 K tb δ fun j : Int => P (if j > i then j else i)) : Ev W W2 K (tCB (fun xs H Q => ∃ i j, xs = [.int i, .int j] ∧ Q (.int (if j > i then j else i)) H) (tCons ta (tCons tb tNil))) δ P := ev_call2 (f := fun i j => if j > i then j else i) h

/-! ### subscripts, slices -/
theorem atI_at {α : Type} {xs : List α} {i : Int} {x : α} (h : atI xs i = some x) : ∃ j : Nat, xs[j]? = some x ∧ (∀ {β : Type} {ys : List β}, ys.length = xs.length → atI ys i = ys[j]?) := by
  unfold atI at h
  cases e : ixN xs.length i with
  | none =>
    rw [e] at h
    cases h
  | some j =>
    rw [e] at h
    refine ⟨j, h, fun {β ys} el => ?_⟩
    unfold atI
    rw [el, e] <;> rfl
theorem ev_ixL {P : α → Prop} {r0 : R2} (inc : ∀ {x y H Q}, (rIxL K) x y H Q → r0 x y H Q) (h : EvC W W1 K ta δ fun xs : List α => Ev W1 W2 K tb δ fun i : Int => ∃ x, atI xs i = some x ∧ P x) : Ev W W2 K (tOp r0 ta tb) δ P := fun O S H σ s Q q =>
  h O S H σ s _ fun a vs S1 H1 xs m l r p => p O S1 H1 σ (s.mv m) _ fun u S2 H2 i m2 r2 p2 => by
    obtain rfl : u = .int i := r2
    obtain ⟨x, hx, px⟩ := p2
    obtain ⟨j, hj, hb⟩ := atI_at hx
    have r' := Reps.mono m2.ex r
    obtain ⟨v, hv, rv⟩ := Paired.at r' hj
    exact inc ⟨a, vs, i, v, rfl, rfl, (l.mv m2).sq m2.good.sub, (hb (reps_len r')).trans hv, q v S2 H2 x (m.trans m2) rv px⟩
theorem ev_ixT {P : α → Prop} {r0 : R2} (inc : ∀ {x y H Q}, (rIxT K) x y H Q → r0 x y H Q) (h : Ev W W1 K ta δ fun t : Tp α => Ev W1 W2 K tb δ fun i : Int => ∃ x, atI t.l i = some x ∧ P x) : Ev W W2 K (tOp r0 ta tb) δ P := fun O S H σ s Q q =>
  h O S H σ s _ fun v0 S1 H1 t m hr p => p O S1 H1 σ (s.mv m) _ fun u S2 H2 i m2 r2 p2 => by
    obtain ⟨a, vs, e, ha, r⟩ := hr
    subst e
    obtain rfl : u = .int i := r2
    obtain ⟨x, hx, px⟩ := p2
    obtain ⟨j, hj, hb⟩ := atI_at hx
    have r' := Reps.mono m2.ex r
    obtain ⟨v, hv, rv⟩ := Paired.at r' hj
    exact inc ⟨a, vs, i, v, rfl, rfl, m2.good.sub.sqT (m2.ex.sqT ha), (hb (reps_len r')).trans hv, q v S2 H2 x (m.trans m2) rv px⟩
theorem ev_p0 {P : α → Prop} {r0 : R2} (inc : ∀ {x y H Q}, (rIxT K) x y H Q → r0 x y H Q) (h : Ev W W1 K ta δ fun t : α × β => P t.1) : Ev W W1 K (tOp r0 ta (tC (.int 0))) δ P := fun O S H σ s Q q =>
  h O S H σ s _ fun v S1 H1 t m hr p => by
    obtain ⟨a, v1, v2, e, ha, r1, r2⟩ := hr
    subst e
    exact inc ⟨a, _, 0, v1, rfl, rfl, m.good.sub.sqT ha, rfl, q v1 S1 H1 _ m r1 p⟩
theorem ev_p1 {P : β → Prop} {r0 : R2} (inc : ∀ {x y H Q}, (rIxT K) x y H Q → r0 x y H Q) (h : Ev W W1 K ta δ fun t : α × β => P t.2) : Ev W W1 K (tOp r0 ta (tC (.int 1))) δ P := fun O S H σ s Q q =>
  h O S H σ s _ fun v S1 H1 t m hr p => by
    obtain ⟨a, v1, v2, e, ha, r1, r2⟩ := hr
    subst e
    exact inc ⟨a, _, 1, v2, rfl, rfl, m.good.sub.sqT ha, rfl, q v2 S1 H1 _ m r2 p⟩
theorem ev_t30 {P : α → Prop} {r0 : R2} (inc : ∀ {x y H Q}, (rIxT K) x y H Q → r0 x y H Q) (h : Ev W W1 K ta δ fun t : T3 α β γ => P t.a) : Ev W W1 K (tOp r0 ta (tC (.int 0))) δ P := fun O S H σ s Q q =>
  h O S H σ s _ fun v S1 H1 t m hr p => by
    obtain ⟨a, v1, v2, v3, e, ha, r1, r2, r3⟩ := hr
    subst e
    exact inc ⟨a, _, 0, v1, rfl, rfl, m.good.sub.sqT ha, rfl, q v1 S1 H1 _ m r1 p⟩
theorem ev_t31 {P : β → Prop} {r0 : R2} (inc : ∀ {x y H Q}, (rIxT K) x y H Q → r0 x y H Q) (h : Ev W W1 K ta δ fun t : T3 α β γ => P t.b) : Ev W W1 K (tOp r0 ta (tC (.int 1))) δ P := fun O S H σ s Q q =>
  h O S H σ s _ fun v S1 H1 t m hr p => by
    obtain ⟨a, v1, v2, v3, e, ha, r1, r2, r3⟩ := hr
    subst e
    exact inc ⟨a, _, 1, v2, rfl, rfl, m.good.sub.sqT ha, rfl, q v2 S1 H1 _ m r2 p⟩
theorem ev_t32 {P : γ → Prop} {r0 : R2} (inc : ∀ {x y H Q}, (rIxT K) x y H Q → r0 x y H Q) (h : Ev W W1 K ta δ fun t : T3 α β γ => P t.c) : Ev W W1 K (tOp r0 ta (tC (.int 2))) δ P := fun O S H σ s Q q =>
  h O S H σ s _ fun v S1 H1 t m hr p => by
    obtain ⟨a, v1, v2, v3, e, ha, r1, r2, r3⟩ := hr
    subst e
    exact inc ⟨a, _, 2, v3, rfl, rfl, m.good.sub.sqT ha, rfl, q v3 S1 H1 _ m r3 p⟩
section
variable {ζ : Type} [Rep ζ]
theorem ev_t40 {P : α → Prop} {r0 : R2} (inc : ∀ {x y H Q}, (rIxT K) x y H Q → r0 x y H Q) (h : Ev W W1 K ta δ fun t : T4 α β γ ζ => P t.a) : Ev W W1 K (tOp r0 ta (tC (.int 0))) δ P := fun O S H σ s Q q =>
  h O S H σ s _ fun v S1 H1 t m hr p => by
    obtain ⟨a, v1, v2, v3, v4, e, ha, r1, r2, r3, r4⟩ := hr
    subst e
    exact inc ⟨a, _, 0, v1, rfl, rfl, m.good.sub.sqT ha, rfl, q v1 S1 H1 _ m r1 p⟩
theorem ev_t41 {P : β → Prop} {r0 : R2} (inc : ∀ {x y H Q}, (rIxT K) x y H Q → r0 x y H Q) (h : Ev W W1 K ta δ fun t : T4 α β γ ζ => P t.b) : Ev W W1 K (tOp r0 ta (tC (.int 1))) δ P := fun O S H σ s Q q =>
  h O S H σ s _ fun v S1 H1 t m hr p => by
    obtain ⟨a, v1, v2, v3, v4, e, ha, r1, r2, r3, r4⟩ := hr
    subst e
    exact inc ⟨a, _, 1, v2, rfl, rfl, m.good.sub.sqT ha, rfl, q v2 S1 H1 _ m r2 p⟩
theorem ev_t42 {P : γ → Prop} {r0 : R2} (inc : ∀ {x y H Q}, (rIxT K) x y H Q → r0 x y H Q) (h : Ev W W1 K ta δ fun t : T4 α β γ ζ => P t.c) : Ev W W1 K (tOp r0 ta (tC (.int 2))) δ P := fun O S H σ s Q q =>
  h O S H σ s _ fun v S1 H1 t m hr p => by
    obtain ⟨a, v1, v2, v3, v4, e, ha, r1, r2, r3, r4⟩ := hr
    subst e
    exact inc ⟨a, _, 2, v3, rfl, rfl, m.good.sub.sqT ha, rfl, q v3 S1 H1 _ m r3 p⟩
theorem ev_t43 {P : ζ → Prop} {r0 : R2} (inc : ∀ {x y H Q}, (rIxT K) x y H Q → r0 x y H Q) (h : Ev W W1 K ta δ fun t : T4 α β γ ζ => P t.d) : Ev W W1 K (tOp r0 ta (tC (.int 3))) δ P := fun O S H σ s Q q =>
  h O S H σ s _ fun v S1 H1 t m hr p => by
    obtain ⟨a, v1, v2, v3, v4, e, ha, r1, r2, r3, r4⟩ := hr
    subst e
    exact inc ⟨a, _, 3, v4, rfl, rfl, m.good.sub.sqT ha, rfl, q v4 S1 H1 _ m r4 p⟩
/-- t[:3] of four -/
theorem ev_t4cut {P : T3 α β γ → Prop} {r0 : V → Option Int → Option Int → Hp → VK → Prop} (inc : ∀ {x l h H Q}, (rSlA K) x l h H Q → r0 x l h H Q) (h : Ev W W1 K ta δ fun t : T4 α β γ ζ => P ⟨t.a, t.b, t.c⟩) : Ev W W1 K (tSl r0 ta tNoPart (tPart (tC (.int 3)))) δ P := fun O S H σ s Q q =>
  h O S H σ s _ fun v S1 H1 t m hr p => by
    obtain ⟨a, v1, v2, v3, v4, e, ha, r1, r2, r3, r4⟩ := hr
    subst e
    refine ⟨3, rfl, inc ⟨a, _, rfl, m.good.sub.sqT ha, fun z => absurd z.2 (show ¬ ((3 : Nat) = 4) by decide), fun _ b hb => q _ (upd S1 b (.tup [v1, v2, v3])) _ _ (m.trans (Mv.new m.good hb)) ?_ p⟩⟩
    have ex := Ex.upd (o := .tup [v1, v2, v3]) (m.good.sub.nn hb)
    exact ⟨b, v1, v2, v3, rfl, .inl (.inl upd_same), Rep.mono ex r1, Rep.mono ex r2, Rep.mono ex r3⟩
/-- a triple and (x,) -/
theorem ev_cat31 {P : T4 α β γ ζ → Prop} {r0 : R2} (inc : ∀ {x y H Q}, (rCatA K) x y H Q → r0 x y H Q) (h : Ev W W1 K ta δ fun t : T3 α β γ => Ev W1 W2 K tb δ fun u : Tp ζ => ∃ x, u.l = [x] ∧ P ⟨t.a, t.b, t.c, x⟩) : Ev W W2 K (tOp r0 ta tb) δ P := fun O S H σ s Q q =>
  h O S H σ s _ fun v S1 H1 t m hr p => p O S1 H1 σ (s.mv m) _ fun u S2 H2 w m2 hr2 p2 => by
    obtain ⟨a, v1, v2, v3, e, ha, r1, r2, r3⟩ := hr
    subst e
    obtain ⟨b, us, e, hb, r4⟩ := hr2
    subst e
    obtain ⟨x, ex, px⟩ := p2
    rw [ex] at r4
    cases r4 with
    | cons r4 rn =>
      cases rn
      rename_i v4
      refine inc ⟨a, b, _, _, rfl, rfl, m2.good.sub.sqT (m2.ex.sqT ha), m2.good.sub.sqT hb, (by show 4 ≤ sizeLine; decide), (fun z => nomatch z), (fun _ z => nomatch z), fun _ _ c hc => q _ (upd S2 c (.tup [v1, v2, v3, v4])) _ _ ((m.trans m2).trans (Mv.new m2.good hc)) ?_ px⟩
      have ex := Ex.upd (o := .tup [v1, v2, v3, v4]) (m2.good.sub.nn hc)
      exact ⟨c, v1, v2, v3, v4, rfl, .inl (.inl upd_same), Rep.mono (m2.ex.trans ex) r1, Rep.mono (m2.ex.trans ex) r2, Rep.mono (m2.ex.trans ex) r3, Rep.mono ex r4⟩
end
/-- t[:2] of three -/
theorem ev_t3cut {P : α × β → Prop} {r0 : V → Option Int → Option Int → Hp → VK → Prop} (inc : ∀ {x l h H Q}, (rSlA K) x l h H Q → r0 x l h H Q) (h : Ev W W1 K ta δ fun t : T3 α β γ => P (t.a, t.b)) : Ev W W1 K (tSl r0 ta tNoPart (tPart (tC (.int 2)))) δ P := fun O S H σ s Q q =>
  h O S H σ s _ fun v S1 H1 t m hr p => by
    obtain ⟨a, v1, v2, v3, e, ha, r1, r2, r3⟩ := hr
    subst e
    refine ⟨2, rfl, inc ⟨a, _, rfl, m.good.sub.sqT ha, fun z => absurd z.2 (show ¬ ((2 : Nat) = 3) by decide), fun _ b hb => q _ (upd S1 b (.tup [v1, v2])) _ _ (m.trans (Mv.new m.good hb)) ?_ p⟩⟩
    have ex := Ex.upd (o := .tup [v1, v2]) (m.good.sub.nn hb)
    exact ⟨b, v1, v2, rfl, .inl (.inl upd_same), Rep.mono ex r1, Rep.mono ex r2⟩
def EvO (W W' : Wd) (K : Frag) (to : TO) (δ : DEnv) (P : Option Int → Prop) : Prop := ∀ O S H σ, Stt W K O S H σ δ → ∀ Q : Option Int → Hp → Prop, (∀ S' H' o, Mv W' O S H S' H' → P o → Q o H') → to σ H Q
theorem eo_none {P : Option Int → Prop} (p : P none) : EvO W W K tNoPart δ P := fun O S H σ s Q q => q S H none (Mv.refl s.g) p
theorem eo_some {P : Option Int → Prop} (h : Ev W W1 K te δ fun i : Int => P (some i)) : EvO W W1 K (tPart te) δ P := fun O S H σ s Q q => h O S H σ s _ fun v S1 H1 i m r p => ⟨i, r, q S1 H1 _ m p⟩
theorem ef_sl {P : List α → Prop} {r0 : V → Option Int → Option Int → Hp → VK → Prop} (inc : ∀ {x l h H Q}, (rSlL K) x l h H Q → r0 x l h H Q) (h : EvC W W1 K ta δ fun xs : List α => EvO W1 W2 K tl δ fun lo => EvO W2 W3 K th δ fun hi => P (cutL xs lo hi)) : EvF W W3 K (tSl r0 ta tl th) δ P := fun O S H σ s Q q =>
  h O S H σ s _ fun a vs S1 H1 xs m l r p => p O S1 H1 σ (s.mv m) _ fun S2 H2 lo m2 p2 => p2 O S2 H2 σ ((s.mv m).mv m2) _ fun S3 H3 hi m3 p3 => by
    have m4 := (m.trans m2).trans m3
    exact inc ⟨a, vs, rfl, ((l.mv m2).mv m3).sq m3.good.sub, fun c hc => q c _ S3 _ _ (m4.trans (Mv.temp m4.good hc)) (Fresh.new m4.good hc) (reps_sl lo hi ((r.mono m2.ex).mono m3.ex)) p3⟩
theorem ev_slT {P : Tp α → Prop} {r0 : V → Option Int → Option Int → Hp → VK → Prop} (inc : ∀ {x l h H Q}, (rSlA K) x l h H Q → r0 x l h H Q) (h : Ev W W1 K ta δ fun t : Tp α => EvO W1 W2 K tl δ fun lo => EvO W2 W3 K th δ fun hi => P ⟨cutL t.l lo hi⟩) : Ev W W3 K (tSl r0 ta tl th) δ P := fun O S H σ s Q q =>
  h O S H σ s _ fun v S1 H1 t m hr p => p O S1 H1 σ (s.mv m) _ fun S2 H2 lo m2 p2 => p2 O S2 H2 σ ((s.mv m).mv m2) _ fun S3 H3 hi m3 p3 => by
    obtain ⟨a, vs, e, ha, r⟩ := hr
    subst e
    have m4 := (m.trans m2).trans m3
    have r3 : Reps K S3 vs t.l := (r.mono m2.ex).mono m3.ex
    have ha3 := m3.ex.sqT (m2.ex.sqT ha)
    refine inc ⟨a, vs, rfl, m4.good.sub.sqT ha3, fun z => ?_, fun _ c hc => ?_⟩
    · refine q _ S3 H3 ⟨cutL t.l lo hi⟩ m4 ⟨a, vs, rfl, ha3, ?_⟩ p3
      have e : cutL t.l lo hi = t.l := by
        unfold cutL
        rw [← reps_len r3, z.1, z.2, Nat.sub_zero, List.drop_zero, reps_len r3, List.take_length]
      show Reps K S3 vs (cutL t.l lo hi)
      rw [e]
      exact r3
    · exact q _ (upd S3 c (.tup (cutV vs lo hi))) _ ⟨cutL t.l lo hi⟩ (m4.trans (Mv.new m4.good hc)) ⟨c, _, rfl, .inl (.inl upd_same), (reps_sl lo hi r3).mono (Ex.upd (m4.good.sub.nn hc))⟩ p3
theorem ef_revL {P : List α → Prop} (h : EvC W W1 K ta δ fun xs : List α => P xs.reverse) : EvF W W1 K (tRevL K ta) δ P := fun O S H σ s Q q =>
  h O S H σ s _ fun a vs S1 H1 xs m l r p => ⟨a, vs, rfl, l.sq m.good.sub, fun c hc => q c _ S1 _ _ (m.trans (Mv.temp m.good hc)) (Fresh.new m.good hc) (reps_rev r) p⟩

/-! ### list(..), tuple(..), +, in -/
theorem ef_listC {P : List α → Prop} {r0 : List V → Hp → VK → Prop} (inc : ∀ {xs H Q}, (fun xs H Q => ∃ p ys, xs = [.ref p] ∧ (SqL K H p ys ∨ SqT K H p ys) ∧ ∀ l, H l = none → Q (.ref l) (upd H l (.lst ys))) xs H Q → r0 xs H Q) (h : EvC W W1 K ta δ P) : EvF W W1 K (tCB r0 (tCons ta tNil)) δ P := fun O S H σ s Q q =>
  h O S H σ s _ fun a vs S1 H1 xs m l r p => inc ⟨a, vs, rfl, .inl (l.sq m.good.sub), fun c hc => q c _ S1 _ _ (m.trans (Mv.temp m.good hc)) (Fresh.new m.good hc) r p⟩
theorem ev_tupleC {P : Tp α → Prop} (h : EvC W W1 K ta δ fun xs => P ⟨xs⟩) : Ev W W1 K (tCB (fun xs H Q => ∃ p ys, xs = [.ref p] ∧ ((SqL K H p ys ∧ ∀ l, H l = none → Q (.ref l) (upd H l (.tup ys))) ∨ (SqT K H p ys ∧ Q (.ref p) H))) (tCons ta tNil)) δ P := fun O S H σ s Q q =>
  h O S H σ s _ fun a vs S1 H1 xs m l r p => ⟨a, vs, rfl, .inl ⟨l.sq m.good.sub, fun c hc => q _ (upd S1 c (.tup vs)) _ ⟨xs⟩ (m.trans (Mv.new m.good hc)) ⟨c, vs, rfl, .inl (.inl upd_same), r.mono (Ex.upd (m.good.sub.nn hc))⟩ p⟩⟩
theorem ef_cat {P : List α → Prop} {r0 : R2} (inc : ∀ {x y H Q}, (rCat) x y H Q → r0 x y H Q) (h : EvC W W1 K ta δ fun xs : List α => EvC W1 W2 K tb δ fun ys : List α => xs.length + ys.length ≤ 100000 ∧ P (xs ++ ys)) : EvF W W2 K (tOp r0 ta tb) δ P := fun O S H σ s Q q =>
  h O S H σ s _ fun a vs S1 H1 xs m l r p => p O S1 H1 σ (s.mv m) _ fun b us S2 H2 ys m2 l2 r2 p2 => by
    have r' : Reps K S2 vs xs := r.mono m2.ex
    have m4 := m.trans m2
    exact inc ⟨a, b, vs, us, rfl, rfl, (l.mv m2).lst m2.good.sub, l2.lst m2.good.sub, by rw [reps_len r', reps_len r2]; exact small_len p2.1, fun c hc => q c _ S2 _ _ (m4.trans (Mv.temp m4.good hc)) (Fresh.new m4.good hc) (reps_app r' r2) p2.2⟩
theorem ev_catT {P : Tp α → Prop} {r0 : R2} (inc : ∀ {x y H Q}, (rCatA K) x y H Q → r0 x y H Q) (h : Ev W W1 K ta δ fun t : Tp α => Ev W1 W2 K tb δ fun u : Tp α => t.l.length + u.l.length ≤ 100000 ∧ P ⟨t.l ++ u.l⟩) : Ev W W2 K (tOp r0 ta tb) δ P := fun O S H σ s Q q =>
  h O S H σ s _ fun v S1 H1 t m hr p => p O S1 H1 σ (s.mv m) _ fun u S2 H2 w m2 hr2 p2 => by
    obtain ⟨a, vs, e, ha, r⟩ := hr
    subst e
    obtain ⟨b, us, e, hb, r2⟩ := hr2
    subst e
    have r' : Reps K S2 vs t.l := r.mono m2.ex
    have m4 := m.trans m2
    have ha2 := m2.ex.sqT ha
    refine inc ⟨a, b, vs, us, rfl, rfl, m2.good.sub.sqT ha2, m2.good.sub.sqT hb, by rw [reps_len r', reps_len r2]; exact small_len p2.1, fun z => ?_, fun z1 z2 => ?_, fun _ _ c hc => ?_⟩
    · subst z
      have e : t.l = [] := List.eq_nil_of_length_eq_zero (by rw [← reps_len r']; rfl)
      exact q _ S2 H2 ⟨t.l ++ w.l⟩ m4 ⟨b, us, rfl, hb, by rw [e]; exact r2⟩ p2.2
    · subst z2
      have e : w.l = [] := List.eq_nil_of_length_eq_zero (by rw [← reps_len r2]; rfl)
      exact q _ S2 H2 ⟨t.l ++ w.l⟩ m4 ⟨a, vs, rfl, ha2, by rw [e, List.append_nil]; exact r'⟩ p2.2
    · have ex := Ex.upd (o := .tup (vs ++ us)) (m4.good.sub.nn hc)
      exact q _ (upd S2 c (.tup (vs ++ us))) _ ⟨t.l ++ w.l⟩ (m4.trans (Mv.new m4.good hc)) ⟨c, _, rfl, .inl (.inl upd_same), (reps_app r' r2).mono ex⟩ p2.2
/-- a star in a display, a list -/
theorem es_star {P : List α → Prop} (h : EvC W W1 K te δ fun xs : List α => EvS W1 W2 K tr δ fun r : List α => P (xs ++ r)) : EvS W W2 K (StX.tStar K te tr) δ P := fun O S H σ s Q q =>
  h O S H σ s _ fun a vs S1 H1 xs m l r p => ⟨a, vs, rfl, .inr (l.sq m.good.sub), p O S1 H1 σ (s.mv m) _ fun us S2 H2 ys m2 r2 p2 => q (vs ++ us) S2 H2 (xs ++ ys) (m.trans m2) (reps_app (r.mono m2.ex) r2) p2⟩
theorem es_starT {P : List α → Prop} (h : Ev W W1 K te δ fun t : Tp α => EvS W1 W2 K tr δ fun r : List α => P (t.l ++ r)) : EvS W W2 K (StX.tStar K te tr) δ P := fun O S H σ s Q q =>
  h O S H σ s _ fun v S1 H1 t m hr p => by
    obtain ⟨a, vs, e, ha, r⟩ := hr
    subst e
    exact ⟨a, vs, rfl, .inl (m.good.sub.sqT ha), p O S1 H1 σ (s.mv m) _ fun us S2 H2 ys m2 r2 p2 => q (vs ++ us) S2 H2 (t.l ++ ys) (m.trans m2) (reps_app (r.mono m2.ex) r2) p2⟩
theorem inV_str {x : Str} : ∀ {xs : List Str}, inV (.str x) (xs.map V.str) = decide (x ∈ xs)
  | [] => rfl
  | y :: ys => by
    have ih := inV_str (x := x) (xs := ys)
    show (eqV (.str y) (.str x) || inV (.str x) (ys.map V.str)) = _
    rw [ih]
    show ((y == x) || decide (x ∈ ys)) = decide (x ∈ y :: ys)
    by_cases e : y = x
    · subst e
      simp
    · have e1 : (y == x) = false := by simpa using e
      rw [e1]
      have e2 : (x ∈ y :: ys) ↔ (x ∈ ys) := by
        constructor
        · intro h
          rcases List.mem_cons.mp h with z | z
          · exact absurd z.symm e
          · exact z
        · exact List.mem_cons_of_mem _
      simp [e2]
theorem inV_int {x : Int} : ∀ {xs : List Int}, inV (.int x) (xs.map V.int) = decide (x ∈ xs)
  | [] => rfl
  | y :: ys => by
    have ih := inV_int (x := x) (xs := ys)
    show (eqV (.int y) (.int x) || inV (.int x) (ys.map V.int)) = _
    rw [ih]
    show ((y == x) || decide (x ∈ ys)) = decide (x ∈ y :: ys)
    by_cases e : y = x
    · subst e
      simp
    · have e1 : (y == x) = false := by simpa using e
      rw [e1]
      have e2 : (x ∈ y :: ys) ↔ (x ∈ ys) := by
        constructor
        · intro h
          rcases List.mem_cons.mp h with z | z
          · exact absurd z.symm e
          · exact z
        · exact List.mem_cons_of_mem _
      simp [e2]
theorem flat_str {xs : List Str} : (xs.map V.str).all flatV = true := by simp [flatV]
theorem flat_int {xs : List Int} : (xs.map V.int).all flatV = true := by simp [flatV]
theorem ev_inLS {P : Bool → Prop} {n : Bool} {r0 : R2} (inc : ∀ {x y H Q}, (rIn K n) x y H Q → r0 x y H Q) (h : Ev W W1 K ta δ fun x : Str => EvC W1 W2 K tb δ fun xs : List Str => P (if n then !decide (x ∈ xs) else decide (x ∈ xs))) : Ev W W2 K (tOp r0 ta tb) δ P := fun O S H σ s Q q =>
  h O S H σ s _ fun v S1 H1 x m r p => p O S1 H1 σ (s.mv m) _ fun a vs S2 H2 xs m2 l r2 p2 => by
    obtain rfl : v = .str x := r
    have e : vs = xs.map V.str := flat_reps r2
    subst e
    exact inc ⟨a, _, rfl, .inl (l.sq m2.good.sub), rfl, flat_str, by rw [inV_str]; exact q _ S2 H2 _ (m.trans m2) rfl p2⟩
theorem ev_inTS {P : Bool → Prop} {n : Bool} {r0 : R2} (inc : ∀ {x y H Q}, (rIn K n) x y H Q → r0 x y H Q) (h : Ev W W1 K ta δ fun x : Str => Ev W1 W2 K tb δ fun t : Tp Str => P (if n then !decide (x ∈ t.l) else decide (x ∈ t.l))) : Ev W W2 K (tOp r0 ta tb) δ P := fun O S H σ s Q q =>
  h O S H σ s _ fun v S1 H1 x m r p => p O S1 H1 σ (s.mv m) _ fun u S2 H2 t m2 hr p2 => by
    obtain rfl : v = .str x := r
    obtain ⟨a, vs, e, ha, r2⟩ := hr
    subst e
    have e : vs = t.l.map V.str := flat_reps r2
    subst e
    exact inc ⟨a, _, rfl, .inr (m2.good.sub.sqT ha), rfl, flat_str, by rw [inV_str]; exact q _ S2 H2 _ (m.trans m2) rfl p2⟩
theorem ev_inLI {P : Bool → Prop} {n : Bool} {r0 : R2} (inc : ∀ {x y H Q}, (rIn K n) x y H Q → r0 x y H Q) (h : Ev W W1 K ta δ fun x : Int => EvC W1 W2 K tb δ fun xs : List Int => P (if n then !decide (x ∈ xs) else decide (x ∈ xs))) : Ev W W2 K (tOp r0 ta tb) δ P := fun O S H σ s Q q =>
  h O S H σ s _ fun v S1 H1 x m r p => p O S1 H1 σ (s.mv m) _ fun a vs S2 H2 xs m2 l r2 p2 => by
    obtain rfl : v = .int x := r
    have e : vs = xs.map V.int := flat_reps r2
    subst e
    exact inc ⟨a, _, rfl, .inl (l.sq m2.good.sub), rfl, flat_int, by rw [inV_int]; exact q _ S2 H2 _ (m.trans m2) rfl p2⟩
/-! ### is None -/
theorem ev_isN {P : Bool → Prop} {r0 : R2} (inc : ∀ {x y H Q}, (fun x y H Q => y = .non ∧ Q (.bl (decide (x = .non))) H) x y H Q → r0 x y H Q) (h : Ev W W1 K ta δ fun o : Option α => P o.isNone) : Ev W W1 K (tOp r0 ta (tC .non)) δ P := fun O S H σ s Q q =>
  h O S H σ s _ fun v S1 H1 o m r p => inc ⟨rfl, by
    cases o with
    | none =>
      have e : v = .non := r
      subst e
      exact q _ S1 H1 _ m rfl p
    | some x =>
      have e : decide (v = .non) = false := decide_eq_false r.1
      rw [e]
      exact q _ S1 H1 _ m rfl p⟩
theorem ev_notN {P : Bool → Prop} {r0 : R2} (inc : ∀ {x y H Q}, (fun x y H Q => y = .non ∧ Q (.bl (!decide (x = .non))) H) x y H Q → r0 x y H Q) (h : Ev W W1 K ta δ fun o : Option α => P o.isSome) : Ev W W1 K (tOp r0 ta (tC .non)) δ P := fun O S H σ s Q q =>
  h O S H σ s _ fun v S1 H1 o m r p => inc ⟨rfl, by
    cases o with
    | none =>
      have e : v = .non := r
      subst e
      exact q _ S1 H1 _ m rfl p
    | some x =>
      have e : decide (v = .non) = false := decide_eq_false r.1
      rw [e]
      exact q _ S1 H1 _ m rfl p⟩
/-- an optional one that is there -/
theorem ev_unO {P : α → Prop} (h : Ev W W1 K te δ fun o : Option α => ∃ x, o = some x ∧ P x) : Ev W W1 K te δ P := fun O S H σ s Q q => h O S H σ s Q fun v S1 H1 o m r ⟨x, e, p⟩ => by
  subst e
  exact q v S1 H1 x m r.2 p
/-! ### chains -/
theorem ev_chain {f g : Int → Int → Bool} {P : Bool → Prop} (h : Ev W W1 K ta δ fun i : Int => Ev W1 W2 K tb δ fun j : Int => (f i j = true → Ev W2 W3 K tc δ fun k : Int => P (g j k)) ∧ (f i j = false → P false)) (le : Wle W2 W3 := by exact Wle.refl _) :
    Ev W W3 K (tChain (rI0 fun i j => .bl (f i j)) (rI0 fun i j => .bl (g i j)) ta tb tc) δ P := fun O S H σ s Q q =>
  h O S H σ s _ fun v S1 H1 i m r p => p O S1 H1 σ (s.mv m) _ fun u S2 H2 j m2 r2 p2 => by
    obtain rfl : v = .int i := r
    obtain rfl : u = .int j := r2
    refine ⟨i, j, rfl, rfl, f i j, rfl, ?_⟩
    cases e : f i j with
    | true =>
      show tc σ H2 _
      exact p2.1 e O S2 H2 σ ((s.mv m).mv m2) _ fun w S3 H3 k m3 r3 p3 => ⟨j, k, rfl, r3, q _ S3 H3 _ ((m.trans m2).trans m3) rfl p3⟩
    | false =>
      show Q (.bl false) H2
      exact q _ S2 H2 _ ((m.trans m2).wle le) rfl (p2.2 e)
/-! ### isinstance -/
class PyTy (α : Type) extends Rep α where
  ty : String
  tyx : ∀ {K : Frag} {S H : Hp} {v : V} {x : α}, Sub S H → rep K S v x → TyX K H v (.type ty)
instance : PyTy Int where
  ty := "int"
  tyx := fun {K S H v x} _ h => by
    have e : v = .int x := h
    subst e
    exact .base (.int _)
instance : PyTy Bool where
  ty := "bool"
  tyx := fun {K S H v x} _ h => by
    have e : v = .bl x := h
    subst e
    exact .base (.bl _)
instance : PyTy Str where
  ty := "str"
  tyx := fun {K S H v x} _ h => by
    have e : v = .str x := h
    subst e
    exact .base (.str _)
theorem sub_dict {K : Frag} {S H : Hp} {a : Addr} {kvs : List (Key × V)} (g : Sub S H) (h : S a = some (.dK kvs)) : TyX K H (.ref a) (.type "dict") := by
  rcases g a _ h with z | ⟨_, ob, z⟩
  · exact .base (.dK z)
  · exact .fDict z
theorem sq_tuple {K : Frag} {S H : Hp} {a : Addr} {vs : List V} (g : Sub S H) (h : SqT K S a vs) : TyX K H (.ref a) (.type "tuple") := by
  rcases g.sqT h with (z | ⟨ob, z⟩) | z
  · exact .base (.tup z)
  · exact .fTuple z
  · obtain ⟨o, its, n, h1, h2, _⟩ := z
    exact .kTuple h1 h2
instance {κ α : Type} [DKey κ] [Rep α] : PyTy (Dc κ α) where
  ty := "dict"
  tyx := fun {K S H v x} g h => by
    obtain ⟨a, kvs, e, ha, _⟩ := h
    subst e
    exact sub_dict g ha
instance {α : Type} [Rep α] : PyTy (List α) where
  ty := "list"
  tyx := fun {K S H v x} g h => by
    obtain ⟨a, vs, e, ha, _⟩ := h
    subst e
    exact .base (.lst (g.lst ha))
instance {α : Type} [Rep α] : PyTy (Tp α) where
  ty := "tuple"
  tyx := fun {K S H v x} g h => by
    obtain ⟨a, vs, e, ha, _⟩ := h
    subst e
    exact sq_tuple g ha
instance {α β : Type} [Rep α] [Rep β] : PyTy (α × β) where
  ty := "tuple"
  tyx := fun {K S H v x} g h => by
    obtain ⟨a, v1, v2, e, ha, _⟩ := h
    subst e
    exact sq_tuple g ha
instance {α β γ : Type} [Rep α] [Rep β] [Rep γ] : PyTy (T3 α β γ) where
  ty := "tuple"
  tyx := fun {K S H v x} g h => by
    obtain ⟨a, v1, v2, v3, e, ha, _⟩ := h
    subst e
    exact sq_tuple g ha
instance {α β γ ζ : Type} [Rep α] [Rep β] [Rep γ] [Rep ζ] : PyTy (T4 α β γ ζ) where
  ty := "tuple"
  tyx := fun {K S H v x} g h => by
    obtain ⟨a, v1, v2, v3, v4, e, ha, _⟩ := h
    subst e
    exact sq_tuple g ha
theorem ev_isi {α : Type} [PyTy α] {P : Bool → Prop} {c : String} {b : Bool} (h : Ev W W1 K ta δ fun x : α => P b) (hb : kitB (PyTy.ty α) c = some b := by decide +kernel) : Ev W W1 K (tCB (rIsi K) (tCons ta (tCons (tC (.ty c)) tNil))) δ P := fun O S H σ s Q q =>
  h O S H σ s _ fun v S1 H1 x m r p => ⟨v, .ty c, _, _, b, rfl, .ty c, PyTy.tyx m.good.sub r, kit_ty hb, q _ S1 H1 _ m rfl p⟩
end
end DW
set_option maxHeartbeats 4000000
namespace DW
open PySem PySem.Spec PyProof.Rows L2

/-! ### plain dicts -/
section
variable {κ α : Type} [DecidableEq κ]
def look (xs : List (κ × α)) (k : κ) : Option α := match xs with
  | [] => none
  | p :: r => if p.1 = k then some p.2 else look r k
def put (xs : List (κ × α)) (k : κ) (v : α) : List (κ × α) := match xs with
  | [] => [(k, v)]
  | p :: r => if p.1 = k then (k, v) :: r else p :: put r k v
def puts (xs ys : List (κ × α)) : List (κ × α) := ys.foldl (fun a p => put a p.1 p.2) xs
theorem look_put (xs : List (κ × α)) (k j : κ) (v : α) : look (put xs k v) j = if j = k then some v else look xs j := by
  induction xs with
  | nil =>
    unfold put look
    by_cases h : j = k
    · rw [if_pos h.symm, if_pos h]
    · rw [if_neg (fun z => h z.symm), if_neg h]
      rfl
  | cons p r ih =>
    unfold put
    by_cases h : p.1 = k
    · rw [if_pos h]
      by_cases q : j = k
      · rw [if_pos q]
        unfold look
        rw [if_pos q.symm]
      · rw [if_neg q]
        unfold look
        rw [if_neg (fun z => q z.symm), if_neg (fun z => q (by rw [← z, h]))]
    · rw [if_neg h]
      unfold look
      by_cases q : p.1 = j
      · rw [if_pos q, if_neg (fun z => h (q.trans z)), if_pos q]
      · rw [if_neg q, if_neg q, ih]
theorem look_none {xs : List (κ × α)} {k : κ} : look xs k = none ↔ k ∉ xs.map Prod.fst := by
  induction xs with
  | nil => simp [look]
  | cons p r ih =>
    unfold look
    by_cases h : p.1 = k
    · rw [if_pos h]
      simp [h]
    · rw [if_neg h, ih]
      simp only [List.map_cons, List.mem_cons, not_or]
      exact ⟨fun z => ⟨fun y => h y.symm, z⟩, fun z => z.2⟩
theorem put_new {xs : List (κ × α)} {k : κ} {v : α} (h : k ∉ xs.map Prod.fst) : put xs k v = xs ++ [(k, v)] := by
  induction xs with
  | nil => rfl
  | cons p r ih =>
    simp only [List.map_cons, List.mem_cons, not_or] at h
    unfold put
    rw [if_neg (fun z => h.1 z.symm), ih h.2] <;> rfl
theorem put_keys_old {xs : List (κ × α)} {k : κ} {v : α} (h : k ∈ xs.map Prod.fst) : (put xs k v).map Prod.fst = xs.map Prod.fst := by
  induction xs with
  | nil => simp at h
  | cons p r ih =>
    unfold put
    by_cases q : p.1 = k
    · rw [if_pos q]
      simp [q]
    · rw [List.map_cons] at h
      rw [if_neg q, List.map_cons, List.map_cons, ih]
      rcases List.mem_cons.mp h with z | z
      · exact absurd z.symm q
      · exact z
theorem put_nodup {xs : List (κ × α)} {k : κ} {v : α} (h : (xs.map Prod.fst).Nodup) : ((put xs k v).map Prod.fst).Nodup := by
  by_cases q : k ∈ xs.map Prod.fst
  · rw [put_keys_old q]
    exact h
  · rw [put_new q, List.map_append]
    refine List.nodup_append.mpr ⟨h, by simp, fun a ha b hb => ?_⟩
    have e : b = k := by simpa using hb
    rw [e]
    intro z
    exact q (by rw [← z]; exact ha)
theorem put_len {xs : List (κ × α)} {k : κ} {v : α} : (put xs k v).length ≤ xs.length + 1 := by
  induction xs with
  | nil => exact Nat.le_refl _
  | cons p r ih =>
    unfold put
    by_cases q : p.1 = k
    · rw [if_pos q]
      exact Nat.le_succ _
    · rw [if_neg q, List.length_cons, List.length_cons]
      omega
theorem puts_nodup {ys : List (κ × α)} : ∀ {xs : List (κ × α)}, (xs.map Prod.fst).Nodup → ((puts xs ys).map Prod.fst).Nodup := by
  induction ys with
  | nil => intro xs h; exact h
  | cons p r ih => intro xs h; exact ih (put_nodup h)
theorem puts_new {ys : List (κ × α)} : ∀ {xs : List (κ × α)}, ((xs ++ ys).map Prod.fst).Nodup → puts xs ys = xs ++ ys := by
  induction ys with
  | nil => intro xs _; simp [puts]
  | cons p r ih =>
    intro xs h
    have e : put xs p.1 p.2 = xs ++ [p] := put_new (by
      intro z
      rw [List.map_append] at h
      exact (List.nodup_append.mp h).2.2 p.1 z p.1 (by simp) rfl)
    show puts (put xs p.1 p.2) r = _
    rw [e, ih (by rw [List.append_assoc]; exact h), List.append_assoc] <;> rfl
end

section
variable {κ α : Type} [DKey κ] [DecidableEq κ] [Rep α] {K : Frag} {S : Hp}
theorem val_look {k : κ} : ∀ {kvs : List (Key × V)} {xs : List (κ × α)}, RepKV K S kvs xs → (look xs k = none → valV kvs (DKey.key k) = none) ∧ (∀ x, look xs k = some x → ∃ v, valV kvs (DKey.key k) = some v ∧ rep K S v x)
  | _, _, .nil => ⟨fun _ => rfl, fun _ h => nomatch h⟩
  | (k', v) :: kvs, (j, x) :: xs, .cons ⟨e, r⟩ t => by
    have e' : k' = DKey.key j := e
    subst e'
    have ih := val_look (k := k) t
    by_cases h : j = k
    · subst h
      refine ⟨fun z => ?_, fun y z => ?_⟩
      · unfold look at z
        rw [if_pos rfl] at z
        cases z
      · unfold look at z
        rw [if_pos rfl] at z
        cases z
        exact ⟨v, valV_pos rfl, r⟩
    · have n : ¬ (DKey.key j : Key) = DKey.key k := fun z => h (DKey.inj z)
      refine ⟨fun z => ?_, fun y z => ?_⟩
      · unfold look at z
        rw [if_neg h] at z
        rw [valV_neg n]
        exact ih.1 z
      · unfold look at z
        rw [if_neg h] at z
        rw [valV_neg n]
        exact ih.2 y z
theorem valV_some {k : κ} {kvs : List (Key × V)} {xs : List (κ × α)} (r : RepKV K S kvs xs) : (valV kvs (DKey.key k)).isSome = (look xs k).isSome := by
  obtain ⟨h1, h2⟩ := val_look (k := k) r
  cases e : look xs k with
  | none => rw [h1 e] <;> rfl
  | some x =>
    obtain ⟨v, hv, _⟩ := h2 x e
    rw [hv] <;> rfl
theorem keys_not {k : κ} {kvs : List (Key × V)} {xs : List (κ × α)} (r : RepKV K S kvs xs) : valV kvs (DKey.key k) = none → k ∉ xs.map Prod.fst := fun h => by
  have q := valV_some (k := k) r
  rw [h] at q
  exact look_none.mp (by
    cases e : look xs k with
    | none => rfl
    | some x =>
      rw [e] at q
      cases q)
theorem repkv_put {k : κ} {v : V} {x : α} (rx : rep K S v x) : ∀ {kvs : List (Key × V)} {xs : List (κ × α)}, RepKV K S kvs xs → (xs.map Prod.fst).Nodup → RepKV K S (putK kvs (DKey.key k) v) (put xs k x) := by
  intro kvs xs r nd
  by_cases h : k ∈ xs.map Prod.fst
  · have hs : (valV kvs (DKey.key k)).isSome = true := by
      rw [valV_some r]
      cases e : look xs k with
      | none => exact absurd h (look_none.mp e)
      | some y => rfl
    have ha : (kvs.any fun kv => decide (kv.1 = DKey.key k)) = true := by rw [valV_any]; exact hs
    unfold putK
    rw [if_pos ha]
    clear hs ha
    induction r with
    | nil => simp at h
    | @cons p q kvs xs e t ih =>
      rw [List.map_cons] at nd h ⊢
      have nd' := List.nodup_cons.mp nd
      unfold put
      by_cases hq : q.1 = k
      · rw [if_pos hq, if_pos (by rw [e.1, hq])]
        refine .cons ⟨by show p.1 = DKey.key k; rw [e.1, hq], rx⟩ ?_
        have idt : kvs.map (fun kv => if kv.1 = DKey.key k then (kv.1, v) else kv) = kvs := by
          refine (List.map_congr_left fun kv hkv => ?_).trans (List.map_id _)
          refine if_neg fun z => ?_
          obtain ⟨i, hi, e2⟩ := List.mem_iff_getElem.mp hkv
          have hx : i < xs.length := by rw [← repkv_len t]; exact hi
          obtain ⟨v', h1, _⟩ := RepKV.at t (List.getElem?_eq_getElem hx)
          rw [List.getElem?_eq_getElem hi, e2] at h1
          have e3 : kv.1 = DKey.key xs[i].1 := by rw [Option.some.inj h1]
          have e4 : xs[i].1 = k := DKey.inj (e3.symm.trans z)
          exact nd'.1 (by rw [hq, ← e4]; exact List.mem_map.mpr ⟨_, List.getElem_mem hx, rfl⟩)
        rw [idt]
        exact t
      · rw [if_neg hq, if_neg (fun z => hq (DKey.inj (e.1.symm.trans z)))]
        refine .cons e (ih nd'.2 ?_)
        rcases List.mem_cons.mp h with z | z
        · exact absurd z.symm hq
        · exact z
  · rw [put_new h]
    have hn : valV kvs (DKey.key k) = none := by
      have q := valV_some (k := k) r
      rw [look_none.mpr h] at q
      cases e : valV kvs (DKey.key k) with
      | none => rfl
      | some y =>
        rw [e] at q
        cases q
    rw [putK_new v hn]
    exact Paired.snoc r ⟨rfl, rx⟩
end

section
variable {W W1 W2 W3 W4 : Wd} {K : Frag} {O : Addr → Prop} {S H S1 H1 S2 H2 : Hp} {σ : L2.St} {δ : DEnv} {α β γ κ : Type} [Rep α] [Rep β] [Rep γ] [DKey κ] [DecidableEq κ] {te ta tb tc td tk tv tx : TE} {tr : TA} {i : Nat}
/-! ### d[k], d.get(k, x), k in d -/
theorem dget_at {a : Addr} {kvs : List (Key × V)} {k : κ} {u : V} (hr : Rd H a (.dK kvs)) (hu : u = Flat.val k) : DGet H a u (valV kvs (DKey.key k)) := by
  subst hu
  exact .inl ⟨kvs, DKey.key k, hr, (DKey.kv k).symm, rfl⟩
theorem ev_dget {P : α → Prop} (h : EvCD W W1 K td δ fun xs : List (κ × α) => Ev W1 W2 K tk δ fun k : κ => ∃ x, look xs k = some x ∧ P x) : Ev W W2 K (tDGet td tk) δ P := fun O S H σ s Q q =>
  h O S H σ s _ fun a kvs S1 H1 xs m l r nd p => p O S1 H1 σ (s.mv m) _ fun u S2 H2 k m2 r2 p2 => by
    obtain ⟨x, hx, px⟩ := p2
    obtain ⟨v, hv, rv⟩ := (val_look (k := k) (RepKV.mono m2.ex r)).2 x hx
    refine ⟨a, v, rfl, ?_, q v S2 H2 x (m.trans m2) rv px⟩
    rw [← hv]
    exact dget_at ((l.mv m2).rd m2.good.sub) (Flat.flat.mp r2)
theorem ev_dget2 {P : α → Prop} (h : EvCD W W1 K td δ fun xs : List (κ × α) => Ev W1 W2 K tk δ fun k : κ => Ev W2 W3 K tx δ fun x : α => P ((look xs k).getD x)) : Ev W W3 K (tDGet2 td tk tx) δ P := fun O S H σ s Q q =>
  h O S H σ s _ fun a kvs S1 H1 xs m l r nd p => ⟨a, rfl, .inl ⟨kvs, l.rd m.good.sub⟩, p O S1 H1 σ (s.mv m) _ fun u S2 H2 k m2 r2 p2 => p2 O S2 H2 σ ((s.mv m).mv m2) _ fun w S3 H3 x m3 r3 p3 => by
    have l3 := (l.mv m2).mv m3
    have r' : RepKV K S3 kvs xs := RepKV.mono m3.ex (RepKV.mono m2.ex r)
    refine ⟨_, dget_at (k := k) (l3.rd m3.good.sub) (Flat.flat.mp r2), ?_⟩
    have m4 := (m.trans m2).trans m3
    obtain ⟨h1, h2⟩ := val_look (k := k) r'
    cases e : look xs k with
    | none =>
      rw [h1 e]
      rw [e] at p3
      exact q w S3 H3 x m4 r3 p3
    | some y =>
      obtain ⟨v, hv, rv⟩ := h2 y e
      rw [hv]
      rw [e] at p3
      exact q v S3 H3 y m4 rv p3⟩
/-- d.get(k): None where it is not there -/
theorem ev_dget1 {P : Option α → Prop} (h : EvCD W W1 K td δ fun xs : List (κ × α) => Ev W1 W2 K tk δ fun k : κ => P (look xs k)) (nn : ∀ {K S v} {x : α}, rep K S v x → v ≠ .non) : Ev W W2 K (tDGet1 td tk) δ P := fun O S H σ s Q q =>
  h O S H σ s _ fun a kvs S1 H1 xs m l r nd p => ⟨a, rfl, .inl ⟨kvs, l.rd m.good.sub⟩, p O S1 H1 σ (s.mv m) _ fun u S2 H2 k m2 r2 p2 => by
    have l3 := l.mv m2
    have r' : RepKV K S2 kvs xs := RepKV.mono m2.ex r
    refine ⟨_, dget_at (k := k) (l3.rd m2.good.sub) (Flat.flat.mp r2), ?_⟩
    obtain ⟨h1, h2⟩ := val_look (k := k) r'
    cases e : look xs k with
    | none =>
      have p2 : P (look xs k) := p2
      rw [h1 e]
      rw [e] at p2
      exact q _ S2 H2 none (m.trans m2) rfl p2
    | some y =>
      have p2 : P (look xs k) := p2
      obtain ⟨v, hv, rv⟩ := h2 y e
      rw [hv]
      rw [e] at p2
      exact q v S2 H2 (some y) (m.trans m2) ⟨nn rv, rv⟩ p2⟩
theorem ev_din {P : Bool → Prop} (h : Ev W W1 K tk δ fun k : κ => EvCD W1 W2 K td δ fun xs : List (κ × α) => P (look xs k).isSome) : Ev W W2 K (tDIn tk td) δ P := fun O S H σ s Q q =>
  h O S H σ s _ fun u S1 H1 k m r p => p O S1 H1 σ (s.mv m) _ fun a kvs S2 H2 xs m2 l r2 nd p2 =>
    ⟨a, _, rfl, dget_at (k := k) (l.rd m2.good.sub) (Flat.flat.mp r), by rw [valV_some r2]; exact q _ S2 H2 _ (m.trans m2) rfl p2⟩
theorem ev_dnotin {P : Bool → Prop} (h : Ev W W1 K tk δ fun k : κ => EvCD W1 W2 K td δ fun xs : List (κ × α) => P (!(look xs k).isSome)) : Ev W W2 K (tDNotIn tk td) δ P := fun O S H σ s Q q =>
  h O S H σ s _ fun u S1 H1 k m r p => p O S1 H1 σ (s.mv m) _ fun a kvs S2 H2 xs m2 l r2 nd p2 =>
    ⟨a, _, rfl, dget_at (k := k) (l.rd m2.good.sub) (Flat.flat.mp r), by rw [valV_some r2]; exact q _ S2 H2 _ (m.trans m2) rfl p2⟩
/-! ### {}, d[k] = v of one's own -/
theorem eg_new {P : List (κ × α) → Prop} (p : P []) : EvG W W K tDNewK δ P := fun O S H σ s Q q => fun a ha => q a [] S _ [] (Mv.temp s.g ha) (Fresh.new s.g ha) .nil List.nodup_nil p
theorem sd_put {D : DE β} {α κ : Type} [rk : DKey κ] [DecidableEq κ] [ri : Rep α] {xs : List (κ × α)} (hi : δ[i]? = some (.od rk ri xs)) (h : Ev W W1 K tv δ fun x : α => Ev W1 W2 K tk δ fun k : κ => xs.length < 100000 ∧ D.nx W2 (δ.set i (sM (put xs k x)))) :
    Sd W K (sDPut (tVar i) tk tv) δ D := fun O S H σ c E r => by
  obtain ⟨ov, e, a, kvs, eq, hq, rv, nd⟩ := c.sl.2 i _ hi
  subst eq
  refine h _ S H σ c.stt _ fun v S1 H1 x m rx p => ⟨_, e, p _ S1 H1 σ (c.stt.mv m) _ fun u S2 H2 k m2 rk2 p2 => ?_⟩
  have m12 := m.trans m2
  have c2 := c.mv m12
  have hq2 : H2 a = some (.dK kvs) := (m12.keep a (.inr ⟨i, _, hi, rfl, e⟩)).trans hq
  have rv' : RepKV K S2 kvs xs := RepKV.mono m12.ex rv
  have eu : u = Flat.val k := Flat.flat.mp rk2
  have sz : kvs.length < sizeLine := by
    rw [repkv_len rv']
    exact Nat.lt_of_lt_of_le p2.1 (by decide)
  refine ⟨a, _, rfl, .inl ⟨kvs, DKey.key k, hq2, eu.trans (DKey.kv k).symm, sz, rfl⟩, ?_⟩
  have k2 := c2.wr (d' := sM (put xs k x)) (o := .dK (putK kvs (DKey.key k) v)) hi rfl e rfl ⟨a, _, rfl, upd_same, repkv_put (Rep.mono m2.ex rx) rv' nd, put_nodup nd⟩
  exact r.nx S2 _ σ _ ((m12.mo fun _ z => .inl z).trans k2.2) k2.1 p2.2
/-! ### len(d) -/
theorem call_lenR {X : Cx} : CallR X (.builtin "len") (fun xs H Q => ∃ a kvs, xs = [V.ref a] ∧ Rd H a (.dK kvs) ∧ Q (.int kvs.length) H) := by
  intro pins s σ H xs us Q I r h
  obtain ⟨a, kvs, rfl, ha, q⟩ := h
  obtain ⟨u, rfl, ru⟩ := vals1 r
  cases ru
  exact d_len I ha fun t s' I' => ⟨.int kvs.length, H, I', ⟨t, rfl⟩, q⟩
variable {ε : Type} [Rep ε] {wi : TI} {g : TG} {tt : TT} {vs : List Nat}
/-! ### a dict at a slot walked within an expression -/
/-- what is walked under a lock: any reading that begins so -/
def EvK {α : Type} [Rep α] (W : Wd) (K : Frag) (wi : TI) (i : Nat) (δ : DEnv) (ys : List α) : Prop := ∀ O S H σ, Stt W K O S H σ δ → ∀ d kvs ob, σ[i]? = some (some (.ref d)) → S d = some (.dK kvs) → H d = some (.frz ob (.dK kvs)) → ∀ R : It → Hp → Prop,
  (∀ J, ItOk K O J ys S H → R J H) → wi σ H R
theorem ek_keys {xs : List (κ × α)} (hi : δ[i]? = some (sD (⟨xs⟩ : Dc κ α))) : EvK W K (iKeys (tVar i)) i δ (xs.map Prod.fst) := fun O S H σ s d kvs ob hd hS hH R q => by
  obtain ⟨ov, e, v, ev, a, kvs', ea, ha, rv, nd⟩ := s.sl.2 i _ hi
  subst ev ea
  rw [e] at hd
  have e1 : a = d := V.ref.inj (Option.some.inj (Option.some.inj hd))
  subst e1
  rw [hS] at ha
  cases ha
  exact ⟨_, e, a, ob, rfl, .inl ⟨kvs, hH, q _ (it_keys hS hH rv)⟩⟩
theorem ek_vals {xs : List (κ × α)} (hi : δ[i]? = some (sD (⟨xs⟩ : Dc κ α))) : EvK W K (iVals (tVar i)) i δ (xs.map Prod.snd) := fun O S H σ s d kvs ob hd hS hH R q => by
  obtain ⟨ov, e, v, ev, a, kvs', ea, ha, rv, nd⟩ := s.sl.2 i _ hi
  subst ev ea
  rw [e] at hd
  have e1 : a = d := V.ref.inj (Option.some.inj (Option.some.inj hd))
  subst e1
  rw [hS] at ha
  cases ha
  exact ⟨_, e, a, ob, kvs, rfl, hH, q _ (it_vals hS hH rv)⟩
theorem ek_items {xs : List (κ × α)} (hi : δ[i]? = some (sD (⟨xs⟩ : Dc κ α))) : EvK W K (iItems (tVar i)) i δ xs := fun O S H σ s d kvs ob hd hS hH R q => by
  obtain ⟨ov, e, v, ev, a, kvs', ea, ha, rv, nd⟩ := s.sl.2 i _ hi
  subst ev ea
  rw [e] at hd
  have e1 : a = d := V.ref.inj (Option.some.inj (Option.some.inj hd))
  subst e1
  rw [hS] at ha
  cases ha
  exact ⟨_, e, a, ob, kvs, rfl, hH, q _ (it_items hS hH rv)⟩
theorem Fresh.relock {d D : Addr} {u o o2 : HO} (f : Fresh W O S H D o) (g : Good W O S H) (hS : S d = some u) : Fresh W O S (upd H d o2) D o := by
  have ne : D ≠ d := fun z => by
    have y := f.s
    rw [z, hS] at y
    cases y
  have l := W.loc g.ok (H' := upd H d o2) fun a h => upd_ne fun e => by
    have z := g.fpS a h
    rw [e, hS] at z
    cases z
  exact ⟨by rw [upd_ne ne]; exact f.at_, f.s, fun h => f.f ((l.2 D).mp h), f.o⟩
end
end DW
set_option maxHeartbeats 4000000
/-! DW: rules that carry what follows along (weakest conditions) -/
namespace DW
open PySem PySem.Spec PyProof.Rows L2

/-! ### what follows, told on plain data -/
/-- a loop: B x s what follows it (nx) and what follows a break (bk) -/
def forW {α σ : Type} (B : α → σ → (σ → Prop) → (σ → Prop) → Prop) (k : σ → Prop) : List α → σ → Prop
  | [], s => k s
  | x :: xs, s => B x s (forW B k xs) k
/-- a comprehension -/
def compW {α β : Type} (B : α → (Option β → Prop) → Prop) (k : List β → Prop) : List α → List β → Prop
  | [], ys => k ys
  | x :: xs, ys => B x fun r => compW B k xs (ys ++ r.toList)
theorem forW_drop {α σ : Type} {B : α → σ → (σ → Prop) → (σ → Prop) → Prop} {k : σ → Prop} {xs : List α} {i : Nat} {x : α} {s : σ} (hx : xs[i]? = some x) (h : forW B k (xs.drop i) s) : B x s (forW B k (xs.drop (i + 1))) k := by
  obtain ⟨hi, e⟩ := List.getElem?_eq_some_iff.mp hx
  rw [List.drop_eq_getElem_cons hi, e] at h
  exact h
theorem compW_drop {α β : Type} {B : α → (Option β → Prop) → Prop} {k : List β → Prop} {xs : List α} {i : Nat} {x : α} {ys : List β} (hx : xs[i]? = some x) (h : compW B k (xs.drop i) ys) : B x fun r => compW B k (xs.drop (i + 1)) (ys ++ r.toList) := by
  obtain ⟨hi, e⟩ := List.getElem?_eq_some_iff.mp hx
  rw [List.drop_eq_getElem_cons hi, e] at h
  exact h

section
variable {W W1 W2 W3 W4 : Wd} {K : Frag} {O : Addr → Prop} {S H S1 H1 S2 H2 : Hp} {σ : L2.St} {δ : DEnv} {α β κ : Type} [Rep α] [Rep β] [DKey κ] {D : DE β} {te tk tv : TE} {tt : TT} {t u : TS} {i : Nat}
/-! ### slots forgotten -/
theorem own_forget {a : Addr} (h : OwnAt σ (δ.set i .non) a) : OwnAt σ δ a := by
  obtain ⟨j, e, h1, h2, h3⟩ := h
  by_cases hj : j = i
  · subst hj
    rw [List.getElem?_set] at h1
    simp only [if_true] at h1
    split at h1
    · cases h1
      cases h2
    · cases h1
  · rw [List.getElem?_set_ne (Ne.symm hj)] at h1
    exact ⟨j, e, h1, h2, h3⟩
theorem Cf.forget (c : Cf W K O S H σ δ) (i : Nat) : Cf W K O S H σ (δ.set i .non) := by
  refine ⟨c.g.less fun a h => h.imp id own_forget, ⟨by rw [List.length_set]; exact c.sl.1, fun j e hj => ?_⟩, fun j k d e a h1 h2 h3 h4 h5 h6 => ?_, fun a h => c.out a (own_forget h)⟩
  · by_cases q : j = i
    · subst q
      rw [List.getElem?_set] at hj
      simp only [if_true] at hj
      split at hj
      · rename_i hl
        cases hj
        exact ⟨σ[j]'(by rw [c.sl.1]; exact hl), List.getElem?_eq_getElem _, trivial⟩
      · cases hj
    · rw [List.getElem?_set_ne (Ne.symm q)] at hj
      exact c.sl.2 j e hj
  · have old : ∀ (j : Nat) (e : DSlot), (δ.set i .non)[j]? = some e → e.own = true → δ[j]? = some e := fun j e h1 h2 => by
      by_cases hj : j = i
      · subst hj
        rw [List.getElem?_set] at h1
        simp only [if_true] at h1
        split at h1
        · cases h1
          cases h2
        · cases h1
      · rw [List.getElem?_set_ne (Ne.symm hj)] at h1
        exact h1
    exact c.dst j k d e a (old j d h1 h2) h2 h3 (old k e h4 h5) h5 h6
theorem Cf.wipeD (c : Cf W K O S H σ δ) : ∀ vs : List Nat, Cf W K O S H σ (DW.wipeD δ vs)
  | [] => c
  | v :: vs => (Cf.wipeD c vs).forget v
theorem sd_wipe (vs : List Nat) (h : Sd W K t (wipeD δ vs) D) : Sd W K t δ D := fun O S H σ c E r => h O S H σ (c.wipeD vs) E r
theorem sd_nextW (vs : List Nat) (h : D.nx W (wipeD δ vs)) : Sd W K tNext δ D := sd_wipe vs (sd_next h)
theorem sd_breakW (vs : List Nat) (h : D.bk W (wipeD δ vs)) : Sd W K tBreak δ D := sd_wipe vs (sd_break h)
theorem sd_contW (vs : List Nat) (h : D.ct W (wipeD δ vs)) : Sd W K tCont δ D := sd_wipe vs (sd_cont h)
/-! ### named results -/
theorem sd_asgZ (h : Ev W W1 K te δ fun x : α => ∀ z, z = x → D.nx W1 (δ.set i (sD z))) : Sd W K (tAsg te (gName i)) δ D := sd_asg (h.imp fun x q => q x rfl)
theorem sd_asgLZ (h : EvF W W1 K te δ fun x : List α => ∀ z, z = x → D.nx W1 (δ.set i (sL z))) : Sd W K (tAsg te (gName i)) δ D := sd_asgL (h.imp fun x q => q x rfl)
theorem sd_asgMZ (h : EvG W W1 K te δ fun x : List (κ × α) => ∀ z, z = x → D.nx W1 (δ.set i (sM z))) : Sd W K (tAsg te (gName i)) δ D := fun O S H σ c E r => sd_asgM (D := D) (i := i) (fun O S H σ s Q q => h O S H σ s Q fun a kvs S' H' xs m f l nd p => q a kvs S' H' xs m f l nd (p xs rfl)) O S H σ c E r
theorem sd_le {W' : Wd} (l : Wle W' W) (h : Sd W K t δ D) : Sd W' K t δ D := fun O S H σ c E r => h O S H σ (c.wle l) E r
/-! ### returns -/
def rtW {β : Type} (We : Wd) (P : β → Prop) : Wd → β → Prop := fun W1 y => Wle W1 We ∧ P y
theorem sd_retW {We : Wd} {P : β → Prop} (hD : D.rt = rtW We P) (h : Ev W W1 K te δ P) (le : Wle W1 We := by exact Wle.refl _) : Sd W K (tRet te) δ D := sd_ret (h.imp fun y q => by rw [hD]; exact ⟨le, q⟩)
/-! ### ways that meet again -/
theorem sd_join {ς : Type} (Wj : Wd) (enc : ς → DEnv) {k : ς → Prop} (hr : ∀ s, k s → Sd Wj K u (enc s) D) (h : Sd W K t δ { D with nx := fun W' δ' => ∃ s, δ' = enc s ∧ Wle W' Wj ∧ k s }) : Sd W K (tSeq t u) δ D :=
  sd_seq (h.imp (D' := { D with nx := fun W' δ' => Sd W' K u δ' D }) (fun W' δ' ⟨s, e, le, p⟩ => by
    subst e
    exact fun O S H σ c E r => hr s p O S H σ (c.wle le) E r) (fun _ y q => q) (fun _ δ' q => q) fun _ δ' q => q)
end
section
variable {W W1 W2 W3 W4 : Wd} {K : Frag} {O : Addr → Prop} {S H S1 H1 S2 H2 : Hp} {σ : L2.St} {δ : DEnv} {α β κ : Type} [Rep α] [Rep β] [DKey κ] {D : DE β} {te tk tv : TE} {tt : TT} {wi : TI} {g : TG} {tb : TS} {i : Nat} {ς ε : Type} [Rep ε] {vs : List Nat}
/-! ### loops -/
theorem tg_imp {N N' : DEnv → Prop} {x : α} (h : Tg W K g x δ N) (f : ∀ δ', N δ' → N' δ') : Tg W K g x δ N' := fun O S H σ v c r Q k => h O S H σ v c r Q fun σ' δ' c' n => k σ' δ' c' (f δ' n)
/-- a loop whose turns may cost: Wi by the turn, We whatever the turn -/
theorem sd_forWs (Wi : Nat → Wd) (We : Wd) (enc : ς → DEnv) {N : Nat} {B : α → ς → (ς → Prop) → (ς → Prop) → Prop} {k : ς → Prop} (h : EvI W W1 K wi δ fun xs : List α => ∃ s0, δ = enc s0 ∧ xs.length ≤ N ∧ forW B k xs s0)
    (hs : ∀ i x s (nx : ς → Prop), i < N → B x s nx k → Tg (Wi i) K g x (enc s) fun δ2 => Sd (Wi i) K tb δ2 { D with nx := fun W' δ' => ∃ s', δ' = enc s' ∧ Wle W' (Wi (i + 1)) ∧ nx s', ct := fun W' δ' => ∃ s', δ' = enc s' ∧ Wle W' (Wi (i + 1)) ∧ nx s', bk := fun W' δ' => ∃ s', δ' = enc s' ∧ Wle W' We ∧ k s' })
    (hd : ∀ s, k s → D.nx We (enc s)) (hm : ∀ W' s, Wle W' We → D.nx We (enc s) → D.nx W' (enc s)) (e0 : Wi 0 = W1) (le : ∀ i, i ≤ N → Wle (Wi i) We) : Sd W K (tFor wi g tb) δ D :=
  sd_for (fun O S H σ s R q => h O S H σ s R fun J S' H' xs m it ⟨s0, d0, hl, w⟩ => q J S' H' xs m it ⟨Wi, fun i δ' => ∃ s, δ' = enc s ∧ forW B k (xs.drop i) s, e0, ⟨s0, d0, w⟩, fun i x δ' hlt hx ⟨s, e, w⟩ => by
    subst e
    have z := hs i x s _ (Nat.lt_of_lt_of_le hlt hl) (forW_drop hx w)
    exact tg_imp z fun δ2 n => n.imp (fun W' δ' ⟨s', e, l, p⟩ => ⟨l, s', e, p⟩) (fun _ _ h => h) (fun W' δ' ⟨s', e, l, p⟩ => by
      subst e
      exact hm W' s' l (hd s' p)) fun W' δ' ⟨s', e, l, p⟩ => ⟨l, s', e, p⟩, fun δ' ⟨s, e, w⟩ => by
    subst e
    rw [List.drop_length] at w
    exact hm _ s (le _ hl) (hd s w)⟩)
/-- a loop that keeps its world -/
theorem sd_forW (enc : ς → DEnv) {B : α → ς → (ς → Prop) → (ς → Prop) → Prop} {k : ς → Prop} (h : EvI W W1 K wi δ fun xs : List α => ∃ s0, δ = enc s0 ∧ forW B k xs s0)
    (hs : ∀ x s (nx : ς → Prop), B x s nx k → Tg W1 K g x (enc s) fun δ2 => Sd W1 K tb δ2 { D with nx := fun W' δ' => ∃ s', δ' = enc s' ∧ Wle W' W1 ∧ nx s', ct := fun W' δ' => ∃ s', δ' = enc s' ∧ Wle W' W1 ∧ nx s', bk := fun W' δ' => ∃ s', δ' = enc s' ∧ Wle W' W1 ∧ k s' })
    (hd : ∀ s, k s → D.nx W1 (enc s)) (hm : ∀ W' s, Wle W' W1 → D.nx W1 (enc s) → D.nx W' (enc s)) : Sd W K (tFor wi g tb) δ D :=
  sd_for (fun O S H σ s R q => h O S H σ s R fun J S' H' xs m it ⟨s0, d0, w⟩ => q J S' H' xs m it ⟨fun _ => W1, fun i δ' => ∃ s, δ' = enc s ∧ forW B k (xs.drop i) s, rfl, ⟨s0, d0, w⟩, fun i x δ' hlt hx ⟨s, e, w⟩ => by
    subst e
    have z := hs x s _ (forW_drop hx w)
    exact tg_imp z fun δ2 n => n.imp (fun W' δ' ⟨s', e, l, p⟩ => ⟨l, s', e, p⟩) (fun _ _ h => h) (fun W' δ' ⟨s', e, l, p⟩ => by
      subst e
      exact hm W' s' l (hd s' p)) fun W' δ' ⟨s', e, l, p⟩ => ⟨l, s', e, p⟩, fun δ' ⟨s, e, w⟩ => by
    subst e
    rw [List.drop_length] at w
    exact hd s w⟩)
theorem sd_forLockW {γ : Type} [Rep γ] {ys : List γ} (enc : ς → DEnv) {B : γ → ς → (ς → Prop) → (ς → Prop) → Prop} {k : ς → Prop}
    (hf : ∀ (Inv : Nat → DEnv → Prop), Inv 0 δ → (∀ (i : Nat) x δ', ys[i]? = some x → Inv i δ' → Tg W K g x δ' fun δ2 => Sd W K tb δ2 { D with nx := fun W' δ' => Wle W' W ∧ Inv (i + 1) δ', ct := fun W' δ' => Wle W' W ∧ Inv (i + 1) δ', bk := D.nx }) → (∀ δ', Inv ys.length δ' → D.nx W δ') → Sd W K (tLockO (tFor wi g tb)) δ D)
    (h : ∃ s0, δ = enc s0 ∧ forW B k ys s0)
    (hs : ∀ x s (nx : ς → Prop), B x s nx k → Tg W K g x (enc s) fun δ2 => Sd W K tb δ2 { D with nx := fun W' δ' => ∃ s', δ' = enc s' ∧ Wle W' W ∧ nx s', ct := fun W' δ' => ∃ s', δ' = enc s' ∧ Wle W' W ∧ nx s', bk := fun W' δ' => ∃ s', δ' = enc s' ∧ Wle W' W ∧ k s' })
    (hd : ∀ s, k s → D.nx W (enc s)) (hm : ∀ W' s, Wle W' W → D.nx W (enc s) → D.nx W' (enc s)) : Sd W K (tLockO (tFor wi g tb)) δ D := by
  refine hf (fun i δ' => ∃ s, δ' = enc s ∧ forW B k (ys.drop i) s) h (fun i x δ' hx ⟨s, e, w⟩ => ?_) fun δ' ⟨s, e, w⟩ => ?_
  · subst e
    have z := hs x s _ (forW_drop hx w)
    exact tg_imp z fun δ2 n => n.imp (fun W' δ' ⟨s', e, l, p⟩ => ⟨l, s', e, p⟩) (fun _ _ h => h) (fun W' δ' ⟨s', e, l, p⟩ => by
      subst e
      exact hm W' s' l (hd s' p)) fun W' δ' ⟨s', e, l, p⟩ => ⟨l, s', e, p⟩
  · subst e
    rw [List.drop_length] at w
    exact hd s w
theorem sd_forKeysW {ι ω : Type} [DKey ι] [Rep ω] {xs : List (ι × ω)} (enc : ς → DEnv) {B : ι → ς → (ς → Prop) → (ς → Prop) → Prop} {k : ς → Prop} (hi : δ[i]? = some (sD (⟨xs⟩ : Dc ι ω))) (h : ∃ s0, δ = enc s0 ∧ forW B k (xs.map Prod.fst) s0)
    (hs : ∀ x s (nx : ς → Prop), B x s nx k → Tg W K g x (enc s) fun δ2 => Sd W K tb δ2 { D with nx := fun W' δ' => ∃ s', δ' = enc s' ∧ Wle W' W ∧ nx s', ct := fun W' δ' => ∃ s', δ' = enc s' ∧ Wle W' W ∧ nx s', bk := fun W' δ' => ∃ s', δ' = enc s' ∧ Wle W' W ∧ k s' })
    (hd : ∀ s, k s → D.nx W (enc s)) (hm : ∀ W' s, Wle W' W → D.nx W (enc s) → D.nx W' (enc s)) : Sd W K (tLockO (tFor (iKeys (tVar i)) g tb)) δ D :=
  sd_forLockW enc (fun Inv h0 h1 h2 => sd_forKeys hi Inv h0 h1 fun δ' q => h2 δ' (by rw [List.length_map]; exact q)) h hs hd hm
theorem sd_forItemsW {ι ω : Type} [DKey ι] [Rep ω] {xs : List (ι × ω)} (enc : ς → DEnv) {B : ι × ω → ς → (ς → Prop) → (ς → Prop) → Prop} {k : ς → Prop} (hi : δ[i]? = some (sD (⟨xs⟩ : Dc ι ω))) (h : ∃ s0, δ = enc s0 ∧ forW B k xs s0)
    (hs : ∀ x s (nx : ς → Prop), B x s nx k → Tg W K g x (enc s) fun δ2 => Sd W K tb δ2 { D with nx := fun W' δ' => ∃ s', δ' = enc s' ∧ Wle W' W ∧ nx s', ct := fun W' δ' => ∃ s', δ' = enc s' ∧ Wle W' W ∧ nx s', bk := fun W' δ' => ∃ s', δ' = enc s' ∧ Wle W' W ∧ k s' })
    (hd : ∀ s, k s → D.nx W (enc s)) (hm : ∀ W' s, Wle W' W → D.nx W (enc s) → D.nx W' (enc s)) : Sd W K (tLockO (tFor (iItems (tVar i)) g tb)) δ D :=
  sd_forLockW enc (fun Inv h0 h1 h2 => sd_forItems hi Inv h0 h1 h2) h hs hd hm
theorem evi_wk {P : List α → Prop} (le : Wle W1 W2) (h : EvI W W1 K wi δ P) : EvI W W2 K wi δ P := fun O S H σ s R q => h O S H σ s R fun J S' H' xs m it p => q J S' H' xs (m.wle le) it p
theorem evio_wk {P : List α → Prop} (le : Wle W1 W2) (h : EvIO W W1 K wi δ P) : EvIO W W2 K wi δ P := fun O S H σ s R q => h O S H σ s R fun J S' H' xs m it p => q J S' H' xs (m.wle le) it p
/-! ### comprehensions -/
/-- one turn's target, test and element -/
def Bd {α β : Type} [Rep α] [Rep β] (W W' : Wd) (K : Frag) (g : TG) (tt : TT) (te : TE) (vs : List Nat) (x : α) (δ : DEnv) (R : Option β → Prop) : Prop :=
  TgC W K g vs x (wipeD δ vs) fun δ2 => ∃ W1, Wle W1 W' ∧ EvT W W1 K tt δ2 fun b => (b = true → Ev W1 W' K te δ2 fun y => R (some y)) ∧ (b = false → R none)
theorem lc_runW (Wi : Nat → Wd) {J : It} {xs : List α} {Inv : Nat → List β → Prop} (it : ItOk K O J xs S H) (s : Stt (Wi 0) K O S H σ δ) (hz : xs.length ≤ 100000) (h0 : Inv 0 []) (hb : ∀ (i : Nat) x ys, xs[i]? = some x → Inv i ys → Bd (Wi i) (Wi (i + 1)) K g tt te vs x δ fun r => Inv (i + 1) (ys ++ r.toList)) {Q : VK}
    (q : ∀ q vs' S' H' ys, Mv (Wi xs.length) O S H S' H' → Fresh (Wi xs.length) O S' H' q (.lst vs') → Reps K S' vs' ys → Inv xs.length ys → Q (.ref q) H') :
    ∀ D, H D = none → ∃ Wm : Nat → Nat → Hp → Prop, (∃ m, Wm 0 m (upd H D (.lst []))) ∧ ∀ i m H, Wm i m H →
      (J.stop i H ∧ Q (.ref D) H) ∨ (J.go i H ∧ ∃ Nx : Hp → Prop, (∀ H', Nx H' → ∃ m', m' < m ∧ Wm (i + 1) m' H') ∧ ∀ x H', J.yld i H x H' → g x (L2.wipe σ vs) H' fun σ2 H2 => L2.wipe σ2 vs = L2.wipe σ vs ∧ tt σ2 H2 fun b H3 =>
        if b = true then te σ2 H3 fun y H4 => ∃ acc, H4 D = some (.lst acc) ∧ acc.length < sizeLine ∧ Nx (upd H4 D (.lst (acc ++ [y]))) else Nx H3) := by
  intro D hD
  have f0 := Fresh.new (o := .lst []) s.g hD
  have g0 : Good (Wi 0) (fun a => O a ∨ a = D) S (upd H D (.lst [])) := by
    have t := s.g.temp (o := .lst []) hD
    refine ⟨t.sub, t.ok, t.fpS, fun a h z => z.elim (t.fpO a h) (fun z => by
      subst z
      exact f0.f h), fun a z => z.elim (t.oS a) fun z => by rw [z]; exact f0.s, fun a z => z.elim (t.oH a) fun z => ?_⟩
    rw [z, upd_same]
    intro w
    cases w
  -- the invariant
  have wr : ∀ {W : Wd} {S' H' : Hp} {o : HO}, Good W (fun a => O a ∨ a = D) S' H' → Good W (fun a => O a ∨ a = D) S' (upd H' D o) := fun {W S' H' o} g => by
    have l := W.loc g.ok (H' := upd H' D o) fun a h => upd_ne fun e => g.fpO a h (.inr e)
    refine ⟨fun a u e => ?_, l.1, fun a h => g.fpS a ((l.2 a).mp h), fun a h => g.fpO a ((l.2 a).mp h), g.oS, fun a h => ?_⟩
    · rw [upd_ne (ne_of_none e (g.oS D (.inr rfl)))]
      exact g.sub a u e
    · by_cases z : a = D
      · rw [z, upd_same]
        intro w
        cases w
      · rw [upd_ne z]
        exact g.oH a h
  refine ⟨fun i m H' => m = xs.length - i ∧ i ≤ xs.length ∧ ∃ S' acc ys, Ex S S' ∧ (∀ a, O a → H' a = H a) ∧ (∀ a, S a ≠ none → H' a = H a) ∧ Good (Wi i) (fun a => O a ∨ a = D) S' H' ∧ H' D = some (.lst acc) ∧ Reps K S' acc ys ∧ ys.length ≤ i ∧ Inv i ys,
    ⟨xs.length, by simp, Nat.zero_le _, S, [], [], Ex.refl S, fun a h => upd_ne fun z => s.g.oH a h (by rw [z]; exact hD), fun a h => upd_ne fun z => h (by rw [z]; exact s.g.sub.nn hD), g0, upd_same, .nil, Nat.le_refl _, h0⟩, ?_⟩
  rintro i m H' ⟨rfl, hi, S', acc, ys, ex, ko, ks, gd, hD', ra, rw2, iv⟩
  have k := it i _ S' H' ex ko ks gd
  by_cases hlt : i < xs.length
  · have hx : xs[i]? = some xs[i] := List.getElem?_eq_getElem hlt
    obtain ⟨go, yl⟩ := k.1 _ hx
    refine .inr ⟨go, fun H2 => ∃ S2 acc ys, Ex S S2 ∧ (∀ a, O a → H2 a = H a) ∧ (∀ a, S a ≠ none → H2 a = H a) ∧ Good (Wi (i + 1)) (fun a => O a ∨ a = D) S2 H2 ∧ H2 D = some (.lst acc) ∧ Reps K S2 acc ys ∧ ys.length ≤ i + 1 ∧ Inv (i + 1) ys,
      fun H2 ⟨S2, acc2, ys2, e1, e2, e3, e4, e5, e6, e7, e8⟩ => ⟨xs.length - (i + 1), by omega, rfl, hlt, S2, acc2, ys2, e1, e2, e3, e4, e5, e6, e7, e8⟩, fun v H2 y => ?_⟩
    obtain ⟨S2, m2, rv⟩ := yl v H2 y
    have sl' : Sl K S2 H2 σ δ := by
      refine ⟨s.sl.1, fun j d hd => ?_⟩
      obtain ⟨ov, e, ok⟩ := s.sl.2 j d hd
      exact ⟨ov, e, ok.mv (ex.trans m2.ex) fun ho a ea => (m2.keep a (.inl (s.own a ⟨j, d, hd, ho, by rw [e, ea]⟩))).trans (ko a (s.own a ⟨j, d, hd, ho, by rw [e, ea]⟩))⟩
    have st : Stt (Wi i) K (fun a => O a ∨ a = D) S2 H2 σ δ := ⟨m2.good, sl', fun a h => .inl (s.own a h)⟩
    refine hb i _ _ hx iv _ S2 H2 σ v (st.wipe vs) rv _ fun σ3 δ3 st3 hw3 ht3 => ⟨hw3, ?_⟩
    obtain ⟨W1, le1, ht3⟩ := ht3
    refine ht3 _ S2 H2 σ3 st3 _ fun b S4 H4 m4 hb4 => ?_
    have m24 := m2.trans m4
    cases b with
    | false =>
      show ∃ S2 acc ys, _
      refine ⟨S4, acc, ys, ex.trans m24.ex, fun a h => (m24.keep a (.inl h)).trans (ko a h), fun a h => (m24.stay a (ex.nn h)).trans (ks a h), m24.good.wle le1, (m24.keep D (.inr rfl)).trans hD', ra.mono m24.ex, Nat.le_succ_of_le rw2, ?_⟩
      have z : Inv (i + 1) (ys ++ []) := hb4.2 rfl
      rw [List.append_nil] at z
      exact z
    | true =>
      show te σ3 H4 _
      refine hb4.1 rfl _ S4 H4 σ3 (st3.mv m4) _ fun v5 S5 H5 y5 m5 r5 hR => ?_
      have m25 := m24.trans m5
      have hD5 : H5 D = some (.lst acc) := (m25.keep D (.inr rfl)).trans hD'
      have ra5 := ra.mono m25.ex
      refine ⟨acc, hD5, ?_, S5, acc ++ [v5], ys ++ [y5], ex.trans m25.ex, fun a h => ?_, fun a h => ?_, wr m25.good, upd_same, Paired.snoc ra5 r5, by rw [List.length_append]; exact Nat.succ_le_succ rw2, hR⟩
      · have l1 := reps_len ra5
        have l3 : acc.length < 100001 := by omega
        exact Nat.lt_of_lt_of_le l3 (by decide)
      · rw [upd_ne fun z => by
          have w := s.g.oH a h
          rw [z, hD] at w
          exact w rfl, m25.keep a (.inl h)]
        exact ko a h
      · rw [upd_ne fun z => by
          have w := s.g.sub.nn hD
          rw [← z] at w
          exact h w, m25.stay a (ex.nn h)]
        exact ks a h
  · have e : i = xs.length := by omega
    subst e
    refine .inl ⟨k.2 rfl, q D acc S' H' ys ⟨ex, ko, ks, gd.less fun _ h => .inl h⟩ ⟨hD', gd.oS D (.inr rfl), fun h => gd.fpO D h (.inr rfl), fun h => s.g.oH D h hD⟩ ra iv⟩
theorem et_yes {P : Bool → Prop} (h : P true) : EvT W W K tYes δ P := fun O S H σ s Q q => q true S H (Mv.refl s.g) h
theorem bd_yes {R : Option β → Prop} {x : α} (h : TgC W K g vs x (wipeD δ vs) fun δ2 => Ev W W1 K te δ2 fun y => R (some y)) (le : Wle W W1 := by exact Wle.refl _) : Bd W W1 K g tYes te vs x δ R := fun O S H σ v s r Q k => h O S H σ v s r Q fun σ' δ' s' e n => k σ' δ' s' e ⟨W, le, et_yes ⟨fun _ => n, fun e => nomatch e⟩⟩
theorem bd_if {R : Option β → Prop} {x : α} (h : TgC W K g vs x (wipeD δ vs) fun δ2 => EvT W W1 K tt δ2 fun b => (b = true → Ev W1 W2 K te δ2 fun y => R (some y)) ∧ (b = false → R none)) (le : Wle W1 W2 := by exact Wle.refl _) : Bd W W2 K g tt te vs x δ R := fun O S H σ v s r Q k => h O S H σ v s r Q fun σ' δ' s' e n => k σ' δ' s' e ⟨W1, le, n⟩
/-- turns that cost -/
theorem ef_lcWs (Wi : Nat → Wd) (We : Wd) {N : Nat} {B : α → (Option β → Prop) → Prop} {k : List β → Prop} (h : EvIO W W1 K wi δ fun xs : List α => xs.length ≤ N ∧ compW B k xs []) (hb : ∀ i x (R : Option β → Prop), i < N → B x R → Bd (Wi i) (Wi (i + 1)) K g tt te vs x δ R)
    (e0 : Wi 0 = W1) (le : ∀ i, i ≤ N → Wle (Wi i) We) (hN : N ≤ 100000 := by decide) : EvF W We K (tLc wi g tt te vs) δ k := fun O S H σ s Q q =>
  h O S H σ s _ fun J S1 H1 xs m it ⟨hz, w⟩ => by
    subst e0
    exact lc_runW Wi (Inv := fun i ys => compW B k (xs.drop i) ys) it (s.mv m) (Nat.le_trans hz hN) w (fun i x ys hx hw => hb i x _ (Nat.lt_of_lt_of_le (List.getElem?_eq_some_iff.mp hx).1 hz) (compW_drop hx hw)) fun a vs' S2 H2 ys m2 f r rw => q a vs' S2 H2 ys ((m.trans m2).wle (le _ hz)) (f.wle (le _ hz)) r (by
      rw [List.drop_length] at rw
      exact rw)
theorem ef_lcW {B : α → (Option β → Prop) → Prop} {k : List β → Prop} (h : EvIO W W1 K wi δ fun xs : List α => xs.length ≤ 100000 ∧ compW B k xs []) (hb : ∀ x (R : Option β → Prop), B x R → Bd W1 W1 K g tt te vs x δ R) : EvF W W1 K (tLc wi g tt te vs) δ k :=
  ef_lcWs (fun _ => W1) W1 (N := 100000) h (fun i x R _ w => hb x R w) rfl (fun _ _ => Wle.refl _)
theorem ef_lcKW {ι ω : Type} [DKey ι] [Rep ω] {B : ε → (Option β → Prop) → Prop} {k : List β → Prop} {dc : Dc ι ω} {ys : List ε} (hi : δ[i]? = some (sD dc)) (hw : EvK W K wi i δ ys) (h : ys.length ≤ 100000 ∧ compW B k ys []) (hb : ∀ x (R : Option β → Prop), B x R → Bd W W K g tt te vs x δ R) :
    EvF W W K (tLockOE (tLc wi g tt te vs)) δ k := fun O S H σ s Q q => by
  obtain ⟨ov, e, v, ev, a, kvs, ea, ha, rv, nd⟩ := s.sl.2 i _ hi
  subst ev ea
  have fin : ∀ zs, compW B k (ys.drop ys.length) zs → k zs := fun zs w => by
    rw [List.drop_length] at w
    exact w
  rcases s.g.sub a _ ha with h' | ⟨hx, ob, h'⟩
  · refine .inl ⟨a, _, h', trivial, fun od => ?_⟩
    have s1 := s.relock ha (.frz od (.dK kvs)) (.inr ⟨trivial, od, rfl⟩)
    refine hw O S _ σ s1 a kvs od e ha upd_same _ fun J it => lc_runW (fun _ => W) (Inv := fun i ys' => compW B k (ys.drop i) ys') (Q := fun v H' => H' a = some (HO.frz od (HO.dK kvs)) ∧ Q v (upd H' a (HO.dK kvs))) it s1 h.1 h.2 (fun i x ys hx hw => hb x _ (compW_drop hx hw)) fun D vs' S' H' zs m f r rw => ?_
    have k := Mv.unlock s.g h' ha m
    exact ⟨k.1, q D vs' S' _ zs k.2 (f.relock m.good (m.ex _ _ ha)) r (fin zs rw)⟩
  · exact .inr (hw O S _ σ s a kvs ob e ha h' _ fun J it => lc_runW (fun _ => W) (Inv := fun i ys' => compW B k (ys.drop i) ys') it s h.1 h.2 (fun i x ys hx hw => hb x _ (compW_drop hx hw)) fun D vs' S' H' zs m f r rw => q D vs' S' H' zs m f r (fin zs rw))
end
section
variable {W W1 W2 W3 W4 : Wd} {K : Frag} {O : Addr → Prop} {S H S1 H1 S2 H2 : Hp} {σ : L2.St} {δ : DEnv} {α κ : Type} [Rep α] [DKey κ] [DecidableEq κ] {te td tk tv tx : TE} {ta : TA} {i : Nat}
/-- one turn of a dict comprehension -/
def BdM {ε : Type} [Rep ε] (W W' : Wd) (K : Frag) (g : TG) (tt : TT) (tk tv : TE) (vs : List Nat) (x : ε) (δ : DEnv) (R : Option (κ × α) → Prop) : Prop :=
  TgC W K g vs x (wipeD δ vs) fun δ2 => ∃ W1 W2, Wle W1 W' ∧ EvT W W1 K tt δ2 fun b => (b = true → Ev W1 W2 K tk δ2 fun k : κ => Ev W2 W' K tv δ2 fun y : α => R (some (k, y))) ∧ (b = false → R none)
theorem bdm_yes {ε : Type} [Rep ε] {g : TG} {vs : List Nat} {R : Option (κ × α) → Prop} {x : ε} (h : TgC W K g vs x (wipeD δ vs) fun δ2 => Ev W W1 K tk δ2 fun y : κ => Ev W1 W2 K tv δ2 fun z : α => R (some (y, z))) (le : Wle W W2 := by exact Wle.refl _) : BdM W W2 K g tYes tk tv vs x δ R := fun O S H σ v s r Q k => h O S H σ v s r Q fun σ' δ' s' e n => k σ' δ' s' e ⟨W, W1, le, et_yes ⟨fun _ => n, fun e => nomatch e⟩⟩
theorem bdm_if {ε : Type} [Rep ε] {g : TG} {tt : TT} {vs : List Nat} {R : Option (κ × α) → Prop} {x : ε} (h : TgC W K g vs x (wipeD δ vs) fun δ2 => EvT W W1 K tt δ2 fun b => (b = true → Ev W1 W2 K tk δ2 fun y : κ => Ev W2 W3 K tv δ2 fun z : α => R (some (y, z))) ∧ (b = false → R none)) (le : Wle W1 W3 := by exact Wle.refl _) : BdM W W3 K g tt tk tv vs x δ R :=
  fun O S H σ v s r Q k => h O S H σ v s r Q fun σ' δ' s' e n => k σ' δ' s' e ⟨W1, W2, le, n⟩
theorem dc_runW (Wi : Nat → Wd) {ε : Type} [Rep ε] {g : TG} {tt : TT} {vs : List Nat} {J : It} {xs : List ε} {Inv : Nat → List (κ × α) → Prop} (it : ItOk K O J xs S H) (s : Stt (Wi 0) K O S H σ δ) (hz : xs.length ≤ 100000) (h0 : Inv 0 []) (hb : ∀ (i : Nat) x ys, xs[i]? = some x → Inv i ys → BdM (Wi i) (Wi (i + 1)) K g tt tk tv vs x δ fun r => Inv (i + 1) (ys ++ r.toList)) {Q : VK}
    (q : ∀ q kvs S' H' ys, Mv (Wi xs.length) O S H S' H' → Fresh (Wi xs.length) O S' H' q (.dK kvs) → RepKV K S' kvs (puts [] ys) → Inv xs.length ys → Q (.ref q) H') :
    ∀ D, H D = none → ∃ Wm : Nat → Nat → Hp → Prop, (∃ m, Wm 0 m (upd H D (.dK []))) ∧ ∀ i m H, Wm i m H →
      (J.stop i H ∧ Q (.ref D) H) ∨ (J.go i H ∧ ∃ Nx : Hp → Prop, (∀ H', Nx H' → ∃ m', m' < m ∧ Wm (i + 1) m' H') ∧ ∀ x H', J.yld i H x H' → g x (L2.wipe σ vs) H' fun σ2 H2 => L2.wipe σ2 vs = L2.wipe σ vs ∧ tt σ2 H2 fun b H3 =>
        if b = true then tk σ2 H3 fun y H4 => tv σ2 H4 fun z H5 => ∃ kvs k, y = kV k ∧ H5 D = some (.dK kvs) ∧ kvs.length < sizeLine ∧ Nx (upd H5 D (.dK (putK kvs k z))) else Nx H3) := by
  intro D hD
  have f0 := Fresh.new (o := .dK []) s.g hD
  have g0 : Good (Wi 0) (fun a => O a ∨ a = D) S (upd H D (.dK [])) := by
    have t := s.g.temp (o := .dK []) hD
    refine ⟨t.sub, t.ok, t.fpS, fun a h z => z.elim (t.fpO a h) (fun z => by
      subst z
      exact f0.f h), fun a z => z.elim (t.oS a) fun z => by rw [z]; exact f0.s, fun a z => z.elim (t.oH a) fun z => ?_⟩
    rw [z, upd_same]
    intro w
    cases w
  have wr : ∀ {W : Wd} {S' H' : Hp} {o : HO}, Good W (fun a => O a ∨ a = D) S' H' → Good W (fun a => O a ∨ a = D) S' (upd H' D o) := fun {W S' H' o} g => by
    have l := W.loc g.ok (H' := upd H' D o) fun a h => upd_ne fun e => g.fpO a h (.inr e)
    refine ⟨fun a u e => ?_, l.1, fun a h => g.fpS a ((l.2 a).mp h), fun a h => g.fpO a ((l.2 a).mp h), g.oS, fun a h => ?_⟩
    · rw [upd_ne (ne_of_none e (g.oS D (.inr rfl)))]
      exact g.sub a u e
    · by_cases z : a = D
      · rw [z, upd_same]
        intro w
        cases w
      · rw [upd_ne z]
        exact g.oH a h
  have sn : ∀ (ys : List (κ × α)) (p : κ × α), puts [] (ys ++ [p]) = put (puts [] ys) p.1 p.2 := fun ys p => by
    unfold puts
    rw [List.foldl_append] <;> rfl
  have pl : ∀ ys : List (κ × α), (puts [] ys).length ≤ ys.length := fun ys => by
    have c : ∀ (ys xs : List (κ × α)), (puts xs ys).length ≤ xs.length + ys.length := fun ys => by
      induction ys with
      | nil => exact fun xs => Nat.le_refl _
      | cons p r ih =>
        intro xs
        have h1 := ih (put xs p.1 p.2)
        have h2 := put_len (xs := xs) (k := p.1) (v := p.2)
        have h3 : (puts xs (p :: r)) = puts (put xs p.1 p.2) r := rfl
        rw [h3, List.length_cons]
        omega
    have h := c ys []
    rw [List.length_nil] at h
    omega
  refine ⟨fun i m H' => m = xs.length - i ∧ i ≤ xs.length ∧ ∃ S' kvs ys, Ex S S' ∧ (∀ a, O a → H' a = H a) ∧ (∀ a, S a ≠ none → H' a = H a) ∧ Good (Wi i) (fun a => O a ∨ a = D) S' H' ∧ H' D = some (.dK kvs) ∧ RepKV K S' kvs (puts [] ys) ∧ ys.length ≤ i ∧ Inv i ys,
    ⟨xs.length, by simp, Nat.zero_le _, S, [], [], Ex.refl S, fun a h => upd_ne fun z => s.g.oH a h (by rw [z]; exact hD), fun a h => upd_ne fun z => h (by rw [z]; exact s.g.sub.nn hD), g0, upd_same, .nil, Nat.le_refl _, h0⟩, ?_⟩
  rintro i m H' ⟨rfl, hi, S', kvs, ys, ex, ko, ks, gd, hD', ra, rw2, iv⟩
  have k := it i _ S' H' ex ko ks gd
  by_cases hlt : i < xs.length
  · have hx : xs[i]? = some xs[i] := List.getElem?_eq_getElem hlt
    obtain ⟨go, yl⟩ := k.1 _ hx
    refine .inr ⟨go, fun H2 => ∃ S2 kvs ys, Ex S S2 ∧ (∀ a, O a → H2 a = H a) ∧ (∀ a, S a ≠ none → H2 a = H a) ∧ Good (Wi (i + 1)) (fun a => O a ∨ a = D) S2 H2 ∧ H2 D = some (.dK kvs) ∧ RepKV K S2 kvs (puts [] ys) ∧ ys.length ≤ i + 1 ∧ Inv (i + 1) ys,
      fun H2 ⟨S2, acc2, ys2, e1, e2, e3, e4, e5, e6, e7, e8⟩ => ⟨xs.length - (i + 1), by omega, rfl, hlt, S2, acc2, ys2, e1, e2, e3, e4, e5, e6, e7, e8⟩, fun v H2 y => ?_⟩
    obtain ⟨S2, m2, rv⟩ := yl v H2 y
    have sl' : Sl K S2 H2 σ δ := by
      refine ⟨s.sl.1, fun j d hd => ?_⟩
      obtain ⟨ov, e, ok⟩ := s.sl.2 j d hd
      exact ⟨ov, e, ok.mv (ex.trans m2.ex) fun ho a ea => (m2.keep a (.inl (s.own a ⟨j, d, hd, ho, by rw [e, ea]⟩))).trans (ko a (s.own a ⟨j, d, hd, ho, by rw [e, ea]⟩))⟩
    have st : Stt (Wi i) K (fun a => O a ∨ a = D) S2 H2 σ δ := ⟨m2.good, sl', fun a h => .inl (s.own a h)⟩
    refine hb i _ _ hx iv _ S2 H2 σ v (st.wipe vs) rv _ fun σ3 δ3 st3 hw3 ht3 => ⟨hw3, ?_⟩
    obtain ⟨W1, W2, le1, ht3⟩ := ht3
    refine ht3 _ S2 H2 σ3 st3 _ fun b S4 H4 m4 hb4 => ?_
    have m24 := m2.trans m4
    cases b with
    | false =>
      show ∃ S2 kvs ys, _
      refine ⟨S4, kvs, ys, ex.trans m24.ex, fun a h => (m24.keep a (.inl h)).trans (ko a h), fun a h => (m24.stay a (ex.nn h)).trans (ks a h), m24.good.wle le1, (m24.keep D (.inr rfl)).trans hD', RepKV.mono m24.ex ra, Nat.le_succ_of_le rw2, ?_⟩
      have z : Inv (i + 1) (ys ++ []) := hb4.2 rfl
      rw [List.append_nil] at z
      exact z
    | true =>
      show tk σ3 H4 _
      refine hb4.1 rfl _ S4 H4 σ3 (st3.mv m4) _ fun v5 S5 H5 k5 m5 r5 hR => ?_
      refine hR _ S5 H5 σ3 ((st3.mv m4).mv m5) _ fun v6 S6 H6 y6 m6 r6 hR6 => ?_
      have m26 := (m24.trans m5).trans m6
      have hD6 : H6 D = some (.dK kvs) := (m26.keep D (.inr rfl)).trans hD'
      have ra6 : RepKV K S6 kvs (puts [] ys) := RepKV.mono m26.ex ra
      have ek : v5 = kV (DKey.key k5) := (Flat.flat.mp r5).trans (DKey.kv k5).symm
      refine ⟨kvs, DKey.key k5, ek, hD6, ?_, S6, putK kvs (DKey.key k5) v6, ys ++ [(k5, y6)], ex.trans m26.ex, fun a h => ?_, fun a h => ?_, wr m26.good, upd_same, ?_, by rw [List.length_append]; exact Nat.succ_le_succ rw2, hR6⟩
      · have l1 := repkv_len ra6
        have l4 := pl ys
        have l3 : kvs.length < 100001 := by omega
        exact Nat.lt_of_lt_of_le l3 (by decide)
      · rw [upd_ne fun z => by
          have w := s.g.oH a h
          rw [z, hD] at w
          exact w rfl, m26.keep a (.inl h)]
        exact ko a h
      · rw [upd_ne fun z => by
          have w := s.g.sub.nn hD
          rw [← z] at w
          exact h w, m26.stay a (ex.nn h)]
        exact ks a h
      · rw [sn]
        exact repkv_put r6 ra6 (puts_nodup List.nodup_nil)
  · have e : i = xs.length := by omega
    subst e
    refine .inl ⟨k.2 rfl, q D kvs S' H' ys ⟨ex, ko, ks, gd.less fun _ h => .inl h⟩ ⟨hD', gd.oS D (.inr rfl), fun h => gd.fpO D h (.inr rfl), fun h => s.g.oH D h hD⟩ ra iv⟩
variable {ε : Type} [Rep ε] {wi : TI} {g : TG} {tt : TT} {vs : List Nat}
/-- a dict comprehension -/
def compM {ε κ α : Type} [DecidableEq κ] (B : ε → (Option (κ × α) → Prop) → Prop) (k : List (κ × α) → Prop) (xs : List ε) : Prop := compW B (fun ys => k (puts [] ys)) xs []
theorem eg_dcW {B : ε → (Option (κ × α) → Prop) → Prop} {k : List (κ × α) → Prop} (h : EvIO W W1 K wi δ fun xs : List ε => xs.length ≤ 100000 ∧ compM B k xs) (hb : ∀ x (R : Option (κ × α) → Prop), B x R → BdM W1 W1 K g tt tk tv vs x δ R) : EvG W W1 K (tDc wi g tt tk tv vs) δ k := fun O S H σ s Q q =>
  h O S H σ s _ fun J S1 H1 xs m it ⟨hz, w⟩ => dc_runW (fun _ => W1) (Inv := fun i ys => compW B (fun ys => k (puts [] ys)) (xs.drop i) ys) it (s.mv m) hz w (fun i x ys hx hw => hb x _ (compW_drop hx hw)) fun a vs' S2 H2 ys m2 f r rw => q a vs' S2 H2 _ (m.trans m2) f r (puts_nodup List.nodup_nil) (by
    rw [List.drop_length] at rw
    exact rw)
theorem eg_dcKW {ι ω : Type} [DKey ι] [Rep ω] {B : ε → (Option (κ × α) → Prop) → Prop} {k : List (κ × α) → Prop} {dc : Dc ι ω} {ys : List ε} (hi : δ[i]? = some (sD dc)) (hw : EvK W K wi i δ ys) (h : ys.length ≤ 100000 ∧ compM B k ys) (hb : ∀ x (R : Option (κ × α) → Prop), B x R → BdM W W K g tt tk tv vs x δ R) :
    EvG W W K (tLockOE (tDc wi g tt tk tv vs)) δ k := fun O S H σ s Q q => by
  obtain ⟨ov, e, v, ev, a, kvs, ea, ha, rv, nd⟩ := s.sl.2 i _ hi
  subst ev ea
  have fin : ∀ zs, compW B (fun ys => k (puts [] ys)) (ys.drop ys.length) zs → k (puts [] zs) := fun zs w => by
    rw [List.drop_length] at w
    exact w
  rcases s.g.sub a _ ha with h' | ⟨hx, ob, h'⟩
  · refine .inl ⟨a, _, h', trivial, fun od => ?_⟩
    have s1 := s.relock ha (.frz od (.dK kvs)) (.inr ⟨trivial, od, rfl⟩)
    refine hw O S _ σ s1 a kvs od e ha upd_same _ fun J it => dc_runW (fun _ => W) (Inv := fun i ys' => compW B (fun ys => k (puts [] ys)) (ys.drop i) ys') (Q := fun v H' => H' a = some (HO.frz od (HO.dK kvs)) ∧ Q v (upd H' a (HO.dK kvs))) it s1 h.1 h.2 (fun i x ys hx hw => hb x _ (compW_drop hx hw)) fun D vs' S' H' zs m f r rw => ?_
    have k := Mv.unlock s.g h' ha m
    exact ⟨k.1, q D vs' S' _ _ k.2 (f.relock m.good (m.ex _ _ ha)) r (puts_nodup List.nodup_nil) (fin zs rw)⟩
  · exact .inr (hw O S _ σ s a kvs ob e ha h' _ fun J it => dc_runW (fun _ => W) (Inv := fun i ys' => compW B (fun ys => k (puts [] ys)) (ys.drop i) ys') it s h.1 h.2 (fun i x ys hx hw => hb x _ (compW_drop hx hw)) fun D vs' S' H' zs m f r rw => q D vs' S' H' _ m f r (puts_nodup List.nodup_nil) (fin zs rw))
end
end DW
set_option maxHeartbeats 4000000
/-! DW: a def's promise by its body; data that are never None; equal data -/
namespace DW
open PySem PySem.Spec PyProof.Rows L2
/-- a def that is called by its name: its promise, at a depth of at most k -/
def CalD (P : Program) (w : World) (K : Frag) (mg : Str → Option Value) (base : Heap) (k : Nat) (x : Str) (sp : Sp) (dvs : List V) : Prop :=
  ∃ (fa : Addr) (fd : FuncData) (ps : List Str) (ds : List Value), mg x = some (.ref fa) ∧ FnOk P w K mg base CX0 k fa fd ps sp ∧ Vals dvs ds ∧ Binds K fd ps ds ∧ PySem.W.keepIn K (.ref fa) = true
theorem pe_cd {X : Cx} {k j : Nat} {x : Str} {sp : Sp} {dvs : List V} {e : Expr} {es : List Expr} {t : TA} {p pos : Pos} (c : CalD X.prog X.w X.K X.mg X.base k x sp dvs) (room : Room j X.A) (le : k ≤ j) (gl : Gl X x) (args : PA X (e :: es) t)
    (nd : (x == ("__debug__" : Str)) = false := by decide) (ns : starEach (e :: es) X.env = (false, eval e X.env) :: starEach es X.env := by rfl) (np : (backTo pos (starEach es X.env)).any (·.1) = false := by rfl) :
    PE X (.Call (.Name x p) (e :: es) [] pos) (tCall sp dvs E0 t) := by
  obtain ⟨fa, fd, ps, ds, h1, h2, h3, h4, h5⟩ := c
  exact pe_call h2 (room.mono le) gl h1 h5 h4 h3 pass0 args nd ns np
section
variable {P : Program} {w : World} {K : Frag} {mg : Str → Option Value} {base : Heap} {γ β : Type} [RepA γ] [Rep β]
theorem start_cf {W : Wd} {O : Addr → Prop} {S H : Hp} {N ps : List Str} {vs : List V} {g : γ} (gd : Good W O S H) (r : RepA.repA W K S vs g) (ha : RepA.arity γ = ps.length) (hn : ps.length ≤ N.length) :
    Cf W K O S H (L2.start N vs) (RepA.slots W g ++ List.replicate (N.length - ps.length) DSlot.non) := by
  have l1 : vs.length = ps.length := (RepA.len r).trans ha
  have l2 : (RepA.slots W g).length = ps.length := (RepA.slen W g).trans ha
  have at_ : ∀ (i : Nat) (d : DSlot), (RepA.slots W g ++ List.replicate (N.length - ps.length) DSlot.non)[i]? = some d → d.own = false ∧ ∃ ov, (L2.start N vs)[i]? = some ov ∧ SlotOk K S H ov d := fun i d hd => by
    unfold L2.start
    by_cases hi : i < ps.length
    · rw [List.getElem?_append_left (by rw [l2]; exact hi)] at hd
      obtain ⟨v, e, ok, no⟩ := RepA.ok r i d hd
      refine ⟨no, some v, ?_, ok⟩
      rw [List.getElem?_append_left (by rw [List.length_map, l1]; exact hi), List.getElem?_map, e] <;> rfl
    · rw [List.getElem?_append_right (by rw [l2]; omega), l2, List.getElem?_replicate] at hd
      split at hd
      · rename_i h2
        cases hd
        refine ⟨rfl, none, ?_, trivial⟩
        rw [List.getElem?_append_right (by rw [List.length_map, l1]; omega), List.getElem?_replicate, List.length_map, l1, if_pos h2]
      · cases hd
  have no : ∀ a, ¬ OwnAt (L2.start N vs) (RepA.slots W g ++ List.replicate (N.length - ps.length) DSlot.non) a := fun a ⟨i, d, h1, h2, _⟩ => by
    rw [(at_ i d h1).1] at h2
    cases h2
  refine ⟨gd.less fun a h => h.elim id fun z => (no a z).elim, ⟨?_, fun i d hd => (at_ i d hd).2⟩, fun i j d e a h1 h2 h3 => (no a ⟨i, d, h1, h2, h3⟩).elim, fun a h => (no a h).elim⟩
  unfold L2.start
  rw [List.length_append, List.length_append, List.length_map, List.length_replicate, List.length_replicate, l1, l2]
theorem sd_run {W : Wd} {O : Addr → Prop} {S H : Hp} {σ : L2.St} {δ : DEnv} {t : TS} {D : DE β} (h : Sd W K t δ D) (c : Cf W K O S H σ δ) {Q : VK} {We : Wd} {P : β → Prop} (hb : ∀ W' δ', D.bk W' δ' → False) (hc : ∀ W' δ', D.ct W' δ' → False)
    (hn : ∀ W' δ', D.nx W' δ' → Wle W' We ∧ ∃ y, P y ∧ ∀ K S, rep K S .non y) (hr : D.rt = rtW We P) (q : ∀ v S' H' y, Mv We O S H S' H' → rep K S' v y → P y → Q v H') : t { nx := fun _ H' => Q .non H', rt := Q } σ H :=
  h O S H σ c _ ⟨fun S' H' σ' δ' m c' n => by
    obtain ⟨le, y, p, r⟩ := hn _ δ' n
    exact q .non S' H' y (m.mv (Mv.refl (c'.good.wle le))) (r K S') p, fun _ _ _ δ' _ _ n => (hb _ δ' n).elim, fun _ _ _ δ' _ _ n => (hc _ δ' n).elim, fun v S' H' y m r p => by
    rw [hr] at p
    exact q v S' H' y (m.wle p.1) r p.2⟩
variable {x : Str} {st : Stmt} {f : Addr} {fd : FuncData} {N ps : List Str} {k : Nat} {Wp : Wd → Wd → Prop} {Fp : γ → (β → Prop) → Prop}
/-- THE RULE for a def without defaults -/
theorem cal_gen (nxk : (β → Prop) → Prop) (hnx : ∀ Q, nxk Q → ∃ y, Q y ∧ ∀ K S, rep K S .non y) (F : Fun K x x st f fd) (hm : mg x = some (.ref f)) (b : Binds K fd ps []) (S : FnScope N ps (defScope st)) (ha : RepA.arity γ = ps.length) (hn : ps.length ≤ N.length)
    (hb : ∀ (cdv : Value) (A : Around) (outer : List Env) (s : Shared) (H : Hp) (E : XK), Room k (A.deeper (envOfC x (defScope st) s.heap.objs.size f cdv)) →
      ∃ t, PSs (cxOf CX0 P w K mg base N x (defScope st) f cdv A outer s H E).nox (defBody st) t ∧ ∀ (W W' : Wd), Wp W W' → ∀ (g : γ) (Q : β → Prop), Fp g Q → Sd W K t (RepA.slots W g ++ List.replicate (N.length - ps.length) DSlot.non) { nx := fun W1 _ => Wle W1 W' ∧ nxk Q, rt := rtW W' Q }) :
    CalD P w K mg base (k + 1) x (spD K Wp Fp) [] := by
  refine ⟨f, fd, ps, [], hm, F.ok S (fun vs H Q E h => ?_) (fun cdv A outer s H vs Q E hr h => ?_), .nil, b, F.kp⟩
  · obtain ⟨W, W', O, S', g, Q', h1, h2, h3, h4, h5⟩ := h
    exact (RepA.len h3).trans ha
  · obtain ⟨W, W', O, S', g, Q', h1, h2, h3, h4, h5⟩ := h
    obtain ⟨t, ht, hs⟩ := hb cdv A outer s H E hr
    exact ⟨t, ht, sd_run (hs W W' h1 g Q' h4) (start_cf h2 h3 ha hn) (fun _ _ h => h) (fun _ _ h => h) (fun _ _ h => ⟨h.1, hnx Q' h.2⟩) rfl h5⟩
theorem cal_ok (F : Fun K x x st f fd) (hm : mg x = some (.ref f)) (b : Binds K fd ps []) (S : FnScope N ps (defScope st)) (ha : RepA.arity γ = ps.length) (hn : ps.length ≤ N.length)
    (hb : ∀ (cdv : Value) (A : Around) (outer : List Env) (s : Shared) (H : Hp) (E : XK), Room k (A.deeper (envOfC x (defScope st) s.heap.objs.size f cdv)) →
      ∃ t, PSs (cxOf CX0 P w K mg base N x (defScope st) f cdv A outer s H E).nox (defBody st) t ∧ ∀ (W W' : Wd), Wp W W' → ∀ (g : γ) (Q : β → Prop), Fp g Q → Sd W K t (RepA.slots W g ++ List.replicate (N.length - ps.length) DSlot.non) { nx := fun _ _ => False, rt := rtW W' Q }) :
    CalD P w K mg base (k + 1) x (spD K Wp Fp) [] :=
  cal_gen (fun _ => False) (fun _ h => h.elim) F hm b S ha hn fun cdv A outer s H E hr => by
    obtain ⟨t, h1, h2⟩ := hb cdv A outer s H E hr
    exact ⟨t, h1, fun W W' hW g Q h => (h2 W W' hW g Q h).imp (fun _ _ z => z.elim) fun _ _ z => z⟩
end
/-- .. that ends without return -/
theorem cal_okU {P : Program} {w : World} {K : Frag} {mg : Str → Option Value} {base : Heap} {γ : Type} [RepA γ] {x : Str} {st : Stmt} {f : Addr} {fd : FuncData} {N ps : List Str} {k : Nat} {Wp : Wd → Wd → Prop} {Fp : γ → (Unit → Prop) → Prop}
    (F : Fun K x x st f fd) (hm : mg x = some (.ref f)) (b : Binds K fd ps []) (S : FnScope N ps (defScope st)) (ha : RepA.arity γ = ps.length) (hn : ps.length ≤ N.length)
    (hb : ∀ (cdv : Value) (A : Around) (outer : List Env) (s : Shared) (H : Hp) (E : XK), Room k (A.deeper (envOfC x (defScope st) s.heap.objs.size f cdv)) →
      ∃ t, PSs (cxOf CX0 P w K mg base N x (defScope st) f cdv A outer s H E).nox (defBody st) t ∧ ∀ (W W' : Wd), Wp W W' → ∀ (g : γ) (Q : Unit → Prop), Fp g Q → Sd W K t (RepA.slots W g ++ List.replicate (N.length - ps.length) DSlot.non) { nx := fun W1 _ => Wle W1 W' ∧ Q (), rt := rtW W' Q }) :
    CalD P w K mg base (k + 1) x (spD K Wp Fp) [] := cal_gen (fun Q => Q ()) (fun _ h => ⟨(), h, fun _ _ => rfl⟩) F hm b S ha hn hb

/-- .. with defaults: how the arguments bind is told apart -/
theorem cal_okD {P : Program} {w : World} {K : Frag} {mg : Str → Option Value} {base : Heap} {γ β : Type} [RepA γ] [Rep β] {x : Str} {pa : Arguments} {bdy : List Stmt} {sc : Scope} {dfl dvs : List V} {f : Addr} {fd : FuncData} {N ps : List Str} {k : Nat} {Wp : Wd → Wd → Prop} {Fp : γ → (β → Prop) → Prop}
    (F : FunD K x x pa bdy sc dfl [] f fd) (hm : mg x = some (.ref f)) (b : ∃ ds, Vals dvs ds ∧ Binds K fd ps ds) (S : FnScope N ps sc) (ha : RepA.arity γ = ps.length) (hn : ps.length ≤ N.length)
    (hb : ∀ (cdv : Value) (A : Around) (outer : List Env) (s : Shared) (H : Hp) (E : XK), Room k (A.deeper (envOfC x sc s.heap.objs.size f cdv)) →
      ∃ t, PSs (cxOf CX0 P w K mg base N x sc f cdv A outer s H E) bdy t ∧ ∀ (W W' : Wd), Wp W W' → ∀ (g : γ) (Q : β → Prop), Fp g Q → Sd W K t (RepA.slots W g ++ List.replicate (N.length - ps.length) DSlot.non) { nx := fun _ _ => False, rt := rtW W' Q }) :
    CalD P w K mg base (k + 1) x (spD K Wp Fp) dvs := by
  obtain ⟨ds, hv, hbd⟩ := b
  refine ⟨f, fd, ps, ds, hm, F.ok S (fun vs H Q E h => ?_) (fun cdv A outer s H vs Q E hr h => ?_), hv, hbd, F.kp⟩
  · obtain ⟨W, W', O, S', g, Q', h1, h2, h3, h4, h5⟩ := h
    exact (RepA.len h3).trans ha
  · obtain ⟨W, W', O, S', g, Q', h1, h2, h3, h4, h5⟩ := h
    obtain ⟨t, ht, hs⟩ := hb cdv A outer s H E hr
    exact ⟨t, ht, sd_run (hs W W' h1 g Q' h4) (start_cf h2 h3 ha hn) (fun _ _ h => h) (fun _ _ h => h) (fun _ _ h => h.elim) rfl h5⟩

/-! ### never None -/
class NN (α : Type) extends Rep α where
  nn : ∀ {K : Frag} {S : Hp} {v : V} {x : α}, rep K S v x → v ≠ .non
instance : NN Int := ⟨fun h e => by rw [show _ = V.int _ from h] at e; cases e⟩
instance : NN Bool := ⟨fun h e => by rw [show _ = V.bl _ from h] at e; cases e⟩
instance : NN Str := ⟨fun h e => by rw [show _ = V.str _ from h] at e; cases e⟩
instance {α : Type} [Rep α] : NN (List α) := ⟨fun h e => by obtain ⟨a, vs, h1, _⟩ := h; rw [h1] at e; cases e⟩
instance {α : Type} [Rep α] : NN (Tp α) := ⟨fun h e => by obtain ⟨a, vs, h1, _⟩ := h; rw [h1] at e; cases e⟩
instance {α β : Type} [Rep α] [Rep β] : NN (α × β) := ⟨fun h e => by obtain ⟨a, v1, v2, h1, _⟩ := h; rw [h1] at e; cases e⟩
instance {α β γ : Type} [Rep α] [Rep β] [Rep γ] : NN (T3 α β γ) := ⟨fun h e => by obtain ⟨a, v1, v2, v3, h1, _⟩ := h; rw [h1] at e; cases e⟩
instance {α β γ ζ : Type} [Rep α] [Rep β] [Rep γ] [Rep ζ] : NN (T4 α β γ ζ) := ⟨fun h e => by obtain ⟨a, v1, v2, v3, v4, h1, _⟩ := h; rw [h1] at e; cases e⟩
instance {κ α : Type} [DKey κ] [Rep α] : NN (Dc κ α) := ⟨fun h e => by obtain ⟨a, vs, h1, _⟩ := h; rw [h1] at e; cases e⟩
theorem ev_some {α : Type} [n : NN α] {W : Wd} {K : Frag} {te : TE} {δ : DEnv} {P : Option α → Prop} (h : Ev W W1 K te δ fun x : α => P (some x)) : Ev W W1 K te δ P := ev_someO h n.nn
end DW
set_option maxHeartbeats 4000000
/-! DW: more rules: ways told once, named results, equal data, sorted, index, zip, pairs to a dict -/
namespace DW
open PySem PySem.Spec PyProof.Rows L2

/-! ### what follows, told once -/
def altW {β : Type} (f : (β → Prop) → Prop) (k : β → Prop) : Prop := f k
def joinW {β : Type} (f : (β → Prop) → Prop) (k : β → Prop) : Prop := f k
def AnyW (W W' : Wd) : Prop := W = W'
theorem hu64 {A : Around} {k : Nat} (hr : Room k A) : A.units + 64 < cLine := hr.units
section
variable {W W1 W2 W3 W4 : Wd} {K : Frag} {O : Addr → Prop} {S H S1 H1 S2 H2 : Hp} {σ : L2.St} {δ : DEnv} {α β γ κ : Type} [Rep α] [Rep β] [RepA γ] [DKey κ] {D : DE β} {te tk tv ta tb : TE} {tt : TT} {t u : TS} {tr : TA} {i : Nat}
theorem ev_alt {f : (α → Prop) → Prop} {k P : α → Prop} (w : altW f k) (h : f k → Ev W W1 K te δ k) (hk : ∀ y, k y → P y) : Ev W W1 K te δ P := (h w).imp hk
theorem et_alt {f : (Bool → Prop) → Prop} {k P : Bool → Prop} (w : altW f k) (h : f k → EvT W W1 K tt δ k) (hk : ∀ y, k y → P y) : EvT W W1 K tt δ P := (h w).imp hk
theorem EvG.imp {P P' : List (κ × α) → Prop} (h : EvG W W1 K te δ P) (f : ∀ x, P x → P' x) : EvG W W1 K te δ P' := fun O S H σ s Q q => h O S H σ s Q fun a vs S' H' x m r l nd p => q a vs S' H' x m r l nd (f x p)
theorem sd_joinW {ς : Type} (Wj : Wd) (enc : ς → DEnv) {f : (ς → Prop) → Prop} {k : ς → Prop} (w : joinW f k) (h : f k → Sd W K t δ { D with nx := fun W' δ' => ∃ s, δ' = enc s ∧ Wle W' Wj ∧ k s }) (hr : ∀ s, k s → Sd Wj K u (enc s) D) : Sd W K (tSeq t u) δ D := sd_join Wj enc hr (h w)
theorem ea_consZ {P : α × γ → Prop} (h : Ev W W1 K te δ fun x : α => ∀ z, z = x → EvA W1 W2 K tr δ fun r : γ => P (z, r)) : EvA W W2 K (tCons te tr) δ P := ea_cons (h.imp fun x q => q x rfl)
theorem sd_asgTZ {g : TG} (h : Ev W W1 K te δ fun x : α => ∀ z, z = x → Tg W1 K g z δ (D.nx W1)) : Sd W K (tAsg te g) δ D := sd_asgT (h.imp fun x q => q x rfl)
theorem sd_putZ {α κ : Type} [rk : DKey κ] [DecidableEq κ] [ri : Rep α] {xs : List (κ × α)} (hi : δ[i]? = some (.od rk ri xs)) (h : Ev W W1 K tv δ fun x : α => Ev W1 W2 K tk δ fun k : κ => xs.length < 100000 ∧ ∀ z, z = put xs k x → D.nx W2 (δ.set i (sM z))) :
    Sd W K (sDPut (tVar i) tk tv) δ D := sd_put hi (h.imp fun x q => q.imp fun k r => ⟨r.1, r.2 _ rfl⟩)
theorem sd_augZ {a : Int} (hi : δ[i]? = some (sD a)) (h : Ev W W1 K te δ fun b : Int => ∀ z, z = a + b → D.nx W1 (δ.set i (sD z))) : Sd W K (tAug i te (ipI fun i j => i + j)) δ D := sd_aug (α := Unit) (f := fun i j => i + j) hi (h.imp fun b q => q _ rfl)
theorem sd_appendZ {α : Type} [ri : Rep α] {xs : List α} (hi : δ[i]? = some (.ol ri xs)) (h : Ev W W1 K te δ fun y : α => xs.length < 100000 ∧ ∀ z, z = xs ++ [y] → D.nx W1 (δ.set i (sL z))) : Sd W K (tDrop (tBM K "list" rAppend (tVar i) (tCons te tNil))) δ D :=
  sd_append hi (h.imp fun y q => ⟨q.1, q.2 _ rfl⟩)
/-- a tuple that the top has made -/
theorem ev_tabT {P : α → Prop} {a : Addr} {x : α} (h : ∀ S, rep K S (.ref a) x) (p : P x) : Ev W W K (tC (.ref a)) δ P := fun O S H σ s Q q => q _ S H x (Mv.refl s.g) (h S) p
end
/-! ### equal data -/
class PyD (α : Type) [DecidableEq α] extends Rep α where
  d : α → PyData
  dp : ∀ {K : Frag} {S H : Hp} {v : V} {x : α}, Sub S H → rep K S v x → Dp K H v (d x)
  shape : ∀ x : α, (d x).canLay0 = true
  dep : Nat
  deep : ∀ x : α, (d x).depth ≤ dep
  eq : ∀ x y : α, PyData.eqv (d x) (d y) = decide (x = y)
instance : PyD Int where
  d := .int
  dp := fun _ h => by rw [show _ = V.int _ from h]; exact .int _
  shape _ := by simp [PyData.canLay0]
  dep := 1
  deep _ := by simp [PyData.depth]
  eq x y := by
    unfold PyData.eqv
    exact Bool.eq_iff_iff.mpr (by simp)
instance {α : Type} [DecidableEq α] : DecidableEq (Tp α) := fun x y => decidable_of_iff (x.l = y.l) ⟨fun h => by cases x; cases y; cases h; rfl, fun h => by rw [h]⟩
instance {α β γ : Type} [DecidableEq α] [DecidableEq β] [DecidableEq γ] : DecidableEq (T3 α β γ) := fun x y => decidable_of_iff (x.a = y.a ∧ x.b = y.b ∧ x.c = y.c) ⟨fun ⟨h1, h2, h3⟩ => by cases x; cases y; cases h1; cases h2; cases h3; rfl, fun h => by rw [h]; exact ⟨rfl, rfl, rfl⟩⟩
section
variable {α : Type} [DecidableEq α] [p : PyD α]
theorem dp_all {K : Frag} {S H : Hp} (s : Sub S H) : ∀ {vs : List V} {xs : List α}, Reps K S vs xs → DpAll K H vs (xs.map p.d)
  | _, _, .nil => .nil
  | _, _, .cons r t => .cons (p.dp s r) (dp_all s t)
theorem shape_all : ∀ xs : List α, PyData.canLayAll0 (xs.map p.d) = true
  | [] => by simp [PyData.canLayAll0]
  | x :: xs => by simp [PyData.canLayAll0, p.shape x, shape_all xs]
theorem deep_all : ∀ xs : List α, PyData.depthAll (xs.map p.d) ≤ p.dep
  | [] => by simp [PyData.depthAll]
  | x :: xs => by
    have h1 := deep_all xs
    have h2 := p.deep x
    simp only [List.map_cons, PyData.depthAll]
    omega
theorem eq_all : ∀ xs ys : List α, PyData.eqvAll (xs.map p.d) (ys.map p.d) = decide (xs = ys)
  | [], [] => by simp [PyData.eqvAll]
  | [], y :: ys => by simp [PyData.eqvAll]
  | x :: xs, [] => by simp [PyData.eqvAll]
  | x :: xs, y :: ys => by
    simp only [List.map_cons, PyData.eqvAll]
    rw [p.eq, eq_all xs ys]
    exact Bool.eq_iff_iff.mpr (by simp)
end
instance {α : Type} [DecidableEq α] [p : PyD α] : PyD (List α) where
  d xs := .list (xs.map p.d)
  dp := fun s h => by
    obtain ⟨a, vs, e, ha, r⟩ := h
    subst e
    exact .lst (.inl (.inl (s.lst ha))) (dp_all s r)
  shape xs := by
    simp only [PyData.canLay0]
    exact shape_all xs
  dep := p.dep + 1
  deep xs := by
    have h := deep_all xs
    simp only [PyData.depth]
    omega
  eq xs ys := by
    unfold PyData.eqv
    rw [eq_all]
instance {α : Type} [DecidableEq α] [p : PyD α] : PyD (Tp α) where
  d xs := .tuple (xs.l.map p.d)
  dp := fun s h => by
    obtain ⟨a, vs, e, ha, r⟩ := h
    subst e
    exact .tup (s.sqT ha) (dp_all s r)
  shape xs := by
    simp only [PyData.canLay0]
    exact shape_all xs.l
  dep := p.dep + 1
  deep xs := by
    have h := deep_all xs.l
    simp only [PyData.depth]
    omega
  eq xs ys := by
    unfold PyData.eqv
    rw [eq_all]
    cases xs
    cases ys
    exact Bool.eq_iff_iff.mpr (by simp)
instance {α β : Type} [DecidableEq α] [DecidableEq β] [p : PyD α] [r : PyD β] : PyD (α × β) where
  d x := .tuple [p.d x.1, r.d x.2]
  dp := fun s h => by
    obtain ⟨a, v1, v2, e, ha, r1, r2⟩ := h
    subst e
    exact .tup (s.sqT ha) (.cons (p.dp s r1) (.cons (r.dp s r2) .nil))
  shape x := by simp [PyData.canLay0, PyData.canLayAll0, p.shape, r.shape]
  dep := max p.dep r.dep + 1
  deep x := by
    have h1 := p.deep x.1
    have h2 := r.deep x.2
    simp only [PyData.depth, PyData.depthAll]
    omega
  eq x y := by
    unfold PyData.eqv
    simp only [PyData.eqvAll, p.eq, r.eq, Bool.and_true]
    obtain ⟨x1, x2⟩ := x
    obtain ⟨y1, y2⟩ := y
    exact Bool.eq_iff_iff.mpr (by simp)
instance {α β γ : Type} [DecidableEq α] [DecidableEq β] [DecidableEq γ] [p : PyD α] [r : PyD β] [t : PyD γ] : PyD (T3 α β γ) where
  d x := .tuple [p.d x.a, r.d x.b, t.d x.c]
  dp := fun s h => by
    obtain ⟨a, v1, v2, v3, e, ha, r1, r2, r3⟩ := h
    subst e
    exact .tup (s.sqT ha) (.cons (p.dp s r1) (.cons (r.dp s r2) (.cons (t.dp s r3) .nil)))
  shape x := by simp [PyData.canLay0, PyData.canLayAll0, p.shape, r.shape, t.shape]
  dep := max p.dep (max r.dep t.dep) + 1
  deep x := by
    have h1 := p.deep x.a
    have h2 := r.deep x.b
    have h3 := t.deep x.c
    simp only [PyData.depth, PyData.depthAll]
    omega
  eq x y := by
    unfold PyData.eqv
    simp only [PyData.eqvAll, p.eq, r.eq, t.eq, Bool.and_true]
    obtain ⟨x1, x2, x3⟩ := x
    obtain ⟨y1, y2, y3⟩ := y
    exact Bool.eq_iff_iff.mpr (by simp)
section
variable {W W1 W2 W3 W4 : Wd} {K : Frag} {δ : DEnv} {α : Type} [DecidableEq α] [p : PyD α] {ta tb : TE}
theorem shaped_of (h : p.dep ≤ 64) (x : α) : SeqAt.shaped (p.d x) = true := by
  unfold SeqAt.shaped
  rw [Bool.and_eq_true]
  exact ⟨p.shape x, decide_eq_true (Nat.le_trans (p.deep x) h)⟩
theorem ev_eqP {P : Bool → Prop} {r0 : R2} (inc : ∀ {x y H Q}, rEqD K x y H Q → r0 x y H Q) (h : Ev W W1 K ta δ fun x : α => Ev W1 W2 K tb δ fun y : α => P (decide (x = y))) (hd : p.dep ≤ 64 := by decide) : Ev W W2 K (tOp r0 ta tb) δ P :=
  ev_two h fun O S H v u x y gd r1 r2 pp Q q => inc ⟨_, _, p.dp gd.sub r1, p.dp gd.sub r2, shaped_of hd x, shaped_of hd y, by
    rw [p.eq]
    exact q _ S H _ (Mv.refl gd) rfl pp⟩
theorem ev_neP {P : Bool → Prop} {r0 : R2} (inc : ∀ {x y H Q}, rNeD K x y H Q → r0 x y H Q) (h : Ev W W1 K ta δ fun x : α => Ev W1 W2 K tb δ fun y : α => P (!decide (x = y))) (hd : p.dep ≤ 64 := by decide) : Ev W W2 K (tOp r0 ta tb) δ P :=
  ev_two h fun O S H v u x y gd r1 r2 pp Q q => inc ⟨_, _, p.dp gd.sub r1, p.dp gd.sub r2, shaped_of hd x, shaped_of hd y, by
    rw [p.eq]
    exact q _ S H _ (Mv.refl gd) rfl pp⟩
end
section
variable {W W1 W2 W3 W4 : Wd} {K : Frag} {O : Addr → Prop} {S H S1 H1 S2 H2 : Hp} {σ : L2.St} {δ : DEnv} {α β γ κ : Type} [Rep α] [Rep β] [RepA γ] [DKey κ] {D : DE β} {te tk tv ta tb : TE} {tt : TT} {t u : TS} {tr : TA} {i : Nat}
/-- ints, or None -/
theorem ev_eqO {P : Bool → Prop} {r0 : R2} (inc : ∀ {x y H Q}, rEq x y H Q → r0 x y H Q) (h : Ev W W1 K ta δ fun x : Option Int => Ev W1 W2 K tb δ fun y : Option Int => P (decide (x = y))) : Ev W W2 K (tOp r0 ta tb) δ P :=
  ev_two h fun O S H v u x y gd r1 r2 pp Q q => by
    cases x with
    | none =>
      obtain rfl : v = .non := r1
      cases y with
      | none =>
        obtain rfl : u = .non := r2
        exact inc ⟨rfl, q _ S H _ (Mv.refl gd) rfl pp⟩
      | some j =>
        obtain rfl : u = .int j := r2.2
        exact inc ⟨rfl, q _ S H _ (Mv.refl gd) (by show _ = _; simp) pp⟩
    | some i =>
      obtain rfl : v = .int i := r1.2
      cases y with
      | none =>
        obtain rfl : u = .non := r2
        exact inc ⟨rfl, q _ S H _ (Mv.refl gd) (by show _ = _; simp) pp⟩
      | some j =>
        obtain rfl : u = .int j := r2.2
        exact inc ⟨rfl, q _ S H _ (Mv.refl gd) (by show _ = _; simp) pp⟩
/-! ### lists made of dicts, dicts of pairs, sorted, index -/
theorem repkv_keys {kvs : List (Key × V)} {xs : List (κ × α)} : RepKV K S kvs xs → Reps K S (kvs.map fun kv => kV kv.1) (xs.map Prod.fst)
  | .nil => .nil
  | .cons (a := b) (b := y) r t => by
    obtain ⟨k, v⟩ := b
    have e1 : k = DKey.key y.1 := r.1
    subst e1
    exact .cons (Flat.flat.mpr (DKey.kv _)) (repkv_keys t)
theorem ef_listD {P : List κ → Prop} (h : EvCD W W1 K ta δ fun xs : List (κ × α) => P (xs.map Prod.fst)) : EvF W W1 K (tCB (fun xs H Q => ∃ (a : Addr) (kvs : List (Key × V)), xs = [.ref a] ∧ Rd H a (.dK kvs) ∧ ∀ p, H p = none → Q (.ref p) (upd H p (.lst (kvs.map fun kv => kV kv.1)))) (tCons ta tNil)) δ P := fun O S H σ s Q q =>
  h O S H σ s _ fun a kvs S1 H1 xs m l r nd p => ⟨a, kvs, rfl, l.rd m.good.sub, fun b hb => q b _ S1 _ _ (m.trans (Mv.temp m.good hb)) (Fresh.new m.good hb) (repkv_keys r) p⟩
theorem pairs_kvs {vs : List V} {xs : List (κ × α)} (s : Sub S H) : Reps K S vs xs → ∃ (ps : List Addr) (kvs : List (Key × V)), vs = ps.map V.ref ∧ Paired (fun p kv => SqT K H p [kV kv.1, kv.2]) ps kvs ∧ RepKV K S kvs xs
  | .nil => ⟨[], [], rfl, .nil, .nil⟩
  | .cons (b := x) r t => by
    obtain ⟨ps, kvs, e, h1, h2⟩ := pairs_kvs s t
    obtain ⟨a, v1, v2, ea, ha, r1, r2⟩ := r
    subst ea e
    have ek : v1 = kV (DKey.key x.1) := (Flat.flat.mp r1).trans (DKey.kv _).symm
    subst ek
    exact ⟨a :: ps, (DKey.key x.1, v2) :: kvs, rfl, .cons (s.sqT ha) h1, .cons ⟨rfl, r2⟩ h2⟩
theorem repkv_merge [DecidableEq κ] : ∀ {bs : List (Key × V)} {ys : List (κ × α)} {as : List (Key × V)} {xs : List (κ × α)}, RepKV K S as xs → (xs.map Prod.fst).Nodup → RepKV K S bs ys → RepKV K S (mergeK as bs) (puts xs ys)
  | _, _, _, _, ra, nd, .nil => ra
  | _, _, _, _, ra, nd, .cons (a := b) (b := y) r t => by
    obtain ⟨k, v⟩ := b
    have e1 : k = DKey.key y.1 := r.1
    subst e1
    exact repkv_merge (as := putK _ (DKey.key y.1) v) (xs := put _ y.1 y.2) (repkv_put r.2 ra nd) (put_nodup nd) t
theorem eg_pairs [DecidableEq κ] {P : List (κ × α) → Prop} (h : EvC W W1 K ta δ fun xs : List (κ × α) => P (puts [] xs)) : EvG W W1 K (tCB (fun xs H Q => ∃ (a : Addr) (ps : List Addr) (kvs : List (Key × V)), xs = [.ref a] ∧ SqL K H a (ps.map V.ref) ∧ Paired (fun p kv => SqT K H p [kV kv.1, kv.2]) ps kvs ∧
    ∀ p, H p = none → Q (.ref p) (upd H p (.dK (mergeK [] kvs)))) (tCons ta tNil)) δ P := fun O S H σ s Q q =>
  h O S H σ s _ fun a vs S1 H1 xs m l r p => by
    obtain ⟨ps, kvs, e, h1, h2⟩ := pairs_kvs m.good.sub r
    subst e
    exact ⟨a, ps, kvs, rfl, l.sq m.good.sub, h1, fun b hb => q b _ S1 _ _ (m.trans (Mv.temp m.good hb)) (Fresh.new m.good hb) (repkv_merge .nil List.nodup_nil h2) (puts_nodup List.nodup_nil) p⟩
theorem ef_sortedS {P : List Str → Prop} (h : EvC W W1 K ta δ fun xs : List Str => xs.length < 64 ∧ ∀ z, List.Perm z xs → sortedS z = true → P z) : EvF W W1 K (tCB (rSortedS K) (tCons ta tNil)) δ P := fun O S H σ s Q q =>
  h O S H σ s _ fun a vs S1 H1 xs m l r p => ⟨a, xs, rfl, by rw [show xs.map V.str = vs from (flat_reps r).symm]; exact l.sq m.good.sub, p.1, fun ys b h1 h2 hb => q b _ S1 _ ys (m.trans (Mv.temp m.good hb)) (Fresh.new m.good hb) reps_flat (p.2 ys h1 h2)⟩
theorem first_at {x : Int} : ∀ {xs : List Int}, x ∈ xs → ∃ j : Nat, xs[j]? = some x ∧ ∀ i, i < j → xs[i]? ≠ some x
  | [], h => by cases h
  | y :: ys, h => by
    by_cases e : y = x
    · subst e
      exact ⟨0, rfl, fun i hi => absurd hi (Nat.not_lt_zero i)⟩
    · have h' : x ∈ ys := by
        rcases List.mem_cons.mp h with z | z
        · exact absurd z.symm e
        · exact z
      obtain ⟨j, h1, h2⟩ := first_at h'
      refine ⟨j + 1, by simpa using h1, fun i hi => ?_⟩
      cases i with
      | zero =>
        intro z
        exact e (Option.some.inj z)
      | succ i =>
        have := h2 i (by omega)
        simpa using this
end
end DW
set_option maxHeartbeats 4000000
/-! DW: zip -/
namespace DW
open PySem PySem.Spec PyProof.Rows L2
section
variable {W W1 W2 W3 W4 : Wd} {K : Frag} {O : Addr → Prop} {S H S1 H1 S2 H2 : Hp} {σ : L2.St} {δ : DEnv} {α β : Type} [Rep α] [Rep β] {ta : TA}
theorem it_zipG {J : It} {Fx : Addr → Prop} {S0 H0 : Hp} {A B : Hp → List V → Prop} {vs us : List V} {xs : List α} {ys : List β}
    (hgo : ∀ i H x y, A H vs → B H us → vs[i]? = some x → us[i]? = some y → J.go i H) (hst : ∀ i H, A H vs → B H us → vs.length ≤ i ∨ us.length ≤ i → J.stop i H)
    (hy : ∀ i H v H', J.yld i H v H' → ∃ T x y, v = .ref T ∧ H T = none ∧ H' = upd H T (.tup [x, y]) ∧ (∀ xs, A H xs → xs[i]? = some x) ∧ ∀ ys, B H ys → ys[i]? = some y)
    (hA : ∀ {W : Wd} O S H, Ex S0 S → Good W O S H → A H vs) (hB : ∀ {W : Wd} O S H, Ex S0 S → Good W O S H → B H us) (r : Reps K S0 vs xs) (r2 : Reps K S0 us ys) : ItOk K Fx J (List.zip xs ys) S0 H0 := fun i O S H ex fx st g => by
  have qa := hA O S H ex g
  have qb := hB O S H ex g
  refine ⟨fun x hx => ?_, fun e => hst i H qa qb ?_⟩
  · rw [List.getElem?_zip_eq_some] at hx
    obtain ⟨v, hv, rv⟩ := Paired.at r hx.1
    obtain ⟨u, hu, ru⟩ := Paired.at r2 hx.2
    refine ⟨hgo i H v u qa qb hv hu, fun z H' y => ?_⟩
    obtain ⟨T, x', y', e, hT, eH, f1, f2⟩ := hy i H z H' y
    subst e eH
    have e1 : x' = v := Option.some.inj ((f1 vs qa).symm.trans hv)
    have e2 : y' = u := Option.some.inj ((f2 us qb).symm.trans hu)
    subst e1 e2
    have ex2 := ex.trans (Ex.upd (o := .tup [x', y']) (g.sub.nn hT))
    exact ⟨_, Mv.new g hT, T, _, _, rfl, .inl (.inl upd_same), Rep.mono ex2 rv, Rep.mono ex2 ru⟩
  · rw [List.length_zip] at e
    rw [reps_len r, reps_len r2]
    omega
theorem evi_zipLL {P : List (α × β) → Prop} (h : EvA W W1 K ta δ fun g : List α × List β × Unit => P (List.zip g.1 g.2.1)) : EvI W W1 K (RZ.iZipA K ta) δ P := fun O S H σ s R q =>
  h O S H σ s _ fun ws S1 H1 g m hr p => by
    obtain ⟨v1, r1, e1, ⟨a, vs, ea, ha, ra⟩, v2, r2, e2, ⟨b, us, eb, hb, rb⟩, e3⟩ := hr
    have e3' : r2 = [] := e3
    subst e3' eb e2 ea e1
    refine ⟨a, b, vs, us, rfl, .inl ⟨.inl (.inl (m.good.sub.lst ha)), .inl (.inl (m.good.sub.lst hb)), q _ S1 H1 _ m (it_zipG (J := Itz K a b) (A := fun H xs => SqL K H a xs) (B := fun H xs => SqL K H b xs) (fun i H x y q1 q2 q3 q4 => ⟨vs, us, x, y, q1, q2, q3, q4⟩) (fun i H q1 q2 q3 => ⟨vs, us, q1, q2, q3⟩) (fun i H v H' y => y) (fun O S H ex g => .inl (.inl (g.sub.lst (ex _ _ ha)))) (fun O S H ex g => .inl (.inl (g.sub.lst (ex _ _ hb)))) ra rb) p⟩⟩
theorem evi_zipTT {P : List (α × β) → Prop} (h : EvA W W1 K ta δ fun g : Tp α × Tp β × Unit => P (List.zip g.1.l g.2.1.l)) : EvI W W1 K (RZ.iZipA K ta) δ P := fun O S H σ s R q =>
  h O S H σ s _ fun ws S1 H1 g m hr p => by
    obtain ⟨v1, r1, e1, ⟨a, vs, ea, ha, ra⟩, v2, r2, e2, ⟨b, us, eb, hb, rb⟩, e3⟩ := hr
    have e3' : r2 = [] := e3
    subst e3' eb e2 ea e1
    refine ⟨a, b, vs, us, rfl, .inr ⟨m.good.sub.sqT ha, m.good.sub.sqT hb, q _ S1 H1 _ m (it_zipG (J := RZ.ItzT K a b) (A := fun H xs => SqT K H a xs) (B := fun H xs => SqT K H b xs) (fun i H x y q1 q2 q3 q4 => ⟨vs, us, x, y, q1, q2, q3, q4⟩) (fun i H q1 q2 q3 => ⟨vs, us, q1, q2, q3⟩) (fun i H v H' y => y) (fun O S H ex g => g.sub.sqT (ex.sqT ha)) (fun O S H ex g => g.sub.sqT (ex.sqT hb)) ra rb) p⟩⟩
end

/-! ### a dict that is not the empty one -/
def rNeD0 : R2 := fun x y H Q => ∃ a b kvs, x = .ref a ∧ y = .ref b ∧ Rd H a (.dK kvs) ∧ Rd H b (.dK []) ∧ Q (.bl (!kvs.isEmpty)) H
theorem op_neD0 {X : Cx} (hu : X.A.units + 64 < cLine) : OpR X (compareOp .NotEq) rNeD0 := by
  intro pins s σ H x y v u Q I rx ry h
  obtain ⟨a, b, ks, e1, e2, ea, eb, q⟩ := h
  subst e1 e2
  obtain rfl : v = Value.ref a := rx
  obtain rfl : u = Value.ref b := ry
  obtain ⟨_, ya, va, ra, da⟩ := dk_rd I.hok ea
  obtain ⟨_, yb, vb, rb, db⟩ := dk_rd I.hok eb
  have hb : vb = [] := by
    have l := rb.length
    exact List.length_eq_zero_iff.mp (by rw [← l] <;> rfl)
  subst hb
  have ha : ks.length = va.length := ra.length
  refine PySem.W.keq_ne (knd := mixKind X.prog X.w) (r := true) ya yb da db (by omega) (fun h => ?_) (fin_bl I q ?_)
  · have e : va = [] := List.length_eq_zero_iff.mp h
    subst e
    exact .nil
  · cases ks with
    | nil =>
      have e : va = [] := List.length_eq_zero_iff.mp ha.symm
      subst e
      rfl
    | cons p r =>
      cases va with
      | nil => cases ha
      | cons p' r' => rfl
section
variable {W W1 W2 W3 W4 : Wd} {K : Frag} {δ : DEnv} {α κ : Type} [Rep α] [DKey κ] {ta tb : TE}
theorem ev_neD0 {P : Bool → Prop} (h : EvCD W W1 K ta δ fun xs : List (κ × α) => EvCD W1 W2 K tb δ fun ys : List (κ × α) => ys = [] ∧ P (!xs.isEmpty)) : Ev W W2 K (tOp rNeD0 ta tb) δ P := fun O S H σ s Q q =>
  h O S H σ s _ fun a kvs S1 H1 xs m l r nd p => p O S1 H1 σ (s.mv m) _ fun b kvs2 S2 H2 ys m2 l2 r2 nd2 p2 => by
    have e := p2.1
    subst e
    have e2 : kvs2 = [] := List.length_eq_zero_iff.mp (repkv_len r2)
    subst e2
    have e3 : kvs.isEmpty = xs.isEmpty := by
      have := repkv_len r
      cases kvs with
      | nil =>
        cases xs with
        | nil => rfl
        | cons _ _ => cases this
      | cons _ _ =>
        cases xs with
        | nil => cases this
        | cons _ _ => rfl
    exact ⟨a, b, kvs, rfl, rfl, (l.mv m2).rd m2.good.sub, l2.rd m2.good.sub, q _ S2 H2 _ (m.trans m2) (by rw [e3] <;> rfl) p2.2⟩
/-! ### the empty list -/
theorem ev_neL0 {P : Bool → Prop} (h : EvC W W1 K ta δ fun xs : List α => EvC W1 W2 K tb δ fun ys : List α => xs = [] ∧ ys = [] ∧ P false) : Ev W W2 K (tOp (rNeD K) ta tb) δ P := fun O S H σ s Q q =>
  h O S H σ s _ fun a vs S1 H1 xs m l r p => p O S1 H1 σ (s.mv m) _ fun b us S2 H2 ys m2 l2 r2 ⟨e1, e2, p2⟩ => by
    subst e1 e2
    have f1 : vs = [] := List.length_eq_zero_iff.mp (reps_len r)
    have f2 : us = [] := List.length_eq_zero_iff.mp (reps_len r2)
    subst f1 f2
    exact ⟨.list [], .list [], .lst ((l.mv m2).sq m2.good.sub) .nil, .lst (l2.sq m2.good.sub) .nil, by decide, by decide, q _ S2 H2 _ (m.trans m2) (by simp [PyData.eqv, PyData.eqvAll]; rfl) p2⟩
theorem ev_eqL0 {P : Bool → Prop} (h : EvC W W1 K ta δ fun xs : List α => EvC W1 W2 K tb δ fun ys : List α => xs = [] ∧ ys = [] ∧ P true) : Ev W W2 K (tOp (rEqD K) ta tb) δ P := fun O S H σ s Q q =>
  h O S H σ s _ fun a vs S1 H1 xs m l r p => p O S1 H1 σ (s.mv m) _ fun b us S2 H2 ys m2 l2 r2 ⟨e1, e2, p2⟩ => by
    subst e1 e2
    have f1 : vs = [] := List.length_eq_zero_iff.mp (reps_len r)
    have f2 : us = [] := List.length_eq_zero_iff.mp (reps_len r2)
    subst f1 f2
    exact ⟨.list [], .list [], .lst ((l.mv m2).sq m2.good.sub) .nil, .lst (l2.sq m2.good.sub) .nil, by decide, by decide, q _ S2 H2 _ (m.trans m2) (by simp [PyData.eqv, PyData.eqvAll]; rfl) p2⟩
/-! ### list.index -/
theorem ev_index {P : Int → Prop} (h : EvC W W1 K ta δ fun xs : List Int => Ev W1 W2 K tb δ fun x : Int => xs.length ≤ 100000 ∧ x ∈ xs ∧ ∀ j : Nat, xs[j]? = some x → (∀ i, i < j → xs[i]? ≠ some x) → P (j : Int)) : Ev W W2 K (tBM K "list" (rIndex K) ta (tCons tb tNil)) δ P := fun O S H σ s Q q =>
  h O S H σ s _ fun a vs S1 H1 xs m l r p => ⟨.inl ⟨rfl, vs, l.sq m.good.sub⟩, p O S1 H1 σ (s.mv m) _ fun u S2 H2 x m2 r2 p2 => by
    obtain rfl : u = .int x := r2
    obtain ⟨_, hx, hP⟩ := p2
    obtain ⟨j, h1, h2⟩ := first_at hx
    have ev : vs = xs.map V.int := flat_reps r
    subst ev
    refine ⟨a, _, .int x, j, .int x, rfl, rfl, (l.mv m2).sq m2.good.sub, rfl, flat_int, by rw [List.getElem?_map, h1] <;> rfl, by simp [eqV], fun i z hi hz => ?_, q _ S2 H2 _ (m.trans m2) rfl (hP j h1 h2)⟩
    rw [List.getElem?_map] at hz
    obtain ⟨y, hy, rfl⟩ := Option.map_eq_some_iff.mp hz
    have ne : y ≠ x := fun e => h2 i hi (by rw [hy, e])
    simp [eqV, ne]⟩
end

/-! ### the letts of a text -/
def letts (x : Str) : List Str := x.cps.toList.map fun c => ⟨#[c]⟩
section
variable {W W1 : Wd} {K : Frag} {δ : DEnv} {te ta tb : TE}
theorem evi_str {P : List Str → Prop} (h : Ev W W1 K te δ fun x : Str => P (letts x)) : EvI W W1 K (iStr te) δ P := fun O S H σ s R q => h O S H σ s _ fun v S1 H1 x m r p => by
  obtain rfl : v = .str x := r
  refine ⟨x, rfl, q _ S1 H1 _ m (fun i O2 S2 H2 ex fx st g => ⟨fun y hy => ?_, fun e => ?_⟩) p⟩
  · unfold letts at hy
    rw [List.getElem?_map] at hy
    obtain ⟨c, hc, ey⟩ := Option.map_eq_some_iff.mp hy
    subst ey
    rw [Array.getElem?_toList] at hc
    refine ⟨(Array.getElem?_eq_some_iff.mp hc).1, fun v H' yl => ?_⟩
    obtain ⟨e1, c', h1, h2⟩ := yl
    subst e1 h2
    rw [hc] at h1
    cases h1
    exact ⟨S2, Mv.refl g, rfl⟩
  · show x.cps.size ≤ i
    rw [e]
    unfold letts
    rw [List.length_map, Array.length_toList]
    exact Nat.le_refl _
/-- x in y, of texts -/
def inStr (x y : Str) : Bool := !(Builtin.Str.occurrences y x 0 y.length 1).isEmpty
theorem ev_inStr {P : Bool → Prop} (h : Ev W W1 K ta δ fun x : Str => Ev W1 W1 K tb δ fun y : Str => P (inStr x y)) : Ev W W1 K (tOp (fun x y H Q => ∃ i j, x = .str i ∧ y = .str j ∧ Q (.bl (!(Builtin.Str.occurrences j i 0 j.length 1).isEmpty)) H) ta tb) δ P :=
  ev_two h fun O S H v u x y gd r1 r2 p Q q => ⟨x, y, r1, r2, q _ S H (inStr x y) (Mv.refl gd) rfl p⟩
end
end DW
set_option maxHeartbeats 4000000
/-! DW: the state that draws: two lists of ints and a count of at most b -/
namespace DW
open PySem PySem.Spec PyProof.Rows L2
def limB : Nat := 1099511627776
structure TkAt (r : Addr) (H : Hp) (p q : Addr) (bigs cells : List Int) (n : Int) : Prop where
  at_ : H r = some (.lst [.ref p, .ref q, .int n])
  big : H p = some (.lst (bigs.map V.int))
  cel : H q = some (.lst (cells.map V.int))
  rp : p ≠ r
  rq : q ≠ r
  pq : p ≠ q
  pos : 0 < cells.length
  few : bigs.length ≤ 100000 ∧ cells.length ≤ 100000
def tkFp (r : Addr) (H : Hp) (a : Addr) : Prop := a = r ∨ ∃ x y z, H r = some (.lst [x, y, z]) ∧ (x = .ref a ∨ y = .ref a)
theorem TkAt.fp {r p q : Addr} {H : Hp} {bigs cells : List Int} {n : Int} (t : TkAt r H p q bigs cells n) (a : Addr) : tkFp r H a ↔ a = r ∨ a = p ∨ a = q := by
  constructor
  · rintro (h | ⟨x, y, z, h, h2⟩)
    · exact .inl h
    · rw [t.at_] at h
      cases h
      rcases h2 with h2 | h2
      · cases h2
        exact .inr (.inl rfl)
      · cases h2
        exact .inr (.inr rfl)
  · rintro (h | h | h)
    · exact .inl h
    · exact .inr ⟨_, _, _, t.at_, .inl (by rw [h])⟩
    · exact .inr ⟨_, _, _, t.at_, .inr (by rw [h])⟩
def Wst (r : Addr) (b : Nat) : Wd where
  root := .ref r
  ok H := ∃ p q bigs cells n, TkAt r H p q bigs cells n ∧ 0 ≤ n ∧ n ≤ (b : Int)
  fp := tkFp r
  nn := fun {H a} ⟨p, q, bigs, cells, n, t, _⟩ h => by
    rcases (t.fp a).mp h with e | e | e
    · rw [e, t.at_]
      intro z
      cases z
    · rw [e, t.big]
      intro z
      cases z
    · rw [e, t.cel]
      intro z
      cases z
  loc := fun {H H'} ⟨p, q, bigs, cells, n, t, hn⟩ h => by
    have t' : TkAt r H' p q bigs cells n := ⟨(h r ((t.fp r).mpr (.inl rfl))).trans t.at_, (h p ((t.fp p).mpr (.inr (.inl rfl)))).trans t.big, (h q ((t.fp q).mpr (.inr (.inr rfl)))).trans t.cel, t.rp, t.rq, t.pq, t.pos, t.few⟩
    exact ⟨⟨p, q, bigs, cells, n, t', hn⟩, fun a => (t'.fp a).trans (t.fp a).symm⟩
theorem stle {r : Addr} {b b' : Nat} (h : b ≤ b') : Wle (Wst r b) (Wst r b') := ⟨fun H ⟨p, q, bigs, cells, n, t, h1, h2⟩ => ⟨p, q, bigs, cells, n, t, h1, by omega⟩, fun _ _ h => h⟩
/-- a def that draws at most c times -/
def Stp (c : Nat) (W W' : Wd) : Prop := ∃ (r : Addr) (b : Nat), W = Wst r b ∧ W' = Wst r (b + c) ∧ b + c ≤ limB
theorem stp {r : Addr} {b c : Nat} (h : b + c ≤ limB) : Stp c (Wst r b) (Wst r (b + c)) := ⟨r, b, rfl, rfl, h⟩

/-! ### one draw: what a heap between is like -/
structure Tw (r p q : Addr) (H0 : Hp) (cells : List Int) (n : Int) (H : Hp) (p' : Addr) (bigs : List Int) : Prop where
  t : TkAt r H p' q bigs cells n
  fr : ∀ a, a ≠ r → a ≠ p → H0 a ≠ none → H a = H0 a
  new : p' = p ∨ H0 p' = none
section
variable {r p q p' : Addr} {H0 H : Hp} {cells bigs : List Int} {n : Int}
theorem Tw.temp (w : Tw r p q H0 cells n H p' bigs) {a : Addr} {o : HO} (h : H a = none) : Tw r p q H0 cells n (upd H a o) p' bigs := by
  have ne : ∀ {c : Addr} {u : HO}, H c = some u → c ≠ a := fun e => ne_of_none e h
  refine ⟨⟨by rw [upd_ne (ne w.t.at_)]; exact w.t.at_, by rw [upd_ne (ne w.t.big)]; exact w.t.big, by rw [upd_ne (ne w.t.cel)]; exact w.t.cel, w.t.rp, w.t.rq, w.t.pq, w.t.pos, w.t.few⟩, fun c h1 h2 h3 => ?_, w.new⟩
  have e := w.fr c h1 h2 h3
  rw [upd_ne fun z => h3 (by rw [← e, z]; exact h)]
  exact e
theorem Tw.cut (w : Tw r p q H0 cells n H p' bigs) {a : Addr} {bs : List Int} (h : H a = none) (hl : bs.length ≤ 100000) : Tw r p q H0 cells n (upd (upd H a (.lst (bs.map V.int))) r (.lst [.ref a, .ref q, .int n])) a bs := by
  have ar : a ≠ r := fun z => by
    rw [z, w.t.at_] at h
    cases h
  have aq : a ≠ q := fun z => by
    rw [z, w.t.cel] at h
    cases h
  refine ⟨⟨upd_same, by rw [upd_ne ar, upd_same], by rw [upd_ne w.t.rq, upd_ne aq.symm]; exact w.t.cel, ar, w.t.rq, aq, w.t.pos, hl, w.t.few.2⟩, fun c h1 h2 h3 => ?_, ?_⟩
  · have e := w.fr c h1 h2 h3
    rw [upd_ne h1, upd_ne fun z => h3 (by rw [← e, z]; exact h)]
    exact e
  · by_cases z : a = p
    · exact .inl z
    · cases y : H0 a with
      | none => exact .inr rfl
      | some o =>
        have e := w.fr a ar z (by rw [y]; intro x; cases x)
        rw [h, y] at e
        cases e
theorem Tw.put (w : Tw r p q H0 cells n H p' bigs) {bs : List Int} (hl : bs.length ≤ 100000) : Tw r p q H0 cells n (upd H p' (.lst (bs.map V.int))) p' bs := by
  refine ⟨⟨by rw [upd_ne w.t.rp.symm]; exact w.t.at_, upd_same, by rw [upd_ne w.t.pq.symm]; exact w.t.cel, w.t.rp, w.t.rq, w.t.pq, w.t.pos, hl, w.t.few.2⟩, fun c h1 h2 h3 => ?_, w.new⟩
  rw [upd_ne fun z => ?_]
  · exact w.fr c h1 h2 h3
  · rcases w.new with e | e
    · exact h2 (z.trans e)
    · exact h3 (by rw [z]; exact e)
theorem Tw.fin {b : Nat} {O : Addr → Prop} {S : Hp} {bigs0 : List Int} {n0 : Int} (g : Good (Wst r b) O S H0) (t0 : TkAt r H0 p q bigs0 cells n0) (w : Tw r p q H0 cells n H p' bigs) (h0 : 0 ≤ n) (hn : n ≤ ((b + 1 : Nat) : Int)) : Mv (Wst r (b + 1)) O S H0 S H := by
  have nS : ∀ a, S a ≠ none → a ≠ r ∧ a ≠ p := fun a h => ⟨fun z => h (g.fpS a ((t0.fp a).mpr (.inl z))), fun z => h (g.fpS a ((t0.fp a).mpr (.inr (.inl z))))⟩
  have nO : ∀ a, O a → a ≠ r ∧ a ≠ p := fun a h => ⟨fun z => g.fpO a ((t0.fp a).mpr (.inl z)) h, fun z => g.fpO a ((t0.fp a).mpr (.inr (.inl z))) h⟩
  have sH : ∀ a, S a ≠ none → H0 a ≠ none := fun a h z => h (g.sub.nn z)
  have keep : ∀ a, O a → H a = H0 a := fun a h => w.fr a (nO a h).1 (nO a h).2 (g.oH a h)
  have stay : ∀ a, S a ≠ none → H a = H0 a := fun a h => w.fr a (nS a h).1 (nS a h).2 (sH a h)
  refine ⟨Ex.refl S, keep, stay, ⟨fun a o e => ?_, ⟨p', q, bigs, cells, n, w.t, h0, hn⟩, fun a h => ?_, fun a h z => ?_, g.oS, fun a h => ?_⟩⟩
  · rw [stay a (by rw [e]; intro z; cases z)]
    exact g.sub a o e
  · rcases (w.t.fp a).mp h with e | e | e
    · exact g.fpS a ((t0.fp a).mpr (.inl e))
    · rcases w.new with e2 | e2
      · exact g.fpS a ((t0.fp a).mpr (.inr (.inl (e.trans e2))))
      · rw [e]
        exact g.sub.nn e2
    · exact g.fpS a ((t0.fp a).mpr (.inr (.inr e)))
  · rcases (w.t.fp a).mp h with e | e | e
    · exact g.fpO a ((t0.fp a).mpr (.inl e)) z
    · rcases w.new with e2 | e2
      · exact g.fpO a ((t0.fp a).mpr (.inr (.inl (e.trans e2)))) z
      · exact g.oH a z (by rw [e]; exact e2)
    · exact g.fpO a ((t0.fp a).mpr (.inr (.inr e))) z
  · rw [keep a h]
    exact g.oH a h
end
/-! ### the def -/
def w__law_take (m : Int) (P : Int → Prop) : Prop := (0 < m ∧ m < 1073741824) ∧ ∀ x, 0 ≤ x → x < m → P x
abbrev W__law_take (g : Stk × Int × Unit) (P : Int → Prop) : Prop := w__law_take g.2.1 P
theorem dp_ints {K : Frag} {H : Hp} {p : Addr} {xs : List Int} (h : H p = some (.lst (xs.map V.int))) : Dp K H (.ref p) (.list (xs.map PyData.int)) := .lst (.inl (.inl h)) (by
  have c : ∀ ys : List Int, DpAll K H (ys.map V.int) (ys.map PyData.int) := fun ys => by
    induction ys with
    | nil => exact .nil
    | cons y ys ih => exact .cons (.int y) ih
  exact c xs)
theorem ints_shaped (xs : List Int) : SeqAt.shaped (.list (xs.map PyData.int)) = true := shaped_of (α := List Int) (by decide) xs
theorem ints_ne (xs : List Int) : (!PyData.eqv (.list (xs.map PyData.int)) (.list [])) = !xs.isEmpty := by
  cases xs <;> simp [PyData.eqv, PyData.eqvAll]

/-! ### ys.append(xs.pop(e)) -/
section
variable {W W1 : Wd} {K : Frag} {δ : DEnv} {α β : Type} [Rep β] {te : TE} {D : DE β} {i j : Nat}
theorem reps_del {α : Type} [Rep α] {K : Frag} {S : Hp} : ∀ {vs : List V} {xs : List α} (n : Nat), Reps K S vs xs → Reps K S (vs.eraseIdx n) (xs.eraseIdx n)
  | _, _, _, .nil => .nil
  | _, _, 0, .cons _ t => t
  | _, _, n + 1, .cons r t => .cons r (reps_del n t)
theorem sd_appendPop {α : Type} [ri : Rep α] {xs ys : List α} (hi : δ[i]? = some (.ol ri ys)) (hj : δ[j]? = some (.ol ri xs)) (ne : i ≠ j)
    (h : Ev W W1 K te δ fun k : Int => ys.length < 100000 ∧ xs.length ≤ 100000 ∧ ∃ n : Nat, k = (n : Int) ∧ n < xs.length ∧ ∀ x, xs[n]? = some x → D.nx W1 ((δ.set j (sL (xs.eraseIdx n))).set i (sL (ys ++ [x])))) :
    Sd W K (tDrop (tBM K "list" rAppend (tVar i) (tCons (tBM K "list" rPopAt (tVar j) (tCons te tNil)) tNil))) δ D := fun O S H σ c E r => by
  obtain ⟨ov, e, q, vs, eq, hq, rv⟩ := c.sl.2 i _ hi
  subst eq
  obtain ⟨ov, e2, q2, us, eq, hq2, rv2⟩ := c.sl.2 j _ hj
  subst eq
  refine ⟨_, e, .inl ⟨rfl, vs, .inl (.inl hq)⟩, _, e2, .inl ⟨rfl, us, .inl (.inl hq2)⟩, ?_⟩
  refine h _ S H σ c.stt _ fun v S1 H1 k m rk p => ?_
  obtain ⟨hl, hl2, n, ek, hn, hx⟩ := p
  obtain rfl : v = .int k := rk
  subst ek
  have c1 := c.mv m
  have hq1 : H1 q = some (.lst vs) := (m.keep q (.inr ⟨i, _, hi, rfl, e⟩)).trans hq
  have hq21 : H1 q2 = some (.lst us) := (m.keep q2 (.inr ⟨j, _, hj, rfl, e2⟩)).trans hq2
  have ru1 : Reps K S1 us xs := Reps.mono m.ex rv2
  have rv1 : Reps K S1 vs ys := Reps.mono m.ex rv
  have hxn : xs[n]? = some xs[n] := List.getElem?_eq_getElem hn
  obtain ⟨y, hy, ry⟩ := Paired.at ru1 hxn
  have iN : ixN us.length (n : Int) = some n := by
    unfold ixN
    rw [if_pos (Int.natCast_nonneg n), if_pos (by rw [reps_len ru1]; omega)] <;> rfl
  refine ⟨q2, us, (n : Int), n, y, rfl, rfl, hq21, by omega, by omega, (ixN_seq iN).1, hy, ?_⟩
  have k1 := c1.wr (d' := sL (xs.eraseIdx n)) (o := .lst (us.eraseIdx n)) hj rfl e2 rfl ⟨q2, _, rfl, upd_same, reps_del n ru1⟩
  have nq : q ≠ q2 := fun z => ne (c1.dst i j _ _ q hi rfl e hj rfl (by rw [z]; exact e2))
  refine ⟨q, vs, y, rfl, rfl, (upd_ne nq).trans hq1, ?_, ?_⟩
  · rw [reps_len rv1]
    exact Nat.lt_of_lt_of_le hl (by decide)
  · have hi' : (δ.set j (sL (xs.eraseIdx n)))[i]? = some (.ol ri ys) := by
      rw [List.getElem?_set_ne (Ne.symm ne)]
      exact hi
    have k2 := k1.1.wr (d' := sL (ys ++ [xs[n]])) (o := .lst (vs ++ [y])) hi' rfl e rfl ⟨q, _, rfl, upd_same, Paired.snoc rv1 ry⟩
    exact r.nx S1 _ σ _ (((m.mo fun _ z => .inl z).trans k1.2).trans k2.2) k2.1 (hx _ hxn)
end
/-! ### a list mixed -/
def w__law_mixed {α : Type} (xs : List α) (P : List α → Prop) : Prop := xs.length ≤ 100 ∧ ∀ r : List α, r.Perm xs → P r
abbrev W__law_mixed {α : Type} (g : Stk × List α × Unit) (P : List α → Prop) : Prop := w__law_mixed g.2.1 P
def mixB {α : Type} (_ : Int) (s : List α × List α) (nx _ : List α × List α → Prop) : Prop := 0 < s.1.length ∧ s.1.length ≤ 100 ∧ s.2.length ≤ 100 ∧ ∀ (n : Nat) x, s.1[n]? = some x → nx (s.1.eraseIdx n, s.2 ++ [x])
theorem del_perm {α : Type} : ∀ (a : List α) (n : Nat) (y : α), a[n]? = some y → (y :: a.eraseIdx n).Perm a
  | [], n, y, h => by simp at h
  | x :: a, 0, y, h => by
    have e : x = y := Option.some.inj h
    subst e
    exact List.Perm.refl _
  | x :: a, n + 1, y, h => by
    have ih := del_perm a n y (by simpa using h)
    exact (List.Perm.swap x y _).trans (ih.cons x)
theorem mix_run {α : Type} {P : List α → Prop} {xs : List α} (hl : xs.length ≤ 100) (hP : ∀ r : List α, r.Perm xs → P r) : ∀ (L : List Int) (s : List α × List α), s.1.length = L.length → (s.2 ++ s.1).Perm xs → forW mixB (fun s => P s.2) L s
  | [], (a, b), h1, h2 => by
    have e : a = [] := List.length_eq_zero_iff.mp h1
    subst e
    rw [List.append_nil] at h2
    exact hP b h2
  | x :: L, (a, b), h1, h2 => by
    have l := h2.length_eq
    rw [List.length_append] at l
    have h1' : a.length = L.length + 1 := h1
    have l' : b.length + a.length = xs.length := l
    refine ⟨by show 0 < a.length; omega, by show a.length ≤ 100; omega, by show b.length ≤ 100; omega, fun n y hy => ?_⟩
    obtain ⟨hn, ey⟩ := List.getElem?_eq_some_iff.mp hy
    have hn' : n < a.length := hn
    refine mix_run hl hP L _ ?_ ?_
    · show (a.eraseIdx n).length = L.length
      rw [List.length_eraseIdx_of_lt hn']
      omega
    · show ((b ++ [y]) ++ a.eraseIdx n).Perm xs
      have pa : (y :: a.eraseIdx n).Perm a := del_perm a n y hy
      rw [List.append_assoc]
      exact (List.Perm.append_left b pa).trans h2
end DW
set_option maxHeartbeats 4000000
/-! DW: [*d, ..], d a dict -/
namespace DW
open PySem PySem.Spec PyProof.Rows L2
def tStarD (te : TE) (t : TA) : TA := fun σ H Q => te σ H fun x H1 => ∃ (a : Addr) (kvs : List (Key × V)), x = .ref a ∧ Rd H1 a (.dK kvs) ∧ t σ H1 fun ys H2 => Q ((kvs.map fun kv => kV kv.1) ++ ys) H2
theorem pa_starD {X : Cx} {e : Expr} {es : List Expr} {te : TE} {t : TA} {p : Pos} (calm : X.calm = true) (he : PE X e te) (hr : PA X es t) (st : starEach (.Starred e p :: es) X.env = (true, eval e X.env) :: starEach es X.env := by rfl) : PA X (.Starred e p :: es) (tStarD te t) := by
  refine ⟨fun pos pins s σ H Q I h => PySem.W.items_star (thn (he.run pins s σ H _ I h) fun v s1 hh => ?_) st⟩
  obtain ⟨y, H1, I1, ry, a, kvs, ey, hd, q⟩ := hh
  subst ey
  obtain rfl : v = Value.ref a := ry
  obtain ⟨z, lo, vs, rel, dd⟩ := dk_rd I1.hok hd
  obtain ⟨ep, hat⟩ := dd.dictAt
  have ek : (kvs.map fun kv => kV kv.1) = vs.map fun p => kV p.1 := by
    have k := congrArg (List.map kV) rel.keys
    rwa [List.map_map, List.map_map] at k
  unfold PySem.W.StarOf notIterableAtAll
  refine wpAny_bind (wpAny_specialOf dd.typeIs PySem.F.slot_dict_iter.lookup (wpAny_pure ⟨rfl, ?_⟩))
  refine PySem.W.kdu_collect (PySem.W.kdl_dict (knd := mixKind X.prog X.w) (kvs := vs) (ep := ep) lo) (I1.ok.hd calm) hat (by rw [← rel.length]; exact z) fun h' tk acc hk hacc => ?_
  have hv : Vals (vs.map fun p => kV p.1) acc.toList := keys_at (by rw [Array.length_toList]; exact hacc.1) fun j v e => hacc.2 j v (by rw [← Array.getElem?_toList]; exact e)
  rw [← ek] at hv
  have I2 : Inv X pins σ H1 { s1 with heap := h', toks := tk } := I1.kept (t' := tk) hk
  exact thn (hr.run pos pins _ σ H1 _ I2 q) fun ws s3 hh => by
    obtain ⟨us, H3, I3, r3, q3⟩ := hh
    exact ⟨_, H3, I3, hv.append r3, q3⟩
section
variable {W W1 W2 : Wd} {K : Frag} {δ : DEnv} {α κ : Type} [Rep α] [DKey κ] {te : TE} {tr : TA}
theorem es_starD {P : List κ → Prop} (h : EvCD W W1 K te δ fun xs : List (κ × α) => EvS W1 W2 K tr δ fun r : List κ => P (xs.map Prod.fst ++ r)) : EvS W W2 K (tStarD te tr) δ P := fun O S H σ s Q q =>
  h O S H σ s _ fun a kvs S1 H1 xs m l r nd p => ⟨a, kvs, rfl, l.rd m.good.sub, p O S1 H1 σ (s.mv m) _ fun vs S2 H2 g m2 r2 p2 => q _ S2 H2 _ (m.trans m2) (reps_app (repkv_keys (RepKV.mono m2.ex r)) r2) p2⟩
end
end DW
set_option maxHeartbeats 4000000
/-! DW: set(xs) and sorted(set(xs)), xs a list of texts: the set of texts at a, that can be walked -/
namespace DW
open PySem PySem.Spec PyProof.Rows L2
def txOf (e : Int × Value) : Str := match e.2 with
  | .str x _ => x
  | _ => Str.empty
def IsTx (w : World) (e : Int × Value) : Prop := ∃ x tk, e.2 = Value.str x tk ∧ e.1 = hashStr w x
/-- L: what was put in, first to last -/
structure TxSet (w : World) (a : Addr) (L : List Str) (es : Array (Int × Value)) (tb : SetTable) : Prop where
  good : ∀ e ∈ es.toList, IsTx w e
  nod : (es.toList.map txOf).Nodup
  mem : ∀ k, k ∈ es.toList.map txOf ↔ k ∈ L
  fit : tb.fits es.size = true
  le : es.size ≤ L.length
  ris : Ris tb.place.toList
  led : w.params.followText "set-order" = true ∨ tb.led = true
def SetT (w : World) (h : Heap) (a : Addr) (L : List Str) : Prop := ∃ ob es ep tb, h.get? a = some ob ∧ ob.ExactSet ∧ ob.data = .set es ep tb ∧ TxSet w a L es tb
section
variable {P : Program} {w : World} {A : Around} {E : Value → Shared → Prop} {s : Shared} {a : Addr} {L : List Str}
theorem tx_is {e : Int × Value} (g : IsTx w e) (k : Str) : (PySem.strKind P w).is k e.2 = true ↔ txOf e = k := by
  obtain ⟨x, tk, h1, _⟩ := g
  have e2 : txOf e = x := by unfold txOf; rw [h1]
  rw [h1, e2]
  simp [PySem.strKind, Value.isStrOf]
theorem tx_elems {l : List (Int × Value)} (g : ∀ e ∈ l, IsTx w e) : ElemsOf (PySem.strKind P w) l := fun e he => by
  obtain ⟨x, tk, h1, h2⟩ := g e he
  exact ⟨⟨x, by rw [h1]; exact strKind_is P w x tk, h2⟩, by rw [h1] <;> rfl⟩
theorem tx_mem {l : List (Int × Value)} (g : ∀ e ∈ l, IsTx w e) (k : Str) : k ∈ l.map txOf ↔ ∃ e ∈ l, (PySem.strKind P w).is k e.2 = true := by
  rw [List.mem_map]
  exact ⟨fun ⟨e, he, q⟩ => ⟨e, he, (tx_is (g e he) k).mpr q⟩, fun ⟨e, he, q⟩ => ⟨e, he, (tx_is (g e he) k).mp q⟩⟩
theorem SetT.at {h h' : Heap} (R : SetT w h a L) (k : ∀ o, h.get? a = some o → h'.get? a = some o) : SetT w h' a L := by
  obtain ⟨ob, es, ep, tb, z, r⟩ := R
  exact ⟨ob, es, ep, tb, k ob z, r⟩
theorem setT_tail {g : Bool → Sem Unit} (gw : ∀ (b : Bool) (s₁ : Shared) (Q' : Unit → Shared → Prop), Q' () s₁ → wpAny (model P w) A (g b) Q' E s₁) {ob : Obj} {es : Array (Int × Value)} {ep : Nat} {tb : SetTable} (at0 : s.heap.get? a = some ob) (ex : ob.ExactSet) (dt : ob.data = .set es ep tb)
    {e1 : Array (Int × Value)} {t2 : SetTable} (T : TxSet w a L e1 t2) (few : L.length < scanBound) {wd : Bool} {R : Option Bool → Shared → Prop} (fin : ∀ h', Heap.SameBut a s.heap h' → SetT w h' a L → R (some true) { s with heap := h' }) :
    wpAny (model P w) A (do
      storeSet a e1 t2
      if (!wd && t2.tooFull) = true then do
          g (relayAll t2 e1 (SetTable.grown e1.size)).2.2
          storeSet a (relayAll t2 e1 (SetTable.grown e1.size)).1 (relayAll t2 e1 (SetTable.grown e1.size)).2.1
          pure (some true)
        else pure (some true)) R E s := by
  have b1 : e1.size < scanBound := Nat.lt_of_le_of_lt T.le few
  refine wpAny_bind (wpAny_storeSet_of at0 dt ?_ (fits_of_scanBound b1))
  have at1 := store_at (es' := e1) (t' := t2) at0 dt
  have sb := Heap.SameBut.update s.heap a (Obj.putSet e1 t2)
  split
  · have p1 := relayAll_perm t2 e1 (SetTable.grown e1.size)
    have p2 := relayAll_fits t2 e1 (SetTable.grown e1.size)
    have p3 := relayAll_ris t2 e1 (SetTable.grown e1.size)
    have p4 := relayAll_led t2 e1 (SetTable.grown e1.size)
    generalize relayAll t2 e1 (SetTable.grown e1.size) = Z at p1 p2 p3 p4 ⊢
    obtain ⟨e2, t3, gv⟩ := Z
    dsimp only at p1 p2 p3 p4 ⊢
    have sz : e2.size = e1.size := by rw [← Array.length_toList, p1.length_eq, Array.length_toList]
    refine wpAny_bind (gw _ _ _ (wpAny_bind (wpAny_storeSet_of at1 rfl ?_ (fits_of_scanBound (by rw [sz]; exact b1)))))
    refine wpAny_pure (fin _ (sb.trans (Heap.SameBut.update _ a _)) ⟨_, e2, _, t3, store_at (es' := e2) (t' := t3) at1 rfl, ex, rfl, ?_⟩)
    exact ⟨fun e he => T.good e (p1.mem_iff.mp he), (p1.map txOf).nodup_iff.mpr T.nod, fun k => (p1.map txOf).mem_iff.trans (T.mem k), p2, by rw [sz]; exact T.le, p3, T.led.imp id fun z => by rw [p4]; exact z⟩
  · exact wpAny_pure (fin _ sb ⟨_, e1, _, t2, at1, ex, rfl, T⟩)
theorem setT_add {k : Str} {tk : Tok} {Q : Bool → Shared → Prop} (R : SetT w s.heap a L) (few : L.length + 1 < scanBound) (fin : ∀ h' b, Heap.SameBut a s.heap h' → SetT w h' a (L ++ [k]) → Q b { s with heap := h' }) :
    wpAny (model P w) A (setAddHashed a (.str k tk) ((PySem.strKind P w).hash k)) Q E s := by
  obtain ⟨ob, es, ep, tb, at0, ex, dt, T⟩ := R
  have isk : (PySem.strKind P w).is k (.str k tk) = true := strKind_is P w k tk
  have sc : (Value.str k tk).scannable = true := rfl
  have el : ElemsOf (PySem.strKind P w) es.toList := tx_elems T.good
  have b0 : es.size < scanBound := Nat.lt_of_le_of_lt T.le (Nat.lt_of_succ_lt few)
  have few2 : (L ++ [k]).length < scanBound := by
    rw [List.length_append]
    exact few
  unfold setAddHashed setAddHashedIn
  refine wpAny_holding (wpAny_bind (wpAny_setState_of at0 dt T.fit ?_))
  dsimp only
  rw [byScan_of sc b0 el]
  simp only [↓reduceIte]
  unfold setAddByScan
  refine wpAny_bind (wpAny_bind (wpAny_rule (wpAny_bind (wpAny_setScan_of isk at0 dt T.fit el ?_))))
  cases fi : List.findIdx? (fun e => (PySem.strKind P w).is k e.2) es.toList with
  | some j =>
    dsimp only
    obtain ⟨hj, pj, _⟩ := List.findIdx?_eq_some_iff_getElem.mp fi
    have km : k ∈ L := (T.mem k).mp ((tx_mem (P := P) T.good k).mpr ⟨es.toList[j], List.getElem_mem hj, pj⟩)
    refine wpAny_pure (wpAny_pure ?_)
    refine fin s.heap false (Heap.SameBut.refl a s.heap) ⟨ob, es, ep, tb, at0, ex, dt, T.good, T.nod, fun i => (T.mem i).trans ?_, T.fit, ?_, T.ris, T.led⟩
    · rw [List.mem_append, List.mem_singleton]
      exact ⟨.inl, fun z => z.elim id fun e => by rw [e]; exact km⟩
    · rw [List.length_append]
      exact Nat.le_succ_of_le T.le
  | none =>
    dsimp only
    have nk : k ∉ es.toList.map txOf := fun z => by
      obtain ⟨e, he, q⟩ := (tx_mem (P := P) T.good k).mp z
      have c := List.findIdx?_eq_none_iff.mp fi e he
      rw [q] at c
      cases c
    have q1 := layNew_perm tb es ((PySem.strKind P w).hash k) (.str k tk)
    have q2 := layNew_fits tb es ((PySem.strKind P w).hash k) (.str k tk)
    have q3 := layNew_ris tb es ((PySem.strKind P w).hash k) (.str k tk) T.ris
    have q4 := layNew_led tb es ((PySem.strKind P w).hash k) (.str k tk)
    generalize layNew tb es ((PySem.strKind P w).hash k) (.str k tk) = Z at q1 q2 q3 q4 ⊢
    obtain ⟨e1, t1, wd, gv⟩ := Z
    dsimp only at q1 q2 q3 q4 ⊢
    rw [Array.toList_push] at q1
    have pc : e1.toList.Perm (((PySem.strKind P w).hash k, Value.str k tk) :: es.toList) := q1.trans (List.perm_append_singleton _ _)
    have pk : (e1.toList.map txOf).Perm (k :: es.toList.map txOf) := pc.map txOf
    have sz : e1.size = es.size + 1 := by rw [← Array.length_toList, pc.length_eq, List.length_cons, Array.length_toList]
    have T1 : ∀ t2 : SetTable, t2.fits e1.size = true → Ris t2.place.toList → (w.params.followText "set-order" = true ∨ t2.led = true) → TxSet w a (L ++ [k]) e1 t2 := fun t2 f1 r1 l1 =>
      ⟨fun e he => by
        rcases List.mem_cons.mp (pc.mem_iff.mp he) with z | z
        · rw [z]
          exact ⟨k, tk, rfl, rfl⟩
        · exact T.good e z, pk.nodup_iff.mpr (List.nodup_cons.mpr ⟨nk, T.nod⟩), fun i => by
        rw [pk.mem_iff, List.mem_cons, T.mem i, List.mem_append, List.mem_singleton]
        exact Or.comm, f1, by
        rw [sz, List.length_append]
        exact Nat.succ_le_succ T.le, r1, l1⟩
    have ld : w.params.followText "set-order" = true ∨ t1.led = true := T.led.imp id fun z => by rw [q4]; exact z
    have gw : ∀ (b : Bool) {s₁ : Shared} {Q' : Unit → Shared → Prop}, Q' () s₁ → wpAny (model P w) A (match b with | true => rule "set.scan.the-table-gave-way" | false => pure ()) Q' E s₁ := fun b _ _ q => by
      cases b
      · exact wpAny_pure q
      · exact wpAny_rule q
    refine wpAny_bind (gw _ ?_)
    split
    · refine wpAny_bind ?_
      rw [hashByValue_scannable 8 sc]
      refine wpAny_pure (setT_tail (L := L ++ [k]) ?_ at0 ex dt ?_ few2 ?_)
      · intro b s₁ Q' q
        cases b <;> first | exact wpAny_pure q | exact wpAny_rule q
      · refine T1 _ ?_ ?_ ?_
        · first | (split <;> first | exact q2 | exact SetTable.fits_plain_off q2) | exact q2
        · first | (split <;> exact q3) | exact q3
        · first | (split <;> exact ld) | exact ld
      · intro h' sb r
        dsimp only
        exact wpAny_pure (fin h' true sb r)
    · refine wpAny_bind (wpAny_pure ?_)
      simp only [↓reduceIte]
      refine setT_tail (L := L ++ [k]) ?_ at0 ex dt (T1 _ q2 q3 ld) few2 ?_
      · intro b s₁ Q' q
        cases b <;> first | exact wpAny_pure q | exact wpAny_rule q
      · intro h' sb r
        dsimp only
        exact wpAny_pure (fin h' true sb r)
end

/-! ### set(xs) -/
theorem take_snoc {xs : List Str} {i : Nat} (h : i < xs.length) : xs.take (i + 1) = xs.take i ++ [xs.getD i Str.empty] := by
  rw [List.take_add_one, List.getElem?_eq_getElem h]
  congr 1
  show [xs[i]] = _
  rw [List.getD_eq_getElem?_getD, List.getElem?_eq_getElem h] <;> rfl
section
variable {prog : Program} {w : World} {A : Around} {R : Result → Shared → Prop} {I : Addr} {fp wr : List Addr} {G : Array GenState → Array GenState → Prop} {n : Nat} {Pv : Nat → Value → Prop} {St : Nat → Shared → Prop}
theorem loopTx (Wk : WalksS prog w A.in1 I fp wr G n Pv St) (D : Addr) (nD : D ∉ fp) (xs : List Str) (len : xs.length = n) (few : n + 1 < scanBound) (val : ∀ i v, Pv i v → ∃ t, v = .str (xs.getD i Str.empty) t) :
    ∀ (k i : Nat) (s : Shared), n - i = k → i ≤ n → St i s → SetT w s.heap D (xs.take i) → (∀ s', Moved (D :: wr) G s s' → SetT w s'.heap D xs → R (.ok (.ret .none)) s') →
      codeAny (model prog w) A (.builtin "set.update.loop" ⟨[.ref D, .ref I], []⟩) R s := by
  have nw : D ∉ wr := fun z => nD (Wk.sub _ z)
  have up : ∀ b ∈ wr, b ∈ D :: wr := fun b z => List.mem_cons_of_mem _ z
  intro k
  induction k with
  | zero =>
    intro i s hk hi st hD fin
    have ei : i = n := by omega
    subst ei
    refine codeAny_builtin PyProof.Rows.F.entry_set_update_loop ?_
    rw [Around.under_plainId PyProof.Rows.F.plain_set_update_loop _]
    show wpAny _ A.in1 (pyNext (.ref I) >>= _) _ _ s
    refine wpAny_bind (Wk.done s _ _ st fun s' mv => ?_)
    show wpAny _ A.in1 (ret Value.none) _ _ s'
    rw [List.take_of_length_le (by omega)] at hD
    exact wpAny_pure (fin s' (mv.mono up) (hD.at fun o z => mv.heap D _ nw z))
  | succ k ih =>
    intro i s hk hi st hD fin
    have lt : i < n := by omega
    refine codeAny_builtin PyProof.Rows.F.entry_set_update_loop ?_
    rw [Around.under_plainId PyProof.Rows.F.plain_set_update_loop _]
    show wpAny _ A.in1 (pyNext (.ref I) >>= _) _ _ s
    refine wpAny_bind (Wk.item i s _ _ lt st fun v s' hv st' mv => ?_)
    obtain ⟨t, ev⟩ := val i v hv
    subst ev
    have hD' : SetT w s'.heap D (xs.take i) := hD.at fun o z => mv.heap D _ nw z
    show wpAny _ A.in1 (holding [Value.str (xs.getD i Str.empty) t] (setAdd D (.str (xs.getD i Str.empty) t)) >>= _) _ _ s'
    refine wpAny_bind (wpAny_holding ?_)
    unfold setAdd
    refine wpAny_holding (wpAny_bind ((PySem.strKind prog w).pyHash (k := xs.getD i Str.empty) (strKind_is _ _ _ _) ?_))
    refine setT_add (P := prog) (s := { s' with toks := s'.toks + 1 }) hD' (by rw [List.length_take]; omega) fun h' b sb hD2 => ?_
    rw [← take_snoc (by omega)] at hD2
    refine wpAny_pure ⟨plainId_quiet PyProof.Rows.F.plain_set_update_loop _, ih (i + 1) _ (by omega) lt (Wk.frame _ s' _ _ st' (Nat.le_succ _) fun c hc o z => ?_) hD2 fun s2 mv2 hD3 => ?_⟩
    · rw [sb.2 c (fun q : c = D => nD (by rw [← q]; exact hc))]
      exact z
    · refine fin s2 (Moved.trans Wk.gtrans ((mv.mono up).then_heap (Nat.le_succ _) fun c o hc z => ?_) mv2) hD3
      rw [sb.2 c (fun q : c = D => hc (by rw [q]; exact List.mem_cons_self))]
      exact z
end
def newSetObj (w : World) : Obj := { cls := .type "set", dict := none, data := .set #[] 0 (.fresh 0 0 (!w.params.followText "set-order")) }
section
variable {P : Program} {w : World} {A : Around} {E : Value → Shared → Prop} {s : Shared}
theorem newSet_tx {h : Heap} : SetT w (h.push (newSetObj w)) h.objs.size [] :=
  ⟨_, #[], 0, _, Heap.get?_push_size _ rfl, ⟨rfl, rfl, rfl⟩, rfl, fun e he => by simp at he, by simp, fun k => by simp, by rfl, Nat.le_refl _, List.Pairwise.nil, by
    show _ ∨ (!w.params.followText "set-order") = true
    cases w.params.followText "set-order"
    · exact .inr rfl
    · exact .inl rfl⟩
theorem code_newSet (v : Value) {Q₁ : Value → Shared → Prop} (q : Q₁ (.ref s.heap.objs.size) { s with heap := s.heap.push (newSetObj w) }) : codeAny (model P w) A (.call (.builtin "set.__new__") ⟨[.type "set", v], []⟩) (wants Q₁ E) s := by
  refine codeAny_of_tree ?_
  show wpAny _ A.in1 (do checkBuiltinCall "set.__new__" ⟨[.type "set", v], []⟩; again (.builtin "set.__new__" ⟨[.type "set", v], []⟩)) _ _ s
  refine wpAny_bind (wpAny_of_eq (PySem.F.newCall_set_1 v) (wpAny_pure ⟨plainId_quiet PySem.F.plain_set_new _, codeAny_builtin PySem.F.entry_set_new ?_⟩))
  rw [Around.under_plainId PySem.F.plain_set_new _]
  unfold Builtin.«set.__new__» Builtin.Frozenset.newClass
  have hsub := sub_set_self
  obtain ⟨hp, g, d, tk, os⟩ := s
  dsimp only
  wp_walk
  refine wpAny_askSetting (wpAny_pure ?_)
  dsimp only
  simp only [newObj]
  exact wpAny_bind (wpAny_alloc (wpAny_pure (wpAny_pure q)))
end

section
variable {P : Program} {w : World} {A : Around} {E : Value → Shared → Prop} {s : Shared}
set_option maxHeartbeats 8000000 in
theorem set_ofTx {l : Addr} {its : Array Value} {xs : List Str} {Q : Value → Shared → Prop} (calm : A.handled = none) (hl : s.heap.IsList l its) (tx : PyProof.Rows.StrsAre its.toList xs) (few : its.size + 1 < scanBound)
    (q : ∀ (h' : Heap) (tk : Nat), SetT w h' s.heap.objs.size xs → (∀ b o, b < s.heap.objs.size → s.heap.get? b = some o → h'.get? b = some o) → s.heap.objs.size < h'.objs.size → Q (.ref s.heap.objs.size) { s with heap := h', toks := tk }) :
    wpAny (model P w) A (call (.type "set") [.ref l]) Q E s := by
  obtain ⟨c, tl, hmro⟩ := PySem.F.called_set.mro
  have m1 := PySem.F.called_set.made
  have m2 := PySem.F.called_set.sub
  refine wpAny_call (codeAny_of_tree ?_)
  show wpAny _ _ (callAny (.type "set") _) _ _ _
  refine wpAny_pure ⟨Code.quiet_builtin _ (by decide +kernel), codeAny_builtin PySem.F.entry_type_call ?_⟩
  rw [Around.under_plain (weight_type_call_type "set" [.ref l] []) rfl]
  have m3 := PySem.F.called_set.notType
  have m4 := PySem.F.called_set.canCreate
  have m5 := PySem.F.typeCall_set_1 (.ref l)
  repeat (any_goals (first | assumption | wp_step))
  refine codeAny_mono (code_newSet (.ref l) (E := E) (Q₁ := fun obj s₁ => obj = .ref s.heap.objs.size ∧ s₁ = { s with heap := s.heap.push (newSetObj w) }) ⟨rfl, rfl⟩) fun r s₁ hr => ?_
  cases r with
  | error e => exact hr
  | ok fl =>
    cases fl with
    | ret obj =>
      obtain ⟨e1, e2⟩ := hr
      subst e1 e2
      have at1 : (s.heap.push (newSetObj w)).get? s.heap.objs.size = some (newSetObj w) := Heap.get?_push_size _ rfl
      have ty1 : Shared.TypeIs { s with heap := s.heap.push (newSetObj w) } (.ref s.heap.objs.size) "set" := ⟨_, at1, rfl⟩
      have m6 := PySem.F.called_set.init.lookup
      have m7 := PySem.F.called_set.init.bind (.ref s.heap.objs.size)
      repeat (any_goals (first | assumption | wp_step))
      refine codeAny_mono (codeAny_call_builtin (R := wants (fun r s₂ => r = .none ∧ ∃ h' tk, s₂ = { s with heap := h', toks := tk } ∧ SetT w h' s.heap.objs.size xs ∧ s.heap.objs.size < h'.objs.size ∧
          (∀ b o, b < s.heap.objs.size → s.heap.get? b = some o → h'.get? b = some o)) E) PySem.F.called_set.init.plain PySem.F.entry_set_init (check_set_init_1 ty1 ?_)) fun r₂ s₂ hr₂ => ?_
      · obtain ⟨ol, hol, hcl, nl, hdl⟩ := hl
        obtain ⟨ocls, odict, odata, oslots⟩ := ol
        simp only at hcl hdl
        subst hcl hdl
        have hol' : (s.heap.push (newSetObj w)).get? l = some { cls := .type "list", dict := odict, data := .seq its nl, slots := oslots } := Heap.get?_push_of_some _ hol
        have m8 := PySem.F.sub_list_set
        have m9 := PySem.F.sub_list_frozenset
        have mA : (Value.type "list" == Value.type "dict") = false := by decide
        have hl1 : (s.heap.push (newSetObj w)).IsList l its := ⟨_, hol', rfl, nl, rfl⟩
        unfold Builtin.«set.__init__» noKeywords Builtin.Frozenset.updateFrom
        generalize hPI : pyIter = PI
        wp_walk
        subst hPI
        refine wpAny_pyIter_list hl1 (wpAny_bind (wpAny_runValue ?_))
        have lS : l < s.heap.objs.size := Heap.lt_size hol
        have calm3 : A.in1.in1.in1.handled = none := by simp [calm]
        have psz : (s.heap.push (newSetObj w)).objs.size = s.heap.objs.size + 1 := Heap.size_push ..
        have lI : l ≠ (s.heap.push (newSetObj w)).objs.size := by
          rw [psz]
          exact Nat.ne_of_lt (Nat.lt_succ_of_lt lS)
        have nD : s.heap.objs.size ∉ [(s.heap.push (newSetObj w)).objs.size, l] := by
          rw [psz]
          simp only [List.mem_cons, List.mem_singleton, List.not_mem_nil, or_false, not_or]
          exact ⟨Nat.ne_of_lt (Nat.lt_succ_self _), Nat.ne_of_gt lS⟩
        have len : xs.length = its.size := by rw [← StrsAre.len_eq tx, Array.length_toList]
        have val : ∀ (i : Nat) (v : Value), its[i]? = some v → ∃ t, v = .str (xs.getD i Str.empty) t := fun i v hv => SS.strs_at tx i v (by rw [Array.getElem?_toList]; exact hv)
        refine loopTx ((Walks.list calm3 _ l lI its).toS) s.heap.objs.size nD xs len few val (its.size - 0) 0 _ (by omega) (Nat.zero_le _) ⟨⟨_, Heap.get?_push_size _ rfl, rfl, rfl⟩, (hl1.push _)⟩ ?h0 ?hR
        case h0 =>
          rw [List.take_zero]
          exact newSet_tx.at fun o z => Heap.get?_push_of_some _ z
        case hR =>
          intro s' mv hD
          obtain ⟨h', g', d', tk', os'⟩ := s'
          have eg : g' = s.gens := mv.gens
          have ed : d' = s.drawn := mv.drawn
          have eo : os' = s.os := mv.os
          subst eg ed eo
          show wpAny _ _ _ _ _ _
          refine wpAny_pure ?_
          show wpAny _ _ (ret Value.none) _ _ _
          refine wpAny_pure ⟨rfl, h', tk', rfl, hD, ?_, fun b o hb z => ?_⟩
          · obtain ⟨ob, _, _, _, z, _⟩ := hD
            exact Heap.lt_size z
          · have b1 : b ≠ s.heap.objs.size := Nat.ne_of_lt hb
            have b2 : b ≠ (s.heap.push (newSetObj w)).objs.size := by
              rw [psz]
              exact Nat.ne_of_lt (Nat.lt_succ_of_lt hb)
            exact mv.heap b o (by simp only [List.mem_cons, List.mem_singleton, List.not_mem_nil, or_false, not_or]; exact ⟨b1, b2⟩) (Heap.get?_push_of_some _ (Heap.get?_push_of_some _ z))
      · cases r₂ with
        | error e => exact hr₂
        | ok fl₂ =>
          cases fl₂ with
          | ret r =>
            obtain ⟨e1, h', tk, e2, hD, hs, hk⟩ := hr₂
            subst e1 e2
            repeat (any_goals (first | assumption | wp_step))
            exact q _ _ hD hk hs
          | _ => exact hr₂.elim
    | _ => exact hr.elim
end

/-! ### sorted(s) -/
theorem strs_of_all : ∀ (l : List Value), (∀ v ∈ l, ∃ k tk, v = Value.str k tk) → ∃ xs : List Str, PyProof.Rows.StrsAre l xs
  | [], _ => ⟨[], .nil⟩
  | v :: l, h => by
    obtain ⟨k, tk, e⟩ := h v List.mem_cons_self
    subst e
    obtain ⟨xs, r⟩ := strs_of_all l fun u hu => h u (List.mem_cons_of_mem _ hu)
    exact ⟨k :: xs, .cons k tk r⟩
def txV : Value → Str
  | .str x _ => x
  | _ => Str.empty
theorem strs_map : ∀ {l : List Value} {xs : List Str}, PyProof.Rows.StrsAre l xs → xs = l.map txV
  | _, _, .nil => rfl
  | _, _, .cons k tk r => by rw [List.map_cons, ← strs_map r] <;> rfl
section
variable {P : Program} {w : World} {A : Around} {E : Value → Shared → Prop} {s : Shared} {a : Addr} {L : List Str}
theorem sorted_ofTx {Q : Value → Shared → Prop} (R : SetT w s.heap a L) (calm : A.handled = none) (few : L.length < 64)
    (q : ∀ s' p (out : Array Value) (c : Nat) (xs : List Str), (∀ b o, s.heap.get? b = some o → s'.heap.get? b = some o) → s'.gens = s.gens → s'.os = s.os → s.heap.objs.size ≤ p →
      s'.heap.get? p = some (seqObj "list" out c) → PyProof.Rows.StrsAre out.toList xs → xs.Nodup → (∀ k, k ∈ xs ↔ k ∈ L) → sortedS xs = true → Q (.ref p) s') :
    wpAny (model P w) A (call (.builtin "sorted") [.ref a]) Q E s := by
  obtain ⟨ob, es, ep, tb, at0, ex, dt, T⟩ := R
  have sz : es.size < 64 := Nat.lt_of_le_of_lt T.le few
  refine Calls.call_function_entry kind_sorted plain_sorted entry_sorted (args_sorted1 _) ?_
  unfold Builtin.«sorted»
  refine wpAny_bind (m := checkCount "sorted" 1 1 _) (wpAny_pure ?_)
  refine wpAny_bind (collect_set (A := A.in1) calm ⟨ob, at0, ex.1, dt⟩ T.fit (Nat.lt_trans sz (by unfold scanBound; omega)) T.ris T.led fun s1 vs k1 hz g1 o1 pm => ?_)
  have vl : vs.length = es.size := by rw [pm.length_eq, List.length_map, Array.length_toList]
  obtain ⟨ks, hk⟩ := strs_of_all vs fun v hv => by
    obtain ⟨e, he, ee⟩ := List.mem_map.mp (pm.mem_iff.mp hv)
    obtain ⟨k, tk, h1, _⟩ := T.good e he
    exact ⟨k, tk, by rw [← ee]; exact h1⟩
  have pk : ks.Perm (es.toList.map txOf) := by
    rw [strs_map hk]
    have z := pm.map txV
    rw [List.map_map] at z
    exact z
  refine wpAny_bind (wpAny_newList ?_ (by rw [vl, sizeLine_eq]; omega))
  have at1 : (s1.heap.push (seqObj "list" vs.toArray 0)).get? s1.heap.objs.size = some (seqObj "list" vs.toArray 0) := Heap.get?_push_size _ rfl
  refine wpAny_bind (wpAny_holding (wpAny_call_entry slot_list_sort ⟨_, at1, rfl⟩ entry_list_sort (list_sort_treeK strKind_oneLt at1 hk.keysOf (fun v₁ v₂ rest e => keyKind_strs (by rw [← e]; exact hk)) (by rw [vl]; exact sz) fun st' hp hs => ⟨_, rfl, ?_⟩) (args_list_sort _)))
  obtain ⟨xs, a1, a2, a3⟩ := sorted_out_str hk hp hs
  obtain ⟨c, hc⟩ := sortedHeap_at (vs := vs) (out := (arrOf st').map (·.2)) at1
  have pn : xs.Perm (es.toList.map txOf) := a2.trans pk
  refine wpAny_pure ⟨_, rfl, q _ s1.heap.objs.size _ c xs (fun b u e => ?_) g1 o1 hz hc a1 (pn.nodup_iff.mpr T.nod) (fun k => by rw [pn.mem_iff, T.mem]) a3⟩
  have z := k1 b u e
  have lt := Heap.lt_size z
  show (sortedHeap (s1.heap.push (seqObj "list" vs.toArray 0)) s1.heap.objs.size vs _).get? b = some u
  rw [sortedHeap_old (Nat.ne_of_lt lt) (by rw [size_push']; exact Nat.lt_succ_of_lt lt)]
  exact Heap.get?_push_of_some _ z
end
/-! ### over H -/
def TxO (w : World) (a : Addr) (L : List Str) : HO := .ext fun h => SetT w h a L
section
variable {X : Cx}
theorem txO_ok {w : World} {P : Program} {H : Hp} {h : Heap} {a : Addr} {L : List Str} (R : SetT w h a L) : ObjOk P w H h a (TxO w a L) := by
  have ⟨ob, _, _, _, z, _⟩ := R
  exact ⟨R, ⟨ob, z⟩, fun h1 h2 p k => SetT.at p k⟩
def rSetOfTx (K : Frag) (w : World) : List V → Hp → VK → Prop := fun vs H Q => ∃ (l : Addr) (xs : List Str), vs = [.ref l] ∧ SqL K H l (xs.map V.str) ∧ xs.length ≤ 1000 ∧ ∀ p, H p = none → Q (.ref p) (upd H p (TxO w p xs))
theorem cr_setOfTx (hc : X.calm = true) : CallR X (.type "set") (rSetOfTx X.K X.w) := by
  intro pins s σ H vs us Q I r h
  obtain ⟨l, xs, e, hs, few, q⟩ := h
  subst e
  obtain ⟨its, rv, hl, _⟩ := I.list hs
  rw [Vals.ref1 r]
  have len := rv.length
  rw [List.length_map] at len
  refine set_ofTx (I.ok.hd hc) hl.isList rv.strs (by rw [List.size_toArray, ← len]; unfold scanBound; omega) fun h' tk hD hk hz => ?_
  exact ⟨.ref _, upd H s.heap.objs.size (TxO X.w s.heap.objs.size xs), I.laid (t' := tk) (fun b o e => hk b o (Heap.lt_size e) e) (Nat.le_refl _) (txO_ok hD), rfl, q _ (I.hok.fresh (Nat.le_refl _))⟩
def rSortedTx (w : World) : List V → Hp → VK → Prop := fun vs H Q => ∃ (a : Addr) (L : List Str), vs = [V.ref a] ∧ H a = some (TxO w a L) ∧ L.length < 64 ∧
  ∀ (xs : List Str) (p : Addr), xs.Nodup → (∀ k, k ∈ xs ↔ k ∈ L) → sortedS xs = true → H p = none → Q (.ref p) (upd H p (.lst (xs.map V.str)))
theorem nodup_few {L : List Str} : ∀ {xs : List Str}, xs.Nodup → (∀ k, k ∈ xs → k ∈ L) → xs.length ≤ L.length := fun {xs} => by
  induction L generalizing xs with
  | nil =>
    intro _ h
    cases xs with
    | nil => exact Nat.le_refl _
    | cons x r => cases h x List.mem_cons_self
  | cons y L ih =>
    intro nd h
    by_cases hy : y ∈ xs
    · have l1 := List.length_erase_of_mem hy
      have nd2 : (xs.erase y).Nodup := nd.erase y
      have := ih nd2 fun k hk => by
        have k1 := List.mem_of_mem_erase hk
        rcases List.mem_cons.mp (h k k1) with z | z
        · subst z
          exact absurd hk (List.Nodup.not_mem_erase nd)
        · exact z
      have l2 : 0 < xs.length := List.length_pos_of_mem hy
      rw [List.length_cons]
      omega
    · have := ih nd fun k hk => by
        rcases List.mem_cons.mp (h k hk) with z | z
        · subst z
          exact absurd hk hy
        · exact z
      rw [List.length_cons]
      omega
theorem cr_sortedTx (hc : X.calm = true) : CallR X (.builtin "sorted") (rSortedTx X.w) := by
  intro pins s σ H vs us Q I r h
  obtain ⟨a, L, e, ha, few, q⟩ := h
  subst e
  have R : SetT X.w s.heap a L := (I.hok a _ ha).1
  rw [Vals.ref1 r]
  refine sorted_ofTx R (I.ok.hd hc) few fun s' p out c xs k g o hp hg hi nd hm hs => ?_
  have l1 := nodup_few nd fun k hk => (hm k).mp hk
  have len : (xs.map V.str).length ≤ sizeLine := by
    rw [List.length_map, sizeLine_eq]
    omega
  have hn : H p = none := I.hok.fresh hp
  have J : Inv X pins σ (upd H p (.lst (xs.map V.str))) { s with heap := s'.heap, gens := s'.gens, drawn := s'.drawn, toks := s'.toks } :=
    I.call (ch := []) (Un.laid k hp hn) (I.hok.laid k hp ⟨len, out.toList, c, vals_of_strs hi, hg⟩) (by rw [g]; exact I.bare) (fun _ z => nomatch z)
  have e2 : s' = { s with heap := s'.heap, gens := s'.gens, drawn := s'.drawn, toks := s'.toks } := by
    cases s'
    cases s
    cases o
    rfl
  rw [e2]
  exact ⟨.ref p, _, J, rfl, q xs p nd hm hs hn⟩
end
section
variable {W W1 : Wd} {K : Frag} {δ : DEnv} {w : World} {te : TE}
/-- sorted(set(xs)) -/
theorem ef_sortedSet {P : List Str → Prop} (h : EvC W W1 K te δ fun xs : List Str => xs.length < 64 ∧ ∀ z : List Str, z.Nodup → (∀ k, k ∈ z ↔ k ∈ xs) → sortedS z = true → P z) : EvF W W1 K (tCB (rSortedTx w) (tCons (tCB (rSetOfTx K w) (tCons te tNil)) tNil)) δ P := fun O S H σ s Q q =>
  h O S H σ s _ fun a vs S1 H1 xs m l r p => ⟨a, xs, rfl, by rw [show xs.map V.str = vs from (flat_reps r).symm]; exact l.sq m.good.sub, Nat.le_of_lt (Nat.lt_trans p.1 (by decide)), fun b hb => by
    have m2 := m.trans (Mv.temp (o := TxO w b xs) m.good hb)
    exact ⟨b, xs, rfl, upd_same, p.1, fun ys c nd hm hs hc => q c _ S1 _ ys (m2.trans (Mv.temp m2.good hc)) (Fresh.new m2.good hc) reps_flat (p.2 ys nd hm hs)⟩⟩
end
end DW
set_option maxHeartbeats 4000000
/-! DW: zip of a list and a tuple -/
namespace DW
open PySem PySem.Spec PyProof.Rows L2
section
variable {prog : Program} {w : World} {A : Around} {E : Value → Shared → Prop} {s : Shared}
theorem zipM_item {z pI pO ia ib la lb : Addr} {k1 k2 : Nat} {xs ys : Array Value} {x y a b : Value} {Q : Value → Shared → Prop} (D : ZipApart z pI pO ia ib la lb)
    (kz : IsZip s.heap z pI pO .none) (kI : IsPair s.heap pI (.ref ia) (.ref ib)) (kO : IsPair s.heap pO a b)
    (ka : s.heap.IsListIter ia la k1) (kb : s.heap.IsTupleIter ib lb k2) (ca : s.heap.IsList la xs) (cb : s.heap.IsTuple lb ys) (gx : xs[k1]? = some x) (gy : ys[k2]? = some y)
    (kQ : ∀ h', IsZip h' z pI pO (rawInt s.heap.objs.size) → IsPair h' pO x y → h'.IsListIter ia la (k1 + 1) → h'.IsTupleIter ib lb (k2 + 1) → IsPair h' s.heap.objs.size x y → h'.objs.size = s.heap.objs.size + 1 →
      (∀ c o, c ≠ z → c ≠ pO → c ≠ ia → c ≠ ib → s.heap.get? c = some o → h'.get? c = some o) → Q (.ref s.heap.objs.size) { s with heap := h' }) :
    wpAny (model prog w) A (Builtin.«zip.__next__» ⟨[.ref z], []⟩) (fun fin s' => ∃ v, fin = .done (.ret v) ∧ Q v s') E s := by
  show wpAny _ _ (field (.ref z) 2 >>= _) _ _ _; refine wpAny_bind (wpAny_field kz rfl (x := .bool false) rfl ?_); show wpAny _ _ (field (.ref z) 3 >>= _) _ _ _; refine wpAny_bind (wpAny_field kz rfl (x := .ref pI) rfl ?_); refine wpAny_bind (wpAny_seqItems kI rfl ?_); show wpAny _ _ (Builtin.SmallTypes.ownedTupleIsFree (.ref z) >>= _) _ _ _; refine wpAny_bind ?_; unfold Builtin.SmallTypes.ownedTupleIsFree
  refine wpAny_bind (wpAny_field kz rfl (x := .none) rfl (wpAny_pure ?_)); simp only [if_true]; refine wpAny_bind (wpAny_rule ?_); refine wpAny_bind (wpAny_field kz rfl (x := .ref pO) rfl ?_); refine wpAny_bind (wpAny_setField_rec kz (by simp) fun h₁ kz₁ ts₁ => ?_); replace kz₁ : IsZip h₁ z pI pO .ellipsis := kz₁; refine wpAny_bind ?_; simp only [List.zipIdx_cons, List.zipIdx_nil, List.forIn_cons, List.forIn_nil]
  refine wpAny_bind (wpAny_bind (wpAny_onRaise ?_)); show wpAny _ _ (Builtin.SmallTypes.nextOf (.ref ia) >>= _) _ _ _; refine wpAny_bind (wpAny_nextOf_list_item (ka.extBut ts₁.extBut D.i1z) (ca.extBut ts₁.extBut D.l1z) gx fun h₂ h1₂ ts₂ => wpAny_pure ?_); have kO₂ : IsPair h₂ pO a b := ts₂.extBut _ _ D.TOi1 (ts₁.extBut _ _ D.TOz kO); refine wpAny_bind (wpAny_seqItems kO₂ rfl ?_); refine wpAny_bind (wpAny_updateSeq_pair kO₂ fun h₃ kO₃ ts₃ => ?_)
  replace kO₃ : IsPair h₃ pO x b := kO₃; refine wpAny_bind (wpAny_letGo (wpAny_pure ?_)); refine wpAny_bind (wpAny_bind (wpAny_onRaise ?_)); show wpAny _ _ (Builtin.SmallTypes.nextOf (.ref ib) >>= _) _ _ _
  refine wpAny_bind (RZ.nextOf_tuple_item (((kb.extBut ts₁.extBut D.i2z).extBut ts₂.extBut D.i12.symm).extBut ts₃.extBut D.TOi2.symm)
    (((cb.extBut ts₁.extBut D.l2z).extBut ts₂.extBut D.l2i1).extBut ts₃.extBut D.l2TO) gy fun h₄ h2₄ ts₄ => wpAny_pure ?_)
  have kO₄ : IsPair h₄ pO x b := ts₄.extBut _ _ D.TOi2 kO₃; refine wpAny_bind (wpAny_seqItems kO₄ rfl ?_); refine wpAny_bind (wpAny_updateSeq_pair kO₄ fun h₅ kO₅ ts₅ => ?_); replace kO₅ : IsPair h₅ pO x y := kO₅; refine wpAny_bind (wpAny_letGo (wpAny_pure (wpAny_pure ?_))); refine wpAny_bind (wpAny_seqItems kO₅ rfl ?_); refine wpAny_bind (wpAny_newTuple ?_)
  have ksz : h₅.objs.size = s.heap.objs.size := by rw [ts₅.1, ts₄.1, ts₃.1, ts₂.1, ts₁.1]
  have kz₅ : IsZip h₅ z pI pO .ellipsis := ts₅.extBut _ _ D.TOz.symm (ts₄.extBut _ _ D.i2z.symm (ts₃.extBut _ _ D.TOz.symm (ts₂.extBut _ _ D.i1z.symm kz₁)))
  have hk₅ : ∀ c o, c ≠ z → c ≠ pO → c ≠ ia → c ≠ ib → s.heap.get? c = some o → h₅.get? c = some o := fun c o c1 c2 c3 c4 e =>
    ts₅.extBut _ _ c2 (ts₄.extBut _ _ c4 (ts₃.extBut _ _ c2 (ts₂.extBut _ _ c3 (ts₁.extBut _ _ c1 e))))
  have h1₅ : h₅.IsListIter ia la (k1 + 1) := ((h1₂.extBut ts₃.extBut D.TOi1.symm).extBut ts₄.extBut D.i12).extBut ts₅.extBut D.TOi1.symm
  have h2₅ : h₅.IsTupleIter ib lb (k2 + 1) := h2₄.extBut ts₅.extBut D.TOi2.symm; have hzlt : z < h₅.objs.size := Heap.lt_size kz₅; have hTOlt : pO < h₅.objs.size := Heap.lt_size kO₅
  have hi1lt : ia < h₅.objs.size := by obtain ⟨_, e, _⟩ := h1₅; exact Heap.lt_size e
  have hi2lt : ib < h₅.objs.size := by obtain ⟨_, e, _⟩ := h2₅; exact Heap.lt_size e
  show wpAny _ _ (Builtin.SmallTypes.ownedTupleHandOut (.ref z) (.ref h₅.objs.size) >>= _) _ _ _; refine wpAny_bind ?_; unfold Builtin.SmallTypes.ownedTupleHandOut; have kz₆ : IsZip (h₅.push { cls := .type "tuple", data := .seq #[x, y] }) z pI pO .ellipsis := Heap.get?_push_of_some _ kz₅; refine wpAny_bind (wpAny_setField_rec kz₆ (by simp) fun h₇ kz₇ ts₇ => ?_); replace kz₇ : IsZip h₇ z pI pO (rawInt h₅.objs.size) := kz₇
  refine wpAny_setField_rec kz₇ (by simp) fun h₈ kz₈ ts₈ => ?_; replace kz₈ : IsZip h₈ z pI pO (rawInt h₅.objs.size) := kz₈; have up : ∀ c o, c ≠ z → h₅.get? c = some o → h₈.get? c = some o := fun c o c1 e => ts₈.extBut _ _ c1 (ts₇.extBut _ _ c1 (Heap.get?_push_of_some _ e)); have kT₈ : IsPair h₈ h₅.objs.size x y := ts₈.extBut _ _ (Nat.ne_of_gt hzlt) (ts₇.extBut _ _ (Nat.ne_of_gt hzlt) (Heap.get?_push_size _ rfl))
  have hz8 : h₈.objs.size = h₅.objs.size + 1 := by rw [ts₈.1, ts₇.1, Heap.size_push]
  rw [ksz] at kz₈ kT₈ hz8; refine wpAny_pure ⟨_, rfl, ?_⟩; show Q (.ref h₅.objs.size) _; rw [ksz]; exact kQ h₈ kz₈ (up _ _ D.TOz kO₅) (h1₅.at fun o e => up _ o D.i1z e) (h2₅.at fun o e => up _ o D.i2z e) kT₈ hz8 fun c o c1 c2 c3 c4 e => up c o c1 (hk₅ c o c1 c2 c3 c4 e)
theorem zipM_end {z pI pO ia ib la lb : Addr} {k1 k2 : Nat} {xs ys : Array Value} {a b : Value} {Q : Fin → Shared → Prop} (calm : A.handled = none) (D : ZipApart z pI pO ia ib la lb)
    (kz : IsZip s.heap z pI pO .none) (kI : IsPair s.heap pI (.ref ia) (.ref ib)) (kO : IsPair s.heap pO a b)
    (ka : s.heap.IsListIter ia la k1) (kb : s.heap.IsTupleIter ib lb k2) (ca : s.heap.IsList la xs) (cb : s.heap.IsTuple lb ys) (gend : xs[k1]? = none ∨ ys[k2]? = none)
    (kE : ∀ h' e, (∀ c o, c ≠ z → c ≠ pO → c ≠ ia → c ≠ ib → s.heap.get? c = some o → h'.get? c = some o) → (∃ o, h'.get? e = some o ∧ o.cls = .type "StopIteration") → E (.ref e) { s with heap := h' }) :
    wpAny (model prog w) A (Builtin.«zip.__next__» ⟨[.ref z], []⟩) Q E s := by
  show wpAny _ _ (field (.ref z) 2 >>= _) _ _ _; refine wpAny_bind (wpAny_field kz rfl (x := .bool false) rfl ?_); show wpAny _ _ (field (.ref z) 3 >>= _) _ _ _; refine wpAny_bind (wpAny_field kz rfl (x := .ref pI) rfl ?_); refine wpAny_bind (wpAny_seqItems kI rfl ?_); show wpAny _ _ (Builtin.SmallTypes.ownedTupleIsFree (.ref z) >>= _) _ _ _; refine wpAny_bind ?_; unfold Builtin.SmallTypes.ownedTupleIsFree
  refine wpAny_bind (wpAny_field kz rfl (x := .none) rfl (wpAny_pure ?_)); simp only [if_true]; refine wpAny_bind (wpAny_rule ?_); refine wpAny_bind (wpAny_field kz rfl (x := .ref pO) rfl ?_); refine wpAny_bind (wpAny_setField_rec kz (by simp) fun h₁ kz₁ ts₁ => ?_); replace kz₁ : IsZip h₁ z pI pO .ellipsis := kz₁; refine wpAny_bind ?_; simp only [List.zipIdx_cons, List.zipIdx_nil, List.forIn_cons, List.forIn_nil]
  refine wpAny_bind (wpAny_bind (wpAny_onRaise ?_)); show wpAny _ _ (Builtin.SmallTypes.nextOf (.ref ia) >>= _) _ _ _
  cases gx : xs[k1]? with
  | none =>
    refine wpAny_bind (wpAny_nextOf_list_end calm (ka.extBut ts₁.extBut D.i1z) (ca.extBut ts₁.extBut D.l1z) gx fun h₂ e ts₂ he => ?_); obtain ⟨oe, hoe, hce⟩ := he; have kz₂ : IsZip h₂ z pI pO .ellipsis := ts₂ _ _ D.i1z.symm kz₁
    have hez : e ≠ z := fun x => by subst x; rw [kz₂] at hoe; cases hoe; simp at hce
    refine wpAny_setField_rec kz₂ (by simp) fun h₃ _ ts₃ => kE h₃ e (fun c o c1 _ c3 _ x => ts₃.extBut _ _ c1 (ts₂ _ _ c3 (ts₁.extBut _ _ c1 x))) ⟨oe, ts₃.extBut _ _ hez hoe, hce⟩
  | some x =>
    have gy : ys[k2]? = none := by rcases gend with h | h; rw [gx] at h; cases h; exact h
    refine wpAny_bind (wpAny_nextOf_list_item (ka.extBut ts₁.extBut D.i1z) (ca.extBut ts₁.extBut D.l1z) gx fun h₂ h1₂ ts₂ => wpAny_pure ?_); have kO₂ : IsPair h₂ pO a b := ts₂.extBut _ _ D.TOi1 (ts₁.extBut _ _ D.TOz kO); refine wpAny_bind (wpAny_seqItems kO₂ rfl ?_); refine wpAny_bind (wpAny_updateSeq_pair kO₂ fun h₃ kO₃ ts₃ => ?_); refine wpAny_bind (wpAny_letGo (wpAny_pure ?_)); refine wpAny_bind (wpAny_bind (wpAny_onRaise ?_))
    show wpAny _ _ (Builtin.SmallTypes.nextOf (.ref ib) >>= _) _ _ _
    refine wpAny_bind (RZ.nextOf_tuple_end calm (((kb.extBut ts₁.extBut D.i2z).extBut ts₂.extBut D.i12.symm).extBut ts₃.extBut D.TOi2.symm)
      (((cb.extBut ts₁.extBut D.l2z).extBut ts₂.extBut D.l2i1).extBut ts₃.extBut D.l2TO) gy fun h₄ e ts₄ he => ?_)
    obtain ⟨oe, hoe, hce⟩ := he; have kz₄ : IsZip h₄ z pI pO .ellipsis := ts₄ _ _ D.i2z.symm (ts₃.extBut _ _ D.TOz.symm (ts₂.extBut _ _ D.i1z.symm kz₁))
    have hez : e ≠ z := fun x => by subst x; rw [kz₄] at hoe; cases hoe; simp at hce
    refine wpAny_setField_rec kz₄ (by simp) fun h₅ _ ts₅ => kE h₅ e (fun c o c1 c2 c3 c4 x => ts₅.extBut _ _ c1 (ts₄ _ _ c4 (ts₃.extBut _ _ c2 (ts₂.extBut _ _ c3 (ts₁.extBut _ _ c1 x))))) ⟨oe, ts₅.extBut _ _ hez hoe, hce⟩
theorem nextM_item {z pI pO ia ib la lb : Addr} {k1 k2 : Nat} {xs ys : Array Value} {x y a b : Value} {Q : Option Value → Shared → Prop} (D : ZipApart z pI pO ia ib la lb)
    (kz : IsZip s.heap z pI pO .none) (kI : IsPair s.heap pI (.ref ia) (.ref ib)) (kO : IsPair s.heap pO a b)
    (ka : s.heap.IsListIter ia la k1) (kb : s.heap.IsTupleIter ib lb k2) (ca : s.heap.IsList la xs) (cb : s.heap.IsTuple lb ys) (gx : xs[k1]? = some x) (gy : ys[k2]? = some y)
    (kQ : ∀ h', IsZip h' z pI pO (rawInt s.heap.objs.size) → IsPair h' pO x y → h'.IsListIter ia la (k1 + 1) → h'.IsTupleIter ib lb (k2 + 1) → IsPair h' s.heap.objs.size x y → h'.objs.size = s.heap.objs.size + 1 →
      (∀ c o, c ≠ z → c ≠ pO → c ≠ ia → c ≠ ib → s.heap.get? c = some o → h'.get? c = some o) → Q (some (.ref s.heap.objs.size)) { s with heap := h' }) :
    wpAny (model prog w) A (pyNext (.ref z)) Q E s := by
  have hT : s.TypeIs (.ref z) "zip" := ⟨_, kz, rfl⟩
  unfold pyNext
  exact wpAny_bind (wpAny_attempt (wpAny_callSpecial?_slot (name := Str.ofString "__next__") hT F.slot_zip_next
    (wpAny_call_entry F.slot_zip_next hT F.entry_zip_next
      (zipM_item D kz kI kO ka kb ca cb gx gy fun h' a1 a2 a3 a4 a5 a6 a7 => wpAny_pure (kQ h' a1 a2 a3 a4 a5 a6 a7)) (F.args_zip_next_1 _))))
theorem nextM_end {z pI pO ia ib la lb : Addr} {k1 k2 : Nat} {xs ys : Array Value} {a b : Value} {Q : Option Value → Shared → Prop} (calm : A.handled = none) (D : ZipApart z pI pO ia ib la lb)
    (kz : IsZip s.heap z pI pO .none) (kI : IsPair s.heap pI (.ref ia) (.ref ib)) (kO : IsPair s.heap pO a b)
    (ka : s.heap.IsListIter ia la k1) (kb : s.heap.IsTupleIter ib lb k2) (ca : s.heap.IsList la xs) (cb : s.heap.IsTuple lb ys) (gend : xs[k1]? = none ∨ ys[k2]? = none)
    (kQ : ∀ h', (∀ c o, c ≠ z → c ≠ pO → c ≠ ia → c ≠ ib → s.heap.get? c = some o → h'.get? c = some o) → Q none { s with heap := h' }) : wpAny (model prog w) A (pyNext (.ref z)) Q E s := by
  have hT : s.TypeIs (.ref z) "zip" := ⟨_, kz, rfl⟩
  unfold pyNext
  refine wpAny_bind (wpAny_attempt (wpAny_callSpecial?_slot (name := Str.ofString "__next__") hT F.slot_zip_next
    (wpAny_call_entry F.slot_zip_next hT F.entry_zip_next (zipM_end calm D kz kI kO ka kb ca cb gend fun h' e kk he => ?_) (F.args_zip_next_1 _))))
  obtain ⟨o, ho, hc⟩ := he; refine wpAny_bind (wpAny_isInstance (T := "StopIteration") (b := true) ⟨o, ho, hc⟩ isSubtype_stop ?_); exact wpAny_pure (kQ _ kk)
end
abbrev zipMH1 (h : Heap) (la : Addr) : Heap := h.push { cls := .type "list_iterator", data := .fields #[.ref la, .int 0 0] }
abbrev zipMH2 (h : Heap) (la lb : Addr) : Heap := (zipMH1 h la).push { cls := .type "tuple_iterator", data := .fields #[.ref lb, .int 0 0] }
abbrev zipMH3 (h : Heap) (la lb : Addr) : Heap := (zipMH2 h la lb).push { cls := .type "tuple", data := .seq #[.ref h.objs.size, .ref (zipMH1 h la).objs.size] }
abbrev zipMH4 (h : Heap) (la lb : Addr) : Heap := (zipMH3 h la lb).push { cls := .type "tuple", data := .seq #[.none, .none] }
abbrev zipMH5 (h : Heap) (la lb : Addr) : Heap := (zipMH4 h la lb).push { cls := .type "zip", data := .fields #[.none, .bool false, .bool false, .ref (zipMH2 h la lb).objs.size, .ref (zipMH3 h la lb).objs.size] }
theorem meets_zipM (la lb : Addr) (xs ys : Array Value) :
    Meets (Builtin.«zip.__new__» ⟨[.type "zip", .ref la, .ref lb], []⟩) (fun _ R s => s.heap.IsList la xs ∧ s.heap.IsTuple lb ys ∧
      R (.ok (.ret (.ref (zipMH4 s.heap la lb).objs.size))) { s with heap := zipMH5 s.heap la lb }) :=
  .of_wp fun prog w A R s h => by
    obtain ⟨hp, g, d, tk, os⟩ := s; obtain ⟨ca, cb, h⟩ := h; have hsub := sub_zip; have hL1 : Heap.IsList (Shared.heap ⟨hp, g, d, tk, os⟩) la xs := ca; have hL2 : Heap.IsTuple (Shared.heap ⟨hp.push { cls := .type "list_iterator", data := .fields #[.ref la, .int 0 0] }, g, d, tk, os⟩) lb ys := Heap.IsTuple.push cb _
    wp_walk using wpAny_pyIter_list hL1, wpAny_pyIter_tuple hL2
    exact ⟨_, rfl, h⟩
section
variable {prog : Program} {w : World} {A : Around} {E : Value → Shared → Prop} {s : Shared}
theorem call_zipM {la lb : Addr} {xs ys : Array Value} {Q : Value → Shared → Prop} (ca : s.heap.IsList la xs) (cb : s.heap.IsTuple lb ys)
    (h : ∀ h', IsZip h' (s.heap.objs.size + 4) (s.heap.objs.size + 2) (s.heap.objs.size + 3) .none → IsPair h' (s.heap.objs.size + 2) (.ref s.heap.objs.size) (.ref (s.heap.objs.size + 1)) →
      IsPair h' (s.heap.objs.size + 3) .none .none → h'.IsListIter s.heap.objs.size la 0 → h'.IsTupleIter (s.heap.objs.size + 1) lb 0 → h'.objs.size = s.heap.objs.size + 5 →
      (∀ c o, s.heap.get? c = some o → h'.get? c = some o) → Q (.ref (s.heap.objs.size + 4)) { s with heap := h' }) :
    wpAny (model prog w) A (call (.type "zip") [.ref la, .ref lb]) Q E s := by
  refine callType_new F.called_zip (by decide) (F.typeCall_zip_2 _ _) (F.newCall_zip_2 _ _) (fun obj => F.args_object_init_3 obj _ _) F.entry_zip_new
    (meets_zipM la lb xs ys) ⟨ca, cb, ?_⟩
  have z1 : (zipMH1 s.heap la).objs.size = s.heap.objs.size + 1 := Heap.size_push ..
  have z2 : (zipMH2 s.heap la lb).objs.size = s.heap.objs.size + 2 := by rw [Heap.size_push, z1]
  have z3 : (zipMH3 s.heap la lb).objs.size = s.heap.objs.size + 3 := by rw [Heap.size_push, z2]
  have z4 : (zipMH4 s.heap la lb).objs.size = s.heap.objs.size + 4 := by rw [Heap.size_push, z3]
  have z5 : (zipMH5 s.heap la lb).objs.size = s.heap.objs.size + 5 := by rw [Heap.size_push, z4]
  have g5 : (zipMH5 s.heap la lb).get? (zipMH4 s.heap la lb).objs.size = some _ := Heap.get?_push_size _ rfl; have g4 : (zipMH5 s.heap la lb).get? (zipMH3 s.heap la lb).objs.size = some _ := Heap.get?_push_of_some _ (Heap.get?_push_size _ rfl); have g3 : (zipMH5 s.heap la lb).get? (zipMH2 s.heap la lb).objs.size = some _ := Heap.get?_push_of_some _ (Heap.get?_push_of_some _ (Heap.get?_push_size _ rfl))
  have g2 : (zipMH5 s.heap la lb).get? (zipMH1 s.heap la).objs.size = some _ := Heap.get?_push_of_some _ (Heap.get?_push_of_some _ (Heap.get?_push_of_some _ (Heap.get?_push_size _ rfl))); have g1 : (zipMH5 s.heap la lb).get? s.heap.objs.size = some _ := Heap.get?_push_of_some _ (Heap.get?_push_of_some _ (Heap.get?_push_of_some _ (Heap.get?_push_of_some _ (Heap.get?_push_size _ rfl)))); show _ ∧ _; rw [z2, z3, z4] at g5
  rw [z1, z2] at g3; rw [z3] at g4; rw [z1] at g2; rw [z4]
  exact ⟨⟨_, g5, rfl⟩, h _ g5 g3 g4 ⟨_, g1, rfl, rfl⟩ ⟨_, g2, rfl, rfl⟩ z5 fun c o x =>
    Heap.get?_push_of_some _ (Heap.get?_push_of_some _ (Heap.get?_push_of_some _ (Heap.get?_push_of_some _ (Heap.get?_push_of_some _ x))))⟩
end
def ItzM (K : PySem.W.Frag) (a b : Addr) : It :=
  ⟨fun i H => ∃ (xs ys : List V) (x y : V), SqL K H a xs ∧ SqT K H b ys ∧ xs[i]? = some x ∧ ys[i]? = some y,
    fun i H v H' => ∃ T x y, v = .ref T ∧ H T = none ∧ H' = upd H T (.tup [x, y]) ∧ (∀ xs, SqL K H a xs → xs[i]? = some x) ∧ ∀ ys, SqT K H b ys → ys[i]? = some y,
    fun i H => ∃ xs ys : List V, SqL K H a xs ∧ SqT K H b ys ∧ (xs.length ≤ i ∨ ys.length ≤ i)⟩
theorem turn_zipM {P : Program} {w : World} {K : PySem.W.Frag} {elts : List Expr} {kk : Nat} {tpos : Pos} {a b z pI pO ia ib : Addr} (D : ZipApart z pI pO ia ib a b) :
    Turn P w K (.Tuple elts kk tpos) (ItzM K a b) [z, pI, pO, ia, ib] z (fun i h => IsZip h z pI pO .none ∧ IsPair h pI (.ref ia) (.ref ib) ∧ (∃ x y, IsPair h pO x y) ∧ h.IsListIter ia a i ∧ h.IsTupleIter ib b i) where
  mem := by simp
  obj := fun i h st c hc => by
    obtain ⟨kz, kI, ⟨x, y, kO⟩, ⟨o1, e1, _, d1⟩, ⟨o2, e2, _, d2⟩⟩ := st
    have e' : c = z ∨ c = pI ∨ c = pO ∨ c = ia ∨ c = ib := by simpa using hc
    rcases e' with q | q | q | q | q
    · rw [q]; exact ⟨_, kz, fun v q => nomatch q⟩
    · rw [q]; exact ⟨_, kI, fun v q => nomatch q⟩
    · rw [q]; exact ⟨_, kO, fun v q => nomatch q⟩
    · rw [q]; exact ⟨o1, e1, fun v q => by rw [d1] at q; cases q⟩
    · rw [q]; exact ⟨o2, e2, fun v q => by rw [d2] at q; cases q⟩
  keep := fun i h h' st k => by
    obtain ⟨kz, kI, ⟨x, y, kO⟩, ka, kb⟩ := st; exact ⟨k z (by simp) _ kz, k pI (by simp) _ kI, ⟨x, y, k pO (by simp) _ kO⟩, ka.at fun o q => k ia (by simp) o q, kb.at fun o q => k ib (by simp) o q⟩
  item := by
    intro X hP hw hK hc i pins s σ H E I hf st hg
    subst hP hw hK; obtain ⟨kz, kI, ⟨x0, y0, kO⟩, ka, kb⟩ := st; obtain ⟨xs, ys, x, y, qa, qb, gx, gy⟩ := hg; obtain ⟨its, va, p, _⟩ := I.list qa; obtain ⟨its2, vb, p2, _⟩ := I.tuple qb; obtain ⟨u, hu, ru⟩ := va.get gx; obtain ⟨u2, hu2, ru2⟩ := vb.get gy; have hzl : z < s.heap.objs.size := Heap.lt_size kz; refine nextM_item D kz kI kO ka kb p.isList p2 (x := u) (y := u2) (by simpa using hu) (by simpa using hu2) fun h' z' pO' ka' kb' hT ksz kk => ?_
    refine ⟨_, rfl, wpAny_letOwnedTupleGo_zip (s := { s with heap := h' }) z' fun h'' z'' sb => ?_⟩
    have hT2 : h''.get? s.heap.objs.size = some { cls := .type "tuple", data := .seq #[u, u2] } := (sb.2 _ (Nat.ne_of_gt hzl)).trans hT
    have new : ObjOk X.prog X.w (upd H s.heap.objs.size (.tup [x, y])) h'' s.heap.objs.size (.tup [x, y]) :=
      ⟨by show 2 ≤ sizeLine; decide, [u, u2], .cons ru (.cons ru2 .nil), ⟨_, hT2, rfl, _, rfl⟩⟩
    have I1 : Inv X pins σ (upd H s.heap.objs.size (.tup [x, y])) { s with heap := h'' } :=
      I.turnedNew (t' := s.toks) (ch := [z, pI, pO, ia, ib]) (fun c o hb q => (sb.2 c (fun q' => hb (by simp [q']))).trans (kk c o (fun q' => hb (by simp [q'])) (fun q' => hb (by simp [q'])) (fun q' => hb (by simp [q'])) (fun q' => hb (by simp [q'])) q)) hf (Nat.le_refl _) new
    refine ⟨.ref s.heap.objs.size, _, I1, rfl, ⟨_, x, y, rfl, I.hok.fresh (Nat.le_refl _), rfl, fun l hl => by rw [I.list_inj hl qa]; exact gx, fun l hl => by rw [I.tuple_inj hl qb]; exact gy⟩, ⟨z'', ?_, ⟨u, u2, ?_⟩, ?_, ?_⟩, fun c hcm => ?_⟩
    · exact (sb.2 _ D.TIz).trans (kk _ _ D.TIz D.TITO D.TIi1 D.TIi2 kI)
    · exact (sb.2 _ D.TOz).trans pO'
    · exact ka'.at fun o q => (sb.2 _ D.i1z).trans q
    · exact kb'.at fun o q => (sb.2 _ D.i2z).trans q
    · have hlt : c < s.heap.objs.size := by
        have e' : c = z ∨ c = pI ∨ c = pO ∨ c = ia ∨ c = ib := by simpa using hcm
        rcases e' with q | q | q | q | q
        · rw [q]; exact hzl
        · rw [q]; exact Heap.lt_size kI
        · rw [q]; exact Heap.lt_size kO
        · rw [q]; obtain ⟨_, e1, _⟩ := ka; exact Heap.lt_size e1
        · rw [q]; obtain ⟨_, e2, _⟩ := kb; exact Heap.lt_size e2
      rw [upd_ne (Nat.ne_of_lt hlt)]; exact (hf c hcm).1
  done := by
    intro X hP hw hK hc i pins s σ H E I hf st hg
    subst hP hw hK; obtain ⟨kz, kI, ⟨x0, y0, kO⟩, ka, kb⟩ := st; obtain ⟨xs, ys, qa, qb, gend⟩ := hg; obtain ⟨its, va, p, _⟩ := I.list qa; obtain ⟨its2, vb, p2, _⟩ := I.tuple qb; have la := va.length; have lb := vb.length
    have he : its.toArray[i]? = none ∨ its2.toArray[i]? = none := by
      rcases gend with q | q
      · exact .inl (by simp; omega)
      · exact .inr (by simp; omega)
    exact nextM_end (I.ok.hd hc) D kz kI kO ka kb p.isList p2 he fun h' kk => ⟨rfl, I.turnedL (t' := s.toks) (ch := [z, pI, pO, ia, ib]) (fun c o hb q =>
      kk c o (fun q' => hb (by simp [q'])) (fun q' => hb (by simp [q'])) (fun q' => hb (by simp [q'])) (fun q' => hb (by simp [q'])) q) hf⟩
  self := fun A i s Q E st h => wpAny_pyIter_zip st.1 h
def iZipLT (K : Frag) (ta : TA) : TI := fun σ H R => ta σ H fun vs H1 => ∃ a b xs ys, vs = [.ref a, .ref b] ∧ SqL K H1 a xs ∧ SqT K H1 b ys ∧ R (ItzM K a b) H1
theorem pi_zipLT {X : Cx} {e e2 : Expr} {ta : TA} {p pos tpos : Pos} {elts : List Expr} {kk : Nat} (hg : Gl X "zip") (hm : X.mg "zip" = none) (ha : PA X [e, e2] ta)
    (hs : starEach [e, e2] X.env = (false, eval e X.env) :: starEach [e2] X.env := by rfl) (hpl : (backTo pos (starEach [e2] X.env)).any (·.1) = false := by rfl) : PI X (.Tuple elts kk tpos) (.Call (.Name "zip" p) [e, e2] [] pos) (iZipLT X.K ta) := by
  refine ⟨fun pins s σ H R I h => Call_ (ld_blt I hg hm PyProof.Rows.boot_zip (PyProof.Rows.callWith_type1 (thn (ha.run pos pins s σ H _ I h) fun us s1 hh => ?_) hs hpl))⟩
  obtain ⟨vs, H1, I1, r1, a, b, xs, ys, ex, qa, qb, q⟩ := hh
  subst ex
  obtain ⟨u, u', eu, ra, rb⟩ := vals2 r1
  subst eu
  obtain rfl : u = Value.ref a := ra
  obtain rfl : u' = Value.ref b := rb
  have new : ∀ c, c ∈ [s1.heap.objs.size + 4, s1.heap.objs.size + 2, s1.heap.objs.size + 3, s1.heap.objs.size, s1.heap.objs.size + 1] → FpOk X pins H1 c := fun c hc => by
    have le : s1.heap.objs.size ≤ c := by
      have z : c = s1.heap.objs.size + 4 ∨ c = s1.heap.objs.size + 2 ∨ c = s1.heap.objs.size + 3 ∨ c = s1.heap.objs.size ∨ c = s1.heap.objs.size + 1 := by simpa using hc
      have le' : ∀ n : Nat, s1.heap.objs.size ≤ s1.heap.objs.size + n := fun n => Nat.le_add_right _ n
      rcases z with z | z | z | z | z <;> rw [z] <;> first | exact le' _ | exact Nat.le_refl _
    exact I1.fpOk le (I1.hok.fresh le)
  obtain ⟨its, va, p1, _⟩ := I1.list qa
  obtain ⟨its2, vb, p2, _⟩ := I1.tuple qb
  obtain ⟨o2, ho2, _⟩ := id p2
  refine call_zipM p1.isList (show s1.heap.IsTuple b its2.toArray from p2) fun h' kz kI kO ka kb ksz kp => wpAny_pyIter_zip kz ?_
  have I2 : Inv X pins σ H1 { s1 with heap := h' } := I1.kept (t' := s1.toks) kp
  exact ⟨s1.heap.objs.size + 4, _, _, _, H1, rfl, I2, turn_zipM (PySem.W.ktu_apart s1.heap.objs.size a b p1.lt (Heap.lt_size ho2)), ⟨kz, kI, ⟨_, _, kO⟩, ka, kb⟩, new, q⟩
section
variable {W W1 : Wd} {K : Frag} {δ : DEnv} {α β : Type} [Rep α] [Rep β] {ta : TA}
theorem evi_zipLT {P : List (α × β) → Prop} (h : EvA W W1 K ta δ fun g : List α × Tp β × Unit => P (List.zip g.1 g.2.1.l)) : EvI W W1 K (iZipLT K ta) δ P := fun O S H σ s R q =>
  h O S H σ s _ fun ws S1 H1 g m hr p => by
    obtain ⟨v1, r1, e1, ⟨a, vs, ea, ha, ra⟩, v2, r2, e2, ⟨b, us, eb, hb, rb⟩, e3⟩ := hr
    have e3' : r2 = [] := e3
    subst e3' eb e2 ea e1
    refine ⟨a, b, vs, us, rfl, .inl (.inl (m.good.sub.lst ha)), m.good.sub.sqT hb, q _ S1 H1 _ m (it_zipG (J := ItzM K a b) (A := fun H xs => SqL K H a xs) (B := fun H xs => SqT K H b xs) (fun i H x y q1 q2 q3 q4 => ⟨vs, us, x, y, q1, q2, q3, q4⟩) (fun i H q1 q2 q3 => ⟨vs, us, q1, q2, q3⟩) (fun i H v H' y => y)
      (fun O S H ex g => .inl (.inl (g.sub.lst (ex _ _ ha)))) (fun O S H ex g => g.sub.sqT (ex.sqT hb)) ra rb) p⟩
end
end DW
set_option maxHeartbeats 4000000
/-! DW: the script that is handed in -/
namespace DW
open PySem PySem.Spec PyProof.Rows L2
theorem Sub.sqL {S H : Hp} (h : Sub S H) {K : Frag} {a : Addr} {xs : List V} (e : SqL K S a xs) : SqL K H a xs := by
  rcases e with (e | ⟨o, e⟩) | e
  · exact .inl (.inl (h.lst e))
  · rcases h a _ e with z | ⟨z, _⟩
    · exact .inl (.inr ⟨o, z⟩)
    · exact z.elim
  · exact .inr e
theorem Ex.sqL {S S' : Hp} (h : Ex S S') {K : Frag} {a : Addr} {xs : List V} (e : SqL K S a xs) : SqL K S' a xs := by
  rcases e with (e | ⟨o, e⟩) | e
  · exact .inl (.inl (h a _ e))
  · exact .inl (.inr ⟨o, h a _ e⟩)
  · exact .inr e
/-- a list of ints that anybody may hold -/
structure Sq where
  l : List Int
instance : Rep Sq where
  rep K S v x := ∃ a, v = .ref a ∧ SqL K S a (x.l.map V.int)
  mono := fun e ⟨a, h1, h2⟩ => ⟨a, h1, e.sqL h2⟩
def onlyAt (H : Hp) (a : Addr) : Hp := fun b => if b = a then H a else none
theorem only_sub {H : Hp} {a : Addr} : Sub (onlyAt H a) H := fun b o e => by
  unfold onlyAt at e
  by_cases z : b = a
  · rw [if_pos z] at e
    rw [z]
    exact .inl e
  · rw [if_neg z] at e
    cases e
theorem only_sq {K : Frag} {H : Hp} {a : Addr} {xs : List V} (h : SqL K H a xs) : SqL K (onlyAt H a) a xs := by
  have e : onlyAt H a a = H a := by unfold onlyAt; rw [if_pos rfl]
  rcases h with (h | ⟨o, h⟩) | h
  · exact .inl (.inl (e.trans h))
  · exact .inl (.inr ⟨o, e.trans h⟩)
  · exact .inr h
section
variable {W : Wd} {K : Frag} {δ : DEnv} {i : Nat} {x : Sq}
theorem sq_at {O : Addr → Prop} {S H : Hp} {σ : L2.St} (s : Stt W K O S H σ δ) (hi : δ[i]? = some (sD x)) : ∃ a, σ[i]? = some (some (.ref a)) ∧ SqL K S a (x.l.map V.int) := by
  obtain ⟨ov, e, v, ev, a, ea, h⟩ := s.sl.2 i _ hi
  subst ev ea
  exact ⟨a, e, h⟩
theorem ef_slQ {P : List Int → Prop} (hi : δ[i]? = some (sD x)) (p : P (cutL x.l none (some 1))) : EvF W W K (tSl (rSlL K) (tVar i) tNoPart (tPart (tC (.int 1)))) δ P := fun O S H σ s Q q => by
  obtain ⟨a, e, h⟩ := sq_at s hi
  exact ⟨_, e, 1, rfl, a, _, rfl, s.g.sub.sqL h, fun b hb => q b _ S _ _ (Mv.temp s.g hb) (Fresh.new s.g hb) (reps_sl _ _ reps_flat) p⟩
theorem ef_listQ {P : List Int → Prop} (hi : δ[i]? = some (sD x)) (p : P x.l) : EvF W W K (tCB (fun xs H Q => ∃ p ys, xs = [.ref p] ∧ (SqL K H p ys ∨ SqT K H p ys) ∧ ∀ l, H l = none → Q (.ref l) (upd H l (.lst ys))) (tCons (tVar i) tNil)) δ P := fun O S H σ s Q q => by
  obtain ⟨a, e, h⟩ := sq_at s hi
  exact ⟨_, e, a, _, rfl, .inl (s.g.sub.sqL h), fun b hb => q b _ S _ _ (Mv.temp s.g hb) (Fresh.new s.g hb) reps_flat p⟩
theorem evio_Q {P : List Int → Prop} (hi : δ[i]? = some (sD x)) (p : P x.l) : EvIO W W K (iList K (tVar i)) δ P := fun O S H σ s R q => by
  obtain ⟨a, e, h⟩ := sq_at s hi
  refine ⟨_, e, a, rfl, ⟨_, s.g.sub.sqL h⟩, q _ S H x.l (Mv.refl s.g) (fun j O2 S2 H2 ex fx st g => ?_) p⟩
  have sq : SqL K H2 a (x.l.map V.int) := g.sub.sqL (ex.sqL h)
  refine ⟨fun y hy => ?_, fun e => ⟨_, sq, by rw [List.length_map]; exact Nat.le_of_eq e.symm⟩⟩
  have hv : (x.l.map V.int)[j]? = some (.int y) := by rw [List.getElem?_map, hy] <;> rfl
  refine ⟨⟨_, _, sq, hv⟩, fun u H' yl => ?_⟩
  obtain ⟨e1, f⟩ := yl
  subst e1
  have e2 : u = .int y := Option.some.inj ((f _ sq).symm.trans hv)
  subst e2
  exact ⟨S2, Mv.refl g, rfl⟩
end
/-- what the start promises: the state stands -/
def spStart (K : Frag) : Sp := fun vs H Q _ => ∃ (a : Addr) (ns : List Int), vs = [.ref a] ∧ SqL K H a (ns.map V.int) ∧ ns.length ≤ 63 ∧ ∀ H' r p q bigs cells, TkAt r H' p q bigs cells 0 → Q (.ref r) H'
def spLaw (K : Frag) : Sp := fun vs H Q _ => ∃ (a : Addr) (ns : List Int), vs = [.ref a] ∧ SqL K H a (ns.map V.int) ∧ ns.length ≤ 63 ∧ ∀ H', Q (.bl true) H'
theorem comp_len {α β : Type} {B : α → (Option β → Prop) → Prop} {k : List β → Prop} (hB : ∀ x (R : Option β → Prop), (∀ r, R r) → B x R) : ∀ (xs : List α) (acc : List β), (∀ ys : List β, ys.length ≤ acc.length + xs.length → k ys) → compW B k xs acc
  | [], acc, h => h acc (by simp)
  | x :: xs, acc, h => hB x _ fun r => comp_len hB xs _ fun ys hy => h ys (by
    have l : (acc ++ r.toList).length ≤ acc.length + 1 := by
      rw [List.length_append]
      cases r <;> simp
    rw [List.length_cons]
    omega)
end DW
set_option maxHeartbeats 4000000
namespace K21
open PySem PySem.Spec PyProof.Rows L2 DW
def topS (i : Nat) : Stmt := PySem.Challenge.pw_beforeclose_k21_whole_joined_never_more.main.body.getD i (.Pass ⟨0, 0, 0, 0⟩)
def reserved : Tp Str := ⟨["house", "outside", "money"]⟩
structure Tx (K : Frag) (mg : Str → Option Value) : Prop where
  b_all : mg "all" = none
  b_bool : mg "bool" = none
  b_dict : mg "dict" = none
  b_int : mg "int" = none
  b_isinstance : mg "isinstance" = none
  b_len : mg "len" = none
  b_list : mg "list" = none
  b_max : mg "max" = none
  b_min : mg "min" = none
  b_range : mg "range" = none
  b_set : mg "set" = none
  b_sorted : mg "sorted" = none
  b_str : mg "str" = none
  b_sum : mg "sum" = none
  b_tuple : mg "tuple" = none
  b_zip : mg "zip" = none
  b_abs : mg "abs" = none
  c_LETTERS : ∃ t, mg "LETTERS" = some (.str "abcdefghijklmnopqrstuvwxyz" t)
  c_LONGEST : ∃ t, mg "LONGEST" = some (.int 8 t)
  c_MOST_PRICE : ∃ t, mg "MOST_PRICE" = some (.int 99 t)
  c_MOST_MOVES : ∃ t, mg "MOST_MOVES" = some (.int 8 t)
  c_MOST_AMOUNT : ∃ t, mg "MOST_AMOUNT" = some (.int 12 t)
  c_RESERVED : ∃ a, mg "RESERVED" = some (.ref a) ∧ ∀ S, rep K S (.ref a) reserved
def letters : Str := "abcdefghijklmnopqrstuvwxyz"
def nameOk (x : Str) : Bool := decide ((1 : Int) ≤ (x.length : Int)) && (decide ((x.length : Int) ≤ 8) && ((letts x).map fun c => inStr c letters).all id)
def w_is_name (a : Str) (P : Bool → Prop) : Prop := a.length ≤ 100000 ∧ P (nameOk a)
abbrev W_is_name (g : Str × Unit) (P : Bool → Prop) : Prop := w_is_name g.1 P
abbrev Pos' := Dc Str Int
end K21
set_option maxHeartbeats 4000000
namespace K21
open PySem PySem.Spec PyProof.Rows L2 DW
section
variable {P : Program} {w : World} {K : Frag} {mg : Str → Option Value} {base : Heap}
theorem sc__law_take : FnScope ["state", "size", "digit", "cell", "one"] ["state", "size"] (defScope (topS 47)) := ⟨rfl, rfl, rfl, by decide +kernel, rfl, by decide +kernel, by decide +kernel⟩
theorem walk__law_take {f : Addr} {fd : FuncData} (X : Tx K mg) (F : Fun K "_law_take" "_law_take" (topS 47) f fd) (hm : mg "_law_take" = some (.ref f)) (bd : Binds K fd ["state", "size"] []) : CalD P w K mg base 1 "_law_take" (spD K (Stp 1) W__law_take) [] := by
  refine ⟨f, fd, _, [], hm, F.ok sc__law_take (fun vs H Q E h => ?_) (fun cdv A outer s H vs Q E hr h => ?_), .nil, bd, F.kp⟩
  · obtain ⟨W, W', O, S', g, Q', h1, h2, h3, h4, h5⟩ := h
    exact RepA.len h3
  · obtain ⟨W, W', O, S, ⟨_, m, _⟩, P', ⟨r, b, e1, e2, hb⟩, gd, ⟨r1, e3, v1, r2, e4, hv, e5⟩, ⟨hm, hP⟩, q⟩ := h
    have e5' : r2 = [] := e5
    have hv' : v1 = .int m := hv
    subst e5' e4 e3 e1 e2 hv'
    obtain ⟨p, qa, bigs, cells, n, t, h0, hn⟩ := gd.ok
    have m0 : (0 : Int) < m := hm.1
    have hbl : ((b : Int) + 1) ≤ 1099511627776 := by
      have : b + 1 ≤ 1099511627776 := hb
      omega
    refine ⟨_, (pss_cons (ps_asg (pe_op op_add (pe_ix ix_list (pv 0) pe_int (fun _ _ => rfl)) pe_int) (pg_sub (pv 0) pe_int set_list (fun _ => rfl)))
      (pss_cons (ps_while PassesOwn.never (PW.pt (pw_and (pt_cmpR (op_neD (hu64 hr)) (pe_ix ix_list (pv 0) pe_int (fun _ _ => rfl)) (pe_lst pa_nil) (nomark _)) (pw_and1 (pt_cmpR op_eq (pe_ix ix_list (pe_ix ix_list (pv 0) pe_int (fun _ _ => rfl)) pe_int (fun _ _ => rfl)) pe_int (nomark _))))) (pss_cons (ps_asg (pe_slice sl_list (pe_ix ix_list (pv 0) pe_int (fun _ _ => rfl)) (po_some pe_int) po_none) (pg_sub (pv 0) pe_int set_list (fun _ => rfl))) pss_nil))
      (pss_cons (ps_if (pt_cmpR (op_neD (hu64 hr)) (pe_ix ix_list (pv 0) pe_int (fun _ _ => rfl)) (pe_lst pa_nil) (nomark _)) (pss_cons (ps_set (i := 2) sc__law_take.nd (by rfl) (by first | exact .inl rfl | exact .inr rfl) (pe_op op_mod (pe_callTy call_int1 (by rfl) X.b_int rfl (pa_cons (pe_ix ix_list (pe_ix ix_list (pv 0) pe_int (fun _ _ => rfl)) pe_int (fun _ _ => rfl)) pa_nil)) (pv 1))) (pss_cons (ps_asg (pe_op op_fdiv (pe_ix ix_list (pe_ix ix_list (pv 0) pe_int (fun _ _ => rfl)) pe_int (fun _ _ => rfl)) (pv 1)) (pg_sub (pe_ix ix_list (pv 0) pe_int (fun _ _ => rfl)) pe_int set_list (fun _ => rfl))) (pss_cons (ps_ret (pv 2)) pss_nil))) pss_nil)
      (pss_cons (ps_set (i := 3) sc__law_take.nd (by rfl) (by first | exact .inl rfl | exact .inr rfl) (pe_op op_mod (pe_callTy call_int1 (by rfl) X.b_int rfl (pa_cons (pe_ix ix_list (pe_ix ix_list (pv 0) pe_int (fun _ _ => rfl)) (pe_op op_mod (pe_callTy call_int1 (by rfl) X.b_int rfl (pa_cons (pe_ix ix_list (pv 0) pe_int (fun _ _ => rfl)) pa_nil)) (pe_callB call_len_seq (by rfl) X.b_len rfl (pa_cons (pe_ix ix_list (pv 0) pe_int (fun _ _ => rfl)) pa_nil))) (fun _ _ => rfl)) pa_nil)) pe_int))
      (pss_cons (ps_set (i := 4) sc__law_take.nd (by rfl) (by first | exact .inl rfl | exact .inr rfl) (pe_op op_mod (pe_callTy call_int1 (by rfl) X.b_int rfl (pa_cons (pe_op op_pow (pe_op op_add (pe_op op_add (pe_op op_mul (pv 3) pe_int) (pe_op op_mul (pe_ix ix_list (pv 0) pe_int (fun _ _ => rfl)) pe_int)) pe_int) pe_int) pa_nil)) pe_int))
      (pss_cons (ps_ret (pe_op op_mod (pe_op op_mod (pe_callTy call_int1 (by rfl) X.b_int rfl (pa_cons (pe_op op_pow (pe_op op_add (pe_op op_add (pe_op op_mul (pv 4) pe_int) (pe_op op_mul (pe_ix ix_list (pv 0) pe_int (fun _ _ => rfl)) pe_int)) pe_int) pe_int) pa_nil)) pe_int) (pv 1)))
      pss_nil)))))), ?_⟩
    -- state[2] = state[2] + 1
    refine ⟨.ref r, rfl, r, _, 2, .int n, rfl, rfl, .inl (.inl t.at_), rfl, n, 1, rfl, rfl, .ref r, rfl, r, _, 2, 2, rfl, rfl, t.at_, rfl, ?_⟩
    have w0 : Tw r p qa H cells (n + 1) (upd H r (.lst [.ref p, .ref qa, .int (n + 1)])) p bigs :=
      ⟨⟨upd_same, by rw [upd_ne t.rp]; exact t.big, by rw [upd_ne t.rq]; exact t.cel, t.rp, t.rq, t.pq, t.pos, t.few⟩, fun a h1 h2 h3 => upd_ne h1, .inl rfl⟩
    -- the loop
    refine ⟨fun k σ' H' => σ' = [some (.ref r), some (.int m), none, none, none] ∧ ∃ p' bs, k = bs.length ∧ Tw r p qa H cells (n + 1) H' p' bs, ⟨_, rfl, p, bigs, rfl, w0⟩, fun k σ' H' hk => ?_⟩
    obtain ⟨rfl, p', bs, rfl, w1⟩ := hk
    -- state[0] != []
    refine ⟨.ref r, rfl, r, _, 0, .ref p', rfl, rfl, .inl (.inl w1.t.at_), rfl, Nat.zero_le _, fun a ha => ?_⟩
    have w2 := w1.temp (o := .lst []) ha
    refine ⟨_, _, dp_ints w2.t.big, dp_ints (xs := []) upd_same, ints_shaped bs, ints_shaped [], _, rfl, ?_⟩
    rw [show (List.map PyData.int []) = [] from rfl, ints_ne]
    cases bs with
    | nil =>
      refine iteF (iteF ?_)
      -- if state[0] != []
      refine ⟨.ref r, rfl, r, _, 0, .ref p', rfl, rfl, .inl (.inl w2.t.at_), rfl, Nat.zero_le _, fun a2 ha2 => ?_⟩
      have w3 := w2.temp (o := .lst []) ha2
      refine ⟨_, _, dp_ints w3.t.big, dp_ints (xs := []) upd_same, ints_shaped [], ints_shaped [], _, rfl, ?_⟩
      refine iteF ?_
      have sr : SqL K (upd (upd H' a (.lst [])) a2 (.lst [])) r [.ref p', .ref qa, .int (n + 1)] := .inl (.inl w3.t.at_)
      have sq : SqL K (upd (upd H' a (.lst [])) a2 (.lst [])) qa (cells.map V.int) := .inl (.inl w3.t.cel)
      have lp : (0 : Int) < ((cells.map V.int).length : Int) := by
        rw [List.length_map]
        have := w3.t.pos
        omega
      obtain ⟨j, hj⟩ : ∃ j : Nat, (n + 1) % ((cells.map V.int).length : Int) = (j : Int) := ⟨((n + 1) % ((cells.map V.int).length : Int)).toNat, (Int.toNat_of_nonneg (Int.emod_nonneg _ (by omega))).symm⟩
      have jl : j < cells.length := by
        have := Int.emod_lt_of_pos (n + 1) lp
        rw [hj, List.length_map] at this
        omega
      have at1 : atI (cells.map V.int) ((n + 1) % ((cells.map V.int).length : Int)) = some (.int cells[j]) := by
        rw [hj]
        exact atI_nat (by rw [List.getElem?_map, List.getElem?_eq_getElem jl] <;> rfl)
      have c0 := Int.emod_nonneg cells[j] (show (2147483647 : Int) ≠ 0 by decide)
      have c1 := Int.emod_lt_of_pos cells[j] (show (0 : Int) < 2147483647 by decide)
      refine ⟨.ref r, rfl, r, _, 1, .ref qa, rfl, rfl, sr, rfl, .ref r, rfl, r, _, 2, .int (n + 1), rfl, rfl, sr, rfl, .inl ⟨n + 1, rfl, .ref r, rfl, r, _, 1, .ref qa, rfl, rfl, sr, rfl, qa, _, rfl, .inl sq, n + 1, _, rfl, rfl, lp, qa, _, _, _, rfl, rfl, sq, at1, .inl ⟨_, rfl, _, 2147483647, rfl, rfl, (show (0 : Int) < 2147483647 by decide), ?_⟩⟩⟩
      dsimp only
      generalize cells[j] % 2147483647 = c at c0 c1 ⊢
      have mul : ∀ x : Int, CMul x 40692 ∧ CMul x 16807 ∧ CMul x 39373 ∧ CMul x 48271 := fun x => ⟨.inr (by decide), .inr (by decide), .inr (by decide), .inr (by decide)⟩
      have pw1 : CPow (c * 40692 + (n + 1) * 16807 + 41) 5 := ⟨by decide, by decide, by omega⟩
      refine ⟨.int c, rfl, c, 40692, rfl, rfl, (mul _).1, .ref r, rfl, r, _, 2, .int (n + 1), rfl, rfl, sr, rfl, n + 1, 16807, rfl, rfl, (mul _).2.1, _, _, rfl, rfl, _, 41, rfl, rfl, _, 5, rfl, rfl, pw1, .inl ⟨_, rfl, _, 2147483647, rfl, rfl, (show (0 : Int) < 2147483647 by decide), ?_⟩⟩
      have o0 := Int.emod_nonneg ((c * 40692 + (n + 1) * 16807 + 41) ^ (5 : Int).toNat) (show (2147483647 : Int) ≠ 0 by decide)
      have o1 := Int.emod_lt_of_pos ((c * 40692 + (n + 1) * 16807 + 41) ^ (5 : Int).toNat) (show (0 : Int) < 2147483647 by decide)
      dsimp only
      generalize (c * 40692 + (n + 1) * 16807 + 41) ^ (5 : Int).toNat % 2147483647 = o at o0 o1 ⊢
      have pw2 : CPow (o * 39373 + (n + 1) * 48271 + 29) 5 := ⟨by decide, by decide, by omega⟩
      refine ⟨.int o, rfl, o, 39373, rfl, rfl, (mul _).2.2.1, .ref r, rfl, r, _, 2, .int (n + 1), rfl, rfl, sr, rfl, n + 1, 48271, rfl, rfl, (mul _).2.2.2, _, _, rfl, rfl, _, 29, rfl, rfl, _, 5, rfl, rfl, pw2, .inl ⟨_, rfl, _, 2147483629, rfl, rfl, (show (0 : Int) < 2147483629 by decide), .int m, rfl, _, m, rfl, rfl, m0, ?_⟩⟩
      exact q _ S _ _ (w3.fin gd t (by omega) (by omega)) rfl (hP _ (Int.emod_nonneg _ (by omega)) (Int.emod_lt_of_pos _ m0))
    | cons x bs =>
      refine iteT ?_
      have sr : SqL K (upd H' a (.lst [])) r [.ref p', .ref qa, .int (n + 1)] := .inl (.inl w2.t.at_)
      have sp : SqL K (upd H' a (.lst [])) p' ((x :: bs).map V.int) := .inl (.inl w2.t.big)
      -- state[0][0] == 0
      refine ⟨.ref r, rfl, r, _, 0, .ref p', rfl, rfl, sr, rfl, p', _, 0, .int x, rfl, rfl, sp, atI_nat (j := 0) rfl, rfl, _, rfl, ite2 (fun _ => ?_) (fun _ => ?_)⟩
      · -- state[0] = state[0][1:]
        refine ⟨fun σ' H' => σ' = [some (.ref r), some (.int m), none, none, none] ∧ ∃ p2, Tw r p qa H cells (n + 1) H' p2 bs, fun σ' H' hN => ?_, ?_⟩
        · obtain ⟨e, p2, w3⟩ := hN
          exact ⟨bs.length, Nat.lt_succ_self _, e, p2, bs, rfl, w3⟩
        · refine ⟨.ref r, rfl, r, _, 0, .ref p', rfl, rfl, sr, rfl, 1, rfl, p', _, rfl, sp, fun c hc => ?_⟩
          have w3 := w2.cut (bs := bs) hc (by
            have := w2.t.few.1
            rw [List.length_cons] at this
            omega)
          have er : (upd (upd H' a (.lst [])) c (.lst (cutV ((x :: bs).map V.int) (some 1) none))) r = some (.lst [.ref p', .ref qa, .int (n + 1)]) := by
            rw [upd_ne (ne_of_none w2.t.at_ hc)]
            exact w2.t.at_
          refine ⟨.ref r, rfl, r, _, 0, 0, rfl, rfl, er, rfl, rfl, c, ?_⟩
          have ec : cutV ((x :: bs).map V.int) (some 1) none = bs.map V.int := by
            unfold cutV
            rw [show HT.sIx ((x :: bs).map V.int).length 0 (some 1) = min 1 ((x :: bs).map V.int).length from HT.sIx_nat _ 0 1, HT.sIx_none, List.length_map, List.length_cons, show min 1 (bs.length + 1) = 1 by omega]
            show List.take (bs.length + 1 - 1) (bs.map V.int) = bs.map V.int
            exact List.take_of_length_le (by rw [List.length_map]; omega)
          rw [ec]
          exact w3
      · have ix0 : ixN ((x :: bs).map V.int).length 0 = some 0 := by
          unfold ixN
          rw [if_pos (Int.le_refl 0), if_pos (by rw [List.map_cons, List.length_cons]; omega)] <;> rfl
        -- if state[0] != []
        refine ⟨.ref r, rfl, r, _, 0, .ref p', rfl, rfl, sr, rfl, Nat.zero_le _, fun a2 ha2 => ?_⟩
        have w3 := w2.temp (o := .lst []) ha2
        refine ⟨_, _, dp_ints w3.t.big, dp_ints (xs := []) upd_same, ints_shaped (x :: bs), ints_shaped [], _, rfl, ?_⟩
        rw [show (List.map PyData.int []) = [] from rfl, ints_ne]
        refine iteT ?_
        have sr : SqL K (upd (upd H' a (.lst [])) a2 (.lst [])) r [.ref p', .ref qa, .int (n + 1)] := .inl (.inl w3.t.at_)
        have sp : SqL K (upd (upd H' a (.lst [])) a2 (.lst [])) p' ((x :: bs).map V.int) := .inl (.inl w3.t.big)
        refine ⟨.ref r, rfl, r, _, 0, .ref p', rfl, rfl, sr, rfl, p', _, 0, .int x, rfl, rfl, sp, atI_nat (j := 0) rfl, .inl ⟨x, rfl, .int m, rfl, x, m, rfl, rfl, m0, ?_⟩⟩
        refine ⟨.ref r, rfl, r, _, 0, .ref p', rfl, rfl, sr, rfl, p', _, 0, .int x, rfl, rfl, sp, atI_nat (j := 0) rfl, .int m, rfl, x, m, rfl, rfl, hm, ?_⟩
        refine ⟨.ref r, rfl, r, _, 0, .ref p', rfl, rfl, sr, rfl, p', _, 0, 0, rfl, rfl, w3.t.big, ix0, ?_⟩
        have w4 := w3.put (bs := (x / m) :: bs) (by
          have := w3.t.few.1
          rw [List.length_cons] at this ⊢
          exact this)
        refine ⟨.int (x % m), rfl, ?_⟩
        exact q _ S _ _ (w4.fin gd t (by omega) (by omega)) rfl (hP _ (Int.emod_nonneg _ (by omega)) (Int.emod_lt_of_pos _ m0))
end
end K21
set_option maxHeartbeats 4000000
namespace K21
open PySem PySem.Spec PyProof.Rows L2 DW
section
variable {P : Program} {w : World} {K : Frag} {mg : Str → Option Value} {base : Heap}
theorem sc__law_mixed : FnScope ["state", "items", "over", "got", "k"] ["state", "items"] (defScope (topS 48)) := ⟨rfl, rfl, rfl, by decide +kernel, rfl, by decide +kernel, by decide +kernel⟩
theorem walk__law_mixed {α : Type} [Rep α] {f : Addr} {fd : FuncData} (X : Tx K mg) (C__law_take : CalD P w K mg base 1 "_law_take" (spD K (Stp 1) W__law_take) []) (F : Fun K "_law_mixed" "_law_mixed" (topS 48) f fd) (hm : mg "_law_mixed" = some (.ref f)) (bd : Binds K fd ["state", "items"] []) : CalD P w K mg base 2 "_law_mixed" (spD K (Stp 100) (W__law_mixed (α := α))) [] :=
  cal_ok F hm bd sc__law_mixed rfl (by decide) fun cdv A outer s H E hr => by
    refine ⟨_, pss_cons (ps_set (i := 2) sc__law_mixed.nd (by rfl) (by first | exact .inl rfl | exact .inr rfl) (pe_callTy call_list_of (by rfl) X.b_list rfl (pa_cons (pv 1) pa_nil)))
      (pss_cons (ps_set (i := 3) sc__law_mixed.nd (by rfl) (by first | exact .inl rfl | exact .inr rfl) (pe_lst pa_nil))
      (pss_cons (ps_for PassesOwn.never rfl (pi_range1 (by rfl) X.b_range (pa_cons (pe_callB call_len_seq (by rfl) X.b_len rfl (pa_cons (pv 2) pa_nil)) pa_nil)) (pg_name (i := 4) sc__law_mixed.nd (by rfl) (by first | exact .inl rfl | exact .inr rfl))
        (pss_cons (ps_expr (pe_bm PySem.F.plainAttrs_list PySem.F.slot_list_append PySem.F.type_list_append mt_append (pv 3) (pa_cons (pe_bm PySem.F.plainAttrs_list PySem.F.slot_list_pop PySem.F.type_list_pop mt_popAt (pv 2) (pa_cons (pe_cd C__law_take hr (by decide) (by rfl) (pa_cons (pv 0) (pa_cons (pe_callB call_len_seq (by rfl) X.b_len rfl (pa_cons (pv 2) pa_nil)) pa_nil))) pa_nil)) pa_nil))) pss_nil))
      (pss_cons (ps_ret (pv 3)) pss_nil))), fun W W2 hW g P h => ?_⟩
    obtain ⟨r, b, e1, e2, hb⟩ := hW
    subst e1 e2
    obtain ⟨hl, hP⟩ := h
    refine sd_seq (sd_asgL (i := 2) (ef_listC (fun h => h) (ec_ev (ev_var rfl ?_))))
    refine sd_seq (sd_asgL (α := α) (i := 3) (ef_lst (es_nil ⟨Nat.zero_le _, ?_⟩)))
    refine sd_seq (sd_forWs (N := 100) (fun i => Wst r (b + i * 1)) (Wst r (b + 100)) (fun s : List α × List α => [.raw (.ref r), sD (α := List α) g.2.1, sL (α := α) s.1, sL (α := α) s.2, .non]) (B := mixB) (k := fun s => P s.2)
      (evi_rng1 (ea_cons (ev_lenC (fun h => h) (ec_own rfl (ea_nil ⟨⟨?_, ?_⟩, (g.2.1, []), rfl, ?_, mix_run hl hP _ _ ?_ ?_⟩))))) (fun i x s nx hi h => tg_name ?_) (fun s h => ?_) (fun _ _ l z => sd_le l z) rfl fun i hi => stle (by omega))
    · omega
    · omega
    · rw [rng_len]
      exact hl
    · rw [rng_len]
      rfl
    · exact List.Perm.refl _
    · refine sd_seq (sd_appendPop (i := 3) (j := 2) rfl rfl (by decide) (Ev.imp (ev_call (stp (by omega)) (ea_tok rfl (ea_cons (ev_lenC (fun h => h) (ec_own rfl (ea_nil (show w__law_take (s.1.length : Int) fun x => 0 ≤ x ∧ x < (s.1.length : Int) from ⟨⟨?_, ?_⟩, fun x h1 h2 => ⟨h1, h2⟩⟩))))))) fun x hx => ⟨?_, ?_, x.toNat, ?_, ?_, fun y hy => sd_nextW [4] ⟨(s.1.eraseIdx x.toNat, s.2 ++ [y]), rfl, stle (by omega), h.2.2.2 x.toNat y hy⟩⟩))
      · have := h.1
        omega
      · have := h.2.1
        omega
      · have := h.2.2.1
        omega
      · have := h.2.1
        omega
      · omega
      · omega
    · exact sd_fix (i := 3) rfl (sd_seq (sd_retW rfl (ev_var rfl h) (Wle.refl _)))
end
end K21
set_option maxHeartbeats 4000000
namespace K21
open PySem PySem.Spec PyProof.Rows L2 DW
section
variable {P : Program} {w : World} {K : Frag} {mg : Str → Option Value} {base : Heap}
theorem sc_is_name : FnScope ["value", "letter"] ["value"] (defScope (topS 8)) := ⟨rfl, rfl, rfl, by decide +kernel, rfl, by decide +kernel, by decide +kernel⟩
theorem name_comp {k : List Bool → Prop} : ∀ (xs : List Str) (acc : List Bool), k (acc ++ xs.map fun c => inStr c letters) → compW (fun (x : Str) (R : Option Bool → Prop) => R (some (inStr x letters))) k xs acc
  | [], acc, h => by
    rw [List.map_nil, List.append_nil] at h
    exact h
  | x :: xs, acc, h => name_comp xs _ (by
    rw [List.map_cons] at h
    show k ((acc ++ [inStr x letters]) ++ _)
    rw [List.append_assoc]
    exact h)
theorem walk_is_name {f : Addr} {fd : FuncData} (X : Tx K mg) (F : Fun K "is_name" "is_name" (topS 8) f fd) (hm : mg "is_name" = some (.ref f)) (bd : Binds K fd ["value"] []) : CalD P w K mg base 1 "is_name" (spD K AnyW W_is_name) [] :=
  cal_ok F hm bd sc_is_name rfl (by decide) fun cdv A outer s H E hr => by
    refine ⟨_, (pss_cons (ps_if (PW.pt (pw_or (pt_not (pt_val (pe_callB call_isi (by rfl) X.b_isinstance rfl (pa_cons (pv 0) (pa_cons (pe_bltn (v := .ty "str") (by rfl) X.b_str rfl rfl) pa_nil)))))
        (pw_or1 (pt_not (pt_chain op_le op_le pe_int (pe_callB call_len_str (by rfl) X.b_len rfl (pa_cons (pv 0) pa_nil)) (pe_glob (v := .int 8) (by rfl) X.c_LONGEST.choose_spec ⟨_, rfl⟩)))))) (pss_cons (ps_ret pe_bl) pss_nil) pss_nil)
      (pss_cons (ps_ret (pe_callB (cr_all rfl) (by rfl) X.b_all rfl (pa_cons (pe_lc rfl sc_is_name.nd (pi_str (pv 0)) (blkOk_by (N := ["value", "letter"]) (sc := defScope (topS 8)) (own := [("letter", 1)]) (by decide +kernel)) (fun _ _ _ _ _ => (pg_name (i := 1) sc_is_name.nd (by rfl) (by first | exact .inl rfl | exact .inr rfl))) (fun _ _ _ _ _ => pts_nil)
        (fun _ _ _ _ _ => pe_cmpR op_in_str (pv 1) (pe_glob (v := .str letters) (by rfl) X.c_LETTERS.choose_spec ⟨_, rfl⟩) (by rfl))) pa_nil))) pss_nil)), fun W W2 hW g P h => ?_⟩
    have e1 : W = W2 := hW
    subst e1
    obtain ⟨hl, hP⟩ := h
    have fin : ∀ b : Bool, b = nameOk g.1 → P b := fun b e => by rw [e]; exact hP
    refine sd_seq (sd_if (et_or (et_not (et_B (ev_isi (b := true) (ev_var rfl ⟨fun _ => et_not (et_test (ev_chain (f := fun i j : Int => (decide (i ≤ j))) (g := fun i j : Int => (decide (i ≤ j)))
      (ev_int (ev_lenS (fun h => h) (ev_var rfl ⟨hl, fun h1 => ev_int ⟨fun h2 => ?_, fun h2 => ?_⟩, fun h1 => ⟨fun _ => ?_, fun z => nomatch z⟩⟩))) (Wle.refl _))), fun z => nomatch z⟩)))) (Wle.refl _)))
    · have e1 : decide ((1 : Int) ≤ (g.1.length : Int)) = true := h1
      have e2 : decide ((g.1.length : Int) ≤ 8) = false := by
        rcases Bool.eq_false_or_eq_true (decide ((g.1.length : Int) ≤ 8)) with z | z
        · rw [z] at h2
          cases h2
        · exact z
      exact sd_seq (sd_retW rfl (ev_bl (fin false (by unfold nameOk; rw [e1, e2] <;> rfl))) (Wle.refl _))
    · have e1 : decide ((1 : Int) ≤ (g.1.length : Int)) = true := h1
      have e2 : decide ((g.1.length : Int) ≤ 8) = true := by
        rcases Bool.eq_false_or_eq_true (decide ((g.1.length : Int) ≤ 8)) with z | z
        · exact z
        · rw [z] at h2
          cases h2
      refine sd_next (sd_seq (sd_retW rfl (ev_all (ec_ev (ev_fresh (ef_lcW (evio (evi_str (ev_var rfl ⟨?_, name_comp _ _ ?_⟩))) fun x R h => bd_yes (tgc_name (ev_inStr (ev_var rfl (ev_str h)))) (Wle.refl _))))) (Wle.refl _)))
      · unfold letts
        rw [List.length_map, Array.length_toList]
        exact hl
      · refine fin _ ?_
        unfold nameOk
        rw [e1, e2] <;> rfl
    · have e1 : decide ((1 : Int) ≤ (g.1.length : Int)) = false := h1
      exact sd_seq (sd_retW rfl (ev_bl (fin false (by unfold nameOk; rw [e1] <;> rfl))) (Wle.refl _))
end
end K21
set_option maxHeartbeats 4000000
namespace K21
open PySem PySem.Spec PyProof.Rows L2 DW
section
variable {P : Program} {w : World} {K : Frag} {mg : Str → Option Value} {base : Heap}
theorem sc__law_start : FnScope ["script", "spare", "cell"] ["script"] (defScope (topS 46)) := ⟨rfl, rfl, rfl, by decide +kernel, rfl, by decide +kernel, by decide +kernel⟩
theorem walk__law_start {f : Addr} {fd : FuncData} (X : Tx K mg) (F : Fun K "_law_start" "_law_start" (topS 46) f fd) (hm : mg "_law_start" = some (.ref f)) (bd : Binds K fd ["script"] []) : CalD P w K mg base 1 "_law_start" (spStart K) [] := by
  refine ⟨f, fd, _, [], hm, F.ok sc__law_start (fun vs H Q E h => ?_) (fun cdv A outer s H vs Q E hr h => ?_), .nil, bd, F.kp⟩
  · obtain ⟨a, ns, e, _⟩ := h
    rw [e] <;> rfl
  · obtain ⟨a, ns, e, hs, hl, q⟩ := h
    subst e
    refine ⟨_, pss_cons (ps_set (i := 1) sc__law_start.nd (by rfl) (by first | exact .inl rfl | exact .inr rfl) (pe_op op_add pe_int (pe_op op_mod (pe_callB (cr_sum rfl) (by rfl) X.b_sum rfl (pa_cons (pe_slice sl_list (pv 0) po_none (po_some pe_int)) pa_nil)) pe_int)))
      (pss_cons (ps_ret (pe_lst (pa_cons (pe_lc rfl sc__law_start.nd (pi_list (pv 0)) (blkOk_by (N := ["script", "spare", "cell"]) (sc := defScope (topS 46)) (own := [("cell", 2)]) (by decide +kernel)) (fun _ _ _ _ _ => (pg_name (i := 2) sc__law_start.nd (by rfl) (by first | exact .inl rfl | exact .inr rfl)))
          (fun _ _ _ _ _ => pts_one (pt_cmpR op_ge (pe_callB call_abs (by rfl) X.b_abs rfl (pa_cons (pv 2) pa_nil)) (pe_op op_pow pe_int pe_int) (nomark _))) (fun _ _ _ _ _ => pe_callB call_abs (by rfl) X.b_abs rfl (pa_cons (pv 2) pa_nil)))
        (pa_cons (pe_op op_cat (pe_callTy call_list_of (by rfl) X.b_list rfl (pa_cons (pv 0) pa_nil)) (pe_lst (pa_cons (pv 1) pa_nil))) (pa_cons pe_int pa_nil))))) pss_nil), ?_⟩
    have g0 : Good W0 (fun _ => False) (onlyAt H a) H := ⟨only_sub, trivial, fun _ h => h.elim, fun _ h => h.elim, fun _ h => h.elim, fun _ h => h.elim⟩
    have s0 : Stt W0 K (fun _ => False) (onlyAt H a) H (L2.start ["script", "spare", "cell"] [.ref a]) [sD (⟨ns⟩ : Sq), .non, .non] := by
      refine ⟨g0, ⟨rfl, fun i d hd => ?_⟩, fun b ⟨i, d, hd, ho, _⟩ => ?_⟩
      · match i, hd with
        | 0, hd =>
          cases hd
          exact ⟨_, rfl, _, rfl, a, rfl, only_sq hs⟩
        | 1, hd =>
          cases hd
          exact ⟨_, rfl, trivial⟩
        | 2, hd =>
          cases hd
          exact ⟨_, rfl, trivial⟩
      · match i, hd with
        | 0, hd =>
          cases hd
          cases ho
        | 1, hd =>
          cases hd
          cases ho
        | 2, hd =>
          cases hd
          cases ho
    have h1 := fun Q => (ev_I0 (W := W0) (W1 := W0) (W2 := W0) (K := K) (P := fun _ : Int => True) (f := fun i j : Int => i + j) (g := fun i j => .int (i + j)) (δ := [sD (⟨ns⟩ : Sq), .non, .non]) (fun h => h) (ev_int (ev_I (W := W0) (W1 := W0) (W2 := W0) (f := fun i j : Int => i % j) (g := fun i j => .int (i % j)) (C := fun _ j => 0 < j) (fun h => h) (ev_sum (ec_ev (ev_fresh (ef_slQ (i := 0) rfl (ev_int (i := 1000003) ⟨by decide, trivial⟩))))))) (ta := tC (.int 17))) _ _ _ _ s0 Q
    refine h1 _ fun v S1 H1 x m1 r1 _ => ?_
    have s1 := (s0.mv m1).set (i := 1) r1
    have h2 := fun Q => (ef_lcW (W := W0) (W1 := W0) (K := K) (α := Int) (β := Int) (tt := tTest (tOp (rI0 fun i j => .bl (decide (j ≤ i))) (tCB (fun xs H Q => ∃ i, xs = [.int i] ∧ Q (.int (if i < 0 then -i else i)) H) (tCons (tVar 2) tNil)) (tOp (rI CPow fun i j => .int (i ^ j.toNat)) (tC (.int 10)) (tC (.int 18)))))
      (te := tCB (fun xs H Q => ∃ i, xs = [.int i] ∧ Q (.int (if i < 0 then -i else i)) H) (tCons (tVar 2) tNil)) (g := gName 2) (vs := [2]) (B := fun _ R => ∀ r : Option Int, R r) (k := fun ys : List Int => ys.length ≤ 63) (δ := [sD (⟨ns⟩ : Sq), sD x, .non])
      (evio_Q (i := 0) (x := ⟨ns⟩) rfl ⟨Nat.le_trans hl (by decide), comp_len (fun x R h => h) ns [] fun ys hy => by
        rw [List.length_nil] at hy
        omega⟩) fun y R h => bd_if (tgc_name (et_test (ev_I0 (f := fun i j : Int => decide (j ≤ i)) (fun h => h) (ev_abs (ev_var rfl (ev_I (f := fun i j : Int => i ^ j.toNat) (C := CPow) (fun h => h) (ev_int (ev_int ⟨⟨by decide, by decide, by decide⟩, fun _ => ev_abs (ev_var rfl (h _)), fun _ => h _⟩)))))))) (Wle.refl _)) _ _ _ _ s1 Q
    dsimp only [gName, tSeq, tRet]
    unfold tLst tCons
    refine h2 _ fun p vs S2 H2 bigs m2 f2 r2 p2 => ?_
    have sp2 := s1.mv m2
    have g2 : Good W0 (fun b => b = p) S2 H2 := ⟨m2.good.sub, trivial, fun _ h => h.elim, fun _ h => h.elim, fun b h => by rw [h]; exact f2.s, fun b h => by
      rw [h, f2.at_]
      intro z
      cases z⟩
    have s2 : Stt W0 K (fun b => b = p) S2 H2 _ _ := ⟨g2, sp2.sl, fun b h => (sp2.own b h).elim⟩
    have h3 := fun Q => (ef_cat (W := W0) (W1 := W0) (W2 := W0) (K := K) (r0 := rCat) (δ := [sD (⟨ns⟩ : Sq), sD x, .non]) (P := fun ys : List Int => 0 < ys.length ∧ ys.length ≤ 64) (fun h => h) (ec_ev (ev_fresh (ef_listQ (i := 0) (x := ⟨ns⟩) rfl (ec_ev (ev_fresh (ef_lst (es_cons (ev_var (i := 1) (x := x) rfl (es_nil ⟨Nat.le_of_ble_eq_true rfl, (by
      show ns.length + 1 ≤ 100000
      omega), (by
      show 0 < (ns ++ [x]).length ∧ (ns ++ [x]).length ≤ 64
      rw [List.length_append]
      exact ⟨Nat.succ_pos _, Nat.succ_le_succ hl⟩)⟩)))))))))) _ _ _ _ s2 Q
    refine h3 _ fun qa us S3 H3 cells m3 f3 r3 p3 => ?_
    refine ⟨by show 3 ≤ sizeLine; decide, fun r hr' => ?_⟩
    have hp : H3 p = some (.lst vs) := (m3.keep p rfl).trans f2.at_
    have ev : vs = bigs.map V.int := flat_reps r2
    have eu : us = cells.map V.int := flat_reps r3
    subst ev eu
    have pr : p ≠ r := ne_of_none hp hr'
    have qr : qa ≠ r := ne_of_none f3.at_ hr'
    exact q _ r p qa bigs cells ⟨upd_same, by rw [upd_ne pr]; exact hp, by rw [upd_ne qr]; exact f3.at_, pr, qr, fun z => f3.o z.symm, p3.1, Nat.le_trans p2 (by decide), Nat.le_trans p3.2 (by decide)⟩
end
end K21
set_option maxHeartbeats 4000000
namespace K21
open PySem PySem.Spec PyProof.Rows L2 DW
section
variable {P : Program} {w : World} {K : Frag} {mg : Str → Option Value} {base : Heap}

theorem sc_is_integer : FnScope ["value", "least"] ["value", "least"] (defScope (topS 7)) := ⟨rfl, rfl, rfl, by decide +kernel, rfl, by decide +kernel, by decide +kernel⟩
def w_is_integer (a_value : Int) (a_least : (Option Int)) (P : Bool → Prop) : Prop := altW (fun (P1 : Bool → Prop) => (((!true) = false → P1 false) ∧ ((!true) = true → P1 true))) (fun (y8 : Bool) => ((y8 = true → P false) ∧ (y8 = false → altW (fun (P5 : Bool → Prop) => (((Option.isNone a_least) = false → ∃ o3, a_least = some o3 ∧ P5 (decide (o3 ≤ a_value))) ∧ ((Option.isNone a_least) = true → P5 true))) (fun (y7 : Bool) => P y7))))
abbrev W_is_integer (g : Int × (Option Int) × Unit) (P : Bool → Prop) : Prop := w_is_integer g.1 g.2.1 P
theorem walk_is_integer {f : Addr} {fd : FuncData} {dvs : List V} (X : Tx K mg)  (F : FunD K "is_integer" "is_integer" (defArgs (topS 7)) (defBody (topS 7)) (defScope (topS 7)) [.non] [] f fd) (hm : mg "is_integer" = some (.ref f)) (bd : ∃ ds, Vals dvs ds ∧ Binds K fd ["value", "least"] ds) : CalD P w K mg base 1 "is_integer" (spD K AnyW W_is_integer) dvs :=
  cal_okD F hm bd sc_is_integer rfl (by decide) fun cdv A outer s H E hr => by
    exact ⟨_, (pss_cons (ps_if (PW.pt (pw_or (pt_not (pt_val (pe_callB call_isi (by rfl) X.b_isinstance rfl (pa_cons (pv 0) (pa_cons (pe_bltn (v := .ty "int") (by rfl) X.b_int rfl rfl) pa_nil))))) (pw_or1 (pt_val (pe_callB call_isi (by rfl) X.b_isinstance rfl (pa_cons (pv 0) (pa_cons (pe_bltn (v := .ty "bool") (by rfl) X.b_bool rfl rfl) pa_nil))))))) (pss_cons (ps_ret pe_bl) pss_nil) pss_nil) (pss_cons (ps_ret (pe_or (pe_cmpR op_isN (pv 1) pe_non (nomark _)) (pe_one (pe_cmpR op_ge (pv 0) (pv 1) (nomark _))))) pss_nil)), fun W W2 hW g P h => by
      have e1 : W = W2 := hW
      subst e1
      unfold W_is_integer w_is_integer at h
      exact sd_seq (sd_if (et_alt h (by exact fun h2 => et_or (et_not (et_B (ev_isi (b := true) (ev_var rfl (⟨fun e13 => et_B (ev_isi (b := false) (ev_var rfl ((h2.1 e13)))), fun e14 => h2.2 e14⟩))))) (Wle.refl _)) (fun y11 h12 => ⟨fun e9 => sd_seq (sd_retW rfl (ev_bl ((h12.1 e9))) (Wle.refl _)), fun e10 => sd_next (sd_seq (sd_retW rfl (ev_alt (h12.2 e10) (by exact fun h6 => ev_orV (ev_isN (fun h => h) (ev_var rfl (⟨fun e17 => ev_I0 (f := fun i j : Int => (decide (j ≤ i))) (fun h => h) (ev_var rfl (ev_unO (ev_var rfl (Exists.elim (h6.1 e17) fun o3 h4 => ⟨o3, h4.1, h4.2⟩)))), fun e18 => h6.2 e18⟩))) (Wle.refl _)) (fun y15 h16 => h16)) (Wle.refl _)))⟩)))⟩

theorem ev_call_is_integerD {W W1 : Wd} {K : Frag} {δ : DEnv} {P : Bool → Prop} {E : XK} {ta : TA} (h : EvA W W1 K ta δ fun g : Int × Unit => w_is_integer g.1 none P) : Ev W W1 K (tCall (spD K AnyW W_is_integer) [.non] E ta) δ P :=
  ev_callD (F := W_is_integer) (fun g : Int × Unit => (g.1, none, ())) (fun W K S vs g hh => by
    obtain ⟨v, r, e, h1, h2⟩ := hh
    have e2 : r = [] := h2
    subst e2 e
    exact ⟨v, [.non], rfl, h1, .non, [], rfl, rfl, rfl⟩) rfl h

theorem sc_is_member : FnScope ["value"] ["value"] (defScope (topS 9)) := ⟨rfl, rfl, rfl, by decide +kernel, rfl, by decide +kernel, by decide +kernel⟩
def w_is_member (a_value : Str) (P : Bool → Prop) : Prop := altW (fun (P21 : Bool → Prop) => (w_is_name a_value (fun (y19 : Bool) => ((y19 = true → P21 (!decide (a_value ∈ reserved.l))) ∧ (y19 = false → P21 false))))) (fun (y23 : Bool) => P y23)
abbrev W_is_member (g : Str × Unit) (P : Bool → Prop) : Prop := w_is_member g.1 P
theorem walk_is_member {f : Addr} {fd : FuncData} (X : Tx K mg) (C_is_name : CalD P w K mg base 1 "is_name" (spD K AnyW W_is_name) []) (F : Fun K "is_member" "is_member" (topS 9) f fd) (hm : mg "is_member" = some (.ref f)) (bd : Binds K fd ["value"] []) : CalD P w K mg base 2 "is_member" (spD K AnyW W_is_member) [] :=
  cal_ok F hm bd sc_is_member rfl (by decide) fun cdv A outer s H E hr => by
    exact ⟨_, (pss_cons (ps_ret (pe_and (pe_cd C_is_name hr (by decide) (by rfl) (pa_cons (pv 0) pa_nil)) (pe_one (pe_cmpR op_notIn_seq (pv 0) (pe_glob (v := .ref _) (by rfl) X.c_RESERVED.choose_spec.1 rfl) (by rfl))))) pss_nil), fun W W2 hW g P h => by
      have e1 : W = W2 := hW
      subst e1
      unfold W_is_member w_is_member at h
      exact sd_seq (sd_retW rfl (ev_alt h (by exact fun h22 => ev_andV (Ev.imp (ev_call rfl (ea_cons (ev_var rfl (ea_nil h22)))) (fun y19 h20 => ⟨fun e26 => ev_inTS (n := true) (fun h => h) (ev_var rfl (ev_tabT X.c_RESERVED.choose_spec.2 ((h20.1 e26)))), fun e27 => h20.2 e27⟩)) (Wle.refl _)) (fun y24 h25 => h25)) (Wle.refl _))⟩

theorem sc_is_position : FnScope ["value", "unit"] ["value"] (defScope (topS 15)) := ⟨rfl, rfl, rfl, by decide +kernel, rfl, by decide +kernel, by decide +kernel⟩
def w_is_position (a_value : (Dc Str Int)) (P : Bool → Prop) : Prop := (((!true) = true → P false) ∧ ((!true) = false → ((List.map Prod.fst a_value.l).length ≤ 100000 ∧ compW (fun (x28 : Str) (R29 : Option Bool → Prop) => altW (fun (P39 : Bool → Prop) => (w_is_member x28 (fun (y31 : Bool) => ((y31 = true → ((∃ (x33 : Int), look a_value.l x28 = some x33 ∧ w_is_integer x33 none (fun (y35 : Bool) => ((y35 = true → (∃ (x37 : Int), look a_value.l x28 = some x37 ∧ P39 (!decide (x37 = (0 : Int))))) ∧ (y35 = false → P39 false)))))) ∧ (y31 = false → P39 false))))) (fun (y43 : Bool) => R29 (some y43))) (fun (y44 : (List Bool)) => P (List.all y44 id)) (List.map Prod.fst a_value.l) [])))
abbrev W_is_position (g : (Dc Str Int) × Unit) (P : Bool → Prop) : Prop := w_is_position g.1 P
theorem walk_is_position {f : Addr} {fd : FuncData} (X : Tx K mg) (C_is_member : CalD P w K mg base 2 "is_member" (spD K AnyW W_is_member) []) (C_is_integer_d : CalD P w K mg base 1 "is_integer" (spD K AnyW W_is_integer) [.non]) (F : Fun K "is_position" "is_position" (topS 15) f fd) (hm : mg "is_position" = some (.ref f)) (bd : Binds K fd ["value"] []) : CalD P w K mg base 3 "is_position" (spD K AnyW W_is_position) [] :=
  cal_ok F hm bd sc_is_position rfl (by decide) fun cdv A outer s H E hr => by
    exact ⟨_, (pss_cons (ps_if (pt_not (pt_val (pe_callB call_isi (by rfl) X.b_isinstance rfl (pa_cons (pv 0) (pa_cons (pe_bltn (v := .ty "dict") (by rfl) X.b_dict rfl rfl) pa_nil))))) (pss_cons (ps_ret pe_bl) pss_nil) pss_nil) (pss_cons (ps_ret (pe_callB (cr_all rfl) (by rfl) X.b_all rfl (pa_cons (pe_lockO (pe_lc rfl sc_is_position.nd (pi_keys (pv 0)) (blkOk_by (N := ["value", "unit"]) (sc := defScope (topS 15)) (own := [("unit", 1)]) (by decide +kernel)) (fun _ _ _ _ _ => (pg_name (i := 1) sc_is_position.nd (by rfl) (by first | exact .inl rfl | exact .inr rfl))) (fun _ _ _ _ _ => pts_nil) (fun _ _ _ _ _ => (pe_and (pe_cd C_is_member hr (by decide) (by rfl) (pa_cons (pv 1) pa_nil)) (pe_and (pe_cd C_is_integer_d hr (by decide) (by rfl) (pa_cons (pe_dget (hu_of hr) (pv 0) (pv 1) (fun _ _ => rfl)) pa_nil)) (pe_one (pe_cmpR op_ne (pe_dget (hu_of hr) (pv 0) (pv 1) (fun _ _ => rfl)) pe_int (nomark _)))))))) pa_nil))) pss_nil)), fun W W2 hW g P h => by
      have e1 : W = W2 := hW
      subst e1
      unfold W_is_position w_is_position at h
      exact sd_seq (sd_if (et_not (et_B (ev_isi (b := true) (ev_var rfl (⟨fun e48 => sd_seq (sd_retW rfl (ev_bl ((h.1 e48))) (Wle.refl _)), fun e49 => sd_next (sd_seq (sd_retW rfl (ev_all (ec_ev (ev_fresh (EvF.imp (ef_lcKW rfl (ek_keys rfl) (h.2 e49) (by exact fun x28 R29 h30 => bd_yes (tgc_name (ev_alt h30 (by exact fun h40 => ev_andV (Ev.imp (ev_call rfl (ea_cons (ev_var rfl (ea_nil h40)))) (fun y31 h32 => ⟨fun e52 => ev_andV (Ev.imp (ev_call_is_integerD (ea_cons (ev_dget (ecd_ev (ev_var rfl (ev_var rfl (Exists.elim (h32.1 e52) fun x33 h34 => ⟨x33, h34.1, ea_nil h34.2⟩))))))) (fun y35 h36 => ⟨fun e54 => ev_neI (fun h => h) (ev_dget (ecd_ev (ev_var rfl (ev_var rfl (Exists.elim (h36.1 e54) fun x37 h38 => ⟨x37, h38.1, ev_int (h38.2)⟩))))), fun e55 => h36.2 e55⟩)) (Wle.refl _), fun e53 => h32.2 e53⟩)) (Wle.refl _)) (fun y50 h51 => h51))) (Wle.refl _))) (fun y44 h47 => h47))))) (Wle.refl _)))⟩))))))⟩

theorem sc_check_position : FnScope ["value"] ["value"] (defScope (topS 16)) := ⟨rfl, rfl, rfl, by decide +kernel, rfl, by decide +kernel, by decide +kernel⟩
def w_check_position (a_value : (Dc Str Int)) (P : Unit → Prop) : Prop := (w_is_position a_value (fun (y56 : Bool) => (((!y56) = true → False) ∧ ((!y56) = false → P ()))))
abbrev W_check_position (g : (Dc Str Int) × Unit) (P : Unit → Prop) : Prop := w_check_position g.1 P
theorem walk_check_position {f : Addr} {fd : FuncData} (X : Tx K mg) (C_is_position : CalD P w K mg base 3 "is_position" (spD K AnyW W_is_position) []) (F : Fun K "check_position" "check_position" (topS 16) f fd) (hm : mg "check_position" = some (.ref f)) (bd : Binds K fd ["value"] []) : CalD P w K mg base 4 "check_position" (spD K AnyW W_check_position) [] :=
  cal_okU F hm bd sc_check_position rfl (by decide) fun cdv A outer s H E hr => by
    exact ⟨_, (pss_cons (ps_if (pt_not (pt_val (pe_cd C_is_position hr (by decide) (by rfl) (pa_cons (pv 0) pa_nil)))) (pss_cons ps_never pss_nil) pss_nil) pss_nil), fun W W2 hW g P h => by
      have e1 : W = W2 := hW
      subst e1
      unfold W_check_position w_check_position at h
      exact sd_seq (sd_if (et_not (et_B (Ev.imp (ev_call rfl (ea_cons (ev_var rfl (ea_nil h)))) (fun y56 h57 => ⟨fun e58 => sd_seq (sd_never (h57.1 e58)), fun e59 => sd_next (sd_next ⟨(Wle.refl _), (h57.2 e59)⟩)⟩)))))⟩

theorem sc_is_price : FnScope ["value"] ["value"] (defScope (topS 17)) := ⟨rfl, rfl, rfl, by decide +kernel, rfl, by decide +kernel, by decide +kernel⟩
def w_is_price (a_value : Int) (P : Bool → Prop) : Prop := altW (fun (P62 : Bool → Prop) => (w_is_integer a_value (some (1 : Int)) (fun (y60 : Bool) => ((y60 = true → P62 (decide (a_value ≤ (99 : Int)))) ∧ (y60 = false → P62 false))))) (fun (y64 : Bool) => P y64)
abbrev W_is_price (g : Int × Unit) (P : Bool → Prop) : Prop := w_is_price g.1 P
theorem walk_is_price {f : Addr} {fd : FuncData} (X : Tx K mg) (C_is_integer : CalD P w K mg base 1 "is_integer" (spD K AnyW W_is_integer) []) (F : Fun K "is_price" "is_price" (topS 17) f fd) (hm : mg "is_price" = some (.ref f)) (bd : Binds K fd ["value"] []) : CalD P w K mg base 2 "is_price" (spD K AnyW W_is_price) [] :=
  cal_ok F hm bd sc_is_price rfl (by decide) fun cdv A outer s H E hr => by
    exact ⟨_, (pss_cons (ps_ret (pe_and (pe_cd C_is_integer hr (by decide) (by rfl) (pa_cons (pv 0) (pa_cons pe_int pa_nil))) (pe_one (pe_cmpR op_le (pv 0) (pe_glob (v := .int 99) (by rfl) X.c_MOST_PRICE.choose_spec ⟨_, rfl⟩) (nomark _))))) pss_nil), fun W W2 hW g P h => by
      have e1 : W = W2 := hW
      subst e1
      unfold W_is_price w_is_price at h
      exact sd_seq (sd_retW rfl (ev_alt h (by exact fun h63 => ev_andV (Ev.imp (ev_call rfl (ea_cons (ev_var rfl (ea_cons (ev_some (ev_int (ea_nil h63))))))) (fun y60 h61 => ⟨fun e67 => ev_I0 (f := fun i j : Int => (decide (i ≤ j))) (fun h => h) (ev_var rfl (ev_int ((h61.1 e67)))), fun e68 => h61.2 e68⟩)) (Wle.refl _)) (fun y65 h66 => h66)) (Wle.refl _))⟩

theorem sc_check_prices : FnScope ["value", "unit"] ["value"] (defScope (topS 18)) := ⟨rfl, rfl, rfl, by decide +kernel, rfl, by decide +kernel, by decide +kernel⟩
def w_check_prices (a_value : (Dc Str Int)) (P : Unit → Prop) : Prop := altW (fun (P87 : Bool → Prop) => (((!true) = false → ((List.map Prod.fst a_value.l).length ≤ 100000 ∧ compW (fun (x69 : Str) (R70 : Option Bool → Prop) => altW (fun (P78 : Bool → Prop) => (w_is_member x69 (fun (y72 : Bool) => ((y72 = true → ((∃ (x74 : Int), look a_value.l x69 = some x74 ∧ w_is_price x74 (fun (y76 : Bool) => P78 y76)))) ∧ (y72 = false → P78 false))))) (fun (y82 : Bool) => R70 (some y82))) (fun (y83 : (List Bool)) => P87 (!(List.all y83 id))) (List.map Prod.fst a_value.l) [])) ∧ ((!true) = true → P87 true))) (fun (y89 : Bool) => ((y89 = true → False) ∧ (y89 = false → P ())))
abbrev W_check_prices (g : (Dc Str Int) × Unit) (P : Unit → Prop) : Prop := w_check_prices g.1 P
theorem walk_check_prices {f : Addr} {fd : FuncData} (X : Tx K mg) (C_is_member : CalD P w K mg base 2 "is_member" (spD K AnyW W_is_member) []) (C_is_price : CalD P w K mg base 2 "is_price" (spD K AnyW W_is_price) []) (F : Fun K "check_prices" "check_prices" (topS 18) f fd) (hm : mg "check_prices" = some (.ref f)) (bd : Binds K fd ["value"] []) : CalD P w K mg base 3 "check_prices" (spD K AnyW W_check_prices) [] :=
  cal_okU F hm bd sc_check_prices rfl (by decide) fun cdv A outer s H E hr => by
    exact ⟨_, (pss_cons (ps_if (PW.pt (pw_or (pt_not (pt_val (pe_callB call_isi (by rfl) X.b_isinstance rfl (pa_cons (pv 0) (pa_cons (pe_bltn (v := .ty "dict") (by rfl) X.b_dict rfl rfl) pa_nil))))) (pw_or1 (pt_not (pt_val (pe_callB (cr_all rfl) (by rfl) X.b_all rfl (pa_cons (pe_lockO (pe_lc rfl sc_check_prices.nd (pi_keys (pv 0)) (blkOk_by (N := ["value", "unit"]) (sc := defScope (topS 18)) (own := [("unit", 1)]) (by decide +kernel)) (fun _ _ _ _ _ => (pg_name (i := 1) sc_check_prices.nd (by rfl) (by first | exact .inl rfl | exact .inr rfl))) (fun _ _ _ _ _ => pts_nil) (fun _ _ _ _ _ => (pe_and (pe_cd C_is_member hr (by decide) (by rfl) (pa_cons (pv 1) pa_nil)) (pe_one (pe_cd C_is_price hr (by decide) (by rfl) (pa_cons (pe_dget (hu_of hr) (pv 0) (pv 1) (fun _ _ => rfl)) pa_nil))))))) pa_nil))))))) (pss_cons ps_never pss_nil) pss_nil) pss_nil), fun W W2 hW g P h => by
      have e1 : W = W2 := hW
      subst e1
      unfold W_check_prices w_check_prices at h
      exact sd_seq (sd_if (et_alt h (by exact fun h88 => et_or (et_not (et_B (ev_isi (b := true) (ev_var rfl (⟨fun e94 => et_not (et_B (ev_all (ec_ev (ev_fresh (EvF.imp (ef_lcKW rfl (ek_keys rfl) (h88.1 e94) (by exact fun x69 R70 h71 => bd_yes (tgc_name (ev_alt h71 (by exact fun h79 => ev_andV (Ev.imp (ev_call rfl (ea_cons (ev_var rfl (ea_nil h79)))) (fun y72 h73 => ⟨fun e98 => Ev.imp (ev_call rfl (ea_cons (ev_dget (ecd_ev (ev_var rfl (ev_var rfl (Exists.elim (h73.1 e98) fun x74 h75 => ⟨x74, h75.1, ea_nil h75.2⟩))))))) (fun y76 h77 => h77), fun e99 => h73.2 e99⟩)) (Wle.refl _)) (fun y96 h97 => h97))) (Wle.refl _))) (fun y83 h86 => h86)))))), fun e95 => h88.2 e95⟩))))) (Wle.refl _)) (fun y92 h93 => ⟨fun e90 => sd_seq (sd_never (h93.1 e90)), fun e91 => sd_next (sd_next ⟨(Wle.refl _), (h93.2 e91)⟩)⟩)))⟩

theorem sc_summed : FnScope ["one", "other", "units", "both", "unit"] ["one", "other"] (defScope (topS 19)) := ⟨rfl, rfl, rfl, by decide +kernel, rfl, by decide +kernel, by decide +kernel⟩
def w_summed (a_one : (Dc Str Int)) (a_other : (Dc Str Int)) (P : (Dc Str Int) → Prop) : Prop := (((List.map Prod.fst a_one.l) ++ ((List.map Prod.fst a_other.l) ++ [])).length ≤ 100000 ∧ (((List.map Prod.fst a_one.l) ++ ((List.map Prod.fst a_other.l) ++ [])).length < 64 ∧ ∀ (z100 : List Str), z100.Nodup → (∀ k, k ∈ z100 ↔ k ∈ ((List.map Prod.fst a_one.l) ++ ((List.map Prod.fst a_other.l) ++ []))) → sortedS z100 = true → ∀ (z_units_104 : (List Str)), z_units_104 = z100 → (z_units_104.length ≤ 100000 ∧ compM (fun (x105 : Str) (R106 : Option (Str × Int) → Prop) => R106 (some (x105, ((Option.getD (look a_one.l x105) (0 : Int)) + (Option.getD (look a_other.l x105) (0 : Int)))))) (fun (y110p : (List (Str × Int))) => ∀ (z_both_114 : (Dc Str Int)), z_both_114 = (Dc.mk y110p) → ((List.map Prod.fst z_both_114.l).length ≤ 100000 ∧ compM (fun (x115 : Str) (R116 : Option (Str × Int) → Prop) => (∃ (x118 : Int), look z_both_114.l x115 = some x118 ∧ (((!decide (x118 = (0 : Int))) = true → (∃ (x120 : Int), look z_both_114.l x115 = some x120 ∧ R116 (some (x115, x120)))) ∧ ((!decide (x118 = (0 : Int))) = false → R116 none)))) (fun (y124p : (List (Str × Int))) => P (Dc.mk y124p)) (List.map Prod.fst z_both_114.l))) z_units_104)))
abbrev W_summed (g : (Dc Str Int) × (Dc Str Int) × Unit) (P : (Dc Str Int) → Prop) : Prop := w_summed g.1 g.2.1 P
theorem walk_summed {f : Addr} {fd : FuncData} (X : Tx K mg)  (F : Fun K "summed" "summed" (topS 19) f fd) (hm : mg "summed" = some (.ref f)) (bd : Binds K fd ["one", "other"] []) : CalD P w K mg base 1 "summed" (spD K AnyW W_summed) [] :=
  cal_ok F hm bd sc_summed rfl (by decide) fun cdv A outer s H E hr => by
    exact ⟨_, (pss_cons (ps_set (i := 2) sc_summed.nd (by rfl) (by first | exact .inl rfl | exact .inr rfl) (pe_callB (cr_sortedTx rfl) (by rfl) X.b_sorted rfl (pa_cons (pe_callTy (cr_setOfTx rfl) (by rfl) X.b_set rfl (pa_cons (pe_lst (pa_starD rfl (pv 0) (pa_starD rfl (pv 1) pa_nil))) pa_nil)) pa_nil))) (pss_cons (ps_set (i := 3) sc_summed.nd (by rfl) (by first | exact .inl rfl | exact .inr rfl) (pe_dc rfl sc_summed.nd (pi_list (pv 2)) (blkOk_by (N := ["one", "other", "units", "both", "unit"]) (sc := defScope (topS 19)) (own := [("unit", 4)]) (by decide +kernel)) (fun _ _ _ _ _ => (pg_name (i := 4) sc_summed.nd (by rfl) (by first | exact .inl rfl | exact .inr rfl))) (fun _ _ _ _ _ => pts_nil) (fun _ _ _ _ _ => (pv 4)) (fun _ _ _ _ _ => (pe_op op_add (pe_dget2 (hu_of hr) (pv 0) (pv 4) pe_int ⟨rfl, rfl, rfl, rfl⟩) (pe_dget2 (hu_of hr) (pv 1) (pv 4) pe_int ⟨rfl, rfl, rfl, rfl⟩))))) (pss_cons (ps_ret (pe_lockO (pe_dc rfl sc_summed.nd (pi_keys (pv 3)) (blkOk_by (N := ["one", "other", "units", "both", "unit"]) (sc := defScope (topS 19)) (own := [("unit", 4)]) (by decide +kernel)) (fun _ _ _ _ _ => (pg_name (i := 4) sc_summed.nd (by rfl) (by first | exact .inl rfl | exact .inr rfl))) (fun _ _ _ _ _ => (pts_one (pt_cmpR op_ne (pe_dget (hu_of hr) (pv 3) (pv 4) (fun _ _ => rfl)) pe_int (nomark _)))) (fun _ _ _ _ _ => (pv 4)) (fun _ _ _ _ _ => (pe_dget (hu_of hr) (pv 3) (pv 4) (fun _ _ => rfl)))))) pss_nil))), fun W W2 hW g P h => by
      have e1 : W = W2 := hW
      subst e1
      unfold W_summed w_summed at h
      exact sd_seq (sd_asgZ (i := 2) (ev_fresh (ef_sortedSet (ec_ev (ev_fresh (ef_lst (es_starD (ecd_ev (ev_var rfl (es_starD (ecd_ev (ev_var rfl (es_nil (⟨h.1, ⟨h.2.1, fun z100 h101 h102 h103 => fun z_units_104 e129 => sd_seq (sd_asgZ (i := 3) (evd_fresh (EvG.imp (eg_dcW (evio (evi_list (ev_var rfl (((h.2.2 z100 h101 h102 h103) z_units_104 e129))))) (by exact fun x105 R106 h107 => bdm_yes (tgc_name (ev_var rfl (ev_I0 (f := fun i j : Int => i + j) (fun h => h) (ev_dget2 (ecd_ev (ev_var rfl (ev_var rfl (ev_int (ev_dget2 (ecd_ev (ev_var rfl (ev_var rfl (ev_int (h107)))))))))))))) (Wle.refl _))) (fun y110p h113 => fun z_both_114 e128 => sd_seq (sd_retW rfl (evd_fresh (EvG.imp (eg_dcKW rfl (ek_keys rfl) (h113 z_both_114 e128) (by exact fun x115 R116 h117 => bdm_if (tgc_name (et_test (ev_neI (fun h => h) (ev_dget (ecd_ev (ev_var rfl (ev_var rfl (Exists.elim h117 fun x118 h119 => ⟨x118, h119.1, ev_int (⟨fun e125 => ev_var rfl (ev_dget (ecd_ev (ev_var rfl (ev_var rfl (Exists.elim (h119.2.1 e125) fun x120 h121 => ⟨x120, h121.1, h121.2⟩))))), fun e126 => h119.2.2 e126⟩)⟩)))))))) (Wle.refl _))) (fun y124p h127 => h127))) (Wle.refl _))))))⟩⟩))))))))))))))⟩

theorem sc_joined : FnScope ["one", "other"] ["one", "other"] (defScope (topS 20)) := ⟨rfl, rfl, rfl, by decide +kernel, rfl, by decide +kernel, by decide +kernel⟩
def w_joined (a_one : (Dc Str Int)) (a_other : (Dc Str Int)) (P : (Dc Str Int) → Prop) : Prop := (w_check_position a_one (fun (y130 : Unit) => (w_check_position a_other (fun (y132 : Unit) => (w_summed a_one a_other (fun (y134 : (Dc Str Int)) => P y134))))))
abbrev W_joined (g : (Dc Str Int) × (Dc Str Int) × Unit) (P : (Dc Str Int) → Prop) : Prop := w_joined g.1 g.2.1 P
theorem walk_joined {f : Addr} {fd : FuncData} (X : Tx K mg) (C_check_position : CalD P w K mg base 4 "check_position" (spD K AnyW W_check_position) []) (C_summed : CalD P w K mg base 1 "summed" (spD K AnyW W_summed) []) (F : Fun K "joined" "joined" (topS 20) f fd) (hm : mg "joined" = some (.ref f)) (bd : Binds K fd ["one", "other"] []) : CalD P w K mg base 5 "joined" (spD K AnyW W_joined) [] :=
  cal_ok F hm bd sc_joined rfl (by decide) fun cdv A outer s H E hr => by
    exact ⟨_, (pss_cons (ps_expr (pe_cd C_check_position hr (by decide) (by rfl) (pa_cons (pv 0) pa_nil))) (pss_cons (ps_expr (pe_cd C_check_position hr (by decide) (by rfl) (pa_cons (pv 1) pa_nil))) (pss_cons (ps_ret (pe_cd C_summed hr (by decide) (by rfl) (pa_cons (pv 0) (pa_cons (pv 1) pa_nil)))) pss_nil))), fun W W2 hW g P h => by
      have e1 : W = W2 := hW
      subst e1
      unfold W_joined w_joined at h
      exact sd_seq (sd_drop (Ev.imp (ev_call rfl (ea_cons (ev_var rfl (ea_nil h)))) (fun y130 h131 => sd_seq (sd_drop (Ev.imp (ev_call rfl (ea_cons (ev_var rfl (ea_nil h131)))) (fun y132 h133 => sd_seq (sd_retW rfl (Ev.imp (ev_call rfl (ea_cons (ev_var rfl (ea_cons (ev_var rfl (ea_nil h133)))))) (fun y134 h135 => h135)) (Wle.refl _))))))))⟩

theorem sc_is_move : FnScope ["value", "unit"] ["value"] (defScope (topS 27)) := ⟨rfl, rfl, rfl, by decide +kernel, rfl, by decide +kernel, by decide +kernel⟩
def w_is_move (a_value : (Dc Str Int)) (P : Bool → Prop) : Prop := altW (fun (P154 : Bool → Prop) => ((true = true → ((List.map Prod.fst a_value.l).length ≤ 100000 ∧ compW (fun (x136 : Str) (R137 : Option Bool → Prop) => altW (fun (P145 : Bool → Prop) => (w_is_member x136 (fun (y139 : Bool) => ((y139 = true → ((∃ (x141 : Int), look a_value.l x136 = some x141 ∧ w_is_integer x141 none (fun (y143 : Bool) => P145 y143)))) ∧ (y139 = false → P145 false))))) (fun (y149 : Bool) => R137 (some y149))) (fun (y150 : (List Bool)) => P154 (List.all y150 id)) (List.map Prod.fst a_value.l) [])) ∧ (true = false → P154 false))) (fun (y156 : Bool) => P y156)
abbrev W_is_move (g : (Dc Str Int) × Unit) (P : Bool → Prop) : Prop := w_is_move g.1 P
theorem walk_is_move {f : Addr} {fd : FuncData} (X : Tx K mg) (C_is_member : CalD P w K mg base 2 "is_member" (spD K AnyW W_is_member) []) (C_is_integer_d : CalD P w K mg base 1 "is_integer" (spD K AnyW W_is_integer) [.non]) (F : Fun K "is_move" "is_move" (topS 27) f fd) (hm : mg "is_move" = some (.ref f)) (bd : Binds K fd ["value"] []) : CalD P w K mg base 3 "is_move" (spD K AnyW W_is_move) [] :=
  cal_ok F hm bd sc_is_move rfl (by decide) fun cdv A outer s H E hr => by
    exact ⟨_, (pss_cons (ps_ret (pe_and (pe_callB call_isi (by rfl) X.b_isinstance rfl (pa_cons (pv 0) (pa_cons (pe_bltn (v := .ty "dict") (by rfl) X.b_dict rfl rfl) pa_nil))) (pe_one (pe_callB (cr_all rfl) (by rfl) X.b_all rfl (pa_cons (pe_lockO (pe_lc rfl sc_is_move.nd (pi_keys (pv 0)) (blkOk_by (N := ["value", "unit"]) (sc := defScope (topS 27)) (own := [("unit", 1)]) (by decide +kernel)) (fun _ _ _ _ _ => (pg_name (i := 1) sc_is_move.nd (by rfl) (by first | exact .inl rfl | exact .inr rfl))) (fun _ _ _ _ _ => pts_nil) (fun _ _ _ _ _ => (pe_and (pe_cd C_is_member hr (by decide) (by rfl) (pa_cons (pv 1) pa_nil)) (pe_one (pe_cd C_is_integer_d hr (by decide) (by rfl) (pa_cons (pe_dget (hu_of hr) (pv 0) (pv 1) (fun _ _ => rfl)) pa_nil))))))) pa_nil))))) pss_nil), fun W W2 hW g P h => by
      have e1 : W = W2 := hW
      subst e1
      unfold W_is_move w_is_move at h
      exact sd_seq (sd_retW rfl (ev_alt h (by exact fun h155 => ev_andV (ev_isi (b := true) (ev_var rfl (⟨fun e159 => ev_all (ec_ev (ev_fresh (EvF.imp (ef_lcKW rfl (ek_keys rfl) (h155.1 e159) (by exact fun x136 R137 h138 => bd_yes (tgc_name (ev_alt h138 (by exact fun h146 => ev_andV (Ev.imp (ev_call rfl (ea_cons (ev_var rfl (ea_nil h146)))) (fun y139 h140 => ⟨fun e163 => Ev.imp (ev_call_is_integerD (ea_cons (ev_dget (ecd_ev (ev_var rfl (ev_var rfl (Exists.elim (h140.1 e163) fun x141 h142 => ⟨x141, h142.1, ea_nil h142.2⟩))))))) (fun y143 h144 => h144), fun e164 => h140.2 e164⟩)) (Wle.refl _)) (fun y161 h162 => h162))) (Wle.refl _))) (fun y150 h153 => h153)))), fun e160 => h155.2 e160⟩))) (Wle.refl _)) (fun y157 h158 => h158)) (Wle.refl _))⟩

theorem sc_check_moves : FnScope ["moves", "move"] ["moves"] (defScope (topS 28)) := ⟨rfl, rfl, rfl, by decide +kernel, rfl, by decide +kernel, by decide +kernel⟩
def w_check_moves (a_moves : (List (Dc Str Int))) (P : Unit → Prop) : Prop := altW (fun (P165 : Bool → Prop) => ((decide ((1 : Int) ≤ (a_moves.length : Int))) = true → P165 (decide ((a_moves.length : Int) ≤ (8 : Int)))) ∧ ((decide ((1 : Int) ≤ (a_moves.length : Int))) = false → P165 false)) (fun (y190 : Bool) => (((!y190) = true → False) ∧ ((!y190) = false → forW (fun (x176 : (Dc Str Int)) (s173 : Unit) (n177 b178 : Unit → Prop) => (w_is_move x176 (fun (y179 : Bool) => (((!y179) = true → False) ∧ ((!y179) = false → n177 ()))))) (fun (s183 : Unit) => (∃ (x184 : (Dc Str Int)), atI a_moves (0 : Int) = some x184 ∧ (((!(List.isEmpty x184.l)) = true → False) ∧ ((!(List.isEmpty x184.l)) = false → P ())))) a_moves ())))
abbrev W_check_moves (g : (List (Dc Str Int)) × Unit) (P : Unit → Prop) : Prop := w_check_moves g.1 P
theorem walk_check_moves {f : Addr} {fd : FuncData} (X : Tx K mg) (C_is_move : CalD P w K mg base 3 "is_move" (spD K AnyW W_is_move) []) (F : Fun K "check_moves" "check_moves" (topS 28) f fd) (hm : mg "check_moves" = some (.ref f)) (bd : Binds K fd ["moves"] []) : CalD P w K mg base 4 "check_moves" (spD K AnyW W_check_moves) [] :=
  cal_okU F hm bd sc_check_moves rfl (by decide) fun cdv A outer s H E hr => by
    exact ⟨_, (pss_cons (ps_if (pt_not (pt_chain op_le op_le pe_int (pe_callB call_len_seq (by rfl) X.b_len rfl (pa_cons (pv 0) pa_nil)) (pe_glob (v := .int 8) (by rfl) X.c_MOST_MOVES.choose_spec ⟨_, rfl⟩))) (pss_cons ps_never pss_nil) pss_nil) (pss_cons (ps_for PassesOwn.never rfl (pi_list (pv 0)) (pg_name (i := 1) sc_check_moves.nd (by rfl) (by first | exact .inl rfl | exact .inr rfl)) (pss_cons (ps_if (pt_not (pt_val (pe_cd C_is_move hr (by decide) (by rfl) (pa_cons (pv 1) pa_nil)))) (pss_cons ps_never pss_nil) pss_nil) pss_nil)) (pss_cons (ps_if (pt_cmpR (op_neD0 (hu64 hr)) (pe_ix ix_list (pv 0) pe_int (fun _ _ => rfl)) pe_dnewK (nomark _)) (pss_cons ps_never pss_nil) pss_nil) pss_nil))), fun W W2 hW g P h => by
      have e1 : W = W2 := hW
      subst e1
      unfold W_check_moves w_check_moves at h
      exact sd_seq (sd_if (et_not (et_test (ev_alt h (by exact fun h168 => ev_chain (f := fun i j : Int => (decide (i ≤ j))) (g := fun i j : Int => (decide (i ≤ j))) (ev_int (ev_lenC (fun h => h) (ec_ev (ev_var rfl (⟨fun e166 => ev_int ((h168.1 e166)), fun e167 => h168.2 e167⟩)))))) (fun y193 h194 => ⟨fun e191 => sd_seq (sd_never (h194.1 e191)), fun e192 => sd_next (sd_wipe [1] (sd_seq (sd_forW (fun (s173 : Unit) => [sD (α := (List (Dc Str Int))) g.1, .non]) (evi_list (ev_var rfl (⟨(), rfl, (h194.2 e192)⟩))) (by exact fun x176 s173 n177 h188 => tg_name (sd_seq (sd_if (et_not (et_B (Ev.imp (ev_call rfl (ea_cons (ev_var rfl (ea_nil h188)))) (fun y179 h180 => ⟨fun e181 => sd_seq (sd_never (h180.1 e181)), fun e182 => sd_next (sd_nextW [1] ⟨(), rfl, (Wle.refl _), (h180.2 e182)⟩)⟩))))))) (by exact fun s183 h189 => sd_seq (sd_if (et_test (ev_neD0 (ecd_ev (ev_ixL (fun h => h) (ec_ev (ev_var rfl (ev_int (Exists.elim h189 fun x184 h185 => ⟨x184, h185.1, ecd_ev (evd_fresh (eg_new (⟨rfl, ⟨fun e186 => sd_seq (sd_never (h185.2.1 e186)), fun e187 => sd_next (sd_next ⟨(Wle.refl _), (h185.2.2 e187)⟩)⟩⟩)))⟩)))))))))) (fun _ _ l z => sd_le l z))))⟩)))))⟩

theorem sc_loss_by : FnScope ["position", "move", "unit"] ["position", "move"] (defScope (topS 29)) := ⟨rfl, rfl, rfl, by decide +kernel, rfl, by decide +kernel, by decide +kernel⟩
def w_loss_by (a_position : (Dc Str Int)) (a_move : (Dc Str Int)) (P : Int → Prop) : Prop := ((List.map Prod.fst a_position.l).length ≤ 100000 ∧ compW (fun (x195 : Str) (R196 : Option Int → Prop) => (∃ (x198 : Int), look a_position.l x195 = some x198 ∧ (CMul x198 (Option.getD (look a_move.l x195) (0 : Int)) ∧ R196 (some (x198 * (Option.getD (look a_move.l x195) (0 : Int))))))) (fun (y202 : (List Int)) => P (-(List.sum y202))) (List.map Prod.fst a_position.l) [])
abbrev W_loss_by (g : (Dc Str Int) × (Dc Str Int) × Unit) (P : Int → Prop) : Prop := w_loss_by g.1 g.2.1 P
theorem walk_loss_by {f : Addr} {fd : FuncData} (X : Tx K mg)  (F : Fun K "loss_by" "loss_by" (topS 29) f fd) (hm : mg "loss_by" = some (.ref f)) (bd : Binds K fd ["position", "move"] []) : CalD P w K mg base 1 "loss_by" (spD K AnyW W_loss_by) [] :=
  cal_ok F hm bd sc_loss_by rfl (by decide) fun cdv A outer s H E hr => by
    exact ⟨_, (pss_cons (ps_ret (pe_un un_neg (pe_callB (cr_sum rfl) (by rfl) X.b_sum rfl (pa_cons (pe_lockO (pe_lc rfl sc_loss_by.nd (pi_keys (pv 0)) (blkOk_by (N := ["position", "move", "unit"]) (sc := defScope (topS 29)) (own := [("unit", 2)]) (by decide +kernel)) (fun _ _ _ _ _ => (pg_name (i := 2) sc_loss_by.nd (by rfl) (by first | exact .inl rfl | exact .inr rfl))) (fun _ _ _ _ _ => pts_nil) (fun _ _ _ _ _ => (pe_op op_mul (pe_dget (hu_of hr) (pv 0) (pv 2) (fun _ _ => rfl)) (pe_dget2 (hu_of hr) (pv 1) (pv 2) pe_int ⟨rfl, rfl, rfl, rfl⟩))))) pa_nil)))) pss_nil), fun W W2 hW g P h => by
      have e1 : W = W2 := hW
      subst e1
      unfold W_loss_by w_loss_by at h
      exact sd_seq (sd_retW rfl (ev_U (f := fun i : Int => -i) (ev_sum (ec_ev (ev_fresh (EvF.imp (ef_lcKW rfl (ek_keys rfl) h (by exact fun x195 R196 h197 => bd_yes (tgc_name (ev_I (f := fun i j : Int => i * j) (C := CMul) (fun h => h) (ev_dget (ecd_ev (ev_var rfl (ev_var rfl (Exists.elim h197 fun x198 h199 => ⟨x198, h199.1, ev_dget2 (ecd_ev (ev_var rfl (ev_var rfl (ev_int (⟨h199.2.1, h199.2.2⟩)))))⟩))))))) (Wle.refl _))) (fun y202 h205 => h205)))))) (Wle.refl _))⟩

theorem sc_loss : FnScope ["position", "move"] ["position", "move"] (defScope (topS 30)) := ⟨rfl, rfl, rfl, by decide +kernel, rfl, by decide +kernel, by decide +kernel⟩
def w_loss (a_position : (Dc Str Int)) (a_move : (Dc Str Int)) (P : Int → Prop) : Prop := (w_check_position a_position (fun (y206 : Unit) => (w_is_move a_move (fun (y208 : Bool) => (((!y208) = true → False) ∧ ((!y208) = false → (w_loss_by a_position a_move (fun (y210 : Int) => P y210))))))))
abbrev W_loss (g : (Dc Str Int) × (Dc Str Int) × Unit) (P : Int → Prop) : Prop := w_loss g.1 g.2.1 P
theorem walk_loss {f : Addr} {fd : FuncData} (X : Tx K mg) (C_check_position : CalD P w K mg base 4 "check_position" (spD K AnyW W_check_position) []) (C_is_move : CalD P w K mg base 3 "is_move" (spD K AnyW W_is_move) []) (C_loss_by : CalD P w K mg base 1 "loss_by" (spD K AnyW W_loss_by) []) (F : Fun K "loss" "loss" (topS 30) f fd) (hm : mg "loss" = some (.ref f)) (bd : Binds K fd ["position", "move"] []) : CalD P w K mg base 5 "loss" (spD K AnyW W_loss) [] :=
  cal_ok F hm bd sc_loss rfl (by decide) fun cdv A outer s H E hr => by
    exact ⟨_, (pss_cons (ps_expr (pe_cd C_check_position hr (by decide) (by rfl) (pa_cons (pv 0) pa_nil))) (pss_cons (ps_if (pt_not (pt_val (pe_cd C_is_move hr (by decide) (by rfl) (pa_cons (pv 1) pa_nil)))) (pss_cons ps_never pss_nil) pss_nil) (pss_cons (ps_ret (pe_cd C_loss_by hr (by decide) (by rfl) (pa_cons (pv 0) (pa_cons (pv 1) pa_nil)))) pss_nil))), fun W W2 hW g P h => by
      have e1 : W = W2 := hW
      subst e1
      unfold W_loss w_loss at h
      exact sd_seq (sd_drop (Ev.imp (ev_call rfl (ea_cons (ev_var rfl (ea_nil h)))) (fun y206 h207 => sd_seq (sd_if (et_not (et_B (Ev.imp (ev_call rfl (ea_cons (ev_var rfl (ea_nil h207)))) (fun y208 h209 => ⟨fun e212 => sd_seq (sd_never (h209.1 e212)), fun e213 => sd_next (sd_seq (sd_retW rfl (Ev.imp (ev_call rfl (ea_cons (ev_var rfl (ea_cons (ev_var rfl (ea_nil (h209.2 e213))))))) (fun y210 h211 => h211)) (Wle.refl _)))⟩))))))))⟩

theorem sc_need_of : FnScope ["position", "moves", "move"] ["position", "moves"] (defScope (topS 31)) := ⟨rfl, rfl, rfl, by decide +kernel, rfl, by decide +kernel, by decide +kernel⟩
def w_need_of (a_position : (Dc Str Int)) (a_moves : (List (Dc Str Int))) (P : Int → Prop) : Prop := (a_moves.length ≤ 100000 ∧ compW (fun (x214 : (Dc Str Int)) (R215 : Option Int → Prop) => (w_loss_by a_position x214 (fun (y217 : Int) => R215 (some y217)))) (fun (y221 : (List Int)) => (0 < y221.length ∧ ∀ m225, m225 ∈ y221 → (∀ y228, y228 ∈ y221 → y228 ≤ m225) → P m225)) a_moves [])
abbrev W_need_of (g : (Dc Str Int) × (List (Dc Str Int)) × Unit) (P : Int → Prop) : Prop := w_need_of g.1 g.2.1 P
theorem walk_need_of {f : Addr} {fd : FuncData} (X : Tx K mg) (C_loss_by : CalD P w K mg base 1 "loss_by" (spD K AnyW W_loss_by) []) (F : Fun K "need_of" "need_of" (topS 31) f fd) (hm : mg "need_of" = some (.ref f)) (bd : Binds K fd ["position", "moves"] []) : CalD P w K mg base 2 "need_of" (spD K AnyW W_need_of) [] :=
  cal_ok F hm bd sc_need_of rfl (by decide) fun cdv A outer s H E hr => by
    exact ⟨_, (pss_cons (ps_ret (pe_callB (cr_max rfl) (by rfl) X.b_max rfl (pa_cons (pe_lc rfl sc_need_of.nd (pi_list (pv 1)) (blkOk_by (N := ["position", "moves", "move"]) (sc := defScope (topS 31)) (own := [("move", 2)]) (by decide +kernel)) (fun _ _ _ _ _ => (pg_name (i := 2) sc_need_of.nd (by rfl) (by first | exact .inl rfl | exact .inr rfl))) (fun _ _ _ _ _ => pts_nil) (fun _ _ _ _ _ => (pe_cd C_loss_by hr (by decide) (by rfl) (pa_cons (pv 0) (pa_cons (pv 2) pa_nil))))) pa_nil))) pss_nil), fun W W2 hW g P h => by
      have e1 : W = W2 := hW
      subst e1
      unfold W_need_of w_need_of at h
      exact sd_seq (sd_retW rfl (ev_max (ec_ev (ev_fresh (EvF.imp (ef_lcW (evio (evi_list (ev_var rfl (h)))) (by exact fun x214 R215 h216 => bd_yes (tgc_name (Ev.imp (ev_call rfl (ea_cons (ev_var rfl (ea_cons (ev_var rfl (ea_nil h216)))))) (fun y217 h218 => h218))) (Wle.refl _))) (fun y221 h224 => ⟨h224.1, fun m225 h226 h227 => (h224.2 m225 h226 h227)⟩))))) (Wle.refl _))⟩

theorem sc_need : FnScope ["position", "moves"] ["position", "moves"] (defScope (topS 32)) := ⟨rfl, rfl, rfl, by decide +kernel, rfl, by decide +kernel, by decide +kernel⟩
def w_need (a_position : (Dc Str Int)) (a_moves : (List (Dc Str Int))) (P : Int → Prop) : Prop := (w_check_position a_position (fun (y229 : Unit) => (w_check_moves a_moves (fun (y231 : Unit) => (w_need_of a_position a_moves (fun (y233 : Int) => P y233))))))
abbrev W_need (g : (Dc Str Int) × (List (Dc Str Int)) × Unit) (P : Int → Prop) : Prop := w_need g.1 g.2.1 P
theorem walk_need {f : Addr} {fd : FuncData} (X : Tx K mg) (C_check_position : CalD P w K mg base 4 "check_position" (spD K AnyW W_check_position) []) (C_check_moves : CalD P w K mg base 4 "check_moves" (spD K AnyW W_check_moves) []) (C_need_of : CalD P w K mg base 2 "need_of" (spD K AnyW W_need_of) []) (F : Fun K "need" "need" (topS 32) f fd) (hm : mg "need" = some (.ref f)) (bd : Binds K fd ["position", "moves"] []) : CalD P w K mg base 5 "need" (spD K AnyW W_need) [] :=
  cal_ok F hm bd sc_need rfl (by decide) fun cdv A outer s H E hr => by
    exact ⟨_, (pss_cons (ps_expr (pe_cd C_check_position hr (by decide) (by rfl) (pa_cons (pv 0) pa_nil))) (pss_cons (ps_expr (pe_cd C_check_moves hr (by decide) (by rfl) (pa_cons (pv 1) pa_nil))) (pss_cons (ps_ret (pe_cd C_need_of hr (by decide) (by rfl) (pa_cons (pv 0) (pa_cons (pv 1) pa_nil)))) pss_nil))), fun W W2 hW g P h => by
      have e1 : W = W2 := hW
      subst e1
      unfold W_need w_need at h
      exact sd_seq (sd_drop (Ev.imp (ev_call rfl (ea_cons (ev_var rfl (ea_nil h)))) (fun y229 h230 => sd_seq (sd_drop (Ev.imp (ev_call rfl (ea_cons (ev_var rfl (ea_nil h230)))) (fun y231 h232 => sd_seq (sd_retW rfl (Ev.imp (ev_call rfl (ea_cons (ev_var rfl (ea_cons (ev_var rfl (ea_nil h232)))))) (fun y233 h234 => h234)) (Wle.refl _))))))))⟩

theorem sc_is_standing : FnScope ["value", "side", "unit", "price", "amount"] ["value"] (defScope (topS 33)) := ⟨rfl, rfl, rfl, by decide +kernel, rfl, by decide +kernel, by decide +kernel⟩
def w_is_standing (a_value : (T4 Str Str Int Int)) (P : Bool → Prop) : Prop := altW (fun (P235 : Bool → Prop) => (((!true) = false → (((!decide ((4 : Int) = (4 : Int))) = false → P235 (!true)) ∧ ((!decide ((4 : Int) = (4 : Int))) = true → P235 true))) ∧ ((!true) = true → P235 true))) (fun (y248 : Bool) => ((y248 = true → P false) ∧ (y248 = false → ∀ (z237 : (T4 Str Str Int Int)), z237 = a_value → altW (fun (P245 : Bool → Prop) => (((decide (z237.a ∈ [("buy" : Str), ("sell" : Str)])) = true → (w_is_member z237.b (fun (y239 : Bool) => ((y239 = true → (w_is_price z237.c (fun (y241 : Bool) => ((y241 = true → (w_is_integer z237.d (some (1 : Int)) (fun (y243 : Bool) => P245 y243))) ∧ (y241 = false → P245 false))))) ∧ (y239 = false → P245 false))))) ∧ ((decide (z237.a ∈ [("buy" : Str), ("sell" : Str)])) = false → P245 false))) (fun (y247 : Bool) => P y247))))
abbrev W_is_standing (g : (T4 Str Str Int Int) × Unit) (P : Bool → Prop) : Prop := w_is_standing g.1 P
theorem walk_is_standing {f : Addr} {fd : FuncData} (X : Tx K mg) (C_is_member : CalD P w K mg base 2 "is_member" (spD K AnyW W_is_member) []) (C_is_price : CalD P w K mg base 2 "is_price" (spD K AnyW W_is_price) []) (C_is_integer : CalD P w K mg base 1 "is_integer" (spD K AnyW W_is_integer) []) (F : Fun K "is_standing" "is_standing" (topS 33) f fd) (hm : mg "is_standing" = some (.ref f)) (bd : Binds K fd ["value"] []) : CalD P w K mg base 3 "is_standing" (spD K AnyW W_is_standing) [] :=
  cal_ok F hm bd sc_is_standing rfl (by decide) fun cdv A outer s H E hr => by
    exact ⟨_, (pss_cons (ps_if (PW.pt (pw_or (pt_not (pt_val (pe_callB call_isi (by rfl) X.b_isinstance rfl (pa_cons (pv 0) (pa_cons (pe_bltn (v := .ty "tuple") (by rfl) X.b_tuple rfl rfl) pa_nil))))) (pw_or (pt_cmpR op_ne (pe_callB call_len_seq (by rfl) X.b_len rfl (pa_cons (pv 0) pa_nil)) pe_int (nomark _)) (pw_or1 (pt_not (pt_val (pe_callB call_isi (by rfl) X.b_isinstance rfl (pa_cons (pe_ix ix_tup (pv 0) pe_int (fun _ _ => rfl)) (pa_cons (pe_bltn (v := .ty "str") (by rfl) X.b_str rfl rfl) pa_nil))))))))) (pss_cons (ps_ret pe_bl) pss_nil) pss_nil) (pss_cons (ps_asg (pv 0) (pg_tup rfl (pgs_cons (pg_name (i := 1) sc_is_standing.nd (by rfl) (by first | exact .inl rfl | exact .inr rfl)) (pgs_cons (pg_name (i := 2) sc_is_standing.nd (by rfl) (by first | exact .inl rfl | exact .inr rfl)) (pgs_cons (pg_name (i := 3) sc_is_standing.nd (by rfl) (by first | exact .inl rfl | exact .inr rfl)) (pgs_cons (pg_name (i := 4) sc_is_standing.nd (by rfl) (by first | exact .inl rfl | exact .inr rfl)) pgs_nil)))))) (pss_cons (ps_ret (pe_and (pe_cmpR op_in_seq (pv 1) (pe_tup (pa_cons pe_str (pa_cons pe_str pa_nil))) (by rfl)) (pe_and (pe_cd C_is_member hr (by decide) (by rfl) (pa_cons (pv 2) pa_nil)) (pe_and (pe_cd C_is_price hr (by decide) (by rfl) (pa_cons (pv 3) pa_nil)) (pe_one (pe_cd C_is_integer hr (by decide) (by rfl) (pa_cons (pv 4) (pa_cons pe_int pa_nil)))))))) pss_nil))), fun W W2 hW g P h => by
      have e1 : W = W2 := hW
      subst e1
      unfold W_is_standing w_is_standing at h
      exact sd_seq (sd_if (et_alt h (by exact fun h236 => et_or (et_not (et_B (ev_isi (b := true) (ev_var rfl (⟨fun e253 => et_or (et_test (ev_neI (fun h => h) (ev_lenT4 (fun h => h) (ev_var rfl (ev_int (⟨fun e255 => et_not (et_B (ev_isi (b := true) (ev_t40 (fun h => h) (ev_var rfl (((h236.1 e253).1 e255)))))), fun e256 => (h236.1 e253).2 e256⟩)))))) (Wle.refl _), fun e254 => h236.2 e254⟩))))) (Wle.refl _)) (fun y251 h252 => ⟨fun e249 => sd_seq (sd_retW rfl (ev_bl ((h252.1 e249))) (Wle.refl _)), fun e250 => sd_next (sd_seq (sd_asgTZ (ev_var rfl (fun z237 e238 => tg_four (sd_seq (sd_retW rfl (ev_alt ((h252.2 e250) z237 e238) (by exact fun h246 => ev_andV (ev_inTS (n := false) (fun h => h) (ev_var rfl (ev_tp (es_cons (ev_str (es_cons (ev_str (es_nil (⟨Nat.le_of_ble_eq_true rfl, ⟨fun e259 => ev_andV (Ev.imp (ev_call rfl (ea_cons (ev_var rfl (ea_nil (h246.1 e259))))) (fun y239 h240 => ⟨fun e261 => ev_andV (Ev.imp (ev_call rfl (ea_cons (ev_var rfl (ea_nil (h240.1 e261))))) (fun y241 h242 => ⟨fun e263 => Ev.imp (ev_call rfl (ea_cons (ev_var rfl (ea_cons (ev_some (ev_int (ea_nil (h242.1 e263)))))))) (fun y243 h244 => h244), fun e264 => h242.2 e264⟩)) (Wle.refl _), fun e262 => h240.2 e262⟩)) (Wle.refl _), fun e260 => h246.2 e260⟩⟩))))))))) (Wle.refl _)) (fun y257 h258 => h258)) (Wle.refl _)))))))⟩)))⟩

theorem sc_check_orders : FnScope ["orders", "order"] ["orders"] (defScope (topS 34)) := ⟨rfl, rfl, rfl, by decide +kernel, rfl, by decide +kernel, by decide +kernel⟩
def w_check_orders (a_orders : (List (T4 Str Str Int Int))) (P : Unit → Prop) : Prop := forW (fun (x272 : (T4 Str Str Int Int)) (s269 : Unit) (n273 b274 : Unit → Prop) => (w_is_standing x272 (fun (y275 : Bool) => (((!y275) = true → False) ∧ ((!y275) = false → n273 ()))))) (fun (s279 : Unit) => P ()) a_orders ()
abbrev W_check_orders (g : (List (T4 Str Str Int Int)) × Unit) (P : Unit → Prop) : Prop := w_check_orders g.1 P
theorem walk_check_orders {f : Addr} {fd : FuncData} (X : Tx K mg) (C_is_standing : CalD P w K mg base 3 "is_standing" (spD K AnyW W_is_standing) []) (F : Fun K "check_orders" "check_orders" (topS 34) f fd) (hm : mg "check_orders" = some (.ref f)) (bd : Binds K fd ["orders"] []) : CalD P w K mg base 4 "check_orders" (spD K AnyW W_check_orders) [] :=
  cal_okU F hm bd sc_check_orders rfl (by decide) fun cdv A outer s H E hr => by
    exact ⟨_, (pss_cons (ps_for PassesOwn.never rfl (pi_list (pv 0)) (pg_name (i := 1) sc_check_orders.nd (by rfl) (by first | exact .inl rfl | exact .inr rfl)) (pss_cons (ps_if (pt_not (pt_val (pe_cd C_is_standing hr (by decide) (by rfl) (pa_cons (pv 1) pa_nil)))) (pss_cons ps_never pss_nil) pss_nil) pss_nil)) pss_nil), fun W W2 hW g P h => by
      have e1 : W = W2 := hW
      subst e1
      unfold W_check_orders w_check_orders at h
      exact sd_wipe [1] (sd_seq (sd_forW (fun (s269 : Unit) => [sD (α := (List (T4 Str Str Int Int))) g.1, .non]) (evi_list (ev_var rfl (⟨(), rfl, h⟩))) (by exact fun x272 s269 n273 h280 => tg_name (sd_seq (sd_if (et_not (et_B (Ev.imp (ev_call rfl (ea_cons (ev_var rfl (ea_nil h280)))) (fun y275 h276 => ⟨fun e277 => sd_seq (sd_never (h276.1 e277)), fun e278 => sd_next (sd_nextW [1] ⟨(), rfl, (Wle.refl _), (h276.2 e278)⟩)⟩))))))) (by exact fun s279 h281 => sd_next ⟨(Wle.refl _), h281⟩) (fun _ _ l z => sd_le l z)))⟩

theorem sc_check_question : FnScope ["position", "orders", "moves", "prices"] ["position", "orders", "moves", "prices"] (defScope (topS 35)) := ⟨rfl, rfl, rfl, by decide +kernel, rfl, by decide +kernel, by decide +kernel⟩
def w_check_question (a_position : (Dc Str Int)) (a_orders : (List (T4 Str Str Int Int))) (a_moves : (List (Dc Str Int))) (a_prices : (Dc Str Int)) (P : Unit → Prop) : Prop := (w_check_position a_position (fun (y282 : Unit) => (w_check_orders a_orders (fun (y284 : Unit) => (w_check_moves a_moves (fun (y286 : Unit) => (w_check_prices a_prices (fun (y288 : Unit) => P ()))))))))
abbrev W_check_question (g : (Dc Str Int) × (List (T4 Str Str Int Int)) × (List (Dc Str Int)) × (Dc Str Int) × Unit) (P : Unit → Prop) : Prop := w_check_question g.1 g.2.1 g.2.2.1 g.2.2.2.1 P
theorem walk_check_question {f : Addr} {fd : FuncData} (X : Tx K mg) (C_check_position : CalD P w K mg base 4 "check_position" (spD K AnyW W_check_position) []) (C_check_orders : CalD P w K mg base 4 "check_orders" (spD K AnyW W_check_orders) []) (C_check_moves : CalD P w K mg base 4 "check_moves" (spD K AnyW W_check_moves) []) (C_check_prices : CalD P w K mg base 3 "check_prices" (spD K AnyW W_check_prices) []) (F : Fun K "check_question" "check_question" (topS 35) f fd) (hm : mg "check_question" = some (.ref f)) (bd : Binds K fd ["position", "orders", "moves", "prices"] []) : CalD P w K mg base 5 "check_question" (spD K AnyW W_check_question) [] :=
  cal_okU F hm bd sc_check_question rfl (by decide) fun cdv A outer s H E hr => by
    exact ⟨_, (pss_cons (ps_expr (pe_cd C_check_position hr (by decide) (by rfl) (pa_cons (pv 0) pa_nil))) (pss_cons (ps_expr (pe_cd C_check_orders hr (by decide) (by rfl) (pa_cons (pv 1) pa_nil))) (pss_cons (ps_expr (pe_cd C_check_moves hr (by decide) (by rfl) (pa_cons (pv 2) pa_nil))) (pss_cons (ps_expr (pe_cd C_check_prices hr (by decide) (by rfl) (pa_cons (pv 3) pa_nil))) pss_nil)))), fun W W2 hW g P h => by
      have e1 : W = W2 := hW
      subst e1
      unfold W_check_question w_check_question at h
      exact sd_seq (sd_drop (Ev.imp (ev_call rfl (ea_cons (ev_var rfl (ea_nil h)))) (fun y282 h283 => sd_seq (sd_drop (Ev.imp (ev_call rfl (ea_cons (ev_var rfl (ea_nil h283)))) (fun y284 h285 => sd_seq (sd_drop (Ev.imp (ev_call rfl (ea_cons (ev_var rfl (ea_nil h285)))) (fun y286 h287 => sd_seq (sd_drop (Ev.imp (ev_call rfl (ea_cons (ev_var rfl (ea_nil h287)))) (fun y288 h289 => sd_next ⟨(Wle.refl _), h289⟩))))))))))))⟩

theorem sc_check_priced : FnScope ["orders", "prices", "order"] ["orders", "prices"] (defScope (topS 36)) := ⟨rfl, rfl, rfl, by decide +kernel, rfl, by decide +kernel, by decide +kernel⟩
def w_check_priced (a_orders : (List (T4 Str Str Int Int))) (a_prices : (Dc Str Int)) (P : Unit → Prop) : Prop := forW (fun (x295 : (T4 Str Str Int Int)) (s292 : Unit) (n296 b297 : Unit → Prop) => (((!(Option.isSome (look a_prices.l x295.b))) = true → False) ∧ ((!(Option.isSome (look a_prices.l x295.b))) = false → n296 ()))) (fun (s300 : Unit) => P ()) a_orders ()
abbrev W_check_priced (g : (List (T4 Str Str Int Int)) × (Dc Str Int) × Unit) (P : Unit → Prop) : Prop := w_check_priced g.1 g.2.1 P
theorem walk_check_priced {f : Addr} {fd : FuncData} (X : Tx K mg)  (F : Fun K "check_priced" "check_priced" (topS 36) f fd) (hm : mg "check_priced" = some (.ref f)) (bd : Binds K fd ["orders", "prices"] []) : CalD P w K mg base 1 "check_priced" (spD K AnyW W_check_priced) [] :=
  cal_okU F hm bd sc_check_priced rfl (by decide) fun cdv A outer s H E hr => by
    exact ⟨_, (pss_cons (ps_for PassesOwn.never rfl (pi_list (pv 0)) (pg_name (i := 2) sc_check_priced.nd (by rfl) (by first | exact .inl rfl | exact .inr rfl)) (pss_cons (ps_if (pt_cmp (pc_dnotin (hu_of hr) (pe_ix ix_tup (pv 2) pe_int (fun _ _ => rfl)) (pv 1))) (pss_cons ps_never pss_nil) pss_nil) pss_nil)) pss_nil), fun W W2 hW g P h => by
      have e1 : W = W2 := hW
      subst e1
      unfold W_check_priced w_check_priced at h
      exact sd_wipe [2] (sd_seq (sd_forW (fun (s292 : Unit) => [sD (α := (List (T4 Str Str Int Int))) g.1, sD (α := (Dc Str Int)) g.2.1, .non]) (evi_list (ev_var rfl (⟨(), rfl, h⟩))) (by exact fun x295 s292 n296 h301 => tg_name (sd_seq (sd_if (et_test (ev_dnotin (ev_t41 (fun h => h) (ev_var rfl (ecd_ev (ev_var rfl (⟨fun e298 => sd_seq (sd_never (h301.1 e298)), fun e299 => sd_next (sd_nextW [2] ⟨(), rfl, (Wle.refl _), (h301.2 e299)⟩)⟩)))))))))) (by exact fun s300 h302 => sd_next ⟨(Wle.refl _), h302⟩) (fun _ _ l z => sd_le l z)))⟩

theorem sc_unit_loss : FnScope ["order", "move", "prices", "after"] ["order", "move", "prices"] (defScope (topS 37)) := ⟨rfl, rfl, rfl, by decide +kernel, rfl, by decide +kernel, by decide +kernel⟩
def w_unit_loss (a_order : (T4 Str Str Int Int)) (a_move : (Dc Str Int)) (a_prices : (Dc Str Int)) (P : Int → Prop) : Prop := (∃ (x303 : Int), look a_prices.l a_order.b = some x303 ∧ ∀ (z_after_305 : Int), z_after_305 = (x303 + (Option.getD (look a_move.l a_order.b) (0 : Int))) → altW (fun (P306 : Int → Prop) => (((decide (a_order.a = ("buy" : Str))) = true → P306 (a_order.c - z_after_305)) ∧ ((decide (a_order.a = ("buy" : Str))) = false → P306 (z_after_305 - a_order.c)))) (fun (y310 : Int) => P y310))
abbrev W_unit_loss (g : (T4 Str Str Int Int) × (Dc Str Int) × (Dc Str Int) × Unit) (P : Int → Prop) : Prop := w_unit_loss g.1 g.2.1 g.2.2.1 P
theorem walk_unit_loss {f : Addr} {fd : FuncData} (X : Tx K mg)  (F : Fun K "unit_loss" "unit_loss" (topS 37) f fd) (hm : mg "unit_loss" = some (.ref f)) (bd : Binds K fd ["order", "move", "prices"] []) : CalD P w K mg base 1 "unit_loss" (spD K AnyW W_unit_loss) [] :=
  cal_ok F hm bd sc_unit_loss rfl (by decide) fun cdv A outer s H E hr => by
    exact ⟨_, (pss_cons (ps_set (i := 3) sc_unit_loss.nd (by rfl) (by first | exact .inl rfl | exact .inr rfl) (pe_op op_add (pe_dget (hu_of hr) (pv 2) (pe_ix ix_tup (pv 0) pe_int (fun _ _ => rfl)) (fun _ _ => rfl)) (pe_dget2 (hu_of hr) (pv 1) (pe_ix ix_tup (pv 0) pe_int (fun _ _ => rfl)) pe_int ⟨rfl, rfl, rfl, rfl⟩))) (pss_cons (ps_ret (pe_ifExp (pt_cmpR op_eq (pe_ix ix_tup (pv 0) pe_int (fun _ _ => rfl)) pe_str (nomark _)) (pe_op op_sub (pe_ix ix_tup (pv 0) pe_int (fun _ _ => rfl)) (pv 3)) (pe_op op_sub (pv 3) (pe_ix ix_tup (pv 0) pe_int (fun _ _ => rfl))))) pss_nil)), fun W W2 hW g P h => by
      have e1 : W = W2 := hW
      subst e1
      unfold W_unit_loss w_unit_loss at h
      exact sd_seq (sd_asgZ (i := 3) (ev_I0 (f := fun i j : Int => i + j) (fun h => h) (ev_dget (ecd_ev (ev_var rfl (ev_t41 (fun h => h) (ev_var rfl (Exists.elim h fun x303 h304 => ⟨x303, h304.1, ev_dget2 (ecd_ev (ev_var rfl (ev_t41 (fun h => h) (ev_var rfl (ev_int (fun z_after_305 e311 => sd_seq (sd_retW rfl (ev_alt (h304.2 z_after_305 e311) (by exact fun h307 => ev_if (et_test (ev_eqS (fun h => h) (ev_t40 (fun h => h) (ev_var rfl (ev_str (⟨fun e308 => ev_I0 (f := fun i j : Int => i - j) (fun h => h) (ev_t42 (fun h => h) (ev_var rfl (ev_var rfl ((h307.1 e308))))), fun e309 => ev_I0 (f := fun i j : Int => i - j) (fun h => h) (ev_var rfl (ev_t42 (fun h => h) (ev_var rfl ((h307.2 e309)))))⟩))))))) (fun y312 h313 => h313)) (Wle.refl _))))))))⟩))))))))⟩

theorem sc_worst_filled : FnScope ["orders", "move", "prices", "order"] ["orders", "move", "prices"] (defScope (topS 38)) := ⟨rfl, rfl, rfl, by decide +kernel, rfl, by decide +kernel, by decide +kernel⟩
def w_worst_filled (a_orders : (List (T4 Str Str Int Int))) (a_move : (Dc Str Int)) (a_prices : (Dc Str Int)) (P : (Tp Int) → Prop) : Prop := (a_orders.length ≤ 100000 ∧ compW (fun (x314 : (T4 Str Str Int Int)) (R315 : Option Int → Prop) => altW (fun (P319 : Int → Prop) => (w_unit_loss x314 a_move a_prices (fun (y317 : Int) => (((decide ((0 : Int) < y317)) = true → P319 x314.d) ∧ ((decide ((0 : Int) < y317)) = false → P319 (0 : Int)))))) (fun (y325 : Int) => R315 (some y325))) (fun (y326 : (List Int)) => P (Tp.mk y326)) a_orders [])
abbrev W_worst_filled (g : (List (T4 Str Str Int Int)) × (Dc Str Int) × (Dc Str Int) × Unit) (P : (Tp Int) → Prop) : Prop := w_worst_filled g.1 g.2.1 g.2.2.1 P
theorem walk_worst_filled {f : Addr} {fd : FuncData} (X : Tx K mg) (C_unit_loss : CalD P w K mg base 1 "unit_loss" (spD K AnyW W_unit_loss) []) (F : Fun K "worst_filled" "worst_filled" (topS 38) f fd) (hm : mg "worst_filled" = some (.ref f)) (bd : Binds K fd ["orders", "move", "prices"] []) : CalD P w K mg base 2 "worst_filled" (spD K AnyW W_worst_filled) [] :=
  cal_ok F hm bd sc_worst_filled rfl (by decide) fun cdv A outer s H E hr => by
    exact ⟨_, (pss_cons (ps_ret (pe_callTy call_tuple_of (by rfl) X.b_tuple rfl (pa_cons (pe_lc rfl sc_worst_filled.nd (pi_list (pv 0)) (blkOk_by (N := ["orders", "move", "prices", "order"]) (sc := defScope (topS 38)) (own := [("order", 3)]) (by decide +kernel)) (fun _ _ _ _ _ => (pg_name (i := 3) sc_worst_filled.nd (by rfl) (by first | exact .inl rfl | exact .inr rfl))) (fun _ _ _ _ _ => pts_nil) (fun _ _ _ _ _ => (pe_ifExp (pt_cmpR op_gt (pe_cd C_unit_loss hr (by decide) (by rfl) (pa_cons (pv 3) (pa_cons (pv 1) (pa_cons (pv 2) pa_nil)))) pe_int (nomark _)) (pe_ix ix_tup (pv 3) pe_int (fun _ _ => rfl)) pe_int))) pa_nil))) pss_nil), fun W W2 hW g P h => by
      have e1 : W = W2 := hW
      subst e1
      unfold W_worst_filled w_worst_filled at h
      exact sd_seq (sd_retW rfl (ev_tupleC (ec_ev (ev_fresh (EvF.imp (ef_lcW (evio (evi_list (ev_var rfl (h)))) (by exact fun x314 R315 h316 => bd_yes (tgc_name (ev_alt h316 (by exact fun h320 => ev_if (et_test (ev_I0 (f := fun i j : Int => (decide (j < i))) (fun h => h) (Ev.imp (ev_call rfl (ea_cons (ev_var rfl (ea_cons (ev_var rfl (ea_cons (ev_var rfl (ea_nil h320)))))))) (fun y317 h318 => ev_int (⟨fun e321 => ev_t43 (fun h => h) (ev_var rfl ((h318.1 e321))), fun e322 => ev_int ((h318.2 e322))⟩)))))) (fun y330 h331 => h331))) (Wle.refl _))) (fun y326 h329 => h329))))) (Wle.refl _))⟩

theorem sc_loss_with : FnScope ["position", "orders", "move", "prices", "filled", "lost", "order", "number"] ["position", "orders", "move", "prices", "filled"] (defScope (topS 39)) := ⟨rfl, rfl, rfl, by decide +kernel, rfl, by decide +kernel, by decide +kernel⟩
def w_loss_with (a_position : (Dc Str Int)) (a_orders : (List (T4 Str Str Int Int))) (a_move : (Dc Str Int)) (a_prices : (Dc Str Int)) (a_filled : (Tp Int)) (P : Int → Prop) : Prop := ((List.zip a_orders a_filled.l).length ≤ 100000 ∧ compW (fun (x332 : ((T4 Str Str Int Int) × Int)) (R333 : Option Int → Prop) => (w_unit_loss x332.1 a_move a_prices (fun (y335 : Int) => (CMul x332.2 y335 ∧ R333 (some (x332.2 * y335)))))) (fun (y339 : (List Int)) => ∀ (z_lost_343 : (List Int)), z_lost_343 = y339 → (w_loss_by a_position a_move (fun (y344 : Int) => P (y344 + (List.sum z_lost_343))))) (List.zip a_orders a_filled.l) [])
abbrev W_loss_with (g : (Dc Str Int) × (List (T4 Str Str Int Int)) × (Dc Str Int) × (Dc Str Int) × (Tp Int) × Unit) (P : Int → Prop) : Prop := w_loss_with g.1 g.2.1 g.2.2.1 g.2.2.2.1 g.2.2.2.2.1 P
theorem walk_loss_with {f : Addr} {fd : FuncData} (X : Tx K mg) (C_unit_loss : CalD P w K mg base 1 "unit_loss" (spD K AnyW W_unit_loss) []) (C_loss_by : CalD P w K mg base 1 "loss_by" (spD K AnyW W_loss_by) []) (F : Fun K "loss_with" "loss_with" (topS 39) f fd) (hm : mg "loss_with" = some (.ref f)) (bd : Binds K fd ["position", "orders", "move", "prices", "filled"] []) : CalD P w K mg base 2 "loss_with" (spD K AnyW W_loss_with) [] :=
  cal_ok F hm bd sc_loss_with rfl (by decide) fun cdv A outer s H E hr => by
    exact ⟨_, (pss_cons (ps_setLc (i := 5) rfl sc_loss_with.nd (by rfl) (by rfl) (sw_true rfl rfl rfl rfl) (g := gTup K 2 (gCons (gName 6) (gCons (gName 7) gNil))) (pi_zipLT (by rfl) X.b_zip (pa_cons (pv 1) (pa_cons (pv 4) pa_nil))) (blkOk_by (N := ["position", "orders", "move", "prices", "filled", "lost", "order", "number"]) (sc := defScope (topS 39)) (own := [("order", 6), ("number", 7)]) (by decide +kernel)) (fun _ _ _ _ _ => (pg_tup rfl (pgs_cons (pg_name (i := 6) sc_loss_with.nd (by rfl) (by first | exact .inl rfl | exact .inr rfl)) (pgs_cons (pg_name (i := 7) sc_loss_with.nd (by rfl) (by first | exact .inl rfl | exact .inr rfl)) pgs_nil)))) (fun _ _ _ _ _ => pts_nil) (fun _ _ _ _ _ => (pe_op op_mul (pv 7) (pe_cd C_unit_loss hr (by decide) (by rfl) (pa_cons (pv 6) (pa_cons (pv 2) (pa_cons (pv 3) pa_nil))))))) (pss_cons (ps_ret (pe_op op_add (pe_cd C_loss_by hr (by decide) (by rfl) (pa_cons (pv 0) (pa_cons (pv 2) pa_nil))) (pe_callB (cr_sum rfl) (by rfl) X.b_sum rfl (pa_cons (pv 5) pa_nil)))) pss_nil)), fun W W2 hW g P h => by
      have e1 : W = W2 := hW
      subst e1
      unfold W_loss_with w_loss_with at h
      exact sd_seq (sd_asgZ (i := 5) (ev_fresh (EvF.imp (ef_lcW (evio (evi_zipLT (ea_cons (ev_var rfl (ea_cons (ev_var rfl (ea_nil (h)))))))) (by exact fun x332 R333 h334 => bd_yes (tgc_two (ev_I (f := fun i j : Int => i * j) (C := CMul) (fun h => h) (ev_var rfl (Ev.imp (ev_call rfl (ea_cons (ev_var rfl (ea_cons (ev_var rfl (ea_cons (ev_var rfl (ea_nil h334)))))))) (fun y335 h336 => ⟨h336.1, h336.2⟩))))) (Wle.refl _))) (fun y339 h342 => fun z_lost_343 e346 => sd_seq (sd_retW rfl (ev_I0 (f := fun i j : Int => i + j) (fun h => h) (Ev.imp (ev_call rfl (ea_cons (ev_var rfl (ea_cons (ev_var rfl (ea_nil (h342 z_lost_343 e346))))))) (fun y344 h345 => ev_sum (ec_ev (ev_var rfl (h345)))))) (Wle.refl _))))))⟩

theorem sc_worst_of : FnScope ["position", "orders", "moves", "prices", "fills", "lost", "index", "move", "filled"] ["position", "orders", "moves", "prices"] (defScope (topS 40)) := ⟨rfl, rfl, rfl, by decide +kernel, rfl, by decide +kernel, by decide +kernel⟩
def w_worst_of (a_position : (Dc Str Int)) (a_orders : (List (T4 Str Str Int Int))) (a_moves : (List (Dc Str Int))) (a_prices : (Dc Str Int)) (P : (T3 Int Int (Tp Int)) → Prop) : Prop := (a_moves.length ≤ 100000 ∧ compW (fun (x347 : (Dc Str Int)) (R348 : Option (Tp Int) → Prop) => (w_worst_filled a_orders x347 a_prices (fun (y350 : (Tp Int)) => R348 (some y350)))) (fun (y354 : (List (Tp Int))) => ∀ (z_fills_358 : (List (Tp Int))), z_fills_358 = y354 → ((List.zip a_moves z_fills_358).length ≤ 100000 ∧ compW (fun (x359 : ((Dc Str Int) × (Tp Int))) (R360 : Option Int → Prop) => (w_loss_with a_position a_orders x359.1 a_prices x359.2 (fun (y362 : Int) => R360 (some y362)))) (fun (y366 : (List Int)) => ∀ (z_lost_370 : (List Int)), z_lost_370 = y366 → (0 < z_lost_370.length ∧ ∀ m371, m371 ∈ z_lost_370 → (∀ y374, y374 ∈ z_lost_370 → y374 ≤ m371) → (z_lost_370.length ≤ 100000 ∧ m371 ∈ z_lost_370 ∧ ∀ (j375 : Nat), z_lost_370[j375]? = some m371 → (∀ i, i < j375 → z_lost_370[i]? ≠ some m371) → ∀ (z_index_378 : Int), z_index_378 = (j375 : Int) → (∃ (x379 : Int), atI z_lost_370 z_index_378 = some x379 ∧ (∃ (x381 : (Tp Int)), atI z_fills_358 z_index_378 = some x381 ∧ P (T3.mk x379 z_index_378 x381)))))) (List.zip a_moves z_fills_358) [])) a_moves [])
abbrev W_worst_of (g : (Dc Str Int) × (List (T4 Str Str Int Int)) × (List (Dc Str Int)) × (Dc Str Int) × Unit) (P : (T3 Int Int (Tp Int)) → Prop) : Prop := w_worst_of g.1 g.2.1 g.2.2.1 g.2.2.2.1 P
theorem walk_worst_of {f : Addr} {fd : FuncData} (X : Tx K mg) (C_worst_filled : CalD P w K mg base 2 "worst_filled" (spD K AnyW W_worst_filled) []) (C_loss_with : CalD P w K mg base 2 "loss_with" (spD K AnyW W_loss_with) []) (F : Fun K "worst_of" "worst_of" (topS 40) f fd) (hm : mg "worst_of" = some (.ref f)) (bd : Binds K fd ["position", "orders", "moves", "prices"] []) : CalD P w K mg base 3 "worst_of" (spD K AnyW W_worst_of) [] :=
  cal_ok F hm bd sc_worst_of rfl (by decide) fun cdv A outer s H E hr => by
    exact ⟨_, (pss_cons (ps_setLc (i := 4) rfl sc_worst_of.nd (by rfl) (by rfl) (sw_true rfl rfl rfl rfl) (pi_list (pv 2)) (blkOk_by (N := ["position", "orders", "moves", "prices", "fills", "lost", "index", "move", "filled"]) (sc := defScope (topS 40)) (own := [("move", 7)]) (by decide +kernel)) (fun _ _ _ _ _ => (pg_name (i := 7) sc_worst_of.nd (by rfl) (by first | exact .inl rfl | exact .inr rfl))) (fun _ _ _ _ _ => pts_nil) (fun _ _ _ _ _ => (pe_cd C_worst_filled hr (by decide) (by rfl) (pa_cons (pv 1) (pa_cons (pv 7) (pa_cons (pv 3) pa_nil)))))) (pss_cons (ps_setLc (i := 5) rfl sc_worst_of.nd (by rfl) (by rfl) (sw_true rfl rfl rfl rfl) (g := gTup K 2 (gCons (gName 7) (gCons (gName 8) gNil))) (RZ.pi_zipA (by rfl) X.b_zip (pa_cons (pv 2) (pa_cons (pv 4) pa_nil))) (blkOk_by (N := ["position", "orders", "moves", "prices", "fills", "lost", "index", "move", "filled"]) (sc := defScope (topS 40)) (own := [("move", 7), ("filled", 8)]) (by decide +kernel)) (fun _ _ _ _ _ => (pg_tup rfl (pgs_cons (pg_name (i := 7) sc_worst_of.nd (by rfl) (by first | exact .inl rfl | exact .inr rfl)) (pgs_cons (pg_name (i := 8) sc_worst_of.nd (by rfl) (by first | exact .inl rfl | exact .inr rfl)) pgs_nil)))) (fun _ _ _ _ _ => pts_nil) (fun _ _ _ _ _ => (pe_cd C_loss_with hr (by decide) (by rfl) (pa_cons (pv 0) (pa_cons (pv 1) (pa_cons (pv 7) (pa_cons (pv 3) (pa_cons (pv 8) pa_nil)))))))) (pss_cons (ps_set (i := 6) sc_worst_of.nd (by rfl) (by first | exact .inl rfl | exact .inr rfl) (pe_bm PySem.F.plainAttrs_list PySem.F.slot_list_index PySem.F.type_list_index mt_index (pv 5) (pa_cons (pe_callB (cr_max rfl) (by rfl) X.b_max rfl (pa_cons (pv 5) pa_nil)) pa_nil))) (pss_cons (ps_ret (pe_tup (pa_cons (pe_ix ix_list (pv 5) (pv 6) (fun _ _ => rfl)) (pa_cons (pv 6) (pa_cons (pe_ix ix_list (pv 4) (pv 6) (fun _ _ => rfl)) pa_nil))))) pss_nil)))), fun W W2 hW g P h => by
      have e1 : W = W2 := hW
      subst e1
      unfold W_worst_of w_worst_of at h
      exact sd_seq (sd_asgZ (i := 4) (ev_fresh (EvF.imp (ef_lcW (evio (evi_list (ev_var rfl (h)))) (by exact fun x347 R348 h349 => bd_yes (tgc_name (Ev.imp (ev_call rfl (ea_cons (ev_var rfl (ea_cons (ev_var rfl (ea_cons (ev_var rfl (ea_nil h349)))))))) (fun y350 h351 => h351))) (Wle.refl _))) (fun y354 h357 => fun z_fills_358 e385 => sd_seq (sd_asgZ (i := 5) (ev_fresh (EvF.imp (ef_lcW (evio (evi_zipLL (ea_cons (ev_var rfl (ea_cons (ev_var rfl (ea_nil ((h357 z_fills_358 e385))))))))) (by exact fun x359 R360 h361 => bd_yes (tgc_two (Ev.imp (ev_call rfl (ea_cons (ev_var rfl (ea_cons (ev_var rfl (ea_cons (ev_var rfl (ea_cons (ev_var rfl (ea_cons (ev_var rfl (ea_nil h361)))))))))))) (fun y362 h363 => h363))) (Wle.refl _))) (fun y366 h369 => fun z_lost_370 e384 => sd_seq (sd_asgZ (i := 6) (ev_index (ec_ev (ev_var rfl (ev_max (ec_ev (ev_var rfl (⟨(h369 z_lost_370 e384).1, fun m371 h372 h373 => ⟨((h369 z_lost_370 e384).2 m371 h372 h373).1, ((h369 z_lost_370 e384).2 m371 h372 h373).2.1, fun j375 h376 h377 => fun z_index_378 e383 => sd_seq (sd_retW rfl (ev_tup3 (ea_cons (ev_ixL (fun h => h) (ec_ev (ev_var rfl (ev_var rfl (Exists.elim ((((h369 z_lost_370 e384).2 m371 h372 h373).2.2 j375 h376 h377) z_index_378 e383) fun x379 h380 => ⟨x379, h380.1, ea_cons (ev_var rfl (ea_cons (ev_ixL (fun h => h) (ec_ev (ev_var rfl (ev_var rfl (Exists.elim h380.2 fun x381 h382 => ⟨x381, h382.1, ea_nil (h382.2)⟩)))))))⟩))))))) (Wle.refl _))⟩⟩))))))))))))))))⟩

theorem sc_worst : FnScope ["position", "orders", "moves", "prices"] ["position", "orders", "moves", "prices"] (defScope (topS 41)) := ⟨rfl, rfl, rfl, by decide +kernel, rfl, by decide +kernel, by decide +kernel⟩
def w_worst (a_position : (Dc Str Int)) (a_orders : (List (T4 Str Str Int Int))) (a_moves : (List (Dc Str Int))) (a_prices : (Dc Str Int)) (P : (T3 Int Int (Tp Int)) → Prop) : Prop := (w_check_question a_position a_orders a_moves a_prices (fun (y386 : Unit) => (w_check_priced a_orders a_prices (fun (y388 : Unit) => (w_worst_of a_position a_orders a_moves a_prices (fun (y390 : (T3 Int Int (Tp Int))) => P y390))))))
abbrev W_worst (g : (Dc Str Int) × (List (T4 Str Str Int Int)) × (List (Dc Str Int)) × (Dc Str Int) × Unit) (P : (T3 Int Int (Tp Int)) → Prop) : Prop := w_worst g.1 g.2.1 g.2.2.1 g.2.2.2.1 P
theorem walk_worst {f : Addr} {fd : FuncData} (X : Tx K mg) (C_check_question : CalD P w K mg base 5 "check_question" (spD K AnyW W_check_question) []) (C_check_priced : CalD P w K mg base 1 "check_priced" (spD K AnyW W_check_priced) []) (C_worst_of : CalD P w K mg base 3 "worst_of" (spD K AnyW W_worst_of) []) (F : Fun K "worst" "worst" (topS 41) f fd) (hm : mg "worst" = some (.ref f)) (bd : Binds K fd ["position", "orders", "moves", "prices"] []) : CalD P w K mg base 6 "worst" (spD K AnyW W_worst) [] :=
  cal_ok F hm bd sc_worst rfl (by decide) fun cdv A outer s H E hr => by
    exact ⟨_, (pss_cons (ps_expr (pe_cd C_check_question hr (by decide) (by rfl) (pa_cons (pv 0) (pa_cons (pv 1) (pa_cons (pv 2) (pa_cons (pv 3) pa_nil)))))) (pss_cons (ps_expr (pe_cd C_check_priced hr (by decide) (by rfl) (pa_cons (pv 1) (pa_cons (pv 3) pa_nil)))) (pss_cons (ps_ret (pe_cd C_worst_of hr (by decide) (by rfl) (pa_cons (pv 0) (pa_cons (pv 1) (pa_cons (pv 2) (pa_cons (pv 3) pa_nil)))))) pss_nil))), fun W W2 hW g P h => by
      have e1 : W = W2 := hW
      subst e1
      unfold W_worst w_worst at h
      exact sd_seq (sd_drop (Ev.imp (ev_call rfl (ea_cons (ev_var rfl (ea_cons (ev_var rfl (ea_cons (ev_var rfl (ea_cons (ev_var rfl (ea_nil h)))))))))) (fun y386 h387 => sd_seq (sd_drop (Ev.imp (ev_call rfl (ea_cons (ev_var rfl (ea_cons (ev_var rfl (ea_nil h387)))))) (fun y388 h389 => sd_seq (sd_retW rfl (Ev.imp (ev_call rfl (ea_cons (ev_var rfl (ea_cons (ev_var rfl (ea_cons (ev_var rfl (ea_cons (ev_var rfl (ea_nil h389)))))))))) (fun y390 h391 => h391)) (Wle.refl _))))))))⟩

theorem sc_check_money : FnScope ["money"] ["money"] (defScope (topS 42)) := ⟨rfl, rfl, rfl, by decide +kernel, rfl, by decide +kernel, by decide +kernel⟩
def w_check_money (a_money : Int) (P : Unit → Prop) : Prop := (w_is_integer a_money none (fun (y392 : Bool) => (((!y392) = true → False) ∧ ((!y392) = false → P ()))))
abbrev W_check_money (g : Int × Unit) (P : Unit → Prop) : Prop := w_check_money g.1 P
theorem walk_check_money {f : Addr} {fd : FuncData} (X : Tx K mg) (C_is_integer_d : CalD P w K mg base 1 "is_integer" (spD K AnyW W_is_integer) [.non]) (F : Fun K "check_money" "check_money" (topS 42) f fd) (hm : mg "check_money" = some (.ref f)) (bd : Binds K fd ["money"] []) : CalD P w K mg base 2 "check_money" (spD K AnyW W_check_money) [] :=
  cal_okU F hm bd sc_check_money rfl (by decide) fun cdv A outer s H E hr => by
    exact ⟨_, (pss_cons (ps_if (pt_not (pt_val (pe_cd C_is_integer_d hr (by decide) (by rfl) (pa_cons (pv 0) pa_nil)))) (pss_cons ps_never pss_nil) pss_nil) pss_nil), fun W W2 hW g P h => by
      have e1 : W = W2 := hW
      subst e1
      unfold W_check_money w_check_money at h
      exact sd_seq (sd_if (et_not (et_B (Ev.imp (ev_call_is_integerD (ea_cons (ev_var rfl (ea_nil h)))) (fun y392 h393 => ⟨fun e394 => sd_seq (sd_never (h393.1 e394)), fun e395 => sd_next (sd_next ⟨(Wle.refl _), (h393.2 e395)⟩)⟩)))))⟩

theorem sc_covered : FnScope ["position", "orders", "moves", "prices", "money", "found"] ["position", "orders", "moves", "prices", "money"] (defScope (topS 43)) := ⟨rfl, rfl, rfl, by decide +kernel, rfl, by decide +kernel, by decide +kernel⟩
def w_covered_p1 (v_position : (Dc Str Int)) (v_orders : (List (T4 Str Str Int Int))) (v_moves : (List (Dc Str Int))) (v_prices : (Dc Str Int)) (v_money : Int) (P : (Option (T3 Int Int (Tp Int))) → Prop) : Prop := (w_worst_of v_position v_orders v_moves v_prices (fun (y402 : (T3 Int Int (Tp Int))) => ∀ (z_found_404 : (T3 Int Int (Tp Int))), z_found_404 = y402 → altW (fun (P405 : (Option (T3 Int Int (Tp Int))) → Prop) => (((decide (z_found_404.a ≤ v_money)) = true → P405 (none : (Option (T3 Int Int (Tp Int))))) ∧ ((decide (z_found_404.a ≤ v_money)) = false → P405 (some z_found_404)))) (fun (y409 : (Option (T3 Int Int (Tp Int)))) => P y409)))
theorem part_covered_p1 (X : Tx K mg) (C_worst_of : CalD P w K mg base 3 "worst_of" (spD K AnyW W_worst_of) []) {f : Addr} {cdv : Value} {A : Around} {outer : List Env} {s : Shared} {H : Hp} {E : XK} (hr : Room 5 (A.deeper (envOfC "covered" (defScope (topS 43)) s.heap.objs.size f cdv))) :
    ∃ t, PSs (cxOf CX0 P w K mg base ["position", "orders", "moves", "prices", "money", "found"] "covered" (defScope (topS 43)) f cdv A outer s H E).nox ((defBody (topS 43)).drop 3) t ∧ ∀ (W : Wd), ∀ (v_position : (Dc Str Int)) (v_orders : (List (T4 Str Str Int Int))) (v_moves : (List (Dc Str Int))) (v_prices : (Dc Str Int)) (v_money : Int) (P : (Option (T3 Int Int (Tp Int))) → Prop), w_covered_p1 v_position v_orders v_moves v_prices v_money P → Sd W K t [sD (α := (Dc Str Int)) v_position, sD (α := (List (T4 Str Str Int Int))) v_orders, sD (α := (List (Dc Str Int))) v_moves, sD (α := (Dc Str Int)) v_prices, sD (α := Int) v_money, .non] { nx := fun _ _ => False, rt := rtW W P } := by
  exact ⟨_, (pss_cons (ps_set (i := 5) sc_covered.nd (by rfl) (by first | exact .inl rfl | exact .inr rfl) (pe_cd C_worst_of hr (by decide) (by rfl) (pa_cons (pv 0) (pa_cons (pv 1) (pa_cons (pv 2) (pa_cons (pv 3) pa_nil)))))) (pss_cons (ps_ret (pe_ifExp (pt_cmpR op_le (pe_ix ix_tup (pv 5) pe_int (fun _ _ => rfl)) (pv 4) (nomark _)) pe_non (pv 5))) pss_nil)), fun W v_position v_orders v_moves v_prices v_money P h => by
    unfold w_covered_p1 at h
    exact sd_seq (sd_asgZ (i := 5) (Ev.imp (ev_call rfl (ea_cons (ev_var rfl (ea_cons (ev_var rfl (ea_cons (ev_var rfl (ea_cons (ev_var rfl (ea_nil h)))))))))) (fun y402 h403 => fun z_found_404 e410 => sd_seq (sd_retW rfl (ev_alt (h403 z_found_404 e410) (by exact fun h406 => ev_if (et_test (ev_I0 (f := fun i j : Int => (decide (i ≤ j))) (fun h => h) (ev_t30 (fun h => h) (ev_var rfl (ev_var rfl (⟨fun e407 => ev_nonO ((h406.1 e407)), fun e408 => ev_some (ev_var rfl ((h406.2 e408)))⟩))))))) (fun y411 h412 => h412)) (Wle.refl _)))))⟩
def w_covered (a_position : (Dc Str Int)) (a_orders : (List (T4 Str Str Int Int))) (a_moves : (List (Dc Str Int))) (a_prices : (Dc Str Int)) (a_money : Int) (P : (Option (T3 Int Int (Tp Int))) → Prop) : Prop := (w_check_question a_position a_orders a_moves a_prices (fun (y396 : Unit) => (w_check_money a_money (fun (y398 : Unit) => (w_check_priced a_orders a_prices (fun (y400 : Unit) => w_covered_p1 a_position a_orders a_moves a_prices a_money P))))))
abbrev W_covered (g : (Dc Str Int) × (List (T4 Str Str Int Int)) × (List (Dc Str Int)) × (Dc Str Int) × Int × Unit) (P : (Option (T3 Int Int (Tp Int))) → Prop) : Prop := w_covered g.1 g.2.1 g.2.2.1 g.2.2.2.1 g.2.2.2.2.1 P
theorem walk_covered {f : Addr} {fd : FuncData} (X : Tx K mg) (C_check_question : CalD P w K mg base 5 "check_question" (spD K AnyW W_check_question) []) (C_check_money : CalD P w K mg base 2 "check_money" (spD K AnyW W_check_money) []) (C_check_priced : CalD P w K mg base 1 "check_priced" (spD K AnyW W_check_priced) []) (C_worst_of : CalD P w K mg base 3 "worst_of" (spD K AnyW W_worst_of) []) (F : Fun K "covered" "covered" (topS 43) f fd) (hm : mg "covered" = some (.ref f)) (bd : Binds K fd ["position", "orders", "moves", "prices", "money"] []) : CalD P w K mg base 6 "covered" (spD K AnyW W_covered) [] :=
  cal_ok F hm bd sc_covered rfl (by decide) fun cdv A outer s H E hr => by
    obtain ⟨t1, d1, s1⟩ := part_covered_p1 X C_worst_of hr
    exact ⟨_, (pss_cons (ps_expr (pe_cd C_check_question hr (by decide) (by rfl) (pa_cons (pv 0) (pa_cons (pv 1) (pa_cons (pv 2) (pa_cons (pv 3) pa_nil)))))) (pss_cons (ps_expr (pe_cd C_check_money hr (by decide) (by rfl) (pa_cons (pv 4) pa_nil))) (pss_cons (ps_expr (pe_cd C_check_priced hr (by decide) (by rfl) (pa_cons (pv 1) (pa_cons (pv 3) pa_nil)))) d1))), fun W W2 hW g P h => by
      have e1 : W = W2 := hW
      subst e1
      unfold W_covered w_covered at h
      exact sd_seq (sd_drop (Ev.imp (ev_call rfl (ea_cons (ev_var rfl (ea_cons (ev_var rfl (ea_cons (ev_var rfl (ea_cons (ev_var rfl (ea_nil h)))))))))) (fun y396 h397 => sd_seq (sd_drop (Ev.imp (ev_call rfl (ea_cons (ev_var rfl (ea_nil h397)))) (fun y398 h399 => sd_seq (sd_drop (Ev.imp (ev_call rfl (ea_cons (ev_var rfl (ea_cons (ev_var rfl (ea_nil h399)))))) (fun y400 h401 => sd_le (Wle.refl _) (s1 W g.1 g.2.1 g.2.2.1 g.2.2.2.1 g.2.2.2.2.1 _ h401))))))))))⟩

theorem sc_room : FnScope ["position", "orders", "moves", "prices", "money", "side", "contract", "price", "one", "found", "amount", "more"] ["position", "orders", "moves", "prices", "money", "side", "contract", "price"] (defScope (topS 44)) := ⟨rfl, rfl, rfl, by decide +kernel, rfl, by decide +kernel, by decide +kernel⟩
def w_room_p2 (v_position : (Dc Str Int)) (v_orders : (List (T4 Str Str Int Int))) (v_moves : (List (Dc Str Int))) (v_prices : (Dc Str Int)) (v_money : Int) (v_side : Str) (v_contract : Str) (v_price : Int) (v_one : (T4 Str Str Int Int)) (P : (Option Int) → Prop) : Prop := ∀ (z_found_424 : Int), z_found_424 = (0 : Int) → ((-(2 ^ 62) ≤ (1 : Int) ∧ (1 : Int) < 2 ^ 62 ∧ -(2 ^ 62) ≤ ((12 : Int) + (1 : Int)) ∧ ((12 : Int) + (1 : Int)) < 2 ^ 62) ∧ forW (fun (x442 : Int) (s439 : Int) (n443 b444 : Int → Prop) => ((v_orders ++ [(T4.mk v_side v_contract v_price x442)]).length ≤ 100000 ∧ ∀ (z_more_445 : (List (T4 Str Str Int Int))), z_more_445 = (v_orders ++ [(T4.mk v_side v_contract v_price x442)]) → joinW (fun (k451 : Int → Prop) => (w_worst_of v_position z_more_445 v_moves v_prices (fun (y446 : (T3 Int Int (Tp Int))) => (((decide (y446.a ≤ v_money)) = true → ∀ (z_found_452 : Int), z_found_452 = x442 → k451 z_found_452) ∧ ((decide (y446.a ≤ v_money)) = false → k451 s439))))) (fun (s450 : Int) => n443 s450))) (fun (s459 : Int) => P (some s459)) (rng (1 : Int) (Int.toNat (((12 : Int) + (1 : Int)) - (1 : Int)))) z_found_424)
theorem part_room_p2 (X : Tx K mg) (C_worst_of : CalD P w K mg base 3 "worst_of" (spD K AnyW W_worst_of) []) {f : Addr} {cdv : Value} {A : Around} {outer : List Env} {s : Shared} {H : Hp} {E : XK} (hr : Room 5 (A.deeper (envOfC "room" (defScope (topS 44)) s.heap.objs.size f cdv))) :
    ∃ t, PSs (cxOf CX0 P w K mg base ["position", "orders", "moves", "prices", "money", "side", "contract", "price", "one", "found", "amount", "more"] "room" (defScope (topS 44)) f cdv A outer s H E).nox ((defBody (topS 44)).drop 6) t ∧ ∀ (W : Wd), ∀ (v_position : (Dc Str Int)) (v_orders : (List (T4 Str Str Int Int))) (v_moves : (List (Dc Str Int))) (v_prices : (Dc Str Int)) (v_money : Int) (v_side : Str) (v_contract : Str) (v_price : Int) (v_one : (T4 Str Str Int Int)) (P : (Option Int) → Prop), w_room_p2 v_position v_orders v_moves v_prices v_money v_side v_contract v_price v_one P → Sd W K t [sD (α := (Dc Str Int)) v_position, sD (α := (List (T4 Str Str Int Int))) v_orders, sD (α := (List (Dc Str Int))) v_moves, sD (α := (Dc Str Int)) v_prices, sD (α := Int) v_money, sD (α := Str) v_side, sD (α := Str) v_contract, sD (α := Int) v_price, sD (α := (T4 Str Str Int Int)) v_one, .non, .non, .non] { nx := fun _ _ => False, rt := rtW W P } := by
  exact ⟨_, (pss_cons (ps_set (i := 9) sc_room.nd (by rfl) (by first | exact .inl rfl | exact .inr rfl) pe_int) (pss_cons (ps_for PassesOwn.never rfl (pi_range2 (by rfl) X.b_range (pa_cons pe_int (pa_cons (pe_op op_add (pe_glob (v := .int 12) (by rfl) X.c_MOST_AMOUNT.choose_spec ⟨_, rfl⟩) pe_int) pa_nil))) (pg_name (i := 10) sc_room.nd (by rfl) (by first | exact .inl rfl | exact .inr rfl)) (pss_cons (ps_set (i := 11) sc_room.nd (by rfl) (by first | exact .inl rfl | exact .inr rfl) (pe_lst (StX.pa_star (pv 1) (pa_cons (pe_tup (pa_cons (pv 5) (pa_cons (pv 6) (pa_cons (pv 7) (pa_cons (pv 10) pa_nil))))) pa_nil)))) (pss_cons (ps_if (pt_cmpR op_le (pe_ix ix_tup (pe_cd C_worst_of hr (by decide) (by rfl) (pa_cons (pv 0) (pa_cons (pv 11) (pa_cons (pv 2) (pa_cons (pv 3) pa_nil))))) pe_int (fun _ _ => rfl)) (pv 4) (nomark _)) (pss_cons (ps_set (i := 9) sc_room.nd (by rfl) (by first | exact .inl rfl | exact .inr rfl) (pv 10)) pss_nil) pss_nil) pss_nil))) (pss_cons (ps_ret (pv 9)) pss_nil))), fun W v_position v_orders v_moves v_prices v_money v_side v_contract v_price v_one P h => by
    unfold w_room_p2 at h
    exact sd_seq (sd_asgZ (i := 9) (ev_int (fun z_found_424 e462 => sd_wipe [10, 11] (sd_seq (sd_forW (fun (s439 : Int) => [sD (α := (Dc Str Int)) v_position, sD (α := (List (T4 Str Str Int Int))) v_orders, sD (α := (List (Dc Str Int))) v_moves, sD (α := (Dc Str Int)) v_prices, sD (α := Int) v_money, sD (α := Str) v_side, sD (α := Str) v_contract, sD (α := Int) v_price, sD (α := (T4 Str Str Int Int)) v_one, sD (α := Int) s439, .non, .non]) (evi_rng2 (ea_cons (ev_int (ea_cons (ev_I0 (f := fun i j : Int => i + j) (fun h => h) (ev_int (ev_int (ea_nil ⟨(h z_found_424 e462).1, ⟨z_found_424, rfl, (h z_found_424 e462).2⟩⟩)))))))) (by exact fun x442 s439 n443 h460 => tg_name (sd_seq (sd_asgZ (i := 11) (ev_fresh (ef_lst (es_star (ec_ev (ev_var rfl (es_cons (ev_tup4 (ea_cons (ev_var rfl (ea_cons (ev_var rfl (ea_cons (ev_var rfl (ea_cons (ev_var rfl (ea_nil (es_nil (⟨h460.1, fun z_more_445 e458 => sd_joinW W (fun (s450 : Int) => [sD (α := (Dc Str Int)) v_position, sD (α := (List (T4 Str Str Int Int))) v_orders, sD (α := (List (Dc Str Int))) v_moves, sD (α := (Dc Str Int)) v_prices, sD (α := Int) v_money, sD (α := Str) v_side, sD (α := Str) v_contract, sD (α := Int) v_price, sD (α := (T4 Str Str Int Int)) v_one, sD (α := Int) s450, sD (α := Int) x442, sD (α := (List (T4 Str Str Int Int))) z_more_445]) (h460.2 z_more_445 e458) (by exact fun h456 => sd_if (et_test (ev_I0 (f := fun i j : Int => (decide (i ≤ j))) (fun h => h) (ev_t30 (fun h => h) (Ev.imp (ev_call rfl (ea_cons (ev_var rfl (ea_cons (ev_var rfl (ea_cons (ev_var rfl (ea_cons (ev_var rfl (ea_nil h456)))))))))) (fun y446 h447 => ev_var rfl (⟨fun e454 => sd_seq (sd_asgZ (i := 9) (ev_var rfl (fun z_found_452 e453 => sd_nextW [] ⟨z_found_452, rfl, (Wle.refl _), ((h447.1 e454) z_found_452 e453)⟩))), fun e455 => sd_nextW [] ⟨s439, rfl, (Wle.refl _), (h447.2 e455)⟩⟩))))))) (by exact fun s450 h457 => sd_nextW [10, 11] ⟨s450, rfl, (Wle.refl _), h457⟩)⟩))))))))))))))))))))) (by exact fun s459 h461 => sd_seq (sd_retW rfl (ev_some (ev_var rfl (h461))) (Wle.refl _))) (fun _ _ l z => sd_le l z))))))⟩
def w_room_p1 (v_position : (Dc Str Int)) (v_orders : (List (T4 Str Str Int Int))) (v_moves : (List (Dc Str Int))) (v_prices : (Dc Str Int)) (v_money : Int) (v_side : Str) (v_contract : Str) (v_price : Int) (v_one : (T4 Str Str Int Int)) (P : (Option Int) → Prop) : Prop := (w_check_orders [v_one] (fun (y418 : Unit) => (((v_orders ++ [v_one]).length ≤ 100000 ∧ w_check_priced (v_orders ++ [v_one]) v_prices (fun (y420 : Unit) => (w_worst_of v_position v_orders v_moves v_prices (fun (y422 : (T3 Int Int (Tp Int))) => (((decide (v_money < y422.a)) = true → P (none : (Option Int))) ∧ ((decide (v_money < y422.a)) = false → w_room_p2 v_position v_orders v_moves v_prices v_money v_side v_contract v_price v_one P)))))))))
theorem part_room_p1 (X : Tx K mg) (C_check_orders : CalD P w K mg base 4 "check_orders" (spD K AnyW W_check_orders) []) (C_check_priced : CalD P w K mg base 1 "check_priced" (spD K AnyW W_check_priced) []) (C_worst_of : CalD P w K mg base 3 "worst_of" (spD K AnyW W_worst_of) []) {f : Addr} {cdv : Value} {A : Around} {outer : List Env} {s : Shared} {H : Hp} {E : XK} (hr : Room 5 (A.deeper (envOfC "room" (defScope (topS 44)) s.heap.objs.size f cdv))) :
    ∃ t, PSs (cxOf CX0 P w K mg base ["position", "orders", "moves", "prices", "money", "side", "contract", "price", "one", "found", "amount", "more"] "room" (defScope (topS 44)) f cdv A outer s H E).nox ((defBody (topS 44)).drop 3) t ∧ ∀ (W : Wd), ∀ (v_position : (Dc Str Int)) (v_orders : (List (T4 Str Str Int Int))) (v_moves : (List (Dc Str Int))) (v_prices : (Dc Str Int)) (v_money : Int) (v_side : Str) (v_contract : Str) (v_price : Int) (v_one : (T4 Str Str Int Int)) (P : (Option Int) → Prop), w_room_p1 v_position v_orders v_moves v_prices v_money v_side v_contract v_price v_one P → Sd W K t [sD (α := (Dc Str Int)) v_position, sD (α := (List (T4 Str Str Int Int))) v_orders, sD (α := (List (Dc Str Int))) v_moves, sD (α := (Dc Str Int)) v_prices, sD (α := Int) v_money, sD (α := Str) v_side, sD (α := Str) v_contract, sD (α := Int) v_price, sD (α := (T4 Str Str Int Int)) v_one, .non, .non, .non] { nx := fun _ _ => False, rt := rtW W P } := by
  obtain ⟨t2, d2, s2⟩ := part_room_p2 X C_worst_of hr
  exact ⟨_, (pss_cons (ps_expr (pe_cd C_check_orders hr (by decide) (by rfl) (pa_cons (pe_lst (pa_cons (pv 8) pa_nil)) pa_nil))) (pss_cons (ps_expr (pe_cd C_check_priced hr (by decide) (by rfl) (pa_cons (pe_lst (StX.pa_star (pv 1) (pa_cons (pv 8) pa_nil))) (pa_cons (pv 3) pa_nil)))) (pss_cons (ps_if (pt_cmpR op_gt (pe_ix ix_tup (pe_cd C_worst_of hr (by decide) (by rfl) (pa_cons (pv 0) (pa_cons (pv 1) (pa_cons (pv 2) (pa_cons (pv 3) pa_nil))))) pe_int (fun _ _ => rfl)) (pv 4) (nomark _)) (pss_cons (ps_ret pe_non) pss_nil) pss_nil) d2))), fun W v_position v_orders v_moves v_prices v_money v_side v_contract v_price v_one P h => by
    unfold w_room_p1 at h
    exact sd_seq (sd_drop (Ev.imp (ev_call rfl (ea_cons (ev_fresh (ef_lst (es_cons (ev_var rfl (es_nil (⟨Nat.le_of_ble_eq_true rfl, ea_nil h⟩)))))))) (fun y418 h419 => sd_seq (sd_drop (Ev.imp (ev_call rfl (ea_cons (ev_fresh (ef_lst (es_star (ec_ev (ev_var rfl (es_cons (ev_var rfl (es_nil (⟨h419.1, ea_cons (ev_var rfl (ea_nil h419.2))⟩))))))))))) (fun y420 h421 => sd_seq (sd_if (et_test (ev_I0 (f := fun i j : Int => (decide (j < i))) (fun h => h) (ev_t30 (fun h => h) (Ev.imp (ev_call rfl (ea_cons (ev_var rfl (ea_cons (ev_var rfl (ea_cons (ev_var rfl (ea_cons (ev_var rfl (ea_nil h421)))))))))) (fun y422 h423 => ev_var rfl (⟨fun e463 => sd_seq (sd_retW rfl (ev_nonO ((h423.1 e463))) (Wle.refl _)), fun e464 => sd_next (sd_le (Wle.refl _) (s2 W v_position v_orders v_moves v_prices v_money v_side v_contract v_price v_one _ (h423.2 e464)))⟩)))))))))))))⟩
def w_room (a_position : (Dc Str Int)) (a_orders : (List (T4 Str Str Int Int))) (a_moves : (List (Dc Str Int))) (a_prices : (Dc Str Int)) (a_money : Int) (a_side : Str) (a_contract : Str) (a_price : Int) (P : (Option Int) → Prop) : Prop := (w_check_question a_position a_orders a_moves a_prices (fun (y413 : Unit) => (w_check_money a_money (fun (y415 : Unit) => ∀ (z_one_417 : (T4 Str Str Int Int)), z_one_417 = (T4.mk a_side a_contract a_price (1 : Int)) → w_room_p1 a_position a_orders a_moves a_prices a_money a_side a_contract a_price z_one_417 P))))
abbrev W_room (g : (Dc Str Int) × (List (T4 Str Str Int Int)) × (List (Dc Str Int)) × (Dc Str Int) × Int × Str × Str × Int × Unit) (P : (Option Int) → Prop) : Prop := w_room g.1 g.2.1 g.2.2.1 g.2.2.2.1 g.2.2.2.2.1 g.2.2.2.2.2.1 g.2.2.2.2.2.2.1 g.2.2.2.2.2.2.2.1 P
theorem walk_room {f : Addr} {fd : FuncData} (X : Tx K mg) (C_check_question : CalD P w K mg base 5 "check_question" (spD K AnyW W_check_question) []) (C_check_money : CalD P w K mg base 2 "check_money" (spD K AnyW W_check_money) []) (C_check_orders : CalD P w K mg base 4 "check_orders" (spD K AnyW W_check_orders) []) (C_check_priced : CalD P w K mg base 1 "check_priced" (spD K AnyW W_check_priced) []) (C_worst_of : CalD P w K mg base 3 "worst_of" (spD K AnyW W_worst_of) []) (F : Fun K "room" "room" (topS 44) f fd) (hm : mg "room" = some (.ref f)) (bd : Binds K fd ["position", "orders", "moves", "prices", "money", "side", "contract", "price"] []) : CalD P w K mg base 6 "room" (spD K AnyW W_room) [] :=
  cal_ok F hm bd sc_room rfl (by decide) fun cdv A outer s H E hr => by
    obtain ⟨t1, d1, s1⟩ := part_room_p1 X C_check_orders C_check_priced C_worst_of hr
    exact ⟨_, (pss_cons (ps_expr (pe_cd C_check_question hr (by decide) (by rfl) (pa_cons (pv 0) (pa_cons (pv 1) (pa_cons (pv 2) (pa_cons (pv 3) pa_nil)))))) (pss_cons (ps_expr (pe_cd C_check_money hr (by decide) (by rfl) (pa_cons (pv 4) pa_nil))) (pss_cons (ps_set (i := 8) sc_room.nd (by rfl) (by first | exact .inl rfl | exact .inr rfl) (pe_tup (pa_cons (pv 5) (pa_cons (pv 6) (pa_cons (pv 7) (pa_cons pe_int pa_nil)))))) d1))), fun W W2 hW g P h => by
      have e1 : W = W2 := hW
      subst e1
      unfold W_room w_room at h
      exact sd_seq (sd_drop (Ev.imp (ev_call rfl (ea_cons (ev_var rfl (ea_cons (ev_var rfl (ea_cons (ev_var rfl (ea_cons (ev_var rfl (ea_nil h)))))))))) (fun y413 h414 => sd_seq (sd_drop (Ev.imp (ev_call rfl (ea_cons (ev_var rfl (ea_nil h414)))) (fun y415 h416 => sd_seq (sd_asgZ (i := 8) (ev_tup4 (ea_cons (ev_var rfl (ea_cons (ev_var rfl (ea_cons (ev_var rfl (ea_cons (ev_int (ea_nil (fun z_one_417 e465 => sd_le (Wle.refl _) (s1 W g.1 g.2.1 g.2.2.1 g.2.2.2.1 g.2.2.2.2.1 g.2.2.2.2.2.1 g.2.2.2.2.2.2.1 g.2.2.2.2.2.2.2.1 z_one_417 _ (h416 z_one_417 e465))))))))))))))))))))⟩

theorem sc__law_units : FnScope ["state", "lists"] ["state"] (defScope (topS 49)) := ⟨rfl, rfl, rfl, by decide +kernel, rfl, by decide +kernel, by decide +kernel⟩
def w__law_units  (P : (List Str) → Prop) : Prop := ∀ (z_lists_466 : (List (List Str))), z_lists_466 = [[("oil" : Str), ("tin" : Str)], [("a" : Str), ("ab" : Str)], [("wheat" : Str), ("corn" : Str)], [("zzzzzzzz" : Str), ("zzzzzzzy" : Str)]] → (w__law_take (4 : Int) (fun (y469 : Int) => (∃ (x467 : (List Str)), atI z_lists_466 y469 = some x467 ∧ (x467.length < 64 ∧ ∀ z471, List.Perm z471 x467 → sortedS z471 → P z471))))
abbrev W__law_units (g : Stk × Unit) (P : (List Str) → Prop) : Prop := w__law_units  P
theorem walk__law_units {f : Addr} {fd : FuncData} (X : Tx K mg) (C__law_take : CalD P w K mg base 1 "_law_take" (spD K (Stp 1) W__law_take) []) (F : Fun K "_law_units" "_law_units" (topS 49) f fd) (hm : mg "_law_units" = some (.ref f)) (bd : Binds K fd ["state"] []) : CalD P w K mg base 2 "_law_units" (spD K (Stp 1) W__law_units) [] :=
  cal_ok F hm bd sc__law_units rfl (by decide) fun cdv A outer s H E hr => by
    exact ⟨_, (pss_cons (ps_set (i := 1) sc__law_units.nd (by rfl) (by first | exact .inl rfl | exact .inr rfl) (pe_lst (pa_cons (pe_lst (pa_cons pe_str (pa_cons pe_str pa_nil))) (pa_cons (pe_lst (pa_cons pe_str (pa_cons pe_str pa_nil))) (pa_cons (pe_lst (pa_cons pe_str (pa_cons pe_str pa_nil))) (pa_cons (pe_lst (pa_cons pe_str (pa_cons pe_str pa_nil))) pa_nil)))))) (pss_cons (ps_ret (pe_callB cr_sortedS (by rfl) X.b_sorted rfl (pa_cons (pe_ix ix_list (pv 1) (pe_cd C__law_take hr (by decide) (by rfl) (pa_cons (pv 0) (pa_cons pe_int pa_nil))) (fun _ _ => rfl)) pa_nil))) pss_nil)), fun W W2 hW g P h => by
      obtain ⟨r, b, e1, e2, hb⟩ := hW
      subst e1 e2
      unfold W__law_units w__law_units at h
      exact sd_seq (sd_asgZ (i := 1) (ev_fresh (ef_lst (es_cons (ev_fresh (ef_lst (es_cons (ev_str (es_cons (ev_str (es_nil (⟨Nat.le_of_ble_eq_true rfl, es_cons (ev_fresh (ef_lst (es_cons (ev_str (es_cons (ev_str (es_nil (⟨Nat.le_of_ble_eq_true rfl, es_cons (ev_fresh (ef_lst (es_cons (ev_str (es_cons (ev_str (es_nil (⟨Nat.le_of_ble_eq_true rfl, es_cons (ev_fresh (ef_lst (es_cons (ev_str (es_cons (ev_str (es_nil (⟨Nat.le_of_ble_eq_true rfl, es_nil (⟨Nat.le_of_ble_eq_true rfl, fun z_lists_466 e474 => sd_seq (sd_retW rfl (ev_fresh (ef_sortedS (ec_ev (ev_ixL (fun h => h) (ec_ev (ev_var rfl (Ev.imp (ev_call (stp (by omega)) (ea_tok rfl (ea_cons (ev_int (ea_nil (h z_lists_466 e474)))))) (fun y469 h470 => Exists.elim h470 fun x467 h468 => ⟨x467, h468.1, ⟨h468.2.1, fun z471 h472 h473 => (h468.2.2 z471 h472 h473)⟩⟩)))))))) (stle (by omega)))⟩)⟩))))))))⟩))))))))⟩))))))))⟩))))))))))))⟩

theorem sc__law_number : FnScope ["state", "size", "found", "k"] ["state"] (defScope (topS 50)) := ⟨rfl, rfl, rfl, by decide +kernel, rfl, by decide +kernel, by decide +kernel⟩
def w__law_number  (P : Int → Prop) : Prop := (CPow (10 : Int) (6 : Int) ∧ (CPow (10 : Int) (30 : Int) ∧ (w__law_take (5 : Int) (fun (y477 : Int) => (∃ (x475 : Int), atI [(3 : Int), (13 : Int), (13 : Int), ((10 : Int) ^ (Int.toNat (6 : Int))), ((10 : Int) ^ (Int.toNat (30 : Int)))] y477 = some x475 ∧ ∀ (z_size_479 : Int), z_size_479 = x475 → ∀ (z_found_480 : Int), z_found_480 = (0 : Int) → (CPow (10 : Int) (6 : Int) ∧ (CMul (3 : Int) (if (decide (((10 : Int) ^ (Int.toNat (6 : Int))) < z_size_479)) then 1 else 0) ∧ ((-(2 ^ 62) ≤ ((1 : Int) + ((3 : Int) * (if (decide (((10 : Int) ^ (Int.toNat (6 : Int))) < z_size_479)) then 1 else 0))) ∧ ((1 : Int) + ((3 : Int) * (if (decide (((10 : Int) ^ (Int.toNat (6 : Int))) < z_size_479)) then 1 else 0))) < 2 ^ 62) ∧ ((rng 0 (Int.toNat ((1 : Int) + ((3 : Int) * (if (decide (((10 : Int) ^ (Int.toNat (6 : Int))) < z_size_479)) then 1 else 0))))).length ≤ 100 ∧ forW (fun (x488 : Int) (s485 : Int) (n489 b490 : Int → Prop) => (CPow (10 : Int) (9 : Int) ∧ (CMul s485 ((10 : Int) ^ (Int.toNat (9 : Int))) ∧ ((CMul (2 : Int) z_size_479 ∧ (CPow (10 : Int) (9 : Int) ∧ w__law_take (if ((10 : Int) ^ (Int.toNat (9 : Int))) < (((2 : Int) * z_size_479) + (1 : Int)) then ((10 : Int) ^ (Int.toNat (9 : Int))) else (((2 : Int) * z_size_479) + (1 : Int))) (fun (y491 : Int) => ∀ (z_found_493 : Int), z_found_493 = ((s485 * ((10 : Int) ^ (Int.toNat (9 : Int)))) + y491) → n489 z_found_493))))))) (fun (s495 : Int) => (CMul (2 : Int) z_size_479 ∧ (0 < (((2 : Int) * z_size_479) + (1 : Int)) ∧ P ((s495 % (((2 : Int) * z_size_479) + (1 : Int))) - z_size_479)))) (rng 0 (Int.toNat ((1 : Int) + ((3 : Int) * (if (decide (((10 : Int) ^ (Int.toNat (6 : Int))) < z_size_479)) then 1 else 0))))) z_found_480)))))))))
abbrev W__law_number (g : Stk × Unit) (P : Int → Prop) : Prop := w__law_number  P
theorem walk__law_number {f : Addr} {fd : FuncData} (X : Tx K mg) (C__law_take : CalD P w K mg base 1 "_law_take" (spD K (Stp 1) W__law_take) []) (F : Fun K "_law_number" "_law_number" (topS 50) f fd) (hm : mg "_law_number" = some (.ref f)) (bd : Binds K fd ["state"] []) : CalD P w K mg base 2 "_law_number" (spD K (Stp 101) W__law_number) [] :=
  cal_ok F hm bd sc__law_number rfl (by decide) fun cdv A outer s H E hr => by
    exact ⟨_, (pss_cons (ps_set (i := 1) sc__law_number.nd (by rfl) (by first | exact .inl rfl | exact .inr rfl) (pe_ix ix_list (pe_lst (pa_cons pe_int (pa_cons pe_int (pa_cons pe_int (pa_cons (pe_op op_pow pe_int pe_int) (pa_cons (pe_op op_pow pe_int pe_int) pa_nil)))))) (pe_cd C__law_take hr (by decide) (by rfl) (pa_cons (pv 0) (pa_cons pe_int pa_nil))) (fun _ _ => rfl))) (pss_cons (ps_set (i := 2) sc__law_number.nd (by rfl) (by first | exact .inl rfl | exact .inr rfl) pe_int) (pss_cons (ps_for PassesOwn.never rfl (pi_range1 (by rfl) X.b_range (pa_cons (pe_op op_add pe_int (pe_op op_mul pe_int (pe_callTy call_int1 (by rfl) X.b_int rfl (pa_cons (pe_cmpR op_gt (pv 1) (pe_op op_pow pe_int pe_int) (nomark _)) pa_nil)))) pa_nil)) (pg_name (i := 3) sc__law_number.nd (by rfl) (by first | exact .inl rfl | exact .inr rfl)) (pss_cons (ps_set (i := 2) sc__law_number.nd (by rfl) (by first | exact .inl rfl | exact .inr rfl) (pe_op op_add (pe_op op_mul (pv 2) (pe_op op_pow pe_int pe_int)) (pe_cd C__law_take hr (by decide) (by rfl) (pa_cons (pv 0) (pa_cons (pe_callB (call_min2 rfl) (by rfl) X.b_min rfl (pa_cons (pe_op op_add (pe_op op_mul pe_int (pv 1)) pe_int) (pa_cons (pe_op op_pow pe_int pe_int) pa_nil))) pa_nil))))) pss_nil)) (pss_cons (ps_ret (pe_op op_sub (pe_op op_mod (pv 2) (pe_op op_add (pe_op op_mul pe_int (pv 1)) pe_int)) (pv 1))) pss_nil)))), fun W W2 hW g P h => by
      obtain ⟨r, b, e1, e2, hb⟩ := hW
      subst e1 e2
      unfold W__law_number w__law_number at h
      exact sd_seq (sd_asgZ (i := 1) (ev_ixL (fun h => h) (ec_ev (ev_fresh (ef_lst (es_cons (ev_int (es_cons (ev_int (es_cons (ev_int (es_cons (ev_I (f := fun i j : Int => i ^ j.toNat) (C := CPow) (fun h => h) (ev_int (ev_int (⟨h.1, es_cons (ev_I (f := fun i j : Int => i ^ j.toNat) (C := CPow) (fun h => h) (ev_int (ev_int (⟨h.2.1, es_nil (⟨Nat.le_of_ble_eq_true rfl, Ev.imp (ev_call (stp (by omega)) (ea_tok rfl (ea_cons (ev_int (ea_nil h.2.2))))) (fun y477 h478 => Exists.elim h478 fun x475 h476 => ⟨x475, h476.1, fun z_size_479 e499 => sd_seq (sd_asgZ (i := 2) (ev_int (fun z_found_480 e498 => sd_wipe [3] (sd_seq (sd_forWs (N := 100) (fun i486 => Wst r (b + 1 + i486 * 1)) (Wst r (b + 101)) (fun (s485 : Int) => [.raw (.ref r), sD (α := Int) z_size_479, sD (α := Int) s485, .non]) (evi_wk (stle (by omega)) (evi_rng1 (ea_cons (ev_I0 (f := fun i j : Int => i + j) (fun h => h) (ev_int (ev_I (f := fun i j : Int => i * j) (C := CMul) (fun h => h) (ev_int (ev_btoint (ev_I0 (f := fun i j : Int => (decide (j < i))) (fun h => h) (ev_var rfl (ev_I (f := fun i j : Int => i ^ j.toNat) (C := CPow) (fun h => h) (ev_int (ev_int (⟨((h476.2 z_size_479 e499) z_found_480 e498).1, ⟨((h476.2 z_size_479 e499) z_found_480 e498).2.1, ea_nil ⟨((h476.2 z_size_479 e499) z_found_480 e498).2.2.1, ⟨z_found_480, rfl, ((h476.2 z_size_479 e499) z_found_480 e498).2.2.2.1, ((h476.2 z_size_479 e499) z_found_480 e498).2.2.2.2⟩⟩⟩⟩)))))))))))))) (by exact fun i486 x488 s485 n489 h487 h496 => tg_name (sd_seq (sd_asgZ (i := 2) (ev_I0 (f := fun i j : Int => i + j) (fun h => h) (ev_I (f := fun i j : Int => i * j) (C := CMul) (fun h => h) (ev_var rfl (ev_I (f := fun i j : Int => i ^ j.toNat) (C := CPow) (fun h => h) (ev_int (ev_int (⟨h496.1, ⟨h496.2.1, Ev.imp (ev_call (stp (by omega)) (ea_tok rfl (ea_cons (ev_min2 (ev_I0 (f := fun i j : Int => i + j) (fun h => h) (ev_I (f := fun i j : Int => i * j) (C := CMul) (fun h => h) (ev_int (ev_var rfl (⟨h496.2.2.1, ev_int (ev_I (f := fun i j : Int => i ^ j.toNat) (C := CPow) (fun h => h) (ev_int (ev_int (⟨h496.2.2.2.1, ea_nil h496.2.2.2.2⟩))))⟩))))))))) (fun y491 h492 => fun z_found_493 e494 => sd_nextW [3] ⟨z_found_493, rfl, (stle (by omega)), (h492 z_found_493 e494)⟩)⟩⟩)))))))))) (by exact fun s495 h497 => sd_seq (sd_retW rfl (ev_I0 (f := fun i j : Int => i - j) (fun h => h) (ev_I (f := fun i j : Int => i % j) (C := (fun _ j => 0 < j)) (fun h => h) (ev_var rfl (ev_I0 (f := fun i j : Int => i + j) (fun h => h) (ev_I (f := fun i j : Int => i * j) (C := CMul) (fun h => h) (ev_int (ev_var rfl (⟨h497.1, ev_int (⟨h497.2.1, ev_var rfl (h497.2.2)⟩)⟩)))))))) (stle (by omega)))) (fun _ _ l z => sd_le l z) rfl (fun i486 h487 => (stle (by omega))))))))⟩)⟩)⟩))))⟩))))))))))))))))⟩

theorem sc__law_position : FnScope ["state", "units", "found", "unit", "number"] ["state", "units"] (defScope (topS 51)) := ⟨rfl, rfl, rfl, by decide +kernel, rfl, by decide +kernel, by decide +kernel⟩
def w__law_position (a_units : (List Str)) (P : (Dc Str Int) → Prop) : Prop := ∀ (z_found_500 : (List (Str × Int))), z_found_500 = ([] : List (Str × Int)) → (w__law_mixed a_units (fun (y501 : (List Str)) => (y501.length ≤ 100 ∧ forW (fun (x520 : Str) (s517 : (List (Str × Int))) (n521 b522 : (List (Str × Int)) → Prop) => (w__law_number  (fun (y523 : Int) => ∀ (z_number_525 : Int), z_number_525 = y523 → joinW (fun (k529 : (List (Str × Int)) → Prop) => (((!decide (z_number_525 = (0 : Int))) = true → s517.length < 100000 ∧ ∀ (z_found_530 : List (Str × Int)), z_found_530 = put s517 x520 z_number_525 → k529 z_found_530) ∧ ((!decide (z_number_525 = (0 : Int))) = false → k529 s517))) (fun (s528 : (List (Str × Int))) => n521 s528)))) (fun (s537 : (List (Str × Int))) => P (Dc.mk s537)) y501 z_found_500)))
abbrev W__law_position (g : Stk × (List Str) × Unit) (P : (Dc Str Int) → Prop) : Prop := w__law_position g.2.1 P
theorem walk__law_position {f : Addr} {fd : FuncData} (X : Tx K mg) (C__law_mixed_S : CalD P w K mg base 2 "_law_mixed" (spD K (Stp 100) (W__law_mixed (α := Str))) []) (C__law_number : CalD P w K mg base 2 "_law_number" (spD K (Stp 101) W__law_number) []) (F : Fun K "_law_position" "_law_position" (topS 51) f fd) (hm : mg "_law_position" = some (.ref f)) (bd : Binds K fd ["state", "units"] []) : CalD P w K mg base 3 "_law_position" (spD K (Stp 10200) W__law_position) [] :=
  cal_ok F hm bd sc__law_position rfl (by decide) fun cdv A outer s H E hr => by
    exact ⟨_, (pss_cons (ps_set (i := 2) sc__law_position.nd (by rfl) (by first | exact .inl rfl | exact .inr rfl) pe_dnewK) (pss_cons (ps_for PassesOwn.never rfl (pi_list (pe_cd C__law_mixed_S hr (by decide) (by rfl) (pa_cons (pv 0) (pa_cons (pv 1) pa_nil)))) (pg_name (i := 3) sc__law_position.nd (by rfl) (by first | exact .inl rfl | exact .inr rfl)) (pss_cons (ps_set (i := 4) sc__law_position.nd (by rfl) (by first | exact .inl rfl | exact .inr rfl) (pe_cd C__law_number hr (by decide) (by rfl) (pa_cons (pv 0) pa_nil))) (pss_cons (ps_if (pt_cmpR op_ne (pv 4) pe_int (nomark _)) (pss_cons (ps_dput (hu_of hr) (pv 2) (pv 3) (pv 4) (by rfl)) pss_nil) pss_nil) pss_nil))) (pss_cons (ps_ret (pv 2)) pss_nil))), fun W W2 hW g P h => by
      obtain ⟨r, b, e1, e2, hb⟩ := hW
      subst e1 e2
      unfold W__law_position w__law_position at h
      exact sd_seq (sd_asgMZ (i := 2) (eg_new (fun z_found_500 e540 => sd_wipe [3, 4] (sd_seq (sd_forWs (N := 100) (fun i518 => Wst r (b + 100 + i518 * 101)) (Wst r (b + 10200)) (fun (s517 : (List (Str × Int))) => [.raw (.ref r), sD (α := (List Str)) g.2.1, sM (κ := Str) (α := Int) s517, .non, .non]) (evi_wk (stle (by omega)) (evi_list (Ev.imp (ev_call (stp (by omega)) (ea_tok rfl (ea_cons (ev_var rfl (ea_nil (h z_found_500 e540)))))) (fun y501 h502 => ⟨z_found_500, rfl, h502.1, h502.2⟩)))) (by exact fun i518 x520 s517 n521 h519 h538 => tg_name (sd_seq (sd_asgZ (i := 4) (Ev.imp (ev_call (stp (by omega)) (ea_tok rfl (ea_nil h538))) (fun y523 h524 => fun z_number_525 e536 => sd_joinW (Wst r (b + 100 + i518 * 101 + 101)) (fun (s528 : (List (Str × Int))) => [.raw (.ref r), sD (α := (List Str)) g.2.1, sM (κ := Str) (α := Int) s528, sD (α := Str) x520, sD (α := Int) z_number_525]) (h524 z_number_525 e536) (by exact fun h534 => sd_if (et_test (ev_neI (fun h => h) (ev_var rfl (ev_int (⟨fun e532 => sd_seq (sd_putZ (i := 2) rfl (ev_var rfl (ev_var rfl (⟨(h534.1 e532).1, fun z_found_530 e531 => sd_nextW [] ⟨z_found_530, rfl, (stle (by omega)), ((h534.1 e532).2 z_found_530 e531)⟩⟩)))), fun e533 => sd_nextW [] ⟨s517, rfl, (stle (by omega)), (h534.2 e533)⟩⟩)))))) (by exact fun s528 h535 => sd_nextW [3, 4] ⟨s528, rfl, (stle (by omega)), h535⟩)))))) (by exact fun s537 h539 => sd_fixM (i := 2) rfl (sd_seq (sd_retW rfl (ev_var rfl (h539)) (stle (by omega))))) (fun _ _ l z => sd_le l z) rfl (fun i518 h519 => (stle (by omega))))))))⟩

theorem sc__law_moves : FnScope ["state", "units", "most", "found", "turn", "shift", "unit"] ["state", "units", "most"] (defScope (topS 52)) := ⟨rfl, rfl, rfl, by decide +kernel, rfl, by decide +kernel, by decide +kernel⟩
def w__law_moves (a_units : (List Str)) (a_most : Int) (P : (List (Dc Str Int)) → Prop) : Prop := ∀ (z_found_541 : (List (Dc Str Int))), z_found_541 = [(Dc.mk ([] : List (Str × Int)))] → (w__law_take a_most (fun (y542 : Int) => ((-(2 ^ 62) ≤ y542 ∧ y542 < 2 ^ 62) ∧ ((rng 0 (Int.toNat y542)).length ≤ 100 ∧ forW (fun (x594 : Int) (s591 : (List (Dc Str Int))) (n595 b596 : (List (Dc Str Int)) → Prop) => ∀ (z_shift_597 : (List (Str × Int))), z_shift_597 = ([] : List (Str × Int)) → (w__law_mixed a_units (fun (y598 : (List Str)) => (y598.length ≤ 100 ∧ forW (fun (x619 : Str) (s616 : (List (Str × Int))) (n620 b621 : (List (Str × Int)) → Prop) => joinW (fun (k629 : (List (Str × Int)) → Prop) => (w__law_take (3 : Int) (fun (y622 : Int) => (((decide ((0 : Int) < y622)) = true → (w__law_take (81 : Int) (fun (y630 : Int) => s616.length < 100000 ∧ ∀ (z_shift_632 : List (Str × Int)), z_shift_632 = put s616 x619 (y630 - (40 : Int)) → k629 z_shift_632))) ∧ ((decide ((0 : Int) < y622)) = false → k629 s616))))) (fun (s628 : (List (Str × Int))) => n620 s628)) (fun (s638 : (List (Str × Int))) => s591.length < 100000 ∧ ∀ (z_found_639 : (List (Dc Str Int))), z_found_639 = s591 ++ [(Dc.mk s638)] → n595 z_found_639) y598 z_shift_597)))) (fun (s644 : (List (Dc Str Int))) => P s644) (rng 0 (Int.toNat y542)) z_found_541))))
abbrev W__law_moves (g : Stk × (List Str) × Int × Unit) (P : (List (Dc Str Int)) → Prop) : Prop := w__law_moves g.2.1 g.2.2.1 P
theorem walk__law_moves {f : Addr} {fd : FuncData} (X : Tx K mg) (C__law_take : CalD P w K mg base 1 "_law_take" (spD K (Stp 1) W__law_take) []) (C__law_mixed_S : CalD P w K mg base 2 "_law_mixed" (spD K (Stp 100) (W__law_mixed (α := Str))) []) (F : Fun K "_law_moves" "_law_moves" (topS 52) f fd) (hm : mg "_law_moves" = some (.ref f)) (bd : Binds K fd ["state", "units", "most"] []) : CalD P w K mg base 3 "_law_moves" (spD K (Stp 30001) W__law_moves) [] :=
  cal_ok F hm bd sc__law_moves rfl (by decide) fun cdv A outer s H E hr => by
    exact ⟨_, (pss_cons (ps_set (i := 3) sc__law_moves.nd (by rfl) (by first | exact .inl rfl | exact .inr rfl) (pe_lst (pa_cons pe_dnewK pa_nil))) (pss_cons (ps_for PassesOwn.never rfl (pi_range1 (by rfl) X.b_range (pa_cons (pe_cd C__law_take hr (by decide) (by rfl) (pa_cons (pv 0) (pa_cons (pv 2) pa_nil))) pa_nil)) (pg_name (i := 4) sc__law_moves.nd (by rfl) (by first | exact .inl rfl | exact .inr rfl)) (pss_cons (ps_set (i := 5) sc__law_moves.nd (by rfl) (by first | exact .inl rfl | exact .inr rfl) pe_dnewK) (pss_cons (ps_for PassesOwn.never rfl (pi_list (pe_cd C__law_mixed_S hr (by decide) (by rfl) (pa_cons (pv 0) (pa_cons (pv 1) pa_nil)))) (pg_name (i := 6) sc__law_moves.nd (by rfl) (by first | exact .inl rfl | exact .inr rfl)) (pss_cons (ps_if (pt_cmpR op_gt (pe_cd C__law_take hr (by decide) (by rfl) (pa_cons (pv 0) (pa_cons pe_int pa_nil))) pe_int (nomark _)) (pss_cons (ps_dput (hu_of hr) (pv 5) (pv 6) (pe_op op_sub (pe_cd C__law_take hr (by decide) (by rfl) (pa_cons (pv 0) (pa_cons pe_int pa_nil))) pe_int) (by rfl)) pss_nil) pss_nil) pss_nil)) (pss_cons (ps_expr (pe_bm PySem.F.plainAttrs_list PySem.F.slot_list_append PySem.F.type_list_append mt_append (pv 3) (pa_cons (pv 5) pa_nil))) pss_nil)))) (pss_cons (ps_ret (pv 3)) pss_nil))), fun W W2 hW g P h => by
      obtain ⟨r, b, e1, e2, hb⟩ := hW
      subst e1 e2
      unfold W__law_moves w__law_moves at h
      exact sd_seq (sd_asgLZ (i := 3) (ef_lst (es_cons (evd_fresh (eg_new (es_nil (⟨Nat.le_of_ble_eq_true rfl, fun z_found_541 e647 => sd_wipe [4, 5] (sd_seq (sd_forWs (N := 100) (fun i592 => Wst r (b + 1 + i592 * 300)) (Wst r (b + 30001)) (fun (s591 : (List (Dc Str Int))) => [.raw (.ref r), sD (α := (List Str)) g.2.1, sD (α := Int) g.2.2.1, sL (α := (Dc Str Int)) s591, .non, .non, .non]) (evi_wk (stle (by omega)) (evi_rng1 (ea_cons (Ev.imp (ev_call (stp (by omega)) (ea_tok rfl (ea_cons (ev_var rfl (ea_nil (h z_found_541 e647)))))) (fun y542 h543 => ea_nil ⟨h543.1, ⟨z_found_541, rfl, h543.2.1, h543.2.2⟩⟩))))) (by exact fun i592 x594 s591 n595 h593 h645 => tg_name (sd_seq (sd_asgMZ (i := 5) (eg_new (fun z_shift_597 e643 => sd_wipe [6] (sd_seq (sd_forWs (N := 100) (fun i617 => Wst r (b + 1 + i592 * 300 + 100 + i617 * 2)) (Wst r (b + 1 + i592 * 300 + 300)) (fun (s616 : (List (Str × Int))) => [.raw (.ref r), sD (α := (List Str)) g.2.1, sD (α := Int) g.2.2.1, sL (α := (Dc Str Int)) s591, sD (α := Int) x594, sM (κ := Str) (α := Int) s616, .non]) (evi_wk (stle (by omega)) (evi_list (Ev.imp (ev_call (stp (by omega)) (ea_tok rfl (ea_cons (ev_var rfl (ea_nil (h645 z_shift_597 e643)))))) (fun y598 h599 => ⟨z_shift_597, rfl, h599.1, h599.2⟩)))) (by exact fun i617 x619 s616 n620 h618 h641 => tg_name (sd_joinW (Wst r (b + 1 + i592 * 300 + 100 + i617 * 2 + 2)) (fun (s628 : (List (Str × Int))) => [.raw (.ref r), sD (α := (List Str)) g.2.1, sD (α := Int) g.2.2.1, sL (α := (Dc Str Int)) s591, sD (α := Int) x594, sM (κ := Str) (α := Int) s628, sD (α := Str) x619]) h641 (by exact fun h636 => sd_if (et_test (ev_I0 (f := fun i j : Int => (decide (j < i))) (fun h => h) (Ev.imp (ev_call (stp (by omega)) (ea_tok rfl (ea_cons (ev_int (ea_nil h636))))) (fun y622 h623 => ev_int (⟨fun e634 => sd_seq (sd_putZ (i := 5) rfl (ev_I0 (f := fun i j : Int => i - j) (fun h => h) (Ev.imp (ev_call (stp (by omega)) (ea_tok rfl (ea_cons (ev_int (ea_nil (h623.1 e634)))))) (fun y630 h631 => ev_int (ev_var rfl (⟨h631.1, fun z_shift_632 e633 => sd_nextW [] ⟨z_shift_632, rfl, (stle (by omega)), (h631.2 z_shift_632 e633)⟩⟩)))))), fun e635 => sd_nextW [] ⟨s616, rfl, (stle (by omega)), (h623.2 e635)⟩⟩)))))) (by exact fun s628 h637 => sd_nextW [6] ⟨s628, rfl, (stle (by omega)), h637⟩))) (by exact fun s638 h642 => sd_fixM (i := 5) rfl (sd_seq (sd_appendZ (i := 3) rfl (ev_var rfl (⟨h642.1, fun z_found_639 e640 => sd_nextW [4, 5] ⟨z_found_639, rfl, (stle (by omega)), (h642.2 z_found_639 e640)⟩⟩))))) (fun _ _ l z => sd_le l z) rfl (fun i617 h618 => (stle (by omega)))))))))) (by exact fun s644 h646 => sd_fix (i := 3) rfl (sd_seq (sd_retW rfl (ev_var rfl (h646)) (stle (by omega))))) (fun _ _ l z => sd_le l z) rfl (fun i592 h593 => (stle (by omega)))))⟩)))))))⟩

theorem sc__law_prices : FnScope ["state", "units", "unit"] ["state", "units"] (defScope (topS 53)) := ⟨rfl, rfl, rfl, by decide +kernel, rfl, by decide +kernel, by decide +kernel⟩
def w__law_prices (a_units : (List Str)) (P : (Dc Str Int) → Prop) : Prop := (w__law_mixed a_units (fun (y648 : (List Str)) => (y648.length ≤ 100 ∧ compW (fun (x650 : Str) (R651 : Option (Str × Int) → Prop) => (w__law_take (99 : Int) (fun (y653 : Int) => R651 (some (x650, ((1 : Int) + y653)))))) (fun (y657 : (List (Str × Int))) => P (Dc.mk (puts [] y657))) y648 [])))
abbrev W__law_prices (g : Stk × (List Str) × Unit) (P : (Dc Str Int) → Prop) : Prop := w__law_prices g.2.1 P
theorem walk__law_prices {f : Addr} {fd : FuncData} (X : Tx K mg) (C__law_mixed_S : CalD P w K mg base 2 "_law_mixed" (spD K (Stp 100) (W__law_mixed (α := Str))) []) (C__law_take : CalD P w K mg base 1 "_law_take" (spD K (Stp 1) W__law_take) []) (F : Fun K "_law_prices" "_law_prices" (topS 53) f fd) (hm : mg "_law_prices" = some (.ref f)) (bd : Binds K fd ["state", "units"] []) : CalD P w K mg base 3 "_law_prices" (spD K (Stp 200) W__law_prices) [] :=
  cal_ok F hm bd sc__law_prices rfl (by decide) fun cdv A outer s H E hr => by
    exact ⟨_, (pss_cons (ps_ret (pe_callTy (call_dictP rfl) (by rfl) X.b_dict rfl (pa_cons (pe_lc rfl sc__law_prices.nd (pi_list (pe_cd C__law_mixed_S hr (by decide) (by rfl) (pa_cons (pv 0) (pa_cons (pv 1) pa_nil)))) (blkOk_by (N := ["state", "units", "unit"]) (sc := defScope (topS 53)) (own := [("unit", 2)]) (by decide +kernel)) (fun _ _ _ _ _ => (pg_name (i := 2) sc__law_prices.nd (by rfl) (by first | exact .inl rfl | exact .inr rfl))) (fun _ _ _ _ _ => pts_nil) (fun _ _ _ _ _ => (pe_tup (pa_cons (pv 2) (pa_cons (pe_op op_add pe_int (pe_cd C__law_take hr (by decide) (by rfl) (pa_cons (pv 0) (pa_cons pe_int pa_nil)))) pa_nil))))) pa_nil))) pss_nil), fun W W2 hW g P h => by
      obtain ⟨r, b, e1, e2, hb⟩ := hW
      subst e1 e2
      unfold W__law_prices w__law_prices at h
      exact sd_seq (sd_retW rfl (evd_fresh (eg_pairs (ec_ev (ev_fresh (EvF.imp (ef_lcWs (N := 100) (fun i655 => Wst r (b + 100 + i655 * 1)) (Wst r (b + 200)) (evio_wk (stle (by omega)) (evio (evi_list (Ev.imp (ev_call (stp (by omega)) (ea_tok rfl (ea_cons (ev_var rfl (ea_nil h))))) (fun y648 h649 => h649))))) (by exact fun i655 x650 R651 h656 h652 => bd_yes (tgc_name (ev_wk (stle (by omega)) (ev_tup2 (ea_cons (ev_var rfl (ea_cons (ev_I0 (f := fun i j : Int => i + j) (fun h => h) (ev_int (Ev.imp (ev_call (stp (by omega)) (ea_tok rfl (ea_cons (ev_int (ea_nil h652))))) (fun y653 h654 => ea_nil (h654))))))))))) (stle (by omega))) rfl (fun i655 h656 => (stle (by omega)))) (fun y657 h660 => h660)))))) (stle (by omega)))⟩

theorem sc__law_orders : FnScope ["state", "units", "most", "found", "turn", "unit", "amount"] ["state", "units", "most"] (defScope (topS 54)) := ⟨rfl, rfl, rfl, by decide +kernel, rfl, by decide +kernel, by decide +kernel⟩
def w__law_orders (a_units : (List Str)) (a_most : Int) (P : (List (T4 Str Str Int Int)) → Prop) : Prop := ∀ (z_found_661 : (List (T4 Str Str Int Int))), z_found_661 = ([] : List (T4 Str Str Int Int)) → (w__law_take (a_most + (1 : Int)) (fun (y662 : Int) => ((-(2 ^ 62) ≤ y662 ∧ y662 < 2 ^ 62) ∧ ((rng 0 (Int.toNat y662)).length ≤ 100 ∧ forW (fun (x689 : Int) (s686 : (List (T4 Str Str Int Int))) (n690 b691 : (List (T4 Str Str Int Int)) → Prop) => (w__law_take (a_units.length : Int) (fun (y694 : Int) => (∃ (x692 : Str), atI a_units y694 = some x692 ∧ ∀ (z_unit_696 : Str), z_unit_696 = x692 → ((w__law_take (2 : Int) (fun (y699 : Int) => (∃ (x697 : Int), atI [(12 : Int), (99 : Int)] y699 = some x697 ∧ w__law_take x697 (fun (y701 : Int) => ∀ (z_amount_703 : Int), z_amount_703 = ((1 : Int) + y701) → (w__law_take (2 : Int) (fun (y706 : Int) => (∃ (x704 : Str), atI [("buy" : Str), ("sell" : Str)] y706 = some x704 ∧ (w__law_take (99 : Int) (fun (y708 : Int) => s686.length < 100000 ∧ ∀ (z_found_710 : (List (T4 Str Str Int Int))), z_found_710 = s686 ++ [(T4.mk x704 z_unit_696 ((1 : Int) + y708) z_amount_703)] → n690 z_found_710)))))))))))))) (fun (s714 : (List (T4 Str Str Int Int))) => P s714) (rng 0 (Int.toNat y662)) z_found_661))))
abbrev W__law_orders (g : Stk × (List Str) × Int × Unit) (P : (List (T4 Str Str Int Int)) → Prop) : Prop := w__law_orders g.2.1 g.2.2.1 P
theorem walk__law_orders {f : Addr} {fd : FuncData} (X : Tx K mg) (C__law_take : CalD P w K mg base 1 "_law_take" (spD K (Stp 1) W__law_take) []) (F : Fun K "_law_orders" "_law_orders" (topS 54) f fd) (hm : mg "_law_orders" = some (.ref f)) (bd : Binds K fd ["state", "units", "most"] []) : CalD P w K mg base 2 "_law_orders" (spD K (Stp 501) W__law_orders) [] :=
  cal_ok F hm bd sc__law_orders rfl (by decide) fun cdv A outer s H E hr => by
    exact ⟨_, (pss_cons (ps_set (i := 3) sc__law_orders.nd (by rfl) (by first | exact .inl rfl | exact .inr rfl) (pe_lst pa_nil)) (pss_cons (ps_for PassesOwn.never rfl (pi_range1 (by rfl) X.b_range (pa_cons (pe_cd C__law_take hr (by decide) (by rfl) (pa_cons (pv 0) (pa_cons (pe_op op_add (pv 2) pe_int) pa_nil))) pa_nil)) (pg_name (i := 4) sc__law_orders.nd (by rfl) (by first | exact .inl rfl | exact .inr rfl)) (pss_cons (ps_set (i := 5) sc__law_orders.nd (by rfl) (by first | exact .inl rfl | exact .inr rfl) (pe_ix ix_list (pv 1) (pe_cd C__law_take hr (by decide) (by rfl) (pa_cons (pv 0) (pa_cons (pe_callB call_len_seq (by rfl) X.b_len rfl (pa_cons (pv 1) pa_nil)) pa_nil))) (fun _ _ => rfl))) (pss_cons (ps_set (i := 6) sc__law_orders.nd (by rfl) (by first | exact .inl rfl | exact .inr rfl) (pe_op op_add pe_int (pe_cd C__law_take hr (by decide) (by rfl) (pa_cons (pv 0) (pa_cons (pe_ix ix_list (pe_lst (pa_cons pe_int (pa_cons pe_int pa_nil))) (pe_cd C__law_take hr (by decide) (by rfl) (pa_cons (pv 0) (pa_cons pe_int pa_nil))) (fun _ _ => rfl)) pa_nil))))) (pss_cons (ps_expr (pe_bm PySem.F.plainAttrs_list PySem.F.slot_list_append PySem.F.type_list_append mt_append (pv 3) (pa_cons (pe_tup (pa_cons (pe_ix ix_list (pe_lst (pa_cons pe_str (pa_cons pe_str pa_nil))) (pe_cd C__law_take hr (by decide) (by rfl) (pa_cons (pv 0) (pa_cons pe_int pa_nil))) (fun _ _ => rfl)) (pa_cons (pv 5) (pa_cons (pe_op op_add pe_int (pe_cd C__law_take hr (by decide) (by rfl) (pa_cons (pv 0) (pa_cons pe_int pa_nil)))) (pa_cons (pv 6) pa_nil))))) pa_nil))) pss_nil)))) (pss_cons (ps_ret (pv 3)) pss_nil))), fun W W2 hW g P h => by
      obtain ⟨r, b, e1, e2, hb⟩ := hW
      subst e1 e2
      unfold W__law_orders w__law_orders at h
      exact sd_seq (sd_asgLZ (i := 3) (ef_lst (es_nil (⟨Nat.le_of_ble_eq_true rfl, fun z_found_661 e717 => sd_wipe [4, 5, 6] (sd_seq (sd_forWs (N := 100) (fun i687 => Wst r (b + 1 + i687 * 5)) (Wst r (b + 501)) (fun (s686 : (List (T4 Str Str Int Int))) => [.raw (.ref r), sD (α := (List Str)) g.2.1, sD (α := Int) g.2.2.1, sL (α := (T4 Str Str Int Int)) s686, .non, .non, .non]) (evi_wk (stle (by omega)) (evi_rng1 (ea_cons (Ev.imp (ev_call (stp (by omega)) (ea_tok rfl (ea_cons (ev_I0 (f := fun i j : Int => i + j) (fun h => h) (ev_var rfl (ev_int (ea_nil (h z_found_661 e717)))))))) (fun y662 h663 => ea_nil ⟨h663.1, ⟨z_found_661, rfl, h663.2.1, h663.2.2⟩⟩))))) (by exact fun i687 x689 s686 n690 h688 h715 => tg_name (sd_seq (sd_asgZ (i := 5) (ev_ixL (fun h => h) (ec_ev (ev_var rfl (Ev.imp (ev_call (stp (by omega)) (ea_tok rfl (ea_cons (ev_lenC (fun h => h) (ec_ev (ev_var rfl (ea_nil h715))))))) (fun y694 h695 => Exists.elim h695 fun x692 h693 => ⟨x692, h693.1, fun z_unit_696 e713 => sd_seq (sd_asgZ (i := 6) (ev_I0 (f := fun i j : Int => i + j) (fun h => h) (ev_int (Ev.imp (ev_call (stp (by omega)) (ea_tok rfl (ea_cons (ev_ixL (fun h => h) (ec_ev (ev_fresh (ef_lst (es_cons (ev_int (es_cons (ev_int (es_nil (⟨Nat.le_of_ble_eq_true rfl, Ev.imp (ev_call (stp (by omega)) (ea_tok rfl (ea_cons (ev_int (ea_nil (h693.2 z_unit_696 e713)))))) (fun y699 h700 => Exists.elim h700 fun x697 h698 => ⟨x697, h698.1, ea_nil h698.2⟩)⟩))))))))))))) (fun y701 h702 => fun z_amount_703 e712 => sd_seq (sd_appendZ (i := 3) rfl (ev_tup4 (ea_cons (ev_ixL (fun h => h) (ec_ev (ev_fresh (ef_lst (es_cons (ev_str (es_cons (ev_str (es_nil (⟨Nat.le_of_ble_eq_true rfl, Ev.imp (ev_call (stp (by omega)) (ea_tok rfl (ea_cons (ev_int (ea_nil (h702 z_amount_703 e712)))))) (fun y706 h707 => Exists.elim h707 fun x704 h705 => ⟨x704, h705.1, ea_cons (ev_var rfl (ea_cons (ev_I0 (f := fun i j : Int => i + j) (fun h => h) (ev_int (Ev.imp (ev_call (stp (by omega)) (ea_tok rfl (ea_cons (ev_int (ea_nil h705.2))))) (fun y708 h709 => ea_cons (ev_var rfl (ea_nil (⟨h709.1, fun z_found_710 e711 => sd_nextW [4, 5, 6] ⟨z_found_710, rfl, (stle (by omega)), (h709.2 z_found_710 e711)⟩⟩)))))))))⟩)⟩))))))))))))))))))⟩)))))))) (by exact fun s714 h716 => sd_fix (i := 3) rfl (sd_seq (sd_retW rfl (ev_var rfl (h716)) (stle (by omega))))) (fun _ _ l z => sd_le l z) rfl (fun i687 h688 => (stle (by omega)))))⟩))))⟩

theorem sc__law_led : FnScope ["names", "row", "unit"] ["names", "row"] (defScope (topS 55)) := ⟨rfl, rfl, rfl, by decide +kernel, rfl, by decide +kernel, by decide +kernel⟩
def w__law_led (a_names : (Dc Str Str)) (a_row : (Dc Str Int)) (P : (Dc Str Int) → Prop) : Prop := ((List.reverse (List.map Prod.fst a_row.l)).length ≤ 100000 ∧ compW (fun (x718 : Str) (R719 : Option (Str × Int) → Prop) => (∃ (x721 : Str), look a_names.l x718 = some x721 ∧ (∃ (x723 : Int), look a_row.l x718 = some x723 ∧ R719 (some (x721, x723))))) (fun (y727 : (List (Str × Int))) => P (Dc.mk (puts [] y727))) (List.reverse (List.map Prod.fst a_row.l)) [])
abbrev W__law_led (g : (Dc Str Str) × (Dc Str Int) × Unit) (P : (Dc Str Int) → Prop) : Prop := w__law_led g.1 g.2.1 P
theorem walk__law_led {f : Addr} {fd : FuncData} (X : Tx K mg)  (F : Fun K "_law_led" "_law_led" (topS 55) f fd) (hm : mg "_law_led" = some (.ref f)) (bd : Binds K fd ["names", "row"] []) : CalD P w K mg base 1 "_law_led" (spD K AnyW W__law_led) [] :=
  cal_ok F hm bd sc__law_led rfl (by decide) fun cdv A outer s H E hr => by
    exact ⟨_, (pss_cons (ps_ret (pe_callTy (call_dictP rfl) (by rfl) X.b_dict rfl (pa_cons (pe_lc rfl sc__law_led.nd (pi_list (pe_revL (pe_callTy (call_listD rfl) (by rfl) X.b_list rfl (pa_cons (pv 1) pa_nil)))) (blkOk_by (N := ["names", "row", "unit"]) (sc := defScope (topS 55)) (own := [("unit", 2)]) (by decide +kernel)) (fun _ _ _ _ _ => (pg_name (i := 2) sc__law_led.nd (by rfl) (by first | exact .inl rfl | exact .inr rfl))) (fun _ _ _ _ _ => pts_nil) (fun _ _ _ _ _ => (pe_tup (pa_cons (pe_dget (hu_of hr) (pv 0) (pv 2) (fun _ _ => rfl)) (pa_cons (pe_dget (hu_of hr) (pv 1) (pv 2) (fun _ _ => rfl)) pa_nil))))) pa_nil))) pss_nil), fun W W2 hW g P h => by
      have e1 : W = W2 := hW
      subst e1
      unfold W__law_led w__law_led at h
      exact sd_seq (sd_retW rfl (evd_fresh (eg_pairs (ec_ev (ev_fresh (EvF.imp (ef_lcW (evio (evi_list (ev_fresh (ef_revL (ec_ev (ev_fresh (ef_listD (ecd_ev (ev_var rfl (h)))))))))) (by exact fun x718 R719 h720 => bd_yes (tgc_name (ev_tup2 (ea_cons (ev_dget (ecd_ev (ev_var rfl (ev_var rfl (Exists.elim h720 fun x721 h722 => ⟨x721, h722.1, ea_cons (ev_dget (ecd_ev (ev_var rfl (ev_var rfl (Exists.elim h722.2 fun x723 h724 => ⟨x723, h724.1, ea_nil (h724.2)⟩)))))⟩)))))))) (Wle.refl _))) (fun y727 h730 => h730)))))) (Wle.refl _))⟩

theorem sc__law_joined_right : FnScope ["state", "units", "shifts", "fees", "one", "other", "first", "second", "both", "lot", "lost", "shift", "apart", "flip", "many", "times", "unit"] ["state", "units", "shifts", "fees"] (defScope (topS 56)) := ⟨rfl, rfl, rfl, by decide +kernel, rfl, by decide +kernel, by decide +kernel⟩
def w__law_joined_right_p4 (v_units : (List Str)) (v_shifts : (List (Dc Str Int))) (v_fees : (Dc Str Int)) (v_one : (Dc Str Int)) (v_other : (Dc Str Int)) (v_first : (List (T4 Str Str Int Int))) (v_second : (List (T4 Str Str Int Int))) (v_both : (Dc Str Int)) (v_apart : Int) (v_flip : (Dc Str Int)) (v_many : Int) (P : Bool → Prop) : Prop := ((List.map Prod.fst v_one.l).length ≤ 100000 ∧ compW (fun (x881 : Str) (R882 : Option (Str × Int) → Prop) => (((!decide (v_many = (0 : Int))) = true → (∃ (x884 : Int), look v_one.l x881 = some x884 ∧ (CMul v_many x884 ∧ R882 (some (x881, (v_many * x884)))))) ∧ ((!decide (v_many = (0 : Int))) = false → R882 none))) (fun (y888 : (List (Str × Int))) => ∀ (z_times_892 : (Dc Str Int)), z_times_892 = (Dc.mk (puts [] y888)) → (w_need z_times_892 v_shifts (fun (y893 : Int) => (w_need v_one v_shifts (fun (y895 : Int) => (CMul v_many y895 ∧ P (decide (y893 = (v_many * y895))))))))) (List.map Prod.fst v_one.l) [])
theorem part__law_joined_right_p4 (X : Tx K mg) (C_need : CalD P w K mg base 5 "need" (spD K AnyW W_need) []) {f : Addr} {cdv : Value} {A : Around} {outer : List Env} {s : Shared} {H : Hp} {E : XK} (hr : Room 6 (A.deeper (envOfC "_law_joined_right" (defScope (topS 56)) s.heap.objs.size f cdv))) :
    ∃ t, PSs (cxOf CX0 P w K mg base ["state", "units", "shifts", "fees", "one", "other", "first", "second", "both", "lot", "lost", "shift", "apart", "flip", "many", "times", "unit"] "_law_joined_right" (defScope (topS 56)) f cdv A outer s H E).nox ((defBody (topS 56)).drop 12) t ∧ ∀ (r : Addr) (b : Nat), b + 21403 ≤ limB → ∀ (v_units : (List Str)) (v_shifts : (List (Dc Str Int))) (v_fees : (Dc Str Int)) (v_one : (Dc Str Int)) (v_other : (Dc Str Int)) (v_first : (List (T4 Str Str Int Int))) (v_second : (List (T4 Str Str Int Int))) (v_both : (Dc Str Int)) (v_apart : Int) (v_flip : (Dc Str Int)) (v_many : Int) (P : Bool → Prop), w__law_joined_right_p4 v_units v_shifts v_fees v_one v_other v_first v_second v_both v_apart v_flip v_many P → Sd (Wst r (b + 21403)) K t [.raw (.ref r), sD (α := (List Str)) v_units, sD (α := (List (Dc Str Int))) v_shifts, sD (α := (Dc Str Int)) v_fees, sD (α := (Dc Str Int)) v_one, sD (α := (Dc Str Int)) v_other, sD (α := (List (T4 Str Str Int Int))) v_first, sD (α := (List (T4 Str Str Int Int))) v_second, sD (α := (Dc Str Int)) v_both, .non, .non, .non, sD (α := Int) v_apart, sD (α := (Dc Str Int)) v_flip, sD (α := Int) v_many, .non, .non] { nx := fun _ _ => False, rt := rtW (Wst r (b + 21403)) P } := by
  exact ⟨_, (pss_cons (ps_set (i := 15) sc__law_joined_right.nd (by rfl) (by first | exact .inl rfl | exact .inr rfl) (pe_callTy (call_dictP rfl) (by rfl) X.b_dict rfl (pa_cons (pe_lockO (pe_lc rfl sc__law_joined_right.nd (pi_keys (pv 4)) (blkOk_by (N := ["state", "units", "shifts", "fees", "one", "other", "first", "second", "both", "lot", "lost", "shift", "apart", "flip", "many", "times", "unit"]) (sc := defScope (topS 56)) (own := [("unit", 16)]) (by decide +kernel)) (fun _ _ _ _ _ => (pg_name (i := 16) sc__law_joined_right.nd (by rfl) (by first | exact .inl rfl | exact .inr rfl))) (fun _ _ _ _ _ => (pts_one (pt_cmpR op_ne (pv 14) pe_int (nomark _)))) (fun _ _ _ _ _ => (pe_tup (pa_cons (pv 16) (pa_cons (pe_op op_mul (pv 14) (pe_dget (hu_of hr) (pv 4) (pv 16) (fun _ _ => rfl))) pa_nil)))))) pa_nil))) (pss_cons (ps_ret (pe_cmpR op_eq (pe_cd C_need hr (by decide) (by rfl) (pa_cons (pv 15) (pa_cons (pv 2) pa_nil))) (pe_op op_mul (pv 14) (pe_cd C_need hr (by decide) (by rfl) (pa_cons (pv 4) (pa_cons (pv 2) pa_nil)))) (nomark _))) pss_nil)), fun r b hb v_units v_shifts v_fees v_one v_other v_first v_second v_both v_apart v_flip v_many P h => by
    unfold w__law_joined_right_p4 at h
    exact sd_seq (sd_asgZ (i := 15) (evd_fresh (eg_pairs (ec_ev (ev_fresh (EvF.imp (ef_lcKW rfl (ek_keys rfl) h (by exact fun x881 R882 h883 => bd_if (tgc_name (et_test (ev_neI (fun h => h) (ev_var rfl (ev_int (⟨fun e889 => ev_tup2 (ea_cons (ev_var rfl (ea_cons (ev_I (f := fun i j : Int => i * j) (C := CMul) (fun h => h) (ev_var rfl (ev_dget (ecd_ev (ev_var rfl (ev_var rfl (Exists.elim (h883.1 e889) fun x884 h885 => ⟨x884, h885.1, ⟨h885.2.1, ea_nil (h885.2.2)⟩⟩)))))))))), fun e890 => h883.2 e890⟩)))))) (stle (by omega)))) (fun y888 h891 => fun z_times_892 e897 => sd_seq (sd_retW rfl (ev_eqI (fun h => h) (Ev.imp (ev_call rfl (ea_cons (ev_var rfl (ea_cons (ev_var rfl (ea_nil (h891 z_times_892 e897))))))) (fun y893 h894 => ev_I (f := fun i j : Int => i * j) (C := CMul) (fun h => h) (ev_var rfl (Ev.imp (ev_call rfl (ea_cons (ev_var rfl (ea_cons (ev_var rfl (ea_nil h894)))))) (fun y895 h896 => ⟨h896.1, h896.2⟩)))))) (stle (by omega))))))))))⟩
def w__law_joined_right_p3 (v_units : (List Str)) (v_shifts : (List (Dc Str Int))) (v_fees : (Dc Str Int)) (v_one : (Dc Str Int)) (v_other : (Dc Str Int)) (v_first : (List (T4 Str Str Int Int))) (v_second : (List (T4 Str Str Int Int))) (v_both : (Dc Str Int)) (v_apart : Int) (v_flip : (Dc Str Int)) (P : Bool → Prop) : Prop := ((w_joined v_one v_flip (fun (y861 : (Dc Str Int)) => w_need y861 v_shifts (fun (y863 : Int) => (((!decide (y863 = (0 : Int))) = true → P false) ∧ ((!decide (y863 = (0 : Int))) = false → (v_shifts.length ≤ 100000 ∧ compW (fun (x865 : (Dc Str Int)) (R866 : Option (Dc Str Int) → Prop) => (w_loss v_flip x865 (fun (y868 : Int) => (w_loss v_one x865 (fun (y870 : Int) => (((!decide (y868 = (-y870))) = true → R866 (some x865)) ∧ ((!decide (y868 = (-y870))) = false → R866 none))))))) (fun (y874 : (List (Dc Str Int))) => (y874 = [] ∧ ((false = true → P false) ∧ (false = false → (w__law_take (5 : Int) (fun (y878 : Int) => ∀ (z_many_880 : Int), z_many_880 = y878 → w__law_joined_right_p4 v_units v_shifts v_fees v_one v_other v_first v_second v_both v_apart v_flip z_many_880 P)))))) v_shifts [])))))))
theorem part__law_joined_right_p3 (X : Tx K mg) (C_need : CalD P w K mg base 5 "need" (spD K AnyW W_need) []) (C_joined : CalD P w K mg base 5 "joined" (spD K AnyW W_joined) []) (C_loss : CalD P w K mg base 5 "loss" (spD K AnyW W_loss) []) (C__law_take : CalD P w K mg base 1 "_law_take" (spD K (Stp 1) W__law_take) []) {f : Addr} {cdv : Value} {A : Around} {outer : List Env} {s : Shared} {H : Hp} {E : XK} (hr : Room 6 (A.deeper (envOfC "_law_joined_right" (defScope (topS 56)) s.heap.objs.size f cdv))) :
    ∃ t, PSs (cxOf CX0 P w K mg base ["state", "units", "shifts", "fees", "one", "other", "first", "second", "both", "lot", "lost", "shift", "apart", "flip", "many", "times", "unit"] "_law_joined_right" (defScope (topS 56)) f cdv A outer s H E).nox ((defBody (topS 56)).drop 9) t ∧ ∀ (r : Addr) (b : Nat), b + 21403 ≤ limB → ∀ (v_units : (List Str)) (v_shifts : (List (Dc Str Int))) (v_fees : (Dc Str Int)) (v_one : (Dc Str Int)) (v_other : (Dc Str Int)) (v_first : (List (T4 Str Str Int Int))) (v_second : (List (T4 Str Str Int Int))) (v_both : (Dc Str Int)) (v_apart : Int) (v_flip : (Dc Str Int)) (P : Bool → Prop), w__law_joined_right_p3 v_units v_shifts v_fees v_one v_other v_first v_second v_both v_apart v_flip P → Sd (Wst r (b + 21402)) K t [.raw (.ref r), sD (α := (List Str)) v_units, sD (α := (List (Dc Str Int))) v_shifts, sD (α := (Dc Str Int)) v_fees, sD (α := (Dc Str Int)) v_one, sD (α := (Dc Str Int)) v_other, sD (α := (List (T4 Str Str Int Int))) v_first, sD (α := (List (T4 Str Str Int Int))) v_second, sD (α := (Dc Str Int)) v_both, .non, .non, .non, sD (α := Int) v_apart, sD (α := (Dc Str Int)) v_flip, .non, .non, .non] { nx := fun _ _ => False, rt := rtW (Wst r (b + 21403)) P } := by
  obtain ⟨t4, d4, s4⟩ := part__law_joined_right_p4 X C_need hr
  exact ⟨_, (pss_cons (ps_if (pt_cmpR op_ne (pe_cd C_need hr (by decide) (by rfl) (pa_cons (pe_cd C_joined hr (by decide) (by rfl) (pa_cons (pv 4) (pa_cons (pv 13) pa_nil))) (pa_cons (pv 2) pa_nil))) pe_int (nomark _)) (pss_cons (ps_ret pe_bl) pss_nil) pss_nil) (pss_cons (ps_if (pt_cmpR (op_neD (hu64 hr)) (pe_lc rfl sc__law_joined_right.nd (pi_list (pv 2)) (blkOk_by (N := ["state", "units", "shifts", "fees", "one", "other", "first", "second", "both", "lot", "lost", "shift", "apart", "flip", "many", "times", "unit"]) (sc := defScope (topS 56)) (own := [("shift", 11)]) (by decide +kernel)) (fun _ _ _ _ _ => (pg_name (i := 11) sc__law_joined_right.nd (by rfl) (by first | exact .inl rfl | exact .inr rfl))) (fun _ _ _ _ _ => (pts_one (pt_cmpR op_ne (pe_cd C_loss hr (by decide) (by rfl) (pa_cons (pv 13) (pa_cons (pv 11) pa_nil))) (pe_un un_neg (pe_cd C_loss hr (by decide) (by rfl) (pa_cons (pv 4) (pa_cons (pv 11) pa_nil)))) (nomark _)))) (fun _ _ _ _ _ => (pv 11))) (pe_lst pa_nil) (nomark _)) (pss_cons (ps_ret pe_bl) pss_nil) pss_nil) (pss_cons (ps_set (i := 14) sc__law_joined_right.nd (by rfl) (by first | exact .inl rfl | exact .inr rfl) (pe_cd C__law_take hr (by decide) (by rfl) (pa_cons (pv 0) (pa_cons pe_int pa_nil)))) d4))), fun r b hb v_units v_shifts v_fees v_one v_other v_first v_second v_both v_apart v_flip P h => by
    unfold w__law_joined_right_p3 at h
    exact sd_seq (sd_if (et_test (ev_neI (fun h => h) (Ev.imp (ev_call rfl (ea_cons (Ev.imp (ev_call rfl (ea_cons (ev_var rfl (ea_cons (ev_var rfl (ea_nil h)))))) (fun y861 h862 => ea_cons (ev_var rfl (ea_nil h862)))))) (fun y863 h864 => ev_int (⟨fun e901 => sd_seq (sd_retW rfl (ev_bl ((h864.1 e901))) (stle (by omega))), fun e902 => sd_next (sd_seq (sd_if (et_test (ev_neL0 (ec_ev (ev_fresh (EvF.imp (ef_lcW (evio (evi_list (ev_var rfl ((h864.2 e902))))) (by exact fun x865 R866 h867 => bd_if (tgc_name (et_test (ev_neI (fun h => h) (Ev.imp (ev_call rfl (ea_cons (ev_var rfl (ea_cons (ev_var rfl (ea_nil h867)))))) (fun y868 h869 => ev_U (f := fun i : Int => -i) (Ev.imp (ev_call rfl (ea_cons (ev_var rfl (ea_cons (ev_var rfl (ea_nil h869)))))) (fun y870 h871 => ⟨fun e875 => ev_var rfl ((h871.1 e875)), fun e876 => h871.2 e876⟩))))))) (stle (by omega)))) (fun y874 h877 => ec_ev (ev_fresh (ef_lst (es_nil (⟨Nat.le_of_ble_eq_true rfl, ⟨h877.1, rfl, ⟨fun e899 => sd_seq (sd_retW rfl (ev_bl ((h877.2.1 e899))) (stle (by omega))), fun e900 => sd_next (sd_seq (sd_asgZ (i := 14) (Ev.imp (ev_call (stp (by omega)) (ea_tok rfl (ea_cons (ev_int (ea_nil (h877.2.2 e900)))))) (fun y878 h879 => fun z_many_880 e898 => sd_le (stle (by omega)) (s4 r b hb v_units v_shifts v_fees v_one v_other v_first v_second v_both v_apart v_flip z_many_880 _ (h879 z_many_880 e898))))))⟩⟩⟩))))))))))))⟩))))))⟩
def w__law_joined_right_p2 (v_units : (List Str)) (v_shifts : (List (Dc Str Int))) (v_fees : (Dc Str Int)) (v_one : (Dc Str Int)) (v_other : (Dc Str Int)) (v_first : (List (T4 Str Str Int Int))) (v_second : (List (T4 Str Str Int Int))) (v_both : (Dc Str Int)) (v_apart : Int) (P : Bool → Prop) : Prop := ((v_first.length + v_second.length ≤ 100000 ∧ w_worst v_both (v_first ++ v_second) v_shifts v_fees (fun (y824 : (T3 Int Int (Tp Int))) => (((decide (v_apart < y824.a)) = true → P false) ∧ ((decide (v_apart < y824.a)) = false → forW (fun (x837 : (Dc Str Int)) (s834 : Unit) (n838 b839 : Unit → Prop) => (w_loss v_both x837 (fun (y840 : Int) => (w_loss v_one x837 (fun (y842 : Int) => (w_loss v_other x837 (fun (y844 : Int) => (((!decide (y840 = (y842 + y844))) = true → P false) ∧ ((!decide (y840 = (y842 + y844))) = false → n838 ()))))))))) (fun (s848 : Unit) => ((List.map Prod.fst v_one.l).length ≤ 100000 ∧ compW (fun (x849 : Str) (R850 : Option (Str × Int) → Prop) => (∃ (x852 : Int), look v_one.l x849 = some x852 ∧ R850 (some (x849, (-x852))))) (fun (y856 : (List (Str × Int))) => ∀ (z_flip_860 : (Dc Str Int)), z_flip_860 = (Dc.mk (puts [] y856)) → w__law_joined_right_p3 v_units v_shifts v_fees v_one v_other v_first v_second v_both v_apart z_flip_860 P) (List.map Prod.fst v_one.l) [])) v_shifts ())))))
theorem part__law_joined_right_p2 (X : Tx K mg) (C_worst : CalD P w K mg base 6 "worst" (spD K AnyW W_worst) []) (C_loss : CalD P w K mg base 5 "loss" (spD K AnyW W_loss) []) (C_need : CalD P w K mg base 5 "need" (spD K AnyW W_need) []) (C_joined : CalD P w K mg base 5 "joined" (spD K AnyW W_joined) []) (C__law_take : CalD P w K mg base 1 "_law_take" (spD K (Stp 1) W__law_take) []) {f : Addr} {cdv : Value} {A : Around} {outer : List Env} {s : Shared} {H : Hp} {E : XK} (hr : Room 6 (A.deeper (envOfC "_law_joined_right" (defScope (topS 56)) s.heap.objs.size f cdv))) :
    ∃ t, PSs (cxOf CX0 P w K mg base ["state", "units", "shifts", "fees", "one", "other", "first", "second", "both", "lot", "lost", "shift", "apart", "flip", "many", "times", "unit"] "_law_joined_right" (defScope (topS 56)) f cdv A outer s H E).nox ((defBody (topS 56)).drop 6) t ∧ ∀ (r : Addr) (b : Nat), b + 21403 ≤ limB → ∀ (v_units : (List Str)) (v_shifts : (List (Dc Str Int))) (v_fees : (Dc Str Int)) (v_one : (Dc Str Int)) (v_other : (Dc Str Int)) (v_first : (List (T4 Str Str Int Int))) (v_second : (List (T4 Str Str Int Int))) (v_both : (Dc Str Int)) (v_apart : Int) (P : Bool → Prop), w__law_joined_right_p2 v_units v_shifts v_fees v_one v_other v_first v_second v_both v_apart P → Sd (Wst r (b + 21402)) K t [.raw (.ref r), sD (α := (List Str)) v_units, sD (α := (List (Dc Str Int))) v_shifts, sD (α := (Dc Str Int)) v_fees, sD (α := (Dc Str Int)) v_one, sD (α := (Dc Str Int)) v_other, sD (α := (List (T4 Str Str Int Int))) v_first, sD (α := (List (T4 Str Str Int Int))) v_second, sD (α := (Dc Str Int)) v_both, .non, .non, .non, sD (α := Int) v_apart, .non, .non, .non, .non] { nx := fun _ _ => False, rt := rtW (Wst r (b + 21403)) P } := by
  obtain ⟨t3, d3, s3⟩ := part__law_joined_right_p3 X C_need C_joined C_loss C__law_take hr
  exact ⟨_, (pss_cons (ps_if (pt_cmpR op_gt (pe_ix ix_tup (pe_cd C_worst hr (by decide) (by rfl) (pa_cons (pv 8) (pa_cons (pe_op op_cat (pv 6) (pv 7)) (pa_cons (pv 2) (pa_cons (pv 3) pa_nil))))) pe_int (fun _ _ => rfl)) (pv 12) (nomark _)) (pss_cons (ps_ret pe_bl) pss_nil) pss_nil) (pss_cons (ps_for PassesOwn.never rfl (pi_list (pv 2)) (pg_name (i := 11) sc__law_joined_right.nd (by rfl) (by first | exact .inl rfl | exact .inr rfl)) (pss_cons (ps_if (pt_cmpR op_ne (pe_cd C_loss hr (by decide) (by rfl) (pa_cons (pv 8) (pa_cons (pv 11) pa_nil))) (pe_op op_add (pe_cd C_loss hr (by decide) (by rfl) (pa_cons (pv 4) (pa_cons (pv 11) pa_nil))) (pe_cd C_loss hr (by decide) (by rfl) (pa_cons (pv 5) (pa_cons (pv 11) pa_nil)))) (nomark _)) (pss_cons (ps_ret pe_bl) pss_nil) pss_nil) pss_nil)) (pss_cons (ps_set (i := 13) sc__law_joined_right.nd (by rfl) (by first | exact .inl rfl | exact .inr rfl) (pe_callTy (call_dictP rfl) (by rfl) X.b_dict rfl (pa_cons (pe_lockO (pe_lc rfl sc__law_joined_right.nd (pi_keys (pv 4)) (blkOk_by (N := ["state", "units", "shifts", "fees", "one", "other", "first", "second", "both", "lot", "lost", "shift", "apart", "flip", "many", "times", "unit"]) (sc := defScope (topS 56)) (own := [("unit", 16)]) (by decide +kernel)) (fun _ _ _ _ _ => (pg_name (i := 16) sc__law_joined_right.nd (by rfl) (by first | exact .inl rfl | exact .inr rfl))) (fun _ _ _ _ _ => pts_nil) (fun _ _ _ _ _ => (pe_tup (pa_cons (pv 16) (pa_cons (pe_un un_neg (pe_dget (hu_of hr) (pv 4) (pv 16) (fun _ _ => rfl))) pa_nil)))))) pa_nil))) d3))), fun r b hb v_units v_shifts v_fees v_one v_other v_first v_second v_both v_apart P h => by
    unfold w__law_joined_right_p2 at h
    exact sd_seq (sd_if (et_test (ev_I0 (f := fun i j : Int => (decide (j < i))) (fun h => h) (ev_t30 (fun h => h) (Ev.imp (ev_call rfl (ea_cons (ev_var rfl (ea_cons (ev_fresh (ef_cat (fun h => h) (ec_ev (ev_var rfl (ec_ev (ev_var rfl (⟨h.1, ea_cons (ev_var rfl (ea_cons (ev_var rfl (ea_nil h.2))))⟩))))))))))) (fun y824 h825 => ev_var rfl (⟨fun e906 => sd_seq (sd_retW rfl (ev_bl ((h825.1 e906))) (stle (by omega))), fun e907 => sd_next (sd_wipe [11] (sd_seq (sd_forW (fun (s834 : Unit) => [.raw (.ref r), sD (α := (List Str)) v_units, sD (α := (List (Dc Str Int))) v_shifts, sD (α := (Dc Str Int)) v_fees, sD (α := (Dc Str Int)) v_one, sD (α := (Dc Str Int)) v_other, sD (α := (List (T4 Str Str Int Int))) v_first, sD (α := (List (T4 Str Str Int Int))) v_second, sD (α := (Dc Str Int)) v_both, .non, .non, .non, sD (α := Int) v_apart, .non, .non, .non, .non]) (evi_list (ev_var rfl (⟨(), rfl, (h825.2 e907)⟩))) (by exact fun x837 s834 n838 h904 => tg_name (sd_seq (sd_if (et_test (ev_neI (fun h => h) (Ev.imp (ev_call rfl (ea_cons (ev_var rfl (ea_cons (ev_var rfl (ea_nil h904)))))) (fun y840 h841 => ev_I0 (f := fun i j : Int => i + j) (fun h => h) (Ev.imp (ev_call rfl (ea_cons (ev_var rfl (ea_cons (ev_var rfl (ea_nil h841)))))) (fun y842 h843 => Ev.imp (ev_call rfl (ea_cons (ev_var rfl (ea_cons (ev_var rfl (ea_nil h843)))))) (fun y844 h845 => ⟨fun e846 => sd_seq (sd_retW rfl (ev_bl ((h845.1 e846))) (stle (by omega))), fun e847 => sd_next (sd_nextW [11] ⟨(), rfl, (stle (by omega)), (h845.2 e847)⟩)⟩)))))))))) (by exact fun s848 h905 => sd_seq (sd_asgZ (i := 13) (evd_fresh (eg_pairs (ec_ev (ev_fresh (EvF.imp (ef_lcKW rfl (ek_keys rfl) h905 (by exact fun x849 R850 h851 => bd_yes (tgc_name (ev_tup2 (ea_cons (ev_var rfl (ea_cons (ev_U (f := fun i : Int => -i) (ev_dget (ecd_ev (ev_var rfl (ev_var rfl (Exists.elim h851 fun x852 h853 => ⟨x852, h853.1, ea_nil (h853.2)⟩))))))))))) (stle (by omega)))) (fun y856 h859 => fun z_flip_860 e903 => sd_le (stle (by omega)) (s3 r b hb v_units v_shifts v_fees v_one v_other v_first v_second v_both v_apart z_flip_860 _ (h859 z_flip_860 e903)))))))))) (fun _ _ l z => sd_le l z))))⟩)))))))⟩
def w__law_joined_right_p1 (v_units : (List Str)) (v_shifts : (List (Dc Str Int))) (v_fees : (Dc Str Int)) (v_one : (Dc Str Int)) (v_other : (Dc Str Int)) (v_first : (List (T4 Str Str Int Int))) (v_second : (List (T4 Str Str Int Int))) (v_both : (Dc Str Int)) (P : Bool → Prop) : Prop := (w_need v_both v_shifts (fun (y746 : Int) => (w_need v_one v_shifts (fun (y748 : Int) => (w_need v_other v_shifts (fun (y750 : Int) => (((decide ((y748 + y750) < y746)) = true → P false) ∧ ((decide ((y748 + y750) < y746)) = false → forW (fun (x785 : (Dc Str Int)) (s782 : Unit) (n786 b787 : Unit → Prop) => (v_shifts.length ≤ 100000 ∧ compW (fun (x788 : (Dc Str Int)) (R789 : Option Int → Prop) => ((List.map Prod.fst x785.l).length ≤ 100000 ∧ compW (fun (x791 : Str) (R792 : Option Int → Prop) => (∃ (x794 : Int), look x785.l x791 = some x794 ∧ (CMul x794 (Option.getD (look x788.l x791) (0 : Int)) ∧ R792 (some (x794 * (Option.getD (look x788.l x791) (0 : Int))))))) (fun (y798 : (List Int)) => R789 (some (-(List.sum y798)))) (List.map Prod.fst x785.l) [])) (fun (y804 : (List Int)) => ∀ (z_lost_808 : (List Int)), z_lost_808 = y804 → (w_need x785 v_shifts (fun (y809 : Int) => (0 < z_lost_808.length ∧ ∀ m811, m811 ∈ z_lost_808 → (∀ y814, y814 ∈ z_lost_808 → y814 ≤ m811) → (((!decide (y809 = m811)) = true → P false) ∧ ((!decide (y809 = m811)) = false → n786 ())))))) v_shifts [])) (fun (s818 : Unit) => (w_worst v_one v_first v_shifts v_fees (fun (y819 : (T3 Int Int (Tp Int))) => (w_worst v_other v_second v_shifts v_fees (fun (y821 : (T3 Int Int (Tp Int))) => ∀ (z_apart_823 : Int), z_apart_823 = (y819.a + y821.a) → w__law_joined_right_p2 v_units v_shifts v_fees v_one v_other v_first v_second v_both z_apart_823 P))))) [v_one, v_other, v_both] ()))))))))
theorem part__law_joined_right_p1 (X : Tx K mg) (C_need : CalD P w K mg base 5 "need" (spD K AnyW W_need) []) (C_worst : CalD P w K mg base 6 "worst" (spD K AnyW W_worst) []) (C_loss : CalD P w K mg base 5 "loss" (spD K AnyW W_loss) []) (C_joined : CalD P w K mg base 5 "joined" (spD K AnyW W_joined) []) (C__law_take : CalD P w K mg base 1 "_law_take" (spD K (Stp 1) W__law_take) []) {f : Addr} {cdv : Value} {A : Around} {outer : List Env} {s : Shared} {H : Hp} {E : XK} (hr : Room 6 (A.deeper (envOfC "_law_joined_right" (defScope (topS 56)) s.heap.objs.size f cdv))) :
    ∃ t, PSs (cxOf CX0 P w K mg base ["state", "units", "shifts", "fees", "one", "other", "first", "second", "both", "lot", "lost", "shift", "apart", "flip", "many", "times", "unit"] "_law_joined_right" (defScope (topS 56)) f cdv A outer s H E).nox ((defBody (topS 56)).drop 3) t ∧ ∀ (r : Addr) (b : Nat), b + 21403 ≤ limB → ∀ (v_units : (List Str)) (v_shifts : (List (Dc Str Int))) (v_fees : (Dc Str Int)) (v_one : (Dc Str Int)) (v_other : (Dc Str Int)) (v_first : (List (T4 Str Str Int Int))) (v_second : (List (T4 Str Str Int Int))) (v_both : (Dc Str Int)) (P : Bool → Prop), w__law_joined_right_p1 v_units v_shifts v_fees v_one v_other v_first v_second v_both P → Sd (Wst r (b + 21402)) K t [.raw (.ref r), sD (α := (List Str)) v_units, sD (α := (List (Dc Str Int))) v_shifts, sD (α := (Dc Str Int)) v_fees, sD (α := (Dc Str Int)) v_one, sD (α := (Dc Str Int)) v_other, sD (α := (List (T4 Str Str Int Int))) v_first, sD (α := (List (T4 Str Str Int Int))) v_second, sD (α := (Dc Str Int)) v_both, .non, .non, .non, .non, .non, .non, .non, .non] { nx := fun _ _ => False, rt := rtW (Wst r (b + 21403)) P } := by
  obtain ⟨t2, d2, s2⟩ := part__law_joined_right_p2 X C_worst C_loss C_need C_joined C__law_take hr
  exact ⟨_, (pss_cons (ps_if (pt_cmpR op_gt (pe_cd C_need hr (by decide) (by rfl) (pa_cons (pv 8) (pa_cons (pv 2) pa_nil))) (pe_op op_add (pe_cd C_need hr (by decide) (by rfl) (pa_cons (pv 4) (pa_cons (pv 2) pa_nil))) (pe_cd C_need hr (by decide) (by rfl) (pa_cons (pv 5) (pa_cons (pv 2) pa_nil)))) (nomark _)) (pss_cons (ps_ret pe_bl) pss_nil) pss_nil) (pss_cons (ps_for PassesOwn.never rfl (pi_list (pe_lst (pa_cons (pv 4) (pa_cons (pv 5) (pa_cons (pv 8) pa_nil))))) (pg_name (i := 9) sc__law_joined_right.nd (by rfl) (by first | exact .inl rfl | exact .inr rfl)) (pss_cons (ps_setLc (i := 10) rfl sc__law_joined_right.nd (by rfl) (by rfl) (sw_true rfl rfl rfl rfl) (pi_list (pv 2)) (blkOk_by (N := ["state", "units", "shifts", "fees", "one", "other", "first", "second", "both", "lot", "lost", "shift", "apart", "flip", "many", "times", "unit"]) (sc := defScope (topS 56)) (own := [("shift", 11)]) (by decide +kernel)) (fun _ _ _ _ _ => (pg_name (i := 11) sc__law_joined_right.nd (by rfl) (by first | exact .inl rfl | exact .inr rfl))) (fun _ _ _ _ _ => pts_nil) (fun _ _ _ _ _ => (pe_un un_neg (pe_callB (cr_sum rfl) (by rfl) X.b_sum rfl (pa_cons (pe_lockO (pe_lc rfl sc__law_joined_right.nd (pi_keys (pv 9)) (blkOk_by (own := [("unit", 16)]) (by rfl)) (fun _ _ _ _ _ => (pg_name (i := 16) sc__law_joined_right.nd (by rfl) (by first | exact .inl rfl | exact .inr rfl))) (fun _ _ _ _ _ => pts_nil) (fun _ _ _ _ _ => (pe_op op_mul (pe_dget (hu_of hr) (pv 9) (pv 16) (fun _ _ => rfl)) (pe_dget2 (hu_of hr) (pv 11) (pv 16) pe_int ⟨rfl, rfl, rfl, rfl⟩))))) pa_nil))))) (pss_cons (ps_if (pt_cmpR op_ne (pe_cd C_need hr (by decide) (by rfl) (pa_cons (pv 9) (pa_cons (pv 2) pa_nil))) (pe_callB (cr_max rfl) (by rfl) X.b_max rfl (pa_cons (pv 10) pa_nil)) (nomark _)) (pss_cons (ps_ret pe_bl) pss_nil) pss_nil) pss_nil))) (pss_cons (ps_set (i := 12) sc__law_joined_right.nd (by rfl) (by first | exact .inl rfl | exact .inr rfl) (pe_op op_add (pe_ix ix_tup (pe_cd C_worst hr (by decide) (by rfl) (pa_cons (pv 4) (pa_cons (pv 6) (pa_cons (pv 2) (pa_cons (pv 3) pa_nil))))) pe_int (fun _ _ => rfl)) (pe_ix ix_tup (pe_cd C_worst hr (by decide) (by rfl) (pa_cons (pv 5) (pa_cons (pv 7) (pa_cons (pv 2) (pa_cons (pv 3) pa_nil))))) pe_int (fun _ _ => rfl)))) d2))), fun r b hb v_units v_shifts v_fees v_one v_other v_first v_second v_both P h => by
    unfold w__law_joined_right_p1 at h
    exact sd_seq (sd_if (et_test (ev_I0 (f := fun i j : Int => (decide (j < i))) (fun h => h) (Ev.imp (ev_call rfl (ea_cons (ev_var rfl (ea_cons (ev_var rfl (ea_nil h)))))) (fun y746 h747 => ev_I0 (f := fun i j : Int => i + j) (fun h => h) (Ev.imp (ev_call rfl (ea_cons (ev_var rfl (ea_cons (ev_var rfl (ea_nil h747)))))) (fun y748 h749 => Ev.imp (ev_call rfl (ea_cons (ev_var rfl (ea_cons (ev_var rfl (ea_nil h749)))))) (fun y750 h751 => ⟨fun e911 => sd_seq (sd_retW rfl (ev_bl ((h751.1 e911))) (stle (by omega))), fun e912 => sd_next (sd_wipe [9, 10] (sd_seq (sd_forW (fun (s782 : Unit) => [.raw (.ref r), sD (α := (List Str)) v_units, sD (α := (List (Dc Str Int))) v_shifts, sD (α := (Dc Str Int)) v_fees, sD (α := (Dc Str Int)) v_one, sD (α := (Dc Str Int)) v_other, sD (α := (List (T4 Str Str Int Int))) v_first, sD (α := (List (T4 Str Str Int Int))) v_second, sD (α := (Dc Str Int)) v_both, .non, .non, .non, .non, .non, .non, .non, .non]) (evi_list (ev_fresh (ef_lst (es_cons (ev_var rfl (es_cons (ev_var rfl (es_cons (ev_var rfl (es_nil (⟨Nat.le_of_ble_eq_true rfl, ⟨(), rfl, (h751.2 e912)⟩⟩))))))))))) (by exact fun x785 s782 n786 h909 => tg_name (sd_seq (sd_asgZ (i := 10) (ev_fresh (EvF.imp (ef_lcW (evio (evi_list (ev_var rfl (h909)))) (by exact fun x788 R789 h790 => bd_yes (tgc_name (ev_U (f := fun i : Int => -i) (ev_sum (ec_ev (ev_fresh (EvF.imp (ef_lcKW rfl (ek_keys rfl) h790 (by exact fun x791 R792 h793 => bd_yes (tgc_name (ev_I (f := fun i j : Int => i * j) (C := CMul) (fun h => h) (ev_dget (ecd_ev (ev_var rfl (ev_var rfl (Exists.elim h793 fun x794 h795 => ⟨x794, h795.1, ev_dget2 (ecd_ev (ev_var rfl (ev_var rfl (ev_int (⟨h795.2.1, h795.2.2⟩)))))⟩))))))) (stle (by omega)))) (fun y798 h801 => h801))))))) (stle (by omega)))) (fun y804 h807 => fun z_lost_808 e817 => sd_seq (sd_if (et_test (ev_neI (fun h => h) (Ev.imp (ev_call rfl (ea_cons (ev_var rfl (ea_cons (ev_var rfl (ea_nil (h807 z_lost_808 e817))))))) (fun y809 h810 => ev_max (ec_ev (ev_var rfl (⟨h810.1, fun m811 h812 h813 => ⟨fun e815 => sd_seq (sd_retW rfl (ev_bl (((h810.2 m811 h812 h813).1 e815))) (stle (by omega))), fun e816 => sd_next (sd_nextW [9, 10] ⟨(), rfl, (stle (by omega)), ((h810.2 m811 h812 h813).2 e816)⟩)⟩⟩)))))))))))))) (by exact fun s818 h910 => sd_seq (sd_asgZ (i := 12) (ev_I0 (f := fun i j : Int => i + j) (fun h => h) (ev_t30 (fun h => h) (Ev.imp (ev_call rfl (ea_cons (ev_var rfl (ea_cons (ev_var rfl (ea_cons (ev_var rfl (ea_cons (ev_var rfl (ea_nil h910)))))))))) (fun y819 h820 => ev_t30 (fun h => h) (Ev.imp (ev_call rfl (ea_cons (ev_var rfl (ea_cons (ev_var rfl (ea_cons (ev_var rfl (ea_cons (ev_var rfl (ea_nil h820)))))))))) (fun y821 h822 => fun z_apart_823 e908 => sd_le (stle (by omega)) (s2 r b hb v_units v_shifts v_fees v_one v_other v_first v_second v_both z_apart_823 _ (h822 z_apart_823 e908)))))))))) (fun _ _ l z => sd_le l z))))⟩))))))))⟩
def w__law_joined_right (a_units : (List Str)) (a_shifts : (List (Dc Str Int))) (a_fees : (Dc Str Int)) (P : Bool → Prop) : Prop := (w__law_position a_units (fun (y731 : (Dc Str Int)) => (w__law_position a_units (fun (y733 : (Dc Str Int)) => ∀ (z735 : ((Dc Str Int) × (Dc Str Int))), z735 = (y731, y733) → (w__law_orders a_units (3 : Int) (fun (y737 : (List (T4 Str Str Int Int))) => ∀ (z_first_741 : (List (T4 Str Str Int Int))), z_first_741 = y737 → (w__law_orders a_units (3 : Int) (fun (y739 : (List (T4 Str Str Int Int))) => ∀ (z_second_742 : (List (T4 Str Str Int Int))), z_second_742 = y739 → (w_joined z735.1 z735.2 (fun (y743 : (Dc Str Int)) => ∀ (z_both_745 : (Dc Str Int)), z_both_745 = y743 → w__law_joined_right_p1 a_units a_shifts a_fees z735.1 z735.2 z_first_741 z_second_742 z_both_745 P))))))))))
abbrev W__law_joined_right (g : Stk × (List Str) × (List (Dc Str Int)) × (Dc Str Int) × Unit) (P : Bool → Prop) : Prop := w__law_joined_right g.2.1 g.2.2.1 g.2.2.2.1 P
theorem walk__law_joined_right {f : Addr} {fd : FuncData} (X : Tx K mg) (C__law_position : CalD P w K mg base 3 "_law_position" (spD K (Stp 10200) W__law_position) []) (C__law_orders : CalD P w K mg base 2 "_law_orders" (spD K (Stp 501) W__law_orders) []) (C_joined : CalD P w K mg base 5 "joined" (spD K AnyW W_joined) []) (C_need : CalD P w K mg base 5 "need" (spD K AnyW W_need) []) (C_worst : CalD P w K mg base 6 "worst" (spD K AnyW W_worst) []) (C_loss : CalD P w K mg base 5 "loss" (spD K AnyW W_loss) []) (C__law_take : CalD P w K mg base 1 "_law_take" (spD K (Stp 1) W__law_take) []) (F : Fun K "_law_joined_right" "_law_joined_right" (topS 56) f fd) (hm : mg "_law_joined_right" = some (.ref f)) (bd : Binds K fd ["state", "units", "shifts", "fees"] []) : CalD P w K mg base 7 "_law_joined_right" (spD K (Stp 21403) W__law_joined_right) [] :=
  cal_ok F hm bd sc__law_joined_right rfl (by decide) fun cdv A outer s H E hr => by
    obtain ⟨t1, d1, s1⟩ := part__law_joined_right_p1 X C_need C_worst C_loss C_joined C__law_take hr
    exact ⟨_, (pss_cons (ps_asg (pe_tup (pa_cons (pe_cd C__law_position hr (by decide) (by rfl) (pa_cons (pv 0) (pa_cons (pv 1) pa_nil))) (pa_cons (pe_cd C__law_position hr (by decide) (by rfl) (pa_cons (pv 0) (pa_cons (pv 1) pa_nil))) pa_nil))) (pg_tup rfl (pgs_cons (pg_name (i := 4) sc__law_joined_right.nd (by rfl) (by first | exact .inl rfl | exact .inr rfl)) (pgs_cons (pg_name (i := 5) sc__law_joined_right.nd (by rfl) (by first | exact .inl rfl | exact .inr rfl)) pgs_nil)))) (pss_cons (ps_par (i := 6) (j := 7) rfl sc__law_joined_right.nd (by rfl) (by rfl) (by decide) (by rfl) (by rfl) (pa_cons (pe_cd C__law_orders hr (by decide) (by rfl) (pa_cons (pv 0) (pa_cons (pv 1) (pa_cons pe_int pa_nil)))) (pa_cons (pe_cd C__law_orders hr (by decide) (by rfl) (pa_cons (pv 0) (pa_cons (pv 1) (pa_cons pe_int pa_nil)))) pa_nil)) (by rfl)) (pss_cons (ps_set (i := 8) sc__law_joined_right.nd (by rfl) (by first | exact .inl rfl | exact .inr rfl) (pe_cd C_joined hr (by decide) (by rfl) (pa_cons (pv 4) (pa_cons (pv 5) pa_nil)))) d1))), fun W W2 hW g P h => by
      obtain ⟨r, b, e1, e2, hb⟩ := hW
      subst e1 e2
      unfold W__law_joined_right w__law_joined_right at h
      exact sd_seq (sd_asgTZ (ev_tup2 (ea_cons (Ev.imp (ev_call (stp (by omega)) (ea_tok rfl (ea_cons (ev_var rfl (ea_nil h))))) (fun y731 h732 => ea_cons (Ev.imp (ev_call (stp (by omega)) (ea_tok rfl (ea_cons (ev_var rfl (ea_nil h732))))) (fun y733 h734 => ea_nil (fun z735 e736 => tg_two (sd_seq (sd_par (i := 6) (j := 7) (ea_consZ (Ev.imp (ev_call (stp (by omega)) (ea_tok rfl (ea_cons (ev_var rfl (ea_cons (ev_int (ea_nil (h734 z735 e736)))))))) (fun y737 h738 => fun z_first_741 e914 => ea_consZ (Ev.imp (ev_call (stp (by omega)) (ea_tok rfl (ea_cons (ev_var rfl (ea_cons (ev_int (ea_nil (h738 z_first_741 e914)))))))) (fun y739 h740 => fun z_second_742 e915 => ea_nil (sd_seq (sd_asgZ (i := 8) (Ev.imp (ev_call rfl (ea_cons (ev_var rfl (ea_cons (ev_var rfl (ea_nil (h740 z_second_742 e915))))))) (fun y743 h744 => fun z_both_745 e913 => sd_le (stle (by omega)) (s1 r b hb g.2.1 g.2.2.1 g.2.2.2.1 z735.1 z735.2 z_first_741 z_second_742 z_both_745 _ (h744 z_both_745 e913)))))))))))))))))))))⟩

theorem sc__law_more_right : FnScope ["state", "units", "shifts", "fees", "lot", "bids", "top", "wider", "purse", "few", "some", "bid"] ["state", "units", "shifts", "fees"] (defScope (topS 57)) := ⟨rfl, rfl, rfl, by decide +kernel, rfl, by decide +kernel, by decide +kernel⟩
def w__law_more_right_p3 (v_units : (List Str)) (v_shifts : (List (Dc Str Int))) (v_fees : (Dc Str Int)) (v_lot : (Dc Str Int)) (v_bids : (List (T4 Str Str Int Int))) (v_top : Int) (v_wider : (List (T4 Str Str Int Int))) (v_purse : Int) (P : Bool → Prop) : Prop := (w__law_mixed v_bids (fun (y956 : (List (T4 Str Str Int Int))) => ∀ (z_few_960 : (List (T4 Str Str Int Int))), z_few_960 = (cutL y956 (some (1 : Int)) none) → (w__law_mixed (cutL v_shifts (some (1 : Int)) none) (fun (y958 : (List (Dc Str Int))) => ([(Dc.mk ([] : List (Str × Int)))].length + (cutL y958 (some (1 : Int)) none).length ≤ 100000 ∧ ∀ (z_some_961 : (List (Dc Str Int))), z_some_961 = ([(Dc.mk ([] : List (Str × Int)))] ++ (cutL y958 (some (1 : Int)) none)) → (w_covered v_lot z_few_960 z_some_961 v_fees v_purse (fun (y962 : (Option (T3 Int Int (Tp Int)))) => (((Option.isSome y962) = true → P false) ∧ ((Option.isSome y962) = false → (w_covered v_lot v_bids v_shifts v_fees (v_top - (1 : Int)) (fun (y964 : (Option (T3 Int Int (Tp Int)))) => P (Option.isSome y964))))))))))))
theorem part__law_more_right_p3 (X : Tx K mg) (C__law_mixed_O : CalD P w K mg base 2 "_law_mixed" (spD K (Stp 100) (W__law_mixed (α := (T4 Str Str Int Int)))) []) (C__law_mixed_M : CalD P w K mg base 2 "_law_mixed" (spD K (Stp 100) (W__law_mixed (α := (Dc Str Int)))) []) (C_covered : CalD P w K mg base 6 "covered" (spD K AnyW W_covered) []) {f : Addr} {cdv : Value} {A : Around} {outer : List Env} {s : Shared} {H : Hp} {E : XK} (hr : Room 6 (A.deeper (envOfC "_law_more_right" (defScope (topS 57)) s.heap.objs.size f cdv))) :
    ∃ t, PSs (cxOf CX0 P w K mg base ["state", "units", "shifts", "fees", "lot", "bids", "top", "wider", "purse", "few", "some", "bid"] "_law_more_right" (defScope (topS 57)) f cdv A outer s H E).nox ((defBody (topS 57)).drop 9) t ∧ ∀ (r : Addr) (b : Nat), b + 11002 ≤ limB → ∀ (v_units : (List Str)) (v_shifts : (List (Dc Str Int))) (v_fees : (Dc Str Int)) (v_lot : (Dc Str Int)) (v_bids : (List (T4 Str Str Int Int))) (v_top : Int) (v_wider : (List (T4 Str Str Int Int))) (v_purse : Int) (P : Bool → Prop), w__law_more_right_p3 v_units v_shifts v_fees v_lot v_bids v_top v_wider v_purse P → Sd (Wst r (b + 10802)) K t [.raw (.ref r), sD (α := (List Str)) v_units, sD (α := (List (Dc Str Int))) v_shifts, sD (α := (Dc Str Int)) v_fees, sD (α := (Dc Str Int)) v_lot, sD (α := (List (T4 Str Str Int Int))) v_bids, sD (α := Int) v_top, sD (α := (List (T4 Str Str Int Int))) v_wider, sD (α := Int) v_purse, .non, .non, .non] { nx := fun _ _ => False, rt := rtW (Wst r (b + 11002)) P } := by
  exact ⟨_, (pss_cons (ps_par (i := 9) (j := 10) rfl sc__law_more_right.nd (by rfl) (by rfl) (by decide) (by rfl) (by rfl) (pa_cons (pe_slice sl_list (pe_cd C__law_mixed_O hr (by decide) (by rfl) (pa_cons (pv 0) (pa_cons (pv 5) pa_nil))) (po_some pe_int) po_none) (pa_cons (pe_op op_cat (pe_lst (pa_cons pe_dnewK pa_nil)) (pe_slice sl_list (pe_cd C__law_mixed_M hr (by decide) (by rfl) (pa_cons (pv 0) (pa_cons (pe_slice sl_list (pv 2) (po_some pe_int) po_none) pa_nil))) (po_some pe_int) po_none)) pa_nil)) (by rfl)) (pss_cons (ps_if (pt_cmpR op_notN (pe_cd C_covered hr (by decide) (by rfl) (pa_cons (pv 4) (pa_cons (pv 9) (pa_cons (pv 10) (pa_cons (pv 3) (pa_cons (pv 8) pa_nil)))))) pe_non (nomark _)) (pss_cons (ps_ret pe_bl) pss_nil) pss_nil) (pss_cons (ps_ret (pe_cmpR op_notN (pe_cd C_covered hr (by decide) (by rfl) (pa_cons (pv 4) (pa_cons (pv 5) (pa_cons (pv 2) (pa_cons (pv 3) (pa_cons (pe_op op_sub (pv 6) pe_int) pa_nil)))))) pe_non (nomark _))) pss_nil))), fun r b hb v_units v_shifts v_fees v_lot v_bids v_top v_wider v_purse P h => by
    unfold w__law_more_right_p3 at h
    exact sd_seq (sd_par (i := 9) (j := 10) (ea_consZ (ev_fresh (ef_sl (fun h => h) (ec_ev (Ev.imp (ev_call (stp (by omega)) (ea_tok rfl (ea_cons (ev_var rfl (ea_nil h))))) (fun y956 h957 => eo_some (ev_int (eo_none (fun z_few_960 e968 => ea_consZ (ev_fresh (ef_cat (fun h => h) (ec_ev (ev_fresh (ef_lst (es_cons (evd_fresh (eg_new (es_nil (⟨Nat.le_of_ble_eq_true rfl, ec_ev (ev_fresh (ef_sl (fun h => h) (ec_ev (Ev.imp (ev_call (stp (by omega)) (ea_tok rfl (ea_cons (ev_fresh (ef_sl (fun h => h) (ec_ev (ev_var rfl (eo_some (ev_int (eo_none (ea_nil (h957 z_few_960 e968)))))))))))) (fun y958 h959 => eo_some (ev_int (eo_none (⟨h959.1, fun z_some_961 e969 => ea_nil (sd_seq (sd_if (et_test (ev_notN (fun h => h) (Ev.imp (ev_call rfl (ea_cons (ev_var rfl (ea_cons (ev_var rfl (ea_cons (ev_var rfl (ea_cons (ev_var rfl (ea_cons (ev_var rfl (ea_nil (h959.2 z_some_961 e969))))))))))))) (fun y962 h963 => ⟨fun e966 => sd_seq (sd_retW rfl (ev_bl ((h963.1 e966))) (stle (by omega))), fun e967 => sd_next (sd_seq (sd_retW rfl (ev_notN (fun h => h) (Ev.imp (ev_call rfl (ea_cons (ev_var rfl (ea_cons (ev_var rfl (ea_cons (ev_var rfl (ea_cons (ev_var rfl (ea_cons (ev_I0 (f := fun i j : Int => i - j) (fun h => h) (ev_var rfl (ev_int (ea_nil (h963.2 e967))))))))))))))) (fun y964 h965 => h965))) (stle (by omega))))⟩))))))⟩))))))))⟩))))))))))))))))))))⟩
def w__law_more_right_p2 (v_units : (List Str)) (v_shifts : (List (Dc Str Int))) (v_fees : (Dc Str Int)) (v_lot : (Dc Str Int)) (v_bids : (List (T4 Str Str Int Int))) (v_top : Int) (v_wider : (List (T4 Str Str Int Int))) (P : Bool → Prop) : Prop := altW (fun (P949 : Bool → Prop) => (w_worst v_lot v_wider v_shifts v_fees (fun (y945 : (T3 Int Int (Tp Int))) => (((decide (y945.a < v_top)) = false → (w_need v_lot v_shifts (fun (y947 : Int) => (((decide (v_top < y947)) = false → P949 (decide (v_top < (0 : Int)))) ∧ ((decide (v_top < y947)) = true → P949 true))))) ∧ ((decide (y945.a < v_top)) = true → P949 true))))) (fun (y973 : Bool) => ((y973 = true → P false) ∧ (y973 = false → (w__law_take (3 : Int) (fun (y951 : Int) => ∀ (z_purse_953 : Int), z_purse_953 = (v_top + y951) → (w_covered v_lot v_bids v_shifts v_fees z_purse_953 (fun (y954 : (Option (T3 Int Int (Tp Int)))) => (((Option.isSome y954) = true → P false) ∧ ((Option.isSome y954) = false → w__law_more_right_p3 v_units v_shifts v_fees v_lot v_bids v_top v_wider z_purse_953 P)))))))))
theorem part__law_more_right_p2 (X : Tx K mg) (C_worst : CalD P w K mg base 6 "worst" (spD K AnyW W_worst) []) (C_need : CalD P w K mg base 5 "need" (spD K AnyW W_need) []) (C__law_take : CalD P w K mg base 1 "_law_take" (spD K (Stp 1) W__law_take) []) (C_covered : CalD P w K mg base 6 "covered" (spD K AnyW W_covered) []) (C__law_mixed_O : CalD P w K mg base 2 "_law_mixed" (spD K (Stp 100) (W__law_mixed (α := (T4 Str Str Int Int)))) []) (C__law_mixed_M : CalD P w K mg base 2 "_law_mixed" (spD K (Stp 100) (W__law_mixed (α := (Dc Str Int)))) []) {f : Addr} {cdv : Value} {A : Around} {outer : List Env} {s : Shared} {H : Hp} {E : XK} (hr : Room 6 (A.deeper (envOfC "_law_more_right" (defScope (topS 57)) s.heap.objs.size f cdv))) :
    ∃ t, PSs (cxOf CX0 P w K mg base ["state", "units", "shifts", "fees", "lot", "bids", "top", "wider", "purse", "few", "some", "bid"] "_law_more_right" (defScope (topS 57)) f cdv A outer s H E).nox ((defBody (topS 57)).drop 6) t ∧ ∀ (r : Addr) (b : Nat), b + 11002 ≤ limB → ∀ (v_units : (List Str)) (v_shifts : (List (Dc Str Int))) (v_fees : (Dc Str Int)) (v_lot : (Dc Str Int)) (v_bids : (List (T4 Str Str Int Int))) (v_top : Int) (v_wider : (List (T4 Str Str Int Int))) (P : Bool → Prop), w__law_more_right_p2 v_units v_shifts v_fees v_lot v_bids v_top v_wider P → Sd (Wst r (b + 10801)) K t [.raw (.ref r), sD (α := (List Str)) v_units, sD (α := (List (Dc Str Int))) v_shifts, sD (α := (Dc Str Int)) v_fees, sD (α := (Dc Str Int)) v_lot, sD (α := (List (T4 Str Str Int Int))) v_bids, sD (α := Int) v_top, sD (α := (List (T4 Str Str Int Int))) v_wider, .non, .non, .non, .non] { nx := fun _ _ => False, rt := rtW (Wst r (b + 11002)) P } := by
  obtain ⟨t3, d3, s3⟩ := part__law_more_right_p3 X C__law_mixed_O C__law_mixed_M C_covered hr
  exact ⟨_, (pss_cons (ps_if (PW.pt (pw_or (pt_cmpR op_lt (pe_ix ix_tup (pe_cd C_worst hr (by decide) (by rfl) (pa_cons (pv 4) (pa_cons (pv 7) (pa_cons (pv 2) (pa_cons (pv 3) pa_nil))))) pe_int (fun _ _ => rfl)) (pv 6) (nomark _)) (pw_or (pt_cmpR op_gt (pe_cd C_need hr (by decide) (by rfl) (pa_cons (pv 4) (pa_cons (pv 2) pa_nil))) (pv 6) (nomark _)) (pw_or1 (pt_cmpR op_lt (pv 6) pe_int (nomark _)))))) (pss_cons (ps_ret pe_bl) pss_nil) pss_nil) (pss_cons (ps_set (i := 8) sc__law_more_right.nd (by rfl) (by first | exact .inl rfl | exact .inr rfl) (pe_op op_add (pv 6) (pe_cd C__law_take hr (by decide) (by rfl) (pa_cons (pv 0) (pa_cons pe_int pa_nil))))) (pss_cons (ps_if (pt_cmpR op_notN (pe_cd C_covered hr (by decide) (by rfl) (pa_cons (pv 4) (pa_cons (pv 5) (pa_cons (pv 2) (pa_cons (pv 3) (pa_cons (pv 8) pa_nil)))))) pe_non (nomark _)) (pss_cons (ps_ret pe_bl) pss_nil) pss_nil) d3))), fun r b hb v_units v_shifts v_fees v_lot v_bids v_top v_wider P h => by
    unfold w__law_more_right_p2 at h
    exact sd_seq (sd_if (et_alt h (by exact fun h950 => et_or (et_test (ev_I0 (f := fun i j : Int => (decide (i < j))) (fun h => h) (ev_t30 (fun h => h) (Ev.imp (ev_call rfl (ea_cons (ev_var rfl (ea_cons (ev_var rfl (ea_cons (ev_var rfl (ea_cons (ev_var rfl (ea_nil h950)))))))))) (fun y945 h946 => ev_var rfl (⟨fun e978 => et_or (et_test (ev_I0 (f := fun i j : Int => (decide (j < i))) (fun h => h) (Ev.imp (ev_call rfl (ea_cons (ev_var rfl (ea_cons (ev_var rfl (ea_nil (h946.1 e978))))))) (fun y947 h948 => ev_var rfl (⟨fun e980 => et_test (ev_I0 (f := fun i j : Int => (decide (i < j))) (fun h => h) (ev_var rfl (ev_int ((h948.1 e980))))), fun e981 => h948.2 e981⟩))))) (stle (by omega)), fun e979 => h946.2 e979⟩)))))) (stle (by omega))) (fun y976 h977 => ⟨fun e974 => sd_seq (sd_retW rfl (ev_bl ((h977.1 e974))) (stle (by omega))), fun e975 => sd_next (sd_seq (sd_asgZ (i := 8) (ev_I0 (f := fun i j : Int => i + j) (fun h => h) (ev_var rfl (Ev.imp (ev_call (stp (by omega)) (ea_tok rfl (ea_cons (ev_int (ea_nil (h977.2 e975)))))) (fun y951 h952 => fun z_purse_953 e972 => sd_seq (sd_if (et_test (ev_notN (fun h => h) (Ev.imp (ev_call rfl (ea_cons (ev_var rfl (ea_cons (ev_var rfl (ea_cons (ev_var rfl (ea_cons (ev_var rfl (ea_cons (ev_var rfl (ea_nil (h952 z_purse_953 e972))))))))))))) (fun y954 h955 => ⟨fun e970 => sd_seq (sd_retW rfl (ev_bl ((h955.1 e970))) (stle (by omega))), fun e971 => sd_next (sd_le (stle (by omega)) (s3 r b hb v_units v_shifts v_fees v_lot v_bids v_top v_wider z_purse_953 _ (h955.2 e971)))⟩)))))))))))⟩)))⟩
def w__law_more_right_p1 (v_units : (List Str)) (v_shifts : (List (Dc Str Int))) (v_fees : (Dc Str Int)) (v_lot : (Dc Str Int)) (v_bids : (List (T4 Str Str Int Int))) (v_top : Int) (P : Bool → Prop) : Prop := (altW (fun (P925 : (List (Dc Str Int)) → Prop) => (((decide ((1 : Int) < (v_shifts.length : Int))) = true → P925 (cutL v_shifts none (some (-(1 : Int))))) ∧ ((decide ((1 : Int) < (v_shifts.length : Int))) = false → P925 v_shifts))) (fun (y985 : (List (Dc Str Int))) => w_worst v_lot v_bids y985 v_fees (fun (y929 : (T3 Int Int (Tp Int))) => (((decide (v_top < y929.a)) = true → P false) ∧ ((decide (v_top < y929.a)) = false → (w_worst v_lot (cutL v_bids (some (1 : Int)) none) v_shifts v_fees (fun (y931 : (T3 Int Int (Tp Int))) => (((decide (v_top < y931.a)) = true → P false) ∧ ((decide (v_top < y931.a)) = false → (v_bids.length ≤ 100 ∧ compW (fun (x933 : (T4 Str Str Int Int)) (R934 : Option (T4 Str Str Int Int) → Prop) => (w__law_take (3 : Int) (fun (y936 : Int) => R934 (some (T4.mk (T3.mk x933.a x933.b x933.c).a (T3.mk x933.a x933.b x933.c).b (T3.mk x933.a x933.b x933.c).c (if (x933.d + y936) < (99 : Int) then (x933.d + y936) else (99 : Int))))))) (fun (y940 : (List (T4 Str Str Int Int))) => ∀ (z_wider_944 : (List (T4 Str Str Int Int))), z_wider_944 = y940 → w__law_more_right_p2 v_units v_shifts v_fees v_lot v_bids v_top z_wider_944 P) v_bids []))))))))))
theorem part__law_more_right_p1 (X : Tx K mg) (C_worst : CalD P w K mg base 6 "worst" (spD K AnyW W_worst) []) (C__law_take : CalD P w K mg base 1 "_law_take" (spD K (Stp 1) W__law_take) []) (C_need : CalD P w K mg base 5 "need" (spD K AnyW W_need) []) (C_covered : CalD P w K mg base 6 "covered" (spD K AnyW W_covered) []) (C__law_mixed_O : CalD P w K mg base 2 "_law_mixed" (spD K (Stp 100) (W__law_mixed (α := (T4 Str Str Int Int)))) []) (C__law_mixed_M : CalD P w K mg base 2 "_law_mixed" (spD K (Stp 100) (W__law_mixed (α := (Dc Str Int)))) []) {f : Addr} {cdv : Value} {A : Around} {outer : List Env} {s : Shared} {H : Hp} {E : XK} (hr : Room 6 (A.deeper (envOfC "_law_more_right" (defScope (topS 57)) s.heap.objs.size f cdv))) :
    ∃ t, PSs (cxOf CX0 P w K mg base ["state", "units", "shifts", "fees", "lot", "bids", "top", "wider", "purse", "few", "some", "bid"] "_law_more_right" (defScope (topS 57)) f cdv A outer s H E).nox ((defBody (topS 57)).drop 3) t ∧ ∀ (r : Addr) (b : Nat), b + 11002 ≤ limB → ∀ (v_units : (List Str)) (v_shifts : (List (Dc Str Int))) (v_fees : (Dc Str Int)) (v_lot : (Dc Str Int)) (v_bids : (List (T4 Str Str Int Int))) (v_top : Int) (P : Bool → Prop), w__law_more_right_p1 v_units v_shifts v_fees v_lot v_bids v_top P → Sd (Wst r (b + 10701)) K t [.raw (.ref r), sD (α := (List Str)) v_units, sD (α := (List (Dc Str Int))) v_shifts, sD (α := (Dc Str Int)) v_fees, sD (α := (Dc Str Int)) v_lot, sD (α := (List (T4 Str Str Int Int))) v_bids, sD (α := Int) v_top, .non, .non, .non, .non, .non] { nx := fun _ _ => False, rt := rtW (Wst r (b + 11002)) P } := by
  obtain ⟨t2, d2, s2⟩ := part__law_more_right_p2 X C_worst C_need C__law_take C_covered C__law_mixed_O C__law_mixed_M hr
  exact ⟨_, (pss_cons (ps_if (pt_cmpR op_gt (pe_ix ix_tup (pe_cd C_worst hr (by decide) (by rfl) (pa_cons (pv 4) (pa_cons (pv 5) (pa_cons (pe_ifExp (pt_cmpR op_gt (pe_callB call_len_seq (by rfl) X.b_len rfl (pa_cons (pv 2) pa_nil)) pe_int (nomark _)) (pe_slice sl_list (pv 2) po_none (po_some (pe_un un_neg pe_int))) (pv 2)) (pa_cons (pv 3) pa_nil))))) pe_int (fun _ _ => rfl)) (pv 6) (nomark _)) (pss_cons (ps_ret pe_bl) pss_nil) pss_nil) (pss_cons (ps_if (pt_cmpR op_gt (pe_ix ix_tup (pe_cd C_worst hr (by decide) (by rfl) (pa_cons (pv 4) (pa_cons (pe_slice sl_list (pv 5) (po_some pe_int) po_none) (pa_cons (pv 2) (pa_cons (pv 3) pa_nil))))) pe_int (fun _ _ => rfl)) (pv 6) (nomark _)) (pss_cons (ps_ret pe_bl) pss_nil) pss_nil) (pss_cons (ps_setLc (i := 7) rfl sc__law_more_right.nd (by rfl) (by rfl) (sw_true rfl rfl rfl rfl) (pi_list (pv 5)) (blkOk_by (N := ["state", "units", "shifts", "fees", "lot", "bids", "top", "wider", "purse", "few", "some", "bid"]) (sc := defScope (topS 57)) (own := [("bid", 11)]) (by decide +kernel)) (fun _ _ _ _ _ => (pg_name (i := 11) sc__law_more_right.nd (by rfl) (by first | exact .inl rfl | exact .inr rfl))) (fun _ _ _ _ _ => pts_nil) (fun _ _ _ _ _ => (pe_op op_catA (pe_slice sl_tupA (pv 11) po_none (po_some pe_int)) (pe_tup (pa_cons (pe_callB (call_min2 rfl) (by rfl) X.b_min rfl (pa_cons pe_int (pa_cons (pe_op op_add (pe_ix ix_tup (pv 11) pe_int (fun _ _ => rfl)) (pe_cd C__law_take hr (by decide) (by rfl) (pa_cons (pv 0) (pa_cons pe_int pa_nil)))) pa_nil))) pa_nil))))) d2))), fun r b hb v_units v_shifts v_fees v_lot v_bids v_top P h => by
    unfold w__law_more_right_p1 at h
    exact sd_seq (sd_if (et_test (ev_I0 (f := fun i j : Int => (decide (j < i))) (fun h => h) (ev_t30 (fun h => h) (Ev.imp (ev_call rfl (ea_cons (ev_var rfl (ea_cons (ev_var rfl (ea_cons (ev_alt h (by exact fun h926 => ev_if (et_test (ev_I0 (f := fun i j : Int => (decide (j < i))) (fun h => h) (ev_lenC (fun h => h) (ec_ev (ev_var rfl (ev_int (⟨fun e927 => ev_fresh (ef_sl (fun h => h) (ec_ev (ev_var rfl (eo_none (eo_some (ev_U (f := fun i : Int => -i) (ev_int ((h926.1 e927))))))))), fun e928 => ev_var rfl ((h926.2 e928))⟩)))))))) (fun y988 h989 => ea_cons (ev_var rfl (ea_nil h989)))))))))) (fun y929 h930 => ev_var rfl (⟨fun e986 => sd_seq (sd_retW rfl (ev_bl ((h930.1 e986))) (stle (by omega))), fun e987 => sd_next (sd_seq (sd_if (et_test (ev_I0 (f := fun i j : Int => (decide (j < i))) (fun h => h) (ev_t30 (fun h => h) (Ev.imp (ev_call rfl (ea_cons (ev_var rfl (ea_cons (ev_fresh (ef_sl (fun h => h) (ec_ev (ev_var rfl (eo_some (ev_int (eo_none (ea_cons (ev_var rfl (ea_cons (ev_var rfl (ea_nil (h930.2 e987))))))))))))))))) (fun y931 h932 => ev_var rfl (⟨fun e983 => sd_seq (sd_retW rfl (ev_bl ((h932.1 e983))) (stle (by omega))), fun e984 => sd_next (sd_seq (sd_asgZ (i := 7) (ev_fresh (EvF.imp (ef_lcWs (N := 100) (fun i938 => Wst r (b + 10701 + i938 * 1)) (Wst r (b + 10801)) (evio_wk (stle (by omega)) (evio (evi_list (ev_var rfl ((h932.2 e984)))))) (by exact fun i938 x933 R934 h939 h935 => bd_yes (tgc_name (ev_wk (stle (by omega)) (ev_cat31 (fun h => h) (ev_t4cut (fun h => h) (ev_var rfl (ev_tp (es_cons (ev_min2 (ev_int (ev_I0 (f := fun i j : Int => i + j) (fun h => h) (ev_t43 (fun h => h) (ev_var rfl (Ev.imp (ev_call (stp (by omega)) (ea_tok rfl (ea_cons (ev_int (ea_nil h935))))) (fun y936 h937 => es_nil ⟨Nat.le_of_ble_eq_true rfl, _, rfl, h937⟩)))))))))))))) (stle (by omega))) rfl (fun i938 h939 => (stle (by omega)))) (fun y940 h943 => fun z_wider_944 e982 => sd_le (stle (by omega)) (s2 r b hb v_units v_shifts v_fees v_lot v_bids v_top z_wider_944 _ (h943 z_wider_944 e982)))))))⟩))))))))⟩)))))))⟩
def w__law_more_right (a_units : (List Str)) (a_shifts : (List (Dc Str Int))) (a_fees : (Dc Str Int)) (P : Bool → Prop) : Prop := (w__law_position a_units (fun (y916 : (Dc Str Int)) => ∀ (z_lot_918 : (Dc Str Int)), z_lot_918 = y916 → (w__law_orders a_units (4 : Int) (fun (y919 : (List (T4 Str Str Int Int))) => ∀ (z_bids_921 : (List (T4 Str Str Int Int))), z_bids_921 = y919 → (w_worst z_lot_918 z_bids_921 a_shifts a_fees (fun (y922 : (T3 Int Int (Tp Int))) => ∀ (z_top_924 : Int), z_top_924 = y922.a → w__law_more_right_p1 a_units a_shifts a_fees z_lot_918 z_bids_921 z_top_924 P))))))
abbrev W__law_more_right (g : Stk × (List Str) × (List (Dc Str Int)) × (Dc Str Int) × Unit) (P : Bool → Prop) : Prop := w__law_more_right g.2.1 g.2.2.1 g.2.2.2.1 P
theorem walk__law_more_right {f : Addr} {fd : FuncData} (X : Tx K mg) (C__law_position : CalD P w K mg base 3 "_law_position" (spD K (Stp 10200) W__law_position) []) (C__law_orders : CalD P w K mg base 2 "_law_orders" (spD K (Stp 501) W__law_orders) []) (C_worst : CalD P w K mg base 6 "worst" (spD K AnyW W_worst) []) (C__law_take : CalD P w K mg base 1 "_law_take" (spD K (Stp 1) W__law_take) []) (C_need : CalD P w K mg base 5 "need" (spD K AnyW W_need) []) (C_covered : CalD P w K mg base 6 "covered" (spD K AnyW W_covered) []) (C__law_mixed_O : CalD P w K mg base 2 "_law_mixed" (spD K (Stp 100) (W__law_mixed (α := (T4 Str Str Int Int)))) []) (C__law_mixed_M : CalD P w K mg base 2 "_law_mixed" (spD K (Stp 100) (W__law_mixed (α := (Dc Str Int)))) []) (F : Fun K "_law_more_right" "_law_more_right" (topS 57) f fd) (hm : mg "_law_more_right" = some (.ref f)) (bd : Binds K fd ["state", "units", "shifts", "fees"] []) : CalD P w K mg base 7 "_law_more_right" (spD K (Stp 11002) W__law_more_right) [] :=
  cal_ok F hm bd sc__law_more_right rfl (by decide) fun cdv A outer s H E hr => by
    obtain ⟨t1, d1, s1⟩ := part__law_more_right_p1 X C_worst C__law_take C_need C_covered C__law_mixed_O C__law_mixed_M hr
    exact ⟨_, (pss_cons (ps_set (i := 4) sc__law_more_right.nd (by rfl) (by first | exact .inl rfl | exact .inr rfl) (pe_cd C__law_position hr (by decide) (by rfl) (pa_cons (pv 0) (pa_cons (pv 1) pa_nil)))) (pss_cons (ps_set (i := 5) sc__law_more_right.nd (by rfl) (by first | exact .inl rfl | exact .inr rfl) (pe_cd C__law_orders hr (by decide) (by rfl) (pa_cons (pv 0) (pa_cons (pv 1) (pa_cons pe_int pa_nil))))) (pss_cons (ps_set (i := 6) sc__law_more_right.nd (by rfl) (by first | exact .inl rfl | exact .inr rfl) (pe_ix ix_tup (pe_cd C_worst hr (by decide) (by rfl) (pa_cons (pv 4) (pa_cons (pv 5) (pa_cons (pv 2) (pa_cons (pv 3) pa_nil))))) pe_int (fun _ _ => rfl))) d1))), fun W W2 hW g P h => by
      obtain ⟨r, b, e1, e2, hb⟩ := hW
      subst e1 e2
      unfold W__law_more_right w__law_more_right at h
      exact sd_seq (sd_asgZ (i := 4) (Ev.imp (ev_call (stp (by omega)) (ea_tok rfl (ea_cons (ev_var rfl (ea_nil h))))) (fun y916 h917 => fun z_lot_918 e992 => sd_seq (sd_asgZ (i := 5) (Ev.imp (ev_call (stp (by omega)) (ea_tok rfl (ea_cons (ev_var rfl (ea_cons (ev_int (ea_nil (h917 z_lot_918 e992)))))))) (fun y919 h920 => fun z_bids_921 e991 => sd_seq (sd_asgZ (i := 6) (ev_t30 (fun h => h) (Ev.imp (ev_call rfl (ea_cons (ev_var rfl (ea_cons (ev_var rfl (ea_cons (ev_var rfl (ea_cons (ev_var rfl (ea_nil (h920 z_bids_921 e991))))))))))) (fun y922 h923 => fun z_top_924 e990 => sd_le (stle (by omega)) (s1 r b hb g.2.1 g.2.2.1 g.2.2.2.1 z_lot_918 z_bids_921 z_top_924 _ (h923 z_top_924 e990))))))))))))⟩

theorem sc__law_names_right : FnScope ["state", "units", "shifts", "fees", "lot", "bids", "words", "names", "far", "way1", "limit", "wide", "got", "mixed", "purse", "due", "led", "again2", "k", "unit", "amount", "shift"] ["state", "units", "shifts", "fees"] (defScope (topS 58)) := ⟨rfl, rfl, rfl, by decide +kernel, rfl, by decide +kernel, by decide +kernel⟩
def w__law_names_right_p5 (v_units : (List Str)) (v_shifts : (List (Dc Str Int))) (v_fees : (Dc Str Int)) (v_lot : (Dc Str Int)) (v_bids : (List (T4 Str Str Int Int))) (v_words : (List Str)) (v_names : (Dc Str Str)) (v_far : (List (T4 Str Str Int Int))) (v_way1 : Str) (v_limit : Int) (v_wide : (List (Dc Str Int))) (v_got : (T3 Int Int (Tp Int))) (v_mixed : (T3 Int Int (Tp Int))) (v_purse : Int) (v_due : (Option Int)) (P : Bool → Prop) : Prop := ((w__law_led v_names v_lot (fun (y1076 : (Dc Str Int)) => (w__law_led v_names v_fees (fun (y1078 : (Dc Str Int)) => (∃ (x1082 : Str), atI v_units (0 : Int) = some x1082 ∧ (∃ (x1080 : Str), look v_names.l x1082 = some x1080 ∧ w_room y1076 v_far v_wide y1078 v_purse v_way1 x1080 v_limit (fun (y1084 : (Option Int)) => ∀ (z_led_1086 : (Option Int)), z_led_1086 = y1084 → ((∃ (x1087 : Str), atI v_units (0 : Int) = some x1087 ∧ w_room v_lot (List.reverse v_bids) v_shifts v_fees v_purse v_way1 x1087 v_limit (fun (y1089 : (Option Int)) => ∀ (z_again2_1091 : (Option Int)), z_again2_1091 = y1089 → altW (fun (P1092 : Bool → Prop) => (((decide (z_led_1086 = v_due)) = true → P1092 (decide (v_due = z_again2_1091))) ∧ ((decide (z_led_1086 = v_due)) = false → P1092 false))) (fun (y1094 : Bool) => P y1094))))))))))))
theorem part__law_names_right_p5 (X : Tx K mg) (C_room : CalD P w K mg base 6 "room" (spD K AnyW W_room) []) (C__law_led : CalD P w K mg base 1 "_law_led" (spD K AnyW W__law_led) []) {f : Addr} {cdv : Value} {A : Around} {outer : List Env} {s : Shared} {H : Hp} {E : XK} (hr : Room 6 (A.deeper (envOfC "_law_names_right" (defScope (topS 58)) s.heap.objs.size f cdv))) :
    ∃ t, PSs (cxOf CX0 P w K mg base ["state", "units", "shifts", "fees", "lot", "bids", "words", "names", "far", "way1", "limit", "wide", "got", "mixed", "purse", "due", "led", "again2", "k", "unit", "amount", "shift"] "_law_names_right" (defScope (topS 58)) f cdv A outer s H E).nox ((defBody (topS 58)).drop 15) t ∧ ∀ (r : Addr) (b : Nat), b + 10904 ≤ limB → ∀ (v_units : (List Str)) (v_shifts : (List (Dc Str Int))) (v_fees : (Dc Str Int)) (v_lot : (Dc Str Int)) (v_bids : (List (T4 Str Str Int Int))) (v_words : (List Str)) (v_names : (Dc Str Str)) (v_far : (List (T4 Str Str Int Int))) (v_way1 : Str) (v_limit : Int) (v_wide : (List (Dc Str Int))) (v_got : (T3 Int Int (Tp Int))) (v_mixed : (T3 Int Int (Tp Int))) (v_purse : Int) (v_due : (Option Int)) (P : Bool → Prop), w__law_names_right_p5 v_units v_shifts v_fees v_lot v_bids v_words v_names v_far v_way1 v_limit v_wide v_got v_mixed v_purse v_due P → Sd (Wst r (b + 10904)) K t [.raw (.ref r), sD (α := (List Str)) v_units, sD (α := (List (Dc Str Int))) v_shifts, sD (α := (Dc Str Int)) v_fees, sD (α := (Dc Str Int)) v_lot, sD (α := (List (T4 Str Str Int Int))) v_bids, sD (α := (List Str)) v_words, sD (α := (Dc Str Str)) v_names, sD (α := (List (T4 Str Str Int Int))) v_far, sD (α := Str) v_way1, sD (α := Int) v_limit, sD (α := (List (Dc Str Int))) v_wide, sD (α := (T3 Int Int (Tp Int))) v_got, sD (α := (T3 Int Int (Tp Int))) v_mixed, sD (α := Int) v_purse, sD (α := (Option Int)) v_due, .non, .non, .non, .non, .non, .non] { nx := fun _ _ => False, rt := rtW (Wst r (b + 10904)) P } := by
  exact ⟨_, (pss_cons (ps_set (i := 16) sc__law_names_right.nd (by rfl) (by first | exact .inl rfl | exact .inr rfl) (pe_cd C_room hr (by decide) (by rfl) (pa_cons (pe_cd C__law_led hr (by decide) (by rfl) (pa_cons (pv 7) (pa_cons (pv 4) pa_nil))) (pa_cons (pv 8) (pa_cons (pv 11) (pa_cons (pe_cd C__law_led hr (by decide) (by rfl) (pa_cons (pv 7) (pa_cons (pv 3) pa_nil))) (pa_cons (pv 14) (pa_cons (pv 9) (pa_cons (pe_dget (hu_of hr) (pv 7) (pe_ix ix_list (pv 1) pe_int (fun _ _ => rfl)) (fun _ _ => rfl)) (pa_cons (pv 10) pa_nil)))))))))) (pss_cons (ps_set (i := 17) sc__law_names_right.nd (by rfl) (by first | exact .inl rfl | exact .inr rfl) (pe_cd C_room hr (by decide) (by rfl) (pa_cons (pv 4) (pa_cons (pe_revL (pv 5)) (pa_cons (pv 2) (pa_cons (pv 3) (pa_cons (pv 14) (pa_cons (pv 9) (pa_cons (pe_ix ix_list (pv 1) pe_int (fun _ _ => rfl)) (pa_cons (pv 10) pa_nil)))))))))) (pss_cons (ps_ret (pe_and (pe_cmpR op_eq (pv 16) (pv 15) (nomark _)) (pe_one (pe_cmpR op_eq (pv 15) (pv 17) (nomark _))))) pss_nil))), fun r b hb v_units v_shifts v_fees v_lot v_bids v_words v_names v_far v_way1 v_limit v_wide v_got v_mixed v_purse v_due P h => by
    unfold w__law_names_right_p5 at h
    exact sd_seq (sd_asgZ (i := 16) (Ev.imp (ev_call rfl (ea_cons (Ev.imp (ev_call rfl (ea_cons (ev_var rfl (ea_cons (ev_var rfl (ea_nil h)))))) (fun y1076 h1077 => ea_cons (ev_var rfl (ea_cons (ev_var rfl (ea_cons (Ev.imp (ev_call rfl (ea_cons (ev_var rfl (ea_cons (ev_var rfl (ea_nil h1077)))))) (fun y1078 h1079 => ea_cons (ev_var rfl (ea_cons (ev_var rfl (ea_cons (ev_dget (ecd_ev (ev_var rfl (ev_ixL (fun h => h) (ec_ev (ev_var rfl (ev_int (Exists.elim h1079 fun x1082 h1083 => ⟨x1082, h1083.1, Exists.elim h1083.2 fun x1080 h1081 => ⟨x1080, h1081.1, ea_cons (ev_var rfl (ea_nil h1081.2))⟩⟩)))))))))))))))))))))) (fun y1084 h1085 => fun z_led_1086 e1096 => sd_seq (sd_asgZ (i := 17) (Ev.imp (ev_call rfl (ea_cons (ev_var rfl (ea_cons (ev_fresh (ef_revL (ec_ev (ev_var rfl (ea_cons (ev_var rfl (ea_cons (ev_var rfl (ea_cons (ev_var rfl (ea_cons (ev_var rfl (ea_cons (ev_ixL (fun h => h) (ec_ev (ev_var rfl (ev_int (Exists.elim (h1085 z_led_1086 e1096) fun x1087 h1088 => ⟨x1087, h1088.1, ea_cons (ev_var rfl (ea_nil h1088.2))⟩)))))))))))))))))))))) (fun y1089 h1090 => fun z_again2_1091 e1095 => sd_seq (sd_retW rfl (ev_alt (h1090 z_again2_1091 e1095) (by exact fun h1093 => ev_andV (ev_eqO (fun h => h) (ev_var rfl (ev_var rfl (⟨fun e1099 => ev_eqO (fun h => h) (ev_var rfl (ev_var rfl ((h1093.1 e1099)))), fun e1100 => h1093.2 e1100⟩)))) (stle (by omega))) (fun y1097 h1098 => h1098)) (stle (by omega)))))))))⟩
def w__law_names_right_p4 (v_units : (List Str)) (v_shifts : (List (Dc Str Int))) (v_fees : (Dc Str Int)) (v_lot : (Dc Str Int)) (v_bids : (List (T4 Str Str Int Int))) (v_words : (List Str)) (v_names : (Dc Str Str)) (v_far : (List (T4 Str Str Int Int))) (v_wide : (List (Dc Str Int))) (v_got : (T3 Int Int (Tp Int))) (v_mixed : (T3 Int Int (Tp Int))) (v_purse : Int) (P : Bool → Prop) : Prop := (w__law_take (2 : Int) (fun (y1065 : Int) => (∃ (x1063 : Str), atI [("buy" : Str), ("sell" : Str)] y1065 = some x1063 ∧ ∀ (z_way1_1067 : Str), z_way1_1067 = x1063 → (w__law_take (99 : Int) (fun (y1068 : Int) => ∀ (z_limit_1070 : Int), z_limit_1070 = ((1 : Int) + y1068) → ((∃ (x1071 : Str), atI v_units (0 : Int) = some x1071 ∧ w_room v_lot v_bids v_shifts v_fees v_purse z_way1_1067 x1071 z_limit_1070 (fun (y1073 : (Option Int)) => ∀ (z_due_1075 : (Option Int)), z_due_1075 = y1073 → w__law_names_right_p5 v_units v_shifts v_fees v_lot v_bids v_words v_names v_far z_way1_1067 z_limit_1070 v_wide v_got v_mixed v_purse z_due_1075 P))))))))
theorem part__law_names_right_p4 (X : Tx K mg) (C__law_take : CalD P w K mg base 1 "_law_take" (spD K (Stp 1) W__law_take) []) (C_room : CalD P w K mg base 6 "room" (spD K AnyW W_room) []) (C__law_led : CalD P w K mg base 1 "_law_led" (spD K AnyW W__law_led) []) {f : Addr} {cdv : Value} {A : Around} {outer : List Env} {s : Shared} {H : Hp} {E : XK} (hr : Room 6 (A.deeper (envOfC "_law_names_right" (defScope (topS 58)) s.heap.objs.size f cdv))) :
    ∃ t, PSs (cxOf CX0 P w K mg base ["state", "units", "shifts", "fees", "lot", "bids", "words", "names", "far", "way1", "limit", "wide", "got", "mixed", "purse", "due", "led", "again2", "k", "unit", "amount", "shift"] "_law_names_right" (defScope (topS 58)) f cdv A outer s H E).nox ((defBody (topS 58)).drop 12) t ∧ ∀ (r : Addr) (b : Nat), b + 10904 ≤ limB → ∀ (v_units : (List Str)) (v_shifts : (List (Dc Str Int))) (v_fees : (Dc Str Int)) (v_lot : (Dc Str Int)) (v_bids : (List (T4 Str Str Int Int))) (v_words : (List Str)) (v_names : (Dc Str Str)) (v_far : (List (T4 Str Str Int Int))) (v_wide : (List (Dc Str Int))) (v_got : (T3 Int Int (Tp Int))) (v_mixed : (T3 Int Int (Tp Int))) (v_purse : Int) (P : Bool → Prop), w__law_names_right_p4 v_units v_shifts v_fees v_lot v_bids v_words v_names v_far v_wide v_got v_mixed v_purse P → Sd (Wst r (b + 10902)) K t [.raw (.ref r), sD (α := (List Str)) v_units, sD (α := (List (Dc Str Int))) v_shifts, sD (α := (Dc Str Int)) v_fees, sD (α := (Dc Str Int)) v_lot, sD (α := (List (T4 Str Str Int Int))) v_bids, sD (α := (List Str)) v_words, sD (α := (Dc Str Str)) v_names, sD (α := (List (T4 Str Str Int Int))) v_far, .non, .non, sD (α := (List (Dc Str Int))) v_wide, sD (α := (T3 Int Int (Tp Int))) v_got, sD (α := (T3 Int Int (Tp Int))) v_mixed, sD (α := Int) v_purse, .non, .non, .non, .non, .non, .non, .non] { nx := fun _ _ => False, rt := rtW (Wst r (b + 10904)) P } := by
  obtain ⟨t5, d5, s5⟩ := part__law_names_right_p5 X C_room C__law_led hr
  exact ⟨_, (pss_cons (ps_set (i := 9) sc__law_names_right.nd (by rfl) (by first | exact .inl rfl | exact .inr rfl) (pe_ix ix_list (pe_lst (pa_cons pe_str (pa_cons pe_str pa_nil))) (pe_cd C__law_take hr (by decide) (by rfl) (pa_cons (pv 0) (pa_cons pe_int pa_nil))) (fun _ _ => rfl))) (pss_cons (ps_set (i := 10) sc__law_names_right.nd (by rfl) (by first | exact .inl rfl | exact .inr rfl) (pe_op op_add pe_int (pe_cd C__law_take hr (by decide) (by rfl) (pa_cons (pv 0) (pa_cons pe_int pa_nil))))) (pss_cons (ps_set (i := 15) sc__law_names_right.nd (by rfl) (by first | exact .inl rfl | exact .inr rfl) (pe_cd C_room hr (by decide) (by rfl) (pa_cons (pv 4) (pa_cons (pv 5) (pa_cons (pv 2) (pa_cons (pv 3) (pa_cons (pv 14) (pa_cons (pv 9) (pa_cons (pe_ix ix_list (pv 1) pe_int (fun _ _ => rfl)) (pa_cons (pv 10) pa_nil)))))))))) d5))), fun r b hb v_units v_shifts v_fees v_lot v_bids v_words v_names v_far v_wide v_got v_mixed v_purse P h => by
    unfold w__law_names_right_p4 at h
    exact sd_seq (sd_asgZ (i := 9) (ev_ixL (fun h => h) (ec_ev (ev_fresh (ef_lst (es_cons (ev_str (es_cons (ev_str (es_nil (⟨Nat.le_of_ble_eq_true rfl, Ev.imp (ev_call (stp (by omega)) (ea_tok rfl (ea_cons (ev_int (ea_nil h))))) (fun y1065 h1066 => Exists.elim h1066 fun x1063 h1064 => ⟨x1063, h1064.1, fun z_way1_1067 e1103 => sd_seq (sd_asgZ (i := 10) (ev_I0 (f := fun i j : Int => i + j) (fun h => h) (ev_int (Ev.imp (ev_call (stp (by omega)) (ea_tok rfl (ea_cons (ev_int (ea_nil (h1064.2 z_way1_1067 e1103)))))) (fun y1068 h1069 => fun z_limit_1070 e1102 => sd_seq (sd_asgZ (i := 15) (Ev.imp (ev_call rfl (ea_cons (ev_var rfl (ea_cons (ev_var rfl (ea_cons (ev_var rfl (ea_cons (ev_var rfl (ea_cons (ev_var rfl (ea_cons (ev_var rfl (ea_cons (ev_ixL (fun h => h) (ec_ev (ev_var rfl (ev_int (Exists.elim (h1069 z_limit_1070 e1102) fun x1071 h1072 => ⟨x1071, h1072.1, ea_cons (ev_var rfl (ea_nil h1072.2))⟩))))))))))))))))))) (fun y1073 h1074 => fun z_due_1075 e1101 => sd_le (stle (by omega)) (s5 r b hb v_units v_shifts v_fees v_lot v_bids v_words v_names v_far z_way1_1067 z_limit_1070 v_wide v_got v_mixed v_purse z_due_1075 _ (h1074 z_due_1075 e1101))))))))))⟩)⟩)))))))))))⟩
def w__law_names_right_p3 (v_units : (List Str)) (v_shifts : (List (Dc Str Int))) (v_fees : (Dc Str Int)) (v_lot : (Dc Str Int)) (v_bids : (List (T4 Str Str Int Int))) (v_words : (List Str)) (v_names : (Dc Str Str)) (v_far : (List (T4 Str Str Int Int))) (v_wide : (List (Dc Str Int))) (v_got : (T3 Int Int (Tp Int))) (P : Bool → Prop) : Prop := ((w__law_mixed (cutL v_shifts (some (1 : Int)) none) (fun (y1055 : (List (Dc Str Int))) => ([(Dc.mk ([] : List (Str × Int)))].length + y1055.length ≤ 100000 ∧ w_worst v_lot (List.reverse v_bids) ([(Dc.mk ([] : List (Str × Int)))] ++ y1055) v_fees (fun (y1057 : (T3 Int Int (Tp Int))) => ∀ (z_mixed_1059 : (T3 Int Int (Tp Int))), z_mixed_1059 = y1057 → (((!decide (z_mixed_1059.a = v_got.a)) = true → P false) ∧ ((!decide (z_mixed_1059.a = v_got.a)) = false → (w__law_take (60 : Int) (fun (y1060 : Int) => ∀ (z_purse_1062 : Int), z_purse_1062 = (v_got.a + y1060) → w__law_names_right_p4 v_units v_shifts v_fees v_lot v_bids v_words v_names v_far v_wide v_got z_mixed_1059 z_purse_1062 P)))))))))
theorem part__law_names_right_p3 (X : Tx K mg) (C_worst : CalD P w K mg base 6 "worst" (spD K AnyW W_worst) []) (C__law_mixed_M : CalD P w K mg base 2 "_law_mixed" (spD K (Stp 100) (W__law_mixed (α := (Dc Str Int)))) []) (C__law_take : CalD P w K mg base 1 "_law_take" (spD K (Stp 1) W__law_take) []) (C_room : CalD P w K mg base 6 "room" (spD K AnyW W_room) []) (C__law_led : CalD P w K mg base 1 "_law_led" (spD K AnyW W__law_led) []) {f : Addr} {cdv : Value} {A : Around} {outer : List Env} {s : Shared} {H : Hp} {E : XK} (hr : Room 6 (A.deeper (envOfC "_law_names_right" (defScope (topS 58)) s.heap.objs.size f cdv))) :
    ∃ t, PSs (cxOf CX0 P w K mg base ["state", "units", "shifts", "fees", "lot", "bids", "words", "names", "far", "way1", "limit", "wide", "got", "mixed", "purse", "due", "led", "again2", "k", "unit", "amount", "shift"] "_law_names_right" (defScope (topS 58)) f cdv A outer s H E).nox ((defBody (topS 58)).drop 9) t ∧ ∀ (r : Addr) (b : Nat), b + 10904 ≤ limB → ∀ (v_units : (List Str)) (v_shifts : (List (Dc Str Int))) (v_fees : (Dc Str Int)) (v_lot : (Dc Str Int)) (v_bids : (List (T4 Str Str Int Int))) (v_words : (List Str)) (v_names : (Dc Str Str)) (v_far : (List (T4 Str Str Int Int))) (v_wide : (List (Dc Str Int))) (v_got : (T3 Int Int (Tp Int))) (P : Bool → Prop), w__law_names_right_p3 v_units v_shifts v_fees v_lot v_bids v_words v_names v_far v_wide v_got P → Sd (Wst r (b + 10801)) K t [.raw (.ref r), sD (α := (List Str)) v_units, sD (α := (List (Dc Str Int))) v_shifts, sD (α := (Dc Str Int)) v_fees, sD (α := (Dc Str Int)) v_lot, sD (α := (List (T4 Str Str Int Int))) v_bids, sD (α := (List Str)) v_words, sD (α := (Dc Str Str)) v_names, sD (α := (List (T4 Str Str Int Int))) v_far, .non, .non, sD (α := (List (Dc Str Int))) v_wide, sD (α := (T3 Int Int (Tp Int))) v_got, .non, .non, .non, .non, .non, .non, .non, .non, .non] { nx := fun _ _ => False, rt := rtW (Wst r (b + 10904)) P } := by
  obtain ⟨t4, d4, s4⟩ := part__law_names_right_p4 X C__law_take C_room C__law_led hr
  exact ⟨_, (pss_cons (ps_set (i := 13) sc__law_names_right.nd (by rfl) (by first | exact .inl rfl | exact .inr rfl) (pe_cd C_worst hr (by decide) (by rfl) (pa_cons (pv 4) (pa_cons (pe_revL (pv 5)) (pa_cons (pe_op op_cat (pe_lst (pa_cons pe_dnewK pa_nil)) (pe_cd C__law_mixed_M hr (by decide) (by rfl) (pa_cons (pv 0) (pa_cons (pe_slice sl_list (pv 2) (po_some pe_int) po_none) pa_nil)))) (pa_cons (pv 3) pa_nil)))))) (pss_cons (ps_if (pt_cmpR op_ne (pe_ix ix_tup (pv 13) pe_int (fun _ _ => rfl)) (pe_ix ix_tup (pv 12) pe_int (fun _ _ => rfl)) (nomark _)) (pss_cons (ps_ret pe_bl) pss_nil) pss_nil) (pss_cons (ps_set (i := 14) sc__law_names_right.nd (by rfl) (by first | exact .inl rfl | exact .inr rfl) (pe_op op_add (pe_ix ix_tup (pv 12) pe_int (fun _ _ => rfl)) (pe_cd C__law_take hr (by decide) (by rfl) (pa_cons (pv 0) (pa_cons pe_int pa_nil))))) d4))), fun r b hb v_units v_shifts v_fees v_lot v_bids v_words v_names v_far v_wide v_got P h => by
    unfold w__law_names_right_p3 at h
    exact sd_seq (sd_asgZ (i := 13) (Ev.imp (ev_call rfl (ea_cons (ev_var rfl (ea_cons (ev_fresh (ef_revL (ec_ev (ev_var rfl (ea_cons (ev_fresh (ef_cat (fun h => h) (ec_ev (ev_fresh (ef_lst (es_cons (evd_fresh (eg_new (es_nil (⟨Nat.le_of_ble_eq_true rfl, ec_ev (Ev.imp (ev_call (stp (by omega)) (ea_tok rfl (ea_cons (ev_fresh (ef_sl (fun h => h) (ec_ev (ev_var rfl (eo_some (ev_int (eo_none (ea_nil h))))))))))) (fun y1055 h1056 => ⟨h1056.1, ea_cons (ev_var rfl (ea_nil h1056.2))⟩))⟩))))))))))))))))))) (fun y1057 h1058 => fun z_mixed_1059 e1107 => sd_seq (sd_if (et_test (ev_neI (fun h => h) (ev_t30 (fun h => h) (ev_var rfl (ev_t30 (fun h => h) (ev_var rfl (⟨fun e1105 => sd_seq (sd_retW rfl (ev_bl (((h1058 z_mixed_1059 e1107).1 e1105))) (stle (by omega))), fun e1106 => sd_next (sd_seq (sd_asgZ (i := 14) (ev_I0 (f := fun i j : Int => i + j) (fun h => h) (ev_t30 (fun h => h) (ev_var rfl (Ev.imp (ev_call (stp (by omega)) (ea_tok rfl (ea_cons (ev_int (ea_nil ((h1058 z_mixed_1059 e1107).2 e1106)))))) (fun y1060 h1061 => fun z_purse_1062 e1104 => sd_le (stle (by omega)) (s4 r b hb v_units v_shifts v_fees v_lot v_bids v_words v_names v_far v_wide v_got z_mixed_1059 z_purse_1062 _ (h1061 z_purse_1062 e1104)))))))))⟩)))))))))))⟩
def w__law_names_right_p2 (v_units : (List Str)) (v_shifts : (List (Dc Str Int))) (v_fees : (Dc Str Int)) (v_lot : (Dc Str Int)) (v_bids : (List (T4 Str Str Int Int))) (v_words : (List Str)) (v_names : (Dc Str Str)) (v_far : (List (T4 Str Str Int Int))) (v_wide : (List (Dc Str Int))) (P : Bool → Prop) : Prop := (w_worst v_lot v_bids v_shifts v_fees (fun (y1040 : (T3 Int Int (Tp Int))) => ∀ (z_got_1042 : (T3 Int Int (Tp Int))), z_got_1042 = y1040 → ((w__law_led v_names v_lot (fun (y1043 : (Dc Str Int)) => (w__law_led v_names v_fees (fun (y1045 : (Dc Str Int)) => w_worst y1043 v_far v_wide y1045 (fun (y1047 : (T3 Int Int (Tp Int))) => (((!decide (y1047 = z_got_1042)) = true → P false) ∧ ((!decide (y1047 = z_got_1042)) = false → ((w__law_led v_names v_lot (fun (y1049 : (Dc Str Int)) => w_need y1049 v_wide (fun (y1051 : Int) => (w_need v_lot v_shifts (fun (y1053 : Int) => (((!decide (y1051 = y1053)) = true → P false) ∧ ((!decide (y1051 = y1053)) = false → w__law_names_right_p3 v_units v_shifts v_fees v_lot v_bids v_words v_names v_far v_wide z_got_1042 P))))))))))))))))))
theorem part__law_names_right_p2 (X : Tx K mg) (C_worst : CalD P w K mg base 6 "worst" (spD K AnyW W_worst) []) (C__law_led : CalD P w K mg base 1 "_law_led" (spD K AnyW W__law_led) []) (C_need : CalD P w K mg base 5 "need" (spD K AnyW W_need) []) (C__law_mixed_M : CalD P w K mg base 2 "_law_mixed" (spD K (Stp 100) (W__law_mixed (α := (Dc Str Int)))) []) (C__law_take : CalD P w K mg base 1 "_law_take" (spD K (Stp 1) W__law_take) []) (C_room : CalD P w K mg base 6 "room" (spD K AnyW W_room) []) {f : Addr} {cdv : Value} {A : Around} {outer : List Env} {s : Shared} {H : Hp} {E : XK} (hr : Room 6 (A.deeper (envOfC "_law_names_right" (defScope (topS 58)) s.heap.objs.size f cdv))) :
    ∃ t, PSs (cxOf CX0 P w K mg base ["state", "units", "shifts", "fees", "lot", "bids", "words", "names", "far", "way1", "limit", "wide", "got", "mixed", "purse", "due", "led", "again2", "k", "unit", "amount", "shift"] "_law_names_right" (defScope (topS 58)) f cdv A outer s H E).nox ((defBody (topS 58)).drop 6) t ∧ ∀ (r : Addr) (b : Nat), b + 10904 ≤ limB → ∀ (v_units : (List Str)) (v_shifts : (List (Dc Str Int))) (v_fees : (Dc Str Int)) (v_lot : (Dc Str Int)) (v_bids : (List (T4 Str Str Int Int))) (v_words : (List Str)) (v_names : (Dc Str Str)) (v_far : (List (T4 Str Str Int Int))) (v_wide : (List (Dc Str Int))) (P : Bool → Prop), w__law_names_right_p2 v_units v_shifts v_fees v_lot v_bids v_words v_names v_far v_wide P → Sd (Wst r (b + 10801)) K t [.raw (.ref r), sD (α := (List Str)) v_units, sD (α := (List (Dc Str Int))) v_shifts, sD (α := (Dc Str Int)) v_fees, sD (α := (Dc Str Int)) v_lot, sD (α := (List (T4 Str Str Int Int))) v_bids, sD (α := (List Str)) v_words, sD (α := (Dc Str Str)) v_names, sD (α := (List (T4 Str Str Int Int))) v_far, .non, .non, sD (α := (List (Dc Str Int))) v_wide, .non, .non, .non, .non, .non, .non, .non, .non, .non, .non] { nx := fun _ _ => False, rt := rtW (Wst r (b + 10904)) P } := by
  obtain ⟨t3, d3, s3⟩ := part__law_names_right_p3 X C_worst C__law_mixed_M C__law_take C_room C__law_led hr
  exact ⟨_, (pss_cons (ps_set (i := 12) sc__law_names_right.nd (by rfl) (by first | exact .inl rfl | exact .inr rfl) (pe_cd C_worst hr (by decide) (by rfl) (pa_cons (pv 4) (pa_cons (pv 5) (pa_cons (pv 2) (pa_cons (pv 3) pa_nil)))))) (pss_cons (ps_if (pt_cmpR (op_neD (hu64 hr)) (pe_cd C_worst hr (by decide) (by rfl) (pa_cons (pe_cd C__law_led hr (by decide) (by rfl) (pa_cons (pv 7) (pa_cons (pv 4) pa_nil))) (pa_cons (pv 8) (pa_cons (pv 11) (pa_cons (pe_cd C__law_led hr (by decide) (by rfl) (pa_cons (pv 7) (pa_cons (pv 3) pa_nil))) pa_nil))))) (pv 12) (nomark _)) (pss_cons (ps_ret pe_bl) pss_nil) pss_nil) (pss_cons (ps_if (pt_cmpR op_ne (pe_cd C_need hr (by decide) (by rfl) (pa_cons (pe_cd C__law_led hr (by decide) (by rfl) (pa_cons (pv 7) (pa_cons (pv 4) pa_nil))) (pa_cons (pv 11) pa_nil))) (pe_cd C_need hr (by decide) (by rfl) (pa_cons (pv 4) (pa_cons (pv 2) pa_nil))) (nomark _)) (pss_cons (ps_ret pe_bl) pss_nil) pss_nil) d3))), fun r b hb v_units v_shifts v_fees v_lot v_bids v_words v_names v_far v_wide P h => by
    unfold w__law_names_right_p2 at h
    exact sd_seq (sd_asgZ (i := 12) (Ev.imp (ev_call rfl (ea_cons (ev_var rfl (ea_cons (ev_var rfl (ea_cons (ev_var rfl (ea_cons (ev_var rfl (ea_nil h)))))))))) (fun y1040 h1041 => fun z_got_1042 e1112 => sd_seq (sd_if (et_test (ev_neP (α := (T3 Int Int (Tp Int))) (fun h => h) (Ev.imp (ev_call rfl (ea_cons (Ev.imp (ev_call rfl (ea_cons (ev_var rfl (ea_cons (ev_var rfl (ea_nil (h1041 z_got_1042 e1112))))))) (fun y1043 h1044 => ea_cons (ev_var rfl (ea_cons (ev_var rfl (ea_cons (Ev.imp (ev_call rfl (ea_cons (ev_var rfl (ea_cons (ev_var rfl (ea_nil h1044)))))) (fun y1045 h1046 => ea_nil h1046)))))))))) (fun y1047 h1048 => ev_var rfl (⟨fun e1110 => sd_seq (sd_retW rfl (ev_bl ((h1048.1 e1110))) (stle (by omega))), fun e1111 => sd_next (sd_seq (sd_if (et_test (ev_neI (fun h => h) (Ev.imp (ev_call rfl (ea_cons (Ev.imp (ev_call rfl (ea_cons (ev_var rfl (ea_cons (ev_var rfl (ea_nil (h1048.2 e1111))))))) (fun y1049 h1050 => ea_cons (ev_var rfl (ea_nil h1050)))))) (fun y1051 h1052 => Ev.imp (ev_call rfl (ea_cons (ev_var rfl (ea_cons (ev_var rfl (ea_nil h1052)))))) (fun y1053 h1054 => ⟨fun e1108 => sd_seq (sd_retW rfl (ev_bl ((h1054.1 e1108))) (stle (by omega))), fun e1109 => sd_next (sd_le (stle (by omega)) (s3 r b hb v_units v_shifts v_fees v_lot v_bids v_words v_names v_far v_wide z_got_1042 _ (h1054.2 e1109)))⟩)))))))⟩)))))))))⟩
def w__law_names_right_p1 (v_units : (List Str)) (v_shifts : (List (Dc Str Int))) (v_fees : (Dc Str Int)) (v_lot : (Dc Str Int)) (v_bids : (List (T4 Str Str Int Int))) (v_words : (List Str)) (P : Bool → Prop) : Prop := ((-(2 ^ 62) ≤ (2 : Int) ∧ (2 : Int) < 2 ^ 62) ∧ ((rng 0 (Int.toNat (2 : Int))).length ≤ 100000 ∧ compW (fun (x1002 : Int) (R1003 : Option (Str × Str) → Prop) => (∃ (x1005 : Str), atI v_units x1002 = some x1005 ∧ (∃ (x1007 : Str), atI v_words x1002 = some x1007 ∧ R1003 (some (x1005, x1007))))) (fun (y1011 : (List (Str × Str))) => ∀ (z_names_1015 : (Dc Str Str)), z_names_1015 = (Dc.mk (puts [] y1011)) → (v_bids.length ≤ 100000 ∧ compW (fun (x1016 : (T4 Str Str Int Int)) (R1017 : Option (T4 Str Str Int Int) → Prop) => (∃ (x1019 : Str), look z_names_1015.l x1016.b = some x1019 ∧ R1017 (some (T4.mk x1016.a x1019 x1016.c x1016.d)))) (fun (y1023 : (List (T4 Str Str Int Int))) => ∀ (z_far_1027 : (List (T4 Str Str Int Int))), z_far_1027 = y1023 → (v_shifts.length ≤ 100000 ∧ compW (fun (x1028 : (Dc Str Int)) (R1029 : Option (Dc Str Int) → Prop) => (w__law_led z_names_1015 x1028 (fun (y1031 : (Dc Str Int)) => R1029 (some y1031)))) (fun (y1035 : (List (Dc Str Int))) => ∀ (z_wide_1039 : (List (Dc Str Int))), z_wide_1039 = y1035 → w__law_names_right_p2 v_units v_shifts v_fees v_lot v_bids v_words z_names_1015 z_far_1027 z_wide_1039 P) v_shifts [])) v_bids [])) (rng 0 (Int.toNat (2 : Int))) []))
theorem part__law_names_right_p1 (X : Tx K mg) (C__law_led : CalD P w K mg base 1 "_law_led" (spD K AnyW W__law_led) []) (C_worst : CalD P w K mg base 6 "worst" (spD K AnyW W_worst) []) (C_need : CalD P w K mg base 5 "need" (spD K AnyW W_need) []) (C__law_mixed_M : CalD P w K mg base 2 "_law_mixed" (spD K (Stp 100) (W__law_mixed (α := (Dc Str Int)))) []) (C__law_take : CalD P w K mg base 1 "_law_take" (spD K (Stp 1) W__law_take) []) (C_room : CalD P w K mg base 6 "room" (spD K AnyW W_room) []) {f : Addr} {cdv : Value} {A : Around} {outer : List Env} {s : Shared} {H : Hp} {E : XK} (hr : Room 6 (A.deeper (envOfC "_law_names_right" (defScope (topS 58)) s.heap.objs.size f cdv))) :
    ∃ t, PSs (cxOf CX0 P w K mg base ["state", "units", "shifts", "fees", "lot", "bids", "words", "names", "far", "way1", "limit", "wide", "got", "mixed", "purse", "due", "led", "again2", "k", "unit", "amount", "shift"] "_law_names_right" (defScope (topS 58)) f cdv A outer s H E).nox ((defBody (topS 58)).drop 3) t ∧ ∀ (r : Addr) (b : Nat), b + 10904 ≤ limB → ∀ (v_units : (List Str)) (v_shifts : (List (Dc Str Int))) (v_fees : (Dc Str Int)) (v_lot : (Dc Str Int)) (v_bids : (List (T4 Str Str Int Int))) (v_words : (List Str)) (P : Bool → Prop), w__law_names_right_p1 v_units v_shifts v_fees v_lot v_bids v_words P → Sd (Wst r (b + 10801)) K t [.raw (.ref r), sD (α := (List Str)) v_units, sD (α := (List (Dc Str Int))) v_shifts, sD (α := (Dc Str Int)) v_fees, sD (α := (Dc Str Int)) v_lot, sD (α := (List (T4 Str Str Int Int))) v_bids, sD (α := (List Str)) v_words, .non, .non, .non, .non, .non, .non, .non, .non, .non, .non, .non, .non, .non, .non, .non] { nx := fun _ _ => False, rt := rtW (Wst r (b + 10904)) P } := by
  obtain ⟨t2, d2, s2⟩ := part__law_names_right_p2 X C_worst C__law_led C_need C__law_mixed_M C__law_take C_room hr
  exact ⟨_, (pss_cons (ps_set (i := 7) sc__law_names_right.nd (by rfl) (by first | exact .inl rfl | exact .inr rfl) (pe_callTy (call_dictP rfl) (by rfl) X.b_dict rfl (pa_cons (pe_lc rfl sc__law_names_right.nd (pi_range1 (by rfl) X.b_range (pa_cons pe_int pa_nil)) (blkOk_by (N := ["state", "units", "shifts", "fees", "lot", "bids", "words", "names", "far", "way1", "limit", "wide", "got", "mixed", "purse", "due", "led", "again2", "k", "unit", "amount", "shift"]) (sc := defScope (topS 58)) (own := [("k", 18)]) (by decide +kernel)) (fun _ _ _ _ _ => (pg_name (i := 18) sc__law_names_right.nd (by rfl) (by first | exact .inl rfl | exact .inr rfl))) (fun _ _ _ _ _ => pts_nil) (fun _ _ _ _ _ => (pe_tup (pa_cons (pe_ix ix_list (pv 1) (pv 18) (fun _ _ => rfl)) (pa_cons (pe_ix ix_list (pv 6) (pv 18) (fun _ _ => rfl)) pa_nil))))) pa_nil))) (pss_cons (ps_setLc (i := 8) rfl sc__law_names_right.nd (by rfl) (by rfl) (sw_true rfl rfl rfl rfl) (g := gTup K 4 (gCons (gName 9) (gCons (gName 19) (gCons (gName 10) (gCons (gName 20) gNil))))) (pi_list (pv 5)) (blkOk_by (N := ["state", "units", "shifts", "fees", "lot", "bids", "words", "names", "far", "way1", "limit", "wide", "got", "mixed", "purse", "due", "led", "again2", "k", "unit", "amount", "shift"]) (sc := defScope (topS 58)) (own := [("way1", 9), ("unit", 19), ("limit", 10), ("amount", 20)]) (by decide +kernel)) (fun _ _ _ _ _ => (pg_tup rfl (pgs_cons (pg_name (i := 9) sc__law_names_right.nd (by rfl) (by first | exact .inl rfl | exact .inr rfl)) (pgs_cons (pg_name (i := 19) sc__law_names_right.nd (by rfl) (by first | exact .inl rfl | exact .inr rfl)) (pgs_cons (pg_name (i := 10) sc__law_names_right.nd (by rfl) (by first | exact .inl rfl | exact .inr rfl)) (pgs_cons (pg_name (i := 20) sc__law_names_right.nd (by rfl) (by first | exact .inl rfl | exact .inr rfl)) pgs_nil)))))) (fun _ _ _ _ _ => pts_nil) (fun _ _ _ _ _ => (pe_tup (pa_cons (pv 9) (pa_cons (pe_dget (hu_of hr) (pv 7) (pv 19) (fun _ _ => rfl)) (pa_cons (pv 10) (pa_cons (pv 20) pa_nil))))))) (pss_cons (ps_setLc (i := 11) rfl sc__law_names_right.nd (by rfl) (by rfl) (sw_true rfl rfl rfl rfl) (pi_list (pv 2)) (blkOk_by (N := ["state", "units", "shifts", "fees", "lot", "bids", "words", "names", "far", "way1", "limit", "wide", "got", "mixed", "purse", "due", "led", "again2", "k", "unit", "amount", "shift"]) (sc := defScope (topS 58)) (own := [("shift", 21)]) (by decide +kernel)) (fun _ _ _ _ _ => (pg_name (i := 21) sc__law_names_right.nd (by rfl) (by first | exact .inl rfl | exact .inr rfl))) (fun _ _ _ _ _ => pts_nil) (fun _ _ _ _ _ => (pe_cd C__law_led hr (by decide) (by rfl) (pa_cons (pv 7) (pa_cons (pv 21) pa_nil))))) d2))), fun r b hb v_units v_shifts v_fees v_lot v_bids v_words P h => by
    unfold w__law_names_right_p1 at h
    exact sd_seq (sd_asgZ (i := 7) (evd_fresh (eg_pairs (ec_ev (ev_fresh (EvF.imp (ef_lcW (evio (evi_rng1 (ea_cons (ev_int (ea_nil ⟨h.1, h.2⟩))))) (by exact fun x1002 R1003 h1004 => bd_yes (tgc_name (ev_tup2 (ea_cons (ev_ixL (fun h => h) (ec_ev (ev_var rfl (ev_var rfl (Exists.elim h1004 fun x1005 h1006 => ⟨x1005, h1006.1, ea_cons (ev_ixL (fun h => h) (ec_ev (ev_var rfl (ev_var rfl (Exists.elim h1006.2 fun x1007 h1008 => ⟨x1007, h1008.1, ea_nil (h1008.2)⟩)))))⟩)))))))) (stle (by omega)))) (fun y1011 h1014 => fun z_names_1015 e1115 => sd_seq (sd_asgZ (i := 8) (ev_fresh (EvF.imp (ef_lcW (evio (evi_list (ev_var rfl ((h1014 z_names_1015 e1115))))) (by exact fun x1016 R1017 h1018 => bd_yes (tgc_four (ev_tup4 (ea_cons (ev_var rfl (ea_cons (ev_dget (ecd_ev (ev_var rfl (ev_var rfl (Exists.elim h1018 fun x1019 h1020 => ⟨x1019, h1020.1, ea_cons (ev_var rfl (ea_cons (ev_var rfl (ea_nil (h1020.2)))))⟩)))))))))) (stle (by omega)))) (fun y1023 h1026 => fun z_far_1027 e1114 => sd_seq (sd_asgZ (i := 11) (ev_fresh (EvF.imp (ef_lcW (evio (evi_list (ev_var rfl ((h1026 z_far_1027 e1114))))) (by exact fun x1028 R1029 h1030 => bd_yes (tgc_name (Ev.imp (ev_call rfl (ea_cons (ev_var rfl (ea_cons (ev_var rfl (ea_nil h1030)))))) (fun y1031 h1032 => h1032))) (stle (by omega)))) (fun y1035 h1038 => fun z_wide_1039 e1113 => sd_le (stle (by omega)) (s2 r b hb v_units v_shifts v_fees v_lot v_bids v_words z_names_1015 z_far_1027 z_wide_1039 _ (h1038 z_wide_1039 e1113)))))))))))))))))⟩
def w__law_names_right (a_units : (List Str)) (a_shifts : (List (Dc Str Int))) (a_fees : (Dc Str Int)) (P : Bool → Prop) : Prop := (w__law_position a_units (fun (y993 : (Dc Str Int)) => ∀ (z_lot_995 : (Dc Str Int)), z_lot_995 = y993 → (w__law_orders a_units (4 : Int) (fun (y996 : (List (T4 Str Str Int Int))) => ∀ (z_bids_998 : (List (T4 Str Str Int Int))), z_bids_998 = y996 → (w__law_mixed [("b" : Str), ("oily" : Str), ("aaaaaaaa" : Str), ("tinn" : Str)] (fun (y999 : (List Str)) => ∀ (z_words_1001 : (List Str)), z_words_1001 = y999 → w__law_names_right_p1 a_units a_shifts a_fees z_lot_995 z_bids_998 z_words_1001 P))))))
abbrev W__law_names_right (g : Stk × (List Str) × (List (Dc Str Int)) × (Dc Str Int) × Unit) (P : Bool → Prop) : Prop := w__law_names_right g.2.1 g.2.2.1 g.2.2.2.1 P
theorem walk__law_names_right {f : Addr} {fd : FuncData} (X : Tx K mg) (C__law_position : CalD P w K mg base 3 "_law_position" (spD K (Stp 10200) W__law_position) []) (C__law_orders : CalD P w K mg base 2 "_law_orders" (spD K (Stp 501) W__law_orders) []) (C__law_mixed_S : CalD P w K mg base 2 "_law_mixed" (spD K (Stp 100) (W__law_mixed (α := Str))) []) (C__law_led : CalD P w K mg base 1 "_law_led" (spD K AnyW W__law_led) []) (C_worst : CalD P w K mg base 6 "worst" (spD K AnyW W_worst) []) (C_need : CalD P w K mg base 5 "need" (spD K AnyW W_need) []) (C__law_mixed_M : CalD P w K mg base 2 "_law_mixed" (spD K (Stp 100) (W__law_mixed (α := (Dc Str Int)))) []) (C__law_take : CalD P w K mg base 1 "_law_take" (spD K (Stp 1) W__law_take) []) (C_room : CalD P w K mg base 6 "room" (spD K AnyW W_room) []) (F : Fun K "_law_names_right" "_law_names_right" (topS 58) f fd) (hm : mg "_law_names_right" = some (.ref f)) (bd : Binds K fd ["state", "units", "shifts", "fees"] []) : CalD P w K mg base 7 "_law_names_right" (spD K (Stp 10904) W__law_names_right) [] :=
  cal_ok F hm bd sc__law_names_right rfl (by decide) fun cdv A outer s H E hr => by
    obtain ⟨t1, d1, s1⟩ := part__law_names_right_p1 X C__law_led C_worst C_need C__law_mixed_M C__law_take C_room hr
    exact ⟨_, (pss_cons (ps_set (i := 4) sc__law_names_right.nd (by rfl) (by first | exact .inl rfl | exact .inr rfl) (pe_cd C__law_position hr (by decide) (by rfl) (pa_cons (pv 0) (pa_cons (pv 1) pa_nil)))) (pss_cons (ps_set (i := 5) sc__law_names_right.nd (by rfl) (by first | exact .inl rfl | exact .inr rfl) (pe_cd C__law_orders hr (by decide) (by rfl) (pa_cons (pv 0) (pa_cons (pv 1) (pa_cons pe_int pa_nil))))) (pss_cons (ps_set (i := 6) sc__law_names_right.nd (by rfl) (by first | exact .inl rfl | exact .inr rfl) (pe_cd C__law_mixed_S hr (by decide) (by rfl) (pa_cons (pv 0) (pa_cons (pe_lst (pa_cons pe_str (pa_cons pe_str (pa_cons pe_str (pa_cons pe_str pa_nil))))) pa_nil)))) d1))), fun W W2 hW g P h => by
      obtain ⟨r, b, e1, e2, hb⟩ := hW
      subst e1 e2
      unfold W__law_names_right w__law_names_right at h
      exact sd_seq (sd_asgZ (i := 4) (Ev.imp (ev_call (stp (by omega)) (ea_tok rfl (ea_cons (ev_var rfl (ea_nil h))))) (fun y993 h994 => fun z_lot_995 e1118 => sd_seq (sd_asgZ (i := 5) (Ev.imp (ev_call (stp (by omega)) (ea_tok rfl (ea_cons (ev_var rfl (ea_cons (ev_int (ea_nil (h994 z_lot_995 e1118)))))))) (fun y996 h997 => fun z_bids_998 e1117 => sd_seq (sd_asgZ (i := 6) (Ev.imp (ev_call (stp (by omega)) (ea_tok rfl (ea_cons (ev_fresh (ef_lst (es_cons (ev_str (es_cons (ev_str (es_cons (ev_str (es_cons (ev_str (es_nil (⟨Nat.le_of_ble_eq_true rfl, ea_nil (h997 z_bids_998 e1117)⟩))))))))))))))) (fun y999 h1000 => fun z_words_1001 e1116 => sd_le (stle (by omega)) (s1 r b hb g.2.1 g.2.2.1 g.2.2.2.1 z_lot_995 z_bids_998 z_words_1001 _ (h1000 z_words_1001 e1116)))))))))))⟩

theorem sc__law_parts_right : FnScope ["state", "units", "shifts", "fees", "lot", "bids", "got", "k", "part", "two", "top", "index", "filled", "bid"] ["state", "units", "shifts", "fees"] (defScope (topS 59)) := ⟨rfl, rfl, rfl, by decide +kernel, rfl, by decide +kernel, by decide +kernel⟩
def w__law_parts_right_p1 (v_units : (List Str)) (v_shifts : (List (Dc Str Int))) (v_fees : (Dc Str Int)) (v_lot : (Dc Str Int)) (v_bids : (List (T4 Str Str Int Int))) (v_got : (T3 Int Int (Tp Int))) (P : Bool → Prop) : Prop := ((-(2 ^ 62) ≤ (v_bids.length : Int) ∧ (v_bids.length : Int) < 2 ^ 62) ∧ ((rng 0 (Int.toNat (v_bids.length : Int))).length ≤ 100 ∧ forW (fun (x1167 : Int) (s1164 : Unit) (n1168 b1169 : Unit → Prop) => ((∃ (x1170 : (T4 Str Str Int Int)), atI v_bids x1167 = some x1170 ∧ w__law_take (x1170.d - (1 : Int)) (fun (y1172 : Int) => ∀ (z_part_1174 : Int), z_part_1174 = ((1 : Int) + y1172) → (∃ (x1175 : (T4 Str Str Int Int)), atI v_bids x1167 = some x1175 ∧ (∃ (x1177 : (T4 Str Str Int Int)), atI v_bids x1167 = some x1177 ∧ (∃ (x1179 : (T4 Str Str Int Int)), atI v_bids x1167 = some x1179 ∧ ∀ (z_two_1181 : (List (T4 Str Str Int Int))), z_two_1181 = [(T4.mk (T3.mk x1175.a x1175.b x1175.c).a (T3.mk x1175.a x1175.b x1175.c).b (T3.mk x1175.a x1175.b x1175.c).c z_part_1174), (T4.mk (T3.mk x1177.a x1177.b x1177.c).a (T3.mk x1177.a x1177.b x1177.c).b (T3.mk x1177.a x1177.b x1177.c).c (x1179.d - z_part_1174))] → (((cutL v_bids none (some x1167)).length + z_two_1181.length ≤ 100000 ∧ (((cutL v_bids none (some x1167)) ++ z_two_1181).length + (cutL v_bids (some (x1167 + (1 : Int))) none).length ≤ 100000 ∧ w_worst v_lot (((cutL v_bids none (some x1167)) ++ z_two_1181) ++ (cutL v_bids (some (x1167 + (1 : Int))) none)) v_shifts v_fees (fun (y1182 : (T3 Int Int (Tp Int))) => ∀ (z1184 : (T3 Int Int (Tp Int))), z1184 = y1182 → altW (fun (P1190 : Bool → Prop) => (((!decide ((z1184.a, z1184.b) = (v_got.a, v_got.b))) = false → (∃ (x1186 : Int), atI z1184.c.l x1167 = some x1186 ∧ (∃ (x1188 : Int), atI z1184.c.l (x1167 + (1 : Int)) = some x1188 ∧ ((Tp.mk (cutL z1184.c.l none (some x1167))).l.length + (Tp.mk [(x1186 + x1188)]).l.length ≤ 100000 ∧ ((Tp.mk ((Tp.mk (cutL z1184.c.l none (some x1167))).l ++ (Tp.mk [(x1186 + x1188)]).l)).l.length + (Tp.mk (cutL z1184.c.l (some (x1167 + (2 : Int))) none)).l.length ≤ 100000 ∧ P1190 (!decide ((Tp.mk ((Tp.mk ((Tp.mk (cutL z1184.c.l none (some x1167))).l ++ (Tp.mk [(x1186 + x1188)]).l)).l ++ (Tp.mk (cutL z1184.c.l (some (x1167 + (2 : Int))) none)).l)) = v_got.c))))))) ∧ ((!decide ((z1184.a, z1184.b) = (v_got.a, v_got.b))) = true → P1190 true))) (fun (y1192 : Bool) => ((y1192 = true → P false) ∧ (y1192 = false → n1168 ())))))))))))))) (fun (s1197 : Unit) => P true) (rng 0 (Int.toNat (v_bids.length : Int))) ()))
theorem part__law_parts_right_p1 (X : Tx K mg) (C__law_take : CalD P w K mg base 1 "_law_take" (spD K (Stp 1) W__law_take) []) (C_worst : CalD P w K mg base 6 "worst" (spD K AnyW W_worst) []) {f : Addr} {cdv : Value} {A : Around} {outer : List Env} {s : Shared} {H : Hp} {E : XK} (hr : Room 6 (A.deeper (envOfC "_law_parts_right" (defScope (topS 59)) s.heap.objs.size f cdv))) :
    ∃ t, PSs (cxOf CX0 P w K mg base ["state", "units", "shifts", "fees", "lot", "bids", "got", "k", "part", "two", "top", "index", "filled", "bid"] "_law_parts_right" (defScope (topS 59)) f cdv A outer s H E).nox ((defBody (topS 59)).drop 3) t ∧ ∀ (r : Addr) (b : Nat), b + 10801 ≤ limB → ∀ (v_units : (List Str)) (v_shifts : (List (Dc Str Int))) (v_fees : (Dc Str Int)) (v_lot : (Dc Str Int)) (v_bids : (List (T4 Str Str Int Int))) (v_got : (T3 Int Int (Tp Int))) (P : Bool → Prop), w__law_parts_right_p1 v_units v_shifts v_fees v_lot v_bids v_got P → Sd (Wst r (b + 10701)) K t [.raw (.ref r), sD (α := (List Str)) v_units, sD (α := (List (Dc Str Int))) v_shifts, sD (α := (Dc Str Int)) v_fees, sD (α := (Dc Str Int)) v_lot, sD (α := (List (T4 Str Str Int Int))) v_bids, sD (α := (T3 Int Int (Tp Int))) v_got, .non, .non, .non, .non, .non, .non, .non] { nx := fun _ _ => False, rt := rtW (Wst r (b + 10801)) P } := by
  exact ⟨_, (pss_cons (ps_for PassesOwn.never rfl (pi_range1 (by rfl) X.b_range (pa_cons (pe_callB call_len_seq (by rfl) X.b_len rfl (pa_cons (pv 5) pa_nil)) pa_nil)) (pg_name (i := 7) sc__law_parts_right.nd (by rfl) (by first | exact .inl rfl | exact .inr rfl)) (pss_cons (ps_set (i := 8) sc__law_parts_right.nd (by rfl) (by first | exact .inl rfl | exact .inr rfl) (pe_op op_add pe_int (pe_cd C__law_take hr (by decide) (by rfl) (pa_cons (pv 0) (pa_cons (pe_op op_sub (pe_ix ix_tup (pe_ix ix_list (pv 5) (pv 7) (fun _ _ => rfl)) pe_int (fun _ _ => rfl)) pe_int) pa_nil))))) (pss_cons (ps_set (i := 9) sc__law_parts_right.nd (by rfl) (by first | exact .inl rfl | exact .inr rfl) (pe_lst (pa_cons (pe_op op_catA (pe_slice sl_tupA (pe_ix ix_list (pv 5) (pv 7) (fun _ _ => rfl)) po_none (po_some pe_int)) (pe_tup (pa_cons (pv 8) pa_nil))) (pa_cons (pe_op op_catA (pe_slice sl_tupA (pe_ix ix_list (pv 5) (pv 7) (fun _ _ => rfl)) po_none (po_some pe_int)) (pe_tup (pa_cons (pe_op op_sub (pe_ix ix_tup (pe_ix ix_list (pv 5) (pv 7) (fun _ _ => rfl)) pe_int (fun _ _ => rfl)) (pv 8)) pa_nil))) pa_nil)))) (pss_cons (ps_asg (pe_cd C_worst hr (by decide) (by rfl) (pa_cons (pv 4) (pa_cons (pe_op op_cat (pe_op op_cat (pe_slice sl_list (pv 5) po_none (po_some (pv 7))) (pv 9)) (pe_slice sl_list (pv 5) (po_some (pe_op op_add (pv 7) pe_int)) po_none)) (pa_cons (pv 2) (pa_cons (pv 3) pa_nil))))) (pg_tup rfl (pgs_cons (pg_name (i := 10) sc__law_parts_right.nd (by rfl) (by first | exact .inl rfl | exact .inr rfl)) (pgs_cons (pg_name (i := 11) sc__law_parts_right.nd (by rfl) (by first | exact .inl rfl | exact .inr rfl)) (pgs_cons (pg_name (i := 12) sc__law_parts_right.nd (by rfl) (by first | exact .inl rfl | exact .inr rfl)) pgs_nil))))) (pss_cons (ps_if (PW.pt (pw_or (pt_cmpR (op_neD (hu64 hr)) (pe_tup (pa_cons (pv 10) (pa_cons (pv 11) pa_nil))) (pe_slice sl_tupA (pv 6) po_none (po_some pe_int)) (nomark _)) (pw_or1 (pt_cmpR (op_neD (hu64 hr)) (pe_op op_catA (pe_op op_catA (pe_slice sl_tupA (pv 12) po_none (po_some (pv 7))) (pe_tup (pa_cons (pe_op op_add (pe_ix ix_tup (pv 12) (pv 7) (fun _ _ => rfl)) (pe_ix ix_tup (pv 12) (pe_op op_add (pv 7) pe_int) (fun _ _ => rfl))) pa_nil))) (pe_slice sl_tupA (pv 12) (po_some (pe_op op_add (pv 7) pe_int)) po_none)) (pe_ix ix_tup (pv 6) pe_int (fun _ _ => rfl)) (nomark _))))) (pss_cons (ps_ret pe_bl) pss_nil) pss_nil) pss_nil))))) (pss_cons (ps_ret pe_bl) pss_nil)), fun r b hb v_units v_shifts v_fees v_lot v_bids v_got P h => by
    unfold w__law_parts_right_p1 at h
    exact sd_wipe [7, 8, 9, 10, 11, 12] (sd_seq (sd_forWs (N := 100) (fun i1165 => Wst r (b + 10701 + i1165 * 1)) (Wst r (b + 10801)) (fun (s1164 : Unit) => [.raw (.ref r), sD (α := (List Str)) v_units, sD (α := (List (Dc Str Int))) v_shifts, sD (α := (Dc Str Int)) v_fees, sD (α := (Dc Str Int)) v_lot, sD (α := (List (T4 Str Str Int Int))) v_bids, sD (α := (T3 Int Int (Tp Int))) v_got, .non, .non, .non, .non, .non, .non, .non]) (evi_wk (stle (by omega)) (evi_rng1 (ea_cons (ev_lenC (fun h => h) (ec_ev (ev_var rfl (ea_nil ⟨h.1, ⟨(), rfl, h.2.1, h.2.2⟩⟩))))))) (by exact fun i1165 x1167 s1164 n1168 h1166 h1198 => tg_name (sd_seq (sd_asgZ (i := 8) (ev_I0 (f := fun i j : Int => i + j) (fun h => h) (ev_int (Ev.imp (ev_call (stp (by omega)) (ea_tok rfl (ea_cons (ev_I0 (f := fun i j : Int => i - j) (fun h => h) (ev_t43 (fun h => h) (ev_ixL (fun h => h) (ec_ev (ev_var rfl (ev_var rfl (Exists.elim h1198 fun x1170 h1171 => ⟨x1170, h1171.1, ev_int (ea_nil h1171.2)⟩)))))))))) (fun y1172 h1173 => fun z_part_1174 e1196 => sd_seq (sd_asgZ (i := 9) (ev_fresh (ef_lst (es_cons (ev_cat31 (fun h => h) (ev_t4cut (fun h => h) (ev_ixL (fun h => h) (ec_ev (ev_var rfl (ev_var rfl (Exists.elim (h1173 z_part_1174 e1196) fun x1175 h1176 => ⟨x1175, h1176.1, ev_tp (es_cons (ev_var rfl (es_nil ⟨Nat.le_of_ble_eq_true rfl, _, rfl, es_cons (ev_cat31 (fun h => h) (ev_t4cut (fun h => h) (ev_ixL (fun h => h) (ec_ev (ev_var rfl (ev_var rfl (Exists.elim h1176.2 fun x1177 h1178 => ⟨x1177, h1178.1, ev_tp (es_cons (ev_I0 (f := fun i j : Int => i - j) (fun h => h) (ev_t43 (fun h => h) (ev_ixL (fun h => h) (ec_ev (ev_var rfl (ev_var rfl (Exists.elim h1178.2 fun x1179 h1180 => ⟨x1179, h1180.1, ev_var rfl (es_nil ⟨Nat.le_of_ble_eq_true rfl, _, rfl, es_nil (⟨Nat.le_of_ble_eq_true rfl, fun z_two_1181 e1195 => sd_seq (sd_asgTZ (Ev.imp (ev_call rfl (ea_cons (ev_var rfl (ea_cons (ev_fresh (ef_cat (fun h => h) (ec_ev (ev_fresh (ef_cat (fun h => h) (ec_ev (ev_fresh (ef_sl (fun h => h) (ec_ev (ev_var rfl (eo_none (eo_some (ev_var rfl (ec_ev (ev_var rfl (⟨(h1180.2 z_two_1181 e1195).1, ec_ev (ev_fresh (ef_sl (fun h => h) (ec_ev (ev_var rfl (eo_some (ev_I0 (f := fun i j : Int => i + j) (fun h => h) (ev_var rfl (ev_int (eo_none (⟨(h1180.2 z_two_1181 e1195).2.1, ea_cons (ev_var rfl (ea_cons (ev_var rfl (ea_nil (h1180.2 z_two_1181 e1195).2.2))))⟩))))))))))⟩)))))))))))))))))))) (fun y1182 h1183 => fun z1184 e1185 => tg_three (sd_seq (sd_if (et_alt (h1183 z1184 e1185) (by exact fun h1191 => et_or (et_test (ev_neP (α := (Int × Int)) (fun h => h) (ev_tup2 (ea_cons (ev_var rfl (ea_cons (ev_var rfl (ea_nil (ev_t3cut (fun h => h) (ev_var rfl (⟨fun e1202 => et_test (ev_neP (α := (Tp Int)) (fun h => h) (ev_catT (fun h => h) (ev_catT (fun h => h) (ev_slT (fun h => h) (ev_var rfl (eo_none (eo_some (ev_var rfl (ev_tp (es_cons (ev_I0 (f := fun i j : Int => i + j) (fun h => h) (ev_ixT (fun h => h) (ev_var rfl (ev_var rfl (Exists.elim (h1191.1 e1202) fun x1186 h1187 => ⟨x1186, h1187.1, ev_ixT (fun h => h) (ev_var rfl (ev_I0 (f := fun i j : Int => i + j) (fun h => h) (ev_var rfl (ev_int (Exists.elim h1187.2 fun x1188 h1189 => ⟨x1188, h1189.1, es_nil (⟨Nat.le_of_ble_eq_true rfl, ⟨h1189.2.1, ev_slT (fun h => h) (ev_var rfl (eo_some (ev_I0 (f := fun i j : Int => i + j) (fun h => h) (ev_var rfl (ev_int (eo_none (⟨h1189.2.2.1, ev_t32 (fun h => h) (ev_var rfl (h1189.2.2.2))⟩)))))))⟩⟩)⟩)))))⟩))))))))))))))), fun e1203 => h1191.2 e1203⟩))))))))))) (stle (by omega))) (fun y1200 h1201 => ⟨fun e1193 => sd_seq (sd_retW rfl (ev_bl ((h1201.1 e1193))) (stle (by omega))), fun e1194 => sd_next (sd_nextW [7, 8, 9, 10, 11, 12] ⟨(), rfl, (stle (by omega)), (h1201.2 e1194)⟩)⟩)))))))⟩)⟩)⟩))))))))⟩)))))))⟩)))⟩)))))))))))))))))) (by exact fun s1197 h1199 => sd_seq (sd_retW rfl (ev_bl (h1199)) (stle (by omega)))) (fun _ _ l z => sd_le l z) rfl (fun i1165 h1166 => (stle (by omega)))))⟩
def w__law_parts_right (a_units : (List Str)) (a_shifts : (List (Dc Str Int))) (a_fees : (Dc Str Int)) (P : Bool → Prop) : Prop := (w__law_position a_units (fun (y1119 : (Dc Str Int)) => ∀ (z_lot_1121 : (Dc Str Int)), z_lot_1121 = y1119 → (w__law_orders a_units (4 : Int) (fun (y1122 : (List (T4 Str Str Int Int))) => (y1122.length ≤ 100000 ∧ compW (fun (x1124 : (T4 Str Str Int Int)) (R1125 : Option (T4 Str Str Int Int) → Prop) => (((decide ((1 : Int) < x1124.d)) = true → R1125 (some x1124)) ∧ ((decide ((1 : Int) < x1124.d)) = false → R1125 none))) (fun (y1129 : (List (T4 Str Str Int Int))) => ∀ (z_bids_1133 : (List (T4 Str Str Int Int))), z_bids_1133 = y1129 → (w_worst z_lot_1121 z_bids_1133 a_shifts a_fees (fun (y1134 : (T3 Int Int (Tp Int))) => ∀ (z_got_1136 : (T3 Int Int (Tp Int))), z_got_1136 = y1134 → w__law_parts_right_p1 a_units a_shifts a_fees z_lot_1121 z_bids_1133 z_got_1136 P))) y1122 [])))))
abbrev W__law_parts_right (g : Stk × (List Str) × (List (Dc Str Int)) × (Dc Str Int) × Unit) (P : Bool → Prop) : Prop := w__law_parts_right g.2.1 g.2.2.1 g.2.2.2.1 P
theorem walk__law_parts_right {f : Addr} {fd : FuncData} (X : Tx K mg) (C__law_position : CalD P w K mg base 3 "_law_position" (spD K (Stp 10200) W__law_position) []) (C__law_orders : CalD P w K mg base 2 "_law_orders" (spD K (Stp 501) W__law_orders) []) (C_worst : CalD P w K mg base 6 "worst" (spD K AnyW W_worst) []) (C__law_take : CalD P w K mg base 1 "_law_take" (spD K (Stp 1) W__law_take) []) (F : Fun K "_law_parts_right" "_law_parts_right" (topS 59) f fd) (hm : mg "_law_parts_right" = some (.ref f)) (bd : Binds K fd ["state", "units", "shifts", "fees"] []) : CalD P w K mg base 7 "_law_parts_right" (spD K (Stp 10801) W__law_parts_right) [] :=
  cal_ok F hm bd sc__law_parts_right rfl (by decide) fun cdv A outer s H E hr => by
    obtain ⟨t1, d1, s1⟩ := part__law_parts_right_p1 X C__law_take C_worst hr
    exact ⟨_, (pss_cons (ps_set (i := 4) sc__law_parts_right.nd (by rfl) (by first | exact .inl rfl | exact .inr rfl) (pe_cd C__law_position hr (by decide) (by rfl) (pa_cons (pv 0) (pa_cons (pv 1) pa_nil)))) (pss_cons (ps_setLc (i := 5) rfl sc__law_parts_right.nd (by rfl) (by rfl) (sw_true rfl rfl rfl rfl) (pi_list (pe_cd C__law_orders hr (by decide) (by rfl) (pa_cons (pv 0) (pa_cons (pv 1) (pa_cons pe_int pa_nil))))) (blkOk_by (N := ["state", "units", "shifts", "fees", "lot", "bids", "got", "k", "part", "two", "top", "index", "filled", "bid"]) (sc := defScope (topS 59)) (own := [("bid", 13)]) (by decide +kernel)) (fun _ _ _ _ _ => (pg_name (i := 13) sc__law_parts_right.nd (by rfl) (by first | exact .inl rfl | exact .inr rfl))) (fun _ _ _ _ _ => (pts_one (pt_cmpR op_gt (pe_ix ix_tup (pv 13) pe_int (fun _ _ => rfl)) pe_int (nomark _)))) (fun _ _ _ _ _ => (pv 13))) (pss_cons (ps_set (i := 6) sc__law_parts_right.nd (by rfl) (by first | exact .inl rfl | exact .inr rfl) (pe_cd C_worst hr (by decide) (by rfl) (pa_cons (pv 4) (pa_cons (pv 5) (pa_cons (pv 2) (pa_cons (pv 3) pa_nil)))))) d1))), fun W W2 hW g P h => by
      obtain ⟨r, b, e1, e2, hb⟩ := hW
      subst e1 e2
      unfold W__law_parts_right w__law_parts_right at h
      exact sd_seq (sd_asgZ (i := 4) (Ev.imp (ev_call (stp (by omega)) (ea_tok rfl (ea_cons (ev_var rfl (ea_nil h))))) (fun y1119 h1120 => fun z_lot_1121 e1206 => sd_seq (sd_asgZ (i := 5) (ev_fresh (EvF.imp (ef_lcW (evio (evi_list (Ev.imp (ev_call (stp (by omega)) (ea_tok rfl (ea_cons (ev_var rfl (ea_cons (ev_int (ea_nil (h1120 z_lot_1121 e1206)))))))) (fun y1122 h1123 => h1123)))) (by exact fun x1124 R1125 h1126 => bd_if (tgc_name (et_test (ev_I0 (f := fun i j : Int => (decide (j < i))) (fun h => h) (ev_t43 (fun h => h) (ev_var rfl (ev_int (⟨fun e1130 => ev_var rfl ((h1126.1 e1130)), fun e1131 => h1126.2 e1131⟩))))))) (stle (by omega)))) (fun y1129 h1132 => fun z_bids_1133 e1205 => sd_seq (sd_asgZ (i := 6) (Ev.imp (ev_call rfl (ea_cons (ev_var rfl (ea_cons (ev_var rfl (ea_cons (ev_var rfl (ea_cons (ev_var rfl (ea_nil (h1132 z_bids_1133 e1205))))))))))) (fun y1134 h1135 => fun z_got_1136 e1204 => sd_le (stle (by omega)) (s1 r b hb g.2.1 g.2.2.1 g.2.2.2.1 z_lot_1121 z_bids_1133 z_got_1136 _ (h1135 z_got_1136 e1204))))))))))))⟩

theorem sc_law : FnScope ["script", "state", "units", "turn", "shifts", "fees"] ["script"] (defScope (topS 60)) := ⟨rfl, rfl, rfl, by decide +kernel, rfl, by decide +kernel, by decide +kernel⟩
def w_law_p1  (P : Bool → Prop) : Prop := (w__law_units  (fun (y1207 : (List Str)) => ∀ (z_units_1209 : (List Str)), z_units_1209 = y1207 → ((-(2 ^ 62) ≤ (2 : Int) ∧ (2 : Int) < 2 ^ 62) ∧ ((rng 0 (Int.toNat (2 : Int))).length ≤ 100 ∧ forW (fun (x1239 : Int) (s1236 : Unit) (n1240 b1241 : Unit → Prop) => (w__law_moves z_units_1209 (8 : Int) (fun (y1242 : (List (Dc Str Int))) => ∀ (z_shifts_1244 : (List (Dc Str Int))), z_shifts_1244 = y1242 → (w__law_prices z_units_1209 (fun (y1245 : (Dc Str Int)) => ∀ (z_fees_1247 : (Dc Str Int)), z_fees_1247 = y1245 → altW (fun (P1252 : Bool → Prop) => (w__law_joined_right z_units_1209 z_shifts_1244 z_fees_1247 (fun (y1248 : Bool) => (((!y1248) = false → (w__law_more_right z_units_1209 z_shifts_1244 z_fees_1247 (fun (y1250 : Bool) => P1252 (!y1250)))) ∧ ((!y1248) = true → P1252 true))))) (fun (y1263 : Bool) => ((y1263 = true → P false) ∧ (y1263 = false → altW (fun (P1258 : Bool → Prop) => (w__law_names_right z_units_1209 z_shifts_1244 z_fees_1247 (fun (y1254 : Bool) => (((!y1254) = false → (w__law_parts_right z_units_1209 z_shifts_1244 z_fees_1247 (fun (y1256 : Bool) => P1258 (!y1256)))) ∧ ((!y1254) = true → P1258 true))))) (fun (y1260 : Bool) => ((y1260 = true → P false) ∧ (y1260 = false → n1240 ()))))))))))) (fun (s1268 : Unit) => P true) (rng 0 (Int.toNat (2 : Int))) ()))))
theorem part_law_p1 (X : Tx K mg) (C__law_units : CalD P w K mg base 2 "_law_units" (spD K (Stp 1) W__law_units) []) (C__law_moves : CalD P w K mg base 3 "_law_moves" (spD K (Stp 30001) W__law_moves) []) (C__law_prices : CalD P w K mg base 3 "_law_prices" (spD K (Stp 200) W__law_prices) []) (C__law_joined_right : CalD P w K mg base 7 "_law_joined_right" (spD K (Stp 21403) W__law_joined_right) []) (C__law_more_right : CalD P w K mg base 7 "_law_more_right" (spD K (Stp 11002) W__law_more_right) []) (C__law_names_right : CalD P w K mg base 7 "_law_names_right" (spD K (Stp 10904) W__law_names_right) []) (C__law_parts_right : CalD P w K mg base 7 "_law_parts_right" (spD K (Stp 10801) W__law_parts_right) []) {f : Addr} {cdv : Value} {A : Around} {outer : List Env} {s : Shared} {H : Hp} {E : XK} (hr : Room 7 (A.deeper (envOfC "law" (defScope (topS 60)) s.heap.objs.size f cdv))) :
    ∃ t, PSs (cxOf CX0 P w K mg base ["script", "state", "units", "turn", "shifts", "fees"] "law" (defScope (topS 60)) f cdv A outer s H E).nox ((defBody (topS 60)).drop 1) t ∧ ∀ (r : Addr) (b : Nat), b + 8431101 ≤ limB → ∀  (P : Bool → Prop), w_law_p1  P → Sd (Wst r (b + 0)) K t [.non, .raw (.ref r), .non, .non, .non, .non] { nx := fun _ _ => False, rt := rtW (Wst r (b + 8431101)) P } := by
  exact ⟨_, (pss_cons (ps_set (i := 2) sc_law.nd (by rfl) (by first | exact .inl rfl | exact .inr rfl) (pe_cd C__law_units hr (by decide) (by rfl) (pa_cons (pv 1) pa_nil))) (pss_cons (ps_for PassesOwn.never rfl (pi_range1 (by rfl) X.b_range (pa_cons pe_int pa_nil)) (pg_name (i := 3) sc_law.nd (by rfl) (by first | exact .inl rfl | exact .inr rfl)) (pss_cons (ps_set (i := 4) sc_law.nd (by rfl) (by first | exact .inl rfl | exact .inr rfl) (pe_cd C__law_moves hr (by decide) (by rfl) (pa_cons (pv 1) (pa_cons (pv 2) (pa_cons pe_int pa_nil))))) (pss_cons (ps_set (i := 5) sc_law.nd (by rfl) (by first | exact .inl rfl | exact .inr rfl) (pe_cd C__law_prices hr (by decide) (by rfl) (pa_cons (pv 1) (pa_cons (pv 2) pa_nil)))) (pss_cons (ps_if (PW.pt (pw_or (pt_not (pt_val (pe_cd C__law_joined_right hr (by decide) (by rfl) (pa_cons (pv 1) (pa_cons (pv 2) (pa_cons (pv 4) (pa_cons (pv 5) pa_nil))))))) (pw_or1 (pt_not (pt_val (pe_cd C__law_more_right hr (by decide) (by rfl) (pa_cons (pv 1) (pa_cons (pv 2) (pa_cons (pv 4) (pa_cons (pv 5) pa_nil)))))))))) (pss_cons (ps_ret pe_bl) pss_nil) pss_nil) (pss_cons (ps_if (PW.pt (pw_or (pt_not (pt_val (pe_cd C__law_names_right hr (by decide) (by rfl) (pa_cons (pv 1) (pa_cons (pv 2) (pa_cons (pv 4) (pa_cons (pv 5) pa_nil))))))) (pw_or1 (pt_not (pt_val (pe_cd C__law_parts_right hr (by decide) (by rfl) (pa_cons (pv 1) (pa_cons (pv 2) (pa_cons (pv 4) (pa_cons (pv 5) pa_nil)))))))))) (pss_cons (ps_ret pe_bl) pss_nil) pss_nil) pss_nil))))) (pss_cons (ps_ret pe_bl) pss_nil))), fun r b hb  P h => by
    unfold w_law_p1 at h
    exact sd_seq (sd_asgZ (i := 2) (Ev.imp (ev_call (stp (by omega)) (ea_tok rfl (ea_nil h))) (fun y1207 h1208 => fun z_units_1209 e1271 => sd_wipe [3, 4, 5] (sd_seq (sd_forWs (N := 100) (fun i1237 => Wst r (b + 1 + i1237 * 84311)) (Wst r (b + 8431101)) (fun (s1236 : Unit) => [.non, .raw (.ref r), sD (α := (List Str)) z_units_1209, .non, .non, .non]) (evi_wk (stle (by omega)) (evi_rng1 (ea_cons (ev_int (ea_nil ⟨(h1208 z_units_1209 e1271).1, ⟨(), rfl, (h1208 z_units_1209 e1271).2.1, (h1208 z_units_1209 e1271).2.2⟩⟩))))) (by exact fun i1237 x1239 s1236 n1240 h1238 h1269 => tg_name (sd_seq (sd_asgZ (i := 4) (Ev.imp (ev_call (stp (by omega)) (ea_tok rfl (ea_cons (ev_var rfl (ea_cons (ev_int (ea_nil h1269))))))) (fun y1242 h1243 => fun z_shifts_1244 e1267 => sd_seq (sd_asgZ (i := 5) (Ev.imp (ev_call (stp (by omega)) (ea_tok rfl (ea_cons (ev_var rfl (ea_nil (h1243 z_shifts_1244 e1267)))))) (fun y1245 h1246 => fun z_fees_1247 e1266 => sd_seq (sd_if (et_alt (h1246 z_fees_1247 e1266) (by exact fun h1253 => et_or (et_not (et_B (Ev.imp (ev_call (stp (by omega)) (ea_tok rfl (ea_cons (ev_var rfl (ea_cons (ev_var rfl (ea_cons (ev_var rfl (ea_nil h1253))))))))) (fun y1248 h1249 => ⟨fun e1274 => et_not (et_B (Ev.imp (ev_call (stp (by omega)) (ea_tok rfl (ea_cons (ev_var rfl (ea_cons (ev_var rfl (ea_cons (ev_var rfl (ea_nil (h1249.1 e1274)))))))))) (fun y1250 h1251 => h1251))), fun e1275 => h1249.2 e1275⟩)))) (stle (by omega))) (fun y1272 h1273 => ⟨fun e1264 => sd_seq (sd_retW rfl (ev_bl ((h1273.1 e1264))) (stle (by omega))), fun e1265 => sd_next (sd_seq (sd_if (et_alt (h1273.2 e1265) (by exact fun h1259 => et_or (et_not (et_B (Ev.imp (ev_call (stp (by omega)) (ea_tok rfl (ea_cons (ev_var rfl (ea_cons (ev_var rfl (ea_cons (ev_var rfl (ea_nil h1259))))))))) (fun y1254 h1255 => ⟨fun e1278 => et_not (et_B (Ev.imp (ev_call (stp (by omega)) (ea_tok rfl (ea_cons (ev_var rfl (ea_cons (ev_var rfl (ea_cons (ev_var rfl (ea_nil (h1255.1 e1278)))))))))) (fun y1256 h1257 => h1257))), fun e1279 => h1255.2 e1279⟩)))) (stle (by omega))) (fun y1276 h1277 => ⟨fun e1261 => sd_seq (sd_retW rfl (ev_bl ((h1277.1 e1261))) (stle (by omega))), fun e1262 => sd_next (sd_nextW [3, 4, 5] ⟨(), rfl, (stle (by omega)), (h1277.2 e1262)⟩)⟩))))⟩))))))))))) (by exact fun s1268 h1270 => sd_seq (sd_retW rfl (ev_bl (h1270)) (stle (by omega)))) (fun _ _ l z => sd_le l z) rfl (fun i1237 h1238 => (stle (by omega))))))))⟩

end
end K21
set_option maxHeartbeats 4000000
/-! k21, the plain law: what the defs compute -/
namespace K21
open PySem PySem.Spec PyProof.Rows L2 DW
/-! ### comprehensions and loops -/
theorem comp_map {α β : Type} {B : α → (Option β → Prop) → Prop} {k : List β → Prop} (f : α → β) : ∀ (xs : List α) (acc : List β), (∀ x ∈ xs, ∀ R : Option β → Prop, R (some (f x)) → B x R) → k (acc ++ xs.map f) → compW B k xs acc
  | [], acc, _, h => by
    rw [List.map_nil, List.append_nil] at h
    exact h
  | x :: xs, acc, hB, h => hB x List.mem_cons_self _ (comp_map f xs _ (fun y hy => hB y (List.mem_cons_of_mem _ hy)) (by
    show k ((acc ++ [f x]) ++ xs.map f)
    rw [List.append_assoc]
    exact h))
theorem comp_fm {α β : Type} {B : α → (Option β → Prop) → Prop} {k : List β → Prop} (f : α → Option β) : ∀ (xs : List α) (acc : List β), (∀ x ∈ xs, ∀ R : Option β → Prop, R (f x) → B x R) → k (acc ++ xs.filterMap f) → compW B k xs acc
  | [], acc, _, h => by
    rw [List.filterMap_nil, List.append_nil] at h
    exact h
  | x :: xs, acc, hB, h => hB x List.mem_cons_self _ (comp_fm f xs _ (fun y hy => hB y (List.mem_cons_of_mem _ hy)) (by
    rw [List.filterMap_cons] at h
    cases e : f x with
    | none =>
      rw [e] at h
      show k ((acc ++ []) ++ _)
      rw [List.append_nil]
      exact h
    | some y =>
      rw [e] at h
      show k ((acc ++ [y]) ++ _)
      rw [List.append_assoc]
      exact h))
/-- any results that keep Rel -/
theorem comp_rel {α β : Type} {B : α → (Option β → Prop) → Prop} {k : List β → Prop} (Rel : α → β → Prop) : ∀ (xs : List α) (acc : List β), (∀ x ∈ xs, ∀ R : Option β → Prop, (∀ y, Rel x y → R (some y)) → B x R) → (∀ ys, Paired Rel xs ys → k (acc ++ ys)) → compW B k xs acc
  | [], acc, _, h => by
    have := h [] .nil
    rw [List.append_nil] at this
    exact this
  | x :: xs, acc, hB, h => hB x List.mem_cons_self _ fun y hy => comp_rel Rel xs _ (fun z hz => hB z (List.mem_cons_of_mem _ hz)) fun ys hys => by
    show k ((acc ++ [y]) ++ ys)
    rw [List.append_assoc]
    exact h (y :: ys) (.cons hy hys)
theorem for_inv {α σ : Type} {B : α → σ → (σ → Prop) → (σ → Prop) → Prop} {k : σ → Prop} (Inv : Nat → σ → Prop) : ∀ (xs : List α) (i : Nat) (s : σ), Inv i s → (∀ (j : Nat) x s (nx bk : σ → Prop), xs[j]? = some x → Inv (i + j) s → (∀ s', Inv (i + j + 1) s' → nx s') → B x s nx bk) → (∀ s, Inv (i + xs.length) s → k s) → forW B k xs s
  | [], i, s, h, _, hk => hk s h
  | x :: xs, i, s, h, hB, hk => hB 0 x s _ _ rfl h fun s' h' => for_inv Inv xs (i + 1) s' h' (fun j y s nx bk hj hi hn => hB (j + 1) y s nx bk (by simpa using hj) (by rw [show i + (j + 1) = i + 1 + j by omega]; exact hi) fun s' z => hn s' (by rw [show i + 1 + j + 1 = i + (j + 1) + 1 by omega]; exact z)) fun s hs => hk s (by rw [List.length_cons, show i + (xs.length + 1) = i + 1 + xs.length by omega]; exact hs)
theorem for_unit {α : Type} {B : α → Unit → (Unit → Prop) → (Unit → Prop) → Prop} {k : Unit → Prop} (xs : List α) (hB : ∀ x ∈ xs, ∀ (nx bk : Unit → Prop), nx () → B x () nx bk) (hk : k ()) : forW B k xs () :=
  for_inv (fun _ _ => True) xs 0 () trivial (fun j x s nx bk hx _ hn => hB x (List.mem_of_getElem? hx) nx bk (hn () trivial)) fun _ _ => hk
/-! ### dicts -/
abbrev keys {κ α : Type} (d : List (κ × α)) : List κ := d.map Prod.fst
theorem look_mem {κ α : Type} [DecidableEq κ] {d : List (κ × α)} {k : κ} (h : k ∈ keys d) : ∃ v, look d k = some v := by
  cases e : look d k with
  | some v => exact ⟨v, rfl⟩
  | none => exact absurd h (look_none.mp e)
theorem mem_look {κ α : Type} [DecidableEq κ] {d : List (κ × α)} {k : κ} {v : α} (h : look d k = some v) : k ∈ keys d := by
  by_cases z : k ∈ keys d
  · exact z
  · rw [look_none.mpr z] at h
    cases h
/-! ### names -/
def memOk (x : Str) : Bool := nameOk x && !decide (x ∈ reserved.l)
theorem s_is_member {x : Str} {P : Bool → Prop} (hl : x.length ≤ 100000) (h : P (memOk x)) : w_is_member x P := by
  unfold w_is_member
  try unfold altW
  refine ⟨hl, fun e => ?_, fun e => ?_⟩
  · have : memOk x = !decide (x ∈ reserved.l) := by unfold memOk; rw [e, Bool.true_and]
    rw [← this]
    exact h
  · have : memOk x = false := by unfold memOk; rw [e, Bool.false_and]
    rw [this] at h
    exact h
theorem memOk_len {x : Str} (h : memOk x = true) : x.length ≤ 100000 := by
  unfold memOk nameOk at h
  rw [Bool.and_eq_true, Bool.and_eq_true, Bool.and_eq_true] at h
  have := of_decide_eq_true h.1.2.1
  omega
theorem s_member {x : Str} {P : Bool → Prop} (m : memOk x = true) (h : P true) : w_is_member x P := s_is_member (memOk_len m) (by rw [m]; exact h)
theorem s_is_integer {v : Int} {P : Bool → Prop} (h : P true) : w_is_integer v none P := by
  unfold w_is_integer
  try unfold altW
  exact ⟨fun _ => ⟨(fun z => nomatch z), fun _ => ⟨(fun z => nomatch z), fun _ => h⟩⟩, (fun z => nomatch z)⟩
theorem s_is_integer1 {v b : Int} {P : Bool → Prop} (h : P (decide (b ≤ v))) : w_is_integer v (some b) P := by
  unfold w_is_integer
  try unfold altW
  exact ⟨fun _ => ⟨(fun z => nomatch z), fun _ => ⟨fun _ => ⟨b, rfl, h⟩, (fun z => nomatch z)⟩⟩, (fun z => nomatch z)⟩
/-! ### positions, moves, prices -/
structure Dct (d : List (Str × Int)) : Prop where
  nd : (keys d).Nodup
  mem : ∀ k ∈ keys d, memOk k = true
  few : d.length ≤ 30
def NoZ (d : List (Str × Int)) : Prop := ∀ k v, look d k = some v → v ≠ 0
def Small (d : List (Str × Int)) : Prop := ∀ k, -1000 ≤ (look d k).getD 0 ∧ (look d k).getD 0 ≤ 1000
theorem keys_len {d : List (Str × Int)} (h : Dct d) : (keys d).length ≤ 100000 := by
  rw [List.length_map]
  have := h.few
  omega
theorem all_map {α : Type} {xs : List α} {f : α → Bool} (h : ∀ x ∈ xs, f x = true) : (xs.map f).all id = true := by
  rw [List.all_eq_true]
  intro y hy
  obtain ⟨x, hx, rfl⟩ := List.mem_map.mp hy
  exact h x hx
theorem s_is_position {d : Dc Str Int} {P : Bool → Prop} (D : Dct d.l) (z : NoZ d.l) (h : P true) : w_is_position d P := by
  unfold w_is_position
  try unfold altW
  refine ⟨(fun e => nomatch e), fun _ => ⟨keys_len D, comp_map (fun _ => true) _ _ (fun x hx R hR => ?_) ?_⟩⟩
  · obtain ⟨v, hv⟩ := look_mem hx
    refine s_member (D.mem x hx) ⟨fun _ => ⟨v, hv, s_is_integer ⟨fun _ => ⟨v, hv, ?_⟩, (fun e => nomatch e)⟩⟩, (fun e => nomatch e)⟩
    have : (!decide (v = 0)) = true := by
      have := z x v hv
      simp [this]
    rw [this]
    exact hR
  · rw [List.nil_append, all_map fun _ _ => rfl]
    exact h
theorem s_check_position {d : Dc Str Int} {P : Unit → Prop} (D : Dct d.l) (z : NoZ d.l) (h : P ()) : w_check_position d P := s_is_position D z ⟨(fun e => nomatch e), fun _ => h⟩
theorem s_is_move {d : Dc Str Int} {P : Bool → Prop} (D : Dct d.l) (h : P true) : w_is_move d P := by
  unfold w_is_move
  try unfold altW
  refine ⟨fun _ => ⟨keys_len D, comp_map (fun _ => true) _ _ (fun x hx R hR => ?_) ?_⟩, (fun e => nomatch e)⟩
  · obtain ⟨v, hv⟩ := look_mem hx
    exact s_member (D.mem x hx) ⟨fun _ => ⟨v, hv, s_is_integer hR⟩, (fun e => nomatch e)⟩
  · rw [List.nil_append, all_map fun _ _ => rfl]
    exact h
theorem s_is_price {v : Int} {P : Bool → Prop} (a : 1 ≤ v) (b : v ≤ 99) (h : P true) : w_is_price v P := by
  unfold w_is_price altW
  refine s_is_integer1 ⟨fun _ => ?_, fun e => ?_⟩
  · rw [decide_eq_true b]
    exact h
  · rw [decide_eq_true a] at e
    cases e
structure Prc (d : List (Str × Int)) : Prop where
  D : Dct d
  lo : ∀ k v, look d k = some v → 1 ≤ v ∧ v ≤ 99
theorem s_check_prices {d : Dc Str Int} {P : Unit → Prop} (D : Prc d.l) (h : P ()) : w_check_prices d P := by
  unfold w_check_prices altW
  refine ⟨fun _ => ⟨keys_len D.D, comp_map (fun _ => true) _ _ (fun x hx R hR => ?_) ?_⟩, (fun e => nomatch e)⟩
  · obtain ⟨v, hv⟩ := look_mem hx
    refine s_member (D.D.mem x hx) ⟨fun _ => ⟨v, hv, s_is_price (D.lo x v hv).1 (D.lo x v hv).2 hR⟩, (fun e => nomatch e)⟩
  · rw [List.nil_append, all_map fun _ _ => rfl]
    exact ⟨(fun e => nomatch e), fun _ => h⟩
structure Mvs (ms : List (Dc Str Int)) : Prop where
  D : ∀ m ∈ ms, Dct m.l
  few : ms.length ≤ 8
  head : ∃ m, ms[0]? = some m ∧ m.l = []
theorem mvs_pos {ms : List (Dc Str Int)} (M : Mvs ms) : 1 ≤ ms.length := by
  obtain ⟨m, hm, _⟩ := M.head
  cases ms with
  | nil => cases hm
  | cons _ _ => simp
theorem s_check_moves {ms : List (Dc Str Int)} {P : Unit → Prop} (M : Mvs ms) (h : P ()) : w_check_moves ms P := by
  unfold w_check_moves altW
  have h1 := mvs_pos M
  have h2 := M.few
  refine ⟨fun _ => ⟨fun e => ?_, fun _ => for_unit _ (fun x hx nx bk hn => s_is_move (M.D x hx) ⟨(fun e => nomatch e), fun _ => hn⟩) ?_⟩, fun e => ?_⟩
  · rw [decide_eq_true (by omega)] at e
    cases e
  · obtain ⟨m, hm, hl⟩ := M.head
    refine ⟨m, ?_, fun e => ?_, fun _ => h⟩
    · show atI ms ((0 : Nat) : Int) = some m
      exact atI_nat hm
    · rw [hl] at e
      cases e
  · rw [decide_eq_true (by omega)] at e
    cases e
/-! ### losses -/
def lossBy (p m : List (Str × Int)) : Int := -(((keys p).map fun k => (look p k).getD 0 * (look m k).getD 0).sum)
theorem s_loss_by {p m : Dc Str Int} {P : Int → Prop} (D : Dct p.l) (c : ∀ k v, look p.l k = some v → CMul v ((look m.l k).getD 0)) (h : P (lossBy p.l m.l)) : w_loss_by p m P := by
  unfold w_loss_by
  refine ⟨keys_len D, comp_map (fun k => (look p.l k).getD 0 * (look m.l k).getD 0) _ _ (fun x hx R hR => ?_) ?_⟩
  · obtain ⟨v, hv⟩ := look_mem hx
    rw [hv] at hR
    exact ⟨v, hv, c x v hv, hR⟩
  · rw [List.nil_append]
    exact h
def Cm (p m : List (Str × Int)) : Prop := ∀ k v, look p k = some v → CMul v ((look m k).getD 0)
theorem s_loss {p m : Dc Str Int} {P : Int → Prop} (D : Dct p.l) (z : NoZ p.l) (M : Dct m.l) (c : Cm p.l m.l) (h : P (lossBy p.l m.l)) : w_loss p m P := by
  unfold w_loss
  exact s_check_position D z (s_is_move M ⟨(fun e => nomatch e), fun _ => s_loss_by D c h⟩)
/-- the greatest of a list -/
def IsMax (xs : List Int) (m : Int) : Prop := m ∈ xs ∧ ∀ y ∈ xs, y ≤ m
theorem isMax_one {xs : List Int} {a b : Int} (h : IsMax xs a) (g : IsMax xs b) : a = b := Int.le_antisymm (g.2 a h.1) (h.2 b g.1)
theorem s_need_of {p : Dc Str Int} {ms : List (Dc Str Int)} {P : Int → Prop} (D : Dct p.l) (M : Mvs ms) (c : ∀ m ∈ ms, Cm p.l m.l) (h : ∀ r, IsMax (ms.map fun m => lossBy p.l m.l) r → P r) : w_need_of p ms P := by
  unfold w_need_of
  refine ⟨by have := M.few; omega, comp_map (fun m => lossBy p.l m.l) _ _ (fun x hx R hR => s_loss_by D (c x hx) hR) ?_⟩
  rw [List.nil_append]
  refine ⟨by rw [List.length_map]; exact mvs_pos M, fun r hr hm => h r ⟨hr, hm⟩⟩
theorem s_need {p : Dc Str Int} {ms : List (Dc Str Int)} {P : Int → Prop} (D : Dct p.l) (z : NoZ p.l) (M : Mvs ms) (c : ∀ m ∈ ms, Cm p.l m.l) (h : ∀ r, IsMax (ms.map fun m => lossBy p.l m.l) r → P r) : w_need p ms P := by
  unfold w_need
  exact s_check_position D z (s_check_moves M (s_need_of D M c h))
/-! ### orders -/
structure OkO (o : T4 Str Str Int Int) : Prop where
  side : o.a = "buy" ∨ o.a = "sell"
  mem : memOk o.b = true
  lo : 1 ≤ o.c
  hi : o.c ≤ 99
  pos : 1 ≤ o.d
theorem s_is_standing {o : T4 Str Str Int Int} {P : Bool → Prop} (O : OkO o) (h : P true) : w_is_standing o P := by
  unfold w_is_standing altW
  refine ⟨fun _ => ⟨fun _ => ⟨(fun e => nomatch e), fun _ z hz => ?_⟩, fun e => ?_⟩, (fun e => nomatch e)⟩
  rotate_left
  · rw [decide_eq_true rfl] at e
    cases e
  · subst hz
    refine ⟨fun _ => s_member O.mem ⟨fun _ => s_is_price O.lo O.hi ⟨fun _ => s_is_integer1 ?_, (fun e => nomatch e)⟩, (fun e => nomatch e)⟩, fun e => ?_⟩
    · rw [decide_eq_true O.pos]
      exact h
    · rw [decide_eq_true (by rcases O.side with e | e <;> rw [e] <;> simp)] at e
      cases e
theorem s_check_orders {os : List (T4 Str Str Int Int)} {P : Unit → Prop} (O : ∀ o ∈ os, OkO o) (h : P ()) : w_check_orders os P := by
  unfold w_check_orders
  exact for_unit _ (fun x hx nx bk hn => s_is_standing (O x hx) ⟨(fun e => nomatch e), fun _ => hn⟩) h
theorem s_check_priced {os : List (T4 Str Str Int Int)} {pr : Dc Str Int} {P : Unit → Prop} (O : ∀ o ∈ os, o.b ∈ keys pr.l) (h : P ()) : w_check_priced os pr P := by
  unfold w_check_priced
  refine for_unit _ (fun x hx nx bk hn => ?_) h
  obtain ⟨v, hv⟩ := look_mem (O x hx)
  exact ⟨(fun e => by rw [hv] at e; cases e), fun _ => hn⟩
theorem s_check_question {p pr : Dc Str Int} {os : List (T4 Str Str Int Int)} {ms : List (Dc Str Int)} {P : Unit → Prop} (D : Dct p.l) (z : NoZ p.l) (O : ∀ o ∈ os, OkO o) (M : Mvs ms) (R : Prc pr.l) (h : P ()) : w_check_question p os ms pr P := by
  unfold w_check_question
  exact s_check_position D z (s_check_orders O (s_check_moves M (s_check_prices R h)))
end K21
set_option maxHeartbeats 4000000
/-! k21, the plain law: two units, totals -/
namespace K21
open PySem PySem.Spec PyProof.Rows L2 DW
structure U2 (u v : Str) : Prop where
  ne : u ≠ v
  mu : memOk u = true
  mv : memOk v = true
structure In2 {α : Type} (u v : Str) (d : List (Str × α)) : Prop where
  nd : (keys d).Nodup
  sub : ∀ k ∈ keys d, k = u ∨ k = v
theorem in2_cases {α : Type} {u v : Str} {d : List (Str × α)} (h : In2 u v d) : keys d = [] ∨ keys d = [u] ∨ keys d = [v] ∨ keys d = [u, v] ∨ keys d = [v, u] := by
  obtain ⟨nd, sub⟩ := h
  generalize keys d = ks at nd sub
  match ks with
  | [] => exact .inl rfl
  | [a] =>
    rcases sub a (by simp) with e | e <;> subst e <;> simp
  | [a, b] =>
    have : a ≠ b := by
      intro e
      simp [e] at nd
    rcases sub a (by simp) with e | e <;> rcases sub b (by simp) with f | f <;> subst e <;> subst f <;> simp_all
  | a :: b :: c :: r =>
    simp only [List.nodup_cons, List.mem_cons, not_or] at nd
    rcases sub a (by simp) with e | e <;> rcases sub b (by simp) with f | f <;> rcases sub c (by simp) with i | i <;> simp_all
theorem in2_len {α : Type} {u v : Str} {d : List (Str × α)} (h : In2 u v d) : d.length ≤ 2 := by
  have : d.length = (keys d).length := by rw [List.length_map]
  rw [this]
  rcases in2_cases h with e | e | e | e | e <;> rw [e] <;> simp
theorem in2_dct {u v : Str} {d : List (Str × Int)} (H : U2 u v) (h : In2 u v d) : Dct d :=
  ⟨h.nd, fun k hk => by
    rcases h.sub k hk with e | e
    · rw [e]; exact H.mu
    · rw [e]; exact H.mv, by have := in2_len h; omega⟩
abbrev g (d : List (Str × Int)) (k : Str) : Int := (look d k).getD 0
theorem g_none {d : List (Str × Int)} {k : Str} (h : k ∉ keys d) : g d k = 0 := by
  unfold g
  rw [look_none.mpr h]
  rfl
theorem g_some {d : List (Str × Int)} {k : Str} {v : Int} (h : look d k = some v) : g d k = v := by
  unfold g
  rw [h]
  rfl
theorem lossBy2 {u v : Str} {p m : List (Str × Int)} (H : u ≠ v) (h : In2 u v p) : lossBy p m = -(g p u * g m u + g p v * g m v) := by
  have hu : u ∉ keys p → g p u = 0 := g_none
  have hv : v ∉ keys p → g p v = 0 := g_none
  unfold lossBy
  rcases in2_cases h with e | e | e | e | e <;> rw [e] at hu hv ⊢ <;> simp [H, H.symm, Ne.symm] at hu hv ⊢ <;> simp_all [g] <;> omega
/-! ### orders and totals -/
def ul (o : T4 Str Str Int Int) (m pr : List (Str × Int)) : Int := if o.a = ("buy" : Str) then o.c - (g pr o.b + g m o.b) else g pr o.b + g m o.b - o.c
def fill (o : T4 Str Str Int Int) (m pr : List (Str × Int)) : Int := if 0 < ul o m pr then o.d else 0
def bite (o : T4 Str Str Int Int) (m pr : List (Str × Int)) : Int := fill o m pr * ul o m pr
def tot (p : List (Str × Int)) (os : List (T4 Str Str Int Int)) (m pr : List (Str × Int)) : Int := lossBy p m + (os.map fun o => bite o m pr).sum
theorem s_unit_loss {o : T4 Str Str Int Int} {m pr : Dc Str Int} {P : Int → Prop} (k : o.b ∈ keys pr.l) (h : P (ul o m.l pr.l)) : w_unit_loss o m pr P := by
  unfold w_unit_loss altW
  obtain ⟨x, hx⟩ := look_mem k
  refine ⟨x, hx, fun z hz => ?_⟩
  subst hz
  unfold ul at h
  rw [g_some hx] at h
  refine ⟨fun e => ?_, fun e => ?_⟩
  · rw [if_pos (of_decide_eq_true e)] at h
    exact h
  · rw [if_neg (of_decide_eq_false e)] at h
    exact h
theorem s_worst_filled {os : List (T4 Str Str Int Int)} {m pr : Dc Str Int} {P : Tp Int → Prop} (k : ∀ o ∈ os, o.b ∈ keys pr.l) (f : os.length ≤ 100000) (h : P ⟨os.map fun o => fill o m.l pr.l⟩) : w_worst_filled os m pr P := by
  unfold w_worst_filled altW
  refine ⟨f, comp_map (fun o => fill o m.l pr.l) _ _ (fun o ho R hR => s_unit_loss (k o ho) ?_) ?_⟩
  · unfold fill at hR
    refine ⟨fun e => ?_, fun e => ?_⟩
    · rw [if_pos (of_decide_eq_true e)] at hR
      exact hR
    · rw [if_neg (of_decide_eq_false e)] at hR
      exact hR
  · rw [List.nil_append]
    exact h
theorem zip_own {α β γ : Type} (f : α → β) (q : α × β → γ) : ∀ xs : List α, (xs.zip (xs.map f)).map q = xs.map fun x => q (x, f x)
  | [] => rfl
  | x :: xs => by
    show q (x, f x) :: (xs.zip (xs.map f)).map q = _
    rw [zip_own f q xs]
    rfl
theorem mem_zip_own {α β : Type} {f : α → β} {z : α × β} : ∀ {xs : List α}, z ∈ xs.zip (xs.map f) → z.1 ∈ xs ∧ z.2 = f z.1
  | x :: xs, h => by
    have h : z ∈ (x, f x) :: xs.zip (xs.map f) := h
    rcases List.mem_cons.mp h with e | e
    · subst e
      exact ⟨List.mem_cons_self, rfl⟩
    · have := mem_zip_own e
      exact ⟨List.mem_cons_of_mem _ this.1, this.2⟩
structure OkQ (p : List (Str × Int)) (os : List (T4 Str Str Int Int)) (ms : List (Dc Str Int)) (pr : List (Str × Int)) : Prop where
  D : Dct p
  z : NoZ p
  O : ∀ o ∈ os, OkO o
  top : ∀ o ∈ os, o.d ≤ 1000
  few : os.length ≤ 1000
  M : Mvs ms
  c : ∀ m ∈ ms, Cm p m.l
  R : Prc pr
  k : ∀ o ∈ os, o.b ∈ keys pr
theorem fill_small {o : T4 Str Str Int Int} {m pr : List (Str × Int)} (O : OkO o) (t : o.d ≤ 1000) : 0 ≤ fill o m pr ∧ fill o m pr ≤ 1000 := by
  have := O.pos
  unfold fill
  split <;> omega
theorem s_loss_with {p : Dc Str Int} {os : List (T4 Str Str Int Int)} {ms : List (Dc Str Int)} {m pr : Dc Str Int} {P : Int → Prop} (Q : OkQ p.l os ms pr.l) (hm : m ∈ ms) (h : P (tot p.l os m.l pr.l)) : w_loss_with p os m pr ⟨os.map fun o => fill o m.l pr.l⟩ P := by
  unfold w_loss_with
  refine ⟨?_, comp_map (fun z => z.2 * ul z.1 m.l pr.l) _ _ (fun z hz R hR => ?_) ?_⟩
  · have := Q.few
    rw [List.length_zip, List.length_map]
    omega
  · obtain ⟨h1, h2⟩ := mem_zip_own hz
    refine s_unit_loss (Q.k _ h1) ⟨.inl ?_, hR⟩
    rw [h2]
    have := fill_small (m := m.l) (pr := pr.l) (Q.O _ h1) (Q.top _ h1)
    omega
  · rw [List.nil_append, zip_own]
    intro z hz
    subst hz
    exact s_loss_by Q.D (Q.c m hm) h
/-- what worst answers -/
structure Wst1 (p : List (Str × Int)) (os : List (T4 Str Str Int Int)) (ms : List (Dc Str Int)) (pr : List (Str × Int)) (r : T3 Int Int (Tp Int)) (j : Nat) (m : Dc Str Int) : Prop where
  at' : ms[j]? = some m
  a : r.a = tot p os m.l pr
  b : r.b = j
  c : r.c = ⟨os.map fun o => fill o m.l pr⟩
  mx : ∀ m' ∈ ms, tot p os m'.l pr ≤ tot p os m.l pr
  first : ∀ i, i < j → ∀ m', ms[i]? = some m' → tot p os m'.l pr ≠ tot p os m.l pr
theorem s_worst_of {p pr : Dc Str Int} {os : List (T4 Str Str Int Int)} {ms : List (Dc Str Int)} {P : T3 Int Int (Tp Int) → Prop} (Q : OkQ p.l os ms pr.l) (h : ∀ r j m, Wst1 p.l os ms pr.l r j m → P r) : w_worst_of p os ms pr P := by
  unfold w_worst_of
  have f8 := Q.M.few
  have f1 := mvs_pos Q.M
  have fo := Q.few
  refine ⟨by omega, comp_map (fun m : Dc Str Int => (⟨os.map fun o => fill o m.l pr.l⟩ : Tp Int)) _ _ (fun m hm R hR => s_worst_filled Q.k (by omega) hR) ?_⟩
  rw [List.nil_append]
  intro fs hfs
  refine ⟨by rw [List.length_zip, hfs, List.length_map]; omega, ?_⟩
  rw [hfs]
  refine comp_map (fun z => tot p.l os z.1.l pr.l) _ _ (fun z hz R hR => ?_) ?_
  · obtain ⟨h1, h2⟩ := mem_zip_own hz
    rw [h2]
    exact s_loss_with Q h1 hR
  · rw [List.nil_append, zip_own]
    intro ls hls
    subst hls
    refine ⟨by rw [List.length_map]; omega, fun mx hmx hall => ⟨by rw [List.length_map]; omega, hmx, fun j hj hfirst z hz => ?_⟩⟩
    subst hz
    rw [List.getElem?_map] at hj
    cases e : ms[j]? with
    | none =>
      rw [e] at hj
      cases hj
    | some m =>
      rw [e] at hj
      injection hj with hj
      have hj : tot p.l os m.l pr.l = mx := hj
      refine ⟨mx, atI_nat (by rw [List.getElem?_map, e]; exact congrArg some hj), ⟨os.map fun o => fill o m.l pr.l⟩, atI_nat (by rw [List.getElem?_map, e]; rfl), h _ j m ⟨e, hj.symm, rfl, rfl, fun m' hm' => ?_, fun i hi m' hm' ne => ?_⟩⟩
      · rw [hj]
        exact hall _ (List.mem_map_of_mem hm')
      · refine hfirst i hi ?_
        rw [List.getElem?_map, hm']
        show some (tot p.l os m'.l pr.l) = some mx
        rw [ne, hj]
theorem s_worst {p pr : Dc Str Int} {os : List (T4 Str Str Int Int)} {ms : List (Dc Str Int)} {P : T3 Int Int (Tp Int) → Prop} (Q : OkQ p.l os ms pr.l) (h : ∀ r j m, Wst1 p.l os ms pr.l r j m → P r) : w_worst p os ms pr P := by
  unfold w_worst
  exact s_check_question Q.D Q.z Q.O Q.M Q.R (s_check_priced Q.k (s_worst_of Q h))
end K21
set_option maxHeartbeats 4000000
/-! k21, the plain law: covered, room, joined -/
namespace K21
open PySem PySem.Spec PyProof.Rows L2 DW
theorem for_fold {α σ : Type} {B : α → σ → (σ → Prop) → (σ → Prop) → Prop} {k : σ → Prop} (f : σ → α → σ) : ∀ (xs : List α) (s : σ), (∀ x ∈ xs, ∀ s (nx bk : σ → Prop), nx (f s x) → B x s nx bk) → k (xs.foldl f s) → forW B k xs s
  | [], s, _, h => h
  | x :: xs, s, hB, h => hB x List.mem_cons_self s _ _ (for_fold f xs (f s x) (fun y hy => hB y (List.mem_cons_of_mem _ hy)) h)
def mxL : List Int → Int
  | [] => 0
  | [x] => x
  | x :: y :: r => max x (mxL (y :: r))
theorem mxL_is : ∀ {xs : List Int}, xs ≠ [] → IsMax xs (mxL xs)
  | [], h => absurd rfl h
  | [x], _ => ⟨List.mem_cons_self, fun y hy => by
    rcases List.mem_cons.mp hy with e | e
    · subst e
      exact Int.le_refl _
    · cases e⟩
  | x :: y :: r, _ => by
    have ih := mxL_is (xs := y :: r) (by simp)
    show IsMax _ (max x (mxL (y :: r)))
    refine ⟨?_, fun z hz => ?_⟩
    · by_cases e : x ≤ mxL (y :: r)
      · rw [show max x (mxL (y :: r)) = mxL (y :: r) by omega]
        exact List.mem_cons_of_mem _ ih.1
      · rw [show max x (mxL (y :: r)) = x by omega]
        exact List.mem_cons_self
    · rcases List.mem_cons.mp hz with e | e
      · omega
      · have := ih.2 z e
        omega
/-- the greatest total -/
def top (p : List (Str × Int)) (os : List (T4 Str Str Int Int)) (ms : List (Dc Str Int)) (pr : List (Str × Int)) : Int := mxL (ms.map fun m => tot p os m.l pr)
theorem top_is {p : List (Str × Int)} {os : List (T4 Str Str Int Int)} {ms : List (Dc Str Int)} {pr : List (Str × Int)} (M : Mvs ms) : IsMax (ms.map fun m => tot p os m.l pr) (top p os ms pr) :=
  mxL_is fun e => by
    have := mvs_pos M
    have e := congrArg List.length e
    rw [List.length_map] at e
    simp at e
    rw [e] at this
    simp at this
theorem wst_top {p : List (Str × Int)} {os : List (T4 Str Str Int Int)} {ms : List (Dc Str Int)} {pr : List (Str × Int)} {r : T3 Int Int (Tp Int)} {j : Nat} {m : Dc Str Int} (M : Mvs ms) (h : Wst1 p os ms pr r j m) : r.a = top p os ms pr := by
  refine isMax_one ⟨?_, fun y hy => ?_⟩ (top_is M)
  · rw [h.a]
    exact List.mem_map_of_mem (f := fun m : Dc Str Int => tot p os m.l pr) (List.mem_of_getElem? h.at')
  · obtain ⟨m', hm', rfl⟩ := List.mem_map.mp hy
    rw [h.a]
    exact h.mx m' hm'
theorem s_check_money {v : Int} {P : Unit → Prop} (h : P ()) : w_check_money v P := by
  unfold w_check_money
  exact s_is_integer ⟨(fun e => nomatch e), fun _ => h⟩
theorem s_covered {p pr : Dc Str Int} {os : List (T4 Str Str Int Int)} {ms : List (Dc Str Int)} {money : Int} {P : Option (T3 Int Int (Tp Int)) → Prop} (Q : OkQ p.l os ms pr.l) (h0 : top p.l os ms pr.l ≤ money → P none) (h1 : money < top p.l os ms pr.l → ∀ r, P (some r)) : w_covered p os ms pr money P := by
  unfold w_covered
  refine s_check_question Q.D Q.z Q.O Q.M Q.R (s_check_money (s_check_priced Q.k ?_))
  unfold w_covered_p1
  refine s_worst_of Q fun r j m hr => ?_
  have e := wst_top Q.M hr
  intro z hz
  subst hz
  unfold altW
  refine ⟨fun c => h0 ?_, fun c => h1 ?_ _⟩
  · rw [← e]
    exact of_decide_eq_true c
  · rw [← e]
    exact Int.not_le.mp (of_decide_eq_false c)
def roomL (p : List (Str × Int)) (os : List (T4 Str Str Int Int)) (ms : List (Dc Str Int)) (pr : List (Str × Int)) (money : Int) (side c : Str) (price : Int) : Option Int :=
  if money < top p os ms pr then none else some ((rng 1 12).foldl (fun f n => if top p (os ++ [⟨side, c, price, n⟩]) ms pr ≤ money then n else f) 0)
theorem okQ_more {p : List (Str × Int)} {os : List (T4 Str Str Int Int)} {ms : List (Dc Str Int)} {pr : List (Str × Int)} (Q : OkQ p os ms pr) (f : os.length ≤ 900) {o : T4 Str Str Int Int} (O : OkO o) (t : o.d ≤ 1000) (k : o.b ∈ keys pr) : OkQ p (os ++ [o]) ms pr :=
  ⟨Q.D, Q.z, fun x hx => by
    rcases List.mem_append.mp hx with e | e
    · exact Q.O x e
    · rw [List.mem_singleton.mp e]; exact O, fun x hx => by
    rcases List.mem_append.mp hx with e | e
    · exact Q.top x e
    · rw [List.mem_singleton.mp e]; exact t, by rw [List.length_append, List.length_singleton]; omega, Q.M, Q.c, Q.R, fun x hx => by
    rcases List.mem_append.mp hx with e | e
    · exact Q.k x e
    · rw [List.mem_singleton.mp e]; exact k⟩
theorem mem_rng {lo : Int} {n : Nat} {x : Int} (h : x ∈ rng lo n) : lo ≤ x ∧ x < lo + n := by
  unfold rng at h
  obtain ⟨i, hi, rfl⟩ := List.mem_map.mp h
  have := List.mem_range.mp hi
  omega
end K21
set_option maxHeartbeats 4000000
/-! k21, the plain law: covered, room, joined -/
namespace K21
open PySem PySem.Spec PyProof.Rows L2 DW
theorem s_room {p pr : Dc Str Int} {os : List (T4 Str Str Int Int)} {ms : List (Dc Str Int)} {money : Int} {side c : Str} {price : Int} {P : Option Int → Prop} (Q : OkQ p.l os ms pr.l) (f : os.length ≤ 900) (O : OkO ⟨side, c, price, 1⟩) (k : c ∈ keys pr.l) (h : P (roomL p.l os ms pr.l money side c price)) : w_room p os ms pr money side c price P := by
  have On : ∀ n : Int, 1 ≤ n → OkO ⟨side, c, price, n⟩ := fun n hn => ⟨O.side, O.mem, O.lo, O.hi, hn⟩
  unfold w_room
  refine s_check_question Q.D Q.z Q.O Q.M Q.R (s_check_money fun z hz => ?_)
  subst hz
  unfold w_room_p1
  refine s_check_orders (fun o ho => ?_) ⟨?_, s_check_priced (okQ_more Q f O (by show (1 : Int) ≤ 1000; omega) k).k (s_worst_of Q fun r j m hr => ?_)⟩
  · rw [List.mem_singleton.mp ho]
    exact O
  · rw [List.length_append, List.length_singleton]
    omega
  · have e := wst_top Q.M hr
    rw [e]
    unfold roomL at h
    refine ⟨fun z => ?_, fun z => ?_⟩
    · rw [if_pos (of_decide_eq_true z)] at h
      exact h
    · rw [if_neg (of_decide_eq_false z)] at h
      unfold w_room_p2
      intro s hs
      subst hs
      refine ⟨⟨by decide, by decide, by decide, by decide⟩, for_fold (fun f n => if top p.l (os ++ [⟨side, c, price, n⟩]) ms pr.l ≤ money then n else f) _ _ (fun n hn s nx bk hx => ?_) (by exact h)⟩
      have b : 1 ≤ n ∧ n < 1 + ((12 : Nat) : Int) := mem_rng hn
      have Q' := okQ_more Q f (On n b.1) (by show n ≤ 1000; have h2 : n < 1 + ((12 : Nat) : Int) := b.2; omega) k
      refine ⟨by rw [List.length_append, List.length_singleton]; omega, fun y hy => ?_⟩
      subst hy
      unfold joinW
      refine s_worst_of Q' fun r j m hr => ?_
      have e := wst_top Q'.M hr
      rw [e]
      refine ⟨fun z w hw => ?_, fun z => ?_⟩
      · subst hw
        rw [if_pos (of_decide_eq_true z)] at hx
        exact hx
      · rw [if_neg (of_decide_eq_false z)] at hx
        exact hx
end K21
set_option maxHeartbeats 4000000
/-! k21, the plain law: joined -/
namespace K21
open PySem PySem.Spec PyProof.Rows L2 DW
theorem puts_own {κ α : Type} [DecidableEq κ] {ys : List (κ × α)} (h : (keys ys).Nodup) : puts [] ys = ys := by
  have := puts_new (xs := ([] : List (κ × α))) (ys := ys) (by simpa using h)
  simpa using this
def thin (S : Str → Int) (z : List Str) : List (Str × Int) := z.filterMap fun x => if S x = 0 then none else some (x, S x)
theorem thin_keys (S : Str → Int) : ∀ z : List Str, keys (thin S z) = z.filter fun x => decide (S x ≠ 0)
  | [] => rfl
  | x :: z => by
    have ih := thin_keys S z
    unfold thin at ih ⊢
    by_cases e : S x = 0
    · simp [e] at ih ⊢
      exact ih
    · simp [e] at ih ⊢
      exact ih
theorem thin_look (S : Str → Int) (k : Str) : ∀ z : List Str, look (thin S z) k = if k ∈ z then (if S k = 0 then none else some (S k)) else none
  | [] => rfl
  | x :: z => by
    have ih := thin_look S k z
    unfold thin at ih ⊢
    rw [List.filterMap_cons]
    by_cases e : S x = 0
    · simp only [e, if_true]
      rw [ih]
      by_cases c : k = x
      · subst c
        simp [e]
      · simp [c]
    · simp only [e, if_false]
      unfold look
      by_cases c : k = x
      · subst c
        simp [e]
      · simp only [Ne.symm c, c, if_false, List.mem_cons, false_or]
        rw [ih]
theorem look_own {α : Type} (S : Str → α) {x : Str} : ∀ {us : List Str}, x ∈ us → look (us.map fun x => (x, S x)) x = some (S x)
  | y :: us, hx => by
    show look ((y, S y) :: us.map fun x => (x, S x)) x = _
    unfold look
    by_cases c : x = y
    · subst c
      simp
    · simp only [Ne.symm c, c, if_false]
      rcases List.mem_cons.mp hx with e | e
      · exact absurd e c
      · exact look_own S e
structure Sum2 (u v : Str) (a b r : List (Str × Int)) : Prop where
  I : In2 u v r
  z : NoZ r
  g : ∀ k, g r k = g a k + g b k
theorem s_summed {u v : Str} {a b : Dc Str Int} {P : Dc Str Int → Prop} (A : In2 u v a.l) (B : In2 u v b.l) (h : ∀ r : Dc Str Int, Sum2 u v a.l b.l r.l → P r) : w_summed a b P := by
  unfold w_summed
  have la := in2_len A
  have lb := in2_len B
  have len : (keys a.l ++ (keys b.l ++ [])).length < 64 := by
    simp only [List.length_append, List.length_map, List.length_nil]
    omega
  refine ⟨Nat.le_of_lt (Nat.lt_trans len (by decide)), len, fun z nd me _ us hus => ?_⟩
  subst hus
  have sub : ∀ k ∈ us, k = u ∨ k = v := fun k hk => by
    have := (me k).mp hk
    rw [List.append_nil] at this
    rcases List.mem_append.mp this with e | e
    · exact A.sub k e
    · exact B.sub k e
  have l2 : us.length ≤ 2 := by
    have := in2_len (d := us.map fun x => (x, (0 : Int))) (u := u) (v := v) ⟨by simpa [Function.comp_def] using nd, by simpa [Function.comp_def] using sub⟩
    simpa using this
  let S : Str → Int := fun x => g a.l x + g b.l x
  refine ⟨by omega, comp_map (fun x => (x, S x)) _ _ (fun x hx R hR => hR) ?_⟩
  rw [List.nil_append]
  have ko : keys (us.map fun x => (x, S x)) = us := by simp [Function.comp_def]
  rw [puts_own (by rw [ko]; exact nd)]
  intro both hb
  have kb : keys both.l = us := by rw [hb]; exact ko
  have lk : ∀ x ∈ us, look both.l x = some (S x) := fun x hx => by
    rw [hb]
    exact look_own S hx
  refine ⟨by show (keys both.l).length ≤ _; rw [kb]; omega, ?_⟩
  show compM _ _ (keys both.l)
  rw [kb]
  refine comp_fm (fun x => if S x = 0 then none else some (x, S x)) _ _ (fun x hx R hR => ?_) ?_
  · refine ⟨S x, lk x hx, fun e => ⟨S x, lk x hx, ?_⟩, fun e => ?_⟩
    · have : ¬ S x = 0 := by simpa using e
      rw [if_neg this] at hR
      exact hR
    · have : S x = 0 := by simpa using e
      rw [if_pos this] at hR
      exact hR
  · rw [List.nil_append]
    show P ⟨puts [] (thin S us)⟩
    have nt : (keys (thin S us)).Nodup := by
      rw [thin_keys]
      exact nd.filter _
    rw [puts_own nt]
    refine h _ ⟨⟨nt, fun k hk => sub k ?_⟩, fun k x hk => ?_, fun k => ?_⟩
    · have hk : k ∈ keys (thin S us) := hk
      rw [thin_keys] at hk
      exact (List.mem_filter.mp hk).1
    · have hk : look (thin S us) k = some x := hk
      rw [thin_look] at hk
      split at hk
      · split at hk
        · cases hk
        · injection hk with hk
          subst hk
          assumption
      · cases hk
    · show ((look (thin S us) k).getD 0) = g a.l k + g b.l k
      rw [thin_look]
      by_cases c : k ∈ us
      · rw [if_pos c]
        by_cases e : S k = 0
        · rw [if_pos e]
          exact e.symm
        · rw [if_neg e]
          rfl
      · rw [if_neg c]
        have n : ¬ (k ∈ keys a.l ∨ k ∈ keys b.l) := fun e => c ((me k).mpr (by rw [List.append_nil]; exact List.mem_append.mpr e))
        rw [g_none fun e => n (.inl e), g_none fun e => n (.inr e)]
        rfl
theorem s_joined {u v : Str} {a b : Dc Str Int} {P : Dc Str Int → Prop} (H : U2 u v) (A : In2 u v a.l) (za : NoZ a.l) (B : In2 u v b.l) (zb : NoZ b.l) (h : ∀ r : Dc Str Int, Sum2 u v a.l b.l r.l → P r) : w_joined a b P := by
  unfold w_joined
  exact s_check_position (in2_dct H A) za (s_check_position (in2_dct H B) zb (s_summed A B h))
end K21
set_option maxHeartbeats 4000000
/-! k21, the plain law: what the makers make -/
namespace K21
open PySem PySem.Spec PyProof.Rows L2 DW
theorem u2_swap {u v : Str} (h : U2 u v) : U2 v u := ⟨h.ne.symm, h.mv, h.mu⟩
theorem perm2 {α : Type} {a b : α} {z : List α} (h : z.Perm [a, b]) : z = [a, b] ∨ z = [b, a] := by
  match z, h with
  | z, h =>
    have l := h.length_eq
    match z, l with
    | [x, y], _ =>
      have hx : x ∈ [a, b] := h.mem_iff.mp (by simp)
      simp only [List.mem_cons, List.not_mem_nil, or_false] at hx
      rcases hx with e | e
      · subst e
        left
        have := (List.perm_cons x).mp h
        rw [List.perm_singleton] at this
        rw [this]
      · subst e
        right
        have := (List.perm_cons x).mp (h.trans (List.Perm.swap x a []))
        rw [List.perm_singleton] at this
        rw [this]
theorem u2_a : U2 ("oil" : Str) ("tin" : Str) := ⟨by decide, by decide +kernel, by decide +kernel⟩
theorem u2_b : U2 ("a" : Str) ("ab" : Str) := ⟨by decide, by decide +kernel, by decide +kernel⟩
theorem u2_c : U2 ("wheat" : Str) ("corn" : Str) := ⟨by decide, by decide +kernel, by decide +kernel⟩
theorem u2_d : U2 ("zzzzzzzz" : Str) ("zzzzzzzy" : Str) := ⟨by decide, by decide +kernel, by decide +kernel⟩
theorem s__law_units {P : List Str → Prop} (h : ∀ u v, U2 u v → P [u, v]) : w__law_units P := by
  unfold w__law_units
  intro L hL
  subst hL
  have key : ∀ a b, U2 a b → ([a, b].length < 64 ∧ ∀ z, List.Perm z [a, b] → sortedS z → P z) := fun a b H => ⟨by simp, fun z hz _ => by
    rcases perm2 hz with e | e
    · rw [e]
      exact h a b H
    · rw [e]
      exact h b a (u2_swap H)⟩
  refine ⟨by decide, fun y h0 h1 => ?_⟩
  have : y = 0 ∨ y = 1 ∨ y = 2 ∨ y = 3 := by omega
  rcases this with e | e | e | e <;> subst e
  · exact ⟨_, rfl, key _ _ u2_a⟩
  · exact ⟨_, rfl, key _ _ u2_b⟩
  · exact ⟨_, rfl, key _ _ u2_c⟩
  · exact ⟨_, rfl, key _ _ u2_d⟩
theorem s__law_number {P : Int → Prop} (h : ∀ x, P x) : w__law_number P := by
  unfold w__law_number
  have c6 : CPow 10 6 := by unfold CPow; decide
  have c30 : CPow 10 30 := by unfold CPow; decide
  have c9 : CPow 10 9 := by unfold CPow; decide
  have key : ∀ z : Int, 0 ≤ z → ∀ s : Int, s = 0 → (CPow (10 : Int) (6 : Int) ∧ (CMul (3 : Int) (if (decide (((10 : Int) ^ (Int.toNat (6 : Int))) < z)) then 1 else 0) ∧ ((-(2 ^ 62) ≤ ((1 : Int) + ((3 : Int) * (if (decide (((10 : Int) ^ (Int.toNat (6 : Int))) < z)) then 1 else 0))) ∧ ((1 : Int) + ((3 : Int) * (if (decide (((10 : Int) ^ (Int.toNat (6 : Int))) < z)) then 1 else 0))) < 2 ^ 62) ∧ ((rng 0 (Int.toNat ((1 : Int) + ((3 : Int) * (if (decide (((10 : Int) ^ (Int.toNat (6 : Int))) < z)) then 1 else 0))))).length ≤ 100 ∧ forW (fun (x488 : Int) (s485 : Int) (n489 b490 : Int → Prop) => (CPow (10 : Int) (9 : Int) ∧ (CMul s485 ((10 : Int) ^ (Int.toNat (9 : Int))) ∧ ((CMul (2 : Int) z ∧ (CPow (10 : Int) (9 : Int) ∧ w__law_take (if ((10 : Int) ^ (Int.toNat (9 : Int))) < (((2 : Int) * z) + (1 : Int)) then ((10 : Int) ^ (Int.toNat (9 : Int))) else (((2 : Int) * z) + (1 : Int))) (fun (y491 : Int) => ∀ (z_found_493 : Int), z_found_493 = ((s485 * ((10 : Int) ^ (Int.toNat (9 : Int)))) + y491) → n489 z_found_493))))))) (fun (s495 : Int) => (CMul (2 : Int) z ∧ (0 < (((2 : Int) * z) + (1 : Int)) ∧ P ((s495 % (((2 : Int) * z) + (1 : Int))) - z)))) (rng 0 (Int.toNat ((1 : Int) + ((3 : Int) * (if (decide (((10 : Int) ^ (Int.toNat (6 : Int))) < z)) then 1 else 0))))) s)))) := by
    intro z hz s _
    have cm : ∀ t : Int, CMul 2 t := fun t => .inl (by decide)
    have cm3 : ∀ t : Int, CMul 3 t := fun t => .inl (by decide)
    have cm9 : ∀ t : Int, CMul t ((10 : Int) ^ (Int.toNat (9 : Int))) := fun t => .inr (by decide)
    have two : (if (decide (((10 : Int) ^ (Int.toNat (6 : Int))) < z)) = true then (1 : Int) else 0) = 0 ∨ (if (decide (((10 : Int) ^ (Int.toNat (6 : Int))) < z)) = true then (1 : Int) else 0) = 1 := by
      split <;> simp
    generalize (if (decide (((10 : Int) ^ (Int.toNat (6 : Int))) < z)) = true then (1 : Int) else 0) = q at two ⊢
    refine ⟨c6, cm3 _, by omega, ?_, for_inv (fun _ _ => True) _ 0 s trivial (fun j x s nx bk _ _ hn => ⟨c9, cm9 _, cm _, c9, ?_⟩) fun s _ => ⟨cm _, by omega, h _⟩⟩
    · unfold rng
      rw [List.length_map, List.length_range]
      omega
    · have e9 : (10 : Int) ^ (Int.toNat (9 : Int)) = 1000000000 := by decide
      rw [e9]
      refine ⟨?_, fun y _ _ w _ => hn _ trivial⟩
      split <;> omega
  refine ⟨c6, c30, ⟨by decide, fun y h0 h1 => ?_⟩⟩
  have : y = 0 ∨ y = 1 ∨ y = 2 ∨ y = 3 ∨ y = 4 := by omega
  rcases this with e | e | e | e | e <;> subst e
  · exact ⟨_, rfl, fun z hz => key z (by rw [hz]; decide)⟩
  · exact ⟨_, rfl, fun z hz => key z (by rw [hz]; decide)⟩
  · exact ⟨_, rfl, fun z hz => key z (by rw [hz]; decide)⟩
  · exact ⟨_, rfl, fun z hz => key z (by rw [hz]; decide)⟩
  · exact ⟨_, rfl, fun z hz => key z (by rw [hz]; decide)⟩
theorem put_sub {α : Type} {d : List (Str × α)} {k x : Str} {v : α} (h : k ∈ keys (put d x v)) : k = x ∨ k ∈ keys d := by
  by_cases e : k = x
  · exact .inl e
  · obtain ⟨y, hy⟩ := look_mem h
    rw [look_put, if_neg e] at hy
    exact .inr (mem_look hy)
theorem in2_put {α : Type} {u v : Str} {d : List (Str × α)} (h : In2 u v d) {x : Str} (hx : x = u ∨ x = v) (y : α) : In2 u v (put d x y) :=
  ⟨put_nodup h.nd, fun k hk => by
    rcases put_sub hk with e | e
    · rw [e]; exact hx
    · exact h.sub k e⟩
theorem noz_put {d : List (Str × Int)} (h : NoZ d) {x : Str} {y : Int} (hy : y ≠ 0) : NoZ (put d x y) := fun k w hk => by
  rw [look_put] at hk
  split at hk
  · injection hk with hk
    rw [← hk]; exact hy
  · exact h k w hk
theorem in2_nil {α : Type} {u v : Str} : In2 u v ([] : List (Str × α)) := ⟨List.nodup_nil, fun k hk => nomatch hk⟩
theorem mem2 {u v x : Str} {z : List Str} (h : z.Perm [u, v]) (hx : x ∈ z) : x = u ∨ x = v := by
  have := h.mem_iff.mp hx
  simpa using this
theorem s__law_position {u v : Str} {P : Dc Str Int → Prop} (h : ∀ d : Dc Str Int, In2 u v d.l → NoZ d.l → P d) : w__law_position [u, v] P := by
  unfold w__law_position
  intro s hs
  subst hs
  refine ⟨by simp, fun z hz => ⟨by rw [hz.length_eq]; simp, for_inv (fun _ (s : List (Str × Int)) => In2 u v s ∧ NoZ s ∧ s.length ≤ 2) _ 0 _ ⟨in2_nil, (fun k w hk => nomatch hk), by simp⟩ (fun j x s nx bk hx I hn => ?_) fun s I => h _ I.1 I.2.1⟩⟩
  refine s__law_number fun n w hw => ?_
  cases hw
  unfold joinW
  have hx := mem2 hz (List.mem_of_getElem? hx)
  refine ⟨fun e => ⟨by have := I.2.2; omega, fun w hw => ?_⟩, fun e => hn _ I⟩
  subst hw
  have e : ¬ n = 0 := by simpa using e
  have I1 := in2_put I.1 hx n
  exact hn _ ⟨I1, noz_put I.2.1 e, in2_len I1⟩
structure Prc2 (u v : Str) (d : List (Str × Int)) : Prop where
  I : In2 u v d
  ku : u ∈ keys d
  kv : v ∈ keys d
  lo : ∀ k w, look d k = some w → 1 ≤ w ∧ w ≤ 99
theorem prc2 {u v : Str} {d : List (Str × Int)} (H : U2 u v) (h : Prc2 u v d) : Prc d := ⟨in2_dct H h.I, h.lo⟩
theorem paired_keys {α : Type} {F : Str → Str × α → Prop} (f : ∀ x p, F x p → p.1 = x) : ∀ {xs : List Str} {ys : List (Str × α)}, Paired F xs ys → keys ys = xs
  | _, _, .nil => rfl
  | _, _, .cons h t => by
    show _ :: keys _ = _
    rw [paired_keys f t, f _ _ h]
theorem paired_look {α : Type} {F : Str → Str × α → Prop} {G : α → Prop} (f : ∀ x p, F x p → G p.2) : ∀ {xs : List Str} {ys : List (Str × α)}, Paired F xs ys → ∀ k w, look ys k = some w → G w
  | _, _, .nil, k, w, h => nomatch h
  | _, _, .cons (b := p) h t, k, w, e => by
    unfold look at e
    split at e
    · injection e with e
      rw [← e]
      exact f _ _ h
    · exact paired_look f t k w e
theorem s__law_prices {u v : Str} {P : Dc Str Int → Prop} (H : U2 u v) (h : ∀ d : Dc Str Int, Prc2 u v d.l → P d) : w__law_prices [u, v] P := by
  unfold w__law_prices
  refine ⟨by simp, fun z hz => ⟨by rw [hz.length_eq]; simp, comp_rel (fun x (p : Str × Int) => p.1 = x ∧ 1 ≤ p.2 ∧ p.2 ≤ 99) _ _ (fun x hx R hR => ⟨by decide, fun y h0 h1 => hR _ ⟨rfl, by show 1 ≤ 1 + y; omega, by show 1 + y ≤ 99; omega⟩⟩) fun ys hys => ?_⟩⟩
  have nd : z.Nodup := hz.nodup_iff.mpr (by simp [H.ne])
  have kz := paired_keys (fun x p e => e.1) hys
  rw [List.nil_append, puts_own (by rw [kz]; exact nd)]
  refine h _ ⟨⟨by show (keys ys).Nodup; rw [kz]; exact nd, fun k hk => ?_⟩, ?_, ?_, paired_look (G := fun w => 1 ≤ w ∧ w ≤ 99) (fun x p e => e.2) hys⟩
  · have hk : k ∈ keys ys := hk
    rw [kz] at hk
    exact mem2 hz hk
  · show u ∈ keys ys
    rw [kz]
    exact hz.mem_iff.mpr (by simp)
  · show v ∈ keys ys
    rw [kz]
    exact hz.mem_iff.mpr (by simp)
/-- moves of the law -/
structure Mvs2 (u v : Str) (ms : List (Dc Str Int)) : Prop where
  I : ∀ m ∈ ms, In2 u v m.l
  few : ms.length ≤ 8
  head : ∃ m, ms[0]? = some m ∧ m.l = []
  lo : ∀ m ∈ ms, ∀ k w, look m.l k = some w → -40 ≤ w ∧ w ≤ 40
theorem mvs2 {u v : Str} {ms : List (Dc Str Int)} (H : U2 u v) (h : Mvs2 u v ms) : Mvs ms := ⟨fun m hm => in2_dct H (h.I m hm), h.few, h.head⟩
theorem mvs2_c {u v : Str} {ms : List (Dc Str Int)} (h : Mvs2 u v ms) (p : List (Str × Int)) : ∀ m ∈ ms, Cm p m.l := fun m hm k w _ => .inr (by
  show -(2 ^ 64) < g m.l k ∧ g m.l k < 2 ^ 64
  cases e : look m.l k with
  | none =>
    unfold g
    rw [e]
    decide
  | some x =>
    rw [g_some e]
    have := h.lo m hm k x e
    omega)
end K21
set_option maxHeartbeats 4000000
/-! k21, the plain law: moves, orders, led -/
namespace K21
open PySem PySem.Spec PyProof.Rows L2 DW
theorem s__law_moves {u v : Str} {P : List (Dc Str Int) → Prop} (H : U2 u v) (h : ∀ ms, Mvs2 u v ms → P ms) : w__law_moves [u, v] 8 P := by
  unfold w__law_moves
  intro s hs
  subst hs
  refine ⟨by decide, fun n h0 h1 => ⟨by omega, by unfold rng; rw [List.length_map, List.length_range]; omega, for_inv (fun i (ms : List (Dc Str Int)) => (∀ m ∈ ms, In2 u v m.l) ∧ ms.length ≤ 1 + i ∧ (∃ m, ms[0]? = some m ∧ m.l = []) ∧ ∀ m ∈ ms, ∀ k w, look m.l k = some w → -40 ≤ w ∧ w ≤ 40) _ 0 _ ?_ (fun j x ms nx bk hj I hn => ?_) fun ms I => h _ ⟨I.1, ?_, I.2.2.1, I.2.2.2⟩⟩⟩
  · refine ⟨fun m hm => ?_, by simp, ⟨_, rfl, rfl⟩, fun m hm k w hk => ?_⟩
    · rw [List.mem_singleton.mp hm]
      exact in2_nil
    · rw [List.mem_singleton.mp hm] at hk
      cases hk
  · intro sh hsh
    subst hsh
    have jn : j < n.toNat := by
      have := (List.getElem?_eq_some_iff.mp hj).1
      unfold rng at this
      rw [List.length_map, List.length_range] at this
      exact this
    refine ⟨by simp, fun z hz => ⟨by rw [hz.length_eq]; simp, for_inv (fun _ (d : List (Str × Int)) => In2 u v d ∧ ∀ k w, look d k = some w → -40 ≤ w ∧ w ≤ 40) _ 0 _ ⟨in2_nil, (fun k w hk => nomatch hk)⟩ (fun j x d nx bk hx I hn => ?_) fun d D => ?_⟩⟩
    · have hx := mem2 hz (List.mem_of_getElem? hx)
      unfold joinW
      refine ⟨by decide, fun y _ _ => ⟨fun _ => ⟨by decide, fun w hw0 hw1 => ⟨by have := in2_len I.1; omega, fun d' hd' => ?_⟩⟩, fun _ => hn _ I⟩⟩
      subst hd'
      refine hn _ ⟨in2_put I.1 hx _, fun k q hq => ?_⟩
      rw [look_put] at hq
      split at hq
      · injection hq with hq
        omega
      · exact I.2 k q hq
    · refine ⟨by have := I.2.1; omega, fun ms' hms' => ?_⟩
      subst hms'
      refine hn _ ⟨fun m hm => ?_, by rw [List.length_append, List.length_singleton]; have := I.2.1; omega, ?_, fun m hm k w hk => ?_⟩
      · rcases List.mem_append.mp hm with e | e
        · exact I.1 m e
        · rw [List.mem_singleton.mp e]
          exact D.1
      · obtain ⟨m, hm, hl⟩ := I.2.2.1
        refine ⟨m, ?_, hl⟩
        rw [List.getElem?_append_left (List.getElem?_eq_some_iff.mp hm).1]
        exact hm
      · rcases List.mem_append.mp hm with e | e
        · exact I.2.2.2 m e k w hk
        · rw [List.mem_singleton.mp e] at hk
          exact D.2 k w hk
  · have := I.2.1
    unfold rng at this
    rw [List.length_map, List.length_range] at this
    omega
structure Ord2 (u v : Str) (n : Nat) (os : List (T4 Str Str Int Int)) : Prop where
  O : ∀ o ∈ os, OkO o
  t : ∀ o ∈ os, o.d ≤ 99
  k : ∀ o ∈ os, o.b = u ∨ o.b = v
  few : os.length ≤ n
theorem s__law_orders {u v : Str} {k : Nat} {P : List (T4 Str Str Int Int) → Prop} (H : U2 u v) (hk : k ≤ 90) (h : ∀ os, Ord2 u v k os → P os) : w__law_orders [u, v] (k : Int) P := by
  unfold w__law_orders
  intro s hs
  subst hs
  refine ⟨by omega, fun n h0 h1 => ⟨by omega, by unfold rng; rw [List.length_map, List.length_range]; omega, for_inv (fun i (os : List (T4 Str Str Int Int)) => Ord2 u v i os) _ 0 _ ⟨(fun o ho => nomatch ho), (fun o ho => nomatch ho), (fun o ho => nomatch ho), by simp⟩ (fun j x os nx bk hj I hn => ?_) fun os I => h _ ⟨I.O, I.t, I.k, ?_⟩⟩⟩
  · have jn : j < n.toNat := by
      have := (List.getElem?_eq_some_iff.mp hj).1
      unfold rng at this
      rw [List.length_map, List.length_range] at this
      exact this
    have few := I.few
    have un : ∀ y : Int, 0 ≤ y → y < 2 → ∃ x, atI [u, v] y = some x ∧ (x = u ∨ x = v) := fun y a b => by
      have : y = 0 ∨ y = 1 := by omega
      rcases this with e | e <;> subst e
      · exact ⟨u, rfl, .inl rfl⟩
      · exact ⟨v, rfl, .inr rfl⟩
    refine ⟨by simp, fun y y0 y1 => ?_⟩
    obtain ⟨x, hx, ux⟩ := un y y0 (by simpa using y1)
    refine ⟨x, hx, fun c hc => ?_⟩
    subst hc
    refine ⟨by decide, fun y y0 y1 => ?_⟩
    have am : ∃ q : Int, atI [(12 : Int), (99 : Int)] y = some q ∧ 0 < q ∧ q ≤ 99 := by
      have : y = 0 ∨ y = 1 := by omega
      rcases this with e | e <;> subst e
      · exact ⟨12, rfl, by decide, by decide⟩
      · exact ⟨99, rfl, by decide, by decide⟩
    obtain ⟨q, hq, q0, q1⟩ := am
    refine ⟨q, hq, ⟨by omega, fun a a0 a1 w hw => ?_⟩⟩
    subst hw
    refine ⟨by decide, fun y y0 y1 => ?_⟩
    have sd : ∃ q : Str, atI [("buy" : Str), ("sell" : Str)] y = some q ∧ (q = "buy" ∨ q = "sell") := by
      have : y = 0 ∨ y = 1 := by omega
      rcases this with e | e <;> subst e
      · exact ⟨_, rfl, .inl rfl⟩
      · exact ⟨_, rfl, .inr rfl⟩
    obtain ⟨sd, hs, us⟩ := sd
    refine ⟨sd, hs, ⟨by decide, fun pr p0 p1 => ⟨by omega, fun os' ho => ?_⟩⟩⟩
    subst ho
    have mem : memOk c = true := by
      rcases ux with e | e
      · rw [e]; exact H.mu
      · rw [e]; exact H.mv
    refine hn _ ⟨fun o ho => ?_, fun o ho => ?_, fun o ho => ?_, by rw [List.length_append, List.length_singleton]; omega⟩
    · rcases List.mem_append.mp ho with e | e
      · exact I.O o e
      · rw [List.mem_singleton.mp e]
        exact ⟨us, mem, by show 1 ≤ 1 + pr; omega, by show 1 + pr ≤ 99; omega, by show 1 ≤ 1 + a; omega⟩
    · rcases List.mem_append.mp ho with e | e
      · exact I.t o e
      · rw [List.mem_singleton.mp e]
        show 1 + a ≤ 99
        omega
    · rcases List.mem_append.mp ho with e | e
      · exact I.k o e
      · rw [List.mem_singleton.mp e]
        exact ux
  · have := I.few
    unfold rng at this
    rw [List.length_map, List.length_range] at this
    omega
end K21
set_option maxHeartbeats 4000000
/-! k21, the plain law: joined_right -/
namespace K21
open PySem PySem.Spec PyProof.Rows L2 DW
theorem okQ2 {u v : Str} {p pr : List (Str × Int)} {os : List (T4 Str Str Int Int)} {ms : List (Dc Str Int)} {n : Nat} (H : U2 u v) (A : In2 u v p) (z : NoZ p) (M : Mvs2 u v ms) (R : Prc2 u v pr) (O : Ord2 u v n os) (hn : n ≤ 900) : OkQ p os ms pr :=
  ⟨in2_dct H A, z, O.O, (fun o ho => by have := O.t o ho; omega), by have := O.few; omega, mvs2 H M, mvs2_c M p, prc2 H R, fun o ho => by
    rcases O.k o ho with e | e
    · rw [e]; exact R.ku
    · rw [e]; exact R.kv⟩
/-- the need, as a plain number -/
def needL (p : List (Str × Int)) (ms : List (Dc Str Int)) : Int := mxL (ms.map fun m => lossBy p m.l)
theorem needL_is {p : List (Str × Int)} {ms : List (Dc Str Int)} (M : Mvs ms) : IsMax (ms.map fun m => lossBy p m.l) (needL p ms) :=
  mxL_is fun e => by
    have := mvs_pos M
    have e := congrArg List.length e
    rw [List.length_map] at e
    simp at e
    rw [e] at this
    simp at this
theorem s_need2 {u v : Str} {p : Dc Str Int} {ms : List (Dc Str Int)} {P : Int → Prop} (H : U2 u v) (A : In2 u v p.l) (z : NoZ p.l) (M : Mvs2 u v ms) (h : P (needL p.l ms)) : w_need p ms P :=
  s_need (in2_dct H A) z (mvs2 H M) (mvs2_c M p.l) fun r hr => by
    rw [isMax_one hr (needL_is (mvs2 H M))]
    exact h
/-- greatest of f over the moves -/
theorem mx_le {ms : List (Dc Str Int)} (M : Mvs ms) (f : Dc Str Int → Int) {b : Int} (h : ∀ m ∈ ms, f m ≤ b) : mxL (ms.map f) ≤ b := by
  have ne : ms.map f ≠ [] := fun e => by
    have := mvs_pos M
    have e := congrArg List.length e
    rw [List.length_map] at e
    simp at e
    rw [e] at this
    simp at this
  obtain ⟨m, hm, e⟩ := List.mem_map.mp (mxL_is ne).1
  rw [← e]
  exact h m hm
theorem le_mx {ms : List (Dc Str Int)} (M : Mvs ms) (f : Dc Str Int → Int) {m : Dc Str Int} (h : m ∈ ms) : f m ≤ mxL (ms.map f) := by
  have ne : ms.map f ≠ [] := fun e => by
    rw [List.map_eq_nil_iff] at e
    rw [e] at h
    cases h
  exact (mxL_is ne).2 _ (List.mem_map_of_mem h)
theorem loss_sum {u v : Str} {a b r m : List (Str × Int)} (H : U2 u v) (A : In2 u v a) (B : In2 u v b) (S : Sum2 u v a b r) : lossBy r m = lossBy a m + lossBy b m := by
  rw [lossBy2 H.ne A, lossBy2 H.ne B, lossBy2 H.ne S.I, S.g, S.g, Int.add_mul, Int.add_mul]
  omega
theorem need_sum {u v : Str} {a b r : List (Str × Int)} {ms : List (Dc Str Int)} (H : U2 u v) (M : Mvs2 u v ms) (A : In2 u v a) (B : In2 u v b) (S : Sum2 u v a b r) : needL r ms ≤ needL a ms + needL b ms :=
  mx_le (mvs2 H M) _ fun m hm => by
    have h1 := le_mx (mvs2 H M) (fun m => lossBy a m.l) hm
    have h2 := le_mx (mvs2 H M) (fun m => lossBy b m.l) hm
    show lossBy r m.l ≤ _
    rw [loss_sum H A B S]
    show _ ≤ needL a ms + needL b ms
    unfold needL
    omega
theorem tot_sum {u v : Str} {a b r m pr : List (Str × Int)} {os ps : List (T4 Str Str Int Int)} (H : U2 u v) (A : In2 u v a) (B : In2 u v b) (S : Sum2 u v a b r) : tot r (os ++ ps) m pr = tot a os m pr + tot b ps m pr := by
  unfold tot
  rw [loss_sum H A B S, List.map_append, List.sum_append]
  omega
theorem top_sum {u v : Str} {a b r pr : List (Str × Int)} {ms : List (Dc Str Int)} {os ps : List (T4 Str Str Int Int)} (H : U2 u v) (M : Mvs2 u v ms) (A : In2 u v a) (B : In2 u v b) (S : Sum2 u v a b r) : top r (os ++ ps) ms pr ≤ top a os ms pr + top b ps ms pr :=
  mx_le (mvs2 H M) _ fun m hm => by
    have h1 := le_mx (mvs2 H M) (fun m => tot a os m.l pr) hm
    have h2 := le_mx (mvs2 H M) (fun m => tot b ps m.l pr) hm
    show tot r (os ++ ps) m.l pr ≤ _
    rw [tot_sum H A B S]
    unfold top
    omega
theorem ord_app {u v : Str} {m n : Nat} {os ps : List (T4 Str Str Int Int)} (A : Ord2 u v m os) (B : Ord2 u v n ps) : Ord2 u v (m + n) (os ++ ps) :=
  ⟨fun o h => (List.mem_append.mp h).elim (A.O o) (B.O o), fun o h => (List.mem_append.mp h).elim (A.t o) (B.t o), fun o h => (List.mem_append.mp h).elim (A.k o) (B.k o), by
    have := A.few
    have := B.few
    rw [List.length_append]
    omega⟩
end K21
set_option maxHeartbeats 4000000
/-! k21, the plain law: joined_right -/
namespace K21
open PySem PySem.Spec PyProof.Rows L2 DW
/-- the dict that gives every key of d its S -/
def redo (S : Str → Int) (d : List (Str × Int)) : List (Str × Int) := (keys d).map fun k => (k, S k)
theorem redo_keys (S : Str → Int) (d : List (Str × Int)) : keys (redo S d) = keys d := by
  unfold redo keys
  simp [Function.comp_def]
theorem redo_in2 {u v : Str} {S : Str → Int} {d : List (Str × Int)} (A : In2 u v d) : In2 u v (redo S d) :=
  ⟨by rw [redo_keys]; exact A.nd, fun k hk => A.sub k (by rw [redo_keys] at hk; exact hk)⟩
theorem redo_look {S : Str → Int} {d : List (Str × Int)} {k : Str} (h : k ∈ keys d) : look (redo S d) k = some (S k) := look_own S h
theorem redo_g {S : Str → Int} {d : List (Str × Int)} (z : ∀ k, k ∉ keys d → S k = 0) (k : Str) : g (redo S d) k = S k := by
  by_cases h : k ∈ keys d
  · exact g_some (redo_look h)
  · rw [g_none (by rw [redo_keys]; exact h), z k h]
theorem redo_noz {S : Str → Int} {d : List (Str × Int)} (z : ∀ k v, look d k = some v → S k ≠ 0) : NoZ (redo S d) := fun k w hk => by
  have h := mem_look hk
  rw [redo_keys] at h
  rw [redo_look h] at hk
  injection hk with hk
  obtain ⟨v, hv⟩ := look_mem h
  rw [← hk]
  exact z k v hv
theorem redo_puts {u v : Str} {S : Str → Int} {d : List (Str × Int)} (A : In2 u v d) : puts [] ((keys d).map fun k => (k, S k)) = redo S d := puts_own (redo_in2 A).nd
theorem fm_none {α β : Type} (xs : List α) : xs.filterMap (fun _ => (none : Option β)) = [] := by
  induction xs with
  | nil => rfl
  | cons x xs ih => rw [List.filterMap_cons]; exact ih
theorem fm_some {α β : Type} (f : α → β) (xs : List α) : xs.filterMap (fun x => some (f x)) = xs.map f := by
  induction xs with
  | nil => rfl
  | cons x xs ih => rw [List.filterMap_cons, List.map_cons, ← ih]
theorem need_zero {p : List (Str × Int)} {ms : List (Dc Str Int)} (M : Mvs ms) (h : ∀ m ∈ ms, lossBy p m.l = 0) : needL p ms = 0 := by
  obtain ⟨m, hm, e⟩ := List.mem_map.mp (needL_is (p := p) M).1
  rw [← e]
  exact h m hm
theorem need_times {p q : List (Str × Int)} {ms : List (Dc Str Int)} {c : Int} (hc : 0 ≤ c) (M : Mvs ms) (h : ∀ m ∈ ms, lossBy q m.l = c * lossBy p m.l) : needL q ms = c * needL p ms := by
  refine isMax_one (needL_is M) ⟨?_, fun y hy => ?_⟩
  · obtain ⟨m, hm, e⟩ := List.mem_map.mp (needL_is (p := p) M).1
    rw [← e]
    exact List.mem_map.mpr ⟨m, hm, h m hm⟩
  · obtain ⟨m, hm, e⟩ := List.mem_map.mp hy
    rw [← e]
    show lossBy q m.l ≤ _
    rw [h m hm]
    exact Int.mul_le_mul_of_nonneg_left ((needL_is M).2 _ (List.mem_map_of_mem (f := fun m : Dc Str Int => lossBy p m.l) hm)) hc
theorem s_joined_p4 {u v : Str} {ms : List (Dc Str Int)} {a : Dc Str Int} (H : U2 u v) (M : Mvs2 u v ms) (A : In2 u v a.l) (za : NoZ a.l) {c : Int} (hc : 0 ≤ c) (hc5 : c < 5) {U F B Y : List (Str)} {P : Bool → Prop} (h : P true) (us : List Str) (fe o bo fl : Dc Str Int) (f1 f2 : List (T4 Str Str Int Int)) (ap : Int) : w__law_joined_right_p4 us ms fe a o f1 f2 bo ap fl c P := by
  have cm : ∀ x : Int, CMul c x := fun x => .inl (by omega)
  unfold w__law_joined_right_p4
  refine ⟨keys_len (in2_dct H A), ?_⟩
  by_cases c0 : c = 0
  · subst c0
    refine comp_fm (fun _ => none) _ _ (fun k hk R hR => ⟨(fun e => nomatch e), fun _ => hR⟩) ?_
    intro t ht
    have e : t = ⟨[]⟩ := by rw [ht, fm_none]; rfl
    subst e
    refine s_need2 H in2_nil (fun k w hk => nomatch hk) M (s_need2 H A za M ⟨cm _, ?_⟩)
    rw [need_zero (mvs2 H M) fun m hm => by simp [lossBy, keys], Int.zero_mul]
    exact h
  · refine comp_fm (fun k => some (k, c * g a.l k)) _ _ (fun k hk R hR => ?_) ?_
    · obtain ⟨x, hx⟩ := look_mem hk
      rw [g_some hx] at hR
      refine ⟨fun _ => ⟨x, hx, cm _, hR⟩, fun e => ?_⟩
      simp [c0] at e
    · intro t ht
      have e : t = ⟨redo (fun k => c * g a.l k) a.l⟩ := by
        rw [ht, List.nil_append, fm_some (fun k => (k, c * g a.l k)), ← redo_puts (S := fun k => c * g a.l k) A]
      subst e
      have gz : ∀ k, g (redo (fun k => c * g a.l k) a.l) k = c * g a.l k := redo_g fun k hk => by rw [g_none hk, Int.mul_zero]
      refine s_need2 H (redo_in2 A) (redo_noz fun k w hk => ?_) M (s_need2 H A za M ⟨cm _, ?_⟩)
      · rw [g_some hk]
        exact Int.mul_ne_zero c0 (za k w hk)
      · rw [need_times hc (mvs2 H M) fun m hm => ?_]
        · rw [decide_eq_true rfl]
          exact h
        · rw [lossBy2 H.ne (redo_in2 A), lossBy2 H.ne A, gz, gz, Int.mul_neg, Int.mul_add, Int.mul_assoc, Int.mul_assoc]
end K21
set_option maxHeartbeats 4000000
/-! k21, the plain law: joined_right, the rest -/
namespace K21
open PySem PySem.Spec PyProof.Rows L2 DW
abbrev neg (d : List (Str × Int)) : List (Str × Int) := redo (fun k => -(g d k)) d
theorem neg_g {d : List (Str × Int)} (k : Str) : g (neg d) k = -(g d k) := redo_g (fun k hk => by rw [g_none hk]; rfl) k
theorem neg_noz {d : List (Str × Int)} (z : NoZ d) : NoZ (neg d) := redo_noz fun k w hk => by
  have := z k w hk
  rw [g_some hk]
  omega
theorem neg_loss {u v : Str} {d m : List (Str × Int)} (H : U2 u v) (A : In2 u v d) : lossBy (neg d) m = -(lossBy d m) := by
  rw [lossBy2 H.ne (redo_in2 A), lossBy2 H.ne A, neg_g, neg_g, Int.neg_mul, Int.neg_mul]
  omega
theorem s_joined_p3 {u v : Str} {ms : List (Dc Str Int)} {a : Dc Str Int} (H : U2 u v) (M : Mvs2 u v ms) (A : In2 u v a.l) (za : NoZ a.l) {P : Bool → Prop} (h : P true) (us : List Str) (fe o bo : Dc Str Int) (f1 f2 : List (T4 Str Str Int Int)) (ap : Int) : w__law_joined_right_p3 us ms fe a o f1 f2 bo ap ⟨neg a.l⟩ P := by
  have F : In2 u v (neg a.l) := redo_in2 A
  have fz := neg_noz za
  unfold w__law_joined_right_p3
  refine s_joined H A za F fz fun s S => s_need2 H S.I S.z M ⟨fun e => ?_, fun _ => ⟨by have := M.few; omega, comp_fm (fun _ => none) _ _ (fun m hm R hR => ?_) ?_⟩⟩
  · rw [need_zero (mvs2 H M) fun m hm => by rw [lossBy2 H.ne S.I, S.g, S.g, neg_g, neg_g, Int.add_right_neg, Int.add_right_neg, Int.zero_mul, Int.zero_mul]; rfl] at e
    cases e
  · have D := in2_dct H (M.I m hm)
    refine s_loss (in2_dct H F) fz D (mvs2_c M _ m hm) (s_loss (in2_dct H A) za D (mvs2_c M _ m hm) ⟨fun e => ?_, fun _ => hR⟩)
    rw [neg_loss H A] at e
    simp at e
  · refine ⟨by rw [fm_none]; rfl, (fun e => nomatch e), fun _ => ⟨by decide, fun y h0 h1 c hc => ?_⟩⟩
    subst hc
    exact s_joined_p4 (U := []) (F := []) (B := []) (Y := []) H M A za h0 h1 h us fe o bo _ f1 f2 ap
theorem s_joined_p2 {u v : Str} {ms : List (Dc Str Int)} {a b r pr : Dc Str Int} {os ps : List (T4 Str Str Int Int)} (H : U2 u v) (M : Mvs2 u v ms) (R : Prc2 u v pr.l) (A : In2 u v a.l) (za : NoZ a.l) (B : In2 u v b.l) (zb : NoZ b.l) (S : Sum2 u v a.l b.l r.l) (O1 : Ord2 u v 3 os) (O2 : Ord2 u v 3 ps) {P : Bool → Prop} (h : P true) (us : List Str) {ap : Int} (e : ap = top a.l os ms pr.l + top b.l ps ms pr.l) : w__law_joined_right_p2 us ms pr a b os ps r ap P := by
  have O := ord_app O1 O2
  unfold w__law_joined_right_p2
  refine ⟨by have := O.few; rw [List.length_append] at this; omega, s_worst (okQ2 H S.I S.z M R O (by decide)) fun w j m hw => ⟨fun z => ?_, fun _ => for_unit _ (fun m hm nx bk hn => ?_) ?_⟩⟩
  · have z := of_decide_eq_true z
    rw [wst_top (mvs2 H M) hw, e] at z
    have := top_sum (pr := pr.l) (os := os) (ps := ps) H M A B S
    omega
  · have D := in2_dct H (M.I m hm)
    refine s_loss (in2_dct H S.I) S.z D (mvs2_c M _ m hm) (s_loss (in2_dct H A) za D (mvs2_c M _ m hm) (s_loss (in2_dct H B) zb D (mvs2_c M _ m hm) ⟨fun e => ?_, fun _ => hn⟩))
    rw [loss_sum H A B S] at e
    simp at e
  · refine ⟨keys_len (in2_dct H A), comp_map (fun k => (k, -(g a.l k))) _ _ (fun k hk R hR => ?_) ?_⟩
    · obtain ⟨x, hx⟩ := look_mem hk
      rw [g_some hx] at hR
      exact ⟨x, hx, hR⟩
    · intro fl hf
      rw [List.nil_append, redo_puts (S := fun k => -(g a.l k)) A] at hf
      subst hf
      exact s_joined_p3 H M A za h us pr b r os ps ap
theorem s_joined_right {u v : Str} {ms : List (Dc Str Int)} {pr : Dc Str Int} (H : U2 u v) (M : Mvs2 u v ms) (R : Prc2 u v pr.l) {P : Bool → Prop} (h : P true) : w__law_joined_right [u, v] ms pr P := by
  unfold w__law_joined_right
  refine s__law_position fun a A za => s__law_position fun b B zb => ?_
  intro z hz
  subst hz
  refine s__law_orders (k := 3) H (by decide) fun os O1 => ?_
  intro w hw
  subst hw
  refine s__law_orders (k := 3) H (by decide) fun ps O2 => ?_
  intro w hw
  subst hw
  refine s_joined H A za B zb fun r S => ?_
  intro w hw
  subst hw
  unfold w__law_joined_right_p1
  refine s_need2 H S.I S.z M (s_need2 H A za M (s_need2 H B zb M ⟨fun e => ?_, fun _ => for_unit _ (fun x hx nx bk hn => ?_) ?_⟩))
  · have := need_sum H M A B S
    have e := of_decide_eq_true e
    exact absurd e (Int.not_lt.mpr this)
  · have X : In2 u v x.l ∧ NoZ x.l := by
      simp only [List.mem_cons, List.not_mem_nil, or_false] at hx
      rcases hx with e | e | e <;> subst e
      · exact ⟨A, za⟩
      · exact ⟨B, zb⟩
      · exact ⟨S.I, S.z⟩
    refine ⟨by have := M.few; omega, comp_map (fun m => lossBy x.l m.l) _ _ (fun m hm R hR => ?_) ?_⟩
    · exact (s_loss_by (p := x) (m := m) (P := fun y => R (some y)) (in2_dct H X.1) (mvs2_c M _ m hm) hR : w_loss_by x m _)
    · intro ls hl
      rw [List.nil_append] at hl
      subst hl
      refine s_need2 H X.1 X.2 M ⟨by rw [List.length_map]; exact mvs_pos (mvs2 H M), fun q hq hall => ⟨fun e => ?_, fun _ => hn⟩⟩
      have : needL x.l ms = q := isMax_one (needL_is (mvs2 H M)) ⟨hq, hall⟩
      simp [this] at e
  · refine s_worst (okQ2 H A za M R O1 (by decide)) fun r1 j1 m1 w1 => s_worst (okQ2 H B zb M R O2 (by decide)) fun r2 j2 m2 w2 => ?_
    intro ap hap
    exact s_joined_p2 H M R A za B zb S O1 O2 h _ (by rw [hap, wst_top (mvs2 H M) w1, wst_top (mvs2 H M) w2])
end K21
set_option maxHeartbeats 4000000
/-! k21, the plain law: more_right -/
namespace K21
open PySem PySem.Spec PyProof.Rows L2 DW
theorem bite_nonneg {o : T4 Str Str Int Int} (O : OkO o) (m pr : List (Str × Int)) : 0 ≤ bite o m pr := by
  have := O.pos
  unfold bite fill
  split
  · exact Int.mul_nonneg (by omega) (by omega)
  · rw [Int.zero_mul]
    exact Int.le_refl _
theorem bites_nonneg {os : List (T4 Str Str Int Int)} (m pr : List (Str × Int)) (O : ∀ o ∈ os, OkO o) : 0 ≤ (os.map fun o => bite o m pr).sum := by
  induction os with
  | nil => exact Int.le_refl _
  | cons o os ih =>
    rw [List.map_cons, List.sum_cons]
    have := bite_nonneg (O o List.mem_cons_self) m pr
    have := ih fun x hx => O x (List.mem_cons_of_mem _ hx)
    omega
theorem perm_sum {xs ys : List Int} (h : xs.Perm ys) : xs.sum = ys.sum := by
  induction h with
  | nil => rfl
  | cons x _ ih => rw [List.sum_cons, List.sum_cons, ih]
  | swap x y l =>
    simp only [List.sum_cons]
    omega
  | trans _ _ h1 h2 => rw [h1, h2]
/-- fewer orders, no greater total -/
theorem tot_perm_cut {p m pr : List (Str × Int)} {os qs : List (T4 Str Str Int Int)} (h : qs.Perm os) : tot p qs m pr = tot p os m pr := by
  unfold tot
  rw [perm_sum (h.map _)]
theorem tot_drop {p m pr : List (Str × Int)} {os : List (T4 Str Str Int Int)} (O : ∀ o ∈ os, OkO o) : tot p (os.drop 1) m pr ≤ tot p os m pr := by
  unfold tot
  cases os with
  | nil => exact Int.le_refl _
  | cons o os =>
    show _ + (os.map _).sum ≤ _
    rw [List.map_cons, List.sum_cons]
    have := bite_nonneg (O o List.mem_cons_self) m pr
    omega
theorem tot_loss {p m pr : List (Str × Int)} {os : List (T4 Str Str Int Int)} (O : ∀ o ∈ os, OkO o) : lossBy p m ≤ tot p os m pr := by
  unfold tot
  have := bites_nonneg m pr O
  omega
/-- greatest over a part of the moves -/
theorem mx_sub {ms ns : List (Dc Str Int)} (M : Mvs ms) (N : Mvs ns) (f : Dc Str Int → Int) (h : ∀ m ∈ ns, m ∈ ms) : mxL (ns.map f) ≤ mxL (ms.map f) :=
  mx_le N f fun m hm => le_mx M f (h m hm)
theorem mx_mono {ms : List (Dc Str Int)} (M : Mvs ms) (f k : Dc Str Int → Int) (h : ∀ m ∈ ms, f m ≤ k m) : mxL (ms.map f) ≤ mxL (ms.map k) :=
  mx_le M f fun m hm => Int.le_trans (h m hm) (le_mx M k hm)
theorem atI_head {α : Type} {xs : List α} : ∀ {k : Nat}, (xs.drop k)[0]? = xs[k]? := fun {k} => by
  rw [List.getElem?_drop, Nat.add_zero]
/-- the moves but the last, if there are two -/
theorem cut_last {α : Type} (xs : List α) : cutL xs none (some (-(1 : Int))) = xs.take (xs.length - 1) := by
  unfold cutL HT.sIx
  simp
  omega
theorem cut_first {α : Type} (xs : List α) : cutL xs (some (1 : Int)) none = xs.drop 1 := by
  cases xs with
  | nil => rfl
  | cons x xs =>
    unfold cutL HT.sIx
    simp [show min 1 (xs.length + 1) = 1 by omega]
end K21
set_option maxHeartbeats 4000000
/-! k21, the plain law: more_right -/
namespace K21
open PySem PySem.Spec PyProof.Rows L2 DW
theorem mvs2_of {u v : Str} {ms ns : List (Dc Str Int)} (M : Mvs2 u v ms) (sub : ∀ m ∈ ns, m ∈ ms) (few : ns.length ≤ 8) (head : ∃ m, ns[0]? = some m ∧ m.l = []) : Mvs2 u v ns :=
  ⟨fun m hm => M.I m (sub m hm), few, head, fun m hm => M.lo m (sub m hm)⟩
theorem ord2_of {u v : Str} {n k : Nat} {os qs : List (T4 Str Str Int Int)} (O : Ord2 u v n os) (sub : ∀ o ∈ qs, o ∈ os) (few : qs.length ≤ k) : Ord2 u v k qs :=
  ⟨fun o ho => O.O o (sub o ho), fun o ho => O.t o (sub o ho), fun o ho => O.k o (sub o ho), few⟩
theorem mvs2_init {u v : Str} {ms : List (Dc Str Int)} (M : Mvs2 u v ms) (h : 1 < ms.length) : Mvs2 u v (ms.take (ms.length - 1)) :=
  mvs2_of M (fun m hm => List.mem_of_mem_take hm) (by rw [List.length_take]; have := M.few; omega) (by
    obtain ⟨m, hm, hl⟩ := M.head
    refine ⟨m, ?_, hl⟩
    rw [List.getElem?_take, if_pos (by omega)]
    exact hm)
theorem top_fewer {u v : Str} {p pr : List (Str × Int)} {os : List (T4 Str Str Int Int)} {ms ns : List (Dc Str Int)} (H : U2 u v) (M : Mvs2 u v ms) (N : Mvs2 u v ns) (sub : ∀ m ∈ ns, m ∈ ms) : top p os ns pr ≤ top p os ms pr :=
  mx_sub (mvs2 H M) (mvs2 H N) _ sub
theorem top_mono {u v : Str} {p pr : List (Str × Int)} {os qs : List (T4 Str Str Int Int)} {ms : List (Dc Str Int)} (H : U2 u v) (M : Mvs2 u v ms) (h : ∀ m ∈ ms, tot p os m.l pr ≤ tot p qs m.l pr) : top p os ms pr ≤ top p qs ms pr :=
  mx_mono (mvs2 H M) _ _ h
theorem need_top {u v : Str} {p pr : List (Str × Int)} {os : List (T4 Str Str Int Int)} {ms : List (Dc Str Int)} (H : U2 u v) (M : Mvs2 u v ms) (O : ∀ o ∈ os, OkO o) : needL p ms ≤ top p os ms pr :=
  mx_mono (mvs2 H M) _ _ fun m hm => tot_loss O
theorem lossBy_nil {p m : List (Str × Int)} (h : m = []) : lossBy p m = 0 := by
  subst h
  unfold lossBy
  have : ∀ ks : List Str, ((ks.map fun k => (look p k).getD 0 * (look ([] : List (Str × Int)) k).getD 0).sum) = 0 := fun ks => by
    induction ks with
    | nil => rfl
    | cons k ks ih =>
      rw [List.map_cons, List.sum_cons, ih]
      show (look p k).getD 0 * 0 + 0 = 0
      omega
  rw [this]
  rfl
theorem top_nonneg {u v : Str} {p pr : List (Str × Int)} {os : List (T4 Str Str Int Int)} {ms : List (Dc Str Int)} (H : U2 u v) (M : Mvs2 u v ms) (O : ∀ o ∈ os, OkO o) : 0 ≤ top p os ms pr := by
  obtain ⟨m, hm, hl⟩ := M.head
  have h1 := le_mx (mvs2 H M) (fun m => tot p os m.l pr) (List.mem_of_getElem? hm)
  have h2 := tot_loss (p := p) (m := m.l) (pr := pr) O
  rw [lossBy_nil hl] at h2
  exact Int.le_trans h2 h1
/-- an order widened -/
def Wider (o q : T4 Str Str Int Int) : Prop := q.a = o.a ∧ q.b = o.b ∧ q.c = o.c ∧ o.d ≤ q.d ∧ q.d ≤ 99
theorem bite_wider {o q : T4 Str Str Int Int} {m pr : List (Str × Int)} (O : OkO o) (h : Wider o q) : bite o m pr ≤ bite q m pr := by
  obtain ⟨a, b, c, d, _⟩ := h
  have e : ul q m pr = ul o m pr := by unfold ul; rw [a, b, c]
  unfold bite fill
  rw [e]
  split
  · exact Int.mul_le_mul_of_nonneg_right d (by omega)
  · exact Int.le_refl _
theorem tot_wider {p m pr : List (Str × Int)} : ∀ {os qs : List (T4 Str Str Int Int)}, Paired Wider os qs → (∀ o ∈ os, OkO o) → tot p os m pr ≤ tot p qs m pr
  | _, _, .nil, _ => Int.le_refl _
  | _, _, .cons h t, O => by
    have ih := tot_wider (p := p) (m := m) (pr := pr) t fun o ho => O o (List.mem_cons_of_mem _ ho)
    have hb := bite_wider (m := m) (pr := pr) (O _ List.mem_cons_self) h
    unfold tot at ih ⊢
    rw [List.map_cons, List.map_cons, List.sum_cons, List.sum_cons]
    omega
theorem ord_wider {u v : Str} : ∀ {n : Nat} {os qs : List (T4 Str Str Int Int)}, Paired Wider os qs → Ord2 u v n os → Ord2 u v n qs := fun {n os qs} h O => by
  have key : ∀ {os qs : List (T4 Str Str Int Int)}, Paired Wider os qs → (∀ o ∈ os, OkO o) → (∀ o ∈ os, o.b = u ∨ o.b = v) → qs.length = os.length ∧ (∀ o ∈ qs, OkO o ∧ o.d ≤ 99 ∧ (o.b = u ∨ o.b = v)) := by
    intro os qs h
    induction h with
    | nil => exact fun _ _ => ⟨rfl, fun o ho => nomatch ho⟩
    | cons h t ih =>
      intro O k
      have := ih (fun o ho => O o (List.mem_cons_of_mem _ ho)) fun o ho => k o (List.mem_cons_of_mem _ ho)
      obtain ⟨a, b, c, d, e⟩ := h
      have Oo := O _ List.mem_cons_self
      have ko := k _ List.mem_cons_self
      refine ⟨by rw [List.length_cons, List.length_cons, this.1], fun o ho => ?_⟩
      rcases List.mem_cons.mp ho with z | z
      · subst z
        exact ⟨⟨by rw [a]; exact Oo.side, by rw [b]; exact Oo.mem, by rw [c]; exact Oo.lo, by rw [c]; exact Oo.hi, Int.le_trans Oo.pos d⟩, e, by rw [b]; exact ko⟩
      · exact this.2 o z
  have := key h O.O O.k
  exact ⟨fun o ho => (this.2 o ho).1, fun o ho => (this.2 o ho).2.1, fun o ho => (this.2 o ho).2.2, by rw [this.1]; exact O.few⟩
end K21
set_option maxHeartbeats 4000000
/-! k21, the plain law: more_right -/
namespace K21
open PySem PySem.Spec PyProof.Rows L2 DW
theorem s_more_p3 {u v : Str} {ms : List (Dc Str Int)} {a pr : Dc Str Int} {os : List (T4 Str Str Int Int)} (H : U2 u v) (M : Mvs2 u v ms) (R : Prc2 u v pr.l) (A : In2 u v a.l) (za : NoZ a.l) (O : Ord2 u v 4 os) {P : Bool → Prop} (h : P true) (us : List Str) (wd : List (T4 Str Str Int Int)) {pu : Int} (hp : top a.l os ms pr.l ≤ pu) : w__law_more_right_p3 us ms pr a os (top a.l os ms pr.l) wd pu P := by
  unfold w__law_more_right_p3
  refine ⟨by have := O.few; omega, fun few hfew fw hfw => ?_⟩
  subst hfw
  have drop : ms = ⟨[]⟩ :: ms.drop 1 := by
    obtain ⟨m, hm, hl⟩ := M.head
    cases ms with
    | nil => cases hm
    | cons x xs =>
      injection hm with hm
      subst hm
      cases x
      cases hl
      rfl
  refine ⟨by rw [cut_first, List.length_drop]; have := M.few; omega, fun sm hsm => ⟨?_, fun som hsom => ?_⟩⟩
  · rw [cut_first, List.length_drop]
    rw [cut_first] at hsm
    have l1 := hsm.length_eq
    rw [List.length_drop] at l1
    have := M.few
    simp only [List.length_singleton]
    omega
  subst hsom
  rw [cut_first] at hsm
  have sub : ∀ m ∈ [(Dc.mk ([] : List (Str × Int)))] ++ cutL sm (some 1) none, m ∈ ms := fun m hm => by
    rw [cut_first] at hm
    rw [drop]
    rcases List.mem_append.mp hm with e | e
    · rw [List.mem_singleton.mp e]
      exact List.mem_cons_self
    · exact List.mem_cons_of_mem _ (hsm.mem_iff.mp (List.mem_of_mem_drop e))
  have N : Mvs2 u v ([(Dc.mk ([] : List (Str × Int)))] ++ cutL sm (some 1) none) := mvs2_of M sub (by
    have l1 := hsm.length_eq
    rw [List.length_drop] at l1
    have := M.few
    have := mvs_pos (mvs2 H M)
    rw [cut_first, List.length_append, List.length_drop, List.length_singleton]
    omega) ⟨_, rfl, rfl⟩
  have O' : Ord2 u v 4 (cutL few (some 1) none) := by
    rw [cut_first]
    exact ord2_of O (fun o ho => hfew.mem_iff.mp (List.mem_of_mem_drop ho)) (by rw [List.length_drop, hfew.length_eq]; have := O.few; omega)
  have le : top a.l (cutL few (some 1) none) ([(Dc.mk ([] : List (Str × Int)))] ++ cutL sm (some 1) none) pr.l ≤ pu := by
    refine Int.le_trans (top_fewer H M N sub) (Int.le_trans (top_mono H M fun m hm => ?_) hp)
    rw [cut_first, ← tot_perm_cut hfew]
    exact tot_drop fun o ho => O.O o (hfew.mem_iff.mp ho)
  refine s_covered (okQ2 H A za N R O' (by decide)) (fun _ => ⟨(fun e => nomatch e), fun _ => s_covered (okQ2 H A za M R O (by decide)) (fun z => ?_) fun _ r => h⟩) fun z => ?_
  · omega
  · omega
end K21
set_option maxHeartbeats 4000000
/-! k21, the plain law: more_right -/
namespace K21
open PySem PySem.Spec PyProof.Rows L2 DW
theorem s_more_p2 {u v : Str} {ms : List (Dc Str Int)} {a pr : Dc Str Int} {os wd : List (T4 Str Str Int Int)} (H : U2 u v) (M : Mvs2 u v ms) (R : Prc2 u v pr.l) (A : In2 u v a.l) (za : NoZ a.l) (O : Ord2 u v 4 os) (W : Paired Wider os wd) {P : Bool → Prop} (h : P true) (us : List Str) : w__law_more_right_p2 us ms pr a os (top a.l os ms pr.l) wd P := by
  unfold w__law_more_right_p2 altW
  have O' := ord_wider W O
  refine s_worst (okQ2 H A za M R O' (by decide)) fun w j m hw => ?_
  rw [wst_top (mvs2 H M) hw]
  have le : top a.l os ms pr.l ≤ top a.l wd ms pr.l := top_mono H M fun m hm => tot_wider W O.O
  have nl : needL a.l ms ≤ top a.l os ms pr.l := need_top H M O.O
  have nn : 0 ≤ top a.l os ms pr.l := top_nonneg H M O.O
  refine ⟨fun _ => s_need2 H A za M ⟨fun _ => ⟨fun e => ?_, fun _ => ⟨by decide, fun y y0 y1 pu hpu => ?_⟩⟩, fun e => ?_⟩, fun e => ?_⟩
  · have := of_decide_eq_true e
    omega
  · refine s_covered (okQ2 H A za M R O (by decide)) (fun _ => ⟨(fun e => nomatch e), fun _ => s_more_p3 H M R A za O h us wd (by omega)⟩) fun z => ?_
    omega
  · have := of_decide_eq_true e
    omega
  · have := of_decide_eq_true e
    omega
theorem alt_two {β : Type} {c : Bool} {x y : β} {K : β → Prop} (N : β → Prop) (hx : c = true → N x) (hy : c = false → N y) (h : ∀ b, N b → K b) : altW (fun P1 : β → Prop => (c = true → P1 x) ∧ (c = false → P1 y)) K := ⟨fun e => h _ (hx e), fun e => h _ (hy e)⟩
theorem s_more_right {u v : Str} {ms : List (Dc Str Int)} {pr : Dc Str Int} (H : U2 u v) (M : Mvs2 u v ms) (R : Prc2 u v pr.l) {P : Bool → Prop} (h : P true) : w__law_more_right [u, v] ms pr P := by
  unfold w__law_more_right
  refine s__law_position fun a A za => ?_
  intro a' ha
  cases ha
  refine s__law_orders (k := 4) H (by decide) fun os O => ?_
  intro os' ho
  cases ho
  refine s_worst (okQ2 H A za M R O (by decide)) fun w j m hw => ?_
  intro t ht
  rw [wst_top (mvs2 H M) hw] at ht
  subst ht
  unfold w__law_more_right_p1
  refine alt_two (fun ns => Mvs2 u v ns ∧ ∀ m ∈ ns, m ∈ ms) (fun e => ⟨?_, ?_⟩) (fun e => ⟨M, fun m hm => hm⟩) fun ns N => ?_
  · rw [cut_last]
    exact mvs2_init M (by have := of_decide_eq_true e; omega)
  · rw [cut_last]
    exact fun m hm => List.mem_of_mem_take hm
  · have O' : Ord2 u v 4 (cutL os (some (1 : Int)) none) := by
      rw [cut_first]
      exact ord2_of O (fun o ho => List.mem_of_mem_drop ho) (by rw [List.length_drop]; have := O.few; omega)
    refine s_worst (okQ2 H A za N.1 R O (by decide)) fun w j m hw => ⟨fun e => ?_, fun _ => s_worst (okQ2 H A za M R O' (by decide)) fun w j m hw => ⟨fun e => ?_, fun _ => ⟨Nat.le_trans O.few (by decide), comp_rel Wider _ _ (fun o ho R' hR => ⟨by decide, fun y y0 y1 => hR _ ⟨rfl, rfl, rfl, ?_, ?_⟩⟩) fun ys hys zw hzw => ?_⟩⟩⟩
    · have e := of_decide_eq_true e
      rw [wst_top (mvs2 H N.1) hw] at e
      exact absurd e (Int.not_lt.mpr (top_fewer H M N.1 N.2))
    · have e := of_decide_eq_true e
      rw [wst_top (mvs2 H M) hw, cut_first] at e
      exact absurd e (Int.not_lt.mpr (top_mono H M fun m hm => tot_drop O.O))
    · have := O.t o ho
      show o.d ≤ if o.d + y < 99 then o.d + y else 99
      split <;> omega
    · show (if o.d + y < 99 then o.d + y else 99) ≤ 99
      split <;> omega
    · rw [List.nil_append] at hzw
      subst hzw
      exact s_more_p2 H M R A za O hys h _
end K21
set_option maxHeartbeats 4000000
/-! k21, the plain law: names -/
namespace K21
open PySem PySem.Spec PyProof.Rows L2 DW
/-- new names for u and v -/
structure Nm (u v : Str) (n : List (Str × Str)) (u' v' : Str) : Prop where
  lu : look n u = some u'
  lv : look n v = some v'
  H : U2 u' v'
/-- d with the new names -/
structure Led (u v u' v' : Str) (d e : List (Str × Int)) : Prop where
  I : In2 u' v' e
  lu : look e u' = look d u
  lv : look e v' = look d v
theorem s__law_led {u v u' v' : Str} {n : Dc Str Str} {d : Dc Str Int} {P : Dc Str Int → Prop} (H : U2 u v) (N : Nm u v n.l u' v') (A : In2 u v d.l) (h : ∀ e : Dc Str Int, Led u v u' v' d.l e.l → P e) : w__law_led n d P := by
  unfold w__law_led
  let f : Str → Str × Int := fun k => ((look n.l k).getD k, g d.l k)
  refine ⟨by rw [List.length_reverse]; exact keys_len (in2_dct H A), comp_map f _ _ (fun k hk R hR => ?_) ?_⟩
  · have hk : k ∈ keys d.l := List.mem_reverse.mp hk
    obtain ⟨x, hx⟩ := look_mem hk
    have hn : ∃ w, look n.l k = some w := by
      rcases A.sub k hk with e | e
      · rw [e]; exact ⟨_, N.lu⟩
      · rw [e]; exact ⟨_, N.lv⟩
    obtain ⟨w, hw⟩ := hn
    refine ⟨w, hw, x, hx, ?_⟩
    have : f k = (w, x) := by
      show ((look n.l k).getD k, g d.l k) = _
      rw [hw, g_some hx]
      rfl
    rw [this] at hR
    exact hR
  · rw [List.nil_append]
    have fu : f u = (u', g d.l u) := by
      show ((look n.l u).getD u, g d.l u) = _
      rw [N.lu]
      rfl
    have fv : f v = (v', g d.l v) := by
      show ((look n.l v).getD v, g d.l v) = _
      rw [N.lv]
      rfl
    have ne := N.H.ne
    have lk : ∀ k, look d.l k = if k ∈ keys d.l then some (g d.l k) else none := fun k => by
      by_cases z : k ∈ keys d.l
      · obtain ⟨x, hx⟩ := look_mem z
        rw [if_pos z, hx, g_some hx]
      · rw [if_neg z, look_none.mpr z]
    have lu := lk u
    have lv := lk v
    have hne := H.ne
    refine h _ ?_
    show Led u v u' v' d.l (puts [] ((keys d.l).reverse.map f))
    rcases in2_cases A with e | e | e | e | e <;> rw [e] at lu lv ⊢ <;> simp only [List.reverse_nil, List.reverse_cons, List.nil_append, List.cons_append, List.map_nil, List.map_cons, fu, fv] <;> rw [puts_own (by simp [ne, ne.symm])] <;> refine ⟨⟨by simp [ne, ne.symm], by simp⟩, ?_, ?_⟩ <;> simp [lu, lv, look, ne, ne.symm, hne, hne.symm]
end K21
set_option maxHeartbeats 4000000
/-! k21, the plain law: names, totals -/
namespace K21
open PySem PySem.Spec PyProof.Rows L2 DW
/-- an order with the new name -/
def OrdN (u v u' v' : Str) (o q : T4 Str Str Int Int) : Prop := q.a = o.a ∧ q.c = o.c ∧ q.d = o.d ∧ ((o.b = u ∧ q.b = u') ∨ (o.b = v ∧ q.b = v'))
theorem led_g {u v u' v' : Str} {d e : List (Str × Int)} (L : Led u v u' v' d e) : g e u' = g d u ∧ g e v' = g d v := by
  unfold g
  rw [L.lu, L.lv]
  exact ⟨rfl, rfl⟩
theorem led_loss {u v u' v' : Str} {p q m n : List (Str × Int)} (H : U2 u v) (H' : U2 u' v') (A : In2 u v p) (L : Led u v u' v' p q) (N : Led u v u' v' m n) : lossBy q n = lossBy p m := by
  rw [lossBy2 H'.ne L.I, lossBy2 H.ne A, (led_g L).1, (led_g L).2, (led_g N).1, (led_g N).2]
theorem led_ul {u v u' v' : Str} {m n pr qr : List (Str × Int)} {o q : T4 Str Str Int Int} (N : Led u v u' v' m n) (R : Led u v u' v' pr qr) (Q : OrdN u v u' v' o q) : ul q n qr = ul o m pr := by
  obtain ⟨a, c, d, b⟩ := Q
  unfold ul
  rw [a, c]
  rcases b with ⟨b1, b2⟩ | ⟨b1, b2⟩
  · rw [b1, b2, (led_g N).1, (led_g R).1]
  · rw [b1, b2, (led_g N).2, (led_g R).2]
theorem led_fill {u v u' v' : Str} {m n pr qr : List (Str × Int)} {o q : T4 Str Str Int Int} (N : Led u v u' v' m n) (R : Led u v u' v' pr qr) (Q : OrdN u v u' v' o q) : fill q n qr = fill o m pr := by
  unfold fill
  rw [led_ul N R Q, Q.2.2.1]
theorem led_fills {u v u' v' : Str} {m n pr qr : List (Str × Int)} (N : Led u v u' v' m n) (R : Led u v u' v' pr qr) : ∀ {os qs : List (T4 Str Str Int Int)}, Paired (OrdN u v u' v') os qs → (qs.map fun o => fill o n qr) = os.map fun o => fill o m pr
  | _, _, .nil => rfl
  | _, _, .cons h t => by rw [List.map_cons, List.map_cons, led_fills N R t, led_fill N R h]
theorem led_bites {u v u' v' : Str} {m n pr qr : List (Str × Int)} (N : Led u v u' v' m n) (R : Led u v u' v' pr qr) : ∀ {os qs : List (T4 Str Str Int Int)}, Paired (OrdN u v u' v') os qs → (qs.map fun o => bite o n qr) = os.map fun o => bite o m pr
  | _, _, .nil => rfl
  | _, _, .cons h t => by
    rw [List.map_cons, List.map_cons, led_bites N R t]
    unfold bite
    rw [led_fill N R h, led_ul N R h]
theorem led_tot {u v u' v' : Str} {p q m n pr qr : List (Str × Int)} {os qs : List (T4 Str Str Int Int)} (H : U2 u v) (H' : U2 u' v') (A : In2 u v p) (L : Led u v u' v' p q) (N : Led u v u' v' m n) (R : Led u v u' v' pr qr) (Q : Paired (OrdN u v u' v') os qs) : tot q qs n qr = tot p os m pr := by
  unfold tot
  rw [led_loss H H' A L N, led_bites N R Q]
abbrev LedM (u v u' v' : Str) (m n : Dc Str Int) : Prop := Led u v u' v' m.l n.l
theorem led_map {u v u' v' : Str} (f k : Dc Str Int → Int) (h : ∀ m n, LedM u v u' v' m n → f n = k m) : ∀ {ms ns : List (Dc Str Int)}, Paired (LedM u v u' v') ms ns → ns.map f = ms.map k
  | _, _, .nil => rfl
  | _, _, .cons a t => by rw [List.map_cons, List.map_cons, led_map f k h t, h _ _ a]
end K21
set_option maxHeartbeats 4000000
/-! k21, the plain law: names, worst -/
namespace K21
open PySem PySem.Spec PyProof.Rows L2 DW
theorem paired_at {α β : Type} {F : α → β → Prop} : ∀ {xs : List α} {ys : List β}, Paired F xs ys → ∀ (j : Nat) {x : α} {y : β}, xs[j]? = some x → ys[j]? = some y → F x y
  | _, _, .nil, _, _, _, h, _ => nomatch h
  | _, _, .cons a t, 0, x, y, h, k => by
    injection h with h
    injection k with k
    rw [← h, ← k]
    exact a
  | _, _, .cons a t, j + 1, x, y, h, k => paired_at t j h k
/-- two askings with one list of totals and one list of fills a move answer the same -/
theorem wst_same {p q pr qr : List (Str × Int)} {os qs : List (T4 Str Str Int Int)} {ms ns : List (Dc Str Int)} {r r' : T3 Int Int (Tp Int)} {j j' : Nat} {m m' : Dc Str Int} {F : Dc Str Int → Dc Str Int → Prop} (Pd : Paired F ms ns)
    (ht : ∀ m n, F m n → tot q qs n.l qr = tot p os m.l pr) (hf : ∀ m n, F m n → (qs.map fun o => fill o n.l qr) = os.map fun o => fill o m.l pr) (W : Wst1 p os ms pr r j m) (W' : Wst1 q qs ns qr r' j' m') : r' = r := by
  have hl := Paired.length Pd
  have lj : j < ms.length := (List.getElem?_eq_some_iff.mp W.at').1
  have lj' : j' < ns.length := (List.getElem?_eq_some_iff.mp W'.at').1
  have hn : ns[j]? = some (ns[j]'(by omega)) := List.getElem?_eq_getElem (by omega)
  have hm : ms[j']? = some (ms[j']'(by omega)) := List.getElem?_eq_getElem (by omega)
  have e1 := ht _ _ (paired_at Pd j W.at' hn)
  have e2 := ht _ _ (paired_at Pd j' hm W'.at')
  have t1 : tot p os (ms[j']'(by omega)).l pr ≤ tot p os m.l pr := W.mx _ (List.getElem_mem _)
  have t2 : tot q qs (ns[j]'(by omega)).l qr ≤ tot q qs m'.l qr := W'.mx _ (List.getElem_mem _)
  have te : tot q qs m'.l qr = tot p os m.l pr := by omega
  have jj : j = j' := by
    rcases Nat.lt_trichotomy j j' with h | h | h
    · exact absurd (by omega) (W'.first j h _ hn)
    · exact h
    · exact absurd (by omega) (W.first j' h _ hm)
  subst jj
  have f1 := hf _ _ (paired_at Pd j W.at' W'.at')
  cases r
  cases r'
  have a1 := W.a
  have a2 := W'.a
  have b1 := W.b
  have b2 := W'.b
  have c1 := W.c
  have c2 := W'.c
  simp only at a1 a2 b1 b2 c1 c2
  rw [a1, a2, b1, b2, c1, c2, te, f1]
end K21
set_option maxHeartbeats 4000000
/-! k21, the plain law: names, top and room -/
namespace K21
open PySem PySem.Spec PyProof.Rows L2 DW
theorem top_led {u v u' v' : Str} {p q pr qr : List (Str × Int)} {os qs : List (T4 Str Str Int Int)} {ms ns : List (Dc Str Int)} (H : U2 u v) (H' : U2 u' v') (A : In2 u v p) (L : Led u v u' v' p q) (Pd : Paired (LedM u v u' v') ms ns) (R : Led u v u' v' pr qr) (Q : Paired (OrdN u v u' v') os qs) : top q qs ns qr = top p os ms pr := by
  unfold top
  rw [led_map (fun n => tot q qs n.l qr) (fun m => tot p os m.l pr) (fun m n N => led_tot H H' A L N R Q) Pd]
theorem need_led {u v u' v' : Str} {p q : List (Str × Int)} {ms ns : List (Dc Str Int)} (H : U2 u v) (H' : U2 u' v') (A : In2 u v p) (L : Led u v u' v' p q) (Pd : Paired (LedM u v u' v') ms ns) : needL q ns = needL p ms := by
  unfold needL
  rw [led_map (fun n => lossBy q n.l) (fun m => lossBy p m.l) (fun m n N => led_loss H H' A L N) Pd]
theorem paired_snoc {α β : Type} {F : α → β → Prop} {x : α} {y : β} (h : F x y) : ∀ {xs : List α} {ys : List β}, Paired F xs ys → Paired F (xs ++ [x]) (ys ++ [y])
  | _, _, .nil => .cons h .nil
  | _, _, .cons a t => .cons a (paired_snoc h t)
theorem room_led {u v u' v' : Str} {p q pr qr : List (Str × Int)} {os qs : List (T4 Str Str Int Int)} {ms ns : List (Dc Str Int)} (H : U2 u v) (H' : U2 u' v') (A : In2 u v p) (L : Led u v u' v' p q) (Pd : Paired (LedM u v u' v') ms ns) (R : Led u v u' v' pr qr) (Q : Paired (OrdN u v u' v') os qs) (money : Int) (side : Str) (price : Int) : roomL q qs ns qr money side u' price = roomL p os ms pr money side u price := by
  unfold roomL
  rw [top_led H H' A L Pd R Q]
  have : (fun (f n : Int) => if top q (qs ++ [(⟨side, u', price, n⟩ : T4 Str Str Int Int)]) ns qr ≤ money then n else f) = fun (f n : Int) => if top p (os ++ [(⟨side, u, price, n⟩ : T4 Str Str Int Int)]) ms pr ≤ money then n else f := by
    funext f n
    have Q' := paired_snoc (F := OrdN u v u' v') (x := ⟨side, u, price, n⟩) (y := ⟨side, u', price, n⟩) ⟨rfl, rfl, rfl, .inl ⟨rfl, rfl⟩⟩ Q
    rw [top_led H H' A L Pd R Q']
  rw [this]
theorem top_perm {p pr : List (Str × Int)} {os qs : List (T4 Str Str Int Int)} {ms : List (Dc Str Int)} (h : qs.Perm os) : top p qs ms pr = top p os ms pr := by
  unfold top
  congr 1
  exact List.map_congr_left fun m _ => tot_perm_cut h
theorem room_perm {p pr : List (Str × Int)} {os qs : List (T4 Str Str Int Int)} {ms : List (Dc Str Int)} (h : qs.Perm os) (money : Int) (side c : Str) (price : Int) : roomL p qs ms pr money side c price = roomL p os ms pr money side c price := by
  unfold roomL
  rw [top_perm h]
  have : (fun (f n : Int) => if top p (qs ++ [(⟨side, c, price, n⟩ : T4 Str Str Int Int)]) ms pr ≤ money then n else f) = fun (f n : Int) => if top p (os ++ [(⟨side, c, price, n⟩ : T4 Str Str Int Int)]) ms pr ≤ money then n else f := by
    funext f n
    rw [top_perm (h.append_right _)]
  rw [this]
theorem top_moves {u v : Str} {p pr : List (Str × Int)} {os : List (T4 Str Str Int Int)} {ms ns : List (Dc Str Int)} (H : U2 u v) (M : Mvs2 u v ms) (N : Mvs2 u v ns) (h : ∀ m, m ∈ ns ↔ m ∈ ms) : top p os ns pr = top p os ms pr :=
  Int.le_antisymm (top_fewer H M N fun m hm => (h m).mp hm) (top_fewer H N M fun m hm => (h m).mpr hm)
end K21
set_option maxHeartbeats 4000000
/-! k21, the plain law: names_right -/
namespace K21
open PySem PySem.Spec PyProof.Rows L2 DW
theorem led_look {u v u' v' : Str} {d e : List (Str × Int)} (L : Led u v u' v' d e) {k : Str} {w : Int} (h : look e k = some w) : look d u = some w ∨ look d v = some w := by
  rcases L.I.sub k (mem_look h) with z | z
  · rw [z, L.lu] at h
    exact .inl h
  · rw [z, L.lv] at h
    exact .inr h
theorem led_noz {u v u' v' : Str} {d e : List (Str × Int)} (L : Led u v u' v' d e) (z : NoZ d) : NoZ e := fun k w h => by
  rcases led_look L h with h | h
  · exact z _ _ h
  · exact z _ _ h
theorem led_prc {u v u' v' : Str} {d e : List (Str × Int)} (L : Led u v u' v' d e) (R : Prc2 u v d) : Prc2 u' v' e :=
  ⟨L.I, by
    obtain ⟨w, hw⟩ := look_mem R.ku
    rw [← L.lu] at hw
    exact mem_look hw, by
    obtain ⟨w, hw⟩ := look_mem R.kv
    rw [← L.lv] at hw
    exact mem_look hw, fun k w h => by
    rcases led_look L h with h | h
    · exact R.lo _ _ h
    · exact R.lo _ _ h⟩
theorem led_nil {u v u' v' : Str} {d e : List (Str × Int)} (L : Led u v u' v' d e) (h : d = []) : e = [] := by
  subst h
  cases e with
  | nil => rfl
  | cons p r =>
    have hk : look (p :: r) p.1 = some p.2 := by
      unfold look
      simp
    rcases led_look L hk with h | h <;> cases h
theorem led_mvs {u v u' v' : Str} {ms ns : List (Dc Str Int)} (M : Mvs2 u v ms) (Pd : Paired (LedM u v u' v') ms ns) : Mvs2 u' v' ns := by
  have hl := Paired.length Pd
  have back : ∀ n ∈ ns, ∃ m ∈ ms, LedM u v u' v' m n := fun n hn => by
    obtain ⟨j, hj, e⟩ := List.mem_iff_getElem.mp hn
    refine ⟨ms[j]'(by omega), List.getElem_mem _, paired_at Pd j (List.getElem?_eq_getElem _) (by rw [List.getElem?_eq_getElem hj, e])⟩
  refine ⟨fun n hn => ?_, by have := M.few; omega, ?_, fun n hn k w h => ?_⟩
  · obtain ⟨m, hm, L⟩ := back n hn
    exact L.I
  · obtain ⟨m, hm, hml⟩ := M.head
    have l0 : 0 < ns.length := by
      have := (List.getElem?_eq_some_iff.mp hm).1
      omega
    have hn : ns[0]? = some ns[0] := List.getElem?_eq_getElem l0
    exact ⟨_, hn, led_nil (paired_at Pd 0 hm hn) hml⟩
  · obtain ⟨m, hm, L⟩ := back n hn
    rcases led_look L h with h | h
    · exact M.lo m hm _ _ h
    · exact M.lo m hm _ _ h
theorem ordN_ord {u v u' v' : Str} {n : Nat} {os qs : List (T4 Str Str Int Int)} (H' : U2 u' v') (O : Ord2 u v n os) (Q : Paired (OrdN u v u' v') os qs) : Ord2 u' v' n qs := by
  have hl := Paired.length Q
  have back : ∀ q ∈ qs, ∃ o ∈ os, OrdN u v u' v' o q := fun q hq => by
    obtain ⟨j, hj, e⟩ := List.mem_iff_getElem.mp hq
    refine ⟨os[j]'(by omega), List.getElem_mem _, paired_at Q j (List.getElem?_eq_getElem _) (by rw [List.getElem?_eq_getElem hj, e])⟩
  have nm : ∀ q ∈ qs, q.b = u' ∨ q.b = v' := fun q hq => by
    obtain ⟨o, ho, _, _, _, b⟩ := back q hq
    rcases b with b | b
    · exact .inl b.2
    · exact .inr b.2
  refine ⟨fun q hq => ?_, fun q hq => ?_, nm, by have := O.few; omega⟩
  · obtain ⟨o, ho, a, c, d, b⟩ := back q hq
    have Oo := O.O o ho
    refine ⟨by rw [a]; exact Oo.side, ?_, by rw [c]; exact Oo.lo, by rw [c]; exact Oo.hi, by rw [d]; exact Oo.pos⟩
    rcases nm q hq with e | e
    · rw [e]; exact H'.mu
    · rw [e]; exact H'.mv
  · obtain ⟨o, ho, a, c, d, b⟩ := back q hq
    rw [d]
    exact O.t o ho
end K21
set_option maxHeartbeats 4000000
/-! k21, the plain law: names_right, the end of it -/
namespace K21
open PySem PySem.Spec PyProof.Rows L2 DW
/-- all that names_right holds in its hands -/
structure NmAll (u v u' v' : Str) (ms ns : List (Dc Str Int)) (a pr : List (Str × Int)) (n : Dc Str Str) (os qs : List (T4 Str Str Int Int)) : Prop where
  H : U2 u v
  M : Mvs2 u v ms
  R : Prc2 u v pr
  A : In2 u v a
  za : NoZ a
  O : Ord2 u v 4 os
  N : Nm u v n.l u' v'
  Q : Paired (OrdN u v u' v') os qs
  Pd : Paired (LedM u v u' v') ms ns
theorem s_led2 {u v u' v' : Str} {n : Dc Str Str} {a pr : Dc Str Int} {P : Dc Str Int → Prop} (H : U2 u v) (N : Nm u v n.l u' v') (A : In2 u v a.l) (h : ∀ e : Dc Str Int, Led u v u' v' a.l e.l → P e) : w__law_led n a P := s__law_led H N A h
theorem rev_ord {u v : Str} {n : Nat} {os : List (T4 Str Str Int Int)} (O : Ord2 u v n os) : Ord2 u v n os.reverse :=
  ord2_of O (fun o ho => List.mem_reverse.mp ho) (by rw [List.length_reverse]; exact O.few)
theorem s_names_p5 {u v u' v' : Str} {ms ns : List (Dc Str Int)} {a pr : Dc Str Int} {n : Dc Str Str} {os qs : List (T4 Str Str Int Int)} (Z : NmAll u v u' v' ms ns a.l pr.l n os qs) {P : Bool → Prop} (h : P true) (wo : List Str) (w1 w2 : T3 Int Int (Tp Int)) (pu : Int) {side : Str} (hs : side = "buy" ∨ side = "sell") {price : Int} (p0 : 1 ≤ price) (p1 : price ≤ 99) :
    w__law_names_right_p5 [u, v] ms pr a os wo n qs side price ns w1 w2 pu (roomL a.l os ms pr.l pu side u price) P := by
  obtain ⟨H, M, R, A, za, O, N, Q, Pd⟩ := Z
  unfold w__law_names_right_p5
  refine s__law_led H N A fun a' La => s__law_led H N R.I fun pr' Lp => ⟨u, rfl, u', N.lu, ?_⟩
  have R' := led_prc Lp R
  have O' := ordN_ord N.H O Q
  refine s_room (okQ2 N.H La.I (led_noz La za) (led_mvs M Pd) R' O' (by decide)) (Nat.le_trans O'.few (by decide)) ⟨hs, N.H.mu, p0, p1, Int.le_refl _⟩ R'.ku ?_
  intro x hx
  subst hx
  refine ⟨u, rfl, s_room (okQ2 H A za M R (rev_ord O) (by decide)) (Nat.le_trans (rev_ord O).few (by decide)) ⟨hs, H.mu, p0, p1, Int.le_refl _⟩ R.ku ?_⟩
  intro x hx
  subst hx
  unfold altW
  rw [room_led H N.H A La Pd Lp Q, room_perm (List.reverse_perm os)]
  refine ⟨fun _ => ?_, fun e => ?_⟩
  · rw [decide_eq_true rfl]
    exact h
  · simp at e
theorem s_names_p4 {u v u' v' : Str} {ms ns : List (Dc Str Int)} {a pr : Dc Str Int} {n : Dc Str Str} {os qs : List (T4 Str Str Int Int)} (Z : NmAll u v u' v' ms ns a.l pr.l n os qs) {P : Bool → Prop} (h : P true) (wo : List Str) (w1 w2 : T3 Int Int (Tp Int)) (pu : Int) :
    w__law_names_right_p4 [u, v] ms pr a os wo n qs ns w1 w2 pu P := by
  unfold w__law_names_right_p4
  refine ⟨by decide, fun y y0 y1 => ?_⟩
  have sd : ∃ q : Str, atI [("buy" : Str), ("sell" : Str)] y = some q ∧ (q = "buy" ∨ q = "sell") := by
    have : y = 0 ∨ y = 1 := by omega
    rcases this with e | e <;> subst e
    · exact ⟨_, rfl, .inl rfl⟩
    · exact ⟨_, rfl, .inr rfl⟩
  obtain ⟨sd, hs, us⟩ := sd
  refine ⟨sd, hs, ?_⟩
  intro x hx
  subst hx
  refine ⟨by decide, fun pz p0 p1 => ?_⟩
  intro l hl
  subst hl
  refine ⟨u, rfl, s_room (okQ2 Z.H Z.A Z.za Z.M Z.R Z.O (by decide)) (Nat.le_trans Z.O.few (by decide)) ⟨us, Z.H.mu, by show 1 ≤ 1 + pz; omega, by show 1 + pz ≤ 99; omega, Int.le_refl _⟩ Z.R.ku ?_⟩
  intro d hd
  subst hd
  exact s_names_p5 Z h wo w1 w2 pu us (by omega) (by omega)
end K21
set_option maxHeartbeats 4000000
/-! k21, the plain law: names_right, the start of it -/
namespace K21
open PySem PySem.Spec PyProof.Rows L2 DW
theorem mvs_cons {ms : List (Dc Str Int)} (M : Mvs ms) : ms = ⟨[]⟩ :: ms.drop 1 := by
  obtain ⟨m, hm, hl⟩ := M.head
  cases ms with
  | nil => cases hm
  | cons x xs =>
    injection hm with hm
    subst hm
    cases x
    cases hl
    rfl
theorem s_names_p3 {u v u' v' : Str} {ms ns : List (Dc Str Int)} {a pr : Dc Str Int} {n : Dc Str Str} {os qs : List (T4 Str Str Int Int)} (Z : NmAll u v u' v' ms ns a.l pr.l n os qs) {P : Bool → Prop} (h : P true) (wo : List Str) {w : T3 Int Int (Tp Int)} (hw : w.a = top a.l os ms pr.l) :
    w__law_names_right_p3 [u, v] ms pr a os wo n qs ns w P := by
  unfold w__law_names_right_p3
  have M := Z.M
  have mc := mvs_cons (mvs2 Z.H M)
  have l1 := mvs_pos (mvs2 Z.H M)
  have l8 := M.few
  refine ⟨by rw [cut_first, List.length_drop]; omega, fun sm hsm => ?_⟩
  rw [cut_first] at hsm
  have ls := hsm.length_eq
  rw [List.length_drop] at ls
  have mem : ∀ m, m ∈ [(Dc.mk ([] : List (Str × Int)))] ++ sm ↔ m ∈ ms := fun m => by
    rw [mc]
    show m ∈ _ :: sm ↔ _
    rw [List.mem_cons, List.mem_cons, hsm.mem_iff]
  have N : Mvs2 u v ([(Dc.mk ([] : List (Str × Int)))] ++ sm) := mvs2_of M (fun m hm => (mem m).mp hm) (by rw [List.length_append, List.length_singleton]; omega) ⟨_, rfl, rfl⟩
  refine ⟨by rw [List.length_singleton]; omega, s_worst (okQ2 Z.H Z.A Z.za N Z.R (rev_ord Z.O) (by decide)) fun r j m hr => ?_⟩
  intro x hx
  subst hx
  refine ⟨fun e => ?_, fun _ => ⟨by decide, fun y y0 y1 => ?_⟩⟩
  · rw [wst_top (mvs2 Z.H N) hr, hw, top_moves Z.H M N mem, top_perm (List.reverse_perm os)] at e
    simp at e
  · intro pu _
    exact s_names_p4 Z h wo _ _ pu
theorem s_names_p2 {u v u' v' : Str} {ms ns : List (Dc Str Int)} {a pr : Dc Str Int} {n : Dc Str Str} {os qs : List (T4 Str Str Int Int)} (Z : NmAll u v u' v' ms ns a.l pr.l n os qs) {P : Bool → Prop} (h : P true) (wo : List Str) :
    w__law_names_right_p2 [u, v] ms pr a os wo n qs ns P := by
  have Z' := Z
  obtain ⟨H, M, R, A, za, O, N, Q, Pd⟩ := Z
  unfold w__law_names_right_p2
  refine s_worst (okQ2 H A za M R O (by decide)) fun r j m hr => ?_
  intro x hx
  subst hx
  refine s__law_led H N A fun a' La => s__law_led H N R.I fun pr' Lp => ?_
  have R' := led_prc Lp R
  have O' := ordN_ord N.H O Q
  have M' := led_mvs M Pd
  refine s_worst (okQ2 N.H La.I (led_noz La za) M' R' O' (by decide)) fun r' j' m' hr' => ⟨fun e => ?_, fun _ => s__law_led H N A fun b Lb => s_need2 N.H Lb.I (led_noz Lb za) M' (s_need2 H A za M ⟨fun e => ?_, fun _ => s_names_p3 Z' h wo (wst_top (mvs2 H M) hr)⟩)⟩
  · have := wst_same Pd (fun m n L => led_tot H N.H A La L Lp Q) (fun m n L => led_fills L Lp Q) hr hr'
    rw [this] at e
    simp at e
  · rw [need_led H N.H A Lb Pd] at e
    simp at e
theorem s_names_right {u v : Str} {ms : List (Dc Str Int)} {pr : Dc Str Int} (H : U2 u v) (M : Mvs2 u v ms) (R : Prc2 u v pr.l) {P : Bool → Prop} (h : P true) : w__law_names_right [u, v] ms pr P := by
  unfold w__law_names_right
  refine s__law_position fun a A za => ?_
  intro a' ha
  cases ha
  refine s__law_orders (k := 4) H (by decide) fun os O => ?_
  intro os' ho
  cases ho
  refine ⟨by simp, fun wo hwo => ?_⟩
  intro wo' hw
  cases hw
  have lw := hwo.length_eq
  have nd : wo.Nodup := hwo.nodup_iff.mpr (by decide)
  have mo : ∀ w ∈ wo, memOk w = true := fun w hw => by
    have := hwo.mem_iff.mp hw
    simp only [List.mem_cons, List.not_mem_nil, or_false] at this
    rcases this with e | e | e | e <;> rw [e] <;> decide +kernel
  match wo, lw with
  | [w0, w1, w2, w3], _ =>
    have ne : w0 ≠ w1 := by
      simp only [List.nodup_cons, List.mem_cons, not_or] at nd
      exact nd.1.1
    have U' : U2 w0 w1 := ⟨ne, mo _ (by simp), mo _ (by simp)⟩
    unfold w__law_names_right_p1
    refine ⟨by decide, by decide, ?_⟩
    show compW _ _ [0, 1] []
    refine ⟨u, rfl, w0, rfl, v, rfl, w1, rfl, ?_⟩
    intro n hn
    have en : n = ⟨[(u, w0), (v, w1)]⟩ := by
      rw [hn]
      show Dc.mk (puts [] [(u, w0), (v, w1)]) = _
      rw [puts_own (by simp [H.ne])]
    have N : Nm u v n.l w0 w1 := by
      rw [en]
      exact ⟨by simp [look], by simp [look, H.ne, H.ne.symm], U'⟩
    refine ⟨Nat.le_trans O.few (by decide), comp_rel (OrdN u v w0 w1) _ _ (fun o ho R' hR => ?_) fun qs Q => ?_⟩
    · rcases O.k o ho with e | e
      · exact ⟨w0, by rw [e]; exact N.lu, hR _ ⟨rfl, rfl, rfl, .inl ⟨e, rfl⟩⟩⟩
      · exact ⟨w1, by rw [e]; exact N.lv, hR _ ⟨rfl, rfl, rfl, .inr ⟨e, rfl⟩⟩⟩
    · rw [List.nil_append]
      intro qs' hq
      cases hq
      refine ⟨Nat.le_trans M.few (by decide), comp_rel (LedM u v w0 w1) _ _ (fun m hm R' hR => s__law_led H N (M.I m hm) fun e L => hR _ L) fun ns Pd => ?_⟩
      rw [List.nil_append]
      intro ns' hn'
      cases hn'
      exact s_names_p2 ⟨H, M, R, A, za, O, N, Q, Pd⟩ h _
end K21
set_option maxHeartbeats 4000000
/-! k21, the plain law: parts_right -/
namespace K21
open PySem PySem.Spec PyProof.Rows L2 DW
theorem cut_pre {α : Type} (A X : List α) {i : Int} (h : i = (A.length : Int)) : cutL (A ++ X) none (some i) = A := by
  subst h
  unfold cutL
  rw [HT.sIx_nat, HT.sIx_none, List.drop_zero, List.length_append, show min A.length (A.length + X.length) - 0 = A.length by omega, List.take_left']
  rfl
theorem cut_post {α : Type} (A X : List α) (k : Nat) {i : Int} (h : i = ((A.length + k : Nat) : Int)) : cutL (A ++ X) (some i) none = X.drop k := by
  subst h
  unfold cutL
  rw [HT.sIx_nat, HT.sIx_none, List.length_append]
  by_cases c : k ≤ X.length
  · rw [show min (A.length + k) (A.length + X.length) = A.length + k by omega, List.drop_append, List.take_of_length_le (by simp; omega)]
    rw [show A.length + k - A.length = k by omega, List.drop_eq_nil_of_le (by omega), List.nil_append]
  · rw [show min (A.length + k) (A.length + X.length) = A.length + X.length by omega, show A.length + X.length - (A.length + X.length) = 0 by omega, List.take_zero, List.drop_eq_nil_of_le (by omega)]
theorem split_at {α : Type} {xs : List α} {i : Nat} (h : i < xs.length) : ∃ A x B, xs = A ++ x :: B ∧ A.length = i := by
  refine ⟨xs.take i, xs[i], xs.drop (i + 1), ?_, by rw [List.length_take]; omega⟩
  rw [← List.drop_eq_getElem_cons h, List.take_append_drop]
theorem wst_idx {p pr : List (Str × Int)} {os qs : List (T4 Str Str Int Int)} {ms : List (Dc Str Int)} {r r' : T3 Int Int (Tp Int)} {j j' : Nat} {m m' : Dc Str Int} (ht : ∀ m : Dc Str Int, tot p qs m.l pr = tot p os m.l pr) (W : Wst1 p os ms pr r j m) (W' : Wst1 p qs ms pr r' j' m') : r'.a = r.a ∧ r'.b = r.b ∧ m' = m := by
  have t1 := W.mx _ (List.mem_of_getElem? W'.at')
  have t2 := W'.mx _ (List.mem_of_getElem? W.at')
  have e1 := ht m
  have e2 := ht m'
  have te : tot p qs m'.l pr = tot p os m.l pr := by omega
  have jj : j = j' := by
    rcases Nat.lt_trichotomy j j' with h | h | h
    · exact absurd (by omega) (W'.first j h _ W.at')
    · exact h
    · exact absurd (by omega) (W.first j' h _ W'.at')
  subst jj
  have mm := W.at'.symm.trans W'.at'
  injection mm with mm
  exact ⟨by rw [W.a, W'.a, te], by rw [W.b, W'.b], mm.symm⟩
/-- one order in two parts -/
theorem fill_parts {o : T4 Str Str Int Int} {x : Int} {m pr : List (Str × Int)} : fill ⟨o.a, o.b, o.c, x⟩ m pr + fill ⟨o.a, o.b, o.c, o.d - x⟩ m pr = fill o m pr := by
  have e : ∀ y, ul ⟨o.a, o.b, o.c, y⟩ m pr = ul o m pr := fun y => rfl
  unfold fill
  rw [e x, e (o.d - x)]
  split
  · show x + (o.d - x) = o.d
    omega
  · rfl
theorem tot_parts {p m pr : List (Str × Int)} {A B : List (T4 Str Str Int Int)} {o : T4 Str Str Int Int} {x : Int} : tot p ((A ++ [⟨o.a, o.b, o.c, x⟩, ⟨o.a, o.b, o.c, o.d - x⟩]) ++ B) m pr = tot p (A ++ o :: B) m pr := by
  have e : ∀ y, ul ⟨o.a, o.b, o.c, y⟩ m pr = ul o m pr := fun y => rfl
  have : bite ⟨o.a, o.b, o.c, x⟩ m pr + bite ⟨o.a, o.b, o.c, o.d - x⟩ m pr = bite o m pr := by
    unfold bite
    rw [e x, e (o.d - x), ← Int.add_mul, fill_parts]
  unfold tot
  simp only [List.map_append, List.map_cons, List.map_nil, List.sum_append, List.sum_cons, List.sum_nil]
  omega
theorem s_parts_p1 {u v : Str} {ms : List (Dc Str Int)} {a pr : Dc Str Int} {os : List (T4 Str Str Int Int)} (H : U2 u v) (M : Mvs2 u v ms) (R : Prc2 u v pr.l) (A : In2 u v a.l) (za : NoZ a.l) (O : Ord2 u v 4 os) (big : ∀ o ∈ os, 1 < o.d) {r : T3 Int Int (Tp Int)} {j : Nat} {m : Dc Str Int} (W : Wst1 a.l os ms pr.l r j m) {P : Bool → Prop} (h : P true) (us : List Str) : w__law_parts_right_p1 us ms pr a os r P := by
  unfold w__law_parts_right_p1
  have f4 := O.few
  refine ⟨by omega, by unfold rng; rw [List.length_map, List.length_range]; omega, for_unit _ (fun x hx nx bk hn => ?_) h⟩
  obtain ⟨i, hi, hxi⟩ := List.mem_map.mp hx
  have hi := List.mem_range.mp hi
  rw [Int.toNat_natCast] at hi
  have hxi : x = (i : Int) := by omega
  obtain ⟨L, o, Z, he, hL⟩ := split_at hi
  subst hL
  have at' : atI os x = some o := by
    rw [hxi, he]
    exact atI_nat (by rw [List.getElem?_append_right (Nat.le_refl _), Nat.sub_self]; rfl)
  have mo : o ∈ os := by rw [he]; simp
  have b := big o mo
  have t := O.t o mo
  refine ⟨o, at', ⟨by omega, fun y y0 y1 => ?_⟩⟩
  intro part hp
  refine ⟨o, at', o, at', o, at', ?_⟩
  intro two htwo
  have c1 : cutL os none (some x) = L := by rw [he]; exact cut_pre _ _ hxi
  have c2 : cutL os (some (x + 1)) none = Z := by rw [he]; exact cut_post _ _ 1 (by omega)
  have lo : os.length = L.length + (1 + Z.length) := by
    rw [he, List.length_append, List.length_cons]
    omega
  rw [c1, c2]
  subst htwo
  have sub : ∀ q ∈ L ++ [(⟨o.a, o.b, o.c, part⟩ : T4 Str Str Int Int), ⟨o.a, o.b, o.c, o.d - part⟩] ++ Z, q ∈ os ∨ (q = ⟨o.a, o.b, o.c, part⟩ ∨ q = ⟨o.a, o.b, o.c, o.d - part⟩) := fun q hq => by
    rw [he]
    simp only [List.mem_append, List.mem_cons, List.not_mem_nil, or_false] at hq ⊢
    rcases hq with (e | e) | e
    · exact .inl (.inl e)
    · exact .inr e
    · exact .inl (.inr (.inr e))
  have Oo := O.O o mo
  have O' : Ord2 u v 5 (L ++ [(⟨o.a, o.b, o.c, part⟩ : T4 Str Str Int Int), ⟨o.a, o.b, o.c, o.d - part⟩] ++ Z) := by
    refine ⟨fun q hq => ?_, fun q hq => ?_, fun q hq => ?_, by simp only [List.length_append, List.length_cons, List.length_nil]; omega⟩
    · rcases sub q hq with e | e | e
      · exact O.O q e
      · rw [e]; exact ⟨Oo.side, Oo.mem, Oo.lo, Oo.hi, by show 1 ≤ part; omega⟩
      · rw [e]; exact ⟨Oo.side, Oo.mem, Oo.lo, Oo.hi, by show 1 ≤ o.d - part; omega⟩
    · rcases sub q hq with e | e | e
      · exact O.t q e
      · rw [e]; show part ≤ 99; omega
      · rw [e]; show o.d - part ≤ 99; omega
    · rcases sub q hq with e | e | e
      · exact O.k q e
      · rw [e]; exact O.k o mo
      · rw [e]; exact O.k o mo
  refine ⟨by show L.length + 2 ≤ 100000; omega, by rw [List.length_append]; show L.length + 2 + Z.length ≤ 100000; omega, s_worst (okQ2 H A za M R O' (by decide)) fun r' j' m' W' => ?_⟩
  intro z hz
  subst hz
  obtain ⟨ea, eb, em⟩ := wst_idx (fun m => by rw [he]; exact tot_parts) W W'
  subst em
  have ec := W.c
  have ec' := W'.c
  rw [he] at ec
  generalize hF : (fun q : T4 Str Str Int Int => fill q m'.l pr.l) = F at ec ec'
  have Fo : F ⟨o.a, o.b, o.c, part⟩ + F ⟨o.a, o.b, o.c, o.d - part⟩ = F o := by
    rw [← hF]
    exact fill_parts
  have zc : z.c.l = L.map F ++ (F ⟨o.a, o.b, o.c, part⟩ :: F ⟨o.a, o.b, o.c, o.d - part⟩ :: Z.map F) := by
    rw [ec']
    simp
  have lF : (L.map F).length = L.length := List.length_map _
  have c3 : cutL z.c.l none (some x) = L.map F := by rw [zc]; exact cut_pre _ _ (by omega)
  have c4 : cutL z.c.l (some (x + 2)) none = Z.map F := by rw [zc]; exact cut_post _ _ 2 (by omega)
  have a1 : atI z.c.l x = some (F ⟨o.a, o.b, o.c, part⟩) := by
    rw [hxi, zc]
    exact atI_nat (by rw [List.getElem?_append_right (by omega), lF, Nat.sub_self]; rfl)
  have a2 : atI z.c.l (x + 1) = some (F ⟨o.a, o.b, o.c, o.d - part⟩) := by
    rw [show x + 1 = ((L.length + 1 : Nat) : Int) by omega, zc]
    exact atI_nat (by rw [List.getElem?_append_right (by omega), lF, show L.length + 1 - L.length = 1 by omega]; rfl)
  have fin : (Tp.mk ((L.map F ++ [F ⟨o.a, o.b, o.c, part⟩ + F ⟨o.a, o.b, o.c, o.d - part⟩]) ++ Z.map F) : Tp Int) = r.c := by
    rw [ec, Fo]
    simp
  unfold altW
  rw [c3, c4]
  refine ⟨fun _ => ⟨_, a1, _, a2, ?_, ?_, ?_⟩, fun e => ?_⟩
  · show (L.map F).length + 1 ≤ 100000
    omega
  · show (L.map F ++ [_]).length + (Z.map F).length ≤ 100000
    simp only [List.length_append, List.length_map, List.length_cons, List.length_nil]
    omega
  · rw [show (Tp.mk ((Tp.mk ((Tp.mk (L.map F)).l ++ (Tp.mk [F ⟨o.a, o.b, o.c, part⟩ + F ⟨o.a, o.b, o.c, o.d - part⟩]).l)).l ++ (Tp.mk (Z.map F)).l) : Tp Int) = r.c from fin]
    rw [decide_eq_true rfl]
    exact ⟨(fun e => nomatch e), fun _ => hn⟩
  · rw [ea, eb] at e
    simp at e
theorem s_parts_right {u v : Str} {ms : List (Dc Str Int)} {pr : Dc Str Int} (H : U2 u v) (M : Mvs2 u v ms) (R : Prc2 u v pr.l) {P : Bool → Prop} (h : P true) : w__law_parts_right [u, v] ms pr P := by
  unfold w__law_parts_right
  refine s__law_position fun a A za => ?_
  intro a' ha
  cases ha
  refine s__law_orders (k := 4) H (by decide) fun os O => ?_
  refine ⟨Nat.le_trans O.few (by decide), comp_fm (fun o : T4 Str Str Int Int => if (1 : Int) < o.d then some o else none) _ _ (fun o ho R' hR => ⟨fun e => ?_, fun e => ?_⟩) ?_⟩
  · rw [if_pos (of_decide_eq_true e)] at hR
    exact hR
  · rw [if_neg (of_decide_eq_false e)] at hR
    exact hR
  · rw [List.nil_append]
    intro bids hb
    have sub : ∀ o ∈ bids, o ∈ os ∧ 1 < o.d := fun o ho => by
      rw [hb] at ho
      obtain ⟨x, hx, e⟩ := List.mem_filterMap.mp ho
      split at e
      · injection e with e
        subst e
        exact ⟨hx, by assumption⟩
      · cases e
    have O' : Ord2 u v 4 bids := ord2_of O (fun o ho => (sub o ho).1) (by
      rw [hb]
      exact Nat.le_trans (List.length_filterMap_le _ _) O.few)
    refine s_worst (okQ2 H A za M R O' (by decide)) fun r j m W => ?_
    intro r' hr
    subst hr
    exact s_parts_p1 H M R A za O' (fun o ho => (sub o ho).2) W h _
theorem law_right : w_law_p1 fun b => b = true := by
  unfold w_law_p1
  refine s__law_units fun u v H => ?_
  intro us hu
  subst hu
  refine ⟨by decide, by decide, for_unit _ (fun x hx nx bk hn => ?_) rfl⟩
  refine s__law_moves H fun ms M => ?_
  intro ms' hm
  subst hm
  refine s__law_prices H fun pr R => ?_
  intro pr' hp
  subst hp
  unfold altW
  refine s_joined_right H M R ⟨fun _ => s_more_right H M R ⟨(fun e => nomatch e), fun _ => ?_⟩, (fun e => nomatch e)⟩
  exact s_names_right H M R ⟨fun _ => s_parts_right H M R ⟨(fun e => nomatch e), fun _ => hn⟩, (fun e => nomatch e)⟩
end K21
set_option maxHeartbeats 4000000
namespace K21
open PySem PySem.Spec PyProof.Rows L2 DW
section
variable {P : Program} {w : World} {K : Frag} {mg : Str → Option Value} {base : Heap}
theorem ok_law {f : Addr} {fd : FuncData} (X : Tx K mg) (C__law_start : CalD P w K mg base 1 "_law_start" (spStart K) []) (C__law_units : CalD P w K mg base 2 "_law_units" (spD K (Stp 1) W__law_units) []) (C__law_moves : CalD P w K mg base 3 "_law_moves" (spD K (Stp 30001) W__law_moves) []) (C__law_prices : CalD P w K mg base 3 "_law_prices" (spD K (Stp 200) W__law_prices) []) (C__law_joined_right : CalD P w K mg base 7 "_law_joined_right" (spD K (Stp 21403) W__law_joined_right) []) (C__law_more_right : CalD P w K mg base 7 "_law_more_right" (spD K (Stp 11002) W__law_more_right) []) (C__law_names_right : CalD P w K mg base 7 "_law_names_right" (spD K (Stp 10904) W__law_names_right) []) (C__law_parts_right : CalD P w K mg base 7 "_law_parts_right" (spD K (Stp 10801) W__law_parts_right) []) (F : Fun K "law" "law" (topS 60) f fd) (main : w_law_p1 fun b => b = true) : FnOk P w K mg base CX0 8 f fd ["script"] (spLaw K) := by
  refine F.ok sc_law (fun vs H Q E h => ?_) (fun cdv A outer s H vs Q E hr h => ?_)
  · obtain ⟨a, ns, e, _⟩ := h
    rw [e] <;> rfl
  · obtain ⟨t1, d1, s1⟩ := part_law_p1 X C__law_units C__law_moves C__law_prices C__law_joined_right C__law_more_right C__law_names_right C__law_parts_right (H := H) (E := E) hr
    refine ⟨_, pss_cons (ps_set (i := 1) sc_law.nd (by rfl) (by first | exact .inl rfl | exact .inr rfl) (pe_cd C__law_start hr (by decide) (by rfl) (pa_cons (pv 0) pa_nil))) d1, ?_⟩
    obtain ⟨a, ns, e, hs, hl, q⟩ := h
    subst e
    refine ⟨.ref a, rfl, a, ns, rfl, hs, hl, fun H' r p qa bigs cells t => ?_⟩
    have g : Good (Wst r (0 + 0)) (fun b => False ∨ False) (fun _ => none) H' := ⟨(fun _ _ h => by cases h), ⟨p, qa, bigs, cells, 0, t, Int.le_refl 0, Int.le_refl 0⟩, fun _ _ => rfl, fun _ _ h => Or.elim h id id, fun _ _ => rfl, fun _ h => False.elim (Or.elim h id id)⟩
    have no : ∀ b, ¬ OwnAt (L2.start ["script", "state", "units", "turn", "shifts", "fees"] [.ref a] |>.set 1 (some (.ref r))) [.non, .raw (.ref r), .non, .non, .non, .non] b := fun b ⟨i, d, h1, h2, _⟩ => by
      match i, h1 with
      | 0, h1 => cases h1; cases h2
      | 1, h1 => cases h1; cases h2
      | 2, h1 => cases h1; cases h2
      | 3, h1 => cases h1; cases h2
      | 4, h1 => cases h1; cases h2
      | 5, h1 => cases h1; cases h2
    have c : Cf (Wst r (0 + 0)) K (fun _ => False) (fun _ => none) H' (L2.start ["script", "state", "units", "turn", "shifts", "fees"] [.ref a] |>.set 1 (some (.ref r))) [.non, .raw (.ref r), .non, .non, .non, .non] :=
      ⟨g.less fun b h => Or.elim h (fun z => Or.inl z) fun z => absurd z (no b), ⟨rfl, fun i d h1 => by
        match i, h1 with
        | 0, h1 => cases h1; exact ⟨_, rfl, trivial⟩
        | 1, h1 => cases h1; exact ⟨_, rfl, rfl⟩
        | 2, h1 => cases h1; exact ⟨_, rfl, trivial⟩
        | 3, h1 => cases h1; exact ⟨_, rfl, trivial⟩
        | 4, h1 => cases h1; exact ⟨_, rfl, trivial⟩
        | 5, h1 => cases h1; exact ⟨_, rfl, trivial⟩⟩, fun i j d e b h1 h2 h3 => absurd ⟨i, d, h1, h2, h3⟩ (no b), fun b h => absurd h (no b)⟩
    exact sd_run (s1 r 0 (by unfold limB; decide) (fun b => b = true) main) c (fun _ _ h => h) (fun _ _ h => h) (fun _ _ h => False.elim h) rfl fun v S' H2 y m rv e => by
      have ev : v = .bl y := rv
      rw [ev, e]
      exact q H2
end
/-! ### what the top has written -/
structure AllF (K : Frag) : Prop where
  d__law_start : ∃ f fd, PySem.W.nsIn K mainGlobals "_law_start" = some (some (.ref f)) ∧ Fun K "_law_start" "_law_start" (topS 46) f fd
  d__law_take : ∃ f fd, PySem.W.nsIn K mainGlobals "_law_take" = some (some (.ref f)) ∧ Fun K "_law_take" "_law_take" (topS 47) f fd
  d__law_units : ∃ f fd, PySem.W.nsIn K mainGlobals "_law_units" = some (some (.ref f)) ∧ Fun K "_law_units" "_law_units" (topS 49) f fd
  d__law_mixed : ∃ f fd, PySem.W.nsIn K mainGlobals "_law_mixed" = some (some (.ref f)) ∧ Fun K "_law_mixed" "_law_mixed" (topS 48) f fd
  d__law_moves : ∃ f fd, PySem.W.nsIn K mainGlobals "_law_moves" = some (some (.ref f)) ∧ Fun K "_law_moves" "_law_moves" (topS 52) f fd
  d__law_prices : ∃ f fd, PySem.W.nsIn K mainGlobals "_law_prices" = some (some (.ref f)) ∧ Fun K "_law_prices" "_law_prices" (topS 53) f fd
  d__law_number : ∃ f fd, PySem.W.nsIn K mainGlobals "_law_number" = some (some (.ref f)) ∧ Fun K "_law_number" "_law_number" (topS 50) f fd
  d__law_position : ∃ f fd, PySem.W.nsIn K mainGlobals "_law_position" = some (some (.ref f)) ∧ Fun K "_law_position" "_law_position" (topS 51) f fd
  d__law_orders : ∃ f fd, PySem.W.nsIn K mainGlobals "_law_orders" = some (some (.ref f)) ∧ Fun K "_law_orders" "_law_orders" (topS 54) f fd
  d_is_name : ∃ f fd, PySem.W.nsIn K mainGlobals "is_name" = some (some (.ref f)) ∧ Fun K "is_name" "is_name" (topS 8) f fd
  d_is_member : ∃ f fd, PySem.W.nsIn K mainGlobals "is_member" = some (some (.ref f)) ∧ Fun K "is_member" "is_member" (topS 9) f fd
  d_is_integer : ∃ f fd, PySem.W.nsIn K mainGlobals "is_integer" = some (some (.ref f)) ∧ FunD K "is_integer" "is_integer" (defArgs (topS 7)) (defBody (topS 7)) (defScope (topS 7)) [.non] [] f fd
  d_is_position : ∃ f fd, PySem.W.nsIn K mainGlobals "is_position" = some (some (.ref f)) ∧ Fun K "is_position" "is_position" (topS 15) f fd
  d_check_position : ∃ f fd, PySem.W.nsIn K mainGlobals "check_position" = some (some (.ref f)) ∧ Fun K "check_position" "check_position" (topS 16) f fd
  d_summed : ∃ f fd, PySem.W.nsIn K mainGlobals "summed" = some (some (.ref f)) ∧ Fun K "summed" "summed" (topS 19) f fd
  d_joined : ∃ f fd, PySem.W.nsIn K mainGlobals "joined" = some (some (.ref f)) ∧ Fun K "joined" "joined" (topS 20) f fd
  d_is_move : ∃ f fd, PySem.W.nsIn K mainGlobals "is_move" = some (some (.ref f)) ∧ Fun K "is_move" "is_move" (topS 27) f fd
  d_check_moves : ∃ f fd, PySem.W.nsIn K mainGlobals "check_moves" = some (some (.ref f)) ∧ Fun K "check_moves" "check_moves" (topS 28) f fd
  d_loss_by : ∃ f fd, PySem.W.nsIn K mainGlobals "loss_by" = some (some (.ref f)) ∧ Fun K "loss_by" "loss_by" (topS 29) f fd
  d_need_of : ∃ f fd, PySem.W.nsIn K mainGlobals "need_of" = some (some (.ref f)) ∧ Fun K "need_of" "need_of" (topS 31) f fd
  d_need : ∃ f fd, PySem.W.nsIn K mainGlobals "need" = some (some (.ref f)) ∧ Fun K "need" "need" (topS 32) f fd
  d_is_price : ∃ f fd, PySem.W.nsIn K mainGlobals "is_price" = some (some (.ref f)) ∧ Fun K "is_price" "is_price" (topS 17) f fd
  d_is_standing : ∃ f fd, PySem.W.nsIn K mainGlobals "is_standing" = some (some (.ref f)) ∧ Fun K "is_standing" "is_standing" (topS 33) f fd
  d_check_orders : ∃ f fd, PySem.W.nsIn K mainGlobals "check_orders" = some (some (.ref f)) ∧ Fun K "check_orders" "check_orders" (topS 34) f fd
  d_check_prices : ∃ f fd, PySem.W.nsIn K mainGlobals "check_prices" = some (some (.ref f)) ∧ Fun K "check_prices" "check_prices" (topS 18) f fd
  d_check_question : ∃ f fd, PySem.W.nsIn K mainGlobals "check_question" = some (some (.ref f)) ∧ Fun K "check_question" "check_question" (topS 35) f fd
  d_check_priced : ∃ f fd, PySem.W.nsIn K mainGlobals "check_priced" = some (some (.ref f)) ∧ Fun K "check_priced" "check_priced" (topS 36) f fd
  d_unit_loss : ∃ f fd, PySem.W.nsIn K mainGlobals "unit_loss" = some (some (.ref f)) ∧ Fun K "unit_loss" "unit_loss" (topS 37) f fd
  d_worst_filled : ∃ f fd, PySem.W.nsIn K mainGlobals "worst_filled" = some (some (.ref f)) ∧ Fun K "worst_filled" "worst_filled" (topS 38) f fd
  d_loss_with : ∃ f fd, PySem.W.nsIn K mainGlobals "loss_with" = some (some (.ref f)) ∧ Fun K "loss_with" "loss_with" (topS 39) f fd
  d_worst_of : ∃ f fd, PySem.W.nsIn K mainGlobals "worst_of" = some (some (.ref f)) ∧ Fun K "worst_of" "worst_of" (topS 40) f fd
  d_worst : ∃ f fd, PySem.W.nsIn K mainGlobals "worst" = some (some (.ref f)) ∧ Fun K "worst" "worst" (topS 41) f fd
  d_loss : ∃ f fd, PySem.W.nsIn K mainGlobals "loss" = some (some (.ref f)) ∧ Fun K "loss" "loss" (topS 30) f fd
  d__law_joined_right : ∃ f fd, PySem.W.nsIn K mainGlobals "_law_joined_right" = some (some (.ref f)) ∧ Fun K "_law_joined_right" "_law_joined_right" (topS 56) f fd
  d_check_money : ∃ f fd, PySem.W.nsIn K mainGlobals "check_money" = some (some (.ref f)) ∧ Fun K "check_money" "check_money" (topS 42) f fd
  d_covered : ∃ f fd, PySem.W.nsIn K mainGlobals "covered" = some (some (.ref f)) ∧ Fun K "covered" "covered" (topS 43) f fd
  d__law_more_right : ∃ f fd, PySem.W.nsIn K mainGlobals "_law_more_right" = some (some (.ref f)) ∧ Fun K "_law_more_right" "_law_more_right" (topS 57) f fd
  d__law_led : ∃ f fd, PySem.W.nsIn K mainGlobals "_law_led" = some (some (.ref f)) ∧ Fun K "_law_led" "_law_led" (topS 55) f fd
  d_room : ∃ f fd, PySem.W.nsIn K mainGlobals "room" = some (some (.ref f)) ∧ Fun K "room" "room" (topS 44) f fd
  d__law_names_right : ∃ f fd, PySem.W.nsIn K mainGlobals "_law_names_right" = some (some (.ref f)) ∧ Fun K "_law_names_right" "_law_names_right" (topS 58) f fd
  d__law_parts_right : ∃ f fd, PySem.W.nsIn K mainGlobals "_law_parts_right" = some (some (.ref f)) ∧ Fun K "_law_parts_right" "_law_parts_right" (topS 59) f fd
  d_law : ∃ f fd, PySem.W.nsIn K mainGlobals "law" = some (some (.ref f)) ∧ Fun K "law" "law" (topS 60) f fd
  b_all : PySem.W.nsIn K mainGlobals "all" = some none
  b_bool : PySem.W.nsIn K mainGlobals "bool" = some none
  b_dict : PySem.W.nsIn K mainGlobals "dict" = some none
  b_int : PySem.W.nsIn K mainGlobals "int" = some none
  b_isinstance : PySem.W.nsIn K mainGlobals "isinstance" = some none
  b_len : PySem.W.nsIn K mainGlobals "len" = some none
  b_list : PySem.W.nsIn K mainGlobals "list" = some none
  b_max : PySem.W.nsIn K mainGlobals "max" = some none
  b_min : PySem.W.nsIn K mainGlobals "min" = some none
  b_range : PySem.W.nsIn K mainGlobals "range" = some none
  b_set : PySem.W.nsIn K mainGlobals "set" = some none
  b_sorted : PySem.W.nsIn K mainGlobals "sorted" = some none
  b_str : PySem.W.nsIn K mainGlobals "str" = some none
  b_sum : PySem.W.nsIn K mainGlobals "sum" = some none
  b_tuple : PySem.W.nsIn K mainGlobals "tuple" = some none
  b_zip : PySem.W.nsIn K mainGlobals "zip" = some none
  b_abs : PySem.W.nsIn K mainGlobals "abs" = some none
  c_LONGEST : (He.Fa.int "LONGEST" 8).ok K = true
  c_MOST_PRICE : (He.Fa.int "MOST_PRICE" 99).ok K = true
  c_MOST_MOVES : (He.Fa.int "MOST_MOVES" 8).ok K = true
  c_MOST_AMOUNT : (He.Fa.int "MOST_AMOUNT" 12).ok K = true
  c_LETTERS : (He.Fa.str "LETTERS" letters).ok K = true
  c_RESERVED : (He.Fa.glo "RESERVED").ok K = true
  t_RESERVED : He.tupB K "RESERVED" [.str "house", .str "outside", .str "money"] = true
theorem fn_at {K : Frag} {x : Str} {st : Stmt} {f : Addr} {oc : Value} {od an : Option Addr} {osl : Array (Option Value)} {kV doc pm cdv ct : Value} (a : PySem.W.nsIn K mainGlobals x = some (some (.ref f)))
    (l : K.lookup f = some ⟨oc, od, .func (PySem.W.fnOf x x (defArgs st) (defBody st) (defScope st) .none kV doc pm an cdv ct), osl⟩) (c : PySem.W.codeIn K cdv x = true) (k : PySem.W.keepIn K (.ref f) = true) : ∃ f fd, PySem.W.nsIn K mainGlobals x = some (some (.ref f)) ∧ Fun K x x st f fd :=
  ⟨_, _, a, fun_mk l c k⟩
theorem fnD_at {K : Frag} {x : Str} {st : Stmt} {f T : Addr} {oc : Value} {od an : Option Addr} {osl : Array (Option Value)} {kV doc pm cdv ct : Value} {ob : Obj} {n : Nat} (a : PySem.W.nsIn K mainGlobals x = some (some (.ref f)))
    (l : K.lookup f = some ⟨oc, od, .func (PySem.W.fnOf x x (defArgs st) (defBody st) (defScope st) (.ref T) kV doc pm an cdv ct), osl⟩) (c : PySem.W.codeIn K cdv x = true) (k : PySem.W.keepIn K (.ref f) = true) (t : K.lookup T = some ob) (d : ob.data = .seq #[.none] n) :
    ∃ f fd, PySem.W.nsIn K mainGlobals x = some (some (.ref f)) ∧ FunD K x x (defArgs st) (defBody st) (defScope st) [.non] [] f fd :=
  ⟨f, _, a, ⟨oc, od, .ref T, kV, doc, pm, an, cdv, ct, osl, rfl, l, c, .inr ⟨by simp, T, ob, [.none], n, rfl, t, d, .cons rfl .nil⟩, .inl rfl⟩, k⟩
theorem tx_of {K : Frag} {h : Heap} {mg : Str → Option Value} (X : K.In h) (G : h.Ns mainGlobals mg) (A : AllF K) : Tx K mg where
  b_all := PySem.W.mg_none_of X G A.b_all
  b_bool := PySem.W.mg_none_of X G A.b_bool
  b_dict := PySem.W.mg_none_of X G A.b_dict
  b_int := PySem.W.mg_none_of X G A.b_int
  b_isinstance := PySem.W.mg_none_of X G A.b_isinstance
  b_len := PySem.W.mg_none_of X G A.b_len
  b_list := PySem.W.mg_none_of X G A.b_list
  b_max := PySem.W.mg_none_of X G A.b_max
  b_min := PySem.W.mg_none_of X G A.b_min
  b_range := PySem.W.mg_none_of X G A.b_range
  b_set := PySem.W.mg_none_of X G A.b_set
  b_sorted := PySem.W.mg_none_of X G A.b_sorted
  b_str := PySem.W.mg_none_of X G A.b_str
  b_sum := PySem.W.mg_none_of X G A.b_sum
  b_tuple := PySem.W.mg_none_of X G A.b_tuple
  b_zip := PySem.W.mg_none_of X G A.b_zip
  b_abs := PySem.W.mg_none_of X G A.b_abs
  c_LONGEST := He.int_ok X G A.c_LONGEST
  c_MOST_PRICE := He.int_ok X G A.c_MOST_PRICE
  c_MOST_MOVES := He.int_ok X G A.c_MOST_MOVES
  c_MOST_AMOUNT := He.int_ok X G A.c_MOST_AMOUNT
  c_LETTERS := He.str_ok X G A.c_LETTERS
  c_RESERVED := ⟨He.ga K "RESERVED", He.glo_ok X G A.c_RESERVED, fun S => ⟨_, _, rfl, He.tupB_ok A.t_RESERVED S, (reps_flat (xs := reserved.l))⟩⟩

theorem law_binds {K : Frag} {f : Addr} {fd : FuncData} (F : Fun K "law" "law" (topS 60) f fd) (s : Shared) (v : Value) : BindsTo s fd ⟨[v], []⟩ [("script", v)] := by
  obtain ⟨oc, od, kV, doc, pm, an, cdv, ct, osl, e, lk, hcd⟩ := F.ex
  subst e
  exact .of_eq rfl
theorem all_of {l : PySem.W.OpenLaw} {w : World} {K : Frag} {h : Heap} {mg : Str → Option Value} {fa : Addr} (X0 : K.In h) (G : h.Ns mainGlobals mg) (hfa : mg "law" = some (.ref fa)) (A : AllF K) :
    ∃ fd : FuncData, (∀ (s : Shared) (v : Value), BindsTo s fd ⟨[v], []⟩ [("script", v)]) ∧ ∀ base : Heap, K.In base → base.Ns mainGlobals mg → FnOk l.prog w K mg base CX0 8 fa fd ["script"] (spLaw K) := by
  have X := tx_of X0 G A
  obtain ⟨f__law_start, fd__law_start, a__law_start, F__law_start⟩ := A.d__law_start
  obtain ⟨f__law_take, fd__law_take, a__law_take, F__law_take⟩ := A.d__law_take
  obtain ⟨f__law_units, fd__law_units, a__law_units, F__law_units⟩ := A.d__law_units
  obtain ⟨f__law_mixed, fd__law_mixed, a__law_mixed, F__law_mixed⟩ := A.d__law_mixed
  obtain ⟨f__law_moves, fd__law_moves, a__law_moves, F__law_moves⟩ := A.d__law_moves
  obtain ⟨f__law_prices, fd__law_prices, a__law_prices, F__law_prices⟩ := A.d__law_prices
  obtain ⟨f__law_number, fd__law_number, a__law_number, F__law_number⟩ := A.d__law_number
  obtain ⟨f__law_position, fd__law_position, a__law_position, F__law_position⟩ := A.d__law_position
  obtain ⟨f__law_orders, fd__law_orders, a__law_orders, F__law_orders⟩ := A.d__law_orders
  obtain ⟨f_is_name, fd_is_name, a_is_name, F_is_name⟩ := A.d_is_name
  obtain ⟨f_is_member, fd_is_member, a_is_member, F_is_member⟩ := A.d_is_member
  obtain ⟨f_is_integer, fd_is_integer, a_is_integer, F_is_integer⟩ := A.d_is_integer
  obtain ⟨f_is_position, fd_is_position, a_is_position, F_is_position⟩ := A.d_is_position
  obtain ⟨f_check_position, fd_check_position, a_check_position, F_check_position⟩ := A.d_check_position
  obtain ⟨f_summed, fd_summed, a_summed, F_summed⟩ := A.d_summed
  obtain ⟨f_joined, fd_joined, a_joined, F_joined⟩ := A.d_joined
  obtain ⟨f_is_move, fd_is_move, a_is_move, F_is_move⟩ := A.d_is_move
  obtain ⟨f_check_moves, fd_check_moves, a_check_moves, F_check_moves⟩ := A.d_check_moves
  obtain ⟨f_loss_by, fd_loss_by, a_loss_by, F_loss_by⟩ := A.d_loss_by
  obtain ⟨f_need_of, fd_need_of, a_need_of, F_need_of⟩ := A.d_need_of
  obtain ⟨f_need, fd_need, a_need, F_need⟩ := A.d_need
  obtain ⟨f_is_price, fd_is_price, a_is_price, F_is_price⟩ := A.d_is_price
  obtain ⟨f_is_standing, fd_is_standing, a_is_standing, F_is_standing⟩ := A.d_is_standing
  obtain ⟨f_check_orders, fd_check_orders, a_check_orders, F_check_orders⟩ := A.d_check_orders
  obtain ⟨f_check_prices, fd_check_prices, a_check_prices, F_check_prices⟩ := A.d_check_prices
  obtain ⟨f_check_question, fd_check_question, a_check_question, F_check_question⟩ := A.d_check_question
  obtain ⟨f_check_priced, fd_check_priced, a_check_priced, F_check_priced⟩ := A.d_check_priced
  obtain ⟨f_unit_loss, fd_unit_loss, a_unit_loss, F_unit_loss⟩ := A.d_unit_loss
  obtain ⟨f_worst_filled, fd_worst_filled, a_worst_filled, F_worst_filled⟩ := A.d_worst_filled
  obtain ⟨f_loss_with, fd_loss_with, a_loss_with, F_loss_with⟩ := A.d_loss_with
  obtain ⟨f_worst_of, fd_worst_of, a_worst_of, F_worst_of⟩ := A.d_worst_of
  obtain ⟨f_worst, fd_worst, a_worst, F_worst⟩ := A.d_worst
  obtain ⟨f_loss, fd_loss, a_loss, F_loss⟩ := A.d_loss
  obtain ⟨f__law_joined_right, fd__law_joined_right, a__law_joined_right, F__law_joined_right⟩ := A.d__law_joined_right
  obtain ⟨f_check_money, fd_check_money, a_check_money, F_check_money⟩ := A.d_check_money
  obtain ⟨f_covered, fd_covered, a_covered, F_covered⟩ := A.d_covered
  obtain ⟨f__law_more_right, fd__law_more_right, a__law_more_right, F__law_more_right⟩ := A.d__law_more_right
  obtain ⟨f__law_led, fd__law_led, a__law_led, F__law_led⟩ := A.d__law_led
  obtain ⟨f_room, fd_room, a_room, F_room⟩ := A.d_room
  obtain ⟨f__law_names_right, fd__law_names_right, a__law_names_right, F__law_names_right⟩ := A.d__law_names_right
  obtain ⟨f__law_parts_right, fd__law_parts_right, a__law_parts_right, F__law_parts_right⟩ := A.d__law_parts_right
  obtain ⟨f_law, fd_law, a_law, F_law⟩ := A.d_law
  have e := hfa.symm.trans (PySem.W.mg_of X0 G a_law)
  cases e
  have b__law_start := F__law_start.binds (ps := ["script"]) fun _ _ _ _ _ _ us hl => match us, hl with | [_], _ => rfl
  have b__law_take := F__law_take.binds (ps := ["state", "size"]) fun _ _ _ _ _ _ us hl => match us, hl with | [_, _], _ => rfl
  have b__law_units := F__law_units.binds (ps := ["state"]) fun _ _ _ _ _ _ us hl => match us, hl with | [_], _ => rfl
  have b__law_mixed := F__law_mixed.binds (ps := ["state", "items"]) fun _ _ _ _ _ _ us hl => match us, hl with | [_, _], _ => rfl
  have b__law_moves := F__law_moves.binds (ps := ["state", "units", "most"]) fun _ _ _ _ _ _ us hl => match us, hl with | [_, _, _], _ => rfl
  have b__law_prices := F__law_prices.binds (ps := ["state", "units"]) fun _ _ _ _ _ _ us hl => match us, hl with | [_, _], _ => rfl
  have b__law_number := F__law_number.binds (ps := ["state"]) fun _ _ _ _ _ _ us hl => match us, hl with | [_], _ => rfl
  have b__law_position := F__law_position.binds (ps := ["state", "units"]) fun _ _ _ _ _ _ us hl => match us, hl with | [_, _], _ => rfl
  have b__law_orders := F__law_orders.binds (ps := ["state", "units", "most"]) fun _ _ _ _ _ _ us hl => match us, hl with | [_, _, _], _ => rfl
  have b_is_name := F_is_name.binds (ps := ["value"]) fun _ _ _ _ _ _ us hl => match us, hl with | [_], _ => rfl
  have b_is_member := F_is_member.binds (ps := ["value"]) fun _ _ _ _ _ _ us hl => match us, hl with | [_], _ => rfl
  have b_is_integer : ∃ ds, Vals [] ds ∧ Binds K fd_is_integer ["value", "least"] ds := FunD.binds1 F_is_integer 2 1 (by simp) rfl fun _ _ _ _ _ _ _ us its h1 h2 => match us, its, h1, h2 with | [_, _], [_], _, _ => ⟨_, rfl, rfl⟩
  have b_is_integer_d : ∃ ds, Vals [.non] ds ∧ Binds K fd_is_integer ["value", "least"] ds := FunD.binds1 F_is_integer 1 0 (by simp) rfl fun _ _ _ _ _ _ _ us its h1 h2 => match us, its, h1, h2 with | [_], [_], _, _ => ⟨_, rfl, rfl⟩
  have b_is_position := F_is_position.binds (ps := ["value"]) fun _ _ _ _ _ _ us hl => match us, hl with | [_], _ => rfl
  have b_check_position := F_check_position.binds (ps := ["value"]) fun _ _ _ _ _ _ us hl => match us, hl with | [_], _ => rfl
  have b_summed := F_summed.binds (ps := ["one", "other"]) fun _ _ _ _ _ _ us hl => match us, hl with | [_, _], _ => rfl
  have b_joined := F_joined.binds (ps := ["one", "other"]) fun _ _ _ _ _ _ us hl => match us, hl with | [_, _], _ => rfl
  have b_is_move := F_is_move.binds (ps := ["value"]) fun _ _ _ _ _ _ us hl => match us, hl with | [_], _ => rfl
  have b_check_moves := F_check_moves.binds (ps := ["moves"]) fun _ _ _ _ _ _ us hl => match us, hl with | [_], _ => rfl
  have b_loss_by := F_loss_by.binds (ps := ["position", "move"]) fun _ _ _ _ _ _ us hl => match us, hl with | [_, _], _ => rfl
  have b_need_of := F_need_of.binds (ps := ["position", "moves"]) fun _ _ _ _ _ _ us hl => match us, hl with | [_, _], _ => rfl
  have b_need := F_need.binds (ps := ["position", "moves"]) fun _ _ _ _ _ _ us hl => match us, hl with | [_, _], _ => rfl
  have b_is_price := F_is_price.binds (ps := ["value"]) fun _ _ _ _ _ _ us hl => match us, hl with | [_], _ => rfl
  have b_is_standing := F_is_standing.binds (ps := ["value"]) fun _ _ _ _ _ _ us hl => match us, hl with | [_], _ => rfl
  have b_check_orders := F_check_orders.binds (ps := ["orders"]) fun _ _ _ _ _ _ us hl => match us, hl with | [_], _ => rfl
  have b_check_prices := F_check_prices.binds (ps := ["value"]) fun _ _ _ _ _ _ us hl => match us, hl with | [_], _ => rfl
  have b_check_question := F_check_question.binds (ps := ["position", "orders", "moves", "prices"]) fun _ _ _ _ _ _ us hl => match us, hl with | [_, _, _, _], _ => rfl
  have b_check_priced := F_check_priced.binds (ps := ["orders", "prices"]) fun _ _ _ _ _ _ us hl => match us, hl with | [_, _], _ => rfl
  have b_unit_loss := F_unit_loss.binds (ps := ["order", "move", "prices"]) fun _ _ _ _ _ _ us hl => match us, hl with | [_, _, _], _ => rfl
  have b_worst_filled := F_worst_filled.binds (ps := ["orders", "move", "prices"]) fun _ _ _ _ _ _ us hl => match us, hl with | [_, _, _], _ => rfl
  have b_loss_with := F_loss_with.binds (ps := ["position", "orders", "move", "prices", "filled"]) fun _ _ _ _ _ _ us hl => match us, hl with | [_, _, _, _, _], _ => rfl
  have b_worst_of := F_worst_of.binds (ps := ["position", "orders", "moves", "prices"]) fun _ _ _ _ _ _ us hl => match us, hl with | [_, _, _, _], _ => rfl
  have b_worst := F_worst.binds (ps := ["position", "orders", "moves", "prices"]) fun _ _ _ _ _ _ us hl => match us, hl with | [_, _, _, _], _ => rfl
  have b_loss := F_loss.binds (ps := ["position", "move"]) fun _ _ _ _ _ _ us hl => match us, hl with | [_, _], _ => rfl
  have b__law_joined_right := F__law_joined_right.binds (ps := ["state", "units", "shifts", "fees"]) fun _ _ _ _ _ _ us hl => match us, hl with | [_, _, _, _], _ => rfl
  have b_check_money := F_check_money.binds (ps := ["money"]) fun _ _ _ _ _ _ us hl => match us, hl with | [_], _ => rfl
  have b_covered := F_covered.binds (ps := ["position", "orders", "moves", "prices", "money"]) fun _ _ _ _ _ _ us hl => match us, hl with | [_, _, _, _, _], _ => rfl
  have b__law_more_right := F__law_more_right.binds (ps := ["state", "units", "shifts", "fees"]) fun _ _ _ _ _ _ us hl => match us, hl with | [_, _, _, _], _ => rfl
  have b__law_led := F__law_led.binds (ps := ["names", "row"]) fun _ _ _ _ _ _ us hl => match us, hl with | [_, _], _ => rfl
  have b_room := F_room.binds (ps := ["position", "orders", "moves", "prices", "money", "side", "contract", "price"]) fun _ _ _ _ _ _ us hl => match us, hl with | [_, _, _, _, _, _, _, _], _ => rfl
  have b__law_names_right := F__law_names_right.binds (ps := ["state", "units", "shifts", "fees"]) fun _ _ _ _ _ _ us hl => match us, hl with | [_, _, _, _], _ => rfl
  have b__law_parts_right := F__law_parts_right.binds (ps := ["state", "units", "shifts", "fees"]) fun _ _ _ _ _ _ us hl => match us, hl with | [_, _, _, _], _ => rfl
  have b_law := F_law.binds (ps := ["script"]) fun _ _ _ _ _ _ us hl => match us, hl with | [_], _ => rfl
  refine ⟨fd_law, fun s v => law_binds F_law s v, fun base _ _ => ?_⟩
  have C__law_start := walk__law_start (P := l.prog) (w := w) (base := base) X  F__law_start (PySem.W.mg_of X0 G a__law_start) b__law_start
  have C__law_take := walk__law_take (P := l.prog) (w := w) (base := base) X  F__law_take (PySem.W.mg_of X0 G a__law_take) b__law_take
  have C__law_units := walk__law_units (P := l.prog) (w := w) (base := base) X C__law_take F__law_units (PySem.W.mg_of X0 G a__law_units) b__law_units
  have C__law_mixed_S := walk__law_mixed (P := l.prog) (w := w) (base := base) (α := Str) X C__law_take F__law_mixed (PySem.W.mg_of X0 G a__law_mixed) b__law_mixed
  have C__law_mixed_M := walk__law_mixed (P := l.prog) (w := w) (base := base) (α := (Dc Str Int)) X C__law_take F__law_mixed (PySem.W.mg_of X0 G a__law_mixed) b__law_mixed
  have C__law_mixed_O := walk__law_mixed (P := l.prog) (w := w) (base := base) (α := (T4 Str Str Int Int)) X C__law_take F__law_mixed (PySem.W.mg_of X0 G a__law_mixed) b__law_mixed
  have C__law_moves := walk__law_moves (P := l.prog) (w := w) (base := base) X C__law_take C__law_mixed_S F__law_moves (PySem.W.mg_of X0 G a__law_moves) b__law_moves
  have C__law_prices := walk__law_prices (P := l.prog) (w := w) (base := base) X C__law_mixed_S C__law_take F__law_prices (PySem.W.mg_of X0 G a__law_prices) b__law_prices
  have C__law_number := walk__law_number (P := l.prog) (w := w) (base := base) X C__law_take F__law_number (PySem.W.mg_of X0 G a__law_number) b__law_number
  have C__law_position := walk__law_position (P := l.prog) (w := w) (base := base) X C__law_mixed_S C__law_number F__law_position (PySem.W.mg_of X0 G a__law_position) b__law_position
  have C__law_orders := walk__law_orders (P := l.prog) (w := w) (base := base) X C__law_take F__law_orders (PySem.W.mg_of X0 G a__law_orders) b__law_orders
  have C_is_name := walk_is_name (P := l.prog) (w := w) (base := base) X  F_is_name (PySem.W.mg_of X0 G a_is_name) b_is_name
  have C_is_member := walk_is_member (P := l.prog) (w := w) (base := base) X C_is_name F_is_member (PySem.W.mg_of X0 G a_is_member) b_is_member
  have C_is_integer := walk_is_integer (P := l.prog) (w := w) (base := base) (dvs := []) X  F_is_integer (PySem.W.mg_of X0 G a_is_integer) b_is_integer
  have C_is_integer_d := walk_is_integer (P := l.prog) (w := w) (base := base) (dvs := [.non]) X  F_is_integer (PySem.W.mg_of X0 G a_is_integer) b_is_integer_d
  have C_is_position := walk_is_position (P := l.prog) (w := w) (base := base) X C_is_member C_is_integer_d F_is_position (PySem.W.mg_of X0 G a_is_position) b_is_position
  have C_check_position := walk_check_position (P := l.prog) (w := w) (base := base) X C_is_position F_check_position (PySem.W.mg_of X0 G a_check_position) b_check_position
  have C_summed := walk_summed (P := l.prog) (w := w) (base := base) X  F_summed (PySem.W.mg_of X0 G a_summed) b_summed
  have C_joined := walk_joined (P := l.prog) (w := w) (base := base) X C_check_position C_summed F_joined (PySem.W.mg_of X0 G a_joined) b_joined
  have C_is_move := walk_is_move (P := l.prog) (w := w) (base := base) X C_is_member C_is_integer_d F_is_move (PySem.W.mg_of X0 G a_is_move) b_is_move
  have C_check_moves := walk_check_moves (P := l.prog) (w := w) (base := base) X C_is_move F_check_moves (PySem.W.mg_of X0 G a_check_moves) b_check_moves
  have C_loss_by := walk_loss_by (P := l.prog) (w := w) (base := base) X  F_loss_by (PySem.W.mg_of X0 G a_loss_by) b_loss_by
  have C_need_of := walk_need_of (P := l.prog) (w := w) (base := base) X C_loss_by F_need_of (PySem.W.mg_of X0 G a_need_of) b_need_of
  have C_need := walk_need (P := l.prog) (w := w) (base := base) X C_check_position C_check_moves C_need_of F_need (PySem.W.mg_of X0 G a_need) b_need
  have C_is_price := walk_is_price (P := l.prog) (w := w) (base := base) X C_is_integer F_is_price (PySem.W.mg_of X0 G a_is_price) b_is_price
  have C_is_standing := walk_is_standing (P := l.prog) (w := w) (base := base) X C_is_member C_is_price C_is_integer F_is_standing (PySem.W.mg_of X0 G a_is_standing) b_is_standing
  have C_check_orders := walk_check_orders (P := l.prog) (w := w) (base := base) X C_is_standing F_check_orders (PySem.W.mg_of X0 G a_check_orders) b_check_orders
  have C_check_prices := walk_check_prices (P := l.prog) (w := w) (base := base) X C_is_member C_is_price F_check_prices (PySem.W.mg_of X0 G a_check_prices) b_check_prices
  have C_check_question := walk_check_question (P := l.prog) (w := w) (base := base) X C_check_position C_check_orders C_check_moves C_check_prices F_check_question (PySem.W.mg_of X0 G a_check_question) b_check_question
  have C_check_priced := walk_check_priced (P := l.prog) (w := w) (base := base) X  F_check_priced (PySem.W.mg_of X0 G a_check_priced) b_check_priced
  have C_unit_loss := walk_unit_loss (P := l.prog) (w := w) (base := base) X  F_unit_loss (PySem.W.mg_of X0 G a_unit_loss) b_unit_loss
  have C_worst_filled := walk_worst_filled (P := l.prog) (w := w) (base := base) X C_unit_loss F_worst_filled (PySem.W.mg_of X0 G a_worst_filled) b_worst_filled
  have C_loss_with := walk_loss_with (P := l.prog) (w := w) (base := base) X C_unit_loss C_loss_by F_loss_with (PySem.W.mg_of X0 G a_loss_with) b_loss_with
  have C_worst_of := walk_worst_of (P := l.prog) (w := w) (base := base) X C_worst_filled C_loss_with F_worst_of (PySem.W.mg_of X0 G a_worst_of) b_worst_of
  have C_worst := walk_worst (P := l.prog) (w := w) (base := base) X C_check_question C_check_priced C_worst_of F_worst (PySem.W.mg_of X0 G a_worst) b_worst
  have C_loss := walk_loss (P := l.prog) (w := w) (base := base) X C_check_position C_is_move C_loss_by F_loss (PySem.W.mg_of X0 G a_loss) b_loss
  have C__law_joined_right := walk__law_joined_right (P := l.prog) (w := w) (base := base) X C__law_position C__law_orders C_joined C_need C_worst C_loss C__law_take F__law_joined_right (PySem.W.mg_of X0 G a__law_joined_right) b__law_joined_right
  have C_check_money := walk_check_money (P := l.prog) (w := w) (base := base) X C_is_integer_d F_check_money (PySem.W.mg_of X0 G a_check_money) b_check_money
  have C_covered := walk_covered (P := l.prog) (w := w) (base := base) X C_check_question C_check_money C_check_priced C_worst_of F_covered (PySem.W.mg_of X0 G a_covered) b_covered
  have C__law_more_right := walk__law_more_right (P := l.prog) (w := w) (base := base) X C__law_position C__law_orders C_worst C__law_take C_need C_covered C__law_mixed_O C__law_mixed_M F__law_more_right (PySem.W.mg_of X0 G a__law_more_right) b__law_more_right
  have C__law_led := walk__law_led (P := l.prog) (w := w) (base := base) X  F__law_led (PySem.W.mg_of X0 G a__law_led) b__law_led
  have C_room := walk_room (P := l.prog) (w := w) (base := base) X C_check_question C_check_money C_check_orders C_check_priced C_worst_of F_room (PySem.W.mg_of X0 G a_room) b_room
  have C__law_names_right := walk__law_names_right (P := l.prog) (w := w) (base := base) X C__law_position C__law_orders C__law_mixed_S C__law_led C_worst C_need C__law_mixed_M C__law_take C_room F__law_names_right (PySem.W.mg_of X0 G a__law_names_right) b__law_names_right
  have C__law_parts_right := walk__law_parts_right (P := l.prog) (w := w) (base := base) X C__law_position C__law_orders C_worst C__law_take F__law_parts_right (PySem.W.mg_of X0 G a__law_parts_right) b__law_parts_right
  exact ok_law X C__law_start C__law_units C__law_moves C__law_prices C__law_joined_right C__law_more_right C__law_names_right C__law_parts_right F_law law_right
end K21
open PySem PySem.W PyProof.Rows
set_option maxHeartbeats 0 in
theorem PySem.Challenge.cw_beforeclose_k21_whole_joined_never_more_holds : PySem.Challenge.rw_beforeclose_k21_whole_joined_never_more.Holds := by
  w_on; o_law; k_head; (case hw => w_witness2)
  k_fill
  refine L2.walk_of (l := PySem.Challenge.rw_beforeclose_k21_whole_joined_never_more) (n := 63) (k := 8) (x := "script") (CX := fun _ => L2.CX0) (sp := fun w => DW.spLaw _) rfl (by decide) rfl ⟨rfl, by decide, by decide⟩ (fun w h Y => PySem.W.kIn_of Y) ?F (fun _ _ a ns hl _ hS => ⟨a, ns, rfl, hS, hl, fun _ => rfl⟩) (fun _ _ _ _ _ h => h)
  case F =>
    intro w mg fa h KX G hmg
    refine K21.all_of KX G hmg ⟨?d__law_start, ?d__law_take, ?d__law_units, ?d__law_mixed, ?d__law_moves, ?d__law_prices, ?d__law_number, ?d__law_position, ?d__law_orders, ?d_is_name, ?d_is_member, ?d_is_integer, ?d_is_position, ?d_check_position, ?d_summed, ?d_joined, ?d_is_move, ?d_check_moves, ?d_loss_by, ?d_need_of, ?d_need, ?d_is_price, ?d_is_standing, ?d_check_orders, ?d_check_prices, ?d_check_question, ?d_check_priced, ?d_unit_loss, ?d_worst_filled, ?d_loss_with, ?d_worst_of, ?d_worst, ?d_loss, ?d__law_joined_right, ?d_check_money, ?d_covered, ?d__law_more_right, ?d__law_led, ?d_room, ?d__law_names_right, ?d__law_parts_right, ?d_law, ?b_all, ?b_bool, ?b_dict, ?b_int, ?b_isinstance, ?b_len, ?b_list, ?b_max, ?b_min, ?b_range, ?b_set, ?b_sorted, ?b_str, ?b_sum, ?b_tuple, ?b_zip, ?b_abs, ?c_LONGEST, ?c_MOST_PRICE, ?c_MOST_MOVES, ?c_MOST_AMOUNT, ?c_LETTERS, ?c_RESERVED, ?t_RESERVED⟩
    case d__law_start =>
      refine' K21.fn_at ?a_d__law_start ?l_d__law_start ?c_d__law_start ?k_d__law_start
      (case a_d__law_start => k_is); (case l_d__law_start => k_is); (case c_d__law_start => k_is); (case k_d__law_start => k_is)
    case d__law_take =>
      refine' K21.fn_at ?a_d__law_take ?l_d__law_take ?c_d__law_take ?k_d__law_take
      (case a_d__law_take => k_is); (case l_d__law_take => k_is); (case c_d__law_take => k_is); (case k_d__law_take => k_is)
    case d__law_units =>
      refine' K21.fn_at ?a_d__law_units ?l_d__law_units ?c_d__law_units ?k_d__law_units
      (case a_d__law_units => k_is); (case l_d__law_units => k_is); (case c_d__law_units => k_is); (case k_d__law_units => k_is)
    case d__law_mixed =>
      refine' K21.fn_at ?a_d__law_mixed ?l_d__law_mixed ?c_d__law_mixed ?k_d__law_mixed
      (case a_d__law_mixed => k_is); (case l_d__law_mixed => k_is); (case c_d__law_mixed => k_is); (case k_d__law_mixed => k_is)
    case d__law_moves =>
      refine' K21.fn_at ?a_d__law_moves ?l_d__law_moves ?c_d__law_moves ?k_d__law_moves
      (case a_d__law_moves => k_is); (case l_d__law_moves => k_is); (case c_d__law_moves => k_is); (case k_d__law_moves => k_is)
    case d__law_prices =>
      refine' K21.fn_at ?a_d__law_prices ?l_d__law_prices ?c_d__law_prices ?k_d__law_prices
      (case a_d__law_prices => k_is); (case l_d__law_prices => k_is); (case c_d__law_prices => k_is); (case k_d__law_prices => k_is)
    case d__law_number =>
      refine' K21.fn_at ?a_d__law_number ?l_d__law_number ?c_d__law_number ?k_d__law_number
      (case a_d__law_number => k_is); (case l_d__law_number => k_is); (case c_d__law_number => k_is); (case k_d__law_number => k_is)
    case d__law_position =>
      refine' K21.fn_at ?a_d__law_position ?l_d__law_position ?c_d__law_position ?k_d__law_position
      (case a_d__law_position => k_is); (case l_d__law_position => k_is); (case c_d__law_position => k_is); (case k_d__law_position => k_is)
    case d__law_orders =>
      refine' K21.fn_at ?a_d__law_orders ?l_d__law_orders ?c_d__law_orders ?k_d__law_orders
      (case a_d__law_orders => k_is); (case l_d__law_orders => k_is); (case c_d__law_orders => k_is); (case k_d__law_orders => k_is)
    case d_is_name =>
      refine' K21.fn_at ?a_d_is_name ?l_d_is_name ?c_d_is_name ?k_d_is_name
      (case a_d_is_name => k_is); (case l_d_is_name => k_is); (case c_d_is_name => k_is); (case k_d_is_name => k_is)
    case d_is_member =>
      refine' K21.fn_at ?a_d_is_member ?l_d_is_member ?c_d_is_member ?k_d_is_member
      (case a_d_is_member => k_is); (case l_d_is_member => k_is); (case c_d_is_member => k_is); (case k_d_is_member => k_is)
    case d_is_integer =>
      refine' K21.fnD_at ?a_d_is_integer ?l_d_is_integer ?c_d_is_integer ?k_d_is_integer ?t_d_is_integer ?d_d_is_integer
      (case a_d_is_integer => k_is); (case l_d_is_integer => k_is); (case c_d_is_integer => k_is); (case k_d_is_integer => k_is); (case t_d_is_integer => k_is); (case d_d_is_integer => rfl)
    case d_is_position =>
      refine' K21.fn_at ?a_d_is_position ?l_d_is_position ?c_d_is_position ?k_d_is_position
      (case a_d_is_position => k_is); (case l_d_is_position => k_is); (case c_d_is_position => k_is); (case k_d_is_position => k_is)
    case d_check_position =>
      refine' K21.fn_at ?a_d_check_position ?l_d_check_position ?c_d_check_position ?k_d_check_position
      (case a_d_check_position => k_is); (case l_d_check_position => k_is); (case c_d_check_position => k_is); (case k_d_check_position => k_is)
    case d_summed =>
      refine' K21.fn_at ?a_d_summed ?l_d_summed ?c_d_summed ?k_d_summed
      (case a_d_summed => k_is); (case l_d_summed => k_is); (case c_d_summed => k_is); (case k_d_summed => k_is)
    case d_joined =>
      refine' K21.fn_at ?a_d_joined ?l_d_joined ?c_d_joined ?k_d_joined
      (case a_d_joined => k_is); (case l_d_joined => k_is); (case c_d_joined => k_is); (case k_d_joined => k_is)
    case d_is_move =>
      refine' K21.fn_at ?a_d_is_move ?l_d_is_move ?c_d_is_move ?k_d_is_move
      (case a_d_is_move => k_is); (case l_d_is_move => k_is); (case c_d_is_move => k_is); (case k_d_is_move => k_is)
    case d_check_moves =>
      refine' K21.fn_at ?a_d_check_moves ?l_d_check_moves ?c_d_check_moves ?k_d_check_moves
      (case a_d_check_moves => k_is); (case l_d_check_moves => k_is); (case c_d_check_moves => k_is); (case k_d_check_moves => k_is)
    case d_loss_by =>
      refine' K21.fn_at ?a_d_loss_by ?l_d_loss_by ?c_d_loss_by ?k_d_loss_by
      (case a_d_loss_by => k_is); (case l_d_loss_by => k_is); (case c_d_loss_by => k_is); (case k_d_loss_by => k_is)
    case d_need_of =>
      refine' K21.fn_at ?a_d_need_of ?l_d_need_of ?c_d_need_of ?k_d_need_of
      (case a_d_need_of => k_is); (case l_d_need_of => k_is); (case c_d_need_of => k_is); (case k_d_need_of => k_is)
    case d_need =>
      refine' K21.fn_at ?a_d_need ?l_d_need ?c_d_need ?k_d_need
      (case a_d_need => k_is); (case l_d_need => k_is); (case c_d_need => k_is); (case k_d_need => k_is)
    case d_is_price =>
      refine' K21.fn_at ?a_d_is_price ?l_d_is_price ?c_d_is_price ?k_d_is_price
      (case a_d_is_price => k_is); (case l_d_is_price => k_is); (case c_d_is_price => k_is); (case k_d_is_price => k_is)
    case d_is_standing =>
      refine' K21.fn_at ?a_d_is_standing ?l_d_is_standing ?c_d_is_standing ?k_d_is_standing
      (case a_d_is_standing => k_is); (case l_d_is_standing => k_is); (case c_d_is_standing => k_is); (case k_d_is_standing => k_is)
    case d_check_orders =>
      refine' K21.fn_at ?a_d_check_orders ?l_d_check_orders ?c_d_check_orders ?k_d_check_orders
      (case a_d_check_orders => k_is); (case l_d_check_orders => k_is); (case c_d_check_orders => k_is); (case k_d_check_orders => k_is)
    case d_check_prices =>
      refine' K21.fn_at ?a_d_check_prices ?l_d_check_prices ?c_d_check_prices ?k_d_check_prices
      (case a_d_check_prices => k_is); (case l_d_check_prices => k_is); (case c_d_check_prices => k_is); (case k_d_check_prices => k_is)
    case d_check_question =>
      refine' K21.fn_at ?a_d_check_question ?l_d_check_question ?c_d_check_question ?k_d_check_question
      (case a_d_check_question => k_is); (case l_d_check_question => k_is); (case c_d_check_question => k_is); (case k_d_check_question => k_is)
    case d_check_priced =>
      refine' K21.fn_at ?a_d_check_priced ?l_d_check_priced ?c_d_check_priced ?k_d_check_priced
      (case a_d_check_priced => k_is); (case l_d_check_priced => k_is); (case c_d_check_priced => k_is); (case k_d_check_priced => k_is)
    case d_unit_loss =>
      refine' K21.fn_at ?a_d_unit_loss ?l_d_unit_loss ?c_d_unit_loss ?k_d_unit_loss
      (case a_d_unit_loss => k_is); (case l_d_unit_loss => k_is); (case c_d_unit_loss => k_is); (case k_d_unit_loss => k_is)
    case d_worst_filled =>
      refine' K21.fn_at ?a_d_worst_filled ?l_d_worst_filled ?c_d_worst_filled ?k_d_worst_filled
      (case a_d_worst_filled => k_is); (case l_d_worst_filled => k_is); (case c_d_worst_filled => k_is); (case k_d_worst_filled => k_is)
    case d_loss_with =>
      refine' K21.fn_at ?a_d_loss_with ?l_d_loss_with ?c_d_loss_with ?k_d_loss_with
      (case a_d_loss_with => k_is); (case l_d_loss_with => k_is); (case c_d_loss_with => k_is); (case k_d_loss_with => k_is)
    case d_worst_of =>
      refine' K21.fn_at ?a_d_worst_of ?l_d_worst_of ?c_d_worst_of ?k_d_worst_of
      (case a_d_worst_of => k_is); (case l_d_worst_of => k_is); (case c_d_worst_of => k_is); (case k_d_worst_of => k_is)
    case d_worst =>
      refine' K21.fn_at ?a_d_worst ?l_d_worst ?c_d_worst ?k_d_worst
      (case a_d_worst => k_is); (case l_d_worst => k_is); (case c_d_worst => k_is); (case k_d_worst => k_is)
    case d_loss =>
      refine' K21.fn_at ?a_d_loss ?l_d_loss ?c_d_loss ?k_d_loss
      (case a_d_loss => k_is); (case l_d_loss => k_is); (case c_d_loss => k_is); (case k_d_loss => k_is)
    case d__law_joined_right =>
      refine' K21.fn_at ?a_d__law_joined_right ?l_d__law_joined_right ?c_d__law_joined_right ?k_d__law_joined_right
      (case a_d__law_joined_right => k_is); (case l_d__law_joined_right => k_is); (case c_d__law_joined_right => k_is); (case k_d__law_joined_right => k_is)
    case d_check_money =>
      refine' K21.fn_at ?a_d_check_money ?l_d_check_money ?c_d_check_money ?k_d_check_money
      (case a_d_check_money => k_is); (case l_d_check_money => k_is); (case c_d_check_money => k_is); (case k_d_check_money => k_is)
    case d_covered =>
      refine' K21.fn_at ?a_d_covered ?l_d_covered ?c_d_covered ?k_d_covered
      (case a_d_covered => k_is); (case l_d_covered => k_is); (case c_d_covered => k_is); (case k_d_covered => k_is)
    case d__law_more_right =>
      refine' K21.fn_at ?a_d__law_more_right ?l_d__law_more_right ?c_d__law_more_right ?k_d__law_more_right
      (case a_d__law_more_right => k_is); (case l_d__law_more_right => k_is); (case c_d__law_more_right => k_is); (case k_d__law_more_right => k_is)
    case d__law_led =>
      refine' K21.fn_at ?a_d__law_led ?l_d__law_led ?c_d__law_led ?k_d__law_led
      (case a_d__law_led => k_is); (case l_d__law_led => k_is); (case c_d__law_led => k_is); (case k_d__law_led => k_is)
    case d_room =>
      refine' K21.fn_at ?a_d_room ?l_d_room ?c_d_room ?k_d_room
      (case a_d_room => k_is); (case l_d_room => k_is); (case c_d_room => k_is); (case k_d_room => k_is)
    case d__law_names_right =>
      refine' K21.fn_at ?a_d__law_names_right ?l_d__law_names_right ?c_d__law_names_right ?k_d__law_names_right
      (case a_d__law_names_right => k_is); (case l_d__law_names_right => k_is); (case c_d__law_names_right => k_is); (case k_d__law_names_right => k_is)
    case d__law_parts_right =>
      refine' K21.fn_at ?a_d__law_parts_right ?l_d__law_parts_right ?c_d__law_parts_right ?k_d__law_parts_right
      (case a_d__law_parts_right => k_is); (case l_d__law_parts_right => k_is); (case c_d__law_parts_right => k_is); (case k_d__law_parts_right => k_is)
    case d_law =>
      refine' K21.fn_at ?a_d_law ?l_d_law ?c_d_law ?k_d_law
      (case a_d_law => k_is); (case l_d_law => k_is); (case c_d_law => k_is); (case k_d_law => k_is)
    (case b_all => k_is)
    (case b_bool => k_is)
    (case b_dict => k_is)
    (case b_int => k_is)
    (case b_isinstance => k_is)
    (case b_len => k_is)
    (case b_list => k_is)
    (case b_max => k_is)
    (case b_min => k_is)
    (case b_range => k_is)
    (case b_set => k_is)
    (case b_sorted => k_is)
    (case b_str => k_is)
    (case b_sum => k_is)
    (case b_tuple => k_is)
    (case b_zip => k_is)
    (case b_abs => k_is)
    (case c_LONGEST => kernel_rfl)
    (case c_MOST_PRICE => kernel_rfl)
    (case c_MOST_MOVES => kernel_rfl)
    (case c_MOST_AMOUNT => kernel_rfl)
    (case c_LETTERS => kernel_rfl)
    (case c_RESERVED => kernel_rfl)
    (case t_RESERVED => kernel_rfl)
