import PyProof.Rows.All
import Wide.All
import OpenK.AllK
import Wide.FinOn
import HandS.ForMost
import HandS.DictComp
import HandS.IsInst
import HandS.TupAny
import HandS.Style
import HandS.Star
import HandS.Defaults
import HandS.Zip
import KE.KDictSum
import HandS.Strs
import HandS.ListItems
import KE.KDictList
import HandS.MakeKwOnly
import KE.GoesMore
import KE.GoesZip
import KE.GoesEnum
import HandS.SortOrd
import KE.KSortTup
import PyProof.ReprRoads
import HandS.TupLe
import HandS.SortRule
import HandS.Ends
import PyProof.ReprLen
import HandS.HeadHook1
import HandS.HeadHook2
import PySem.Challenge.RW_beforeclose_k89_whole_shares_nobody_obje
set_option Elab.async false
set_option linter.all false
set_option maxRecDepth 100000
set_option maxHeartbeats 4000000
/-! DW: readings over plain data. An expression's reading (HandS) is told by the plain data that it gives; own lists and dicts are carried as plain data in the slots. -/
namespace DW
open PySem PySem.Spec PyProof.Rows L2
abbrev Frag := PySem.W.Frag

/-! ### heaps: S is the part that never changes, H the whole -/
def Ex (S S' : Hp) : Prop := ∀ a o, S a = some o → S' a = some o
theorem Ex.refl (S : Hp) : Ex S S := fun _ _ h => h
theorem Ex.trans {S S1 S2 : Hp} (a : Ex S S1) (b : Ex S1 S2) : Ex S S2 := fun c o h => b c o (a c o h)
theorem Ex.upd {S : Hp} {p : Addr} {o : HO} (h : S p = none) : Ex S (upd S p o) := fun a u e => by
  rw [upd_ne (ne_of_none e h)]
  exact e
def isDic : HO → Prop
  | .dK _ => True
  | .dT _ => True
  | _ => False
def Sub (S H : Hp) : Prop := ∀ a o, S a = some o → H a = some o ∨ (isDic o ∧ ∃ ob, H a = some (.frz ob o))
theorem Sub.nn {S H : Hp} (h : Sub S H) {a : Addr} (e : H a = none) : S a = none := by
  cases q : S a with
  | none => rfl
  | some o =>
    rcases h a o q with z | ⟨_, ob, z⟩
    · rw [e] at z
      cases z
    · rw [e] at z
      cases z
theorem Sub.rd {S H : Hp} (h : Sub S H) {a : Addr} {o : HO} (e : S a = some o) : Rd H a o := by
  rcases h a o e with z | ⟨_, ob, z⟩
  · exact .inl z
  · exact .inr ⟨ob, z⟩
theorem Sub.lst {S H : Hp} (h : Sub S H) {a : Addr} {xs : List V} (e : S a = some (.lst xs)) : H a = some (.lst xs) := by
  rcases h a _ e with z | ⟨z, _⟩
  · exact z
  · exact z.elim
theorem Sub.tup {S H : Hp} (h : Sub S H) {a : Addr} {xs : List V} (e : S a = some (.tup xs)) : H a = some (.tup xs) := by
  rcases h a _ e with z | ⟨z, _⟩
  · exact z
  · exact z.elim
theorem Sub.rdrd {S H : Hp} (h : Sub S H) {a : Addr} {xs : List V} (e : Rd S a (.tup xs)) : Rd H a (.tup xs) := by
  rcases e with e | ⟨ob, e⟩
  · exact .inl (h.tup e)
  · rcases h a _ e with z | ⟨z, _⟩
    · exact .inr ⟨ob, z⟩
    · exact z.elim
theorem Sub.sqT {S H : Hp} (h : Sub S H) {K : Frag} {a : Addr} {xs : List V} (e : SqT K S a xs) : SqT K H a xs := by
  rcases e with e | e
  · exact .inl (h.rdrd e)
  · exact .inr e
theorem Ex.sqT {S S' : Hp} (h : Ex S S') {K : Frag} {a : Addr} {xs : List V} (e : SqT K S a xs) : SqT K S' a xs := by
  rcases e with (e | ⟨ob, e⟩) | e
  · exact .inl (.inl (h a _ e))
  · exact .inl (.inr ⟨ob, h a _ e⟩)
  · exact .inr e

/-! ### plain data -/
class Rep (α : Type) where
  rep : Frag → Hp → V → α → Prop
  mono : ∀ {K : Frag} {S S' : Hp} {v : V} {x : α}, Ex S S' → rep K S v x → rep K S' v x
abbrev rep {α : Type} [i : Rep α] (K : Frag) (S : Hp) (v : V) (x : α) : Prop := i.rep K S v x
/-- values told without the heap -/
class Flat (α : Type) extends Rep α where
  val : α → V
  flat : ∀ {K : Frag} {S : Hp} {v : V} {x : α}, rep K S v x ↔ v = val x
instance : Flat Int where
  rep _ _ v x := v = .int x
  mono _ h := h
  val := V.int
  flat := Iff.rfl
instance : Flat Bool where
  rep _ _ v x := v = .bl x
  mono _ h := h
  val := V.bl
  flat := Iff.rfl
instance : Flat Str where
  rep _ _ v x := v = .str x
  mono _ h := h
  val := V.str
  flat := Iff.rfl
instance : Flat Unit where
  rep _ _ v _ := v = .non
  mono _ h := h
  val := fun _ => V.non
  flat := Iff.rfl
instance {α : Type} [Rep α] : Rep (Option α) where
  rep K S v x := match x with
    | none => v = .non
    | some y => v ≠ .non ∧ rep K S v y
  mono := fun {K S S' v x} e h => by
    cases x with
    | none => exact h
    | some y => exact ⟨h.1, Rep.mono e h.2⟩
abbrev Reps {α : Type} [Rep α] (K : Frag) (S : Hp) : List V → List α → Prop := Paired (rep K S)
theorem Paired.mapR {α β : Type} {F G : α → β → Prop} (f : ∀ a b, F a b → G a b) : ∀ {l₁ : List α} {l₂ : List β}, Paired F l₁ l₂ → Paired G l₁ l₂
  | _, _, .nil => .nil
  | _, _, .cons r t => .cons (f _ _ r) (Paired.mapR f t)
theorem Reps.mono {α : Type} [Rep α] {K : Frag} {S S' : Hp} {vs : List V} {xs : List α} (e : Ex S S') (h : Reps K S vs xs) : Reps K S' vs xs := Paired.mapR (fun _ _ z => Rep.mono e z) h
instance {α : Type} [Rep α] : Rep (List α) where
  rep K S v xs := ∃ a vs, v = .ref a ∧ S a = some (.lst vs) ∧ Reps K S vs xs
  mono := fun e ⟨a, vs, h1, h2, h3⟩ => ⟨a, vs, h1, e _ _ h2, h3.mono e⟩
/-- a tuple of many alike -/
structure Tp (α : Type) where
  l : List α
instance {α : Type} [Rep α] : Rep (Tp α) where
  rep K S v xs := ∃ a vs, v = .ref a ∧ SqT K S a vs ∧ Reps K S vs xs.l
  mono := fun e ⟨a, vs, h1, h2, h3⟩ => ⟨a, vs, h1, e.sqT h2, h3.mono e⟩
instance {α β : Type} [Rep α] [Rep β] : Rep (α × β) where
  rep K S v x := ∃ a v1 v2, v = .ref a ∧ SqT K S a [v1, v2] ∧ rep K S v1 x.1 ∧ rep K S v2 x.2
  mono := fun e ⟨a, v1, v2, h1, h2, h3, h4⟩ => ⟨a, v1, v2, h1, e.sqT h2, Rep.mono e h3, Rep.mono e h4⟩
structure T3 (α β γ : Type) where
  a : α
  b : β
  c : γ
instance {α β γ : Type} [Rep α] [Rep β] [Rep γ] : Rep (T3 α β γ) where
  rep K S v x := ∃ a v1 v2 v3, v = .ref a ∧ SqT K S a [v1, v2, v3] ∧ rep K S v1 x.a ∧ rep K S v2 x.b ∧ rep K S v3 x.c
  mono := fun e ⟨a, v1, v2, v3, h1, h2, h3, h4, h5⟩ => ⟨a, v1, v2, v3, h1, e.sqT h2, Rep.mono e h3, Rep.mono e h4, Rep.mono e h5⟩
structure T4 (α β γ δ : Type) where
  a : α
  b : β
  c : γ
  d : δ
instance {α β γ δ : Type} [Rep α] [Rep β] [Rep γ] [Rep δ] : Rep (T4 α β γ δ) where
  rep K S v x := ∃ a v1 v2 v3 v4, v = .ref a ∧ SqT K S a [v1, v2, v3, v4] ∧ rep K S v1 x.a ∧ rep K S v2 x.b ∧ rep K S v3 x.c ∧ rep K S v4 x.d
  mono := fun e ⟨a, v1, v2, v3, v4, h1, h2, h3, h4, h5, h6⟩ => ⟨a, v1, v2, v3, v4, h1, e.sqT h2, Rep.mono e h3, Rep.mono e h4, Rep.mono e h5, Rep.mono e h6⟩
/-- keys -/
class DKey (κ : Type) extends Flat κ where
  key : κ → Key
  inj : ∀ {x y}, key x = key y → x = y
  kv : ∀ x, kV (key x) = val x
instance : DKey Int where
  key := Sum.inl
  inj := fun h => Sum.inl.inj h
  kv _ := rfl
instance : DKey Str where
  key := Sum.inr
  inj := fun h => Sum.inr.inj h
  kv _ := rfl
/-- a dict with int or text keys -/
structure Dc (κ α : Type) where
  l : List (κ × α)
abbrev RepKV {κ α : Type} [DKey κ] [Rep α] (K : Frag) (S : Hp) : List (Key × V) → List (κ × α) → Prop := Paired fun p q => p.1 = DKey.key q.1 ∧ rep K S p.2 q.2
theorem RepKV.mono {κ α : Type} [DKey κ] [Rep α] {K : Frag} {S S' : Hp} {vs : List (Key × V)} {xs : List (κ × α)} (e : Ex S S') (h : RepKV K S vs xs) : RepKV K S' vs xs := Paired.mapR (fun _ _ z => ⟨z.1, Rep.mono e z.2⟩) h
instance {κ α : Type} [DKey κ] [Rep α] : Rep (Dc κ α) where
  rep K S v x := ∃ a kvs, v = .ref a ∧ S a = some (.dK kvs) ∧ RepKV K S kvs x.l ∧ (x.l.map Prod.fst).Nodup
  mono := fun {K S S' v x} e h => by
    obtain ⟨a, vs, h1, h2, h3, h4⟩ := h
    exact ⟨a, vs, h1, e _ _ h2, RepKV.mono e h3, h4⟩

/-! ### a world: an own thing of the caller's that calls may change (the state that draws) -/
structure Wd where
  root : V
  ok : Hp → Prop
  fp : Hp → Addr → Prop
  nn : ∀ {H a}, ok H → fp H a → H a ≠ none
  loc : ∀ {H H'}, ok H → (∀ a, fp H a → H' a = H a) → ok H' ∧ ∀ a, (fp H' a ↔ fp H a)
def W0 : Wd := ⟨.non, fun _ => True, fun _ _ => False, fun _ h => h.elim, fun _ _ => ⟨trivial, fun _ => Iff.rfl⟩⟩
/-- O: what must not be touched -/
structure Good (W : Wd) (O : Addr → Prop) (S H : Hp) : Prop where
  sub : Sub S H
  ok : W.ok H
  fpS : ∀ a, W.fp H a → S a = none
  fpO : ∀ a, W.fp H a → ¬ O a
  oS : ∀ a, O a → S a = none
  oH : ∀ a, O a → H a ≠ none
theorem Good.less {W : Wd} {O O' : Addr → Prop} {S H : Hp} (g : Good W O S H) (h : ∀ a, O' a → O a) : Good W O' S H :=
  ⟨g.sub, g.ok, g.fpS, fun a z q => g.fpO a z (h a q), fun a z => g.oS a (h a z), fun a z => g.oH a (h a z)⟩
structure Mv (W : Wd) (O : Addr → Prop) (S H S' H' : Hp) : Prop where
  ex : Ex S S'
  keep : ∀ a, O a → H' a = H a
  stay : ∀ a, S a ≠ none → H' a = H a
  good : Good W O S' H'
section
variable {W : Wd} {O : Addr → Prop} {S H S1 H1 S2 H2 : Hp}
theorem Mv.refl (g : Good W O S H) : Mv W O S H S H := ⟨Ex.refl S, fun _ _ => rfl, fun _ _ => rfl, g⟩
theorem Ex.nn (e : Ex S S1) {a : Addr} (h : S a ≠ none) : S1 a ≠ none := by
  cases q : S a with
  | none => exact absurd q h
  | some o =>
    rw [e a o q]
    intro z
    cases z
theorem Mv.trans {W0 : Wd} (a : Mv W0 O S H S1 H1) (b : Mv W O S1 H1 S2 H2) : Mv W O S H S2 H2 :=
  ⟨a.ex.trans b.ex, fun c h => (b.keep c h).trans (a.keep c h), fun c h => (b.stay c (a.ex.nn h)).trans (a.stay c h), b.good⟩
theorem Mv.less {O' : Addr → Prop} (m : Mv W O S H S1 H1) (h : ∀ a, O' a → O a) : Mv W O' S H S1 H1 := ⟨m.ex, fun a z => m.keep a (h a z), m.stay, m.good.less h⟩
/-- an object of nobody's is new: kept as such -/
theorem Good.temp (g : Good W O S H) {p : Addr} {o : HO} (hp : H p = none) : Good W O S (upd H p o) := by
  have l := W.loc g.ok (H' := upd H p o) fun a h => upd_ne fun e => W.nn g.ok h (by rw [e]; exact hp)
  refine ⟨fun a u e => ?_, l.1, fun a h => g.fpS a ((l.2 a).mp h), fun a h => g.fpO a ((l.2 a).mp h), g.oS, fun a h => ?_⟩
  · have ne : a ≠ p := fun z => by
      rw [z, g.sub.nn hp] at e
      cases e
    rw [upd_ne ne]
    exact g.sub a u e
  · by_cases z : a = p
    · rw [z, upd_same]
      intro q
      cases q
    · rw [upd_ne z]
      exact g.oH a h
theorem Mv.temp (g : Good W O S H) {p : Addr} {o : HO} (hp : H p = none) : Mv W O S H S (upd H p o) :=
  ⟨Ex.refl S, fun a h => upd_ne fun z => g.oH a h (by rw [z]; exact hp), fun a h => upd_ne fun z => h (by rw [z]; exact g.sub.nn hp), g.temp hp⟩
/-- what stands at p and is nobody's is from now on fixed -/
theorem Good.fix (g : Good W O S H) {p : Addr} {o : HO} (hp : H p = some o) (hs : S p = none) (hf : ¬ W.fp H p) (ho : ¬ O p) : Good W O (upd S p o) H := by
  refine ⟨fun a u e => ?_, g.ok, fun a h => ?_, g.fpO, fun a h => ?_, g.oH⟩
  · by_cases z : a = p
    · rw [z, upd_same] at e
      cases e
      rw [z]
      exact .inl hp
    · rw [upd_ne z] at e
      exact g.sub a u e
  · rw [upd_ne fun z => hf (by rw [← z]; exact h)]
    exact g.fpS a h
  · rw [upd_ne fun z => ho (by rw [← z]; exact h)]
    exact g.oS a h
theorem Mv.fix (m : Mv W O S H S1 H1) {p : Addr} {o : HO} (hp : H1 p = some o) (hs : S1 p = none) (hf : ¬ W.fp H1 p) (ho : ¬ O p) : Mv W O S H (upd S1 p o) H1 :=
  ⟨m.ex.trans (Ex.upd hs), m.keep, m.stay, m.good.fix hp hs hf ho⟩
theorem Good.nfp (g : Good W O S H) {p : Addr} (hp : H p = none) : ¬ W.fp H p := fun h => W.nn g.ok h hp
/-- a new fixed object -/
theorem Mv.new (g : Good W O S H) {p : Addr} {o : HO} (hp : H p = none) : Mv W O S H (upd S p o) (upd H p o) := by
  have l := W.loc g.ok (H' := upd H p o) fun a h => upd_ne fun e => W.nn g.ok h (by rw [e]; exact hp)
  exact (Mv.temp g hp).fix upd_same (g.sub.nn hp) (fun h => g.nfp hp ((l.2 p).mp h)) fun z => g.oH p z hp
/-- a new object of one's own: p is told -/
structure Fresh (W : Wd) (O : Addr → Prop) (S H : Hp) (p : Addr) (o : HO) : Prop where
  at_ : H p = some o
  s : S p = none
  f : ¬ W.fp H p
  o : ¬ O p
theorem Fresh.new (g : Good W O S H) {p : Addr} {o : HO} (hp : H p = none) : Fresh W O S (upd H p o) p o := by
  have l := W.loc g.ok (H' := upd H p o) fun a h => upd_ne fun e => W.nn g.ok h (by rw [e]; exact hp)
  exact ⟨upd_same, g.sub.nn hp, fun h => g.nfp hp ((l.2 p).mp h), fun z => g.oH p z hp⟩
theorem Mv.fixF (m : Mv W O S H S1 H1) {p : Addr} {o : HO} (f : Fresh W O S1 H1 p o) : Mv W O S H (upd S1 p o) H1 := m.fix f.at_ f.s f.f f.o
/-- a world that allows more -/
structure Wle (W W' : Wd) : Prop where
  ok : ∀ H, W.ok H → W'.ok H
  fp : ∀ H a, W'.fp H a → W.fp H a
theorem Wle.refl (W : Wd) : Wle W W := ⟨fun _ h => h, fun _ _ h => h⟩
theorem Wle.trans {W W' W'' : Wd} (a : Wle W W') (b : Wle W' W'') : Wle W W'' := ⟨fun H h => b.ok H (a.ok H h), fun H x h => a.fp H x (b.fp H x h)⟩
theorem Good.wle {W' : Wd} (g : Good W O S H) (l : Wle W W') : Good W' O S H := ⟨g.sub, l.ok H g.ok, fun a h => g.fpS a (l.fp H a h), fun a h => g.fpO a (l.fp H a h), g.oS, g.oH⟩
theorem Mv.wle {W' : Wd} (m : Mv W O S H S1 H1) (l : Wle W W') : Mv W' O S H S1 H1 := ⟨m.ex, m.keep, m.stay, m.good.wle l⟩
theorem Fresh.wle {W' : Wd} {p : Addr} {o : HO} (f : Fresh W O S H p o) (l : Wle W W') : Fresh W' O S H p o := ⟨f.at_, f.s, fun h => f.f (l.fp H p h), f.o⟩
end
end DW
set_option maxHeartbeats 4000000
namespace DW
open PySem PySem.Spec PyProof.Rows L2

/-! ### slots -/
inductive DSlot : Type 1 where
  | non
  | raw (v : V)
  | dat {α : Type} (i : Rep α) (x : α)
  | ol {α : Type} (i : Rep α) (xs : List α)
  | oo {α : Type} (i : Rep α) (xs : Option (List α))
  | od {κ α : Type} (ik : DKey κ) (i : Rep α) (xs : List (κ × α))
abbrev DEnv := List DSlot
abbrev sD {α : Type} [i : Rep α] (x : α) : DSlot := .dat i x
abbrev sL {α : Type} [i : Rep α] (xs : List α) : DSlot := .ol i xs
abbrev sO {α : Type} [i : Rep α] (xs : Option (List α)) : DSlot := .oo i xs
abbrev sM {κ α : Type} [ik : DKey κ] [i : Rep α] (xs : List (κ × α)) : DSlot := .od ik i xs
def DSlot.own : DSlot → Bool
  | .ol _ _ => true
  | .oo _ _ => true
  | .od _ _ _ => true
  | _ => false
def SlotOk (K : Frag) (S H : Hp) (ov : Option V) : DSlot → Prop
  | .non => True
  | .raw v => ov = some v
  | .dat i x => ∃ v, ov = some v ∧ i.rep K S v x
  | .ol i xs => ∃ q vs, ov = some (.ref q) ∧ H q = some (.lst vs) ∧ Paired (i.rep K S) vs xs
  | .oo i o => match o with
    | none => ov = some .non
    | some xs => ∃ q vs, ov = some (.ref q) ∧ H q = some (.lst vs) ∧ Paired (i.rep K S) vs xs
  | .od ik i xs => ∃ q kvs, ov = some (.ref q) ∧ H q = some (.dK kvs) ∧ @RepKV _ _ ik i K S kvs xs ∧ (xs.map Prod.fst).Nodup
def Sl (K : Frag) (S H : Hp) (σ : L2.St) (δ : DEnv) : Prop := σ.length = δ.length ∧ ∀ (i : Nat) (d : DSlot), δ[i]? = some d → ∃ ov, σ[i]? = some ov ∧ SlotOk K S H ov d
def OwnAt (σ : L2.St) (δ : DEnv) (a : Addr) : Prop := ∃ (i : Nat) (d : DSlot), δ[i]? = some d ∧ d.own = true ∧ σ[i]? = some (some (.ref a))
structure Stt (W : Wd) (K : Frag) (O : Addr → Prop) (S H : Hp) (σ : L2.St) (δ : DEnv) : Prop where
  g : Good W O S H
  sl : Sl K S H σ δ
  own : ∀ a, OwnAt σ δ a → O a
section
variable {W W1 W2 W3 W4 : Wd} {K : Frag} {O : Addr → Prop} {S H S1 H1 S2 H2 : Hp} {σ : L2.St} {δ : DEnv}
theorem SlotOk.mv {ov : Option V} {d : DSlot} (h : SlotOk K S H ov d) (ex : Ex S S1) (k : d.own = true → ∀ a, ov = some (.ref a) → H1 a = H a) : SlotOk K S1 H1 ov d := by
  cases d with
  | non => trivial
  | raw v => exact h
  | dat i x =>
    obtain ⟨v, e, r⟩ := h
    exact ⟨v, e, i.mono ex r⟩
  | ol i xs =>
    obtain ⟨q, vs, e, hq, r⟩ := h
    exact ⟨q, vs, e, (k rfl q e).trans hq, Paired.mapR (fun _ _ z => i.mono ex z) r⟩
  | oo i o =>
    cases o with
    | none => exact h
    | some xs =>
      obtain ⟨q, vs, e, hq, r⟩ := h
      exact ⟨q, vs, e, (k rfl q e).trans hq, Paired.mapR (fun _ _ z => i.mono ex z) r⟩
  | od ik i xs =>
    obtain ⟨q, kvs, e, hq, r, nd⟩ := h
    exact ⟨q, kvs, e, (k rfl q e).trans hq, Paired.mapR (fun _ _ z => ⟨z.1, i.mono ex z.2⟩) r, nd⟩
theorem Stt.mv (s : Stt W K O S H σ δ) (m : Mv W1 O S H S1 H1) : Stt W1 K O S1 H1 σ δ := by
  refine ⟨m.good, ⟨s.sl.1, fun i d hd => ?_⟩, s.own⟩
  obtain ⟨ov, e, ok⟩ := s.sl.2 i d hd
  exact ⟨ov, e, ok.mv m.ex fun ho a ea => m.keep a (s.own a ⟨i, d, hd, ho, by rw [e, ea]⟩)⟩
end

/-! ### what an expression gives -/
def Ev {α : Type} [Rep α] (W W' : Wd) (K : Frag) (te : TE) (δ : DEnv) (P : α → Prop) : Prop := ∀ O S H σ, Stt W K O S H σ δ → ∀ Q : VK,
  (∀ v S' H' x, Mv W' O S H S' H' → rep K S' v x → P x → Q v H') → te σ H Q
def EvT (W W' : Wd) (K : Frag) (tt : TT) (δ : DEnv) (P : Bool → Prop) : Prop := ∀ O S H σ, Stt W K O S H σ δ → ∀ Q : Bool → Hp → Prop,
  (∀ b S' H', Mv W' O S H S' H' → P b → Q b H') → tt σ H Q
/-- a new list of nobody's -/
def EvF {α : Type} [Rep α] (W W' : Wd) (K : Frag) (te : TE) (δ : DEnv) (P : List α → Prop) : Prop := ∀ O S H σ, Stt W K O S H σ δ → ∀ Q : VK,
  (∀ q vs S' H' xs, Mv W' O S H S' H' → Fresh W' O S' H' q (.lst vs) → Reps K S' vs xs → P xs → Q (.ref q) H') → te σ H Q
/-- a new dict of nobody's -/
def EvG {κ α : Type} [DKey κ] [Rep α] (W W' : Wd) (K : Frag) (te : TE) (δ : DEnv) (P : List (κ × α) → Prop) : Prop := ∀ O S H σ, Stt W K O S H σ δ → ∀ Q : VK,
  (∀ q kvs S' H' xs, Mv W' O S H S' H' → Fresh W' O S' H' q (.dK kvs) → RepKV K S' kvs xs → (xs.map Prod.fst).Nodup → P xs → Q (.ref q) H') → te σ H Q
/-- a list to be read: fixed, or one's own -/
def LAt (O : Addr → Prop) (S H : Hp) (q : Addr) (o : HO) : Prop := S q = some o ∨ (O q ∧ H q = some o)
def EvC {α : Type} [Rep α] (W W' : Wd) (K : Frag) (te : TE) (δ : DEnv) (P : List α → Prop) : Prop := ∀ O S H σ, Stt W K O S H σ δ → ∀ Q : VK,
  (∀ q vs S' H' xs, Mv W' O S H S' H' → LAt O S' H' q (.lst vs) → Reps K S' vs xs → P xs → Q (.ref q) H') → te σ H Q
def EvCD {κ α : Type} [DKey κ] [Rep α] (W W' : Wd) (K : Frag) (te : TE) (δ : DEnv) (P : List (κ × α) → Prop) : Prop := ∀ O S H σ, Stt W K O S H σ δ → ∀ Q : VK,
  (∀ q kvs S' H' xs, Mv W' O S H S' H' → LAt O S' H' q (.dK kvs) → RepKV K S' kvs xs → (xs.map Prod.fst).Nodup → P xs → Q (.ref q) H') → te σ H Q
section
variable {W W1 W2 W3 W4 : Wd} {K : Frag} {O : Addr → Prop} {S H S1 H1 S2 H2 : Hp} {σ : L2.St} {δ : DEnv} {α β κ : Type} [Rep α] [Rep β] [DKey κ] {te ta tb tc : TE} {tt tu : TT}
theorem LAt.mv {q : Addr} {o : HO} (h : LAt O S H q o) (m : Mv W O S H S1 H1) : LAt O S1 H1 q o := by
  rcases h with h | ⟨h1, h2⟩
  · exact .inl (m.ex _ _ h)
  · exact .inr ⟨h1, (m.keep q h1).trans h2⟩
theorem LAt.lst {q : Addr} {vs : List V} (h : LAt O S H q (.lst vs)) (g : Sub S H) : H q = some (.lst vs) := by
  rcases h with h | ⟨_, h⟩
  · exact g.lst h
  · exact h
theorem LAt.rd {q : Addr} {o : HO} (h : LAt O S H q o) (g : Sub S H) : Rd H q o := by
  rcases h with h | ⟨_, h⟩
  · exact g.rd h
  · exact .inl h
theorem LAt.sq {q : Addr} {vs : List V} (h : LAt O S H q (.lst vs)) (g : Sub S H) : SqL K H q vs := .inl (.inl (h.lst g))

theorem Ev.imp {P P' : α → Prop} (h : Ev W W1 K te δ P) (f : ∀ x, P x → P' x) : Ev W W1 K te δ P' := fun O S H σ s Q q => h O S H σ s Q fun v S' H' x m r p => q v S' H' x m r (f x p)
theorem EvT.imp {P P' : Bool → Prop} (h : EvT W W1 K tt δ P) (f : ∀ x, P x → P' x) : EvT W W1 K tt δ P' := fun O S H σ s Q q => h O S H σ s Q fun b S' H' m p => q b S' H' m (f b p)
theorem EvF.imp {P P' : List α → Prop} (h : EvF W W1 K te δ P) (f : ∀ x, P x → P' x) : EvF W W1 K te δ P' := fun O S H σ s Q q => h O S H σ s Q fun a vs S' H' x m r l p => q a vs S' H' x m r l (f x p)
theorem EvC.imp {P P' : List α → Prop} (h : EvC W W1 K te δ P) (f : ∀ x, P x → P' x) : EvC W W1 K te δ P' := fun O S H σ s Q q => h O S H σ s Q fun a vs S' H' x m r l p => q a vs S' H' x m r l (f x p)
theorem ev_fresh {P : List α → Prop} (h : EvF W W1 K te δ P) : Ev W W1 K te δ P := fun O S H σ s Q q => h O S H σ s Q fun a vs S' H' xs m f l p =>
  q _ _ _ xs (m.fixF f) ⟨a, vs, rfl, upd_same, l.mono (Ex.upd f.s)⟩ p
theorem ec_ev {P : List α → Prop} (h : Ev W W1 K te δ P) : EvC W W1 K te δ P := fun O S H σ s Q q => h O S H σ s Q fun v S' H' xs m ⟨a, vs, e, ha, r⟩ p => by
  subst e
  exact q a vs S' H' xs m (.inl ha) r p
theorem ec_own {α : Type} [ri : Rep α] {P : List α → Prop} {i : Nat} {xs : List α} (hi : δ[i]? = some (.ol ri xs)) (p : P xs) : EvC W W K (tVar i) δ P := fun O S H σ s Q q => by
  obtain ⟨ov, e, a, vs, ea, ha, r⟩ := s.sl.2 i _ hi
  subst ea
  exact ⟨_, e, q a vs S H xs (Mv.refl s.g) (.inr ⟨s.own a ⟨i, _, hi, rfl, e⟩, ha⟩) r p⟩
theorem evd_fresh {P : Dc κ α → Prop} (h : EvG W W1 K te δ fun xs => P ⟨xs⟩) : Ev W W1 K te δ P := fun O S H σ s Q q => h O S H σ s Q fun a vs S' H' xs m f l nd p =>
  q _ _ _ ⟨xs⟩ (m.fixF f) ⟨a, vs, rfl, upd_same, l.mono (Ex.upd f.s), nd⟩ p
theorem ecd_ev {P : List (κ × α) → Prop} (h : Ev W W1 K te δ fun d : Dc κ α => P d.l) : EvCD W W1 K te δ P := fun O S H σ s Q q => h O S H σ s Q fun v S' H' xs m hr p => by
  obtain ⟨a, vs, e, ha, r, nd⟩ := hr
  subst e
  exact q a vs S' H' xs.l m (.inl ha) r nd p
theorem ecd_own {α κ : Type} [rk : DKey κ] [ri : Rep α] {P : List (κ × α) → Prop} {i : Nat} {xs : List (κ × α)} (hi : δ[i]? = some (.od rk ri xs)) (p : P xs) : EvCD W W K (tVar i) δ P := fun O S H σ s Q q => by
  obtain ⟨ov, e, a, vs, ea, ha, r, nd⟩ := s.sl.2 i _ hi
  subst ea
  exact ⟨_, e, q a vs S H xs (Mv.refl s.g) (.inr ⟨s.own a ⟨i, _, hi, rfl, e⟩, ha⟩) r nd p⟩

/-! ### names, constants, operators -/
theorem ev_var {α : Type} [ri : Rep α] {P : α → Prop} {i : Nat} {x : α} (hi : δ[i]? = some (.dat ri x)) (p : P x) : Ev W W K (tVar i) δ P := fun O S H σ s Q q => by
  obtain ⟨ov, e, v, ev, r⟩ := s.sl.2 i _ hi
  subst ev
  exact ⟨v, e, q v S H x (Mv.refl s.g) r p⟩
theorem ev_c {P : α → Prop} {v : V} {x : α} (p : P x) (h : ∀ K S, rep K S v x := by intros; rfl) : Ev W W K (tC v) δ P := fun O S H σ s Q q => q v S H x (Mv.refl s.g) (h K S) p
theorem ev_int {P : Int → Prop} {i : Int} (p : P i) : Ev W W K (tC (.int i)) δ P := ev_c p
theorem ev_str {P : Str → Prop} {x : Str} (p : P x) : Ev W W K (tC (.str x)) δ P := ev_c p
theorem ev_bl {P : Bool → Prop} {b : Bool} (p : P b) : Ev W W K (tC (.bl b)) δ P := ev_c p
theorem ev_non {P : Unit → Prop} (p : P ()) : Ev W W K (tC .non) δ P := ev_c p
theorem ev_nonO {P : Option α → Prop} (p : P none) : Ev W W K (tC .non) δ P := ev_c p
theorem ev_someO {P : Option α → Prop} (h : Ev W W1 K te δ fun x : α => P (some x)) (nn : ∀ {K S v} {x : α}, rep K S v x → v ≠ .non) : Ev W W1 K te δ P := fun O S H σ s Q q => h O S H σ s Q fun v S' H' x m r p =>
  q v S' H' (some x) m ⟨nn r, r⟩ p
/-- two in a row -/
theorem ev_two {P : β → Prop} {γ : Type} [Rep γ] {r : R2} {P' : α → γ → Prop} (ha : Ev W W1 K ta δ fun x : α => Ev W1 W2 K tb δ fun y : γ => P' x y)
    (hr : ∀ O S H v u x y, Good W2 O S H → rep K S v x → rep K S u y → P' x y → ∀ Q : VK, (∀ v S' H' z, Mv W2 O S H S' H' → rep K S' v z → P z → Q v H') → r v u H Q) : Ev W W2 K (tOp r ta tb) δ P := fun O S H σ s Q q =>
  ha O S H σ s _ fun v S1 H1 x m1 r1 e1 => e1 O S1 H1 σ (s.mv m1) _ fun u S2 H2 y m2 r2 p => hr O S2 H2 v u x y m2.good (Rep.mono m2.ex r1) r2 p Q fun w S3 H3 z m3 r3 pz => q w S3 H3 z ((m1.trans m2).trans m3) r3 pz
theorem ev_un {P : β → Prop} {r : V → Hp → VK → Prop} {P' : α → Prop} (ha : Ev W W1 K ta δ P')
    (hr : ∀ O S H v x, Good W1 O S H → rep K S v x → P' x → ∀ Q : VK, (∀ v S' H' z, Mv W1 O S H S' H' → rep K S' v z → P z → Q v H') → r v H Q) : Ev W W1 K (tUn r ta) δ P := fun O S H σ s Q q =>
  ha O S H σ s _ fun v S1 H1 x m1 r1 p => hr O S1 H1 v x m1.good r1 p Q fun w S3 H3 z m3 r3 pz => q w S3 H3 z (m1.trans m3) r3 pz
theorem ev_I0 {β : Type} [Flat β] {P : β → Prop} {f : Int → Int → β} {g : Int → Int → V} {r0 : R2} (inc : ∀ {x y H Q}, rI0 g x y H Q → r0 x y H Q) (ha : Ev W W1 K ta δ fun i : Int => Ev W1 W2 K tb δ fun j : Int => P (f i j)) (hg : ∀ i j, g i j = Flat.val (f i j) := by intros; rfl) : Ev W W2 K (tOp r0 ta tb) δ P :=
  ev_two ha fun O S H v u x y gd r1 r2 p Q q => inc ⟨x, y, r1, r2, by rw [hg]; exact q _ S H _ (Mv.refl gd) (Flat.flat.mpr rfl) p⟩
theorem ev_I {β : Type} [Flat β] {P : β → Prop} {C : Int → Int → Prop} {f : Int → Int → β} {g : Int → Int → V} {r0 : R2} (inc : ∀ {x y H Q}, rI C g x y H Q → r0 x y H Q) (ha : Ev W W1 K ta δ fun i : Int => Ev W1 W2 K tb δ fun j : Int => C i j ∧ P (f i j)) (hg : ∀ i j, g i j = Flat.val (f i j) := by intros; rfl) : Ev W W2 K (tOp r0 ta tb) δ P :=
  ev_two ha fun O S H v u x y gd r1 r2 p Q q => inc ⟨x, y, r1, r2, p.1, by rw [hg]; exact q _ S H _ (Mv.refl gd) (Flat.flat.mpr rfl) p.2⟩
theorem ev_U {β : Type} [Flat β] {P : β → Prop} {f : Int → β} {g : Int → V} (ha : Ev W W1 K ta δ fun i : Int => P (f i)) (hg : ∀ i, g i = Flat.val (f i) := by intros; rfl) : Ev W W1 K (tUn (rU g) ta) δ P :=
  ev_un ha fun O S H v x gd r1 p Q q => ⟨x, r1, by rw [hg]; exact q _ S H _ (Mv.refl gd) (Flat.flat.mpr rfl) p⟩
theorem ev_eqI {P : Bool → Prop} {r0 : R2} (inc : ∀ {x y H Q}, rEq x y H Q → r0 x y H Q) (ha : Ev W W1 K ta δ fun i : Int => Ev W1 W2 K tb δ fun j : Int => P (decide (i = j))) : Ev W W2 K (tOp r0 ta tb) δ P :=
  ev_two ha fun O S H v u x y gd r1 r2 p Q q => by
    obtain rfl : v = .int x := r1
    obtain rfl : u = .int y := r2
    refine inc ⟨rfl, ?_⟩
    rw [show decide (V.int x = V.int y) = decide (x = y) by simp]
    exact q _ S H _ (Mv.refl gd) rfl p
theorem ev_neI {P : Bool → Prop} {r0 : R2} (inc : ∀ {x y H Q}, rNe x y H Q → r0 x y H Q) (ha : Ev W W1 K ta δ fun i : Int => Ev W1 W2 K tb δ fun j : Int => P (!decide (i = j))) : Ev W W2 K (tOp r0 ta tb) δ P :=
  ev_two ha fun O S H v u x y gd r1 r2 p Q q => by
    obtain rfl : v = .int x := r1
    obtain rfl : u = .int y := r2
    refine inc ⟨rfl, ?_⟩
    rw [show decide (V.int x = V.int y) = decide (x = y) by simp]
    exact q _ S H _ (Mv.refl gd) rfl p
theorem ev_eqS {P : Bool → Prop} {r0 : R2} (inc : ∀ {x y H Q}, rEq x y H Q → r0 x y H Q) (ha : Ev W W1 K ta δ fun i : Str => Ev W1 W2 K tb δ fun j : Str => P (decide (i = j))) : Ev W W2 K (tOp r0 ta tb) δ P :=
  ev_two ha fun O S H v u x y gd r1 r2 p Q q => by
    obtain rfl : v = .str x := r1
    obtain rfl : u = .str y := r2
    refine inc ⟨rfl, ?_⟩
    rw [show decide (V.str x = V.str y) = decide (x = y) by simp]
    exact q _ S H _ (Mv.refl gd) rfl p
theorem ev_neS {P : Bool → Prop} {r0 : R2} (inc : ∀ {x y H Q}, rNe x y H Q → r0 x y H Q) (ha : Ev W W1 K ta δ fun i : Str => Ev W1 W2 K tb δ fun j : Str => P (!decide (i = j))) : Ev W W2 K (tOp r0 ta tb) δ P :=
  ev_two ha fun O S H v u x y gd r1 r2 p Q q => by
    obtain rfl : v = .str x := r1
    obtain rfl : u = .str y := r2
    refine inc ⟨rfl, ?_⟩
    rw [show decide (V.str x = V.str y) = decide (x = y) by simp]
    exact q _ S H _ (Mv.refl gd) rfl p

/-! ### tests -/
theorem et_test {P : Bool → Prop} (h : Ev W W1 K te δ P) : EvT W W1 K (tTest te) δ P := fun O S H σ s Q q => h O S H σ s _ fun v S' H' x m r p => ⟨x, r, q x S' H' m p⟩
theorem et_B {P : Bool → Prop} (h : Ev W W1 K te δ P) : EvT W W1 K (tB te) δ P := fun O S H σ s Q q => h O S H σ s _ fun v S' H' x m r p => ⟨x, r, q x S' H' m p⟩
theorem et_and {P : Bool → Prop} (h : EvT W W1 K tt δ fun a => (a = true → EvT W1 W2 K tu δ P) ∧ (a = false → P false)) (le : Wle W1 W2 := by exact Wle.refl _) : EvT W W2 K (tAnd tt tu) δ P := fun O S H σ s Q q => h O S H σ s _ fun b S1 H1 m p => by
  cases b with
  | true =>
    show tu σ H1 Q
    exact p.1 rfl O S1 H1 σ (s.mv m) Q fun b2 S2 H2 m2 p2 => q b2 S2 H2 (m.trans m2) p2
  | false =>
    show Q false H1
    exact q false S1 H1 (m.wle le) (p.2 rfl)
theorem et_or {P : Bool → Prop} (h : EvT W W1 K tt δ fun a => (a = false → EvT W1 W2 K tu δ P) ∧ (a = true → P true)) (le : Wle W1 W2 := by exact Wle.refl _) : EvT W W2 K (tOr tt tu) δ P := fun O S H σ s Q q => h O S H σ s _ fun b S1 H1 m p => by
  cases b with
  | false =>
    show tu σ H1 Q
    exact p.1 rfl O S1 H1 σ (s.mv m) Q fun b2 S2 H2 m2 p2 => q b2 S2 H2 (m.trans m2) p2
  | true =>
    show Q true H1
    exact q true S1 H1 (m.wle le) (p.2 rfl)
theorem et_not {P : Bool → Prop} (h : EvT W W1 K tt δ fun a => P (!a)) : EvT W W1 K (tNot tt) δ P := fun O S H σ s Q q => h O S H σ s _ fun b S1 H1 m p => q _ S1 H1 m p
theorem ev_andV {P : Bool → Prop} (h : Ev W W1 K ta δ fun a : Bool => (a = true → Ev W1 W2 K tb δ P) ∧ (a = false → P false)) (le : Wle W1 W2 := by exact Wle.refl _) : Ev W W2 K (tAndV ta tb) δ P := fun O S H σ s Q q => h O S H σ s _ fun v S1 H1 b m r p => by
  obtain rfl : v = .bl b := r
  refine ⟨b, rfl, ?_⟩
  cases b with
  | true =>
    show tb σ H1 Q
    exact p.1 rfl O S1 H1 σ (s.mv m) Q fun b2 S2 H2 x m2 r2 p2 => q b2 S2 H2 x (m.trans m2) r2 p2
  | false =>
    show Q (.bl false) H1
    exact q _ S1 H1 false (m.wle le) rfl (p.2 rfl)
theorem ev_orV {P : Bool → Prop} (h : Ev W W1 K ta δ fun a : Bool => (a = false → Ev W1 W2 K tb δ P) ∧ (a = true → P true)) (le : Wle W1 W2 := by exact Wle.refl _) : Ev W W2 K (tOrV ta tb) δ P := fun O S H σ s Q q => h O S H σ s _ fun v S1 H1 b m r p => by
  obtain rfl : v = .bl b := r
  refine ⟨b, rfl, ?_⟩
  cases b with
  | false =>
    show tb σ H1 Q
    exact p.1 rfl O S1 H1 σ (s.mv m) Q fun b2 S2 H2 x m2 r2 p2 => q b2 S2 H2 x (m.trans m2) r2 p2
  | true =>
    show Q (.bl true) H1
    exact q _ S1 H1 true (m.wle le) rfl (p.2 rfl)
theorem ev_notV {P : Bool → Prop} (h : Ev W W1 K ta δ fun a : Bool => P (!a)) : Ev W W1 K (tNotV ta) δ P := fun O S H σ s Q q => h O S H σ s _ fun v S1 H1 b m r p => ⟨b, r, q _ S1 H1 _ m rfl p⟩
theorem ev_if {P : α → Prop} (h : EvT W W1 K tt δ fun b => (b = true → Ev W1 W2 K ta δ P) ∧ (b = false → Ev W1 W2 K tb δ P)) : Ev W W2 K (tIf tt ta tb) δ P := fun O S H σ s Q q => h O S H σ s _ fun b S1 H1 m p => by
  cases b with
  | true =>
    show ta σ H1 Q
    exact p.1 rfl O S1 H1 σ (s.mv m) Q fun b2 S2 H2 x m2 r2 p2 => q b2 S2 H2 x (m.trans m2) r2 p2
  | false =>
    show tb σ H1 Q
    exact p.2 rfl O S1 H1 σ (s.mv m) Q fun b2 S2 H2 x m2 r2 p2 => q b2 S2 H2 x (m.trans m2) r2 p2
theorem evc_if {P : List α → Prop} (h : EvT W W1 K tt δ fun b => (b = true → EvC W1 W2 K ta δ P) ∧ (b = false → EvC W1 W2 K tb δ P)) : EvC W W2 K (tIf tt ta tb) δ P := fun O S H σ s Q q => h O S H σ s _ fun b S1 H1 m p => by
  cases b with
  | true =>
    show ta σ H1 Q
    exact p.1 rfl O S1 H1 σ (s.mv m) Q fun a vs S2 H2 x m2 l2 r2 p2 => q a vs S2 H2 x (m.trans m2) l2 r2 p2
  | false =>
    show tb σ H1 Q
    exact p.2 rfl O S1 H1 σ (s.mv m) Q fun a vs S2 H2 x m2 l2 r2 p2 => q a vs S2 H2 x (m.trans m2) l2 r2 p2
/-- a world that allows more -/
theorem ev_wk {P : α → Prop} (le : Wle W1 W2) (h : Ev W W1 K te δ P) : Ev W W2 K te δ P := fun O S H σ s Q q => h O S H σ s Q fun v S' H' x m r p => q v S' H' x (m.wle le) r p
theorem et_wk {P : Bool → Prop} (le : Wle W1 W2) (h : EvT W W1 K tt δ P) : EvT W W2 K tt δ P := fun O S H σ s Q q => h O S H σ s Q fun b S' H' m p => q b S' H' (m.wle le) p
/-- a fact kept aside -/
theorem ev_have {P : α → Prop} {R : α → Prop} (h : Ev W W1 K te δ R) (f : ∀ x, R x → P x) : Ev W W1 K te δ P := h.imp f
end

/-! ### arguments, displays, calls -/
inductive Stk where
  | tok
class RepA (γ : Type) where
  repA : Wd → Frag → Hp → List V → γ → Prop
  mono : ∀ {W : Wd} {K : Frag} {S S' : Hp} {vs : List V} {g : γ}, Ex S S' → repA W K S vs g → repA W K S' vs g
  slots : Wd → γ → DEnv
  arity : Nat
  len : ∀ {W : Wd} {K : Frag} {S : Hp} {vs : List V} {g : γ}, repA W K S vs g → vs.length = arity
  slen : ∀ (W : Wd) (g : γ), (slots W g).length = arity
  ok : ∀ {W : Wd} {K : Frag} {S H : Hp} {vs : List V} {g : γ}, repA W K S vs g → ∀ (i : Nat) (d : DSlot), (slots W g)[i]? = some d → ∃ v, vs[i]? = some v ∧ SlotOk K S H (some v) d ∧ d.own = false
instance : RepA Unit where
  repA _ _ _ vs _ := vs = []
  mono _ h := h
  slots _ _ := []
  arity := 0
  len h := by rw [h]; rfl
  slen _ _ := rfl
  ok := fun _ i d hd => by simp at hd
instance {α γ : Type} [Rep α] [RepA γ] : RepA (α × γ) where
  repA W K S vs g := ∃ v r, vs = v :: r ∧ rep K S v g.1 ∧ RepA.repA W K S r g.2
  mono := fun e ⟨v, r, h1, h2, h3⟩ => ⟨v, r, h1, Rep.mono e h2, RepA.mono e h3⟩
  slots W g := sD g.1 :: RepA.slots W g.2
  arity := RepA.arity γ + 1
  len := fun ⟨v, r, h1, h2, h3⟩ => by rw [h1, List.length_cons, RepA.len h3]
  slen W g := by rw [List.length_cons, RepA.slen]
  ok := fun ⟨v, r, h1, h2, h3⟩ i d hd => by
    cases i with
    | zero =>
      have e := Option.some.inj hd
      subst e
      exact ⟨v, by rw [h1] <;> rfl, ⟨v, rfl, h2⟩, rfl⟩
    | succ i =>
      obtain ⟨u, e, k⟩ := RepA.ok h3 i d hd
      exact ⟨u, by rw [h1]; exact e, k⟩
instance {γ : Type} [RepA γ] : RepA (Stk × γ) where
  repA W K S vs g := ∃ r, vs = W.root :: r ∧ RepA.repA W K S r g.2
  mono := fun e ⟨r, h1, h3⟩ => ⟨r, h1, RepA.mono e h3⟩
  slots W g := .raw W.root :: RepA.slots W g.2
  arity := RepA.arity γ + 1
  len := fun ⟨r, h1, h3⟩ => by rw [h1, List.length_cons, RepA.len h3]
  slen W g := by rw [List.length_cons, RepA.slen]
  ok := fun {W} _ _ _ _ _ ⟨r, h1, h3⟩ i d hd => by
    cases i with
    | zero =>
      have e := Option.some.inj hd
      subst e
      exact ⟨W.root, by rw [h1] <;> rfl, rfl, rfl⟩
    | succ i =>
      obtain ⟨u, e, k⟩ := RepA.ok h3 i d hd
      exact ⟨u, by rw [h1]; exact e, k⟩
def EvA {γ : Type} [RepA γ] (W W' : Wd) (K : Frag) (ta : TA) (δ : DEnv) (P : γ → Prop) : Prop := ∀ O S H σ, Stt W K O S H σ δ → ∀ Q : List V → Hp → Prop,
  (∀ vs S' H' g, Mv W' O S H S' H' → RepA.repA W' K S' vs g → P g → Q vs H') → ta σ H Q
/-- items alike, of a display -/
def EvS {α : Type} [Rep α] (W W' : Wd) (K : Frag) (ta : TA) (δ : DEnv) (P : List α → Prop) : Prop := ∀ O S H σ, Stt W K O S H σ δ → ∀ Q : List V → Hp → Prop,
  (∀ vs S' H' xs, Mv W' O S H S' H' → Reps K S' vs xs → P xs → Q vs H') → ta σ H Q
/-- what a def that gives plain data promises -/
def spD {γ β : Type} [RepA γ] [Rep β] (K : Frag) (Wp : Wd → Wd → Prop) (F : γ → (β → Prop) → Prop) : Sp := fun vs H Q _ => ∃ (W W' : Wd) (O : Addr → Prop) (S : Hp) (g : γ) (P : β → Prop), Wp W W' ∧ Good W O S H ∧ RepA.repA W K S vs g ∧ F g P ∧
  ∀ v S' H' y, Mv W' O S H S' H' → rep K S' v y → P y → Q v H'
section
variable {W W1 W2 W3 W4 : Wd} {K : Frag} {O : Addr → Prop} {S H S1 H1 S2 H2 : Hp} {σ : L2.St} {δ : DEnv} {α β γ κ : Type} [Rep α] [Rep β] [RepA γ] [DKey κ] {te tb tc : TE} {ta tr : TA}
theorem ea_nil {P : Unit → Prop} (p : P ()) : EvA W W K tNil δ P := fun O S H σ s Q q => q [] S H () (Mv.refl s.g) rfl p
theorem ea_cons {P : α × γ → Prop} (h : Ev W W1 K te δ fun x : α => EvA W1 W2 K tr δ fun r : γ => P (x, r)) : EvA W W2 K (tCons te tr) δ P := fun O S H σ s Q q =>
  h O S H σ s _ fun v S1 H1 x m1 r1 e1 => e1 O S1 H1 σ (s.mv m1) _ fun vs S2 H2 g m2 r2 p => q (v :: vs) S2 H2 (x, g) (m1.trans m2) ⟨v, vs, rfl, Rep.mono m2.ex r1, r2⟩ p
theorem ea_tok {P : Stk × γ → Prop} {i : Nat} (hi : δ[i]? = some (.raw W.root)) (h : EvA W W1 K tr δ fun r : γ => P (.tok, r)) (hr : W1.root = W.root := by rfl) : EvA W W1 K (tCons (tVar i) tr) δ P := fun O S H σ s Q q => by
  obtain ⟨ov, e, k⟩ := s.sl.2 i _ hi
  have k' : ov = some W.root := k
  subst k'
  exact ⟨_, e, h O S H σ s _ fun vs S2 H2 g m2 r2 p => q (W.root :: vs) S2 H2 (.tok, g) m2 ⟨vs, by rw [hr], r2⟩ p⟩
theorem ev_call {P : β → Prop} {Wp : Wd → Wd → Prop} {F : γ → (β → Prop) → Prop} {E : XK} (hW : Wp W1 W2) (h : EvA W W1 K ta δ fun g : γ => F g P) : Ev W W2 K (tCall (spD K Wp F) [] E ta) δ P := fun O S H σ s Q q =>
  h O S H σ s _ fun vs S1 H1 g m r p => ⟨W1, W2, O, S1, g, P, hW, m.good, by rw [List.append_nil]; exact r, p, fun v S2 H2 y m2 r2 py => q v S2 H2 y (m.trans m2) r2 py⟩
/-- .. with defaults -/
theorem ev_callD {γ' : Type} [RepA γ'] {P : β → Prop} {Wp : Wd → Wd → Prop} {F : γ → (β → Prop) → Prop} {E : XK} {dvs : List V} (app : γ' → γ) (hA : ∀ W K S vs g, RepA.repA W K S vs g → RepA.repA W K S (vs ++ dvs) (app g)) (hW : Wp W1 W2)
    (h : EvA W W1 K ta δ fun g : γ' => F (app g) P) : Ev W W2 K (tCall (spD K Wp F) dvs E ta) δ P := fun O S H σ s Q q =>
  h O S H σ s _ fun vs S1 H1 g m r p => ⟨W1, W2, O, S1, app g, P, hW, m.good, hA _ _ _ _ _ r, p, fun v S2 H2 y m2 r2 py => q v S2 H2 y (m.trans m2) r2 py⟩
theorem es_nil {P : List α → Prop} (p : P []) : EvS W W K tNil δ P := fun O S H σ s Q q => q [] S H [] (Mv.refl s.g) .nil p
theorem es_cons {P : List α → Prop} (h : Ev W W1 K te δ fun x : α => EvS W1 W2 K tr δ fun r : List α => P (x :: r)) : EvS W W2 K (tCons te tr) δ P := fun O S H σ s Q q =>
  h O S H σ s _ fun v S1 H1 x m1 r1 e1 => e1 O S1 H1 σ (s.mv m1) _ fun vs S2 H2 g m2 r2 p => q (v :: vs) S2 H2 (x :: g) (m1.trans m2) (.cons (Rep.mono m2.ex r1) r2) p
theorem small_len {n : Nat} (h : n ≤ 100000) : n ≤ sizeLine := Nat.le_trans h (by decide)
theorem reps_len {vs : List V} {xs : List α} (h : Reps K S vs xs) : vs.length = xs.length := Paired.length h
theorem ef_lst {P : List α → Prop} (h : EvS W W1 K ta δ fun xs => xs.length ≤ 100000 ∧ P xs) : EvF W W1 K (tLst ta) δ P := fun O S H σ s Q q =>
  h O S H σ s _ fun vs S1 H1 xs m r p => ⟨by rw [reps_len r]; exact small_len p.1, fun a ha => q a vs S1 _ xs (m.trans (Mv.temp m.good ha)) (Fresh.new m.good ha) r p.2⟩
theorem ev_tp {P : Tp α → Prop} (h : EvS W W1 K ta δ fun xs => xs.length ≤ 100000 ∧ P ⟨xs⟩) : Ev W W1 K (tTup ta) δ P := fun O S H σ s Q q =>
  h O S H σ s _ fun vs S1 H1 xs m r p => ⟨by rw [reps_len r]; exact small_len p.1, fun a ha => q _ (upd S1 a (.tup vs)) _ ⟨xs⟩ (m.trans (Mv.new m.good ha)) ⟨a, vs, rfl, .inl (.inl upd_same), r.mono (Ex.upd (m.good.sub.nn ha))⟩ p.2⟩
theorem ev_tup2 {P : α × β → Prop} (h : EvA W W1 K ta δ fun g : α × β × Unit => P (g.1, g.2.1)) : Ev W W1 K (tTup ta) δ P := fun O S H σ s Q q =>
  h O S H σ s _ fun vs S1 H1 g m ⟨v1, r, e1, r1, v2, r', e2, r2, e3⟩ p => by
    have e3' : r' = [] := e3
    subst e3' e2 e1
    exact ⟨by show 2 ≤ sizeLine; decide, fun a ha => q _ (upd S1 a (.tup [v1, v2])) _ _ (m.trans (Mv.new m.good ha)) ⟨a, v1, v2, rfl, .inl (.inl upd_same), Rep.mono (Ex.upd (m.good.sub.nn ha)) r1, Rep.mono (Ex.upd (m.good.sub.nn ha)) r2⟩ p⟩
theorem ev_tup3 {γ' : Type} [Rep γ'] {P : T3 α β γ' → Prop} (h : EvA W W1 K ta δ fun g : α × β × γ' × Unit => P ⟨g.1, g.2.1, g.2.2.1⟩) : Ev W W1 K (tTup ta) δ P := fun O S H σ s Q q =>
  h O S H σ s _ fun vs S1 H1 g m ⟨v1, r, e1, r1, v2, r', e2, r2, v3, r'', e3, r3, e4⟩ p => by
    have e4' : r'' = [] := e4
    subst e4' e3 e2 e1
    exact ⟨by show 3 ≤ sizeLine; decide, fun a ha => q _ (upd S1 a (.tup [v1, v2, v3])) _ _ (m.trans (Mv.new m.good ha)) ⟨a, v1, v2, v3, rfl, .inl (.inl upd_same), Rep.mono (Ex.upd (m.good.sub.nn ha)) r1, Rep.mono (Ex.upd (m.good.sub.nn ha)) r2, Rep.mono (Ex.upd (m.good.sub.nn ha)) r3⟩ p⟩
theorem ev_tup4 {γ' δ' : Type} [Rep γ'] [Rep δ'] {P : T4 α β γ' δ' → Prop} (h : EvA W W1 K ta δ fun g : α × β × γ' × δ' × Unit => P ⟨g.1, g.2.1, g.2.2.1, g.2.2.2.1⟩) : Ev W W1 K (tTup ta) δ P := fun O S H σ s Q q =>
  h O S H σ s _ fun vs S1 H1 g m ⟨v1, r, e1, r1, v2, r', e2, r2, v3, r'', e3, r3, v4, r''', e4, r4, e5⟩ p => by
    have e5' : r''' = [] := e5
    subst e5' e4 e3 e2 e1
    exact ⟨by show 4 ≤ sizeLine; decide, fun a ha => q _ (upd S1 a (.tup [v1, v2, v3, v4])) _ _ (m.trans (Mv.new m.good ha)) ⟨a, v1, v2, v3, v4, rfl, .inl (.inl upd_same), Rep.mono (Ex.upd (m.good.sub.nn ha)) r1, Rep.mono (Ex.upd (m.good.sub.nn ha)) r2, Rep.mono (Ex.upd (m.good.sub.nn ha)) r3, Rep.mono (Ex.upd (m.good.sub.nn ha)) r4⟩ p⟩
end
end DW
set_option maxHeartbeats 4000000
namespace DW
open PySem PySem.Spec PyProof.Rows L2

/-! ### statements -/
structure DE (β : Type) where
  nx : Wd → DEnv → Prop
  rt : Wd → β → Prop
  bk : Wd → DEnv → Prop := fun _ _ => False
  ct : Wd → DEnv → Prop := fun _ _ => False
  rg : Wd → HO → Hp → Prop := fun _ _ _ => False
/-- own things stand apart -/
def Dst (σ : L2.St) (δ : DEnv) : Prop := ∀ (i j : Nat) (d e : DSlot) (a : Addr), δ[i]? = some d → d.own = true → σ[i]? = some (some (.ref a)) → δ[j]? = some e → e.own = true → σ[j]? = some (some (.ref a)) → i = j
structure Cf (W : Wd) (K : Frag) (O : Addr → Prop) (S H : Hp) (σ : L2.St) (δ : DEnv) : Prop where
  g : Good W (fun a => O a ∨ OwnAt σ δ a) S H
  sl : Sl K S H σ δ
  dst : Dst σ δ
  out : ∀ a, OwnAt σ δ a → ¬ O a
structure Mo (O : Addr → Prop) (S H S' H' : Hp) : Prop where
  ex : Ex S S'
  keep : ∀ a, O a → H' a = H a
  stay : ∀ a, S a ≠ none → H' a = H a
section
variable {W W1 W2 W3 W4 : Wd} {K : Frag} {O : Addr → Prop} {S H S1 H1 S2 H2 : Hp} {σ σ' : L2.St} {δ δ' : DEnv}
theorem Mo.refl : Mo O S H S H := ⟨Ex.refl S, fun _ _ => rfl, fun _ _ => rfl⟩
theorem Mo.trans (a : Mo O S H S1 H1) (b : Mo O S1 H1 S2 H2) : Mo O S H S2 H2 :=
  ⟨a.ex.trans b.ex, fun c h => (b.keep c h).trans (a.keep c h), fun c h => (b.stay c (a.ex.nn h)).trans (a.stay c h)⟩
theorem Mv.mo {O' : Addr → Prop} (m : Mv W O S H S1 H1) (h : ∀ a, O' a → O a) : Mo O' S H S1 H1 := ⟨m.ex, fun a z => m.keep a (h a z), m.stay⟩
theorem Cf.stt (c : Cf W K O S H σ δ) : Stt W K (fun a => O a ∨ OwnAt σ δ a) S H σ δ := ⟨c.g, c.sl, fun _ h => .inr h⟩
theorem Cf.good (c : Cf W K O S H σ δ) : Good W O S H := c.g.less fun _ h => .inl h
theorem Cf.mv (c : Cf W K O S H σ δ) (m : Mv W1 (fun a => O a ∨ OwnAt σ δ a) S H S1 H1) : Cf W1 K O S1 H1 σ δ := ⟨m.good, (c.stt.mv m).sl, c.dst, c.out⟩
/-- no own thing at the i-th place: it is set to what is no own thing -/
theorem own_set {i : Nat} {v : V} {d : DSlot} {a : Addr} (hd : d.own = false) (h : OwnAt (σ.set i (some v)) (δ.set i d) a) : OwnAt σ δ a := by
  obtain ⟨j, e, h1, h2, h3⟩ := h
  by_cases hj : j = i
  · subst hj
    rw [List.getElem?_set] at h1
    simp only [if_true] at h1
    split at h1
    · cases h1
      rw [hd] at h2
      cases h2
    · cases h1
  · rw [List.getElem?_set_ne (Ne.symm hj)] at h1 h3
    exact ⟨j, e, h1, h2, h3⟩
theorem Sl.set (h : Sl K S H σ δ) {i : Nat} {v : V} {d : DSlot} (ok : SlotOk K S H (some v) d) : Sl K S H (σ.set i (some v)) (δ.set i d) := by
  refine ⟨by rw [List.length_set, List.length_set]; exact h.1, fun j e hj => ?_⟩
  by_cases q : j = i
  · subst q
    rw [List.getElem?_set] at hj
    simp only [if_true] at hj
    split at hj
    · rename_i hl
      cases hj
      exact ⟨some v, by rw [List.getElem?_set_self (by rw [h.1]; exact hl)], ok⟩
    · cases hj
  · rw [List.getElem?_set_ne (Ne.symm q)] at hj ⊢
    exact h.2 j e hj
theorem Cf.set (c : Cf W K O S H σ δ) {i : Nat} {v : V} {d : DSlot} (hd : d.own = false) (ok : SlotOk K S H (some v) d) : Cf W K O S H (σ.set i (some v)) (δ.set i d) := by
  refine ⟨c.g.less fun a h => h.imp id (own_set hd), c.sl.set ok, fun j k e f a h1 h2 h3 h4 h5 h6 => ?_, fun a h => c.out a (own_set hd h)⟩
  by_cases hj : j = i
  · subst hj
    rw [List.getElem?_set] at h1
    simp only [if_true] at h1
    split at h1
    · cases h1
      rw [hd] at h2
      cases h2
    · cases h1
  · by_cases hk : k = i
    · subst hk
      rw [List.getElem?_set] at h4
      simp only [if_true] at h4
      split at h4
      · cases h4
        rw [hd] at h5
        cases h5
      · cases h4
    · rw [List.getElem?_set_ne (Ne.symm hj)] at h1 h3
      rw [List.getElem?_set_ne (Ne.symm hk)] at h4 h6
      exact c.dst j k e f a h1 h2 h3 h4 h5 h6
/-- the i-th place is given a new thing of one's own -/
theorem own_setN {i : Nat} {q a : Addr} {d : DSlot} (h : OwnAt (σ.set i (some (.ref q))) (δ.set i d) a) : a = q ∨ OwnAt σ δ a := by
  obtain ⟨j, e, h1, h2, h3⟩ := h
  by_cases hj : j = i
  · subst hj
    rw [List.getElem?_set] at h3
    simp only [if_true] at h3
    split at h3
    · cases h3
      exact .inl rfl
    · cases h3
  · rw [List.getElem?_set_ne (Ne.symm hj)] at h1 h3
    exact .inr ⟨j, e, h1, h2, h3⟩
theorem Cf.setN (c : Cf W K O S H σ δ) {i : Nat} {q : Addr} {o : HO} {d : DSlot} (f : Fresh W (fun a => O a ∨ OwnAt σ δ a) S H q o) (ok : SlotOk K S H (some (.ref q)) d) : Cf W K O S H (σ.set i (some (.ref q))) (δ.set i d) := by
  have nq : ¬ OwnAt σ δ q := fun z => f.o (.inr z)
  refine ⟨⟨c.g.sub, c.g.ok, c.g.fpS, fun a h z => ?_, fun a z => ?_, fun a z => ?_⟩, c.sl.set ok, fun j k e e' a h1 h2 h3 h4 h5 h6 => ?_, fun a h => ?_⟩
  · rcases z with z | z
    · exact c.g.fpO a h (.inl z)
    · rcases own_setN z with z | z
      · rw [z] at h
        exact f.f h
      · exact c.g.fpO a h (.inr z)
  · rcases z with z | z
    · exact c.g.oS a (.inl z)
    · rcases own_setN z with z | z
      · rw [z]
        exact f.s
      · exact c.g.oS a (.inr z)
  · rcases z with z | z
    · exact c.g.oH a (.inl z)
    · rcases own_setN z with z | z
      · rw [z, f.at_]
        intro y
        cases y
      · exact c.g.oH a (.inr z)
  · by_cases hj : j = i
    · by_cases hk : k = i
      · rw [hj, hk]
      · subst hj
        rw [List.getElem?_set_ne (Ne.symm hk)] at h4 h6
        rw [List.getElem?_set] at h3
        simp only [if_true] at h3
        split at h3
        · cases h3
          exact absurd ⟨k, e', h4, h5, h6⟩ nq
        · cases h3
    · by_cases hk : k = i
      · subst hk
        rw [List.getElem?_set_ne (Ne.symm hj)] at h1 h3
        rw [List.getElem?_set] at h6
        simp only [if_true] at h6
        split at h6
        · cases h6
          exact absurd ⟨j, e, h1, h2, h3⟩ nq
        · cases h6
      · rw [List.getElem?_set_ne (Ne.symm hj)] at h1 h3
        rw [List.getElem?_set_ne (Ne.symm hk)] at h4 h6
        exact c.dst j k e e' a h1 h2 h3 h4 h5 h6
  · rcases own_setN h with z | z
    · rw [z]
      exact fun y => f.o (.inl y)
    · exact c.out a z
/-- the own thing of the i-th place is changed -/
theorem Cf.wr (c : Cf W K O S H σ δ) {i : Nat} {q : Addr} {o : HO} {d d' : DSlot} (hd : δ[i]? = some d) (ho : d.own = true) (hq : σ[i]? = some (some (.ref q))) (hd' : d'.own = true) (ok : SlotOk K S (upd H q o) (some (.ref q)) d') :
    Cf W K O S (upd H q o) σ (δ.set i d') ∧ Mo O S H S (upd H q o) := by
  have oq : OwnAt σ δ q := ⟨i, d, hd, ho, hq⟩
  have sq : S q = none := c.g.oS q (.inr oq)
  have hl : i < δ.length := (List.getElem?_eq_some_iff.mp hd).1
  have l := W.loc c.g.ok (H' := upd H q o) fun a h => upd_ne fun e => c.g.fpO a h (by rw [e]; exact .inr oq)
  have ow : ∀ a, OwnAt σ (δ.set i d') a → OwnAt σ δ a := fun a ⟨j, e, h1, h2, h3⟩ => by
    by_cases hj : j = i
    · rw [hj] at h3
      exact ⟨i, d, hd, ho, h3⟩
    · rw [List.getElem?_set_ne (Ne.symm hj)] at h1
      exact ⟨j, e, h1, h2, h3⟩
  have old : ∀ (j : Nat) (e : DSlot), (δ.set i d')[j]? = some e → e.own = true → ∃ e0 : DSlot, δ[j]? = some e0 ∧ e0.own = true := fun j e h1 h2 => by
    by_cases hj : j = i
    · rw [hj]
      exact ⟨d, hd, ho⟩
    · rw [List.getElem?_set_ne (Ne.symm hj)] at h1
      exact ⟨e, h1, h2⟩
  refine ⟨⟨⟨fun a u e => ?_, l.1, fun a h => c.g.fpS a ((l.2 a).mp h), fun a h z => ?_, fun a z => ?_, fun a z => ?_⟩, ⟨by rw [List.length_set]; exact c.sl.1, fun j e hj => ?_⟩, fun j k e e' a h1 h2 h3 h4 h5 h6 => ?_, fun a h => c.out a (ow a h)⟩, ⟨Ex.refl S, fun a h => upd_ne fun z => c.out q oq (by rw [← z]; exact h), fun a h => upd_ne fun z => h (by rw [z]; exact sq)⟩⟩
  · rw [upd_ne (ne_of_none e sq)]
    exact c.g.sub a u e
  · exact c.g.fpO a ((l.2 a).mp h) (z.imp id (ow a))
  · exact c.g.oS a (z.imp id (ow a))
  · by_cases y : a = q
    · rw [y, upd_same]
      intro w
      cases w
    · rw [upd_ne y]
      exact c.g.oH a (z.imp id (ow a))
  · by_cases y : j = i
    · subst y
      rw [List.getElem?_set_self hl] at hj
      cases hj
      exact ⟨_, hq, ok⟩
    · rw [List.getElem?_set_ne (Ne.symm y)] at hj
      obtain ⟨ov, e1, k⟩ := c.sl.2 j e hj
      refine ⟨ov, e1, k.mv (Ex.refl S) fun h2 a ea => upd_ne fun z => y ?_⟩
      rw [ea, z] at e1
      exact c.dst j i e d q hj h2 e1 hd ho hq
  · obtain ⟨f, g1, g2⟩ := old j e h1 h2
    obtain ⟨f', g1', g2'⟩ := old k e' h4 h5
    exact c.dst j k f f' a g1 g2 h3 g1' g2' h6
/-- the own list of the i-th place is fixed -/
theorem Cf.fix (c : Cf W K O S H σ δ) {i : Nat} {q : Addr} {o : HO} {d d' : DSlot} (hd : δ[i]? = some d) (ho : d.own = true) (hq : σ[i]? = some (some (.ref q))) (hH : H q = some o) (hd' : d'.own = false) (ok : SlotOk K (upd S q o) H (some (.ref q)) d') :
    Cf W K O (upd S q o) H σ (δ.set i d') ∧ Mo O S H (upd S q o) H := by
  have oq : OwnAt σ δ q := ⟨i, d, hd, ho, hq⟩
  have sq : S q = none := c.g.oS q (.inr oq)
  have nf : ¬ W.fp H q := fun h => c.g.fpO q h (.inr oq)
  have hl : i < δ.length := (List.getElem?_eq_some_iff.mp hd).1
  have ow : ∀ a, OwnAt σ (δ.set i d') a → OwnAt σ δ a ∧ a ≠ q := fun a ⟨j, e, h1, h2, h3⟩ => by
    by_cases hj : j = i
    · rw [hj, List.getElem?_set_self hl] at h1
      cases h1
      rw [hd'] at h2
      cases h2
    · rw [List.getElem?_set_ne (Ne.symm hj)] at h1
      exact ⟨⟨j, e, h1, h2, h3⟩, fun z => hj (by rw [z] at h3; exact c.dst j i e d q h1 h2 h3 hd ho hq)⟩
  have less : Good W (fun a => O a ∨ OwnAt σ (δ.set i d') a) S H := c.g.less fun a h => h.imp id fun z => (ow a z).1
  refine ⟨⟨less.fix hH sq nf fun z => z.elim (c.out q oq) fun z => (ow q z).2 rfl, ⟨by rw [List.length_set]; exact c.sl.1, fun j e hj => ?_⟩, fun j k e e' a h1 h2 h3 h4 h5 h6 => ?_, fun a h => c.out a (ow a h).1⟩, ⟨Ex.upd sq, fun _ _ => rfl, fun _ _ => rfl⟩⟩
  · by_cases y : j = i
    · subst y
      rw [List.getElem?_set_self hl] at hj
      cases hj
      exact ⟨_, hq, ok⟩
    · rw [List.getElem?_set_ne (Ne.symm y)] at hj
      obtain ⟨ov, e1, k⟩ := c.sl.2 j e hj
      exact ⟨ov, e1, k.mv (Ex.upd sq) fun _ _ _ => rfl⟩
  · by_cases hj : j = i
    · rw [hj, List.getElem?_set_self hl] at h1
      cases h1
      rw [hd'] at h2
      cases h2
    · by_cases hk : k = i
      · rw [hk, List.getElem?_set_self hl] at h4
        cases h4
        rw [hd'] at h5
        cases h5
      · rw [List.getElem?_set_ne (Ne.symm hj)] at h1
        rw [List.getElem?_set_ne (Ne.symm hk)] at h4
        exact c.dst j k e e' a h1 h2 h3 h4 h5 h6
end
theorem Cf.wle {W : Wd} {K : Frag} {O : Addr → Prop} {S H : Hp} {σ : L2.St} {δ : DEnv} {W' : Wd} (c : Cf W K O S H σ δ) (l : Wle W W') : Cf W' K O S H σ δ := ⟨c.g.wle l, c.sl, c.dst, c.out⟩
structure Reach {β : Type} [Rep β] (K : Frag) (O : Addr → Prop) (S H : Hp) (D : DE β) (E : Ends) : Prop where
  nx : ∀ {W'} S' H' σ' δ', Mo O S H S' H' → Cf W' K O S' H' σ' δ' → D.nx W' δ' → E.nx σ' H'
  bk : ∀ {W'} S' H' σ' δ', Mo O S H S' H' → Cf W' K O S' H' σ' δ' → D.bk W' δ' → E.bk σ' H'
  ct : ∀ {W'} S' H' σ' δ', Mo O S H S' H' → Cf W' K O S' H' σ' δ' → D.ct W' δ' → E.ct σ' H'
  rt : ∀ {W'} v S' H' y, Mv W' O S H S' H' → rep K S' v y → D.rt W' y → E.rt v H'
  rg : ∀ {W'} q o S' H', Mv W' O S H S' H' → Fresh W' O S' H' q o → D.rg W' o S' → E.rt (.ref q) H'
def Sd {β : Type} [Rep β] (W : Wd) (K : Frag) (ts : TS) (δ : DEnv) (D : DE β) : Prop := ∀ O S H σ, Cf W K O S H σ δ → ∀ E : Ends, Reach K O S H D E → ts E σ H
section
variable {W W1 W2 W3 W4 : Wd} {K : Frag} {O : Addr → Prop} {S H S1 H1 S2 H2 : Hp} {σ : L2.St} {δ : DEnv} {α β κ : Type} [Rep α] [Rep β] [DKey κ] {D D' : DE β} {E : Ends} {te tk tv : TE} {tt : TT} {t u : TS} {i : Nat}
theorem Mo.mv {O : Addr → Prop} (a : Mo O S H S1 H1) (b : Mv W O S1 H1 S2 H2) : Mv W O S H S2 H2 :=
  ⟨a.ex.trans b.ex, fun c h => (b.keep c h).trans (a.keep c h), fun c h => (b.stay c (a.ex.nn h)).trans (a.stay c h), b.good⟩
theorem Reach.mo (r : Reach K O S H D E) (m : Mo O S H S1 H1) : Reach K O S1 H1 D E :=
  ⟨fun S' H' σ' δ' m' => r.nx S' H' σ' δ' (m.trans m'), fun S' H' σ' δ' m' => r.bk S' H' σ' δ' (m.trans m'), fun S' H' σ' δ' m' => r.ct S' H' σ' δ' (m.trans m'), fun v S' H' y m' => r.rt v S' H' y (m.mv m'), fun q o S' H' m' => r.rg q o S' H' (m.mv m')⟩
theorem Sd.imp (h : Sd W K t δ D) (hn : ∀ W' δ', D.nx W' δ' → D'.nx W' δ') (hr : ∀ W' y, D.rt W' y → D'.rt W' y) (hb : ∀ W' δ', D.bk W' δ' → D'.bk W' δ' := by intro _ _ h; first | exact h | exact h.elim) (hc : ∀ W' δ', D.ct W' δ' → D'.ct W' δ' := by intro _ _ h; first | exact h | exact h.elim) (hg : ∀ W' o S', D.rg W' o S' → D'.rg W' o S' := by intro _ _ _ h; first | exact h | exact h.elim) : Sd W K t δ D' := fun O S H σ c E r =>
  h O S H σ c E ⟨fun S' H' σ' δ' m c' q => r.nx S' H' σ' δ' m c' (hn _ δ' q), fun S' H' σ' δ' m c' q => r.bk S' H' σ' δ' m c' (hb _ δ' q), fun S' H' σ' δ' m c' q => r.ct S' H' σ' δ' m c' (hc _ δ' q), fun v S' H' y m q p => r.rt v S' H' y m q (hr _ y p), fun q o S' H' m f p => r.rg q o S' H' m f (hg _ o S' p)⟩
theorem sd_seq (h : Sd W K t δ { D with nx := fun W' δ' => Sd W' K u δ' D }) : Sd W K (tSeq t u) δ D := fun O S H σ c E r =>
  h O S H σ c { E with nx := u E } ⟨fun S' H' σ' δ' m c' q => q O S' H' σ' c' E (r.mo m), r.bk, r.ct, r.rt, r.rg⟩
theorem sd_next (h : D.nx W δ) : Sd W K tNext δ D := fun O S H σ c E r => r.nx S H σ δ Mo.refl c h
theorem sd_break (h : D.bk W δ) : Sd W K tBreak δ D := fun O S H σ c E r => r.bk S H σ δ Mo.refl c h
theorem sd_cont (h : D.ct W δ) : Sd W K tCont δ D := fun O S H σ c E r => r.ct S H σ δ Mo.refl c h
theorem sd_asg (h : Ev W W1 K te δ fun x : α => D.nx W1 (δ.set i (sD x))) : Sd W K (tAsg te (gName i)) δ D := fun O S H σ c E r =>
  h _ S H σ c.stt _ fun v S1 H1 x m rv p => r.nx S1 H1 _ _ (m.mo fun _ z => .inl z) ((c.mv m).set (d := sD x) rfl ⟨v, rfl, rv⟩) p
theorem sd_asgL (h : EvF W W1 K te δ fun xs : List α => D.nx W1 (δ.set i (sL xs))) : Sd W K (tAsg te (gName i)) δ D := fun O S H σ c E r =>
  h _ S H σ c.stt _ fun q vs S1 H1 xs m f rv p => r.nx S1 H1 _ _ (m.mo fun _ z => .inl z) ((c.mv m).setN (d := sL xs) f ⟨q, vs, rfl, f.at_, rv⟩) p
theorem sd_asgM (h : EvG W W1 K te δ fun xs : List (κ × α) => D.nx W1 (δ.set i (sM xs))) : Sd W K (tAsg te (gName i)) δ D := fun O S H σ c E r =>
  h _ S H σ c.stt _ fun q vs S1 H1 xs m f rv nd p => r.nx S1 H1 _ _ (m.mo fun _ z => .inl z) ((c.mv m).setN (d := sM xs) f ⟨q, vs, rfl, f.at_, rv, nd⟩) p
theorem sd_drop (h : Ev W W1 K te δ fun _ : α => D.nx W1 δ) : Sd W K (tDrop te) δ D := fun O S H σ c E r =>
  h _ S H σ c.stt _ fun v S1 H1 x m rv p => r.nx S1 H1 _ _ (m.mo fun _ z => .inl z) (c.mv m) p
theorem sd_ret (h : Ev W W1 K te δ (D.rt W1)) : Sd W K (tRet te) δ D := fun O S H σ c E r =>
  h _ S H σ c.stt _ fun v S1 H1 x m rv p => r.rt v S1 H1 x (m.less fun _ z => .inl z) rv p
theorem sd_retN {y : β} (p : D.rt W y) (h : ∀ K S, rep K S .non y := by intros; rfl) : Sd W K tRetN δ D := fun O S H σ c E r => r.rt .non S H y (Mv.refl c.good) (h K S) p
theorem sd_if (h : EvT W W1 K tt δ fun b => (b = true → Sd W1 K t δ D) ∧ (b = false → Sd W1 K u δ D)) : Sd W K (tIfS tt t u) δ D := fun O S H σ c E r =>
  h _ S H σ c.stt _ fun b S1 H1 m p => by
    cases b with
    | true =>
      show t E σ H1
      exact p.1 rfl O S1 H1 σ (c.mv m) E (r.mo (m.mo fun _ z => .inl z))
    | false =>
      show u E σ H1
      exact p.2 rfl O S1 H1 σ (c.mv m) E (r.mo (m.mo fun _ z => .inl z))
/-- an own list from now on fixed -/
theorem sd_fix {α : Type} [ri : Rep α] {xs : List α} (hi : δ[i]? = some (.ol ri xs)) (h : Sd W K t (δ.set i (sD xs)) D) : Sd W K t δ D := fun O S H σ c E r => by
  obtain ⟨ov, e, q, vs, eq, hq, rv⟩ := c.sl.2 i _ hi
  subst eq
  have sq : S q = none := c.g.oS q (.inr ⟨i, _, hi, rfl, e⟩)
  have k := c.fix (d' := sD xs) hi rfl e hq rfl ⟨_, rfl, q, vs, rfl, upd_same, Reps.mono (Ex.upd sq) rv⟩
  exact h O _ H σ k.1 E (r.mo k.2)
theorem sd_fixM {α κ : Type} [rk : DKey κ] [ri : Rep α] {xs : List (κ × α)} (hi : δ[i]? = some (.od rk ri xs)) (h : Sd W K t (δ.set i (sD (⟨xs⟩ : Dc κ α))) D) : Sd W K t δ D := fun O S H σ c E r => by
  obtain ⟨ov, e, q, vs, eq, hq, rv, nd⟩ := c.sl.2 i _ hi
  subst eq
  have sq : S q = none := c.g.oS q (.inr ⟨i, _, hi, rfl, e⟩)
  have k := c.fix (d' := sD (⟨xs⟩ : Dc κ α)) hi rfl e hq rfl ⟨_, rfl, q, vs, rfl, upd_same, RepKV.mono (Ex.upd sq) rv, nd⟩
  exact h O _ H σ k.1 E (r.mo k.2)
theorem sd_never (h : False) : Sd W K tNever δ D := h.elim
theorem sd_append {α : Type} [ri : Rep α] {xs : List α} (hi : δ[i]? = some (.ol ri xs)) (h : Ev W W1 K te δ fun y : α => xs.length < 100000 ∧ D.nx W1 (δ.set i (sL (xs ++ [y])))) : Sd W K (tDrop (tBM K "list" rAppend (tVar i) (tCons te tNil))) δ D := fun O S H σ c E r => by
  obtain ⟨ov, e, q, vs, eq, hq, rv⟩ := c.sl.2 i _ hi
  subst eq
  refine ⟨_, e, .inl ⟨rfl, vs, .inl (.inl hq)⟩, ?_⟩
  refine h _ S H σ c.stt _ fun v S1 H1 y m rv1 p => ?_
  have c1 := c.mv m
  have hq1 : H1 q = some (.lst vs) := (m.keep q (.inr ⟨i, _, hi, rfl, e⟩)).trans hq
  have rv' : Reps K S1 vs xs := Reps.mono m.ex rv
  have sz : vs.length < sizeLine := by
    rw [reps_len rv']
    exact Nat.lt_of_lt_of_le p.1 (by decide)
  refine ⟨q, vs, v, rfl, rfl, hq1, sz, ?_⟩
  have k := c1.wr (d' := sL (xs ++ [y])) (o := .lst (vs ++ [v])) hi rfl e rfl ⟨q, _, rfl, upd_same, Paired.snoc rv' rv1⟩
  exact r.nx S1 _ σ _ ((m.mo fun _ z => .inl z).trans k.2) k.1 p.2
theorem sd_aug {α : Type} {a : Int} {f : Int → Int → Int} (hi : δ[i]? = some (sD a)) (h : Ev W W1 K te δ fun b : Int => D.nx W1 (δ.set i (sD (f a b)))) : Sd W K (tAug i te (ipI f)) δ D := fun O S H σ c E r => by
  obtain ⟨ov, e, v, ev, rv⟩ := c.sl.2 i _ hi
  subst ev
  obtain rfl : v = .int a := rv
  refine ⟨_, e, h _ S H σ c.stt _ fun u S1 H1 b m ru p => ⟨a, b, rfl, ru, ?_⟩⟩
  exact r.nx S1 H1 _ _ (m.mo fun _ z => .inl z) ((c.mv m).set (d := sD (f a b)) rfl ⟨_, rfl, rfl⟩) p
/-- a, b = e1, e2 -/
theorem sd_par {γ : Type} [Rep γ] {ta : TA} {j : Nat} (h : EvA W W1 K ta δ fun g : α × γ × Unit => D.nx W1 ((δ.set i (sD g.1)).set j (sD g.2.1))) : Sd W K (tPar i j ta) δ D := fun O S H σ c E r =>
  h _ S H σ c.stt _ fun vs S1 H1 g m ⟨v1, r1, e1, q1, v2, r2, e2, q2, e3⟩ p => by
    have e3' : r2 = [] := e3
    subst e3' e2 e1
    exact ⟨v1, v2, rfl, r.nx S1 H1 _ _ (m.mo fun _ z => .inl z) (((c.mv m).set (d := sD g.1) rfl ⟨v1, rfl, q1⟩).set (d := sD g.2.1) rfl ⟨v2, rfl, q2⟩) p⟩
end

/-! ### targets -/
/-- a value is stored in a target: what the slots hold then -/
def Tg {α : Type} [Rep α] (W : Wd) (K : Frag) (g : TG) (x : α) (δ : DEnv) (N : DEnv → Prop) : Prop := ∀ O S H σ v, Cf W K O S H σ δ → rep K S v x → ∀ Q : L2.St → Hp → Prop, (∀ σ' δ', Cf W K O S H σ' δ' → N δ' → Q σ' H) → g v σ H Q
section
variable {W W1 W2 W3 W4 : Wd} {K : Frag} {δ : DEnv} {α β γ : Type} [Rep α] [Rep β] [Rep γ] {i j k l : Nat} {N : DEnv → Prop} {D : DE β} {te : TE} {g : TG}
theorem tg_name {x : α} (h : N (δ.set i (sD x))) : Tg W K (gName i) x δ N := fun O S H σ v c r Q q => q _ _ (c.set (d := sD x) rfl ⟨v, rfl, r⟩) h
theorem tg_two {x : α × γ} (h : N ((δ.set i (sD x.1)).set j (sD x.2))) : Tg W K (gTup K 2 (gCons (gName i) (gCons (gName j) gNil))) x δ N := fun O S H σ v c ⟨a, v1, v2, e, hs, r1, r2⟩ Q q => by
  subst e
  exact ⟨a, _, rfl, c.g.sub.sqT hs, rfl, v1, [v2], rfl, v2, [], rfl, rfl, q _ _ ((c.set (d := sD x.1) rfl ⟨v1, rfl, r1⟩).set (d := sD x.2) rfl ⟨v2, rfl, r2⟩) h⟩
theorem tg_three {x : T3 α β γ} (h : N (((δ.set i (sD x.a)).set j (sD x.b)).set k (sD x.c))) : Tg W K (gTup K 3 (gCons (gName i) (gCons (gName j) (gCons (gName k) gNil)))) x δ N := fun O S H σ v c ⟨a, v1, v2, v3, e, hs, r1, r2, r3⟩ Q q => by
  subst e
  exact ⟨a, _, rfl, c.g.sub.sqT hs, rfl, v1, _, rfl, v2, _, rfl, v3, [], rfl, rfl, q _ _ (((c.set (d := sD x.a) rfl ⟨v1, rfl, r1⟩).set (d := sD x.b) rfl ⟨v2, rfl, r2⟩).set (d := sD x.c) rfl ⟨v3, rfl, r3⟩) h⟩
theorem tg_four {ζ : Type} [Rep ζ] {x : T4 α β γ ζ} (h : N ((((δ.set i (sD x.a)).set j (sD x.b)).set k (sD x.c)).set l (sD x.d))) : Tg W K (gTup K 4 (gCons (gName i) (gCons (gName j) (gCons (gName k) (gCons (gName l) gNil))))) x δ N := fun O S H σ v c ⟨a, v1, v2, v3, v4, e, hs, r1, r2, r3, r4⟩ Q q => by
  subst e
  exact ⟨a, _, rfl, c.g.sub.sqT hs, rfl, v1, _, rfl, v2, _, rfl, v3, _, rfl, v4, [], rfl, rfl, q _ _ ((((c.set (d := sD x.a) rfl ⟨v1, rfl, r1⟩).set (d := sD x.b) rfl ⟨v2, rfl, r2⟩).set (d := sD x.c) rfl ⟨v3, rfl, r3⟩).set (d := sD x.d) rfl ⟨v4, rfl, r4⟩) h⟩
theorem sd_asgT {D : DE β} (h : Ev W W1 K te δ fun x : α => Tg W1 K g x δ (D.nx W1)) : Sd W K (tAsg te g) δ D := fun O S H σ c E r =>
  h _ S H σ c.stt _ fun v S1 H1 x m rv p => p O S1 H1 σ v (c.mv m) rv _ fun σ' δ' c' hn => r.nx S1 H1 σ' δ' (m.mo fun _ z => .inl z) c' hn
end
end DW
set_option maxHeartbeats 4000000
namespace DW
open PySem PySem.Spec PyProof.Rows L2

/-! ### what is walked -/
/-- the iterator J yields xs, while what is fixed, and what Fx tells, stays as it is -/
def ItOk {α : Type} [Rep α] (K : Frag) (Fx : Addr → Prop) (J : It) (xs : List α) (S0 H0 : Hp) : Prop :=
  ∀ {W : Wd} (i : Nat) (O : Addr → Prop) (S H : Hp), Ex S0 S → (∀ a, Fx a → H a = H0 a) → (∀ a, S0 a ≠ none → H a = H0 a) → Good W O S H →
    (∀ x, xs[i]? = some x → J.go i H ∧ ∀ v H', J.yld i H v H' → ∃ S', Mv W O S H S' H' ∧ rep K S' v x) ∧ (i = xs.length → J.stop i H)
/-- of fixed things -/
def EvI {α : Type} [Rep α] (W W' : Wd) (K : Frag) (wi : TI) (δ : DEnv) (P : List α → Prop) : Prop := ∀ O S H σ, Stt W K O S H σ δ → ∀ R : It → Hp → Prop,
  (∀ J S' H' xs, Mv W' O S H S' H' → ItOk K (fun _ => False) J xs S' H' → P xs → R J H') → wi σ H R
/-- of fixed or own things -/
def EvIO {α : Type} [Rep α] (W W' : Wd) (K : Frag) (wi : TI) (δ : DEnv) (P : List α → Prop) : Prop := ∀ O S H σ, Stt W K O S H σ δ → ∀ R : It → Hp → Prop,
  (∀ J S' H' xs, Mv W' O S H S' H' → ItOk K O J xs S' H' → P xs → R J H') → wi σ H R
section
variable {W W1 W2 W3 W4 : Wd} {K : Frag} {O : Addr → Prop} {S H S1 H1 S2 H2 : Hp} {σ : L2.St} {δ : DEnv} {α β κ : Type} [Rep α] [Rep β] [DKey κ] {te : TE} {ta : TA} {wi : TI}
theorem evio {P : List α → Prop} (h : EvI W W1 K wi δ P) : EvIO W W1 K wi δ P := fun O S H σ s R q => h O S H σ s R fun J S' H' xs m it p => q J S' H' xs m (fun i O2 S2 H2 e1 e2 e3 g => it i O2 S2 H2 e1 (fun a z => z.elim) e3 g) p
theorem Paired.at {α β : Type} {F : α → β → Prop} : ∀ {l₁ : List α} {l₂ : List β} {i : Nat} {y : β}, Paired F l₁ l₂ → l₂[i]? = some y → ∃ x, l₁[i]? = some x ∧ F x y
  | _, _, _, _, .nil, h => by simp at h
  | _, _, 0, _, .cons r t, h => ⟨_, rfl, by cases h; exact r⟩
  | _, _, i + 1, _, .cons r t, h => by
    obtain ⟨x, e, f⟩ := Paired.at t (i := i) (by simpa using h)
    exact ⟨x, by simpa using e, f⟩
theorem it_list {Fx : Addr → Prop} {q : Addr} {vs : List V} {xs : List α} {S0 H0 : Hp} (hl : S0 q = some (.lst vs) ∨ (Fx q ∧ H0 q = some (.lst vs))) (hs : Sub S0 H0) (r : Reps K S0 vs xs) : ItOk K Fx (Itl K q) xs S0 H0 := fun i O S H ex fx st g => by
  have hq : H q = some (.lst vs) := by
    rcases hl with h | ⟨h1, h2⟩
    · exact (st q (by rw [h]; intro z; cases z)).trans (hs.lst h)
    · exact (fx q h1).trans h2
  have sq : SqL K H q vs := .inl (.inl hq)
  refine ⟨fun x hx => ?_, fun e => ⟨vs, sq, by rw [reps_len r]; exact Nat.le_of_eq e.symm⟩⟩
  obtain ⟨v, hv, rv⟩ := Paired.at r hx
  refine ⟨⟨vs, v, sq, hv⟩, fun u H' y => ?_⟩
  obtain ⟨e, f⟩ := y
  subst e
  have e2 : u = v := Option.some.inj ((f vs sq).symm.trans hv)
  subst e2
  exact ⟨S, Mv.refl g, Rep.mono ex rv⟩
theorem evi_list {P : List α → Prop} (h : Ev W W1 K te δ P) : EvI W W1 K (iList K te) δ P := fun O S H σ s R q => h O S H σ s _ fun v S1 H1 xs m hr p => by
  obtain ⟨a, vs, e, ha, r⟩ := hr
  subst e
  exact ⟨a, rfl, ⟨vs, .inl (.inl (m.good.sub.lst ha))⟩, q _ S1 H1 xs m (it_list (.inl ha) m.good.sub r) p⟩
theorem evio_list {P : List α → Prop} (h : EvC W W1 K te δ P) : EvIO W W1 K (iList K te) δ P := fun O S H σ s R q => h O S H σ s _ fun a vs S1 H1 xs m l r p =>
  ⟨a, rfl, ⟨vs, l.sq m.good.sub⟩, q _ S1 H1 xs m (it_list l m.good.sub r) p⟩
theorem evi_tup {P : List α → Prop} (h : Ev W W1 K te δ fun t : Tp α => P t.l) : EvI W W1 K (iTup K te) δ P := fun O S H σ s R q => h O S H σ s _ fun v S1 H1 xs m hr p => by
  obtain ⟨a, vs, e, ha, r⟩ := hr
  subst e
  refine ⟨a, rfl, ⟨vs, m.good.sub.sqT ha⟩, q _ S1 H1 xs.l m (fun i O2 S2 H2 ex fx st g => ?_) p⟩
  have sq : SqT K H2 a vs := g.sub.sqT (ex.sqT ha)
  refine ⟨fun x hx => ?_, fun e => ⟨vs, sq, by rw [reps_len r]; exact Nat.le_of_eq e.symm⟩⟩
  obtain ⟨v, hv, rv⟩ := Paired.at r hx
  refine ⟨⟨vs, v, sq, hv⟩, fun u H' y => ?_⟩
  obtain ⟨e, f⟩ := y
  subst e
  have e2 : u = v := Option.some.inj ((f vs sq).symm.trans hv)
  subst e2
  exact ⟨S2, Mv.refl g, Rep.mono ex rv⟩
def rng (lo : Int) (n : Nat) : List Int := (List.range n).map fun (i : Nat) => lo + (i : Int)
theorem rng_at {lo : Int} {n i : Nat} {x : Int} (h : (rng lo n)[i]? = some x) : i < n ∧ x = lo + (i : Int) := by
  unfold rng at h
  rw [List.getElem?_map] at h
  by_cases hi : i < n
  · rw [List.getElem?_range hi] at h
    exact ⟨hi, (Option.some.inj h).symm⟩
  · rw [List.getElem?_eq_none (by rw [List.length_range]; omega)] at h
    cases h
theorem rng_len {lo : Int} {n : Nat} : (rng lo n).length = n := by unfold rng; rw [List.length_map, List.length_range]
theorem it_rng {Fx : Addr → Prop} {lo : Int} {n : Nat} {S0 H0 : Hp} : ItOk K Fx (Itr lo n) (rng lo n) S0 H0 := fun i O S H ex fx st g => by
  refine ⟨fun x hx => ?_, fun e => ?_⟩
  · obtain ⟨h1, h2⟩ := rng_at hx
    refine ⟨h1, fun v H' y => ?_⟩
    obtain ⟨e, f⟩ := y
    subst e
    subst f
    exact ⟨S, Mv.refl g, by rw [h2]; rfl⟩
  · rw [rng_len] at e
    exact Nat.le_of_eq e.symm
theorem evi_rng1 {P : List Int → Prop} (h : EvA W W1 K ta δ fun g : Int × Unit => (-(2 ^ 62) ≤ g.1 ∧ g.1 < 2 ^ 62) ∧ P (rng 0 g.1.toNat)) : EvI W W1 K (iRng1 ta) δ P := fun O S H σ s R q => h O S H σ s _ fun vs S1 H1 g m hr p => by
  obtain ⟨v, r, e, hv, e2⟩ := hr
  have e2' : r = [] := e2
  subst e2' e
  exact ⟨g.1, congrArg (fun z => [z]) hv, p.1.1, p.1.2, q _ S1 H1 _ m it_rng p.2⟩
theorem evi_rng2 {P : List Int → Prop} (h : EvA W W1 K ta δ fun g : Int × Int × Unit => (-(2 ^ 62) ≤ g.1 ∧ g.1 < 2 ^ 62 ∧ -(2 ^ 62) ≤ g.2.1 ∧ g.2.1 < 2 ^ 62) ∧ P (rng g.1 (g.2.1 - g.1).toNat)) : EvI W W1 K (iRng2 ta) δ P := fun O S H σ s R q => h O S H σ s _ fun vs S1 H1 g m hr p => by
  obtain ⟨v, r, e, hv, v2, r2, e1, hv2, e2⟩ := hr
  have e2' : r2 = [] := e2
  subst e2' e1 e
  obtain rfl : v = .int g.1 := hv
  obtain rfl : v2 = .int g.2.1 := hv2
  exact ⟨g.1, g.2.1, rfl, p.1, q _ S1 H1 _ m it_rng p.2⟩
end

/-! ### for -/
section
variable {W W1 W2 W3 W4 : Wd} {K : Frag} {O : Addr → Prop} {S H S1 H1 S2 H2 : Hp} {σ : L2.St} {δ : DEnv} {α β κ : Type} [Rep α] [Rep β] [DKey κ] {te : TE} {wi : TI} {g : TG} {tb : TS} {D : DE β}
/-- the loop from an iterator: Inv by the turn -/
theorem for_run (Wi : Nat → Wd) {J : It} {xs : List α} (it : ItOk K (fun _ => False) J xs S H) (c : Cf (Wi 0) K O S H σ δ) {E : Ends} (r : Reach K O S H D E) (Inv : Nat → DEnv → Prop) (h0 : Inv 0 δ)
    (hs : ∀ (i : Nat) x δ', i < xs.length → xs[i]? = some x → Inv i δ' → Tg (Wi i) K g x δ' fun δ2 => Sd (Wi i) K tb δ2 { D with nx := fun W' δ' => Wle W' (Wi (i + 1)) ∧ Inv (i + 1) δ', ct := fun W' δ' => Wle W' (Wi (i + 1)) ∧ Inv (i + 1) δ', bk := D.nx }) (hd : ∀ δ', Inv xs.length δ' → D.nx (Wi xs.length) δ') :
    ∃ Wm : Nat → Nat → L2.St → Hp → Prop, (∃ m, Wm 0 m σ H) ∧ ∀ i m σ H, Wm i m σ H →
      (J.stop i H ∧ E.nx σ H) ∨ (J.go i H ∧ ∃ N : L2.St → Hp → Prop, (∀ σ' H', N σ' H' → ∃ m', m' < m ∧ Wm (i + 1) m' σ' H') ∧ ∀ x H', J.yld i H x H' → g x σ H' fun σ2 H2 => tb { E with nx := N, ct := N, bk := E.nx } σ2 H2) := by
  refine ⟨fun i m σ' H' => m = xs.length - i ∧ i ≤ xs.length ∧ ∃ S' δ', Mo O S H S' H' ∧ Cf (Wi i) K O S' H' σ' δ' ∧ Inv i δ', ⟨xs.length, by simp, Nat.zero_le _, S, δ, Mo.refl, c, h0⟩, ?_⟩
  rintro i m σ' H' ⟨rfl, hi, S', δ', mo, c', iv⟩
  have k := it i _ S' H' mo.ex (fun a z => z.elim) mo.stay c'.g
  by_cases hlt : i < xs.length
  · have hx : xs[i]? = some xs[i] := List.getElem?_eq_getElem hlt
    obtain ⟨go, yl⟩ := k.1 _ hx
    refine .inr ⟨go, fun σ2 H2 => ∃ S2 δ2, Mo O S H S2 H2 ∧ Cf (Wi (i + 1)) K O S2 H2 σ2 δ2 ∧ Inv (i + 1) δ2, fun σ2 H2 q => ⟨xs.length - (i + 1), by omega, rfl, hlt, q⟩, fun v H2 y => ?_⟩
    obtain ⟨S2, m2, rv⟩ := yl v H2 y
    have mo2 := mo.trans (m2.mo fun _ z => .inl z)
    refine hs i _ δ' hlt hx iv O S2 H2 σ' v (c'.mv m2) rv _ fun σ3 δ3 c3 h3 => ?_
    refine h3 O S2 H2 σ3 c3 _ ⟨fun S4 H4 σ4 δ4 m4 c4 q => ⟨S4, δ4, mo2.trans m4, c4.wle q.1, q.2⟩, fun S4 H4 σ4 δ4 m4 c4 q => r.nx S4 H4 σ4 δ4 (mo2.trans m4) c4 q, fun S4 H4 σ4 δ4 m4 c4 q => ⟨S4, δ4, mo2.trans m4, c4.wle q.1, q.2⟩, fun v S4 H4 y m4 q p => r.rt v S4 H4 y (mo2.mv m4) q p, fun q o S4 H4 m4 f p => r.rg q o S4 H4 (mo2.mv m4) f p⟩
  · have e : i = xs.length := by omega
    subst e
    exact .inl ⟨k.2 rfl, r.nx S' H' σ' δ' mo c' (hd δ' iv)⟩
theorem sd_for (h : EvI W W1 K wi δ fun xs : List α => ∃ (Wi : Nat → Wd) (Inv : Nat → DEnv → Prop), Wi 0 = W1 ∧ Inv 0 δ ∧ (∀ (i : Nat) x δ', i < xs.length → xs[i]? = some x → Inv i δ' → Tg (Wi i) K g x δ' fun δ2 => Sd (Wi i) K tb δ2 { D with nx := fun W' δ' => Wle W' (Wi (i + 1)) ∧ Inv (i + 1) δ', ct := fun W' δ' => Wle W' (Wi (i + 1)) ∧ Inv (i + 1) δ', bk := D.nx }) ∧ ∀ δ', Inv xs.length δ' → D.nx (Wi xs.length) δ') :
    Sd W K (tFor wi g tb) δ D := fun O S H σ c E r => h _ S H σ c.stt _ fun J S1 H1 xs m it ⟨Wi, Iv, e, h0, hs, hd⟩ => by
  subst e
  exact for_run Wi it (c.mv m) (r.mo (m.mo fun _ z => .inl z)) Iv h0 hs hd
end

theorem Fresh.relockA {W : Wd} {O : Addr → Prop} {S H : Hp} {d D : Addr} {u o o2 : HO} (f : Fresh W O S H D o) (g : Good W O S H) (hS : S d = some u) : Fresh W O S (upd H d o2) D o := by
  have ne : D ≠ d := fun z => by
    have y := f.s
    rw [z, hS] at y
    cases y
  have l := W.loc g.ok (H' := upd H d o2) fun a h => upd_ne fun e => by
    have z := g.fpS a h
    rw [e, hS] at z
    cases z
  exact ⟨by rw [upd_ne ne]; exact f.at_, f.s, fun h => f.f ((l.2 D).mp h), f.o⟩
/-! ### locks: a dict that is walked -/
def tLockO (t : TS) : TS := fun D σ H => tLock t D σ H ∨ t D σ H
def tLockOE (t : TE) : TE := fun σ H Q => tLockE t σ H Q ∨ t σ H Q
theorem ps_lockO {X : Cx} {st : Stmt} {t : TS} (h : PS X st t) : PS X st (tLockO t) := ⟨fun pins s σ H D I hw => hw.elim ((ps_lock h).run pins s σ H D I) (h.run pins s σ H D I)⟩
theorem pe_lockO {X : Cx} {e : Expr} {t : TE} (h : PE X e t) : PE X e (tLockOE t) := ⟨fun pins s σ H Q I hw => hw.elim ((pe_lock h).run pins s σ H Q I) (h.run pins s σ H Q I)⟩
section
variable {W W1 W2 W3 W4 : Wd} {K : Frag} {O : Addr → Prop} {S H S1 H1 S2 H2 : Hp} {σ : L2.St} {δ : DEnv} {α β κ : Type} [Rep α] [Rep β] [DKey κ] {d : Addr} {u : HO} {ob : Obj}
theorem Good.relock (g : Good W O S H) (hS : S d = some u) (o : HO) (ho : o = u ∨ (isDic u ∧ ∃ ob, o = .frz ob u)) : Good W O S (upd H d o) := by
  have l := W.loc g.ok (H' := upd H d o) fun a h => upd_ne fun e => by
    have z := g.fpS a h
    rw [e, hS] at z
    cases z
  refine ⟨fun a w e => ?_, l.1, fun a h => g.fpS a ((l.2 a).mp h), fun a h => g.fpO a ((l.2 a).mp h), g.oS, fun a h => ?_⟩
  · by_cases z : a = d
    · subst z
      rw [hS] at e
      cases e
      rw [upd_same]
      rcases ho with rfl | ⟨h1, ob, rfl⟩
      · exact .inl rfl
      · exact .inr ⟨h1, ob, rfl⟩
    · rw [upd_ne z]
      exact g.sub a w e
  · rw [upd_ne fun z => by
      have y := g.oS a h
      rw [z, hS] at y
      cases y]
    exact g.oH a h
theorem Stt.relock (s : Stt W K O S H σ δ) (hS : S d = some u) (o : HO) (ho : o = u ∨ (isDic u ∧ ∃ ob, o = .frz ob u)) : Stt W K O S (upd H d o) σ δ := by
  refine ⟨s.g.relock hS o ho, ⟨s.sl.1, fun i e hd => ?_⟩, s.own⟩
  obtain ⟨ov, h1, h2⟩ := s.sl.2 i e hd
  exact ⟨ov, h1, h2.mv (Ex.refl S) fun h3 a ea => upd_ne fun z => by
    have y := s.g.oS a (s.own a ⟨i, e, hd, h3, by rw [h1, ea]⟩)
    rw [z, hS] at y
    cases y⟩
theorem Cf.relock (c : Cf W K O S H σ δ) (hS : S d = some u) (o : HO) (ho : o = u ∨ (isDic u ∧ ∃ ob, o = .frz ob u)) : Cf W K O S (upd H d o) σ δ :=
  ⟨c.g.relock hS o ho, (c.stt.relock hS o ho).sl, c.dst, c.out⟩
/-- from the locked heap back -/
theorem Mo.unlock (g : Good W O S H) (hH : H d = some u) (hS : S d = some u) (m : Mo O S (upd H d (.frz ob u)) S1 H1) : H1 d = some (.frz ob u) ∧ Mo O S H S1 (upd H1 d u) := by
  have nO : ∀ a, O a → a ≠ d := fun a h z => by
    have y := g.oS a h
    rw [z, hS] at y
    cases y
  refine ⟨by rw [m.stay d (by rw [hS]; intro z; cases z), upd_same], ⟨m.ex, fun a h => ?_, fun a h => ?_⟩⟩
  · rw [upd_ne (nO a h), m.keep a h, upd_ne (nO a h)]
  · by_cases z : a = d
    · rw [z, upd_same, hH]
    · rw [upd_ne z, m.stay a h, upd_ne z]
theorem Mv.unlock (g : Good W O S H) (hH : H d = some u) (hS : S d = some u) (m : Mv W1 O S (upd H d (.frz ob u)) S1 H1) : H1 d = some (.frz ob u) ∧ Mv W1 O S H S1 (upd H1 d u) := by
  have k := Mo.unlock g hH hS (m.mo fun _ h => h)
  exact ⟨k.1, k.2.ex, k.2.keep, k.2.stay, m.good.relock (m.ex _ _ hS) u (.inl rfl)⟩
theorem RepKV.at {kvs : List (Key × V)} {xs : List (κ × α)} {i : Nat} {y : κ × α} (r : RepKV K S kvs xs) (h : xs[i]? = some y) : ∃ v, kvs[i]? = some (DKey.key y.1, v) ∧ rep K S v y.2 := by
  obtain ⟨p, e, h1, h2⟩ := Paired.at r h
  obtain ⟨k, v⟩ := p
  have h1' : k = DKey.key y.1 := h1
  subst h1'
  exact ⟨v, e, h2⟩
theorem repkv_len {kvs : List (Key × V)} {xs : List (κ × α)} (r : RepKV K S kvs xs) : kvs.length = xs.length := Paired.length r
theorem it_keys {Fx : Addr → Prop} {kvs : List (Key × V)} {xs : List (κ × α)} {S0 H0 : Hp} (hS : S0 d = some (.dK kvs)) (hH : H0 d = some (.frz ob (.dK kvs))) (r : RepKV K S0 kvs xs) : ItOk K Fx (Itk d ob kvs) (xs.map Prod.fst) S0 H0 := fun i O S H ex fx st g => by
  have hd : H d = some (.frz ob (.dK kvs)) := (st d (by rw [hS]; intro z; cases z)).trans hH
  have len := repkv_len r
  refine ⟨fun x hx => ?_, fun e => ⟨hd, by rw [len, e, List.length_map]; exact Nat.le_refl _⟩⟩
  rw [List.getElem?_map] at hx
  obtain ⟨y, hy, rfl⟩ := Option.map_eq_some_iff.mp hx
  obtain ⟨v, hv, rv⟩ := RepKV.at r hy
  refine ⟨⟨hd, (List.getElem?_eq_some_iff.mp hv).1⟩, fun w H' yl => ?_⟩
  obtain ⟨e, k, v', hk, ew⟩ := yl
  subst e
  rw [hv] at hk
  cases hk
  subst ew
  exact ⟨S, Mv.refl g, Flat.flat.mpr (DKey.kv _)⟩
theorem it_vals {Fx : Addr → Prop} {kvs : List (Key × V)} {xs : List (κ × α)} {S0 H0 : Hp} (hS : S0 d = some (.dK kvs)) (hH : H0 d = some (.frz ob (.dK kvs))) (r : RepKV K S0 kvs xs) : ItOk K Fx (Itd d ob kvs) (xs.map Prod.snd) S0 H0 := fun i O S H ex fx st g => by
  have hd : H d = some (.frz ob (.dK kvs)) := (st d (by rw [hS]; intro z; cases z)).trans hH
  have len := repkv_len r
  refine ⟨fun x hx => ?_, fun e => ⟨hd, by rw [len, e, List.length_map]; exact Nat.le_refl _⟩⟩
  rw [List.getElem?_map] at hx
  obtain ⟨y, hy, rfl⟩ := Option.map_eq_some_iff.mp hx
  obtain ⟨v, hv, rv⟩ := RepKV.at r hy
  refine ⟨⟨hd, (List.getElem?_eq_some_iff.mp hv).1⟩, fun w H' yl => ?_⟩
  obtain ⟨e, k, hk⟩ := yl
  subst e
  rw [hv] at hk
  cases hk
  exact ⟨S, Mv.refl g, Rep.mono ex rv⟩
theorem it_items {Fx : Addr → Prop} {kvs : List (Key × V)} {xs : List (κ × α)} {S0 H0 : Hp} (hS : S0 d = some (.dK kvs)) (hH : H0 d = some (.frz ob (.dK kvs))) (r : RepKV K S0 kvs xs) : ItOk K Fx (Iti d ob kvs) xs S0 H0 := fun i O S H ex fx st g => by
  have hd : H d = some (.frz ob (.dK kvs)) := (st d (by rw [hS]; intro z; cases z)).trans hH
  have len := repkv_len r
  refine ⟨fun x hx => ?_, fun e => ⟨hd, by rw [len, e]; exact Nat.le_refl _⟩⟩
  obtain ⟨v, hv, rv⟩ := RepKV.at r hx
  refine ⟨⟨hd, (List.getElem?_eq_some_iff.mp hv).1⟩, fun w H' yl => ?_⟩
  obtain ⟨T, k, v', hk, ew, hT, eH⟩ := yl
  rw [hv] at hk
  cases hk
  subst ew eH
  exact ⟨_, Mv.new g hT, T, _, _, rfl, .inl (.inl upd_same), Flat.flat.mpr (DKey.kv _), Rep.mono (ex.trans (Ex.upd (g.sub.nn hT))) rv⟩
variable {g : TG} {tb : TS} {D : DE β} {wi : TI} {i : Nat}
/-- the dict at slot i is walked, by wi -/
theorem sd_forLock {γ : Type} [Rep γ] {mk : Addr → Obj → List (Key × V) → It} {xs : List (κ × α)} {ys : List γ} (hi : δ[i]? = some (sD (⟨xs⟩ : Dc κ α)))
    (hw : ∀ (σ : L2.St) (H : Hp) (R : It → Hp → Prop) (d : Addr) (o : Obj) (kvs : List (Key × V)), σ[i]? = some (some (.ref d)) → H d = some (.frz o (.dK kvs)) → R (mk d o kvs) H → wi σ H R)
    (hm : ∀ (d : Addr) (ob : Obj) (kvs : List (Key × V)) (S0 H0 : Hp), S0 d = some (.dK kvs) → H0 d = some (.frz ob (.dK kvs)) → RepKV K S0 kvs xs → ItOk K (fun _ => False) (mk d ob kvs) ys S0 H0)
    (Inv : Nat → DEnv → Prop) (h0 : Inv 0 δ) (hs : ∀ (i : Nat) x δ', ys[i]? = some x → Inv i δ' → Tg W K g x δ' fun δ2 => Sd W K tb δ2 { D with nx := fun W' δ' => Wle W' W ∧ Inv (i + 1) δ', ct := fun W' δ' => Wle W' W ∧ Inv (i + 1) δ', bk := D.nx }) (hd : ∀ δ', Inv ys.length δ' → D.nx W δ') :
    Sd W K (tLockO (tFor wi g tb)) δ D := fun O S H σ c E r => by
  obtain ⟨ov, e, v, ev, a, kvs, ea, ha, rv, nd⟩ := c.sl.2 i _ hi
  subst ev ea
  rcases c.g.sub a _ ha with h | ⟨hx, ob, h⟩
  · refine .inl ⟨a, _, h, trivial, fun od => ?_⟩
    have c1 := c.relock ha (.frz od (.dK kvs)) (.inr ⟨trivial, od, rfl⟩)
    refine hw σ _ _ a od kvs e upd_same (for_run (fun _ => W) (hm a od kvs S _ ha upd_same rv) c1 (E := ⟨_, _, _, _⟩) ⟨fun S' H' σ' δ' m c' q => ?_, fun S' H' σ' δ' m c' q => ?_, fun S' H' σ' δ' m c' q => ?_, fun v S' H' y m q p => ?_, fun q o S' H' m f p => ?_⟩ Inv h0 (fun i x δ' _ => hs i x δ') hd)
    · have k := Mo.unlock c.good h ha m
      exact ⟨k.1, r.nx S' _ σ' δ' k.2 (c'.relock (m.ex _ _ ha) _ (.inl rfl)) q⟩
    · have k := Mo.unlock c.good h ha m
      exact ⟨k.1, r.bk S' _ σ' δ' k.2 (c'.relock (m.ex _ _ ha) _ (.inl rfl)) q⟩
    · have k := Mo.unlock c.good h ha m
      exact ⟨k.1, r.ct S' _ σ' δ' k.2 (c'.relock (m.ex _ _ ha) _ (.inl rfl)) q⟩
    · have k := Mv.unlock c.good h ha m
      exact ⟨k.1, r.rt v S' _ y k.2 q p⟩
    · have k := Mv.unlock c.good h ha m
      exact ⟨k.1, r.rg q o S' _ k.2 (f.relockA m.good (m.ex _ _ ha)) p⟩
  · exact .inr (hw σ _ _ a ob kvs e h (for_run (fun _ => W) (hm a ob kvs S _ ha h rv) c r Inv h0 (fun i x δ' _ => hs i x δ') hd))
theorem sd_forKeys {xs : List (κ × α)} (hi : δ[i]? = some (sD (⟨xs⟩ : Dc κ α))) (Inv : Nat → DEnv → Prop) (h0 : Inv 0 δ)
    (hs : ∀ (i : Nat) x δ', (xs.map Prod.fst)[i]? = some x → Inv i δ' → Tg W K g x δ' fun δ2 => Sd W K tb δ2 { D with nx := fun W' δ' => Wle W' W ∧ Inv (i + 1) δ', ct := fun W' δ' => Wle W' W ∧ Inv (i + 1) δ', bk := D.nx }) (hd : ∀ δ', Inv xs.length δ' → D.nx W δ') :
    Sd W K (tLockO (tFor (iKeys (tVar i)) g tb)) δ D :=
  sd_forLock (mk := Itk) hi (fun σ H R d o kvs e h q => ⟨_, e, d, o, rfl, .inl ⟨kvs, h, q⟩⟩) (fun d ob kvs S0 H0 h1 h2 h3 => it_keys h1 h2 h3) Inv h0 hs (fun δ' q => hd δ' (by rw [List.length_map] at q; exact q))
theorem sd_forItems {xs : List (κ × α)} (hi : δ[i]? = some (sD (⟨xs⟩ : Dc κ α))) (Inv : Nat → DEnv → Prop) (h0 : Inv 0 δ)
    (hs : ∀ (i : Nat) x δ', xs[i]? = some x → Inv i δ' → Tg W K g x δ' fun δ2 => Sd W K tb δ2 { D with nx := fun W' δ' => Wle W' W ∧ Inv (i + 1) δ', ct := fun W' δ' => Wle W' W ∧ Inv (i + 1) δ', bk := D.nx }) (hd : ∀ δ', Inv xs.length δ' → D.nx W δ') :
    Sd W K (tLockO (tFor (iItems (tVar i)) g tb)) δ D :=
  sd_forLock (mk := Iti) hi (fun σ H R d o kvs e h q => ⟨_, e, d, o, kvs, rfl, h, q⟩) (fun d ob kvs S0 H0 h1 h2 h3 => it_items h1 h2 h3) Inv h0 hs hd
end

/-! ### comprehensions -/
def wipeD (δ : DEnv) : List Nat → DEnv
  | [] => δ
  | v :: vs => (wipeD δ vs).set v .non
theorem sl_none {K : Frag} {S H : Hp} {σ : L2.St} {δ : DEnv} (h : Sl K S H σ δ) (i : Nat) : Sl K S H (σ.set i none) (δ.set i .non) := by
  refine ⟨by rw [List.length_set, List.length_set]; exact h.1, fun j e hj => ?_⟩
  by_cases q : j = i
  · subst q
    rw [List.getElem?_set] at hj
    simp only [if_true] at hj
    split at hj
    · rename_i hl
      cases hj
      exact ⟨none, by rw [List.getElem?_set_self (by rw [h.1]; exact hl)], trivial⟩
    · cases hj
  · rw [List.getElem?_set_ne (Ne.symm q)] at hj ⊢
    exact h.2 j e hj
theorem own_none {σ : L2.St} {δ : DEnv} {i : Nat} {a : Addr} (h : OwnAt (σ.set i none) (δ.set i .non) a) : OwnAt σ δ a := by
  obtain ⟨j, e, h1, h2, h3⟩ := h
  by_cases hj : j = i
  · subst hj
    rw [List.getElem?_set] at h3
    simp only [if_true] at h3
    split at h3
    · cases h3
    · cases h3
  · rw [List.getElem?_set_ne (Ne.symm hj)] at h1 h3
    exact ⟨j, e, h1, h2, h3⟩
section
variable {W W1 W2 W3 W4 : Wd} {K : Frag} {O : Addr → Prop} {S H S1 H1 S2 H2 : Hp} {σ : L2.St} {δ : DEnv} {α β κ : Type} [Rep α] [Rep β] [DKey κ] {te tk tv : TE} {tt : TT} {wi : TI} {g : TG} {vs : List Nat}
theorem Stt.wipe (s : Stt W K O S H σ δ) : ∀ vs : List Nat, Stt W K O S H (wipe σ vs) (wipeD δ vs)
  | [] => s
  | v :: vs => by
    have k := Stt.wipe s vs
    exact ⟨k.g, sl_none k.sl v, fun a h => k.own a (own_none h)⟩
theorem Stt.set (s : Stt W K O S H σ δ) {i : Nat} {v : V} {x : α} (r : rep K S v x) : Stt W K O S H (σ.set i (some v)) (δ.set i (sD x)) :=
  ⟨s.g, s.sl.set (d := sD x) ⟨v, rfl, r⟩, fun a h => s.own a (own_set rfl h)⟩
/-- the target within a comprehension -/
def TgC {α : Type} [Rep α] (W : Wd) (K : Frag) (g : TG) (vs : List Nat) (x : α) (δ : DEnv) (N : DEnv → Prop) : Prop := ∀ O S H σ v, Stt W K O S H (L2.wipe σ vs) δ → rep K S v x → ∀ Q : L2.St → Hp → Prop,
  (∀ σ' δ', Stt W K O S H σ' δ' → L2.wipe σ' vs = L2.wipe σ vs → N δ' → Q σ' H) → g v (L2.wipe σ vs) H Q
theorem wipe_set {σ : L2.St} {i : Nat} {o : Option V} : ∀ {vs : List Nat}, i ∈ vs → L2.wipe (σ.set i o) vs = L2.wipe σ vs
  | v :: vs, h => by
    unfold L2.wipe
    by_cases e : i = v
    · subst e
      by_cases h2 : i ∈ vs
      · rw [wipe_set h2]
      · have c : ∀ {ws : List Nat}, i ∉ ws → L2.wipe (σ.set i o) ws = (L2.wipe σ ws).set i o := fun {ws} => by
          induction ws with
          | nil => intro _; rfl
          | cons w ws ih =>
            intro hw
            unfold L2.wipe
            rw [ih fun z => hw (List.mem_cons_of_mem _ z), List.set_comm]
            exact fun z => hw (by rw [z]; exact List.mem_cons_self)
        rw [c h2, List.set_set]
    · have h2 : i ∈ vs := by
        rcases List.mem_cons.mp h with z | z
        · exact absurd z e
        · exact z
      rw [wipe_set h2]
theorem wipe_idem : ∀ {vs : List Nat}, L2.wipe (L2.wipe σ vs) vs = L2.wipe σ vs := fun {vs} => by
  have c : ∀ {ws : List Nat}, (∀ w ∈ ws, w ∈ vs) → L2.wipe (L2.wipe σ ws) vs = L2.wipe σ vs := fun {ws} => by
    induction ws with
    | nil => intro _; rfl
    | cons w ws ih =>
      intro h
      show L2.wipe ((L2.wipe σ ws).set w none) vs = _
      rw [wipe_set (h w List.mem_cons_self), ih fun z hz => h z (List.mem_cons_of_mem _ hz)]
  exact c fun _ h => h
theorem tgc_name {x : α} {i : Nat} {N : DEnv → Prop} (h : N (δ.set i (sD x))) (hi : i ∈ vs := by decide) : TgC W K (gName i) vs x δ N := fun O S H σ v s r Q q =>
  q _ _ (s.set r) (by rw [wipe_set hi, wipe_idem]) h
theorem tgc_two {x : α × β} {i j : Nat} {N : DEnv → Prop} (h : N ((δ.set i (sD x.1)).set j (sD x.2))) (hi : i ∈ vs := by decide) (hj : j ∈ vs := by decide) : TgC W K (gTup K 2 (gCons (gName i) (gCons (gName j) gNil))) vs x δ N := fun O S H σ v s ⟨a, v1, v2, e, hs, r1, r2⟩ Q q => by
  subst e
  exact ⟨a, _, rfl, s.g.sub.sqT hs, rfl, v1, _, rfl, v2, [], rfl, rfl, q _ _ ((s.set r1).set r2) (by rw [wipe_set hj, wipe_set hi, wipe_idem]) h⟩
theorem tgc_three {γ : Type} [Rep γ] {x : T3 α β γ} {i j k : Nat} {N : DEnv → Prop} (h : N (((δ.set i (sD x.a)).set j (sD x.b)).set k (sD x.c))) (hi : i ∈ vs := by decide) (hj : j ∈ vs := by decide) (hk : k ∈ vs := by decide) :
    TgC W K (gTup K 3 (gCons (gName i) (gCons (gName j) (gCons (gName k) gNil)))) vs x δ N := fun O S H σ v s ⟨a, v1, v2, v3, e, hs, r1, r2, r3⟩ Q q => by
  subst e
  exact ⟨a, _, rfl, s.g.sub.sqT hs, rfl, v1, _, rfl, v2, _, rfl, v3, [], rfl, rfl, q _ _ (((s.set r1).set r2).set r3) (by rw [wipe_set hk, wipe_set hj, wipe_set hi, wipe_idem]) h⟩
theorem tgc_four {γ ζ : Type} [Rep γ] [Rep ζ] {x : T4 α β γ ζ} {i j k l : Nat} {N : DEnv → Prop} (h : N ((((δ.set i (sD x.a)).set j (sD x.b)).set k (sD x.c)).set l (sD x.d))) (hi : i ∈ vs := by decide) (hj : j ∈ vs := by decide) (hk : k ∈ vs := by decide) (hl : l ∈ vs := by decide) :
    TgC W K (gTup K 4 (gCons (gName i) (gCons (gName j) (gCons (gName k) (gCons (gName l) gNil))))) vs x δ N := fun O S H σ v s ⟨a, v1, v2, v3, v4, e, hs, r1, r2, r3, r4⟩ Q q => by
  subst e
  exact ⟨a, _, rfl, s.g.sub.sqT hs, rfl, v1, _, rfl, v2, _, rfl, v3, _, rfl, v4, [], rfl, rfl, q _ _ ((((s.set r1).set r2).set r3).set r4) (by rw [wipe_set hl, wipe_set hk, wipe_set hj, wipe_set hi, wipe_idem]) h⟩

end
end DW
set_option maxHeartbeats 4000000
namespace DW
open PySem PySem.Spec PyProof.Rows L2

theorem flat_reps {α : Type} [Flat α] {K : Frag} {S : Hp} : ∀ {vs : List V} {xs : List α}, Reps K S vs xs → vs = xs.map Flat.val
  | _, _, .nil => rfl
  | v :: vs, x :: xs, .cons r t => by
    have e : v = Flat.val x := Flat.flat.mp r
    rw [e, flat_reps t] <;> rfl
theorem reps_flat {α : Type} [Flat α] {K : Frag} {S : Hp} : ∀ {xs : List α}, Reps K S (xs.map Flat.val) xs
  | [] => .nil
  | x :: xs => .cons (Flat.flat.mpr rfl) reps_flat
theorem reps_cut {α : Type} [Rep α] {K : Frag} {S : Hp} : ∀ {vs : List V} {xs : List α} (n : Nat), Reps K S vs xs → Reps K S (vs.drop n) (xs.drop n)
  | _, _, 0, r => r
  | _, _, _ + 1, .nil => .nil
  | _, _, n + 1, .cons _ t => reps_cut n t
theorem reps_take {α : Type} [Rep α] {K : Frag} {S : Hp} : ∀ {vs : List V} {xs : List α} (n : Nat), Reps K S vs xs → Reps K S (vs.take n) (xs.take n)
  | _, _, 0, _ => .nil
  | _, _, _ + 1, .nil => .nil
  | _, _, n + 1, .cons r t => .cons r (reps_take n t)
theorem reps_app {α : Type} [Rep α] {K : Frag} {S : Hp} : ∀ {vs us : List V} {xs ys : List α}, Reps K S vs xs → Reps K S us ys → Reps K S (vs ++ us) (xs ++ ys)
  | _, _, _, _, .nil, t => t
  | _, _, _, _, .cons r s, t => .cons r (reps_app s t)
theorem reps_rev {α : Type} [Rep α] {K : Frag} {S : Hp} : ∀ {vs : List V} {xs : List α}, Reps K S vs xs → Reps K S vs.reverse xs.reverse
  | _, _, .nil => .nil
  | v :: vs, x :: xs, .cons r s => by
    rw [List.reverse_cons, List.reverse_cons]
    exact reps_app (reps_rev s) (.cons r .nil)
/-- xs[lo:hi] -/
def cutL {α : Type} (xs : List α) (lo hi : Option Int) : List α := (xs.drop (HT.sIx xs.length 0 lo)).take (HT.sIx xs.length xs.length hi - HT.sIx xs.length 0 lo)
theorem reps_sl {α : Type} [Rep α] {K : Frag} {S : Hp} {vs : List V} {xs : List α} (lo hi : Option Int) (r : Reps K S vs xs) : Reps K S (cutV vs lo hi) (cutL xs lo hi) := by
  unfold cutV cutL
  rw [reps_len r]
  exact reps_take _ (reps_cut _ r)

section
variable {W W1 W2 W3 W4 : Wd} {K : Frag} {O : Addr → Prop} {S H S1 H1 S2 H2 : Hp} {σ : L2.St} {δ : DEnv} {α β γ κ : Type} [Rep α] [Rep β] [Rep γ] [DKey κ] {te ta tb tc : TE} {tr : TA} {tl th : TO}
/-! ### len, sum, max, min, all, any -/
theorem ev_lenC {P : Int → Prop} {r0 : List V → Hp → VK → Prop} (inc : ∀ {xs H Q}, (fun xs H Q => ∃ p ys, xs = [.ref p] ∧ (SqL K H p ys ∨ SqT K H p ys) ∧ Q (.int ys.length) H) xs H Q → r0 xs H Q) (h : EvC W W1 K ta δ fun xs : List α => P (xs.length : Int)) : Ev W W1 K (tCB r0 (tCons ta tNil)) δ P := fun O S H σ s Q q =>
  h O S H σ s _ fun a vs S1 H1 xs m l r p => inc ⟨a, vs, rfl, .inl (l.sq m.good.sub), by rw [reps_len r]; exact q _ S1 H1 _ m rfl p⟩
theorem ev_lenT {P : Int → Prop} {r0 : List V → Hp → VK → Prop} (inc : ∀ {xs H Q}, (fun xs H Q => ∃ p ys, xs = [.ref p] ∧ (SqL K H p ys ∨ SqT K H p ys) ∧ Q (.int ys.length) H) xs H Q → r0 xs H Q) (h : Ev W W1 K ta δ fun t : Tp α => P (t.l.length : Int)) : Ev W W1 K (tCB r0 (tCons ta tNil)) δ P := fun O S H σ s Q q =>
  h O S H σ s _ fun v S1 H1 t m hr p => by
    obtain ⟨a, vs, e, ha, r⟩ := hr
    subst e
    exact inc ⟨a, vs, rfl, .inr (m.good.sub.sqT ha), by rw [reps_len r]; exact q _ S1 H1 _ m rfl p⟩
theorem ev_lenT2 {P : Int → Prop} {r0 : List V → Hp → VK → Prop} (inc : ∀ {xs H Q}, (fun xs H Q => ∃ p ys, xs = [.ref p] ∧ (SqL K H p ys ∨ SqT K H p ys) ∧ Q (.int ys.length) H) xs H Q → r0 xs H Q) (h : Ev W W1 K ta δ fun t : α × β => P 2) : Ev W W1 K (tCB r0 (tCons ta tNil)) δ P := fun O S H σ s Q q =>
  h O S H σ s _ fun v S1 H1 t m hr p => by
    obtain ⟨a, v1, v2, e, ha, r⟩ := hr
    subst e
    exact inc ⟨a, _, rfl, .inr (m.good.sub.sqT ha), q _ S1 H1 _ m rfl p⟩
theorem ev_lenT4 {α' β' γ' δ' : Type} [Rep α'] [Rep β'] [Rep γ'] [Rep δ'] {P : Int → Prop} {r0 : List V → Hp → VK → Prop} (inc : ∀ {xs H Q}, (fun xs H Q => ∃ p ys, xs = [.ref p] ∧ (SqL K H p ys ∨ SqT K H p ys) ∧ Q (.int ys.length) H) xs H Q → r0 xs H Q) (h : Ev W W1 K ta δ fun t : T4 α' β' γ' δ' => P 4) : Ev W W1 K (tCB r0 (tCons ta tNil)) δ P := fun O S H σ s Q q =>
  h O S H σ s _ fun v S1 H1 t m hr p => by
    obtain ⟨a, v1, v2, v3, v4, e, ha, r⟩ := hr
    subst e
    exact inc ⟨a, _, rfl, .inr (m.good.sub.sqT ha), q _ S1 H1 _ m rfl p⟩
theorem ev_lenS {P : Int → Prop} {r0 : List V → Hp → VK → Prop} (inc : ∀ {xs H Q}, (fun xs H Q => ∃ z, xs = [.str z] ∧ z.length ≤ sizeLine ∧ Q (.int z.length) H) xs H Q → r0 xs H Q) (h : Ev W W1 K ta δ fun t : Str => t.length ≤ 100000 ∧ P (t.length : Int)) : Ev W W1 K (tCB r0 (tCons ta tNil)) δ P := fun O S H σ s Q q =>
  h O S H σ s _ fun v S1 H1 t m r p => inc ⟨t, congrArg (fun z => [z]) r, small_len p.1, q _ S1 H1 _ m rfl p.2⟩
theorem ev_lenD {P : Int → Prop} {r0 : List V → Hp → VK → Prop} (inc : ∀ {xs H Q}, (fun xs H Q => ∃ a kvs, xs = [V.ref a] ∧ Rd H a (.dK kvs) ∧ Q (.int kvs.length) H) xs H Q → r0 xs H Q) (h : EvCD W W1 K ta δ fun xs : List (κ × α) => P (xs.length : Int)) : Ev W W1 K (tCB r0 (tCons ta tNil)) δ P := fun O S H σ s Q q =>
  h O S H σ s _ fun a kvs S1 H1 xs m l r nd p => inc ⟨a, kvs, rfl, l.rd m.good.sub, by rw [repkv_len r]; exact q _ S1 H1 _ m rfl p⟩
theorem ev_sum {P : Int → Prop} (h : EvC W W1 K ta δ fun xs : List Int => P xs.sum) : Ev W W1 K (tCB (rSum K) (tCons ta tNil)) δ P := fun O S H σ s Q q =>
  h O S H σ s _ fun a vs S1 H1 xs m l r p => ⟨a, xs, rfl, by rw [show xs.map V.int = vs from (flat_reps r).symm]; exact l.sq m.good.sub, q _ S1 H1 _ m rfl p⟩
theorem ev_max {P : Int → Prop} (h : EvC W W1 K ta δ fun xs : List Int => 0 < xs.length ∧ ∀ m, m ∈ xs → (∀ y, y ∈ xs → y ≤ m) → P m) : Ev W W1 K (tCB (rMax K) (tCons ta tNil)) δ P := fun O S H σ s Q q =>
  h O S H σ s _ fun a vs S1 H1 xs m l r p => ⟨a, xs, rfl, by rw [show xs.map V.int = vs from (flat_reps r).symm]; exact l.sq m.good.sub, p.1, fun z h1 h2 => q _ S1 H1 _ m rfl (p.2 z h1 h2)⟩
theorem ev_min {P : Int → Prop} (h : EvC W W1 K ta δ fun xs : List Int => 0 < xs.length ∧ ∀ m, m ∈ xs → (∀ y, y ∈ xs → m ≤ y) → P m) : Ev W W1 K (tCB (rMin K) (tCons ta tNil)) δ P := fun O S H σ s Q q =>
  h O S H σ s _ fun a vs S1 H1 xs m l r p => ⟨a, xs, rfl, by rw [show xs.map V.int = vs from (flat_reps r).symm]; exact l.sq m.good.sub, p.1, fun z h1 h2 => q _ S1 H1 _ m rfl (p.2 z h1 h2)⟩
theorem ev_all {P : Bool → Prop} (h : EvC W W1 K ta δ fun xs : List Bool => P (xs.all id)) : Ev W W1 K (tCB (rAll K) (tCons ta tNil)) δ P := fun O S H σ s Q q =>
  h O S H σ s _ fun a vs S1 H1 xs m l r p => ⟨a, xs, rfl, by rw [show xs.map V.bl = vs from (flat_reps r).symm]; exact l.sq m.good.sub, q _ S1 H1 _ m rfl p⟩
theorem ev_any {P : Bool → Prop} (h : EvC W W1 K ta δ fun xs : List Bool => P (xs.any id)) : Ev W W1 K (tCB (rAny K) (tCons ta tNil)) δ P := fun O S H σ s Q q =>
  h O S H σ s _ fun a vs S1 H1 xs m l r p => ⟨a, xs, rfl, by rw [show xs.map V.bl = vs from (flat_reps r).symm]; exact l.sq m.good.sub, q _ S1 H1 _ m rfl p⟩
theorem ev_abs {P : Int → Prop} (h : Ev W W1 K ta δ fun i : Int => P (if i < 0 then -i else i)) : Ev W W1 K (tCB (fun xs H Q => ∃ i, xs = [.int i] ∧ Q (.int (if i < 0 then -i else i)) H) (tCons ta tNil)) δ P := fun O S H σ s Q q =>
  h O S H σ s _ fun v S1 H1 t m r p => ⟨t, congrArg (fun z => [z]) r, q _ S1 H1 _ m rfl p⟩
theorem ev_toint {P : Int → Prop} (h : Ev W W1 K ta δ P) : Ev W W1 K (tCB (fun xs H Q => (∃ i, xs = [.int i] ∧ Q (.int i) H) ∨ ∃ k, xs = [.bl k] ∧ Q (.int (if k then 1 else 0)) H) (tCons ta tNil)) δ P := fun O S H σ s Q q =>
  h O S H σ s _ fun v S1 H1 t m r p => .inl ⟨t, congrArg (fun z => [z]) r, q _ S1 H1 _ m rfl p⟩
theorem ev_btoint {P : Int → Prop} (h : Ev W W1 K ta δ fun b : Bool => P (if b then 1 else 0)) : Ev W W1 K (tCB (fun xs H Q => (∃ i, xs = [.int i] ∧ Q (.int i) H) ∨ ∃ k, xs = [.bl k] ∧ Q (.int (if k then 1 else 0)) H) (tCons ta tNil)) δ P := fun O S H σ s Q q =>
  h O S H σ s _ fun v S1 H1 t m r p => .inr ⟨t, congrArg (fun z => [z]) r, q _ S1 H1 _ m rfl p⟩
theorem ev_call2 {P : Int → Prop} {f : Int → Int → Int} (h : Ev W W1 K ta δ fun i : Int => Ev W1 W2 K tb δ fun j : Int => P (f i j)) : Ev W W2 K (tCB (fun xs H Q => ∃ i j, xs = [.int i, .int j] ∧ Q (.int (f i j)) H) (tCons ta (tCons tb tNil))) δ P := fun O S H σ s Q q =>
  h O S H σ s _ fun v S1 H1 x m r p => p O S1 H1 σ (s.mv m) _ fun u S2 H2 y m2 r2 p2 => by
    obtain rfl : v = .int x := r
    obtain rfl : u = .int y := r2
    exact ⟨x, y, rfl, q _ S2 H2 _ (m.trans m2) rfl p2⟩
theorem ev_min2 {P : Int → Prop} (h : Ev W W1 K ta δ fun i : Int => Ev W1 W2 K tb δ fun j : Int => P (if j < i then j else i)) : Ev W W2 K (tCB (fun xs H Q => ∃ i j, xs = [.int i, .int j] ∧ Q (.int (if j < i then j else i)) H) (tCons ta (tCons tb tNil))) δ P := ev_call2 (f := fun i j => if j < i then j else i) h
theorem ev_max2 {P : Int → Prop} (h : Ev W W1 K ta δ fun i : Int => Ev W1 W2 K tb δ fun j : Int => P (if j > i then j else i)) : Ev W W2 K (tCB (fun xs H Q => ∃ i j, xs = [.int i, .int j] ∧ Q (.int (if j > i then j else i)) H) (tCons ta (tCons tb tNil))) δ P := ev_call2 (f := fun i j => if j > i then j else i) h

/-! ### subscripts, slices -/
theorem atI_at {α : Type} {xs : List α} {i : Int} {x : α} (h : atI xs i = some x) : ∃ j : Nat, xs[j]? = some x ∧ (∀ {β : Type} {ys : List β}, ys.length = xs.length → atI ys i = ys[j]?) := by
  unfold atI at h
  cases e : ixN xs.length i with
  | none =>
    rw [e] at h
    cases h
  | some j =>
    rw [e] at h
    refine ⟨j, h, fun {β ys} el => ?_⟩
    unfold atI
    rw [el, e] <;> rfl
theorem ev_ixL {P : α → Prop} {r0 : R2} (inc : ∀ {x y H Q}, (rIxL K) x y H Q → r0 x y H Q) (h : EvC W W1 K ta δ fun xs : List α => Ev W1 W2 K tb δ fun i : Int => ∃ x, atI xs i = some x ∧ P x) : Ev W W2 K (tOp r0 ta tb) δ P := fun O S H σ s Q q =>
  h O S H σ s _ fun a vs S1 H1 xs m l r p => p O S1 H1 σ (s.mv m) _ fun u S2 H2 i m2 r2 p2 => by
    obtain rfl : u = .int i := r2
    obtain ⟨x, hx, px⟩ := p2
    obtain ⟨j, hj, hb⟩ := atI_at hx
    have r' := Reps.mono m2.ex r
    obtain ⟨v, hv, rv⟩ := Paired.at r' hj
    exact inc ⟨a, vs, i, v, rfl, rfl, (l.mv m2).sq m2.good.sub, (hb (reps_len r')).trans hv, q v S2 H2 x (m.trans m2) rv px⟩
theorem ev_ixT {P : α → Prop} {r0 : R2} (inc : ∀ {x y H Q}, (rIxT K) x y H Q → r0 x y H Q) (h : Ev W W1 K ta δ fun t : Tp α => Ev W1 W2 K tb δ fun i : Int => ∃ x, atI t.l i = some x ∧ P x) : Ev W W2 K (tOp r0 ta tb) δ P := fun O S H σ s Q q =>
  h O S H σ s _ fun v0 S1 H1 t m hr p => p O S1 H1 σ (s.mv m) _ fun u S2 H2 i m2 r2 p2 => by
    obtain ⟨a, vs, e, ha, r⟩ := hr
    subst e
    obtain rfl : u = .int i := r2
    obtain ⟨x, hx, px⟩ := p2
    obtain ⟨j, hj, hb⟩ := atI_at hx
    have r' := Reps.mono m2.ex r
    obtain ⟨v, hv, rv⟩ := Paired.at r' hj
    exact inc ⟨a, vs, i, v, rfl, rfl, m2.good.sub.sqT (m2.ex.sqT ha), (hb (reps_len r')).trans hv, q v S2 H2 x (m.trans m2) rv px⟩
theorem ev_p0 {P : α → Prop} {r0 : R2} (inc : ∀ {x y H Q}, (rIxT K) x y H Q → r0 x y H Q) (h : Ev W W1 K ta δ fun t : α × β => P t.1) : Ev W W1 K (tOp r0 ta (tC (.int 0))) δ P := fun O S H σ s Q q =>
  h O S H σ s _ fun v S1 H1 t m hr p => by
    obtain ⟨a, v1, v2, e, ha, r1, r2⟩ := hr
    subst e
    exact inc ⟨a, _, 0, v1, rfl, rfl, m.good.sub.sqT ha, rfl, q v1 S1 H1 _ m r1 p⟩
theorem ev_p1 {P : β → Prop} {r0 : R2} (inc : ∀ {x y H Q}, (rIxT K) x y H Q → r0 x y H Q) (h : Ev W W1 K ta δ fun t : α × β => P t.2) : Ev W W1 K (tOp r0 ta (tC (.int 1))) δ P := fun O S H σ s Q q =>
  h O S H σ s _ fun v S1 H1 t m hr p => by
    obtain ⟨a, v1, v2, e, ha, r1, r2⟩ := hr
    subst e
    exact inc ⟨a, _, 1, v2, rfl, rfl, m.good.sub.sqT ha, rfl, q v2 S1 H1 _ m r2 p⟩
theorem ev_t30 {P : α → Prop} {r0 : R2} (inc : ∀ {x y H Q}, (rIxT K) x y H Q → r0 x y H Q) (h : Ev W W1 K ta δ fun t : T3 α β γ => P t.a) : Ev W W1 K (tOp r0 ta (tC (.int 0))) δ P := fun O S H σ s Q q =>
  h O S H σ s _ fun v S1 H1 t m hr p => by
    obtain ⟨a, v1, v2, v3, e, ha, r1, r2, r3⟩ := hr
    subst e
    exact inc ⟨a, _, 0, v1, rfl, rfl, m.good.sub.sqT ha, rfl, q v1 S1 H1 _ m r1 p⟩
theorem ev_t31 {P : β → Prop} {r0 : R2} (inc : ∀ {x y H Q}, (rIxT K) x y H Q → r0 x y H Q) (h : Ev W W1 K ta δ fun t : T3 α β γ => P t.b) : Ev W W1 K (tOp r0 ta (tC (.int 1))) δ P := fun O S H σ s Q q =>
  h O S H σ s _ fun v S1 H1 t m hr p => by
    obtain ⟨a, v1, v2, v3, e, ha, r1, r2, r3⟩ := hr
    subst e
    exact inc ⟨a, _, 1, v2, rfl, rfl, m.good.sub.sqT ha, rfl, q v2 S1 H1 _ m r2 p⟩
theorem ev_t32 {P : γ → Prop} {r0 : R2} (inc : ∀ {x y H Q}, (rIxT K) x y H Q → r0 x y H Q) (h : Ev W W1 K ta δ fun t : T3 α β γ => P t.c) : Ev W W1 K (tOp r0 ta (tC (.int 2))) δ P := fun O S H σ s Q q =>
  h O S H σ s _ fun v S1 H1 t m hr p => by
    obtain ⟨a, v1, v2, v3, e, ha, r1, r2, r3⟩ := hr
    subst e
    exact inc ⟨a, _, 2, v3, rfl, rfl, m.good.sub.sqT ha, rfl, q v3 S1 H1 _ m r3 p⟩
section
variable {ζ : Type} [Rep ζ]
theorem ev_t40 {P : α → Prop} {r0 : R2} (inc : ∀ {x y H Q}, (rIxT K) x y H Q → r0 x y H Q) (h : Ev W W1 K ta δ fun t : T4 α β γ ζ => P t.a) : Ev W W1 K (tOp r0 ta (tC (.int 0))) δ P := fun O S H σ s Q q =>
  h O S H σ s _ fun v S1 H1 t m hr p => by
    obtain ⟨a, v1, v2, v3, v4, e, ha, r1, r2, r3, r4⟩ := hr
    subst e
    exact inc ⟨a, _, 0, v1, rfl, rfl, m.good.sub.sqT ha, rfl, q v1 S1 H1 _ m r1 p⟩
theorem ev_t41 {P : β → Prop} {r0 : R2} (inc : ∀ {x y H Q}, (rIxT K) x y H Q → r0 x y H Q) (h : Ev W W1 K ta δ fun t : T4 α β γ ζ => P t.b) : Ev W W1 K (tOp r0 ta (tC (.int 1))) δ P := fun O S H σ s Q q =>
  h O S H σ s _ fun v S1 H1 t m hr p => by
    obtain ⟨a, v1, v2, v3, v4, e, ha, r1, r2, r3, r4⟩ := hr
    subst e
    exact inc ⟨a, _, 1, v2, rfl, rfl, m.good.sub.sqT ha, rfl, q v2 S1 H1 _ m r2 p⟩
theorem ev_t42 {P : γ → Prop} {r0 : R2} (inc : ∀ {x y H Q}, (rIxT K) x y H Q → r0 x y H Q) (h : Ev W W1 K ta δ fun t : T4 α β γ ζ => P t.c) : Ev W W1 K (tOp r0 ta (tC (.int 2))) δ P := fun O S H σ s Q q =>
  h O S H σ s _ fun v S1 H1 t m hr p => by
    obtain ⟨a, v1, v2, v3, v4, e, ha, r1, r2, r3, r4⟩ := hr
    subst e
    exact inc ⟨a, _, 2, v3, rfl, rfl, m.good.sub.sqT ha, rfl, q v3 S1 H1 _ m r3 p⟩
theorem ev_t43 {P : ζ → Prop} {r0 : R2} (inc : ∀ {x y H Q}, (rIxT K) x y H Q → r0 x y H Q) (h : Ev W W1 K ta δ fun t : T4 α β γ ζ => P t.d) : Ev W W1 K (tOp r0 ta (tC (.int 3))) δ P := fun O S H σ s Q q =>
  h O S H σ s _ fun v S1 H1 t m hr p => by
    obtain ⟨a, v1, v2, v3, v4, e, ha, r1, r2, r3, r4⟩ := hr
    subst e
    exact inc ⟨a, _, 3, v4, rfl, rfl, m.good.sub.sqT ha, rfl, q v4 S1 H1 _ m r4 p⟩
/-- t[:3] of four -/
theorem ev_t4cut {P : T3 α β γ → Prop} {r0 : V → Option Int → Option Int → Hp → VK → Prop} (inc : ∀ {x l h H Q}, (rSlA K) x l h H Q → r0 x l h H Q) (h : Ev W W1 K ta δ fun t : T4 α β γ ζ => P ⟨t.a, t.b, t.c⟩) : Ev W W1 K (tSl r0 ta tNoPart (tPart (tC (.int 3)))) δ P := fun O S H σ s Q q =>
  h O S H σ s _ fun v S1 H1 t m hr p => by
    obtain ⟨a, v1, v2, v3, v4, e, ha, r1, r2, r3, r4⟩ := hr
    subst e
    refine ⟨3, rfl, inc ⟨a, _, rfl, m.good.sub.sqT ha, fun z => absurd z.2 (show ¬ ((3 : Nat) = 4) by decide), fun _ b hb => q _ (upd S1 b (.tup [v1, v2, v3])) _ _ (m.trans (Mv.new m.good hb)) ?_ p⟩⟩
    have ex := Ex.upd (o := .tup [v1, v2, v3]) (m.good.sub.nn hb)
    exact ⟨b, v1, v2, v3, rfl, .inl (.inl upd_same), Rep.mono ex r1, Rep.mono ex r2, Rep.mono ex r3⟩
/-- a triple and (x,) -/
theorem ev_cat31 {P : T4 α β γ ζ → Prop} {r0 : R2} (inc : ∀ {x y H Q}, (rCatA K) x y H Q → r0 x y H Q) (h : Ev W W1 K ta δ fun t : T3 α β γ => Ev W1 W2 K tb δ fun u : Tp ζ => ∃ x, u.l = [x] ∧ P ⟨t.a, t.b, t.c, x⟩) : Ev W W2 K (tOp r0 ta tb) δ P := fun O S H σ s Q q =>
  h O S H σ s _ fun v S1 H1 t m hr p => p O S1 H1 σ (s.mv m) _ fun u S2 H2 w m2 hr2 p2 => by
    obtain ⟨a, v1, v2, v3, e, ha, r1, r2, r3⟩ := hr
    subst e
    obtain ⟨b, us, e, hb, r4⟩ := hr2
    subst e
    obtain ⟨x, ex, px⟩ := p2
    rw [ex] at r4
    cases r4 with
    | cons r4 rn =>
      cases rn
      rename_i v4
      refine inc ⟨a, b, _, _, rfl, rfl, m2.good.sub.sqT (m2.ex.sqT ha), m2.good.sub.sqT hb, (by show 4 ≤ sizeLine; decide), (fun z => nomatch z), (fun _ z => nomatch z), fun _ _ c hc => q _ (upd S2 c (.tup [v1, v2, v3, v4])) _ _ ((m.trans m2).trans (Mv.new m2.good hc)) ?_ px⟩
      have ex := Ex.upd (o := .tup [v1, v2, v3, v4]) (m2.good.sub.nn hc)
      exact ⟨c, v1, v2, v3, v4, rfl, .inl (.inl upd_same), Rep.mono (m2.ex.trans ex) r1, Rep.mono (m2.ex.trans ex) r2, Rep.mono (m2.ex.trans ex) r3, Rep.mono ex r4⟩
end
/-- t[:2] of three -/
theorem ev_t3cut {P : α × β → Prop} {r0 : V → Option Int → Option Int → Hp → VK → Prop} (inc : ∀ {x l h H Q}, (rSlA K) x l h H Q → r0 x l h H Q) (h : Ev W W1 K ta δ fun t : T3 α β γ => P (t.a, t.b)) : Ev W W1 K (tSl r0 ta tNoPart (tPart (tC (.int 2)))) δ P := fun O S H σ s Q q =>
  h O S H σ s _ fun v S1 H1 t m hr p => by
    obtain ⟨a, v1, v2, v3, e, ha, r1, r2, r3⟩ := hr
    subst e
    refine ⟨2, rfl, inc ⟨a, _, rfl, m.good.sub.sqT ha, fun z => absurd z.2 (show ¬ ((2 : Nat) = 3) by decide), fun _ b hb => q _ (upd S1 b (.tup [v1, v2])) _ _ (m.trans (Mv.new m.good hb)) ?_ p⟩⟩
    have ex := Ex.upd (o := .tup [v1, v2]) (m.good.sub.nn hb)
    exact ⟨b, v1, v2, rfl, .inl (.inl upd_same), Rep.mono ex r1, Rep.mono ex r2⟩
def EvO (W W' : Wd) (K : Frag) (to : TO) (δ : DEnv) (P : Option Int → Prop) : Prop := ∀ O S H σ, Stt W K O S H σ δ → ∀ Q : Option Int → Hp → Prop, (∀ S' H' o, Mv W' O S H S' H' → P o → Q o H') → to σ H Q
theorem eo_none {P : Option Int → Prop} (p : P none) : EvO W W K tNoPart δ P := fun O S H σ s Q q => q S H none (Mv.refl s.g) p
theorem eo_some {P : Option Int → Prop} (h : Ev W W1 K te δ fun i : Int => P (some i)) : EvO W W1 K (tPart te) δ P := fun O S H σ s Q q => h O S H σ s _ fun v S1 H1 i m r p => ⟨i, r, q S1 H1 _ m p⟩
theorem ef_sl {P : List α → Prop} {r0 : V → Option Int → Option Int → Hp → VK → Prop} (inc : ∀ {x l h H Q}, (rSlL K) x l h H Q → r0 x l h H Q) (h : EvC W W1 K ta δ fun xs : List α => EvO W1 W2 K tl δ fun lo => EvO W2 W3 K th δ fun hi => P (cutL xs lo hi)) : EvF W W3 K (tSl r0 ta tl th) δ P := fun O S H σ s Q q =>
  h O S H σ s _ fun a vs S1 H1 xs m l r p => p O S1 H1 σ (s.mv m) _ fun S2 H2 lo m2 p2 => p2 O S2 H2 σ ((s.mv m).mv m2) _ fun S3 H3 hi m3 p3 => by
    have m4 := (m.trans m2).trans m3
    exact inc ⟨a, vs, rfl, ((l.mv m2).mv m3).sq m3.good.sub, fun c hc => q c _ S3 _ _ (m4.trans (Mv.temp m4.good hc)) (Fresh.new m4.good hc) (reps_sl lo hi ((r.mono m2.ex).mono m3.ex)) p3⟩
theorem ev_slT {P : Tp α → Prop} {r0 : V → Option Int → Option Int → Hp → VK → Prop} (inc : ∀ {x l h H Q}, (rSlA K) x l h H Q → r0 x l h H Q) (h : Ev W W1 K ta δ fun t : Tp α => EvO W1 W2 K tl δ fun lo => EvO W2 W3 K th δ fun hi => P ⟨cutL t.l lo hi⟩) : Ev W W3 K (tSl r0 ta tl th) δ P := fun O S H σ s Q q =>
  h O S H σ s _ fun v S1 H1 t m hr p => p O S1 H1 σ (s.mv m) _ fun S2 H2 lo m2 p2 => p2 O S2 H2 σ ((s.mv m).mv m2) _ fun S3 H3 hi m3 p3 => by
    obtain ⟨a, vs, e, ha, r⟩ := hr
    subst e
    have m4 := (m.trans m2).trans m3
    have r3 : Reps K S3 vs t.l := (r.mono m2.ex).mono m3.ex
    have ha3 := m3.ex.sqT (m2.ex.sqT ha)
    refine inc ⟨a, vs, rfl, m4.good.sub.sqT ha3, fun z => ?_, fun _ c hc => ?_⟩
    · refine q _ S3 H3 ⟨cutL t.l lo hi⟩ m4 ⟨a, vs, rfl, ha3, ?_⟩ p3
      have e : cutL t.l lo hi = t.l := by
        unfold cutL
        rw [← reps_len r3, z.1, z.2, Nat.sub_zero, List.drop_zero, reps_len r3, List.take_length]
      show Reps K S3 vs (cutL t.l lo hi)
      rw [e]
      exact r3
    · exact q _ (upd S3 c (.tup (cutV vs lo hi))) _ ⟨cutL t.l lo hi⟩ (m4.trans (Mv.new m4.good hc)) ⟨c, _, rfl, .inl (.inl upd_same), (reps_sl lo hi r3).mono (Ex.upd (m4.good.sub.nn hc))⟩ p3
theorem ef_revL {P : List α → Prop} (h : EvC W W1 K ta δ fun xs : List α => P xs.reverse) : EvF W W1 K (tRevL K ta) δ P := fun O S H σ s Q q =>
  h O S H σ s _ fun a vs S1 H1 xs m l r p => ⟨a, vs, rfl, l.sq m.good.sub, fun c hc => q c _ S1 _ _ (m.trans (Mv.temp m.good hc)) (Fresh.new m.good hc) (reps_rev r) p⟩

/-! ### list(..), tuple(..), +, in -/
theorem ef_listC {P : List α → Prop} {r0 : List V → Hp → VK → Prop} (inc : ∀ {xs H Q}, (fun xs H Q => ∃ p ys, xs = [.ref p] ∧ (SqL K H p ys ∨ SqT K H p ys) ∧ ∀ l, H l = none → Q (.ref l) (upd H l (.lst ys))) xs H Q → r0 xs H Q) (h : EvC W W1 K ta δ P) : EvF W W1 K (tCB r0 (tCons ta tNil)) δ P := fun O S H σ s Q q =>
  h O S H σ s _ fun a vs S1 H1 xs m l r p => inc ⟨a, vs, rfl, .inl (l.sq m.good.sub), fun c hc => q c _ S1 _ _ (m.trans (Mv.temp m.good hc)) (Fresh.new m.good hc) r p⟩
theorem ev_tupleC {P : Tp α → Prop} (h : EvC W W1 K ta δ fun xs => P ⟨xs⟩) : Ev W W1 K (tCB (fun xs H Q => ∃ p ys, xs = [.ref p] ∧ ((SqL K H p ys ∧ ∀ l, H l = none → Q (.ref l) (upd H l (.tup ys))) ∨ (SqT K H p ys ∧ Q (.ref p) H))) (tCons ta tNil)) δ P := fun O S H σ s Q q =>
  h O S H σ s _ fun a vs S1 H1 xs m l r p => ⟨a, vs, rfl, .inl ⟨l.sq m.good.sub, fun c hc => q _ (upd S1 c (.tup vs)) _ ⟨xs⟩ (m.trans (Mv.new m.good hc)) ⟨c, vs, rfl, .inl (.inl upd_same), r.mono (Ex.upd (m.good.sub.nn hc))⟩ p⟩⟩
theorem ef_cat {P : List α → Prop} {r0 : R2} (inc : ∀ {x y H Q}, (rCat) x y H Q → r0 x y H Q) (h : EvC W W1 K ta δ fun xs : List α => EvC W1 W2 K tb δ fun ys : List α => xs.length + ys.length ≤ 100000 ∧ P (xs ++ ys)) : EvF W W2 K (tOp r0 ta tb) δ P := fun O S H σ s Q q =>
  h O S H σ s _ fun a vs S1 H1 xs m l r p => p O S1 H1 σ (s.mv m) _ fun b us S2 H2 ys m2 l2 r2 p2 => by
    have r' : Reps K S2 vs xs := r.mono m2.ex
    have m4 := m.trans m2
    exact inc ⟨a, b, vs, us, rfl, rfl, (l.mv m2).lst m2.good.sub, l2.lst m2.good.sub, by rw [reps_len r', reps_len r2]; exact small_len p2.1, fun c hc => q c _ S2 _ _ (m4.trans (Mv.temp m4.good hc)) (Fresh.new m4.good hc) (reps_app r' r2) p2.2⟩
theorem ev_catT {P : Tp α → Prop} {r0 : R2} (inc : ∀ {x y H Q}, (rCatA K) x y H Q → r0 x y H Q) (h : Ev W W1 K ta δ fun t : Tp α => Ev W1 W2 K tb δ fun u : Tp α => t.l.length + u.l.length ≤ 100000 ∧ P ⟨t.l ++ u.l⟩) : Ev W W2 K (tOp r0 ta tb) δ P := fun O S H σ s Q q =>
  h O S H σ s _ fun v S1 H1 t m hr p => p O S1 H1 σ (s.mv m) _ fun u S2 H2 w m2 hr2 p2 => by
    obtain ⟨a, vs, e, ha, r⟩ := hr
    subst e
    obtain ⟨b, us, e, hb, r2⟩ := hr2
    subst e
    have r' : Reps K S2 vs t.l := r.mono m2.ex
    have m4 := m.trans m2
    have ha2 := m2.ex.sqT ha
    refine inc ⟨a, b, vs, us, rfl, rfl, m2.good.sub.sqT ha2, m2.good.sub.sqT hb, by rw [reps_len r', reps_len r2]; exact small_len p2.1, fun z => ?_, fun z1 z2 => ?_, fun _ _ c hc => ?_⟩
    · subst z
      have e : t.l = [] := List.eq_nil_of_length_eq_zero (by rw [← reps_len r']; rfl)
      exact q _ S2 H2 ⟨t.l ++ w.l⟩ m4 ⟨b, us, rfl, hb, by rw [e]; exact r2⟩ p2.2
    · subst z2
      have e : w.l = [] := List.eq_nil_of_length_eq_zero (by rw [← reps_len r2]; rfl)
      exact q _ S2 H2 ⟨t.l ++ w.l⟩ m4 ⟨a, vs, rfl, ha2, by rw [e, List.append_nil]; exact r'⟩ p2.2
    · have ex := Ex.upd (o := .tup (vs ++ us)) (m4.good.sub.nn hc)
      exact q _ (upd S2 c (.tup (vs ++ us))) _ ⟨t.l ++ w.l⟩ (m4.trans (Mv.new m4.good hc)) ⟨c, _, rfl, .inl (.inl upd_same), (reps_app r' r2).mono ex⟩ p2.2
/-- a star in a display, a list -/
theorem es_star {P : List α → Prop} (h : EvC W W1 K te δ fun xs : List α => EvS W1 W2 K tr δ fun r : List α => P (xs ++ r)) : EvS W W2 K (StX.tStar K te tr) δ P := fun O S H σ s Q q =>
  h O S H σ s _ fun a vs S1 H1 xs m l r p => ⟨a, vs, rfl, .inr (l.sq m.good.sub), p O S1 H1 σ (s.mv m) _ fun us S2 H2 ys m2 r2 p2 => q (vs ++ us) S2 H2 (xs ++ ys) (m.trans m2) (reps_app (r.mono m2.ex) r2) p2⟩
theorem es_starT {P : List α → Prop} (h : Ev W W1 K te δ fun t : Tp α => EvS W1 W2 K tr δ fun r : List α => P (t.l ++ r)) : EvS W W2 K (StX.tStar K te tr) δ P := fun O S H σ s Q q =>
  h O S H σ s _ fun v S1 H1 t m hr p => by
    obtain ⟨a, vs, e, ha, r⟩ := hr
    subst e
    exact ⟨a, vs, rfl, .inl (m.good.sub.sqT ha), p O S1 H1 σ (s.mv m) _ fun us S2 H2 ys m2 r2 p2 => q (vs ++ us) S2 H2 (t.l ++ ys) (m.trans m2) (reps_app (r.mono m2.ex) r2) p2⟩
theorem inV_str {x : Str} : ∀ {xs : List Str}, inV (.str x) (xs.map V.str) = decide (x ∈ xs)
  | [] => rfl
  | y :: ys => by
    have ih := inV_str (x := x) (xs := ys)
    show (eqV (.str y) (.str x) || inV (.str x) (ys.map V.str)) = _
    rw [ih]
    show ((y == x) || decide (x ∈ ys)) = decide (x ∈ y :: ys)
    by_cases e : y = x
    · subst e
      simp
    · have e1 : (y == x) = false := by simpa using e
      rw [e1]
      have e2 : (x ∈ y :: ys) ↔ (x ∈ ys) := by
        constructor
        · intro h
          rcases List.mem_cons.mp h with z | z
          · exact absurd z.symm e
          · exact z
        · exact List.mem_cons_of_mem _
      simp [e2]
theorem inV_int {x : Int} : ∀ {xs : List Int}, inV (.int x) (xs.map V.int) = decide (x ∈ xs)
  | [] => rfl
  | y :: ys => by
    have ih := inV_int (x := x) (xs := ys)
    show (eqV (.int y) (.int x) || inV (.int x) (ys.map V.int)) = _
    rw [ih]
    show ((y == x) || decide (x ∈ ys)) = decide (x ∈ y :: ys)
    by_cases e : y = x
    · subst e
      simp
    · have e1 : (y == x) = false := by simpa using e
      rw [e1]
      have e2 : (x ∈ y :: ys) ↔ (x ∈ ys) := by
        constructor
        · intro h
          rcases List.mem_cons.mp h with z | z
          · exact absurd z.symm e
          · exact z
        · exact List.mem_cons_of_mem _
      simp [e2]
theorem flat_str {xs : List Str} : (xs.map V.str).all flatV = true := by simp [flatV]
theorem flat_int {xs : List Int} : (xs.map V.int).all flatV = true := by simp [flatV]
theorem ev_inLS {P : Bool → Prop} {n : Bool} {r0 : R2} (inc : ∀ {x y H Q}, (rIn K n) x y H Q → r0 x y H Q) (h : Ev W W1 K ta δ fun x : Str => EvC W1 W2 K tb δ fun xs : List Str => P (if n then !decide (x ∈ xs) else decide (x ∈ xs))) : Ev W W2 K (tOp r0 ta tb) δ P := fun O S H σ s Q q =>
  h O S H σ s _ fun v S1 H1 x m r p => p O S1 H1 σ (s.mv m) _ fun a vs S2 H2 xs m2 l r2 p2 => by
    obtain rfl : v = .str x := r
    have e : vs = xs.map V.str := flat_reps r2
    subst e
    exact inc ⟨a, _, rfl, .inl (l.sq m2.good.sub), rfl, flat_str, by rw [inV_str]; exact q _ S2 H2 _ (m.trans m2) rfl p2⟩
theorem ev_inTS {P : Bool → Prop} {n : Bool} {r0 : R2} (inc : ∀ {x y H Q}, (rIn K n) x y H Q → r0 x y H Q) (h : Ev W W1 K ta δ fun x : Str => Ev W1 W2 K tb δ fun t : Tp Str => P (if n then !decide (x ∈ t.l) else decide (x ∈ t.l))) : Ev W W2 K (tOp r0 ta tb) δ P := fun O S H σ s Q q =>
  h O S H σ s _ fun v S1 H1 x m r p => p O S1 H1 σ (s.mv m) _ fun u S2 H2 t m2 hr p2 => by
    obtain rfl : v = .str x := r
    obtain ⟨a, vs, e, ha, r2⟩ := hr
    subst e
    have e : vs = t.l.map V.str := flat_reps r2
    subst e
    exact inc ⟨a, _, rfl, .inr (m2.good.sub.sqT ha), rfl, flat_str, by rw [inV_str]; exact q _ S2 H2 _ (m.trans m2) rfl p2⟩
theorem ev_inLI {P : Bool → Prop} {n : Bool} {r0 : R2} (inc : ∀ {x y H Q}, (rIn K n) x y H Q → r0 x y H Q) (h : Ev W W1 K ta δ fun x : Int => EvC W1 W2 K tb δ fun xs : List Int => P (if n then !decide (x ∈ xs) else decide (x ∈ xs))) : Ev W W2 K (tOp r0 ta tb) δ P := fun O S H σ s Q q =>
  h O S H σ s _ fun v S1 H1 x m r p => p O S1 H1 σ (s.mv m) _ fun a vs S2 H2 xs m2 l r2 p2 => by
    obtain rfl : v = .int x := r
    have e : vs = xs.map V.int := flat_reps r2
    subst e
    exact inc ⟨a, _, rfl, .inl (l.sq m2.good.sub), rfl, flat_int, by rw [inV_int]; exact q _ S2 H2 _ (m.trans m2) rfl p2⟩
/-! ### is None -/
theorem ev_isN {P : Bool → Prop} {r0 : R2} (inc : ∀ {x y H Q}, (fun x y H Q => y = .non ∧ Q (.bl (decide (x = .non))) H) x y H Q → r0 x y H Q) (h : Ev W W1 K ta δ fun o : Option α => P o.isNone) : Ev W W1 K (tOp r0 ta (tC .non)) δ P := fun O S H σ s Q q =>
  h O S H σ s _ fun v S1 H1 o m r p => inc ⟨rfl, by
    cases o with
    | none =>
      have e : v = .non := r
      subst e
      exact q _ S1 H1 _ m rfl p
    | some x =>
      have e : decide (v = .non) = false := decide_eq_false r.1
      rw [e]
      exact q _ S1 H1 _ m rfl p⟩
theorem ev_notN {P : Bool → Prop} {r0 : R2} (inc : ∀ {x y H Q}, (fun x y H Q => y = .non ∧ Q (.bl (!decide (x = .non))) H) x y H Q → r0 x y H Q) (h : Ev W W1 K ta δ fun o : Option α => P o.isSome) : Ev W W1 K (tOp r0 ta (tC .non)) δ P := fun O S H σ s Q q =>
  h O S H σ s _ fun v S1 H1 o m r p => inc ⟨rfl, by
    cases o with
    | none =>
      have e : v = .non := r
      subst e
      exact q _ S1 H1 _ m rfl p
    | some x =>
      have e : decide (v = .non) = false := decide_eq_false r.1
      rw [e]
      exact q _ S1 H1 _ m rfl p⟩
/-- an optional one that is there -/
theorem ev_unO {P : α → Prop} (h : Ev W W1 K te δ fun o : Option α => ∃ x, o = some x ∧ P x) : Ev W W1 K te δ P := fun O S H σ s Q q => h O S H σ s Q fun v S1 H1 o m r ⟨x, e, p⟩ => by
  subst e
  exact q v S1 H1 x m r.2 p
/-! ### chains -/
theorem ev_chain {f g : Int → Int → Bool} {P : Bool → Prop} (h : Ev W W1 K ta δ fun i : Int => Ev W1 W2 K tb δ fun j : Int => (f i j = true → Ev W2 W3 K tc δ fun k : Int => P (g j k)) ∧ (f i j = false → P false)) (le : Wle W2 W3 := by exact Wle.refl _) :
    Ev W W3 K (tChain (rI0 fun i j => .bl (f i j)) (rI0 fun i j => .bl (g i j)) ta tb tc) δ P := fun O S H σ s Q q =>
  h O S H σ s _ fun v S1 H1 i m r p => p O S1 H1 σ (s.mv m) _ fun u S2 H2 j m2 r2 p2 => by
    obtain rfl : v = .int i := r
    obtain rfl : u = .int j := r2
    refine ⟨i, j, rfl, rfl, f i j, rfl, ?_⟩
    cases e : f i j with
    | true =>
      show tc σ H2 _
      exact p2.1 e O S2 H2 σ ((s.mv m).mv m2) _ fun w S3 H3 k m3 r3 p3 => ⟨j, k, rfl, r3, q _ S3 H3 _ ((m.trans m2).trans m3) rfl p3⟩
    | false =>
      show Q (.bl false) H2
      exact q _ S2 H2 _ ((m.trans m2).wle le) rfl (p2.2 e)
/-! ### isinstance -/
class PyTy (α : Type) extends Rep α where
  ty : String
  tyx : ∀ {K : Frag} {S H : Hp} {v : V} {x : α}, Sub S H → rep K S v x → TyX K H v (.type ty)
instance : PyTy Int where
  ty := "int"
  tyx := fun {K S H v x} _ h => by
    have e : v = .int x := h
    subst e
    exact .base (.int _)
instance : PyTy Bool where
  ty := "bool"
  tyx := fun {K S H v x} _ h => by
    have e : v = .bl x := h
    subst e
    exact .base (.bl _)
instance : PyTy Str where
  ty := "str"
  tyx := fun {K S H v x} _ h => by
    have e : v = .str x := h
    subst e
    exact .base (.str _)
theorem sub_dict {K : Frag} {S H : Hp} {a : Addr} {kvs : List (Key × V)} (g : Sub S H) (h : S a = some (.dK kvs)) : TyX K H (.ref a) (.type "dict") := by
  rcases g a _ h with z | ⟨_, ob, z⟩
  · exact .base (.dK z)
  · exact .fDict z
theorem sq_tuple {K : Frag} {S H : Hp} {a : Addr} {vs : List V} (g : Sub S H) (h : SqT K S a vs) : TyX K H (.ref a) (.type "tuple") := by
  rcases g.sqT h with (z | ⟨ob, z⟩) | z
  · exact .base (.tup z)
  · exact .fTuple z
  · obtain ⟨o, its, n, h1, h2, _⟩ := z
    exact .kTuple h1 h2
instance {κ α : Type} [DKey κ] [Rep α] : PyTy (Dc κ α) where
  ty := "dict"
  tyx := fun {K S H v x} g h => by
    obtain ⟨a, kvs, e, ha, _⟩ := h
    subst e
    exact sub_dict g ha
instance {α : Type} [Rep α] : PyTy (List α) where
  ty := "list"
  tyx := fun {K S H v x} g h => by
    obtain ⟨a, vs, e, ha, _⟩ := h
    subst e
    exact .base (.lst (g.lst ha))
instance {α : Type} [Rep α] : PyTy (Tp α) where
  ty := "tuple"
  tyx := fun {K S H v x} g h => by
    obtain ⟨a, vs, e, ha, _⟩ := h
    subst e
    exact sq_tuple g ha
instance {α β : Type} [Rep α] [Rep β] : PyTy (α × β) where
  ty := "tuple"
  tyx := fun {K S H v x} g h => by
    obtain ⟨a, v1, v2, e, ha, _⟩ := h
    subst e
    exact sq_tuple g ha
instance {α β γ : Type} [Rep α] [Rep β] [Rep γ] : PyTy (T3 α β γ) where
  ty := "tuple"
  tyx := fun {K S H v x} g h => by
    obtain ⟨a, v1, v2, v3, e, ha, _⟩ := h
    subst e
    exact sq_tuple g ha
instance {α β γ ζ : Type} [Rep α] [Rep β] [Rep γ] [Rep ζ] : PyTy (T4 α β γ ζ) where
  ty := "tuple"
  tyx := fun {K S H v x} g h => by
    obtain ⟨a, v1, v2, v3, v4, e, ha, _⟩ := h
    subst e
    exact sq_tuple g ha
theorem ev_isi {α : Type} [PyTy α] {P : Bool → Prop} {c : String} {b : Bool} (h : Ev W W1 K ta δ fun x : α => P b) (hb : kitB (PyTy.ty α) c = some b := by decide +kernel) : Ev W W1 K (tCB (rIsi K) (tCons ta (tCons (tC (.ty c)) tNil))) δ P := fun O S H σ s Q q =>
  h O S H σ s _ fun v S1 H1 x m r p => ⟨v, .ty c, _, _, b, rfl, .ty c, PyTy.tyx m.good.sub r, kit_ty hb, q _ S1 H1 _ m rfl p⟩
end
end DW
set_option maxHeartbeats 4000000
namespace DW
open PySem PySem.Spec PyProof.Rows L2

/-! ### plain dicts -/
section
variable {κ α : Type} [DecidableEq κ]
def look (xs : List (κ × α)) (k : κ) : Option α := match xs with
  | [] => none
  | p :: r => if p.1 = k then some p.2 else look r k
def put (xs : List (κ × α)) (k : κ) (v : α) : List (κ × α) := match xs with
  | [] => [(k, v)]
  | p :: r => if p.1 = k then (k, v) :: r else p :: put r k v
def puts (xs ys : List (κ × α)) : List (κ × α) := ys.foldl (fun a p => put a p.1 p.2) xs
theorem look_put (xs : List (κ × α)) (k j : κ) (v : α) : look (put xs k v) j = if j = k then some v else look xs j := by
  induction xs with
  | nil =>
    unfold put look
    by_cases h : j = k
    · rw [if_pos h.symm, if_pos h]
    · rw [if_neg (fun z => h z.symm), if_neg h]
      rfl
  | cons p r ih =>
    unfold put
    by_cases h : p.1 = k
    · rw [if_pos h]
      by_cases q : j = k
      · rw [if_pos q]
        unfold look
        rw [if_pos q.symm]
      · rw [if_neg q]
        unfold look
        rw [if_neg (fun z => q z.symm), if_neg (fun z => q (by rw [← z, h]))]
    · rw [if_neg h]
      unfold look
      by_cases q : p.1 = j
      · rw [if_pos q, if_neg (fun z => h (q.trans z)), if_pos q]
      · rw [if_neg q, if_neg q, ih]
theorem look_none {xs : List (κ × α)} {k : κ} : look xs k = none ↔ k ∉ xs.map Prod.fst := by
  induction xs with
  | nil => simp [look]
  | cons p r ih =>
    unfold look
    by_cases h : p.1 = k
    · rw [if_pos h]
      simp [h]
    · rw [if_neg h, ih]
      simp only [List.map_cons, List.mem_cons, not_or]
      exact ⟨fun z => ⟨fun y => h y.symm, z⟩, fun z => z.2⟩
theorem put_new {xs : List (κ × α)} {k : κ} {v : α} (h : k ∉ xs.map Prod.fst) : put xs k v = xs ++ [(k, v)] := by
  induction xs with
  | nil => rfl
  | cons p r ih =>
    simp only [List.map_cons, List.mem_cons, not_or] at h
    unfold put
    rw [if_neg (fun z => h.1 z.symm), ih h.2] <;> rfl
theorem put_keys_old {xs : List (κ × α)} {k : κ} {v : α} (h : k ∈ xs.map Prod.fst) : (put xs k v).map Prod.fst = xs.map Prod.fst := by
  induction xs with
  | nil => simp at h
  | cons p r ih =>
    unfold put
    by_cases q : p.1 = k
    · rw [if_pos q]
      simp [q]
    · rw [List.map_cons] at h
      rw [if_neg q, List.map_cons, List.map_cons, ih]
      rcases List.mem_cons.mp h with z | z
      · exact absurd z.symm q
      · exact z
theorem put_nodup {xs : List (κ × α)} {k : κ} {v : α} (h : (xs.map Prod.fst).Nodup) : ((put xs k v).map Prod.fst).Nodup := by
  by_cases q : k ∈ xs.map Prod.fst
  · rw [put_keys_old q]
    exact h
  · rw [put_new q, List.map_append]
    refine List.nodup_append.mpr ⟨h, by simp, fun a ha b hb => ?_⟩
    have e : b = k := by simpa using hb
    rw [e]
    intro z
    exact q (by rw [← z]; exact ha)
theorem put_len {xs : List (κ × α)} {k : κ} {v : α} : (put xs k v).length ≤ xs.length + 1 := by
  induction xs with
  | nil => exact Nat.le_refl _
  | cons p r ih =>
    unfold put
    by_cases q : p.1 = k
    · rw [if_pos q]
      exact Nat.le_succ _
    · rw [if_neg q, List.length_cons, List.length_cons]
      omega
theorem puts_nodup {ys : List (κ × α)} : ∀ {xs : List (κ × α)}, (xs.map Prod.fst).Nodup → ((puts xs ys).map Prod.fst).Nodup := by
  induction ys with
  | nil => intro xs h; exact h
  | cons p r ih => intro xs h; exact ih (put_nodup h)
theorem puts_new {ys : List (κ × α)} : ∀ {xs : List (κ × α)}, ((xs ++ ys).map Prod.fst).Nodup → puts xs ys = xs ++ ys := by
  induction ys with
  | nil => intro xs _; simp [puts]
  | cons p r ih =>
    intro xs h
    have e : put xs p.1 p.2 = xs ++ [p] := put_new (by
      intro z
      rw [List.map_append] at h
      exact (List.nodup_append.mp h).2.2 p.1 z p.1 (by simp) rfl)
    show puts (put xs p.1 p.2) r = _
    rw [e, ih (by rw [List.append_assoc]; exact h), List.append_assoc] <;> rfl
end

section
variable {κ α : Type} [DKey κ] [DecidableEq κ] [Rep α] {K : Frag} {S : Hp}
theorem val_look {k : κ} : ∀ {kvs : List (Key × V)} {xs : List (κ × α)}, RepKV K S kvs xs → (look xs k = none → valV kvs (DKey.key k) = none) ∧ (∀ x, look xs k = some x → ∃ v, valV kvs (DKey.key k) = some v ∧ rep K S v x)
  | _, _, .nil => ⟨fun _ => rfl, fun _ h => nomatch h⟩
  | (k', v) :: kvs, (j, x) :: xs, .cons ⟨e, r⟩ t => by
    have e' : k' = DKey.key j := e
    subst e'
    have ih := val_look (k := k) t
    by_cases h : j = k
    · subst h
      refine ⟨fun z => ?_, fun y z => ?_⟩
      · unfold look at z
        rw [if_pos rfl] at z
        cases z
      · unfold look at z
        rw [if_pos rfl] at z
        cases z
        exact ⟨v, valV_pos rfl, r⟩
    · have n : ¬ (DKey.key j : Key) = DKey.key k := fun z => h (DKey.inj z)
      refine ⟨fun z => ?_, fun y z => ?_⟩
      · unfold look at z
        rw [if_neg h] at z
        rw [valV_neg n]
        exact ih.1 z
      · unfold look at z
        rw [if_neg h] at z
        rw [valV_neg n]
        exact ih.2 y z
theorem valV_some {k : κ} {kvs : List (Key × V)} {xs : List (κ × α)} (r : RepKV K S kvs xs) : (valV kvs (DKey.key k)).isSome = (look xs k).isSome := by
  obtain ⟨h1, h2⟩ := val_look (k := k) r
  cases e : look xs k with
  | none => rw [h1 e] <;> rfl
  | some x =>
    obtain ⟨v, hv, _⟩ := h2 x e
    rw [hv] <;> rfl
theorem keys_not {k : κ} {kvs : List (Key × V)} {xs : List (κ × α)} (r : RepKV K S kvs xs) : valV kvs (DKey.key k) = none → k ∉ xs.map Prod.fst := fun h => by
  have q := valV_some (k := k) r
  rw [h] at q
  exact look_none.mp (by
    cases e : look xs k with
    | none => rfl
    | some x =>
      rw [e] at q
      cases q)
theorem repkv_put {k : κ} {v : V} {x : α} (rx : rep K S v x) : ∀ {kvs : List (Key × V)} {xs : List (κ × α)}, RepKV K S kvs xs → (xs.map Prod.fst).Nodup → RepKV K S (putK kvs (DKey.key k) v) (put xs k x) := by
  intro kvs xs r nd
  by_cases h : k ∈ xs.map Prod.fst
  · have hs : (valV kvs (DKey.key k)).isSome = true := by
      rw [valV_some r]
      cases e : look xs k with
      | none => exact absurd h (look_none.mp e)
      | some y => rfl
    have ha : (kvs.any fun kv => decide (kv.1 = DKey.key k)) = true := by rw [valV_any]; exact hs
    unfold putK
    rw [if_pos ha]
    clear hs ha
    induction r with
    | nil => simp at h
    | @cons p q kvs xs e t ih =>
      rw [List.map_cons] at nd h ⊢
      have nd' := List.nodup_cons.mp nd
      unfold put
      by_cases hq : q.1 = k
      · rw [if_pos hq, if_pos (by rw [e.1, hq])]
        refine .cons ⟨by show p.1 = DKey.key k; rw [e.1, hq], rx⟩ ?_
        have idt : kvs.map (fun kv => if kv.1 = DKey.key k then (kv.1, v) else kv) = kvs := by
          refine (List.map_congr_left fun kv hkv => ?_).trans (List.map_id _)
          refine if_neg fun z => ?_
          obtain ⟨i, hi, e2⟩ := List.mem_iff_getElem.mp hkv
          have hx : i < xs.length := by rw [← repkv_len t]; exact hi
          obtain ⟨v', h1, _⟩ := RepKV.at t (List.getElem?_eq_getElem hx)
          rw [List.getElem?_eq_getElem hi, e2] at h1
          have e3 : kv.1 = DKey.key xs[i].1 := by rw [Option.some.inj h1]
          have e4 : xs[i].1 = k := DKey.inj (e3.symm.trans z)
          exact nd'.1 (by rw [hq, ← e4]; exact List.mem_map.mpr ⟨_, List.getElem_mem hx, rfl⟩)
        rw [idt]
        exact t
      · rw [if_neg hq, if_neg (fun z => hq (DKey.inj (e.1.symm.trans z)))]
        refine .cons e (ih nd'.2 ?_)
        rcases List.mem_cons.mp h with z | z
        · exact absurd z.symm hq
        · exact z
  · rw [put_new h]
    have hn : valV kvs (DKey.key k) = none := by
      have q := valV_some (k := k) r
      rw [look_none.mpr h] at q
      cases e : valV kvs (DKey.key k) with
      | none => rfl
      | some y =>
        rw [e] at q
        cases q
    rw [putK_new v hn]
    exact Paired.snoc r ⟨rfl, rx⟩
end

section
variable {W W1 W2 W3 W4 : Wd} {K : Frag} {O : Addr → Prop} {S H S1 H1 S2 H2 : Hp} {σ : L2.St} {δ : DEnv} {α β γ κ : Type} [Rep α] [Rep β] [Rep γ] [DKey κ] [DecidableEq κ] {te ta tb tc td tk tv tx : TE} {tr : TA} {i : Nat}
/-! ### d[k], d.get(k, x), k in d -/
theorem dget_at {a : Addr} {kvs : List (Key × V)} {k : κ} {u : V} (hr : Rd H a (.dK kvs)) (hu : u = Flat.val k) : DGet H a u (valV kvs (DKey.key k)) := by
  subst hu
  exact .inl ⟨kvs, DKey.key k, hr, (DKey.kv k).symm, rfl⟩
theorem ev_dget {P : α → Prop} (h : EvCD W W1 K td δ fun xs : List (κ × α) => Ev W1 W2 K tk δ fun k : κ => ∃ x, look xs k = some x ∧ P x) : Ev W W2 K (tDGet td tk) δ P := fun O S H σ s Q q =>
  h O S H σ s _ fun a kvs S1 H1 xs m l r nd p => p O S1 H1 σ (s.mv m) _ fun u S2 H2 k m2 r2 p2 => by
    obtain ⟨x, hx, px⟩ := p2
    obtain ⟨v, hv, rv⟩ := (val_look (k := k) (RepKV.mono m2.ex r)).2 x hx
    refine ⟨a, v, rfl, ?_, q v S2 H2 x (m.trans m2) rv px⟩
    rw [← hv]
    exact dget_at ((l.mv m2).rd m2.good.sub) (Flat.flat.mp r2)
theorem ev_dget2 {P : α → Prop} (h : EvCD W W1 K td δ fun xs : List (κ × α) => Ev W1 W2 K tk δ fun k : κ => Ev W2 W3 K tx δ fun x : α => P ((look xs k).getD x)) : Ev W W3 K (tDGet2 td tk tx) δ P := fun O S H σ s Q q =>
  h O S H σ s _ fun a kvs S1 H1 xs m l r nd p => ⟨a, rfl, .inl ⟨kvs, l.rd m.good.sub⟩, p O S1 H1 σ (s.mv m) _ fun u S2 H2 k m2 r2 p2 => p2 O S2 H2 σ ((s.mv m).mv m2) _ fun w S3 H3 x m3 r3 p3 => by
    have l3 := (l.mv m2).mv m3
    have r' : RepKV K S3 kvs xs := RepKV.mono m3.ex (RepKV.mono m2.ex r)
    refine ⟨_, dget_at (k := k) (l3.rd m3.good.sub) (Flat.flat.mp r2), ?_⟩
    have m4 := (m.trans m2).trans m3
    obtain ⟨h1, h2⟩ := val_look (k := k) r'
    cases e : look xs k with
    | none =>
      rw [h1 e]
      rw [e] at p3
      exact q w S3 H3 x m4 r3 p3
    | some y =>
      obtain ⟨v, hv, rv⟩ := h2 y e
      rw [hv]
      rw [e] at p3
      exact q v S3 H3 y m4 rv p3⟩
/-- d.get(k): None where it is not there -/
theorem ev_dget1 {P : Option α → Prop} (h : EvCD W W1 K td δ fun xs : List (κ × α) => Ev W1 W2 K tk δ fun k : κ => P (look xs k)) (nn : ∀ {K S v} {x : α}, rep K S v x → v ≠ .non) : Ev W W2 K (tDGet1 td tk) δ P := fun O S H σ s Q q =>
  h O S H σ s _ fun a kvs S1 H1 xs m l r nd p => ⟨a, rfl, .inl ⟨kvs, l.rd m.good.sub⟩, p O S1 H1 σ (s.mv m) _ fun u S2 H2 k m2 r2 p2 => by
    have l3 := l.mv m2
    have r' : RepKV K S2 kvs xs := RepKV.mono m2.ex r
    refine ⟨_, dget_at (k := k) (l3.rd m2.good.sub) (Flat.flat.mp r2), ?_⟩
    obtain ⟨h1, h2⟩ := val_look (k := k) r'
    cases e : look xs k with
    | none =>
      have p2 : P (look xs k) := p2
      rw [h1 e]
      rw [e] at p2
      exact q _ S2 H2 none (m.trans m2) rfl p2
    | some y =>
      have p2 : P (look xs k) := p2
      obtain ⟨v, hv, rv⟩ := h2 y e
      rw [hv]
      rw [e] at p2
      exact q v S2 H2 (some y) (m.trans m2) ⟨nn rv, rv⟩ p2⟩
theorem ev_din {P : Bool → Prop} (h : Ev W W1 K tk δ fun k : κ => EvCD W1 W2 K td δ fun xs : List (κ × α) => P (look xs k).isSome) : Ev W W2 K (tDIn tk td) δ P := fun O S H σ s Q q =>
  h O S H σ s _ fun u S1 H1 k m r p => p O S1 H1 σ (s.mv m) _ fun a kvs S2 H2 xs m2 l r2 nd p2 =>
    ⟨a, _, rfl, dget_at (k := k) (l.rd m2.good.sub) (Flat.flat.mp r), by rw [valV_some r2]; exact q _ S2 H2 _ (m.trans m2) rfl p2⟩
theorem ev_dnotin {P : Bool → Prop} (h : Ev W W1 K tk δ fun k : κ => EvCD W1 W2 K td δ fun xs : List (κ × α) => P (!(look xs k).isSome)) : Ev W W2 K (tDNotIn tk td) δ P := fun O S H σ s Q q =>
  h O S H σ s _ fun u S1 H1 k m r p => p O S1 H1 σ (s.mv m) _ fun a kvs S2 H2 xs m2 l r2 nd p2 =>
    ⟨a, _, rfl, dget_at (k := k) (l.rd m2.good.sub) (Flat.flat.mp r), by rw [valV_some r2]; exact q _ S2 H2 _ (m.trans m2) rfl p2⟩
/-! ### {}, d[k] = v of one's own -/
theorem eg_new {P : List (κ × α) → Prop} (p : P []) : EvG W W K tDNewK δ P := fun O S H σ s Q q => fun a ha => q a [] S _ [] (Mv.temp s.g ha) (Fresh.new s.g ha) .nil List.nodup_nil p
theorem sd_put {D : DE β} {α κ : Type} [rk : DKey κ] [DecidableEq κ] [ri : Rep α] {xs : List (κ × α)} (hi : δ[i]? = some (.od rk ri xs)) (h : Ev W W1 K tv δ fun x : α => Ev W1 W2 K tk δ fun k : κ => xs.length < 100000 ∧ D.nx W2 (δ.set i (sM (put xs k x)))) :
    Sd W K (sDPut (tVar i) tk tv) δ D := fun O S H σ c E r => by
  obtain ⟨ov, e, a, kvs, eq, hq, rv, nd⟩ := c.sl.2 i _ hi
  subst eq
  refine h _ S H σ c.stt _ fun v S1 H1 x m rx p => ⟨_, e, p _ S1 H1 σ (c.stt.mv m) _ fun u S2 H2 k m2 rk2 p2 => ?_⟩
  have m12 := m.trans m2
  have c2 := c.mv m12
  have hq2 : H2 a = some (.dK kvs) := (m12.keep a (.inr ⟨i, _, hi, rfl, e⟩)).trans hq
  have rv' : RepKV K S2 kvs xs := RepKV.mono m12.ex rv
  have eu : u = Flat.val k := Flat.flat.mp rk2
  have sz : kvs.length < sizeLine := by
    rw [repkv_len rv']
    exact Nat.lt_of_lt_of_le p2.1 (by decide)
  refine ⟨a, _, rfl, .inl ⟨kvs, DKey.key k, hq2, eu.trans (DKey.kv k).symm, sz, rfl⟩, ?_⟩
  have k2 := c2.wr (d' := sM (put xs k x)) (o := .dK (putK kvs (DKey.key k) v)) hi rfl e rfl ⟨a, _, rfl, upd_same, repkv_put (Rep.mono m2.ex rx) rv' nd, put_nodup nd⟩
  exact r.nx S2 _ σ _ ((m12.mo fun _ z => .inl z).trans k2.2) k2.1 p2.2
/-! ### len(d) -/
theorem call_lenR {X : Cx} : CallR X (.builtin "len") (fun xs H Q => ∃ a kvs, xs = [V.ref a] ∧ Rd H a (.dK kvs) ∧ Q (.int kvs.length) H) := by
  intro pins s σ H xs us Q I r h
  obtain ⟨a, kvs, rfl, ha, q⟩ := h
  obtain ⟨u, rfl, ru⟩ := vals1 r
  cases ru
  exact d_len I ha fun t s' I' => ⟨.int kvs.length, H, I', ⟨t, rfl⟩, q⟩
variable {ε : Type} [Rep ε] {wi : TI} {g : TG} {tt : TT} {vs : List Nat}
/-! ### a dict at a slot walked within an expression -/
/-- what is walked under a lock: any reading that begins so -/
def EvK {α : Type} [Rep α] (W : Wd) (K : Frag) (wi : TI) (i : Nat) (δ : DEnv) (ys : List α) : Prop := ∀ O S H σ, Stt W K O S H σ δ → ∀ d kvs ob, σ[i]? = some (some (.ref d)) → S d = some (.dK kvs) → H d = some (.frz ob (.dK kvs)) → ∀ R : It → Hp → Prop,
  (∀ J, ItOk K O J ys S H → R J H) → wi σ H R
theorem ek_keys {xs : List (κ × α)} (hi : δ[i]? = some (sD (⟨xs⟩ : Dc κ α))) : EvK W K (iKeys (tVar i)) i δ (xs.map Prod.fst) := fun O S H σ s d kvs ob hd hS hH R q => by
  obtain ⟨ov, e, v, ev, a, kvs', ea, ha, rv, nd⟩ := s.sl.2 i _ hi
  subst ev ea
  rw [e] at hd
  have e1 : a = d := V.ref.inj (Option.some.inj (Option.some.inj hd))
  subst e1
  rw [hS] at ha
  cases ha
  exact ⟨_, e, a, ob, rfl, .inl ⟨kvs, hH, q _ (it_keys hS hH rv)⟩⟩
theorem ek_vals {xs : List (κ × α)} (hi : δ[i]? = some (sD (⟨xs⟩ : Dc κ α))) : EvK W K (iVals (tVar i)) i δ (xs.map Prod.snd) := fun O S H σ s d kvs ob hd hS hH R q => by
  obtain ⟨ov, e, v, ev, a, kvs', ea, ha, rv, nd⟩ := s.sl.2 i _ hi
  subst ev ea
  rw [e] at hd
  have e1 : a = d := V.ref.inj (Option.some.inj (Option.some.inj hd))
  subst e1
  rw [hS] at ha
  cases ha
  exact ⟨_, e, a, ob, kvs, rfl, hH, q _ (it_vals hS hH rv)⟩
theorem ek_items {xs : List (κ × α)} (hi : δ[i]? = some (sD (⟨xs⟩ : Dc κ α))) : EvK W K (iItems (tVar i)) i δ xs := fun O S H σ s d kvs ob hd hS hH R q => by
  obtain ⟨ov, e, v, ev, a, kvs', ea, ha, rv, nd⟩ := s.sl.2 i _ hi
  subst ev ea
  rw [e] at hd
  have e1 : a = d := V.ref.inj (Option.some.inj (Option.some.inj hd))
  subst e1
  rw [hS] at ha
  cases ha
  exact ⟨_, e, a, ob, kvs, rfl, hH, q _ (it_items hS hH rv)⟩
theorem Fresh.relock {d D : Addr} {u o o2 : HO} (f : Fresh W O S H D o) (g : Good W O S H) (hS : S d = some u) : Fresh W O S (upd H d o2) D o := by
  have ne : D ≠ d := fun z => by
    have y := f.s
    rw [z, hS] at y
    cases y
  have l := W.loc g.ok (H' := upd H d o2) fun a h => upd_ne fun e => by
    have z := g.fpS a h
    rw [e, hS] at z
    cases z
  exact ⟨by rw [upd_ne ne]; exact f.at_, f.s, fun h => f.f ((l.2 D).mp h), f.o⟩
end
end DW
set_option maxHeartbeats 4000000
/-! DW: rules that carry what follows along (weakest conditions) -/
namespace DW
open PySem PySem.Spec PyProof.Rows L2

/-! ### what follows, told on plain data -/
/-- a loop: B x s what follows it (nx) and what follows a break (bk) -/
def forW {α σ : Type} (B : α → σ → (σ → Prop) → (σ → Prop) → Prop) (k : σ → Prop) : List α → σ → Prop
  | [], s => k s
  | x :: xs, s => B x s (forW B k xs) k
/-- a comprehension -/
def compW {α β : Type} (B : α → (Option β → Prop) → Prop) (k : List β → Prop) : List α → List β → Prop
  | [], ys => k ys
  | x :: xs, ys => B x fun r => compW B k xs (ys ++ r.toList)
theorem forW_drop {α σ : Type} {B : α → σ → (σ → Prop) → (σ → Prop) → Prop} {k : σ → Prop} {xs : List α} {i : Nat} {x : α} {s : σ} (hx : xs[i]? = some x) (h : forW B k (xs.drop i) s) : B x s (forW B k (xs.drop (i + 1))) k := by
  obtain ⟨hi, e⟩ := List.getElem?_eq_some_iff.mp hx
  rw [List.drop_eq_getElem_cons hi, e] at h
  exact h
theorem compW_drop {α β : Type} {B : α → (Option β → Prop) → Prop} {k : List β → Prop} {xs : List α} {i : Nat} {x : α} {ys : List β} (hx : xs[i]? = some x) (h : compW B k (xs.drop i) ys) : B x fun r => compW B k (xs.drop (i + 1)) (ys ++ r.toList) := by
  obtain ⟨hi, e⟩ := List.getElem?_eq_some_iff.mp hx
  rw [List.drop_eq_getElem_cons hi, e] at h
  exact h

section
variable {W W1 W2 W3 W4 : Wd} {K : Frag} {O : Addr → Prop} {S H S1 H1 S2 H2 : Hp} {σ : L2.St} {δ : DEnv} {α β κ : Type} [Rep α] [Rep β] [DKey κ] {D : DE β} {te tk tv : TE} {tt : TT} {t u : TS} {i : Nat}
/-! ### slots forgotten -/
theorem own_forget {a : Addr} (h : OwnAt σ (δ.set i .non) a) : OwnAt σ δ a := by
  obtain ⟨j, e, h1, h2, h3⟩ := h
  by_cases hj : j = i
  · subst hj
    rw [List.getElem?_set] at h1
    simp only [if_true] at h1
    split at h1
    · cases h1
      cases h2
    · cases h1
  · rw [List.getElem?_set_ne (Ne.symm hj)] at h1
    exact ⟨j, e, h1, h2, h3⟩
theorem Cf.forget (c : Cf W K O S H σ δ) (i : Nat) : Cf W K O S H σ (δ.set i .non) := by
  refine ⟨c.g.less fun a h => h.imp id own_forget, ⟨by rw [List.length_set]; exact c.sl.1, fun j e hj => ?_⟩, fun j k d e a h1 h2 h3 h4 h5 h6 => ?_, fun a h => c.out a (own_forget h)⟩
  · by_cases q : j = i
    · subst q
      rw [List.getElem?_set] at hj
      simp only [if_true] at hj
      split at hj
      · rename_i hl
        cases hj
        exact ⟨σ[j]'(by rw [c.sl.1]; exact hl), List.getElem?_eq_getElem _, trivial⟩
      · cases hj
    · rw [List.getElem?_set_ne (Ne.symm q)] at hj
      exact c.sl.2 j e hj
  · have old : ∀ (j : Nat) (e : DSlot), (δ.set i .non)[j]? = some e → e.own = true → δ[j]? = some e := fun j e h1 h2 => by
      by_cases hj : j = i
      · subst hj
        rw [List.getElem?_set] at h1
        simp only [if_true] at h1
        split at h1
        · cases h1
          cases h2
        · cases h1
      · rw [List.getElem?_set_ne (Ne.symm hj)] at h1
        exact h1
    exact c.dst j k d e a (old j d h1 h2) h2 h3 (old k e h4 h5) h5 h6
theorem Cf.wipeD (c : Cf W K O S H σ δ) : ∀ vs : List Nat, Cf W K O S H σ (DW.wipeD δ vs)
  | [] => c
  | v :: vs => (Cf.wipeD c vs).forget v
theorem sd_wipe (vs : List Nat) (h : Sd W K t (wipeD δ vs) D) : Sd W K t δ D := fun O S H σ c E r => h O S H σ (c.wipeD vs) E r
theorem sd_nextW (vs : List Nat) (h : D.nx W (wipeD δ vs)) : Sd W K tNext δ D := sd_wipe vs (sd_next h)
theorem sd_breakW (vs : List Nat) (h : D.bk W (wipeD δ vs)) : Sd W K tBreak δ D := sd_wipe vs (sd_break h)
theorem sd_contW (vs : List Nat) (h : D.ct W (wipeD δ vs)) : Sd W K tCont δ D := sd_wipe vs (sd_cont h)
/-! ### named results -/
theorem sd_asgZ (h : Ev W W1 K te δ fun x : α => ∀ z, z = x → D.nx W1 (δ.set i (sD z))) : Sd W K (tAsg te (gName i)) δ D := sd_asg (h.imp fun x q => q x rfl)
theorem sd_asgLZ (h : EvF W W1 K te δ fun x : List α => ∀ z, z = x → D.nx W1 (δ.set i (sL z))) : Sd W K (tAsg te (gName i)) δ D := sd_asgL (h.imp fun x q => q x rfl)
theorem sd_asgMZ (h : EvG W W1 K te δ fun x : List (κ × α) => ∀ z, z = x → D.nx W1 (δ.set i (sM z))) : Sd W K (tAsg te (gName i)) δ D := fun O S H σ c E r => sd_asgM (D := D) (i := i) (fun O S H σ s Q q => h O S H σ s Q fun a kvs S' H' xs m f l nd p => q a kvs S' H' xs m f l nd (p xs rfl)) O S H σ c E r
theorem sd_le {W' : Wd} (l : Wle W' W) (h : Sd W K t δ D) : Sd W' K t δ D := fun O S H σ c E r => h O S H σ (c.wle l) E r
/-! ### returns -/
def rtW {β : Type} (We : Wd) (P : β → Prop) : Wd → β → Prop := fun W1 y => Wle W1 We ∧ P y
theorem sd_retW {We : Wd} {P : β → Prop} (hD : D.rt = rtW We P) (h : Ev W W1 K te δ P) (le : Wle W1 We := by exact Wle.refl _) : Sd W K (tRet te) δ D := sd_ret (h.imp fun y q => by rw [hD]; exact ⟨le, q⟩)
/-! ### ways that meet again -/
theorem sd_join {ς : Type} (Wj : Wd) (enc : ς → DEnv) {k : ς → Prop} (hr : ∀ s, k s → Sd Wj K u (enc s) D) (h : Sd W K t δ { D with nx := fun W' δ' => ∃ s, δ' = enc s ∧ Wle W' Wj ∧ k s }) : Sd W K (tSeq t u) δ D :=
  sd_seq (h.imp (D' := { D with nx := fun W' δ' => Sd W' K u δ' D }) (fun W' δ' ⟨s, e, le, p⟩ => by
    subst e
    exact fun O S H σ c E r => hr s p O S H σ (c.wle le) E r) (fun _ y q => q) (fun _ δ' q => q) fun _ δ' q => q)
end
section
variable {W W1 W2 W3 W4 : Wd} {K : Frag} {O : Addr → Prop} {S H S1 H1 S2 H2 : Hp} {σ : L2.St} {δ : DEnv} {α β κ : Type} [Rep α] [Rep β] [DKey κ] {D : DE β} {te tk tv : TE} {tt : TT} {wi : TI} {g : TG} {tb : TS} {i : Nat} {ς ε : Type} [Rep ε] {vs : List Nat}
/-! ### loops -/
theorem tg_imp {N N' : DEnv → Prop} {x : α} (h : Tg W K g x δ N) (f : ∀ δ', N δ' → N' δ') : Tg W K g x δ N' := fun O S H σ v c r Q k => h O S H σ v c r Q fun σ' δ' c' n => k σ' δ' c' (f δ' n)
/-- a loop whose turns may cost: Wi by the turn, We whatever the turn -/
theorem sd_forWs (Wi : Nat → Wd) (We : Wd) (enc : ς → DEnv) {N : Nat} {B : α → ς → (ς → Prop) → (ς → Prop) → Prop} {k : ς → Prop} (h : EvI W W1 K wi δ fun xs : List α => ∃ s0, δ = enc s0 ∧ xs.length ≤ N ∧ forW B k xs s0)
    (hs : ∀ i x s (nx : ς → Prop), i < N → B x s nx k → Tg (Wi i) K g x (enc s) fun δ2 => Sd (Wi i) K tb δ2 { D with nx := fun W' δ' => ∃ s', δ' = enc s' ∧ Wle W' (Wi (i + 1)) ∧ nx s', ct := fun W' δ' => ∃ s', δ' = enc s' ∧ Wle W' (Wi (i + 1)) ∧ nx s', bk := fun W' δ' => ∃ s', δ' = enc s' ∧ Wle W' We ∧ k s' })
    (hd : ∀ s, k s → D.nx We (enc s)) (hm : ∀ W' s, Wle W' We → D.nx We (enc s) → D.nx W' (enc s)) (e0 : Wi 0 = W1) (le : ∀ i, i ≤ N → Wle (Wi i) We) : Sd W K (tFor wi g tb) δ D :=
  sd_for (fun O S H σ s R q => h O S H σ s R fun J S' H' xs m it ⟨s0, d0, hl, w⟩ => q J S' H' xs m it ⟨Wi, fun i δ' => ∃ s, δ' = enc s ∧ forW B k (xs.drop i) s, e0, ⟨s0, d0, w⟩, fun i x δ' hlt hx ⟨s, e, w⟩ => by
    subst e
    have z := hs i x s _ (Nat.lt_of_lt_of_le hlt hl) (forW_drop hx w)
    exact tg_imp z fun δ2 n => n.imp (fun W' δ' ⟨s', e, l, p⟩ => ⟨l, s', e, p⟩) (fun _ _ h => h) (fun W' δ' ⟨s', e, l, p⟩ => by
      subst e
      exact hm W' s' l (hd s' p)) fun W' δ' ⟨s', e, l, p⟩ => ⟨l, s', e, p⟩, fun δ' ⟨s, e, w⟩ => by
    subst e
    rw [List.drop_length] at w
    exact hm _ s (le _ hl) (hd s w)⟩)
/-- a loop that keeps its world -/
theorem sd_forW (enc : ς → DEnv) {B : α → ς → (ς → Prop) → (ς → Prop) → Prop} {k : ς → Prop} (h : EvI W W1 K wi δ fun xs : List α => ∃ s0, δ = enc s0 ∧ forW B k xs s0)
    (hs : ∀ x s (nx : ς → Prop), B x s nx k → Tg W1 K g x (enc s) fun δ2 => Sd W1 K tb δ2 { D with nx := fun W' δ' => ∃ s', δ' = enc s' ∧ Wle W' W1 ∧ nx s', ct := fun W' δ' => ∃ s', δ' = enc s' ∧ Wle W' W1 ∧ nx s', bk := fun W' δ' => ∃ s', δ' = enc s' ∧ Wle W' W1 ∧ k s' })
    (hd : ∀ s, k s → D.nx W1 (enc s)) (hm : ∀ W' s, Wle W' W1 → D.nx W1 (enc s) → D.nx W' (enc s)) : Sd W K (tFor wi g tb) δ D :=
  sd_for (fun O S H σ s R q => h O S H σ s R fun J S' H' xs m it ⟨s0, d0, w⟩ => q J S' H' xs m it ⟨fun _ => W1, fun i δ' => ∃ s, δ' = enc s ∧ forW B k (xs.drop i) s, rfl, ⟨s0, d0, w⟩, fun i x δ' hlt hx ⟨s, e, w⟩ => by
    subst e
    have z := hs x s _ (forW_drop hx w)
    exact tg_imp z fun δ2 n => n.imp (fun W' δ' ⟨s', e, l, p⟩ => ⟨l, s', e, p⟩) (fun _ _ h => h) (fun W' δ' ⟨s', e, l, p⟩ => by
      subst e
      exact hm W' s' l (hd s' p)) fun W' δ' ⟨s', e, l, p⟩ => ⟨l, s', e, p⟩, fun δ' ⟨s, e, w⟩ => by
    subst e
    rw [List.drop_length] at w
    exact hd s w⟩)
theorem sd_forLockW {γ : Type} [Rep γ] {ys : List γ} (enc : ς → DEnv) {B : γ → ς → (ς → Prop) → (ς → Prop) → Prop} {k : ς → Prop}
    (hf : ∀ (Inv : Nat → DEnv → Prop), Inv 0 δ → (∀ (i : Nat) x δ', ys[i]? = some x → Inv i δ' → Tg W K g x δ' fun δ2 => Sd W K tb δ2 { D with nx := fun W' δ' => Wle W' W ∧ Inv (i + 1) δ', ct := fun W' δ' => Wle W' W ∧ Inv (i + 1) δ', bk := D.nx }) → (∀ δ', Inv ys.length δ' → D.nx W δ') → Sd W K (tLockO (tFor wi g tb)) δ D)
    (h : ∃ s0, δ = enc s0 ∧ forW B k ys s0)
    (hs : ∀ x s (nx : ς → Prop), B x s nx k → Tg W K g x (enc s) fun δ2 => Sd W K tb δ2 { D with nx := fun W' δ' => ∃ s', δ' = enc s' ∧ Wle W' W ∧ nx s', ct := fun W' δ' => ∃ s', δ' = enc s' ∧ Wle W' W ∧ nx s', bk := fun W' δ' => ∃ s', δ' = enc s' ∧ Wle W' W ∧ k s' })
    (hd : ∀ s, k s → D.nx W (enc s)) (hm : ∀ W' s, Wle W' W → D.nx W (enc s) → D.nx W' (enc s)) : Sd W K (tLockO (tFor wi g tb)) δ D := by
  refine hf (fun i δ' => ∃ s, δ' = enc s ∧ forW B k (ys.drop i) s) h (fun i x δ' hx ⟨s, e, w⟩ => ?_) fun δ' ⟨s, e, w⟩ => ?_
  · subst e
    have z := hs x s _ (forW_drop hx w)
    exact tg_imp z fun δ2 n => n.imp (fun W' δ' ⟨s', e, l, p⟩ => ⟨l, s', e, p⟩) (fun _ _ h => h) (fun W' δ' ⟨s', e, l, p⟩ => by
      subst e
      exact hm W' s' l (hd s' p)) fun W' δ' ⟨s', e, l, p⟩ => ⟨l, s', e, p⟩
  · subst e
    rw [List.drop_length] at w
    exact hd s w
theorem sd_forKeysW {ι ω : Type} [DKey ι] [Rep ω] {xs : List (ι × ω)} (enc : ς → DEnv) {B : ι → ς → (ς → Prop) → (ς → Prop) → Prop} {k : ς → Prop} (hi : δ[i]? = some (sD (⟨xs⟩ : Dc ι ω))) (h : ∃ s0, δ = enc s0 ∧ forW B k (xs.map Prod.fst) s0)
    (hs : ∀ x s (nx : ς → Prop), B x s nx k → Tg W K g x (enc s) fun δ2 => Sd W K tb δ2 { D with nx := fun W' δ' => ∃ s', δ' = enc s' ∧ Wle W' W ∧ nx s', ct := fun W' δ' => ∃ s', δ' = enc s' ∧ Wle W' W ∧ nx s', bk := fun W' δ' => ∃ s', δ' = enc s' ∧ Wle W' W ∧ k s' })
    (hd : ∀ s, k s → D.nx W (enc s)) (hm : ∀ W' s, Wle W' W → D.nx W (enc s) → D.nx W' (enc s)) : Sd W K (tLockO (tFor (iKeys (tVar i)) g tb)) δ D :=
  sd_forLockW enc (fun Inv h0 h1 h2 => sd_forKeys hi Inv h0 h1 fun δ' q => h2 δ' (by rw [List.length_map]; exact q)) h hs hd hm
theorem sd_forItemsW {ι ω : Type} [DKey ι] [Rep ω] {xs : List (ι × ω)} (enc : ς → DEnv) {B : ι × ω → ς → (ς → Prop) → (ς → Prop) → Prop} {k : ς → Prop} (hi : δ[i]? = some (sD (⟨xs⟩ : Dc ι ω))) (h : ∃ s0, δ = enc s0 ∧ forW B k xs s0)
    (hs : ∀ x s (nx : ς → Prop), B x s nx k → Tg W K g x (enc s) fun δ2 => Sd W K tb δ2 { D with nx := fun W' δ' => ∃ s', δ' = enc s' ∧ Wle W' W ∧ nx s', ct := fun W' δ' => ∃ s', δ' = enc s' ∧ Wle W' W ∧ nx s', bk := fun W' δ' => ∃ s', δ' = enc s' ∧ Wle W' W ∧ k s' })
    (hd : ∀ s, k s → D.nx W (enc s)) (hm : ∀ W' s, Wle W' W → D.nx W (enc s) → D.nx W' (enc s)) : Sd W K (tLockO (tFor (iItems (tVar i)) g tb)) δ D :=
  sd_forLockW enc (fun Inv h0 h1 h2 => sd_forItems hi Inv h0 h1 h2) h hs hd hm
theorem evi_wk {P : List α → Prop} (le : Wle W1 W2) (h : EvI W W1 K wi δ P) : EvI W W2 K wi δ P := fun O S H σ s R q => h O S H σ s R fun J S' H' xs m it p => q J S' H' xs (m.wle le) it p
theorem evio_wk {P : List α → Prop} (le : Wle W1 W2) (h : EvIO W W1 K wi δ P) : EvIO W W2 K wi δ P := fun O S H σ s R q => h O S H σ s R fun J S' H' xs m it p => q J S' H' xs (m.wle le) it p
/-! ### comprehensions -/
/-- one turn's target, test and element -/
def Bd {α β : Type} [Rep α] [Rep β] (W W' : Wd) (K : Frag) (g : TG) (tt : TT) (te : TE) (vs : List Nat) (x : α) (δ : DEnv) (R : Option β → Prop) : Prop :=
  TgC W K g vs x (wipeD δ vs) fun δ2 => ∃ W1, Wle W1 W' ∧ EvT W W1 K tt δ2 fun b => (b = true → Ev W1 W' K te δ2 fun y => R (some y)) ∧ (b = false → R none)
theorem lc_runW (Wi : Nat → Wd) {J : It} {xs : List α} {Inv : Nat → List β → Prop} (it : ItOk K O J xs S H) (s : Stt (Wi 0) K O S H σ δ) (hz : xs.length ≤ 100000) (h0 : Inv 0 []) (hb : ∀ (i : Nat) x ys, xs[i]? = some x → Inv i ys → Bd (Wi i) (Wi (i + 1)) K g tt te vs x δ fun r => Inv (i + 1) (ys ++ r.toList)) {Q : VK}
    (q : ∀ q vs' S' H' ys, Mv (Wi xs.length) O S H S' H' → Fresh (Wi xs.length) O S' H' q (.lst vs') → Reps K S' vs' ys → Inv xs.length ys → Q (.ref q) H') :
    ∀ D, H D = none → ∃ Wm : Nat → Nat → Hp → Prop, (∃ m, Wm 0 m (upd H D (.lst []))) ∧ ∀ i m H, Wm i m H →
      (J.stop i H ∧ Q (.ref D) H) ∨ (J.go i H ∧ ∃ Nx : Hp → Prop, (∀ H', Nx H' → ∃ m', m' < m ∧ Wm (i + 1) m' H') ∧ ∀ x H', J.yld i H x H' → g x (L2.wipe σ vs) H' fun σ2 H2 => L2.wipe σ2 vs = L2.wipe σ vs ∧ tt σ2 H2 fun b H3 =>
        if b = true then te σ2 H3 fun y H4 => ∃ acc, H4 D = some (.lst acc) ∧ acc.length < sizeLine ∧ Nx (upd H4 D (.lst (acc ++ [y]))) else Nx H3) := by
  intro D hD
  have f0 := Fresh.new (o := .lst []) s.g hD
  have g0 : Good (Wi 0) (fun a => O a ∨ a = D) S (upd H D (.lst [])) := by
    have t := s.g.temp (o := .lst []) hD
    refine ⟨t.sub, t.ok, t.fpS, fun a h z => z.elim (t.fpO a h) (fun z => by
      subst z
      exact f0.f h), fun a z => z.elim (t.oS a) fun z => by rw [z]; exact f0.s, fun a z => z.elim (t.oH a) fun z => ?_⟩
    rw [z, upd_same]
    intro w
    cases w
  -- the invariant
  have wr : ∀ {W : Wd} {S' H' : Hp} {o : HO}, Good W (fun a => O a ∨ a = D) S' H' → Good W (fun a => O a ∨ a = D) S' (upd H' D o) := fun {W S' H' o} g => by
    have l := W.loc g.ok (H' := upd H' D o) fun a h => upd_ne fun e => g.fpO a h (.inr e)
    refine ⟨fun a u e => ?_, l.1, fun a h => g.fpS a ((l.2 a).mp h), fun a h => g.fpO a ((l.2 a).mp h), g.oS, fun a h => ?_⟩
    · rw [upd_ne (ne_of_none e (g.oS D (.inr rfl)))]
      exact g.sub a u e
    · by_cases z : a = D
      · rw [z, upd_same]
        intro w
        cases w
      · rw [upd_ne z]
        exact g.oH a h
  refine ⟨fun i m H' => m = xs.length - i ∧ i ≤ xs.length ∧ ∃ S' acc ys, Ex S S' ∧ (∀ a, O a → H' a = H a) ∧ (∀ a, S a ≠ none → H' a = H a) ∧ Good (Wi i) (fun a => O a ∨ a = D) S' H' ∧ H' D = some (.lst acc) ∧ Reps K S' acc ys ∧ ys.length ≤ i ∧ Inv i ys,
    ⟨xs.length, by simp, Nat.zero_le _, S, [], [], Ex.refl S, fun a h => upd_ne fun z => s.g.oH a h (by rw [z]; exact hD), fun a h => upd_ne fun z => h (by rw [z]; exact s.g.sub.nn hD), g0, upd_same, .nil, Nat.le_refl _, h0⟩, ?_⟩
  rintro i m H' ⟨rfl, hi, S', acc, ys, ex, ko, ks, gd, hD', ra, rw2, iv⟩
  have k := it i _ S' H' ex ko ks gd
  by_cases hlt : i < xs.length
  · have hx : xs[i]? = some xs[i] := List.getElem?_eq_getElem hlt
    obtain ⟨go, yl⟩ := k.1 _ hx
    refine .inr ⟨go, fun H2 => ∃ S2 acc ys, Ex S S2 ∧ (∀ a, O a → H2 a = H a) ∧ (∀ a, S a ≠ none → H2 a = H a) ∧ Good (Wi (i + 1)) (fun a => O a ∨ a = D) S2 H2 ∧ H2 D = some (.lst acc) ∧ Reps K S2 acc ys ∧ ys.length ≤ i + 1 ∧ Inv (i + 1) ys,
      fun H2 ⟨S2, acc2, ys2, e1, e2, e3, e4, e5, e6, e7, e8⟩ => ⟨xs.length - (i + 1), by omega, rfl, hlt, S2, acc2, ys2, e1, e2, e3, e4, e5, e6, e7, e8⟩, fun v H2 y => ?_⟩
    obtain ⟨S2, m2, rv⟩ := yl v H2 y
    have sl' : Sl K S2 H2 σ δ := by
      refine ⟨s.sl.1, fun j d hd => ?_⟩
      obtain ⟨ov, e, ok⟩ := s.sl.2 j d hd
      exact ⟨ov, e, ok.mv (ex.trans m2.ex) fun ho a ea => (m2.keep a (.inl (s.own a ⟨j, d, hd, ho, by rw [e, ea]⟩))).trans (ko a (s.own a ⟨j, d, hd, ho, by rw [e, ea]⟩))⟩
    have st : Stt (Wi i) K (fun a => O a ∨ a = D) S2 H2 σ δ := ⟨m2.good, sl', fun a h => .inl (s.own a h)⟩
    refine hb i _ _ hx iv _ S2 H2 σ v (st.wipe vs) rv _ fun σ3 δ3 st3 hw3 ht3 => ⟨hw3, ?_⟩
    obtain ⟨W1, le1, ht3⟩ := ht3
    refine ht3 _ S2 H2 σ3 st3 _ fun b S4 H4 m4 hb4 => ?_
    have m24 := m2.trans m4
    cases b with
    | false =>
      show ∃ S2 acc ys, _
      refine ⟨S4, acc, ys, ex.trans m24.ex, fun a h => (m24.keep a (.inl h)).trans (ko a h), fun a h => (m24.stay a (ex.nn h)).trans (ks a h), m24.good.wle le1, (m24.keep D (.inr rfl)).trans hD', ra.mono m24.ex, Nat.le_succ_of_le rw2, ?_⟩
      have z : Inv (i + 1) (ys ++ []) := hb4.2 rfl
      rw [List.append_nil] at z
      exact z
    | true =>
      show te σ3 H4 _
      refine hb4.1 rfl _ S4 H4 σ3 (st3.mv m4) _ fun v5 S5 H5 y5 m5 r5 hR => ?_
      have m25 := m24.trans m5
      have hD5 : H5 D = some (.lst acc) := (m25.keep D (.inr rfl)).trans hD'
      have ra5 := ra.mono m25.ex
      refine ⟨acc, hD5, ?_, S5, acc ++ [v5], ys ++ [y5], ex.trans m25.ex, fun a h => ?_, fun a h => ?_, wr m25.good, upd_same, Paired.snoc ra5 r5, by rw [List.length_append]; exact Nat.succ_le_succ rw2, hR⟩
      · have l1 := reps_len ra5
        have l3 : acc.length < 100001 := by omega
        exact Nat.lt_of_lt_of_le l3 (by decide)
      · rw [upd_ne fun z => by
          have w := s.g.oH a h
          rw [z, hD] at w
          exact w rfl, m25.keep a (.inl h)]
        exact ko a h
      · rw [upd_ne fun z => by
          have w := s.g.sub.nn hD
          rw [← z] at w
          exact h w, m25.stay a (ex.nn h)]
        exact ks a h
  · have e : i = xs.length := by omega
    subst e
    refine .inl ⟨k.2 rfl, q D acc S' H' ys ⟨ex, ko, ks, gd.less fun _ h => .inl h⟩ ⟨hD', gd.oS D (.inr rfl), fun h => gd.fpO D h (.inr rfl), fun h => s.g.oH D h hD⟩ ra iv⟩
theorem et_yes {P : Bool → Prop} (h : P true) : EvT W W K tYes δ P := fun O S H σ s Q q => q true S H (Mv.refl s.g) h
theorem bd_yes {R : Option β → Prop} {x : α} (h : TgC W K g vs x (wipeD δ vs) fun δ2 => Ev W W1 K te δ2 fun y => R (some y)) (le : Wle W W1 := by exact Wle.refl _) : Bd W W1 K g tYes te vs x δ R := fun O S H σ v s r Q k => h O S H σ v s r Q fun σ' δ' s' e n => k σ' δ' s' e ⟨W, le, et_yes ⟨fun _ => n, fun e => nomatch e⟩⟩
theorem bd_if {R : Option β → Prop} {x : α} (h : TgC W K g vs x (wipeD δ vs) fun δ2 => EvT W W1 K tt δ2 fun b => (b = true → Ev W1 W2 K te δ2 fun y => R (some y)) ∧ (b = false → R none)) (le : Wle W1 W2 := by exact Wle.refl _) : Bd W W2 K g tt te vs x δ R := fun O S H σ v s r Q k => h O S H σ v s r Q fun σ' δ' s' e n => k σ' δ' s' e ⟨W1, le, n⟩
/-- turns that cost -/
theorem ef_lcWs (Wi : Nat → Wd) (We : Wd) {N : Nat} {B : α → (Option β → Prop) → Prop} {k : List β → Prop} (h : EvIO W W1 K wi δ fun xs : List α => xs.length ≤ N ∧ compW B k xs []) (hb : ∀ i x (R : Option β → Prop), i < N → B x R → Bd (Wi i) (Wi (i + 1)) K g tt te vs x δ R)
    (e0 : Wi 0 = W1) (le : ∀ i, i ≤ N → Wle (Wi i) We) (hN : N ≤ 100000 := by decide) : EvF W We K (tLc wi g tt te vs) δ k := fun O S H σ s Q q =>
  h O S H σ s _ fun J S1 H1 xs m it ⟨hz, w⟩ => by
    subst e0
    exact lc_runW Wi (Inv := fun i ys => compW B k (xs.drop i) ys) it (s.mv m) (Nat.le_trans hz hN) w (fun i x ys hx hw => hb i x _ (Nat.lt_of_lt_of_le (List.getElem?_eq_some_iff.mp hx).1 hz) (compW_drop hx hw)) fun a vs' S2 H2 ys m2 f r rw => q a vs' S2 H2 ys ((m.trans m2).wle (le _ hz)) (f.wle (le _ hz)) r (by
      rw [List.drop_length] at rw
      exact rw)
theorem ef_lcW {B : α → (Option β → Prop) → Prop} {k : List β → Prop} (h : EvIO W W1 K wi δ fun xs : List α => xs.length ≤ 100000 ∧ compW B k xs []) (hb : ∀ x (R : Option β → Prop), B x R → Bd W1 W1 K g tt te vs x δ R) : EvF W W1 K (tLc wi g tt te vs) δ k :=
  ef_lcWs (fun _ => W1) W1 (N := 100000) h (fun i x R _ w => hb x R w) rfl (fun _ _ => Wle.refl _)
theorem ef_lcKW {ι ω : Type} [DKey ι] [Rep ω] {B : ε → (Option β → Prop) → Prop} {k : List β → Prop} {dc : Dc ι ω} {ys : List ε} (hi : δ[i]? = some (sD dc)) (hw : EvK W K wi i δ ys) (h : ys.length ≤ 100000 ∧ compW B k ys []) (hb : ∀ x (R : Option β → Prop), B x R → Bd W W K g tt te vs x δ R) :
    EvF W W K (tLockOE (tLc wi g tt te vs)) δ k := fun O S H σ s Q q => by
  obtain ⟨ov, e, v, ev, a, kvs, ea, ha, rv, nd⟩ := s.sl.2 i _ hi
  subst ev ea
  have fin : ∀ zs, compW B k (ys.drop ys.length) zs → k zs := fun zs w => by
    rw [List.drop_length] at w
    exact w
  rcases s.g.sub a _ ha with h' | ⟨hx, ob, h'⟩
  · refine .inl ⟨a, _, h', trivial, fun od => ?_⟩
    have s1 := s.relock ha (.frz od (.dK kvs)) (.inr ⟨trivial, od, rfl⟩)
    refine hw O S _ σ s1 a kvs od e ha upd_same _ fun J it => lc_runW (fun _ => W) (Inv := fun i ys' => compW B k (ys.drop i) ys') (Q := fun v H' => H' a = some (HO.frz od (HO.dK kvs)) ∧ Q v (upd H' a (HO.dK kvs))) it s1 h.1 h.2 (fun i x ys hx hw => hb x _ (compW_drop hx hw)) fun D vs' S' H' zs m f r rw => ?_
    have k := Mv.unlock s.g h' ha m
    exact ⟨k.1, q D vs' S' _ zs k.2 (f.relock m.good (m.ex _ _ ha)) r (fin zs rw)⟩
  · exact .inr (hw O S _ σ s a kvs ob e ha h' _ fun J it => lc_runW (fun _ => W) (Inv := fun i ys' => compW B k (ys.drop i) ys') it s h.1 h.2 (fun i x ys hx hw => hb x _ (compW_drop hx hw)) fun D vs' S' H' zs m f r rw => q D vs' S' H' zs m f r (fin zs rw))
end
section
variable {W W1 W2 W3 W4 : Wd} {K : Frag} {O : Addr → Prop} {S H S1 H1 S2 H2 : Hp} {σ : L2.St} {δ : DEnv} {α κ : Type} [Rep α] [DKey κ] [DecidableEq κ] {te td tk tv tx : TE} {ta : TA} {i : Nat}
/-- one turn of a dict comprehension -/
def BdM {ε : Type} [Rep ε] (W W' : Wd) (K : Frag) (g : TG) (tt : TT) (tk tv : TE) (vs : List Nat) (x : ε) (δ : DEnv) (R : Option (κ × α) → Prop) : Prop :=
  TgC W K g vs x (wipeD δ vs) fun δ2 => ∃ W1 W2, Wle W1 W' ∧ EvT W W1 K tt δ2 fun b => (b = true → Ev W1 W2 K tk δ2 fun k : κ => Ev W2 W' K tv δ2 fun y : α => R (some (k, y))) ∧ (b = false → R none)
theorem bdm_yes {ε : Type} [Rep ε] {g : TG} {vs : List Nat} {R : Option (κ × α) → Prop} {x : ε} (h : TgC W K g vs x (wipeD δ vs) fun δ2 => Ev W W1 K tk δ2 fun y : κ => Ev W1 W2 K tv δ2 fun z : α => R (some (y, z))) (le : Wle W W2 := by exact Wle.refl _) : BdM W W2 K g tYes tk tv vs x δ R := fun O S H σ v s r Q k => h O S H σ v s r Q fun σ' δ' s' e n => k σ' δ' s' e ⟨W, W1, le, et_yes ⟨fun _ => n, fun e => nomatch e⟩⟩
theorem bdm_if {ε : Type} [Rep ε] {g : TG} {tt : TT} {vs : List Nat} {R : Option (κ × α) → Prop} {x : ε} (h : TgC W K g vs x (wipeD δ vs) fun δ2 => EvT W W1 K tt δ2 fun b => (b = true → Ev W1 W2 K tk δ2 fun y : κ => Ev W2 W3 K tv δ2 fun z : α => R (some (y, z))) ∧ (b = false → R none)) (le : Wle W1 W3 := by exact Wle.refl _) : BdM W W3 K g tt tk tv vs x δ R :=
  fun O S H σ v s r Q k => h O S H σ v s r Q fun σ' δ' s' e n => k σ' δ' s' e ⟨W1, W2, le, n⟩
theorem dc_runW (Wi : Nat → Wd) {ε : Type} [Rep ε] {g : TG} {tt : TT} {vs : List Nat} {J : It} {xs : List ε} {Inv : Nat → List (κ × α) → Prop} (it : ItOk K O J xs S H) (s : Stt (Wi 0) K O S H σ δ) (hz : xs.length ≤ 100000) (h0 : Inv 0 []) (hb : ∀ (i : Nat) x ys, xs[i]? = some x → Inv i ys → BdM (Wi i) (Wi (i + 1)) K g tt tk tv vs x δ fun r => Inv (i + 1) (ys ++ r.toList)) {Q : VK}
    (q : ∀ q kvs S' H' ys, Mv (Wi xs.length) O S H S' H' → Fresh (Wi xs.length) O S' H' q (.dK kvs) → RepKV K S' kvs (puts [] ys) → Inv xs.length ys → Q (.ref q) H') :
    ∀ D, H D = none → ∃ Wm : Nat → Nat → Hp → Prop, (∃ m, Wm 0 m (upd H D (.dK []))) ∧ ∀ i m H, Wm i m H →
      (J.stop i H ∧ Q (.ref D) H) ∨ (J.go i H ∧ ∃ Nx : Hp → Prop, (∀ H', Nx H' → ∃ m', m' < m ∧ Wm (i + 1) m' H') ∧ ∀ x H', J.yld i H x H' → g x (L2.wipe σ vs) H' fun σ2 H2 => L2.wipe σ2 vs = L2.wipe σ vs ∧ tt σ2 H2 fun b H3 =>
        if b = true then tk σ2 H3 fun y H4 => tv σ2 H4 fun z H5 => ∃ kvs k, y = kV k ∧ H5 D = some (.dK kvs) ∧ kvs.length < sizeLine ∧ Nx (upd H5 D (.dK (putK kvs k z))) else Nx H3) := by
  intro D hD
  have f0 := Fresh.new (o := .dK []) s.g hD
  have g0 : Good (Wi 0) (fun a => O a ∨ a = D) S (upd H D (.dK [])) := by
    have t := s.g.temp (o := .dK []) hD
    refine ⟨t.sub, t.ok, t.fpS, fun a h z => z.elim (t.fpO a h) (fun z => by
      subst z
      exact f0.f h), fun a z => z.elim (t.oS a) fun z => by rw [z]; exact f0.s, fun a z => z.elim (t.oH a) fun z => ?_⟩
    rw [z, upd_same]
    intro w
    cases w
  have wr : ∀ {W : Wd} {S' H' : Hp} {o : HO}, Good W (fun a => O a ∨ a = D) S' H' → Good W (fun a => O a ∨ a = D) S' (upd H' D o) := fun {W S' H' o} g => by
    have l := W.loc g.ok (H' := upd H' D o) fun a h => upd_ne fun e => g.fpO a h (.inr e)
    refine ⟨fun a u e => ?_, l.1, fun a h => g.fpS a ((l.2 a).mp h), fun a h => g.fpO a ((l.2 a).mp h), g.oS, fun a h => ?_⟩
    · rw [upd_ne (ne_of_none e (g.oS D (.inr rfl)))]
      exact g.sub a u e
    · by_cases z : a = D
      · rw [z, upd_same]
        intro w
        cases w
      · rw [upd_ne z]
        exact g.oH a h
  have sn : ∀ (ys : List (κ × α)) (p : κ × α), puts [] (ys ++ [p]) = put (puts [] ys) p.1 p.2 := fun ys p => by
    unfold puts
    rw [List.foldl_append] <;> rfl
  have pl : ∀ ys : List (κ × α), (puts [] ys).length ≤ ys.length := fun ys => by
    have c : ∀ (ys xs : List (κ × α)), (puts xs ys).length ≤ xs.length + ys.length := fun ys => by
      induction ys with
      | nil => exact fun xs => Nat.le_refl _
      | cons p r ih =>
        intro xs
        have h1 := ih (put xs p.1 p.2)
        have h2 := put_len (xs := xs) (k := p.1) (v := p.2)
        have h3 : (puts xs (p :: r)) = puts (put xs p.1 p.2) r := rfl
        rw [h3, List.length_cons]
        omega
    have h := c ys []
    rw [List.length_nil] at h
    omega
  refine ⟨fun i m H' => m = xs.length - i ∧ i ≤ xs.length ∧ ∃ S' kvs ys, Ex S S' ∧ (∀ a, O a → H' a = H a) ∧ (∀ a, S a ≠ none → H' a = H a) ∧ Good (Wi i) (fun a => O a ∨ a = D) S' H' ∧ H' D = some (.dK kvs) ∧ RepKV K S' kvs (puts [] ys) ∧ ys.length ≤ i ∧ Inv i ys,
    ⟨xs.length, by simp, Nat.zero_le _, S, [], [], Ex.refl S, fun a h => upd_ne fun z => s.g.oH a h (by rw [z]; exact hD), fun a h => upd_ne fun z => h (by rw [z]; exact s.g.sub.nn hD), g0, upd_same, .nil, Nat.le_refl _, h0⟩, ?_⟩
  rintro i m H' ⟨rfl, hi, S', kvs, ys, ex, ko, ks, gd, hD', ra, rw2, iv⟩
  have k := it i _ S' H' ex ko ks gd
  by_cases hlt : i < xs.length
  · have hx : xs[i]? = some xs[i] := List.getElem?_eq_getElem hlt
    obtain ⟨go, yl⟩ := k.1 _ hx
    refine .inr ⟨go, fun H2 => ∃ S2 kvs ys, Ex S S2 ∧ (∀ a, O a → H2 a = H a) ∧ (∀ a, S a ≠ none → H2 a = H a) ∧ Good (Wi (i + 1)) (fun a => O a ∨ a = D) S2 H2 ∧ H2 D = some (.dK kvs) ∧ RepKV K S2 kvs (puts [] ys) ∧ ys.length ≤ i + 1 ∧ Inv (i + 1) ys,
      fun H2 ⟨S2, acc2, ys2, e1, e2, e3, e4, e5, e6, e7, e8⟩ => ⟨xs.length - (i + 1), by omega, rfl, hlt, S2, acc2, ys2, e1, e2, e3, e4, e5, e6, e7, e8⟩, fun v H2 y => ?_⟩
    obtain ⟨S2, m2, rv⟩ := yl v H2 y
    have sl' : Sl K S2 H2 σ δ := by
      refine ⟨s.sl.1, fun j d hd => ?_⟩
      obtain ⟨ov, e, ok⟩ := s.sl.2 j d hd
      exact ⟨ov, e, ok.mv (ex.trans m2.ex) fun ho a ea => (m2.keep a (.inl (s.own a ⟨j, d, hd, ho, by rw [e, ea]⟩))).trans (ko a (s.own a ⟨j, d, hd, ho, by rw [e, ea]⟩))⟩
    have st : Stt (Wi i) K (fun a => O a ∨ a = D) S2 H2 σ δ := ⟨m2.good, sl', fun a h => .inl (s.own a h)⟩
    refine hb i _ _ hx iv _ S2 H2 σ v (st.wipe vs) rv _ fun σ3 δ3 st3 hw3 ht3 => ⟨hw3, ?_⟩
    obtain ⟨W1, W2, le1, ht3⟩ := ht3
    refine ht3 _ S2 H2 σ3 st3 _ fun b S4 H4 m4 hb4 => ?_
    have m24 := m2.trans m4
    cases b with
    | false =>
      show ∃ S2 kvs ys, _
      refine ⟨S4, kvs, ys, ex.trans m24.ex, fun a h => (m24.keep a (.inl h)).trans (ko a h), fun a h => (m24.stay a (ex.nn h)).trans (ks a h), m24.good.wle le1, (m24.keep D (.inr rfl)).trans hD', RepKV.mono m24.ex ra, Nat.le_succ_of_le rw2, ?_⟩
      have z : Inv (i + 1) (ys ++ []) := hb4.2 rfl
      rw [List.append_nil] at z
      exact z
    | true =>
      show tk σ3 H4 _
      refine hb4.1 rfl _ S4 H4 σ3 (st3.mv m4) _ fun v5 S5 H5 k5 m5 r5 hR => ?_
      refine hR _ S5 H5 σ3 ((st3.mv m4).mv m5) _ fun v6 S6 H6 y6 m6 r6 hR6 => ?_
      have m26 := (m24.trans m5).trans m6
      have hD6 : H6 D = some (.dK kvs) := (m26.keep D (.inr rfl)).trans hD'
      have ra6 : RepKV K S6 kvs (puts [] ys) := RepKV.mono m26.ex ra
      have ek : v5 = kV (DKey.key k5) := (Flat.flat.mp r5).trans (DKey.kv k5).symm
      refine ⟨kvs, DKey.key k5, ek, hD6, ?_, S6, putK kvs (DKey.key k5) v6, ys ++ [(k5, y6)], ex.trans m26.ex, fun a h => ?_, fun a h => ?_, wr m26.good, upd_same, ?_, by rw [List.length_append]; exact Nat.succ_le_succ rw2, hR6⟩
      · have l1 := repkv_len ra6
        have l4 := pl ys
        have l3 : kvs.length < 100001 := by omega
        exact Nat.lt_of_lt_of_le l3 (by decide)
      · rw [upd_ne fun z => by
          have w := s.g.oH a h
          rw [z, hD] at w
          exact w rfl, m26.keep a (.inl h)]
        exact ko a h
      · rw [upd_ne fun z => by
          have w := s.g.sub.nn hD
          rw [← z] at w
          exact h w, m26.stay a (ex.nn h)]
        exact ks a h
      · rw [sn]
        exact repkv_put r6 ra6 (puts_nodup List.nodup_nil)
  · have e : i = xs.length := by omega
    subst e
    refine .inl ⟨k.2 rfl, q D kvs S' H' ys ⟨ex, ko, ks, gd.less fun _ h => .inl h⟩ ⟨hD', gd.oS D (.inr rfl), fun h => gd.fpO D h (.inr rfl), fun h => s.g.oH D h hD⟩ ra iv⟩
variable {ε : Type} [Rep ε] {wi : TI} {g : TG} {tt : TT} {vs : List Nat}
/-- a dict comprehension -/
def compM {ε κ α : Type} [DecidableEq κ] (B : ε → (Option (κ × α) → Prop) → Prop) (k : List (κ × α) → Prop) (xs : List ε) : Prop := compW B (fun ys => k (puts [] ys)) xs []
theorem eg_dcW {B : ε → (Option (κ × α) → Prop) → Prop} {k : List (κ × α) → Prop} (h : EvIO W W1 K wi δ fun xs : List ε => xs.length ≤ 100000 ∧ compM B k xs) (hb : ∀ x (R : Option (κ × α) → Prop), B x R → BdM W1 W1 K g tt tk tv vs x δ R) : EvG W W1 K (tDc wi g tt tk tv vs) δ k := fun O S H σ s Q q =>
  h O S H σ s _ fun J S1 H1 xs m it ⟨hz, w⟩ => dc_runW (fun _ => W1) (Inv := fun i ys => compW B (fun ys => k (puts [] ys)) (xs.drop i) ys) it (s.mv m) hz w (fun i x ys hx hw => hb x _ (compW_drop hx hw)) fun a vs' S2 H2 ys m2 f r rw => q a vs' S2 H2 _ (m.trans m2) f r (puts_nodup List.nodup_nil) (by
    rw [List.drop_length] at rw
    exact rw)
theorem eg_dcKW {ι ω : Type} [DKey ι] [Rep ω] {B : ε → (Option (κ × α) → Prop) → Prop} {k : List (κ × α) → Prop} {dc : Dc ι ω} {ys : List ε} (hi : δ[i]? = some (sD dc)) (hw : EvK W K wi i δ ys) (h : ys.length ≤ 100000 ∧ compM B k ys) (hb : ∀ x (R : Option (κ × α) → Prop), B x R → BdM W W K g tt tk tv vs x δ R) :
    EvG W W K (tLockOE (tDc wi g tt tk tv vs)) δ k := fun O S H σ s Q q => by
  obtain ⟨ov, e, v, ev, a, kvs, ea, ha, rv, nd⟩ := s.sl.2 i _ hi
  subst ev ea
  have fin : ∀ zs, compW B (fun ys => k (puts [] ys)) (ys.drop ys.length) zs → k (puts [] zs) := fun zs w => by
    rw [List.drop_length] at w
    exact w
  rcases s.g.sub a _ ha with h' | ⟨hx, ob, h'⟩
  · refine .inl ⟨a, _, h', trivial, fun od => ?_⟩
    have s1 := s.relock ha (.frz od (.dK kvs)) (.inr ⟨trivial, od, rfl⟩)
    refine hw O S _ σ s1 a kvs od e ha upd_same _ fun J it => dc_runW (fun _ => W) (Inv := fun i ys' => compW B (fun ys => k (puts [] ys)) (ys.drop i) ys') (Q := fun v H' => H' a = some (HO.frz od (HO.dK kvs)) ∧ Q v (upd H' a (HO.dK kvs))) it s1 h.1 h.2 (fun i x ys hx hw => hb x _ (compW_drop hx hw)) fun D vs' S' H' zs m f r rw => ?_
    have k := Mv.unlock s.g h' ha m
    exact ⟨k.1, q D vs' S' _ _ k.2 (f.relock m.good (m.ex _ _ ha)) r (puts_nodup List.nodup_nil) (fin zs rw)⟩
  · exact .inr (hw O S _ σ s a kvs ob e ha h' _ fun J it => dc_runW (fun _ => W) (Inv := fun i ys' => compW B (fun ys => k (puts [] ys)) (ys.drop i) ys') it s h.1 h.2 (fun i x ys hx hw => hb x _ (compW_drop hx hw)) fun D vs' S' H' zs m f r rw => q D vs' S' H' _ m f r (puts_nodup List.nodup_nil) (fin zs rw))
end
end DW
set_option maxHeartbeats 4000000
/-! DW: a def's promise by its body; data that are never None; equal data -/
namespace DW
open PySem PySem.Spec PyProof.Rows L2
/-- a def that is called by its name: its promise, at a depth of at most k -/
def CalD (P : Program) (w : World) (K : Frag) (mg : Str → Option Value) (base : Heap) (k : Nat) (x : Str) (sp : Sp) (dvs : List V) : Prop :=
  ∃ (fa : Addr) (fd : FuncData) (ps : List Str) (ds : List Value), mg x = some (.ref fa) ∧ FnOk P w K mg base CX0 k fa fd ps sp ∧ Vals dvs ds ∧ Binds K fd ps ds ∧ PySem.W.keepIn K (.ref fa) = true
theorem pe_cd {X : Cx} {k j : Nat} {x : Str} {sp : Sp} {dvs : List V} {e : Expr} {es : List Expr} {t : TA} {p pos : Pos} (c : CalD X.prog X.w X.K X.mg X.base k x sp dvs) (room : Room j X.A) (le : k ≤ j) (gl : Gl X x) (args : PA X (e :: es) t)
    (nd : (x == ("__debug__" : Str)) = false := by decide) (ns : starEach (e :: es) X.env = (false, eval e X.env) :: starEach es X.env := by rfl) (np : (backTo pos (starEach es X.env)).any (·.1) = false := by rfl) :
    PE X (.Call (.Name x p) (e :: es) [] pos) (tCall sp dvs E0 t) := by
  obtain ⟨fa, fd, ps, ds, h1, h2, h3, h4, h5⟩ := c
  exact pe_call h2 (room.mono le) gl h1 h5 h4 h3 pass0 args nd ns np
section
variable {P : Program} {w : World} {K : Frag} {mg : Str → Option Value} {base : Heap} {γ β : Type} [RepA γ] [Rep β]
theorem start_cf {W : Wd} {O : Addr → Prop} {S H : Hp} {N ps : List Str} {vs : List V} {g : γ} (gd : Good W O S H) (r : RepA.repA W K S vs g) (ha : RepA.arity γ = ps.length) (hn : ps.length ≤ N.length) :
    Cf W K O S H (L2.start N vs) (RepA.slots W g ++ List.replicate (N.length - ps.length) DSlot.non) := by
  have l1 : vs.length = ps.length := (RepA.len r).trans ha
  have l2 : (RepA.slots W g).length = ps.length := (RepA.slen W g).trans ha
  have at_ : ∀ (i : Nat) (d : DSlot), (RepA.slots W g ++ List.replicate (N.length - ps.length) DSlot.non)[i]? = some d → d.own = false ∧ ∃ ov, (L2.start N vs)[i]? = some ov ∧ SlotOk K S H ov d := fun i d hd => by
    unfold L2.start
    by_cases hi : i < ps.length
    · rw [List.getElem?_append_left (by rw [l2]; exact hi)] at hd
      obtain ⟨v, e, ok, no⟩ := RepA.ok r i d hd
      refine ⟨no, some v, ?_, ok⟩
      rw [List.getElem?_append_left (by rw [List.length_map, l1]; exact hi), List.getElem?_map, e] <;> rfl
    · rw [List.getElem?_append_right (by rw [l2]; omega), l2, List.getElem?_replicate] at hd
      split at hd
      · rename_i h2
        cases hd
        refine ⟨rfl, none, ?_, trivial⟩
        rw [List.getElem?_append_right (by rw [List.length_map, l1]; omega), List.getElem?_replicate, List.length_map, l1, if_pos h2]
      · cases hd
  have no : ∀ a, ¬ OwnAt (L2.start N vs) (RepA.slots W g ++ List.replicate (N.length - ps.length) DSlot.non) a := fun a ⟨i, d, h1, h2, _⟩ => by
    rw [(at_ i d h1).1] at h2
    cases h2
  refine ⟨gd.less fun a h => h.elim id fun z => (no a z).elim, ⟨?_, fun i d hd => (at_ i d hd).2⟩, fun i j d e a h1 h2 h3 => (no a ⟨i, d, h1, h2, h3⟩).elim, fun a h => (no a h).elim⟩
  unfold L2.start
  rw [List.length_append, List.length_append, List.length_map, List.length_replicate, List.length_replicate, l1, l2]
theorem sd_run {W : Wd} {O : Addr → Prop} {S H : Hp} {σ : L2.St} {δ : DEnv} {t : TS} {D : DE β} (h : Sd W K t δ D) (c : Cf W K O S H σ δ) {Q : VK} {We : Wd} {P : β → Prop} (hb : ∀ W' δ', D.bk W' δ' → False) (hc : ∀ W' δ', D.ct W' δ' → False)
    (hn : ∀ W' δ', D.nx W' δ' → Wle W' We ∧ ∃ y, P y ∧ ∀ K S, rep K S .non y) (hr : D.rt = rtW We P) (q : ∀ v S' H' y, Mv We O S H S' H' → rep K S' v y → P y → Q v H') (hg : ∀ W' o S', D.rg W' o S' → False := by intro _ _ _ h; exact h) : t { nx := fun _ H' => Q .non H', rt := Q } σ H :=
  h O S H σ c _ ⟨fun S' H' σ' δ' m c' n => by
    obtain ⟨le, y, p, r⟩ := hn _ δ' n
    exact q .non S' H' y (m.mv (Mv.refl (c'.good.wle le))) (r K S') p, fun _ _ _ δ' _ _ n => (hb _ δ' n).elim, fun _ _ _ δ' _ _ n => (hc _ δ' n).elim, fun v S' H' y m r p => by
    rw [hr] at p
    exact q v S' H' y (m.wle p.1) r p.2, fun _ o S' _ _ _ p => (hg _ o S' p).elim⟩
variable {x : Str} {st : Stmt} {f : Addr} {fd : FuncData} {N ps : List Str} {k : Nat} {Wp : Wd → Wd → Prop} {Fp : γ → (β → Prop) → Prop}
/-- THE RULE for a def without defaults -/
theorem cal_gen (nxk : (β → Prop) → Prop) (hnx : ∀ Q, nxk Q → ∃ y, Q y ∧ ∀ K S, rep K S .non y) (F : Fun K x x st f fd) (hm : mg x = some (.ref f)) (b : Binds K fd ps []) (S : FnScope N ps (defScope st)) (ha : RepA.arity γ = ps.length) (hn : ps.length ≤ N.length)
    (hb : ∀ (cdv : Value) (A : Around) (outer : List Env) (s : Shared) (H : Hp) (E : XK), Room k (A.deeper (envOfC x (defScope st) s.heap.objs.size f cdv)) →
      ∃ t, PSs (cxOf CX0 P w K mg base N x (defScope st) f cdv A outer s H E).nox (defBody st) t ∧ ∀ (W W' : Wd), Wp W W' → ∀ (g : γ) (Q : β → Prop), Fp g Q → Sd W K t (RepA.slots W g ++ List.replicate (N.length - ps.length) DSlot.non) { nx := fun W1 _ => Wle W1 W' ∧ nxk Q, rt := rtW W' Q }) :
    CalD P w K mg base (k + 1) x (spD K Wp Fp) [] := by
  refine ⟨f, fd, ps, [], hm, F.ok S (fun vs H Q E h => ?_) (fun cdv A outer s H vs Q E hr h => ?_), .nil, b, F.kp⟩
  · obtain ⟨W, W', O, S', g, Q', h1, h2, h3, h4, h5⟩ := h
    exact (RepA.len h3).trans ha
  · obtain ⟨W, W', O, S', g, Q', h1, h2, h3, h4, h5⟩ := h
    obtain ⟨t, ht, hs⟩ := hb cdv A outer s H E hr
    exact ⟨t, ht, sd_run (hs W W' h1 g Q' h4) (start_cf h2 h3 ha hn) (fun _ _ h => h) (fun _ _ h => h) (fun _ _ h => ⟨h.1, hnx Q' h.2⟩) rfl h5⟩
theorem cal_ok (F : Fun K x x st f fd) (hm : mg x = some (.ref f)) (b : Binds K fd ps []) (S : FnScope N ps (defScope st)) (ha : RepA.arity γ = ps.length) (hn : ps.length ≤ N.length)
    (hb : ∀ (cdv : Value) (A : Around) (outer : List Env) (s : Shared) (H : Hp) (E : XK), Room k (A.deeper (envOfC x (defScope st) s.heap.objs.size f cdv)) →
      ∃ t, PSs (cxOf CX0 P w K mg base N x (defScope st) f cdv A outer s H E).nox (defBody st) t ∧ ∀ (W W' : Wd), Wp W W' → ∀ (g : γ) (Q : β → Prop), Fp g Q → Sd W K t (RepA.slots W g ++ List.replicate (N.length - ps.length) DSlot.non) { nx := fun _ _ => False, rt := rtW W' Q }) :
    CalD P w K mg base (k + 1) x (spD K Wp Fp) [] :=
  cal_gen (fun _ => False) (fun _ h => h.elim) F hm b S ha hn fun cdv A outer s H E hr => by
    obtain ⟨t, h1, h2⟩ := hb cdv A outer s H E hr
    exact ⟨t, h1, fun W W' hW g Q h => (h2 W W' hW g Q h).imp (fun _ _ z => z.elim) fun _ _ z => z⟩
end
/-- .. that ends without return -/
theorem cal_okU {P : Program} {w : World} {K : Frag} {mg : Str → Option Value} {base : Heap} {γ : Type} [RepA γ] {x : Str} {st : Stmt} {f : Addr} {fd : FuncData} {N ps : List Str} {k : Nat} {Wp : Wd → Wd → Prop} {Fp : γ → (Unit → Prop) → Prop}
    (F : Fun K x x st f fd) (hm : mg x = some (.ref f)) (b : Binds K fd ps []) (S : FnScope N ps (defScope st)) (ha : RepA.arity γ = ps.length) (hn : ps.length ≤ N.length)
    (hb : ∀ (cdv : Value) (A : Around) (outer : List Env) (s : Shared) (H : Hp) (E : XK), Room k (A.deeper (envOfC x (defScope st) s.heap.objs.size f cdv)) →
      ∃ t, PSs (cxOf CX0 P w K mg base N x (defScope st) f cdv A outer s H E).nox (defBody st) t ∧ ∀ (W W' : Wd), Wp W W' → ∀ (g : γ) (Q : Unit → Prop), Fp g Q → Sd W K t (RepA.slots W g ++ List.replicate (N.length - ps.length) DSlot.non) { nx := fun W1 _ => Wle W1 W' ∧ Q (), rt := rtW W' Q }) :
    CalD P w K mg base (k + 1) x (spD K Wp Fp) [] := cal_gen (fun Q => Q ()) (fun _ h => ⟨(), h, fun _ _ => rfl⟩) F hm b S ha hn hb

/-- .. with defaults: how the arguments bind is told apart -/
theorem cal_okD {P : Program} {w : World} {K : Frag} {mg : Str → Option Value} {base : Heap} {γ β : Type} [RepA γ] [Rep β] {x : Str} {pa : Arguments} {bdy : List Stmt} {sc : Scope} {dfl dvs : List V} {f : Addr} {fd : FuncData} {N ps : List Str} {k : Nat} {Wp : Wd → Wd → Prop} {Fp : γ → (β → Prop) → Prop}
    (F : FunD K x x pa bdy sc dfl [] f fd) (hm : mg x = some (.ref f)) (b : ∃ ds, Vals dvs ds ∧ Binds K fd ps ds) (S : FnScope N ps sc) (ha : RepA.arity γ = ps.length) (hn : ps.length ≤ N.length)
    (hb : ∀ (cdv : Value) (A : Around) (outer : List Env) (s : Shared) (H : Hp) (E : XK), Room k (A.deeper (envOfC x sc s.heap.objs.size f cdv)) →
      ∃ t, PSs (cxOf CX0 P w K mg base N x sc f cdv A outer s H E) bdy t ∧ ∀ (W W' : Wd), Wp W W' → ∀ (g : γ) (Q : β → Prop), Fp g Q → Sd W K t (RepA.slots W g ++ List.replicate (N.length - ps.length) DSlot.non) { nx := fun _ _ => False, rt := rtW W' Q }) :
    CalD P w K mg base (k + 1) x (spD K Wp Fp) dvs := by
  obtain ⟨ds, hv, hbd⟩ := b
  refine ⟨f, fd, ps, ds, hm, F.ok S (fun vs H Q E h => ?_) (fun cdv A outer s H vs Q E hr h => ?_), hv, hbd, F.kp⟩
  · obtain ⟨W, W', O, S', g, Q', h1, h2, h3, h4, h5⟩ := h
    exact (RepA.len h3).trans ha
  · obtain ⟨W, W', O, S', g, Q', h1, h2, h3, h4, h5⟩ := h
    obtain ⟨t, ht, hs⟩ := hb cdv A outer s H E hr
    exact ⟨t, ht, sd_run (hs W W' h1 g Q' h4) (start_cf h2 h3 ha hn) (fun _ _ h => h) (fun _ _ h => h) (fun _ _ h => h.elim) rfl h5⟩

/-! ### never None -/
class NN (α : Type) extends Rep α where
  nn : ∀ {K : Frag} {S : Hp} {v : V} {x : α}, rep K S v x → v ≠ .non
instance : NN Int := ⟨fun h e => by rw [show _ = V.int _ from h] at e; cases e⟩
instance : NN Bool := ⟨fun h e => by rw [show _ = V.bl _ from h] at e; cases e⟩
instance : NN Str := ⟨fun h e => by rw [show _ = V.str _ from h] at e; cases e⟩
instance {α : Type} [Rep α] : NN (List α) := ⟨fun h e => by obtain ⟨a, vs, h1, _⟩ := h; rw [h1] at e; cases e⟩
instance {α : Type} [Rep α] : NN (Tp α) := ⟨fun h e => by obtain ⟨a, vs, h1, _⟩ := h; rw [h1] at e; cases e⟩
instance {α β : Type} [Rep α] [Rep β] : NN (α × β) := ⟨fun h e => by obtain ⟨a, v1, v2, h1, _⟩ := h; rw [h1] at e; cases e⟩
instance {α β γ : Type} [Rep α] [Rep β] [Rep γ] : NN (T3 α β γ) := ⟨fun h e => by obtain ⟨a, v1, v2, v3, h1, _⟩ := h; rw [h1] at e; cases e⟩
instance {α β γ ζ : Type} [Rep α] [Rep β] [Rep γ] [Rep ζ] : NN (T4 α β γ ζ) := ⟨fun h e => by obtain ⟨a, v1, v2, v3, v4, h1, _⟩ := h; rw [h1] at e; cases e⟩
instance {κ α : Type} [DKey κ] [Rep α] : NN (Dc κ α) := ⟨fun h e => by obtain ⟨a, vs, h1, _⟩ := h; rw [h1] at e; cases e⟩
theorem ev_some {α : Type} [n : NN α] {W : Wd} {K : Frag} {te : TE} {δ : DEnv} {P : Option α → Prop} (h : Ev W W1 K te δ fun x : α => P (some x)) : Ev W W1 K te δ P := ev_someO h n.nn
end DW
set_option maxHeartbeats 4000000
/-! DW: more rules: ways told once, named results, equal data, sorted, index, zip, pairs to a dict -/
namespace DW
open PySem PySem.Spec PyProof.Rows L2

/-! ### what follows, told once -/
def altW {β : Type} (f : (β → Prop) → Prop) (k : β → Prop) : Prop := f k
def joinW {β : Type} (f : (β → Prop) → Prop) (k : β → Prop) : Prop := f k
def AnyW (W W' : Wd) : Prop := W = W'
theorem hu64 {A : Around} {k : Nat} (hr : Room k A) : A.units + 64 < cLine := hr.units
section
variable {W W1 W2 W3 W4 : Wd} {K : Frag} {O : Addr → Prop} {S H S1 H1 S2 H2 : Hp} {σ : L2.St} {δ : DEnv} {α β γ κ : Type} [Rep α] [Rep β] [RepA γ] [DKey κ] {D : DE β} {te tk tv ta tb : TE} {tt : TT} {t u : TS} {tr : TA} {i : Nat}
theorem ev_alt {f : (α → Prop) → Prop} {k P : α → Prop} (w : altW f k) (h : f k → Ev W W1 K te δ k) (hk : ∀ y, k y → P y) : Ev W W1 K te δ P := (h w).imp hk
theorem et_alt {f : (Bool → Prop) → Prop} {k P : Bool → Prop} (w : altW f k) (h : f k → EvT W W1 K tt δ k) (hk : ∀ y, k y → P y) : EvT W W1 K tt δ P := (h w).imp hk
theorem EvG.imp {P P' : List (κ × α) → Prop} (h : EvG W W1 K te δ P) (f : ∀ x, P x → P' x) : EvG W W1 K te δ P' := fun O S H σ s Q q => h O S H σ s Q fun a vs S' H' x m r l nd p => q a vs S' H' x m r l nd (f x p)
theorem sd_joinW {ς : Type} (Wj : Wd) (enc : ς → DEnv) {f : (ς → Prop) → Prop} {k : ς → Prop} (w : joinW f k) (h : f k → Sd W K t δ { D with nx := fun W' δ' => ∃ s, δ' = enc s ∧ Wle W' Wj ∧ k s }) (hr : ∀ s, k s → Sd Wj K u (enc s) D) : Sd W K (tSeq t u) δ D := sd_join Wj enc hr (h w)
theorem ea_consZ {P : α × γ → Prop} (h : Ev W W1 K te δ fun x : α => ∀ z, z = x → EvA W1 W2 K tr δ fun r : γ => P (z, r)) : EvA W W2 K (tCons te tr) δ P := ea_cons (h.imp fun x q => q x rfl)
theorem sd_asgTZ {g : TG} (h : Ev W W1 K te δ fun x : α => ∀ z, z = x → Tg W1 K g z δ (D.nx W1)) : Sd W K (tAsg te g) δ D := sd_asgT (h.imp fun x q => q x rfl)
theorem sd_putZ {α κ : Type} [rk : DKey κ] [DecidableEq κ] [ri : Rep α] {xs : List (κ × α)} (hi : δ[i]? = some (.od rk ri xs)) (h : Ev W W1 K tv δ fun x : α => Ev W1 W2 K tk δ fun k : κ => xs.length < 100000 ∧ ∀ z, z = put xs k x → D.nx W2 (δ.set i (sM z))) :
    Sd W K (sDPut (tVar i) tk tv) δ D := sd_put hi (h.imp fun x q => q.imp fun k r => ⟨r.1, r.2 _ rfl⟩)
theorem sd_augZ {a : Int} (hi : δ[i]? = some (sD a)) (h : Ev W W1 K te δ fun b : Int => ∀ z, z = a + b → D.nx W1 (δ.set i (sD z))) : Sd W K (tAug i te (ipI fun i j => i + j)) δ D := sd_aug (α := Unit) (f := fun i j => i + j) hi (h.imp fun b q => q _ rfl)
theorem sd_appendZ {α : Type} [ri : Rep α] {xs : List α} (hi : δ[i]? = some (.ol ri xs)) (h : Ev W W1 K te δ fun y : α => xs.length < 100000 ∧ ∀ z, z = xs ++ [y] → D.nx W1 (δ.set i (sL z))) : Sd W K (tDrop (tBM K "list" rAppend (tVar i) (tCons te tNil))) δ D :=
  sd_append hi (h.imp fun y q => ⟨q.1, q.2 _ rfl⟩)
/-- a tuple that the top has made -/
theorem ev_tabT {P : α → Prop} {a : Addr} {x : α} (h : ∀ S, rep K S (.ref a) x) (p : P x) : Ev W W K (tC (.ref a)) δ P := fun O S H σ s Q q => q _ S H x (Mv.refl s.g) (h S) p
end
/-! ### equal data -/
class PyD (α : Type) [DecidableEq α] extends Rep α where
  d : α → PyData
  dp : ∀ {K : Frag} {S H : Hp} {v : V} {x : α}, Sub S H → rep K S v x → Dp K H v (d x)
  shape : ∀ x : α, (d x).canLay0 = true
  dep : Nat
  deep : ∀ x : α, (d x).depth ≤ dep
  eq : ∀ x y : α, PyData.eqv (d x) (d y) = decide (x = y)
instance : PyD Int where
  d := .int
  dp := fun _ h => by rw [show _ = V.int _ from h]; exact .int _
  shape _ := by simp [PyData.canLay0]
  dep := 1
  deep _ := by simp [PyData.depth]
  eq x y := by
    unfold PyData.eqv
    exact Bool.eq_iff_iff.mpr (by simp)
instance {α : Type} [DecidableEq α] : DecidableEq (Tp α) := fun x y => decidable_of_iff (x.l = y.l) ⟨fun h => by cases x; cases y; cases h; rfl, fun h => by rw [h]⟩
instance {α β γ : Type} [DecidableEq α] [DecidableEq β] [DecidableEq γ] : DecidableEq (T3 α β γ) := fun x y => decidable_of_iff (x.a = y.a ∧ x.b = y.b ∧ x.c = y.c) ⟨fun ⟨h1, h2, h3⟩ => by cases x; cases y; cases h1; cases h2; cases h3; rfl, fun h => by rw [h]; exact ⟨rfl, rfl, rfl⟩⟩
section
variable {α : Type} [DecidableEq α] [p : PyD α]
theorem dp_all {K : Frag} {S H : Hp} (s : Sub S H) : ∀ {vs : List V} {xs : List α}, Reps K S vs xs → DpAll K H vs (xs.map p.d)
  | _, _, .nil => .nil
  | _, _, .cons r t => .cons (p.dp s r) (dp_all s t)
theorem shape_all : ∀ xs : List α, PyData.canLayAll0 (xs.map p.d) = true
  | [] => by simp [PyData.canLayAll0]
  | x :: xs => by simp [PyData.canLayAll0, p.shape x, shape_all xs]
theorem deep_all : ∀ xs : List α, PyData.depthAll (xs.map p.d) ≤ p.dep
  | [] => by simp [PyData.depthAll]
  | x :: xs => by
    have h1 := deep_all xs
    have h2 := p.deep x
    simp only [List.map_cons, PyData.depthAll]
    omega
theorem eq_all : ∀ xs ys : List α, PyData.eqvAll (xs.map p.d) (ys.map p.d) = decide (xs = ys)
  | [], [] => by simp [PyData.eqvAll]
  | [], y :: ys => by simp [PyData.eqvAll]
  | x :: xs, [] => by simp [PyData.eqvAll]
  | x :: xs, y :: ys => by
    simp only [List.map_cons, PyData.eqvAll]
    rw [p.eq, eq_all xs ys]
    exact Bool.eq_iff_iff.mpr (by simp)
end
instance {α : Type} [DecidableEq α] [p : PyD α] : PyD (List α) where
  d xs := .list (xs.map p.d)
  dp := fun s h => by
    obtain ⟨a, vs, e, ha, r⟩ := h
    subst e
    exact .lst (.inl (.inl (s.lst ha))) (dp_all s r)
  shape xs := by
    simp only [PyData.canLay0]
    exact shape_all xs
  dep := p.dep + 1
  deep xs := by
    have h := deep_all xs
    simp only [PyData.depth]
    omega
  eq xs ys := by
    unfold PyData.eqv
    rw [eq_all]
instance {α : Type} [DecidableEq α] [p : PyD α] : PyD (Tp α) where
  d xs := .tuple (xs.l.map p.d)
  dp := fun s h => by
    obtain ⟨a, vs, e, ha, r⟩ := h
    subst e
    exact .tup (s.sqT ha) (dp_all s r)
  shape xs := by
    simp only [PyData.canLay0]
    exact shape_all xs.l
  dep := p.dep + 1
  deep xs := by
    have h := deep_all xs.l
    simp only [PyData.depth]
    omega
  eq xs ys := by
    unfold PyData.eqv
    rw [eq_all]
    cases xs
    cases ys
    exact Bool.eq_iff_iff.mpr (by simp)
instance {α β : Type} [DecidableEq α] [DecidableEq β] [p : PyD α] [r : PyD β] : PyD (α × β) where
  d x := .tuple [p.d x.1, r.d x.2]
  dp := fun s h => by
    obtain ⟨a, v1, v2, e, ha, r1, r2⟩ := h
    subst e
    exact .tup (s.sqT ha) (.cons (p.dp s r1) (.cons (r.dp s r2) .nil))
  shape x := by simp [PyData.canLay0, PyData.canLayAll0, p.shape, r.shape]
  dep := max p.dep r.dep + 1
  deep x := by
    have h1 := p.deep x.1
    have h2 := r.deep x.2
    simp only [PyData.depth, PyData.depthAll]
    omega
  eq x y := by
    unfold PyData.eqv
    simp only [PyData.eqvAll, p.eq, r.eq, Bool.and_true]
    obtain ⟨x1, x2⟩ := x
    obtain ⟨y1, y2⟩ := y
    exact Bool.eq_iff_iff.mpr (by simp)
instance {α β γ : Type} [DecidableEq α] [DecidableEq β] [DecidableEq γ] [p : PyD α] [r : PyD β] [t : PyD γ] : PyD (T3 α β γ) where
  d x := .tuple [p.d x.a, r.d x.b, t.d x.c]
  dp := fun s h => by
    obtain ⟨a, v1, v2, v3, e, ha, r1, r2, r3⟩ := h
    subst e
    exact .tup (s.sqT ha) (.cons (p.dp s r1) (.cons (r.dp s r2) (.cons (t.dp s r3) .nil)))
  shape x := by simp [PyData.canLay0, PyData.canLayAll0, p.shape, r.shape, t.shape]
  dep := max p.dep (max r.dep t.dep) + 1
  deep x := by
    have h1 := p.deep x.a
    have h2 := r.deep x.b
    have h3 := t.deep x.c
    simp only [PyData.depth, PyData.depthAll]
    omega
  eq x y := by
    unfold PyData.eqv
    simp only [PyData.eqvAll, p.eq, r.eq, t.eq, Bool.and_true]
    obtain ⟨x1, x2, x3⟩ := x
    obtain ⟨y1, y2, y3⟩ := y
    exact Bool.eq_iff_iff.mpr (by simp)
section
variable {W W1 W2 W3 W4 : Wd} {K : Frag} {δ : DEnv} {α : Type} [DecidableEq α] [p : PyD α] {ta tb : TE}
theorem shaped_of (h : p.dep ≤ 64) (x : α) : SeqAt.shaped (p.d x) = true := by
  unfold SeqAt.shaped
  rw [Bool.and_eq_true]
  exact ⟨p.shape x, decide_eq_true (Nat.le_trans (p.deep x) h)⟩
theorem ev_eqP {P : Bool → Prop} {r0 : R2} (inc : ∀ {x y H Q}, rEqD K x y H Q → r0 x y H Q) (h : Ev W W1 K ta δ fun x : α => Ev W1 W2 K tb δ fun y : α => P (decide (x = y))) (hd : p.dep ≤ 64 := by decide) : Ev W W2 K (tOp r0 ta tb) δ P :=
  ev_two h fun O S H v u x y gd r1 r2 pp Q q => inc ⟨_, _, p.dp gd.sub r1, p.dp gd.sub r2, shaped_of hd x, shaped_of hd y, by
    rw [p.eq]
    exact q _ S H _ (Mv.refl gd) rfl pp⟩
theorem ev_neP {P : Bool → Prop} {r0 : R2} (inc : ∀ {x y H Q}, rNeD K x y H Q → r0 x y H Q) (h : Ev W W1 K ta δ fun x : α => Ev W1 W2 K tb δ fun y : α => P (!decide (x = y))) (hd : p.dep ≤ 64 := by decide) : Ev W W2 K (tOp r0 ta tb) δ P :=
  ev_two h fun O S H v u x y gd r1 r2 pp Q q => inc ⟨_, _, p.dp gd.sub r1, p.dp gd.sub r2, shaped_of hd x, shaped_of hd y, by
    rw [p.eq]
    exact q _ S H _ (Mv.refl gd) rfl pp⟩
end
section
variable {W W1 W2 W3 W4 : Wd} {K : Frag} {O : Addr → Prop} {S H S1 H1 S2 H2 : Hp} {σ : L2.St} {δ : DEnv} {α β γ κ : Type} [Rep α] [Rep β] [RepA γ] [DKey κ] {D : DE β} {te tk tv ta tb : TE} {tt : TT} {t u : TS} {tr : TA} {i : Nat}
/-- ints, or None -/
theorem ev_eqO {P : Bool → Prop} {r0 : R2} (inc : ∀ {x y H Q}, rEq x y H Q → r0 x y H Q) (h : Ev W W1 K ta δ fun x : Option Int => Ev W1 W2 K tb δ fun y : Option Int => P (decide (x = y))) : Ev W W2 K (tOp r0 ta tb) δ P :=
  ev_two h fun O S H v u x y gd r1 r2 pp Q q => by
    cases x with
    | none =>
      obtain rfl : v = .non := r1
      cases y with
      | none =>
        obtain rfl : u = .non := r2
        exact inc ⟨rfl, q _ S H _ (Mv.refl gd) rfl pp⟩
      | some j =>
        obtain rfl : u = .int j := r2.2
        exact inc ⟨rfl, q _ S H _ (Mv.refl gd) (by show _ = _; simp) pp⟩
    | some i =>
      obtain rfl : v = .int i := r1.2
      cases y with
      | none =>
        obtain rfl : u = .non := r2
        exact inc ⟨rfl, q _ S H _ (Mv.refl gd) (by show _ = _; simp) pp⟩
      | some j =>
        obtain rfl : u = .int j := r2.2
        exact inc ⟨rfl, q _ S H _ (Mv.refl gd) (by show _ = _; simp) pp⟩
/-! ### lists made of dicts, dicts of pairs, sorted, index -/
theorem repkv_keys {kvs : List (Key × V)} {xs : List (κ × α)} : RepKV K S kvs xs → Reps K S (kvs.map fun kv => kV kv.1) (xs.map Prod.fst)
  | .nil => .nil
  | .cons (a := b) (b := y) r t => by
    obtain ⟨k, v⟩ := b
    have e1 : k = DKey.key y.1 := r.1
    subst e1
    exact .cons (Flat.flat.mpr (DKey.kv _)) (repkv_keys t)
theorem ef_listD {P : List κ → Prop} (h : EvCD W W1 K ta δ fun xs : List (κ × α) => P (xs.map Prod.fst)) : EvF W W1 K (tCB (fun xs H Q => ∃ (a : Addr) (kvs : List (Key × V)), xs = [.ref a] ∧ Rd H a (.dK kvs) ∧ ∀ p, H p = none → Q (.ref p) (upd H p (.lst (kvs.map fun kv => kV kv.1)))) (tCons ta tNil)) δ P := fun O S H σ s Q q =>
  h O S H σ s _ fun a kvs S1 H1 xs m l r nd p => ⟨a, kvs, rfl, l.rd m.good.sub, fun b hb => q b _ S1 _ _ (m.trans (Mv.temp m.good hb)) (Fresh.new m.good hb) (repkv_keys r) p⟩
theorem pairs_kvs {vs : List V} {xs : List (κ × α)} (s : Sub S H) : Reps K S vs xs → ∃ (ps : List Addr) (kvs : List (Key × V)), vs = ps.map V.ref ∧ Paired (fun p kv => SqT K H p [kV kv.1, kv.2]) ps kvs ∧ RepKV K S kvs xs
  | .nil => ⟨[], [], rfl, .nil, .nil⟩
  | .cons (b := x) r t => by
    obtain ⟨ps, kvs, e, h1, h2⟩ := pairs_kvs s t
    obtain ⟨a, v1, v2, ea, ha, r1, r2⟩ := r
    subst ea e
    have ek : v1 = kV (DKey.key x.1) := (Flat.flat.mp r1).trans (DKey.kv _).symm
    subst ek
    exact ⟨a :: ps, (DKey.key x.1, v2) :: kvs, rfl, .cons (s.sqT ha) h1, .cons ⟨rfl, r2⟩ h2⟩
theorem repkv_merge [DecidableEq κ] : ∀ {bs : List (Key × V)} {ys : List (κ × α)} {as : List (Key × V)} {xs : List (κ × α)}, RepKV K S as xs → (xs.map Prod.fst).Nodup → RepKV K S bs ys → RepKV K S (mergeK as bs) (puts xs ys)
  | _, _, _, _, ra, nd, .nil => ra
  | _, _, _, _, ra, nd, .cons (a := b) (b := y) r t => by
    obtain ⟨k, v⟩ := b
    have e1 : k = DKey.key y.1 := r.1
    subst e1
    exact repkv_merge (as := putK _ (DKey.key y.1) v) (xs := put _ y.1 y.2) (repkv_put r.2 ra nd) (put_nodup nd) t
theorem eg_pairs [DecidableEq κ] {P : List (κ × α) → Prop} (h : EvC W W1 K ta δ fun xs : List (κ × α) => P (puts [] xs)) : EvG W W1 K (tCB (fun xs H Q => ∃ (a : Addr) (ps : List Addr) (kvs : List (Key × V)), xs = [.ref a] ∧ SqL K H a (ps.map V.ref) ∧ Paired (fun p kv => SqT K H p [kV kv.1, kv.2]) ps kvs ∧
    ∀ p, H p = none → Q (.ref p) (upd H p (.dK (mergeK [] kvs)))) (tCons ta tNil)) δ P := fun O S H σ s Q q =>
  h O S H σ s _ fun a vs S1 H1 xs m l r p => by
    obtain ⟨ps, kvs, e, h1, h2⟩ := pairs_kvs m.good.sub r
    subst e
    exact ⟨a, ps, kvs, rfl, l.sq m.good.sub, h1, fun b hb => q b _ S1 _ _ (m.trans (Mv.temp m.good hb)) (Fresh.new m.good hb) (repkv_merge .nil List.nodup_nil h2) (puts_nodup List.nodup_nil) p⟩
theorem ef_sortedS {P : List Str → Prop} (h : EvC W W1 K ta δ fun xs : List Str => xs.length < 64 ∧ ∀ z, List.Perm z xs → sortedS z = true → P z) : EvF W W1 K (tCB (rSortedS K) (tCons ta tNil)) δ P := fun O S H σ s Q q =>
  h O S H σ s _ fun a vs S1 H1 xs m l r p => ⟨a, xs, rfl, by rw [show xs.map V.str = vs from (flat_reps r).symm]; exact l.sq m.good.sub, p.1, fun ys b h1 h2 hb => q b _ S1 _ ys (m.trans (Mv.temp m.good hb)) (Fresh.new m.good hb) reps_flat (p.2 ys h1 h2)⟩
theorem first_at {x : Int} : ∀ {xs : List Int}, x ∈ xs → ∃ j : Nat, xs[j]? = some x ∧ ∀ i, i < j → xs[i]? ≠ some x
  | [], h => by cases h
  | y :: ys, h => by
    by_cases e : y = x
    · subst e
      exact ⟨0, rfl, fun i hi => absurd hi (Nat.not_lt_zero i)⟩
    · have h' : x ∈ ys := by
        rcases List.mem_cons.mp h with z | z
        · exact absurd z.symm e
        · exact z
      obtain ⟨j, h1, h2⟩ := first_at h'
      refine ⟨j + 1, by simpa using h1, fun i hi => ?_⟩
      cases i with
      | zero =>
        intro z
        exact e (Option.some.inj z)
      | succ i =>
        have := h2 i (by omega)
        simpa using this
end
end DW
set_option maxHeartbeats 4000000
/-! DW: zip -/
namespace DW
open PySem PySem.Spec PyProof.Rows L2
section
variable {W W1 W2 W3 W4 : Wd} {K : Frag} {O : Addr → Prop} {S H S1 H1 S2 H2 : Hp} {σ : L2.St} {δ : DEnv} {α β : Type} [Rep α] [Rep β] {ta : TA}
theorem it_zipG {J : It} {Fx : Addr → Prop} {S0 H0 : Hp} {A B : Hp → List V → Prop} {vs us : List V} {xs : List α} {ys : List β}
    (hgo : ∀ i H x y, A H vs → B H us → vs[i]? = some x → us[i]? = some y → J.go i H) (hst : ∀ i H, A H vs → B H us → vs.length ≤ i ∨ us.length ≤ i → J.stop i H)
    (hy : ∀ i H v H', J.yld i H v H' → ∃ T x y, v = .ref T ∧ H T = none ∧ H' = upd H T (.tup [x, y]) ∧ (∀ xs, A H xs → xs[i]? = some x) ∧ ∀ ys, B H ys → ys[i]? = some y)
    (hA : ∀ {W : Wd} O S H, Ex S0 S → Good W O S H → A H vs) (hB : ∀ {W : Wd} O S H, Ex S0 S → Good W O S H → B H us) (r : Reps K S0 vs xs) (r2 : Reps K S0 us ys) : ItOk K Fx J (List.zip xs ys) S0 H0 := fun i O S H ex fx st g => by
  have qa := hA O S H ex g
  have qb := hB O S H ex g
  refine ⟨fun x hx => ?_, fun e => hst i H qa qb ?_⟩
  · rw [List.getElem?_zip_eq_some] at hx
    obtain ⟨v, hv, rv⟩ := Paired.at r hx.1
    obtain ⟨u, hu, ru⟩ := Paired.at r2 hx.2
    refine ⟨hgo i H v u qa qb hv hu, fun z H' y => ?_⟩
    obtain ⟨T, x', y', e, hT, eH, f1, f2⟩ := hy i H z H' y
    subst e eH
    have e1 : x' = v := Option.some.inj ((f1 vs qa).symm.trans hv)
    have e2 : y' = u := Option.some.inj ((f2 us qb).symm.trans hu)
    subst e1 e2
    have ex2 := ex.trans (Ex.upd (o := .tup [x', y']) (g.sub.nn hT))
    exact ⟨_, Mv.new g hT, T, _, _, rfl, .inl (.inl upd_same), Rep.mono ex2 rv, Rep.mono ex2 ru⟩
  · rw [List.length_zip] at e
    rw [reps_len r, reps_len r2]
    omega
theorem evi_zipLL {P : List (α × β) → Prop} (h : EvA W W1 K ta δ fun g : List α × List β × Unit => P (List.zip g.1 g.2.1)) : EvI W W1 K (RZ.iZipA K ta) δ P := fun O S H σ s R q =>
  h O S H σ s _ fun ws S1 H1 g m hr p => by
    obtain ⟨v1, r1, e1, ⟨a, vs, ea, ha, ra⟩, v2, r2, e2, ⟨b, us, eb, hb, rb⟩, e3⟩ := hr
    have e3' : r2 = [] := e3
    subst e3' eb e2 ea e1
    refine ⟨a, b, vs, us, rfl, .inl ⟨.inl (.inl (m.good.sub.lst ha)), .inl (.inl (m.good.sub.lst hb)), q _ S1 H1 _ m (it_zipG (J := Itz K a b) (A := fun H xs => SqL K H a xs) (B := fun H xs => SqL K H b xs) (fun i H x y q1 q2 q3 q4 => ⟨vs, us, x, y, q1, q2, q3, q4⟩) (fun i H q1 q2 q3 => ⟨vs, us, q1, q2, q3⟩) (fun i H v H' y => y) (fun O S H ex g => .inl (.inl (g.sub.lst (ex _ _ ha)))) (fun O S H ex g => .inl (.inl (g.sub.lst (ex _ _ hb)))) ra rb) p⟩⟩
theorem evi_zipTT {P : List (α × β) → Prop} (h : EvA W W1 K ta δ fun g : Tp α × Tp β × Unit => P (List.zip g.1.l g.2.1.l)) : EvI W W1 K (RZ.iZipA K ta) δ P := fun O S H σ s R q =>
  h O S H σ s _ fun ws S1 H1 g m hr p => by
    obtain ⟨v1, r1, e1, ⟨a, vs, ea, ha, ra⟩, v2, r2, e2, ⟨b, us, eb, hb, rb⟩, e3⟩ := hr
    have e3' : r2 = [] := e3
    subst e3' eb e2 ea e1
    refine ⟨a, b, vs, us, rfl, .inr ⟨m.good.sub.sqT ha, m.good.sub.sqT hb, q _ S1 H1 _ m (it_zipG (J := RZ.ItzT K a b) (A := fun H xs => SqT K H a xs) (B := fun H xs => SqT K H b xs) (fun i H x y q1 q2 q3 q4 => ⟨vs, us, x, y, q1, q2, q3, q4⟩) (fun i H q1 q2 q3 => ⟨vs, us, q1, q2, q3⟩) (fun i H v H' y => y) (fun O S H ex g => g.sub.sqT (ex.sqT ha)) (fun O S H ex g => g.sub.sqT (ex.sqT hb)) ra rb) p⟩⟩
end

/-! ### a dict that is not the empty one -/
def rNeD0 : R2 := fun x y H Q => ∃ a b kvs, x = .ref a ∧ y = .ref b ∧ Rd H a (.dK kvs) ∧ Rd H b (.dK []) ∧ Q (.bl (!kvs.isEmpty)) H
theorem op_neD0 {X : Cx} (hu : X.A.units + 64 < cLine) : OpR X (compareOp .NotEq) rNeD0 := by
  intro pins s σ H x y v u Q I rx ry h
  obtain ⟨a, b, ks, e1, e2, ea, eb, q⟩ := h
  subst e1 e2
  obtain rfl : v = Value.ref a := rx
  obtain rfl : u = Value.ref b := ry
  obtain ⟨_, ya, va, ra, da⟩ := dk_rd I.hok ea
  obtain ⟨_, yb, vb, rb, db⟩ := dk_rd I.hok eb
  have hb : vb = [] := by
    have l := rb.length
    exact List.length_eq_zero_iff.mp (by rw [← l] <;> rfl)
  subst hb
  have ha : ks.length = va.length := ra.length
  refine PySem.W.keq_ne (knd := mixKind X.prog X.w) (r := true) ya yb da db (by omega) (fun h => ?_) (fin_bl I q ?_)
  · have e : va = [] := List.length_eq_zero_iff.mp h
    subst e
    exact .nil
  · cases ks with
    | nil =>
      have e : va = [] := List.length_eq_zero_iff.mp ha.symm
      subst e
      rfl
    | cons p r =>
      cases va with
      | nil => cases ha
      | cons p' r' => rfl
section
variable {W W1 W2 W3 W4 : Wd} {K : Frag} {δ : DEnv} {α κ : Type} [Rep α] [DKey κ] {ta tb : TE}
theorem ev_neD0 {P : Bool → Prop} (h : EvCD W W1 K ta δ fun xs : List (κ × α) => EvCD W1 W2 K tb δ fun ys : List (κ × α) => ys = [] ∧ P (!xs.isEmpty)) : Ev W W2 K (tOp rNeD0 ta tb) δ P := fun O S H σ s Q q =>
  h O S H σ s _ fun a kvs S1 H1 xs m l r nd p => p O S1 H1 σ (s.mv m) _ fun b kvs2 S2 H2 ys m2 l2 r2 nd2 p2 => by
    have e := p2.1
    subst e
    have e2 : kvs2 = [] := List.length_eq_zero_iff.mp (repkv_len r2)
    subst e2
    have e3 : kvs.isEmpty = xs.isEmpty := by
      have := repkv_len r
      cases kvs with
      | nil =>
        cases xs with
        | nil => rfl
        | cons _ _ => cases this
      | cons _ _ =>
        cases xs with
        | nil => cases this
        | cons _ _ => rfl
    exact ⟨a, b, kvs, rfl, rfl, (l.mv m2).rd m2.good.sub, l2.rd m2.good.sub, q _ S2 H2 _ (m.trans m2) (by rw [e3] <;> rfl) p2.2⟩
/-! ### the empty list -/
theorem ev_neL0 {P : Bool → Prop} (h : EvC W W1 K ta δ fun xs : List α => EvC W1 W2 K tb δ fun ys : List α => xs = [] ∧ ys = [] ∧ P false) : Ev W W2 K (tOp (rNeD K) ta tb) δ P := fun O S H σ s Q q =>
  h O S H σ s _ fun a vs S1 H1 xs m l r p => p O S1 H1 σ (s.mv m) _ fun b us S2 H2 ys m2 l2 r2 ⟨e1, e2, p2⟩ => by
    subst e1 e2
    have f1 : vs = [] := List.length_eq_zero_iff.mp (reps_len r)
    have f2 : us = [] := List.length_eq_zero_iff.mp (reps_len r2)
    subst f1 f2
    exact ⟨.list [], .list [], .lst ((l.mv m2).sq m2.good.sub) .nil, .lst (l2.sq m2.good.sub) .nil, by decide, by decide, q _ S2 H2 _ (m.trans m2) (by simp [PyData.eqv, PyData.eqvAll]; rfl) p2⟩
theorem ev_eqL0 {P : Bool → Prop} (h : EvC W W1 K ta δ fun xs : List α => EvC W1 W2 K tb δ fun ys : List α => xs = [] ∧ ys = [] ∧ P true) : Ev W W2 K (tOp (rEqD K) ta tb) δ P := fun O S H σ s Q q =>
  h O S H σ s _ fun a vs S1 H1 xs m l r p => p O S1 H1 σ (s.mv m) _ fun b us S2 H2 ys m2 l2 r2 ⟨e1, e2, p2⟩ => by
    subst e1 e2
    have f1 : vs = [] := List.length_eq_zero_iff.mp (reps_len r)
    have f2 : us = [] := List.length_eq_zero_iff.mp (reps_len r2)
    subst f1 f2
    exact ⟨.list [], .list [], .lst ((l.mv m2).sq m2.good.sub) .nil, .lst (l2.sq m2.good.sub) .nil, by decide, by decide, q _ S2 H2 _ (m.trans m2) (by simp [PyData.eqv, PyData.eqvAll]; rfl) p2⟩
/-! ### list.index -/
theorem ev_index {P : Int → Prop} (h : EvC W W1 K ta δ fun xs : List Int => Ev W1 W2 K tb δ fun x : Int => xs.length ≤ 100000 ∧ x ∈ xs ∧ ∀ j : Nat, xs[j]? = some x → (∀ i, i < j → xs[i]? ≠ some x) → P (j : Int)) : Ev W W2 K (tBM K "list" (rIndex K) ta (tCons tb tNil)) δ P := fun O S H σ s Q q =>
  h O S H σ s _ fun a vs S1 H1 xs m l r p => ⟨.inl ⟨rfl, vs, l.sq m.good.sub⟩, p O S1 H1 σ (s.mv m) _ fun u S2 H2 x m2 r2 p2 => by
    obtain rfl : u = .int x := r2
    obtain ⟨_, hx, hP⟩ := p2
    obtain ⟨j, h1, h2⟩ := first_at hx
    have ev : vs = xs.map V.int := flat_reps r
    subst ev
    refine ⟨a, _, .int x, j, .int x, rfl, rfl, (l.mv m2).sq m2.good.sub, rfl, flat_int, by rw [List.getElem?_map, h1] <;> rfl, by simp [eqV], fun i z hi hz => ?_, q _ S2 H2 _ (m.trans m2) rfl (hP j h1 h2)⟩
    rw [List.getElem?_map] at hz
    obtain ⟨y, hy, rfl⟩ := Option.map_eq_some_iff.mp hz
    have ne : y ≠ x := fun e => h2 i hi (by rw [hy, e])
    simp [eqV, ne]⟩
end

/-! ### the letts of a text -/
def letts (x : Str) : List Str := x.cps.toList.map fun c => ⟨#[c]⟩
section
variable {W W1 : Wd} {K : Frag} {δ : DEnv} {te ta tb : TE}
theorem evi_str {P : List Str → Prop} (h : Ev W W1 K te δ fun x : Str => P (letts x)) : EvI W W1 K (iStr te) δ P := fun O S H σ s R q => h O S H σ s _ fun v S1 H1 x m r p => by
  obtain rfl : v = .str x := r
  refine ⟨x, rfl, q _ S1 H1 _ m (fun i O2 S2 H2 ex fx st g => ⟨fun y hy => ?_, fun e => ?_⟩) p⟩
  · unfold letts at hy
    rw [List.getElem?_map] at hy
    obtain ⟨c, hc, ey⟩ := Option.map_eq_some_iff.mp hy
    subst ey
    rw [Array.getElem?_toList] at hc
    refine ⟨(Array.getElem?_eq_some_iff.mp hc).1, fun v H' yl => ?_⟩
    obtain ⟨e1, c', h1, h2⟩ := yl
    subst e1 h2
    rw [hc] at h1
    cases h1
    exact ⟨S2, Mv.refl g, rfl⟩
  · show x.cps.size ≤ i
    rw [e]
    unfold letts
    rw [List.length_map, Array.length_toList]
    exact Nat.le_refl _
/-- x in y, of texts -/
def inStr (x y : Str) : Bool := !(Builtin.Str.occurrences y x 0 y.length 1).isEmpty
theorem ev_inStr {P : Bool → Prop} (h : Ev W W1 K ta δ fun x : Str => Ev W1 W1 K tb δ fun y : Str => P (inStr x y)) : Ev W W1 K (tOp (fun x y H Q => ∃ i j, x = .str i ∧ y = .str j ∧ Q (.bl (!(Builtin.Str.occurrences j i 0 j.length 1).isEmpty)) H) ta tb) δ P :=
  ev_two h fun O S H v u x y gd r1 r2 p Q q => ⟨x, y, r1, r2, q _ S H (inStr x y) (Mv.refl gd) rfl p⟩
end
end DW
set_option maxHeartbeats 4000000
/-! DW: the state that draws: two lists of ints and a count of at most b -/
namespace DW
open PySem PySem.Spec PyProof.Rows L2
def limB : Nat := 1099511627776
structure TkAt (r : Addr) (H : Hp) (p q : Addr) (bigs cells : List Int) (n : Int) : Prop where
  at_ : H r = some (.lst [.ref p, .ref q, .int n])
  big : H p = some (.lst (bigs.map V.int))
  cel : H q = some (.lst (cells.map V.int))
  rp : p ≠ r
  rq : q ≠ r
  pq : p ≠ q
  pos : 0 < cells.length
  few : bigs.length ≤ 100000 ∧ cells.length ≤ 100000
def tkFp (r : Addr) (H : Hp) (a : Addr) : Prop := a = r ∨ ∃ x y z, H r = some (.lst [x, y, z]) ∧ (x = .ref a ∨ y = .ref a)
theorem TkAt.fp {r p q : Addr} {H : Hp} {bigs cells : List Int} {n : Int} (t : TkAt r H p q bigs cells n) (a : Addr) : tkFp r H a ↔ a = r ∨ a = p ∨ a = q := by
  constructor
  · rintro (h | ⟨x, y, z, h, h2⟩)
    · exact .inl h
    · rw [t.at_] at h
      cases h
      rcases h2 with h2 | h2
      · cases h2
        exact .inr (.inl rfl)
      · cases h2
        exact .inr (.inr rfl)
  · rintro (h | h | h)
    · exact .inl h
    · exact .inr ⟨_, _, _, t.at_, .inl (by rw [h])⟩
    · exact .inr ⟨_, _, _, t.at_, .inr (by rw [h])⟩
def Wst (r : Addr) (b : Nat) : Wd where
  root := .ref r
  ok H := ∃ p q bigs cells n, TkAt r H p q bigs cells n ∧ 0 ≤ n ∧ n ≤ (b : Int)
  fp := tkFp r
  nn := fun {H a} ⟨p, q, bigs, cells, n, t, _⟩ h => by
    rcases (t.fp a).mp h with e | e | e
    · rw [e, t.at_]
      intro z
      cases z
    · rw [e, t.big]
      intro z
      cases z
    · rw [e, t.cel]
      intro z
      cases z
  loc := fun {H H'} ⟨p, q, bigs, cells, n, t, hn⟩ h => by
    have t' : TkAt r H' p q bigs cells n := ⟨(h r ((t.fp r).mpr (.inl rfl))).trans t.at_, (h p ((t.fp p).mpr (.inr (.inl rfl)))).trans t.big, (h q ((t.fp q).mpr (.inr (.inr rfl)))).trans t.cel, t.rp, t.rq, t.pq, t.pos, t.few⟩
    exact ⟨⟨p, q, bigs, cells, n, t', hn⟩, fun a => (t'.fp a).trans (t.fp a).symm⟩
theorem stle {r : Addr} {b b' : Nat} (h : b ≤ b') : Wle (Wst r b) (Wst r b') := ⟨fun H ⟨p, q, bigs, cells, n, t, h1, h2⟩ => ⟨p, q, bigs, cells, n, t, h1, by omega⟩, fun _ _ h => h⟩
/-- a def that draws at most c times -/
def Stp (c : Nat) (W W' : Wd) : Prop := ∃ (r : Addr) (b : Nat), W = Wst r b ∧ W' = Wst r (b + c) ∧ b + c ≤ limB
theorem stp {r : Addr} {b c : Nat} (h : b + c ≤ limB) : Stp c (Wst r b) (Wst r (b + c)) := ⟨r, b, rfl, rfl, h⟩

/-! ### one draw: what a heap between is like -/
structure Tw (r p q : Addr) (H0 : Hp) (cells : List Int) (n : Int) (H : Hp) (p' : Addr) (bigs : List Int) : Prop where
  t : TkAt r H p' q bigs cells n
  fr : ∀ a, a ≠ r → a ≠ p → H0 a ≠ none → H a = H0 a
  new : p' = p ∨ H0 p' = none
section
variable {r p q p' : Addr} {H0 H : Hp} {cells bigs : List Int} {n : Int}
theorem Tw.temp (w : Tw r p q H0 cells n H p' bigs) {a : Addr} {o : HO} (h : H a = none) : Tw r p q H0 cells n (upd H a o) p' bigs := by
  have ne : ∀ {c : Addr} {u : HO}, H c = some u → c ≠ a := fun e => ne_of_none e h
  refine ⟨⟨by rw [upd_ne (ne w.t.at_)]; exact w.t.at_, by rw [upd_ne (ne w.t.big)]; exact w.t.big, by rw [upd_ne (ne w.t.cel)]; exact w.t.cel, w.t.rp, w.t.rq, w.t.pq, w.t.pos, w.t.few⟩, fun c h1 h2 h3 => ?_, w.new⟩
  have e := w.fr c h1 h2 h3
  rw [upd_ne fun z => h3 (by rw [← e, z]; exact h)]
  exact e
theorem Tw.cut (w : Tw r p q H0 cells n H p' bigs) {a : Addr} {bs : List Int} (h : H a = none) (hl : bs.length ≤ 100000) : Tw r p q H0 cells n (upd (upd H a (.lst (bs.map V.int))) r (.lst [.ref a, .ref q, .int n])) a bs := by
  have ar : a ≠ r := fun z => by
    rw [z, w.t.at_] at h
    cases h
  have aq : a ≠ q := fun z => by
    rw [z, w.t.cel] at h
    cases h
  refine ⟨⟨upd_same, by rw [upd_ne ar, upd_same], by rw [upd_ne w.t.rq, upd_ne aq.symm]; exact w.t.cel, ar, w.t.rq, aq, w.t.pos, hl, w.t.few.2⟩, fun c h1 h2 h3 => ?_, ?_⟩
  · have e := w.fr c h1 h2 h3
    rw [upd_ne h1, upd_ne fun z => h3 (by rw [← e, z]; exact h)]
    exact e
  · by_cases z : a = p
    · exact .inl z
    · cases y : H0 a with
      | none => exact .inr rfl
      | some o =>
        have e := w.fr a ar z (by rw [y]; intro x; cases x)
        rw [h, y] at e
        cases e
theorem Tw.put (w : Tw r p q H0 cells n H p' bigs) {bs : List Int} (hl : bs.length ≤ 100000) : Tw r p q H0 cells n (upd H p' (.lst (bs.map V.int))) p' bs := by
  refine ⟨⟨by rw [upd_ne w.t.rp.symm]; exact w.t.at_, upd_same, by rw [upd_ne w.t.pq.symm]; exact w.t.cel, w.t.rp, w.t.rq, w.t.pq, w.t.pos, hl, w.t.few.2⟩, fun c h1 h2 h3 => ?_, w.new⟩
  rw [upd_ne fun z => ?_]
  · exact w.fr c h1 h2 h3
  · rcases w.new with e | e
    · exact h2 (z.trans e)
    · exact h3 (by rw [z]; exact e)
theorem Tw.fin {b : Nat} {O : Addr → Prop} {S : Hp} {bigs0 : List Int} {n0 : Int} (g : Good (Wst r b) O S H0) (t0 : TkAt r H0 p q bigs0 cells n0) (w : Tw r p q H0 cells n H p' bigs) (h0 : 0 ≤ n) (hn : n ≤ ((b + 1 : Nat) : Int)) : Mv (Wst r (b + 1)) O S H0 S H := by
  have nS : ∀ a, S a ≠ none → a ≠ r ∧ a ≠ p := fun a h => ⟨fun z => h (g.fpS a ((t0.fp a).mpr (.inl z))), fun z => h (g.fpS a ((t0.fp a).mpr (.inr (.inl z))))⟩
  have nO : ∀ a, O a → a ≠ r ∧ a ≠ p := fun a h => ⟨fun z => g.fpO a ((t0.fp a).mpr (.inl z)) h, fun z => g.fpO a ((t0.fp a).mpr (.inr (.inl z))) h⟩
  have sH : ∀ a, S a ≠ none → H0 a ≠ none := fun a h z => h (g.sub.nn z)
  have keep : ∀ a, O a → H a = H0 a := fun a h => w.fr a (nO a h).1 (nO a h).2 (g.oH a h)
  have stay : ∀ a, S a ≠ none → H a = H0 a := fun a h => w.fr a (nS a h).1 (nS a h).2 (sH a h)
  refine ⟨Ex.refl S, keep, stay, ⟨fun a o e => ?_, ⟨p', q, bigs, cells, n, w.t, h0, hn⟩, fun a h => ?_, fun a h z => ?_, g.oS, fun a h => ?_⟩⟩
  · rw [stay a (by rw [e]; intro z; cases z)]
    exact g.sub a o e
  · rcases (w.t.fp a).mp h with e | e | e
    · exact g.fpS a ((t0.fp a).mpr (.inl e))
    · rcases w.new with e2 | e2
      · exact g.fpS a ((t0.fp a).mpr (.inr (.inl (e.trans e2))))
      · rw [e]
        exact g.sub.nn e2
    · exact g.fpS a ((t0.fp a).mpr (.inr (.inr e)))
  · rcases (w.t.fp a).mp h with e | e | e
    · exact g.fpO a ((t0.fp a).mpr (.inl e)) z
    · rcases w.new with e2 | e2
      · exact g.fpO a ((t0.fp a).mpr (.inr (.inl (e.trans e2)))) z
      · exact g.oH a z (by rw [e]; exact e2)
    · exact g.fpO a ((t0.fp a).mpr (.inr (.inr e))) z
  · rw [keep a h]
    exact g.oH a h
end
/-! ### the def -/
def w__law_take (m : Int) (P : Int → Prop) : Prop := (0 < m ∧ m < 1073741824) ∧ ∀ x, 0 ≤ x → x < m → P x
abbrev W__law_take (g : Stk × Int × Unit) (P : Int → Prop) : Prop := w__law_take g.2.1 P
theorem dp_ints {K : Frag} {H : Hp} {p : Addr} {xs : List Int} (h : H p = some (.lst (xs.map V.int))) : Dp K H (.ref p) (.list (xs.map PyData.int)) := .lst (.inl (.inl h)) (by
  have c : ∀ ys : List Int, DpAll K H (ys.map V.int) (ys.map PyData.int) := fun ys => by
    induction ys with
    | nil => exact .nil
    | cons y ys ih => exact .cons (.int y) ih
  exact c xs)
theorem ints_shaped (xs : List Int) : SeqAt.shaped (.list (xs.map PyData.int)) = true := shaped_of (α := List Int) (by decide) xs
theorem ints_ne (xs : List Int) : (!PyData.eqv (.list (xs.map PyData.int)) (.list [])) = !xs.isEmpty := by
  cases xs <;> simp [PyData.eqv, PyData.eqvAll]

/-! ### ys.append(xs.pop(e)) -/
section
variable {W W1 : Wd} {K : Frag} {δ : DEnv} {α β : Type} [Rep β] {te : TE} {D : DE β} {i j : Nat}
theorem reps_del {α : Type} [Rep α] {K : Frag} {S : Hp} : ∀ {vs : List V} {xs : List α} (n : Nat), Reps K S vs xs → Reps K S (vs.eraseIdx n) (xs.eraseIdx n)
  | _, _, _, .nil => .nil
  | _, _, 0, .cons _ t => t
  | _, _, n + 1, .cons r t => .cons r (reps_del n t)
theorem sd_appendPop {α : Type} [ri : Rep α] {xs ys : List α} (hi : δ[i]? = some (.ol ri ys)) (hj : δ[j]? = some (.ol ri xs)) (ne : i ≠ j)
    (h : Ev W W1 K te δ fun k : Int => ys.length < 100000 ∧ xs.length ≤ 100000 ∧ ∃ n : Nat, k = (n : Int) ∧ n < xs.length ∧ ∀ x, xs[n]? = some x → D.nx W1 ((δ.set j (sL (xs.eraseIdx n))).set i (sL (ys ++ [x])))) :
    Sd W K (tDrop (tBM K "list" rAppend (tVar i) (tCons (tBM K "list" rPopAt (tVar j) (tCons te tNil)) tNil))) δ D := fun O S H σ c E r => by
  obtain ⟨ov, e, q, vs, eq, hq, rv⟩ := c.sl.2 i _ hi
  subst eq
  obtain ⟨ov, e2, q2, us, eq, hq2, rv2⟩ := c.sl.2 j _ hj
  subst eq
  refine ⟨_, e, .inl ⟨rfl, vs, .inl (.inl hq)⟩, _, e2, .inl ⟨rfl, us, .inl (.inl hq2)⟩, ?_⟩
  refine h _ S H σ c.stt _ fun v S1 H1 k m rk p => ?_
  obtain ⟨hl, hl2, n, ek, hn, hx⟩ := p
  obtain rfl : v = .int k := rk
  subst ek
  have c1 := c.mv m
  have hq1 : H1 q = some (.lst vs) := (m.keep q (.inr ⟨i, _, hi, rfl, e⟩)).trans hq
  have hq21 : H1 q2 = some (.lst us) := (m.keep q2 (.inr ⟨j, _, hj, rfl, e2⟩)).trans hq2
  have ru1 : Reps K S1 us xs := Reps.mono m.ex rv2
  have rv1 : Reps K S1 vs ys := Reps.mono m.ex rv
  have hxn : xs[n]? = some xs[n] := List.getElem?_eq_getElem hn
  obtain ⟨y, hy, ry⟩ := Paired.at ru1 hxn
  have iN : ixN us.length (n : Int) = some n := by
    unfold ixN
    rw [if_pos (Int.natCast_nonneg n), if_pos (by rw [reps_len ru1]; omega)] <;> rfl
  refine ⟨q2, us, (n : Int), n, y, rfl, rfl, hq21, by omega, by omega, (ixN_seq iN).1, hy, ?_⟩
  have k1 := c1.wr (d' := sL (xs.eraseIdx n)) (o := .lst (us.eraseIdx n)) hj rfl e2 rfl ⟨q2, _, rfl, upd_same, reps_del n ru1⟩
  have nq : q ≠ q2 := fun z => ne (c1.dst i j _ _ q hi rfl e hj rfl (by rw [z]; exact e2))
  refine ⟨q, vs, y, rfl, rfl, (upd_ne nq).trans hq1, ?_, ?_⟩
  · rw [reps_len rv1]
    exact Nat.lt_of_lt_of_le hl (by decide)
  · have hi' : (δ.set j (sL (xs.eraseIdx n)))[i]? = some (.ol ri ys) := by
      rw [List.getElem?_set_ne (Ne.symm ne)]
      exact hi
    have k2 := k1.1.wr (d' := sL (ys ++ [xs[n]])) (o := .lst (vs ++ [y])) hi' rfl e rfl ⟨q, _, rfl, upd_same, Paired.snoc rv1 ry⟩
    exact r.nx S1 _ σ _ (((m.mo fun _ z => .inl z).trans k1.2).trans k2.2) k2.1 (hx _ hxn)
end
/-! ### a list mixed -/
def w__law_mixed {α : Type} (xs : List α) (P : List α → Prop) : Prop := xs.length ≤ 100 ∧ ∀ r : List α, r.Perm xs → P r
abbrev W__law_mixed {α : Type} (g : Stk × List α × Unit) (P : List α → Prop) : Prop := w__law_mixed g.2.1 P
def mixB {α : Type} (_ : Int) (s : List α × List α) (nx _ : List α × List α → Prop) : Prop := 0 < s.1.length ∧ s.1.length ≤ 100 ∧ s.2.length ≤ 100 ∧ ∀ (n : Nat) x, s.1[n]? = some x → nx (s.1.eraseIdx n, s.2 ++ [x])
theorem del_perm {α : Type} : ∀ (a : List α) (n : Nat) (y : α), a[n]? = some y → (y :: a.eraseIdx n).Perm a
  | [], n, y, h => by simp at h
  | x :: a, 0, y, h => by
    have e : x = y := Option.some.inj h
    subst e
    exact List.Perm.refl _
  | x :: a, n + 1, y, h => by
    have ih := del_perm a n y (by simpa using h)
    exact (List.Perm.swap x y _).trans (ih.cons x)
theorem mix_run {α : Type} {P : List α → Prop} {xs : List α} (hl : xs.length ≤ 100) (hP : ∀ r : List α, r.Perm xs → P r) : ∀ (L : List Int) (s : List α × List α), s.1.length = L.length → (s.2 ++ s.1).Perm xs → forW mixB (fun s => P s.2) L s
  | [], (a, b), h1, h2 => by
    have e : a = [] := List.length_eq_zero_iff.mp h1
    subst e
    rw [List.append_nil] at h2
    exact hP b h2
  | x :: L, (a, b), h1, h2 => by
    have l := h2.length_eq
    rw [List.length_append] at l
    have h1' : a.length = L.length + 1 := h1
    have l' : b.length + a.length = xs.length := l
    refine ⟨by show 0 < a.length; omega, by show a.length ≤ 100; omega, by show b.length ≤ 100; omega, fun n y hy => ?_⟩
    obtain ⟨hn, ey⟩ := List.getElem?_eq_some_iff.mp hy
    have hn' : n < a.length := hn
    refine mix_run hl hP L _ ?_ ?_
    · show (a.eraseIdx n).length = L.length
      rw [List.length_eraseIdx_of_lt hn']
      omega
    · show ((b ++ [y]) ++ a.eraseIdx n).Perm xs
      have pa : (y :: a.eraseIdx n).Perm a := del_perm a n y hy
      rw [List.append_assoc]
      exact (List.Perm.append_left b pa).trans h2
end DW
set_option maxHeartbeats 4000000
/-! DW: [*d, ..], d a dict -/
namespace DW
open PySem PySem.Spec PyProof.Rows L2
def tStarD (te : TE) (t : TA) : TA := fun σ H Q => te σ H fun x H1 => ∃ (a : Addr) (kvs : List (Key × V)), x = .ref a ∧ Rd H1 a (.dK kvs) ∧ t σ H1 fun ys H2 => Q ((kvs.map fun kv => kV kv.1) ++ ys) H2
theorem pa_starD {X : Cx} {e : Expr} {es : List Expr} {te : TE} {t : TA} {p : Pos} (calm : X.calm = true) (he : PE X e te) (hr : PA X es t) (st : starEach (.Starred e p :: es) X.env = (true, eval e X.env) :: starEach es X.env := by rfl) : PA X (.Starred e p :: es) (tStarD te t) := by
  refine ⟨fun pos pins s σ H Q I h => PySem.W.items_star (thn (he.run pins s σ H _ I h) fun v s1 hh => ?_) st⟩
  obtain ⟨y, H1, I1, ry, a, kvs, ey, hd, q⟩ := hh
  subst ey
  obtain rfl : v = Value.ref a := ry
  obtain ⟨z, lo, vs, rel, dd⟩ := dk_rd I1.hok hd
  obtain ⟨ep, hat⟩ := dd.dictAt
  have ek : (kvs.map fun kv => kV kv.1) = vs.map fun p => kV p.1 := by
    have k := congrArg (List.map kV) rel.keys
    rwa [List.map_map, List.map_map] at k
  unfold PySem.W.StarOf notIterableAtAll
  refine wpAny_bind (wpAny_specialOf dd.typeIs PySem.F.slot_dict_iter.lookup (wpAny_pure ⟨rfl, ?_⟩))
  refine PySem.W.kdu_collect (PySem.W.kdl_dict (knd := mixKind X.prog X.w) (kvs := vs) (ep := ep) lo) (I1.ok.hd calm) hat (by rw [← rel.length]; exact z) fun h' tk acc hk hacc => ?_
  have hv : Vals (vs.map fun p => kV p.1) acc.toList := keys_at (by rw [Array.length_toList]; exact hacc.1) fun j v e => hacc.2 j v (by rw [← Array.getElem?_toList]; exact e)
  rw [← ek] at hv
  have I2 : Inv X pins σ H1 { s1 with heap := h', toks := tk } := I1.kept (t' := tk) hk
  exact thn (hr.run pos pins _ σ H1 _ I2 q) fun ws s3 hh => by
    obtain ⟨us, H3, I3, r3, q3⟩ := hh
    exact ⟨_, H3, I3, hv.append r3, q3⟩
section
variable {W W1 W2 : Wd} {K : Frag} {δ : DEnv} {α κ : Type} [Rep α] [DKey κ] {te : TE} {tr : TA}
theorem es_starD {P : List κ → Prop} (h : EvCD W W1 K te δ fun xs : List (κ × α) => EvS W1 W2 K tr δ fun r : List κ => P (xs.map Prod.fst ++ r)) : EvS W W2 K (tStarD te tr) δ P := fun O S H σ s Q q =>
  h O S H σ s _ fun a kvs S1 H1 xs m l r nd p => ⟨a, kvs, rfl, l.rd m.good.sub, p O S1 H1 σ (s.mv m) _ fun vs S2 H2 g m2 r2 p2 => q _ S2 H2 _ (m.trans m2) (reps_app (repkv_keys (RepKV.mono m2.ex r)) r2) p2⟩
end
end DW
set_option maxHeartbeats 4000000
/-! DW: set(xs) and sorted(set(xs)), xs a list of texts: the set of texts at a, that can be walked -/
namespace DW
open PySem PySem.Spec PyProof.Rows L2
def txOf (e : Int × Value) : Str := match e.2 with
  | .str x _ => x
  | _ => Str.empty
def IsTx (w : World) (e : Int × Value) : Prop := ∃ x tk, e.2 = Value.str x tk ∧ e.1 = hashStr w x
/-- L: what was put in, first to last -/
structure TxSet (w : World) (a : Addr) (L : List Str) (es : Array (Int × Value)) (tb : SetTable) : Prop where
  good : ∀ e ∈ es.toList, IsTx w e
  nod : (es.toList.map txOf).Nodup
  mem : ∀ k, k ∈ es.toList.map txOf ↔ k ∈ L
  fit : tb.fits es.size = true
  le : es.size ≤ L.length
  ris : Ris tb.place.toList
  led : w.params.followText "set-order" = true ∨ tb.led = true
def SetT (w : World) (h : Heap) (a : Addr) (L : List Str) : Prop := ∃ ob es ep tb, h.get? a = some ob ∧ ob.ExactSet ∧ ob.data = .set es ep tb ∧ TxSet w a L es tb
section
variable {P : Program} {w : World} {A : Around} {E : Value → Shared → Prop} {s : Shared} {a : Addr} {L : List Str}
theorem tx_is {e : Int × Value} (g : IsTx w e) (k : Str) : (PySem.strKind P w).is k e.2 = true ↔ txOf e = k := by
  obtain ⟨x, tk, h1, _⟩ := g
  have e2 : txOf e = x := by unfold txOf; rw [h1]
  rw [h1, e2]
  simp [PySem.strKind, Value.isStrOf]
theorem tx_elems {l : List (Int × Value)} (g : ∀ e ∈ l, IsTx w e) : ElemsOf (PySem.strKind P w) l := fun e he => by
  obtain ⟨x, tk, h1, h2⟩ := g e he
  exact ⟨⟨x, by rw [h1]; exact strKind_is P w x tk, h2⟩, by rw [h1] <;> rfl⟩
theorem tx_mem {l : List (Int × Value)} (g : ∀ e ∈ l, IsTx w e) (k : Str) : k ∈ l.map txOf ↔ ∃ e ∈ l, (PySem.strKind P w).is k e.2 = true := by
  rw [List.mem_map]
  exact ⟨fun ⟨e, he, q⟩ => ⟨e, he, (tx_is (g e he) k).mpr q⟩, fun ⟨e, he, q⟩ => ⟨e, he, (tx_is (g e he) k).mp q⟩⟩
theorem SetT.at {h h' : Heap} (R : SetT w h a L) (k : ∀ o, h.get? a = some o → h'.get? a = some o) : SetT w h' a L := by
  obtain ⟨ob, es, ep, tb, z, r⟩ := R
  exact ⟨ob, es, ep, tb, k ob z, r⟩
theorem setT_tail {g : Bool → Sem Unit} (gw : ∀ (b : Bool) (s₁ : Shared) (Q' : Unit → Shared → Prop), Q' () s₁ → wpAny (model P w) A (g b) Q' E s₁) {ob : Obj} {es : Array (Int × Value)} {ep : Nat} {tb : SetTable} (at0 : s.heap.get? a = some ob) (ex : ob.ExactSet) (dt : ob.data = .set es ep tb)
    {e1 : Array (Int × Value)} {t2 : SetTable} (T : TxSet w a L e1 t2) (few : L.length < scanBound) {wd : Bool} {R : Option Bool → Shared → Prop} (fin : ∀ h', Heap.SameBut a s.heap h' → SetT w h' a L → R (some true) { s with heap := h' }) :
    wpAny (model P w) A (do
      storeSet a e1 t2
      if (!wd && t2.tooFull) = true then do
          g (relayAll t2 e1 (SetTable.grown e1.size)).2.2
          storeSet a (relayAll t2 e1 (SetTable.grown e1.size)).1 (relayAll t2 e1 (SetTable.grown e1.size)).2.1
          pure (some true)
        else pure (some true)) R E s := by
  have b1 : e1.size < scanBound := Nat.lt_of_le_of_lt T.le few
  refine wpAny_bind (wpAny_storeSet_of at0 dt ?_ (fits_of_scanBound b1))
  have at1 := store_at (es' := e1) (t' := t2) at0 dt
  have sb := Heap.SameBut.update s.heap a (Obj.putSet e1 t2)
  split
  · have p1 := relayAll_perm t2 e1 (SetTable.grown e1.size)
    have p2 := relayAll_fits t2 e1 (SetTable.grown e1.size)
    have p3 := relayAll_ris t2 e1 (SetTable.grown e1.size)
    have p4 := relayAll_led t2 e1 (SetTable.grown e1.size)
    generalize relayAll t2 e1 (SetTable.grown e1.size) = Z at p1 p2 p3 p4 ⊢
    obtain ⟨e2, t3, gv⟩ := Z
    dsimp only at p1 p2 p3 p4 ⊢
    have sz : e2.size = e1.size := by rw [← Array.length_toList, p1.length_eq, Array.length_toList]
    refine wpAny_bind (gw _ _ _ (wpAny_bind (wpAny_storeSet_of at1 rfl ?_ (fits_of_scanBound (by rw [sz]; exact b1)))))
    refine wpAny_pure (fin _ (sb.trans (Heap.SameBut.update _ a _)) ⟨_, e2, _, t3, store_at (es' := e2) (t' := t3) at1 rfl, ex, rfl, ?_⟩)
    exact ⟨fun e he => T.good e (p1.mem_iff.mp he), (p1.map txOf).nodup_iff.mpr T.nod, fun k => (p1.map txOf).mem_iff.trans (T.mem k), p2, by rw [sz]; exact T.le, p3, T.led.imp id fun z => by rw [p4]; exact z⟩
  · exact wpAny_pure (fin _ sb ⟨_, e1, _, t2, at1, ex, rfl, T⟩)
theorem setT_add {k : Str} {tk : Tok} {Q : Bool → Shared → Prop} (R : SetT w s.heap a L) (few : L.length + 1 < scanBound) (fin : ∀ h' b, Heap.SameBut a s.heap h' → SetT w h' a (L ++ [k]) → Q b { s with heap := h' }) :
    wpAny (model P w) A (setAddHashed a (.str k tk) ((PySem.strKind P w).hash k)) Q E s := by
  obtain ⟨ob, es, ep, tb, at0, ex, dt, T⟩ := R
  have isk : (PySem.strKind P w).is k (.str k tk) = true := strKind_is P w k tk
  have sc : (Value.str k tk).scannable = true := rfl
  have el : ElemsOf (PySem.strKind P w) es.toList := tx_elems T.good
  have b0 : es.size < scanBound := Nat.lt_of_le_of_lt T.le (Nat.lt_of_succ_lt few)
  have few2 : (L ++ [k]).length < scanBound := by
    rw [List.length_append]
    exact few
  unfold setAddHashed setAddHashedIn
  refine wpAny_holding (wpAny_bind (wpAny_setState_of at0 dt T.fit ?_))
  dsimp only
  rw [byScan_of sc b0 el]
  simp only [↓reduceIte]
  unfold setAddByScan
  refine wpAny_bind (wpAny_bind (wpAny_rule (wpAny_bind (wpAny_setScan_of isk at0 dt T.fit el ?_))))
  cases fi : List.findIdx? (fun e => (PySem.strKind P w).is k e.2) es.toList with
  | some j =>
    dsimp only
    obtain ⟨hj, pj, _⟩ := List.findIdx?_eq_some_iff_getElem.mp fi
    have km : k ∈ L := (T.mem k).mp ((tx_mem (P := P) T.good k).mpr ⟨es.toList[j], List.getElem_mem hj, pj⟩)
    refine wpAny_pure (wpAny_pure ?_)
    refine fin s.heap false (Heap.SameBut.refl a s.heap) ⟨ob, es, ep, tb, at0, ex, dt, T.good, T.nod, fun i => (T.mem i).trans ?_, T.fit, ?_, T.ris, T.led⟩
    · rw [List.mem_append, List.mem_singleton]
      exact ⟨.inl, fun z => z.elim id fun e => by rw [e]; exact km⟩
    · rw [List.length_append]
      exact Nat.le_succ_of_le T.le
  | none =>
    dsimp only
    have nk : k ∉ es.toList.map txOf := fun z => by
      obtain ⟨e, he, q⟩ := (tx_mem (P := P) T.good k).mp z
      have c := List.findIdx?_eq_none_iff.mp fi e he
      rw [q] at c
      cases c
    have q1 := layNew_perm tb es ((PySem.strKind P w).hash k) (.str k tk)
    have q2 := layNew_fits tb es ((PySem.strKind P w).hash k) (.str k tk)
    have q3 := layNew_ris tb es ((PySem.strKind P w).hash k) (.str k tk) T.ris
    have q4 := layNew_led tb es ((PySem.strKind P w).hash k) (.str k tk)
    generalize layNew tb es ((PySem.strKind P w).hash k) (.str k tk) = Z at q1 q2 q3 q4 ⊢
    obtain ⟨e1, t1, wd, gv⟩ := Z
    dsimp only at q1 q2 q3 q4 ⊢
    rw [Array.toList_push] at q1
    have pc : e1.toList.Perm (((PySem.strKind P w).hash k, Value.str k tk) :: es.toList) := q1.trans (List.perm_append_singleton _ _)
    have pk : (e1.toList.map txOf).Perm (k :: es.toList.map txOf) := pc.map txOf
    have sz : e1.size = es.size + 1 := by rw [← Array.length_toList, pc.length_eq, List.length_cons, Array.length_toList]
    have T1 : ∀ t2 : SetTable, t2.fits e1.size = true → Ris t2.place.toList → (w.params.followText "set-order" = true ∨ t2.led = true) → TxSet w a (L ++ [k]) e1 t2 := fun t2 f1 r1 l1 =>
      ⟨fun e he => by
        rcases List.mem_cons.mp (pc.mem_iff.mp he) with z | z
        · rw [z]
          exact ⟨k, tk, rfl, rfl⟩
        · exact T.good e z, pk.nodup_iff.mpr (List.nodup_cons.mpr ⟨nk, T.nod⟩), fun i => by
        rw [pk.mem_iff, List.mem_cons, T.mem i, List.mem_append, List.mem_singleton]
        exact Or.comm, f1, by
        rw [sz, List.length_append]
        exact Nat.succ_le_succ T.le, r1, l1⟩
    have ld : w.params.followText "set-order" = true ∨ t1.led = true := T.led.imp id fun z => by rw [q4]; exact z
    have gw : ∀ (b : Bool) {s₁ : Shared} {Q' : Unit → Shared → Prop}, Q' () s₁ → wpAny (model P w) A (match b with | true => rule "set.scan.the-table-gave-way" | false => pure ()) Q' E s₁ := fun b _ _ q => by
      cases b
      · exact wpAny_pure q
      · exact wpAny_rule q
    refine wpAny_bind (gw _ ?_)
    split
    · refine wpAny_bind ?_
      rw [hashByValue_scannable 8 sc]
      refine wpAny_pure (setT_tail (L := L ++ [k]) ?_ at0 ex dt ?_ few2 ?_)
      · intro b s₁ Q' q
        cases b <;> first | exact wpAny_pure q | exact wpAny_rule q
      · refine T1 _ ?_ ?_ ?_
        · first | (split <;> first | exact q2 | exact SetTable.fits_plain_off q2) | exact q2
        · first | (split <;> exact q3) | exact q3
        · first | (split <;> exact ld) | exact ld
      · intro h' sb r
        dsimp only
        exact wpAny_pure (fin h' true sb r)
    · refine wpAny_bind (wpAny_pure ?_)
      simp only [↓reduceIte]
      refine setT_tail (L := L ++ [k]) ?_ at0 ex dt (T1 _ q2 q3 ld) few2 ?_
      · intro b s₁ Q' q
        cases b <;> first | exact wpAny_pure q | exact wpAny_rule q
      · intro h' sb r
        dsimp only
        exact wpAny_pure (fin h' true sb r)
end

/-! ### set(xs) -/
theorem take_snoc {xs : List Str} {i : Nat} (h : i < xs.length) : xs.take (i + 1) = xs.take i ++ [xs.getD i Str.empty] := by
  rw [List.take_add_one, List.getElem?_eq_getElem h]
  congr 1
  show [xs[i]] = _
  rw [List.getD_eq_getElem?_getD, List.getElem?_eq_getElem h] <;> rfl
section
variable {prog : Program} {w : World} {A : Around} {R : Result → Shared → Prop} {I : Addr} {fp wr : List Addr} {G : Array GenState → Array GenState → Prop} {n : Nat} {Pv : Nat → Value → Prop} {St : Nat → Shared → Prop}
theorem loopTx (Wk : WalksS prog w A.in1 I fp wr G n Pv St) (D : Addr) (nD : D ∉ fp) (xs : List Str) (len : xs.length = n) (few : n + 1 < scanBound) (val : ∀ i v, Pv i v → ∃ t, v = .str (xs.getD i Str.empty) t) :
    ∀ (k i : Nat) (s : Shared), n - i = k → i ≤ n → St i s → SetT w s.heap D (xs.take i) → (∀ s', Moved (D :: wr) G s s' → SetT w s'.heap D xs → R (.ok (.ret .none)) s') →
      codeAny (model prog w) A (.builtin "set.update.loop" ⟨[.ref D, .ref I], []⟩) R s := by
  have nw : D ∉ wr := fun z => nD (Wk.sub _ z)
  have up : ∀ b ∈ wr, b ∈ D :: wr := fun b z => List.mem_cons_of_mem _ z
  intro k
  induction k with
  | zero =>
    intro i s hk hi st hD fin
    have ei : i = n := by omega
    subst ei
    refine codeAny_builtin PyProof.Rows.F.entry_set_update_loop ?_
    rw [Around.under_plainId PyProof.Rows.F.plain_set_update_loop _]
    show wpAny _ A.in1 (pyNext (.ref I) >>= _) _ _ s
    refine wpAny_bind (Wk.done s _ _ st fun s' mv => ?_)
    show wpAny _ A.in1 (ret Value.none) _ _ s'
    rw [List.take_of_length_le (by omega)] at hD
    exact wpAny_pure (fin s' (mv.mono up) (hD.at fun o z => mv.heap D _ nw z))
  | succ k ih =>
    intro i s hk hi st hD fin
    have lt : i < n := by omega
    refine codeAny_builtin PyProof.Rows.F.entry_set_update_loop ?_
    rw [Around.under_plainId PyProof.Rows.F.plain_set_update_loop _]
    show wpAny _ A.in1 (pyNext (.ref I) >>= _) _ _ s
    refine wpAny_bind (Wk.item i s _ _ lt st fun v s' hv st' mv => ?_)
    obtain ⟨t, ev⟩ := val i v hv
    subst ev
    have hD' : SetT w s'.heap D (xs.take i) := hD.at fun o z => mv.heap D _ nw z
    show wpAny _ A.in1 (holding [Value.str (xs.getD i Str.empty) t] (setAdd D (.str (xs.getD i Str.empty) t)) >>= _) _ _ s'
    refine wpAny_bind (wpAny_holding ?_)
    unfold setAdd
    refine wpAny_holding (wpAny_bind ((PySem.strKind prog w).pyHash (k := xs.getD i Str.empty) (strKind_is _ _ _ _) ?_))
    refine setT_add (P := prog) (s := { s' with toks := s'.toks + 1 }) hD' (by rw [List.length_take]; omega) fun h' b sb hD2 => ?_
    rw [← take_snoc (by omega)] at hD2
    refine wpAny_pure ⟨plainId_quiet PyProof.Rows.F.plain_set_update_loop _, ih (i + 1) _ (by omega) lt (Wk.frame _ s' _ _ st' (Nat.le_succ _) fun c hc o z => ?_) hD2 fun s2 mv2 hD3 => ?_⟩
    · rw [sb.2 c (fun q : c = D => nD (by rw [← q]; exact hc))]
      exact z
    · refine fin s2 (Moved.trans Wk.gtrans ((mv.mono up).then_heap (Nat.le_succ _) fun c o hc z => ?_) mv2) hD3
      rw [sb.2 c (fun q : c = D => hc (by rw [q]; exact List.mem_cons_self))]
      exact z
end
def newSetObj (w : World) : Obj := { cls := .type "set", dict := none, data := .set #[] 0 (.fresh 0 0 (!w.params.followText "set-order")) }
section
variable {P : Program} {w : World} {A : Around} {E : Value → Shared → Prop} {s : Shared}
theorem newSet_tx {h : Heap} : SetT w (h.push (newSetObj w)) h.objs.size [] :=
  ⟨_, #[], 0, _, Heap.get?_push_size _ rfl, ⟨rfl, rfl, rfl⟩, rfl, fun e he => by simp at he, by simp, fun k => by simp, by rfl, Nat.le_refl _, List.Pairwise.nil, by
    show _ ∨ (!w.params.followText "set-order") = true
    cases w.params.followText "set-order"
    · exact .inr rfl
    · exact .inl rfl⟩
theorem code_newSet (v : Value) {Q₁ : Value → Shared → Prop} (q : Q₁ (.ref s.heap.objs.size) { s with heap := s.heap.push (newSetObj w) }) : codeAny (model P w) A (.call (.builtin "set.__new__") ⟨[.type "set", v], []⟩) (wants Q₁ E) s := by
  refine codeAny_of_tree ?_
  show wpAny _ A.in1 (do checkBuiltinCall "set.__new__" ⟨[.type "set", v], []⟩; again (.builtin "set.__new__" ⟨[.type "set", v], []⟩)) _ _ s
  refine wpAny_bind (wpAny_of_eq (PySem.F.newCall_set_1 v) (wpAny_pure ⟨plainId_quiet PySem.F.plain_set_new _, codeAny_builtin PySem.F.entry_set_new ?_⟩))
  rw [Around.under_plainId PySem.F.plain_set_new _]
  unfold Builtin.«set.__new__» Builtin.Frozenset.newClass
  have hsub := sub_set_self
  obtain ⟨hp, g, d, tk, os⟩ := s
  dsimp only
  wp_walk
  refine wpAny_askSetting (wpAny_pure ?_)
  dsimp only
  simp only [newObj]
  exact wpAny_bind (wpAny_alloc (wpAny_pure (wpAny_pure q)))
end

section
variable {P : Program} {w : World} {A : Around} {E : Value → Shared → Prop} {s : Shared}
set_option maxHeartbeats 8000000 in
theorem set_ofTx {l : Addr} {its : Array Value} {xs : List Str} {Q : Value → Shared → Prop} (calm : A.handled = none) (hl : s.heap.IsList l its) (tx : PyProof.Rows.StrsAre its.toList xs) (few : its.size + 1 < scanBound)
    (q : ∀ (h' : Heap) (tk : Nat), SetT w h' s.heap.objs.size xs → (∀ b o, b < s.heap.objs.size → s.heap.get? b = some o → h'.get? b = some o) → s.heap.objs.size < h'.objs.size → Q (.ref s.heap.objs.size) { s with heap := h', toks := tk }) :
    wpAny (model P w) A (call (.type "set") [.ref l]) Q E s := by
  obtain ⟨c, tl, hmro⟩ := PySem.F.called_set.mro
  have m1 := PySem.F.called_set.made
  have m2 := PySem.F.called_set.sub
  refine wpAny_call (codeAny_of_tree ?_)
  show wpAny _ _ (callAny (.type "set") _) _ _ _
  refine wpAny_pure ⟨Code.quiet_builtin _ (by decide +kernel), codeAny_builtin PySem.F.entry_type_call ?_⟩
  rw [Around.under_plain (weight_type_call_type "set" [.ref l] []) rfl]
  have m3 := PySem.F.called_set.notType
  have m4 := PySem.F.called_set.canCreate
  have m5 := PySem.F.typeCall_set_1 (.ref l)
  repeat (any_goals (first | assumption | wp_step))
  refine codeAny_mono (code_newSet (.ref l) (E := E) (Q₁ := fun obj s₁ => obj = .ref s.heap.objs.size ∧ s₁ = { s with heap := s.heap.push (newSetObj w) }) ⟨rfl, rfl⟩) fun r s₁ hr => ?_
  cases r with
  | error e => exact hr
  | ok fl =>
    cases fl with
    | ret obj =>
      obtain ⟨e1, e2⟩ := hr
      subst e1 e2
      have at1 : (s.heap.push (newSetObj w)).get? s.heap.objs.size = some (newSetObj w) := Heap.get?_push_size _ rfl
      have ty1 : Shared.TypeIs { s with heap := s.heap.push (newSetObj w) } (.ref s.heap.objs.size) "set" := ⟨_, at1, rfl⟩
      have m6 := PySem.F.called_set.init.lookup
      have m7 := PySem.F.called_set.init.bind (.ref s.heap.objs.size)
      repeat (any_goals (first | assumption | wp_step))
      refine codeAny_mono (codeAny_call_builtin (R := wants (fun r s₂ => r = .none ∧ ∃ h' tk, s₂ = { s with heap := h', toks := tk } ∧ SetT w h' s.heap.objs.size xs ∧ s.heap.objs.size < h'.objs.size ∧
          (∀ b o, b < s.heap.objs.size → s.heap.get? b = some o → h'.get? b = some o)) E) PySem.F.called_set.init.plain PySem.F.entry_set_init (check_set_init_1 ty1 ?_)) fun r₂ s₂ hr₂ => ?_
      · obtain ⟨ol, hol, hcl, nl, hdl⟩ := hl
        obtain ⟨ocls, odict, odata, oslots⟩ := ol
        simp only at hcl hdl
        subst hcl hdl
        have hol' : (s.heap.push (newSetObj w)).get? l = some { cls := .type "list", dict := odict, data := .seq its nl, slots := oslots } := Heap.get?_push_of_some _ hol
        have m8 := PySem.F.sub_list_set
        have m9 := PySem.F.sub_list_frozenset
        have mA : (Value.type "list" == Value.type "dict") = false := by decide
        have hl1 : (s.heap.push (newSetObj w)).IsList l its := ⟨_, hol', rfl, nl, rfl⟩
        unfold Builtin.«set.__init__» noKeywords Builtin.Frozenset.updateFrom
        generalize hPI : pyIter = PI
        wp_walk
        subst hPI
        refine wpAny_pyIter_list hl1 (wpAny_bind (wpAny_runValue ?_))
        have lS : l < s.heap.objs.size := Heap.lt_size hol
        have calm3 : A.in1.in1.in1.handled = none := by simp [calm]
        have psz : (s.heap.push (newSetObj w)).objs.size = s.heap.objs.size + 1 := Heap.size_push ..
        have lI : l ≠ (s.heap.push (newSetObj w)).objs.size := by
          rw [psz]
          exact Nat.ne_of_lt (Nat.lt_succ_of_lt lS)
        have nD : s.heap.objs.size ∉ [(s.heap.push (newSetObj w)).objs.size, l] := by
          rw [psz]
          simp only [List.mem_cons, List.mem_singleton, List.not_mem_nil, or_false, not_or]
          exact ⟨Nat.ne_of_lt (Nat.lt_succ_self _), Nat.ne_of_gt lS⟩
        have len : xs.length = its.size := by rw [← StrsAre.len_eq tx, Array.length_toList]
        have val : ∀ (i : Nat) (v : Value), its[i]? = some v → ∃ t, v = .str (xs.getD i Str.empty) t := fun i v hv => SS.strs_at tx i v (by rw [Array.getElem?_toList]; exact hv)
        refine loopTx ((Walks.list calm3 _ l lI its).toS) s.heap.objs.size nD xs len few val (its.size - 0) 0 _ (by omega) (Nat.zero_le _) ⟨⟨_, Heap.get?_push_size _ rfl, rfl, rfl⟩, (hl1.push _)⟩ ?h0 ?hR
        case h0 =>
          rw [List.take_zero]
          exact newSet_tx.at fun o z => Heap.get?_push_of_some _ z
        case hR =>
          intro s' mv hD
          obtain ⟨h', g', d', tk', os'⟩ := s'
          have eg : g' = s.gens := mv.gens
          have ed : d' = s.drawn := mv.drawn
          have eo : os' = s.os := mv.os
          subst eg ed eo
          show wpAny _ _ _ _ _ _
          refine wpAny_pure ?_
          show wpAny _ _ (ret Value.none) _ _ _
          refine wpAny_pure ⟨rfl, h', tk', rfl, hD, ?_, fun b o hb z => ?_⟩
          · obtain ⟨ob, _, _, _, z, _⟩ := hD
            exact Heap.lt_size z
          · have b1 : b ≠ s.heap.objs.size := Nat.ne_of_lt hb
            have b2 : b ≠ (s.heap.push (newSetObj w)).objs.size := by
              rw [psz]
              exact Nat.ne_of_lt (Nat.lt_succ_of_lt hb)
            exact mv.heap b o (by simp only [List.mem_cons, List.mem_singleton, List.not_mem_nil, or_false, not_or]; exact ⟨b1, b2⟩) (Heap.get?_push_of_some _ (Heap.get?_push_of_some _ z))
      · cases r₂ with
        | error e => exact hr₂
        | ok fl₂ =>
          cases fl₂ with
          | ret r =>
            obtain ⟨e1, h', tk, e2, hD, hs, hk⟩ := hr₂
            subst e1 e2
            repeat (any_goals (first | assumption | wp_step))
            exact q _ _ hD hk hs
          | _ => exact hr₂.elim
    | _ => exact hr.elim
end

/-! ### sorted(s) -/
theorem strs_of_all : ∀ (l : List Value), (∀ v ∈ l, ∃ k tk, v = Value.str k tk) → ∃ xs : List Str, PyProof.Rows.StrsAre l xs
  | [], _ => ⟨[], .nil⟩
  | v :: l, h => by
    obtain ⟨k, tk, e⟩ := h v List.mem_cons_self
    subst e
    obtain ⟨xs, r⟩ := strs_of_all l fun u hu => h u (List.mem_cons_of_mem _ hu)
    exact ⟨k :: xs, .cons k tk r⟩
def txV : Value → Str
  | .str x _ => x
  | _ => Str.empty
theorem strs_map : ∀ {l : List Value} {xs : List Str}, PyProof.Rows.StrsAre l xs → xs = l.map txV
  | _, _, .nil => rfl
  | _, _, .cons k tk r => by rw [List.map_cons, ← strs_map r] <;> rfl
section
variable {P : Program} {w : World} {A : Around} {E : Value → Shared → Prop} {s : Shared} {a : Addr} {L : List Str}
theorem sorted_ofTx {Q : Value → Shared → Prop} (R : SetT w s.heap a L) (calm : A.handled = none) (few : L.length < 64)
    (q : ∀ s' p (out : Array Value) (c : Nat) (xs : List Str), (∀ b o, s.heap.get? b = some o → s'.heap.get? b = some o) → s'.gens = s.gens → s'.os = s.os → s.heap.objs.size ≤ p →
      s'.heap.get? p = some (seqObj "list" out c) → PyProof.Rows.StrsAre out.toList xs → xs.Nodup → (∀ k, k ∈ xs ↔ k ∈ L) → sortedS xs = true → Q (.ref p) s') :
    wpAny (model P w) A (call (.builtin "sorted") [.ref a]) Q E s := by
  obtain ⟨ob, es, ep, tb, at0, ex, dt, T⟩ := R
  have sz : es.size < 64 := Nat.lt_of_le_of_lt T.le few
  refine Calls.call_function_entry kind_sorted plain_sorted entry_sorted (args_sorted1 _) ?_
  unfold Builtin.«sorted»
  refine wpAny_bind (m := checkCount "sorted" 1 1 _) (wpAny_pure ?_)
  refine wpAny_bind (collect_set (A := A.in1) calm ⟨ob, at0, ex.1, dt⟩ T.fit (Nat.lt_trans sz (by unfold scanBound; omega)) T.ris T.led fun s1 vs k1 hz g1 o1 pm => ?_)
  have vl : vs.length = es.size := by rw [pm.length_eq, List.length_map, Array.length_toList]
  obtain ⟨ks, hk⟩ := strs_of_all vs fun v hv => by
    obtain ⟨e, he, ee⟩ := List.mem_map.mp (pm.mem_iff.mp hv)
    obtain ⟨k, tk, h1, _⟩ := T.good e he
    exact ⟨k, tk, by rw [← ee]; exact h1⟩
  have pk : ks.Perm (es.toList.map txOf) := by
    rw [strs_map hk]
    have z := pm.map txV
    rw [List.map_map] at z
    exact z
  refine wpAny_bind (wpAny_newList ?_ (by rw [vl, sizeLine_eq]; omega))
  have at1 : (s1.heap.push (seqObj "list" vs.toArray 0)).get? s1.heap.objs.size = some (seqObj "list" vs.toArray 0) := Heap.get?_push_size _ rfl
  refine wpAny_bind (wpAny_holding (wpAny_call_entry slot_list_sort ⟨_, at1, rfl⟩ entry_list_sort (list_sort_treeK strKind_oneLt at1 hk.keysOf (fun v₁ v₂ rest e => keyKind_strs (by rw [← e]; exact hk)) (by rw [vl]; exact sz) fun st' hp hs => ⟨_, rfl, ?_⟩) (args_list_sort _)))
  obtain ⟨xs, a1, a2, a3⟩ := sorted_out_str hk hp hs
  obtain ⟨c, hc⟩ := sortedHeap_at (vs := vs) (out := (arrOf st').map (·.2)) at1
  have pn : xs.Perm (es.toList.map txOf) := a2.trans pk
  refine wpAny_pure ⟨_, rfl, q _ s1.heap.objs.size _ c xs (fun b u e => ?_) g1 o1 hz hc a1 (pn.nodup_iff.mpr T.nod) (fun k => by rw [pn.mem_iff, T.mem]) a3⟩
  have z := k1 b u e
  have lt := Heap.lt_size z
  show (sortedHeap (s1.heap.push (seqObj "list" vs.toArray 0)) s1.heap.objs.size vs _).get? b = some u
  rw [sortedHeap_old (Nat.ne_of_lt lt) (by rw [size_push']; exact Nat.lt_succ_of_lt lt)]
  exact Heap.get?_push_of_some _ z
end
/-! ### over H -/
def TxO (w : World) (a : Addr) (L : List Str) : HO := .ext fun h => SetT w h a L
section
variable {X : Cx}
theorem txO_ok {w : World} {P : Program} {H : Hp} {h : Heap} {a : Addr} {L : List Str} (R : SetT w h a L) : ObjOk P w H h a (TxO w a L) := by
  have ⟨ob, _, _, _, z, _⟩ := R
  exact ⟨R, ⟨ob, z⟩, fun h1 h2 p k => SetT.at p k⟩
def rSetOfTx (K : Frag) (w : World) : List V → Hp → VK → Prop := fun vs H Q => ∃ (l : Addr) (xs : List Str), vs = [.ref l] ∧ SqL K H l (xs.map V.str) ∧ xs.length ≤ 1000 ∧ ∀ p, H p = none → Q (.ref p) (upd H p (TxO w p xs))
theorem cr_setOfTx (hc : X.calm = true) : CallR X (.type "set") (rSetOfTx X.K X.w) := by
  intro pins s σ H vs us Q I r h
  obtain ⟨l, xs, e, hs, few, q⟩ := h
  subst e
  obtain ⟨its, rv, hl, _⟩ := I.list hs
  rw [Vals.ref1 r]
  have len := rv.length
  rw [List.length_map] at len
  refine set_ofTx (I.ok.hd hc) hl.isList rv.strs (by rw [List.size_toArray, ← len]; unfold scanBound; omega) fun h' tk hD hk hz => ?_
  exact ⟨.ref _, upd H s.heap.objs.size (TxO X.w s.heap.objs.size xs), I.laid (t' := tk) (fun b o e => hk b o (Heap.lt_size e) e) (Nat.le_refl _) (txO_ok hD), rfl, q _ (I.hok.fresh (Nat.le_refl _))⟩
def rSortedTx (w : World) : List V → Hp → VK → Prop := fun vs H Q => ∃ (a : Addr) (L : List Str), vs = [V.ref a] ∧ H a = some (TxO w a L) ∧ L.length < 64 ∧
  ∀ (xs : List Str) (p : Addr), xs.Nodup → (∀ k, k ∈ xs ↔ k ∈ L) → sortedS xs = true → H p = none → Q (.ref p) (upd H p (.lst (xs.map V.str)))
theorem nodup_few {L : List Str} : ∀ {xs : List Str}, xs.Nodup → (∀ k, k ∈ xs → k ∈ L) → xs.length ≤ L.length := fun {xs} => by
  induction L generalizing xs with
  | nil =>
    intro _ h
    cases xs with
    | nil => exact Nat.le_refl _
    | cons x r => cases h x List.mem_cons_self
  | cons y L ih =>
    intro nd h
    by_cases hy : y ∈ xs
    · have l1 := List.length_erase_of_mem hy
      have nd2 : (xs.erase y).Nodup := nd.erase y
      have := ih nd2 fun k hk => by
        have k1 := List.mem_of_mem_erase hk
        rcases List.mem_cons.mp (h k k1) with z | z
        · subst z
          exact absurd hk (List.Nodup.not_mem_erase nd)
        · exact z
      have l2 : 0 < xs.length := List.length_pos_of_mem hy
      rw [List.length_cons]
      omega
    · have := ih nd fun k hk => by
        rcases List.mem_cons.mp (h k hk) with z | z
        · subst z
          exact absurd hk hy
        · exact z
      rw [List.length_cons]
      omega
theorem cr_sortedTx (hc : X.calm = true) : CallR X (.builtin "sorted") (rSortedTx X.w) := by
  intro pins s σ H vs us Q I r h
  obtain ⟨a, L, e, ha, few, q⟩ := h
  subst e
  have R : SetT X.w s.heap a L := (I.hok a _ ha).1
  rw [Vals.ref1 r]
  refine sorted_ofTx R (I.ok.hd hc) few fun s' p out c xs k g o hp hg hi nd hm hs => ?_
  have l1 := nodup_few nd fun k hk => (hm k).mp hk
  have len : (xs.map V.str).length ≤ sizeLine := by
    rw [List.length_map, sizeLine_eq]
    omega
  have hn : H p = none := I.hok.fresh hp
  have J : Inv X pins σ (upd H p (.lst (xs.map V.str))) { s with heap := s'.heap, gens := s'.gens, drawn := s'.drawn, toks := s'.toks } :=
    I.call (ch := []) (Un.laid k hp hn) (I.hok.laid k hp ⟨len, out.toList, c, vals_of_strs hi, hg⟩) (by rw [g]; exact I.bare) (fun _ z => nomatch z)
  have e2 : s' = { s with heap := s'.heap, gens := s'.gens, drawn := s'.drawn, toks := s'.toks } := by
    cases s'
    cases s
    cases o
    rfl
  rw [e2]
  exact ⟨.ref p, _, J, rfl, q xs p nd hm hs hn⟩
end
section
variable {W W1 : Wd} {K : Frag} {δ : DEnv} {w : World} {te : TE}
/-- sorted(set(xs)) -/
theorem ef_sortedSet {P : List Str → Prop} (h : EvC W W1 K te δ fun xs : List Str => xs.length < 64 ∧ ∀ z : List Str, z.Nodup → (∀ k, k ∈ z ↔ k ∈ xs) → sortedS z = true → P z) : EvF W W1 K (tCB (rSortedTx w) (tCons (tCB (rSetOfTx K w) (tCons te tNil)) tNil)) δ P := fun O S H σ s Q q =>
  h O S H σ s _ fun a vs S1 H1 xs m l r p => ⟨a, xs, rfl, by rw [show xs.map V.str = vs from (flat_reps r).symm]; exact l.sq m.good.sub, Nat.le_of_lt (Nat.lt_trans p.1 (by decide)), fun b hb => by
    have m2 := m.trans (Mv.temp (o := TxO w b xs) m.good hb)
    exact ⟨b, xs, rfl, upd_same, p.1, fun ys c nd hm hs hc => q c _ S1 _ ys (m2.trans (Mv.temp m2.good hc)) (Fresh.new m2.good hc) reps_flat (p.2 ys nd hm hs)⟩⟩
end
end DW
set_option maxHeartbeats 4000000
/-! DW: zip of a list and a tuple -/
namespace DW
open PySem PySem.Spec PyProof.Rows L2
section
variable {prog : Program} {w : World} {A : Around} {E : Value → Shared → Prop} {s : Shared}
theorem zipM_item {z pI pO ia ib la lb : Addr} {k1 k2 : Nat} {xs ys : Array Value} {x y a b : Value} {Q : Value → Shared → Prop} (D : ZipApart z pI pO ia ib la lb)
    (kz : IsZip s.heap z pI pO .none) (kI : IsPair s.heap pI (.ref ia) (.ref ib)) (kO : IsPair s.heap pO a b)
    (ka : s.heap.IsListIter ia la k1) (kb : s.heap.IsTupleIter ib lb k2) (ca : s.heap.IsList la xs) (cb : s.heap.IsTuple lb ys) (gx : xs[k1]? = some x) (gy : ys[k2]? = some y)
    (kQ : ∀ h', IsZip h' z pI pO (rawInt s.heap.objs.size) → IsPair h' pO x y → h'.IsListIter ia la (k1 + 1) → h'.IsTupleIter ib lb (k2 + 1) → IsPair h' s.heap.objs.size x y → h'.objs.size = s.heap.objs.size + 1 →
      (∀ c o, c ≠ z → c ≠ pO → c ≠ ia → c ≠ ib → s.heap.get? c = some o → h'.get? c = some o) → Q (.ref s.heap.objs.size) { s with heap := h' }) :
    wpAny (model prog w) A (Builtin.«zip.__next__» ⟨[.ref z], []⟩) (fun fin s' => ∃ v, fin = .done (.ret v) ∧ Q v s') E s := by
  show wpAny _ _ (field (.ref z) 2 >>= _) _ _ _; refine wpAny_bind (wpAny_field kz rfl (x := .bool false) rfl ?_); show wpAny _ _ (field (.ref z) 3 >>= _) _ _ _; refine wpAny_bind (wpAny_field kz rfl (x := .ref pI) rfl ?_); refine wpAny_bind (wpAny_seqItems kI rfl ?_); show wpAny _ _ (Builtin.SmallTypes.ownedTupleIsFree (.ref z) >>= _) _ _ _; refine wpAny_bind ?_; unfold Builtin.SmallTypes.ownedTupleIsFree
  refine wpAny_bind (wpAny_field kz rfl (x := .none) rfl (wpAny_pure ?_)); simp only [if_true]; refine wpAny_bind (wpAny_rule ?_); refine wpAny_bind (wpAny_field kz rfl (x := .ref pO) rfl ?_); refine wpAny_bind (wpAny_setField_rec kz (by simp) fun h₁ kz₁ ts₁ => ?_); replace kz₁ : IsZip h₁ z pI pO .ellipsis := kz₁; refine wpAny_bind ?_; simp only [List.zipIdx_cons, List.zipIdx_nil, List.forIn_cons, List.forIn_nil]
  refine wpAny_bind (wpAny_bind (wpAny_onRaise ?_)); show wpAny _ _ (Builtin.SmallTypes.nextOf (.ref ia) >>= _) _ _ _; refine wpAny_bind (wpAny_nextOf_list_item (ka.extBut ts₁.extBut D.i1z) (ca.extBut ts₁.extBut D.l1z) gx fun h₂ h1₂ ts₂ => wpAny_pure ?_); have kO₂ : IsPair h₂ pO a b := ts₂.extBut _ _ D.TOi1 (ts₁.extBut _ _ D.TOz kO); refine wpAny_bind (wpAny_seqItems kO₂ rfl ?_); refine wpAny_bind (wpAny_updateSeq_pair kO₂ fun h₃ kO₃ ts₃ => ?_)
  replace kO₃ : IsPair h₃ pO x b := kO₃; refine wpAny_bind (wpAny_letGo (wpAny_pure ?_)); refine wpAny_bind (wpAny_bind (wpAny_onRaise ?_)); show wpAny _ _ (Builtin.SmallTypes.nextOf (.ref ib) >>= _) _ _ _
  refine wpAny_bind (RZ.nextOf_tuple_item (((kb.extBut ts₁.extBut D.i2z).extBut ts₂.extBut D.i12.symm).extBut ts₃.extBut D.TOi2.symm)
    (((cb.extBut ts₁.extBut D.l2z).extBut ts₂.extBut D.l2i1).extBut ts₃.extBut D.l2TO) gy fun h₄ h2₄ ts₄ => wpAny_pure ?_)
  have kO₄ : IsPair h₄ pO x b := ts₄.extBut _ _ D.TOi2 kO₃; refine wpAny_bind (wpAny_seqItems kO₄ rfl ?_); refine wpAny_bind (wpAny_updateSeq_pair kO₄ fun h₅ kO₅ ts₅ => ?_); replace kO₅ : IsPair h₅ pO x y := kO₅; refine wpAny_bind (wpAny_letGo (wpAny_pure (wpAny_pure ?_))); refine wpAny_bind (wpAny_seqItems kO₅ rfl ?_); refine wpAny_bind (wpAny_newTuple ?_)
  have ksz : h₅.objs.size = s.heap.objs.size := by rw [ts₅.1, ts₄.1, ts₃.1, ts₂.1, ts₁.1]
  have kz₅ : IsZip h₅ z pI pO .ellipsis := ts₅.extBut _ _ D.TOz.symm (ts₄.extBut _ _ D.i2z.symm (ts₃.extBut _ _ D.TOz.symm (ts₂.extBut _ _ D.i1z.symm kz₁)))
  have hk₅ : ∀ c o, c ≠ z → c ≠ pO → c ≠ ia → c ≠ ib → s.heap.get? c = some o → h₅.get? c = some o := fun c o c1 c2 c3 c4 e =>
    ts₅.extBut _ _ c2 (ts₄.extBut _ _ c4 (ts₃.extBut _ _ c2 (ts₂.extBut _ _ c3 (ts₁.extBut _ _ c1 e))))
  have h1₅ : h₅.IsListIter ia la (k1 + 1) := ((h1₂.extBut ts₃.extBut D.TOi1.symm).extBut ts₄.extBut D.i12).extBut ts₅.extBut D.TOi1.symm
  have h2₅ : h₅.IsTupleIter ib lb (k2 + 1) := h2₄.extBut ts₅.extBut D.TOi2.symm; have hzlt : z < h₅.objs.size := Heap.lt_size kz₅; have hTOlt : pO < h₅.objs.size := Heap.lt_size kO₅
  have hi1lt : ia < h₅.objs.size := by obtain ⟨_, e, _⟩ := h1₅; exact Heap.lt_size e
  have hi2lt : ib < h₅.objs.size := by obtain ⟨_, e, _⟩ := h2₅; exact Heap.lt_size e
  show wpAny _ _ (Builtin.SmallTypes.ownedTupleHandOut (.ref z) (.ref h₅.objs.size) >>= _) _ _ _; refine wpAny_bind ?_; unfold Builtin.SmallTypes.ownedTupleHandOut; have kz₆ : IsZip (h₅.push { cls := .type "tuple", data := .seq #[x, y] }) z pI pO .ellipsis := Heap.get?_push_of_some _ kz₅; refine wpAny_bind (wpAny_setField_rec kz₆ (by simp) fun h₇ kz₇ ts₇ => ?_); replace kz₇ : IsZip h₇ z pI pO (rawInt h₅.objs.size) := kz₇
  refine wpAny_setField_rec kz₇ (by simp) fun h₈ kz₈ ts₈ => ?_; replace kz₈ : IsZip h₈ z pI pO (rawInt h₅.objs.size) := kz₈; have up : ∀ c o, c ≠ z → h₅.get? c = some o → h₈.get? c = some o := fun c o c1 e => ts₈.extBut _ _ c1 (ts₇.extBut _ _ c1 (Heap.get?_push_of_some _ e)); have kT₈ : IsPair h₈ h₅.objs.size x y := ts₈.extBut _ _ (Nat.ne_of_gt hzlt) (ts₇.extBut _ _ (Nat.ne_of_gt hzlt) (Heap.get?_push_size _ rfl))
  have hz8 : h₈.objs.size = h₅.objs.size + 1 := by rw [ts₈.1, ts₇.1, Heap.size_push]
  rw [ksz] at kz₈ kT₈ hz8; refine wpAny_pure ⟨_, rfl, ?_⟩; show Q (.ref h₅.objs.size) _; rw [ksz]; exact kQ h₈ kz₈ (up _ _ D.TOz kO₅) (h1₅.at fun o e => up _ o D.i1z e) (h2₅.at fun o e => up _ o D.i2z e) kT₈ hz8 fun c o c1 c2 c3 c4 e => up c o c1 (hk₅ c o c1 c2 c3 c4 e)
theorem zipM_end {z pI pO ia ib la lb : Addr} {k1 k2 : Nat} {xs ys : Array Value} {a b : Value} {Q : Fin → Shared → Prop} (calm : A.handled = none) (D : ZipApart z pI pO ia ib la lb)
    (kz : IsZip s.heap z pI pO .none) (kI : IsPair s.heap pI (.ref ia) (.ref ib)) (kO : IsPair s.heap pO a b)
    (ka : s.heap.IsListIter ia la k1) (kb : s.heap.IsTupleIter ib lb k2) (ca : s.heap.IsList la xs) (cb : s.heap.IsTuple lb ys) (gend : xs[k1]? = none ∨ ys[k2]? = none)
    (kE : ∀ h' e, (∀ c o, c ≠ z → c ≠ pO → c ≠ ia → c ≠ ib → s.heap.get? c = some o → h'.get? c = some o) → (∃ o, h'.get? e = some o ∧ o.cls = .type "StopIteration") → E (.ref e) { s with heap := h' }) :
    wpAny (model prog w) A (Builtin.«zip.__next__» ⟨[.ref z], []⟩) Q E s := by
  show wpAny _ _ (field (.ref z) 2 >>= _) _ _ _; refine wpAny_bind (wpAny_field kz rfl (x := .bool false) rfl ?_); show wpAny _ _ (field (.ref z) 3 >>= _) _ _ _; refine wpAny_bind (wpAny_field kz rfl (x := .ref pI) rfl ?_); refine wpAny_bind (wpAny_seqItems kI rfl ?_); show wpAny _ _ (Builtin.SmallTypes.ownedTupleIsFree (.ref z) >>= _) _ _ _; refine wpAny_bind ?_; unfold Builtin.SmallTypes.ownedTupleIsFree
  refine wpAny_bind (wpAny_field kz rfl (x := .none) rfl (wpAny_pure ?_)); simp only [if_true]; refine wpAny_bind (wpAny_rule ?_); refine wpAny_bind (wpAny_field kz rfl (x := .ref pO) rfl ?_); refine wpAny_bind (wpAny_setField_rec kz (by simp) fun h₁ kz₁ ts₁ => ?_); replace kz₁ : IsZip h₁ z pI pO .ellipsis := kz₁; refine wpAny_bind ?_; simp only [List.zipIdx_cons, List.zipIdx_nil, List.forIn_cons, List.forIn_nil]
  refine wpAny_bind (wpAny_bind (wpAny_onRaise ?_)); show wpAny _ _ (Builtin.SmallTypes.nextOf (.ref ia) >>= _) _ _ _
  cases gx : xs[k1]? with
  | none =>
    refine wpAny_bind (wpAny_nextOf_list_end calm (ka.extBut ts₁.extBut D.i1z) (ca.extBut ts₁.extBut D.l1z) gx fun h₂ e ts₂ he => ?_); obtain ⟨oe, hoe, hce⟩ := he; have kz₂ : IsZip h₂ z pI pO .ellipsis := ts₂ _ _ D.i1z.symm kz₁
    have hez : e ≠ z := fun x => by subst x; rw [kz₂] at hoe; cases hoe; simp at hce
    refine wpAny_setField_rec kz₂ (by simp) fun h₃ _ ts₃ => kE h₃ e (fun c o c1 _ c3 _ x => ts₃.extBut _ _ c1 (ts₂ _ _ c3 (ts₁.extBut _ _ c1 x))) ⟨oe, ts₃.extBut _ _ hez hoe, hce⟩
  | some x =>
    have gy : ys[k2]? = none := by rcases gend with h | h; rw [gx] at h; cases h; exact h
    refine wpAny_bind (wpAny_nextOf_list_item (ka.extBut ts₁.extBut D.i1z) (ca.extBut ts₁.extBut D.l1z) gx fun h₂ h1₂ ts₂ => wpAny_pure ?_); have kO₂ : IsPair h₂ pO a b := ts₂.extBut _ _ D.TOi1 (ts₁.extBut _ _ D.TOz kO); refine wpAny_bind (wpAny_seqItems kO₂ rfl ?_); refine wpAny_bind (wpAny_updateSeq_pair kO₂ fun h₃ kO₃ ts₃ => ?_); refine wpAny_bind (wpAny_letGo (wpAny_pure ?_)); refine wpAny_bind (wpAny_bind (wpAny_onRaise ?_))
    show wpAny _ _ (Builtin.SmallTypes.nextOf (.ref ib) >>= _) _ _ _
    refine wpAny_bind (RZ.nextOf_tuple_end calm (((kb.extBut ts₁.extBut D.i2z).extBut ts₂.extBut D.i12.symm).extBut ts₃.extBut D.TOi2.symm)
      (((cb.extBut ts₁.extBut D.l2z).extBut ts₂.extBut D.l2i1).extBut ts₃.extBut D.l2TO) gy fun h₄ e ts₄ he => ?_)
    obtain ⟨oe, hoe, hce⟩ := he; have kz₄ : IsZip h₄ z pI pO .ellipsis := ts₄ _ _ D.i2z.symm (ts₃.extBut _ _ D.TOz.symm (ts₂.extBut _ _ D.i1z.symm kz₁))
    have hez : e ≠ z := fun x => by subst x; rw [kz₄] at hoe; cases hoe; simp at hce
    refine wpAny_setField_rec kz₄ (by simp) fun h₅ _ ts₅ => kE h₅ e (fun c o c1 c2 c3 c4 x => ts₅.extBut _ _ c1 (ts₄ _ _ c4 (ts₃.extBut _ _ c2 (ts₂.extBut _ _ c3 (ts₁.extBut _ _ c1 x))))) ⟨oe, ts₅.extBut _ _ hez hoe, hce⟩
theorem nextM_item {z pI pO ia ib la lb : Addr} {k1 k2 : Nat} {xs ys : Array Value} {x y a b : Value} {Q : Option Value → Shared → Prop} (D : ZipApart z pI pO ia ib la lb)
    (kz : IsZip s.heap z pI pO .none) (kI : IsPair s.heap pI (.ref ia) (.ref ib)) (kO : IsPair s.heap pO a b)
    (ka : s.heap.IsListIter ia la k1) (kb : s.heap.IsTupleIter ib lb k2) (ca : s.heap.IsList la xs) (cb : s.heap.IsTuple lb ys) (gx : xs[k1]? = some x) (gy : ys[k2]? = some y)
    (kQ : ∀ h', IsZip h' z pI pO (rawInt s.heap.objs.size) → IsPair h' pO x y → h'.IsListIter ia la (k1 + 1) → h'.IsTupleIter ib lb (k2 + 1) → IsPair h' s.heap.objs.size x y → h'.objs.size = s.heap.objs.size + 1 →
      (∀ c o, c ≠ z → c ≠ pO → c ≠ ia → c ≠ ib → s.heap.get? c = some o → h'.get? c = some o) → Q (some (.ref s.heap.objs.size)) { s with heap := h' }) :
    wpAny (model prog w) A (pyNext (.ref z)) Q E s := by
  have hT : s.TypeIs (.ref z) "zip" := ⟨_, kz, rfl⟩
  unfold pyNext
  exact wpAny_bind (wpAny_attempt (wpAny_callSpecial?_slot (name := Str.ofString "__next__") hT F.slot_zip_next
    (wpAny_call_entry F.slot_zip_next hT F.entry_zip_next
      (zipM_item D kz kI kO ka kb ca cb gx gy fun h' a1 a2 a3 a4 a5 a6 a7 => wpAny_pure (kQ h' a1 a2 a3 a4 a5 a6 a7)) (F.args_zip_next_1 _))))
theorem nextM_end {z pI pO ia ib la lb : Addr} {k1 k2 : Nat} {xs ys : Array Value} {a b : Value} {Q : Option Value → Shared → Prop} (calm : A.handled = none) (D : ZipApart z pI pO ia ib la lb)
    (kz : IsZip s.heap z pI pO .none) (kI : IsPair s.heap pI (.ref ia) (.ref ib)) (kO : IsPair s.heap pO a b)
    (ka : s.heap.IsListIter ia la k1) (kb : s.heap.IsTupleIter ib lb k2) (ca : s.heap.IsList la xs) (cb : s.heap.IsTuple lb ys) (gend : xs[k1]? = none ∨ ys[k2]? = none)
    (kQ : ∀ h', (∀ c o, c ≠ z → c ≠ pO → c ≠ ia → c ≠ ib → s.heap.get? c = some o → h'.get? c = some o) → Q none { s with heap := h' }) : wpAny (model prog w) A (pyNext (.ref z)) Q E s := by
  have hT : s.TypeIs (.ref z) "zip" := ⟨_, kz, rfl⟩
  unfold pyNext
  refine wpAny_bind (wpAny_attempt (wpAny_callSpecial?_slot (name := Str.ofString "__next__") hT F.slot_zip_next
    (wpAny_call_entry F.slot_zip_next hT F.entry_zip_next (zipM_end calm D kz kI kO ka kb ca cb gend fun h' e kk he => ?_) (F.args_zip_next_1 _))))
  obtain ⟨o, ho, hc⟩ := he; refine wpAny_bind (wpAny_isInstance (T := "StopIteration") (b := true) ⟨o, ho, hc⟩ isSubtype_stop ?_); exact wpAny_pure (kQ _ kk)
end
abbrev zipMH1 (h : Heap) (la : Addr) : Heap := h.push { cls := .type "list_iterator", data := .fields #[.ref la, .int 0 0] }
abbrev zipMH2 (h : Heap) (la lb : Addr) : Heap := (zipMH1 h la).push { cls := .type "tuple_iterator", data := .fields #[.ref lb, .int 0 0] }
abbrev zipMH3 (h : Heap) (la lb : Addr) : Heap := (zipMH2 h la lb).push { cls := .type "tuple", data := .seq #[.ref h.objs.size, .ref (zipMH1 h la).objs.size] }
abbrev zipMH4 (h : Heap) (la lb : Addr) : Heap := (zipMH3 h la lb).push { cls := .type "tuple", data := .seq #[.none, .none] }
abbrev zipMH5 (h : Heap) (la lb : Addr) : Heap := (zipMH4 h la lb).push { cls := .type "zip", data := .fields #[.none, .bool false, .bool false, .ref (zipMH2 h la lb).objs.size, .ref (zipMH3 h la lb).objs.size] }
theorem meets_zipM (la lb : Addr) (xs ys : Array Value) :
    Meets (Builtin.«zip.__new__» ⟨[.type "zip", .ref la, .ref lb], []⟩) (fun _ R s => s.heap.IsList la xs ∧ s.heap.IsTuple lb ys ∧
      R (.ok (.ret (.ref (zipMH4 s.heap la lb).objs.size))) { s with heap := zipMH5 s.heap la lb }) :=
  .of_wp fun prog w A R s h => by
    obtain ⟨hp, g, d, tk, os⟩ := s; obtain ⟨ca, cb, h⟩ := h; have hsub := sub_zip; have hL1 : Heap.IsList (Shared.heap ⟨hp, g, d, tk, os⟩) la xs := ca; have hL2 : Heap.IsTuple (Shared.heap ⟨hp.push { cls := .type "list_iterator", data := .fields #[.ref la, .int 0 0] }, g, d, tk, os⟩) lb ys := Heap.IsTuple.push cb _
    wp_walk using wpAny_pyIter_list hL1, wpAny_pyIter_tuple hL2
    exact ⟨_, rfl, h⟩
section
variable {prog : Program} {w : World} {A : Around} {E : Value → Shared → Prop} {s : Shared}
theorem call_zipM {la lb : Addr} {xs ys : Array Value} {Q : Value → Shared → Prop} (ca : s.heap.IsList la xs) (cb : s.heap.IsTuple lb ys)
    (h : ∀ h', IsZip h' (s.heap.objs.size + 4) (s.heap.objs.size + 2) (s.heap.objs.size + 3) .none → IsPair h' (s.heap.objs.size + 2) (.ref s.heap.objs.size) (.ref (s.heap.objs.size + 1)) →
      IsPair h' (s.heap.objs.size + 3) .none .none → h'.IsListIter s.heap.objs.size la 0 → h'.IsTupleIter (s.heap.objs.size + 1) lb 0 → h'.objs.size = s.heap.objs.size + 5 →
      (∀ c o, s.heap.get? c = some o → h'.get? c = some o) → Q (.ref (s.heap.objs.size + 4)) { s with heap := h' }) :
    wpAny (model prog w) A (call (.type "zip") [.ref la, .ref lb]) Q E s := by
  refine callType_new F.called_zip (by decide) (F.typeCall_zip_2 _ _) (F.newCall_zip_2 _ _) (fun obj => F.args_object_init_3 obj _ _) F.entry_zip_new
    (meets_zipM la lb xs ys) ⟨ca, cb, ?_⟩
  have z1 : (zipMH1 s.heap la).objs.size = s.heap.objs.size + 1 := Heap.size_push ..
  have z2 : (zipMH2 s.heap la lb).objs.size = s.heap.objs.size + 2 := by rw [Heap.size_push, z1]
  have z3 : (zipMH3 s.heap la lb).objs.size = s.heap.objs.size + 3 := by rw [Heap.size_push, z2]
  have z4 : (zipMH4 s.heap la lb).objs.size = s.heap.objs.size + 4 := by rw [Heap.size_push, z3]
  have z5 : (zipMH5 s.heap la lb).objs.size = s.heap.objs.size + 5 := by rw [Heap.size_push, z4]
  have g5 : (zipMH5 s.heap la lb).get? (zipMH4 s.heap la lb).objs.size = some _ := Heap.get?_push_size _ rfl; have g4 : (zipMH5 s.heap la lb).get? (zipMH3 s.heap la lb).objs.size = some _ := Heap.get?_push_of_some _ (Heap.get?_push_size _ rfl); have g3 : (zipMH5 s.heap la lb).get? (zipMH2 s.heap la lb).objs.size = some _ := Heap.get?_push_of_some _ (Heap.get?_push_of_some _ (Heap.get?_push_size _ rfl))
  have g2 : (zipMH5 s.heap la lb).get? (zipMH1 s.heap la).objs.size = some _ := Heap.get?_push_of_some _ (Heap.get?_push_of_some _ (Heap.get?_push_of_some _ (Heap.get?_push_size _ rfl))); have g1 : (zipMH5 s.heap la lb).get? s.heap.objs.size = some _ := Heap.get?_push_of_some _ (Heap.get?_push_of_some _ (Heap.get?_push_of_some _ (Heap.get?_push_of_some _ (Heap.get?_push_size _ rfl)))); show _ ∧ _; rw [z2, z3, z4] at g5
  rw [z1, z2] at g3; rw [z3] at g4; rw [z1] at g2; rw [z4]
  exact ⟨⟨_, g5, rfl⟩, h _ g5 g3 g4 ⟨_, g1, rfl, rfl⟩ ⟨_, g2, rfl, rfl⟩ z5 fun c o x =>
    Heap.get?_push_of_some _ (Heap.get?_push_of_some _ (Heap.get?_push_of_some _ (Heap.get?_push_of_some _ (Heap.get?_push_of_some _ x))))⟩
end
def ItzM (K : PySem.W.Frag) (a b : Addr) : It :=
  ⟨fun i H => ∃ (xs ys : List V) (x y : V), SqL K H a xs ∧ SqT K H b ys ∧ xs[i]? = some x ∧ ys[i]? = some y,
    fun i H v H' => ∃ T x y, v = .ref T ∧ H T = none ∧ H' = upd H T (.tup [x, y]) ∧ (∀ xs, SqL K H a xs → xs[i]? = some x) ∧ ∀ ys, SqT K H b ys → ys[i]? = some y,
    fun i H => ∃ xs ys : List V, SqL K H a xs ∧ SqT K H b ys ∧ (xs.length ≤ i ∨ ys.length ≤ i)⟩
theorem turn_zipM {P : Program} {w : World} {K : PySem.W.Frag} {elts : List Expr} {kk : Nat} {tpos : Pos} {a b z pI pO ia ib : Addr} (D : ZipApart z pI pO ia ib a b) :
    Turn P w K (.Tuple elts kk tpos) (ItzM K a b) [z, pI, pO, ia, ib] z (fun i h => IsZip h z pI pO .none ∧ IsPair h pI (.ref ia) (.ref ib) ∧ (∃ x y, IsPair h pO x y) ∧ h.IsListIter ia a i ∧ h.IsTupleIter ib b i) where
  mem := by simp
  obj := fun i h st c hc => by
    obtain ⟨kz, kI, ⟨x, y, kO⟩, ⟨o1, e1, _, d1⟩, ⟨o2, e2, _, d2⟩⟩ := st
    have e' : c = z ∨ c = pI ∨ c = pO ∨ c = ia ∨ c = ib := by simpa using hc
    rcases e' with q | q | q | q | q
    · rw [q]; exact ⟨_, kz, fun v q => nomatch q⟩
    · rw [q]; exact ⟨_, kI, fun v q => nomatch q⟩
    · rw [q]; exact ⟨_, kO, fun v q => nomatch q⟩
    · rw [q]; exact ⟨o1, e1, fun v q => by rw [d1] at q; cases q⟩
    · rw [q]; exact ⟨o2, e2, fun v q => by rw [d2] at q; cases q⟩
  keep := fun i h h' st k => by
    obtain ⟨kz, kI, ⟨x, y, kO⟩, ka, kb⟩ := st; exact ⟨k z (by simp) _ kz, k pI (by simp) _ kI, ⟨x, y, k pO (by simp) _ kO⟩, ka.at fun o q => k ia (by simp) o q, kb.at fun o q => k ib (by simp) o q⟩
  item := by
    intro X hP hw hK hc i pins s σ H E I hf st hg
    subst hP hw hK; obtain ⟨kz, kI, ⟨x0, y0, kO⟩, ka, kb⟩ := st; obtain ⟨xs, ys, x, y, qa, qb, gx, gy⟩ := hg; obtain ⟨its, va, p, _⟩ := I.list qa; obtain ⟨its2, vb, p2, _⟩ := I.tuple qb; obtain ⟨u, hu, ru⟩ := va.get gx; obtain ⟨u2, hu2, ru2⟩ := vb.get gy; have hzl : z < s.heap.objs.size := Heap.lt_size kz; refine nextM_item D kz kI kO ka kb p.isList p2 (x := u) (y := u2) (by simpa using hu) (by simpa using hu2) fun h' z' pO' ka' kb' hT ksz kk => ?_
    refine ⟨_, rfl, wpAny_letOwnedTupleGo_zip (s := { s with heap := h' }) z' fun h'' z'' sb => ?_⟩
    have hT2 : h''.get? s.heap.objs.size = some { cls := .type "tuple", data := .seq #[u, u2] } := (sb.2 _ (Nat.ne_of_gt hzl)).trans hT
    have new : ObjOk X.prog X.w (upd H s.heap.objs.size (.tup [x, y])) h'' s.heap.objs.size (.tup [x, y]) :=
      ⟨by show 2 ≤ sizeLine; decide, [u, u2], .cons ru (.cons ru2 .nil), ⟨_, hT2, rfl, _, rfl⟩⟩
    have I1 : Inv X pins σ (upd H s.heap.objs.size (.tup [x, y])) { s with heap := h'' } :=
      I.turnedNew (t' := s.toks) (ch := [z, pI, pO, ia, ib]) (fun c o hb q => (sb.2 c (fun q' => hb (by simp [q']))).trans (kk c o (fun q' => hb (by simp [q'])) (fun q' => hb (by simp [q'])) (fun q' => hb (by simp [q'])) (fun q' => hb (by simp [q'])) q)) hf (Nat.le_refl _) new
    refine ⟨.ref s.heap.objs.size, _, I1, rfl, ⟨_, x, y, rfl, I.hok.fresh (Nat.le_refl _), rfl, fun l hl => by rw [I.list_inj hl qa]; exact gx, fun l hl => by rw [I.tuple_inj hl qb]; exact gy⟩, ⟨z'', ?_, ⟨u, u2, ?_⟩, ?_, ?_⟩, fun c hcm => ?_⟩
    · exact (sb.2 _ D.TIz).trans (kk _ _ D.TIz D.TITO D.TIi1 D.TIi2 kI)
    · exact (sb.2 _ D.TOz).trans pO'
    · exact ka'.at fun o q => (sb.2 _ D.i1z).trans q
    · exact kb'.at fun o q => (sb.2 _ D.i2z).trans q
    · have hlt : c < s.heap.objs.size := by
        have e' : c = z ∨ c = pI ∨ c = pO ∨ c = ia ∨ c = ib := by simpa using hcm
        rcases e' with q | q | q | q | q
        · rw [q]; exact hzl
        · rw [q]; exact Heap.lt_size kI
        · rw [q]; exact Heap.lt_size kO
        · rw [q]; obtain ⟨_, e1, _⟩ := ka; exact Heap.lt_size e1
        · rw [q]; obtain ⟨_, e2, _⟩ := kb; exact Heap.lt_size e2
      rw [upd_ne (Nat.ne_of_lt hlt)]; exact (hf c hcm).1
  done := by
    intro X hP hw hK hc i pins s σ H E I hf st hg
    subst hP hw hK; obtain ⟨kz, kI, ⟨x0, y0, kO⟩, ka, kb⟩ := st; obtain ⟨xs, ys, qa, qb, gend⟩ := hg; obtain ⟨its, va, p, _⟩ := I.list qa; obtain ⟨its2, vb, p2, _⟩ := I.tuple qb; have la := va.length; have lb := vb.length
    have he : its.toArray[i]? = none ∨ its2.toArray[i]? = none := by
      rcases gend with q | q
      · exact .inl (by simp; omega)
      · exact .inr (by simp; omega)
    exact nextM_end (I.ok.hd hc) D kz kI kO ka kb p.isList p2 he fun h' kk => ⟨rfl, I.turnedL (t' := s.toks) (ch := [z, pI, pO, ia, ib]) (fun c o hb q =>
      kk c o (fun q' => hb (by simp [q'])) (fun q' => hb (by simp [q'])) (fun q' => hb (by simp [q'])) (fun q' => hb (by simp [q'])) q) hf⟩
  self := fun A i s Q E st h => wpAny_pyIter_zip st.1 h
def iZipLT (K : Frag) (ta : TA) : TI := fun σ H R => ta σ H fun vs H1 => ∃ a b xs ys, vs = [.ref a, .ref b] ∧ SqL K H1 a xs ∧ SqT K H1 b ys ∧ R (ItzM K a b) H1
theorem pi_zipLT {X : Cx} {e e2 : Expr} {ta : TA} {p pos tpos : Pos} {elts : List Expr} {kk : Nat} (hg : Gl X "zip") (hm : X.mg "zip" = none) (ha : PA X [e, e2] ta)
    (hs : starEach [e, e2] X.env = (false, eval e X.env) :: starEach [e2] X.env := by rfl) (hpl : (backTo pos (starEach [e2] X.env)).any (·.1) = false := by rfl) : PI X (.Tuple elts kk tpos) (.Call (.Name "zip" p) [e, e2] [] pos) (iZipLT X.K ta) := by
  refine ⟨fun pins s σ H R I h => Call_ (ld_blt I hg hm PyProof.Rows.boot_zip (PyProof.Rows.callWith_type1 (thn (ha.run pos pins s σ H _ I h) fun us s1 hh => ?_) hs hpl))⟩
  obtain ⟨vs, H1, I1, r1, a, b, xs, ys, ex, qa, qb, q⟩ := hh
  subst ex
  obtain ⟨u, u', eu, ra, rb⟩ := vals2 r1
  subst eu
  obtain rfl : u = Value.ref a := ra
  obtain rfl : u' = Value.ref b := rb
  have new : ∀ c, c ∈ [s1.heap.objs.size + 4, s1.heap.objs.size + 2, s1.heap.objs.size + 3, s1.heap.objs.size, s1.heap.objs.size + 1] → FpOk X pins H1 c := fun c hc => by
    have le : s1.heap.objs.size ≤ c := by
      have z : c = s1.heap.objs.size + 4 ∨ c = s1.heap.objs.size + 2 ∨ c = s1.heap.objs.size + 3 ∨ c = s1.heap.objs.size ∨ c = s1.heap.objs.size + 1 := by simpa using hc
      have le' : ∀ n : Nat, s1.heap.objs.size ≤ s1.heap.objs.size + n := fun n => Nat.le_add_right _ n
      rcases z with z | z | z | z | z <;> rw [z] <;> first | exact le' _ | exact Nat.le_refl _
    exact I1.fpOk le (I1.hok.fresh le)
  obtain ⟨its, va, p1, _⟩ := I1.list qa
  obtain ⟨its2, vb, p2, _⟩ := I1.tuple qb
  obtain ⟨o2, ho2, _⟩ := id p2
  refine call_zipM p1.isList (show s1.heap.IsTuple b its2.toArray from p2) fun h' kz kI kO ka kb ksz kp => wpAny_pyIter_zip kz ?_
  have I2 : Inv X pins σ H1 { s1 with heap := h' } := I1.kept (t' := s1.toks) kp
  exact ⟨s1.heap.objs.size + 4, _, _, _, H1, rfl, I2, turn_zipM (PySem.W.ktu_apart s1.heap.objs.size a b p1.lt (Heap.lt_size ho2)), ⟨kz, kI, ⟨_, _, kO⟩, ka, kb⟩, new, q⟩
section
variable {W W1 : Wd} {K : Frag} {δ : DEnv} {α β : Type} [Rep α] [Rep β] {ta : TA}
theorem evi_zipLT {P : List (α × β) → Prop} (h : EvA W W1 K ta δ fun g : List α × Tp β × Unit => P (List.zip g.1 g.2.1.l)) : EvI W W1 K (iZipLT K ta) δ P := fun O S H σ s R q =>
  h O S H σ s _ fun ws S1 H1 g m hr p => by
    obtain ⟨v1, r1, e1, ⟨a, vs, ea, ha, ra⟩, v2, r2, e2, ⟨b, us, eb, hb, rb⟩, e3⟩ := hr
    have e3' : r2 = [] := e3
    subst e3' eb e2 ea e1
    refine ⟨a, b, vs, us, rfl, .inl (.inl (m.good.sub.lst ha)), m.good.sub.sqT hb, q _ S1 H1 _ m (it_zipG (J := ItzM K a b) (A := fun H xs => SqL K H a xs) (B := fun H xs => SqT K H b xs) (fun i H x y q1 q2 q3 q4 => ⟨vs, us, x, y, q1, q2, q3, q4⟩) (fun i H q1 q2 q3 => ⟨vs, us, q1, q2, q3⟩) (fun i H v H' y => y)
      (fun O S H ex g => .inl (.inl (g.sub.lst (ex _ _ ha)))) (fun O S H ex g => g.sub.sqT (ex.sqT hb)) ra rb) p⟩
end
end DW
set_option maxHeartbeats 4000000
/-! DW: the script that is handed in -/
namespace DW
open PySem PySem.Spec PyProof.Rows L2
theorem Sub.sqL {S H : Hp} (h : Sub S H) {K : Frag} {a : Addr} {xs : List V} (e : SqL K S a xs) : SqL K H a xs := by
  rcases e with (e | ⟨o, e⟩) | e
  · exact .inl (.inl (h.lst e))
  · rcases h a _ e with z | ⟨z, _⟩
    · exact .inl (.inr ⟨o, z⟩)
    · exact z.elim
  · exact .inr e
theorem Ex.sqL {S S' : Hp} (h : Ex S S') {K : Frag} {a : Addr} {xs : List V} (e : SqL K S a xs) : SqL K S' a xs := by
  rcases e with (e | ⟨o, e⟩) | e
  · exact .inl (.inl (h a _ e))
  · exact .inl (.inr ⟨o, h a _ e⟩)
  · exact .inr e
/-- a list of ints that anybody may hold -/
structure Sq where
  l : List Int
instance : Rep Sq where
  rep K S v x := ∃ a, v = .ref a ∧ SqL K S a (x.l.map V.int)
  mono := fun e ⟨a, h1, h2⟩ => ⟨a, h1, e.sqL h2⟩
def onlyAt (H : Hp) (a : Addr) : Hp := fun b => if b = a then H a else none
theorem only_sub {H : Hp} {a : Addr} : Sub (onlyAt H a) H := fun b o e => by
  unfold onlyAt at e
  by_cases z : b = a
  · rw [if_pos z] at e
    rw [z]
    exact .inl e
  · rw [if_neg z] at e
    cases e
theorem only_sq {K : Frag} {H : Hp} {a : Addr} {xs : List V} (h : SqL K H a xs) : SqL K (onlyAt H a) a xs := by
  have e : onlyAt H a a = H a := by unfold onlyAt; rw [if_pos rfl]
  rcases h with (h | ⟨o, h⟩) | h
  · exact .inl (.inl (e.trans h))
  · exact .inl (.inr ⟨o, e.trans h⟩)
  · exact .inr h
section
variable {W : Wd} {K : Frag} {δ : DEnv} {i : Nat} {x : Sq}
theorem sq_at {O : Addr → Prop} {S H : Hp} {σ : L2.St} (s : Stt W K O S H σ δ) (hi : δ[i]? = some (sD x)) : ∃ a, σ[i]? = some (some (.ref a)) ∧ SqL K S a (x.l.map V.int) := by
  obtain ⟨ov, e, v, ev, a, ea, h⟩ := s.sl.2 i _ hi
  subst ev ea
  exact ⟨a, e, h⟩
theorem ef_slQ {P : List Int → Prop} (hi : δ[i]? = some (sD x)) (p : P (cutL x.l none (some 1))) : EvF W W K (tSl (rSlL K) (tVar i) tNoPart (tPart (tC (.int 1)))) δ P := fun O S H σ s Q q => by
  obtain ⟨a, e, h⟩ := sq_at s hi
  exact ⟨_, e, 1, rfl, a, _, rfl, s.g.sub.sqL h, fun b hb => q b _ S _ _ (Mv.temp s.g hb) (Fresh.new s.g hb) (reps_sl _ _ reps_flat) p⟩
theorem ef_listQ {P : List Int → Prop} (hi : δ[i]? = some (sD x)) (p : P x.l) : EvF W W K (tCB (fun xs H Q => ∃ p ys, xs = [.ref p] ∧ (SqL K H p ys ∨ SqT K H p ys) ∧ ∀ l, H l = none → Q (.ref l) (upd H l (.lst ys))) (tCons (tVar i) tNil)) δ P := fun O S H σ s Q q => by
  obtain ⟨a, e, h⟩ := sq_at s hi
  exact ⟨_, e, a, _, rfl, .inl (s.g.sub.sqL h), fun b hb => q b _ S _ _ (Mv.temp s.g hb) (Fresh.new s.g hb) reps_flat p⟩
theorem evio_Q {P : List Int → Prop} (hi : δ[i]? = some (sD x)) (p : P x.l) : EvIO W W K (iList K (tVar i)) δ P := fun O S H σ s R q => by
  obtain ⟨a, e, h⟩ := sq_at s hi
  refine ⟨_, e, a, rfl, ⟨_, s.g.sub.sqL h⟩, q _ S H x.l (Mv.refl s.g) (fun j O2 S2 H2 ex fx st g => ?_) p⟩
  have sq : SqL K H2 a (x.l.map V.int) := g.sub.sqL (ex.sqL h)
  refine ⟨fun y hy => ?_, fun e => ⟨_, sq, by rw [List.length_map]; exact Nat.le_of_eq e.symm⟩⟩
  have hv : (x.l.map V.int)[j]? = some (.int y) := by rw [List.getElem?_map, hy] <;> rfl
  refine ⟨⟨_, _, sq, hv⟩, fun u H' yl => ?_⟩
  obtain ⟨e1, f⟩ := yl
  subst e1
  have e2 : u = .int y := Option.some.inj ((f _ sq).symm.trans hv)
  subst e2
  exact ⟨S2, Mv.refl g, rfl⟩
end
/-- what the start promises: the state stands -/
def spStart (K : Frag) : Sp := fun vs H Q _ => ∃ (a : Addr) (ns : List Int), vs = [.ref a] ∧ SqL K H a (ns.map V.int) ∧ ns.length ≤ 63 ∧ ∀ H' r p q bigs cells, TkAt r H' p q bigs cells 0 → Q (.ref r) H'
def spLaw (K : Frag) : Sp := fun vs H Q _ => ∃ (a : Addr) (ns : List Int), vs = [.ref a] ∧ SqL K H a (ns.map V.int) ∧ ns.length ≤ 63 ∧ ∀ H', Q (.bl true) H'
theorem comp_len {α β : Type} {B : α → (Option β → Prop) → Prop} {k : List β → Prop} (hB : ∀ x (R : Option β → Prop), (∀ r, R r) → B x R) : ∀ (xs : List α) (acc : List β), (∀ ys : List β, ys.length ≤ acc.length + xs.length → k ys) → compW B k xs acc
  | [], acc, h => h acc (by simp)
  | x :: xs, acc, h => hB x _ fun r => comp_len hB xs _ fun ys hy => h ys (by
    have l : (acc ++ r.toList).length ≤ acc.length + 1 := by
      rw [List.length_append]
      cases r <;> simp
    rw [List.length_cons]
    omega)
end DW
set_option maxHeartbeats 4000000
/-! DW: two fors in a comprehension, isinstance with a tuple of classes, enumerate, things lent, fresh results -/
namespace DW
open PySem PySem.Spec PyProof.Rows L2

/-! ### two fors -/
def comp2W {α β : Type} (B : α → (List β → Prop) → Prop) (k : List β → Prop) : List α → List β → Prop
  | [], ys => k ys
  | x :: xs, ys => B x fun zs => comp2W B k xs (ys ++ zs)
theorem comp2W_drop {α β : Type} {B : α → (List β → Prop) → Prop} {k : List β → Prop} {xs : List α} {i : Nat} {x : α} {ys : List β} (hx : xs[i]? = some x) (h : comp2W B k (xs.drop i) ys) : B x fun r => comp2W B k (xs.drop (i + 1)) (ys ++ r) := by
  obtain ⟨hi, e⟩ := List.getElem?_eq_some_iff.mp hx
  rw [List.drop_eq_getElem_cons hi, e] at h
  exact h
def inW {ε β : Type} (B1 : ε → (Option β → Prop) → Prop) (R : List β → Prop) (xs1 : List ε) : Prop := xs1.length ≤ 1000 ∧ compW B1 R xs1 []
section
variable {W W1 W2 W3 W4 : Wd} {K : Frag} {O : Addr → Prop} {S H S1 H1 S2 H2 : Hp} {σ : L2.St} {δ : DEnv} {α β ε κ : Type} [Rep α] [Rep β] [Rep ε] [DKey κ] {te tk tv : TE} {tt : TT} {t u : TS} {i : Nat} {wi wi1 : TI} {g g1 : TG} {vs vs1 : List Nat}
/-- one turn of the outer for -/
def Bd2 {α ε β : Type} [Rep α] [Rep ε] [Rep β] (W : Wd) (K : Frag) (g : TG) (wi1 : TI) (g1 : TG) (te : TE) (vs vs1 : List Nat) (x : α) (δ : DEnv) (B1 : α → ε → (Option β → Prop) → Prop) (R : List β → Prop) : Prop :=
  TgC W K g vs x (wipeD δ vs) fun δ2 => (∀ y (R' : Option β → Prop), B1 x y R' → TgC W K g1 vs1 y (wipeD δ2 vs1) fun δ3 => Ev W W K te δ3 fun z => R' (some z)) ∧ EvI W W K wi1 δ2 fun xs1 : List ε => inW (B1 x) R xs1
theorem lc2_run {J : It} {xs : List α} {B1 : α → ε → (Option β → Prop) → Prop} {Inv : Nat → List β → Prop} (it : ItOk K O J xs S H) (s : Stt W K O S H σ δ) (hz : xs.length ≤ 1000) (h0 : Inv 0 [])
    (hb : ∀ (i : Nat) x ys, xs[i]? = some x → Inv i ys → Bd2 W K g wi1 g1 te vs vs1 x δ B1 fun zs => Inv (i + 1) (ys ++ zs)) {Q : VK}
    (q : ∀ q vs' S' H' ys, Mv W O S H S' H' → Fresh W O S' H' q (.lst vs') → Reps K S' vs' ys → Inv xs.length ys → Q (.ref q) H') :
    ∀ D, H D = none → ∃ Wm : Nat → Nat → Hp → Prop, (∃ m, Wm 0 m (upd H D (.lst []))) ∧ ∀ i m H, Wm i m H →
  (J.stop i H ∧ Q (.ref D) H) ∨ (J.go i H ∧ ∃ Nx : Hp → Prop, (∀ H', Nx H' → ∃ m', m' < m ∧ Wm (i + 1) m' H') ∧ ∀ x H', J.yld i H x H' → g x (L2.wipe σ vs) H' fun σ2 H2 => L2.wipe σ2 vs = L2.wipe σ vs ∧ tYes σ2 H2 fun b H3 =>
    if b = true then wi1 σ2 H3 fun J1 H4 => ∃ W1 : Nat → Nat → Hp → Prop, (∃ m, W1 0 m H4) ∧ ∀ j k H, W1 j k H →
      (J1.stop j H ∧ Nx H) ∨ (J1.go j H ∧ ∃ Nx1 : Hp → Prop, (∀ H', Nx1 H' → ∃ k', k' < k ∧ W1 (j + 1) k' H') ∧ ∀ x H', J1.yld j H x H' → g1 x (L2.wipe σ2 vs1) H' fun σ3 H5 => L2.wipe σ3 vs1 = L2.wipe σ2 vs1 ∧ tYes σ3 H5 fun b H6 =>
        if b = true then te σ3 H6 fun y H7 => ∃ acc, H7 D = some (.lst acc) ∧ acc.length < sizeLine ∧ Nx1 (upd H7 D (.lst (acc ++ [y]))) else Nx1 H6)
    else Nx H3) := by
  intro D hD
  have f0 := Fresh.new (o := .lst []) s.g hD
  have g0 : Good W (fun a => O a ∨ a = D) S (upd H D (.lst [])) := by
    have t := s.g.temp (o := .lst []) hD
    refine ⟨t.sub, t.ok, t.fpS, fun a h z => z.elim (t.fpO a h) (fun z => by
      subst z
      exact f0.f h), fun a z => z.elim (t.oS a) fun z => by rw [z]; exact f0.s, fun a z => z.elim (t.oH a) fun z => ?_⟩
    rw [z, upd_same]
    intro w
    cases w
  have wr : ∀ {S' H' : Hp} {o : HO}, Good W (fun a => O a ∨ a = D) S' H' → Good W (fun a => O a ∨ a = D) S' (upd H' D o) := fun {S' H' o} g => by
    have l := W.loc g.ok (H' := upd H' D o) fun a h => upd_ne fun e => g.fpO a h (.inr e)
    refine ⟨fun a u e => ?_, l.1, fun a h => g.fpS a ((l.2 a).mp h), fun a h => g.fpO a ((l.2 a).mp h), g.oS, fun a h => ?_⟩
    · rw [upd_ne (ne_of_none e (g.oS D (.inr rfl)))]
      exact g.sub a u e
    · by_cases z : a = D
      · rw [z, upd_same]
        intro w
        cases w
      · rw [upd_ne z]
        exact g.oH a h
  have nO : ∀ {a}, O a → a ≠ D := fun {a} h z => by
    have w := s.g.oH a h
    rw [z, hD] at w
    exact w rfl
  have nS : ∀ {a}, S a ≠ none → a ≠ D := fun {a} h z => by
    have w := s.g.sub.nn hD
    rw [← z] at w
    exact h w
  refine ⟨fun i m H' => m = xs.length - i ∧ i ≤ xs.length ∧ ∃ S' acc ys, Ex S S' ∧ (∀ a, O a → H' a = H a) ∧ (∀ a, S a ≠ none → H' a = H a) ∧ Good W (fun a => O a ∨ a = D) S' H' ∧ H' D = some (.lst acc) ∧ Reps K S' acc ys ∧ ys.length ≤ i * 1000 ∧ Inv i ys,
    ⟨xs.length, by simp, Nat.zero_le _, S, [], [], Ex.refl S, fun a h => upd_ne (nO h), fun a h => upd_ne (nS h), g0, upd_same, .nil, Nat.zero_le _, h0⟩, ?_⟩
  rintro i m H' ⟨rfl, hi, S', acc, ys, ex, ko, ks, gd, hD', ra, rw2, iv⟩
  have k := it i _ S' H' ex ko ks gd
  by_cases hlt : i < xs.length
  · have hx : xs[i]? = some xs[i] := List.getElem?_eq_getElem hlt
    obtain ⟨go, yl⟩ := k.1 _ hx
    refine .inr ⟨go, fun H2 => ∃ S2 acc ys, Ex S S2 ∧ (∀ a, O a → H2 a = H a) ∧ (∀ a, S a ≠ none → H2 a = H a) ∧ Good W (fun a => O a ∨ a = D) S2 H2 ∧ H2 D = some (.lst acc) ∧ Reps K S2 acc ys ∧ ys.length ≤ (i + 1) * 1000 ∧ Inv (i + 1) ys,
      fun H2 ⟨S2, acc2, ys2, e1, e2, e3, e4, e5, e6, e7, e8⟩ => ⟨xs.length - (i + 1), by omega, rfl, hlt, S2, acc2, ys2, e1, e2, e3, e4, e5, e6, e7, e8⟩, fun v H2 y => ?_⟩
    obtain ⟨S2, m2, rv⟩ := yl v H2 y
    have sl' : Sl K S2 H2 σ δ := by
      refine ⟨s.sl.1, fun j d hd => ?_⟩
      obtain ⟨ov, e, ok⟩ := s.sl.2 j d hd
      exact ⟨ov, e, ok.mv (ex.trans m2.ex) fun ho a ea => (m2.keep a (.inl (s.own a ⟨j, d, hd, ho, by rw [e, ea]⟩))).trans (ko a (s.own a ⟨j, d, hd, ho, by rw [e, ea]⟩))⟩
    have st : Stt W K O S2 H2 σ δ := ⟨m2.good.less fun _ h => .inl h, sl', s.own⟩
    refine hb i _ _ hx iv _ S2 H2 σ v (st.wipe vs) rv _ fun σ3 δ3 st3 hw3 ht3 => ⟨hw3, ?_⟩
    obtain ⟨hb1, hi1⟩ := ht3
    unfold tYes
    dsimp only
    rw [if_pos rfl]
    have st3' : Stt W K (fun a => O a ∨ a = D) S2 H2 σ3 δ3 := ⟨m2.good, st3.sl, fun a h => .inl (st3.own a h)⟩
    refine hi1 _ S2 H2 σ3 st3' _ fun J1 S4 H4 xs1 m4 it1 hb4 => ?_
    obtain ⟨hz1, hc1⟩ := hb4
    have m24 := m2.trans m4
    have st4 := st3'.mv m4
    refine ⟨fun j kk H5 => kk = xs1.length - j ∧ j ≤ xs1.length ∧ ∃ S5 acc5 zs, Ex S4 S5 ∧ (∀ a, O a → H5 a = H a) ∧ (∀ a, S4 a ≠ none → H5 a = H4 a) ∧ Good W (fun a => O a ∨ a = D) S5 H5 ∧ H5 D = some (.lst acc5) ∧ Reps K S5 acc5 (ys ++ zs) ∧ zs.length ≤ j ∧ compW (B1 xs[i]) (fun zs => Inv (i + 1) (ys ++ zs)) (xs1.drop j) zs,
      ⟨xs1.length, by simp, Nat.zero_le _, S4, acc, [], Ex.refl S4, fun a h => (m24.keep a (.inl h)).trans (ko a h), fun _ _ => rfl, m4.good, (m24.keep D (.inr rfl)).trans hD', by rw [List.append_nil]; exact ra.mono m24.ex, Nat.zero_le _, hc1⟩, ?_⟩
    rintro j kk H5 ⟨rfl, hj, S5, acc5, zs, ex5, ko5, ks5, gd5, hD5, ra5, rw5, iv5⟩
    have k1 := it1 j _ S5 H5 ex5 (fun a z => z.elim) ks5 gd5
    by_cases hjt : j < xs1.length
    · have hx1 : xs1[j]? = some xs1[j] := List.getElem?_eq_getElem hjt
      obtain ⟨go1, yl1⟩ := k1.1 _ hx1
      refine .inr ⟨go1, fun H6 => ∃ S6 acc6 zs, Ex S4 S6 ∧ (∀ a, O a → H6 a = H a) ∧ (∀ a, S4 a ≠ none → H6 a = H4 a) ∧ Good W (fun a => O a ∨ a = D) S6 H6 ∧ H6 D = some (.lst acc6) ∧ Reps K S6 acc6 (ys ++ zs) ∧ zs.length ≤ j + 1 ∧ compW (B1 xs[i]) (fun zs => Inv (i + 1) (ys ++ zs)) (xs1.drop (j + 1)) zs,
        fun H6 ⟨S6, acc6, zs6, e1, e2, e3, e4, e5, e6, e7, e8⟩ => ⟨xs1.length - (j + 1), by omega, rfl, hjt, S6, acc6, zs6, e1, e2, e3, e4, e5, e6, e7, e8⟩, fun v1 H6 y1 => ?_⟩
      obtain ⟨S6, m6, rv6⟩ := yl1 v1 H6 y1
      have sl6 : Sl K S6 H6 σ3 δ3 := by
        refine ⟨st4.sl.1, fun jj d hd => ?_⟩
        obtain ⟨ov, e, ok⟩ := st4.sl.2 jj d hd
        refine ⟨ov, e, ok.mv (ex5.trans m6.ex) fun ho a ea => ?_⟩
        have oa := st3.own a ⟨jj, d, hd, ho, by rw [e, ea]⟩
        rw [m6.keep a (.inl oa), ko5 a oa, m24.keep a (.inl oa), ko a oa]
      have st6 : Stt W K O S6 H6 σ3 δ3 := ⟨m6.good.less fun _ h => .inl h, sl6, st3.own⟩
      refine hb1 _ _ (compW_drop hx1 iv5) _ S6 H6 σ3 v1 (st6.wipe vs1) rv6 _ fun σ7 δ7 st7 hw7 ht7 => ⟨hw7, ?_⟩
      rw [if_pos rfl]
      refine ht7 _ S6 H6 σ7 ⟨m6.good, st7.sl, fun a h => .inl (st7.own a h)⟩ _ fun v8 S8 H8 y8 m8 r8 hR => ?_
      have m68 := m6.trans m8
      have hD8 : H8 D = some (.lst acc5) := (m68.keep D (.inr rfl)).trans hD5
      have ra8 := ra5.mono m68.ex
      refine ⟨acc5, hD8, ?_, S8, acc5 ++ [v8], zs ++ [y8], ex5.trans m68.ex, fun a h => ?_, fun a h => ?_, wr m68.good, upd_same, by rw [← List.append_assoc]; exact Paired.snoc ra8 r8, by rw [List.length_append]; exact Nat.succ_le_succ rw5, hR⟩
      · have l1 := reps_len ra8
        rw [List.length_append] at l1
        have l3 : acc5.length < 2000000 := by omega
        exact Nat.lt_of_lt_of_le l3 (by decide)
      · rw [upd_ne (nO h), m68.keep a (.inl h)]
        exact ko5 a h
      · have ne : a ≠ D := fun z => by
          have w := m4.good.oS D (.inr rfl)
          rw [← z] at w
          exact h w
        rw [upd_ne ne, m68.stay a (ex5.nn h)]
        exact ks5 a h
    · have e : j = xs1.length := by omega
      subst e
      rw [List.drop_length] at iv5
      refine .inl ⟨k1.2 rfl, S5, acc5, ys ++ zs, ex.trans (m24.ex.trans ex5), ko5, fun a h => ?_, gd5, hD5, ra5, ?_, iv5⟩
      · rw [ks5 a (m24.ex.nn (ex.nn h)), m24.stay a (ex.nn h)]
        exact ks a h
      · rw [List.length_append]
        omega
  · have e : i = xs.length := by omega
    subst e
    refine .inl ⟨k.2 rfl, q D acc S' H' ys ⟨ex, ko, ks, gd.less fun _ h => .inl h⟩ ⟨hD', gd.oS D (.inr rfl), fun h => gd.fpO D h (.inr rfl), fun h => s.g.oH D h hD⟩ ra iv⟩
end
end DW
set_option maxHeartbeats 4000000
/-! DW: things lent to a test, fresh results of defs, optional lists of one's own, isinstance with classes, enumerate -/
namespace DW
open PySem PySem.Spec PyProof.Rows L2

section
variable {W W1 W2 W3 W4 We : Wd} {K : Frag} {O : Addr → Prop} {S H S1 H1 S2 H2 : Hp} {σ : L2.St} {δ : DEnv} {α β κ ε : Type} [Rep α] [Rep β] [Rep ε] [DKey κ] {D : DE β} {te tk tv ta tb : TE} {tt tu : TT} {t u : TS} {i : Nat} {wi wi1 : TI} {g g1 : TG} {vs vs1 : List Nat}
theorem ef_lc2W {B1 : α → ε → (Option β → Prop) → Prop} {B : α → (List β → Prop) → Prop} {k : List β → Prop} (h : EvIO W W1 K wi δ fun xs : List α => xs.length ≤ 1000 ∧ comp2W B k xs []) (hb : ∀ x (R : List β → Prop), B x R → Bd2 W1 K g wi1 g1 te vs vs1 x δ B1 R) : EvF W W1 K (tLc2 wi g tYes wi1 g1 tYes te vs vs1) δ k := fun O S H σ s Q q =>
  h O S H σ s _ fun J S1 H1 xs m it ⟨hz, w⟩ => lc2_run (Inv := fun i ys => comp2W B k (xs.drop i) ys) it (s.mv m) hz w (fun i x ys hx hw => hb x _ (comp2W_drop hx hw)) fun a vs' S2 H2 ys m2 f r rw => q a vs' S2 H2 ys (m.trans m2) f r (by
    rw [List.drop_length] at rw
    exact rw)

/-! ### a thing of one's own is lent while a test is done -/
def LendT (W W' : Wd) (K : Frag) (tt : TT) (δ : DEnv) (P : Bool → Prop) : Prop := ∀ O S H σ, Cf W K O S H σ δ → ∀ Q : Bool → Hp → Prop,
  (∀ b S' H', Mv W' (fun a => O a ∨ OwnAt σ δ a) S H S' H' → P b → Q b H') → tt σ H Q
theorem lt_base {P : Bool → Prop} (h : EvT W W1 K tt δ P) : LendT W W1 K tt δ P := fun O S H σ c Q q => h _ S H σ c.stt Q q
theorem lt_lend {P : Bool → Prop} {q : Addr} {o : HO} {d d' : DSlot} (hd : δ[i]? = some d) (ho : d.own = true) (hd' : d'.own = false)
    (hf : ∀ S H ov, SlotOk K S H ov d → (∀ a, ov = some (.ref a) → S a = none) → ov = some .non ∧ (∀ S', SlotOk K S' H ov d') ∨ ∃ q o, ov = some (.ref q) ∧ H q = some o ∧ SlotOk K (upd S q o) H ov d')
    (h : LendT W W1 K tt (δ.set i d') P) : LendT W W1 K tt δ P := fun O S H σ c Q q => by
  obtain ⟨ov, e, ok⟩ := c.sl.2 i _ hd
  have hl : i < δ.length := (List.getElem?_eq_some_iff.mp hd).1
  rcases hf S H ov ok (fun a z => by
    rw [z] at e
    exact c.g.oS a (.inr ⟨i, _, hd, ho, e⟩)) with ⟨en, k⟩ | ⟨a, o, ea, hH, k⟩
  · subst en
    have ow : ∀ a, OwnAt σ (δ.set i d') a ↔ OwnAt σ δ a := fun a => by
      constructor
      · rintro ⟨j, f, h1, h2, h3⟩
        by_cases hj : j = i
        · rw [hj, List.getElem?_set_self hl] at h1
          cases h1
          rw [hd'] at h2
          cases h2
        · rw [List.getElem?_set_ne (Ne.symm hj)] at h1
          exact ⟨j, f, h1, h2, h3⟩
      · rintro ⟨j, f, h1, h2, h3⟩
        have hj : j ≠ i := fun z => by
          rw [z, e] at h3
          cases h3
        exact ⟨j, f, by rw [List.getElem?_set_ne (Ne.symm hj)]; exact h1, h2, h3⟩
    have c1 : Cf W K O S H σ (δ.set i d') := by
      refine ⟨c.g.less fun a z => z.imp id (ow a).mp, ⟨by rw [List.length_set]; exact c.sl.1, fun j f hj => ?_⟩, fun j l f f' a h1 h2 h3 h4 h5 h6 => ?_, fun a z => c.out a ((ow a).mp z)⟩
      · by_cases y : j = i
        · subst y
          rw [List.getElem?_set_self hl] at hj
          cases hj
          exact ⟨_, e, k S⟩
        · rw [List.getElem?_set_ne (Ne.symm y)] at hj
          exact c.sl.2 j f hj
      · have nj : ∀ {j : Nat} {f : DSlot}, (δ.set i d')[j]? = some f → f.own = true → δ[j]? = some f := fun {j f} h1 h2 => by
          by_cases hj : j = i
          · rw [hj, List.getElem?_set_self hl] at h1
            cases h1
            rw [hd'] at h2
            cases h2
          · rw [List.getElem?_set_ne (Ne.symm hj)] at h1
            exact h1
        exact c.dst j l f f' a (nj h1 h2) h2 h3 (nj h4 h5) h5 h6
    exact h O S H σ c1 Q fun b S' H' m p => q b S' H' (m.less fun a z => z.imp id (ow a).mpr) p
  · subst ea
    have oa : OwnAt σ δ a := ⟨i, d, hd, ho, e⟩
    have sa : S a = none := c.g.oS a (.inr oa)
    have k1 := c.fix (d' := d') hd ho e hH hd' k
    refine h O (upd S a o) H σ k1.1 Q fun b S2 H2 m p => q b (fun x => if x = a then none else S2 x) H2 ?_ p
    have s2a : S2 a = some o := m.ex a o upd_same
    have ow : ∀ x, O x ∨ OwnAt σ δ x → x ≠ a → O x ∨ OwnAt σ (δ.set i d') x := fun x z ne => z.imp id fun ⟨j, f, h1, h2, h3⟩ => by
      have hj : j ≠ i := fun y => by
        rw [y, e] at h3
        exact ne (V.ref.inj (Option.some.inj (Option.some.inj h3))).symm
      exact ⟨j, f, by rw [List.getElem?_set_ne (Ne.symm hj)]; exact h1, h2, h3⟩
    have keepA : H2 a = H a := m.stay a (by rw [upd_same]; intro z; cases z)
    refine ⟨fun x u hx => ?_, fun x z => ?_, fun x z => ?_, ⟨fun x u hx => ?_, m.good.ok, fun x z => ?_, fun x z y => ?_, fun x z => ?_, fun x z => ?_⟩⟩
    · have ne : x ≠ a := ne_of_none hx sa
      show (if x = a then none else S2 x) = some u
      rw [if_neg ne]
      exact m.ex x u (by rw [upd_ne ne]; exact hx)
    · by_cases y : x = a
      · rw [y]
        exact keepA
      · exact m.keep x (ow x z y)
    · exact m.stay x (by
        by_cases y : x = a
        · rw [y, upd_same]
          intro w
          cases w
        · rw [upd_ne y]
          exact z)
    · have hx' : (if x = a then none else S2 x) = some u := hx
      by_cases y : x = a
      · rw [if_pos y] at hx'
        cases hx'
      · rw [if_neg y] at hx'
        exact m.good.sub x u hx'
    · show (if x = a then none else S2 x) = none
      by_cases y : x = a
      · rw [if_pos y]
      · rw [if_neg y]
        exact m.good.fpS x z
    · by_cases w : x = a
      · rw [w] at z
        have := m.good.fpS a z
        rw [s2a] at this
        cases this
      · exact m.good.fpO x z (ow x y w)
    · show (if x = a then none else S2 x) = none
      by_cases y : x = a
      · rw [if_pos y]
      · rw [if_neg y]
        exact m.good.oS x (ow x z y)
    · by_cases y : x = a
      · rw [y, keepA, hH]
        intro w
        cases w
      · exact m.good.oH x (ow x z y)
theorem lt_L {α : Type} [ri : Rep α] {xs : List α} {P : Bool → Prop} (hi : δ[i]? = some (.ol ri xs)) (h : LendT W W1 K tt (δ.set i (sD xs)) P) : LendT W W1 K tt δ P :=
  lt_lend (q := 0) (o := .lst []) hi rfl rfl (fun S H ov ok sn => by
    obtain ⟨q, vs, e, hq, r⟩ := ok
    exact .inr ⟨q, _, e, hq, _, e, q, vs, rfl, upd_same, Reps.mono (Ex.upd (sn q e)) r⟩) h
theorem lt_M {α κ : Type} [rk : DKey κ] [ri : Rep α] {xs : List (κ × α)} {P : Bool → Prop} (hi : δ[i]? = some (.od rk ri xs)) (h : LendT W W1 K tt (δ.set i (sD (⟨xs⟩ : Dc κ α))) P) : LendT W W1 K tt δ P :=
  lt_lend (q := 0) (o := .lst []) hi rfl rfl (fun S H ov ok sn => by
    obtain ⟨q, vs, e, hq, r, nd⟩ := ok
    exact .inr ⟨q, _, e, hq, _, e, q, vs, rfl, upd_same, RepKV.mono (Ex.upd (sn q e)) r, nd⟩) h
theorem lt_O {α : Type} [ri : Rep α] {xs : Option (List α)} {P : Bool → Prop} (hi : δ[i]? = some (.oo ri xs)) (h : LendT W W1 K tt (δ.set i (sD xs)) P) : LendT W W1 K tt δ P :=
  lt_lend (q := 0) (o := .lst []) hi rfl rfl (fun S H ov ok sn => by
    cases xs with
    | none => exact .inl ⟨ok, fun S' => ⟨_, ok, rfl⟩⟩
    | some ys =>
      obtain ⟨q, vs, e, hq, r⟩ := ok
      exact .inr ⟨q, _, e, hq, _, e, (by intro z; cases z), q, vs, rfl, upd_same, Reps.mono (Ex.upd (sn q e)) r⟩) h
theorem sd_ifLend (h : LendT W W1 K tt δ fun b => (b = true → Sd W1 K t δ D) ∧ (b = false → Sd W1 K u δ D)) : Sd W K (tIfS tt t u) δ D := fun O S H σ c E r =>
  h O S H σ c _ fun b S1 H1 m p => by
    cases b with
    | true =>
      show t E σ H1
      exact p.1 rfl O S1 H1 σ (c.mv m) E (r.mo (m.mo fun _ z => .inl z))
    | false =>
      show u E σ H1
      exact p.2 rfl O S1 H1 σ (c.mv m) E (r.mo (m.mo fun _ z => .inl z))

/-! ### fresh results -/
def rgG {α : Type} [Rep α] {κ : Type} [DKey κ] (K : Frag) (We : Wd) (P : List (κ × α) → Prop) : Wd → HO → Hp → Prop := fun W' o S' => Wle W' We ∧ ∃ kvs xs, o = .dK kvs ∧ RepKV K S' kvs xs ∧ (xs.map Prod.fst).Nodup ∧ P xs
def rgF {α : Type} [Rep α] (K : Frag) (We : Wd) (P : List α → Prop) : Wd → HO → Hp → Prop := fun W' o S' => Wle W' We ∧ ∃ vs xs, o = .lst vs ∧ Reps K S' vs xs ∧ P xs
theorem Fresh.less {p : Addr} {o : HO} {O' : Addr → Prop} (f : Fresh W O S H p o) (h : ∀ a, O' a → O a) : Fresh W O' S H p o := ⟨f.at_, f.s, f.f, fun z => f.o (h p z)⟩
theorem sd_retG {P : List (κ × α) → Prop} (hD : D.rg = rgG K We P) (h : EvG W W1 K te δ P) (le : Wle W1 We) : Sd W K (tRet te) δ D := fun O S H σ c E r =>
  h _ S H σ c.stt _ fun q kvs S1 H1 xs m f rv nd p => r.rg q _ S1 H1 (m.less fun _ z => .inl z) (f.less fun _ z => .inl z) (by
    rw [hD]
    exact ⟨le, kvs, xs, rfl, rv, nd, p⟩)
theorem sd_retF {P : List α → Prop} (hD : D.rg = rgF K We P) (h : EvF W W1 K te δ P) (le : Wle W1 We) : Sd W K (tRet te) δ D := fun O S H σ c E r =>
  h _ S H σ c.stt _ fun q vs S1 H1 xs m f rv p => r.rg q _ S1 H1 (m.less fun _ z => .inl z) (f.less fun _ z => .inl z) (by
    rw [hD]
    exact ⟨le, vs, xs, rfl, rv, p⟩)
end
/-- a def that gives a new dict -/
def spG {γ α κ : Type} [RepA γ] [Rep α] [DKey κ] (K : Frag) (Wp : Wd → Wd → Prop) (F : γ → (List (κ × α) → Prop) → Prop) : Sp := fun vs H Q _ => ∃ (W W' : Wd) (O : Addr → Prop) (S : Hp) (g : γ) (P : List (κ × α) → Prop), Wp W W' ∧ Good W O S H ∧ RepA.repA W K S vs g ∧ F g P ∧
  ∀ q kvs S' H' xs, Mv W' O S H S' H' → Fresh W' O S' H' q (.dK kvs) → RepKV K S' kvs xs → (xs.map Prod.fst).Nodup → P xs → Q (.ref q) H'
/-- a def that gives a new list, or None -/
def spO {γ α : Type} [RepA γ] [Rep α] (K : Frag) (Wp : Wd → Wd → Prop) (F : γ → (Option (List α) → Prop) → Prop) : Sp := fun vs H Q _ => ∃ (W W' : Wd) (O : Addr → Prop) (S : Hp) (g : γ) (P : Option (List α) → Prop), Wp W W' ∧ Good W O S H ∧ RepA.repA W K S vs g ∧ F g P ∧
  (∀ S' H', Mv W' O S H S' H' → P none → Q .non H') ∧ ∀ q vs S' H' xs, Mv W' O S H S' H' → Fresh W' O S' H' q (.lst vs) → Reps K S' vs xs → P (some xs) → Q (.ref q) H'
section
variable {W W1 W2 W3 W4 We : Wd} {K : Frag} {δ : DEnv} {α β γ κ ε : Type} [Rep α] [Rep β] [Rep ε] [RepA γ] [DKey κ] {D : DE β} {te tk tv tb : TE} {tt tu : TT} {ta : TA} {ta' : TE} {t u : TS} {i : Nat} {Wp : Wd → Wd → Prop} {E : XK}
theorem eg_call {P : List (κ × α) → Prop} {F : γ → (List (κ × α) → Prop) → Prop} (hW : Wp W1 W2) (h : EvA W W1 K ta δ fun g : γ => F g P) : EvG W W2 K (tCall (spG K Wp F) [] E ta) δ P := fun O S H σ s Q q =>
  h O S H σ s _ fun vs S1 H1 g m r p => ⟨W1, W2, O, S1, g, P, hW, m.good, by rw [List.append_nil]; exact r, p, fun a kvs S2 H2 xs m2 f rv nd py => q a kvs S2 H2 xs (m.trans m2) f rv nd py⟩
/-- told = f(..) -/
theorem sd_asgO {F : γ → (Option (List α) → Prop) → Prop} {P : Option (List α) → Prop} (hW : Wp W1 W2) (h : EvA W W1 K ta δ fun g : γ => F g P) (hP : ∀ x, P x → D.nx W2 (δ.set i (sO x))) : Sd W K (tAsg (tCall (spO K Wp F) [] E ta) (gName i)) δ D := fun O S H σ c E' r =>
  h _ S H σ c.stt _ fun vs S1 H1 g m rv p => ⟨W1, W2, _, S1, g, _, hW, m.good, by rw [List.append_nil]; exact rv, p, fun S2 H2 m2 n => by
    have m3 := m.trans m2
    refine r.nx S2 H2 _ _ (m3.mo fun _ z => .inl z) ?_ (hP _ n)
    have c2 := c.mv m3
    -- a slot that is told None owns nothing
    have ow : ∀ a, OwnAt (σ.set i (some .non)) (δ.set i (sO (none : Option (List α)))) a → OwnAt σ δ a := fun a ⟨j, f, h1, h2, h3⟩ => by
      by_cases hj : j = i
      · subst hj
        rw [List.getElem?_set] at h3
        simp only [if_true] at h3
        split at h3
        · cases h3
        · cases h3
      · rw [List.getElem?_set_ne (Ne.symm hj)] at h1 h3
        exact ⟨j, f, h1, h2, h3⟩
    refine ⟨c2.g.less fun a z => z.imp id (ow a), c2.sl.set (d := sO (none : Option (List α))) rfl, fun j k f f' a h1 h2 h3 h4 h5 h6 => ?_, fun a z => c2.out a (ow a z)⟩
    have nj : ∀ {j : Nat} {f : DSlot}, (δ.set i (sO (none : Option (List α))))[j]? = some f → (σ.set i (some .non))[j]? = some (some (.ref a)) → δ[j]? = some f ∧ σ[j]? = some (some (.ref a)) := fun {j f} h1 h3 => by
      by_cases hj : j = i
      · subst hj
        rw [List.getElem?_set] at h3
        simp only [if_true] at h3
        split at h3
        · cases h3
        · cases h3
      · rw [List.getElem?_set_ne (Ne.symm hj)] at h1 h3
        exact ⟨h1, h3⟩
    exact c2.dst j k f f' a (nj h1 h3).1 h2 (nj h1 h3).2 (nj h4 h6).1 h5 (nj h4 h6).2, fun q ws S2 H2 xs m2 f rv2 n => by
    have m3 := m.trans m2
    exact r.nx S2 H2 _ _ (m3.mo fun _ z => .inl z) ((c.mv m3).setN (d := sO (some xs)) f ⟨q, ws, rfl, f.at_, rv2⟩) (hP _ n)⟩
/-- told is not None -/
theorem et_isO {α : Type} [ri : Rep α] {x : Option (List α)} {P : Bool → Prop} (hi : δ[i]? = some (.oo ri x)) {r0 : R2} (inc : ∀ {x y H Q}, (fun x y H Q => y = .non ∧ Q (.bl (!decide (x = .non))) H) x y H Q → r0 x y H Q) (p : P x.isSome) : Ev W W K (tOp r0 (tVar i) (tC .non)) δ P := fun O S H σ s Q q => by
  obtain ⟨ov, e, k⟩ := s.sl.2 i _ hi
  cases x with
  | none =>
    have k' : ov = some .non := k
    subst k'
    exact ⟨_, e, inc ⟨rfl, q _ S H _ (Mv.refl s.g) rfl p⟩⟩
  | some xs =>
    obtain ⟨a, vs, e2, _⟩ := k
    subst e2
    exact ⟨_, e, inc ⟨rfl, q _ S H _ (Mv.refl s.g) rfl p⟩⟩
theorem sd_appendO {α : Type} [ri : Rep α] {x : Option (List α)} {xs : List α} (hi : δ[i]? = some (.oo ri x)) (hx : x = some xs) (h : Ev W W1 K te δ fun y : α => xs.length < 100000 ∧ ∀ z, z = some (xs ++ [y]) → D.nx W1 (δ.set i (sO z))) : Sd W K (tDrop (tBM K "list" rAppend (tVar i) (tCons te tNil))) δ D := fun O S H σ c E r => by
  subst hx
  obtain ⟨ov, e, q, vs, eq, hq, rv⟩ := c.sl.2 i _ hi
  subst eq
  refine ⟨_, e, .inl ⟨rfl, vs, .inl (.inl hq)⟩, ?_⟩
  refine h _ S H σ c.stt _ fun v S1 H1 y m rv1 p => ?_
  obtain ⟨hl, hn⟩ := p
  have c1 := c.mv m
  have hq1 : H1 q = some (.lst vs) := (m.keep q (.inr ⟨i, _, hi, rfl, e⟩)).trans hq
  have rv' : Reps K S1 vs xs := Reps.mono m.ex rv
  have sz : vs.length < sizeLine := by
    rw [reps_len rv']
    exact Nat.lt_of_lt_of_le hl (by decide)
  refine ⟨q, vs, v, rfl, rfl, hq1, sz, ?_⟩
  have k := c1.wr (d' := sO (some (xs ++ [y]))) (o := .lst (vs ++ [v])) hi rfl e rfl ⟨q, _, rfl, upd_same, Paired.snoc rv' rv1⟩
  exact r.nx S1 _ σ _ ((m.mo fun _ z => .inl z).trans k.2) k.1 (hn _ rfl)
/-! ### isinstance with two classes; of one that may be None -/
theorem kit_two {K : Frag} {a c d : String} {b1 b2 : Bool} (h1 : kitB a c = some b1) (h2 : kitB a d = some b2) : PySem.W.kitAny K (.type a) [.type c, .type d] = some (b1 || b2) := by
  refine kitAny_cons (kit_ty h1) (fun e => ?_) fun e => by rw [e]; rfl
  subst e
  exact kitAny_cons (kit_ty h2) (fun e => by subst e; rfl) fun e => by rw [e]; rfl
theorem ev_isiT {α : Type} [PyTy α] {P : Bool → Prop} {c d : String} {b1 b2 : Bool} (h : Ev W W1 K ta' δ fun x : α => P (b1 || b2)) (h1 : kitB (PyTy.ty α) c = some b1 := by decide +kernel) (h2 : kitB (PyTy.ty α) d = some b2 := by decide +kernel) :
    Ev W W1 K (tCB (rIsiT K) (tCons ta' (tCons (tTup (tCons (tC (.ty c)) (tCons (tC (.ty d)) tNil))) tNil))) δ P := fun O S H σ s Q q =>
  h O S H σ s _ fun v S1 H1 x m r p => ⟨by show 2 ≤ sizeLine; decide, fun T hT => ⟨v, T, [.ty c, .ty d], _, _, _, rfl, upd_same, .cons (.ty c) (.cons (.ty d) .nil), PyTy.tyx (m.good.temp hT).sub r, kit_two h1 h2, q _ S1 _ _ (m.trans (Mv.temp m.good hT)) rfl p⟩⟩
theorem none_ty {K : Frag} {H : Hp} : TyX K H .non (.type "NoneType") := .base .non
theorem ev_isiO {α : Type} [PyTy α] {P : Bool → Prop} {c : String} {b : Bool} (h : Ev W W1 K ta' δ fun x : Option α => P (x.isSome && b)) (hb : kitB (PyTy.ty α) c = some b := by decide +kernel) (hn : kitB "NoneType" c = some false := by decide +kernel) : Ev W W1 K (tCB (rIsi K) (tCons ta' (tCons (tC (.ty c)) tNil))) δ P := fun O S H σ s Q q =>
  h O S H σ s _ fun v S1 H1 x m r p => by
    cases x with
    | none =>
      have e : v = .non := r
      subst e
      exact ⟨_, .ty c, _, _, _, rfl, .ty c, none_ty, kit_ty hn, q _ S1 H1 _ m rfl p⟩
    | some y => exact ⟨v, .ty c, _, _, b, rfl, .ty c, PyTy.tyx m.good.sub r.2, kit_ty hb, q _ S1 H1 _ m rfl p⟩
theorem ev_isiOT {α : Type} [PyTy α] {P : Bool → Prop} {c d : String} {b1 b2 : Bool} (h : Ev W W1 K ta' δ fun x : Option α => P (x.isSome && (b1 || b2))) (h1 : kitB (PyTy.ty α) c = some b1 := by decide +kernel) (h2 : kitB (PyTy.ty α) d = some b2 := by decide +kernel) (n1 : kitB "NoneType" c = some false := by decide +kernel) (n2 : kitB "NoneType" d = some false := by decide +kernel) :
    Ev W W1 K (tCB (rIsiT K) (tCons ta' (tCons (tTup (tCons (tC (.ty c)) (tCons (tC (.ty d)) tNil))) tNil))) δ P := fun O S H σ s Q q =>
  h O S H σ s _ fun v S1 H1 x m r p => by
    cases x with
    | none =>
      have e : v = .non := r
      subst e
      exact ⟨by show 2 ≤ sizeLine; decide, fun T hT => ⟨_, T, [.ty c, .ty d], _, _, _, rfl, upd_same, .cons (.ty c) (.cons (.ty d) .nil), none_ty, kit_two n1 n2, q _ S1 _ _ (m.trans (Mv.temp m.good hT)) rfl p⟩⟩
    | some y => exact ⟨by show 2 ≤ sizeLine; decide, fun T hT => ⟨v, T, [.ty c, .ty d], _, _, _, rfl, upd_same, .cons (.ty c) (.cons (.ty d) .nil), PyTy.tyx (m.good.temp hT).sub r.2, kit_two h1 h2, q _ S1 _ _ (m.trans (Mv.temp m.good hT)) rfl p⟩⟩
/-! ### enumerate -/
def enumL {α : Type} (xs : List α) : List (Int × α) := xs.zipIdx.map fun p => ((p.2 : Int), p.1)
theorem enum_at {α : Type} {xs : List α} {i : Nat} {p : Int × α} (h : (enumL xs)[i]? = some p) : p.1 = (i : Int) ∧ xs[i]? = some p.2 := by
  unfold enumL at h
  rw [List.getElem?_map, List.getElem?_zipIdx] at h
  cases e : xs[i]? with
  | none =>
    rw [e] at h
    cases h
  | some x =>
    rw [e] at h
    cases h
    exact ⟨by show ((0 + i : Nat) : Int) = _; rw [Nat.zero_add], rfl⟩
theorem enum_len {α : Type} {xs : List α} : (enumL xs).length = xs.length := by unfold enumL; simp
theorem evi_enum {P : List (Int × α) → Prop} (h : EvA W W1 K ta δ fun g : List α × Unit => P (enumL g.1)) : EvI W W1 K (iEnum K ta) δ P := fun O S H σ s R q => h O S H σ s _ fun vs S1 H1 g m hr p => by
  obtain ⟨v, r, e, ⟨a, us, ea, ha, ru⟩, e2⟩ := hr
  have e2' : r = [] := e2
  subst e2' e ea
  refine ⟨a, us, rfl, .inl (.inl (m.good.sub.lst ha)), q _ S1 H1 _ m (fun i O2 S2 H2 ex fx st gd => ?_) p⟩
  have sq : SqL K H2 a us := .inl (.inl (gd.sub.lst (ex a _ ha)))
  refine ⟨fun x hx => ?_, fun e => ⟨us, sq, by rw [reps_len ru, e, enum_len]; exact Nat.le_refl _⟩⟩
  obtain ⟨h1, h2⟩ := enum_at hx
  obtain ⟨v, hv, rv⟩ := Paired.at ru h2
  refine ⟨⟨us, v, sq, hv⟩, fun u H' y => ?_⟩
  obtain ⟨T, z, e1, hT, e2, f⟩ := y
  subst e1 e2
  have e3 : z = v := Option.some.inj ((f us sq).symm.trans hv)
  subst e3
  refine ⟨upd S2 T (.tup [.int (i : Nat), z]), Mv.new gd hT, T, _, _, rfl, .inl (.inl upd_same), by rw [h1]; rfl, Rep.mono (ex.trans (Ex.upd (gd.sub.nn hT))) rv⟩
/-! ### equal texts, equal truth values -/
theorem strs_dp {K : Frag} {S H : Hp} (g : Sub S H) {v : V} {xs : List Str} (h : rep K S v xs) : Dp K H v (.list (xs.map PyData.str)) := by
  obtain ⟨a, vs, e, ha, r⟩ := h
  subst e
  have c : ∀ {vs : List V} {xs : List Str}, Reps K S vs xs → DpAll K H vs (xs.map PyData.str) := fun {vs xs} r => by
    induction r with
    | nil => exact .nil
    | cons r t ih =>
      rename_i v x _ _
      have e : v = .str x := r
      subst e
      exact .cons (.str _) ih
  exact .lst (.inl (.inl (g.lst ha))) (c r)
theorem strs_shaped : ∀ xs : List Str, (∀ s, s ∈ xs → PyData.strOk s = true) → SeqAt.shaped (.list (xs.map PyData.str)) = true := fun xs h => by
  have c : ∀ ys : List Str, (∀ s, s ∈ ys → PyData.strOk s = true) → PyData.canLayAll0 (ys.map PyData.str) = true ∧ PyData.depthAll (ys.map PyData.str) ≤ 1 := fun ys => by
    induction ys with
    | nil => intro _; simp [PyData.canLayAll0, PyData.depthAll]
    | cons y ys ih =>
      intro h
      have k := ih fun s hs => h s (List.mem_cons_of_mem _ hs)
      refine ⟨?_, ?_⟩
      · simp [PyData.canLayAll0, PyData.canLay0, h y List.mem_cons_self, k.1]
      · simp [PyData.depthAll, PyData.depth]
        exact k.2
  have k := c xs h
  unfold SeqAt.shaped
  rw [Bool.and_eq_true]
  refine ⟨by simp [PyData.canLay0, k.1], decide_eq_true ?_⟩
  simp [PyData.depth]
  omega
theorem strs_eqv : ∀ xs ys : List Str, PyData.eqvAll (xs.map PyData.str) (ys.map PyData.str) = decide (xs = ys)
  | [], [] => by simp [PyData.eqvAll]
  | [], _ :: _ => by simp [PyData.eqvAll]
  | _ :: _, [] => by simp [PyData.eqvAll]
  | x :: xs, y :: ys => by
    have e : PyData.eqv (.str x) (.str y) = decide (x = y) := by
      unfold PyData.eqv
      exact Bool.eq_iff_iff.mpr (by simp)
    rw [List.map_cons, List.map_cons, PyData.eqvAll, e, strs_eqv xs ys]
    exact Bool.eq_iff_iff.mpr (by simp)
theorem strs_eq (xs ys : List Str) : PyData.eqv (.list (xs.map PyData.str)) (.list (ys.map PyData.str)) = decide (xs = ys) := by
  unfold PyData.eqv
  exact strs_eqv xs ys
theorem ev_eqLS {P : Bool → Prop} {r0 : R2} (inc : ∀ {x y H Q}, rEqD K x y H Q → r0 x y H Q) (h : Ev W W1 K te δ fun x : List Str => Ev W1 W2 K tb δ fun y : List Str => ((∀ s, s ∈ x → PyData.strOk s = true) ∧ (∀ s, s ∈ y → PyData.strOk s = true)) ∧ P (decide (x = y))) : Ev W W2 K (tOp r0 te tb) δ P :=
  ev_two h fun O S H v u x y gd r1 r2 pp Q q => inc ⟨_, _, strs_dp gd.sub r1, strs_dp gd.sub r2, strs_shaped x pp.1.1, strs_shaped y pp.1.2, by
    rw [strs_eq]
    exact q _ S H _ (Mv.refl gd) rfl pp.2⟩
theorem ev_neLS {P : Bool → Prop} {r0 : R2} (inc : ∀ {x y H Q}, rNeD K x y H Q → r0 x y H Q) (h : Ev W W1 K te δ fun x : List Str => Ev W1 W2 K tb δ fun y : List Str => ((∀ s, s ∈ x → PyData.strOk s = true) ∧ (∀ s, s ∈ y → PyData.strOk s = true)) ∧ P (!decide (x = y))) : Ev W W2 K (tOp r0 te tb) δ P :=
  ev_two h fun O S H v u x y gd r1 r2 pp Q q => inc ⟨_, _, strs_dp gd.sub r1, strs_dp gd.sub r2, strs_shaped x pp.1.1, strs_shaped y pp.1.2, by
    rw [strs_eq]
    exact q _ S H _ (Mv.refl gd) rfl pp.2⟩
theorem ev_eqB {P : Bool → Prop} {r0 : R2} (inc : ∀ {x y H Q}, rEq x y H Q → r0 x y H Q) (ha : Ev W W1 K te δ fun i : Bool => Ev W1 W2 K tb δ fun j : Bool => P (decide (i = j))) : Ev W W2 K (tOp r0 te tb) δ P :=
  ev_two ha fun O S H v u x y gd r1 r2 p Q q => by
    obtain rfl : v = .bl x := r1
    obtain rfl : u = .bl y := r2
    refine inc ⟨rfl, ?_⟩
    rw [show decide (V.bl x = V.bl y) = decide (x = y) by simp]
    exact q _ S H _ (Mv.refl gd) rfl p
theorem ev_neB {P : Bool → Prop} {r0 : R2} (inc : ∀ {x y H Q}, rNe x y H Q → r0 x y H Q) (ha : Ev W W1 K te δ fun i : Bool => Ev W1 W2 K tb δ fun j : Bool => P (!decide (i = j))) : Ev W W2 K (tOp r0 te tb) δ P :=
  ev_two ha fun O S H v u x y gd r1 r2 p Q q => by
    obtain rfl : v = .bl x := r1
    obtain rfl : u = .bl y := r2
    refine inc ⟨rfl, ?_⟩
    rw [show decide (V.bl x = V.bl y) = decide (x = y) by simp]
    exact q _ S H _ (Mv.refl gd) rfl p
/-- a list of what is there, told as one of what may be there -/
theorem ec_opt {α : Type} [NN α] {P : List (Option α) → Prop} (h : EvC W W1 K te δ fun xs : List α => P (xs.map some)) : EvC W W1 K te δ P := fun O S H σ s Q q => h O S H σ s Q fun a vs S' H' xs m l r p => q a vs S' H' _ m l (by
  have c : ∀ {vs : List V} {xs : List α}, Reps K S' vs xs → Reps K S' vs (xs.map some) := fun {vs xs} r => by
    induction r with
    | nil => exact .nil
    | cons r t ih => exact .cons ⟨NN.nn r, r⟩ ih
  exact c r) p
/-! ### a, b, c = e1, e2, e3 -/
theorem sd_par3 {α2 α3 : Type} [Rep α2] [Rep α3] {j l : Nat} (h : EvA W W1 K ta δ fun g : α × α2 × α3 × Unit => D.nx W1 (((δ.set i (sD g.1)).set j (sD g.2.1)).set l (sD g.2.2.1))) : Sd W K (tPar3 i j l ta) δ D := fun O S H σ c E r =>
  h _ S H σ c.stt _ fun vs S1 H1 g m ⟨v1, r1, e1, q1, v2, r2, e2, q2, v3, r3, e3, q3, e4⟩ p => by
    have e4' : r3 = [] := e4
    subst e4' e3 e2 e1
    exact ⟨v1, v2, v3, rfl, r.nx S1 H1 _ _ (m.mo fun _ z => .inl z) ((((c.mv m).set (d := sD g.1) rfl ⟨v1, rfl, q1⟩).set (d := sD g.2.1) rfl ⟨v2, rfl, q2⟩).set (d := sD g.2.2.1) rfl ⟨v3, rfl, q3⟩) p⟩
theorem Good.own {O : Addr → Prop} {S H : Hp} {p : Addr} {o : HO} (g : Good W O S H) (f : Fresh W O S H p o) : Good W (fun a => O a ∨ a = p) S H :=
  ⟨g.sub, g.ok, g.fpS, fun a h z => z.elim (g.fpO a h) fun e => f.f (by rw [← e]; exact h), fun a z => z.elim (g.oS a) fun e => by rw [e]; exact f.s, fun a z => z.elim (g.oH a) fun e => by
    rw [e, f.at_]
    intro y
    cases y⟩
theorem sd_par3M {α2 α3 : Type} [Rep α2] [Rep α3] {j l : Nat} {te2 te3 : TE} (h : EvG W W1 K te δ fun xs : List (κ × α) => Ev W1 W2 K te2 δ fun y : α2 => Ev W2 W3 K te3 δ fun z : α3 => D.nx W3 (((δ.set i (sM xs)).set j (sD y)).set l (sD z))) : Sd W K (tPar3 i j l (tCons te (tCons te2 (tCons te3 tNil)))) δ D := fun O S H σ c E r =>
  h _ S H σ c.stt _ fun q kvs S1 H1 xs m f rv nd h2 => by
    have s1 : Stt W1 K (fun a => (O a ∨ OwnAt σ δ a) ∨ a = q) S1 H1 σ δ := ⟨m.good.own f, (c.stt.mv m).sl, fun a z => .inl (.inr z)⟩
    refine h2 _ S1 H1 σ s1 _ fun v2 S2 H2 y m2 r2 h3 => ?_
    refine h3 _ S2 H2 σ (s1.mv m2) _ fun v3 S3 H3 z m3 r3 n => ?_
    have m23 := m2.trans m3
    have f3 : Fresh W3 (fun a => O a ∨ OwnAt σ δ a) S3 H3 q (.dK kvs) := ⟨(m23.keep q (.inr rfl)).trans f.at_, m23.good.oS q (.inr rfl), fun z => m23.good.fpO q z (.inr rfl), f.o⟩
    have mm := m.trans (m23.less fun a z => .inl z)
    have c3 := ((c.mv mm).setN (i := i) (d := sM xs) f3 ⟨q, kvs, rfl, f3.at_, RepKV.mono m23.ex rv, nd⟩)
    exact ⟨_, _, _, rfl, r.nx S3 H3 _ _ (mm.mo fun _ z => .inl z) ((c3.set (d := sD y) rfl ⟨v2, rfl, Rep.mono m3.ex r2⟩).set (d := sD z) rfl ⟨v3, rfl, r3⟩) n⟩
end
end DW
set_option maxHeartbeats 4000000
/-! DW: list(d.values()), sorted(d), calls by keywords -/
namespace DW
open PySem PySem.Spec PyProof.Rows L2
def tListVals (te : TE) : TE := fun σ H Q => te σ H fun x H1 => ∃ (d : Addr) (kvs : List (Key × V)), x = .ref d ∧ Rd H1 d (.dK kvs) ∧ ∀ p, H1 p = none → Q (.ref p) (upd H1 p (.lst (kvs.map Prod.snd)))
theorem kv_snd {kvs : List (Key × V)} {vs : List (Key × Value)} (h : Paired (fun (a : Key × V) (b : Key × Value) => a.1 = b.1 ∧ RelV a.2 b.2) kvs vs) : Vals (kvs.map Prod.snd) (vs.map Prod.snd) := by
  induction h with
  | nil => exact .nil
  | cons r t ih => exact .cons r.2 ih
section
variable {X : Cx} {e : Expr} {te : TE} {p apos cpos pos : Pos}
theorem pe_listVals (hc : X.calm = true) (he : PE X e te) (hg : Gl X "list") (hm : X.mg "list" = none) (hv : bootBuiltins "list" = some (.type "list") := by first | rfl | decide +kernel) (hbase : attributeBase e "values" X.env (eval e X.env) = eval e X.env := by rfl) (hline : (apos.endLine == cpos.line) = true := by rfl)
    (hs : starEach [.Call (.Attribute e "values" apos) [] [] cpos] X.env = (false, eval (.Call (.Attribute e "values" apos) [] [] cpos) X.env) :: starEach [] X.env := by rfl) :
    PE X (.Call (.Name "list" p) [.Call (.Attribute e "values" apos) [] [] cpos] [] pos) (tListVals te) := by
  refine ⟨fun pins s σ H Q I hq => ?_⟩
  refine wpAny_Call_Name_kw (ld_blt I hg hm hv ?_)
  refine PyProof.Rows.callWith_type1 ?_ hs rfl
  rw [hs]
  show wpAny _ _ (spliced ((false, eval (.Call (.Attribute e "values" apos) [] [] cpos) X.env) :: backTo pos (starEach [] X.env))) _ _ s
  refine Calls.spliced_cons ?_
  refine wpAny_Call_method (T := "dict") (id := "dict.values") hbase rfl hline F.plainAttrs_dict F.slot_dict_values F.type_dict_values (thn (he.run pins s σ H _ I hq) fun u s1 ⟨x, H1, I1, rx, d, kvs, ex, hd, q⟩ => ?_)
  subst ex
  obtain rfl : u = Value.ref d := rx
  obtain ⟨hz, hs0, vs, kv, hdo⟩ := dk_rd I1.hok hd
  obtain ⟨ep, hat⟩ := hdo.dictAt
  have I2 : Inv X pins σ H1 { s1 with heap := s1.heap.push { cls := .type "dict_values", data := .fields #[.ref d] } } := I1.kept (t' := s1.toks) fun b ob q => Heap.get?_push_of_some _ q
  refine ⟨hdo.typeIs, hdo.mapOf.noDict, ?_⟩
  show wpAny _ _ (callWith cpos (.builtin "dict.values") [.ref d] [] []) _ X.xe s1
  refine method_meetsIn F.slot_dict_values F.entry_dict_values rfl (PySem.evalArgs_none ⟨rfl, hdo.typeIs, F.args_dict_values_1 _, _, meets_dict_values (mixKind X.prog X.w) d hs0, ⟨vs, hdo⟩, ?_⟩)
  refine Calls.spliced_nil ?_
  refine PySem.W.kdl_call (PySem.W.kdl_values (knd := mixKind X.prog X.w) (kvs := vs) (ep := ep) (r := s1.heap.objs.size) (d := d)) (I1.ok.hd hc) ⟨⟨_, Heap.get?_push_size _ rfl, rfl, rfl⟩, hat.push _⟩ (by rw [← kv.length]; exact hz) fun h' tk acc c' hk hD hacc => ?_
  have hvv : acc.toList = vs.map Prod.snd := PySem.W.kdl_vals_eq _ (by rw [Array.length_toList]; exact hacc.1) fun j v e => hacc.2 j v (by rw [← Array.getElem?_toList]; exact e)
  refine ⟨.ref _, upd H1 _ (.lst (kvs.map Prod.snd)), I2.laid (t' := tk) hk (Nat.le_refl _) (show ObjOk X.prog X.w _ _ _ (.lst (kvs.map Prod.snd)) from ⟨by rw [List.length_map]; exact hz, acc.toList, c', by rw [hvv]; exact kv_snd kv, by rw [Array.toArray_toList]; exact hD⟩), rfl, q _ (I2.hok.fresh (Nat.le_refl _))⟩
end
section
variable {W W1 W2 W3 W4 : Wd} {K : Frag} {O : Addr → Prop} {S H S1 H1 S2 H2 : Hp} {σ : L2.St} {δ : DEnv} {α β κ : Type} [Rep α] [Rep β] [DKey κ] {te ta : TE}
theorem repkv_vals {kvs : List (Key × V)} {xs : List (κ × α)} : RepKV K S kvs xs → Reps K S (kvs.map Prod.snd) (xs.map Prod.snd)
  | .nil => .nil
  | .cons r t => .cons r.2 (repkv_vals t)
theorem ef_listVals {P : List α → Prop} (h : EvCD W W1 K te δ fun xs : List (κ × α) => P (xs.map Prod.snd)) : EvF W W1 K (tListVals te) δ P := fun O S H σ s Q q =>
  h O S H σ s _ fun a kvs S1 H1 xs m l r nd p => ⟨a, kvs, rfl, l.rd m.good.sub, fun D hD => q D _ S1 _ _ (m.trans (Mv.temp m.good hD)) (Fresh.new m.good hD) (repkv_vals r) p⟩
theorem keys_inr {kvs : List (Key × V)} {xs : List (Str × α)} : RepKV K S kvs xs → kvs.map (·.1) = (xs.map Prod.fst).map Sum.inr
  | .nil => rfl
  | .cons r t => by
    rw [List.map_cons, List.map_cons, List.map_cons, keys_inr t, r.1]
    rfl
theorem ef_sortedD {P : List Str → Prop} (h : EvCD W W1 K ta δ fun xs : List (Str × α) => xs.length < 64 ∧ ∀ z, List.Perm z (xs.map Prod.fst) → sortedS z = true → P z) : EvF W W1 K (tCB (fun xs H Q => ∃ (a : Addr) (kvs : List (Key × V)) (ks : List Str), xs = [.ref a] ∧ Rd H a (.dK kvs) ∧ kvs.map (·.1) = ks.map Sum.inr ∧ ks.length < 64 ∧ ∀ ys p, ys.Perm ks → sortedS ys = true → H p = none → Q (.ref p) (upd H p (.lst (ys.map V.str)))) (tCons ta tNil)) δ P := fun O S H σ s Q q =>
  h O S H σ s _ fun a kvs S1 H1 xs m l r nd p => ⟨a, kvs, xs.map Prod.fst, rfl, l.rd m.good.sub, keys_inr r, by rw [List.length_map]; exact p.1, fun ys D hp hs hD => q D _ S1 _ ys (m.trans (Mv.temp m.good hD)) (Fresh.new m.good hD) reps_flat (p.2 ys hp hs)⟩
end
end DW
set_option maxHeartbeats 4000000
/-! DW: calls by keywords alone -/
namespace DW
open PySem PySem.Spec PyProof.Rows L2
/-- how a call by keywords binds: gV puts the values (in the order of the call) in the order of the parameters -/
structure KwB (K : Frag) (fd : FuncData) (ps ks : List Str) (gV : {α : Type} → List α → List α) : Prop where
  to : ∀ (s : Shared) (ws : List Value), K.In s.heap → ws.length = ks.length → BindsTo s fd ⟨[], ks.zip ws⟩ (ps.zip (gV ws))
  rel : ∀ {zs : List V} {ws : List Value}, zs.length = ks.length → Vals zs ws → Vals (gV zs) (gV ws)
  len : ∀ {α : Type} (ws : List α), ws.length = ks.length → (gV ws).length = ps.length
def CalK (P : Program) (w : World) (K : Frag) (mg : Str → Option Value) (base : Heap) (k : Nat) (x : Str) (sp : Sp) (ks : List Str) (gV : {α : Type} → List α → List α) : Prop :=
  ∃ (fa : Addr) (fd : FuncData) (ps : List Str), mg x = some (.ref fa) ∧ FnOk P w K mg base CX0 k fa fd ps sp ∧ KwB K fd ps ks @gV ∧ PySem.W.keepIn K (.ref fa) = true
def tCallK0 (n : Nat) (sp : Sp) (gV : List V → List V) (E : XK) (tk : TA) : TE := fun σ H Q => tk σ H fun zs H2 => zs.length = n ∧ sp (gV zs) H2 Q E
section
variable {X : Cx} {k j : Nat} {x : Str} {sp : Sp} {ks : List Str} {gV : {α : Type} → List α → List α} {kws : List Keyword} {tk : TA} {p pos : Pos}
theorem pe_cdK (c : CalK X.prog X.w X.K X.mg X.base k x sp ks @gV) (room : Room j X.A) (le : k ≤ j) (gl : Gl X x) (hkw : PK X kws tk)
    (hall : (backToKw pos (keywordEach kws X.env)).all (·.1.isSome) = true := by rfl) (hks : (backToKw pos (keywordEach kws X.env)).filterMap (·.1) = ks := by rfl) (hdb : (x == ("__debug__" : Str)) = false := by decide)
    (hpl : ((backTo pos (starEach [] X.env)).any (·.1) || (backToKw pos (keywordEach kws X.env)).any (·.1.isNone)) = false := by rfl) : PE X (.Call (.Name x p) [] kws pos) (tCallK0 ks.length sp gV E0 tk) := by
  obtain ⟨f, fd, ps, hm, F, hb, hk⟩ := c
  refine ⟨fun pins s σ H Q I h => ?_⟩
  refine wpAny_Call_Name_kw (ld_glob I gl hm ?_ hdb)
  refine PySem.W.callWith_KW0 (h₀ := X.base) I.ok.mod.kin hk hall ?_ hpl
  refine thn (hkw.run pos pins s σ H _ I h) fun ws s2 ⟨zs, H2, I2, rz, l1, q2⟩ => ⟨I2.kIn, ?_⟩
  rw [hks]
  have lw : ws.length = ks.length := rz.length.symm.trans l1
  have r2 := hb.rel l1 rz
  refine wpAny_call (codeAny_mono (F.run X.A X.stack s2 H2 ⟨[], ks.zip ws⟩ (gV ws) (gV zs) Q E0 (room.mono le) I2.env0 (hb.to s2 ws I2.kIn lw) r2 q2) fun r s' hq => ?_)
  cases r with
  | error e => exact pass0 pins σ H2 s2 e s' I2 hq
  | ok fl =>
    cases fl with
    | ret u => exact I2.after hq
    | next => exact False.elim hq
    | brk => exact False.elim hq
    | cont => exact False.elim hq
end
theorem kwb_of {K : Frag} {x qual : Str} {st : Stmt} {f : Addr} {fd : FuncData} {ps ks : List Str} {gV : {α : Type} → List α → List α} (F : Fun K x qual st f fd)
    (h : ∀ (kV doc pm : Value) (an : Option Addr) (cdv ct : Value) (ws : List Value), ws.length = ks.length → bindArgs (PySem.W.fnOf x qual (defArgs st) (defBody st) (defScope st) .none kV doc pm an cdv ct) ⟨[], ks.zip ws⟩ = pure (ps.zip (gV ws)))
    (rel : ∀ {zs : List V} {ws : List Value}, zs.length = ks.length → Vals zs ws → Vals (gV zs) (gV ws)) (len : ∀ {α : Type} (ws : List α), ws.length = ks.length → (gV ws).length = ps.length) : KwB K fd ps ks @gV := by
  obtain ⟨oc, od, kV, doc, pm, an, cdv, ct, osl, e, lk, hcd⟩ := F.ex
  subst e
  exact ⟨fun s ws _ hl => .of_eq (h kV doc pm an cdv ct ws hl), rel, len⟩
section
variable {W W1 W2 We : Wd} {K : Frag} {δ : DEnv} {α β γ γ' κ : Type} [Rep α] [Rep β] [RepA γ] [RepA γ'] [DKey κ] {D : DE β} {tk : TA} {Wp : Wd → Wd → Prop} {E : XK} {n i : Nat} {gV : List V → List V}
theorem ev_callK {P : β → Prop} {F : γ → (β → Prop) → Prop} (app : γ' → γ) (hA : ∀ W K S vs g, RepA.repA W K S vs g → vs.length = n ∧ RepA.repA W K S (gV vs) (app g)) (hW : Wp W1 W2) (h : EvA W W1 K tk δ fun g : γ' => F (app g) P) : Ev W W2 K (tCallK0 n (spD K Wp F) gV E tk) δ P := fun O S H σ s Q q =>
  h O S H σ s _ fun vs S1 H1 g m r p => ⟨(hA _ _ _ _ _ r).1, W1, W2, O, S1, app g, P, hW, m.good, (hA _ _ _ _ _ r).2, p, fun v S2 H2 y m2 r2 py => q v S2 H2 y (m.trans m2) r2 py⟩
theorem eg_callK {P : List (κ × α) → Prop} {F : γ → (List (κ × α) → Prop) → Prop} (app : γ' → γ) (hA : ∀ W K S vs g, RepA.repA W K S vs g → vs.length = n ∧ RepA.repA W K S (gV vs) (app g)) (hW : Wp W1 W2) (h : EvA W W1 K tk δ fun g : γ' => F (app g) P) : EvG W W2 K (tCallK0 n (spG K Wp F) gV E tk) δ P := fun O S H σ s Q q =>
  h O S H σ s _ fun vs S1 H1 g m r p => ⟨(hA _ _ _ _ _ r).1, W1, W2, O, S1, app g, P, hW, m.good, (hA _ _ _ _ _ r).2, p, fun a kvs S2 H2 xs m2 f rv nd py => q a kvs S2 H2 xs (m.trans m2) f rv nd py⟩
end
/-- an optional new list as data -/
theorem spO_ev {γ α : Type} [RepA γ] [Rep α] {W W1 W2 : Wd} {K : Frag} {δ : DEnv} {Wp : Wd → Wd → Prop} {F : γ → (Option (List α) → Prop) → Prop} {P : Option (List α) → Prop} {E : XK} {ta : TA} (hW : Wp W1 W2) (h : EvA W W1 K ta δ fun g : γ => F g P) : Ev W W2 K (tCall (spO K Wp F) [] E ta) δ P := fun O S H σ s Q q =>
  h O S H σ s _ fun vs S1 H1 g m r p => ⟨W1, W2, O, S1, g, P, hW, m.good, by rw [List.append_nil]; exact r, p, fun S2 H2 m2 n => q _ S2 H2 none (m.trans m2) rfl n, fun a us S2 H2 xs m2 f rv n => by
    have k := m2.fixF f
    refine q _ _ H2 (some xs) (m.trans k) ⟨(by intro z; cases z), a, us, rfl, upd_same, Reps.mono (Ex.upd f.s) rv⟩ n⟩
theorem spO_evK {γ γ' α : Type} [RepA γ] [RepA γ'] [Rep α] {W W1 W2 : Wd} {K : Frag} {δ : DEnv} {Wp : Wd → Wd → Prop} {F : γ → (Option (List α) → Prop) → Prop} {P : Option (List α) → Prop} {E : XK} {tk : TA} {n : Nat} {gV : List V → List V} (app : γ' → γ) (hA : ∀ W K S vs g, RepA.repA W K S vs g → vs.length = n ∧ RepA.repA W K S (gV vs) (app g)) (hW : Wp W1 W2) (h : EvA W W1 K tk δ fun g : γ' => F (app g) P) :
    Ev W W2 K (tCallK0 n (spO K Wp F) gV E tk) δ P := fun O S H σ s Q q =>
  h O S H σ s _ fun vs S1 H1 g m r p => ⟨(hA _ _ _ _ _ r).1, W1, W2, O, S1, app g, P, hW, m.good, (hA _ _ _ _ _ r).2, p, fun S2 H2 m2 n => q _ S2 H2 none (m.trans m2) rfl n, fun a us S2 H2 xs m2 f rv n => by
    have k := m2.fixF f
    refine q _ _ H2 (some xs) (m.trans k) ⟨(by intro z; cases z), a, us, rfl, upd_same, Reps.mono (Ex.upd f.s) rv⟩ n⟩
end DW
set_option maxHeartbeats 4000000
/-! DW: the tape: a list of three ints -/
namespace DW
open PySem PySem.Spec PyProof.Rows L2
def small31 : Int := 2147483648
structure TpAt (r : Addr) (H : Hp) (a b c : Int) : Prop where
  at_ : H r = some (.lst [.int a, .int b, .int c])
  a0 : 0 ≤ a
  b0 : 0 ≤ b
  b1 : b < small31
  c0 : 0 ≤ c
  c1 : c < small31
def Wtp (r : Addr) : Wd where
  root := .ref r
  ok H := ∃ a b c, TpAt r H a b c
  fp _ x := x = r
  nn := fun {H x} ⟨a, b, c, t⟩ h => by
    rw [h, t.at_]
    intro z
    cases z
  loc := fun {H H'} ⟨a, b, c, t⟩ h => ⟨⟨a, b, c, (h r rfl).trans t.at_, t.a0, t.b0, t.b1, t.c0, t.c1⟩, fun x => Iff.rfl⟩
/-- a def that draws -/
def TpW (W W' : Wd) : Prop := ∃ r, W = Wtp r ∧ W' = Wtp r
theorem tpw (r : Addr) : TpW (Wtp r) (Wtp r) := ⟨r, rfl, rfl⟩
theorem tp_none (r : Addr) (W : Wd) (h : ∀ H, W.ok H) (hf : ∀ H a, ¬ W.fp H a) : Wle (Wtp r) W := ⟨fun H _ => h H, fun H a z => (hf H a z).elim⟩
/-- the tape is written: nothing else is touched -/
theorem Mv.tape {r : Addr} {O : Addr → Prop} {S H : Hp} {a b c : Int} (g : Good (Wtp r) O S H) (t : TpAt r (upd H r (.lst [.int a, .int b, .int c])) a b c) : Mv (Wtp r) O S H S (upd H r (.lst [.int a, .int b, .int c])) := by
  have rS : S r = none := g.fpS r rfl
  have rO : ¬ O r := g.fpO r rfl
  refine ⟨Ex.refl S, fun x h => upd_ne fun z => rO (by rw [← z]; exact h), fun x h => upd_ne fun z => h (by rw [z]; exact rS), ⟨fun x u h => ?_, ⟨a, b, c, t⟩, g.fpS, g.fpO, g.oS, fun x h => ?_⟩⟩
  · rw [upd_ne fun z => by
      rw [z, rS] at h
      cases h]
    exact g.sub x u h
  · by_cases z : x = r
    · exact (rO (by rw [← z]; exact h)).elim
    · rw [upd_ne z]
      exact g.oH x h
def w__law_pick (m : Int) (P : Int → Prop) : Prop := (0 < m ∧ m < 1073741824) ∧ ∀ x, 0 ≤ x → x < m → P x
abbrev W__law_pick (g : Stk × Int × Unit) (P : Int → Prop) : Prop := w__law_pick g.2.1 P
/-! ### while -/
section
variable {W W1 W2 W3 : Wd} {K : Frag} {δ : DEnv} {α β κ : Type} [Rep α] [Rep β] [DKey κ] {D : DE β} {te tb : TE} {tt : TT} {t u : TS} {i j : Nat}
theorem sd_while (Inv : Nat → DEnv → Prop) (h0 : ∃ m, Inv m δ) (h : ∀ m δ', Inv m δ' → EvT W W K tt δ' fun b => (b = true → Sd W K t δ' { D with nx := fun W' δ2 => Wle W' W ∧ ∃ m', m' < m ∧ Inv m' δ2, ct := fun W' δ2 => Wle W' W ∧ ∃ m', m' < m ∧ Inv m' δ2, bk := D.nx }) ∧ (b = false → D.nx W δ')) : Sd W K (tWhile tt t) δ D := fun O S H σ c E r => by
  obtain ⟨m0, h0⟩ := h0
  refine ⟨fun m σ' H' => ∃ S' δ', Mo O S H S' H' ∧ Cf W K O S' H' σ' δ' ∧ Inv m δ', ⟨m0, S, δ, Mo.refl, c, h0⟩, fun m σ' H' ⟨S', δ', mo, c', iv⟩ => ?_⟩
  refine h m δ' iv _ S' H' σ' c'.stt _ fun b S1 H1 m1 p => ?_
  have mo1 := mo.trans (m1.mo fun _ z => .inl z)
  have c1 := c'.mv m1
  cases b with
  | false =>
    show E.nx σ' H1
    exact r.nx S1 H1 _ _ mo1 c1 (p.2 rfl)
  | true =>
    show ∃ N, _
    refine ⟨fun σ2 H2 => ∃ m', m' < m ∧ ∃ S2 δ2, Mo O S H S2 H2 ∧ Cf W K O S2 H2 σ2 δ2 ∧ Inv m' δ2, fun σ2 H2 ⟨m', hm, q⟩ => ⟨m', hm, q⟩, ?_⟩
    refine p.1 rfl O S1 H1 σ' c1 _ ⟨fun S2 H2 σ2 δ2 m2 c2 ⟨le, m', hm, q⟩ => ⟨m', hm, S2, δ2, mo1.trans m2, c2.wle le, q⟩, fun S2 H2 σ2 δ2 m2 c2 q => r.nx S2 H2 _ _ (mo1.trans m2) c2 q, fun S2 H2 σ2 δ2 m2 c2 ⟨le, m', hm, q⟩ => ⟨m', hm, S2, δ2, mo1.trans m2, c2.wle le, q⟩, fun v S2 H2 y m2 q p => r.rt v S2 H2 y (mo1.mv m2) q p, fun q o S2 H2 m2 f p => r.rg q o S2 H2 (mo1.mv m2) f p⟩
theorem sd_parLL {α2 : Type} [Rep α2] {te2 : TE} (ne : i ≠ j) (h : EvF W W1 K te δ fun xs : List α => EvF W1 W2 K te2 δ fun ys : List α2 => D.nx W2 ((δ.set i (sL xs)).set j (sL ys))) : Sd W K (tPar i j (tCons te (tCons te2 tNil))) δ D := fun O S H σ c E r =>
  h _ S H σ c.stt _ fun q vs S1 H1 xs m f rv h2 => by
    have s1 : Stt W1 K (fun a => (O a ∨ OwnAt σ δ a) ∨ a = q) S1 H1 σ δ := ⟨m.good.own f, (c.stt.mv m).sl, fun a z => .inl (.inr z)⟩
    refine h2 _ S1 H1 σ s1 _ fun q2 us S2 H2 ys m2 f2 r2 n => ?_
    have f3 : Fresh W2 (fun a => O a ∨ OwnAt σ δ a) S2 H2 q (.lst vs) := ⟨(m2.keep q (.inr rfl)).trans f.at_, m2.good.oS q (.inr rfl), fun z => m2.good.fpO q z (.inr rfl), f.o⟩
    have mm := m.trans (m2.less fun a z => .inl z)
    have c3 := ((c.mv mm).setN (i := i) (d := sL xs) f3 ⟨q, vs, rfl, f3.at_, Reps.mono m2.ex rv⟩)
    have f4 : Fresh W2 (fun a => O a ∨ OwnAt (σ.set i (some (.ref q))) (δ.set i (sL xs)) a) S2 H2 q2 (.lst us) := ⟨f2.at_, f2.s, f2.f, fun z => z.elim (fun z => f2.o (.inl (.inl z))) fun z => (own_setN z).elim (fun e => f2.o (.inr e)) fun z => f2.o (.inl (.inr z))⟩
    exact ⟨_, _, rfl, r.nx S2 H2 _ _ (mm.mo fun _ z => .inl z) (c3.setN (d := sL ys) f4 ⟨q2, us, rfl, f4.at_, r2⟩) n⟩
/-- an own list of texts beside [] -/
theorem ev_neOwnS {xs : List Str} {P : Bool → Prop} {r0 : R2} (hi : δ[i]? = some (.ol (inferInstanceAs (Rep Str)) xs)) (inc : ∀ {x y H Q}, rNeD K x y H Q → r0 x y H Q) (hx : ∀ s, s ∈ xs → PyData.strOk s = true) (p : P (!xs.isEmpty)) : Ev W W K (tOp r0 (tVar i) (tLst tNil)) δ P := fun O S H σ s Q q => by
  obtain ⟨ov, e, a, vs, ea, ha, rv⟩ := s.sl.2 i _ hi
  subst ea
  refine ⟨_, e, Nat.zero_le _, fun b hb => inc ⟨.list (xs.map PyData.str), .list [], ?_, ?_, strs_shaped xs hx, strs_shaped [] (fun _ z => by cases z), ?_⟩⟩
  · have ne : a ≠ b := ne_of_none ha hb
    have c : ∀ {vs : List V} {xs : List Str}, Paired (rep K S) vs xs → DpAll K (upd H b (.lst [])) vs (xs.map PyData.str) := fun {vs xs} r => by
      induction r with
      | nil => exact .nil
      | cons r t ih =>
        rename_i v x _ _
        have e : v = .str x := r
        subst e
        exact .cons (.str _) ih
    exact .lst (.inl (.inl (by rw [upd_ne ne]; exact ha))) (c rv)
  · exact .lst (.inl (.inl upd_same)) .nil
  · have e2 : (!PyData.eqv (.list (xs.map PyData.str)) (.list [])) = !xs.isEmpty := by
      cases xs <;> simp [PyData.eqv, PyData.eqvAll]
    rw [e2]
    exact q _ S _ _ (Mv.temp s.g hb) rfl p
end
def w__law_shuffled (xs : List Str) (P : List Str → Prop) : Prop := (xs.length ≤ 100 ∧ ∀ s, s ∈ xs → PyData.strOk s = true) ∧ ∀ r : List Str, r.Perm xs → P r
abbrev W__law_shuffled (g : Stk × List Str × Unit) (P : List Str → Prop) : Prop := w__law_shuffled g.2.1 P
end DW
set_option maxHeartbeats 4000000
namespace K89
open PySem PySem.Spec PyProof.Rows L2 DW
def topS (i : Nat) : Stmt := PySem.Challenge.pw_beforeclose_k89_whole_shares_nobody_obje.main.body.getD i (.Pass ⟨0, 0, 0, 0⟩)
def loopS : List Stmt := match (defBody (topS 73)).getD 0 (.Pass ⟨0, 0, 0, 0⟩) with
  | .For _ _ b _ _ => b
  | _ => []
def reserved : Tp Str := ⟨["house", "outside", "money"]⟩
structure Tx (K : Frag) (mg : Str → Option Value) : Prop where
  b_abs : mg "abs" = none
  b_all : mg "all" = none
  b_any : mg "any" = none
  b_bool : mg "bool" = none
  b_dict : mg "dict" = none
  b_enumerate : mg "enumerate" = none
  b_int : mg "int" = none
  b_isinstance : mg "isinstance" = none
  b_len : mg "len" = none
  b_list : mg "list" = none
  b_max : mg "max" = none
  b_min : mg "min" = none
  b_range : mg "range" = none
  b_repr : mg "repr" = none
  b_set : mg "set" = none
  b_sorted : mg "sorted" = none
  b_str : mg "str" = none
  b_sum : mg "sum" = none
  b_tuple : mg "tuple" = none
  b_zip : mg "zip" = none
  c_LETTERS : ∃ t, mg "LETTERS" = some (.str "abcdefghijklmnopqrstuvwxyz" t)
  c_LONGEST : ∃ t, mg "LONGEST" = some (.int 8 t)
  c_MOST_PRICE : ∃ t, mg "MOST_PRICE" = some (.int 99 t)
  c_MOST_MOVES : ∃ t, mg "MOST_MOVES" = some (.int 8 t)
  c_RESERVED : ∃ a, mg "RESERVED" = some (.ref a) ∧ ∀ S, rep K S (.ref a) reserved
def letters : Str := "abcdefghijklmnopqrstuvwxyz"
def nameOk (x : Str) : Bool := decide ((1 : Int) ≤ (x.length : Int)) && (decide ((x.length : Int) ≤ 8) && ((letts x).map fun c => inStr c letters).all id)
def w_is_name (a : Str) (P : Bool → Prop) : Prop := a.length ≤ 100000 ∧ P (nameOk a)
abbrev W_is_name (g : Str × Unit) (P : Bool → Prop) : Prop := w_is_name g.1 P
abbrev Pos' := Dc Str Int
end K89
set_option maxHeartbeats 4000000
namespace K89
open PySem PySem.Spec PyProof.Rows L2 DW
section
variable {P : Program} {w : World} {K : Frag} {mg : Str → Option Value} {base : Heap}
theorem sc_is_name : FnScope ["value", "letter"] ["value"] (defScope (topS 7)) := ⟨rfl, rfl, rfl, by decide +kernel, rfl, by decide +kernel, by decide +kernel⟩
theorem name_comp {k : List Bool → Prop} : ∀ (xs : List Str) (acc : List Bool), k (acc ++ xs.map fun c => inStr c letters) → compW (fun (x : Str) (R : Option Bool → Prop) => R (some (inStr x letters))) k xs acc
  | [], acc, h => by
    rw [List.map_nil, List.append_nil] at h
    exact h
  | x :: xs, acc, h => name_comp xs _ (by
    rw [List.map_cons] at h
    show k ((acc ++ [inStr x letters]) ++ _)
    rw [List.append_assoc]
    exact h)
theorem walk_is_name {f : Addr} {fd : FuncData} (X : Tx K mg) (F : Fun K "is_name" "is_name" (topS 7) f fd) (hm : mg "is_name" = some (.ref f)) (bd : Binds K fd ["value"] []) : CalD P w K mg base 1 "is_name" (spD K AnyW W_is_name) [] :=
  cal_ok F hm bd sc_is_name rfl (by decide) fun cdv A outer s H E hr => by
    refine ⟨_, (pss_cons (ps_if (PW.pt (pw_or (pt_not (pt_val (pe_callB call_isi (by rfl) X.b_isinstance rfl (pa_cons (pv 0) (pa_cons (pe_bltn (v := .ty "str") (by rfl) X.b_str rfl rfl) pa_nil)))))
        (pw_or1 (pt_not (pt_chain op_le op_le pe_int (pe_callB call_len_str (by rfl) X.b_len rfl (pa_cons (pv 0) pa_nil)) (pe_glob (v := .int 8) (by rfl) X.c_LONGEST.choose_spec ⟨_, rfl⟩)))))) (pss_cons (ps_ret pe_bl) pss_nil) pss_nil)
      (pss_cons (ps_ret (pe_callB (cr_all rfl) (by rfl) X.b_all rfl (pa_cons (pe_lc rfl sc_is_name.nd (pi_str (pv 0)) (blkOk_by (N := ["value", "letter"]) (sc := defScope (topS 7)) (own := [("letter", 1)]) (by decide +kernel)) (fun _ _ _ _ _ => (pg_name (i := 1) sc_is_name.nd (by rfl) (by first | exact .inl rfl | exact .inr rfl))) (fun _ _ _ _ _ => pts_nil)
        (fun _ _ _ _ _ => pe_cmpR op_in_str (pv 1) (pe_glob (v := .str letters) (by rfl) X.c_LETTERS.choose_spec ⟨_, rfl⟩) (by rfl))) pa_nil))) pss_nil)), fun W W2 hW g P h => ?_⟩
    have e1 : W = W2 := hW
    subst e1
    obtain ⟨hl, hP⟩ := h
    have fin : ∀ b : Bool, b = nameOk g.1 → P b := fun b e => by rw [e]; exact hP
    refine sd_seq (sd_if (et_or (et_not (et_B (ev_isi (b := true) (ev_var rfl ⟨fun _ => et_not (et_test (ev_chain (f := fun i j : Int => (decide (i ≤ j))) (g := fun i j : Int => (decide (i ≤ j)))
      (ev_int (ev_lenS (fun h => h) (ev_var rfl ⟨hl, fun h1 => ev_int ⟨fun h2 => ?_, fun h2 => ?_⟩, fun h1 => ⟨fun _ => ?_, fun z => nomatch z⟩⟩))) (Wle.refl _))), fun z => nomatch z⟩)))) (Wle.refl _)))
    · have e1 : decide ((1 : Int) ≤ (g.1.length : Int)) = true := h1
      have e2 : decide ((g.1.length : Int) ≤ 8) = false := by
        rcases Bool.eq_false_or_eq_true (decide ((g.1.length : Int) ≤ 8)) with z | z
        · rw [z] at h2
          cases h2
        · exact z
      exact sd_seq (sd_retW rfl (ev_bl (fin false (by unfold nameOk; rw [e1, e2] <;> rfl))) (Wle.refl _))
    · have e1 : decide ((1 : Int) ≤ (g.1.length : Int)) = true := h1
      have e2 : decide ((g.1.length : Int) ≤ 8) = true := by
        rcases Bool.eq_false_or_eq_true (decide ((g.1.length : Int) ≤ 8)) with z | z
        · exact z
        · rw [z] at h2
          cases h2
      refine sd_next (sd_seq (sd_retW rfl (ev_all (ec_ev (ev_fresh (ef_lcW (evio (evi_str (ev_var rfl ⟨?_, name_comp _ _ ?_⟩))) fun x R h => bd_yes (tgc_name (ev_inStr (ev_var rfl (ev_str h)))) (Wle.refl _))))) (Wle.refl _)))
      · unfold letts
        rw [List.length_map, Array.length_toList]
        exact hl
      · refine fin _ ?_
        unfold nameOk
        rw [e1, e2] <;> rfl
    · have e1 : decide ((1 : Int) ≤ (g.1.length : Int)) = false := h1
      exact sd_seq (sd_retW rfl (ev_bl (fin false (by unfold nameOk; rw [e1] <;> rfl))) (Wle.refl _))
end
end K89
set_option maxHeartbeats 4000000
namespace K89
open PySem PySem.Spec PyProof.Rows L2 DW
section
variable {P : Program} {w : World} {K : Frag} {mg : Str → Option Value} {base : Heap}
theorem sc__law_pick : FnScope ["tape", "many", "digit"] ["tape", "many"] (defScope (topS 57)) := ⟨rfl, rfl, rfl, by decide +kernel, rfl, by decide +kernel, by decide +kernel⟩
theorem walk__law_pick {f : Addr} {fd : FuncData} (X : Tx K mg) (F : Fun K "_law_pick" "_law_pick" (topS 57) f fd) (hm : mg "_law_pick" = some (.ref f)) (bd : Binds K fd ["tape", "many"] []) : CalD P w K mg base 1 "_law_pick" (spD K TpW W__law_pick) [] := by
  refine ⟨f, fd, _, [], hm, F.ok sc__law_pick (fun vs H Q E h => ?_) (fun cdv A outer s H vs Q E hr h => ?_), .nil, bd, F.kp⟩
  · obtain ⟨W, W', O, S', g, Q', h1, h2, h3, h4, h5⟩ := h
    exact RepA.len h3
  · obtain ⟨W, W', O, S, ⟨_, m, _⟩, P', ⟨r, e1, e2⟩, gd, ⟨r1, e3, v1, r2, e4, hv, e5⟩, ⟨hm, hP⟩, q⟩ := h
    have e5' : r2 = [] := e5
    have hv' : v1 = .int m := hv
    subst e5' e4 e3 e1 e2 hv'
    obtain ⟨a, b, c, t⟩ := gd.ok
    have m0 : (0 : Int) < m := hm.1
    have sr : SqL K H r [.int a, .int b, .int c] := .inl (.inl t.at_)
    have mul : ∀ x : Int, CMul x 69069 ∧ CMul x 7177 ∧ CMul x 40014 ∧ CMul x 3571 := fun x => ⟨.inr (by decide), .inr (by decide), .inr (by decide), .inr (by decide)⟩
    refine ⟨_, (pss_cons (ps_if (pt_cmpR op_ge (pe_ix ix_list (pv 0) pe_int (fun _ _ => rfl)) (pe_op op_pow pe_int pe_int) (nomark _))
        (pss_cons (ps_set (i := 2) sc__law_pick.nd (by rfl) (by first | exact .inl rfl | exact .inr rfl) (pe_op op_mod (pe_callTy call_int1 (by rfl) X.b_int rfl (pa_cons (pe_ix ix_list (pv 0) pe_int (fun _ _ => rfl)) pa_nil)) (pv 1)))
        (pss_cons (ps_asg (pe_op op_fdiv (pe_ix ix_list (pv 0) pe_int (fun _ _ => rfl)) (pv 1)) (pg_sub (pv 0) pe_int set_list (fun _ => rfl))) (pss_cons (ps_ret (pv 2)) pss_nil))) pss_nil)
      (pss_cons (ps_asg (pe_op op_mod (pe_callTy call_int1 (by rfl) X.b_int rfl (pa_cons (pe_op op_add (pe_op op_add (pe_op op_mul (pe_ix ix_list (pv 0) pe_int (fun _ _ => rfl)) pe_int) (pe_op op_mul (pe_ix ix_list (pv 0) pe_int (fun _ _ => rfl)) pe_int)) pe_int) pa_nil)) pe_int) (pg_sub (pv 0) pe_int set_list (fun _ => rfl)))
      (pss_cons (ps_asg (pe_op op_mod (pe_callTy call_int1 (by rfl) X.b_int rfl (pa_cons (pe_op op_add (pe_op op_add (pe_op op_mul (pe_ix ix_list (pv 0) pe_int (fun _ _ => rfl)) pe_int) (pe_op op_mul (pe_ix ix_list (pv 0) pe_int (fun _ _ => rfl)) pe_int)) pe_int) pa_nil)) pe_int) (pg_sub (pv 0) pe_int set_list (fun _ => rfl)))
      (pss_cons (ps_ret (pe_op op_mod (pe_callTy call_int1 (by rfl) X.b_int rfl (pa_cons (pe_op op_fdiv (pe_op op_mod (pe_callTy call_int1 (by rfl) X.b_int rfl (pa_cons (pe_op op_add (pe_op op_mul (pe_ix ix_list (pv 0) pe_int (fun _ _ => rfl)) (pe_ix ix_list (pv 0) pe_int (fun _ _ => rfl))) pe_int) pa_nil)) pe_int) pe_int) pa_nil)) (pv 1)))
      pss_nil)))), ?_⟩
    -- if tape[0] >= 10 ** 18
    refine ⟨.ref r, rfl, r, _, 0, .int a, rfl, rfl, sr, rfl, 10, 18, rfl, rfl, ⟨by decide, by decide, by decide⟩, a, _, rfl, rfl, _, rfl, ?_⟩
    have res : ∀ x : Int, 0 ≤ x % m ∧ x % m < m := fun x => ⟨Int.emod_nonneg _ (by omega), Int.emod_lt_of_pos _ m0⟩
    refine ite2 (fun _ => ?_) (fun _ => ?_)
    · -- digit = int(tape[0]) % many; tape[0] = tape[0] // many
      refine ⟨.ref r, rfl, r, _, 0, .int a, rfl, rfl, sr, rfl, .inl ⟨a, rfl, .int m, rfl, a, m, rfl, rfl, m0, ?_⟩⟩
      refine ⟨.ref r, rfl, r, _, 0, .int a, rfl, rfl, sr, rfl, .int m, rfl, a, m, rfl, rfl, hm, .ref r, rfl, r, _, 0, 0, rfl, rfl, t.at_, rfl, ?_⟩
      have t2 : TpAt r (upd H r (.lst [.int (a / m), .int b, .int c])) (a / m) b c := ⟨upd_same, Int.ediv_nonneg t.a0 (by omega), t.b0, t.b1, t.c0, t.c1⟩
      exact ⟨.int (a % m), rfl, q _ S _ _ (Mv.tape gd t2) rfl (hP _ (res a).1 (res a).2)⟩
    · refine ⟨.ref r, rfl, r, _, 1, .int b, rfl, rfl, sr, rfl, b, 69069, rfl, rfl, (mul _).1, .ref r, rfl, r, _, 0, .int a, rfl, rfl, sr, rfl, a, 7177, rfl, rfl, (mul _).2.1, _, _, rfl, rfl, _, 12345, rfl, rfl, .inl ⟨_, rfl, _, 2147483629, rfl, rfl, (show (0 : Int) < 2147483629 by decide), .ref r, rfl, r, _, 1, 1, rfl, rfl, t.at_, rfl, ?_⟩⟩
      have b0 := Int.emod_nonneg (b * 69069 + a * 7177 + 12345) (show (2147483629 : Int) ≠ 0 by decide)
      have b1 := Int.emod_lt_of_pos (b * 69069 + a * 7177 + 12345) (show (0 : Int) < 2147483629 by decide)
      dsimp only
      generalize (b * 69069 + a * 7177 + 12345) % 2147483629 = b' at b0 b1 ⊢
      have e1 : (upd H r (.lst [.int a, .int b', .int c])) r = some (.lst [.int a, .int b', .int c]) := upd_same
      have s1 : SqL K (upd H r (.lst [.int a, .int b', .int c])) r [.int a, .int b', .int c] := .inl (.inl e1)
      refine ⟨.ref r, rfl, r, _, 2, .int c, rfl, rfl, s1, rfl, c, 40014, rfl, rfl, (mul _).2.2.1, .ref r, rfl, r, _, 0, .int a, rfl, rfl, s1, rfl, a, 3571, rfl, rfl, (mul _).2.2.2, _, _, rfl, rfl, _, 97, rfl, rfl, .inl ⟨_, rfl, _, 2147483563, rfl, rfl, (show (0 : Int) < 2147483563 by decide), .ref r, rfl, r, _, 2, 2, rfl, rfl, e1, rfl, ?_⟩⟩
      have c0 := Int.emod_nonneg (c * 40014 + a * 3571 + 97) (show (2147483563 : Int) ≠ 0 by decide)
      have c1 := Int.emod_lt_of_pos (c * 40014 + a * 3571 + 97) (show (0 : Int) < 2147483563 by decide)
      dsimp only
      generalize (c * 40014 + a * 3571 + 97) % 2147483563 = c' at c0 c1 ⊢
      rw [upd_upd]
      have e2 : (upd H r (.lst [.int a, .int b', .int c'])) r = some (.lst [.int a, .int b', .int c']) := upd_same
      have s2 : SqL K (upd H r (.lst [.int a, .int b', .int c'])) r [.int a, .int b', .int c'] := .inl (.inl e2)
      have t2 : TpAt r (upd H r (.lst [.int a, .int b', .int c'])) a b' c' := ⟨upd_same, t.a0, b0, (show b' < 2147483648 by omega), c0, (show c' < 2147483648 by omega)⟩
      have cm : CMul b' c' := by
        refine .inr ?_
        show -(2 ^ 64) < c' ∧ c' < 2 ^ 64
        omega
      refine ⟨.ref r, rfl, r, _, 1, .int b', rfl, rfl, s2, rfl, .ref r, rfl, r, _, 2, .int c', rfl, rfl, s2, rfl, b', c', rfl, rfl, cm, _, 5, rfl, rfl, .inl ⟨_, rfl, _, 2147483587, rfl, rfl, (show (0 : Int) < 2147483587 by decide), _, 32, rfl, rfl, ⟨by decide, by decide⟩, .inl ⟨_, rfl, .int m, rfl, _, m, rfl, rfl, m0, ?_⟩⟩⟩
      exact q _ S _ _ (Mv.tape gd t2) rfl (hP _ (res _).1 (res _).2)
end
end K89
set_option maxHeartbeats 4000000
namespace K89
open PySem PySem.Spec PyProof.Rows L2 DW
section
variable {P : Program} {w : World} {K : Frag} {mg : Str → Option Value} {base : Heap}
theorem sc__law_shuffled : FnScope ["tape", "items", "rest", "found"] ["tape", "items"] (defScope (topS 58)) := ⟨rfl, rfl, rfl, by decide +kernel, rfl, by decide +kernel, by decide +kernel⟩
theorem walk__law_shuffled {f : Addr} {fd : FuncData} (X : Tx K mg) (C__law_pick : CalD P w K mg base 1 "_law_pick" (spD K TpW W__law_pick) []) (F : Fun K "_law_shuffled" "_law_shuffled" (topS 58) f fd) (hm : mg "_law_shuffled" = some (.ref f)) (bd : Binds K fd ["tape", "items"] []) : CalD P w K mg base 2 "_law_shuffled" (spD K TpW W__law_shuffled) [] :=
  cal_ok F hm bd sc__law_shuffled rfl (by decide) fun cdv A outer s H E hr => by
    refine ⟨_, pss_cons (ps_par (i := 2) (j := 3) rfl sc__law_shuffled.nd (by rfl) (by rfl) (by decide) (by rfl) (by rfl) (pa_cons (pe_callTy call_list_of (by rfl) X.b_list rfl (pa_cons (pv 1) pa_nil)) (pa_cons (pe_lst pa_nil) pa_nil)) (by rfl))
      (pss_cons (ps_while PassesOwn.never (pt_cmpR (op_neD (hu64 hr)) (pv 2) (pe_lst pa_nil) (nomark _))
        (pss_cons (ps_expr (pe_bm PySem.F.plainAttrs_list PySem.F.slot_list_append PySem.F.type_list_append mt_append (pv 3) (pa_cons (pe_bm PySem.F.plainAttrs_list PySem.F.slot_list_pop PySem.F.type_list_pop mt_popAt (pv 2) (pa_cons (pe_cd C__law_pick hr (by decide) (by rfl) (pa_cons (pv 0) (pa_cons (pe_callB call_len_seq (by rfl) X.b_len rfl (pa_cons (pv 2) pa_nil)) pa_nil))) pa_nil)) pa_nil))) pss_nil))
      (pss_cons (ps_ret (pv 3)) pss_nil)), fun W W2 hW g P h => ?_⟩
    obtain ⟨r, e1, e2⟩ := hW
    subst e1 e2
    obtain ⟨⟨hl, hs⟩, hP⟩ := h
    refine sd_seq (sd_parLL (i := 2) (j := 3) (by decide) (ef_listC (fun h => h) (ec_ev (ev_var rfl (ef_lst (α := Str) (es_nil ⟨Nat.zero_le _, ?_⟩))))))
    refine sd_seq (sd_while (fun m δ' => ∃ a b : List Str, m = a.length ∧ (b ++ a).Perm g.2.1 ∧ δ' = [.raw (.ref r), sD (α := List Str) g.2.1, sL (α := Str) a, sL (α := Str) b]) ⟨_, g.2.1, [], rfl, List.Perm.refl _, rfl⟩ fun m δ' hv => ?_)
    obtain ⟨a, b, rfl, pm, rfl⟩ := hv
    have ll := pm.length_eq
    rw [List.length_append] at ll
    refine et_test (ev_neOwnS (i := 2) rfl (fun h => h) (fun s hs' => hs s (pm.mem_iff.mp (List.mem_append_right _ hs'))) ⟨fun ne => ?_, fun em => ?_⟩)
    · have a0 : 0 < a.length := by
        cases a with
        | nil => simp at ne
        | cons x xs => exact Nat.succ_pos _
      refine sd_seq (sd_appendPop (i := 3) (j := 2) rfl rfl (by decide) (Ev.imp (ev_call (tpw r) (ea_tok rfl (ea_cons (ev_lenC (fun h => h) (ec_own rfl (ea_nil (show w__law_pick (a.length : Int) fun x => 0 ≤ x ∧ x < (a.length : Int) from ⟨⟨?_, ?_⟩, fun x h1 h2 => ⟨h1, h2⟩⟩))))))) fun x hx => ⟨?_, ?_, x.toNat, ?_, ?_, fun y hy => sd_next ⟨Wle.refl _, (a.eraseIdx x.toNat).length, ?_, a.eraseIdx x.toNat, b ++ [y], rfl, ?_, rfl⟩⟩))
      · omega
      · omega
      · omega
      · omega
      · omega
      · omega
      · have hx' : x.toNat < a.length := by omega
        rw [List.length_eraseIdx_of_lt hx']
        omega
      · have pa : (y :: a.eraseIdx x.toNat).Perm a := del_perm a x.toNat y hy
        rw [List.append_assoc]
        exact (List.Perm.append_left b pa).trans pm
    · have a0 : a = [] := by
        cases a with
        | nil => rfl
        | cons x xs => simp at em
      subst a0
      rw [List.append_nil] at pm
      exact sd_fix (i := 3) rfl (sd_seq (sd_retW rfl (ev_var rfl (hP b pm)) (Wle.refl _)))
end
end K89
set_option maxHeartbeats 4000000
/-! DW: copies, lists of tuples, fresh promises by a body -/
namespace DW
open PySem PySem.Spec PyProof.Rows L2
section
variable {W W1 W2 W3 We : Wd} {K : Frag} {O : Addr → Prop} {S H : Hp} {σ : L2.St} {δ : DEnv} {α β γ κ : Type} [Rep α] [Rep β] [RepA γ] [DKey κ] {D : DE β} {te tb ta : TE} {tt : TT} {t u : TS} {i j : Nat} {tr : TA}
theorem eg_dictD {P : List (κ × α) → Prop} (h : EvCD W W1 K ta δ P) : EvG W W1 K (tCB (fun xs H Q => ∃ (a : Addr) (kvs : List (Key × V)), xs = [.ref a] ∧ Rd H a (.dK kvs) ∧ ∀ p, H p = none → Q (.ref p) (upd H p (.dK kvs))) (tCons ta tNil)) δ P := fun O S H σ s Q q =>
  h O S H σ s _ fun a kvs S1 H1 xs m l r nd p => ⟨a, kvs, rfl, l.rd m.good.sub, fun c hc => q c _ S1 _ _ (m.trans (Mv.temp m.good hc)) (Fresh.new m.good hc) r nd p⟩
theorem ef_listT {P : List α → Prop} {r0 : List V → Hp → VK → Prop} (inc : ∀ {xs H Q}, (fun xs H Q => ∃ p ys, xs = [.ref p] ∧ (SqL K H p ys ∨ SqT K H p ys) ∧ ∀ l, H l = none → Q (.ref l) (upd H l (.lst ys))) xs H Q → r0 xs H Q) (h : Ev W W1 K ta δ fun x : Tp α => P x.l) : EvF W W1 K (tCB r0 (tCons ta tNil)) δ P := fun O S H σ s Q q =>
  h O S H σ s _ fun v S1 H1 x m ⟨a, vs, e, ha, r⟩ p => by
    subst e
    exact inc ⟨a, vs, rfl, .inr (m.good.sub.sqT ha), fun c hc => q c _ S1 _ _ (m.trans (Mv.temp m.good hc)) (Fresh.new m.good hc) r p⟩
theorem egZ {P : List (κ × α) → Prop} (h : EvG W W1 K te δ fun x => ∀ z, z = x → P z) : EvG W W1 K te δ P := h.imp fun x q => q x rfl
theorem evZ {P : α → Prop} (h : Ev W W1 K te δ fun x => ∀ z, z = x → P z) : Ev W W1 K te δ P := h.imp fun x q => q x rfl
end
/-- a list of three unlike things -/
structure L3 (α β γ : Type) where
  a : α
  b : β
  c : γ
instance {α β γ : Type} [Rep α] [Rep β] [Rep γ] : Rep (L3 α β γ) where
  rep K S v x := ∃ a v1 v2 v3, v = .ref a ∧ S a = some (.lst [v1, v2, v3]) ∧ rep K S v1 x.a ∧ rep K S v2 x.b ∧ rep K S v3 x.c
  mono := fun e ⟨a, v1, v2, v3, h1, h2, h3, h4, h5⟩ => ⟨a, v1, v2, v3, h1, e _ _ h2, Rep.mono e h3, Rep.mono e h4, Rep.mono e h5⟩
theorem ev_l3 {α β γ : Type} [Rep α] [Rep β] [Rep γ] {W W1 : Wd} {K : Frag} {δ : DEnv} {tr : TA} {P : L3 α β γ → Prop} (h : EvA W W1 K tr δ fun g : α × β × γ × Unit => P ⟨g.1, g.2.1, g.2.2.1⟩) : Ev W W1 K (tLst tr) δ P := fun O S H σ s Q q =>
  h O S H σ s _ fun vs S1 H1 g m ⟨v1, r, e1, r1, v2, r', e2, r2, v3, r'', e3, r3, e4⟩ p => by
    have e4' : r'' = [] := e4
    subst e4' e3 e2 e1
    exact ⟨by show 3 ≤ sizeLine; decide, fun a ha => q _ (upd S1 a (.lst [v1, v2, v3])) _ _ (m.trans (Mv.new m.good ha)) ⟨a, v1, v2, v3, rfl, upd_same, Rep.mono (Ex.upd (m.good.sub.nn ha)) r1, Rep.mono (Ex.upd (m.good.sub.nn ha)) r2, Rep.mono (Ex.upd (m.good.sub.nn ha)) r3⟩ p⟩
/-! ### a def that gives a new dict -/
section
variable {P : Program} {w : World} {K : Frag} {mg : Str → Option Value} {base : Heap} {γ α κ : Type} [RepA γ] [Rep α] [DKey κ] {x : Str} {st : Stmt} {f : Addr} {fd : FuncData} {N ps : List Str} {k : Nat} {Wp : Wd → Wd → Prop}
theorem cal_okG {Fp : γ → (List (κ × α) → Prop) → Prop} (F : Fun K x x st f fd) (hm : mg x = some (.ref f)) (b : Binds K fd ps []) (S : FnScope N ps (defScope st)) (ha : RepA.arity γ = ps.length) (hn : ps.length ≤ N.length)
    (hb : ∀ (cdv : Value) (A : Around) (outer : List Env) (s : Shared) (H : Hp) (E : XK), Room k (A.deeper (envOfC x (defScope st) s.heap.objs.size f cdv)) →
      ∃ t, PSs (cxOf CX0 P w K mg base N x (defScope st) f cdv A outer s H E).nox (defBody st) t ∧ ∀ (W W' : Wd), Wp W W' → ∀ (g : γ) (Q : List (κ × α) → Prop), Fp g Q → Sd (β := Unit) W K t (RepA.slots W g ++ List.replicate (N.length - ps.length) DSlot.non) { nx := fun _ _ => False, rt := fun _ _ => False, rg := rgG K W' Q }) :
    CalD P w K mg base (k + 1) x (spG K Wp Fp) [] := by
  refine ⟨f, fd, ps, [], hm, F.ok S (fun vs H Q E h => ?_) (fun cdv A outer s H vs Q E hr h => ?_), .nil, b, F.kp⟩
  · obtain ⟨W, W', O, S', g, Q', h1, h2, h3, h4, h5⟩ := h
    exact (RepA.len h3).trans ha
  · obtain ⟨W, W', O, S', g, Q', h1, h2, h3, h4, h5⟩ := h
    obtain ⟨t, ht, hs⟩ := hb cdv A outer s H E hr
    refine ⟨t, ht, hs W W' h1 g Q' h4 O S' H _ (start_cf h2 h3 ha hn) _ ⟨fun _ _ _ _ _ _ z => z.elim, fun _ _ _ _ _ _ z => z.elim, fun _ _ _ _ _ _ z => z.elim, fun _ _ _ _ _ _ z => z.elim, fun q o S2 H2 m fr ⟨le, kvs, xs, e, r, nd, p⟩ => ?_⟩⟩
    subst e
    exact h5 q kvs S2 H2 xs (m.wle le) (fr.wle le) r nd p
end
/-- the order of a call by keywords -/
def kwp_210 {α : Type} : List α → List α
  | [a, b, c] => [c, b, a]
  | xs => xs
def kwp_3210 {α : Type} : List α → List α
  | [a, b, c, d] => [d, c, b, a]
  | xs => xs
/-! ### iterables within a block: K told -/
section
variable {X : Cx} {K : Frag} {tg l : Expr} {tl : TE}
theorem pi_listK (e : X.K = K) (h : PE X l tl) : PI X tg l (iList K tl) := by
  subst e
  exact pi_list h
theorem pi_tupK (e : X.K = K) (h : PE X l tl) : PI X tg l (iTup K tl) := by
  subst e
  exact pi_tup h
end
end DW
set_option maxHeartbeats 4000000
/-! DW: a for over new lists of texts, whose item may be returned as a new thing; extend -/
namespace DW
open PySem PySem.Spec PyProof.Rows L2
structure NwL (R : Hp) where
  l : List Str
instance {R : Hp} : Rep (NwL R) where
  rep K S v x := ∃ a, v = .ref a ∧ R a = some (.lst (x.l.map V.str)) ∧ S a = R a
  mono := fun e ⟨a, h1, h2, h3⟩ => ⟨a, h1, h2, (e a _ (h3.trans h2)).trans h2.symm⟩
def uni (S R : Hp) : Hp := fun a => match S a with
  | some o => some o
  | none => R a
theorem uni_l {S R : Hp} {a : Addr} {o : HO} (h : S a = some o) : uni S R a = some o := by
  unfold uni
  rw [h]
theorem uni_r {S R : Hp} {a : Addr} (h : S a = none) : uni S R a = R a := by
  unfold uni
  rw [h]
theorem uni_ex {S R : Hp} : Ex S (uni S R) := fun _ _ h => uni_l h
def EvNewL (W : Wd) (K : Frag) (wi : TI) (δ : DEnv) (P : List (List Str) → Prop) : Prop := ∀ O S H σ, Stt W K O S H σ δ → ∀ Rr : It → Hp → Prop,
  (∀ J (R : Hp) H' (xs : List (NwL R)), (∀ a, R a ≠ none → S a = none ∧ ¬ O a) → Good W O (uni S R) H' → (∀ a, O a → H' a = H a) → (∀ a, S a ≠ none → H' a = H a) → ItOk K (fun _ => False) J xs (uni S R) H' → P (xs.map NwL.l) → Rr J H') → wi σ H Rr
section
variable {W We : Wd} {K : Frag} {δ : DEnv} {te : TE} {wi : TI} {g : TG} {tb : TS} {ς : Type}
theorem evnew_call {P : List (List Str) → Prop} {F : List Str × Unit → (List (List Str) → Prop) → Prop} {E : XK} (h : EvF W W K te δ fun xs : List Str => F (xs, ()) P) : EvNewL W K (iList K (tCall (spD K AnyW F) [] E (tCons te tNil))) δ P := fun O S H σ s Rr q =>
  h O S H σ s _ fun p vs S1 H1 ys m f rv hF => by
    have ev : vs = ys.map V.str := flat_reps rv
    subst ev
    have g2 : Good W (fun a => O a ∨ S1 a ≠ none) (onlyAt H1 p) H1 := by
      refine ⟨only_sub, m.good.ok, fun a z => ?_, fun a z y => y.elim (m.good.fpO a z) fun y => y (m.good.fpS a z), fun a z => ?_, fun a z => z.elim (m.good.oH a) fun y w => y (m.good.sub.nn w)⟩
      · unfold onlyAt
        rw [if_neg fun e => f.f (by rw [← e]; exact z)]
      · unfold onlyAt
        rw [if_neg fun e => by
          rw [e] at z
          exact z.elim f.o fun y => y f.s]
    refine ⟨W, W, _, _, (ys, ()), P, rfl, g2, ⟨_, [], rfl, ⟨p, _, rfl, by unfold onlyAt; rw [if_pos rfl]; exact f.at_, reps_flat⟩, rfl⟩, hF, fun v S3 H3 y m3 r3 py => ?_⟩
    obtain ⟨b, us, eb, hb, ru⟩ := r3
    subst eb
    have s1n : ∀ {a}, S a ≠ none → S1 a ≠ none := fun {a} z => m.ex.nn z
    have dis : ∀ a, S3 a ≠ none → S a = none ∧ ¬ O a := fun a z => by
      refine ⟨?_, fun y => z (m3.good.oS a (.inl y))⟩
      cases e : S a with
      | none => rfl
      | some o => exact absurd (m3.good.oS a (.inr (s1n (by rw [e]; intro w; cases w)))) z
    have kpO : ∀ a, O a → H3 a = H a := fun a z => (m3.keep a (.inl z)).trans (m.keep a z)
    have kpS : ∀ a, S a ≠ none → H3 a = H a := fun a z => (m3.keep a (.inr (s1n z))).trans (m.stay a z)
    have gd : Good W O (uni S S3) H3 := by
      refine ⟨fun a o z => ?_, m3.good.ok, fun a z => ?_, fun a z y => m3.good.fpO a z (.inl y), fun a z => ?_, fun a z => m3.good.oH a (.inl z)⟩
      · cases e : S a with
        | none =>
          rw [uni_r e] at z
          exact m3.good.sub a o z
        | some o' =>
          rw [uni_l e] at z
          cases z
          rw [kpS a (by rw [e]; intro w; cases w)]
          exact s.g.sub a _ e
      · cases e : S a with
        | none =>
          rw [uni_r e]
          exact m3.good.fpS a z
        | some o' => exact absurd (.inr (s1n (by rw [e]; intro w; cases w))) (m3.good.fpO a z)
      · rw [uni_r (s.g.oS a z)]
        exact m3.good.oS a (.inl z)
    have nn : ∀ {a : Addr} {o : HO}, S3 a = some o → uni S S3 a = some o := fun {a o} z => by
      rw [uni_r (dis a (by rw [z]; intro w; cases w)).1]
      exact z
    have rx : ∀ {us : List V} {y : List (List Str)}, Reps K S3 us y → Reps K (uni S S3) us (y.map fun l => (⟨l⟩ : NwL S3)) := fun {us y} r => by
      induction r with
      | nil => exact .nil
      | cons r t ih =>
        obtain ⟨a, ws, ea, ha, rw_⟩ := r
        have ew : ws = _ := flat_reps rw_
        subst ew ea
        exact .cons ⟨a, rfl, ha, (nn ha).trans ha.symm⟩ ih
    refine ⟨b, rfl, ⟨us, .inl (.inl (m3.good.sub.lst hb))⟩, q (Itl K b) S3 H3 (y.map fun l => ⟨l⟩) dis gd kpO kpS (it_list (.inl (nn hb)) gd.sub (rx ru)) ?_⟩
    rw [List.map_map, show (NwL.l ∘ fun l => (⟨l⟩ : NwL S3)) = id from rfl, List.map_id]
    exact py
theorem sd_forNew {D : DE Unit} {Pf : List Str → Prop} (hD : D.rg = rgF K We Pf) (enc : ς → DEnv) {B : List Str → ς → (ς → Prop) → (ς → Prop) → Prop} {k : ς → Prop} {s0 : ς} (h : EvNewL W K wi (enc s0) fun xs => forW B k xs s0)
    (hb : ∀ (R : Hp) (x : NwL R) s (nx : ς → Prop), B x.l s nx k → Tg W K g x (enc s) fun δ2 => Sd (β := NwL R) W K tb δ2 { nx := fun W' δ' => Wle W' W ∧ ∃ s', δ' = enc s' ∧ nx s', ct := fun W' δ' => Wle W' W ∧ ∃ s', δ' = enc s' ∧ nx s', bk := D.nx, rt := fun W' y => Wle W' We ∧ Pf y.l })
    (hk : ∀ s, k s → D.nx W (enc s)) : Sd W K (tFor wi g tb) (enc s0) D := fun O S H σ c E r =>
  h _ S H σ c.stt _ fun J R H1 xs hR gd ko ks it w => by
    have mo0 : Mo O S H (uni S R) H1 := ⟨uni_ex, fun a z => ko a (.inl z), ks⟩
    have c1 : Cf W K O (uni S R) H1 σ (enc s0) := ⟨gd, ⟨c.sl.1, fun j d hd => by
      obtain ⟨ov, e, ok⟩ := c.sl.2 j d hd
      exact ⟨ov, e, ok.mv uni_ex fun ho a ea => ko a (.inr ⟨j, d, hd, ho, by rw [e, ea]⟩)⟩⟩, c.dst, c.out⟩
    have r1 : Reach (β := NwL R) K O (uni S R) H1 { nx := D.nx, bk := fun _ _ => False, ct := fun _ _ => False, rt := fun W' y => Wle W' We ∧ Pf y.l } E := by
      refine ⟨fun S' H' σ' δ' m c' q => r.nx S' H' σ' δ' (mo0.trans m) c' q, fun _ _ _ _ _ _ z => z.elim, fun _ _ _ _ _ _ z => z.elim, fun v S' H' y m hy p => ?_, fun _ _ _ _ _ _ z => z.elim⟩
      obtain ⟨a, rfl, h1, h2⟩ := hy
      have sa := hR a (by rw [h1]; intro z; cases z)
      have ha : S' a = some (.lst (y.l.map V.str)) := h2.trans h1
      have exS : Ex S S' := uni_ex.trans m.ex
      have g' := m.good
      refine r.rg a _ S H' ⟨Ex.refl S, fun x z => (m.keep x z).trans (ko x (.inl z)), fun x z => (m.stay x (uni_ex.nn z)).trans (ks x z), ⟨fun x o z => g'.sub x o (exS x o z), g'.ok, fun x z => ?_, g'.fpO, fun x z => c.good.oS x z, g'.oH⟩⟩ ⟨g'.sub.lst ha, sa.1, fun z => ?_, fun z => sa.2 (.inl z)⟩ (by
        rw [hD]
        exact ⟨p.1, _, y.l, rfl, reps_flat, p.2⟩)
      · cases e : S x with
        | none => rfl
        | some o =>
          have := g'.fpS x z
          rw [exS x o e] at this
          cases this
      · have := g'.fpS a z
        rw [ha] at this
        cases this
    exact for_run (fun _ => W) it c1 r1 (fun i δ' => ∃ s, δ' = enc s ∧ forW B k ((xs.map NwL.l).drop i) s) ⟨s0, rfl, w⟩ (fun i x δ' hi hx ⟨s, e, hw⟩ => by
      subst e
      have hx' : (xs.map NwL.l)[i]? = some x.l := by
        rw [List.getElem?_map, hx]
        rfl
      refine (fun O S H σ v c rv Q q => hb R x s _ (forW_drop hx' hw) O S H σ v c rv Q fun σ' δ' c' n => q σ' δ' c' (n.imp (fun W' δ2 z => ?_) (fun _ _ z => z) (fun _ _ z => z) (fun W' δ2 z => ?_)))
      · exact ⟨z.1, z.2⟩
      · exact ⟨z.1, z.2⟩) fun δ' ⟨s, e, hw⟩ => by
      subst e
      rw [← List.length_map (f := NwL.l), List.drop_length] at hw
      exact hk s hw
/-- the item read as a list of texts -/
theorem ev_varN {R : Hp} {x : NwL R} {i : Nat} {P : List Str → Prop} (hi : δ[i]? = some (sD x)) (p : P x.l) : Ev W W K (tVar i) δ P := fun O S H σ s Q q => by
  obtain ⟨ov, e, v, ev, a, ea, h1, h2⟩ := s.sl.2 i _ hi
  subst ev ea
  exact ⟨_, e, q _ S H _ (Mv.refl s.g) ⟨a, _, rfl, h2.trans h1, reps_flat⟩ p⟩
end
section
variable {W W1 : Wd} {K : Frag} {δ : DEnv} {te : TE} {i : Nat} {β : Type} [Rep β] {D : DE β}
theorem sd_extend {α : Type} [ri : Rep α] {xs : List α} (hi : δ[i]? = some (.ol ri xs)) (h : Ev W W1 K te δ fun ys : List α => xs.length + ys.length ≤ 100000 ∧ D.nx W1 (δ.set i (sL (xs ++ ys)))) : Sd W K (tDrop (tBM K "list" rExtend (tVar i) (tCons te tNil))) δ D := fun O S H σ c E r => by
  obtain ⟨ov, e, q, vs, eq, hq, rv⟩ := c.sl.2 i _ hi
  subst eq
  refine ⟨_, e, .inl ⟨rfl, vs, .inl (.inl hq)⟩, ?_⟩
  refine h _ S H σ c.stt _ fun v S1 H1 ys m ⟨b, us, eb, hb, ru⟩ p => ?_
  subst eb
  have c1 := c.mv m
  have hq1 : H1 q = some (.lst vs) := (m.keep q (.inr ⟨i, _, hi, rfl, e⟩)).trans hq
  have rv' : Reps K S1 vs xs := Reps.mono m.ex rv
  refine ⟨q, b, vs, us, rfl, rfl, hq1, m.good.sub.lst hb, ?_, ?_⟩
  · rw [reps_len rv', reps_len ru]
    exact small_len p.1
  · have app : ∀ {as bs : List V} {xs ys : List α}, Reps K S1 as xs → Reps K S1 bs ys → Reps K S1 (as ++ bs) (xs ++ ys) := fun {as bs xs ys} r1 r2 => by
      induction r1 with
      | nil => exact r2
      | cons r t ih => exact .cons r (ih)
    have k := c1.wr (d' := sL (xs ++ ys)) (o := .lst (vs ++ us)) hi rfl e rfl ⟨q, _, rfl, upd_same, app rv' ru⟩
    exact r.nx S1 _ σ _ ((m.mo fun _ z => .inl z).trans k.2) k.1 p.2
theorem sd_extendZ {α : Type} [ri : Rep α] {xs : List α} (hi : δ[i]? = some (.ol ri xs)) (h : Ev W W1 K te δ fun ys : List α => xs.length + ys.length ≤ 100000 ∧ ∀ z, z = xs ++ ys → D.nx W1 (δ.set i (sL z))) : Sd W K (tDrop (tBM K "list" rExtend (tVar i) (tCons te tNil))) δ D :=
  sd_extend hi (h.imp fun ys q => ⟨q.1, q.2 _ rfl⟩)
end
end DW
set_option maxHeartbeats 4000000
/-! DW: stars in nested blocks; zip of a tuple and a list; enumerate of a tuple -/
namespace DW
open PySem PySem.Spec PyProof.Rows L2
theorem pa_starK {X : Cx} {K : Frag} {e : Expr} {es : List Expr} {te : TE} {t : TA} {p : Pos} (k : X.K = K) (he : PE X e te) (hr : PA X es t) (hs : starEach (.Starred e p :: es) X.env = (true, eval e X.env) :: starEach es X.env := by rfl) : PA X (.Starred e p :: es) (StX.tStar K te t) := by
  subst k
  exact StX.pa_star he hr hs
/-- what a two-part iterator over new pairs asks and gives -/
def itPairs (A B : Hp → List V → Prop) : It :=
  ⟨fun i H => ∃ xs ys x y, A H xs ∧ B H ys ∧ xs[i]? = some x ∧ ys[i]? = some y,
    fun i H v H' => ∃ T x y, v = .ref T ∧ H T = none ∧ H' = upd H T (.tup [x, y]) ∧ (∀ xs, A H xs → xs[i]? = some x) ∧ ∀ ys, B H ys → ys[i]? = some y,
    fun i H => ∃ xs ys, A H xs ∧ B H ys ∧ i = min xs.length ys.length⟩
/-- a kind of sequence: its contract, its iterator, its object -/
structure SqKind (K : Frag) (A : Addr → Hp → List V → Prop) (It : Heap → Addr → Addr → Nat → Prop) (Is : Heap → Addr → Array Value → Prop) : Prop where
  get : ∀ {X : Cx}, X.K = K → ∀ {pins σ H s a xs}, Inv X pins σ H s → A a H xs → ∃ its : List Value, Vals xs its ∧ Is s.heap a its.toArray
  inj : ∀ {X : Cx}, X.K = K → ∀ {pins σ H s a xs ys}, Inv X pins σ H s → A a H xs → A a H ys → xs = ys
  iobj : ∀ {h i a n}, It h i a n → ∃ o, h.get? i = some o ∧ ∀ v, o.data ≠ .cell v
  ikeep : ∀ {h h' i a n}, It h i a n → (∀ o, h.get? i = some o → h'.get? i = some o) → It h' i a n
  lt : ∀ {h a its}, Is h a its → a < h.objs.size
  draws : ∀ {prog : Program} {w : World} {B : Around}, B.handled = none → ∀ i a, a ≠ i → ∀ its : Array Value, Draws prog w B i [i, a] its.size (fun j v => its[j]? = some v) (fun j h => It h i a j ∧ Is h a its)
  begins : ∀ (a : Addr) (its : Array Value), ∃ o, Begins (.ref a) o (fun h => Is h a its) ∧ ∀ h i, h.get? i = some o → It h i a 0
theorem sqk_list {K : Frag} : SqKind K (fun a H xs => SqL K H a xs) (fun h i a n => h.IsListIter i a n) (fun h a its => h.IsList a its) where
  get := fun {X} k pins σ H s a xs I h => by
    subst k
    obtain ⟨its, rv, p, _⟩ := I.list h
    exact ⟨its, rv, p.isList⟩
  inj := fun {X} k pins σ H s a xs ys I h h2 => by
    subst k
    exact I.list_inj h h2
  iobj := fun {h i a n} st => let ⟨o, e, _, d⟩ := st; ⟨o, e, fun v q => by rw [d] at q; cases q⟩
  ikeep := fun {h h' i a n} st k => st.at k
  lt := fun {h a its} st => by
    obtain ⟨o, e, _⟩ := st
    exact Heap.lt_size e
  draws := fun {prog w B} hh i a ne its => Draws.list hh i a ne its
  begins := fun a its => ⟨_, begins_list a its, fun h i e => ⟨_, e, rfl, rfl⟩⟩
theorem sqk_tup {K : Frag} : SqKind K (fun a H xs => SqT K H a xs) (fun h i a n => h.IsTupleIter i a n) (fun h a its => h.IsTuple a its) where
  get := fun {X} k pins σ H s a xs I h => by
    subst k
    obtain ⟨its, rv, p, _⟩ := I.tuple h
    exact ⟨its, rv, p⟩
  inj := fun {X} k pins σ H s a xs ys I h h2 => by
    subst k
    exact I.tuple_inj h h2
  iobj := fun {h i a n} st => let ⟨o, e, _, d⟩ := st; ⟨o, e, fun v q => by rw [d] at q; cases q⟩
  ikeep := fun {h h' i a n} st k => st.at k
  lt := fun {h a its} st => by
    obtain ⟨o, e, _⟩ := st
    exact Heap.lt_size e
  draws := fun {prog w B} hh i a ne its => Draws.tuple hh i a ne its
  begins := fun a its => ⟨_, begins_tuple a its, fun h i e => ⟨_, e, rfl, rfl⟩⟩
section
variable {K : Frag} {A1 A2 : Addr → Hp → List V → Prop} {J1 J2 : Heap → Addr → Addr → Nat → Prop} {G1 G2 : Heap → Addr → Array Value → Prop}
theorem turn_pairs (k1 : SqKind K A1 J1 G1) (k2 : SqKind K A2 J2 G2) {P : Program} {w : World} {elts : List Expr} {kk : Nat} {tpos : Pos} {a b z TI TO i1 i2 : Addr} (n1 : a ≠ i1) (n2 : b ≠ i2) (D : ZipSep2 z TI TO i1 i2 [i1, a] [i2, b]) :
    Turn P w K (.Tuple elts kk tpos) (itPairs (A1 a) (A2 b)) [z, TI, TO, i1, i2] z (fun i h => IsZip h z TI TO .none ∧ IsTupOf2 h TI (.ref i1) (.ref i2) ∧ (∃ x y, IsTupOf2 h TO x y) ∧ J1 h i1 a i ∧ J2 h i2 b i) where
  mem := by simp
  obj := fun i h st c hc => by
    obtain ⟨hz, hTI, ⟨x, y, hTO⟩, h1, h2⟩ := st
    have e' : c = z ∨ c = TI ∨ c = TO ∨ c = i1 ∨ c = i2 := by simpa using hc
    rcases e' with q | q | q | q | q <;> subst q
    · exact ⟨_, hz, fun v q => nomatch q⟩
    · exact ⟨_, hTI, fun v q => nomatch q⟩
    · exact ⟨_, hTO, fun v q => nomatch q⟩
    · exact k1.iobj h1
    · exact k2.iobj h2
  keep := fun i h h' st k => by
    obtain ⟨hz, hTI, ⟨x, y, hTO⟩, h1, h2⟩ := st
    exact ⟨k z (by simp) _ hz, k TI (by simp) _ hTI, ⟨x, y, k TO (by simp) _ hTO⟩, k1.ikeep h1 fun o q => k i1 (by simp) o q, k2.ikeep h2 fun o q => k i2 (by simp) o q⟩
  item := by
    intro X hP hw hK hc i pins s σ H E I hf st hg
    subst hP hw
    obtain ⟨hz, hTI, ⟨x0, y0, hTO⟩, h1, h2⟩ := st
    obtain ⟨xs, ys, x, y, qa, qb, hx, hy⟩ := hg
    obtain ⟨its, rv, p⟩ := k1.get hK I qa
    obtain ⟨its2, rv2, p2⟩ := k2.get hK I qb
    obtain ⟨u, hu, ru⟩ := rv.get hx
    obtain ⟨u2, hu2, ru2⟩ := rv2.get hy
    have hzl : z < s.heap.objs.size := Heap.lt_size hz
    have D1 := k1.draws (prog := X.prog) (w := X.w) (B := X.A.in1) (I.ok.hd hc) i1 a n1 its.toArray
    have D2 := k2.draws (prog := X.prog) (w := X.w) (B := X.A.in1) (I.ok.hd hc) i2 b n2 its2.toArray
    have l1 : i < its.toArray.size := by
      rw [List.size_toArray]
      exact (List.getElem?_eq_some_iff.mp hu).1
    have l2 : i < its2.toArray.size := by
      rw [List.size_toArray]
      exact (List.getElem?_eq_some_iff.mp hu2).1
    refine wpAny_pyNext_zipD2_item D D1 D2 hz hTI hTO ⟨h1, p⟩ ⟨h2, p2⟩ l1 l2 fun w1 w2 h' tk e1 e2 z' TO' h1' h2' hT hsz hk => ?_
    obtain rfl : w1 = u := by
      rw [List.getElem?_toArray, hu] at e1
      exact (Option.some.inj e1).symm
    obtain rfl : w2 = u2 := by
      rw [List.getElem?_toArray, hu2] at e2
      exact (Option.some.inj e2).symm
    refine ⟨_, rfl, wpAny_letOwnedTupleGo_zip (s := { s with heap := h', toks := tk }) z' fun h'' z'' sb => ?_⟩
    have hT2 : h''.get? s.heap.objs.size = some { cls := .type "tuple", data := .seq #[w1, w2] } := (sb.2 _ (Nat.ne_of_gt hzl)).trans hT
    have new : ObjOk X.prog X.w (upd H s.heap.objs.size (.tup [x, y])) h'' s.heap.objs.size (.tup [x, y]) :=
      ⟨by show 2 ≤ sizeLine; decide, [w1, w2], .cons ru (.cons ru2 .nil), ⟨_, hT2, rfl, _, rfl⟩⟩
    have I1 : Inv X pins σ (upd H s.heap.objs.size (.tup [x, y])) { s with heap := h'', toks := tk } :=
      I.turnedNew (t' := tk) (ch := [z, TI, TO, i1, i2]) (fun c o hb q => (sb.2 c (fun q' => hb (by simp [q']))).trans (hk c o (fun q' => hb (by simp [q'])) (fun q' => hb (by simp [q'])) (fun q' => hb (by simp [q'])) (fun q' => hb (by simp [q'])) q)) hf (Nat.le_refl _) new
    refine ⟨.ref s.heap.objs.size, _, I1, rfl, ⟨_, x, y, rfl, I.hok.fresh (Nat.le_refl _), rfl, fun l hl => by rw [k1.inj hK I hl qa]; exact hx, fun l hl => by rw [k2.inj hK I hl qb]; exact hy⟩, ⟨z'', ?_, ⟨w1, w2, ?_⟩, ?_, ?_⟩, fun c hcm => ?_⟩
    · exact (sb.2 _ D.TIz).trans (hk _ _ D.TIz D.TITO D.TIi1 D.TIi2 hTI)
    · exact (sb.2 _ D.TOz).trans TO'
    · exact k1.ikeep h1'.1 fun o q => (sb.2 _ (Ne.symm D.zi1)).trans q
    · exact k2.ikeep h2'.1 fun o q => (sb.2 _ (Ne.symm D.zi2)).trans q
    · have hlt : c < s.heap.objs.size := by
        have e' : c = z ∨ c = TI ∨ c = TO ∨ c = i1 ∨ c = i2 := by simpa using hcm
        rcases e' with q | q | q | q | q <;> subst q
        · exact hzl
        · exact Heap.lt_size hTI
        · exact Heap.lt_size hTO
        · obtain ⟨o, e, _⟩ := k1.iobj h1; exact Heap.lt_size e
        · obtain ⟨o, e, _⟩ := k2.iobj h2; exact Heap.lt_size e
      rw [upd_ne (Nat.ne_of_lt hlt)]; exact (hf c hcm).1
  done := by
    intro X hP hw hK hc i pins s σ H E I hf st hg
    subst hP hw
    obtain ⟨hz, hTI, ⟨x0, y0, hTO⟩, h1, h2⟩ := st
    obtain ⟨xs, ys, qa, qb, hend⟩ := hg
    obtain ⟨its, rv, p⟩ := k1.get hK I qa
    obtain ⟨its2, rv2, p2⟩ := k2.get hK I qb
    have la := rv.length
    have lb := rv2.length
    have D1 := k1.draws (prog := X.prog) (w := X.w) (B := X.A.in1) (I.ok.hd hc) i1 a n1 its.toArray
    have D2 := k2.draws (prog := X.prog) (w := X.w) (B := X.A.in1) (I.ok.hd hc) i2 b n2 its2.toArray
    have z1 : its.toArray.size = its.length := List.size_toArray ..
    have z2 : its2.toArray.size = its2.length := List.size_toArray ..
    refine wpAny_pyNext_zipD2_end D D1 D2 hz hTI hTO ⟨h1, p⟩ ⟨h2, p2⟩ (by omega) (by omega) (by omega) fun h' tk kk => ⟨rfl, I.turnedL (t' := tk) (ch := [z, TI, TO, i1, i2]) (fun c o hb q =>
      kk c o (fun q' => hb (by simp [q'])) (fun q' => hb (by simp [q'])) (fun q' => hb (by simp [q'])) (fun q' => hb (by simp [q'])) q) hf⟩
  self := fun A i s Q E st h => wpAny_pyIter_zip st.1 h
def iPairs (A1 A2 : Addr → Hp → List V → Prop) (ta : TA) : TI := fun σ H R => ta σ H fun vs H1 => ∃ a b xs ys, vs = [.ref a, .ref b] ∧ A1 a H1 xs ∧ A2 b H1 ys ∧ R (itPairs (A1 a) (A2 b)) H1
theorem pi_pairs (k1 : SqKind K A1 J1 G1) (k2 : SqKind K A2 J2 G2) {X : Cx} {e e2 : Expr} {ta : TA} {p pos tpos : Pos} {elts : List Expr} {kk : Nat} (hK : X.K = K) (hg : Gl X "zip") (hm : X.mg "zip" = none) (ha : PA X [e, e2] ta)
    (hs : starEach [e, e2] X.env = (false, eval e X.env) :: starEach [e2] X.env := by rfl) (hpl : (backTo pos (starEach [e2] X.env)).any (·.1) = false := by rfl) : PI X (.Tuple elts kk tpos) (.Call (.Name "zip" p) [e, e2] [] pos) (iPairs A1 A2 ta) := by
  refine ⟨fun pins s σ H R I h => Call_ (ld_blt I hg hm PyProof.Rows.boot_zip (PyProof.Rows.callWith_type1 (thn (ha.run pos pins s σ H _ I h) fun us s1 hh => ?_) hs hpl))⟩
  obtain ⟨vs, H1, I1, r1, a, b, xs, ys, ex, qa, qb, q⟩ := hh
  subst ex
  obtain ⟨u, u', eu, ra, rb⟩ := vals2 r1
  subst eu
  obtain rfl : u = Value.ref a := ra
  obtain rfl : u' = Value.ref b := rb
  obtain ⟨its, va, p1⟩ := k1.get hK I1 qa
  obtain ⟨its2, vb, p2⟩ := k2.get hK I1 qb
  obtain ⟨o1, B1, f1⟩ := k1.begins a its.toArray
  obtain ⟨o2, B2, f2⟩ := k2.begins b its2.toArray
  have la := k1.lt p1
  have lb := k2.lt p2
  refine zip_begins2 B1 B2 p1 p2 fun h' hz hTI hTO g1 g2 ksz kp => wpAny_pyIter_zip hz ?_
  have I2 : Inv X pins σ H1 { s1 with heap := h' } := I1.kept (t' := s1.toks) kp
  have new : ∀ c, c ∈ [s1.heap.objs.size + 4, s1.heap.objs.size + 2, s1.heap.objs.size + 3, s1.heap.objs.size, s1.heap.objs.size + 1] → FpOk X pins H1 c := fun c hc => by
    have le' : ∀ n : Nat, s1.heap.objs.size ≤ s1.heap.objs.size + n := fun n => Nat.le_add_right _ n
    have le : s1.heap.objs.size ≤ c := by
      have z : c = s1.heap.objs.size + 4 ∨ c = s1.heap.objs.size + 2 ∨ c = s1.heap.objs.size + 3 ∨ c = s1.heap.objs.size ∨ c = s1.heap.objs.size + 1 := by simpa using hc
      rcases z with z | z | z | z | z <;> rw [z] <;> first | exact le' _ | exact Nat.le_refl _
    exact I1.fpOk le (I1.hok.fresh le)
  have D := zip_sep2 (N := s1.heap.objs.size) (fp1 := [a]) (fp2 := [b]) (fun c hc => by rw [List.mem_singleton.mp hc]; exact la) (fun c hc => by rw [List.mem_singleton.mp hc]; exact lb)
  subst hK
  exact ⟨s1.heap.objs.size + 4, _, _, _, H1, rfl, I2, turn_pairs k1 k2 (Nat.ne_of_lt la) (Nat.ne_of_lt (Nat.lt_succ_of_lt lb)) D, ⟨hz, hTI, ⟨_, _, hTO⟩, f1 _ _ g1, f2 _ _ g2⟩, new, q⟩
end
theorem it_pairs {α β : Type} [Rep α] [Rep β] {K : Frag} {Fx : Addr → Prop} {S0 H0 : Hp} {A B : Hp → List V → Prop} {vs us : List V} {xs : List α} {ys : List β}
    (hA : ∀ {W : Wd} O S H, Ex S0 S → Good W O S H → A H vs) (hB : ∀ {W : Wd} O S H, Ex S0 S → Good W O S H → B H us) (r : Reps K S0 vs xs) (r2 : Reps K S0 us ys) : ItOk K Fx (itPairs A B) (List.zip xs ys) S0 H0 := fun i O S H ex fx st g => by
  have qa := hA O S H ex g
  have qb := hB O S H ex g
  refine ⟨fun x hx => ?_, fun e => ⟨vs, us, qa, qb, ?_⟩⟩
  · rw [List.getElem?_zip_eq_some] at hx
    obtain ⟨v, hv, rv⟩ := Paired.at r hx.1
    obtain ⟨u, hu, ru⟩ := Paired.at r2 hx.2
    refine ⟨⟨vs, us, v, u, qa, qb, hv, hu⟩, fun z H' y => ?_⟩
    obtain ⟨T, x', y', e, hT, eH, f1, f2⟩ := y
    subst e eH
    have e1 : x' = v := Option.some.inj ((f1 vs qa).symm.trans hv)
    have e2 : y' = u := Option.some.inj ((f2 us qb).symm.trans hu)
    subst e1 e2
    have ex2 := ex.trans (Ex.upd (o := .tup [x', y']) (g.sub.nn hT))
    exact ⟨_, Mv.new g hT, T, _, _, rfl, .inl (.inl upd_same), Rep.mono ex2 rv, Rep.mono ex2 ru⟩
  · rw [e, List.length_zip, reps_len r, reps_len r2]
abbrev iZipTL (K : Frag) (ta : TA) : TI := iPairs (fun a H xs => SqT K H a xs) (fun a H xs => SqL K H a xs) ta
theorem pi_zipTL {X : Cx} {e e2 : Expr} {ta : TA} {p pos tpos : Pos} {elts : List Expr} {kk : Nat} (hg : Gl X "zip") (hm : X.mg "zip" = none) (ha : PA X [e, e2] ta)
    (hs : starEach [e, e2] X.env = (false, eval e X.env) :: starEach [e2] X.env := by rfl) (hpl : (backTo pos (starEach [e2] X.env)).any (·.1) = false := by rfl) : PI X (.Tuple elts kk tpos) (.Call (.Name "zip" p) [e, e2] [] pos) (iZipTL X.K ta) :=
  pi_pairs sqk_tup sqk_list rfl hg hm ha hs hpl
theorem evi_zipTL {α β : Type} [Rep α] [Rep β] {W W1 : Wd} {K : Frag} {δ : DEnv} {ta : TA} {P : List (α × β) → Prop} (h : EvA W W1 K ta δ fun g : Tp α × List β × Unit => P (List.zip g.1.l g.2.1)) : EvI W W1 K (iZipTL K ta) δ P := fun O S H σ s R q =>
  h O S H σ s _ fun ws S1 H1 g m hr p => by
    obtain ⟨v1, r1, e1, ⟨a, vs, ea, ha, ra⟩, v2, r2, e2, ⟨b, us, eb, hb, rb⟩, e3⟩ := hr
    have e3' : r2 = [] := e3
    subst e3' eb e2 ea e1
    exact ⟨a, b, vs, us, rfl, m.good.sub.sqT ha, .inl (.inl (m.good.sub.lst hb)), q _ S1 H1 _ m (it_pairs (fun O S H ex g => g.sub.sqT (ex.sqT ha)) (fun O S H ex g => .inl (.inl (g.sub.lst (ex _ _ hb)))) ra rb) p⟩
/-! ### enumerate of a tuple -/
def itEnum (A : Hp → List V → Prop) : It :=
  ⟨fun i H => ∃ xs x, A H xs ∧ xs[i]? = some x,
    fun i H v H' => ∃ T x, v = .ref T ∧ H T = none ∧ H' = upd H T (.tup [.int (i : Nat), x]) ∧ ∀ xs, A H xs → xs[i]? = some x,
    fun i H => ∃ xs, A H xs ∧ i = xs.length⟩
theorem meets_enumerate_new1 {v : Value} {o : Obj} {H : Heap → Prop} (B : Begins v o H) :
    Meets (Builtin.«enumerate.__new__» ⟨[.type "enumerate", v], []⟩) (fun _ R s => H s.heap ∧
      R (.ok (.ret (.ref (s.heap.push o).objs.size))) { s with heap := (s.heap.push o).push { cls := .type "enumerate", data := .fields #[.none, .bool false, .ref s.heap.objs.size, rawInt 0, .none, .none] } }) :=
  .of_wp fun prog w A R s h => by
    obtain ⟨hp, g, d, tk, os⟩ := s; obtain ⟨h1, h⟩ := h
    have hsub := sub_enumerate
    have q1 : ∀ {A' : Around} {E : Value → Shared → Prop} {Q : Value → Shared → Prop}, Q (.ref hp.objs.size) ⟨hp.push o, g, d, tk, os⟩ → wpAny (model prog w) A' (pyIter v) Q E ⟨hp, g, d, tk, os⟩ :=
      fun q => B.iter prog w _ _ ⟨hp, g, d, tk, os⟩ _ h1 q
    wp_walk using q1
    refine wpAny_stack_any fun st => wpAny_pure ?_
    split
    · rename_i c _ _ _ _ _
      cases (c == Value.type "enumerate")
      · wp_walk using q1
        exact ⟨_, rfl, h⟩
      · wp_walk using q1
        exact ⟨_, rfl, h⟩
    · wp_walk using q1
      exact ⟨_, rfl, h⟩
theorem enum_begins1 {prog : Program} {w : World} {A : Around} {E : Value → Shared → Prop} {s : Shared} {v : Value} {o : Obj} {H : Heap → Prop} {Q : Value → Shared → Prop} (B : Begins v o H) (h1 : H s.heap)
    (h : ∀ h', IsEnum h' (s.heap.objs.size + 1) s.heap.objs.size 0 .none → h'.get? s.heap.objs.size = some o → h'.objs.size = s.heap.objs.size + 2 →
      (∀ b o, s.heap.get? b = some o → h'.get? b = some o) → Q (.ref (s.heap.objs.size + 1)) { s with heap := h' }) :
    wpAny (model prog w) A (call (.type "enumerate") [v]) Q E s := by
  refine callType_new F.called_enumerate (by decide) (F.typeCall_enumerate_1 _) (F.newCall_enumerate_1 _) (fun obj => F.args_object_init_2 obj _) F.entry_enumerate_new (meets_enumerate_new1 B) ⟨h1, ?_⟩
  have hz : (s.heap.push o).objs.size = s.heap.objs.size + 1 := Heap.size_push ..
  show _ ∧ _
  rw [hz]
  have he : IsEnum ((s.heap.push o).push { cls := .type "enumerate", data := .fields #[.none, .bool false, .ref s.heap.objs.size, rawInt 0, .none, .none] }) (s.heap.objs.size + 1) s.heap.objs.size 0 .none := by
    have := Heap.get?_push_size (s.heap.push o) (o := { cls := .type "enumerate", data := .fields #[.none, .bool false, .ref s.heap.objs.size, rawInt 0, .none, .none] }) rfl
    rw [hz] at this; exact this
  exact ⟨⟨_, he, rfl⟩, h _ he (Heap.get?_push_of_some _ (Heap.get?_push_size _ B.free)) (by rw [Heap.size_push, hz]) fun b o x => Heap.get?_push_of_some _ (Heap.get?_push_of_some _ x)⟩
section
variable {K : Frag} {A1 : Addr → Hp → List V → Prop} {J1 : Heap → Addr → Addr → Nat → Prop} {G1 : Heap → Addr → Array Value → Prop}
theorem turn_enumG (k1 : SqKind K A1 J1 G1) {P : Program} {w : World} {elts : List Expr} {kk : Nat} {tpos : Pos} {a e it : Addr} (n1 : a ≠ it) (hae : a ≠ e) (hne : e ≠ it) :
    Turn P w K (.Tuple elts kk tpos) (itEnum (A1 a)) [e, it] e (fun i h => (∃ old, IsEnum h e it ((i : Nat) : Int) old) ∧ J1 h it a i) where
  mem := by simp
  obj := fun i h st b hb => by
    obtain ⟨⟨old, he⟩, h1⟩ := st
    have e' : b = e ∨ b = it := by simpa using hb
    rcases e' with z | z <;> subst z
    · exact ⟨_, he, fun v q => nomatch q⟩
    · exact k1.iobj h1
  keep := fun i h h' st k => let ⟨⟨old, he⟩, hi⟩ := st; ⟨⟨old, k e (by simp) _ he⟩, k1.ikeep hi fun o q => k it (by simp) o q⟩
  item := by
    intro X hP hw hK hc i pins s σ H E I hf st hg
    subst hP hw
    obtain ⟨⟨old, he⟩, h1⟩ := st
    obtain ⟨xs, x, qa, hx⟩ := hg
    obtain ⟨its, rv, p⟩ := k1.get hK I qa
    obtain ⟨u, hu, ru⟩ := rv.get hx
    have hel : e < s.heap.objs.size := Heap.lt_size he
    have D1 := k1.draws (prog := X.prog) (w := X.w) (B := X.A.in1) (I.ok.hd hc) it a n1 its.toArray
    have l1 : i < its.toArray.size := by
      rw [List.size_toArray]
      exact (List.getElem?_eq_some_iff.mp hu).1
    have hef : e ∉ [it, a] := fun q => by
      rcases List.mem_cons.mp q with q | q
      · exact hne q
      · exact hae (List.mem_singleton.mp q).symm
    refine wpAny_pyNext_enum_itemD D1 he ⟨h1, p⟩ l1 hne hef fun w1 h' tk e1 ho h1' hT hsz hk => ?_
    obtain rfl : w1 = u := by
      rw [List.getElem?_toArray, hu] at e1
      exact (Option.some.inj e1).symm
    refine ⟨_, rfl, wpAny_letOwnedTupleGo_enum (s := { s with heap := h', toks := tk + 1 }) ho fun h'' he' sb => ?_⟩
    have hT2 : h''.get? s.heap.objs.size = some { cls := .type "tuple", data := .seq #[.int i tk, w1] } := (sb.2 _ (Nat.ne_of_gt hel)).trans hT
    have new : ObjOk X.prog X.w (upd H s.heap.objs.size (.tup [.int (i : Nat), x])) h'' s.heap.objs.size (.tup [.int (i : Nat), x]) :=
      ⟨by show 2 ≤ sizeLine; decide, [.int i tk, w1], .cons ⟨_, rfl⟩ (.cons ru .nil), ⟨_, hT2, rfl, _, rfl⟩⟩
    have I1 : Inv X pins σ (upd H s.heap.objs.size (.tup [.int (i : Nat), x])) { s with heap := h'', toks := tk + 1 } :=
      I.turnedNew (ch := [e, it]) (fun b ob hb q => (sb.2 b (fun z => hb (by simp [z]))).trans (hk b ob (fun z => hb (by simp [z])) (fun z => hb (by simp [z])) q)) hf (Nat.le_refl _) new
    refine ⟨.ref s.heap.objs.size, _, I1, rfl, ⟨_, x, rfl, I.hok.fresh (Nat.le_refl _), rfl, fun ys hy => by rw [k1.inj hK I hy qa]; exact hx⟩, ⟨⟨w1, ?_⟩, k1.ikeep h1'.1 fun o q => (sb.2 it (Ne.symm hne)).trans q⟩, fun b hb => ?_⟩
    · have e1 : ((i + 1 : Nat) : Int) = (i : Int) + 1 := by omega
      rw [e1]; exact he'
    · have hb' : b < s.heap.objs.size := by
        have e' : b = e ∨ b = it := by simpa using hb
        rcases e' with z | z <;> subst z
        · exact hel
        · obtain ⟨o, q, _⟩ := k1.iobj h1
          exact Heap.lt_size q
      rw [upd_ne (Nat.ne_of_lt hb')]
      exact (hf b hb).1
  done := by
    intro X hP hw hK hc i pins s σ H E I hf st hg
    subst hP hw
    obtain ⟨⟨old, he⟩, h1⟩ := st
    obtain ⟨xs, qa, hend⟩ := hg
    obtain ⟨its, rv, p⟩ := k1.get hK I qa
    have la := rv.length
    have D1 := k1.draws (prog := X.prog) (w := X.w) (B := X.A.in1) (I.ok.hd hc) it a n1 its.toArray
    have z1 : its.toArray.size = its.length := List.size_toArray ..
    obtain rfl : i = its.toArray.size := by omega
    obtain ⟨f0, f1, f2, f3, f4, f5⟩ := hf it (by simp)
    exact wpAny_pyNext_enum_endD D1 he ⟨h1, p⟩ fun h' eb => ⟨rfl, I.turned (t' := s.toks) (fun b o hb q => eb b o hb q) f0 f1 f3 f4 f5⟩
  self := fun A i s Q E st h => let ⟨⟨_, he⟩, _⟩ := st; wpAny_pyIter_enum he h
def iEnumG (A1 : Addr → Hp → List V → Prop) (ta : TA) : TI := fun σ H R => ta σ H fun vs H1 => ∃ a xs, vs = [.ref a] ∧ A1 a H1 xs ∧ R (itEnum (A1 a)) H1
theorem pi_enumG (k1 : SqKind K A1 J1 G1) {X : Cx} {e : Expr} {ta : TA} {p pos tpos : Pos} {elts : List Expr} {kk : Nat} (hK : X.K = K) (hg : Gl X "enumerate") (hm : X.mg "enumerate" = none) (ha : PA X [e] ta) (hs : starEach [e] X.env = [(false, eval e X.env)] := by rfl) :
    PI X (.Tuple elts kk tpos) (.Call (.Name "enumerate" p) [e] [] pos) (iEnumG A1 ta) := by
  refine ⟨fun pins s σ H R I h => Call_ (ld_blt I hg hm boot_enumerate (PyProof.Rows.callWith_type1 (thn (ha.run pos pins s σ H _ I h) fun us s1 hh => ?_) hs rfl))⟩
  obtain ⟨vs, H1, I1, r1, a, xs, ex, qa, q⟩ := hh
  subst ex
  cases r1 with
  | cons r rr =>
    cases rr
    cases r
    obtain ⟨its, rv, p'⟩ := k1.get hK I1 qa
    obtain ⟨o1, B1, f1⟩ := k1.begins a its.toArray
    have la := k1.lt p'
    subst hK
    refine enum_begins1 B1 p' fun h' he g1 hsz hk => wpAny_pyIter_enum he ?_
    have I2 : Inv X pins σ H1 { s1 with heap := h' } := I1.kept (t' := s1.toks) hk
    refine ⟨s1.heap.objs.size + 1, [s1.heap.objs.size + 1, s1.heap.objs.size], _, _, H1, rfl, I2, turn_enumG k1 (Nat.ne_of_lt la) (Nat.ne_of_lt (Nat.lt_succ_of_lt la)) (Nat.succ_ne_self _), ⟨⟨.none, he⟩, f1 _ _ g1⟩, fun b hb => ?_, q⟩
    have e' : b = s1.heap.objs.size + 1 ∨ b = s1.heap.objs.size := by simpa using hb
    have hle : s1.heap.objs.size ≤ b := by
      rcases e' with z | z
      · rw [z]; exact Nat.le_add_right _ _
      · rw [z]; exact Nat.le_refl _
    exact I1.fpOk hle (I1.hok.fresh hle)
end
abbrev iEnumT (K : Frag) (ta : TA) : TI := iEnumG (fun a H xs => SqT K H a xs) ta
theorem pi_enumT {X : Cx} {e : Expr} {ta : TA} {p pos tpos : Pos} {elts : List Expr} {kk : Nat} (hg : Gl X "enumerate") (hm : X.mg "enumerate" = none) (ha : PA X [e] ta) (hs : starEach [e] X.env = [(false, eval e X.env)] := by rfl) :
    PI X (.Tuple elts kk tpos) (.Call (.Name "enumerate" p) [e] [] pos) (iEnumT X.K ta) := pi_enumG sqk_tup rfl hg hm ha hs
theorem evi_enumT {α : Type} [Rep α] {W W1 : Wd} {K : Frag} {δ : DEnv} {ta : TA} {P : List (Int × α) → Prop} (h : EvA W W1 K ta δ fun g : Tp α × Unit => P (enumL g.1.l)) : EvI W W1 K (iEnumT K ta) δ P := fun O S H σ s R q => h O S H σ s _ fun vs S1 H1 g m hr p => by
  obtain ⟨v, r, e, ⟨a, us, ea, ha, ru⟩, e2⟩ := hr
  have e2' : r = [] := e2
  subst e2' e ea
  refine ⟨a, us, rfl, m.good.sub.sqT ha, q _ S1 H1 _ m (fun i O2 S2 H2 ex fx st gd => ?_) p⟩
  have sq : SqT K H2 a us := gd.sub.sqT (ex.sqT ha)
  refine ⟨fun x hx => ?_, fun e => ⟨us, sq, by rw [reps_len ru, e, enum_len]⟩⟩
  obtain ⟨h1, h2⟩ := enum_at hx
  obtain ⟨v, hv, rv⟩ := Paired.at ru h2
  refine ⟨⟨us, v, sq, hv⟩, fun u H' y => ?_⟩
  obtain ⟨T, z, e1, hT, e2, f⟩ := y
  subst e1 e2
  have e3 : z = v := Option.some.inj ((f us sq).symm.trans hv)
  subst e3
  exact ⟨upd S2 T (.tup [.int (i : Nat), z]), Mv.new gd hT, T, _, _, rfl, .inl (.inl upd_same), by rw [h1]; rfl, Rep.mono (ex.trans (Ex.upd (gd.sub.nn hT))) rv⟩
end DW
set_option maxHeartbeats 4000000
/-! DW: a def's promise as FnOk (for calls by keywords) -/
namespace DW
open PySem PySem.Spec PyProof.Rows L2
section
variable {P : Program} {w : World} {K : Frag} {mg : Str → Option Value} {base : Heap} {γ α β κ : Type} [RepA γ] [Rep α] [Rep β] [DKey κ] {x : Str} {st : Stmt} {f : Addr} {fd : FuncData} {N ps : List Str} {k : Nat} {Wp : Wd → Wd → Prop}
theorem fn_ok {Fp : γ → (β → Prop) → Prop} (F : Fun K x x st f fd) (S : FnScope N ps (defScope st)) (ha : RepA.arity γ = ps.length) (hn : ps.length ≤ N.length)
    (hb : ∀ (cdv : Value) (A : Around) (outer : List Env) (s : Shared) (H : Hp) (E : XK), Room k (A.deeper (envOfC x (defScope st) s.heap.objs.size f cdv)) →
      ∃ t, PSs (cxOf CX0 P w K mg base N x (defScope st) f cdv A outer s H E).nox (defBody st) t ∧ ∀ (W W' : Wd), Wp W W' → ∀ (g : γ) (Q : β → Prop), Fp g Q → Sd W K t (RepA.slots W g ++ List.replicate (N.length - ps.length) DSlot.non) { nx := fun _ _ => False, rt := rtW W' Q }) :
    FnOk P w K mg base CX0 (k + 1) f fd ps (spD K Wp Fp) := by
  refine F.ok S (fun vs H Q E h => ?_) (fun cdv A outer s H vs Q E hr h => ?_)
  · obtain ⟨W, W', O, S', g, Q', h1, h2, h3, h4, h5⟩ := h
    exact (RepA.len h3).trans ha
  · obtain ⟨W, W', O, S', g, Q', h1, h2, h3, h4, h5⟩ := h
    obtain ⟨t, ht, hs⟩ := hb cdv A outer s H E hr
    exact ⟨t, ht, sd_run (hs W W' h1 g Q' h4) (start_cf h2 h3 ha hn) (fun _ _ h => h) (fun _ _ h => h) (fun _ _ h => h.elim) rfl h5⟩
theorem fn_okG {Fp : γ → (List (κ × α) → Prop) → Prop} (F : Fun K x x st f fd) (S : FnScope N ps (defScope st)) (ha : RepA.arity γ = ps.length) (hn : ps.length ≤ N.length)
    (hb : ∀ (cdv : Value) (A : Around) (outer : List Env) (s : Shared) (H : Hp) (E : XK), Room k (A.deeper (envOfC x (defScope st) s.heap.objs.size f cdv)) →
      ∃ t, PSs (cxOf CX0 P w K mg base N x (defScope st) f cdv A outer s H E).nox (defBody st) t ∧ ∀ (W W' : Wd), Wp W W' → ∀ (g : γ) (Q : List (κ × α) → Prop), Fp g Q → Sd (β := Unit) W K t (RepA.slots W g ++ List.replicate (N.length - ps.length) DSlot.non) { nx := fun _ _ => False, rt := fun _ _ => False, rg := rgG K W' Q }) :
    FnOk P w K mg base CX0 (k + 1) f fd ps (spG K Wp Fp) := by
  refine F.ok S (fun vs H Q E h => ?_) (fun cdv A outer s H vs Q E hr h => ?_)
  · obtain ⟨W, W', O, S', g, Q', h1, h2, h3, h4, h5⟩ := h
    exact (RepA.len h3).trans ha
  · obtain ⟨W, W', O, S', g, Q', h1, h2, h3, h4, h5⟩ := h
    obtain ⟨t, ht, hs⟩ := hb cdv A outer s H E hr
    refine ⟨t, ht, hs W W' h1 g Q' h4 O S' H _ (start_cf h2 h3 ha hn) _ ⟨fun _ _ _ _ _ _ z => z.elim, fun _ _ _ _ _ _ z => z.elim, fun _ _ _ _ _ _ z => z.elim, fun _ _ _ _ _ _ z => z.elim, fun q o S2 H2 m fr ⟨le, kvs, xs, e, r, nd, p⟩ => ?_⟩⟩
    subst e
    exact h5 q kvs S2 H2 xs (m.wle le) (fr.wle le) r nd p
theorem cal_of {sp : Sp} (F : Fun K x x st f fd) (hm : mg x = some (.ref f)) (b : Binds K fd ps []) (h : FnOk P w K mg base CX0 k f fd ps sp) : CalD P w K mg base k x sp [] := ⟨f, fd, ps, [], hm, h, .nil, b, F.kp⟩
theorem calK_of {sp : Sp} {ks : List Str} {gV : {α : Type} → List α → List α} (F : Fun K x x st f fd) (hm : mg x = some (.ref f)) (b : KwB K fd ps ks @gV) (h : FnOk P w K mg base CX0 k f fd ps sp) : CalK P w K mg base k x sp ks @gV := ⟨f, fd, ps, hm, h, b, F.kp⟩
end
/-- the order of a call by keywords, as a fact -/
theorem kwb_210 {K : Frag} {x qual : Str} {st : Stmt} {f : Addr} {fd : FuncData} {a b c : Str} (F : Fun K x qual st f fd)
    (h : ∀ (kV doc pm : Value) (an : Option Addr) (cdv ct : Value) (u v w : Value), bindArgs (PySem.W.fnOf x qual (defArgs st) (defBody st) (defScope st) .none kV doc pm an cdv ct) ⟨[], [(c, u), (b, v), (a, w)]⟩ = pure [(a, w), (b, v), (c, u)]) : KwB K fd [a, b, c] [c, b, a] @kwp_210 :=
  kwb_of F (fun kV doc pm an cdv ct ws hl => match ws, hl with | [u, v, w], _ => h kV doc pm an cdv ct u v w)
    (fun {zs ws} hl r => match zs, ws, hl, r with | [_, _, _], _, _, .cons r1 (.cons r2 (.cons r3 .nil)) => .cons r3 (.cons r2 (.cons r1 .nil)))
    (fun ws hl => match ws, hl with | [_, _, _], _ => rfl)
theorem kwb_3210 {K : Frag} {x qual : Str} {st : Stmt} {f : Addr} {fd : FuncData} {a b c d : Str} (F : Fun K x qual st f fd)
    (h : ∀ (kV doc pm : Value) (an : Option Addr) (cdv ct : Value) (t u v w : Value), bindArgs (PySem.W.fnOf x qual (defArgs st) (defBody st) (defScope st) .none kV doc pm an cdv ct) ⟨[], [(d, t), (c, u), (b, v), (a, w)]⟩ = pure [(a, w), (b, v), (c, u), (d, t)]) : KwB K fd [a, b, c, d] [d, c, b, a] @kwp_3210 :=
  kwb_of F (fun kV doc pm an cdv ct ws hl => match ws, hl with | [t, u, v, w], _ => h kV doc pm an cdv ct t u v w)
    (fun {zs ws} hl r => match zs, ws, hl, r with | [_, _, _, _], _, _, .cons r1 (.cons r2 (.cons r3 (.cons r4 .nil))) => .cons r4 (.cons r3 (.cons r2 (.cons r1 .nil))))
    (fun ws hl => match ws, hl with | [_, _, _, _], _ => rfl)
end DW
set_option maxHeartbeats 4000000
/-! DW: repr -/
namespace DW
open PySem PySem.Spec PyProof.Rows L2
/-! ### what a value shows -/
def RK (P : Program) (w : World) (h : Heap) (u : Value) (d : PyData) : Prop :=
  (∃ as, Reads h u d as) ∧ (∃ bs, ReadAtMost h d.depth bs ∧ ReprK P w bs h d.depth u d.shown) ∧ ∀ a, u = .ref a → ∃ T idr, ShowsBy P w h a d T idr
def RKA (P : Program) (w : World) (h : Heap) (us : List Value) (ds : List PyData) : Prop :=
  (∃ as, ReadsAll h us ds as) ∧ ∃ bs, ReadAtMost h (PyData.depthAll ds) bs ∧ ReprAllK P w bs h (PyData.depthAll ds) us (PyData.shownAll ds)
section
variable {P : Program} {w : World} {h : Heap} {a : Addr} {o : Obj} {n : Nat}
theorem rka_nil : RKA P w h [] [] := ⟨⟨_, .nil⟩, [], (fun _ z => nomatch z), by simp only [PyData.shownAll]; exact .nil⟩
theorem rka_cons {u : Value} {us : List Value} {d : PyData} {ds : List PyData} (r : RK P w h u d) (rs : RKA P w h us ds) : RKA P w h (u :: us) (d :: ds) := by
  obtain ⟨⟨as, r1⟩, ⟨b1, hb1, k1⟩, _⟩ := r
  obtain ⟨⟨bs, r2⟩, b2, hb2, k2⟩ := rs
  refine ⟨⟨_, .cons r1 r2⟩, b1 ++ b2, fun b hm => ?_, ?_⟩
  · simp only [PyData.depthAll]
    rcases List.mem_append.mp hm with hm | hm
    · obtain ⟨d', as', r', hd'⟩ := hb1 b hm
      exact ⟨d', as', r', Nat.le_trans hd' (Nat.le_max_left _ _)⟩
    · obtain ⟨d', as', r', hd'⟩ := hb2 b hm
      exact ⟨d', as', r', Nat.le_trans hd' (Nat.le_max_right _ _)⟩
  · simp only [PyData.depthAll, PyData.shownAll]
    exact .cons ((k1.more fun b hb => List.mem_append_left _ hb).level_le (Nat.le_max_left _ _)) (k2.more_le (fun b hb => List.mem_append_right _ hb) (Nat.le_max_right _ _))
theorem rk_int {i : Int} {t : Tok} (hs : (PyData.int i).showable = true) : RK P w h (.int i t) (.int i) :=
  ⟨⟨_, .int i t⟩, ⟨[], (fun _ h => nomatch h), by simp only [PyData.shown]; exact .of_is (ReprIs.int t (by simpa [PyData.showable] using hs)) _ _ _⟩, fun a e => nomatch e⟩
theorem rk_str {x : Str} {t : Tok} (hz : (PyData.str x).shown.length ≤ sizeLine) : RK P w h (.str x t) (.str x) :=
  ⟨⟨_, .str x t⟩, ⟨[], (fun _ h => nomatch h), by simp only [PyData.shown]; exact .of_is (ReprIs.str x t (by simpa only [PyData.shown] using hz)) _ _ _⟩, fun a e => nomatch e⟩
theorem rk_list {vs : List Value} {ds : List PyData} (h1 : h.get? a = some o) (h2 : o.cls = .type "list") (h3 : o.data = .seq vs.toArray n) (k : RKA P w h vs ds) (hz : (PyData.list ds).shown.length ≤ sizeLine) : RK P w h (.ref a) (.list ds) := by
  have hz' : (listText (PyData.shownAll ds)).length ≤ sizeLine := by simpa only [PyData.shown] using hz
  obtain ⟨⟨as, h4⟩, bs, hb, hk⟩ := k
  have r : Reads h (.ref a) (.list ds) _ := .list h1 h2 h3 (by simpa using h4)
  have hna : a ∉ bs := not_mem_of_deeper r (by simp only [PyData.depth]; omega) hb
  refine ⟨⟨_, r⟩, ⟨a :: bs, ReadAtMost.cons r (by simp only [PyData.depth]; omega) hb, ?_⟩, fun a' e => ?_⟩
  · simp only [PyData.depth, PyData.shown]
    cases vs with
    | nil =>
      cases h4
      simp only [PyData.shownAll, listText_nil]
      exact ReprK.listEmpty h1 h2 h3
    | cons x l => exact ReprK.list h1 h2 h3 hna (by simpa using hk.length_eq) (fun i y e => hk.item i y (by simpa using e))
  · cases e
    refine ⟨"list", "list.__repr__", F.slot_list_repr.toG, F.slot_list_str, F.slot_list_format, fun s hk0 => ⟨o, hk0 _ _ h1, h2⟩, fun A E s Q hg hu hk0 hQ => ?_⟩
    simp only [PyData.depth] at hu
    simp only [PyData.shown] at hQ
    cases vs with
    | nil =>
      cases h4
      simp only [PyData.shownAll, listText_nil] at hQ
      exact call_list_repr_empty ⟨o, hk0 _ _ h1, h2⟩ (hk0 _ _ h1) h3 (hQ s.heap _ _ fun _ _ e => e)
    | cons x l => exact call_list_reprK h1 h2 h3 hna (by simpa using hk.length_eq) (fun i y e => hk.item i y (by simpa using e)) hg (fun b _ => Clear.nil b) hu hk0 hQ hz'
theorem rk_tup {vs : List Value} {ds : List PyData} (h1 : h.get? a = some o) (h2 : o.cls = .type "tuple") (h3 : o.data = .seq vs.toArray n) (k : RKA P w h vs ds) (hz : (PyData.tuple ds).shown.length ≤ sizeLine) : RK P w h (.ref a) (.tuple ds) := by
  have hz' : (tupleText (PyData.shownAll ds)).length ≤ sizeLine := by simpa only [PyData.shown] using hz
  obtain ⟨⟨as, h4⟩, bs, hb, hk⟩ := k
  have r : Reads h (.ref a) (.tuple ds) _ := .tuple h1 h2 h3 (by simpa using h4)
  have hna : a ∉ bs := not_mem_of_deeper r (by simp only [PyData.depth]; omega) hb
  refine ⟨⟨_, r⟩, ⟨a :: bs, ReadAtMost.cons r (by simp only [PyData.depth]; omega) hb, ?_⟩, fun a' e => ?_⟩
  · simp only [PyData.depth, PyData.shown]
    exact ReprK.tuple h1 h2 h3 hna (by simpa using hk)
  · cases e
    refine ⟨"tuple", "tuple.__repr__", F.slot_tuple_repr, F.slot_tuple_str, F.slot_tuple_format, fun s hk0 => ⟨o, hk0 _ _ h1, h2⟩, fun A E s Q hg hu hk0 hQ => ?_⟩
    simp only [PyData.depth] at hu
    simp only [PyData.shown] at hQ
    exact call_tuple_reprK h1 h2 h3 hna (by simpa using hk) hg (fun b _ => Clear.nil b) hu hk0 hQ hz'
theorem rk_dict {es : Array DictEntry} {kvs : List (PyData × PyData)} (h1 : h.get? a = some o) (h2 : o.cls = .type "dict") (h3 : o.data = .dict es n) (hsys : (a == sysModules) = false) (k1 : RKA P w h (es.toList.map (·.key)) (kvs.map (·.1))) (k2 : RKA P w h (es.toList.map (·.val)) (kvs.map (·.2)))
    (hz : (PyData.dict kvs).shown.length ≤ sizeLine) : RK P w h (.ref a) (.dict kvs) := by
  have hz' : (dictText (PyData.shownKv kvs)).length ≤ sizeLine := by simpa only [PyData.shown] using hz
  obtain ⟨⟨as, h4⟩, b1, hb1, k1⟩ := k1
  obtain ⟨⟨bs, h5⟩, b2, hb2, k2⟩ := k2
  have r : Reads h (.ref a) (.dict kvs) _ := .dict h1 h2 h3 h4 h5
  have hb : ReadAtMost h (PyData.depthKv kvs) (b1 ++ b2) := (hb1.mono (PyData.depthAll_keys_le kvs)).append (hb2.mono (PyData.depthAll_vals_le kvs))
  have hna : a ∉ b1 ++ b2 := not_mem_of_deeper r (by simp only [PyData.depth]; omega) hb
  have ent := ReprEntriesK.of_two es.toList _ _
    (k1.more_le (fun b hb => List.mem_append_left b2 hb) (PyData.depthAll_keys_le kvs)) (k2.more_le (fun b hb => List.mem_append_right b1 hb) (PyData.depthAll_vals_le kvs))
  refine ⟨⟨_, r⟩, ⟨a :: (b1 ++ b2), ReadAtMost.cons r (by simp only [PyData.depth]; omega) hb, ?_⟩, fun a' e => ?_⟩
  · simp only [PyData.depth, PyData.shown, PyData.shownKv_eq]
    exact ReprK.dict h1 h2 h3 hsys hna ent
  · cases e
    have hna' : a ∉ b1 ++ b2 := hna
    refine ⟨"dict", "dict.__repr__", F.slot_dict_repr, F.slot_dict_str, F.slot_dict_format, fun s hk0 => ⟨o, hk0 _ _ h1, h2⟩, fun A E s Q hg hu hk0 hQ => ?_⟩
    simp only [PyData.depth] at hu
    simp only [PyData.shown, PyData.shownKv_eq] at hQ
    exact call_dict_reprK h1 h2 h3 hsys hna ent hg (fun b _ => Clear.nil b) hu hk0 hQ (by rw [← PyData.shownKv_eq]; exact hz')
end
/-! ### data that can be shown -/
class PyS (α : Type) extends Rep α where
  py : α → PyData
  sh : ∀ {X : Cx} {pins : List (Addr × Obj)} {σ : L2.St} {S H : Hp} {s : Shared} {v : V} {u : Value} {x : α}, Inv X pins σ H s → Sub S H → rep X.K S v x → RelV v u → (py x).showable = true → (py x).shown.length ≤ sizeLine → RK X.prog X.w s.heap u (py x)
def PyS.shown {α : Type} [PyS α] (x : α) : Str := (PyS.py x).shown
def showOk {α : Type} [PyS α] (x : α) : Prop := (PyS.py x).showable = true ∧ (PyS.py x).shown.length ≤ 100000 ∧ (PyS.py x).depth ≤ 30
theorem sh_all {α : Type} [PyS α] {X : Cx} {pins : List (Addr × Obj)} {σ : L2.St} {S H : Hp} {s : Shared} (I : Inv X pins σ H s) (sb : Sub S H) : ∀ {vs : List V} {us : List Value} {xs : List α}, Reps X.K S vs xs → Vals vs us → PyData.showableAll (xs.map PyS.py) = true → (∀ t ∈ PyData.shownAll (xs.map PyS.py), t.length ≤ sizeLine) → RKA X.prog X.w s.heap us (xs.map PyS.py)
  | _, _, _, .nil, .nil, _, _ => rka_nil
  | _, _, _, .cons r rs, .cons q qs, hs, hz => by
    rw [List.map_cons] at hs hz ⊢
    have hs' := (Bool.and_eq_true _ _).mp hs
    exact rka_cons (PyS.sh I sb r q hs'.1 (hz _ (List.mem_cons_self ..))) (sh_all I sb rs qs hs'.2 fun t ht => hz t (List.mem_cons_of_mem _ ht))
instance : PyS Int := ⟨.int, fun I sb r q hs hz => by
  obtain rfl := r
  obtain ⟨t, rfl⟩ := q
  exact rk_int hs⟩
instance : PyS Str := ⟨.str, fun I sb r q hs hz => by
  obtain rfl := r
  obtain ⟨t, rfl⟩ := q
  exact rk_str hz⟩
instance {α : Type} [PyS α] : PyS (List α) := ⟨fun xs => .list (xs.map PyS.py), fun {X pins σ S H s v u x} I sb r q hs hz => by
  obtain ⟨a, vs, rfl, ha, rs⟩ := r
  obtain rfl : u = Value.ref a := q
  obtain ⟨its, rv, ⟨o, n, ho, hc, _, hd⟩, _⟩ := I.list (.inl (.inl (sb.lst ha)))
  exact rk_list ho hc hd (sh_all I sb rs rv (by simpa [PyData.showable] using hs) fun t ht => Nat.le_trans (listText_mem_le ht) (by simpa only [PyData.shown] using hz)) hz⟩
instance {α β : Type} [PyS α] [PyS β] : PyS (α × β) := ⟨fun x => .tuple [PyS.py x.1, PyS.py x.2], fun {X pins σ S H s v u x} I sb r q hs hz => by
  obtain ⟨a, v1, v2, rfl, ha, r1, r2⟩ := r
  obtain rfl : u = Value.ref a := q
  obtain ⟨its, rv, ⟨o, ho, hc, n, hd⟩, _⟩ := I.tuple (sb.sqT ha)
  have hs' : (PyS.py x.1).showable = true ∧ (PyS.py x.2).showable = true := by simpa [PyData.showable, PyData.showableAll] using hs
  have hz' : ∀ t ∈ PyData.shownAll [PyS.py x.1, PyS.py x.2], t.length ≤ sizeLine := fun t ht => Nat.le_trans (tupleText_mem_le ht) (by simpa only [PyData.shown] using hz)
  cases rv with
  | cons q1 rv =>
    cases rv with
    | cons q2 rv =>
      cases rv
      exact rk_tup ho hc hd (rka_cons (PyS.sh I sb r1 q1 hs'.1 (hz' _ (by simp [PyData.shownAll]))) (rka_cons (PyS.sh I sb r2 q2 hs'.2 (hz' _ (by simp [PyData.shownAll]))) rka_nil)) hz⟩
instance {α β γ ζ : Type} [PyS α] [PyS β] [PyS γ] [PyS ζ] : PyS (T4 α β γ ζ) := ⟨fun x => .tuple [PyS.py x.a, PyS.py x.b, PyS.py x.c, PyS.py x.d], fun {X pins σ S H s v u x} I sb r q hs hz => by
  obtain ⟨a, v1, v2, v3, v4, rfl, ha, r1, r2, r3, r4⟩ := r
  obtain rfl : u = Value.ref a := q
  obtain ⟨its, rv, ⟨o, ho, hc, n, hd⟩, _⟩ := I.tuple (sb.sqT ha)
  have hs' : (PyS.py x.a).showable = true ∧ (PyS.py x.b).showable = true ∧ (PyS.py x.c).showable = true ∧ (PyS.py x.d).showable = true := by simpa [PyData.showable, PyData.showableAll, and_assoc] using hs
  have hz' : ∀ t ∈ PyData.shownAll [PyS.py x.a, PyS.py x.b, PyS.py x.c, PyS.py x.d], t.length ≤ sizeLine := fun t ht => Nat.le_trans (tupleText_mem_le ht) (by simpa only [PyData.shown] using hz)
  cases rv with
  | cons q1 rv =>
    cases rv with
    | cons q2 rv =>
      cases rv with
      | cons q3 rv =>
        cases rv with
        | cons q4 rv =>
          cases rv
          exact rk_tup ho hc hd (rka_cons (PyS.sh I sb r1 q1 hs'.1 (hz' _ (by simp [PyData.shownAll]))) (rka_cons (PyS.sh I sb r2 q2 hs'.2.1 (hz' _ (by simp [PyData.shownAll]))) (rka_cons (PyS.sh I sb r3 q3 hs'.2.2.1 (hz' _ (by simp [PyData.shownAll]))) (rka_cons (PyS.sh I sb r4 q4 hs'.2.2.2 (hz' _ (by simp [PyData.shownAll]))) rka_nil)))) hz⟩
instance {α β γ : Type} [PyS α] [PyS β] [PyS γ] : PyS (L3 α β γ) := ⟨fun x => .list [PyS.py x.a, PyS.py x.b, PyS.py x.c], fun {X pins σ S H s v u x} I sb r q hs hz => by
  obtain ⟨a, v1, v2, v3, rfl, ha, r1, r2, r3⟩ := r
  obtain rfl : u = Value.ref a := q
  obtain ⟨its, rv, ⟨o, n, ho, hc, _, hd⟩, _⟩ := I.list (.inl (.inl (sb.lst ha)))
  have hs' : (PyS.py x.a).showable = true ∧ (PyS.py x.b).showable = true ∧ (PyS.py x.c).showable = true := by simpa [PyData.showable, PyData.showableAll, and_assoc] using hs
  have hz' : ∀ t ∈ PyData.shownAll [PyS.py x.a, PyS.py x.b, PyS.py x.c], t.length ≤ sizeLine := fun t ht => Nat.le_trans (listText_mem_le ht) (by simpa only [PyData.shown] using hz)
  cases rv with
  | cons q1 rv =>
    cases rv with
    | cons q2 rv =>
      cases rv with
      | cons q3 rv =>
        cases rv
        exact rk_list ho hc hd (rka_cons (PyS.sh I sb r1 q1 hs'.1 (hz' _ (by simp [PyData.shownAll]))) (rka_cons (PyS.sh I sb r2 q2 hs'.2.1 (hz' _ (by simp [PyData.shownAll]))) (rka_cons (PyS.sh I sb r3 q3 hs'.2.2 (hz' _ (by simp [PyData.shownAll]))) rka_nil))) hz⟩
theorem rka_entries {α : Type} [PyS α] {X : Cx} {pins : List (Addr × Obj)} {σ : L2.St} {S H : Hp} {s : Shared} (I : Inv X pins σ H s) (sb : Sub S H) : ∀ {kvs : List (Key × V)} {vs : List (Key × Value)} {es : List DictEntry} {xs : List (Str × α)}, RepKV X.K S kvs xs → KV kvs vs → Pairs (mixKind X.prog X.w) es vs →
    PyData.showableAll (xs.map fun p => PyS.py p.2) = true → (∀ p ∈ xs, (PyData.str p.1).shown.length ≤ sizeLine ∧ (PyS.py p.2).shown.length ≤ sizeLine) → RKA X.prog X.w s.heap (es.map (·.key)) (xs.map fun p => .str p.1) ∧ RKA X.prog X.w s.heap (es.map (·.val)) (xs.map fun p => PyS.py p.2)
  | _, _, _, _, .nil, .nil, .nil, _, _ => ⟨rka_nil, rka_nil⟩
  | _, _, _, _, .cons (a := (k, v)) (b := (x, y)) r rs, .cons q qs, .cons hk hv hp, hs, hz => by
    rw [List.map_cons] at hs
    have hs' := (Bool.and_eq_true _ _).mp hs
    have z := hz (x, y) (List.mem_cons_self ..)
    obtain ⟨i1, i2⟩ := rka_entries I sb rs qs hp hs'.2 fun p hp => hz p (List.mem_cons_of_mem _ hp)
    obtain ⟨e1, e2⟩ := q
    obtain ⟨e3, e4⟩ := r
    have e3' : k = Sum.inr x := e3
    have e1' : k = _ := e1
    subst e3'
    rw [← e1', mixKind_is] at hk
    rw [List.map_cons, List.map_cons, List.map_cons, List.map_cons]
    refine ⟨rka_cons ?_ i1, rka_cons ?_ i2⟩
    · rcases keyIs_shape hk with ⟨i, t, e, e'⟩ | ⟨y', t, e, e'⟩
      · cases e
      · cases e
        rw [e']
        exact rk_str z.1
    · rw [hv]
      exact PyS.sh I sb e4 e2 hs'.1 z.2
theorem shown_mem {α : Type} [PyS α] : ∀ (xs : List α) (x : α), x ∈ xs → (PyS.py x).shown ∈ PyData.shownAll (xs.map PyS.py)
  | y :: ys, x, h => by
    rw [List.map_cons]
    simp only [PyData.shownAll]
    rcases List.mem_cons.mp h with e | h
    · rw [e]; exact List.mem_cons_self ..
    · exact List.mem_cons_of_mem _ (shown_mem ys x h)
theorem shown_memK {β : Type} (f : β → PyData) : ∀ (xs : List β) (x : β), x ∈ xs → (f x).shown ∈ PyData.shownAll (xs.map f)
  | y :: ys, x, h => by
    rw [List.map_cons]
    simp only [PyData.shownAll]
    rcases List.mem_cons.mp h with e | h
    · rw [e]; exact List.mem_cons_self ..
    · exact List.mem_cons_of_mem _ (shown_memK f ys x h)
instance {α : Type} [PyS α] : PyS (Dc Str α) := ⟨fun x => .dict (x.l.map fun p => (.str p.1, PyS.py p.2)), fun {X pins σ S H s v u x} I sb r q hs hz => by
  obtain ⟨a, kvs, rfl, ha, rs, nd⟩ := r
  obtain rfl : u = Value.ref a := q
  obtain ⟨z, lo, vs, rel, dd⟩ := dk_rd I.hok (sb.rd ha)
  obtain ⟨o, es, ep, ho, hx, hd, _, hp, _⟩ := dd
  obtain ⟨hs1, hs2⟩ := PyData.showableKv_split _ (by simpa [PyData.showable] using hs)
  have hz' : (dictText (PyData.shownKv (x.l.map fun p => (PyData.str p.1, PyS.py p.2)))).length ≤ sizeLine := by simpa only [PyData.shown] using hz
  have k := rka_entries I sb rs rel hp (by simpa [List.map_map, Function.comp_def] using hs2) fun p hp => by
    refine ⟨?_, ?_⟩
    · obtain ⟨t, ht, hl⟩ := PyData.shownKv_key_le (x.l.map fun p => (PyData.str p.1, PyS.py p.2)) (PyData.str p.1).shown (by
        rw [List.map_map]
        exact shown_memK (fun p : Str × α => PyData.str p.1) x.l p hp)
      exact Nat.le_trans hl (Nat.le_trans (dictText_mem_le ht) hz')
    · obtain ⟨t, ht, hl⟩ := PyData.shownKv_val_le (x.l.map fun p => (PyData.str p.1, PyS.py p.2)) (PyS.py p.2).shown (by
        rw [List.map_map]
        exact shown_memK (fun p : Str × α => PyS.py p.2) x.l p hp)
      exact Nat.le_trans hl (Nat.le_trans (dictText_mem_le ht) hz')
  exact rk_dict ho hx.1 hd lo (by rw [List.map_map]; exact k.1) (by rw [List.map_map]; exact k.2) hz⟩
/-! ### repr -/
class PyR (α : Type) extends PyS α where
  ref : ∀ {K : Frag} {S : Hp} {v : V} {x : α}, rep K S v x → ∃ a, v = .ref a
instance {α : Type} [PyS α] : PyR (List α) := ⟨fun h => by obtain ⟨a, _, e, _⟩ := h; exact ⟨a, e⟩⟩
instance {α : Type} [PyS α] : PyR (Dc Str α) := ⟨fun h => by obtain ⟨a, _, e, _⟩ := h; exact ⟨a, e⟩⟩
instance {α β γ : Type} [PyS α] [PyS β] [PyS γ] : PyR (L3 α β γ) := ⟨fun h => by obtain ⟨a, _, _, _, e, _⟩ := h; exact ⟨a, e⟩⟩
def rRepr (K : Frag) : List V → Hp → VK → Prop := fun xs H Q => ∃ (a : Addr) (d : PyData), xs = [.ref a] ∧ d.depth ≤ 30 ∧ d.shown.length ≤ sizeLine ∧
  (∀ (X : Cx) (pins : List (Addr × Obj)) (σ : L2.St) (s : Shared), X.K = K → Inv X pins σ H s → RK X.prog X.w s.heap (.ref a) d) ∧ Q (.str d.shown) H
theorem cr_repr {X : Cx} {k : Nat} (hg : X.A.guards = some []) (hr : Room k X.A) : CallR X (.builtin "repr") (rRepr X.K) := by
  intro pins s σ H xs us Q I r h
  obtain ⟨a, d, rfl, hd, hz, rk, q⟩ := h
  obtain ⟨u, rfl, e⟩ := vals1 r
  obtain rfl : u = Value.ref a := e
  obtain ⟨_, _, sb⟩ := rk X pins σ s rfl I
  obtain ⟨T, idr, S⟩ := sb a rfl
  have hu := hr.units
  refine call_repr_slot (by omega) (S.typeIs s fun _ _ e => e) S.slotRepr (S.call X.A.in1 X.xe s _ hg (by show X.A.units + 1 + d.depth < cLine; omega) (fun _ _ e => e) fun h' u tk hk => ⟨_, _, rfl, ?_⟩)
  exact ⟨.str _, H, I.kept (t' := tk) hk, ⟨_, rfl⟩, q⟩
theorem ev_repr {α : Type} [PyR α] {W W1 : Wd} {K : Frag} {δ : DEnv} {ta : TE} {P : Str → Prop} (h : Ev W W1 K ta δ fun x : α => showOk x ∧ P (PyS.shown x)) : Ev W W1 K (tCB (rRepr K) (tCons ta tNil)) δ P := fun O S H σ s Q q =>
  h O S H σ s _ fun v S1 H1 x m r p => by
    obtain ⟨a, e⟩ := PyR.ref r
    subst e
    exact ⟨a, PyS.py x, rfl, p.1.2.2, Nat.le_trans p.1.2.1 (by decide), fun X pins σ' s' e I => by
      subst e
      exact PyS.sh I m.good.sub r rfl p.1.1 (Nat.le_trans p.1.2.1 (by decide)), q _ S1 H1 _ m rfl p.2⟩
end DW
set_option maxHeartbeats 4000000
/-! DW: sorted of pairs (number, tuple of texts) -/
namespace DW
open PySem PySem.Spec PyProof.Rows L2
/-! ### the order -/
structure Sto {α : Type} (lt : α → α → Bool) : Prop where
  irr : ∀ x, lt x x = false
  tr : ∀ x y z, lt x y = true → lt y z = true → lt x z = true
  con : ∀ x y, lt x y = false → lt y x = false → x = y
theorem Sto.swo {α β : Type} {lt : α → α → Bool} (O : Sto lt) (k : β → α) : SrtO.Swo fun v u => lt (k v) (k u) := by
  refine ⟨fun x y h => ?_, fun x y z h1 h2 => ?_⟩
  · cases e : lt (k y) (k x) with
    | false => rfl
    | true =>
      have q := O.tr _ _ _ h e
      rw [O.irr] at q
      cases q
  · cases e : lt (k z) (k x) with
    | false => rfl
    | true =>
      cases e2 : lt (k x) (k y) with
      | true =>
        have q := O.tr _ _ _ e e2
        rw [h2] at q
        cases q
      | false =>
        have q := O.con _ _ e2 h1
        rw [q, h2] at e
        cases e
def strLt (x y : Str) : Bool := decide (x.cps.toList < y.cps.toList)
theorem sto_str : Sto strLt := by
  refine ⟨fun x => decide_eq_false (List.lt_irrefl _), fun x y z h1 h2 => decide_eq_true (List.lt_trans (of_decide_eq_true h1) (of_decide_eq_true h2)), fun x y h1 h2 => ?_⟩
  have a : ¬ x.cps.toList < y.cps.toList := of_decide_eq_false h1
  have b : ¬ y.cps.toList < x.cps.toList := of_decide_eq_false h2
  have e : x.cps.toList = y.cps.toList := List.le_antisymm (List.not_lt.mp b) (List.not_lt.mp a)
  obtain ⟨⟨x⟩⟩ := x
  obtain ⟨⟨y⟩⟩ := y
  have e' : x = y := e
  rw [e']
def lexS : List Str → List Str → Bool
  | [], [] => false
  | [], _ :: _ => true
  | _ :: _, [] => false
  | x :: xs, y :: ys => if x = y then lexS xs ys else strLt x y
theorem lexS_cons (x y : Str) (xs ys : List Str) : lexS (x :: xs) (y :: ys) = if x = y then lexS xs ys else strLt x y := by rw [lexS]
theorem lexS_irr : ∀ xs : List Str, lexS xs xs = false
  | [] => rfl
  | x :: xs => by
    unfold lexS
    rw [if_pos rfl]
    exact lexS_irr xs
theorem lexS_tr : ∀ xs ys zs : List Str, lexS xs ys = true → lexS ys zs = true → lexS xs zs = true
  | _, [], [], _, h => nomatch h
  | [], _ :: _, [], _, h => nomatch h
  | [], [], _ :: _, h, _ => nomatch h
  | [], _ :: _, _ :: _, _, _ => rfl
  | _ :: _, [], _, h, _ => nomatch h
  | _ :: _, _ :: _, [], _, h => nomatch h
  | x :: xs, y :: ys, z :: zs, h1, h2 => by
    unfold lexS at h1 h2 ⊢
    by_cases e1 : x = y
    · rw [if_pos e1] at h1
      by_cases e2 : y = z
      · rw [if_pos e2] at h2
        rw [if_pos (e1.trans e2)]
        exact lexS_tr xs ys zs h1 h2
      · rw [if_neg e2] at h2
        rw [if_neg (fun q => e2 (e1.symm.trans q)), e1]
        exact h2
    · rw [if_neg e1] at h1
      by_cases e2 : y = z
      · rw [if_neg (fun q => e1 (q.trans e2.symm)), ← e2]
        exact h1
      · rw [if_neg e2] at h2
        have q := sto_str.tr _ _ _ h1 h2
        rw [if_neg (fun q' => by rw [q', sto_str.irr] at q; cases q)]
        exact q
theorem lexS_con : ∀ xs ys : List Str, lexS xs ys = false → lexS ys xs = false → xs = ys
  | [], [], _, _ => rfl
  | [], _ :: _, h, _ => nomatch h
  | _ :: _, [], _, h => nomatch h
  | x :: xs, y :: ys, h1, h2 => by
    unfold lexS at h1 h2
    by_cases e : x = y
    · rw [if_pos e] at h1
      rw [if_pos e.symm] at h2
      rw [e, lexS_con xs ys h1 h2]
    · rw [if_neg e] at h1
      rw [if_neg (Ne.symm e)] at h2
      exact absurd (sto_str.con _ _ h1 h2) e
def lexN (p q : Int × List Str) : Bool := if p.1 = q.1 then lexS p.2 q.2 else decide (p.1 < q.1)
theorem sto_N : Sto lexN := by
  refine ⟨fun x => ?_, fun x y z h1 h2 => ?_, fun x y h1 h2 => ?_⟩
  · unfold lexN
    rw [if_pos rfl]
    exact lexS_irr _
  · unfold lexN at h1 h2 ⊢
    by_cases e1 : x.1 = y.1
    · rw [if_pos e1] at h1
      by_cases e2 : y.1 = z.1
      · rw [if_pos e2] at h2
        rw [if_pos (e1.trans e2)]
        exact lexS_tr _ _ _ h1 h2
      · rw [if_neg e2] at h2
        rw [if_neg (fun q => e2 (e1.symm.trans q)), e1]
        exact h2
    · rw [if_neg e1] at h1
      have a := of_decide_eq_true h1
      by_cases e2 : y.1 = z.1
      · rw [if_neg (fun q => e1 (q.trans e2.symm)), ← e2]
        exact h1
      · rw [if_neg e2] at h2
        have b := of_decide_eq_true h2
        rw [if_neg (by omega)]
        exact decide_eq_true (by omega)
  · unfold lexN at h1 h2
    by_cases e : x.1 = y.1
    · rw [if_pos e] at h1
      rw [if_pos e.symm] at h2
      exact Prod.ext e (lexS_con _ _ h1 h2)
    · rw [if_neg e] at h1
      rw [if_neg (Ne.symm e)] at h2
      have a := of_decide_eq_false h1
      have b := of_decide_eq_false h2
      omega
/-! ### how the program compares them -/
def eS (xs ys : List Str) (j : Nat) : Bool := decide (xs[j]? = ys[j]?)
def rS (xs ys : List Str) (j : Nat) : Bool := strLt (xs.getD j "") (ys.getD j "")
theorem lexAt_S (xs ys : List Str) : ∀ k i, k = min xs.length ys.length - i → i ≤ min xs.length ys.length → Ob.lexAt (eS xs ys) (rS xs ys) (decide (xs.length < ys.length)) i k = lexS (xs.drop i) (ys.drop i)
  | 0, i, hk, hi => by
    rw [Ob.lexAt_zero]
    have hi' : i = min xs.length ys.length := by omega
    by_cases c : xs.length < ys.length
    · have e1 : xs.drop i = [] := List.drop_eq_nil_of_le (by omega)
      have l2 : 0 < (ys.drop i).length := by rw [List.length_drop]; omega
      rw [e1, decide_eq_true c]
      cases e2 : ys.drop i with
      | nil => rw [e2] at l2; cases l2
      | cons y r => rfl
    · have e1 : ys.drop i = [] := List.drop_eq_nil_of_le (by omega)
      rw [e1, decide_eq_false c]
      cases xs.drop i with
      | nil => rfl
      | cons y r => rfl
  | k + 1, i, hk, hi => by
    rw [Ob.lexAt_succ]
    have h1 : i < xs.length := by omega
    have h2 : i < ys.length := by omega
    rw [List.drop_eq_getElem_cons h1, List.drop_eq_getElem_cons h2, lexAt_S xs ys k (i + 1) (by omega) (by omega), lexS_cons]
    have e1 : xs[i]? = some xs[i] := List.getElem?_eq_getElem h1
    have e2 : ys[i]? = some ys[i] := List.getElem?_eq_getElem h2
    have g1 : xs.getD i "" = xs[i] := by rw [List.getD_eq_getElem?_getD, e1]; rfl
    have g2 : ys.getD i "" = ys[i] := by rw [List.getD_eq_getElem?_getD, e2]; rfl
    unfold eS rS
    rw [e1, e2, g1, g2]
    by_cases c : xs[i] = ys[i]
    · rw [if_pos c, if_pos (decide_eq_true (by rw [c]))]
    · rw [if_neg c, if_neg (by rw [decide_eq_true_eq]; exact fun q => c (Option.some.inj q))]
theorem eS_all {xs ys : List Str} (h : ((List.range (min xs.length ys.length)).all (eS xs ys) && xs.length == ys.length) = true) : xs = ys := by
  obtain ⟨h1, h2⟩ := (Bool.and_eq_true _ _).mp h
  have l : xs.length = ys.length := by simpa using h2
  refine List.ext_getElem? fun i => ?_
  by_cases c : i < min xs.length ys.length
  · exact of_decide_eq_true (List.all_eq_true.mp h1 i (List.mem_range.mpr c))
  · rw [List.getElem?_eq_none (by omega), List.getElem?_eq_none (by omega)]
def IsN (h : Heap) (v : Value) (z : Int × List Str) : Prop := ∃ a o b its t n, v = .ref a ∧ h.get? a = some o ∧ o.cls = .type "tuple" ∧ o.data = .seq #[.int z.1 t, .ref b] n ∧ h.IsTuple b its ∧ Vals (z.2.map V.str) its.toList
theorem vals_str {xs : List Str} {its : List Value} (h : Vals (xs.map V.str) its) : xs.length = its.length ∧ ∀ (j : Nat) (u : Value), its[j]? = some u → ∃ x t, xs[j]? = some x ∧ u = .str x t := by
  have l := h.length
  rw [List.length_map] at l
  refine ⟨l, fun j u e => ?_⟩
  have hj : j < xs.length := by
    rw [l]
    exact (List.getElem?_eq_some_iff.mp e).1
  obtain ⟨u', e', r⟩ := h.get (i := j) (x := .str xs[j]) (by rw [List.getElem?_map, List.getElem?_eq_getElem hj]; rfl)
  rw [e] at e'
  cases e'
  obtain ⟨t, r⟩ := r
  exact ⟨xs[j], t, List.getElem?_eq_getElem hj, r⟩
theorem isN_det {h : Heap} {v : Value} {z z' : Int × List Str} (a : IsN h v z) (b : IsN h v z') : z = z' := by
  obtain ⟨a1, o1, b1, i1, t1, n1, e1, g1, c1, d1, ⟨p1, q1, r1, m1, s1⟩, v1⟩ := a
  obtain ⟨a2, o2, b2, i2, t2, n2, e2, g2, c2, d2, ⟨p2, q2, r2, m2, s2⟩, v2⟩ := b
  subst e1
  cases e2
  rw [g1] at g2
  cases g2
  rw [d1] at d2
  injection d2 with d2
  have d3 := congrArg Array.toList d2
  have d4 : Value.int z.1 t1 = .int z'.1 t2 ∧ Value.ref b1 = .ref b2 := by simpa using d3
  obtain ⟨d5, d6⟩ := d4
  cases d6
  rw [q1] at q2
  cases q2
  rw [s1] at s2
  injection s2 with s2
  subst s2
  have e3 : z.1 = z'.1 := by injection d5
  have l1 := vals_str v1
  have l2 := vals_str v2
  refine Prod.ext e3 (List.ext_getElem? fun j => ?_)
  cases e : i1.toList[j]? with
  | none =>
    have q := List.getElem?_eq_none_iff.mp e
    rw [List.getElem?_eq_none (by rw [l1.1]; exact q), List.getElem?_eq_none (by rw [l2.1]; exact q)]
  | some u =>
    obtain ⟨x, t, f1, f2⟩ := l1.2 j u e
    obtain ⟨y, t', f3, f4⟩ := l2.2 j u e
    rw [f2] at f4
    cases f4
    rw [f1, f3]
theorem isN_keeps {h h' : Heap} {v : Value} {z : Int × List Str} (x : IsN h v z) (k : ∀ b o, h.get? b = some o → o.cls = .type "tuple" → h'.get? b = some o) : IsN h' v z := by
  obtain ⟨a1, o1, b1, i1, t1, n1, e1, g1, c1, d1, ⟨p1, q1, r1, m1, s1⟩, v1⟩ := x
  exact ⟨a1, o1, b1, i1, t1, n1, e1, k _ _ g1 c1, c1, d1, ⟨p1, k _ _ q1 r1, r1, m1, s1⟩, v1⟩
section
variable {prog : Program} {w : World} {A : Around} {E : Value → Shared → Prop} {s : Shared}
theorem n_cmp {vs : List Value} {k : Value → Int × List Str} (hu : A.units + 2 < cLine) (hp : ∀ v ∈ vs, IsN s.heap v (k v)) : SrtO.Cmp prog w A s (tuples' true) (fun p => p.1 ∈ vs) (SrtO.lt2 fun v u => lexN (k v) (k u)) := by
  intro p q hm hm'
  have h1 := hp _ hm
  have h2 := hp _ hm'
  show wpAny (model prog w) A (keyLt' (tuples' true) p.1 q.1) (fun r s' => s' = s ∧ r = lexN (k p.1) (k q.1)) (fun _ _ => False) s
  generalize k p.1 = z at h1 ⊢
  generalize k q.1 = z' at h2 ⊢
  obtain ⟨x, xs⟩ := z
  obtain ⟨x', ys⟩ := z'
  obtain ⟨a, o, b, its, t, n, e, ho, hc, hd, hb, hv⟩ := h1
  obtain ⟨a', o', b', its', t', n', e', ho', hc', hd', hb', hv'⟩ := h2
  rw [e, e']
  refine PySem.W.kat_lt ho hd ho' hd' ?_
  show PySem.W.KatLex prog w A true (decide (2 < 2)) _ [(.int x t, .int x' t'), (.ref b, .ref b')] 0 s
  have l1 := vals_str hv
  have l2 := vals_str hv'
  have z1 : its.size = xs.length := by rw [← Array.length_toList]; exact l1.1.symm
  have z2 : its'.size = ys.length := by rw [← Array.length_toList]; exact l2.1.symm
  have it : ∀ {B : Around} j (h1 : j < its.size) (h2 : j < its'.size), SeqAt.EqAt B s its[j] its'[j] (eS xs ys j) ∧ (eS xs ys j = false → Ob.RcOp .Lt B s its[j] its'[j] (rS xs ys j)) := fun {B} j h1 h2 => by
    obtain ⟨y1, t1, f1, g1⟩ := l1.2 j its[j] (by rw [Array.getElem?_toList, Array.getElem?_eq_getElem h1])
    obtain ⟨y2, t2, f2, g2⟩ := l2.2 j its'[j] (by rw [Array.getElem?_toList, Array.getElem?_eq_getElem h2])
    rw [g1, g2]
    unfold eS rS
    rw [List.getD_eq_getElem?_getD, List.getD_eq_getElem?_getD, f1, f2]
    refine ⟨?_, fun _ prog w E Q h => (PyProof.Rows.lt_str h : wpAny (model prog w) B (compareOp .Lt (.str y1 t1) (.str y2 t2)) Q E s)⟩
    have ee : decide (some y1 = some y2) = (y1 == y2) := by
      by_cases c : y1 = y2
      · rw [c]
        simp
      · have c2 : ¬ some y1 = some y2 := fun q => c (Option.some.inj q)
        rw [decide_eq_false c2]
        exact (beq_eq_false_iff_ne.mpr c).symm
    rw [ee]
    exact SeqAt.EqAt.str_str y1 t1 y2 t2
  refine PySem.W.kat_cons (SeqAt.EqAt.int_int x t x' t' prog w _ _ ?_)
  refine PySem.W.kat_go (fun e1 => ?_) (fun e1 => ?_)
  · have ex : x = x' := by simpa using e1
    have e3 : lexN (x, xs) (x', ys) = lexS xs ys := if_pos ex
    rw [e3]
    by_cases hbb : b = b'
    · subst hbb
      obtain ⟨p1, q1, r1, m1, s1⟩ := hb
      obtain ⟨p2, q2, r2, m2, s2⟩ := hb'
      rw [q1] at q2
      cases q2
      rw [s1] at s2
      injection s2 with s2
      subst s2
      have exy : xs = ys := by
        refine List.ext_getElem? fun j => ?_
        cases e : its.toList[j]? with
        | none =>
          have q := List.getElem?_eq_none_iff.mp e
          rw [List.getElem?_eq_none (by rw [l1.1]; exact q), List.getElem?_eq_none (by rw [l2.1]; exact q)]
        | some u =>
          obtain ⟨x, t, f1, f2⟩ := l1.2 j u e
          obtain ⟨y, t', f3, f4⟩ := l2.2 j u e
          rw [f2] at f4
          cases f4
          rw [f1, f3]
      rw [exy, lexS_irr]
      exact PySem.W.kat_yes (PySem.W.kat_cons (SeqAt.EqAt.same _ prog w _ _ (PySem.W.kat_yes (PySem.W.kat_nil ⟨rfl, rfl⟩))))
    · refine PySem.W.kat_yes (PySem.W.kat_cons (SeqAt.EqAt.of_refs hbb (SeqAt.RcAt.tuples hb hb' (by omega) fun j h1 h2 => (it j h1 h2).1) prog w _ _ ?_))
      rw [z1, z2]
      refine PySem.W.kat_go (fun e2 => ?_) (fun e2 => ?_)
      · have exy := eS_all e2
        rw [exy, lexS_irr]
        exact PySem.W.kat_yes (PySem.W.kat_nil ⟨rfl, rfl⟩)
      · refine PySem.W.kat_no (PySem.W.kat_one _ _ ?_)
        refine Ob.RcOp.tuples_lt hb hb' (by omega) (fun j h1 h2 => (it j h1 h2).1) (fun j h1 h2 => (it j h1 h2).2) prog w _ _ ?_
        rw [z1, z2, lexAt_S xs ys _ 0 (Nat.sub_zero _).symm (Nat.zero_le _)]
        exact (show s = s ∧ lexS (xs.drop 0) (ys.drop 0) = lexS xs ys from ⟨rfl, rfl⟩)
  · have ex : ¬ x = x' := by simpa using e1
    have e3 : lexN (x, xs) (x', ys) = decide (x < x') := if_neg ex
    exact PySem.W.kat_no (PyProof.Rows.oneLt_int ⟨rfl, e3.symm⟩)
theorem firsts_N {h : Heap} {k : Value → Int × List Str} : ∀ {vs : List Value}, (∀ v ∈ vs, IsN h v (k v)) → ∃ fs : List Value, PySem.W.KatTups h vs fs ∧ fs.length = vs.length ∧ ∀ f ∈ fs, ∃ x t, f = Value.int x t
  | [], _ => ⟨[], PySem.W.KatTups.nil, rfl, fun _ hm => by simp at hm⟩
  | v :: vs, x => by
    obtain ⟨fs, kk, hl, hi⟩ := firsts_N (vs := vs) fun u hu => x u (List.mem_cons_of_mem _ hu)
    obtain ⟨a, o, b, its, t, n, e, ho, hc, hd, _⟩ := x v (List.mem_cons_self ..)
    rw [e]
    refine ⟨.int (k v).1 t :: fs, PySem.W.KatTups.cons ho hc hd rfl kk, by rw [List.length_cons, List.length_cons, hl], fun f hf => ?_⟩
    rcases List.mem_cons.mp hf with e | hf
    · exact ⟨_, _, e⟩
    · exact hi f hf
theorem n_sortable {a : Addr} {vs : List Value} {k : Value → Int × List Str} (hu : A.units + 2 < cLine) (h0 : 0 < vs.length) (hp : ∀ v ∈ vs, IsN s.heap v (k v)) (ha : ∀ o, s.heap.get? a = some o → o.cls ≠ .type "tuple") : SrtO.SortableO prog w A s a vs fun v u => lexN (k v) (k u) := by
  intro h' keep
  have hp' : ∀ v ∈ vs, IsN h' v (k v) := fun v hm => isN_keeps (hp v hm) fun b o e c => keep b o (fun z => by subst z; exact ha o e c) e
  obtain ⟨fs, h1, h2, h3⟩ := firsts_N hp'
  refine ⟨tuples' true, fun Q E hq => ?_, n_cmp hu hp'⟩
  refine PySem.W.kat_kind (T := .type "int") h1 (by omega) (fun f hm => ?_) (by rfl) ?_
  · obtain ⟨x, t, rfl⟩ := h3 f hm
    exact PySem.W.Looks.now
  · have e : (Value.type "int" != Value.type "tuple") = true := by first | decide +kernel | rfl | decide
    rw [e]
    exact hq
end
/-! ### the rule -/
def isNV (K : Frag) (H : Hp) (x : V) (z : Int × List Str) : Prop := ∃ t b, x = .ref t ∧ SqT K H t [.int z.1, .ref b] ∧ SqT K H b (z.2.map V.str)
theorem isNV_val {X : Cx} {pins : List (Addr × Obj)} {σ : L2.St} {H : Hp} {s : Shared} {x : V} {z : Int × List Str} (I : Inv X pins σ H s) (h : isNV X.K H x z) : ∃ t, x = .ref t ∧ IsN s.heap (.ref t) z := by
  obtain ⟨t, b, e, h1, h2⟩ := h
  obtain ⟨its, rv, ⟨o, ho, hc, n, hd⟩, _⟩ := I.tuple h1
  obtain ⟨its2, rv2, p2, _⟩ := I.tuple h2
  obtain ⟨u1, u2, e2, r1, r2⟩ := vals2 rv
  obtain ⟨t1, r1⟩ := r1
  have r2' : u2 = Value.ref b := r2
  subst e2 r1 r2'
  exact ⟨t, e, t, o, b, its2.toArray, t1, n, rfl, ho, hc, hd, p2, rv2⟩
def rSortedN (K : Frag) : List V → Hp → VK → Prop := fun vs H Q => ∃ (a : Addr) (xs : List V) (zs : List (Int × List Str)), vs = [V.ref a] ∧ SqL K H a xs ∧ Paired (isNV K H) xs zs ∧
  ∀ (ps : List (V × (Int × List Str))) p, ps.Perm (xs.zip zs) → ps.Pairwise (fun x y => lexN y.2 x.2 = false) → H p = none → Q (.ref p) (upd H p (.lst (ps.map Prod.fst)))
theorem paired_mem {α β : Type} {R : α → β → Prop} : ∀ {xs : List α} {ys : List β}, Paired R xs ys → ∀ x ∈ xs, ∃ y, R x y
  | _, _, .nil, _, h => nomatch h
  | _, _, .cons r rs, x, h => by
    rcases List.mem_cons.mp h with e | h
    · rw [e]
      exact ⟨_, r⟩
    · exact paired_mem rs x h
theorem paired_map {α β : Type} {R : α → β → Prop} {k : α → β} : ∀ {xs : List α}, (∀ x ∈ xs, R x (k x)) → Paired R xs (xs.map k)
  | [], _ => .nil
  | x :: xs, h => .cons (h x (List.mem_cons_self ..)) (paired_map fun y hy => h y (List.mem_cons_of_mem _ hy))
theorem zip_two {α β γ : Type} (f : α → β) (g : α → γ) : ∀ l : List α, (l.map f).zip (l.map g) = l.map fun u => (f u, g u)
  | [] => rfl
  | u :: us => by rw [List.map_cons, List.map_cons, List.map_cons, List.zip_cons_cons, zip_two f g us]
open Classical in
theorem cr_sortedN {X : Cx} {j : Nat} (hr : Room j X.A) : CallR X (.builtin "sorted") (rSortedN X.K) := by
  intro pins s σ H vs us Q I r h
  obtain ⟨a, xs, zs, rfl, hs, hx, q⟩ := h
  obtain ⟨its, rv, hl, hz⟩ := I.list hs
  obtain ⟨u, rfl, ru⟩ := vals1 r
  obtain rfl : u = Value.ref a := ru
  obtain ⟨e1, e2⟩ := refs_back rv fun x m => by
    obtain ⟨z, hz⟩ := paired_mem hx x m
    obtain ⟨t, b, e, _⟩ := hz
    exact ⟨t, e⟩
  let k : Value → Int × List Str := fun u => if h : ∃ z, IsN s.heap u z then h.choose else (0, [])
  have kz : ∀ u z, IsN s.heap u z → k u = z := fun u z h => by
    have hh : ∃ z, IsN s.heap u z := ⟨z, h⟩
    show (if h : ∃ z, IsN s.heap u z then h.choose else (0, [])) = z
    rw [dif_pos hh]
    exact isN_det hh.choose_spec h
  have un := hr.units
  -- each value of the list, its partner
  have part : ∀ u ∈ its, isNV X.K H (backV u) (k u) ∧ IsN s.heap u (k u) := fun u hu => by
    obtain ⟨z, hz⟩ := paired_mem hx (backV u) (by rw [e1]; exact List.mem_map.mpr ⟨u, hu, rfl⟩)
    obtain ⟨t, e, hn⟩ := isNV_val I hz
    obtain ⟨t', e'⟩ := e2 u hu
    subst e'
    have e3 : V.ref t' = V.ref t := e
    cases e3
    rw [kz _ _ hn]
    exact ⟨hz, hn⟩
  have zz : zs = its.map k := by
    have c : ∀ {us : List Value} {ws : List (Int × List Str)}, Paired (isNV X.K H) (us.map backV) ws → (∀ u ∈ us, u ∈ its) → ws = us.map k := fun {us} => by
      induction us with
      | nil =>
        intro ws h _
        cases h
        rfl
      | cons u us ih =>
        intro ws h m
        cases h with
        | cons r rs =>
          rw [List.map_cons, ih rs fun u hu => m u (List.mem_cons_of_mem _ hu)]
          obtain ⟨t, e, hn⟩ := isNV_val I r
          obtain ⟨t', e'⟩ := e2 u (m u (List.mem_cons_self ..))
          subst e'
          have e3 : V.ref t' = V.ref t := e
          cases e3
          rw [kz _ _ hn]
    exact c (by rw [← e1]; exact hx) fun _ h => h
  refine SrtO.sorted_ord (sto_N.swo k) hl.isList (by rw [← rv.length]; exact hz) (fun h2 h₁ a1 ha kk => ?_) fun out hs hb => ?_
  · refine n_sortable (s := { s with heap := h₁ }) (by show X.A.units + 1 + 1 + 2 < cLine; omega) (by omega) (fun v hm => isN_keeps (part v hm).2 fun b o e _ => (kk b o e).2) fun o e => ?_
    have e' : some o = some (seqObj "list" its.toArray 0) := e.symm.trans ha
    cases e'
    intro c
    exact absurd (Value.type.inj c) (by decide)
  · have mem : ∀ u ∈ out, u ∈ its := fun u hu => hb.perm.mem_iff.mp hu
    have h3 : ∀ u ∈ out, ∃ a, u = Value.ref a := fun u hu => e2 u (mem u hu)
    obtain ⟨n, hn⟩ := PyProof.Rows.sortedAll_at s.heap its out.toArray
    have hlen : (out.map backV).length ≤ sizeLine := by
      rw [List.length_map, hb.len, ← rv.length]
      exact hz
    have ez : xs.zip zs = its.map fun u => (backV u, k u) := by
      rw [zz, e1]
      exact zip_two backV k its
    have ef : (out.map fun u => (backV u, k u)).map Prod.fst = out.map backV := by
      rw [List.map_map]
      rfl
    refine ⟨.ref _, upd H (s.heap.objs.size + 1) (.lst (out.map backV)), I.laid (t' := s.toks) (fun _ _ => PyProof.Rows.sortedAll_old) (Nat.le_succ _) ⟨hlen, out, n, vals_back h3, hn⟩, rfl, ?_⟩
    rw [← ef]
    refine q _ _ (by rw [ez]; exact hb.perm.map _) ?_ (I.hok.fresh (Nat.le_succ _))
    exact List.pairwise_map.mpr hs
def zN (p : Int × Tp Str) : Int × List Str := (p.1, p.2.l)
def ltN (p q : Int × Tp Str) : Bool := lexN (zN p) (zN q)
def sortedN (xs : List (Int × Tp Str)) : Prop := xs.Pairwise fun p q => ltN q p = false
theorem reps_isNV {K : Frag} {S H : Hp} (sb : Sub S H) : ∀ {vs : List V} {xs : List (Int × Tp Str)}, Reps K S vs xs → Paired (isNV K H) vs (xs.map zN)
  | _, _, .nil => .nil
  | _, _, .cons r rs => by
    refine .cons ?_ (reps_isNV sb rs)
    obtain ⟨a, v1, v2, e, ha, r1, b, ws, e2, hb, r2⟩ := r
    have r1' : v1 = .int _ := r1
    subst e2 r1'
    exact ⟨a, b, e, sb.sqT ha, by rw [show (zN _).2.map V.str = ws from (flat_reps r2).symm]; exact sb.sqT hb⟩
theorem ef_sortedN {W W1 : Wd} {K : Frag} {δ : DEnv} {ta : TE} {P : List (Int × Tp Str) → Prop} (h : EvC W W1 K ta δ fun xs => ∀ z, List.Perm z xs → sortedN z → P z) : EvF W W1 K (tCB (rSortedN K) (tCons ta tNil)) δ P := fun O S H σ s Q q =>
  h O S H σ s _ fun a vs S1 H1 xs m l r p => by
    refine ⟨a, vs, xs.map zN, rfl, l.sq m.good.sub, reps_isNV m.good.sub r, fun ps D hp hs hD => ?_⟩
    have pr : ∀ {vs : List V} {xs : List (Int × Tp Str)}, Reps K S1 vs xs → (∀ x ∈ vs.zip (xs.map zN), rep K S1 x.1 ((x.2.1, ⟨x.2.2⟩) : Int × Tp Str)) ∧ (vs.zip (xs.map zN)).map (fun x => ((x.2.1, ⟨x.2.2⟩) : Int × Tp Str)) = xs := fun {vs xs} r => by
      induction r with
      | nil => exact ⟨fun _ h => (nomatch h), rfl⟩
      | cons r rs ih =>
        rw [List.map_cons, List.zip_cons_cons]
        refine ⟨fun x hx => ?_, ?_⟩
        · rcases List.mem_cons.mp hx with e | hx
          · rw [e]
            exact r
          · exact ih.1 x hx
        · rw [List.map_cons, ih.2] <;> rfl
    obtain ⟨p1, p2⟩ := pr r
    have rr : ∀ {ps : List (V × (Int × List Str))}, (∀ x ∈ ps, rep K S1 x.1 ((x.2.1, ⟨x.2.2⟩) : Int × Tp Str)) → Reps K S1 (ps.map Prod.fst) (ps.map fun x => ((x.2.1, ⟨x.2.2⟩) : Int × Tp Str)) := fun {ps} => by
      induction ps with
      | nil => intro _; exact .nil
      | cons x xs ih =>
        intro h
        exact .cons (h x (List.mem_cons_self ..)) (ih fun y hy => h y (List.mem_cons_of_mem _ hy))
    refine q D _ S1 _ _ (m.trans (Mv.temp m.good hD)) (Fresh.new m.good hD) (rr fun x hx => p1 x (hp.mem_iff.mp hx)) (p _ (by have h := hp.map (fun x => ((x.2.1, ⟨x.2.2⟩) : Int × Tp Str)); rw [p2] at h; exact h) ?_)
    exact List.pairwise_map.mpr hs
end DW
set_option maxHeartbeats 4000000
/-! DW: defs that are entered while no guard (of a repr) is on the stack: their promise, their call, the law's end -/
namespace DW
open PySem PySem.Spec PyProof.Rows L2
/-- a def's promise where no guard is on the stack -/
structure FnOkG (P : Program) (w : World) (K : Frag) (mg : Str → Option Value) (bh : Heap) (k : Nat) (fa : Addr) (fd : FuncData) (xs : List Str) (pr : Sp) : Prop where
  arity : ∀ {zs H Q E}, pr zs H Q E → zs.length = xs.length
  enter : ∀ {B : Around} {fr : List Env} {t : Shared} {H : Hp} {ar : Args} {ws : List Value} {zs : List V} {Q : VK} {E : XK}, Room k B → B.guards = some [] →
    Env0 P w K mg bh B fr t H → BindsTo t fd ar (xs.zip ws) → Vals zs ws → pr zs H Q E → codeAny (model P w) B (.call (.ref fa) ar) (CR CX0 fr P w H t Q E) t
section
variable {P : Program} {w : World} {K : Frag} {mg : Str → Option Value} {bh : Heap}
theorem fun_guard {x : Str} {d : Stmt} {fa : Addr} {fd : FuncData} {N xs : List Str} {k : Nat} {pr : Sp} (F : Fun K x x d fa fd) (Sc : FnScope N xs (defScope d)) (ar : ∀ {zs H Q E}, pr zs H Q E → zs.length = xs.length)
    (body : ∀ (cd : Value) (B : Around) (fr : List Env) (t : Shared) (H : Hp) (zs : List V) (Q : VK) (E : XK), B.guards = some [] → Room k (B.deeper (envOfC x (defScope d) t.heap.objs.size fa cd)) → pr zs H Q E →
      ∃ T, PSs (cxOf CX0 P w K mg bh N x (defScope d) fa cd B fr t H E).nox (defBody d) T ∧ T ⟨fun _ H2 => Q .non H2, Q, fun _ _ => False, fun _ _ => False⟩ (L2.start N zs) H) :
    FnOkG P w K mg bh (k + 1) fa fd xs pr := by
  obtain ⟨c1, c2, c3, c4, c5, c6, cd, c8, c9, eq, at_, rec_⟩ := F.ex
  subst eq
  refine ⟨ar, ?_⟩
  intro B fr t H a ws zs Q E room calm env bind rel hp
  have here : K.In t.heap := env.mod.kin.keeps fun b o q => (env.bs b o q).1
  have nol : t.heap.NoLimit := env.mod.nolimit.keeps fun b o q => (env.bs b o q).1
  have names : ∀ y ∈ xs.zip ws, (defScope d).names.lookup y.1 = some .local ∨ ((defScope d).names.lookup y.1 = some .cell ∧
      ((cellsFrom (t.heap.objs.size + 1) (defScope d).names []).lookup y.1).isSome = true) := by
    intro ⟨n, v⟩ hy
    exact (Sc.par n (List.of_mem_zip hy).1).imp id fun q => ⟨q, PySem.W.cellsFrom_some _ _ _ (.inl q)⟩
  apply codeAny_call_function room.depth (here _ _ at_) rfl Sc.co Sc.gen rfl (PySem.W.codeRec_of here rec_)
  apply bind
  apply wpAny_newFunctionEnv_cells Sc.kind names
  intro e0 he t1 st
  subst he
  refine ⟨nol.keeps st.toInCall.keep, codeAny_func ?_⟩
  obtain ⟨T, rule, rd⟩ := body cd B fr t H zs Q E calm (room.deeper _) hp
  have J0 := inv_start (CX := CX0) (E := E) Sc room.hd env (ar hp) rel st
  have run := rule.nox.run [] t1 (L2.start N zs) H _ J0 rd
  refine wpAny_mono run (fun out t2 o => ?_) fun _ _ z => z
  cases out with
  | next =>
    obtain ⟨_, H2, J, q⟩ := o
    exact ⟨V.non, H2, J.os, J.bare, J.base, J.hok, rfl, q⟩
  | ret u =>
    obtain ⟨v, _, H2, J, rv, q⟩ := o
    exact ⟨v, H2, J.os, J.bare, J.base, J.hok, rv, q⟩
  | brk =>
    obtain ⟨_, _, _, z⟩ := o
    exact z.elim
  | cont =>
    obtain ⟨_, _, _, z⟩ := o
    exact z.elim
/-- a def that is called by its name, with no guard on the stack -/
def CalG (P : Program) (w : World) (K : Frag) (mg : Str → Option Value) (bh : Heap) (k : Nat) (x : Str) (pr : Sp) : Prop :=
  ∃ (fa : Addr) (fd : FuncData) (xs : List Str), mg x = some (.ref fa) ∧ FnOkG P w K mg bh k fa fd xs pr ∧ Binds K fd xs [] ∧ PySem.W.keepIn K (.ref fa) = true
end
theorem pe_cdG {X : Cx} {k j : Nat} {x : Str} {pr : Sp} {e : Expr} {es : List Expr} {ta : TA} {p pos : Pos} (c : CalG X.prog X.w X.K X.mg X.base k x pr) (room : Room j X.A) (calm : X.A.guards = some []) (le : k ≤ j) (gl : Gl X x) (args : PA X (e :: es) ta)
    (nd : (x == ("__debug__" : Str)) = false := by decide) (s1 : starEach (e :: es) X.env = (false, eval e X.env) :: starEach es X.env := by rfl) (s2 : (backTo pos (starEach es X.env)).any (·.1) = false := by rfl) :
    PE X (.Call (.Name x p) (e :: es) [] pos) (tCall pr [] E0 ta) := by
  obtain ⟨fa, fd, xs, at_, F, bd, kp⟩ := c
  constructor
  intro pins t σ H Q I h
  apply wpAny_Call_Name_kw
  apply ld_glob I gl at_ _ nd
  refine PySem.W.callWith_K (h₀ := X.base) I.ok.mod.kin kp ?_ s1 s2
  refine thn (args.run pos pins t σ H _ I h) fun ws t1 o => ?_
  obtain ⟨zs, H1, I1, rel, q⟩ := o
  refine ⟨I1.kIn, ?_⟩
  rw [List.append_nil] at q
  have lw : (ws ++ ([] : List Value)).length = xs.length := by rw [List.append_nil, ← rel.length, F.arity q]
  have bw := bd t1 ws I1.kIn lw
  rw [List.append_nil] at bw
  apply wpAny_call
  refine codeAny_mono (F.enter (room.mono le) calm I1.env0 bw rel q) fun out t2 o => ?_
  match out, o with
  | .ok (.ret u), o => exact I1.after o
  | .error _, o => exact False.elim o
/-- the promise of a def, from its body -/
theorem cal_okGd {P : Program} {w : World} {K : Frag} {mg : Str → Option Value} {bh : Heap} {γ β : Type} [RepA γ] [Rep β] {x : Str} {d : Stmt} {fa : Addr} {fd : FuncData} {N xs : List Str} {k : Nat} {Wp : Wd → Wd → Prop} {Fp : γ → (β → Prop) → Prop}
    (F : Fun K x x d fa fd) (at_ : mg x = some (.ref fa)) (b : Binds K fd xs []) (Sc : FnScope N xs (defScope d)) (ha : RepA.arity γ = xs.length) (hn : xs.length ≤ N.length)
    (body : ∀ (cd : Value) (B : Around) (fr : List Env) (t : Shared) (H : Hp) (E : XK), B.guards = some [] → Room k (B.deeper (envOfC x (defScope d) t.heap.objs.size fa cd)) →
      ∃ T, PSs (cxOf CX0 P w K mg bh N x (defScope d) fa cd B fr t H E).nox (defBody d) T ∧ ∀ (W W' : Wd), Wp W W' → ∀ (g : γ) (Q : β → Prop), Fp g Q → Sd W K T (RepA.slots W g ++ List.replicate (N.length - xs.length) DSlot.non) { nx := fun _ _ => False, rt := rtW W' Q }) :
    CalG P w K mg bh (k + 1) x (spD K Wp Fp) := by
  refine ⟨fa, fd, xs, at_, fun_guard F Sc ?_ ?_, b, F.kp⟩
  · rintro zs H Q E ⟨W, W', O, S', g, Q', h1, h2, h3, h4, h5⟩
    rw [RepA.len h3, ha]
  · rintro cd B fr t H zs Q E calm room ⟨W, W', O, S', g, Q', h1, h2, h3, h4, h5⟩
    obtain ⟨T, rule, rd⟩ := body cd B fr t H E calm room
    exact ⟨T, rule, sd_run (rd W W' h1 g Q' h4) (start_cf h2 h3 ha hn) (fun _ _ z => z) (fun _ _ z => z) (fun _ _ z => z.elim) rfl h5⟩
end DW
set_option maxHeartbeats 4000000
namespace K89
open PySem PySem.Spec PyProof.Rows L2 DW
section
variable {P : Program} {w : World} {K : Frag} {mg : Str → Option Value} {base : Heap}

theorem sc_is_integer : FnScope ["value", "least"] ["value", "least"] (defScope (topS 6)) := ⟨rfl, rfl, rfl, by decide +kernel, rfl, by decide +kernel, by decide +kernel⟩
def w_is_integer (a_value : Int) (a_least : (Option Int)) (P : Bool → Prop) : Prop := altW (fun (P23 : Bool → Prop) => (((!true) = false → P23 false) ∧ ((!true) = true → P23 true))) (fun (y32 : Bool) => ((y32 = false → altW (fun (P29 : Bool → Prop) => (((Option.isNone a_least) = false → ∃ o27, a_least = some o27 ∧ P29 (decide (o27 ≤ a_value))) ∧ ((Option.isNone a_least) = true → P29 true))) (fun (y31 : Bool) => P y31)) ∧ (y32 = true → False)))
abbrev W_is_integer (g : Int × (Option Int) × Unit) (P : Bool → Prop) : Prop := w_is_integer g.1 g.2.1 P
theorem walk_is_integer {f : Addr} {fd : FuncData} {dvs : List V} (X : Tx K mg)  (F : FunD K "is_integer" "is_integer" (defArgs (topS 6)) (defBody (topS 6)) (defScope (topS 6)) [.non] [] f fd) (hm : mg "is_integer" = some (.ref f)) (bd : ∃ ds, Vals dvs ds ∧ Binds K fd ["value", "least"] ds) : CalD P w K mg base 1 "is_integer" (spD K AnyW W_is_integer) dvs :=
  cal_okD F hm bd sc_is_integer rfl (by decide) fun cdv A outer s H E hr => by
    exact ⟨_, (pss_cons (ps_if (PW.pt (pw_or (pt_not (pt_val (pe_callB call_isi (by rfl) X.b_isinstance rfl (pa_cons (pv 0) (pa_cons (pe_bltn (v := .ty "int") (by rfl) X.b_int rfl rfl) pa_nil))))) (pw_or1 (pt_val (pe_callB call_isi (by rfl) X.b_isinstance rfl (pa_cons (pv 0) (pa_cons (pe_bltn (v := .ty "bool") (by rfl) X.b_bool rfl rfl) pa_nil))))))) pss_never pss_nil) (pss_cons (ps_ret (pe_or (pe_cmpR op_isN (pv 1) pe_non (nomark _)) (pe_one (pe_cmpR op_ge (pv 0) (pv 1) (nomark _))))) pss_nil)), fun W W2 hW g P h => by
      have e1 : W = W2 := hW
      subst e1
      unfold W_is_integer w_is_integer at h
      exact sd_seq (sd_if (et_alt h (by exact fun h24 => et_or (et_not (et_B (ev_isi (α := Int) (b := true) (ev_var rfl (⟨fun e39 => et_B (ev_isi (α := Int) (b := false) (ev_var rfl ((h24.1 e39)))), fun e40 => h24.2 e40⟩))))) (Wle.refl _)) (fun y37 h38 => ⟨fun e26 => (h38.2 e26).elim, fun e25 => sd_next (sd_seq (sd_retW rfl (ev_alt (h38.1 e25) (by exact fun h30 => ev_orV (ev_isN (fun h => h) (ev_var rfl (⟨fun e43 => ev_I0 (f := fun i j : Int => (decide (j ≤ i))) (fun h => h) (ev_var rfl (ev_unO (ev_var rfl (Exists.elim (h30.1 e43) fun o27 h28 => ⟨o27, h28.1, h28.2⟩)))), fun e44 => h30.2 e44⟩))) (Wle.refl _)) (fun y41 h42 => h42)) (Wle.refl _)))⟩)))⟩

theorem ev_call_is_integerD {W W1 : Wd} {K : Frag} {δ : DEnv} {P : Bool → Prop} {E : XK} {ta : TA} (h : EvA W W1 K ta δ fun g : Int × Unit => w_is_integer g.1 none P) : Ev W W1 K (tCall (spD K AnyW W_is_integer) [.non] E ta) δ P :=
  ev_callD (F := W_is_integer) (fun g : Int × Unit => (g.1, none, ())) (fun W K S vs g hh => by
    obtain ⟨v, r, e, h1, h2⟩ := hh
    have e2 : r = [] := h2
    subst e2 e
    exact ⟨v, [.non], rfl, h1, .non, [], rfl, rfl, rfl⟩) rfl h

theorem sc_is_member : FnScope ["value"] ["value"] (defScope (topS 8)) := ⟨rfl, rfl, rfl, by decide +kernel, rfl, by decide +kernel, by decide +kernel⟩
def w_is_member (a_value : Str) (P : Bool → Prop) : Prop := altW (fun (P56 : Bool → Prop) => (w_is_name a_value (fun (y54 : Bool) => ((y54 = true → P56 (!decide (a_value ∈ reserved.l))) ∧ (y54 = false → P56 false))))) (fun (y58 : Bool) => P y58)
abbrev W_is_member (g : Str × Unit) (P : Bool → Prop) : Prop := w_is_member g.1 P
theorem walk_is_member {f : Addr} {fd : FuncData} (X : Tx K mg) (C_is_name : CalD P w K mg base 1 "is_name" (spD K AnyW W_is_name) []) (F : Fun K "is_member" "is_member" (topS 8) f fd) (hm : mg "is_member" = some (.ref f)) (bd : Binds K fd ["value"] []) : CalD P w K mg base 2 "is_member" (spD K AnyW W_is_member) [] :=
  cal_ok F hm bd sc_is_member rfl (by decide) fun cdv A outer s H E hr => by
    exact ⟨_, (pss_cons (ps_ret (pe_and (pe_cd C_is_name hr (by decide) (by rfl) (pa_cons (pv 0) pa_nil)) (pe_one (pe_cmpR op_notIn_seq (pv 0) (pe_glob (v := .ref _) (by rfl) X.c_RESERVED.choose_spec.1 rfl) (by rfl))))) pss_nil), fun W W2 hW g P h => by
      have e1 : W = W2 := hW
      subst e1
      unfold W_is_member w_is_member at h
      exact sd_seq (sd_retW rfl (ev_alt h (by exact fun h57 => ev_andV (Ev.imp (ev_call rfl (ea_cons (ev_var rfl (ea_nil h57)))) (fun y54 h55 => ⟨fun e61 => ev_inTS (n := true) (fun h => h) (ev_var rfl (ev_tabT X.c_RESERVED.choose_spec.2 ((h55.1 e61)))), fun e62 => h55.2 e62⟩)) (Wle.refl _)) (fun y59 h60 => h60)) (Wle.refl _))⟩

theorem sc_is_position : FnScope ["value", "unit"] ["value"] (defScope (topS 13)) := ⟨rfl, rfl, rfl, by decide +kernel, rfl, by decide +kernel, by decide +kernel⟩
def w_is_position (a_value : (Dc Str Int)) (P : Bool → Prop) : Prop := (((!true) = false → ((List.map Prod.fst a_value.l).length ≤ 100000 ∧ compW (fun (x99 : Str) (R100 : Option Bool → Prop) => altW (fun (P110 : Bool → Prop) => (w_is_member x99 (fun (y102 : Bool) => ((y102 = true → ((∃ (x104 : Int), look a_value.l x99 = some x104 ∧ w_is_integer x104 none (fun (y106 : Bool) => ((y106 = true → (∃ (x108 : Int), look a_value.l x99 = some x108 ∧ P110 (!decide (x108 = (0 : Int))))) ∧ (y106 = false → P110 false)))))) ∧ (y102 = false → P110 false))))) (fun (y114 : Bool) => R100 (some y114))) (fun (y115 : (List Bool)) => P (List.all y115 id)) (List.map Prod.fst a_value.l) [])) ∧ ((!true) = true → False))
abbrev W_is_position (g : (Dc Str Int) × Unit) (P : Bool → Prop) : Prop := w_is_position g.1 P
theorem walk_is_position {f : Addr} {fd : FuncData} (X : Tx K mg) (C_is_member : CalD P w K mg base 2 "is_member" (spD K AnyW W_is_member) []) (C_is_integer_d : CalD P w K mg base 1 "is_integer" (spD K AnyW W_is_integer) [.non]) (F : Fun K "is_position" "is_position" (topS 13) f fd) (hm : mg "is_position" = some (.ref f)) (bd : Binds K fd ["value"] []) : CalD P w K mg base 3 "is_position" (spD K AnyW W_is_position) [] :=
  cal_ok F hm bd sc_is_position rfl (by decide) fun cdv A outer s H E hr => by
    exact ⟨_, (pss_cons (ps_if (pt_not (pt_val (pe_callB call_isi (by rfl) X.b_isinstance rfl (pa_cons (pv 0) (pa_cons (pe_bltn (v := .ty "dict") (by rfl) X.b_dict rfl rfl) pa_nil))))) pss_never pss_nil) (pss_cons (ps_ret (pe_callB (cr_all rfl) (by rfl) X.b_all rfl (pa_cons (pe_lockO (pe_lc rfl sc_is_position.nd (pi_keys (pv 0)) (blkOk_by (N := ["value", "unit"]) (sc := defScope (topS 13)) (own := [("unit", 1)]) (by decide +kernel)) (fun _ _ _ _ _ => (pg_name (i := 1) sc_is_position.nd (by rfl) (by first | exact .inl rfl | exact .inr rfl))) (fun _ _ _ _ _ => pts_nil) (fun _ _ _ _ _ => (pe_and (pe_cd C_is_member hr (by decide) (by rfl) (pa_cons (pv 1) pa_nil)) (pe_and (pe_cd C_is_integer_d hr (by decide) (by rfl) (pa_cons (pe_dget (hu_of hr) (pv 0) (pv 1) (fun _ _ => rfl)) pa_nil)) (pe_one (pe_cmpR op_ne (pe_dget (hu_of hr) (pv 0) (pv 1) (fun _ _ => rfl)) pe_int (nomark _)))))))) pa_nil))) pss_nil)), fun W W2 hW g P h => by
      have e1 : W = W2 := hW
      subst e1
      unfold W_is_position w_is_position at h
      exact sd_seq (sd_if (et_not (et_B (ev_isi (α := (Dc Str Int)) (b := true) (ev_var rfl (⟨fun e98 => (h.2 e98).elim, fun e97 => sd_next (sd_seq (sd_retW rfl (ev_all (ec_ev (ev_fresh (EvF.imp (ef_lcKW rfl (ek_keys rfl) (h.1 e97) (by exact fun x99 R100 h101 => bd_yes (tgc_name (ev_alt h101 (by exact fun h111 => ev_andV (Ev.imp (ev_call rfl (ea_cons (ev_var rfl (ea_nil h111)))) (fun y102 h103 => ⟨fun e127 => ev_andV (Ev.imp (ev_call_is_integerD (ea_cons (ev_dget (ecd_ev (ev_var rfl (ev_var rfl (Exists.elim (h103.1 e127) fun x104 h105 => ⟨x104, h105.1, ea_nil h105.2⟩))))))) (fun y106 h107 => ⟨fun e129 => ev_neI (fun h => h) (ev_dget (ecd_ev (ev_var rfl (ev_var rfl (Exists.elim (h107.1 e129) fun x108 h109 => ⟨x108, h109.1, ev_int (h109.2)⟩))))), fun e130 => h107.2 e130⟩)) (Wle.refl _), fun e128 => h103.2 e128⟩)) (Wle.refl _)) (fun y125 h126 => h126))) (Wle.refl _))) (fun y115 h118 => h118))))) (Wle.refl _)))⟩))))))⟩

theorem sc_is_price : FnScope ["value"] ["value"] (defScope (topS 14)) := ⟨rfl, rfl, rfl, by decide +kernel, rfl, by decide +kernel, by decide +kernel⟩
def w_is_price (a_value : Int) (P : Bool → Prop) : Prop := altW (fun (P142 : Bool → Prop) => (w_is_integer a_value (some (1 : Int)) (fun (y140 : Bool) => ((y140 = true → P142 (decide (a_value ≤ (99 : Int)))) ∧ (y140 = false → P142 false))))) (fun (y144 : Bool) => P y144)
abbrev W_is_price (g : Int × Unit) (P : Bool → Prop) : Prop := w_is_price g.1 P
theorem walk_is_price {f : Addr} {fd : FuncData} (X : Tx K mg) (C_is_integer : CalD P w K mg base 1 "is_integer" (spD K AnyW W_is_integer) []) (F : Fun K "is_price" "is_price" (topS 14) f fd) (hm : mg "is_price" = some (.ref f)) (bd : Binds K fd ["value"] []) : CalD P w K mg base 2 "is_price" (spD K AnyW W_is_price) [] :=
  cal_ok F hm bd sc_is_price rfl (by decide) fun cdv A outer s H E hr => by
    exact ⟨_, (pss_cons (ps_ret (pe_and (pe_cd C_is_integer hr (by decide) (by rfl) (pa_cons (pv 0) (pa_cons pe_int pa_nil))) (pe_one (pe_cmpR op_le (pv 0) (pe_glob (v := .int 99) (by rfl) X.c_MOST_PRICE.choose_spec ⟨_, rfl⟩) (nomark _))))) pss_nil), fun W W2 hW g P h => by
      have e1 : W = W2 := hW
      subst e1
      unfold W_is_price w_is_price at h
      exact sd_seq (sd_retW rfl (ev_alt h (by exact fun h143 => ev_andV (Ev.imp (ev_call rfl (ea_cons (ev_var rfl (ea_cons (ev_some (ev_int (ea_nil h143))))))) (fun y140 h141 => ⟨fun e147 => ev_I0 (f := fun i j : Int => (decide (i ≤ j))) (fun h => h) (ev_var rfl (ev_int ((h141.1 e147)))), fun e148 => h141.2 e148⟩)) (Wle.refl _)) (fun y145 h146 => h146)) (Wle.refl _))⟩

theorem sc_check_prices : FnScope ["value", "unit"] ["value"] (defScope (topS 15)) := ⟨rfl, rfl, rfl, by decide +kernel, rfl, by decide +kernel, by decide +kernel⟩
def w_check_prices (a_value : (Dc Str Int)) (P : Unit → Prop) : Prop := altW (fun (P198 : Bool → Prop) => (((!true) = false → ((List.map Prod.fst a_value.l).length ≤ 100000 ∧ compW (fun (x180 : Str) (R181 : Option Bool → Prop) => altW (fun (P189 : Bool → Prop) => (w_is_member x180 (fun (y183 : Bool) => ((y183 = true → ((∃ (x185 : Int), look a_value.l x180 = some x185 ∧ w_is_price x185 (fun (y187 : Bool) => P189 y187)))) ∧ (y183 = false → P189 false))))) (fun (y193 : Bool) => R181 (some y193))) (fun (y194 : (List Bool)) => P198 (!(List.all y194 id))) (List.map Prod.fst a_value.l) [])) ∧ ((!true) = true → P198 true))) (fun (y200 : Bool) => ((y200 = true → False) ∧ (y200 = false → P ())))
abbrev W_check_prices (g : (Dc Str Int) × Unit) (P : Unit → Prop) : Prop := w_check_prices g.1 P
theorem walk_check_prices {f : Addr} {fd : FuncData} (X : Tx K mg) (C_is_member : CalD P w K mg base 2 "is_member" (spD K AnyW W_is_member) []) (C_is_price : CalD P w K mg base 2 "is_price" (spD K AnyW W_is_price) []) (F : Fun K "check_prices" "check_prices" (topS 15) f fd) (hm : mg "check_prices" = some (.ref f)) (bd : Binds K fd ["value"] []) : CalD P w K mg base 3 "check_prices" (spD K AnyW W_check_prices) [] :=
  cal_okU F hm bd sc_check_prices rfl (by decide) fun cdv A outer s H E hr => by
    exact ⟨_, (pss_cons (ps_if (PW.pt (pw_or (pt_not (pt_val (pe_callB call_isi (by rfl) X.b_isinstance rfl (pa_cons (pv 0) (pa_cons (pe_bltn (v := .ty "dict") (by rfl) X.b_dict rfl rfl) pa_nil))))) (pw_or1 (pt_not (pt_val (pe_callB (cr_all rfl) (by rfl) X.b_all rfl (pa_cons (pe_lockO (pe_lc rfl sc_check_prices.nd (pi_keys (pv 0)) (blkOk_by (N := ["value", "unit"]) (sc := defScope (topS 15)) (own := [("unit", 1)]) (by decide +kernel)) (fun _ _ _ _ _ => (pg_name (i := 1) sc_check_prices.nd (by rfl) (by first | exact .inl rfl | exact .inr rfl))) (fun _ _ _ _ _ => pts_nil) (fun _ _ _ _ _ => (pe_and (pe_cd C_is_member hr (by decide) (by rfl) (pa_cons (pv 1) pa_nil)) (pe_one (pe_cd C_is_price hr (by decide) (by rfl) (pa_cons (pe_dget (hu_of hr) (pv 0) (pv 1) (fun _ _ => rfl)) pa_nil))))))) pa_nil))))))) (pss_cons ps_never pss_nil) pss_nil) pss_nil), fun W W2 hW g P h => by
      have e1 : W = W2 := hW
      subst e1
      unfold W_check_prices w_check_prices at h
      exact sd_seq (sd_if (et_alt h (by exact fun h199 => et_or (et_not (et_B (ev_isi (α := (Dc Str Int)) (b := true) (ev_var rfl (⟨fun e205 => et_not (et_B (ev_all (ec_ev (ev_fresh (EvF.imp (ef_lcKW rfl (ek_keys rfl) (h199.1 e205) (by exact fun x180 R181 h182 => bd_yes (tgc_name (ev_alt h182 (by exact fun h190 => ev_andV (Ev.imp (ev_call rfl (ea_cons (ev_var rfl (ea_nil h190)))) (fun y183 h184 => ⟨fun e209 => Ev.imp (ev_call rfl (ea_cons (ev_dget (ecd_ev (ev_var rfl (ev_var rfl (Exists.elim (h184.1 e209) fun x185 h186 => ⟨x185, h186.1, ea_nil h186.2⟩))))))) (fun y187 h188 => h188), fun e210 => h184.2 e210⟩)) (Wle.refl _)) (fun y207 h208 => h208))) (Wle.refl _))) (fun y194 h197 => h197)))))), fun e206 => h199.2 e206⟩))))) (Wle.refl _)) (fun y203 h204 => ⟨fun e201 => sd_seq (sd_never (h204.1 e201)), fun e202 => sd_next (sd_next ⟨(Wle.refl _), (h204.2 e202)⟩)⟩)))⟩

theorem sc_summed : FnScope ["one", "other", "units", "both", "unit"] ["one", "other"] (defScope (topS 16)) := ⟨rfl, rfl, rfl, by decide +kernel, rfl, by decide +kernel, by decide +kernel⟩
def w_summed (a_one : (Dc Str Int)) (a_other : (Dc Str Int)) (P : (Dc Str Int) → Prop) : Prop := (((List.map Prod.fst a_one.l) ++ ((List.map Prod.fst a_other.l) ++ [])).length ≤ 100000 ∧ (((List.map Prod.fst a_one.l) ++ ((List.map Prod.fst a_other.l) ++ [])).length < 64 ∧ ∀ (z241 : List Str), z241.Nodup → (∀ k, k ∈ z241 ↔ k ∈ ((List.map Prod.fst a_one.l) ++ ((List.map Prod.fst a_other.l) ++ []))) → sortedS z241 = true → ∀ (z_units_245 : (List Str)), z_units_245 = z241 → (z_units_245.length ≤ 100000 ∧ compM (fun (x246 : Str) (R247 : Option (Str × Int) → Prop) => R247 (some (x246, ((Option.getD (look a_one.l x246) (0 : Int)) + (Option.getD (look a_other.l x246) (0 : Int)))))) (fun (y251p : (List (Str × Int))) => ∀ (z_both_255 : (Dc Str Int)), z_both_255 = (Dc.mk y251p) → ((List.map Prod.fst z_both_255.l).length ≤ 100000 ∧ compM (fun (x256 : Str) (R257 : Option (Str × Int) → Prop) => (∃ (x259 : Int), look z_both_255.l x256 = some x259 ∧ (((!decide (x259 = (0 : Int))) = true → (∃ (x261 : Int), look z_both_255.l x256 = some x261 ∧ R257 (some (x256, x261)))) ∧ ((!decide (x259 = (0 : Int))) = false → R257 none)))) (fun (y265p : (List (Str × Int))) => P (Dc.mk y265p)) (List.map Prod.fst z_both_255.l))) z_units_245)))
abbrev W_summed (g : (Dc Str Int) × (Dc Str Int) × Unit) (P : (Dc Str Int) → Prop) : Prop := w_summed g.1 g.2.1 P
theorem walk_summed {f : Addr} {fd : FuncData} (X : Tx K mg)  (F : Fun K "summed" "summed" (topS 16) f fd) (hm : mg "summed" = some (.ref f)) (bd : Binds K fd ["one", "other"] []) : CalD P w K mg base 1 "summed" (spD K AnyW W_summed) [] :=
  cal_ok F hm bd sc_summed rfl (by decide) fun cdv A outer s H E hr => by
    exact ⟨_, (pss_cons (ps_set (i := 2) sc_summed.nd (by rfl) (by first | exact .inl rfl | exact .inr rfl) (pe_callB (cr_sortedTx rfl) (by rfl) X.b_sorted rfl (pa_cons (pe_callTy (cr_setOfTx rfl) (by rfl) X.b_set rfl (pa_cons (pe_lst (pa_starD rfl (pv 0) (pa_starD rfl (pv 1) pa_nil))) pa_nil)) pa_nil))) (pss_cons (ps_set (i := 3) sc_summed.nd (by rfl) (by first | exact .inl rfl | exact .inr rfl) (pe_dc rfl sc_summed.nd (pi_list (pv 2)) (blkOk_by (N := ["one", "other", "units", "both", "unit"]) (sc := defScope (topS 16)) (own := [("unit", 4)]) (by decide +kernel)) (fun _ _ _ _ _ => (pg_name (i := 4) sc_summed.nd (by rfl) (by first | exact .inl rfl | exact .inr rfl))) (fun _ _ _ _ _ => pts_nil) (fun _ _ _ _ _ => (pv 4)) (fun _ _ _ _ _ => (pe_op op_add (pe_dget2 (hu_of hr) (pv 0) (pv 4) pe_int ⟨rfl, rfl, rfl, rfl⟩) (pe_dget2 (hu_of hr) (pv 1) (pv 4) pe_int ⟨rfl, rfl, rfl, rfl⟩))))) (pss_cons (ps_ret (pe_lockO (pe_dc rfl sc_summed.nd (pi_keys (pv 3)) (blkOk_by (N := ["one", "other", "units", "both", "unit"]) (sc := defScope (topS 16)) (own := [("unit", 4)]) (by decide +kernel)) (fun _ _ _ _ _ => (pg_name (i := 4) sc_summed.nd (by rfl) (by first | exact .inl rfl | exact .inr rfl))) (fun _ _ _ _ _ => (pts_one (pt_cmpR op_ne (pe_dget (hu_of hr) (pv 3) (pv 4) (fun _ _ => rfl)) pe_int (nomark _)))) (fun _ _ _ _ _ => (pv 4)) (fun _ _ _ _ _ => (pe_dget (hu_of hr) (pv 3) (pv 4) (fun _ _ => rfl)))))) pss_nil))), fun W W2 hW g P h => by
      have e1 : W = W2 := hW
      subst e1
      unfold W_summed w_summed at h
      exact sd_seq (sd_asgZ (i := 2) (ev_fresh (ef_sortedSet (ec_ev (ev_fresh (ef_lst (es_starD (ecd_ev (ev_var rfl (es_starD (ecd_ev (ev_var rfl (es_nil (⟨h.1, ⟨h.2.1, fun z241 h242 h243 h244 => fun z_units_245 e270 => sd_seq (sd_asgZ (i := 3) (evd_fresh (EvG.imp (eg_dcW (evio (evi_list (ev_var rfl (((h.2.2 z241 h242 h243 h244) z_units_245 e270))))) (by exact fun x246 R247 h248 => bdm_yes (tgc_name (ev_var rfl (ev_I0 (f := fun i j : Int => i + j) (fun h => h) (ev_dget2 (ecd_ev (ev_var rfl (ev_var rfl (ev_int (ev_dget2 (ecd_ev (ev_var rfl (ev_var rfl (ev_int (h248)))))))))))))) (Wle.refl _))) (fun y251p h254 => fun z_both_255 e269 => sd_seq (sd_retW rfl (evd_fresh (EvG.imp (eg_dcKW rfl (ek_keys rfl) (h254 z_both_255 e269) (by exact fun x256 R257 h258 => bdm_if (tgc_name (et_test (ev_neI (fun h => h) (ev_dget (ecd_ev (ev_var rfl (ev_var rfl (Exists.elim h258 fun x259 h260 => ⟨x259, h260.1, ev_int (⟨fun e266 => ev_var rfl (ev_dget (ecd_ev (ev_var rfl (ev_var rfl (Exists.elim (h260.2.1 e266) fun x261 h262 => ⟨x261, h262.1, h262.2⟩))))), fun e267 => h260.2.2 e267⟩)⟩)))))))) (Wle.refl _))) (fun y265p h268 => h268))) (Wle.refl _))))))⟩⟩))))))))))))))⟩

theorem sc_is_move : FnScope ["value", "unit"] ["value"] (defScope (topS 21)) := ⟨rfl, rfl, rfl, by decide +kernel, rfl, by decide +kernel, by decide +kernel⟩
def w_is_move (a_value : (Dc Str Int)) (P : Bool → Prop) : Prop := altW (fun (P318 : Bool → Prop) => ((true = true → ((List.map Prod.fst a_value.l).length ≤ 100000 ∧ compW (fun (x300 : Str) (R301 : Option Bool → Prop) => altW (fun (P309 : Bool → Prop) => (w_is_member x300 (fun (y303 : Bool) => ((y303 = true → ((∃ (x305 : Int), look a_value.l x300 = some x305 ∧ w_is_integer x305 none (fun (y307 : Bool) => P309 y307)))) ∧ (y303 = false → P309 false))))) (fun (y313 : Bool) => R301 (some y313))) (fun (y314 : (List Bool)) => P318 (List.all y314 id)) (List.map Prod.fst a_value.l) [])) ∧ (true = false → P318 false))) (fun (y320 : Bool) => P y320)
abbrev W_is_move (g : (Dc Str Int) × Unit) (P : Bool → Prop) : Prop := w_is_move g.1 P
theorem walk_is_move {f : Addr} {fd : FuncData} (X : Tx K mg) (C_is_member : CalD P w K mg base 2 "is_member" (spD K AnyW W_is_member) []) (C_is_integer_d : CalD P w K mg base 1 "is_integer" (spD K AnyW W_is_integer) [.non]) (F : Fun K "is_move" "is_move" (topS 21) f fd) (hm : mg "is_move" = some (.ref f)) (bd : Binds K fd ["value"] []) : CalD P w K mg base 3 "is_move" (spD K AnyW W_is_move) [] :=
  cal_ok F hm bd sc_is_move rfl (by decide) fun cdv A outer s H E hr => by
    exact ⟨_, (pss_cons (ps_ret (pe_and (pe_callB call_isi (by rfl) X.b_isinstance rfl (pa_cons (pv 0) (pa_cons (pe_bltn (v := .ty "dict") (by rfl) X.b_dict rfl rfl) pa_nil))) (pe_one (pe_callB (cr_all rfl) (by rfl) X.b_all rfl (pa_cons (pe_lockO (pe_lc rfl sc_is_move.nd (pi_keys (pv 0)) (blkOk_by (N := ["value", "unit"]) (sc := defScope (topS 21)) (own := [("unit", 1)]) (by decide +kernel)) (fun _ _ _ _ _ => (pg_name (i := 1) sc_is_move.nd (by rfl) (by first | exact .inl rfl | exact .inr rfl))) (fun _ _ _ _ _ => pts_nil) (fun _ _ _ _ _ => (pe_and (pe_cd C_is_member hr (by decide) (by rfl) (pa_cons (pv 1) pa_nil)) (pe_one (pe_cd C_is_integer_d hr (by decide) (by rfl) (pa_cons (pe_dget (hu_of hr) (pv 0) (pv 1) (fun _ _ => rfl)) pa_nil))))))) pa_nil))))) pss_nil), fun W W2 hW g P h => by
      have e1 : W = W2 := hW
      subst e1
      unfold W_is_move w_is_move at h
      exact sd_seq (sd_retW rfl (ev_alt h (by exact fun h319 => ev_andV (ev_isi (α := (Dc Str Int)) (b := true) (ev_var rfl (⟨fun e323 => ev_all (ec_ev (ev_fresh (EvF.imp (ef_lcKW rfl (ek_keys rfl) (h319.1 e323) (by exact fun x300 R301 h302 => bd_yes (tgc_name (ev_alt h302 (by exact fun h310 => ev_andV (Ev.imp (ev_call rfl (ea_cons (ev_var rfl (ea_nil h310)))) (fun y303 h304 => ⟨fun e327 => Ev.imp (ev_call_is_integerD (ea_cons (ev_dget (ecd_ev (ev_var rfl (ev_var rfl (Exists.elim (h304.1 e327) fun x305 h306 => ⟨x305, h306.1, ea_nil h306.2⟩))))))) (fun y307 h308 => h308), fun e328 => h304.2 e328⟩)) (Wle.refl _)) (fun y325 h326 => h326))) (Wle.refl _))) (fun y314 h317 => h317)))), fun e324 => h319.2 e324⟩))) (Wle.refl _)) (fun y321 h322 => h322)) (Wle.refl _))⟩

theorem sc_loss_by : FnScope ["position", "move", "unit"] ["position", "move"] (defScope (topS 23)) := ⟨rfl, rfl, rfl, by decide +kernel, rfl, by decide +kernel, by decide +kernel⟩
def w_loss_by (a_position : (Dc Str Int)) (a_move : (Dc Str Int)) (P : Int → Prop) : Prop := ((List.map Prod.fst a_position.l).length ≤ 100000 ∧ compW (fun (x340 : Str) (R341 : Option Int → Prop) => (∃ (x343 : Int), look a_position.l x340 = some x343 ∧ (CMul x343 (Option.getD (look a_move.l x340) (0 : Int)) ∧ R341 (some (x343 * (Option.getD (look a_move.l x340) (0 : Int))))))) (fun (y347 : (List Int)) => P (-(List.sum y347))) (List.map Prod.fst a_position.l) [])
abbrev W_loss_by (g : (Dc Str Int) × (Dc Str Int) × Unit) (P : Int → Prop) : Prop := w_loss_by g.1 g.2.1 P
theorem walk_loss_by {f : Addr} {fd : FuncData} (X : Tx K mg)  (F : Fun K "loss_by" "loss_by" (topS 23) f fd) (hm : mg "loss_by" = some (.ref f)) (bd : Binds K fd ["position", "move"] []) : CalD P w K mg base 1 "loss_by" (spD K AnyW W_loss_by) [] :=
  cal_ok F hm bd sc_loss_by rfl (by decide) fun cdv A outer s H E hr => by
    exact ⟨_, (pss_cons (ps_ret (pe_un un_neg (pe_callB (cr_sum rfl) (by rfl) X.b_sum rfl (pa_cons (pe_lockO (pe_lc rfl sc_loss_by.nd (pi_keys (pv 0)) (blkOk_by (N := ["position", "move", "unit"]) (sc := defScope (topS 23)) (own := [("unit", 2)]) (by decide +kernel)) (fun _ _ _ _ _ => (pg_name (i := 2) sc_loss_by.nd (by rfl) (by first | exact .inl rfl | exact .inr rfl))) (fun _ _ _ _ _ => pts_nil) (fun _ _ _ _ _ => (pe_op op_mul (pe_dget (hu_of hr) (pv 0) (pv 2) (fun _ _ => rfl)) (pe_dget2 (hu_of hr) (pv 1) (pv 2) pe_int ⟨rfl, rfl, rfl, rfl⟩))))) pa_nil)))) pss_nil), fun W W2 hW g P h => by
      have e1 : W = W2 := hW
      subst e1
      unfold W_loss_by w_loss_by at h
      exact sd_seq (sd_retW rfl (ev_U (f := fun i : Int => -i) (ev_sum (ec_ev (ev_fresh (EvF.imp (ef_lcKW rfl (ek_keys rfl) h (by exact fun x340 R341 h342 => bd_yes (tgc_name (ev_I (f := fun i j : Int => i * j) (C := CMul) (fun h => h) (ev_dget (ecd_ev (ev_var rfl (ev_var rfl (Exists.elim h342 fun x343 h344 => ⟨x343, h344.1, ev_dget2 (ecd_ev (ev_var rfl (ev_var rfl (ev_int (⟨h344.2.1, h344.2.2⟩)))))⟩))))))) (Wle.refl _))) (fun y347 h350 => h350)))))) (Wle.refl _))⟩

theorem sc_is_standing : FnScope ["value", "side", "unit", "price", "amount"] ["value"] (defScope (topS 24)) := ⟨rfl, rfl, rfl, by decide +kernel, rfl, by decide +kernel, by decide +kernel⟩
def w_is_standing (a_value : (T4 Str Str Int Int)) (P : Bool → Prop) : Prop := altW (fun (P381 : Bool → Prop) => (((!true) = false → (((!decide ((4 : Int) = (4 : Int))) = false → P381 (!true)) ∧ ((!decide ((4 : Int) = (4 : Int))) = true → P381 true))) ∧ ((!true) = true → P381 true))) (fun (y394 : Bool) => ((y394 = true → P false) ∧ (y394 = false → ∀ (z383 : (T4 Str Str Int Int)), z383 = a_value → altW (fun (P391 : Bool → Prop) => (((decide (z383.a ∈ [("buy" : Str), ("sell" : Str)])) = true → (w_is_member z383.b (fun (y385 : Bool) => ((y385 = true → (w_is_price z383.c (fun (y387 : Bool) => ((y387 = true → (w_is_integer z383.d (some (1 : Int)) (fun (y389 : Bool) => P391 y389))) ∧ (y387 = false → P391 false))))) ∧ (y385 = false → P391 false))))) ∧ ((decide (z383.a ∈ [("buy" : Str), ("sell" : Str)])) = false → P391 false))) (fun (y393 : Bool) => P y393))))
abbrev W_is_standing (g : (T4 Str Str Int Int) × Unit) (P : Bool → Prop) : Prop := w_is_standing g.1 P
theorem walk_is_standing {f : Addr} {fd : FuncData} (X : Tx K mg) (C_is_member : CalD P w K mg base 2 "is_member" (spD K AnyW W_is_member) []) (C_is_price : CalD P w K mg base 2 "is_price" (spD K AnyW W_is_price) []) (C_is_integer : CalD P w K mg base 1 "is_integer" (spD K AnyW W_is_integer) []) (F : Fun K "is_standing" "is_standing" (topS 24) f fd) (hm : mg "is_standing" = some (.ref f)) (bd : Binds K fd ["value"] []) : CalD P w K mg base 3 "is_standing" (spD K AnyW W_is_standing) [] :=
  cal_ok F hm bd sc_is_standing rfl (by decide) fun cdv A outer s H E hr => by
    exact ⟨_, (pss_cons (ps_if (PW.pt (pw_or (pt_not (pt_val (pe_callB call_isi (by rfl) X.b_isinstance rfl (pa_cons (pv 0) (pa_cons (pe_bltn (v := .ty "tuple") (by rfl) X.b_tuple rfl rfl) pa_nil))))) (pw_or (pt_cmpR op_ne (pe_callB call_len_seq (by rfl) X.b_len rfl (pa_cons (pv 0) pa_nil)) pe_int (nomark _)) (pw_or1 (pt_not (pt_val (pe_callB call_isi (by rfl) X.b_isinstance rfl (pa_cons (pe_ix ix_tup (pv 0) pe_int (fun _ _ => rfl)) (pa_cons (pe_bltn (v := .ty "str") (by rfl) X.b_str rfl rfl) pa_nil))))))))) (pss_cons (ps_ret pe_bl) pss_nil) pss_nil) (pss_cons (ps_asg (pv 0) (pg_tup rfl (pgs_cons (pg_name (i := 1) sc_is_standing.nd (by rfl) (by first | exact .inl rfl | exact .inr rfl)) (pgs_cons (pg_name (i := 2) sc_is_standing.nd (by rfl) (by first | exact .inl rfl | exact .inr rfl)) (pgs_cons (pg_name (i := 3) sc_is_standing.nd (by rfl) (by first | exact .inl rfl | exact .inr rfl)) (pgs_cons (pg_name (i := 4) sc_is_standing.nd (by rfl) (by first | exact .inl rfl | exact .inr rfl)) pgs_nil)))))) (pss_cons (ps_ret (pe_and (pe_cmpR op_in_seq (pv 1) (pe_tup (pa_cons pe_str (pa_cons pe_str pa_nil))) (by rfl)) (pe_and (pe_cd C_is_member hr (by decide) (by rfl) (pa_cons (pv 2) pa_nil)) (pe_and (pe_cd C_is_price hr (by decide) (by rfl) (pa_cons (pv 3) pa_nil)) (pe_one (pe_cd C_is_integer hr (by decide) (by rfl) (pa_cons (pv 4) (pa_cons pe_int pa_nil)))))))) pss_nil))), fun W W2 hW g P h => by
      have e1 : W = W2 := hW
      subst e1
      unfold W_is_standing w_is_standing at h
      exact sd_seq (sd_if (et_alt h (by exact fun h382 => et_or (et_not (et_B (ev_isi (α := (T4 Str Str Int Int)) (b := true) (ev_var rfl (⟨fun e399 => et_or (et_test (ev_neI (fun h => h) (ev_lenT4 (fun h => h) (ev_var rfl (ev_int (⟨fun e401 => et_not (et_B (ev_isi (α := Str) (b := true) (ev_t40 (fun h => h) (ev_var rfl (((h382.1 e399).1 e401)))))), fun e402 => (h382.1 e399).2 e402⟩)))))) (Wle.refl _), fun e400 => h382.2 e400⟩))))) (Wle.refl _)) (fun y397 h398 => ⟨fun e395 => sd_seq (sd_retW rfl (ev_bl ((h398.1 e395))) (Wle.refl _)), fun e396 => sd_next (sd_seq (sd_asgTZ (ev_var rfl (fun z383 e384 => tg_four (sd_seq (sd_retW rfl (ev_alt ((h398.2 e396) z383 e384) (by exact fun h392 => ev_andV (ev_inTS (n := false) (fun h => h) (ev_var rfl (ev_tp (es_cons (ev_str (es_cons (ev_str (es_nil (⟨Nat.le_of_ble_eq_true rfl, ⟨fun e405 => ev_andV (Ev.imp (ev_call rfl (ea_cons (ev_var rfl (ea_nil (h392.1 e405))))) (fun y385 h386 => ⟨fun e407 => ev_andV (Ev.imp (ev_call rfl (ea_cons (ev_var rfl (ea_nil (h386.1 e407))))) (fun y387 h388 => ⟨fun e409 => Ev.imp (ev_call rfl (ea_cons (ev_var rfl (ea_cons (ev_some (ev_int (ea_nil (h388.1 e409)))))))) (fun y389 h390 => h390), fun e410 => h388.2 e410⟩)) (Wle.refl _), fun e408 => h386.2 e408⟩)) (Wle.refl _), fun e406 => h392.2 e406⟩⟩))))))))) (Wle.refl _)) (fun y403 h404 => h404)) (Wle.refl _)))))))⟩)))⟩

theorem sc_check_priced : FnScope ["orders", "prices", "order"] ["orders", "prices"] (defScope (topS 25)) := ⟨rfl, rfl, rfl, by decide +kernel, rfl, by decide +kernel, by decide +kernel⟩
def w_check_priced (a_orders : (List (T4 Str Str Int Int))) (a_prices : (Dc Str Int)) (P : Unit → Prop) : Prop := forW (fun (x429 : (T4 Str Str Int Int)) (s426 : Unit) (n430 b431 : Unit → Prop) => (((!(Option.isSome (look a_prices.l x429.b))) = true → False) ∧ ((!(Option.isSome (look a_prices.l x429.b))) = false → n430 ()))) (fun (s434 : Unit) => P ()) a_orders ()
abbrev W_check_priced (g : (List (T4 Str Str Int Int)) × (Dc Str Int) × Unit) (P : Unit → Prop) : Prop := w_check_priced g.1 g.2.1 P
theorem walk_check_priced {f : Addr} {fd : FuncData} (X : Tx K mg)  (F : Fun K "check_priced" "check_priced" (topS 25) f fd) (hm : mg "check_priced" = some (.ref f)) (bd : Binds K fd ["orders", "prices"] []) : CalD P w K mg base 1 "check_priced" (spD K AnyW W_check_priced) [] :=
  cal_okU F hm bd sc_check_priced rfl (by decide) fun cdv A outer s H E hr => by
    exact ⟨_, (pss_cons (ps_for PassesOwn.never rfl (pi_list (pv 0)) (pg_name (i := 2) sc_check_priced.nd (by rfl) (by first | exact .inl rfl | exact .inr rfl)) (pss_cons (ps_if (pt_cmp (pc_dnotin (hu_of hr) (pe_ix ix_tup (pv 2) pe_int (fun _ _ => rfl)) (pv 1))) (pss_cons ps_never pss_nil) pss_nil) pss_nil)) pss_nil), fun W W2 hW g P h => by
      have e1 : W = W2 := hW
      subst e1
      unfold W_check_priced w_check_priced at h
      exact sd_wipe [2] (sd_seq (sd_forW (fun (s426 : Unit) => [sD (α := (List (T4 Str Str Int Int))) g.1, sD (α := (Dc Str Int)) g.2.1, .non]) (evi_list (ev_var rfl (⟨(), rfl, h⟩))) (by exact fun x429 s426 n430 h435 => tg_name (sd_seq (sd_if (et_test (ev_dnotin (ev_t41 (fun h => h) (ev_var rfl (ecd_ev (ev_var rfl (⟨fun e432 => sd_seq (sd_never (h435.1 e432)), fun e433 => sd_next (sd_nextW [2] ⟨(), rfl, (Wle.refl _), (h435.2 e433)⟩)⟩)))))))))) (by exact fun s434 h436 => sd_next ⟨(Wle.refl _), h436⟩) (fun _ _ l z => sd_le l z)))⟩

theorem sc_unit_loss : FnScope ["order", "move", "prices", "after"] ["order", "move", "prices"] (defScope (topS 26)) := ⟨rfl, rfl, rfl, by decide +kernel, rfl, by decide +kernel, by decide +kernel⟩
def w_unit_loss (a_order : (T4 Str Str Int Int)) (a_move : (Dc Str Int)) (a_prices : (Dc Str Int)) (P : Int → Prop) : Prop := (∃ (x448 : Int), look a_prices.l a_order.b = some x448 ∧ ∀ (z_after_450 : Int), z_after_450 = (x448 + (Option.getD (look a_move.l a_order.b) (0 : Int))) → altW (fun (P451 : Int → Prop) => (((decide (a_order.a = ("buy" : Str))) = true → P451 (a_order.c - z_after_450)) ∧ ((decide (a_order.a = ("buy" : Str))) = false → P451 (z_after_450 - a_order.c)))) (fun (y455 : Int) => P y455))
abbrev W_unit_loss (g : (T4 Str Str Int Int) × (Dc Str Int) × (Dc Str Int) × Unit) (P : Int → Prop) : Prop := w_unit_loss g.1 g.2.1 g.2.2.1 P
theorem walk_unit_loss {f : Addr} {fd : FuncData} (X : Tx K mg)  (F : Fun K "unit_loss" "unit_loss" (topS 26) f fd) (hm : mg "unit_loss" = some (.ref f)) (bd : Binds K fd ["order", "move", "prices"] []) : CalD P w K mg base 1 "unit_loss" (spD K AnyW W_unit_loss) [] :=
  cal_ok F hm bd sc_unit_loss rfl (by decide) fun cdv A outer s H E hr => by
    exact ⟨_, (pss_cons (ps_set (i := 3) sc_unit_loss.nd (by rfl) (by first | exact .inl rfl | exact .inr rfl) (pe_op op_add (pe_dget (hu_of hr) (pv 2) (pe_ix ix_tup (pv 0) pe_int (fun _ _ => rfl)) (fun _ _ => rfl)) (pe_dget2 (hu_of hr) (pv 1) (pe_ix ix_tup (pv 0) pe_int (fun _ _ => rfl)) pe_int ⟨rfl, rfl, rfl, rfl⟩))) (pss_cons (ps_ret (pe_ifExp (pt_cmpR op_eq (pe_ix ix_tup (pv 0) pe_int (fun _ _ => rfl)) pe_str (nomark _)) (pe_op op_sub (pe_ix ix_tup (pv 0) pe_int (fun _ _ => rfl)) (pv 3)) (pe_op op_sub (pv 3) (pe_ix ix_tup (pv 0) pe_int (fun _ _ => rfl))))) pss_nil)), fun W W2 hW g P h => by
      have e1 : W = W2 := hW
      subst e1
      unfold W_unit_loss w_unit_loss at h
      exact sd_seq (sd_asgZ (i := 3) (ev_I0 (f := fun i j : Int => i + j) (fun h => h) (ev_dget (ecd_ev (ev_var rfl (ev_t41 (fun h => h) (ev_var rfl (Exists.elim h fun x448 h449 => ⟨x448, h449.1, ev_dget2 (ecd_ev (ev_var rfl (ev_t41 (fun h => h) (ev_var rfl (ev_int (fun z_after_450 e456 => sd_seq (sd_retW rfl (ev_alt (h449.2 z_after_450 e456) (by exact fun h452 => ev_if (et_test (ev_eqS (fun h => h) (ev_t40 (fun h => h) (ev_var rfl (ev_str (⟨fun e453 => ev_I0 (f := fun i j : Int => i - j) (fun h => h) (ev_t42 (fun h => h) (ev_var rfl (ev_var rfl ((h452.1 e453))))), fun e454 => ev_I0 (f := fun i j : Int => i - j) (fun h => h) (ev_var rfl (ev_t42 (fun h => h) (ev_var rfl ((h452.2 e454)))))⟩))))))) (fun y457 h458 => h458)) (Wle.refl _))))))))⟩))))))))⟩

theorem sc_worst_filled : FnScope ["orders", "move", "prices", "order"] ["orders", "move", "prices"] (defScope (topS 27)) := ⟨rfl, rfl, rfl, by decide +kernel, rfl, by decide +kernel, by decide +kernel⟩
def w_worst_filled (a_orders : (List (T4 Str Str Int Int))) (a_move : (Dc Str Int)) (a_prices : (Dc Str Int)) (P : (Tp Int) → Prop) : Prop := (a_orders.length ≤ 100000 ∧ compW (fun (x477 : (T4 Str Str Int Int)) (R478 : Option Int → Prop) => altW (fun (P482 : Int → Prop) => (w_unit_loss x477 a_move a_prices (fun (y480 : Int) => (((decide ((0 : Int) < y480)) = true → P482 x477.d) ∧ ((decide ((0 : Int) < y480)) = false → P482 (0 : Int)))))) (fun (y488 : Int) => R478 (some y488))) (fun (y489 : (List Int)) => P (Tp.mk y489)) a_orders [])
abbrev W_worst_filled (g : (List (T4 Str Str Int Int)) × (Dc Str Int) × (Dc Str Int) × Unit) (P : (Tp Int) → Prop) : Prop := w_worst_filled g.1 g.2.1 g.2.2.1 P
theorem walk_worst_filled {f : Addr} {fd : FuncData} (X : Tx K mg) (C_unit_loss : CalD P w K mg base 1 "unit_loss" (spD K AnyW W_unit_loss) []) (F : Fun K "worst_filled" "worst_filled" (topS 27) f fd) (hm : mg "worst_filled" = some (.ref f)) (bd : Binds K fd ["orders", "move", "prices"] []) : CalD P w K mg base 2 "worst_filled" (spD K AnyW W_worst_filled) [] :=
  cal_ok F hm bd sc_worst_filled rfl (by decide) fun cdv A outer s H E hr => by
    exact ⟨_, (pss_cons (ps_ret (pe_callTy call_tuple_of (by rfl) X.b_tuple rfl (pa_cons (pe_lc rfl sc_worst_filled.nd (pi_list (pv 0)) (blkOk_by (N := ["orders", "move", "prices", "order"]) (sc := defScope (topS 27)) (own := [("order", 3)]) (by decide +kernel)) (fun _ _ _ _ _ => (pg_name (i := 3) sc_worst_filled.nd (by rfl) (by first | exact .inl rfl | exact .inr rfl))) (fun _ _ _ _ _ => pts_nil) (fun _ _ _ _ _ => (pe_ifExp (pt_cmpR op_gt (pe_cd C_unit_loss hr (by decide) (by rfl) (pa_cons (pv 3) (pa_cons (pv 1) (pa_cons (pv 2) pa_nil)))) pe_int (nomark _)) (pe_ix ix_tup (pv 3) pe_int (fun _ _ => rfl)) pe_int))) pa_nil))) pss_nil), fun W W2 hW g P h => by
      have e1 : W = W2 := hW
      subst e1
      unfold W_worst_filled w_worst_filled at h
      exact sd_seq (sd_retW rfl (ev_tupleC (ec_ev (ev_fresh (EvF.imp (ef_lcW (evio (evi_list (ev_var rfl (h)))) (by exact fun x477 R478 h479 => bd_yes (tgc_name (ev_alt h479 (by exact fun h483 => ev_if (et_test (ev_I0 (f := fun i j : Int => (decide (j < i))) (fun h => h) (Ev.imp (ev_call rfl (ea_cons (ev_var rfl (ea_cons (ev_var rfl (ea_cons (ev_var rfl (ea_nil h483)))))))) (fun y480 h481 => ev_int (⟨fun e484 => ev_t43 (fun h => h) (ev_var rfl ((h481.1 e484))), fun e485 => ev_int ((h481.2 e485))⟩)))))) (fun y493 h494 => h494))) (Wle.refl _))) (fun y489 h492 => h492))))) (Wle.refl _))⟩

theorem sc_loss_with : FnScope ["position", "orders", "move", "prices", "filled", "lost", "order", "number"] ["position", "orders", "move", "prices", "filled"] (defScope (topS 28)) := ⟨rfl, rfl, rfl, by decide +kernel, rfl, by decide +kernel, by decide +kernel⟩
def w_loss_with (a_position : (Dc Str Int)) (a_orders : (List (T4 Str Str Int Int))) (a_move : (Dc Str Int)) (a_prices : (Dc Str Int)) (a_filled : (Tp Int)) (P : Int → Prop) : Prop := ((List.zip a_orders a_filled.l).length ≤ 100000 ∧ compW (fun (x510 : ((T4 Str Str Int Int) × Int)) (R511 : Option Int → Prop) => (w_unit_loss x510.1 a_move a_prices (fun (y513 : Int) => (CMul x510.2 y513 ∧ R511 (some (x510.2 * y513)))))) (fun (y517 : (List Int)) => ∀ (z_lost_521 : (List Int)), z_lost_521 = y517 → (w_loss_by a_position a_move (fun (y522 : Int) => P (y522 + (List.sum z_lost_521))))) (List.zip a_orders a_filled.l) [])
abbrev W_loss_with (g : (Dc Str Int) × (List (T4 Str Str Int Int)) × (Dc Str Int) × (Dc Str Int) × (Tp Int) × Unit) (P : Int → Prop) : Prop := w_loss_with g.1 g.2.1 g.2.2.1 g.2.2.2.1 g.2.2.2.2.1 P
theorem walk_loss_with {f : Addr} {fd : FuncData} (X : Tx K mg) (C_unit_loss : CalD P w K mg base 1 "unit_loss" (spD K AnyW W_unit_loss) []) (C_loss_by : CalD P w K mg base 1 "loss_by" (spD K AnyW W_loss_by) []) (F : Fun K "loss_with" "loss_with" (topS 28) f fd) (hm : mg "loss_with" = some (.ref f)) (bd : Binds K fd ["position", "orders", "move", "prices", "filled"] []) : CalD P w K mg base 2 "loss_with" (spD K AnyW W_loss_with) [] :=
  cal_ok F hm bd sc_loss_with rfl (by decide) fun cdv A outer s H E hr => by
    exact ⟨_, (pss_cons (ps_setLc (i := 5) rfl sc_loss_with.nd (by rfl) (by rfl) (sw_true rfl rfl rfl rfl) (g := gTup K 2 (gCons (gName 6) (gCons (gName 7) gNil))) (pi_zipLT (by rfl) X.b_zip (pa_cons (pv 1) (pa_cons (pv 4) pa_nil))) (blkOk_by (N := ["position", "orders", "move", "prices", "filled", "lost", "order", "number"]) (sc := defScope (topS 28)) (own := [("order", 6), ("number", 7)]) (by decide +kernel)) (fun _ _ _ _ _ => (pg_tup rfl (pgs_cons (pg_name (i := 6) sc_loss_with.nd (by rfl) (by first | exact .inl rfl | exact .inr rfl)) (pgs_cons (pg_name (i := 7) sc_loss_with.nd (by rfl) (by first | exact .inl rfl | exact .inr rfl)) pgs_nil)))) (fun _ _ _ _ _ => pts_nil) (fun _ _ _ _ _ => (pe_op op_mul (pv 7) (pe_cd C_unit_loss hr (by decide) (by rfl) (pa_cons (pv 6) (pa_cons (pv 2) (pa_cons (pv 3) pa_nil))))))) (pss_cons (ps_ret (pe_op op_add (pe_cd C_loss_by hr (by decide) (by rfl) (pa_cons (pv 0) (pa_cons (pv 2) pa_nil))) (pe_callB (cr_sum rfl) (by rfl) X.b_sum rfl (pa_cons (pv 5) pa_nil)))) pss_nil)), fun W W2 hW g P h => by
      have e1 : W = W2 := hW
      subst e1
      unfold W_loss_with w_loss_with at h
      exact sd_seq (sd_asgZ (i := 5) (ev_fresh (EvF.imp (ef_lcW (evio (evi_zipLT (ea_cons (ev_var rfl (ea_cons (ev_var rfl (ea_nil (h)))))))) (by exact fun x510 R511 h512 => bd_yes (tgc_two (ev_I (f := fun i j : Int => i * j) (C := CMul) (fun h => h) (ev_var rfl (Ev.imp (ev_call rfl (ea_cons (ev_var rfl (ea_cons (ev_var rfl (ea_cons (ev_var rfl (ea_nil h512)))))))) (fun y513 h514 => ⟨h514.1, h514.2⟩))))) (Wle.refl _))) (fun y517 h520 => fun z_lost_521 e524 => sd_seq (sd_retW rfl (ev_I0 (f := fun i j : Int => i + j) (fun h => h) (Ev.imp (ev_call rfl (ea_cons (ev_var rfl (ea_cons (ev_var rfl (ea_nil (h520 z_lost_521 e524))))))) (fun y522 h523 => ev_sum (ec_ev (ev_var rfl (h523)))))) (Wle.refl _))))))⟩

theorem sc_lists_of : FnScope ["items", "size", "found", "place", "item", "rest"] ["items", "size"] (defScope (topS 35)) := ⟨rfl, rfl, rfl, by decide +kernel, rfl, by decide +kernel, by decide +kernel⟩
def w_lists_of_b (rec : (List Str) → Int → ((List (List Str)) → Prop) → Prop) (a_items : (List Str)) (a_size : Int) (P : (List (List Str)) → Prop) : Prop := (((decide (a_size = (0 : Int))) = true → P [([] : List Str)]) ∧ ((decide (a_size = (0 : Int))) = false → ∀ (z_found_564 : (List (List Str))), z_found_564 = ([] : List (List Str)) → forW (fun (x581 : (Int × Str)) (s578 : (List (List Str))) (n582 b583 : (List (List Str)) → Prop) => (rec (cutL a_items (some (x581.1 + (1 : Int))) none) (a_size - (1 : Int)) (fun (y584 : (List (List Str))) => (y584.length ≤ 100000 ∧ compW (fun (x586 : (List Str)) (R587 : Option (List Str) → Prop) => (([x581.2] ++ (x586 ++ [])).length ≤ 100000 ∧ R587 (some ([x581.2] ++ (x586 ++ []))))) (fun (y591 : (List (List Str))) => (s578.length + y591.length ≤ 100000 ∧ ∀ (z_found_595 : (List (List Str))), z_found_595 = s578 ++ y591 → n582 z_found_595)) y584 [])))) (fun (s597 : (List (List Str))) => P s597) (enumL a_items) z_found_564))
theorem walk_lists_of_b {f : Addr} {fd : FuncData} (X : Tx K mg) {k : Nat} {rec : (List Str) → Int → ((List (List Str)) → Prop) → Prop} (C_lists_of_r : CalD P w K mg base k "lists_of" (spD K AnyW (fun (g : (List Str) × Int × Unit) (P : (List (List Str)) → Prop) => rec g.1 g.2.1 P)) []) (F : Fun K "lists_of" "lists_of" (topS 35) f fd) (hm : mg "lists_of" = some (.ref f)) (bd : Binds K fd ["items", "size"] []) : CalD P w K mg base (k + 1) "lists_of" (spD K AnyW (fun (g : (List Str) × Int × Unit) (P : (List (List Str)) → Prop) => w_lists_of_b rec g.1 g.2.1 P)) [] :=
  cal_ok F hm bd sc_lists_of rfl (by decide) fun cdv A outer s H E hr => by
    exact ⟨_, (pss_cons (ps_if (pt_cmpR op_eq (pv 1) pe_int (nomark _)) (pss_cons (ps_ret (pe_lst (pa_cons (pe_lst pa_nil) pa_nil))) pss_nil) pss_nil) (pss_cons (ps_set (i := 2) sc_lists_of.nd (by rfl) (by first | exact .inl rfl | exact .inr rfl) (pe_lst pa_nil)) (pss_cons (ps_for PassesOwn.never rfl (pi_enum (by rfl) X.b_enumerate (pa_cons (pv 0) pa_nil)) (pg_tup rfl (pgs_cons (pg_name (i := 3) sc_lists_of.nd (by rfl) (by first | exact .inl rfl | exact .inr rfl)) (pgs_cons (pg_name (i := 4) sc_lists_of.nd (by rfl) (by first | exact .inl rfl | exact .inr rfl)) pgs_nil))) (pss_cons (ps_expr (pe_bm PySem.F.plainAttrs_list PySem.F.slot_list_extend PySem.F.type_list_extend mt_extend (pv 2) (pa_cons (pe_lc rfl sc_lists_of.nd (pi_list (pe_cd C_lists_of_r hr (Nat.le_refl _) (by rfl) (pa_cons (pe_slice sl_list (pv 0) (po_some (pe_op op_add (pv 3) pe_int)) po_none) (pa_cons (pe_op op_sub (pv 1) pe_int) pa_nil)))) (blkOk_by (N := ["items", "size", "found", "place", "item", "rest"]) (sc := defScope (topS 35)) (own := [("rest", 5)]) (by decide +kernel)) (fun _ _ _ _ _ => (pg_name (i := 5) sc_lists_of.nd (by rfl) (by first | exact .inl rfl | exact .inr rfl))) (fun _ _ _ _ _ => pts_nil) (fun _ _ _ _ _ => (pe_lst (pa_cons (pv 4) (pa_starK (K := K) rfl (pv 5) pa_nil))))) pa_nil))) pss_nil)) (pss_cons (ps_ret (pv 2)) pss_nil)))), fun W W2 hW g P h => by
      have e1 : W = W2 := hW
      subst e1
      unfold w_lists_of_b at h
      exact sd_seq (sd_if (et_test (ev_eqI (fun h => h) (ev_var rfl (ev_int (⟨fun e601 => sd_seq (sd_retW rfl (ev_fresh (ef_lst (es_cons (ev_fresh (ef_lst (es_nil (⟨Nat.le_of_ble_eq_true rfl, es_nil (⟨Nat.le_of_ble_eq_true rfl, (h.1 e601)⟩)⟩))))))) (Wle.refl _)), fun e602 => sd_next (sd_seq (sd_asgLZ (i := 2) (ef_lst (es_nil (⟨Nat.le_of_ble_eq_true rfl, fun z_found_564 e600 => sd_wipe [3, 4] (sd_seq (sd_forW (fun (s578 : (List (List Str))) => [sD (α := (List Str)) g.1, sD (α := Int) g.2.1, sL (α := (List Str)) s578, .non, .non, .non]) (evi_enum (ea_cons (ev_var rfl (ea_nil (⟨z_found_564, rfl, ((h.2 e602) z_found_564 e600)⟩))))) (by exact fun x581 s578 n582 h598 => tg_two (sd_seq (sd_extendZ (i := 2) rfl (ev_fresh (EvF.imp (ef_lcW (evio (evi_list (Ev.imp (ev_call rfl (ea_cons (ev_fresh (ef_sl (fun h => h) (ec_ev (ev_var rfl (eo_some (ev_I0 (f := fun i j : Int => i + j) (fun h => h) (ev_var rfl (ev_int (eo_none (ea_cons (ev_I0 (f := fun i j : Int => i - j) (fun h => h) (ev_var rfl (ev_int (ea_nil h598)))))))))))))))) (fun y584 h585 => h585)))) (by exact fun x586 R587 h588 => bd_yes (tgc_name (ev_fresh (ef_lst (es_cons (ev_var rfl (es_star (ec_ev (ev_var rfl (es_nil (⟨h588.1, h588.2⟩)))))))))) (Wle.refl _))) (fun y591 h594 => ⟨h594.1, fun z_found_595 e596 => sd_nextW [3, 4] ⟨z_found_595, rfl, (Wle.refl _), (h594.2 z_found_595 e596)⟩⟩)))))) (by exact fun s597 h599 => sd_fix (i := 2) rfl (sd_seq (sd_retW rfl (ev_var rfl (h599)) (Wle.refl _)))) (fun _ _ l z => sd_le l z)))⟩)))))⟩))))))⟩

def loW : Nat → List Str → Int → (List (List Str) → Prop) → Prop
  | 0 => fun _ _ _ => False
  | n + 1 => w_lists_of_b (loW n)
def w_lists_of (a : List Str) (n : Int) (P : List (List Str) → Prop) : Prop := loW 7 a n P
abbrev W_lists_of (g : List Str × Int × Unit) (P : List (List Str) → Prop) : Prop := w_lists_of g.1 g.2.1 P

theorem sc_all_lists : FnScope ["names", "size", "row"] ["names"] (defScope (topS 37)) := ⟨rfl, rfl, rfl, by decide +kernel, rfl, by decide +kernel, by decide +kernel⟩
def w_all_lists (a_names : (List Str)) (P : (List (List Str)) → Prop) : Prop := ((-(2 ^ 62) ≤ ((a_names.length : Int) + (1 : Int)) ∧ ((a_names.length : Int) + (1 : Int)) < 2 ^ 62) ∧ ((rng 0 (Int.toNat ((a_names.length : Int) + (1 : Int)))).length ≤ 1000 ∧ comp2W (fun (x615 : Int) (R617 : List (List Str) → Prop) => (w_lists_of a_names x615 (fun (y621 : (List (List Str))) => inW ((fun (x615 : Int) (y616 : (List Str)) (R618 : Option (List Str) → Prop) => R618 (some y616)) x615) R617 y621))) (fun (y623 : (List (List Str))) => P y623) (rng 0 (Int.toNat ((a_names.length : Int) + (1 : Int)))) []))
abbrev W_all_lists (g : (List Str) × Unit) (P : (List (List Str)) → Prop) : Prop := w_all_lists g.1 P
theorem walk_all_lists {f : Addr} {fd : FuncData} (X : Tx K mg) (C_lists_of : CalD P w K mg base 8 "lists_of" (spD K AnyW W_lists_of) []) (F : Fun K "all_lists" "all_lists" (topS 37) f fd) (hm : mg "all_lists" = some (.ref f)) (bd : Binds K fd ["names"] []) : CalD P w K mg base 9 "all_lists" (spD K AnyW W_all_lists) [] :=
  cal_ok F hm bd sc_all_lists rfl (by decide) fun cdv A outer s H E hr => by
    exact ⟨_, (pss_cons (ps_ret (pe_lc2 (vs1 := [2]) rfl sc_all_lists.nd (pi_range1 (by rfl) X.b_range (pa_cons (pe_op op_add (pe_callB call_len_seq (by rfl) X.b_len rfl (pa_cons (pv 0) pa_nil)) pe_int) pa_nil)) (blkOk_by (N := ["names", "size", "row"]) (sc := defScope (topS 37)) (own := [("size", 1), ("row", 2)]) (by decide +kernel)) (by decide) (fun _ _ _ _ _ => (pg_name (i := 1) sc_all_lists.nd (by rfl) (by first | exact .inl rfl | exact .inr rfl))) (fun _ _ _ _ _ => pts_nil) (fun _ _ _ _ _ => (pi_listK (K := K) rfl (pe_cd C_lists_of hr (by decide) (by rfl) (pa_cons (pv 0) (pa_cons (pv 1) pa_nil))))) (fun _ _ _ _ _ => (pg_name (i := 2) sc_all_lists.nd (by rfl) (by first | exact .inl rfl | exact .inr rfl))) (fun _ _ _ _ _ => pts_nil) (fun _ _ _ _ _ => (pv 2)))) pss_nil), fun W W2 hW g P h => by
      have e1 : W = W2 := hW
      subst e1
      unfold W_all_lists w_all_lists at h
      exact sd_seq (sd_retW rfl (ev_fresh (EvF.imp (ef_lc2W (B1 := (fun (x615 : Int) (y616 : (List Str)) (R618 : Option (List Str) → Prop) => R618 (some y616))) (evio (evi_rng1 (ea_cons (ev_I0 (f := fun i j : Int => i + j) (fun h => h) (ev_lenC (fun h => h) (ec_ev (ev_var rfl (ev_int (ea_nil ⟨h.1, h.2⟩))))))))) (by exact fun x615 R617 h619 => tgc_name ⟨fun y616 R618 h620 => tgc_name (ev_var rfl (h620)), evi_list (Ev.imp (ev_call rfl (ea_cons (ev_var rfl (ea_cons (ev_var rfl (ea_nil h619)))))) (fun y621 h622 => h622))⟩)) (fun y623 h624 => h624))) (Wle.refl _))⟩

theorem sc_is_book : FnScope ["value", "order"] ["value"] (defScope (topS 41)) := ⟨rfl, rfl, rfl, by decide +kernel, rfl, by decide +kernel, by decide +kernel⟩
def w_is_book (a_value : ((Dc Str Int) × (List (T4 Str Str Int Int)))) (P : Bool → Prop) : Prop := altW (fun (P660 : Bool → Prop) => (((!true) = false → (((!decide ((2 : Int) = (2 : Int))) = false → (w_is_position a_value.1 (fun (y658 : Bool) => P660 (!y658)))) ∧ ((!decide ((2 : Int) = (2 : Int))) = true → P660 true))) ∧ ((!true) = true → P660 true))) (fun (y676 : Bool) => ((y676 = true → P false) ∧ (y676 = false → altW (fun (P673 : Bool → Prop) => (((true || false) = true → (a_value.2.length ≤ 100000 ∧ compW (fun (x662 : (T4 Str Str Int Int)) (R663 : Option Bool → Prop) => (w_is_standing x662 (fun (y665 : Bool) => R663 (some y665)))) (fun (y669 : (List Bool)) => P673 (List.all y669 id)) a_value.2 [])) ∧ ((true || false) = false → P673 false))) (fun (y675 : Bool) => P y675))))
abbrev W_is_book (g : ((Dc Str Int) × (List (T4 Str Str Int Int))) × Unit) (P : Bool → Prop) : Prop := w_is_book g.1 P
theorem walk_is_book {f : Addr} {fd : FuncData} (X : Tx K mg) (C_is_position : CalD P w K mg base 3 "is_position" (spD K AnyW W_is_position) []) (C_is_standing : CalD P w K mg base 3 "is_standing" (spD K AnyW W_is_standing) []) (F : Fun K "is_book" "is_book" (topS 41) f fd) (hm : mg "is_book" = some (.ref f)) (bd : Binds K fd ["value"] []) : CalD P w K mg base 4 "is_book" (spD K AnyW W_is_book) [] :=
  cal_ok F hm bd sc_is_book rfl (by decide) fun cdv A outer s H E hr => by
    exact ⟨_, (pss_cons (ps_if (PW.pt (pw_or (pt_not (pt_val (pe_callB call_isi (by rfl) X.b_isinstance rfl (pa_cons (pv 0) (pa_cons (pe_bltn (v := .ty "tuple") (by rfl) X.b_tuple rfl rfl) pa_nil))))) (pw_or (pt_cmpR op_ne (pe_callB call_len_seq (by rfl) X.b_len rfl (pa_cons (pv 0) pa_nil)) pe_int (nomark _)) (pw_or1 (pt_not (pt_val (pe_cd C_is_position hr (by decide) (by rfl) (pa_cons (pe_ix ix_tup (pv 0) pe_int (fun _ _ => rfl)) pa_nil)))))))) (pss_cons (ps_ret pe_bl) pss_nil) pss_nil) (pss_cons (ps_ret (pe_and (pe_callB call_isiT (by rfl) X.b_isinstance rfl (pa_cons (pe_ix ix_tup (pv 0) pe_int (fun _ _ => rfl)) (pa_cons (pe_tup (pa_cons (pe_bltn (v := .ty "list") (by rfl) X.b_list rfl rfl) (pa_cons (pe_bltn (v := .ty "tuple") (by rfl) X.b_tuple rfl rfl) pa_nil))) pa_nil))) (pe_one (pe_callB (cr_all rfl) (by rfl) X.b_all rfl (pa_cons (pe_lc rfl sc_is_book.nd (pi_list (pe_ix ix_tup (pv 0) pe_int (fun _ _ => rfl))) (blkOk_by (N := ["value", "order"]) (sc := defScope (topS 41)) (own := [("order", 1)]) (by decide +kernel)) (fun _ _ _ _ _ => (pg_name (i := 1) sc_is_book.nd (by rfl) (by first | exact .inl rfl | exact .inr rfl))) (fun _ _ _ _ _ => pts_nil) (fun _ _ _ _ _ => (pe_cd C_is_standing hr (by decide) (by rfl) (pa_cons (pv 1) pa_nil)))) pa_nil))))) pss_nil)), fun W W2 hW g P h => by
      have e1 : W = W2 := hW
      subst e1
      unfold W_is_book w_is_book at h
      exact sd_seq (sd_if (et_alt h (by exact fun h661 => et_or (et_not (et_B (ev_isi (α := ((Dc Str Int) × (List (T4 Str Str Int Int)))) (b := true) (ev_var rfl (⟨fun e681 => et_or (et_test (ev_neI (fun h => h) (ev_lenT2 (fun h => h) (ev_var rfl (ev_int (⟨fun e683 => et_not (et_B (Ev.imp (ev_call rfl (ea_cons (ev_p0 (fun h => h) (ev_var rfl (ea_nil ((h661.1 e681).1 e683)))))) (fun y658 h659 => h659))), fun e684 => (h661.1 e681).2 e684⟩)))))) (Wle.refl _), fun e682 => h661.2 e682⟩))))) (Wle.refl _)) (fun y679 h680 => ⟨fun e677 => sd_seq (sd_retW rfl (ev_bl ((h680.1 e677))) (Wle.refl _)), fun e678 => sd_next (sd_seq (sd_retW rfl (ev_alt (h680.2 e678) (by exact fun h674 => ev_andV (ev_isiT (α := (List (T4 Str Str Int Int))) (b1 := true) (b2 := false) (ev_p1 (fun h => h) (ev_var rfl (⟨fun e687 => ev_all (ec_ev (ev_fresh (EvF.imp (ef_lcW (evio (evi_list (ev_p1 (fun h => h) (ev_var rfl ((h674.1 e687)))))) (by exact fun x662 R663 h664 => bd_yes (tgc_name (Ev.imp (ev_call rfl (ea_cons (ev_var rfl (ea_nil h664)))) (fun y665 h666 => h666))) (Wle.refl _))) (fun y669 h672 => h672)))), fun e688 => h674.2 e688⟩)))) (Wle.refl _)) (fun y685 h686 => h686)) (Wle.refl _)))⟩)))⟩

theorem sc_are_books : FnScope ["value", "member", "book"] ["value"] (defScope (topS 42)) := ⟨rfl, rfl, rfl, by decide +kernel, rfl, by decide +kernel, by decide +kernel⟩
def w_are_books (a_value : (Dc Str ((Dc Str Int) × (List (T4 Str Str Int Int))))) (P : Bool → Prop) : Prop := altW (fun (P731 : Bool → Prop) => (((!true) = false → ((List.map Prod.fst a_value.l).length ≤ 100000 ∧ compW (fun (x720 : Str) (R721 : Option Bool → Prop) => (w_is_member x720 (fun (y723 : Bool) => R721 (some y723)))) (fun (y727 : (List Bool)) => P731 (!(List.all y727 id))) (List.map Prod.fst a_value.l) [])) ∧ ((!true) = true → P731 true))) (fun (y744 : Bool) => ((y744 = true → P false) ∧ (y744 = false → ((List.map Prod.snd a_value.l).length ≤ 100000 ∧ compW (fun (x733 : ((Dc Str Int) × (List (T4 Str Str Int Int)))) (R734 : Option Bool → Prop) => (w_is_book x733 (fun (y736 : Bool) => R734 (some y736)))) (fun (y740 : (List Bool)) => P (List.all y740 id)) (List.map Prod.snd a_value.l) []))))
abbrev W_are_books (g : (Dc Str ((Dc Str Int) × (List (T4 Str Str Int Int)))) × Unit) (P : Bool → Prop) : Prop := w_are_books g.1 P
theorem walk_are_books {f : Addr} {fd : FuncData} (X : Tx K mg) (C_is_member : CalD P w K mg base 2 "is_member" (spD K AnyW W_is_member) []) (C_is_book : CalD P w K mg base 4 "is_book" (spD K AnyW W_is_book) []) (F : Fun K "are_books" "are_books" (topS 42) f fd) (hm : mg "are_books" = some (.ref f)) (bd : Binds K fd ["value"] []) : CalD P w K mg base 5 "are_books" (spD K AnyW W_are_books) [] :=
  cal_ok F hm bd sc_are_books rfl (by decide) fun cdv A outer s H E hr => by
    exact ⟨_, (pss_cons (ps_if (PW.pt (pw_or (pt_not (pt_val (pe_callB call_isi (by rfl) X.b_isinstance rfl (pa_cons (pv 0) (pa_cons (pe_bltn (v := .ty "dict") (by rfl) X.b_dict rfl rfl) pa_nil))))) (pw_or1 (pt_not (pt_val (pe_callB (cr_all rfl) (by rfl) X.b_all rfl (pa_cons (pe_lockO (pe_lc rfl sc_are_books.nd (pi_keys (pv 0)) (blkOk_by (N := ["value", "member", "book"]) (sc := defScope (topS 42)) (own := [("member", 1)]) (by decide +kernel)) (fun _ _ _ _ _ => (pg_name (i := 1) sc_are_books.nd (by rfl) (by first | exact .inl rfl | exact .inr rfl))) (fun _ _ _ _ _ => pts_nil) (fun _ _ _ _ _ => (pe_cd C_is_member hr (by decide) (by rfl) (pa_cons (pv 1) pa_nil))))) pa_nil))))))) (pss_cons (ps_ret pe_bl) pss_nil) pss_nil) (pss_cons (ps_ret (pe_callB (cr_all rfl) (by rfl) X.b_all rfl (pa_cons (pe_lockO (pe_lc rfl sc_are_books.nd (pi_values (pv 0)) (blkOk_by (N := ["value", "member", "book"]) (sc := defScope (topS 42)) (own := [("book", 2)]) (by decide +kernel)) (fun _ _ _ _ _ => (pg_name (i := 2) sc_are_books.nd (by rfl) (by first | exact .inl rfl | exact .inr rfl))) (fun _ _ _ _ _ => pts_nil) (fun _ _ _ _ _ => (pe_cd C_is_book hr (by decide) (by rfl) (pa_cons (pv 2) pa_nil))))) pa_nil))) pss_nil)), fun W W2 hW g P h => by
      have e1 : W = W2 := hW
      subst e1
      unfold W_are_books w_are_books at h
      exact sd_seq (sd_if (et_alt h (by exact fun h732 => et_or (et_not (et_B (ev_isi (α := (Dc Str ((Dc Str Int) × (List (T4 Str Str Int Int))))) (b := true) (ev_var rfl (⟨fun e749 => et_not (et_B (ev_all (ec_ev (ev_fresh (EvF.imp (ef_lcKW rfl (ek_keys rfl) (h732.1 e749) (by exact fun x720 R721 h722 => bd_yes (tgc_name (Ev.imp (ev_call rfl (ea_cons (ev_var rfl (ea_nil h722)))) (fun y723 h724 => h724))) (Wle.refl _))) (fun y727 h730 => h730)))))), fun e750 => h732.2 e750⟩))))) (Wle.refl _)) (fun y747 h748 => ⟨fun e745 => sd_seq (sd_retW rfl (ev_bl ((h748.1 e745))) (Wle.refl _)), fun e746 => sd_next (sd_seq (sd_retW rfl (ev_all (ec_ev (ev_fresh (EvF.imp (ef_lcKW rfl (ek_vals rfl) (h748.2 e746) (by exact fun x733 R734 h735 => bd_yes (tgc_name (Ev.imp (ev_call rfl (ea_cons (ev_var rfl (ea_nil h735)))) (fun y736 h737 => h737))) (Wle.refl _))) (fun y740 h743 => h743))))) (Wle.refl _)))⟩)))⟩

theorem sc_loss_of : FnScope ["book", "move", "prices", "position", "orders"] ["book", "move", "prices"] (defScope (topS 48)) := ⟨rfl, rfl, rfl, by decide +kernel, rfl, by decide +kernel, by decide +kernel⟩
def w_loss_of (a_book : ((Dc Str Int) × (List (T4 Str Str Int Int)))) (a_move : (Dc Str Int)) (a_prices : (Dc Str Int)) (P : Int → Prop) : Prop := ∀ (z757 : ((Dc Str Int) × (List (T4 Str Str Int Int)))), z757 = a_book → ((w_worst_filled z757.2 a_move a_prices (fun (y759 : (Tp Int)) => w_loss_with z757.1 z757.2 a_move a_prices y759 (fun (y761 : Int) => P y761))))
abbrev W_loss_of (g : ((Dc Str Int) × (List (T4 Str Str Int Int))) × (Dc Str Int) × (Dc Str Int) × Unit) (P : Int → Prop) : Prop := w_loss_of g.1 g.2.1 g.2.2.1 P
theorem walk_loss_of {f : Addr} {fd : FuncData} (X : Tx K mg) (C_loss_with : CalD P w K mg base 2 "loss_with" (spD K AnyW W_loss_with) []) (C_worst_filled : CalD P w K mg base 2 "worst_filled" (spD K AnyW W_worst_filled) []) (F : Fun K "loss_of" "loss_of" (topS 48) f fd) (hm : mg "loss_of" = some (.ref f)) (bd : Binds K fd ["book", "move", "prices"] []) : CalD P w K mg base 3 "loss_of" (spD K AnyW W_loss_of) [] :=
  cal_ok F hm bd sc_loss_of rfl (by decide) fun cdv A outer s H E hr => by
    exact ⟨_, (pss_cons (ps_asg (pv 0) (pg_tup rfl (pgs_cons (pg_name (i := 3) sc_loss_of.nd (by rfl) (by first | exact .inl rfl | exact .inr rfl)) (pgs_cons (pg_name (i := 4) sc_loss_of.nd (by rfl) (by first | exact .inl rfl | exact .inr rfl)) pgs_nil)))) (pss_cons (ps_ret (pe_cd C_loss_with hr (by decide) (by rfl) (pa_cons (pv 3) (pa_cons (pv 4) (pa_cons (pv 1) (pa_cons (pv 2) (pa_cons (pe_cd C_worst_filled hr (by decide) (by rfl) (pa_cons (pv 4) (pa_cons (pv 1) (pa_cons (pv 2) pa_nil)))) pa_nil))))))) pss_nil)), fun W W2 hW g P h => by
      have e1 : W = W2 := hW
      subst e1
      unfold W_loss_of w_loss_of at h
      exact sd_seq (sd_asgTZ (ev_var rfl (fun z757 e758 => tg_two (sd_seq (sd_retW rfl (Ev.imp (ev_call rfl (ea_cons (ev_var rfl (ea_cons (ev_var rfl (ea_cons (ev_var rfl (ea_cons (ev_var rfl (ea_cons (Ev.imp (ev_call rfl (ea_cons (ev_var rfl (ea_cons (ev_var rfl (ea_cons (ev_var rfl (ea_nil (h z757 e758))))))))) (fun y759 h760 => ea_nil h760)))))))))))) (fun y761 h762 => h762)) (Wle.refl _))))))⟩

theorem sc_check_moves : FnScope ["moves", "move"] ["moves"] (defScope (topS 22)) := ⟨rfl, rfl, rfl, by decide +kernel, rfl, by decide +kernel, by decide +kernel⟩
def w_check_moves (a_moves : (List (Dc Str Int))) (P : Unit → Prop) : Prop := altW (fun (P795 : Bool → Prop) => ((decide ((1 : Int) ≤ (a_moves.length : Int))) = true → P795 (decide ((a_moves.length : Int) ≤ (8 : Int)))) ∧ ((decide ((1 : Int) ≤ (a_moves.length : Int))) = false → P795 false)) (fun (y820 : Bool) => (((!y820) = true → False) ∧ ((!y820) = false → forW (fun (x806 : (Dc Str Int)) (s803 : Unit) (n807 b808 : Unit → Prop) => (w_is_move x806 (fun (y809 : Bool) => (((!y809) = true → False) ∧ ((!y809) = false → n807 ()))))) (fun (s813 : Unit) => (∃ (x814 : (Dc Str Int)), atI a_moves (0 : Int) = some x814 ∧ (((!(List.isEmpty x814.l)) = true → False) ∧ ((!(List.isEmpty x814.l)) = false → P ())))) a_moves ())))
abbrev W_check_moves (g : (List (Dc Str Int)) × Unit) (P : Unit → Prop) : Prop := w_check_moves g.1 P
theorem walk_check_moves {f : Addr} {fd : FuncData} (X : Tx K mg) (C_is_move : CalD P w K mg base 3 "is_move" (spD K AnyW W_is_move) []) (F : Fun K "check_moves" "check_moves" (topS 22) f fd) (hm : mg "check_moves" = some (.ref f)) (bd : Binds K fd ["moves"] []) : CalD P w K mg base 4 "check_moves" (spD K AnyW W_check_moves) [] :=
  cal_okU F hm bd sc_check_moves rfl (by decide) fun cdv A outer s H E hr => by
    exact ⟨_, (pss_cons (ps_if (pt_not (pt_chain op_le op_le pe_int (pe_callB call_len_seq (by rfl) X.b_len rfl (pa_cons (pv 0) pa_nil)) (pe_glob (v := .int 8) (by rfl) X.c_MOST_MOVES.choose_spec ⟨_, rfl⟩))) (pss_cons ps_never pss_nil) pss_nil) (pss_cons (ps_for PassesOwn.never rfl (pi_list (pv 0)) (pg_name (i := 1) sc_check_moves.nd (by rfl) (by first | exact .inl rfl | exact .inr rfl)) (pss_cons (ps_if (pt_not (pt_val (pe_cd C_is_move hr (by decide) (by rfl) (pa_cons (pv 1) pa_nil)))) (pss_cons ps_never pss_nil) pss_nil) pss_nil)) (pss_cons (ps_if (pt_cmpR (op_neD0 (hu64 hr)) (pe_ix ix_list (pv 0) pe_int (fun _ _ => rfl)) pe_dnewK (nomark _)) (pss_cons ps_never pss_nil) pss_nil) pss_nil))), fun W W2 hW g P h => by
      have e1 : W = W2 := hW
      subst e1
      unfold W_check_moves w_check_moves at h
      exact sd_seq (sd_if (et_not (et_test (ev_alt h (by exact fun h798 => ev_chain (f := fun i j : Int => (decide (i ≤ j))) (g := fun i j : Int => (decide (i ≤ j))) (ev_int (ev_lenC (fun h => h) (ec_ev (ev_var rfl (⟨fun e796 => ev_int ((h798.1 e796)), fun e797 => h798.2 e797⟩)))))) (fun y823 h824 => ⟨fun e821 => sd_seq (sd_never (h824.1 e821)), fun e822 => sd_next (sd_wipe [1] (sd_seq (sd_forW (fun (s803 : Unit) => [sD (α := (List (Dc Str Int))) g.1, .non]) (evi_list (ev_var rfl (⟨(), rfl, (h824.2 e822)⟩))) (by exact fun x806 s803 n807 h818 => tg_name (sd_seq (sd_if (et_not (et_B (Ev.imp (ev_call rfl (ea_cons (ev_var rfl (ea_nil h818)))) (fun y809 h810 => ⟨fun e811 => sd_seq (sd_never (h810.1 e811)), fun e812 => sd_next (sd_nextW [1] ⟨(), rfl, (Wle.refl _), (h810.2 e812)⟩)⟩))))))) (by exact fun s813 h819 => sd_seq (sd_if (et_test (ev_neD0 (ecd_ev (ev_ixL (fun h => h) (ec_ev (ev_var rfl (ev_int (Exists.elim h819 fun x814 h815 => ⟨x814, h815.1, ecd_ev (evd_fresh (eg_new (⟨rfl, ⟨fun e816 => sd_seq (sd_never (h815.2.1 e816)), fun e817 => sd_next (sd_next ⟨(Wle.refl _), (h815.2.2 e817)⟩)⟩⟩)))⟩)))))))))) (fun _ _ l z => sd_le l z))))⟩)))))⟩

theorem sc_all_orders : FnScope ["books", "members", "member", "order"] ["books", "members"] (defScope (topS 43)) := ⟨rfl, rfl, rfl, by decide +kernel, rfl, by decide +kernel, by decide +kernel⟩
def w_all_orders (a_books : (Dc Str ((Dc Str Int) × (List (T4 Str Str Int Int))))) (a_members : (List Str)) (P : (List (T4 Str Str Int Int)) → Prop) : Prop := (a_members.length ≤ 1000 ∧ comp2W (fun (x844 : Str) (R846 : List (T4 Str Str Int Int) → Prop) => (∃ (x850 : ((Dc Str Int) × (List (T4 Str Str Int Int)))), look a_books.l x844 = some x850 ∧ inW ((fun (x844 : Str) (y845 : (T4 Str Str Int Int)) (R847 : Option (T4 Str Str Int Int) → Prop) => R847 (some y845)) x844) R846 x850.2)) (fun (y852 : (List (T4 Str Str Int Int))) => P y852) a_members [])
abbrev W_all_orders (g : (Dc Str ((Dc Str Int) × (List (T4 Str Str Int Int)))) × (List Str) × Unit) (P : (List (T4 Str Str Int Int)) → Prop) : Prop := w_all_orders g.1 g.2.1 P
theorem walk_all_orders {f : Addr} {fd : FuncData} (X : Tx K mg)  (F : Fun K "all_orders" "all_orders" (topS 43) f fd) (hm : mg "all_orders" = some (.ref f)) (bd : Binds K fd ["books", "members"] []) : CalD P w K mg base 1 "all_orders" (spD K AnyW W_all_orders) [] :=
  cal_ok F hm bd sc_all_orders rfl (by decide) fun cdv A outer s H E hr => by
    exact ⟨_, (pss_cons (ps_ret (pe_lc2 (vs1 := [3]) rfl sc_all_orders.nd (pi_list (pv 1)) (blkOk_by (N := ["books", "members", "member", "order"]) (sc := defScope (topS 43)) (own := [("member", 2), ("order", 3)]) (by decide +kernel)) (by decide) (fun _ _ _ _ _ => (pg_name (i := 2) sc_all_orders.nd (by rfl) (by first | exact .inl rfl | exact .inr rfl))) (fun _ _ _ _ _ => pts_nil) (fun _ _ _ _ _ => (pi_listK (K := K) rfl (pe_ix ix_tup (pe_dget (hu_of hr) (pv 0) (pv 2) (fun _ _ => rfl)) pe_int (fun _ _ => rfl)))) (fun _ _ _ _ _ => (pg_name (i := 3) sc_all_orders.nd (by rfl) (by first | exact .inl rfl | exact .inr rfl))) (fun _ _ _ _ _ => pts_nil) (fun _ _ _ _ _ => (pv 3)))) pss_nil), fun W W2 hW g P h => by
      have e1 : W = W2 := hW
      subst e1
      unfold W_all_orders w_all_orders at h
      exact sd_seq (sd_retW rfl (ev_fresh (EvF.imp (ef_lc2W (B1 := (fun (x844 : Str) (y845 : (T4 Str Str Int Int)) (R847 : Option (T4 Str Str Int Int) → Prop) => R847 (some y845))) (evio (evi_list (ev_var rfl (h)))) (by exact fun x844 R846 h848 => tgc_name ⟨fun y845 R847 h849 => tgc_name (ev_var rfl (h849)), evi_list (ev_p1 (fun h => h) (ev_dget (ecd_ev (ev_var rfl (ev_var rfl (Exists.elim h848 fun x850 h851 => ⟨x850, h851.1, h851.2⟩))))))⟩)) (fun y852 h853 => h853))) (Wle.refl _))⟩

theorem sc_check_world : FnScope ["books", "moves", "prices"] ["books", "moves", "prices"] (defScope (topS 44)) := ⟨rfl, rfl, rfl, by decide +kernel, rfl, by decide +kernel, by decide +kernel⟩
def w_check_world (a_books : (Dc Str ((Dc Str Int) × (List (T4 Str Str Int Int))))) (a_moves : (List (Dc Str Int))) (a_prices : (Dc Str Int)) (P : Unit → Prop) : Prop := (w_are_books a_books (fun (y865 : Bool) => (((!y865) = true → False) ∧ ((!y865) = false → (w_check_moves a_moves (fun (y867 : Unit) => (w_check_prices a_prices (fun (y869 : Unit) => (((a_books.l.length < 64 ∧ ∀ (z874 : List Str), List.Perm z874 (List.map Prod.fst a_books.l) → sortedS z874 = true → w_all_orders a_books z874 (fun (y877 : (List (T4 Str Str Int Int))) => w_check_priced y877 a_prices (fun (y879 : Unit) => P ())))))))))))))
abbrev W_check_world (g : (Dc Str ((Dc Str Int) × (List (T4 Str Str Int Int)))) × (List (Dc Str Int)) × (Dc Str Int) × Unit) (P : Unit → Prop) : Prop := w_check_world g.1 g.2.1 g.2.2.1 P
theorem walk_check_world {f : Addr} {fd : FuncData} (X : Tx K mg) (C_are_books : CalD P w K mg base 5 "are_books" (spD K AnyW W_are_books) []) (C_check_moves : CalD P w K mg base 4 "check_moves" (spD K AnyW W_check_moves) []) (C_check_prices : CalD P w K mg base 3 "check_prices" (spD K AnyW W_check_prices) []) (C_check_priced : CalD P w K mg base 1 "check_priced" (spD K AnyW W_check_priced) []) (C_all_orders : CalD P w K mg base 1 "all_orders" (spD K AnyW W_all_orders) []) (F : Fun K "check_world" "check_world" (topS 44) f fd) (hm : mg "check_world" = some (.ref f)) (bd : Binds K fd ["books", "moves", "prices"] []) : CalD P w K mg base 6 "check_world" (spD K AnyW W_check_world) [] :=
  cal_okU F hm bd sc_check_world rfl (by decide) fun cdv A outer s H E hr => by
    exact ⟨_, (pss_cons (ps_if (pt_not (pt_val (pe_cd C_are_books hr (by decide) (by rfl) (pa_cons (pv 0) pa_nil)))) (pss_cons ps_never pss_nil) pss_nil) (pss_cons (ps_expr (pe_cd C_check_moves hr (by decide) (by rfl) (pa_cons (pv 1) pa_nil))) (pss_cons (ps_expr (pe_cd C_check_prices hr (by decide) (by rfl) (pa_cons (pv 2) pa_nil))) (pss_cons (ps_expr (pe_cd C_check_priced hr (by decide) (by rfl) (pa_cons (pe_cd C_all_orders hr (by decide) (by rfl) (pa_cons (pv 0) (pa_cons (pe_callB (call_sortedD rfl) (by rfl) X.b_sorted rfl (pa_cons (pv 0) pa_nil)) pa_nil))) (pa_cons (pv 2) pa_nil)))) pss_nil)))), fun W W2 hW g P h => by
      have e1 : W = W2 := hW
      subst e1
      unfold W_check_world w_check_world at h
      exact sd_seq (sd_if (et_not (et_B (Ev.imp (ev_call rfl (ea_cons (ev_var rfl (ea_nil h)))) (fun y865 h866 => ⟨fun e881 => sd_seq (sd_never (h866.1 e881)), fun e882 => sd_next (sd_seq (sd_drop (Ev.imp (ev_call rfl (ea_cons (ev_var rfl (ea_nil (h866.2 e882))))) (fun y867 h868 => sd_seq (sd_drop (Ev.imp (ev_call rfl (ea_cons (ev_var rfl (ea_nil h868)))) (fun y869 h870 => sd_seq (sd_drop (Ev.imp (ev_call rfl (ea_cons (Ev.imp (ev_call rfl (ea_cons (ev_var rfl (ea_cons (ev_fresh (ef_sortedD (ecd_ev (ev_var rfl (⟨h870.1, fun z874 h875 h876 => ea_nil (h870.2 z874 h875 h876)⟩))))))))) (fun y877 h878 => ea_cons (ev_var rfl (ea_nil h878)))))) (fun y879 h880 => sd_next ⟨(Wle.refl _), h880⟩))))))))))⟩)))))⟩

theorem sc_joined_position : FnScope ["books", "members", "found", "member"] ["books", "members"] (defScope (topS 45)) := ⟨rfl, rfl, rfl, by decide +kernel, rfl, by decide +kernel, by decide +kernel⟩
def w_joined_position (a_books : (Dc Str ((Dc Str Int) × (List (T4 Str Str Int Int))))) (a_members : (List Str)) (P : (Dc Str Int) → Prop) : Prop := ∀ (z_found_912 : (Dc Str Int)), z_found_912 = (Dc.mk ([] : List (Str × Int))) → forW (fun (x922 : Str) (s919 : (Dc Str Int)) (n923 b924 : (Dc Str Int) → Prop) => ((∃ (x925 : ((Dc Str Int) × (List (T4 Str Str Int Int)))), look a_books.l x922 = some x925 ∧ w_summed s919 x925.1 (fun (y927 : (Dc Str Int)) => ∀ (z_found_929 : (Dc Str Int)), z_found_929 = y927 → n923 z_found_929)))) (fun (s931 : (Dc Str Int)) => P s931) a_members z_found_912
abbrev W_joined_position (g : (Dc Str ((Dc Str Int) × (List (T4 Str Str Int Int)))) × (List Str) × Unit) (P : (Dc Str Int) → Prop) : Prop := w_joined_position g.1 g.2.1 P
theorem walk_joined_position {f : Addr} {fd : FuncData} (X : Tx K mg) (C_summed : CalD P w K mg base 1 "summed" (spD K AnyW W_summed) []) (F : Fun K "joined_position" "joined_position" (topS 45) f fd) (hm : mg "joined_position" = some (.ref f)) (bd : Binds K fd ["books", "members"] []) : CalD P w K mg base 2 "joined_position" (spD K AnyW W_joined_position) [] :=
  cal_ok F hm bd sc_joined_position rfl (by decide) fun cdv A outer s H E hr => by
    exact ⟨_, (pss_cons (ps_set (i := 2) sc_joined_position.nd (by rfl) (by first | exact .inl rfl | exact .inr rfl) pe_dnewK) (pss_cons (ps_for PassesOwn.never rfl (pi_list (pv 1)) (pg_name (i := 3) sc_joined_position.nd (by rfl) (by first | exact .inl rfl | exact .inr rfl)) (pss_cons (ps_set (i := 2) sc_joined_position.nd (by rfl) (by first | exact .inl rfl | exact .inr rfl) (pe_cd C_summed hr (by decide) (by rfl) (pa_cons (pv 2) (pa_cons (pe_ix ix_tup (pe_dget (hu_of hr) (pv 0) (pv 3) (fun _ _ => rfl)) pe_int (fun _ _ => rfl)) pa_nil)))) pss_nil)) (pss_cons (ps_ret (pv 2)) pss_nil))), fun W W2 hW g P h => by
      have e1 : W = W2 := hW
      subst e1
      unfold W_joined_position w_joined_position at h
      exact sd_seq (sd_asgZ (i := 2) (evd_fresh (eg_new (fun z_found_912 e934 => sd_wipe [3] (sd_seq (sd_forW (fun (s919 : (Dc Str Int)) => [sD (α := (Dc Str ((Dc Str Int) × (List (T4 Str Str Int Int))))) g.1, sD (α := (List Str)) g.2.1, sD (α := (Dc Str Int)) s919, .non]) (evi_list (ev_var rfl (⟨z_found_912, rfl, (h z_found_912 e934)⟩))) (by exact fun x922 s919 n923 h932 => tg_name (sd_seq (sd_asgZ (i := 2) (Ev.imp (ev_call rfl (ea_cons (ev_var rfl (ea_cons (ev_p0 (fun h => h) (ev_dget (ecd_ev (ev_var rfl (ev_var rfl (Exists.elim h932 fun x925 h926 => ⟨x925, h926.1, ea_nil h926.2⟩)))))))))) (fun y927 h928 => fun z_found_929 e930 => sd_nextW [3] ⟨z_found_929, rfl, (Wle.refl _), (h928 z_found_929 e930)⟩))))) (by exact fun s931 h933 => sd_seq (sd_retW rfl (ev_var rfl (h933)) (Wle.refl _))) (fun _ _ l z => sd_le l z)))))))⟩

theorem sc_worst_of : FnScope ["position", "orders", "moves", "prices", "fills", "lost", "index", "move", "filled"] ["position", "orders", "moves", "prices"] (defScope (topS 29)) := ⟨rfl, rfl, rfl, by decide +kernel, rfl, by decide +kernel, by decide +kernel⟩
def w_worst_of (a_position : (Dc Str Int)) (a_orders : (List (T4 Str Str Int Int))) (a_moves : (List (Dc Str Int))) (a_prices : (Dc Str Int)) (P : (T3 Int Int (Tp Int)) → Prop) : Prop := (a_moves.length ≤ 100000 ∧ compW (fun (x978 : (Dc Str Int)) (R979 : Option (Tp Int) → Prop) => (w_worst_filled a_orders x978 a_prices (fun (y981 : (Tp Int)) => R979 (some y981)))) (fun (y985 : (List (Tp Int))) => ∀ (z_fills_989 : (List (Tp Int))), z_fills_989 = y985 → ((List.zip a_moves z_fills_989).length ≤ 100000 ∧ compW (fun (x990 : ((Dc Str Int) × (Tp Int))) (R991 : Option Int → Prop) => (w_loss_with a_position a_orders x990.1 a_prices x990.2 (fun (y993 : Int) => R991 (some y993)))) (fun (y997 : (List Int)) => ∀ (z_lost_1001 : (List Int)), z_lost_1001 = y997 → (0 < z_lost_1001.length ∧ ∀ m1002, m1002 ∈ z_lost_1001 → (∀ y1005, y1005 ∈ z_lost_1001 → y1005 ≤ m1002) → (z_lost_1001.length ≤ 100000 ∧ m1002 ∈ z_lost_1001 ∧ ∀ (j1006 : Nat), z_lost_1001[j1006]? = some m1002 → (∀ i, i < j1006 → z_lost_1001[i]? ≠ some m1002) → ∀ (z_index_1009 : Int), z_index_1009 = (j1006 : Int) → (∃ (x1010 : Int), atI z_lost_1001 z_index_1009 = some x1010 ∧ (∃ (x1012 : (Tp Int)), atI z_fills_989 z_index_1009 = some x1012 ∧ P (T3.mk x1010 z_index_1009 x1012)))))) (List.zip a_moves z_fills_989) [])) a_moves [])
abbrev W_worst_of (g : (Dc Str Int) × (List (T4 Str Str Int Int)) × (List (Dc Str Int)) × (Dc Str Int) × Unit) (P : (T3 Int Int (Tp Int)) → Prop) : Prop := w_worst_of g.1 g.2.1 g.2.2.1 g.2.2.2.1 P
theorem walk_worst_of {f : Addr} {fd : FuncData} (X : Tx K mg) (C_worst_filled : CalD P w K mg base 2 "worst_filled" (spD K AnyW W_worst_filled) []) (C_loss_with : CalD P w K mg base 2 "loss_with" (spD K AnyW W_loss_with) []) (F : Fun K "worst_of" "worst_of" (topS 29) f fd) (hm : mg "worst_of" = some (.ref f)) (bd : Binds K fd ["position", "orders", "moves", "prices"] []) : CalD P w K mg base 3 "worst_of" (spD K AnyW W_worst_of) [] :=
  cal_ok F hm bd sc_worst_of rfl (by decide) fun cdv A outer s H E hr => by
    exact ⟨_, (pss_cons (ps_setLc (i := 4) rfl sc_worst_of.nd (by rfl) (by rfl) (sw_true rfl rfl rfl rfl) (pi_list (pv 2)) (blkOk_by (N := ["position", "orders", "moves", "prices", "fills", "lost", "index", "move", "filled"]) (sc := defScope (topS 29)) (own := [("move", 7)]) (by decide +kernel)) (fun _ _ _ _ _ => (pg_name (i := 7) sc_worst_of.nd (by rfl) (by first | exact .inl rfl | exact .inr rfl))) (fun _ _ _ _ _ => pts_nil) (fun _ _ _ _ _ => (pe_cd C_worst_filled hr (by decide) (by rfl) (pa_cons (pv 1) (pa_cons (pv 7) (pa_cons (pv 3) pa_nil)))))) (pss_cons (ps_setLc (i := 5) rfl sc_worst_of.nd (by rfl) (by rfl) (sw_true rfl rfl rfl rfl) (g := gTup K 2 (gCons (gName 7) (gCons (gName 8) gNil))) (RZ.pi_zipA (by rfl) X.b_zip (pa_cons (pv 2) (pa_cons (pv 4) pa_nil))) (blkOk_by (N := ["position", "orders", "moves", "prices", "fills", "lost", "index", "move", "filled"]) (sc := defScope (topS 29)) (own := [("move", 7), ("filled", 8)]) (by decide +kernel)) (fun _ _ _ _ _ => (pg_tup rfl (pgs_cons (pg_name (i := 7) sc_worst_of.nd (by rfl) (by first | exact .inl rfl | exact .inr rfl)) (pgs_cons (pg_name (i := 8) sc_worst_of.nd (by rfl) (by first | exact .inl rfl | exact .inr rfl)) pgs_nil)))) (fun _ _ _ _ _ => pts_nil) (fun _ _ _ _ _ => (pe_cd C_loss_with hr (by decide) (by rfl) (pa_cons (pv 0) (pa_cons (pv 1) (pa_cons (pv 7) (pa_cons (pv 3) (pa_cons (pv 8) pa_nil)))))))) (pss_cons (ps_set (i := 6) sc_worst_of.nd (by rfl) (by first | exact .inl rfl | exact .inr rfl) (pe_bm PySem.F.plainAttrs_list PySem.F.slot_list_index PySem.F.type_list_index mt_index (pv 5) (pa_cons (pe_callB (cr_max rfl) (by rfl) X.b_max rfl (pa_cons (pv 5) pa_nil)) pa_nil))) (pss_cons (ps_ret (pe_tup (pa_cons (pe_ix ix_list (pv 5) (pv 6) (fun _ _ => rfl)) (pa_cons (pv 6) (pa_cons (pe_ix ix_list (pv 4) (pv 6) (fun _ _ => rfl)) pa_nil))))) pss_nil)))), fun W W2 hW g P h => by
      have e1 : W = W2 := hW
      subst e1
      unfold W_worst_of w_worst_of at h
      exact sd_seq (sd_asgZ (i := 4) (ev_fresh (EvF.imp (ef_lcW (evio (evi_list (ev_var rfl (h)))) (by exact fun x978 R979 h980 => bd_yes (tgc_name (Ev.imp (ev_call rfl (ea_cons (ev_var rfl (ea_cons (ev_var rfl (ea_cons (ev_var rfl (ea_nil h980)))))))) (fun y981 h982 => h982))) (Wle.refl _))) (fun y985 h988 => fun z_fills_989 e1016 => sd_seq (sd_asgZ (i := 5) (ev_fresh (EvF.imp (ef_lcW (evio (evi_zipLL (ea_cons (ev_var rfl (ea_cons (ev_var rfl (ea_nil ((h988 z_fills_989 e1016))))))))) (by exact fun x990 R991 h992 => bd_yes (tgc_two (Ev.imp (ev_call rfl (ea_cons (ev_var rfl (ea_cons (ev_var rfl (ea_cons (ev_var rfl (ea_cons (ev_var rfl (ea_cons (ev_var rfl (ea_nil h992)))))))))))) (fun y993 h994 => h994))) (Wle.refl _))) (fun y997 h1000 => fun z_lost_1001 e1015 => sd_seq (sd_asgZ (i := 6) (ev_index (ec_ev (ev_var rfl (ev_max (ec_ev (ev_var rfl (⟨(h1000 z_lost_1001 e1015).1, fun m1002 h1003 h1004 => ⟨((h1000 z_lost_1001 e1015).2 m1002 h1003 h1004).1, ((h1000 z_lost_1001 e1015).2 m1002 h1003 h1004).2.1, fun j1006 h1007 h1008 => fun z_index_1009 e1014 => sd_seq (sd_retW rfl (ev_tup3 (ea_cons (ev_ixL (fun h => h) (ec_ev (ev_var rfl (ev_var rfl (Exists.elim ((((h1000 z_lost_1001 e1015).2 m1002 h1003 h1004).2.2 j1006 h1007 h1008) z_index_1009 e1014) fun x1010 h1011 => ⟨x1010, h1011.1, ea_cons (ev_var rfl (ea_cons (ev_ixL (fun h => h) (ec_ev (ev_var rfl (ev_var rfl (Exists.elim h1011.2 fun x1012 h1013 => ⟨x1012, h1013.1, ea_nil (h1013.2)⟩)))))))⟩))))))) (Wle.refl _))⟩⟩))))))))))))))))⟩

theorem sc_worst_together : FnScope ["books", "members", "moves", "prices"] ["books", "members", "moves", "prices"] (defScope (topS 46)) := ⟨rfl, rfl, rfl, by decide +kernel, rfl, by decide +kernel, by decide +kernel⟩
def w_worst_together (a_books : (Dc Str ((Dc Str Int) × (List (T4 Str Str Int Int))))) (a_members : (List Str)) (a_moves : (List (Dc Str Int))) (a_prices : (Dc Str Int)) (P : (Int × Int) → Prop) : Prop := ((w_joined_position a_books a_members (fun (y1027 : (Dc Str Int)) => (w_all_orders a_books a_members (fun (y1029 : (List (T4 Str Str Int Int))) => w_worst_of y1027 y1029 a_moves a_prices (fun (y1031 : (T3 Int Int (Tp Int))) => P (y1031.a, y1031.b)))))))
abbrev W_worst_together (g : (Dc Str ((Dc Str Int) × (List (T4 Str Str Int Int)))) × (List Str) × (List (Dc Str Int)) × (Dc Str Int) × Unit) (P : (Int × Int) → Prop) : Prop := w_worst_together g.1 g.2.1 g.2.2.1 g.2.2.2.1 P
theorem walk_worst_together {f : Addr} {fd : FuncData} (X : Tx K mg) (C_worst_of : CalD P w K mg base 3 "worst_of" (spD K AnyW W_worst_of) []) (C_joined_position : CalD P w K mg base 2 "joined_position" (spD K AnyW W_joined_position) []) (C_all_orders : CalD P w K mg base 1 "all_orders" (spD K AnyW W_all_orders) []) (F : Fun K "worst_together" "worst_together" (topS 46) f fd) (hm : mg "worst_together" = some (.ref f)) (bd : Binds K fd ["books", "members", "moves", "prices"] []) : CalD P w K mg base 4 "worst_together" (spD K AnyW W_worst_together) [] :=
  cal_ok F hm bd sc_worst_together rfl (by decide) fun cdv A outer s H E hr => by
    exact ⟨_, (pss_cons (ps_ret (pe_slice sl_tupA (pe_cd C_worst_of hr (by decide) (by rfl) (pa_cons (pe_cd C_joined_position hr (by decide) (by rfl) (pa_cons (pv 0) (pa_cons (pv 1) pa_nil))) (pa_cons (pe_cd C_all_orders hr (by decide) (by rfl) (pa_cons (pv 0) (pa_cons (pv 1) pa_nil))) (pa_cons (pv 2) (pa_cons (pv 3) pa_nil))))) po_none (po_some pe_int))) pss_nil), fun W W2 hW g P h => by
      have e1 : W = W2 := hW
      subst e1
      unfold W_worst_together w_worst_together at h
      exact sd_seq (sd_retW rfl (ev_t3cut (fun h => h) (Ev.imp (ev_call rfl (ea_cons (Ev.imp (ev_call rfl (ea_cons (ev_var rfl (ea_cons (ev_var rfl (ea_nil h)))))) (fun y1027 h1028 => ea_cons (Ev.imp (ev_call rfl (ea_cons (ev_var rfl (ea_cons (ev_var rfl (ea_nil h1028)))))) (fun y1029 h1030 => ea_cons (ev_var rfl (ea_cons (ev_var rfl (ea_nil h1030)))))))))) (fun y1031 h1032 => h1032))) (Wle.refl _))⟩

theorem sc_sharing : FnScope ["books", "moves", "prices", "members", "index", "member"] ["books", "moves", "prices"] (defScope (topS 49)) := ⟨rfl, rfl, rfl, by decide +kernel, rfl, by decide +kernel, by decide +kernel⟩
def w_sharing (a_books : (Dc Str ((Dc Str Int) × (List (T4 Str Str Int Int))))) (a_moves : (List (Dc Str Int))) (a_prices : (Dc Str Int)) (P : (List (Str × Int)) → Prop) : Prop := (w_check_world a_books a_moves a_prices (fun (y1053 : Unit) => (a_books.l.length < 64 ∧ ∀ (z1055 : List Str), List.Perm z1055 (List.map Prod.fst a_books.l) → sortedS z1055 = true → ∀ (z_members_1058 : (List Str)), z_members_1058 = z1055 → (w_worst_together a_books z_members_1058 a_moves a_prices (fun (y1059 : (Int × Int)) => ∀ (z_index_1061 : Int), z_index_1061 = y1059.2 → (z_members_1058.length ≤ 100000 ∧ compM (fun (x1062 : Str) (R1063 : Option (Str × Int) → Prop) => ((∃ (x1065 : ((Dc Str Int) × (List (T4 Str Str Int Int)))), look a_books.l x1062 = some x1065 ∧ (∃ (x1067 : (Dc Str Int)), atI a_moves z_index_1061 = some x1067 ∧ w_loss_of x1065 x1067 a_prices (fun (y1069 : Int) => R1063 (some (x1062, y1069))))))) (fun (y1073p : (List (Str × Int))) => P y1073p) z_members_1058))))))
abbrev W_sharing (g : (Dc Str ((Dc Str Int) × (List (T4 Str Str Int Int)))) × (List (Dc Str Int)) × (Dc Str Int) × Unit) (P : (List (Str × Int)) → Prop) : Prop := w_sharing g.1 g.2.1 g.2.2.1 P
theorem ok_sharing {f : Addr} {fd : FuncData} (X : Tx K mg) (C_check_world : CalD P w K mg base 6 "check_world" (spD K AnyW W_check_world) []) (C_worst_together : CalD P w K mg base 4 "worst_together" (spD K AnyW W_worst_together) []) (C_loss_of : CalD P w K mg base 3 "loss_of" (spD K AnyW W_loss_of) []) (F : Fun K "sharing" "sharing" (topS 49) f fd) : FnOk P w K mg base CX0 7 f fd ["books", "moves", "prices"] (spG K AnyW W_sharing) :=
  fn_okG F sc_sharing rfl (by decide) fun cdv A outer s H E hr => by
    exact ⟨_, (pss_cons (ps_expr (pe_cd C_check_world hr (by decide) (by rfl) (pa_cons (pv 0) (pa_cons (pv 1) (pa_cons (pv 2) pa_nil))))) (pss_cons (ps_set (i := 3) sc_sharing.nd (by rfl) (by first | exact .inl rfl | exact .inr rfl) (pe_callB (call_sortedD rfl) (by rfl) X.b_sorted rfl (pa_cons (pv 0) pa_nil))) (pss_cons (ps_set (i := 4) sc_sharing.nd (by rfl) (by first | exact .inl rfl | exact .inr rfl) (pe_ix ix_tup (pe_cd C_worst_together hr (by decide) (by rfl) (pa_cons (pv 0) (pa_cons (pv 3) (pa_cons (pv 1) (pa_cons (pv 2) pa_nil))))) pe_int (fun _ _ => rfl))) (pss_cons (ps_ret (pe_dc rfl sc_sharing.nd (pi_list (pv 3)) (blkOk_by (N := ["books", "moves", "prices", "members", "index", "member"]) (sc := defScope (topS 49)) (own := [("member", 5)]) (by decide +kernel)) (fun _ _ _ _ _ => (pg_name (i := 5) sc_sharing.nd (by rfl) (by first | exact .inl rfl | exact .inr rfl))) (fun _ _ _ _ _ => pts_nil) (fun _ _ _ _ _ => (pv 5)) (fun _ _ _ _ _ => (pe_cd C_loss_of hr (by decide) (by rfl) (pa_cons (pe_dget (hu_of hr) (pv 0) (pv 5) (fun _ _ => rfl)) (pa_cons (pe_ix ix_list (pv 1) (pv 4) (fun _ _ => rfl)) (pa_cons (pv 2) pa_nil))))))) pss_nil)))), fun W W2 hW g P h => by
      have e1 : W = W2 := hW
      subst e1
      unfold W_sharing w_sharing at h
      exact sd_seq (sd_drop (Ev.imp (ev_call rfl (ea_cons (ev_var rfl (ea_cons (ev_var rfl (ea_cons (ev_var rfl (ea_nil h)))))))) (fun y1053 h1054 => sd_seq (sd_asgZ (i := 3) (ev_fresh (ef_sortedD (ecd_ev (ev_var rfl (⟨h1054.1, fun z1055 h1056 h1057 => fun z_members_1058 e1078 => sd_seq (sd_asgZ (i := 4) (ev_p1 (fun h => h) (Ev.imp (ev_call rfl (ea_cons (ev_var rfl (ea_cons (ev_var rfl (ea_cons (ev_var rfl (ea_cons (ev_var rfl (ea_nil ((h1054.2 z1055 h1056 h1057) z_members_1058 e1078))))))))))) (fun y1059 h1060 => fun z_index_1061 e1077 => sd_seq (sd_retG rfl (EvG.imp (eg_dcW (evio (evi_list (ev_var rfl ((h1060 z_index_1061 e1077))))) (by exact fun x1062 R1063 h1064 => bdm_yes (tgc_name (ev_var rfl (Ev.imp (ev_call rfl (ea_cons (ev_dget (ecd_ev (ev_var rfl (ev_var rfl (Exists.elim h1064 fun x1065 h1066 => ⟨x1065, h1066.1, ea_cons (ev_ixL (fun h => h) (ec_ev (ev_var rfl (ev_var rfl (Exists.elim h1066.2 fun x1067 h1068 => ⟨x1067, h1068.1, ea_cons (ev_var rfl (ea_nil h1068.2))⟩)))))⟩))))))) (fun y1069 h1070 => h1070)))) (Wle.refl _))) (fun y1073p h1076 => h1076)) (Wle.refl _))))))⟩)))))))))⟩

theorem sc_are_shares : FnScope ["books", "moves", "prices", "value", "member", "share"] ["books", "moves", "prices", "value"] (defScope (topS 50)) := ⟨rfl, rfl, rfl, by decide +kernel, rfl, by decide +kernel, by decide +kernel⟩
def w_are_shares (a_books : (Dc Str ((Dc Str Int) × (List (T4 Str Str Int Int))))) (a_moves : (List (Dc Str Int))) (a_prices : (Dc Str Int)) (a_value : (Dc Str Int)) (P : Bool → Prop) : Prop := altW (fun (P1144 : Bool → Prop) => (((!true) = false → ((List.map Prod.fst a_value.l).length ≤ 100000 ∧ compW (fun (x1133 : Str) (R1134 : Option Bool → Prop) => (w_is_member x1133 (fun (y1136 : Bool) => R1134 (some y1136)))) (fun (y1140 : (List Bool)) => P1144 (!(List.all y1140 id))) (List.map Prod.fst a_value.l) [])) ∧ ((!true) = true → P1144 true))) (fun (y1176 : Bool) => ((y1176 = true → P false) ∧ (y1176 = false → altW (fun (P1163 : Bool → Prop) => (a_value.l.length < 64 ∧ ∀ (z1146 : List Str), List.Perm z1146 (List.map Prod.fst a_value.l) → sortedS z1146 = true → (a_books.l.length < 64 ∧ ∀ (z1149 : List Str), List.Perm z1149 (List.map Prod.fst a_books.l) → sortedS z1149 = true → (((∀ s, s ∈ z1146 → PyData.strOk s = true) ∧ (∀ s, s ∈ z1149 → PyData.strOk s = true)) ∧ (((!decide (z1146 = z1149)) = false → ((List.map Prod.snd a_value.l).length ≤ 100000 ∧ compW (fun (x1152 : Int) (R1153 : Option Bool → Prop) => (w_is_integer x1152 none (fun (y1155 : Bool) => R1153 (some y1155)))) (fun (y1159 : (List Bool)) => P1163 (!(List.all y1159 id))) (List.map Prod.snd a_value.l) [])) ∧ ((!decide (z1146 = z1149)) = true → P1163 true)))))) (fun (y1173 : Bool) => ((y1173 = true → P false) ∧ (y1173 = false → ((a_books.l.length < 64 ∧ ∀ (z1168 : List Str), List.Perm z1168 (List.map Prod.fst a_books.l) → sortedS z1168 = true → w_worst_together a_books z1168 a_moves a_prices (fun (y1171 : (Int × Int)) => P (decide ((List.sum (List.map Prod.snd a_value.l)) = y1171.1)))))))))))
abbrev W_are_shares (g : (Dc Str ((Dc Str Int) × (List (T4 Str Str Int Int)))) × (List (Dc Str Int)) × (Dc Str Int) × (Dc Str Int) × Unit) (P : Bool → Prop) : Prop := w_are_shares g.1 g.2.1 g.2.2.1 g.2.2.2.1 P
theorem walk_are_shares {f : Addr} {fd : FuncData} (X : Tx K mg) (C_is_member : CalD P w K mg base 2 "is_member" (spD K AnyW W_is_member) []) (C_is_integer_d : CalD P w K mg base 1 "is_integer" (spD K AnyW W_is_integer) [.non]) (C_worst_together : CalD P w K mg base 4 "worst_together" (spD K AnyW W_worst_together) []) (F : Fun K "are_shares" "are_shares" (topS 50) f fd) (hm : mg "are_shares" = some (.ref f)) (bd : Binds K fd ["books", "moves", "prices", "value"] []) : CalD P w K mg base 5 "are_shares" (spD K AnyW W_are_shares) [] :=
  cal_ok F hm bd sc_are_shares rfl (by decide) fun cdv A outer s H E hr => by
    exact ⟨_, (pss_cons (ps_if (PW.pt (pw_or (pt_not (pt_val (pe_callB call_isi (by rfl) X.b_isinstance rfl (pa_cons (pv 3) (pa_cons (pe_bltn (v := .ty "dict") (by rfl) X.b_dict rfl rfl) pa_nil))))) (pw_or1 (pt_not (pt_val (pe_callB (cr_all rfl) (by rfl) X.b_all rfl (pa_cons (pe_lockO (pe_lc rfl sc_are_shares.nd (pi_keys (pv 3)) (blkOk_by (N := ["books", "moves", "prices", "value", "member", "share"]) (sc := defScope (topS 50)) (own := [("member", 4)]) (by decide +kernel)) (fun _ _ _ _ _ => (pg_name (i := 4) sc_are_shares.nd (by rfl) (by first | exact .inl rfl | exact .inr rfl))) (fun _ _ _ _ _ => pts_nil) (fun _ _ _ _ _ => (pe_cd C_is_member hr (by decide) (by rfl) (pa_cons (pv 4) pa_nil))))) pa_nil))))))) (pss_cons (ps_ret pe_bl) pss_nil) pss_nil) (pss_cons (ps_if (PW.pt (pw_or (pt_cmpR (op_neD (hu64 hr)) (pe_callB (call_sortedD rfl) (by rfl) X.b_sorted rfl (pa_cons (pv 3) pa_nil)) (pe_callB (call_sortedD rfl) (by rfl) X.b_sorted rfl (pa_cons (pv 0) pa_nil)) (nomark _)) (pw_or1 (pt_not (pt_val (pe_callB (cr_all rfl) (by rfl) X.b_all rfl (pa_cons (pe_lockO (pe_lc rfl sc_are_shares.nd (pi_values (pv 3)) (blkOk_by (N := ["books", "moves", "prices", "value", "member", "share"]) (sc := defScope (topS 50)) (own := [("share", 5)]) (by decide +kernel)) (fun _ _ _ _ _ => (pg_name (i := 5) sc_are_shares.nd (by rfl) (by first | exact .inl rfl | exact .inr rfl))) (fun _ _ _ _ _ => pts_nil) (fun _ _ _ _ _ => (pe_cd C_is_integer_d hr (by decide) (by rfl) (pa_cons (pv 5) pa_nil))))) pa_nil))))))) (pss_cons (ps_ret pe_bl) pss_nil) pss_nil) (pss_cons (ps_ret (pe_cmpR op_eq (pe_callB (cr_sum rfl) (by rfl) X.b_sum rfl (pa_cons (pe_listVals rfl (pv 3) (by rfl) X.b_list) pa_nil)) (pe_ix ix_tup (pe_cd C_worst_together hr (by decide) (by rfl) (pa_cons (pv 0) (pa_cons (pe_callB (call_sortedD rfl) (by rfl) X.b_sorted rfl (pa_cons (pv 0) pa_nil)) (pa_cons (pv 1) (pa_cons (pv 2) pa_nil))))) pe_int (fun _ _ => rfl)) (nomark _))) pss_nil))), fun W W2 hW g P h => by
      have e1 : W = W2 := hW
      subst e1
      unfold W_are_shares w_are_shares at h
      exact sd_seq (sd_if (et_alt h (by exact fun h1145 => et_or (et_not (et_B (ev_isi (α := (Dc Str Int)) (b := true) (ev_var rfl (⟨fun e1181 => et_not (et_B (ev_all (ec_ev (ev_fresh (EvF.imp (ef_lcKW rfl (ek_keys rfl) (h1145.1 e1181) (by exact fun x1133 R1134 h1135 => bd_yes (tgc_name (Ev.imp (ev_call rfl (ea_cons (ev_var rfl (ea_nil h1135)))) (fun y1136 h1137 => h1137))) (Wle.refl _))) (fun y1140 h1143 => h1143)))))), fun e1182 => h1145.2 e1182⟩))))) (Wle.refl _)) (fun y1179 h1180 => ⟨fun e1177 => sd_seq (sd_retW rfl (ev_bl ((h1180.1 e1177))) (Wle.refl _)), fun e1178 => sd_next (sd_seq (sd_if (et_alt (h1180.2 e1178) (by exact fun h1164 => et_or (et_test (ev_neLS (fun h => h) (ev_fresh (ef_sortedD (ecd_ev (ev_var rfl (⟨h1164.1, fun z1146 h1147 h1148 => ev_fresh (ef_sortedD (ecd_ev (ev_var rfl (⟨(h1164.2 z1146 h1147 h1148).1, fun z1149 h1150 h1151 => ⟨((h1164.2 z1146 h1147 h1148).2 z1149 h1150 h1151).1, ⟨fun e1185 => et_not (et_B (ev_all (ec_ev (ev_fresh (EvF.imp (ef_lcKW rfl (ek_vals rfl) (((h1164.2 z1146 h1147 h1148).2 z1149 h1150 h1151).2.1 e1185) (by exact fun x1152 R1153 h1154 => bd_yes (tgc_name (Ev.imp (ev_call_is_integerD (ea_cons (ev_var rfl (ea_nil h1154)))) (fun y1155 h1156 => h1156))) (Wle.refl _))) (fun y1159 h1162 => h1162)))))), fun e1186 => ((h1164.2 z1146 h1147 h1148).2 z1149 h1150 h1151).2.2 e1186⟩⟩⟩))))⟩))))))) (Wle.refl _)) (fun y1183 h1184 => ⟨fun e1174 => sd_seq (sd_retW rfl (ev_bl ((h1184.1 e1174))) (Wle.refl _)), fun e1175 => sd_next (sd_seq (sd_retW rfl (ev_eqI (fun h => h) (ev_sum (ec_ev (ev_fresh (ef_listVals (ecd_ev (ev_var rfl (ev_p0 (fun h => h) (Ev.imp (ev_call rfl (ea_cons (ev_var rfl (ea_cons (ev_fresh (ef_sortedD (ecd_ev (ev_var rfl (⟨(h1184.2 e1175).1, fun z1168 h1169 h1170 => ea_cons (ev_var rfl (ea_cons (ev_var rfl (ea_nil ((h1184.2 e1175).2 z1168 h1169 h1170)))))⟩))))))))) (fun y1171 h1172 => h1172)))))))))) (Wle.refl _)))⟩))))⟩)))⟩

theorem sc_objecting : FnScope ["books", "moves", "prices", "shares", "group", "member"] ["books", "moves", "prices", "shares"] (defScope (topS 51)) := ⟨rfl, rfl, rfl, by decide +kernel, rfl, by decide +kernel, by decide +kernel⟩
def w_objecting_p (a_books : (Dc Str ((Dc Str Int) × (List (T4 Str Str Int Int))))) (a_moves : (List (Dc Str Int))) (a_prices : (Dc Str Int)) (a_shares : (Dc Str Int)) (P : (Option (List Str)) → Prop) : Prop := (w_check_world a_books a_moves a_prices (fun (y1237 : Unit) => (w_are_shares a_books a_moves a_prices a_shares (fun (y1239 : Bool) => (((!y1239) = true → False) ∧ ((!y1239) = false → ((a_books.l.length < 64 ∧ ∀ (z1241 : List Str), List.Perm z1241 (List.map Prod.fst a_books.l) → sortedS z1241 = true → w_all_lists z1241 (fun (y1244 : (List (List Str))) => forW (fun (x1264 : (List Str)) (s1261 : Unit) (n1265 b1266 : Unit → Prop) => (x1264.length ≤ 100000 ∧ compW (fun (x1267 : Str) (R1268 : Option Int → Prop) => (∃ (x1270 : Int), look a_shares.l x1267 = some x1270 ∧ R1268 (some x1270))) (fun (y1274 : (List Int)) => (w_worst_together a_books x1264 a_moves a_prices (fun (y1278 : (Int × Int)) => (((decide (y1278.1 < (List.sum y1274))) = true → P (some x1264)) ∧ ((decide (y1278.1 < (List.sum y1274))) = false → n1265 ()))))) x1264 [])) (fun (s1282 : Unit) => P (none : (Option (List Str)))) y1244 ())))))))))
abbrev W_objecting_p (g : (Dc Str ((Dc Str Int) × (List (T4 Str Str Int Int)))) × (List (Dc Str Int)) × (Dc Str Int) × (Dc Str Int) × Unit) (P : (Option (List Str)) → Prop) : Prop := w_objecting_p g.1 g.2.1 g.2.2.1 g.2.2.2.1 P
theorem walk_objecting_p {f : Addr} {fd : FuncData} (X : Tx K mg) (C_check_world : CalD P w K mg base 6 "check_world" (spD K AnyW W_check_world) []) (C_are_shares : CalD P w K mg base 5 "are_shares" (spD K AnyW W_are_shares) []) (C_all_lists : CalD P w K mg base 9 "all_lists" (spD K AnyW W_all_lists) []) (C_worst_together : CalD P w K mg base 4 "worst_together" (spD K AnyW W_worst_together) []) (F : Fun K "objecting" "objecting" (topS 51) f fd) (hm : mg "objecting" = some (.ref f)) (bd : Binds K fd ["books", "moves", "prices", "shares"] []) : CalD P w K mg base 10 "objecting" (spD K AnyW W_objecting_p) [] :=
  cal_ok F hm bd sc_objecting rfl (by decide) fun cdv A outer s H E hr => by
    exact ⟨_, (pss_cons (ps_expr (pe_cd C_check_world hr (by decide) (by rfl) (pa_cons (pv 0) (pa_cons (pv 1) (pa_cons (pv 2) pa_nil))))) (pss_cons (ps_if (pt_not (pt_val (pe_cd C_are_shares hr (by decide) (by rfl) (pa_cons (pv 0) (pa_cons (pv 1) (pa_cons (pv 2) (pa_cons (pv 3) pa_nil))))))) (pss_cons ps_never pss_nil) pss_nil) (pss_cons (ps_for PassesOwn.never rfl (pi_list (pe_cd C_all_lists hr (by decide) (by rfl) (pa_cons (pe_callB (call_sortedD rfl) (by rfl) X.b_sorted rfl (pa_cons (pv 0) pa_nil)) pa_nil))) (pg_name (i := 4) sc_objecting.nd (by rfl) (by first | exact .inl rfl | exact .inr rfl)) (pss_cons (ps_if (pt_cmpR op_gt (pe_callB (cr_sum rfl) (by rfl) X.b_sum rfl (pa_cons (pe_lc rfl sc_objecting.nd (pi_list (pv 4)) (blkOk_by (N := ["books", "moves", "prices", "shares", "group", "member"]) (sc := defScope (topS 51)) (own := [("member", 5)]) (by decide +kernel)) (fun _ _ _ _ _ => (pg_name (i := 5) sc_objecting.nd (by rfl) (by first | exact .inl rfl | exact .inr rfl))) (fun _ _ _ _ _ => pts_nil) (fun _ _ _ _ _ => (pe_dget (hu_of hr) (pv 3) (pv 5) (fun _ _ => rfl)))) pa_nil)) (pe_ix ix_tup (pe_cd C_worst_together hr (by decide) (by rfl) (pa_cons (pv 0) (pa_cons (pv 4) (pa_cons (pv 1) (pa_cons (pv 2) pa_nil))))) pe_int (fun _ _ => rfl)) (nomark _)) (pss_cons (ps_ret (pv 4)) pss_nil) pss_nil) pss_nil)) (pss_cons (ps_ret pe_non) pss_nil)))), fun W W2 hW g P h => by
      have e1 : W = W2 := hW
      subst e1
      unfold W_objecting_p w_objecting_p at h
      exact sd_seq (sd_drop (Ev.imp (ev_call rfl (ea_cons (ev_var rfl (ea_cons (ev_var rfl (ea_cons (ev_var rfl (ea_nil h)))))))) (fun y1237 h1238 => sd_seq (sd_if (et_not (et_B (Ev.imp (ev_call rfl (ea_cons (ev_var rfl (ea_cons (ev_var rfl (ea_cons (ev_var rfl (ea_cons (ev_var rfl (ea_nil h1238)))))))))) (fun y1239 h1240 => ⟨fun e1285 => sd_seq (sd_never (h1240.1 e1285)), fun e1286 => sd_next (sd_wipe [4] (sd_seq (sd_forW (fun (s1261 : Unit) => [sD (α := (Dc Str ((Dc Str Int) × (List (T4 Str Str Int Int))))) g.1, sD (α := (List (Dc Str Int))) g.2.1, sD (α := (Dc Str Int)) g.2.2.1, sD (α := (Dc Str Int)) g.2.2.2.1, .non, .non]) (evi_list (Ev.imp (ev_call rfl (ea_cons (ev_fresh (ef_sortedD (ecd_ev (ev_var rfl (⟨(h1240.2 e1286).1, fun z1241 h1242 h1243 => ea_nil ((h1240.2 e1286).2 z1241 h1242 h1243)⟩))))))) (fun y1244 h1245 => ⟨(), rfl, h1245⟩))) (by exact fun x1264 s1261 n1265 h1283 => tg_name (sd_seq (sd_if (et_test (ev_I0 (f := fun i j : Int => (decide (j < i))) (fun h => h) (ev_sum (ec_ev (ev_fresh (EvF.imp (ef_lcW (evio (evi_list (ev_var rfl (h1283)))) (by exact fun x1267 R1268 h1269 => bd_yes (tgc_name (ev_dget (ecd_ev (ev_var rfl (ev_var rfl (Exists.elim h1269 fun x1270 h1271 => ⟨x1270, h1271.1, h1271.2⟩)))))) (Wle.refl _))) (fun y1274 h1277 => ev_p0 (fun h => h) (Ev.imp (ev_call rfl (ea_cons (ev_var rfl (ea_cons (ev_var rfl (ea_cons (ev_var rfl (ea_cons (ev_var rfl (ea_nil h1277)))))))))) (fun y1278 h1279 => ⟨fun e1280 => sd_seq (sd_retW rfl (ev_some (ev_var rfl ((h1279.1 e1280)))) (Wle.refl _)), fun e1281 => sd_next (sd_nextW [4] ⟨(), rfl, (Wle.refl _), (h1279.2 e1281)⟩)⟩)))))))))))) (by exact fun s1282 h1284 => sd_seq (sd_retW rfl (ev_nonO (h1284)) (Wle.refl _))) (fun _ _ l z => sd_le l z))))⟩))))))))⟩

def w_objecting (b : Dc Str (Dc Str Int × List (T4 Str Str Int Int))) (m : List (Dc Str Int)) (p s : Dc Str Int) (P : Option (List Str) → Prop) : Prop := w_objecting_p b m p s P
abbrev W_objecting (g : Dc Str (Dc Str Int × List (T4 Str Str Int Int)) × List (Dc Str Int) × Dc Str Int × Dc Str Int × Unit) (P : Option (List Str) → Prop) : Prop := w_objecting g.1 g.2.1 g.2.2.1 g.2.2.2.1 P

theorem sc_own_needs : FnScope ["books", "moves", "prices", "member"] ["books", "moves", "prices"] (defScope (topS 52)) := ⟨rfl, rfl, rfl, by decide +kernel, rfl, by decide +kernel, by decide +kernel⟩
def w_own_needs (a_books : (Dc Str ((Dc Str Int) × (List (T4 Str Str Int Int))))) (a_moves : (List (Dc Str Int))) (a_prices : (Dc Str Int)) (P : (Dc Str Int) → Prop) : Prop := (a_books.l.length < 64 ∧ ∀ (z1301 : List Str), List.Perm z1301 (List.map Prod.fst a_books.l) → sortedS z1301 = true → (z1301.length ≤ 100000 ∧ compM (fun (x1304 : Str) (R1305 : Option (Str × Int) → Prop) => (w_worst_together a_books [x1304] a_moves a_prices (fun (y1307 : (Int × Int)) => R1305 (some (x1304, y1307.1))))) (fun (y1311p : (List (Str × Int))) => P (Dc.mk y1311p)) z1301))
abbrev W_own_needs (g : (Dc Str ((Dc Str Int) × (List (T4 Str Str Int Int)))) × (List (Dc Str Int)) × (Dc Str Int) × Unit) (P : (Dc Str Int) → Prop) : Prop := w_own_needs g.1 g.2.1 g.2.2.1 P
theorem walk_own_needs {f : Addr} {fd : FuncData} (X : Tx K mg) (C_worst_together : CalD P w K mg base 4 "worst_together" (spD K AnyW W_worst_together) []) (F : Fun K "own_needs" "own_needs" (topS 52) f fd) (hm : mg "own_needs" = some (.ref f)) (bd : Binds K fd ["books", "moves", "prices"] []) : CalD P w K mg base 5 "own_needs" (spD K AnyW W_own_needs) [] :=
  cal_ok F hm bd sc_own_needs rfl (by decide) fun cdv A outer s H E hr => by
    exact ⟨_, (pss_cons (ps_ret (pe_dc rfl sc_own_needs.nd (pi_list (pe_callB (call_sortedD rfl) (by rfl) X.b_sorted rfl (pa_cons (pv 0) pa_nil))) (blkOk_by (N := ["books", "moves", "prices", "member"]) (sc := defScope (topS 52)) (own := [("member", 3)]) (by decide +kernel)) (fun _ _ _ _ _ => (pg_name (i := 3) sc_own_needs.nd (by rfl) (by first | exact .inl rfl | exact .inr rfl))) (fun _ _ _ _ _ => pts_nil) (fun _ _ _ _ _ => (pv 3)) (fun _ _ _ _ _ => (pe_ix ix_tup (pe_cd C_worst_together hr (by decide) (by rfl) (pa_cons (pv 0) (pa_cons (pe_lst (pa_cons (pv 3) pa_nil)) (pa_cons (pv 1) (pa_cons (pv 2) pa_nil))))) pe_int (fun _ _ => rfl))))) pss_nil), fun W W2 hW g P h => by
      have e1 : W = W2 := hW
      subst e1
      unfold W_own_needs w_own_needs at h
      exact sd_seq (sd_retW rfl (evd_fresh (EvG.imp (eg_dcW (evio (evi_list (ev_fresh (ef_sortedD (ecd_ev (ev_var rfl (⟨h.1, fun z1301 h1302 h1303 => (h.2 z1301 h1302 h1303)⟩))))))) (by exact fun x1304 R1305 h1306 => bdm_yes (tgc_name (ev_var rfl (ev_p0 (fun h => h) (Ev.imp (ev_call rfl (ea_cons (ev_var rfl (ea_cons (ev_fresh (ef_lst (es_cons (ev_var rfl (es_nil (⟨Nat.le_of_ble_eq_true rfl, ea_cons (ev_var rfl (ea_cons (ev_var rfl (ea_nil h1306))))⟩)))))))))) (fun y1307 h1308 => h1308))))) (Wle.refl _))) (fun y1311p h1314 => h1314))) (Wle.refl _))⟩

theorem sc_saved : FnScope ["books", "moves", "prices", "needs"] ["books", "moves", "prices"] (defScope (topS 53)) := ⟨rfl, rfl, rfl, by decide +kernel, rfl, by decide +kernel, by decide +kernel⟩
def w_saved (a_books : (Dc Str ((Dc Str Int) × (List (T4 Str Str Int Int))))) (a_moves : (List (Dc Str Int))) (a_prices : (Dc Str Int)) (P : Int → Prop) : Prop := (w_check_world a_books a_moves a_prices (fun (y1329 : Unit) => (w_own_needs a_books a_moves a_prices (fun (y1331 : (Dc Str Int)) => ∀ (z_needs_1333 : (Dc Str Int)), z_needs_1333 = y1331 → ((a_books.l.length < 64 ∧ ∀ (z1337 : List Str), List.Perm z1337 (List.map Prod.fst a_books.l) → sortedS z1337 = true → w_worst_together a_books z1337 a_moves a_prices (fun (y1340 : (Int × Int)) => P ((List.sum (List.map Prod.snd z_needs_1333.l)) - y1340.1))))))))
abbrev W_saved (g : (Dc Str ((Dc Str Int) × (List (T4 Str Str Int Int)))) × (List (Dc Str Int)) × (Dc Str Int) × Unit) (P : Int → Prop) : Prop := w_saved g.1 g.2.1 g.2.2.1 P
theorem ok_saved {f : Addr} {fd : FuncData} (X : Tx K mg) (C_check_world : CalD P w K mg base 6 "check_world" (spD K AnyW W_check_world) []) (C_own_needs : CalD P w K mg base 5 "own_needs" (spD K AnyW W_own_needs) []) (C_worst_together : CalD P w K mg base 4 "worst_together" (spD K AnyW W_worst_together) []) (F : Fun K "saved" "saved" (topS 53) f fd) : FnOk P w K mg base CX0 7 f fd ["books", "moves", "prices"] (spD K AnyW W_saved) :=
  fn_ok F sc_saved rfl (by decide) fun cdv A outer s H E hr => by
    exact ⟨_, (pss_cons (ps_expr (pe_cd C_check_world hr (by decide) (by rfl) (pa_cons (pv 0) (pa_cons (pv 1) (pa_cons (pv 2) pa_nil))))) (pss_cons (ps_set (i := 3) sc_saved.nd (by rfl) (by first | exact .inl rfl | exact .inr rfl) (pe_cd C_own_needs hr (by decide) (by rfl) (pa_cons (pv 0) (pa_cons (pv 1) (pa_cons (pv 2) pa_nil))))) (pss_cons (ps_ret (pe_op op_sub (pe_callB (cr_sum rfl) (by rfl) X.b_sum rfl (pa_cons (pe_listVals rfl (pv 3) (by rfl) X.b_list) pa_nil)) (pe_ix ix_tup (pe_cd C_worst_together hr (by decide) (by rfl) (pa_cons (pv 0) (pa_cons (pe_callB (call_sortedD rfl) (by rfl) X.b_sorted rfl (pa_cons (pv 0) pa_nil)) (pa_cons (pv 1) (pa_cons (pv 2) pa_nil))))) pe_int (fun _ _ => rfl)))) pss_nil))), fun W W2 hW g P h => by
      have e1 : W = W2 := hW
      subst e1
      unfold W_saved w_saved at h
      exact sd_seq (sd_drop (Ev.imp (ev_call rfl (ea_cons (ev_var rfl (ea_cons (ev_var rfl (ea_cons (ev_var rfl (ea_nil h)))))))) (fun y1329 h1330 => sd_seq (sd_asgZ (i := 3) (Ev.imp (ev_call rfl (ea_cons (ev_var rfl (ea_cons (ev_var rfl (ea_cons (ev_var rfl (ea_nil h1330)))))))) (fun y1331 h1332 => fun z_needs_1333 e1342 => sd_seq (sd_retW rfl (ev_I0 (f := fun i j : Int => i - j) (fun h => h) (ev_sum (ec_ev (ev_fresh (ef_listVals (ecd_ev (ev_var rfl (ev_p0 (fun h => h) (Ev.imp (ev_call rfl (ea_cons (ev_var rfl (ea_cons (ev_fresh (ef_sortedD (ecd_ev (ev_var rfl (⟨(h1332 z_needs_1333 e1342).1, fun z1337 h1338 h1339 => ea_cons (ev_var rfl (ea_cons (ev_var rfl (ea_nil ((h1332 z_needs_1333 e1342).2 z1337 h1338 h1339)))))⟩))))))))) (fun y1340 h1341 => h1341)))))))))) (Wle.refl _))))))))⟩

theorem sc_common_move : FnScope ["books", "moves", "prices", "needs", "index", "move", "member"] ["books", "moves", "prices"] (defScope (topS 54)) := ⟨rfl, rfl, rfl, by decide +kernel, rfl, by decide +kernel, by decide +kernel⟩
def w_common_move (a_books : (Dc Str ((Dc Str Int) × (List (T4 Str Str Int Int))))) (a_moves : (List (Dc Str Int))) (a_prices : (Dc Str Int)) (P : (Option Int) → Prop) : Prop := (w_check_world a_books a_moves a_prices (fun (y1392 : Unit) => (w_own_needs a_books a_moves a_prices (fun (y1394 : (Dc Str Int)) => ∀ (z_needs_1396 : (Dc Str Int)), z_needs_1396 = y1394 → forW (fun (x1417 : (Int × (Dc Str Int))) (s1414 : Unit) (n1418 b1419 : Unit → Prop) => ((List.map Prod.fst z_needs_1396.l).length ≤ 100000 ∧ compW (fun (x1420 : Str) (R1421 : Option Bool → Prop) => ((∃ (x1423 : ((Dc Str Int) × (List (T4 Str Str Int Int)))), look a_books.l x1420 = some x1423 ∧ w_loss_of x1423 x1417.2 a_prices (fun (y1425 : Int) => (∃ (x1427 : Int), look z_needs_1396.l x1420 = some x1427 ∧ R1421 (some (decide (y1425 = x1427)))))))) (fun (y1431 : (List Bool)) => (((List.all y1431 id) = true → P (some x1417.1)) ∧ ((List.all y1431 id) = false → n1418 ()))) (List.map Prod.fst z_needs_1396.l) [])) (fun (s1437 : Unit) => P (none : (Option Int))) (enumL a_moves) ()))))
abbrev W_common_move (g : (Dc Str ((Dc Str Int) × (List (T4 Str Str Int Int)))) × (List (Dc Str Int)) × (Dc Str Int) × Unit) (P : (Option Int) → Prop) : Prop := w_common_move g.1 g.2.1 g.2.2.1 P
theorem ok_common_move {f : Addr} {fd : FuncData} (X : Tx K mg) (C_check_world : CalD P w K mg base 6 "check_world" (spD K AnyW W_check_world) []) (C_own_needs : CalD P w K mg base 5 "own_needs" (spD K AnyW W_own_needs) []) (C_loss_of : CalD P w K mg base 3 "loss_of" (spD K AnyW W_loss_of) []) (F : Fun K "common_move" "common_move" (topS 54) f fd) : FnOk P w K mg base CX0 7 f fd ["books", "moves", "prices"] (spD K AnyW W_common_move) :=
  fn_ok F sc_common_move rfl (by decide) fun cdv A outer s H E hr => by
    exact ⟨_, (pss_cons (ps_expr (pe_cd C_check_world hr (by decide) (by rfl) (pa_cons (pv 0) (pa_cons (pv 1) (pa_cons (pv 2) pa_nil))))) (pss_cons (ps_set (i := 3) sc_common_move.nd (by rfl) (by first | exact .inl rfl | exact .inr rfl) (pe_cd C_own_needs hr (by decide) (by rfl) (pa_cons (pv 0) (pa_cons (pv 1) (pa_cons (pv 2) pa_nil))))) (pss_cons (ps_for PassesOwn.never rfl (pi_enum (by rfl) X.b_enumerate (pa_cons (pv 1) pa_nil)) (pg_tup rfl (pgs_cons (pg_name (i := 4) sc_common_move.nd (by rfl) (by first | exact .inl rfl | exact .inr rfl)) (pgs_cons (pg_name (i := 5) sc_common_move.nd (by rfl) (by first | exact .inl rfl | exact .inr rfl)) pgs_nil))) (pss_cons (ps_if (pt_val (pe_callB (cr_all rfl) (by rfl) X.b_all rfl (pa_cons (pe_lockO (pe_lc rfl sc_common_move.nd (pi_keys (pv 3)) (blkOk_by (N := ["books", "moves", "prices", "needs", "index", "move", "member"]) (sc := defScope (topS 54)) (own := [("member", 6)]) (by decide +kernel)) (fun _ _ _ _ _ => (pg_name (i := 6) sc_common_move.nd (by rfl) (by first | exact .inl rfl | exact .inr rfl))) (fun _ _ _ _ _ => pts_nil) (fun _ _ _ _ _ => (pe_cmpR op_eq (pe_cd C_loss_of hr (by decide) (by rfl) (pa_cons (pe_dget (hu_of hr) (pv 0) (pv 6) (fun _ _ => rfl)) (pa_cons (pv 5) (pa_cons (pv 2) pa_nil)))) (pe_dget (hu_of hr) (pv 3) (pv 6) (fun _ _ => rfl)) (nomark _))))) pa_nil))) (pss_cons (ps_ret (pv 4)) pss_nil) pss_nil) pss_nil)) (pss_cons (ps_ret pe_non) pss_nil)))), fun W W2 hW g P h => by
      have e1 : W = W2 := hW
      subst e1
      unfold W_common_move w_common_move at h
      exact sd_seq (sd_drop (Ev.imp (ev_call rfl (ea_cons (ev_var rfl (ea_cons (ev_var rfl (ea_cons (ev_var rfl (ea_nil h)))))))) (fun y1392 h1393 => sd_seq (sd_asgZ (i := 3) (Ev.imp (ev_call rfl (ea_cons (ev_var rfl (ea_cons (ev_var rfl (ea_cons (ev_var rfl (ea_nil h1393)))))))) (fun y1394 h1395 => fun z_needs_1396 e1440 => sd_wipe [4, 5] (sd_seq (sd_forW (fun (s1414 : Unit) => [sD (α := (Dc Str ((Dc Str Int) × (List (T4 Str Str Int Int))))) g.1, sD (α := (List (Dc Str Int))) g.2.1, sD (α := (Dc Str Int)) g.2.2.1, sD (α := (Dc Str Int)) z_needs_1396, .non, .non, .non]) (evi_enum (ea_cons (ev_var rfl (ea_nil (⟨(), rfl, (h1395 z_needs_1396 e1440)⟩))))) (by exact fun x1417 s1414 n1418 h1438 => tg_two (sd_seq (sd_if (et_B (ev_all (ec_ev (ev_fresh (EvF.imp (ef_lcKW rfl (ek_keys rfl) h1438 (by exact fun x1420 R1421 h1422 => bd_yes (tgc_name (ev_eqI (fun h => h) (Ev.imp (ev_call rfl (ea_cons (ev_dget (ecd_ev (ev_var rfl (ev_var rfl (Exists.elim h1422 fun x1423 h1424 => ⟨x1423, h1424.1, ea_cons (ev_var rfl (ea_cons (ev_var rfl (ea_nil h1424.2))))⟩))))))) (fun y1425 h1426 => ev_dget (ecd_ev (ev_var rfl (ev_var rfl (Exists.elim h1426 fun x1427 h1428 => ⟨x1427, h1428.1, h1428.2⟩)))))))) (Wle.refl _))) (fun y1431 h1434 => ⟨fun e1435 => sd_seq (sd_retW rfl (ev_some (ev_var rfl ((h1434.1 e1435)))) (Wle.refl _)), fun e1436 => sd_next (sd_nextW [4, 5] ⟨(), rfl, (Wle.refl _), (h1434.2 e1436)⟩)⟩))))))))) (by exact fun s1437 h1439 => sd_seq (sd_retW rfl (ev_nonO (h1439)) (Wle.refl _))) (fun _ _ l z => sd_le l z)))))))))⟩

theorem sc__law_moves : FnScope ["tape", "pacts", "found", "k", "move", "name"] ["tape", "pacts"] (defScope (topS 60)) := ⟨rfl, rfl, rfl, by decide +kernel, rfl, by decide +kernel, by decide +kernel⟩
def w__law_moves (a_pacts : (List Str)) (P : (List (Dc Str Int)) → Prop) : Prop := ∀ (z_found_1544 : (List (Dc Str Int))), z_found_1544 = [(Dc.mk ([] : List (Str × Int)))] → (w__law_pick (5 : Int) (fun (y1545 : Int) => ((-(2 ^ 62) ≤ y1545 ∧ y1545 < 2 ^ 62) ∧ forW (fun (x1595 : Int) (s1592 : (List (Dc Str Int))) (n1596 b1597 : (List (Dc Str Int)) → Prop) => ∀ (z_move_1598 : (List (Str × Int))), z_move_1598 = ([] : List (Str × Int)) → forW (fun (x1618 : Str) (s1615 : (List (Str × Int))) (n1619 b1620 : (List (Str × Int)) → Prop) => joinW (fun (k1628 : (List (Str × Int)) → Prop) => (w__law_pick (4 : Int) (fun (y1621 : Int) => (((decide ((0 : Int) < y1621)) = true → (w__law_pick (17 : Int) (fun (y1629 : Int) => s1615.length < 100000 ∧ ∀ (z_move_1631 : List (Str × Int)), z_move_1631 = put s1615 x1618 (y1629 - (8 : Int)) → k1628 z_move_1631))) ∧ ((decide ((0 : Int) < y1621)) = false → k1628 s1615))))) (fun (s1627 : (List (Str × Int))) => n1619 s1627)) (fun (s1637 : (List (Str × Int))) => s1592.length < 100000 ∧ ∀ (z_found_1638 : (List (Dc Str Int))), z_found_1638 = s1592 ++ [(Dc.mk s1637)] → n1596 z_found_1638) a_pacts z_move_1598) (fun (s1643 : (List (Dc Str Int))) => P s1643) (rng 0 (Int.toNat y1545)) z_found_1544)))
abbrev W__law_moves (g : Stk × (List Str) × Unit) (P : (List (Dc Str Int)) → Prop) : Prop := w__law_moves g.2.1 P
theorem walk__law_moves {f : Addr} {fd : FuncData} (X : Tx K mg) (C__law_pick : CalD P w K mg base 1 "_law_pick" (spD K TpW W__law_pick) []) (F : Fun K "_law_moves" "_law_moves" (topS 60) f fd) (hm : mg "_law_moves" = some (.ref f)) (bd : Binds K fd ["tape", "pacts"] []) : CalD P w K mg base 2 "_law_moves" (spD K TpW W__law_moves) [] :=
  cal_ok F hm bd sc__law_moves rfl (by decide) fun cdv A outer s H E hr => by
    exact ⟨_, (pss_cons (ps_set (i := 2) sc__law_moves.nd (by rfl) (by first | exact .inl rfl | exact .inr rfl) (pe_lst (pa_cons pe_dnewK pa_nil))) (pss_cons (ps_for PassesOwn.never rfl (pi_range1 (by rfl) X.b_range (pa_cons (pe_cd C__law_pick hr (by decide) (by rfl) (pa_cons (pv 0) (pa_cons pe_int pa_nil))) pa_nil)) (pg_name (i := 3) sc__law_moves.nd (by rfl) (by first | exact .inl rfl | exact .inr rfl)) (pss_cons (ps_set (i := 4) sc__law_moves.nd (by rfl) (by first | exact .inl rfl | exact .inr rfl) pe_dnewK) (pss_cons (ps_for PassesOwn.never rfl (pi_list (pv 1)) (pg_name (i := 5) sc__law_moves.nd (by rfl) (by first | exact .inl rfl | exact .inr rfl)) (pss_cons (ps_if (pt_cmpR op_gt (pe_cd C__law_pick hr (by decide) (by rfl) (pa_cons (pv 0) (pa_cons pe_int pa_nil))) pe_int (nomark _)) (pss_cons (ps_dput (hu_of hr) (pv 4) (pv 5) (pe_op op_sub (pe_cd C__law_pick hr (by decide) (by rfl) (pa_cons (pv 0) (pa_cons pe_int pa_nil))) pe_int) (by rfl)) pss_nil) pss_nil) pss_nil)) (pss_cons (ps_expr (pe_bm PySem.F.plainAttrs_list PySem.F.slot_list_append PySem.F.type_list_append mt_append (pv 2) (pa_cons (pv 4) pa_nil))) pss_nil)))) (pss_cons (ps_ret (pv 2)) pss_nil))), fun W W2 hW g P h => by
      obtain ⟨r, e1, e2⟩ := hW
      subst e1 e2
      unfold W__law_moves w__law_moves at h
      exact sd_seq (sd_asgLZ (i := 2) (ef_lst (es_cons (evd_fresh (eg_new (es_nil (⟨Nat.le_of_ble_eq_true rfl, fun z_found_1544 e1646 => sd_wipe [3, 4] (sd_seq (sd_forW (fun (s1592 : (List (Dc Str Int))) => [.raw (.ref r), sD (α := (List Str)) g.2.1, sL (α := (Dc Str Int)) s1592, .non, .non, .non]) (evi_rng1 (ea_cons (Ev.imp (ev_call (tpw r) (ea_tok rfl (ea_cons (ev_int (ea_nil (h z_found_1544 e1646)))))) (fun y1545 h1546 => ea_nil ⟨h1546.1, ⟨z_found_1544, rfl, h1546.2⟩⟩)))) (by exact fun x1595 s1592 n1596 h1644 => tg_name (sd_seq (sd_asgMZ (i := 4) (eg_new (fun z_move_1598 e1642 => sd_wipe [5] (sd_seq (sd_forW (fun (s1615 : (List (Str × Int))) => [.raw (.ref r), sD (α := (List Str)) g.2.1, sL (α := (Dc Str Int)) s1592, sD (α := Int) x1595, sM (κ := Str) (α := Int) s1615, .non]) (evi_list (ev_var rfl (⟨z_move_1598, rfl, (h1644 z_move_1598 e1642)⟩))) (by exact fun x1618 s1615 n1619 h1640 => tg_name (sd_joinW (Wtp r) (fun (s1627 : (List (Str × Int))) => [.raw (.ref r), sD (α := (List Str)) g.2.1, sL (α := (Dc Str Int)) s1592, sD (α := Int) x1595, sM (κ := Str) (α := Int) s1627, sD (α := Str) x1618]) h1640 (by exact fun h1635 => sd_if (et_test (ev_I0 (f := fun i j : Int => (decide (j < i))) (fun h => h) (Ev.imp (ev_call (tpw r) (ea_tok rfl (ea_cons (ev_int (ea_nil h1635))))) (fun y1621 h1622 => ev_int (⟨fun e1633 => sd_seq (sd_putZ (i := 4) rfl (ev_I0 (f := fun i j : Int => i - j) (fun h => h) (Ev.imp (ev_call (tpw r) (ea_tok rfl (ea_cons (ev_int (ea_nil (h1622.1 e1633)))))) (fun y1629 h1630 => ev_int (ev_var rfl (⟨h1630.1, fun z_move_1631 e1632 => sd_nextW [] ⟨z_move_1631, rfl, (Wle.refl _), (h1630.2 z_move_1631 e1632)⟩⟩)))))), fun e1634 => sd_nextW [] ⟨s1615, rfl, (Wle.refl _), (h1622.2 e1634)⟩⟩)))))) (by exact fun s1627 h1636 => sd_nextW [5] ⟨s1627, rfl, (Wle.refl _), h1636⟩))) (by exact fun s1637 h1641 => sd_fixM (i := 4) rfl (sd_seq (sd_appendZ (i := 2) rfl (ev_var rfl (⟨h1641.1, fun z_found_1638 e1639 => sd_nextW [3, 4] ⟨z_found_1638, rfl, (Wle.refl _), (h1641.2 z_found_1638 e1639)⟩⟩))))) (fun _ _ l z => sd_le l z)))))))) (by exact fun s1643 h1645 => sd_fix (i := 2) rfl (sd_seq (sd_retW rfl (ev_var rfl (h1645)) (Wle.refl _)))) (fun _ _ l z => sd_le l z)))⟩)))))))⟩

theorem sc__law_prices : FnScope ["tape", "pacts", "found", "name"] ["tape", "pacts"] (defScope (topS 61)) := ⟨rfl, rfl, rfl, by decide +kernel, rfl, by decide +kernel, by decide +kernel⟩
def w__law_prices (a_pacts : (List Str)) (P : (Dc Str Int) → Prop) : Prop := ∀ (z_found_1674 : (List (Str × Int))), z_found_1674 = ([] : List (Str × Int)) → forW (fun (x1686 : Str) (s1683 : (List (Str × Int))) (n1687 b1688 : (List (Str × Int)) → Prop) => (w__law_pick (60 : Int) (fun (y1689 : Int) => (w__law_pick (4 : Int) (fun (y1693 : Int) => (∃ (x1691 : Int), atI [(50 : Int), (1 : Int), (99 : Int), ((20 : Int) + y1689)] y1693 = some x1691 ∧ s1683.length < 100000 ∧ ∀ (z_found_1695 : List (Str × Int)), z_found_1695 = put s1683 x1686 x1691 → n1687 z_found_1695)))))) (fun (s1697 : (List (Str × Int))) => P (Dc.mk s1697)) a_pacts z_found_1674
abbrev W__law_prices (g : Stk × (List Str) × Unit) (P : (Dc Str Int) → Prop) : Prop := w__law_prices g.2.1 P
theorem walk__law_prices {f : Addr} {fd : FuncData} (X : Tx K mg) (C__law_pick : CalD P w K mg base 1 "_law_pick" (spD K TpW W__law_pick) []) (F : Fun K "_law_prices" "_law_prices" (topS 61) f fd) (hm : mg "_law_prices" = some (.ref f)) (bd : Binds K fd ["tape", "pacts"] []) : CalD P w K mg base 2 "_law_prices" (spD K TpW W__law_prices) [] :=
  cal_ok F hm bd sc__law_prices rfl (by decide) fun cdv A outer s H E hr => by
    exact ⟨_, (pss_cons (ps_set (i := 2) sc__law_prices.nd (by rfl) (by first | exact .inl rfl | exact .inr rfl) pe_dnewK) (pss_cons (ps_for PassesOwn.never rfl (pi_list (pv 1)) (pg_name (i := 3) sc__law_prices.nd (by rfl) (by first | exact .inl rfl | exact .inr rfl)) (pss_cons (ps_dput (hu_of hr) (pv 2) (pv 3) (pe_ix ix_list (pe_lst (pa_cons pe_int (pa_cons pe_int (pa_cons pe_int (pa_cons (pe_op op_add pe_int (pe_cd C__law_pick hr (by decide) (by rfl) (pa_cons (pv 0) (pa_cons pe_int pa_nil)))) pa_nil))))) (pe_cd C__law_pick hr (by decide) (by rfl) (pa_cons (pv 0) (pa_cons pe_int pa_nil))) (fun _ _ => rfl)) (by rfl)) pss_nil)) (pss_cons (ps_ret (pv 2)) pss_nil))), fun W W2 hW g P h => by
      obtain ⟨r, e1, e2⟩ := hW
      subst e1 e2
      unfold W__law_prices w__law_prices at h
      exact sd_seq (sd_asgMZ (i := 2) (eg_new (fun z_found_1674 e1700 => sd_wipe [3] (sd_seq (sd_forW (fun (s1683 : (List (Str × Int))) => [.raw (.ref r), sD (α := (List Str)) g.2.1, sM (κ := Str) (α := Int) s1683, .non]) (evi_list (ev_var rfl (⟨z_found_1674, rfl, (h z_found_1674 e1700)⟩))) (by exact fun x1686 s1683 n1687 h1698 => tg_name (sd_seq (sd_putZ (i := 2) rfl (ev_ixL (fun h => h) (ec_ev (ev_fresh (ef_lst (es_cons (ev_int (es_cons (ev_int (es_cons (ev_int (es_cons (ev_I0 (f := fun i j : Int => i + j) (fun h => h) (ev_int (Ev.imp (ev_call (tpw r) (ea_tok rfl (ea_cons (ev_int (ea_nil h1698))))) (fun y1689 h1690 => es_nil (⟨Nat.le_of_ble_eq_true rfl, Ev.imp (ev_call (tpw r) (ea_tok rfl (ea_cons (ev_int (ea_nil h1690))))) (fun y1693 h1694 => Exists.elim h1694 fun x1691 h1692 => ⟨x1691, h1692.1, ev_var rfl (⟨h1692.2.1, fun z_found_1695 e1696 => sd_nextW [3] ⟨z_found_1695, rfl, (Wle.refl _), (h1692.2.2 z_found_1695 e1696)⟩⟩)⟩)⟩))))))))))))))))))) (by exact fun s1697 h1699 => sd_fixM (i := 2) rfl (sd_seq (sd_retW rfl (ev_var rfl (h1699)) (Wle.refl _)))) (fun _ _ l z => sd_le l z))))))⟩

theorem sc__law_position : FnScope ["tape", "pacts", "found", "name", "amount"] ["tape", "pacts"] (defScope (topS 62)) := ⟨rfl, rfl, rfl, by decide +kernel, rfl, by decide +kernel, by decide +kernel⟩
def w__law_position (a_pacts : (List Str)) (P : (Dc Str Int) → Prop) : Prop := ∀ (z_found_1754 : (List (Str × Int))), z_found_1754 = ([] : List (Str × Int)) → forW (fun (x1777 : Str) (s1774 : (List (Str × Int))) (n1778 b1779 : (List (Str × Int)) → Prop) => (w__law_pick (13 : Int) (fun (y1780 : Int) => ∀ (z_amount_1782 : Int), z_amount_1782 = (y1780 - (6 : Int)) → joinW (fun (k1790 : (List (Str × Int)) → Prop) => altW (fun (P1785 : Bool → Prop) => (((!decide (z_amount_1782 = (0 : Int))) = true → (w__law_pick (5 : Int) (fun (y1783 : Int) => P1785 (decide ((0 : Int) < y1783))))) ∧ ((!decide (z_amount_1782 = (0 : Int))) = false → P1785 false))) (fun (y1793 : Bool) => ((y1793 = true → s1774.length < 100000 ∧ ∀ (z_found_1791 : List (Str × Int)), z_found_1791 = put s1774 x1777 z_amount_1782 → k1790 z_found_1791) ∧ (y1793 = false → k1790 s1774)))) (fun (s1789 : (List (Str × Int))) => n1778 s1789)))) (fun (s1799 : (List (Str × Int))) => P (Dc.mk s1799)) a_pacts z_found_1754
abbrev W__law_position (g : Stk × (List Str) × Unit) (P : (Dc Str Int) → Prop) : Prop := w__law_position g.2.1 P
theorem walk__law_position {f : Addr} {fd : FuncData} (X : Tx K mg) (C__law_pick : CalD P w K mg base 1 "_law_pick" (spD K TpW W__law_pick) []) (F : Fun K "_law_position" "_law_position" (topS 62) f fd) (hm : mg "_law_position" = some (.ref f)) (bd : Binds K fd ["tape", "pacts"] []) : CalD P w K mg base 2 "_law_position" (spD K TpW W__law_position) [] :=
  cal_ok F hm bd sc__law_position rfl (by decide) fun cdv A outer s H E hr => by
    exact ⟨_, (pss_cons (ps_set (i := 2) sc__law_position.nd (by rfl) (by first | exact .inl rfl | exact .inr rfl) pe_dnewK) (pss_cons (ps_for PassesOwn.never rfl (pi_list (pv 1)) (pg_name (i := 3) sc__law_position.nd (by rfl) (by first | exact .inl rfl | exact .inr rfl)) (pss_cons (ps_set (i := 4) sc__law_position.nd (by rfl) (by first | exact .inl rfl | exact .inr rfl) (pe_op op_sub (pe_cd C__law_pick hr (by decide) (by rfl) (pa_cons (pv 0) (pa_cons pe_int pa_nil))) pe_int)) (pss_cons (ps_if (PW.pt (pw_and (pt_cmpR op_ne (pv 4) pe_int (nomark _)) (pw_and1 (pt_cmpR op_gt (pe_cd C__law_pick hr (by decide) (by rfl) (pa_cons (pv 0) (pa_cons pe_int pa_nil))) pe_int (nomark _))))) (pss_cons (ps_dput (hu_of hr) (pv 2) (pv 3) (pv 4) (by rfl)) pss_nil) pss_nil) pss_nil))) (pss_cons (ps_ret (pv 2)) pss_nil))), fun W W2 hW g P h => by
      obtain ⟨r, e1, e2⟩ := hW
      subst e1 e2
      unfold W__law_position w__law_position at h
      exact sd_seq (sd_asgMZ (i := 2) (eg_new (fun z_found_1754 e1802 => sd_wipe [3, 4] (sd_seq (sd_forW (fun (s1774 : (List (Str × Int))) => [.raw (.ref r), sD (α := (List Str)) g.2.1, sM (κ := Str) (α := Int) s1774, .non, .non]) (evi_list (ev_var rfl (⟨z_found_1754, rfl, (h z_found_1754 e1802)⟩))) (by exact fun x1777 s1774 n1778 h1800 => tg_name (sd_seq (sd_asgZ (i := 4) (ev_I0 (f := fun i j : Int => i - j) (fun h => h) (Ev.imp (ev_call (tpw r) (ea_tok rfl (ea_cons (ev_int (ea_nil h1800))))) (fun y1780 h1781 => ev_int (fun z_amount_1782 e1798 => sd_joinW (Wtp r) (fun (s1789 : (List (Str × Int))) => [.raw (.ref r), sD (α := (List Str)) g.2.1, sM (κ := Str) (α := Int) s1789, sD (α := Str) x1777, sD (α := Int) z_amount_1782]) (h1781 z_amount_1782 e1798) (by exact fun h1796 => sd_if (et_alt h1796 (by exact fun h1786 => et_and (et_test (ev_neI (fun h => h) (ev_var rfl (ev_int (⟨fun e1805 => et_test (ev_I0 (f := fun i j : Int => (decide (j < i))) (fun h => h) (Ev.imp (ev_call (tpw r) (ea_tok rfl (ea_cons (ev_int (ea_nil (h1786.1 e1805)))))) (fun y1783 h1784 => ev_int (h1784)))), fun e1806 => h1786.2 e1806⟩))))) (Wle.refl _)) (fun y1803 h1804 => ⟨fun e1794 => sd_seq (sd_putZ (i := 2) rfl (ev_var rfl (ev_var rfl (⟨(h1804.1 e1794).1, fun z_found_1791 e1792 => sd_nextW [] ⟨z_found_1791, rfl, (Wle.refl _), ((h1804.1 e1794).2 z_found_1791 e1792)⟩⟩)))), fun e1795 => sd_nextW [] ⟨s1774, rfl, (Wle.refl _), (h1804.2 e1795)⟩⟩))) (by exact fun s1789 h1797 => sd_nextW [3, 4] ⟨s1789, rfl, (Wle.refl _), h1797⟩)))))))) (by exact fun s1799 h1801 => sd_fixM (i := 2) rfl (sd_seq (sd_retW rfl (ev_var rfl (h1801)) (Wle.refl _)))) (fun _ _ l z => sd_le l z))))))⟩

theorem sc__law_near : FnScope ["tape", "price"] ["tape", "price"] (defScope (topS 63)) := ⟨rfl, rfl, rfl, by decide +kernel, rfl, by decide +kernel, by decide +kernel⟩
def w__law_near (a_price : Int) (P : Int → Prop) : Prop := (w__law_pick (15 : Int) (fun (y1809 : Int) => P (if (if ((a_price + y1809) - (7 : Int)) < (99 : Int) then ((a_price + y1809) - (7 : Int)) else (99 : Int)) > (1 : Int) then (if ((a_price + y1809) - (7 : Int)) < (99 : Int) then ((a_price + y1809) - (7 : Int)) else (99 : Int)) else (1 : Int))))
abbrev W__law_near (g : Stk × Int × Unit) (P : Int → Prop) : Prop := w__law_near g.2.1 P
theorem walk__law_near {f : Addr} {fd : FuncData} (X : Tx K mg) (C__law_pick : CalD P w K mg base 1 "_law_pick" (spD K TpW W__law_pick) []) (F : Fun K "_law_near" "_law_near" (topS 63) f fd) (hm : mg "_law_near" = some (.ref f)) (bd : Binds K fd ["tape", "price"] []) : CalD P w K mg base 2 "_law_near" (spD K TpW W__law_near) [] :=
  cal_ok F hm bd sc__law_near rfl (by decide) fun cdv A outer s H E hr => by
    exact ⟨_, (pss_cons (ps_ret (pe_callB (call_max2 rfl) (by rfl) X.b_max rfl (pa_cons pe_int (pa_cons (pe_callB (call_min2 rfl) (by rfl) X.b_min rfl (pa_cons pe_int (pa_cons (pe_op op_sub (pe_op op_add (pv 1) (pe_cd C__law_pick hr (by decide) (by rfl) (pa_cons (pv 0) (pa_cons pe_int pa_nil)))) pe_int) pa_nil))) pa_nil)))) pss_nil), fun W W2 hW g P h => by
      obtain ⟨r, e1, e2⟩ := hW
      subst e1 e2
      unfold W__law_near w__law_near at h
      exact sd_seq (sd_retW rfl (ev_max2 (ev_int (ev_min2 (ev_int (ev_I0 (f := fun i j : Int => i - j) (fun h => h) (ev_I0 (f := fun i j : Int => i + j) (fun h => h) (ev_var rfl (Ev.imp (ev_call (tpw r) (ea_tok rfl (ea_cons (ev_int (ea_nil h))))) (fun y1809 h1810 => ev_int (h1810)))))))))) (Wle.refl _))⟩

theorem sc__law_loss : FnScope ["position", "move", "name"] ["position", "move"] (defScope (topS 64)) := ⟨rfl, rfl, rfl, by decide +kernel, rfl, by decide +kernel, by decide +kernel⟩
def w__law_loss (a_position : (Dc Str Int)) (a_move : (Dc Str Int)) (P : Int → Prop) : Prop := ((List.map Prod.fst a_position.l).length ≤ 100000 ∧ compW (fun (x1822 : Str) (R1823 : Option Int → Prop) => (∃ (x1825 : Int), look a_position.l x1822 = some x1825 ∧ (CMul x1825 (Option.getD (look a_move.l x1822) (0 : Int)) ∧ R1823 (some (x1825 * (Option.getD (look a_move.l x1822) (0 : Int))))))) (fun (y1829 : (List Int)) => P ((0 : Int) - (List.sum y1829))) (List.map Prod.fst a_position.l) [])
abbrev W__law_loss (g : (Dc Str Int) × (Dc Str Int) × Unit) (P : Int → Prop) : Prop := w__law_loss g.1 g.2.1 P
theorem walk__law_loss {f : Addr} {fd : FuncData} (X : Tx K mg)  (F : Fun K "_law_loss" "_law_loss" (topS 64) f fd) (hm : mg "_law_loss" = some (.ref f)) (bd : Binds K fd ["position", "move"] []) : CalD P w K mg base 1 "_law_loss" (spD K AnyW W__law_loss) [] :=
  cal_ok F hm bd sc__law_loss rfl (by decide) fun cdv A outer s H E hr => by
    exact ⟨_, (pss_cons (ps_ret (pe_op op_sub pe_int (pe_callB (cr_sum rfl) (by rfl) X.b_sum rfl (pa_cons (pe_lockO (pe_lc rfl sc__law_loss.nd (pi_keys (pv 0)) (blkOk_by (N := ["position", "move", "name"]) (sc := defScope (topS 64)) (own := [("name", 2)]) (by decide +kernel)) (fun _ _ _ _ _ => (pg_name (i := 2) sc__law_loss.nd (by rfl) (by first | exact .inl rfl | exact .inr rfl))) (fun _ _ _ _ _ => pts_nil) (fun _ _ _ _ _ => (pe_op op_mul (pe_dget (hu_of hr) (pv 0) (pv 2) (fun _ _ => rfl)) (pe_dget2 (hu_of hr) (pv 1) (pv 2) pe_int ⟨rfl, rfl, rfl, rfl⟩))))) pa_nil)))) pss_nil), fun W W2 hW g P h => by
      have e1 : W = W2 := hW
      subst e1
      unfold W__law_loss w__law_loss at h
      exact sd_seq (sd_retW rfl (ev_I0 (f := fun i j : Int => i - j) (fun h => h) (ev_int (ev_sum (ec_ev (ev_fresh (EvF.imp (ef_lcKW rfl (ek_keys rfl) h (by exact fun x1822 R1823 h1824 => bd_yes (tgc_name (ev_I (f := fun i j : Int => i * j) (C := CMul) (fun h => h) (ev_dget (ecd_ev (ev_var rfl (ev_var rfl (Exists.elim h1824 fun x1825 h1826 => ⟨x1825, h1826.1, ev_dget2 (ecd_ev (ev_var rfl (ev_var rfl (ev_int (⟨h1826.2.1, h1826.2.2⟩)))))⟩))))))) (Wle.refl _))) (fun y1829 h1832 => h1832))))))) (Wle.refl _))⟩

theorem sc__law_orders : FnScope ["tape", "pacts", "prices", "room", "found", "k", "name", "side"] ["tape", "pacts", "prices", "room"] (defScope (topS 65)) := ⟨rfl, rfl, rfl, by decide +kernel, rfl, by decide +kernel, by decide +kernel⟩
def w__law_orders (a_pacts : (List Str)) (a_prices : (Dc Str Int)) (a_room : Int) (P : (List (T4 Str Str Int Int)) → Prop) : Prop := ∀ (z_found_1888 : (List (T4 Str Str Int Int))), z_found_1888 = ([] : List (T4 Str Str Int Int)) → (w__law_pick (5 : Int) (fun (y1891 : Int) => (∃ (x1889 : Int), atI [(0 : Int), (0 : Int), (1 : Int), (2 : Int), (3 : Int)] y1891 = some x1889 ∧ ((-(2 ^ 62) ≤ (if x1889 < a_room then x1889 else a_room) ∧ (if x1889 < a_room then x1889 else a_room) < 2 ^ 62) ∧ forW (fun (x1916 : Int) (s1913 : (List (T4 Str Str Int Int))) (n1917 b1918 : (List (T4 Str Str Int Int)) → Prop) => (w__law_pick (a_pacts.length : Int) (fun (y1921 : Int) => (∃ (x1919 : Str), atI a_pacts y1921 = some x1919 ∧ ∀ (z_name_1923 : Str), z_name_1923 = x1919 → (w__law_pick (2 : Int) (fun (y1926 : Int) => (∃ (x1924 : Str), atI [("buy" : Str), ("sell" : Str)] y1926 = some x1924 ∧ ∀ (z_side_1928 : Str), z_side_1928 = x1924 → ((∃ (x1929 : Int), look a_prices.l z_name_1923 = some x1929 ∧ w__law_near x1929 (fun (y1931 : Int) => (w__law_pick (5 : Int) (fun (y1933 : Int) => s1913.length < 100000 ∧ ∀ (z_found_1935 : (List (T4 Str Str Int Int))), z_found_1935 = s1913 ++ [(T4.mk z_side_1928 z_name_1923 y1931 ((1 : Int) + y1933))] → n1917 z_found_1935)))))))))))) (fun (s1939 : (List (T4 Str Str Int Int))) => P s1939) (rng 0 (Int.toNat (if x1889 < a_room then x1889 else a_room))) z_found_1888))))
abbrev W__law_orders (g : Stk × (List Str) × (Dc Str Int) × Int × Unit) (P : (List (T4 Str Str Int Int)) → Prop) : Prop := w__law_orders g.2.1 g.2.2.1 g.2.2.2.1 P
theorem walk__law_orders {f : Addr} {fd : FuncData} (X : Tx K mg) (C__law_pick : CalD P w K mg base 1 "_law_pick" (spD K TpW W__law_pick) []) (C__law_near : CalD P w K mg base 2 "_law_near" (spD K TpW W__law_near) []) (F : Fun K "_law_orders" "_law_orders" (topS 65) f fd) (hm : mg "_law_orders" = some (.ref f)) (bd : Binds K fd ["tape", "pacts", "prices", "room"] []) : CalD P w K mg base 3 "_law_orders" (spD K TpW W__law_orders) [] :=
  cal_ok F hm bd sc__law_orders rfl (by decide) fun cdv A outer s H E hr => by
    exact ⟨_, (pss_cons (ps_set (i := 4) sc__law_orders.nd (by rfl) (by first | exact .inl rfl | exact .inr rfl) (pe_lst pa_nil)) (pss_cons (ps_for PassesOwn.never rfl (pi_range1 (by rfl) X.b_range (pa_cons (pe_callB (call_min2 rfl) (by rfl) X.b_min rfl (pa_cons (pv 3) (pa_cons (pe_ix ix_list (pe_lst (pa_cons pe_int (pa_cons pe_int (pa_cons pe_int (pa_cons pe_int (pa_cons pe_int pa_nil)))))) (pe_cd C__law_pick hr (by decide) (by rfl) (pa_cons (pv 0) (pa_cons pe_int pa_nil))) (fun _ _ => rfl)) pa_nil))) pa_nil)) (pg_name (i := 5) sc__law_orders.nd (by rfl) (by first | exact .inl rfl | exact .inr rfl)) (pss_cons (ps_set (i := 6) sc__law_orders.nd (by rfl) (by first | exact .inl rfl | exact .inr rfl) (pe_ix ix_list (pv 1) (pe_cd C__law_pick hr (by decide) (by rfl) (pa_cons (pv 0) (pa_cons (pe_callB call_len_seq (by rfl) X.b_len rfl (pa_cons (pv 1) pa_nil)) pa_nil))) (fun _ _ => rfl))) (pss_cons (ps_set (i := 7) sc__law_orders.nd (by rfl) (by first | exact .inl rfl | exact .inr rfl) (pe_ix ix_list (pe_lst (pa_cons pe_str (pa_cons pe_str pa_nil))) (pe_cd C__law_pick hr (by decide) (by rfl) (pa_cons (pv 0) (pa_cons pe_int pa_nil))) (fun _ _ => rfl))) (pss_cons (ps_expr (pe_bm PySem.F.plainAttrs_list PySem.F.slot_list_append PySem.F.type_list_append mt_append (pv 4) (pa_cons (pe_tup (pa_cons (pv 7) (pa_cons (pv 6) (pa_cons (pe_cd C__law_near hr (by decide) (by rfl) (pa_cons (pv 0) (pa_cons (pe_dget (hu_of hr) (pv 2) (pv 6) (fun _ _ => rfl)) pa_nil))) (pa_cons (pe_op op_add pe_int (pe_cd C__law_pick hr (by decide) (by rfl) (pa_cons (pv 0) (pa_cons pe_int pa_nil)))) pa_nil))))) pa_nil))) pss_nil)))) (pss_cons (ps_ret (pv 4)) pss_nil))), fun W W2 hW g P h => by
      obtain ⟨r, e1, e2⟩ := hW
      subst e1 e2
      unfold W__law_orders w__law_orders at h
      exact sd_seq (sd_asgLZ (i := 4) (ef_lst (es_nil (⟨Nat.le_of_ble_eq_true rfl, fun z_found_1888 e1942 => sd_wipe [5, 6, 7] (sd_seq (sd_forW (fun (s1913 : (List (T4 Str Str Int Int))) => [.raw (.ref r), sD (α := (List Str)) g.2.1, sD (α := (Dc Str Int)) g.2.2.1, sD (α := Int) g.2.2.2.1, sL (α := (T4 Str Str Int Int)) s1913, .non, .non, .non]) (evi_rng1 (ea_cons (ev_min2 (ev_var rfl (ev_ixL (fun h => h) (ec_ev (ev_fresh (ef_lst (es_cons (ev_int (es_cons (ev_int (es_cons (ev_int (es_cons (ev_int (es_cons (ev_int (es_nil (⟨Nat.le_of_ble_eq_true rfl, Ev.imp (ev_call (tpw r) (ea_tok rfl (ea_cons (ev_int (ea_nil (h z_found_1888 e1942)))))) (fun y1891 h1892 => Exists.elim h1892 fun x1889 h1890 => ⟨x1889, h1890.1, ea_nil ⟨h1890.2.1, ⟨z_found_1888, rfl, h1890.2.2⟩⟩⟩)⟩)))))))))))))))))))) (by exact fun x1916 s1913 n1917 h1940 => tg_name (sd_seq (sd_asgZ (i := 6) (ev_ixL (fun h => h) (ec_ev (ev_var rfl (Ev.imp (ev_call (tpw r) (ea_tok rfl (ea_cons (ev_lenC (fun h => h) (ec_ev (ev_var rfl (ea_nil h1940))))))) (fun y1921 h1922 => Exists.elim h1922 fun x1919 h1920 => ⟨x1919, h1920.1, fun z_name_1923 e1938 => sd_seq (sd_asgZ (i := 7) (ev_ixL (fun h => h) (ec_ev (ev_fresh (ef_lst (es_cons (ev_str (es_cons (ev_str (es_nil (⟨Nat.le_of_ble_eq_true rfl, Ev.imp (ev_call (tpw r) (ea_tok rfl (ea_cons (ev_int (ea_nil (h1920.2 z_name_1923 e1938)))))) (fun y1926 h1927 => Exists.elim h1927 fun x1924 h1925 => ⟨x1924, h1925.1, fun z_side_1928 e1937 => sd_seq (sd_appendZ (i := 4) rfl (ev_tup4 (ea_cons (ev_var rfl (ea_cons (ev_var rfl (ea_cons (Ev.imp (ev_call (tpw r) (ea_tok rfl (ea_cons (ev_dget (ecd_ev (ev_var rfl (ev_var rfl (Exists.elim (h1925.2 z_side_1928 e1937) fun x1929 h1930 => ⟨x1929, h1930.1, ea_nil h1930.2⟩)))))))) (fun y1931 h1932 => ea_cons (ev_I0 (f := fun i j : Int => i + j) (fun h => h) (ev_int (Ev.imp (ev_call (tpw r) (ea_tok rfl (ea_cons (ev_int (ea_nil h1932))))) (fun y1933 h1934 => ea_nil (⟨h1934.1, fun z_found_1935 e1936 => sd_nextW [5, 6, 7] ⟨z_found_1935, rfl, (Wle.refl _), (h1934.2 z_found_1935 e1936)⟩⟩))))))))))))))⟩)⟩)))))))))))⟩)))))))) (by exact fun s1939 h1941 => sd_fix (i := 4) rfl (sd_seq (sd_retW rfl (ev_var rfl (h1941)) (Wle.refl _)))) (fun _ _ l z => sd_le l z)))⟩))))⟩

theorem sc__law_books : FnScope ["tape", "pacts", "prices", "names", "found", "room", "way", "first", "name", "position", "orders", "pact"] ["tape", "pacts", "prices"] (defScope (topS 66)) := ⟨rfl, rfl, rfl, by decide +kernel, rfl, by decide +kernel, by decide +kernel⟩
def w__law_books_p1 (v_pacts : (List Str)) (v_prices : (Dc Str Int)) (v_names : (List Str)) (v_found : (List (Str × ((Dc Str Int) × (List (T4 Str Str Int Int)))))) (v_room : Int) (v_way : Int) (v_first : (Dc Str Int)) (P : (Dc Str ((Dc Str Int) × (List (T4 Str Str Int Int)))) → Prop) : Prop := forW (fun (x2150 : Str) (s2147 : ((List (Str × ((Dc Str Int) × (List (T4 Str Str Int Int))))) × Int)) (n2151 b2152 : ((List (Str × ((Dc Str Int) × (List (T4 Str Str Int Int))))) × Int) → Prop) => (w__law_position v_pacts (fun (y2153 : (Dc Str Int)) => ∀ (z_position_2155 : (Dc Str Int)), z_position_2155 = y2153 → joinW (fun (k2172 : (Dc Str Int) → Prop) => (((decide (v_way = (0 : Int))) = true → ((List.map Prod.fst v_first.l).length ≤ 100000 ∧ compW (fun (x2186 : Str) (R2187 : Option (Str × Int) → Prop) => (∃ (x2189 : Int), look v_first.l x2186 = some x2189 ∧ (w__law_pick (3 : Int) (fun (y2191 : Int) => (CMul x2189 ((1 : Int) + y2191) ∧ R2187 (some (x2186, (x2189 * ((1 : Int) + y2191))))))))) (fun (y2195 : (List (Str × Int))) => ∀ (z_position_2199 : (Dc Str Int)), z_position_2199 = (Dc.mk (puts [] y2195)) → k2172 z_position_2199) (List.map Prod.fst v_first.l) [])) ∧ ((decide (v_way = (0 : Int))) = false → k2172 z_position_2155))) (fun (s2171 : (Dc Str Int)) => altW (fun (P2175 : (List (T4 Str Str Int Int)) → Prop) => (((decide ((1 : Int) < v_way)) = true → (w__law_orders v_pacts v_prices s2147.2 (fun (y2173 : (List (T4 Str Str Int Int))) => P2175 y2173))) ∧ ((decide ((1 : Int) < v_way)) = false → P2175 ([] : List (T4 Str Str Int Int))))) (fun (y2184 : (List (T4 Str Str Int Int))) => ∀ (z_orders_2179 : (List (T4 Str Str Int Int))), z_orders_2179 = y2184 → ∀ (z_room_2180 : Int), z_room_2180 = (s2147.2 - (z_orders_2179.length : Int)) → s2147.1.length < 100000 ∧ ∀ (z_found_2181 : List (Str × ((Dc Str Int) × (List (T4 Str Str Int Int))))), z_found_2181 = put s2147.1 x2150 (s2171, z_orders_2179) → n2151 (z_found_2181, z_room_2180)))))) (fun (s2206 : ((List (Str × ((Dc Str Int) × (List (T4 Str Str Int Int))))) × Int)) => P (Dc.mk s2206.1)) v_names (v_found, v_room)
theorem part__law_books_p1 (X : Tx K mg) (C__law_position : CalD P w K mg base 2 "_law_position" (spD K TpW W__law_position) []) (C__law_pick : CalD P w K mg base 1 "_law_pick" (spD K TpW W__law_pick) []) (C__law_orders : CalD P w K mg base 3 "_law_orders" (spD K TpW W__law_orders) []) {f : Addr} {cdv : Value} {A : Around} {outer : List Env} {s : Shared} {H : Hp} {E : XK} (hr : Room 3 (A.deeper (envOfC "_law_books" (defScope (topS 66)) s.heap.objs.size f cdv))) :
    ∃ t, PSs (cxOf CX0 P w K mg base ["tape", "pacts", "prices", "names", "found", "room", "way", "first", "name", "position", "orders", "pact"] "_law_books" (defScope (topS 66)) f cdv A outer s H E).nox ((defBody (topS 66)).drop 3) t ∧ ∀ (r : Addr), ∀ (v_pacts : (List Str)) (v_prices : (Dc Str Int)) (v_names : (List Str)) (v_found : (List (Str × ((Dc Str Int) × (List (T4 Str Str Int Int)))))) (v_room : Int) (v_way : Int) (v_first : (Dc Str Int)) (P : (Dc Str ((Dc Str Int) × (List (T4 Str Str Int Int)))) → Prop), w__law_books_p1 v_pacts v_prices v_names v_found v_room v_way v_first P → Sd (Wtp r) K t [.raw (.ref r), sD (α := (List Str)) v_pacts, sD (α := (Dc Str Int)) v_prices, sD (α := (List Str)) v_names, sM (κ := Str) (α := ((Dc Str Int) × (List (T4 Str Str Int Int)))) v_found, sD (α := Int) v_room, sD (α := Int) v_way, sD (α := (Dc Str Int)) v_first, .non, .non, .non, .non] { nx := fun _ _ => False, rt := rtW (Wtp r) P } := by
  exact ⟨_, (pss_cons (ps_for PassesOwn.never rfl (pi_list (pv 3)) (pg_name (i := 8) sc__law_books.nd (by rfl) (by first | exact .inl rfl | exact .inr rfl)) (pss_cons (ps_set (i := 9) sc__law_books.nd (by rfl) (by first | exact .inl rfl | exact .inr rfl) (pe_cd C__law_position hr (by decide) (by rfl) (pa_cons (pv 0) (pa_cons (pv 1) pa_nil)))) (pss_cons (ps_if (pt_cmpR op_eq (pv 6) pe_int (nomark _)) (pss_cons (ps_set (i := 9) sc__law_books.nd (by rfl) (by first | exact .inl rfl | exact .inr rfl) (pe_callTy (call_dictP rfl) (by rfl) X.b_dict rfl (pa_cons (pe_lockO (pe_lc rfl sc__law_books.nd (pi_keys (pv 7)) (blkOk_by (N := ["tape", "pacts", "prices", "names", "found", "room", "way", "first", "name", "position", "orders", "pact"]) (sc := defScope (topS 66)) (own := [("pact", 11)]) (by decide +kernel)) (fun _ _ _ _ _ => (pg_name (i := 11) sc__law_books.nd (by rfl) (by first | exact .inl rfl | exact .inr rfl))) (fun _ _ _ _ _ => pts_nil) (fun _ _ _ _ _ => (pe_tup (pa_cons (pv 11) (pa_cons (pe_op op_mul (pe_dget (hu_of hr) (pv 7) (pv 11) (fun _ _ => rfl)) (pe_op op_add pe_int (pe_cd C__law_pick hr (by decide) (by rfl) (pa_cons (pv 0) (pa_cons pe_int pa_nil))))) pa_nil)))))) pa_nil))) pss_nil) pss_nil) (pss_cons (ps_set (i := 10) sc__law_books.nd (by rfl) (by first | exact .inl rfl | exact .inr rfl) (pe_ifExp (pt_cmpR op_gt (pv 6) pe_int (nomark _)) (pe_cd C__law_orders hr (by decide) (by rfl) (pa_cons (pv 0) (pa_cons (pv 1) (pa_cons (pv 2) (pa_cons (pv 5) pa_nil))))) (pe_lst pa_nil))) (pss_cons (ps_set (i := 5) sc__law_books.nd (by rfl) (by first | exact .inl rfl | exact .inr rfl) (pe_op op_sub (pv 5) (pe_callB call_len_seq (by rfl) X.b_len rfl (pa_cons (pv 10) pa_nil)))) (pss_cons (ps_dput (hu_of hr) (pv 4) (pv 8) (pe_tup (pa_cons (pv 9) (pa_cons (pv 10) pa_nil))) (by rfl)) pss_nil)))))) (pss_cons (ps_ret (pv 4)) pss_nil)), fun r v_pacts v_prices v_names v_found v_room v_way v_first P h => by
    unfold w__law_books_p1 at h
    exact sd_wipe [8, 9, 10] (sd_seq (sd_forW (fun (s2147 : ((List (Str × ((Dc Str Int) × (List (T4 Str Str Int Int))))) × Int)) => [.raw (.ref r), sD (α := (List Str)) v_pacts, sD (α := (Dc Str Int)) v_prices, sD (α := (List Str)) v_names, sM (κ := Str) (α := ((Dc Str Int) × (List (T4 Str Str Int Int)))) s2147.1, sD (α := Int) s2147.2, sD (α := Int) v_way, sD (α := (Dc Str Int)) v_first, .non, .non, .non, .non]) (evi_list (ev_var rfl (⟨(v_found, v_room), rfl, h⟩))) (by exact fun x2150 s2147 n2151 h2207 => tg_name (sd_seq (sd_asgZ (i := 9) (Ev.imp (ev_call (tpw r) (ea_tok rfl (ea_cons (ev_var rfl (ea_nil h2207))))) (fun y2153 h2154 => fun z_position_2155 e2205 => sd_joinW (Wtp r) (fun (s2171 : (Dc Str Int)) => [.raw (.ref r), sD (α := (List Str)) v_pacts, sD (α := (Dc Str Int)) v_prices, sD (α := (List Str)) v_names, sM (κ := Str) (α := ((Dc Str Int) × (List (T4 Str Str Int Int)))) s2147.1, sD (α := Int) s2147.2, sD (α := Int) v_way, sD (α := (Dc Str Int)) v_first, sD (α := Str) x2150, sD (α := (Dc Str Int)) s2171, .non, .non]) (h2154 z_position_2155 e2205) (by exact fun h2203 => sd_if (et_test (ev_eqI (fun h => h) (ev_var rfl (ev_int (⟨fun e2201 => sd_seq (sd_asgZ (i := 9) (evd_fresh (eg_pairs (ec_ev (ev_fresh (EvF.imp (ef_lcKW rfl (ek_keys rfl) (h2203.1 e2201) (by exact fun x2186 R2187 h2188 => bd_yes (tgc_name (ev_tup2 (ea_cons (ev_var rfl (ea_cons (ev_I (f := fun i j : Int => i * j) (C := CMul) (fun h => h) (ev_dget (ecd_ev (ev_var rfl (ev_var rfl (Exists.elim h2188 fun x2189 h2190 => ⟨x2189, h2190.1, ev_I0 (f := fun i j : Int => i + j) (fun h => h) (ev_int (Ev.imp (ev_call (tpw r) (ea_tok rfl (ea_cons (ev_int (ea_nil h2190.2))))) (fun y2191 h2192 => ⟨h2192.1, ea_nil (h2192.2)⟩)))⟩))))))))))) (Wle.refl _))) (fun y2195 h2198 => fun z_position_2199 e2200 => sd_nextW [] ⟨z_position_2199, rfl, (Wle.refl _), (h2198 z_position_2199 e2200)⟩))))))), fun e2202 => sd_nextW [] ⟨z_position_2155, rfl, (Wle.refl _), (h2203.2 e2202)⟩⟩)))))) (by exact fun s2171 h2204 => sd_seq (sd_asgZ (i := 10) (ev_alt h2204 (by exact fun h2176 => ev_if (et_test (ev_I0 (f := fun i j : Int => (decide (j < i))) (fun h => h) (ev_var rfl (ev_int (⟨fun e2177 => Ev.imp (ev_call (tpw r) (ea_tok rfl (ea_cons (ev_var rfl (ea_cons (ev_var rfl (ea_cons (ev_var rfl (ea_nil (h2176.1 e2177)))))))))) (fun y2173 h2174 => h2174), fun e2178 => ev_fresh (ef_lst (es_nil (⟨Nat.le_of_ble_eq_true rfl, (h2176.2 e2178)⟩)))⟩)))))) (fun y2209 h2210 => fun z_orders_2179 e2185 => sd_seq (sd_asgZ (i := 5) (ev_I0 (f := fun i j : Int => i - j) (fun h => h) (ev_var rfl (ev_lenC (fun h => h) (ec_ev (ev_var rfl (fun z_room_2180 e2183 => sd_seq (sd_putZ (i := 4) rfl (ev_tup2 (ea_cons (ev_var rfl (ea_cons (ev_var rfl (ea_nil (ev_var rfl (⟨((h2210 z_orders_2179 e2185) z_room_2180 e2183).1, fun z_found_2181 e2182 => sd_nextW [8, 9, 10] ⟨(z_found_2181, z_room_2180), rfl, (Wle.refl _), (((h2210 z_orders_2179 e2185) z_room_2180 e2183).2 z_found_2181 e2182)⟩⟩))))))))))))))))))))))))) (by exact fun s2206 h2208 => sd_fixM (i := 4) rfl (sd_seq (sd_retW rfl (ev_var rfl (h2208)) (Wle.refl _)))) (fun _ _ l z => sd_le l z)))⟩
def w__law_books (a_pacts : (List Str)) (a_prices : (Dc Str Int)) (P : (Dc Str ((Dc Str Int) × (List (T4 Str Str Int Int)))) → Prop) : Prop := (w__law_shuffled [("ann" : Str), ("bob" : Str), ("cid" : Str), ("dee" : Str), ("eve" : Str), ("a" : Str)] (fun (y2078 : (List Str)) => (w__law_pick (5 : Int) (fun (y2080 : Int) => ∀ (z_names_2082 : (List Str)), z_names_2082 = (cutL y2078 none (some ((1 : Int) + y2080))) → ∀ (z_found_2085 : (List (Str × ((Dc Str Int) × (List (T4 Str Str Int Int)))))), z_found_2085 = ([] : List (Str × ((Dc Str Int) × (List (T4 Str Str Int Int))))) → ∀ (z_room_2086 : Int), z_room_2086 = (8 : Int) → (w__law_pick (5 : Int) (fun (y2083 : Int) => ∀ (z_way_2087 : Int), z_way_2087 = y2083 → (w__law_position a_pacts (fun (y2091 : (Dc Str Int)) => ∀ (z_first_2093 : (Dc Str Int)), z_first_2093 = y2091 → w__law_books_p1 a_pacts a_prices z_names_2082 z_found_2085 z_room_2086 z_way_2087 z_first_2093 P))))))))
abbrev W__law_books (g : Stk × (List Str) × (Dc Str Int) × Unit) (P : (Dc Str ((Dc Str Int) × (List (T4 Str Str Int Int)))) → Prop) : Prop := w__law_books g.2.1 g.2.2.1 P
theorem walk__law_books {f : Addr} {fd : FuncData} (X : Tx K mg) (C__law_shuffled : CalD P w K mg base 2 "_law_shuffled" (spD K TpW W__law_shuffled) []) (C__law_pick : CalD P w K mg base 1 "_law_pick" (spD K TpW W__law_pick) []) (C__law_position : CalD P w K mg base 2 "_law_position" (spD K TpW W__law_position) []) (C__law_orders : CalD P w K mg base 3 "_law_orders" (spD K TpW W__law_orders) []) (F : Fun K "_law_books" "_law_books" (topS 66) f fd) (hm : mg "_law_books" = some (.ref f)) (bd : Binds K fd ["tape", "pacts", "prices"] []) : CalD P w K mg base 4 "_law_books" (spD K TpW W__law_books) [] :=
  cal_ok F hm bd sc__law_books rfl (by decide) fun cdv A outer s H E hr => by
    obtain ⟨t1, d1, s1⟩ := part__law_books_p1 X C__law_position C__law_pick C__law_orders hr
    exact ⟨_, (pss_cons (ps_set (i := 3) sc__law_books.nd (by rfl) (by first | exact .inl rfl | exact .inr rfl) (pe_slice sl_list (pe_cd C__law_shuffled hr (by decide) (by rfl) (pa_cons (pv 0) (pa_cons (pe_lst (pa_cons pe_str (pa_cons pe_str (pa_cons pe_str (pa_cons pe_str (pa_cons pe_str (pa_cons pe_str pa_nil))))))) pa_nil))) po_none (po_some (pe_op op_add pe_int (pe_cd C__law_pick hr (by decide) (by rfl) (pa_cons (pv 0) (pa_cons pe_int pa_nil))))))) (pss_cons (ps_par3 (i := 4) (j := 5) (l := 6) rfl sc__law_books.nd (by rfl) (by rfl) (by rfl) (by decide) (by decide) (by decide) (by rfl) (by rfl) (by rfl) (pa_cons pe_dnewK (pa_cons pe_int (pa_cons (pe_cd C__law_pick hr (by decide) (by rfl) (pa_cons (pv 0) (pa_cons pe_int pa_nil))) pa_nil))) (by rfl)) (pss_cons (ps_set (i := 7) sc__law_books.nd (by rfl) (by first | exact .inl rfl | exact .inr rfl) (pe_cd C__law_position hr (by decide) (by rfl) (pa_cons (pv 0) (pa_cons (pv 1) pa_nil)))) d1))), fun W W2 hW g P h => by
      obtain ⟨r, e1, e2⟩ := hW
      subst e1 e2
      unfold W__law_books w__law_books at h
      exact sd_seq (sd_asgZ (i := 3) (ev_fresh (ef_sl (fun h => h) (ec_ev (Ev.imp (ev_call (tpw r) (ea_tok rfl (ea_cons (ev_fresh (ef_lst (es_cons (ev_str (es_cons (ev_str (es_cons (ev_str (es_cons (ev_str (es_cons (ev_str (es_cons (ev_str (es_nil (⟨Nat.le_of_ble_eq_true rfl, ea_nil h⟩))))))))))))))))))) (fun y2078 h2079 => eo_none (eo_some (ev_I0 (f := fun i j : Int => i + j) (fun h => h) (ev_int (Ev.imp (ev_call (tpw r) (ea_tok rfl (ea_cons (ev_int (ea_nil h2079))))) (fun y2080 h2081 => fun z_names_2082 e2212 => sd_seq (sd_par3M (i := 4) (j := 5) (l := 6) (egZ (eg_new (fun z_found_2085 e2088 => evZ (ev_int (fun z_room_2086 e2089 => evZ (Ev.imp (ev_call (tpw r) (ea_tok rfl (ea_cons (ev_int (ea_nil (((h2081 z_names_2082 e2212) z_found_2085 e2088) z_room_2086 e2089)))))) (fun y2083 h2084 => fun z_way_2087 e2090 => (sd_seq (sd_asgZ (i := 7) (Ev.imp (ev_call (tpw r) (ea_tok rfl (ea_cons (ev_var rfl (ea_nil (h2084 z_way_2087 e2090)))))) (fun y2091 h2092 => fun z_first_2093 e2211 => sd_le (Wle.refl _) (s1 r g.2.1 g.2.2.1 z_names_2082 z_found_2085 z_room_2086 z_way_2087 z_first_2093 _ (h2092 z_first_2093 e2211)))))))))))))))))))))))))⟩

theorem sc__law_book_loss : FnScope ["book", "move", "prices", "found", "side", "name", "price", "amount", "after"] ["book", "move", "prices"] (defScope (topS 67)) := ⟨rfl, rfl, rfl, by decide +kernel, rfl, by decide +kernel, by decide +kernel⟩
def w__law_book_loss (a_book : ((Dc Str Int) × (List (T4 Str Str Int Int)))) (a_move : (Dc Str Int)) (a_prices : (Dc Str Int)) (P : Int → Prop) : Prop := (w__law_loss a_book.1 a_move (fun (y2250 : Int) => ∀ (z_found_2252 : Int), z_found_2252 = y2250 → forW (fun (x2267 : (T4 Str Str Int Int)) (s2264 : Int) (n2268 b2269 : Int → Prop) => (∃ (x2270 : Int), look a_prices.l x2267.b = some x2270 ∧ ∀ (z_after_2272 : Int), z_after_2272 = (x2270 + (Option.getD (look a_move.l x2267.b) (0 : Int))) → altW (fun (P2273 : Int → Prop) => (((decide (x2267.a = ("buy" : Str))) = true → P2273 (x2267.c - z_after_2272)) ∧ ((decide (x2267.a = ("buy" : Str))) = false → P2273 (z_after_2272 - x2267.c)))) (fun (y2278 : Int) => (CMul x2267.d (if y2278 > (0 : Int) then y2278 else (0 : Int)) ∧ ∀ (z_found_2277 : Int), z_found_2277 = (s2264 + (x2267.d * (if y2278 > (0 : Int) then y2278 else (0 : Int)))) → n2268 z_found_2277)))) (fun (s2281 : Int) => P s2281) a_book.2 z_found_2252))
abbrev W__law_book_loss (g : ((Dc Str Int) × (List (T4 Str Str Int Int))) × (Dc Str Int) × (Dc Str Int) × Unit) (P : Int → Prop) : Prop := w__law_book_loss g.1 g.2.1 g.2.2.1 P
theorem walk__law_book_loss {f : Addr} {fd : FuncData} (X : Tx K mg) (C__law_loss : CalD P w K mg base 1 "_law_loss" (spD K AnyW W__law_loss) []) (F : Fun K "_law_book_loss" "_law_book_loss" (topS 67) f fd) (hm : mg "_law_book_loss" = some (.ref f)) (bd : Binds K fd ["book", "move", "prices"] []) : CalD P w K mg base 2 "_law_book_loss" (spD K AnyW W__law_book_loss) [] :=
  cal_ok F hm bd sc__law_book_loss rfl (by decide) fun cdv A outer s H E hr => by
    exact ⟨_, (pss_cons (ps_set (i := 3) sc__law_book_loss.nd (by rfl) (by first | exact .inl rfl | exact .inr rfl) (pe_cd C__law_loss hr (by decide) (by rfl) (pa_cons (pe_ix ix_tup (pv 0) pe_int (fun _ _ => rfl)) (pa_cons (pv 1) pa_nil)))) (pss_cons (ps_for PassesOwn.never rfl (pi_list (pe_ix ix_tup (pv 0) pe_int (fun _ _ => rfl))) (pg_tup rfl (pgs_cons (pg_name (i := 4) sc__law_book_loss.nd (by rfl) (by first | exact .inl rfl | exact .inr rfl)) (pgs_cons (pg_name (i := 5) sc__law_book_loss.nd (by rfl) (by first | exact .inl rfl | exact .inr rfl)) (pgs_cons (pg_name (i := 6) sc__law_book_loss.nd (by rfl) (by first | exact .inl rfl | exact .inr rfl)) (pgs_cons (pg_name (i := 7) sc__law_book_loss.nd (by rfl) (by first | exact .inl rfl | exact .inr rfl)) pgs_nil))))) (pss_cons (ps_set (i := 8) sc__law_book_loss.nd (by rfl) (by first | exact .inl rfl | exact .inr rfl) (pe_op op_add (pe_dget (hu_of hr) (pv 2) (pv 5) (fun _ _ => rfl)) (pe_dget2 (hu_of hr) (pv 1) (pv 5) pe_int ⟨rfl, rfl, rfl, rfl⟩))) (pss_cons (ps_set (i := 3) sc__law_book_loss.nd (by rfl) (by first | exact .inl rfl | exact .inr rfl) (pe_op op_add (pv 3) (pe_op op_mul (pv 7) (pe_callB (call_max2 rfl) (by rfl) X.b_max rfl (pa_cons pe_int (pa_cons (pe_ifExp (pt_cmpR op_eq (pv 4) pe_str (nomark _)) (pe_op op_sub (pv 6) (pv 8)) (pe_op op_sub (pv 8) (pv 6))) pa_nil)))))) pss_nil))) (pss_cons (ps_ret (pv 3)) pss_nil))), fun W W2 hW g P h => by
      have e1 : W = W2 := hW
      subst e1
      unfold W__law_book_loss w__law_book_loss at h
      exact sd_seq (sd_asgZ (i := 3) (Ev.imp (ev_call rfl (ea_cons (ev_p0 (fun h => h) (ev_var rfl (ea_cons (ev_var rfl (ea_nil h))))))) (fun y2250 h2251 => fun z_found_2252 e2284 => sd_wipe [4, 5, 6, 7, 8] (sd_seq (sd_forW (fun (s2264 : Int) => [sD (α := ((Dc Str Int) × (List (T4 Str Str Int Int)))) g.1, sD (α := (Dc Str Int)) g.2.1, sD (α := (Dc Str Int)) g.2.2.1, sD (α := Int) s2264, .non, .non, .non, .non, .non]) (evi_list (ev_p1 (fun h => h) (ev_var rfl (⟨z_found_2252, rfl, (h2251 z_found_2252 e2284)⟩)))) (by exact fun x2267 s2264 n2268 h2282 => tg_four (sd_seq (sd_asgZ (i := 8) (ev_I0 (f := fun i j : Int => i + j) (fun h => h) (ev_dget (ecd_ev (ev_var rfl (ev_var rfl (Exists.elim h2282 fun x2270 h2271 => ⟨x2270, h2271.1, ev_dget2 (ecd_ev (ev_var rfl (ev_var rfl (ev_int (fun z_after_2272 e2280 => sd_seq (sd_asgZ (i := 3) (ev_I0 (f := fun i j : Int => i + j) (fun h => h) (ev_var rfl (ev_I (f := fun i j : Int => i * j) (C := CMul) (fun h => h) (ev_var rfl (ev_max2 (ev_int (ev_alt (h2271.2 z_after_2272 e2280) (by exact fun h2274 => ev_if (et_test (ev_eqS (fun h => h) (ev_var rfl (ev_str (⟨fun e2275 => ev_I0 (f := fun i j : Int => i - j) (fun h => h) (ev_var rfl (ev_var rfl ((h2274.1 e2275)))), fun e2276 => ev_I0 (f := fun i j : Int => i - j) (fun h => h) (ev_var rfl (ev_var rfl ((h2274.2 e2276))))⟩)))))) (fun y2285 h2286 => ⟨h2286.1, fun z_found_2277 e2279 => sd_nextW [4, 5, 6, 7, 8] ⟨z_found_2277, rfl, (Wle.refl _), (h2286.2 z_found_2277 e2279)⟩⟩))))))))))))))⟩))))))))) (by exact fun s2281 h2283 => sd_seq (sd_retW rfl (ev_var rfl (h2283)) (Wle.refl _))) (fun _ _ l z => sd_le l z))))))⟩

theorem sc__law_losses : FnScope ["books", "group", "moves", "prices", "name", "move"] ["books", "group", "moves", "prices"] (defScope (topS 68)) := ⟨rfl, rfl, rfl, by decide +kernel, rfl, by decide +kernel, by decide +kernel⟩
def w__law_losses (a_books : (Dc Str ((Dc Str Int) × (List (T4 Str Str Int Int))))) (a_group : (List Str)) (a_moves : (List (Dc Str Int))) (a_prices : (Dc Str Int)) (P : (List Int) → Prop) : Prop := (a_moves.length ≤ 100000 ∧ compW (fun (x2309 : (Dc Str Int)) (R2310 : Option Int → Prop) => (a_group.length ≤ 100000 ∧ compW (fun (x2312 : Str) (R2313 : Option Int → Prop) => ((∃ (x2315 : ((Dc Str Int) × (List (T4 Str Str Int Int)))), look a_books.l x2312 = some x2315 ∧ w__law_book_loss x2315 x2309 a_prices (fun (y2317 : Int) => R2313 (some y2317))))) (fun (y2321 : (List Int)) => R2310 (some (List.sum y2321))) a_group [])) (fun (y2327 : (List Int)) => P y2327) a_moves [])
abbrev W__law_losses (g : (Dc Str ((Dc Str Int) × (List (T4 Str Str Int Int)))) × (List Str) × (List (Dc Str Int)) × (Dc Str Int) × Unit) (P : (List Int) → Prop) : Prop := w__law_losses g.1 g.2.1 g.2.2.1 g.2.2.2.1 P
theorem walk__law_losses {f : Addr} {fd : FuncData} (X : Tx K mg) (C__law_book_loss : CalD P w K mg base 2 "_law_book_loss" (spD K AnyW W__law_book_loss) []) (F : Fun K "_law_losses" "_law_losses" (topS 68) f fd) (hm : mg "_law_losses" = some (.ref f)) (bd : Binds K fd ["books", "group", "moves", "prices"] []) : CalD P w K mg base 3 "_law_losses" (spD K AnyW W__law_losses) [] :=
  cal_ok F hm bd sc__law_losses rfl (by decide) fun cdv A outer s H E hr => by
    exact ⟨_, (pss_cons (ps_ret (pe_lc rfl sc__law_losses.nd (pi_list (pv 2)) (blkOk_by (N := ["books", "group", "moves", "prices", "name", "move"]) (sc := defScope (topS 68)) (own := [("move", 5)]) (by decide +kernel)) (fun _ _ _ _ _ => (pg_name (i := 5) sc__law_losses.nd (by rfl) (by first | exact .inl rfl | exact .inr rfl))) (fun _ _ _ _ _ => pts_nil) (fun _ _ _ _ _ => (pe_callB (cr_sum rfl) (by rfl) X.b_sum rfl (pa_cons (pe_lc rfl sc__law_losses.nd (pi_listK (K := K) rfl (pv 1)) (blkOk_by (own := [("name", 4)]) (by rfl)) (fun _ _ _ _ _ => (pg_name (i := 4) sc__law_losses.nd (by rfl) (by first | exact .inl rfl | exact .inr rfl))) (fun _ _ _ _ _ => pts_nil) (fun _ _ _ _ _ => (pe_cd C__law_book_loss hr (by decide) (by rfl) (pa_cons (pe_dget (hu_of hr) (pv 0) (pv 4) (fun _ _ => rfl)) (pa_cons (pv 5) (pa_cons (pv 3) pa_nil)))))) pa_nil))))) pss_nil), fun W W2 hW g P h => by
      have e1 : W = W2 := hW
      subst e1
      unfold W__law_losses w__law_losses at h
      exact sd_seq (sd_retW rfl (ev_fresh (EvF.imp (ef_lcW (evio (evi_list (ev_var rfl (h)))) (by exact fun x2309 R2310 h2311 => bd_yes (tgc_name (ev_sum (ec_ev (ev_fresh (EvF.imp (ef_lcW (evio (evi_list (ev_var rfl (h2311)))) (by exact fun x2312 R2313 h2314 => bd_yes (tgc_name (Ev.imp (ev_call rfl (ea_cons (ev_dget (ecd_ev (ev_var rfl (ev_var rfl (Exists.elim h2314 fun x2315 h2316 => ⟨x2315, h2316.1, ea_cons (ev_var rfl (ea_cons (ev_var rfl (ea_nil h2316.2))))⟩))))))) (fun y2317 h2318 => h2318))) (Wle.refl _))) (fun y2321 h2324 => h2324)))))) (Wle.refl _))) (fun y2327 h2330 => h2330))) (Wle.refl _))⟩

theorem sc__law_need : FnScope ["books", "group", "moves", "prices"] ["books", "group", "moves", "prices"] (defScope (topS 69)) := ⟨rfl, rfl, rfl, by decide +kernel, rfl, by decide +kernel, by decide +kernel⟩
def w__law_need (a_books : (Dc Str ((Dc Str Int) × (List (T4 Str Str Int Int))))) (a_group : (List Str)) (a_moves : (List (Dc Str Int))) (a_prices : (Dc Str Int)) (P : Int → Prop) : Prop := (w__law_losses a_books a_group a_moves a_prices (fun (y2337 : (List Int)) => (0 < y2337.length ∧ ∀ m2339, m2339 ∈ y2337 → (∀ y2342, y2342 ∈ y2337 → y2342 ≤ m2339) → P m2339)))
abbrev W__law_need (g : (Dc Str ((Dc Str Int) × (List (T4 Str Str Int Int)))) × (List Str) × (List (Dc Str Int)) × (Dc Str Int) × Unit) (P : Int → Prop) : Prop := w__law_need g.1 g.2.1 g.2.2.1 g.2.2.2.1 P
theorem walk__law_need {f : Addr} {fd : FuncData} (X : Tx K mg) (C__law_losses : CalD P w K mg base 3 "_law_losses" (spD K AnyW W__law_losses) []) (F : Fun K "_law_need" "_law_need" (topS 69) f fd) (hm : mg "_law_need" = some (.ref f)) (bd : Binds K fd ["books", "group", "moves", "prices"] []) : CalD P w K mg base 4 "_law_need" (spD K AnyW W__law_need) [] :=
  cal_ok F hm bd sc__law_need rfl (by decide) fun cdv A outer s H E hr => by
    exact ⟨_, (pss_cons (ps_ret (pe_callB (cr_max rfl) (by rfl) X.b_max rfl (pa_cons (pe_cd C__law_losses hr (by decide) (by rfl) (pa_cons (pv 0) (pa_cons (pv 1) (pa_cons (pv 2) (pa_cons (pv 3) pa_nil))))) pa_nil))) pss_nil), fun W W2 hW g P h => by
      have e1 : W = W2 := hW
      subst e1
      unfold W__law_need w__law_need at h
      exact sd_seq (sd_retW rfl (ev_max (ec_ev (Ev.imp (ev_call rfl (ea_cons (ev_var rfl (ea_cons (ev_var rfl (ea_cons (ev_var rfl (ea_cons (ev_var rfl (ea_nil h)))))))))) (fun y2337 h2338 => ⟨h2338.1, fun m2339 h2340 h2341 => (h2338.2 m2339 h2340 h2341)⟩)))) (Wle.refl _))⟩

theorem sc__law_lists : FnScope ["names", "lots", "name", "lot", "size", "row"] ["names"] (defScope (topS 70)) := ⟨rfl, rfl, rfl, by decide +kernel, rfl, by decide +kernel, by decide +kernel⟩
def w__law_lists (a_names : (List Str)) (P : (List (List Str)) → Prop) : Prop := ∀ (z_lots_2397 : (List (List Str))), z_lots_2397 = [([] : List Str)] → forW (fun (x2412 : Str) (s2409 : (List (List Str))) (n2413 b2414 : (List (List Str)) → Prop) => (s2409.length ≤ 100000 ∧ compW (fun (x2415 : (List Str)) (R2416 : Option (List Str) → Prop) => (x2415.length + [x2412].length ≤ 100000 ∧ R2416 (some (x2415 ++ [x2412])))) (fun (y2420 : (List (List Str))) => (s2409.length + y2420.length ≤ 100000 ∧ ∀ (z_lots_2424 : (List (List Str))), z_lots_2424 = (s2409 ++ y2420) → n2413 z_lots_2424)) s2409 [])) (fun (s2426 : (List (List Str))) => (s2426.length ≤ 100000 ∧ compW (fun (x2427 : (List Str)) (R2428 : Option (Int × (Tp Str)) → Prop) => R2428 (some ((x2427.length : Int), (Tp.mk x2427)))) (fun (y2432 : (List (Int × (Tp Str)))) => (∀ (z2436 : (List (Int × (Tp Str)))), List.Perm z2436 y2432 → sortedN z2436 → (z2436.length ≤ 100000 ∧ compW (fun (x2439 : (Int × (Tp Str))) (R2440 : Option (List Str) → Prop) => R2440 (some x2439.2.l)) (fun (y2444 : (List (List Str))) => P y2444) z2436 []))) s2426 [])) a_names z_lots_2397
abbrev W__law_lists (g : (List Str) × Unit) (P : (List (List Str)) → Prop) : Prop := w__law_lists g.1 P
theorem walk__law_lists {f : Addr} {fd : FuncData} (X : Tx K mg)  (F : Fun K "_law_lists" "_law_lists" (topS 70) f fd) (hm : mg "_law_lists" = some (.ref f)) (bd : Binds K fd ["names"] []) : CalD P w K mg base 1 "_law_lists" (spD K AnyW W__law_lists) [] :=
  cal_ok F hm bd sc__law_lists rfl (by decide) fun cdv A outer s H E hr => by
    exact ⟨_, (pss_cons (ps_set (i := 1) sc__law_lists.nd (by rfl) (by first | exact .inl rfl | exact .inr rfl) (pe_lst (pa_cons (pe_lst pa_nil) pa_nil))) (pss_cons (ps_for PassesOwn.never rfl (pi_list (pv 0)) (pg_name (i := 2) sc__law_lists.nd (by rfl) (by first | exact .inl rfl | exact .inr rfl)) (pss_cons (ps_set (i := 1) sc__law_lists.nd (by rfl) (by first | exact .inl rfl | exact .inr rfl) (pe_op op_cat (pv 1) (pe_lc rfl sc__law_lists.nd (pi_list (pv 1)) (blkOk_by (N := ["names", "lots", "name", "lot", "size", "row"]) (sc := defScope (topS 70)) (own := [("lot", 3)]) (by decide +kernel)) (fun _ _ _ _ _ => (pg_name (i := 3) sc__law_lists.nd (by rfl) (by first | exact .inl rfl | exact .inr rfl))) (fun _ _ _ _ _ => pts_nil) (fun _ _ _ _ _ => (pe_op op_cat (pv 3) (pe_lst (pa_cons (pv 2) pa_nil))))))) pss_nil)) (pss_cons (ps_ret (pe_lc rfl sc__law_lists.nd (g := gTup K 2 (gCons (gName 4) (gCons (gName 5) gNil))) (pi_list (pe_callB (cr_sortedN hr) (by rfl) X.b_sorted rfl (pa_cons (pe_lc rfl sc__law_lists.nd (pi_list (pv 1)) (blkOk_by (N := ["names", "lots", "name", "lot", "size", "row"]) (sc := defScope (topS 70)) (own := [("lot", 3)]) (by decide +kernel)) (fun _ _ _ _ _ => (pg_name (i := 3) sc__law_lists.nd (by rfl) (by first | exact .inl rfl | exact .inr rfl))) (fun _ _ _ _ _ => pts_nil) (fun _ _ _ _ _ => (pe_tup (pa_cons (pe_callB call_len_seq (by rfl) X.b_len rfl (pa_cons (pv 3) pa_nil)) (pa_cons (pe_callTy call_tuple_of (by rfl) X.b_tuple rfl (pa_cons (pv 3) pa_nil)) pa_nil))))) pa_nil))) (blkOk_by (N := ["names", "lots", "name", "lot", "size", "row"]) (sc := defScope (topS 70)) (own := [("size", 4), ("row", 5)]) (by decide +kernel)) (fun _ _ _ _ _ => (pg_tup rfl (pgs_cons (pg_name (i := 4) sc__law_lists.nd (by rfl) (by first | exact .inl rfl | exact .inr rfl)) (pgs_cons (pg_name (i := 5) sc__law_lists.nd (by rfl) (by first | exact .inl rfl | exact .inr rfl)) pgs_nil)))) (fun _ _ _ _ _ => pts_nil) (fun _ _ _ _ _ => (pe_callTy call_list_of (by rfl) X.b_list rfl (pa_cons (pv 5) pa_nil))))) pss_nil))), fun W W2 hW g P h => by
      have e1 : W = W2 := hW
      subst e1
      unfold W__law_lists w__law_lists at h
      exact sd_seq (sd_asgZ (i := 1) (ev_fresh (ef_lst (es_cons (ev_fresh (ef_lst (es_nil (⟨Nat.le_of_ble_eq_true rfl, es_nil (⟨Nat.le_of_ble_eq_true rfl, fun z_lots_2397 e2450 => sd_wipe [2] (sd_seq (sd_forW (fun (s2409 : (List (List Str))) => [sD (α := (List Str)) g.1, sD (α := (List (List Str))) s2409, .non, .non, .non, .non]) (evi_list (ev_var rfl (⟨z_lots_2397, rfl, (h z_lots_2397 e2450)⟩))) (by exact fun x2412 s2409 n2413 h2448 => tg_name (sd_seq (sd_asgZ (i := 1) (ev_fresh (ef_cat (fun h => h) (ec_ev (ev_var rfl (ec_ev (ev_fresh (EvF.imp (ef_lcW (evio (evi_list (ev_var rfl (h2448)))) (by exact fun x2415 R2416 h2417 => bd_yes (tgc_name (ev_fresh (ef_cat (fun h => h) (ec_ev (ev_var rfl (ec_ev (ev_fresh (ef_lst (es_cons (ev_var rfl (es_nil (⟨Nat.le_of_ble_eq_true rfl, ⟨h2417.1, h2417.2⟩⟩)))))))))))) (Wle.refl _))) (fun y2420 h2423 => ⟨h2423.1, fun z_lots_2424 e2425 => sd_nextW [2] ⟨z_lots_2424, rfl, (Wle.refl _), (h2423.2 z_lots_2424 e2425)⟩⟩))))))))))) (by exact fun s2426 h2449 => sd_seq (sd_retW rfl (ev_fresh (EvF.imp (ef_lcW (evio (evi_list (ev_fresh (ef_sortedN (ec_ev (ev_fresh (EvF.imp (ef_lcW (evio (evi_list (ev_var rfl (h2449)))) (by exact fun x2427 R2428 h2429 => bd_yes (tgc_name (ev_tup2 (ea_cons (ev_lenC (fun h => h) (ec_ev (ev_var rfl (ea_cons (ev_tupleC (ec_ev (ev_var rfl (ea_nil (h2429)))))))))))) (Wle.refl _))) (fun y2432 h2435 => fun z2436 h2437 h2438 => (h2435 z2436 h2437 h2438))))))))) (by exact fun x2439 R2440 h2441 => bd_yes (tgc_two (ev_fresh (ef_listT (fun h => h) (ev_var rfl (h2441))))) (Wle.refl _))) (fun y2444 h2447 => h2447))) (Wle.refl _))) (fun _ _ l z => sd_le l z)))⟩)⟩))))))))⟩

theorem sc__law_objecting : FnScope ["books", "moves", "prices", "shares", "group", "name"] ["books", "moves", "prices", "shares"] (defScope (topS 71)) := ⟨rfl, rfl, rfl, by decide +kernel, rfl, by decide +kernel, by decide +kernel⟩
def w__law_objecting (a_books : (Dc Str ((Dc Str Int) × (List (T4 Str Str Int Int))))) (a_moves : (List (Dc Str Int))) (a_prices : (Dc Str Int)) (a_shares : (Dc Str Int)) (P : (Option (List Str)) → Prop) : Prop := ((a_books.l.length < 64 ∧ ∀ (z2495 : List Str), List.Perm z2495 (List.map Prod.fst a_books.l) → sortedS z2495 = true → w__law_lists z2495 (fun (y2498 : (List (List Str))) => forW (fun (x2518 : (List Str)) (s2515 : Unit) (n2519 b2520 : Unit → Prop) => (x2518.length ≤ 100000 ∧ compW (fun (x2521 : Str) (R2522 : Option Int → Prop) => (∃ (x2524 : Int), look a_shares.l x2521 = some x2524 ∧ R2522 (some x2524))) (fun (y2528 : (List Int)) => (w__law_need a_books x2518 a_moves a_prices (fun (y2532 : Int) => (((decide (y2532 < (List.sum y2528))) = true → P (some x2518)) ∧ ((decide (y2532 < (List.sum y2528))) = false → n2519 ()))))) x2518 [])) (fun (s2536 : Unit) => P (none : (Option (List Str)))) y2498 ())))
abbrev W__law_objecting (g : (Dc Str ((Dc Str Int) × (List (T4 Str Str Int Int)))) × (List (Dc Str Int)) × (Dc Str Int) × (Dc Str Int) × Unit) (P : (Option (List Str)) → Prop) : Prop := w__law_objecting g.1 g.2.1 g.2.2.1 g.2.2.2.1 P
theorem walk__law_objecting {f : Addr} {fd : FuncData} (X : Tx K mg) (C__law_lists : CalD P w K mg base 1 "_law_lists" (spD K AnyW W__law_lists) []) (C__law_need : CalD P w K mg base 4 "_law_need" (spD K AnyW W__law_need) []) (F : Fun K "_law_objecting" "_law_objecting" (topS 71) f fd) (hm : mg "_law_objecting" = some (.ref f)) (bd : Binds K fd ["books", "moves", "prices", "shares"] []) : CalD P w K mg base 5 "_law_objecting" (spD K AnyW W__law_objecting) [] :=
  cal_ok F hm bd sc__law_objecting rfl (by decide) fun cdv A outer s H E hr => by
    exact ⟨_, (pss_cons (ps_for PassesOwn.never rfl (pi_list (pe_cd C__law_lists hr (by decide) (by rfl) (pa_cons (pe_callB (call_sortedD rfl) (by rfl) X.b_sorted rfl (pa_cons (pv 0) pa_nil)) pa_nil))) (pg_name (i := 4) sc__law_objecting.nd (by rfl) (by first | exact .inl rfl | exact .inr rfl)) (pss_cons (ps_if (pt_cmpR op_gt (pe_callB (cr_sum rfl) (by rfl) X.b_sum rfl (pa_cons (pe_lc rfl sc__law_objecting.nd (pi_list (pv 4)) (blkOk_by (N := ["books", "moves", "prices", "shares", "group", "name"]) (sc := defScope (topS 71)) (own := [("name", 5)]) (by decide +kernel)) (fun _ _ _ _ _ => (pg_name (i := 5) sc__law_objecting.nd (by rfl) (by first | exact .inl rfl | exact .inr rfl))) (fun _ _ _ _ _ => pts_nil) (fun _ _ _ _ _ => (pe_dget (hu_of hr) (pv 3) (pv 5) (fun _ _ => rfl)))) pa_nil)) (pe_cd C__law_need hr (by decide) (by rfl) (pa_cons (pv 0) (pa_cons (pv 4) (pa_cons (pv 1) (pa_cons (pv 2) pa_nil))))) (nomark _)) (pss_cons (ps_ret (pv 4)) pss_nil) pss_nil) pss_nil)) (pss_cons (ps_ret pe_non) pss_nil)), fun W W2 hW g P h => by
      have e1 : W = W2 := hW
      subst e1
      unfold W__law_objecting w__law_objecting at h
      exact sd_wipe [4] (sd_seq (sd_forW (fun (s2515 : Unit) => [sD (α := (Dc Str ((Dc Str Int) × (List (T4 Str Str Int Int))))) g.1, sD (α := (List (Dc Str Int))) g.2.1, sD (α := (Dc Str Int)) g.2.2.1, sD (α := (Dc Str Int)) g.2.2.2.1, .non, .non]) (evi_list (Ev.imp (ev_call rfl (ea_cons (ev_fresh (ef_sortedD (ecd_ev (ev_var rfl (⟨h.1, fun z2495 h2496 h2497 => ea_nil (h.2 z2495 h2496 h2497)⟩))))))) (fun y2498 h2499 => ⟨(), rfl, h2499⟩))) (by exact fun x2518 s2515 n2519 h2537 => tg_name (sd_seq (sd_if (et_test (ev_I0 (f := fun i j : Int => (decide (j < i))) (fun h => h) (ev_sum (ec_ev (ev_fresh (EvF.imp (ef_lcW (evio (evi_list (ev_var rfl (h2537)))) (by exact fun x2521 R2522 h2523 => bd_yes (tgc_name (ev_dget (ecd_ev (ev_var rfl (ev_var rfl (Exists.elim h2523 fun x2524 h2525 => ⟨x2524, h2525.1, h2525.2⟩)))))) (Wle.refl _))) (fun y2528 h2531 => Ev.imp (ev_call rfl (ea_cons (ev_var rfl (ea_cons (ev_var rfl (ea_cons (ev_var rfl (ea_cons (ev_var rfl (ea_nil h2531)))))))))) (fun y2532 h2533 => ⟨fun e2534 => sd_seq (sd_retW rfl (ev_some (ev_var rfl ((h2533.1 e2534)))) (Wle.refl _)), fun e2535 => sd_next (sd_nextW [4] ⟨(), rfl, (Wle.refl _), (h2533.2 e2535)⟩)⟩))))))))))) (by exact fun s2536 h2538 => sd_seq (sd_retW rfl (ev_nonO (h2538)) (Wle.refl _))) (fun _ _ l z => sd_le l z)))⟩

theorem sc__law_same : FnScope ["told", "due", "key", "k"] ["told", "due"] (defScope (topS 59)) := ⟨rfl, rfl, rfl, by decide +kernel, rfl, by decide +kernel, by decide +kernel⟩
def w__law_same_S_S_p1 (v_told : Str) (v_due : Str) (P : Bool → Prop) : Prop := ((false = false → ((true = true → altW (fun (P2690 : Bool → Prop) => ((true = true → P2690 (decide (v_told = v_due))) ∧ (true = false → P2690 false))) (fun (y2692 : Bool) => P y2692)) ∧ (true = false → False))) ∧ (false = true → False))
theorem part__law_same_S_S_p1 (X : Tx K mg)  {f : Addr} {cdv : Value} {A : Around} {outer : List Env} {s : Shared} {H : Hp} {E : XK} (hr : Room 0 (A.deeper (envOfC "_law_same" (defScope (topS 59)) s.heap.objs.size f cdv))) :
    ∃ t, PSs (cxOf CX0 P w K mg base ["told", "due", "key", "k"] "_law_same" (defScope (topS 59)) f cdv A outer s H E).nox ((defBody (topS 59)).drop 3) t ∧ ∀ (W : Wd), ∀ (v_told : Str) (v_due : Str) (P : Bool → Prop), w__law_same_S_S_p1 v_told v_due P → Sd W K t [sD (α := Str) v_told, sD (α := Str) v_due, .non, .non] { nx := fun _ _ => False, rt := rtW W P } := by
  exact ⟨_, (pss_cons (ps_if (pt_val (pe_callB call_isi (by rfl) X.b_isinstance rfl (pa_cons (pv 1) (pa_cons (pe_bltn (v := .ty "int") (by rfl) X.b_int rfl rfl) pa_nil)))) pss_never pss_nil) (pss_cons (ps_if (pt_val (pe_callB call_isi (by rfl) X.b_isinstance rfl (pa_cons (pv 1) (pa_cons (pe_bltn (v := .ty "str") (by rfl) X.b_str rfl rfl) pa_nil)))) (pss_cons (ps_ret (pe_and (pe_callB call_isi (by rfl) X.b_isinstance rfl (pa_cons (pv 0) (pa_cons (pe_bltn (v := .ty "str") (by rfl) X.b_str rfl rfl) pa_nil))) (pe_one (pe_cmpR op_eq (pv 0) (pv 1) (nomark _))))) pss_nil) pss_nil) pss_never)), fun W v_told v_due P h => by
    unfold w__law_same_S_S_p1 at h
    exact sd_seq (sd_if (et_B (ev_isi (α := Str) (b := false) (ev_var rfl (⟨fun e2687 => (h.2 e2687).elim, fun e2686 => sd_next (sd_seq (sd_if (et_B (ev_isi (α := Str) (b := true) (ev_var rfl (⟨fun e2688 => sd_seq (sd_retW rfl (ev_alt ((h.1 e2686).1 e2688) (by exact fun h2691 => ev_andV (ev_isi (α := Str) (b := true) (ev_var rfl (⟨fun e2707 => ev_eqS (fun h => h) (ev_var rfl (ev_var rfl ((h2691.1 e2707)))), fun e2708 => h2691.2 e2708⟩))) (Wle.refl _)) (fun y2705 h2706 => h2706)) (Wle.refl _)), fun e2689 => ((h.1 e2686).2 e2689).elim⟩))))))⟩)))))⟩
def w__law_same_S_S (a_told : Str) (a_due : Str) (P : Bool → Prop) : Prop := ((false = false → (((false || false) = false → altW (fun (P2682 : Bool → Prop) => ((false = false → P2682 false) ∧ (false = true → P2682 true))) (fun (y2709 : Bool) => ((y2709 = false → w__law_same_S_S_p1 a_told a_due P) ∧ (y2709 = true → False)))) ∧ ((false || false) = true → False))) ∧ (false = true → False))
abbrev W__law_same_S_S (g : Str × Str × Unit) (P : Bool → Prop) : Prop := w__law_same_S_S g.1 g.2.1 P
theorem walk__law_same_S_S {f : Addr} {fd : FuncData} (X : Tx K mg)  (F : Fun K "_law_same" "_law_same" (topS 59) f fd) (hm : mg "_law_same" = some (.ref f)) (bd : Binds K fd ["told", "due"] []) : CalD P w K mg base 1 "_law_same" (spD K AnyW W__law_same_S_S) [] :=
  cal_ok F hm bd sc__law_same rfl (by decide) fun cdv A outer s H E hr => by
    obtain ⟨t1, d1, s1⟩ := part__law_same_S_S_p1 X  hr
    exact ⟨_, (pss_cons (ps_if (pt_val (pe_callB call_isi (by rfl) X.b_isinstance rfl (pa_cons (pv 1) (pa_cons (pe_bltn (v := .ty "dict") (by rfl) X.b_dict rfl rfl) pa_nil)))) pss_never pss_nil) (pss_cons (ps_if (pt_val (pe_callB call_isiT (by rfl) X.b_isinstance rfl (pa_cons (pv 1) (pa_cons (pe_tup (pa_cons (pe_bltn (v := .ty "list") (by rfl) X.b_list rfl rfl) (pa_cons (pe_bltn (v := .ty "tuple") (by rfl) X.b_tuple rfl rfl) pa_nil))) pa_nil)))) pss_never pss_nil) (pss_cons (ps_if (PW.pt (pw_or (pt_val (pe_callB call_isi (by rfl) X.b_isinstance rfl (pa_cons (pv 1) (pa_cons (pe_bltn (v := .ty "bool") (by rfl) X.b_bool rfl rfl) pa_nil)))) (pw_or1 (pt_val (pe_callB call_isi (by rfl) X.b_isinstance rfl (pa_cons (pv 0) (pa_cons (pe_bltn (v := .ty "bool") (by rfl) X.b_bool rfl rfl) pa_nil))))))) pss_never pss_nil) d1))), fun W W2 hW g P h => by
      have e1 : W = W2 := hW
      subst e1
      unfold W__law_same_S_S w__law_same_S_S at h
      exact sd_seq (sd_if (et_B (ev_isi (α := Str) (b := false) (ev_var rfl (⟨fun e2679 => (h.2 e2679).elim, fun e2678 => sd_next (sd_seq (sd_if (et_B (ev_isiT (α := Str) (b1 := false) (b2 := false) (ev_var rfl (⟨fun e2681 => ((h.1 e2678).2 e2681).elim, fun e2680 => sd_next (sd_seq (sd_if (et_alt ((h.1 e2678).1 e2680) (by exact fun h2683 => et_or (et_B (ev_isi (α := Str) (b := false) (ev_var rfl (⟨fun e2724 => et_B (ev_isi (α := Str) (b := false) (ev_var rfl ((h2683.1 e2724)))), fun e2725 => h2683.2 e2725⟩)))) (Wle.refl _)) (fun y2722 h2723 => ⟨fun e2685 => (h2723.2 e2685).elim, fun e2684 => sd_next (sd_le (Wle.refl _) (s1 W g.1 g.2.1 _ (h2723.1 e2684)))⟩))))⟩))))))⟩)))))⟩

def w__law_same_OLS_OLS_p1 (v_told : (Option (List Str))) (v_due : (Option (List Str))) (P : Bool → Prop) : Prop := (((Option.isSome v_due && false) = false → (((Option.isSome v_due && false) = false → altW (fun (P2853 : Bool → Prop) => (((Option.isNone v_due) = true → P2853 (Option.isNone v_told)) ∧ ((Option.isNone v_due) = false → P2853 false))) (fun (y2855 : Bool) => P y2855)) ∧ ((Option.isSome v_due && false) = true → False))) ∧ ((Option.isSome v_due && false) = true → False))
theorem part__law_same_OLS_OLS_p1 (X : Tx K mg)  {f : Addr} {cdv : Value} {A : Around} {outer : List Env} {s : Shared} {H : Hp} {E : XK} (hr : Room 1 (A.deeper (envOfC "_law_same" (defScope (topS 59)) s.heap.objs.size f cdv))) :
    ∃ t, PSs (cxOf CX0 P w K mg base ["told", "due", "key", "k"] "_law_same" (defScope (topS 59)) f cdv A outer s H E).nox ((defBody (topS 59)).drop 3) t ∧ ∀ (W : Wd), ∀ (v_told : (Option (List Str))) (v_due : (Option (List Str))) (P : Bool → Prop), w__law_same_OLS_OLS_p1 v_told v_due P → Sd W K t [sD (α := (Option (List Str))) v_told, sD (α := (Option (List Str))) v_due, .non, .non] { nx := fun _ _ => False, rt := rtW W P } := by
  exact ⟨_, (pss_cons (ps_if (pt_val (pe_callB call_isi (by rfl) X.b_isinstance rfl (pa_cons (pv 1) (pa_cons (pe_bltn (v := .ty "int") (by rfl) X.b_int rfl rfl) pa_nil)))) pss_never pss_nil) (pss_cons (ps_if (pt_val (pe_callB call_isi (by rfl) X.b_isinstance rfl (pa_cons (pv 1) (pa_cons (pe_bltn (v := .ty "str") (by rfl) X.b_str rfl rfl) pa_nil)))) pss_never pss_nil) (pss_cons (ps_ret (pe_and (pe_cmpR op_isN (pv 1) pe_non (nomark _)) (pe_one (pe_cmpR op_isN (pv 0) pe_non (nomark _))))) pss_nil))), fun W v_told v_due P h => by
    unfold w__law_same_OLS_OLS_p1 at h
    exact sd_seq (sd_if (et_B (ev_isiO (α := (List Str)) (b := false) (ev_var rfl (⟨fun e2850 => (h.2 e2850).elim, fun e2849 => sd_next (sd_seq (sd_if (et_B (ev_isiO (α := (List Str)) (b := false) (ev_var rfl (⟨fun e2852 => ((h.1 e2849).2 e2852).elim, fun e2851 => sd_next (sd_seq (sd_retW rfl (ev_alt ((h.1 e2849).1 e2851) (by exact fun h2854 => ev_andV (ev_isN (fun h => h) (ev_var rfl (⟨fun e2870 => ev_isN (fun h => h) (ev_var rfl ((h2854.1 e2870))), fun e2871 => h2854.2 e2871⟩))) (Wle.refl _)) (fun y2868 h2869 => h2869)) (Wle.refl _)))⟩))))))⟩)))))⟩
def w__law_same_OLS_OLS (a_told : (Option (List Str))) (a_due : (Option (List Str))) (P : Bool → Prop) : Prop := (((Option.isSome a_due && false) = false → (((Option.isSome a_due && (true || false)) = true → altW (fun (P2804 : Bool → Prop) => (((!(Option.isSome a_told && (true || false))) = false → P2804 (!decide ((Option.isSome a_told && true) = (Option.isSome a_due && true)))) ∧ ((!(Option.isSome a_told && (true || false))) = true → P2804 true))) (fun (y2842 : Bool) => ((y2842 = true → P false) ∧ (y2842 = false → altW (fun (P2839 : Bool → Prop) => ∃ o2806, a_told = some o2806 ∧ ∃ o2808, a_due = some o2808 ∧ (((decide ((o2806.length : Int) = (o2808.length : Int))) = true → ∃ o2810, a_due = some o2810 ∧ ((-(2 ^ 62) ≤ (o2810.length : Int) ∧ (o2810.length : Int) < 2 ^ 62) ∧ ((rng 0 (Int.toNat (o2810.length : Int))).length ≤ 100000 ∧ compW (fun (x2812 : Int) (R2813 : Option Bool → Prop) => (∃ o2823, a_told = some o2823 ∧ (∃ (x2825 : Str), atI o2823 x2812 = some x2825 ∧ ∃ o2827, a_due = some o2827 ∧ (∃ (x2829 : Str), atI o2827 x2812 = some x2829 ∧ w__law_same_S_S x2825 x2829 (fun (y2831 : Bool) => R2813 (some y2831)))))) (fun (y2835 : (List Bool)) => P2839 (List.all y2835 id)) (rng 0 (Int.toNat (o2810.length : Int))) []))) ∧ ((decide ((o2806.length : Int) = (o2808.length : Int))) = false → P2839 false))) (fun (y2841 : Bool) => P y2841))))) ∧ ((Option.isSome a_due && (true || false)) = false → altW (fun (P2845 : Bool → Prop) => (((Option.isSome a_due && false) = false → P2845 (Option.isSome a_told && false)) ∧ ((Option.isSome a_due && false) = true → P2845 true))) (fun (y2872 : Bool) => ((y2872 = false → w__law_same_OLS_OLS_p1 a_told a_due P) ∧ (y2872 = true → False)))))) ∧ ((Option.isSome a_due && false) = true → False))
abbrev W__law_same_OLS_OLS (g : (Option (List Str)) × (Option (List Str)) × Unit) (P : Bool → Prop) : Prop := w__law_same_OLS_OLS g.1 g.2.1 P
theorem walk__law_same_OLS_OLS {f : Addr} {fd : FuncData} (X : Tx K mg) (C__law_same_S_S : CalD P w K mg base 1 "_law_same" (spD K AnyW W__law_same_S_S) []) (F : Fun K "_law_same" "_law_same" (topS 59) f fd) (hm : mg "_law_same" = some (.ref f)) (bd : Binds K fd ["told", "due"] []) : CalD P w K mg base 2 "_law_same" (spD K AnyW W__law_same_OLS_OLS) [] :=
  cal_ok F hm bd sc__law_same rfl (by decide) fun cdv A outer s H E hr => by
    obtain ⟨t1, d1, s1⟩ := part__law_same_OLS_OLS_p1 X  hr
    exact ⟨_, (pss_cons (ps_if (pt_val (pe_callB call_isi (by rfl) X.b_isinstance rfl (pa_cons (pv 1) (pa_cons (pe_bltn (v := .ty "dict") (by rfl) X.b_dict rfl rfl) pa_nil)))) pss_never pss_nil) (pss_cons (ps_if (pt_val (pe_callB call_isiT (by rfl) X.b_isinstance rfl (pa_cons (pv 1) (pa_cons (pe_tup (pa_cons (pe_bltn (v := .ty "list") (by rfl) X.b_list rfl rfl) (pa_cons (pe_bltn (v := .ty "tuple") (by rfl) X.b_tuple rfl rfl) pa_nil))) pa_nil)))) (pss_cons (ps_if (PW.pt (pw_or (pt_not (pt_val (pe_callB call_isiT (by rfl) X.b_isinstance rfl (pa_cons (pv 0) (pa_cons (pe_tup (pa_cons (pe_bltn (v := .ty "list") (by rfl) X.b_list rfl rfl) (pa_cons (pe_bltn (v := .ty "tuple") (by rfl) X.b_tuple rfl rfl) pa_nil))) pa_nil))))) (pw_or1 (pt_cmpR op_ne (pe_callB call_isi (by rfl) X.b_isinstance rfl (pa_cons (pv 0) (pa_cons (pe_bltn (v := .ty "list") (by rfl) X.b_list rfl rfl) pa_nil))) (pe_callB call_isi (by rfl) X.b_isinstance rfl (pa_cons (pv 1) (pa_cons (pe_bltn (v := .ty "list") (by rfl) X.b_list rfl rfl) pa_nil))) (nomark _))))) (pss_cons (ps_ret pe_bl) pss_nil) pss_nil) (pss_cons (ps_ret (pe_and (pe_cmpR op_eq (pe_callB call_len_seq (by rfl) X.b_len rfl (pa_cons (pv 0) pa_nil)) (pe_callB call_len_seq (by rfl) X.b_len rfl (pa_cons (pv 1) pa_nil)) (nomark _)) (pe_one (pe_callB (cr_all rfl) (by rfl) X.b_all rfl (pa_cons (pe_lc rfl sc__law_same.nd (pi_range1 (by rfl) X.b_range (pa_cons (pe_callB call_len_seq (by rfl) X.b_len rfl (pa_cons (pv 1) pa_nil)) pa_nil)) (blkOk_by (N := ["told", "due", "key", "k"]) (sc := defScope (topS 59)) (own := [("k", 3)]) (by decide +kernel)) (fun _ _ _ _ _ => (pg_name (i := 3) sc__law_same.nd (by rfl) (by first | exact .inl rfl | exact .inr rfl))) (fun _ _ _ _ _ => pts_nil) (fun _ _ _ _ _ => (pe_cd C__law_same_S_S hr (by decide) (by rfl) (pa_cons (pe_ix ix_list (pv 0) (pv 3) (fun _ _ => rfl)) (pa_cons (pe_ix ix_list (pv 1) (pv 3) (fun _ _ => rfl)) pa_nil))))) pa_nil))))) pss_nil)) pss_nil) (pss_cons (ps_if (PW.pt (pw_or (pt_val (pe_callB call_isi (by rfl) X.b_isinstance rfl (pa_cons (pv 1) (pa_cons (pe_bltn (v := .ty "bool") (by rfl) X.b_bool rfl rfl) pa_nil)))) (pw_or1 (pt_val (pe_callB call_isi (by rfl) X.b_isinstance rfl (pa_cons (pv 0) (pa_cons (pe_bltn (v := .ty "bool") (by rfl) X.b_bool rfl rfl) pa_nil))))))) pss_never pss_nil) d1))), fun W W2 hW g P h => by
      have e1 : W = W2 := hW
      subst e1
      unfold W__law_same_OLS_OLS w__law_same_OLS_OLS at h
      exact sd_seq (sd_if (et_B (ev_isiO (α := (List Str)) (b := false) (ev_var rfl (⟨fun e2803 => (h.2 e2803).elim, fun e2802 => sd_next (sd_seq (sd_if (et_B (ev_isiOT (α := (List Str)) (b1 := true) (b2 := false) (ev_var rfl (⟨fun e2873 => sd_seq (sd_if (et_alt ((h.1 e2802).1 e2873) (by exact fun h2805 => et_or (et_not (et_B (ev_isiOT (α := (List Str)) (b1 := true) (b2 := false) (ev_var rfl (⟨fun e2889 => et_test (ev_neB (fun h => h) (ev_isiO (α := (List Str)) (b := true) (ev_var rfl (ev_isiO (α := (List Str)) (b := true) (ev_var rfl ((h2805.1 e2889))))))), fun e2890 => h2805.2 e2890⟩))))) (Wle.refl _)) (fun y2887 h2888 => ⟨fun e2843 => sd_seq (sd_retW rfl (ev_bl ((h2888.1 e2843))) (Wle.refl _)), fun e2844 => sd_next (sd_seq (sd_retW rfl (ev_alt (h2888.2 e2844) (by exact fun h2840 => ev_andV (ev_eqI (fun h => h) (ev_lenC (fun h => h) (ec_ev (ev_unO (ev_var rfl (Exists.elim h2840 fun o2806 h2807 => ⟨o2806, h2807.1, ev_lenC (fun h => h) (ec_ev (ev_unO (ev_var rfl (Exists.elim h2807.2 fun o2808 h2809 => ⟨o2808, h2809.1, ⟨fun e2893 => ev_all (ec_ev (ev_fresh (EvF.imp (ef_lcW (evio (evi_rng1 (ea_cons (ev_lenC (fun h => h) (ec_ev (ev_unO (ev_var rfl (Exists.elim (h2809.2.1 e2893) fun o2810 h2811 => ⟨o2810, h2811.1, ea_nil ⟨h2811.2.1, h2811.2.2⟩⟩)))))))) (by exact fun x2812 R2813 h2814 => bd_yes (tgc_name (Ev.imp (ev_call rfl (ea_cons (ev_ixL (fun h => h) (ec_ev (ev_unO (ev_var rfl (Exists.elim h2814 fun o2823 h2824 => ⟨o2823, h2824.1, ev_var rfl (Exists.elim h2824.2 fun x2825 h2826 => ⟨x2825, h2826.1, ea_cons (ev_ixL (fun h => h) (ec_ev (ev_unO (ev_var rfl (Exists.elim h2826.2 fun o2827 h2828 => ⟨o2827, h2828.1, ev_var rfl (Exists.elim h2828.2 fun x2829 h2830 => ⟨x2829, h2830.1, ea_nil h2830.2⟩)⟩)))))⟩)⟩))))))) (fun y2831 h2832 => h2832))) (Wle.refl _))) (fun y2835 h2838 => h2838)))), fun e2894 => h2809.2.2 e2894⟩⟩))))⟩)))))) (Wle.refl _)) (fun y2891 h2892 => h2892)) (Wle.refl _)))⟩))), fun e2874 => sd_next (sd_seq (sd_if (et_alt ((h.1 e2802).2 e2874) (by exact fun h2846 => et_or (et_B (ev_isiO (α := (List Str)) (b := false) (ev_var rfl (⟨fun e2897 => et_B (ev_isiO (α := (List Str)) (b := false) (ev_var rfl ((h2846.1 e2897)))), fun e2898 => h2846.2 e2898⟩)))) (Wle.refl _)) (fun y2895 h2896 => ⟨fun e2848 => (h2896.2 e2848).elim, fun e2847 => sd_next (sd_le (Wle.refl _) (s1 W g.1 g.2.1 _ (h2896.1 e2847)))⟩))))⟩))))))⟩)))))⟩

theorem sc__law_shares_right : FnScope ["tape", "books", "moves", "prices", "shares", "names", "turn", "other", "step", "one", "two", "amount", "kept", "due", "told"] ["tape", "books", "moves", "prices", "shares"] (defScope (topS 72)) := ⟨rfl, rfl, rfl, by decide +kernel, rfl, by decide +kernel, by decide +kernel⟩
def w__law_shares_right (a_books : (Dc Str ((Dc Str Int) × (List (T4 Str Str Int Int))))) (a_moves : (List (Dc Str Int))) (a_prices : (Dc Str Int)) (a_shares : (Dc Str Int)) (P : Bool → Prop) : Prop := (w_objecting a_books a_moves a_prices a_shares (fun (y3063 : (Option (List Str))) => (((Option.isSome y3063) = true → P false) ∧ ((Option.isSome y3063) = false → (a_books.l.length < 64 ∧ ∀ (z3065 : List Str), List.Perm z3065 (List.map Prod.fst a_books.l) → sortedS z3065 = true → ∀ (z_names_3068 : (List Str)), z_names_3068 = z3065 → ((-(2 ^ 62) ≤ (5 : Int) ∧ (5 : Int) < 2 ^ 62) ∧ forW (fun (x3178 : Int) (s3175 : Unit) (n3179 b3180 : Unit → Prop) => ∀ (z_other_3181 : (List (Str × Int))), z_other_3181 = a_shares.l → (w__law_pick (2 : Int) (fun (y3182 : Int) => ((-(2 ^ 62) ≤ ((1 : Int) + y3182) ∧ ((1 : Int) + y3182) < 2 ^ 62) ∧ forW (fun (x3211 : Int) (s3208 : (List (Str × Int))) (n3212 b3213 : (List (Str × Int)) → Prop) => (w__law_pick (z_names_3068.length : Int) (fun (y3216 : Int) => (∃ (x3214 : Str), atI z_names_3068 y3216 = some x3214 ∧ ∀ (z_one_3224 : Str), z_one_3224 = x3214 → (w__law_pick (z_names_3068.length : Int) (fun (y3220 : Int) => (∃ (x3218 : Str), atI z_names_3068 y3220 = some x3218 ∧ ∀ (z_two_3225 : Str), z_two_3225 = x3218 → (w__law_pick (12 : Int) (fun (y3222 : Int) => ∀ (z_amount_3226 : Int), z_amount_3226 = ((1 : Int) + y3222) → (∃ (x3230 : Int), look s3208 z_one_3224 = some x3230 ∧ s3208.length < 100000 ∧ ∀ (z_other_3232 : List (Str × Int)), z_other_3232 = put s3208 z_one_3224 (x3230 - z_amount_3226) → (∃ (x3234 : Int), look z_other_3232 z_two_3225 = some x3234 ∧ z_other_3232.length < 100000 ∧ ∀ (z_other_3236 : List (Str × Int)), z_other_3236 = put z_other_3232 z_two_3225 (x3234 + z_amount_3226) → n3212 z_other_3236))))))))))) (fun (s3238 : (List (Str × Int))) => (showOk (Dc.mk s3238) ∧ ∀ (z_kept_3241 : Str), z_kept_3241 = (PyS.shown (Dc.mk s3238)) → (w__law_objecting a_books a_moves a_prices (Dc.mk s3238) (fun (y3239 : (Option (List Str))) => ∀ (z_due_3242 : (Option (List Str))), z_due_3242 = y3239 → (w_objecting a_books a_moves a_prices (Dc.mk s3238) (fun (y3243 : (Option (List Str))) => altW (fun (P3247 : Bool → Prop) => (w__law_same_OLS_OLS y3243 z_due_3242 (fun (y3245 : Bool) => (((!y3245) = false → (showOk (Dc.mk s3238) ∧ P3247 (!decide ((PyS.shown (Dc.mk s3238)) = z_kept_3241)))) ∧ ((!y3245) = true → P3247 true))))) (fun (y3279 : Bool) => ((y3279 = true → P false) ∧ (y3279 = false → joinW (fun (k3262 : (Option (List Str)) → Prop) => (((Option.isSome y3243) = true → (∃ x3265, y3243 = some x3265 ∧ (x3265.length < 100000 ∧ ∀ (z_told_3263 : (Option (List Str))), z_told_3263 = some (x3265 ++ [("x" : Str)]) → ((w_objecting a_books a_moves a_prices (Dc.mk s3238) (fun (y3269 : (Option (List Str))) => w__law_same_OLS_OLS y3269 z_due_3242 (fun (y3271 : Bool) => (((!y3271) = true → P false) ∧ ((!y3271) = false → k3262 z_told_3263))))))))) ∧ ((Option.isSome y3243) = false → k3262 y3243))) (fun (s3261 : (Option (List Str))) => n3179 ())))))))))) (rng 0 (Int.toNat ((1 : Int) + y3182))) z_other_3181)))) (fun (s3287 : Unit) => P true) (rng 0 (Int.toNat (5 : Int))) ()))))))
abbrev W__law_shares_right (g : Stk × (Dc Str ((Dc Str Int) × (List (T4 Str Str Int Int)))) × (List (Dc Str Int)) × (Dc Str Int) × (Dc Str Int) × Unit) (P : Bool → Prop) : Prop := w__law_shares_right g.2.1 g.2.2.1 g.2.2.2.1 g.2.2.2.2.1 P
theorem walk__law_shares_right {f : Addr} {fd : FuncData} (X : Tx K mg) (C_objecting_k3210 : CalK P w K mg base 10 "objecting" (spO K AnyW W_objecting) ["shares", "prices", "moves", "books"] @kwp_3210) (C__law_pick : CalD P w K mg base 1 "_law_pick" (spD K TpW W__law_pick) []) (C__law_objecting : CalD P w K mg base 5 "_law_objecting" (spD K AnyW W__law_objecting) []) (C_objecting : CalD P w K mg base 10 "objecting" (spO K AnyW W_objecting) []) (C__law_same_OLS_OLS : CalD P w K mg base 2 "_law_same" (spD K AnyW W__law_same_OLS_OLS) []) (F : Fun K "_law_shares_right" "_law_shares_right" (topS 72) f fd) (hm : mg "_law_shares_right" = some (.ref f)) (bd : Binds K fd ["tape", "books", "moves", "prices", "shares"] []) : CalG P w K mg base 11 "_law_shares_right" (spD K TpW W__law_shares_right) :=
  cal_okGd F hm bd sc__law_shares_right rfl (by decide) fun cdv A outer s H E hgd hr => by
    exact ⟨_, (pss_cons (ps_if (pt_cmpR op_notN (pe_cdK C_objecting_k3210 hr (by decide) (by rfl) (pk_cons (pv 4) (pk_cons (pv 3) (pk_cons (pv 2) (pk_cons (pv 1) pk_nil))))) pe_non (nomark _)) (pss_cons (ps_ret pe_bl) pss_nil) pss_nil) (pss_cons (ps_set (i := 5) sc__law_shares_right.nd (by rfl) (by first | exact .inl rfl | exact .inr rfl) (pe_callB (call_sortedD rfl) (by rfl) X.b_sorted rfl (pa_cons (pv 1) pa_nil))) (pss_cons (ps_for PassesOwn.never rfl (pi_range1 (by rfl) X.b_range (pa_cons pe_int pa_nil)) (pg_name (i := 6) sc__law_shares_right.nd (by rfl) (by first | exact .inl rfl | exact .inr rfl)) (pss_cons (ps_set (i := 7) sc__law_shares_right.nd (by rfl) (by first | exact .inl rfl | exact .inr rfl) (pe_callTy call_dictD (by rfl) X.b_dict rfl (pa_cons (pv 4) pa_nil))) (pss_cons (ps_for PassesOwn.never rfl (pi_range1 (by rfl) X.b_range (pa_cons (pe_op op_add pe_int (pe_cd C__law_pick hr (by decide) (by rfl) (pa_cons (pv 0) (pa_cons pe_int pa_nil)))) pa_nil)) (pg_name (i := 8) sc__law_shares_right.nd (by rfl) (by first | exact .inl rfl | exact .inr rfl)) (pss_cons (ps_par3 (i := 9) (j := 10) (l := 11) rfl sc__law_shares_right.nd (by rfl) (by rfl) (by rfl) (by decide) (by decide) (by decide) (by rfl) (by rfl) (by rfl) (pa_cons (pe_ix ix_list (pv 5) (pe_cd C__law_pick hr (by decide) (by rfl) (pa_cons (pv 0) (pa_cons (pe_callB call_len_seq (by rfl) X.b_len rfl (pa_cons (pv 5) pa_nil)) pa_nil))) (fun _ _ => rfl)) (pa_cons (pe_ix ix_list (pv 5) (pe_cd C__law_pick hr (by decide) (by rfl) (pa_cons (pv 0) (pa_cons (pe_callB call_len_seq (by rfl) X.b_len rfl (pa_cons (pv 5) pa_nil)) pa_nil))) (fun _ _ => rfl)) (pa_cons (pe_op op_add pe_int (pe_cd C__law_pick hr (by decide) (by rfl) (pa_cons (pv 0) (pa_cons pe_int pa_nil)))) pa_nil))) (by rfl)) (pss_cons (ps_dput (hu_of hr) (pv 7) (pv 9) (pe_op op_sub (pe_dget (hu_of hr) (pv 7) (pv 9) (fun _ _ => rfl)) (pv 11)) (by rfl)) (pss_cons (ps_dput (hu_of hr) (pv 7) (pv 10) (pe_op op_add (pe_dget (hu_of hr) (pv 7) (pv 10) (fun _ _ => rfl)) (pv 11)) (by rfl)) pss_nil)))) (pss_cons (ps_par (i := 12) (j := 13) rfl sc__law_shares_right.nd (by rfl) (by rfl) (by decide) (by rfl) (by rfl) (pa_cons (pe_callB (cr_repr hgd hr) (by rfl) X.b_repr rfl (pa_cons (pv 7) pa_nil)) (pa_cons (pe_cd C__law_objecting hr (by decide) (by rfl) (pa_cons (pv 1) (pa_cons (pv 2) (pa_cons (pv 3) (pa_cons (pv 7) pa_nil))))) pa_nil)) (by rfl)) (pss_cons (ps_set (i := 14) sc__law_shares_right.nd (by rfl) (by first | exact .inl rfl | exact .inr rfl) (pe_cd C_objecting hr (by decide) (by rfl) (pa_cons (pv 1) (pa_cons (pv 2) (pa_cons (pv 3) (pa_cons (pv 7) pa_nil)))))) (pss_cons (ps_if (PW.pt (pw_or (pt_not (pt_val (pe_cd C__law_same_OLS_OLS hr (by decide) (by rfl) (pa_cons (pv 14) (pa_cons (pv 13) pa_nil))))) (pw_or1 (pt_cmpR op_ne (pe_callB (cr_repr hgd hr) (by rfl) X.b_repr rfl (pa_cons (pv 7) pa_nil)) (pv 12) (nomark _))))) (pss_cons (ps_ret pe_bl) pss_nil) pss_nil) (pss_cons (ps_if (pt_cmpR op_notN (pv 14) pe_non (nomark _)) (pss_cons (ps_expr (pe_bm PySem.F.plainAttrs_list PySem.F.slot_list_append PySem.F.type_list_append mt_append (pv 14) (pa_cons pe_str pa_nil))) (pss_cons (ps_if (pt_not (pt_val (pe_cd C__law_same_OLS_OLS hr (by decide) (by rfl) (pa_cons (pe_cd C_objecting hr (by decide) (by rfl) (pa_cons (pv 1) (pa_cons (pv 2) (pa_cons (pv 3) (pa_cons (pv 7) pa_nil))))) (pa_cons (pv 13) pa_nil))))) (pss_cons (ps_ret pe_bl) pss_nil) pss_nil) pss_nil)) pss_nil) pss_nil))))))) (pss_cons (ps_ret pe_bl) pss_nil)))), fun W W2 hW g P h => by
      obtain ⟨r, e1, e2⟩ := hW
      subst e1 e2
      unfold W__law_shares_right w__law_shares_right at h
      exact sd_seq (sd_if (et_test (ev_notN (fun h => h) (Ev.imp (spO_evK (F := W_objecting) (fun g : (Dc Str Int) × (Dc Str Int) × (List (Dc Str Int)) × (Dc Str ((Dc Str Int) × (List (T4 Str Str Int Int)))) × Unit => (g.2.2.2.1, g.2.2.1, g.2.1, g.1, ())) (fun W K S vs g hh => by obtain ⟨v0, r0, rfl, h0, v1, r1, rfl, h1, v2, r2, rfl, h2, v3, r3, rfl, h3, e⟩ := hh; have e2 : r3 = [] := e; subst e2; exact ⟨rfl, v3, _, rfl, h3, v2, _, rfl, h2, v1, _, rfl, h1, v0, _, rfl, h0, rfl⟩) rfl (ea_cons (ev_var rfl (ea_cons (ev_var rfl (ea_cons (ev_var rfl (ea_cons (ev_var rfl (ea_nil h)))))))))) (fun y3063 h3064 => ⟨fun e3291 => sd_seq (sd_retW rfl (ev_bl ((h3064.1 e3291))) (Wle.refl _)), fun e3292 => sd_next (sd_seq (sd_asgZ (i := 5) (ev_fresh (ef_sortedD (ecd_ev (ev_var rfl (⟨(h3064.2 e3292).1, fun z3065 h3066 h3067 => fun z_names_3068 e3290 => sd_wipe [6, 7, 12, 13, 14] (sd_seq (sd_forW (fun (s3175 : Unit) => [.raw (.ref r), sD (α := (Dc Str ((Dc Str Int) × (List (T4 Str Str Int Int))))) g.2.1, sD (α := (List (Dc Str Int))) g.2.2.1, sD (α := (Dc Str Int)) g.2.2.2.1, sD (α := (Dc Str Int)) g.2.2.2.2.1, sD (α := (List Str)) z_names_3068, .non, .non, .non, .non, .non, .non, .non, .non, .non]) (evi_rng1 (ea_cons (ev_int (ea_nil ⟨(((h3064.2 e3292).2 z3065 h3066 h3067) z_names_3068 e3290).1, ⟨(), rfl, (((h3064.2 e3292).2 z3065 h3066 h3067) z_names_3068 e3290).2⟩⟩)))) (by exact fun x3178 s3175 n3179 h3288 => tg_name (sd_seq (sd_asgMZ (i := 7) (eg_dictD (ecd_ev (ev_var rfl (fun z_other_3181 e3286 => sd_wipe [8, 9, 10, 11] (sd_seq (sd_forW (fun (s3208 : (List (Str × Int))) => [.raw (.ref r), sD (α := (Dc Str ((Dc Str Int) × (List (T4 Str Str Int Int))))) g.2.1, sD (α := (List (Dc Str Int))) g.2.2.1, sD (α := (Dc Str Int)) g.2.2.2.1, sD (α := (Dc Str Int)) g.2.2.2.2.1, sD (α := (List Str)) z_names_3068, sD (α := Int) x3178, sM (κ := Str) (α := Int) s3208, .non, .non, .non, .non, .non, .non, .non]) (evi_rng1 (ea_cons (ev_I0 (f := fun i j : Int => i + j) (fun h => h) (ev_int (Ev.imp (ev_call (tpw r) (ea_tok rfl (ea_cons (ev_int (ea_nil (h3288 z_other_3181 e3286)))))) (fun y3182 h3183 => ea_nil ⟨h3183.1, ⟨z_other_3181, rfl, h3183.2⟩⟩)))))) (by exact fun x3211 s3208 n3212 h3284 => tg_name (sd_seq (sd_par3 (i := 9) (j := 10) (l := 11) (ea_consZ (ev_ixL (fun h => h) (ec_ev (ev_var rfl (Ev.imp (ev_call (tpw r) (ea_tok rfl (ea_cons (ev_lenC (fun h => h) (ec_ev (ev_var rfl (ea_nil h3284))))))) (fun y3216 h3217 => Exists.elim h3217 fun x3214 h3215 => ⟨x3214, h3215.1, fun z_one_3224 e3227 => ea_consZ (ev_ixL (fun h => h) (ec_ev (ev_var rfl (Ev.imp (ev_call (tpw r) (ea_tok rfl (ea_cons (ev_lenC (fun h => h) (ec_ev (ev_var rfl (ea_nil (h3215.2 z_one_3224 e3227)))))))) (fun y3220 h3221 => Exists.elim h3221 fun x3218 h3219 => ⟨x3218, h3219.1, fun z_two_3225 e3228 => ea_consZ (ev_I0 (f := fun i j : Int => i + j) (fun h => h) (ev_int (Ev.imp (ev_call (tpw r) (ea_tok rfl (ea_cons (ev_int (ea_nil (h3219.2 z_two_3225 e3228)))))) (fun y3222 h3223 => fun z_amount_3226 e3229 => ea_nil (sd_seq (sd_putZ (i := 7) rfl (ev_I0 (f := fun i j : Int => i - j) (fun h => h) (ev_dget (ecd_own rfl (ev_var rfl (Exists.elim (h3223 z_amount_3226 e3229) fun x3230 h3231 => ⟨x3230, h3231.1, ev_var rfl (ev_var rfl (⟨h3231.2.1, fun z_other_3232 e3233 => sd_seq (sd_putZ (i := 7) rfl (ev_I0 (f := fun i j : Int => i + j) (fun h => h) (ev_dget (ecd_own rfl (ev_var rfl (Exists.elim (h3231.2.2 z_other_3232 e3233) fun x3234 h3235 => ⟨x3234, h3235.1, ev_var rfl (ev_var rfl (⟨h3235.2.1, fun z_other_3236 e3237 => sd_nextW [8, 9, 10, 11] ⟨z_other_3236, rfl, (Wle.refl _), (h3235.2.2 z_other_3236 e3237)⟩⟩))⟩))))))⟩))⟩)))))))))))⟩)))))⟩))))))))) (by exact fun s3238 h3285 => sd_fixM (i := 7) rfl (sd_seq (sd_par (i := 12) (j := 13) (ea_consZ (ev_repr (α := (Dc Str Int)) (ev_var rfl (⟨h3285.1, fun z_kept_3241 e3282 => ea_consZ (Ev.imp (ev_call rfl (ea_cons (ev_var rfl (ea_cons (ev_var rfl (ea_cons (ev_var rfl (ea_cons (ev_var rfl (ea_nil (h3285.2 z_kept_3241 e3282))))))))))) (fun y3239 h3240 => fun z_due_3242 e3283 => ea_nil (sd_seq (sd_asgO (i := 14) rfl (ea_cons (ev_var rfl (ea_cons (ev_var rfl (ea_cons (ev_var rfl (ea_cons (ev_var rfl (ea_nil (h3240 z_due_3242 e3283)))))))))) (fun y3243 h3244 => sd_seq (sd_ifLend (lt_O (i := 14) rfl (lt_base (et_alt h3244 (by exact fun h3248 => et_or (et_not (et_B (Ev.imp (ev_call rfl (ea_cons (ev_var rfl (ea_cons (ev_var rfl (ea_nil h3248)))))) (fun y3245 h3246 => ⟨fun e3295 => et_test (ev_neS (fun h => h) (ev_repr (α := (Dc Str Int)) (ev_var rfl (⟨(h3246.1 e3295).1, ev_var rfl ((h3246.1 e3295).2)⟩)))), fun e3296 => h3246.2 e3296⟩)))) (Wle.refl _)) (fun y3293 h3294 => ⟨fun e3280 => sd_seq (sd_retW rfl (ev_bl ((h3294.1 e3280))) (Wle.refl _)), fun e3281 => sd_next (sd_joinW (Wtp r) (fun (s3261 : (Option (List Str))) => [.raw (.ref r), sD (α := (Dc Str ((Dc Str Int) × (List (T4 Str Str Int Int))))) g.2.1, sD (α := (List (Dc Str Int))) g.2.2.1, sD (α := (Dc Str Int)) g.2.2.2.1, sD (α := (Dc Str Int)) g.2.2.2.2.1, sD (α := (List Str)) z_names_3068, sD (α := Int) x3178, sD (α := (Dc Str Int)) (Dc.mk s3238), .non, .non, .non, .non, sD (α := Str) z_kept_3241, sD (α := (Option (List Str))) z_due_3242, sO (α := Str) s3261]) (h3294.2 e3281) (by exact fun h3277 => sd_if (et_test (et_isO (i := 14) rfl (fun h => h) (⟨fun e3275 => Exists.elim (h3277.1 e3275) fun x3265 h3266 => sd_seq (sd_appendO (i := 14) rfl h3266.1 (ev_str (⟨h3266.2.1, fun z_told_3263 e3264 => sd_seq (sd_if (et_not (et_B (Ev.imp (ev_call rfl (ea_cons (Ev.imp (spO_ev rfl (ea_cons (ev_var rfl (ea_cons (ev_var rfl (ea_cons (ev_var rfl (ea_cons (ev_var rfl (ea_nil (h3266.2.2 z_told_3263 e3264))))))))))) (fun y3269 h3270 => ea_cons (ev_var rfl (ea_nil h3270)))))) (fun y3271 h3272 => ⟨fun e3273 => sd_seq (sd_retW rfl (ev_bl ((h3272.1 e3273))) (Wle.refl _)), fun e3274 => sd_next (sd_nextW [] ⟨z_told_3263, rfl, (Wle.refl _), (h3272.2 e3274)⟩)⟩)))))⟩))), fun e3276 => sd_nextW [] ⟨y3243, rfl, (Wle.refl _), (h3277.2 e3276)⟩⟩)))) (by exact fun s3261 h3278 => sd_nextW [6, 7, 12, 13, 14] ⟨(), rfl, (Wle.refl _), h3278⟩))⟩))))))))))⟩))))))) (fun _ _ l z => sd_le l z)))))))))) (by exact fun s3287 h3289 => sd_seq (sd_retW rfl (ev_bl (h3289)) (Wle.refl _))) (fun _ _ l z => sd_le l z)))⟩)))))))⟩)))))⟩

theorem sc_law : FnScope ["script", "k", "tape", "pacts", "moves", "prices", "books", "names", "kept", "every", "turn", "group", "due", "losses", "worst", "told", "needs", "common", "at", "rest", "name"] ["script"] (defScope (topS 73)) := ⟨rfl, rfl, rfl, by decide +kernel, rfl, by decide +kernel, by decide +kernel⟩
theorem sc_is_list : FnScope ["value"] ["value"] (defScope (topS 32)) := ⟨rfl, rfl, rfl, by decide +kernel, rfl, by decide +kernel, by decide +kernel⟩
def w_is_list (a_value : (List Str)) (P : Bool → Prop) : Prop := P (true || false)
abbrev W_is_list (g : (List Str) × Unit) (P : Bool → Prop) : Prop := w_is_list g.1 P
theorem walk_is_list {f : Addr} {fd : FuncData} (X : Tx K mg)  (F : Fun K "is_list" "is_list" (topS 32) f fd) (hm : mg "is_list" = some (.ref f)) (bd : Binds K fd ["value"] []) : CalD P w K mg base 1 "is_list" (spD K AnyW W_is_list) [] :=
  cal_ok F hm bd sc_is_list rfl (by decide) fun cdv A outer s H E hr => by
    exact ⟨_, (pss_cons (ps_ret (pe_callB call_isiT (by rfl) X.b_isinstance rfl (pa_cons (pv 0) (pa_cons (pe_tup (pa_cons (pe_bltn (v := .ty "list") (by rfl) X.b_list rfl rfl) (pa_cons (pe_bltn (v := .ty "tuple") (by rfl) X.b_tuple rfl rfl) pa_nil))) pa_nil)))) pss_nil), fun W W2 hW g P h => by
      have e1 : W = W2 := hW
      subst e1
      unfold W_is_list w_is_list at h
      exact sd_seq (sd_retW rfl (ev_isiT (α := (List Str)) (b1 := true) (b2 := false) (ev_var rfl (h))) (Wle.refl _))⟩

theorem sc_are_owners : FnScope ["value", "item", "at"] ["value"] (defScope (topS 33)) := ⟨rfl, rfl, rfl, by decide +kernel, rfl, by decide +kernel, by decide +kernel⟩
def w_are_owners (a_value : (List Str)) (P : Bool → Prop) : Prop := altW (fun (P3379 : Bool → Prop) => (w_is_list a_value (fun (y3366 : Bool) => (((!y3366) = false → (a_value.length ≤ 100000 ∧ compW (fun (x3368 : Str) (R3369 : Option Bool → Prop) => (w_is_member x3368 (fun (y3371 : Bool) => R3369 (some y3371)))) (fun (y3375 : (List Bool)) => P3379 (!(List.all y3375 id))) a_value [])) ∧ ((!y3366) = true → P3379 true))))) (fun (y3390 : Bool) => ((y3390 = true → P false) ∧ (y3390 = false → ((enumL a_value).length ≤ 100000 ∧ compW (fun (x3381 : (Int × Str)) (R3382 : Option Bool → Prop) => R3382 (some (decide (x3381.2 ∈ (cutL a_value none (some x3381.1)))))) (fun (y3386 : (List Bool)) => P (!(List.any y3386 id))) (enumL a_value) []))))
abbrev W_are_owners (g : (List Str) × Unit) (P : Bool → Prop) : Prop := w_are_owners g.1 P
theorem walk_are_owners {f : Addr} {fd : FuncData} (X : Tx K mg) (C_is_list : CalD P w K mg base 1 "is_list" (spD K AnyW W_is_list) []) (C_is_member : CalD P w K mg base 2 "is_member" (spD K AnyW W_is_member) []) (F : Fun K "are_owners" "are_owners" (topS 33) f fd) (hm : mg "are_owners" = some (.ref f)) (bd : Binds K fd ["value"] []) : CalD P w K mg base 3 "are_owners" (spD K AnyW W_are_owners) [] :=
  cal_ok F hm bd sc_are_owners rfl (by decide) fun cdv A outer s H E hr => by
    exact ⟨_, (pss_cons (ps_if (PW.pt (pw_or (pt_not (pt_val (pe_cd C_is_list hr (by decide) (by rfl) (pa_cons (pv 0) pa_nil)))) (pw_or1 (pt_not (pt_val (pe_callB (cr_all rfl) (by rfl) X.b_all rfl (pa_cons (pe_lc rfl sc_are_owners.nd (pi_list (pv 0)) (blkOk_by (N := ["value", "item", "at"]) (sc := defScope (topS 33)) (own := [("item", 1)]) (by decide +kernel)) (fun _ _ _ _ _ => (pg_name (i := 1) sc_are_owners.nd (by rfl) (by first | exact .inl rfl | exact .inr rfl))) (fun _ _ _ _ _ => pts_nil) (fun _ _ _ _ _ => (pe_cd C_is_member hr (by decide) (by rfl) (pa_cons (pv 1) pa_nil)))) pa_nil))))))) (pss_cons (ps_ret pe_bl) pss_nil) pss_nil) (pss_cons (ps_ret (pe_not (pe_callB (cr_any rfl) (by rfl) X.b_any rfl (pa_cons (pe_lc rfl sc_are_owners.nd (g := gTup K 2 (gCons (gName 2) (gCons (gName 1) gNil))) (pi_enum (by rfl) X.b_enumerate (pa_cons (pv 0) pa_nil)) (blkOk_by (N := ["value", "item", "at"]) (sc := defScope (topS 33)) (own := [("at", 2), ("item", 1)]) (by decide +kernel)) (fun _ _ _ _ _ => (pg_tup rfl (pgs_cons (pg_name (i := 2) sc_are_owners.nd (by rfl) (by first | exact .inl rfl | exact .inr rfl)) (pgs_cons (pg_name (i := 1) sc_are_owners.nd (by rfl) (by first | exact .inl rfl | exact .inr rfl)) pgs_nil)))) (fun _ _ _ _ _ => pts_nil) (fun _ _ _ _ _ => (pe_cmpR op_in_seq (pv 1) (pe_slice sl_list (pv 0) po_none (po_some (pv 2))) (by rfl)))) pa_nil)))) pss_nil)), fun W W2 hW g P h => by
      have e1 : W = W2 := hW
      subst e1
      unfold W_are_owners w_are_owners at h
      exact sd_seq (sd_if (et_alt h (by exact fun h3380 => et_or (et_not (et_B (Ev.imp (ev_call rfl (ea_cons (ev_var rfl (ea_nil h3380)))) (fun y3366 h3367 => ⟨fun e3395 => et_not (et_B (ev_all (ec_ev (ev_fresh (EvF.imp (ef_lcW (evio (evi_list (ev_var rfl ((h3367.1 e3395))))) (by exact fun x3368 R3369 h3370 => bd_yes (tgc_name (Ev.imp (ev_call rfl (ea_cons (ev_var rfl (ea_nil h3370)))) (fun y3371 h3372 => h3372))) (Wle.refl _))) (fun y3375 h3378 => h3378)))))), fun e3396 => h3367.2 e3396⟩)))) (Wle.refl _)) (fun y3393 h3394 => ⟨fun e3391 => sd_seq (sd_retW rfl (ev_bl ((h3394.1 e3391))) (Wle.refl _)), fun e3392 => sd_next (sd_seq (sd_retW rfl (ev_notV (ev_any (ec_ev (ev_fresh (EvF.imp (ef_lcW (evio (evi_enum (ea_cons (ev_var rfl (ea_nil ((h3394.2 e3392))))))) (by exact fun x3381 R3382 h3383 => bd_yes (tgc_two (ev_inLS (n := false) (fun h => h) (ev_var rfl (ec_ev (ev_fresh (ef_sl (fun h => h) (ec_ev (ev_var rfl (eo_none (eo_some (ev_var rfl (h3383)))))))))))) (Wle.refl _))) (fun y3386 h3389 => h3389)))))) (Wle.refl _)))⟩)))⟩

theorem sc_group_need : FnScope ["books", "members", "moves", "prices", "member"] ["books", "members", "moves", "prices"] (defScope (topS 47)) := ⟨rfl, rfl, rfl, by decide +kernel, rfl, by decide +kernel, by decide +kernel⟩
def w_group_need (a_books : (Dc Str ((Dc Str Int) × (List (T4 Str Str Int Int))))) (a_members : (List Str)) (a_moves : (List (Dc Str Int))) (a_prices : (Dc Str Int)) (P : Int → Prop) : Prop := (w_are_books a_books (fun (y3423 : Bool) => (((!y3423) = true → False) ∧ ((!y3423) = false → altW (fun (P3436 : Bool → Prop) => (w_are_owners a_members (fun (y3425 : Bool) => (((!y3425) = false → (a_members.length ≤ 100000 ∧ compW (fun (x3427 : Str) (R3428 : Option Bool → Prop) => R3428 (some (Option.isSome (look a_books.l x3427)))) (fun (y3432 : (List Bool)) => P3436 (!(List.all y3432 id))) a_members [])) ∧ ((!y3425) = true → P3436 true))))) (fun (y3442 : Bool) => ((y3442 = true → False) ∧ (y3442 = false → (w_check_world a_books a_moves a_prices (fun (y3438 : Unit) => (w_worst_together a_books a_members a_moves a_prices (fun (y3440 : (Int × Int)) => P y3440.1)))))))))))
abbrev W_group_need (g : (Dc Str ((Dc Str Int) × (List (T4 Str Str Int Int)))) × (List Str) × (List (Dc Str Int)) × (Dc Str Int) × Unit) (P : Int → Prop) : Prop := w_group_need g.1 g.2.1 g.2.2.1 g.2.2.2.1 P
theorem ok_group_need {f : Addr} {fd : FuncData} (X : Tx K mg) (C_are_books : CalD P w K mg base 5 "are_books" (spD K AnyW W_are_books) []) (C_are_owners : CalD P w K mg base 3 "are_owners" (spD K AnyW W_are_owners) []) (C_check_world : CalD P w K mg base 6 "check_world" (spD K AnyW W_check_world) []) (C_worst_together : CalD P w K mg base 4 "worst_together" (spD K AnyW W_worst_together) []) (F : Fun K "group_need" "group_need" (topS 47) f fd) : FnOk P w K mg base CX0 7 f fd ["books", "members", "moves", "prices"] (spD K AnyW W_group_need) :=
  fn_ok F sc_group_need rfl (by decide) fun cdv A outer s H E hr => by
    exact ⟨_, (pss_cons (ps_if (pt_not (pt_val (pe_cd C_are_books hr (by decide) (by rfl) (pa_cons (pv 0) pa_nil)))) (pss_cons ps_never pss_nil) pss_nil) (pss_cons (ps_if (PW.pt (pw_or (pt_not (pt_val (pe_cd C_are_owners hr (by decide) (by rfl) (pa_cons (pv 1) pa_nil)))) (pw_or1 (pt_not (pt_val (pe_callB (cr_all rfl) (by rfl) X.b_all rfl (pa_cons (pe_lc rfl sc_group_need.nd (pi_list (pv 1)) (blkOk_by (N := ["books", "members", "moves", "prices", "member"]) (sc := defScope (topS 47)) (own := [("member", 4)]) (by decide +kernel)) (fun _ _ _ _ _ => (pg_name (i := 4) sc_group_need.nd (by rfl) (by first | exact .inl rfl | exact .inr rfl))) (fun _ _ _ _ _ => pts_nil) (fun _ _ _ _ _ => (pe_cmp (pc_din (hu_of hr) (pv 4) (pv 0))))) pa_nil))))))) (pss_cons ps_never pss_nil) pss_nil) (pss_cons (ps_expr (pe_cd C_check_world hr (by decide) (by rfl) (pa_cons (pv 0) (pa_cons (pv 2) (pa_cons (pv 3) pa_nil))))) (pss_cons (ps_ret (pe_ix ix_tup (pe_cd C_worst_together hr (by decide) (by rfl) (pa_cons (pv 0) (pa_cons (pv 1) (pa_cons (pv 2) (pa_cons (pv 3) pa_nil))))) pe_int (fun _ _ => rfl))) pss_nil)))), fun W W2 hW g P h => by
      have e1 : W = W2 := hW
      subst e1
      unfold W_group_need w_group_need at h
      exact sd_seq (sd_if (et_not (et_B (Ev.imp (ev_call rfl (ea_cons (ev_var rfl (ea_nil h)))) (fun y3423 h3424 => ⟨fun e3445 => sd_seq (sd_never (h3424.1 e3445)), fun e3446 => sd_next (sd_seq (sd_if (et_alt (h3424.2 e3446) (by exact fun h3437 => et_or (et_not (et_B (Ev.imp (ev_call rfl (ea_cons (ev_var rfl (ea_nil h3437)))) (fun y3425 h3426 => ⟨fun e3449 => et_not (et_B (ev_all (ec_ev (ev_fresh (EvF.imp (ef_lcW (evio (evi_list (ev_var rfl ((h3426.1 e3449))))) (by exact fun x3427 R3428 h3429 => bd_yes (tgc_name (ev_din (ev_var rfl (ecd_ev (ev_var rfl (h3429)))))) (Wle.refl _))) (fun y3432 h3435 => h3435)))))), fun e3450 => h3426.2 e3450⟩)))) (Wle.refl _)) (fun y3447 h3448 => ⟨fun e3443 => sd_seq (sd_never (h3448.1 e3443)), fun e3444 => sd_next (sd_seq (sd_drop (Ev.imp (ev_call rfl (ea_cons (ev_var rfl (ea_cons (ev_var rfl (ea_cons (ev_var rfl (ea_nil (h3448.2 e3444))))))))) (fun y3438 h3439 => sd_seq (sd_retW rfl (ev_p0 (fun h => h) (Ev.imp (ev_call rfl (ea_cons (ev_var rfl (ea_cons (ev_var rfl (ea_cons (ev_var rfl (ea_cons (ev_var rfl (ea_nil h3439)))))))))) (fun y3440 h3441 => h3441))) (Wle.refl _))))))⟩))))⟩)))))⟩

def w__law_same_I_I_p1 (v_told : Int) (v_due : Int) (P : Bool → Prop) : Prop := ((true = true → altW (fun (P3501 : Bool → Prop) => ((true = true → P3501 (decide (v_told = v_due))) ∧ (true = false → P3501 false))) (fun (y3503 : Bool) => P y3503)) ∧ (true = false → False))
theorem part__law_same_I_I_p1 (X : Tx K mg)  {f : Addr} {cdv : Value} {A : Around} {outer : List Env} {s : Shared} {H : Hp} {E : XK} (hr : Room 0 (A.deeper (envOfC "_law_same" (defScope (topS 59)) s.heap.objs.size f cdv))) :
    ∃ t, PSs (cxOf CX0 P w K mg base ["told", "due", "key", "k"] "_law_same" (defScope (topS 59)) f cdv A outer s H E).nox ((defBody (topS 59)).drop 3) t ∧ ∀ (W : Wd), ∀ (v_told : Int) (v_due : Int) (P : Bool → Prop), w__law_same_I_I_p1 v_told v_due P → Sd W K t [sD (α := Int) v_told, sD (α := Int) v_due, .non, .non] { nx := fun _ _ => False, rt := rtW W P } := by
  exact ⟨_, (pss_cons (ps_if (pt_val (pe_callB call_isi (by rfl) X.b_isinstance rfl (pa_cons (pv 1) (pa_cons (pe_bltn (v := .ty "int") (by rfl) X.b_int rfl rfl) pa_nil)))) (pss_cons (ps_ret (pe_and (pe_callB call_isi (by rfl) X.b_isinstance rfl (pa_cons (pv 0) (pa_cons (pe_bltn (v := .ty "int") (by rfl) X.b_int rfl rfl) pa_nil))) (pe_one (pe_cmpR op_eq (pv 0) (pv 1) (nomark _))))) pss_nil) pss_nil) pss_never), fun W v_told v_due P h => by
    unfold w__law_same_I_I_p1 at h
    exact sd_seq (sd_if (et_B (ev_isi (α := Int) (b := true) (ev_var rfl (⟨fun e3499 => sd_seq (sd_retW rfl (ev_alt (h.1 e3499) (by exact fun h3502 => ev_andV (ev_isi (α := Int) (b := true) (ev_var rfl (⟨fun e3510 => ev_eqI (fun h => h) (ev_var rfl (ev_var rfl ((h3502.1 e3510)))), fun e3511 => h3502.2 e3511⟩))) (Wle.refl _)) (fun y3508 h3509 => h3509)) (Wle.refl _)), fun e3500 => (h.2 e3500).elim⟩)))))⟩
def w__law_same_I_I (a_told : Int) (a_due : Int) (P : Bool → Prop) : Prop := ((false = false → (((false || false) = false → altW (fun (P3495 : Bool → Prop) => ((false = false → P3495 false) ∧ (false = true → P3495 true))) (fun (y3512 : Bool) => ((y3512 = false → w__law_same_I_I_p1 a_told a_due P) ∧ (y3512 = true → False)))) ∧ ((false || false) = true → False))) ∧ (false = true → False))
abbrev W__law_same_I_I (g : Int × Int × Unit) (P : Bool → Prop) : Prop := w__law_same_I_I g.1 g.2.1 P
theorem walk__law_same_I_I {f : Addr} {fd : FuncData} (X : Tx K mg)  (F : Fun K "_law_same" "_law_same" (topS 59) f fd) (hm : mg "_law_same" = some (.ref f)) (bd : Binds K fd ["told", "due"] []) : CalD P w K mg base 1 "_law_same" (spD K AnyW W__law_same_I_I) [] :=
  cal_ok F hm bd sc__law_same rfl (by decide) fun cdv A outer s H E hr => by
    obtain ⟨t1, d1, s1⟩ := part__law_same_I_I_p1 X  hr
    exact ⟨_, (pss_cons (ps_if (pt_val (pe_callB call_isi (by rfl) X.b_isinstance rfl (pa_cons (pv 1) (pa_cons (pe_bltn (v := .ty "dict") (by rfl) X.b_dict rfl rfl) pa_nil)))) pss_never pss_nil) (pss_cons (ps_if (pt_val (pe_callB call_isiT (by rfl) X.b_isinstance rfl (pa_cons (pv 1) (pa_cons (pe_tup (pa_cons (pe_bltn (v := .ty "list") (by rfl) X.b_list rfl rfl) (pa_cons (pe_bltn (v := .ty "tuple") (by rfl) X.b_tuple rfl rfl) pa_nil))) pa_nil)))) pss_never pss_nil) (pss_cons (ps_if (PW.pt (pw_or (pt_val (pe_callB call_isi (by rfl) X.b_isinstance rfl (pa_cons (pv 1) (pa_cons (pe_bltn (v := .ty "bool") (by rfl) X.b_bool rfl rfl) pa_nil)))) (pw_or1 (pt_val (pe_callB call_isi (by rfl) X.b_isinstance rfl (pa_cons (pv 0) (pa_cons (pe_bltn (v := .ty "bool") (by rfl) X.b_bool rfl rfl) pa_nil))))))) pss_never pss_nil) d1))), fun W W2 hW g P h => by
      have e1 : W = W2 := hW
      subst e1
      unfold W__law_same_I_I w__law_same_I_I at h
      exact sd_seq (sd_if (et_B (ev_isi (α := Int) (b := false) (ev_var rfl (⟨fun e3492 => (h.2 e3492).elim, fun e3491 => sd_next (sd_seq (sd_if (et_B (ev_isiT (α := Int) (b1 := false) (b2 := false) (ev_var rfl (⟨fun e3494 => ((h.1 e3491).2 e3494).elim, fun e3493 => sd_next (sd_seq (sd_if (et_alt ((h.1 e3491).1 e3493) (by exact fun h3496 => et_or (et_B (ev_isi (α := Int) (b := false) (ev_var rfl (⟨fun e3527 => et_B (ev_isi (α := Int) (b := false) (ev_var rfl ((h3496.1 e3527)))), fun e3528 => h3496.2 e3528⟩)))) (Wle.refl _)) (fun y3525 h3526 => ⟨fun e3498 => (h3526.2 e3498).elim, fun e3497 => sd_next (sd_le (Wle.refl _) (s1 W g.1 g.2.1 _ (h3526.1 e3497)))⟩))))⟩))))))⟩)))))⟩

def w_is_list_TpS (a_value : (Tp Str)) (P : Bool → Prop) : Prop := P (false || true)
abbrev W_is_list_TpS (g : (Tp Str) × Unit) (P : Bool → Prop) : Prop := w_is_list_TpS g.1 P
theorem walk_is_list_TpS {f : Addr} {fd : FuncData} (X : Tx K mg)  (F : Fun K "is_list" "is_list" (topS 32) f fd) (hm : mg "is_list" = some (.ref f)) (bd : Binds K fd ["value"] []) : CalD P w K mg base 1 "is_list" (spD K AnyW W_is_list_TpS) [] :=
  cal_ok F hm bd sc_is_list rfl (by decide) fun cdv A outer s H E hr => by
    exact ⟨_, (pss_cons (ps_ret (pe_callB call_isiT (by rfl) X.b_isinstance rfl (pa_cons (pv 0) (pa_cons (pe_tup (pa_cons (pe_bltn (v := .ty "list") (by rfl) X.b_list rfl rfl) (pa_cons (pe_bltn (v := .ty "tuple") (by rfl) X.b_tuple rfl rfl) pa_nil))) pa_nil)))) pss_nil), fun W W2 hW g P h => by
      have e1 : W = W2 := hW
      subst e1
      unfold W_is_list_TpS w_is_list_TpS at h
      exact sd_seq (sd_retW rfl (ev_isiT (α := (Tp Str)) (b1 := false) (b2 := true) (ev_var rfl (h))) (Wle.refl _))⟩

def w_are_owners_TpS (a_value : (Tp Str)) (P : Bool → Prop) : Prop := altW (fun (P3579 : Bool → Prop) => (w_is_list_TpS a_value (fun (y3566 : Bool) => (((!y3566) = false → (a_value.l.length ≤ 100000 ∧ compW (fun (x3568 : Str) (R3569 : Option Bool → Prop) => (w_is_member x3568 (fun (y3571 : Bool) => R3569 (some y3571)))) (fun (y3575 : (List Bool)) => P3579 (!(List.all y3575 id))) a_value.l [])) ∧ ((!y3566) = true → P3579 true))))) (fun (y3590 : Bool) => ((y3590 = true → P false) ∧ (y3590 = false → ((enumL a_value.l).length ≤ 100000 ∧ compW (fun (x3581 : (Int × Str)) (R3582 : Option Bool → Prop) => R3582 (some (decide (x3581.2 ∈ (cutL a_value.l none (some x3581.1)))))) (fun (y3586 : (List Bool)) => P (!(List.any y3586 id))) (enumL a_value.l) []))))
abbrev W_are_owners_TpS (g : (Tp Str) × Unit) (P : Bool → Prop) : Prop := w_are_owners_TpS g.1 P
theorem walk_are_owners_TpS {f : Addr} {fd : FuncData} (X : Tx K mg) (C_is_list_TpS : CalD P w K mg base 1 "is_list" (spD K AnyW W_is_list_TpS) []) (C_is_member : CalD P w K mg base 2 "is_member" (spD K AnyW W_is_member) []) (F : Fun K "are_owners" "are_owners" (topS 33) f fd) (hm : mg "are_owners" = some (.ref f)) (bd : Binds K fd ["value"] []) : CalD P w K mg base 3 "are_owners" (spD K AnyW W_are_owners_TpS) [] :=
  cal_ok F hm bd sc_are_owners rfl (by decide) fun cdv A outer s H E hr => by
    exact ⟨_, (pss_cons (ps_if (PW.pt (pw_or (pt_not (pt_val (pe_cd C_is_list_TpS hr (by decide) (by rfl) (pa_cons (pv 0) pa_nil)))) (pw_or1 (pt_not (pt_val (pe_callB (cr_all rfl) (by rfl) X.b_all rfl (pa_cons (pe_lc rfl sc_are_owners.nd (pi_tup (pv 0)) (blkOk_by (N := ["value", "item", "at"]) (sc := defScope (topS 33)) (own := [("item", 1)]) (by decide +kernel)) (fun _ _ _ _ _ => (pg_name (i := 1) sc_are_owners.nd (by rfl) (by first | exact .inl rfl | exact .inr rfl))) (fun _ _ _ _ _ => pts_nil) (fun _ _ _ _ _ => (pe_cd C_is_member hr (by decide) (by rfl) (pa_cons (pv 1) pa_nil)))) pa_nil))))))) (pss_cons (ps_ret pe_bl) pss_nil) pss_nil) (pss_cons (ps_ret (pe_not (pe_callB (cr_any rfl) (by rfl) X.b_any rfl (pa_cons (pe_lc rfl sc_are_owners.nd (g := gTup K 2 (gCons (gName 2) (gCons (gName 1) gNil))) (pi_enumT (by rfl) X.b_enumerate (pa_cons (pv 0) pa_nil)) (blkOk_by (N := ["value", "item", "at"]) (sc := defScope (topS 33)) (own := [("at", 2), ("item", 1)]) (by decide +kernel)) (fun _ _ _ _ _ => (pg_tup rfl (pgs_cons (pg_name (i := 2) sc_are_owners.nd (by rfl) (by first | exact .inl rfl | exact .inr rfl)) (pgs_cons (pg_name (i := 1) sc_are_owners.nd (by rfl) (by first | exact .inl rfl | exact .inr rfl)) pgs_nil)))) (fun _ _ _ _ _ => pts_nil) (fun _ _ _ _ _ => (pe_cmpR op_in_seq (pv 1) (pe_slice sl_tupA (pv 0) po_none (po_some (pv 2))) (by rfl)))) pa_nil)))) pss_nil)), fun W W2 hW g P h => by
      have e1 : W = W2 := hW
      subst e1
      unfold W_are_owners_TpS w_are_owners_TpS at h
      exact sd_seq (sd_if (et_alt h (by exact fun h3580 => et_or (et_not (et_B (Ev.imp (ev_call rfl (ea_cons (ev_var rfl (ea_nil h3580)))) (fun y3566 h3567 => ⟨fun e3595 => et_not (et_B (ev_all (ec_ev (ev_fresh (EvF.imp (ef_lcW (evio (evi_tup (ev_var rfl ((h3567.1 e3595))))) (by exact fun x3568 R3569 h3570 => bd_yes (tgc_name (Ev.imp (ev_call rfl (ea_cons (ev_var rfl (ea_nil h3570)))) (fun y3571 h3572 => h3572))) (Wle.refl _))) (fun y3575 h3578 => h3578)))))), fun e3596 => h3567.2 e3596⟩)))) (Wle.refl _)) (fun y3593 h3594 => ⟨fun e3591 => sd_seq (sd_retW rfl (ev_bl ((h3594.1 e3591))) (Wle.refl _)), fun e3592 => sd_next (sd_seq (sd_retW rfl (ev_notV (ev_any (ec_ev (ev_fresh (EvF.imp (ef_lcW (evio (evi_enumT (ea_cons (ev_var rfl (ea_nil ((h3594.2 e3592))))))) (by exact fun x3581 R3582 h3583 => bd_yes (tgc_two (ev_inTS (n := false) (fun h => h) (ev_var rfl (ev_slT (fun h => h) (ev_var rfl (eo_none (eo_some (ev_var rfl (h3583))))))))) (Wle.refl _))) (fun y3586 h3589 => h3589)))))) (Wle.refl _)))⟩)))⟩

def w_check_moves_TpDSI (a_moves : (Tp (Dc Str Int))) (P : Unit → Prop) : Prop := altW (fun (P3642 : Bool → Prop) => ((decide ((1 : Int) ≤ (a_moves.l.length : Int))) = true → P3642 (decide ((a_moves.l.length : Int) ≤ (8 : Int)))) ∧ ((decide ((1 : Int) ≤ (a_moves.l.length : Int))) = false → P3642 false)) (fun (y3667 : Bool) => (((!y3667) = true → False) ∧ ((!y3667) = false → forW (fun (x3653 : (Dc Str Int)) (s3650 : Unit) (n3654 b3655 : Unit → Prop) => (w_is_move x3653 (fun (y3656 : Bool) => (((!y3656) = true → False) ∧ ((!y3656) = false → n3654 ()))))) (fun (s3660 : Unit) => (∃ (x3661 : (Dc Str Int)), atI a_moves.l (0 : Int) = some x3661 ∧ (((!(List.isEmpty x3661.l)) = true → False) ∧ ((!(List.isEmpty x3661.l)) = false → P ())))) a_moves.l ())))
abbrev W_check_moves_TpDSI (g : (Tp (Dc Str Int)) × Unit) (P : Unit → Prop) : Prop := w_check_moves_TpDSI g.1 P
theorem walk_check_moves_TpDSI {f : Addr} {fd : FuncData} (X : Tx K mg) (C_is_move : CalD P w K mg base 3 "is_move" (spD K AnyW W_is_move) []) (F : Fun K "check_moves" "check_moves" (topS 22) f fd) (hm : mg "check_moves" = some (.ref f)) (bd : Binds K fd ["moves"] []) : CalD P w K mg base 4 "check_moves" (spD K AnyW W_check_moves_TpDSI) [] :=
  cal_okU F hm bd sc_check_moves rfl (by decide) fun cdv A outer s H E hr => by
    exact ⟨_, (pss_cons (ps_if (pt_not (pt_chain op_le op_le pe_int (pe_callB call_len_seq (by rfl) X.b_len rfl (pa_cons (pv 0) pa_nil)) (pe_glob (v := .int 8) (by rfl) X.c_MOST_MOVES.choose_spec ⟨_, rfl⟩))) (pss_cons ps_never pss_nil) pss_nil) (pss_cons (ps_for PassesOwn.never rfl (pi_tup (pv 0)) (pg_name (i := 1) sc_check_moves.nd (by rfl) (by first | exact .inl rfl | exact .inr rfl)) (pss_cons (ps_if (pt_not (pt_val (pe_cd C_is_move hr (by decide) (by rfl) (pa_cons (pv 1) pa_nil)))) (pss_cons ps_never pss_nil) pss_nil) pss_nil)) (pss_cons (ps_if (pt_cmpR (op_neD0 (hu64 hr)) (pe_ix ix_tup (pv 0) pe_int (fun _ _ => rfl)) pe_dnewK (nomark _)) (pss_cons ps_never pss_nil) pss_nil) pss_nil))), fun W W2 hW g P h => by
      have e1 : W = W2 := hW
      subst e1
      unfold W_check_moves_TpDSI w_check_moves_TpDSI at h
      exact sd_seq (sd_if (et_not (et_test (ev_alt h (by exact fun h3645 => ev_chain (f := fun i j : Int => (decide (i ≤ j))) (g := fun i j : Int => (decide (i ≤ j))) (ev_int (ev_lenT (fun h => h) (ev_var rfl (⟨fun e3643 => ev_int ((h3645.1 e3643)), fun e3644 => h3645.2 e3644⟩))))) (fun y3670 h3671 => ⟨fun e3668 => sd_seq (sd_never (h3671.1 e3668)), fun e3669 => sd_next (sd_wipe [1] (sd_seq (sd_forW (fun (s3650 : Unit) => [sD (α := (Tp (Dc Str Int))) g.1, .non]) (evi_tup (ev_var rfl (⟨(), rfl, (h3671.2 e3669)⟩))) (by exact fun x3653 s3650 n3654 h3665 => tg_name (sd_seq (sd_if (et_not (et_B (Ev.imp (ev_call rfl (ea_cons (ev_var rfl (ea_nil h3665)))) (fun y3656 h3657 => ⟨fun e3658 => sd_seq (sd_never (h3657.1 e3658)), fun e3659 => sd_next (sd_nextW [1] ⟨(), rfl, (Wle.refl _), (h3657.2 e3659)⟩)⟩))))))) (by exact fun s3660 h3666 => sd_seq (sd_if (et_test (ev_neD0 (ecd_ev (ev_ixT (fun h => h) (ev_var rfl (ev_int (Exists.elim h3666 fun x3661 h3662 => ⟨x3661, h3662.1, ecd_ev (evd_fresh (eg_new (⟨rfl, ⟨fun e3663 => sd_seq (sd_never (h3662.2.1 e3663)), fun e3664 => sd_next (sd_next ⟨(Wle.refl _), (h3662.2.2 e3664)⟩)⟩⟩)))⟩))))))))) (fun _ _ l z => sd_le l z))))⟩)))))⟩

def w_check_world_DSTDSILTSSII_TpDSI_DSI (a_books : (Dc Str ((Dc Str Int) × (List (T4 Str Str Int Int))))) (a_moves : (Tp (Dc Str Int))) (a_prices : (Dc Str Int)) (P : Unit → Prop) : Prop := (w_are_books a_books (fun (y3688 : Bool) => (((!y3688) = true → False) ∧ ((!y3688) = false → (w_check_moves_TpDSI a_moves (fun (y3690 : Unit) => (w_check_prices a_prices (fun (y3692 : Unit) => (((a_books.l.length < 64 ∧ ∀ (z3697 : List Str), List.Perm z3697 (List.map Prod.fst a_books.l) → sortedS z3697 = true → w_all_orders a_books z3697 (fun (y3700 : (List (T4 Str Str Int Int))) => w_check_priced y3700 a_prices (fun (y3702 : Unit) => P ())))))))))))))
abbrev W_check_world_DSTDSILTSSII_TpDSI_DSI (g : (Dc Str ((Dc Str Int) × (List (T4 Str Str Int Int)))) × (Tp (Dc Str Int)) × (Dc Str Int) × Unit) (P : Unit → Prop) : Prop := w_check_world_DSTDSILTSSII_TpDSI_DSI g.1 g.2.1 g.2.2.1 P
theorem walk_check_world_DSTDSILTSSII_TpDSI_DSI {f : Addr} {fd : FuncData} (X : Tx K mg) (C_are_books : CalD P w K mg base 5 "are_books" (spD K AnyW W_are_books) []) (C_check_moves_TpDSI : CalD P w K mg base 4 "check_moves" (spD K AnyW W_check_moves_TpDSI) []) (C_check_prices : CalD P w K mg base 3 "check_prices" (spD K AnyW W_check_prices) []) (C_check_priced : CalD P w K mg base 1 "check_priced" (spD K AnyW W_check_priced) []) (C_all_orders : CalD P w K mg base 1 "all_orders" (spD K AnyW W_all_orders) []) (F : Fun K "check_world" "check_world" (topS 44) f fd) (hm : mg "check_world" = some (.ref f)) (bd : Binds K fd ["books", "moves", "prices"] []) : CalD P w K mg base 6 "check_world" (spD K AnyW W_check_world_DSTDSILTSSII_TpDSI_DSI) [] :=
  cal_okU F hm bd sc_check_world rfl (by decide) fun cdv A outer s H E hr => by
    exact ⟨_, (pss_cons (ps_if (pt_not (pt_val (pe_cd C_are_books hr (by decide) (by rfl) (pa_cons (pv 0) pa_nil)))) (pss_cons ps_never pss_nil) pss_nil) (pss_cons (ps_expr (pe_cd C_check_moves_TpDSI hr (by decide) (by rfl) (pa_cons (pv 1) pa_nil))) (pss_cons (ps_expr (pe_cd C_check_prices hr (by decide) (by rfl) (pa_cons (pv 2) pa_nil))) (pss_cons (ps_expr (pe_cd C_check_priced hr (by decide) (by rfl) (pa_cons (pe_cd C_all_orders hr (by decide) (by rfl) (pa_cons (pv 0) (pa_cons (pe_callB (call_sortedD rfl) (by rfl) X.b_sorted rfl (pa_cons (pv 0) pa_nil)) pa_nil))) (pa_cons (pv 2) pa_nil)))) pss_nil)))), fun W W2 hW g P h => by
      have e1 : W = W2 := hW
      subst e1
      unfold W_check_world_DSTDSILTSSII_TpDSI_DSI w_check_world_DSTDSILTSSII_TpDSI_DSI at h
      exact sd_seq (sd_if (et_not (et_B (Ev.imp (ev_call rfl (ea_cons (ev_var rfl (ea_nil h)))) (fun y3688 h3689 => ⟨fun e3704 => sd_seq (sd_never (h3689.1 e3704)), fun e3705 => sd_next (sd_seq (sd_drop (Ev.imp (ev_call rfl (ea_cons (ev_var rfl (ea_nil (h3689.2 e3705))))) (fun y3690 h3691 => sd_seq (sd_drop (Ev.imp (ev_call rfl (ea_cons (ev_var rfl (ea_nil h3691)))) (fun y3692 h3693 => sd_seq (sd_drop (Ev.imp (ev_call rfl (ea_cons (Ev.imp (ev_call rfl (ea_cons (ev_var rfl (ea_cons (ev_fresh (ef_sortedD (ecd_ev (ev_var rfl (⟨h3693.1, fun z3697 h3698 h3699 => ea_nil (h3693.2 z3697 h3698 h3699)⟩))))))))) (fun y3700 h3701 => ea_cons (ev_var rfl (ea_nil h3701)))))) (fun y3702 h3703 => sd_next ⟨(Wle.refl _), h3703⟩))))))))))⟩)))))⟩

def w_joined_position_DSTDSILTSSII_TpS (a_books : (Dc Str ((Dc Str Int) × (List (T4 Str Str Int Int))))) (a_members : (Tp Str)) (P : (Dc Str Int) → Prop) : Prop := ∀ (z_found_3731 : (Dc Str Int)), z_found_3731 = (Dc.mk ([] : List (Str × Int))) → forW (fun (x3741 : Str) (s3738 : (Dc Str Int)) (n3742 b3743 : (Dc Str Int) → Prop) => ((∃ (x3744 : ((Dc Str Int) × (List (T4 Str Str Int Int)))), look a_books.l x3741 = some x3744 ∧ w_summed s3738 x3744.1 (fun (y3746 : (Dc Str Int)) => ∀ (z_found_3748 : (Dc Str Int)), z_found_3748 = y3746 → n3742 z_found_3748)))) (fun (s3750 : (Dc Str Int)) => P s3750) a_members.l z_found_3731
abbrev W_joined_position_DSTDSILTSSII_TpS (g : (Dc Str ((Dc Str Int) × (List (T4 Str Str Int Int)))) × (Tp Str) × Unit) (P : (Dc Str Int) → Prop) : Prop := w_joined_position_DSTDSILTSSII_TpS g.1 g.2.1 P
theorem walk_joined_position_DSTDSILTSSII_TpS {f : Addr} {fd : FuncData} (X : Tx K mg) (C_summed : CalD P w K mg base 1 "summed" (spD K AnyW W_summed) []) (F : Fun K "joined_position" "joined_position" (topS 45) f fd) (hm : mg "joined_position" = some (.ref f)) (bd : Binds K fd ["books", "members"] []) : CalD P w K mg base 2 "joined_position" (spD K AnyW W_joined_position_DSTDSILTSSII_TpS) [] :=
  cal_ok F hm bd sc_joined_position rfl (by decide) fun cdv A outer s H E hr => by
    exact ⟨_, (pss_cons (ps_set (i := 2) sc_joined_position.nd (by rfl) (by first | exact .inl rfl | exact .inr rfl) pe_dnewK) (pss_cons (ps_for PassesOwn.never rfl (pi_tup (pv 1)) (pg_name (i := 3) sc_joined_position.nd (by rfl) (by first | exact .inl rfl | exact .inr rfl)) (pss_cons (ps_set (i := 2) sc_joined_position.nd (by rfl) (by first | exact .inl rfl | exact .inr rfl) (pe_cd C_summed hr (by decide) (by rfl) (pa_cons (pv 2) (pa_cons (pe_ix ix_tup (pe_dget (hu_of hr) (pv 0) (pv 3) (fun _ _ => rfl)) pe_int (fun _ _ => rfl)) pa_nil)))) pss_nil)) (pss_cons (ps_ret (pv 2)) pss_nil))), fun W W2 hW g P h => by
      have e1 : W = W2 := hW
      subst e1
      unfold W_joined_position_DSTDSILTSSII_TpS w_joined_position_DSTDSILTSSII_TpS at h
      exact sd_seq (sd_asgZ (i := 2) (evd_fresh (eg_new (fun z_found_3731 e3753 => sd_wipe [3] (sd_seq (sd_forW (fun (s3738 : (Dc Str Int)) => [sD (α := (Dc Str ((Dc Str Int) × (List (T4 Str Str Int Int))))) g.1, sD (α := (Tp Str)) g.2.1, sD (α := (Dc Str Int)) s3738, .non]) (evi_tup (ev_var rfl (⟨z_found_3731, rfl, (h z_found_3731 e3753)⟩))) (by exact fun x3741 s3738 n3742 h3751 => tg_name (sd_seq (sd_asgZ (i := 2) (Ev.imp (ev_call rfl (ea_cons (ev_var rfl (ea_cons (ev_p0 (fun h => h) (ev_dget (ecd_ev (ev_var rfl (ev_var rfl (Exists.elim h3751 fun x3744 h3745 => ⟨x3744, h3745.1, ea_nil h3745.2⟩)))))))))) (fun y3746 h3747 => fun z_found_3748 e3749 => sd_nextW [3] ⟨z_found_3748, rfl, (Wle.refl _), (h3747 z_found_3748 e3749)⟩))))) (by exact fun s3750 h3752 => sd_seq (sd_retW rfl (ev_var rfl (h3752)) (Wle.refl _))) (fun _ _ l z => sd_le l z)))))))⟩

def w_all_orders_DSTDSILTSSII_TpS (a_books : (Dc Str ((Dc Str Int) × (List (T4 Str Str Int Int))))) (a_members : (Tp Str)) (P : (List (T4 Str Str Int Int)) → Prop) : Prop := (a_members.l.length ≤ 1000 ∧ comp2W (fun (x3768 : Str) (R3770 : List (T4 Str Str Int Int) → Prop) => (∃ (x3774 : ((Dc Str Int) × (List (T4 Str Str Int Int)))), look a_books.l x3768 = some x3774 ∧ inW ((fun (x3768 : Str) (y3769 : (T4 Str Str Int Int)) (R3771 : Option (T4 Str Str Int Int) → Prop) => R3771 (some y3769)) x3768) R3770 x3774.2)) (fun (y3776 : (List (T4 Str Str Int Int))) => P y3776) a_members.l [])
abbrev W_all_orders_DSTDSILTSSII_TpS (g : (Dc Str ((Dc Str Int) × (List (T4 Str Str Int Int)))) × (Tp Str) × Unit) (P : (List (T4 Str Str Int Int)) → Prop) : Prop := w_all_orders_DSTDSILTSSII_TpS g.1 g.2.1 P
theorem walk_all_orders_DSTDSILTSSII_TpS {f : Addr} {fd : FuncData} (X : Tx K mg)  (F : Fun K "all_orders" "all_orders" (topS 43) f fd) (hm : mg "all_orders" = some (.ref f)) (bd : Binds K fd ["books", "members"] []) : CalD P w K mg base 1 "all_orders" (spD K AnyW W_all_orders_DSTDSILTSSII_TpS) [] :=
  cal_ok F hm bd sc_all_orders rfl (by decide) fun cdv A outer s H E hr => by
    exact ⟨_, (pss_cons (ps_ret (pe_lc2 (vs1 := [3]) rfl sc_all_orders.nd (pi_tup (pv 1)) (blkOk_by (N := ["books", "members", "member", "order"]) (sc := defScope (topS 43)) (own := [("member", 2), ("order", 3)]) (by decide +kernel)) (by decide) (fun _ _ _ _ _ => (pg_name (i := 2) sc_all_orders.nd (by rfl) (by first | exact .inl rfl | exact .inr rfl))) (fun _ _ _ _ _ => pts_nil) (fun _ _ _ _ _ => (pi_listK (K := K) rfl (pe_ix ix_tup (pe_dget (hu_of hr) (pv 0) (pv 2) (fun _ _ => rfl)) pe_int (fun _ _ => rfl)))) (fun _ _ _ _ _ => (pg_name (i := 3) sc_all_orders.nd (by rfl) (by first | exact .inl rfl | exact .inr rfl))) (fun _ _ _ _ _ => pts_nil) (fun _ _ _ _ _ => (pv 3)))) pss_nil), fun W W2 hW g P h => by
      have e1 : W = W2 := hW
      subst e1
      unfold W_all_orders_DSTDSILTSSII_TpS w_all_orders_DSTDSILTSSII_TpS at h
      exact sd_seq (sd_retW rfl (ev_fresh (EvF.imp (ef_lc2W (B1 := (fun (x3768 : Str) (y3769 : (T4 Str Str Int Int)) (R3771 : Option (T4 Str Str Int Int) → Prop) => R3771 (some y3769))) (evio (evi_tup (ev_var rfl (h)))) (by exact fun x3768 R3770 h3772 => tgc_name ⟨fun y3769 R3771 h3773 => tgc_name (ev_var rfl (h3773)), evi_list (ev_p1 (fun h => h) (ev_dget (ecd_ev (ev_var rfl (ev_var rfl (Exists.elim h3772 fun x3774 h3775 => ⟨x3774, h3775.1, h3775.2⟩))))))⟩)) (fun y3776 h3777 => h3777))) (Wle.refl _))⟩

def w_worst_of_DSI_LTSSII_TpDSI_DSI (a_position : (Dc Str Int)) (a_orders : (List (T4 Str Str Int Int))) (a_moves : (Tp (Dc Str Int))) (a_prices : (Dc Str Int)) (P : (T3 Int Int (Tp Int)) → Prop) : Prop := (a_moves.l.length ≤ 100000 ∧ compW (fun (x3821 : (Dc Str Int)) (R3822 : Option (Tp Int) → Prop) => (w_worst_filled a_orders x3821 a_prices (fun (y3824 : (Tp Int)) => R3822 (some y3824)))) (fun (y3828 : (List (Tp Int))) => ∀ (z_fills_3832 : (List (Tp Int))), z_fills_3832 = y3828 → ((List.zip a_moves.l z_fills_3832).length ≤ 100000 ∧ compW (fun (x3833 : ((Dc Str Int) × (Tp Int))) (R3834 : Option Int → Prop) => (w_loss_with a_position a_orders x3833.1 a_prices x3833.2 (fun (y3836 : Int) => R3834 (some y3836)))) (fun (y3840 : (List Int)) => ∀ (z_lost_3844 : (List Int)), z_lost_3844 = y3840 → (0 < z_lost_3844.length ∧ ∀ m3845, m3845 ∈ z_lost_3844 → (∀ y3848, y3848 ∈ z_lost_3844 → y3848 ≤ m3845) → (z_lost_3844.length ≤ 100000 ∧ m3845 ∈ z_lost_3844 ∧ ∀ (j3849 : Nat), z_lost_3844[j3849]? = some m3845 → (∀ i, i < j3849 → z_lost_3844[i]? ≠ some m3845) → ∀ (z_index_3852 : Int), z_index_3852 = (j3849 : Int) → (∃ (x3853 : Int), atI z_lost_3844 z_index_3852 = some x3853 ∧ (∃ (x3855 : (Tp Int)), atI z_fills_3832 z_index_3852 = some x3855 ∧ P (T3.mk x3853 z_index_3852 x3855)))))) (List.zip a_moves.l z_fills_3832) [])) a_moves.l [])
abbrev W_worst_of_DSI_LTSSII_TpDSI_DSI (g : (Dc Str Int) × (List (T4 Str Str Int Int)) × (Tp (Dc Str Int)) × (Dc Str Int) × Unit) (P : (T3 Int Int (Tp Int)) → Prop) : Prop := w_worst_of_DSI_LTSSII_TpDSI_DSI g.1 g.2.1 g.2.2.1 g.2.2.2.1 P
theorem walk_worst_of_DSI_LTSSII_TpDSI_DSI {f : Addr} {fd : FuncData} (X : Tx K mg) (C_worst_filled : CalD P w K mg base 2 "worst_filled" (spD K AnyW W_worst_filled) []) (C_loss_with : CalD P w K mg base 2 "loss_with" (spD K AnyW W_loss_with) []) (F : Fun K "worst_of" "worst_of" (topS 29) f fd) (hm : mg "worst_of" = some (.ref f)) (bd : Binds K fd ["position", "orders", "moves", "prices"] []) : CalD P w K mg base 3 "worst_of" (spD K AnyW W_worst_of_DSI_LTSSII_TpDSI_DSI) [] :=
  cal_ok F hm bd sc_worst_of rfl (by decide) fun cdv A outer s H E hr => by
    exact ⟨_, (pss_cons (ps_setLc (i := 4) rfl sc_worst_of.nd (by rfl) (by rfl) (sw_true rfl rfl rfl rfl) (pi_tup (pv 2)) (blkOk_by (N := ["position", "orders", "moves", "prices", "fills", "lost", "index", "move", "filled"]) (sc := defScope (topS 29)) (own := [("move", 7)]) (by decide +kernel)) (fun _ _ _ _ _ => (pg_name (i := 7) sc_worst_of.nd (by rfl) (by first | exact .inl rfl | exact .inr rfl))) (fun _ _ _ _ _ => pts_nil) (fun _ _ _ _ _ => (pe_cd C_worst_filled hr (by decide) (by rfl) (pa_cons (pv 1) (pa_cons (pv 7) (pa_cons (pv 3) pa_nil)))))) (pss_cons (ps_setLc (i := 5) rfl sc_worst_of.nd (by rfl) (by rfl) (sw_true rfl rfl rfl rfl) (g := gTup K 2 (gCons (gName 7) (gCons (gName 8) gNil))) (pi_zipTL (by rfl) X.b_zip (pa_cons (pv 2) (pa_cons (pv 4) pa_nil))) (blkOk_by (N := ["position", "orders", "moves", "prices", "fills", "lost", "index", "move", "filled"]) (sc := defScope (topS 29)) (own := [("move", 7), ("filled", 8)]) (by decide +kernel)) (fun _ _ _ _ _ => (pg_tup rfl (pgs_cons (pg_name (i := 7) sc_worst_of.nd (by rfl) (by first | exact .inl rfl | exact .inr rfl)) (pgs_cons (pg_name (i := 8) sc_worst_of.nd (by rfl) (by first | exact .inl rfl | exact .inr rfl)) pgs_nil)))) (fun _ _ _ _ _ => pts_nil) (fun _ _ _ _ _ => (pe_cd C_loss_with hr (by decide) (by rfl) (pa_cons (pv 0) (pa_cons (pv 1) (pa_cons (pv 7) (pa_cons (pv 3) (pa_cons (pv 8) pa_nil)))))))) (pss_cons (ps_set (i := 6) sc_worst_of.nd (by rfl) (by first | exact .inl rfl | exact .inr rfl) (pe_bm PySem.F.plainAttrs_list PySem.F.slot_list_index PySem.F.type_list_index mt_index (pv 5) (pa_cons (pe_callB (cr_max rfl) (by rfl) X.b_max rfl (pa_cons (pv 5) pa_nil)) pa_nil))) (pss_cons (ps_ret (pe_tup (pa_cons (pe_ix ix_list (pv 5) (pv 6) (fun _ _ => rfl)) (pa_cons (pv 6) (pa_cons (pe_ix ix_list (pv 4) (pv 6) (fun _ _ => rfl)) pa_nil))))) pss_nil)))), fun W W2 hW g P h => by
      have e1 : W = W2 := hW
      subst e1
      unfold W_worst_of_DSI_LTSSII_TpDSI_DSI w_worst_of_DSI_LTSSII_TpDSI_DSI at h
      exact sd_seq (sd_asgZ (i := 4) (ev_fresh (EvF.imp (ef_lcW (evio (evi_tup (ev_var rfl (h)))) (by exact fun x3821 R3822 h3823 => bd_yes (tgc_name (Ev.imp (ev_call rfl (ea_cons (ev_var rfl (ea_cons (ev_var rfl (ea_cons (ev_var rfl (ea_nil h3823)))))))) (fun y3824 h3825 => h3825))) (Wle.refl _))) (fun y3828 h3831 => fun z_fills_3832 e3859 => sd_seq (sd_asgZ (i := 5) (ev_fresh (EvF.imp (ef_lcW (evio (evi_zipTL (ea_cons (ev_var rfl (ea_cons (ev_var rfl (ea_nil ((h3831 z_fills_3832 e3859))))))))) (by exact fun x3833 R3834 h3835 => bd_yes (tgc_two (Ev.imp (ev_call rfl (ea_cons (ev_var rfl (ea_cons (ev_var rfl (ea_cons (ev_var rfl (ea_cons (ev_var rfl (ea_cons (ev_var rfl (ea_nil h3835)))))))))))) (fun y3836 h3837 => h3837))) (Wle.refl _))) (fun y3840 h3843 => fun z_lost_3844 e3858 => sd_seq (sd_asgZ (i := 6) (ev_index (ec_ev (ev_var rfl (ev_max (ec_ev (ev_var rfl (⟨(h3843 z_lost_3844 e3858).1, fun m3845 h3846 h3847 => ⟨((h3843 z_lost_3844 e3858).2 m3845 h3846 h3847).1, ((h3843 z_lost_3844 e3858).2 m3845 h3846 h3847).2.1, fun j3849 h3850 h3851 => fun z_index_3852 e3857 => sd_seq (sd_retW rfl (ev_tup3 (ea_cons (ev_ixL (fun h => h) (ec_ev (ev_var rfl (ev_var rfl (Exists.elim ((((h3843 z_lost_3844 e3858).2 m3845 h3846 h3847).2.2 j3849 h3850 h3851) z_index_3852 e3857) fun x3853 h3854 => ⟨x3853, h3854.1, ea_cons (ev_var rfl (ea_cons (ev_ixL (fun h => h) (ec_ev (ev_var rfl (ev_var rfl (Exists.elim h3854.2 fun x3855 h3856 => ⟨x3855, h3856.1, ea_nil (h3856.2)⟩)))))))⟩))))))) (Wle.refl _))⟩⟩))))))))))))))))⟩

def w_worst_together_DSTDSILTSSII_TpS_TpDSI_DSI (a_books : (Dc Str ((Dc Str Int) × (List (T4 Str Str Int Int))))) (a_members : (Tp Str)) (a_moves : (Tp (Dc Str Int))) (a_prices : (Dc Str Int)) (P : (Int × Int) → Prop) : Prop := ((w_joined_position_DSTDSILTSSII_TpS a_books a_members (fun (y3870 : (Dc Str Int)) => (w_all_orders_DSTDSILTSSII_TpS a_books a_members (fun (y3872 : (List (T4 Str Str Int Int))) => w_worst_of_DSI_LTSSII_TpDSI_DSI y3870 y3872 a_moves a_prices (fun (y3874 : (T3 Int Int (Tp Int))) => P (y3874.a, y3874.b)))))))
abbrev W_worst_together_DSTDSILTSSII_TpS_TpDSI_DSI (g : (Dc Str ((Dc Str Int) × (List (T4 Str Str Int Int)))) × (Tp Str) × (Tp (Dc Str Int)) × (Dc Str Int) × Unit) (P : (Int × Int) → Prop) : Prop := w_worst_together_DSTDSILTSSII_TpS_TpDSI_DSI g.1 g.2.1 g.2.2.1 g.2.2.2.1 P
theorem walk_worst_together_DSTDSILTSSII_TpS_TpDSI_DSI {f : Addr} {fd : FuncData} (X : Tx K mg) (C_worst_of_DSI_LTSSII_TpDSI_DSI : CalD P w K mg base 3 "worst_of" (spD K AnyW W_worst_of_DSI_LTSSII_TpDSI_DSI) []) (C_joined_position_DSTDSILTSSII_TpS : CalD P w K mg base 2 "joined_position" (spD K AnyW W_joined_position_DSTDSILTSSII_TpS) []) (C_all_orders_DSTDSILTSSII_TpS : CalD P w K mg base 1 "all_orders" (spD K AnyW W_all_orders_DSTDSILTSSII_TpS) []) (F : Fun K "worst_together" "worst_together" (topS 46) f fd) (hm : mg "worst_together" = some (.ref f)) (bd : Binds K fd ["books", "members", "moves", "prices"] []) : CalD P w K mg base 4 "worst_together" (spD K AnyW W_worst_together_DSTDSILTSSII_TpS_TpDSI_DSI) [] :=
  cal_ok F hm bd sc_worst_together rfl (by decide) fun cdv A outer s H E hr => by
    exact ⟨_, (pss_cons (ps_ret (pe_slice sl_tupA (pe_cd C_worst_of_DSI_LTSSII_TpDSI_DSI hr (by decide) (by rfl) (pa_cons (pe_cd C_joined_position_DSTDSILTSSII_TpS hr (by decide) (by rfl) (pa_cons (pv 0) (pa_cons (pv 1) pa_nil))) (pa_cons (pe_cd C_all_orders_DSTDSILTSSII_TpS hr (by decide) (by rfl) (pa_cons (pv 0) (pa_cons (pv 1) pa_nil))) (pa_cons (pv 2) (pa_cons (pv 3) pa_nil))))) po_none (po_some pe_int))) pss_nil), fun W W2 hW g P h => by
      have e1 : W = W2 := hW
      subst e1
      unfold W_worst_together_DSTDSILTSSII_TpS_TpDSI_DSI w_worst_together_DSTDSILTSSII_TpS_TpDSI_DSI at h
      exact sd_seq (sd_retW rfl (ev_t3cut (fun h => h) (Ev.imp (ev_call rfl (ea_cons (Ev.imp (ev_call rfl (ea_cons (ev_var rfl (ea_cons (ev_var rfl (ea_nil h)))))) (fun y3870 h3871 => ea_cons (Ev.imp (ev_call rfl (ea_cons (ev_var rfl (ea_cons (ev_var rfl (ea_nil h3871)))))) (fun y3872 h3873 => ea_cons (ev_var rfl (ea_cons (ev_var rfl (ea_nil h3873)))))))))) (fun y3874 h3875 => h3875))) (Wle.refl _))⟩

def w_group_need_DSTDSILTSSII_TpS_TpDSI_DSI (a_books : (Dc Str ((Dc Str Int) × (List (T4 Str Str Int Int))))) (a_members : (Tp Str)) (a_moves : (Tp (Dc Str Int))) (a_prices : (Dc Str Int)) (P : Int → Prop) : Prop := (w_are_books a_books (fun (y3887 : Bool) => (((!y3887) = true → False) ∧ ((!y3887) = false → altW (fun (P3900 : Bool → Prop) => (w_are_owners_TpS a_members (fun (y3889 : Bool) => (((!y3889) = false → (a_members.l.length ≤ 100000 ∧ compW (fun (x3891 : Str) (R3892 : Option Bool → Prop) => R3892 (some (Option.isSome (look a_books.l x3891)))) (fun (y3896 : (List Bool)) => P3900 (!(List.all y3896 id))) a_members.l [])) ∧ ((!y3889) = true → P3900 true))))) (fun (y3906 : Bool) => ((y3906 = true → False) ∧ (y3906 = false → (w_check_world_DSTDSILTSSII_TpDSI_DSI a_books a_moves a_prices (fun (y3902 : Unit) => (w_worst_together_DSTDSILTSSII_TpS_TpDSI_DSI a_books a_members a_moves a_prices (fun (y3904 : (Int × Int)) => P y3904.1)))))))))))
abbrev W_group_need_DSTDSILTSSII_TpS_TpDSI_DSI (g : (Dc Str ((Dc Str Int) × (List (T4 Str Str Int Int)))) × (Tp Str) × (Tp (Dc Str Int)) × (Dc Str Int) × Unit) (P : Int → Prop) : Prop := w_group_need_DSTDSILTSSII_TpS_TpDSI_DSI g.1 g.2.1 g.2.2.1 g.2.2.2.1 P
theorem walk_group_need_DSTDSILTSSII_TpS_TpDSI_DSI {f : Addr} {fd : FuncData} (X : Tx K mg) (C_are_books : CalD P w K mg base 5 "are_books" (spD K AnyW W_are_books) []) (C_are_owners_TpS : CalD P w K mg base 3 "are_owners" (spD K AnyW W_are_owners_TpS) []) (C_check_world_DSTDSILTSSII_TpDSI_DSI : CalD P w K mg base 6 "check_world" (spD K AnyW W_check_world_DSTDSILTSSII_TpDSI_DSI) []) (C_worst_together_DSTDSILTSSII_TpS_TpDSI_DSI : CalD P w K mg base 4 "worst_together" (spD K AnyW W_worst_together_DSTDSILTSSII_TpS_TpDSI_DSI) []) (F : Fun K "group_need" "group_need" (topS 47) f fd) (hm : mg "group_need" = some (.ref f)) (bd : Binds K fd ["books", "members", "moves", "prices"] []) : CalD P w K mg base 7 "group_need" (spD K AnyW W_group_need_DSTDSILTSSII_TpS_TpDSI_DSI) [] :=
  cal_ok F hm bd sc_group_need rfl (by decide) fun cdv A outer s H E hr => by
    exact ⟨_, (pss_cons (ps_if (pt_not (pt_val (pe_cd C_are_books hr (by decide) (by rfl) (pa_cons (pv 0) pa_nil)))) (pss_cons ps_never pss_nil) pss_nil) (pss_cons (ps_if (PW.pt (pw_or (pt_not (pt_val (pe_cd C_are_owners_TpS hr (by decide) (by rfl) (pa_cons (pv 1) pa_nil)))) (pw_or1 (pt_not (pt_val (pe_callB (cr_all rfl) (by rfl) X.b_all rfl (pa_cons (pe_lc rfl sc_group_need.nd (pi_tup (pv 1)) (blkOk_by (N := ["books", "members", "moves", "prices", "member"]) (sc := defScope (topS 47)) (own := [("member", 4)]) (by decide +kernel)) (fun _ _ _ _ _ => (pg_name (i := 4) sc_group_need.nd (by rfl) (by first | exact .inl rfl | exact .inr rfl))) (fun _ _ _ _ _ => pts_nil) (fun _ _ _ _ _ => (pe_cmp (pc_din (hu_of hr) (pv 4) (pv 0))))) pa_nil))))))) (pss_cons ps_never pss_nil) pss_nil) (pss_cons (ps_expr (pe_cd C_check_world_DSTDSILTSSII_TpDSI_DSI hr (by decide) (by rfl) (pa_cons (pv 0) (pa_cons (pv 2) (pa_cons (pv 3) pa_nil))))) (pss_cons (ps_ret (pe_ix ix_tup (pe_cd C_worst_together_DSTDSILTSSII_TpS_TpDSI_DSI hr (by decide) (by rfl) (pa_cons (pv 0) (pa_cons (pv 1) (pa_cons (pv 2) (pa_cons (pv 3) pa_nil))))) pe_int (fun _ _ => rfl))) pss_nil)))), fun W W2 hW g P h => by
      have e1 : W = W2 := hW
      subst e1
      unfold W_group_need_DSTDSILTSSII_TpS_TpDSI_DSI w_group_need_DSTDSILTSSII_TpS_TpDSI_DSI at h
      exact sd_seq (sd_if (et_not (et_B (Ev.imp (ev_call rfl (ea_cons (ev_var rfl (ea_nil h)))) (fun y3887 h3888 => ⟨fun e3909 => sd_seq (sd_never (h3888.1 e3909)), fun e3910 => sd_next (sd_seq (sd_if (et_alt (h3888.2 e3910) (by exact fun h3901 => et_or (et_not (et_B (Ev.imp (ev_call rfl (ea_cons (ev_var rfl (ea_nil h3901)))) (fun y3889 h3890 => ⟨fun e3913 => et_not (et_B (ev_all (ec_ev (ev_fresh (EvF.imp (ef_lcW (evio (evi_tup (ev_var rfl ((h3890.1 e3913))))) (by exact fun x3891 R3892 h3893 => bd_yes (tgc_name (ev_din (ev_var rfl (ecd_ev (ev_var rfl (h3893)))))) (Wle.refl _))) (fun y3896 h3899 => h3899)))))), fun e3914 => h3890.2 e3914⟩)))) (Wle.refl _)) (fun y3911 h3912 => ⟨fun e3907 => sd_seq (sd_never (h3912.1 e3907)), fun e3908 => sd_next (sd_seq (sd_drop (Ev.imp (ev_call rfl (ea_cons (ev_var rfl (ea_cons (ev_var rfl (ea_cons (ev_var rfl (ea_nil (h3912.2 e3908))))))))) (fun y3902 h3903 => sd_seq (sd_retW rfl (ev_p0 (fun h => h) (Ev.imp (ev_call rfl (ea_cons (ev_var rfl (ea_cons (ev_var rfl (ea_cons (ev_var rfl (ea_cons (ev_var rfl (ea_nil h3903)))))))))) (fun y3904 h3905 => h3905))) (Wle.refl _))))))⟩))))⟩)))))⟩

def w__law_same_LS_LS (a_told : (List Str)) (a_due : (List Str)) (P : Bool → Prop) : Prop := ((false = false → (((true || false) = true → altW (fun (P4083 : Bool → Prop) => (((!(true || false)) = false → P4083 (!decide (true = true))) ∧ ((!(true || false)) = true → P4083 true))) (fun (y4109 : Bool) => ((y4109 = false → altW (fun (P4106 : Bool → Prop) => (((decide ((a_told.length : Int) = (a_due.length : Int))) = true → ((-(2 ^ 62) ≤ (a_due.length : Int) ∧ (a_due.length : Int) < 2 ^ 62) ∧ ((rng 0 (Int.toNat (a_due.length : Int))).length ≤ 100000 ∧ compW (fun (x4087 : Int) (R4088 : Option Bool → Prop) => ((∃ (x4094 : Str), atI a_told x4087 = some x4094 ∧ (∃ (x4096 : Str), atI a_due x4087 = some x4096 ∧ w__law_same_S_S x4094 x4096 (fun (y4098 : Bool) => R4088 (some y4098)))))) (fun (y4102 : (List Bool)) => P4106 (List.all y4102 id)) (rng 0 (Int.toNat (a_due.length : Int))) []))) ∧ ((decide ((a_told.length : Int) = (a_due.length : Int))) = false → P4106 false))) (fun (y4108 : Bool) => P y4108)) ∧ (y4109 = true → False)))) ∧ ((true || false) = false → False))) ∧ (false = true → False))
abbrev W__law_same_LS_LS (g : (List Str) × (List Str) × Unit) (P : Bool → Prop) : Prop := w__law_same_LS_LS g.1 g.2.1 P
theorem walk__law_same_LS_LS {f : Addr} {fd : FuncData} (X : Tx K mg) (C__law_same_S_S : CalD P w K mg base 1 "_law_same" (spD K AnyW W__law_same_S_S) []) (F : Fun K "_law_same" "_law_same" (topS 59) f fd) (hm : mg "_law_same" = some (.ref f)) (bd : Binds K fd ["told", "due"] []) : CalD P w K mg base 2 "_law_same" (spD K AnyW W__law_same_LS_LS) [] :=
  cal_ok F hm bd sc__law_same rfl (by decide) fun cdv A outer s H E hr => by
    exact ⟨_, (pss_cons (ps_if (pt_val (pe_callB call_isi (by rfl) X.b_isinstance rfl (pa_cons (pv 1) (pa_cons (pe_bltn (v := .ty "dict") (by rfl) X.b_dict rfl rfl) pa_nil)))) pss_never pss_nil) (pss_cons (ps_if (pt_val (pe_callB call_isiT (by rfl) X.b_isinstance rfl (pa_cons (pv 1) (pa_cons (pe_tup (pa_cons (pe_bltn (v := .ty "list") (by rfl) X.b_list rfl rfl) (pa_cons (pe_bltn (v := .ty "tuple") (by rfl) X.b_tuple rfl rfl) pa_nil))) pa_nil)))) (pss_cons (ps_if (PW.pt (pw_or (pt_not (pt_val (pe_callB call_isiT (by rfl) X.b_isinstance rfl (pa_cons (pv 0) (pa_cons (pe_tup (pa_cons (pe_bltn (v := .ty "list") (by rfl) X.b_list rfl rfl) (pa_cons (pe_bltn (v := .ty "tuple") (by rfl) X.b_tuple rfl rfl) pa_nil))) pa_nil))))) (pw_or1 (pt_cmpR op_ne (pe_callB call_isi (by rfl) X.b_isinstance rfl (pa_cons (pv 0) (pa_cons (pe_bltn (v := .ty "list") (by rfl) X.b_list rfl rfl) pa_nil))) (pe_callB call_isi (by rfl) X.b_isinstance rfl (pa_cons (pv 1) (pa_cons (pe_bltn (v := .ty "list") (by rfl) X.b_list rfl rfl) pa_nil))) (nomark _))))) pss_never pss_nil) (pss_cons (ps_ret (pe_and (pe_cmpR op_eq (pe_callB call_len_seq (by rfl) X.b_len rfl (pa_cons (pv 0) pa_nil)) (pe_callB call_len_seq (by rfl) X.b_len rfl (pa_cons (pv 1) pa_nil)) (nomark _)) (pe_one (pe_callB (cr_all rfl) (by rfl) X.b_all rfl (pa_cons (pe_lc rfl sc__law_same.nd (pi_range1 (by rfl) X.b_range (pa_cons (pe_callB call_len_seq (by rfl) X.b_len rfl (pa_cons (pv 1) pa_nil)) pa_nil)) (blkOk_by (N := ["told", "due", "key", "k"]) (sc := defScope (topS 59)) (own := [("k", 3)]) (by decide +kernel)) (fun _ _ _ _ _ => (pg_name (i := 3) sc__law_same.nd (by rfl) (by first | exact .inl rfl | exact .inr rfl))) (fun _ _ _ _ _ => pts_nil) (fun _ _ _ _ _ => (pe_cd C__law_same_S_S hr (by decide) (by rfl) (pa_cons (pe_ix ix_list (pv 0) (pv 3) (fun _ _ => rfl)) (pa_cons (pe_ix ix_list (pv 1) (pv 3) (fun _ _ => rfl)) pa_nil))))) pa_nil))))) pss_nil)) pss_nil) pss_never)), fun W W2 hW g P h => by
      have e1 : W = W2 := hW
      subst e1
      unfold W__law_same_LS_LS w__law_same_LS_LS at h
      exact sd_seq (sd_if (et_B (ev_isi (α := (List Str)) (b := false) (ev_var rfl (⟨fun e4080 => (h.2 e4080).elim, fun e4079 => sd_next (sd_seq (sd_if (et_B (ev_isiT (α := (List Str)) (b1 := true) (b2 := false) (ev_var rfl (⟨fun e4081 => sd_seq (sd_if (et_alt ((h.1 e4079).1 e4081) (by exact fun h4084 => et_or (et_not (et_B (ev_isiT (α := (List Str)) (b1 := true) (b2 := false) (ev_var rfl (⟨fun e4152 => et_test (ev_neB (fun h => h) (ev_isi (α := (List Str)) (b := true) (ev_var rfl (ev_isi (α := (List Str)) (b := true) (ev_var rfl ((h4084.1 e4152))))))), fun e4153 => h4084.2 e4153⟩))))) (Wle.refl _)) (fun y4150 h4151 => ⟨fun e4086 => (h4151.2 e4086).elim, fun e4085 => sd_next (sd_seq (sd_retW rfl (ev_alt (h4151.1 e4085) (by exact fun h4107 => ev_andV (ev_eqI (fun h => h) (ev_lenC (fun h => h) (ec_ev (ev_var rfl (ev_lenC (fun h => h) (ec_ev (ev_var rfl (⟨fun e4156 => ev_all (ec_ev (ev_fresh (EvF.imp (ef_lcW (evio (evi_rng1 (ea_cons (ev_lenC (fun h => h) (ec_ev (ev_var rfl (ea_nil ⟨(h4107.1 e4156).1, (h4107.1 e4156).2⟩))))))) (by exact fun x4087 R4088 h4089 => bd_yes (tgc_name (Ev.imp (ev_call rfl (ea_cons (ev_ixL (fun h => h) (ec_ev (ev_var rfl (ev_var rfl (Exists.elim h4089 fun x4094 h4095 => ⟨x4094, h4095.1, ea_cons (ev_ixL (fun h => h) (ec_ev (ev_var rfl (ev_var rfl (Exists.elim h4095.2 fun x4096 h4097 => ⟨x4096, h4097.1, ea_nil h4097.2⟩)))))⟩))))))) (fun y4098 h4099 => h4099))) (Wle.refl _))) (fun y4102 h4105 => h4105)))), fun e4157 => h4107.2 e4157⟩)))))))) (Wle.refl _)) (fun y4154 h4155 => h4155)) (Wle.refl _)))⟩))), fun e4082 => ((h.1 e4079).2 e4082).elim⟩))))))⟩)))))⟩

def w__law_same_LI_LI (a_told : (List Int)) (a_due : (List Int)) (P : Bool → Prop) : Prop := ((false = false → (((true || false) = true → altW (fun (P4267 : Bool → Prop) => (((!(true || false)) = false → P4267 (!decide (true = true))) ∧ ((!(true || false)) = true → P4267 true))) (fun (y4293 : Bool) => ((y4293 = false → altW (fun (P4290 : Bool → Prop) => (((decide ((a_told.length : Int) = (a_due.length : Int))) = true → ((-(2 ^ 62) ≤ (a_due.length : Int) ∧ (a_due.length : Int) < 2 ^ 62) ∧ ((rng 0 (Int.toNat (a_due.length : Int))).length ≤ 100000 ∧ compW (fun (x4271 : Int) (R4272 : Option Bool → Prop) => ((∃ (x4278 : Int), atI a_told x4271 = some x4278 ∧ (∃ (x4280 : Int), atI a_due x4271 = some x4280 ∧ w__law_same_I_I x4278 x4280 (fun (y4282 : Bool) => R4272 (some y4282)))))) (fun (y4286 : (List Bool)) => P4290 (List.all y4286 id)) (rng 0 (Int.toNat (a_due.length : Int))) []))) ∧ ((decide ((a_told.length : Int) = (a_due.length : Int))) = false → P4290 false))) (fun (y4292 : Bool) => P y4292)) ∧ (y4293 = true → False)))) ∧ ((true || false) = false → False))) ∧ (false = true → False))
abbrev W__law_same_LI_LI (g : (List Int) × (List Int) × Unit) (P : Bool → Prop) : Prop := w__law_same_LI_LI g.1 g.2.1 P
theorem walk__law_same_LI_LI {f : Addr} {fd : FuncData} (X : Tx K mg) (C__law_same_I_I : CalD P w K mg base 1 "_law_same" (spD K AnyW W__law_same_I_I) []) (F : Fun K "_law_same" "_law_same" (topS 59) f fd) (hm : mg "_law_same" = some (.ref f)) (bd : Binds K fd ["told", "due"] []) : CalD P w K mg base 2 "_law_same" (spD K AnyW W__law_same_LI_LI) [] :=
  cal_ok F hm bd sc__law_same rfl (by decide) fun cdv A outer s H E hr => by
    exact ⟨_, (pss_cons (ps_if (pt_val (pe_callB call_isi (by rfl) X.b_isinstance rfl (pa_cons (pv 1) (pa_cons (pe_bltn (v := .ty "dict") (by rfl) X.b_dict rfl rfl) pa_nil)))) pss_never pss_nil) (pss_cons (ps_if (pt_val (pe_callB call_isiT (by rfl) X.b_isinstance rfl (pa_cons (pv 1) (pa_cons (pe_tup (pa_cons (pe_bltn (v := .ty "list") (by rfl) X.b_list rfl rfl) (pa_cons (pe_bltn (v := .ty "tuple") (by rfl) X.b_tuple rfl rfl) pa_nil))) pa_nil)))) (pss_cons (ps_if (PW.pt (pw_or (pt_not (pt_val (pe_callB call_isiT (by rfl) X.b_isinstance rfl (pa_cons (pv 0) (pa_cons (pe_tup (pa_cons (pe_bltn (v := .ty "list") (by rfl) X.b_list rfl rfl) (pa_cons (pe_bltn (v := .ty "tuple") (by rfl) X.b_tuple rfl rfl) pa_nil))) pa_nil))))) (pw_or1 (pt_cmpR op_ne (pe_callB call_isi (by rfl) X.b_isinstance rfl (pa_cons (pv 0) (pa_cons (pe_bltn (v := .ty "list") (by rfl) X.b_list rfl rfl) pa_nil))) (pe_callB call_isi (by rfl) X.b_isinstance rfl (pa_cons (pv 1) (pa_cons (pe_bltn (v := .ty "list") (by rfl) X.b_list rfl rfl) pa_nil))) (nomark _))))) pss_never pss_nil) (pss_cons (ps_ret (pe_and (pe_cmpR op_eq (pe_callB call_len_seq (by rfl) X.b_len rfl (pa_cons (pv 0) pa_nil)) (pe_callB call_len_seq (by rfl) X.b_len rfl (pa_cons (pv 1) pa_nil)) (nomark _)) (pe_one (pe_callB (cr_all rfl) (by rfl) X.b_all rfl (pa_cons (pe_lc rfl sc__law_same.nd (pi_range1 (by rfl) X.b_range (pa_cons (pe_callB call_len_seq (by rfl) X.b_len rfl (pa_cons (pv 1) pa_nil)) pa_nil)) (blkOk_by (N := ["told", "due", "key", "k"]) (sc := defScope (topS 59)) (own := [("k", 3)]) (by decide +kernel)) (fun _ _ _ _ _ => (pg_name (i := 3) sc__law_same.nd (by rfl) (by first | exact .inl rfl | exact .inr rfl))) (fun _ _ _ _ _ => pts_nil) (fun _ _ _ _ _ => (pe_cd C__law_same_I_I hr (by decide) (by rfl) (pa_cons (pe_ix ix_list (pv 0) (pv 3) (fun _ _ => rfl)) (pa_cons (pe_ix ix_list (pv 1) (pv 3) (fun _ _ => rfl)) pa_nil))))) pa_nil))))) pss_nil)) pss_nil) pss_never)), fun W W2 hW g P h => by
      have e1 : W = W2 := hW
      subst e1
      unfold W__law_same_LI_LI w__law_same_LI_LI at h
      exact sd_seq (sd_if (et_B (ev_isi (α := (List Int)) (b := false) (ev_var rfl (⟨fun e4264 => (h.2 e4264).elim, fun e4263 => sd_next (sd_seq (sd_if (et_B (ev_isiT (α := (List Int)) (b1 := true) (b2 := false) (ev_var rfl (⟨fun e4265 => sd_seq (sd_if (et_alt ((h.1 e4263).1 e4265) (by exact fun h4268 => et_or (et_not (et_B (ev_isiT (α := (List Int)) (b1 := true) (b2 := false) (ev_var rfl (⟨fun e4336 => et_test (ev_neB (fun h => h) (ev_isi (α := (List Int)) (b := true) (ev_var rfl (ev_isi (α := (List Int)) (b := true) (ev_var rfl ((h4268.1 e4336))))))), fun e4337 => h4268.2 e4337⟩))))) (Wle.refl _)) (fun y4334 h4335 => ⟨fun e4270 => (h4335.2 e4270).elim, fun e4269 => sd_next (sd_seq (sd_retW rfl (ev_alt (h4335.1 e4269) (by exact fun h4291 => ev_andV (ev_eqI (fun h => h) (ev_lenC (fun h => h) (ec_ev (ev_var rfl (ev_lenC (fun h => h) (ec_ev (ev_var rfl (⟨fun e4340 => ev_all (ec_ev (ev_fresh (EvF.imp (ef_lcW (evio (evi_rng1 (ea_cons (ev_lenC (fun h => h) (ec_ev (ev_var rfl (ea_nil ⟨(h4291.1 e4340).1, (h4291.1 e4340).2⟩))))))) (by exact fun x4271 R4272 h4273 => bd_yes (tgc_name (Ev.imp (ev_call rfl (ea_cons (ev_ixL (fun h => h) (ec_ev (ev_var rfl (ev_var rfl (Exists.elim h4273 fun x4278 h4279 => ⟨x4278, h4279.1, ea_cons (ev_ixL (fun h => h) (ec_ev (ev_var rfl (ev_var rfl (Exists.elim h4279.2 fun x4280 h4281 => ⟨x4280, h4281.1, ea_nil h4281.2⟩)))))⟩))))))) (fun y4282 h4283 => h4283))) (Wle.refl _))) (fun y4286 h4289 => h4289)))), fun e4341 => h4291.2 e4341⟩)))))))) (Wle.refl _)) (fun y4338 h4339 => h4339)) (Wle.refl _)))⟩))), fun e4266 => ((h.1 e4263).2 e4266).elim⟩))))))⟩)))))⟩

def w__law_same_DSI_DSI (a_told : (Dc Str Int)) (a_due : (Dc Str Int)) (P : Bool → Prop) : Prop := ((true = true → altW (fun (P4381 : Bool → Prop) => (((!true) = false → (w__law_same_LS_LS (List.map Prod.fst a_told.l) (List.map Prod.fst a_due.l) (fun (y4379 : Bool) => P4381 (!y4379)))) ∧ ((!true) = true → P4381 true))) (fun (y4429 : Bool) => ((y4429 = true → P false) ∧ (y4429 = false → (((List.map Prod.fst a_told.l).length ≤ 100000 ∧ compW (fun (x4405 : Str) (R4406 : Option Int → Prop) => (∃ (x4408 : Int), look a_told.l x4405 = some x4408 ∧ R4406 (some x4408))) (fun (y4412 : (List Int)) => ((List.map Prod.fst a_due.l).length ≤ 100000 ∧ compW (fun (x4416 : Str) (R4417 : Option Int → Prop) => (∃ (x4419 : Int), look a_due.l x4416 = some x4419 ∧ R4417 (some x4419))) (fun (y4423 : (List Int)) => w__law_same_LI_LI y4412 y4423 (fun (y4427 : Bool) => P y4427)) (List.map Prod.fst a_due.l) [])) (List.map Prod.fst a_told.l) [])))))) ∧ (true = false → False))
abbrev W__law_same_DSI_DSI (g : (Dc Str Int) × (Dc Str Int) × Unit) (P : Bool → Prop) : Prop := w__law_same_DSI_DSI g.1 g.2.1 P
theorem walk__law_same_DSI_DSI {f : Addr} {fd : FuncData} (X : Tx K mg) (C__law_same_LS_LS : CalD P w K mg base 2 "_law_same" (spD K AnyW W__law_same_LS_LS) []) (C__law_same_LI_LI : CalD P w K mg base 2 "_law_same" (spD K AnyW W__law_same_LI_LI) []) (F : Fun K "_law_same" "_law_same" (topS 59) f fd) (hm : mg "_law_same" = some (.ref f)) (bd : Binds K fd ["told", "due"] []) : CalD P w K mg base 3 "_law_same" (spD K AnyW W__law_same_DSI_DSI) [] :=
  cal_ok F hm bd sc__law_same rfl (by decide) fun cdv A outer s H E hr => by
    exact ⟨_, (pss_cons (ps_if (pt_val (pe_callB call_isi (by rfl) X.b_isinstance rfl (pa_cons (pv 1) (pa_cons (pe_bltn (v := .ty "dict") (by rfl) X.b_dict rfl rfl) pa_nil)))) (pss_cons (ps_if (PW.pt (pw_or (pt_not (pt_val (pe_callB call_isi (by rfl) X.b_isinstance rfl (pa_cons (pv 0) (pa_cons (pe_bltn (v := .ty "dict") (by rfl) X.b_dict rfl rfl) pa_nil))))) (pw_or1 (pt_not (pt_val (pe_cd C__law_same_LS_LS hr (by decide) (by rfl) (pa_cons (pe_callTy (call_listD rfl) (by rfl) X.b_list rfl (pa_cons (pv 0) pa_nil)) (pa_cons (pe_callTy (call_listD rfl) (by rfl) X.b_list rfl (pa_cons (pv 1) pa_nil)) pa_nil)))))))) (pss_cons (ps_ret pe_bl) pss_nil) pss_nil) (pss_cons (ps_ret (pe_cd C__law_same_LI_LI hr (by decide) (by rfl) (pa_cons (pe_lockO (pe_lc rfl sc__law_same.nd (pi_keys (pv 0)) (blkOk_by (N := ["told", "due", "key", "k"]) (sc := defScope (topS 59)) (own := [("key", 2)]) (by decide +kernel)) (fun _ _ _ _ _ => (pg_name (i := 2) sc__law_same.nd (by rfl) (by first | exact .inl rfl | exact .inr rfl))) (fun _ _ _ _ _ => pts_nil) (fun _ _ _ _ _ => (pe_dget (hu_of hr) (pv 0) (pv 2) (fun _ _ => rfl))))) (pa_cons (pe_lockO (pe_lc rfl sc__law_same.nd (pi_keys (pv 1)) (blkOk_by (N := ["told", "due", "key", "k"]) (sc := defScope (topS 59)) (own := [("key", 2)]) (by decide +kernel)) (fun _ _ _ _ _ => (pg_name (i := 2) sc__law_same.nd (by rfl) (by first | exact .inl rfl | exact .inr rfl))) (fun _ _ _ _ _ => pts_nil) (fun _ _ _ _ _ => (pe_dget (hu_of hr) (pv 1) (pv 2) (fun _ _ => rfl))))) pa_nil)))) pss_nil)) pss_nil) pss_never), fun W W2 hW g P h => by
      have e1 : W = W2 := hW
      subst e1
      unfold W__law_same_DSI_DSI w__law_same_DSI_DSI at h
      exact sd_seq (sd_if (et_B (ev_isi (α := (Dc Str Int)) (b := true) (ev_var rfl (⟨fun e4377 => sd_seq (sd_if (et_alt (h.1 e4377) (by exact fun h4382 => et_or (et_not (et_B (ev_isi (α := (Dc Str Int)) (b := true) (ev_var rfl (⟨fun e4438 => et_not (et_B (Ev.imp (ev_call rfl (ea_cons (ev_fresh (ef_listD (ecd_ev (ev_var rfl (ea_cons (ev_fresh (ef_listD (ecd_ev (ev_var rfl (ea_nil (h4382.1 e4438))))))))))))) (fun y4379 h4380 => h4380))), fun e4439 => h4382.2 e4439⟩))))) (Wle.refl _)) (fun y4436 h4437 => ⟨fun e4430 => sd_seq (sd_retW rfl (ev_bl ((h4437.1 e4430))) (Wle.refl _)), fun e4431 => sd_next (sd_seq (sd_retW rfl (Ev.imp (ev_call rfl (ea_cons (ev_fresh (EvF.imp (ef_lcKW rfl (ek_keys rfl) (h4437.2 e4431) (by exact fun x4405 R4406 h4407 => bd_yes (tgc_name (ev_dget (ecd_ev (ev_var rfl (ev_var rfl (Exists.elim h4407 fun x4408 h4409 => ⟨x4408, h4409.1, h4409.2⟩)))))) (Wle.refl _))) (fun y4412 h4415 => ea_cons (ev_fresh (EvF.imp (ef_lcKW rfl (ek_keys rfl) h4415 (by exact fun x4416 R4417 h4418 => bd_yes (tgc_name (ev_dget (ecd_ev (ev_var rfl (ev_var rfl (Exists.elim h4418 fun x4419 h4420 => ⟨x4419, h4420.1, h4420.2⟩)))))) (Wle.refl _))) (fun y4423 h4426 => ea_nil h4426)))))))) (fun y4427 h4428 => h4428)) (Wle.refl _)))⟩))), fun e4378 => (h.2 e4378).elim⟩)))))⟩

def w__law_same_OI_OI_p1 (v_told : (Option Int)) (v_due : (Option Int)) (P : Bool → Prop) : Prop := (((Option.isSome v_due && true) = true → altW (fun (P4600 : Bool → Prop) => (((Option.isSome v_told && true) = true → P4600 (decide (v_told = v_due))) ∧ ((Option.isSome v_told && true) = false → P4600 false))) (fun (y4602 : Bool) => P y4602)) ∧ ((Option.isSome v_due && true) = false → (((Option.isSome v_due && false) = false → altW (fun (P4605 : Bool → Prop) => (((Option.isNone v_due) = true → P4605 (Option.isNone v_told)) ∧ ((Option.isNone v_due) = false → P4605 false))) (fun (y4607 : Bool) => P y4607)) ∧ ((Option.isSome v_due && false) = true → False))))
theorem part__law_same_OI_OI_p1 (X : Tx K mg)  {f : Addr} {cdv : Value} {A : Around} {outer : List Env} {s : Shared} {H : Hp} {E : XK} (hr : Room 0 (A.deeper (envOfC "_law_same" (defScope (topS 59)) s.heap.objs.size f cdv))) :
    ∃ t, PSs (cxOf CX0 P w K mg base ["told", "due", "key", "k"] "_law_same" (defScope (topS 59)) f cdv A outer s H E).nox ((defBody (topS 59)).drop 3) t ∧ ∀ (W : Wd), ∀ (v_told : (Option Int)) (v_due : (Option Int)) (P : Bool → Prop), w__law_same_OI_OI_p1 v_told v_due P → Sd W K t [sD (α := (Option Int)) v_told, sD (α := (Option Int)) v_due, .non, .non] { nx := fun _ _ => False, rt := rtW W P } := by
  exact ⟨_, (pss_cons (ps_if (pt_val (pe_callB call_isi (by rfl) X.b_isinstance rfl (pa_cons (pv 1) (pa_cons (pe_bltn (v := .ty "int") (by rfl) X.b_int rfl rfl) pa_nil)))) (pss_cons (ps_ret (pe_and (pe_callB call_isi (by rfl) X.b_isinstance rfl (pa_cons (pv 0) (pa_cons (pe_bltn (v := .ty "int") (by rfl) X.b_int rfl rfl) pa_nil))) (pe_one (pe_cmpR op_eq (pv 0) (pv 1) (nomark _))))) pss_nil) pss_nil) (pss_cons (ps_if (pt_val (pe_callB call_isi (by rfl) X.b_isinstance rfl (pa_cons (pv 1) (pa_cons (pe_bltn (v := .ty "str") (by rfl) X.b_str rfl rfl) pa_nil)))) pss_never pss_nil) (pss_cons (ps_ret (pe_and (pe_cmpR op_isN (pv 1) pe_non (nomark _)) (pe_one (pe_cmpR op_isN (pv 0) pe_non (nomark _))))) pss_nil))), fun W v_told v_due P h => by
    unfold w__law_same_OI_OI_p1 at h
    exact sd_seq (sd_if (et_B (ev_isiO (α := Int) (b := true) (ev_var rfl (⟨fun e4608 => sd_seq (sd_retW rfl (ev_alt (h.1 e4608) (by exact fun h4601 => ev_andV (ev_isiO (α := Int) (b := true) (ev_var rfl (⟨fun e4612 => ev_eqO (fun h => h) (ev_var rfl (ev_var rfl ((h4601.1 e4612)))), fun e4613 => h4601.2 e4613⟩))) (Wle.refl _)) (fun y4610 h4611 => h4611)) (Wle.refl _)), fun e4609 => sd_next (sd_seq (sd_if (et_B (ev_isiO (α := Int) (b := false) (ev_var rfl (⟨fun e4604 => ((h.2 e4609).2 e4604).elim, fun e4603 => sd_next (sd_seq (sd_retW rfl (ev_alt ((h.2 e4609).1 e4603) (by exact fun h4606 => ev_andV (ev_isN (fun h => h) (ev_var rfl (⟨fun e4620 => ev_isN (fun h => h) (ev_var rfl ((h4606.1 e4620))), fun e4621 => h4606.2 e4621⟩))) (Wle.refl _)) (fun y4618 h4619 => h4619)) (Wle.refl _)))⟩))))))⟩)))))⟩
def w__law_same_OI_OI (a_told : (Option Int)) (a_due : (Option Int)) (P : Bool → Prop) : Prop := (((Option.isSome a_due && false) = false → (((Option.isSome a_due && (false || false)) = false → altW (fun (P4596 : Bool → Prop) => (((Option.isSome a_due && false) = false → P4596 (Option.isSome a_told && false)) ∧ ((Option.isSome a_due && false) = true → P4596 true))) (fun (y4622 : Bool) => ((y4622 = false → w__law_same_OI_OI_p1 a_told a_due P) ∧ (y4622 = true → False)))) ∧ ((Option.isSome a_due && (false || false)) = true → False))) ∧ ((Option.isSome a_due && false) = true → False))
abbrev W__law_same_OI_OI (g : (Option Int) × (Option Int) × Unit) (P : Bool → Prop) : Prop := w__law_same_OI_OI g.1 g.2.1 P
theorem walk__law_same_OI_OI {f : Addr} {fd : FuncData} (X : Tx K mg)  (F : Fun K "_law_same" "_law_same" (topS 59) f fd) (hm : mg "_law_same" = some (.ref f)) (bd : Binds K fd ["told", "due"] []) : CalD P w K mg base 1 "_law_same" (spD K AnyW W__law_same_OI_OI) [] :=
  cal_ok F hm bd sc__law_same rfl (by decide) fun cdv A outer s H E hr => by
    obtain ⟨t1, d1, s1⟩ := part__law_same_OI_OI_p1 X  hr
    exact ⟨_, (pss_cons (ps_if (pt_val (pe_callB call_isi (by rfl) X.b_isinstance rfl (pa_cons (pv 1) (pa_cons (pe_bltn (v := .ty "dict") (by rfl) X.b_dict rfl rfl) pa_nil)))) pss_never pss_nil) (pss_cons (ps_if (pt_val (pe_callB call_isiT (by rfl) X.b_isinstance rfl (pa_cons (pv 1) (pa_cons (pe_tup (pa_cons (pe_bltn (v := .ty "list") (by rfl) X.b_list rfl rfl) (pa_cons (pe_bltn (v := .ty "tuple") (by rfl) X.b_tuple rfl rfl) pa_nil))) pa_nil)))) pss_never pss_nil) (pss_cons (ps_if (PW.pt (pw_or (pt_val (pe_callB call_isi (by rfl) X.b_isinstance rfl (pa_cons (pv 1) (pa_cons (pe_bltn (v := .ty "bool") (by rfl) X.b_bool rfl rfl) pa_nil)))) (pw_or1 (pt_val (pe_callB call_isi (by rfl) X.b_isinstance rfl (pa_cons (pv 0) (pa_cons (pe_bltn (v := .ty "bool") (by rfl) X.b_bool rfl rfl) pa_nil))))))) pss_never pss_nil) d1))), fun W W2 hW g P h => by
      have e1 : W = W2 := hW
      subst e1
      unfold W__law_same_OI_OI w__law_same_OI_OI at h
      exact sd_seq (sd_if (et_B (ev_isiO (α := Int) (b := false) (ev_var rfl (⟨fun e4593 => (h.2 e4593).elim, fun e4592 => sd_next (sd_seq (sd_if (et_B (ev_isiOT (α := Int) (b1 := false) (b2 := false) (ev_var rfl (⟨fun e4595 => ((h.1 e4592).2 e4595).elim, fun e4594 => sd_next (sd_seq (sd_if (et_alt ((h.1 e4592).1 e4594) (by exact fun h4597 => et_or (et_B (ev_isiO (α := Int) (b := false) (ev_var rfl (⟨fun e4637 => et_B (ev_isiO (α := Int) (b := false) (ev_var rfl ((h4597.1 e4637)))), fun e4638 => h4597.2 e4638⟩)))) (Wle.refl _)) (fun y4635 h4636 => ⟨fun e4599 => (h4636.2 e4599).elim, fun e4598 => sd_next (sd_le (Wle.refl _) (s1 W g.1 g.2.1 _ (h4636.1 e4598)))⟩))))⟩))))))⟩)))))⟩

def w_law_p7 (v_script : Sq) (v_pacts : (List Str)) (v_moves : (List (Dc Str Int))) (v_prices : (Dc Str Int)) (v_books : (Dc Str ((Dc Str Int) × (List (T4 Str Str Int Int))))) (v_names : (List Str)) (v_kept : Str) (v_every : (List (List Str))) (v_due : (Dc Str Int)) (v_losses : (List Int)) (v_worst : (Dc Str Int)) (v_told : (List (Str × Int))) (v_needs : (List Int)) (v_common : (List Int)) (v_rest : Int) (P : (Option Bool) → Prop) : Prop := ((w_saved v_books v_moves v_prices (fun (y4912 : Int) => w__law_same_I_I y4912 v_rest (fun (y4914 : Bool) => (((!y4914) = true → P (some false)) ∧ ((!y4914) = false → ((w_common_move v_books v_moves v_prices (fun (y4920 : (Option Int)) => ((List.map some v_common).length + [(none : (Option Int))].length ≤ 100000 ∧ (∃ (x4922 : (Option Int)), atI ((List.map some v_common) ++ [(none : (Option Int))]) (0 : Int) = some x4922 ∧ w__law_same_OI_OI y4920 x4922 (fun (y4924 : Bool) => (((!y4924) = true → P (some false)) ∧ ((!y4924) = false → (showOk (L3.mk v_books v_moves v_prices) ∧ (((!decide ((PyS.shown (L3.mk v_books v_moves v_prices)) = v_kept)) = true → P (some false)) ∧ ((!decide ((PyS.shown (L3.mk v_books v_moves v_prices)) = v_kept)) = false → P none)))))))))))))))))
theorem part_law_p7 (X : Tx K mg) (C__law_same_I_I : CalD P w K mg base 1 "_law_same" (spD K AnyW W__law_same_I_I) []) (C_saved_k210 : CalK P w K mg base 7 "saved" (spD K AnyW W_saved) ["prices", "moves", "books"] @kwp_210) (C__law_same_OI_OI : CalD P w K mg base 1 "_law_same" (spD K AnyW W__law_same_OI_OI) []) (C_common_move_k210 : CalK P w K mg base 7 "common_move" (spD K AnyW W_common_move) ["prices", "moves", "books"] @kwp_210) {f : Addr} {cdv : Value} {A : Around} {outer : List Env} {s : Shared} {H : Hp} {E : XK} (hgd : A.guards = some []) (hr : Room 11 (A.deeper (envOfC "law" (defScope (topS 73)) s.heap.objs.size f cdv))) :
    ∃ t, PSs (cxOf CX0 P w K mg base ["script", "k", "tape", "pacts", "moves", "prices", "books", "names", "kept", "every", "turn", "group", "due", "losses", "worst", "told", "needs", "common", "at", "rest", "name"] "law" (defScope (topS 73)) f cdv A outer s H E).nox (loopS.drop 19) t ∧ ∀ (r : Addr), ∀ (v_script : Sq) (v_pacts : (List Str)) (v_moves : (List (Dc Str Int))) (v_prices : (Dc Str Int)) (v_books : (Dc Str ((Dc Str Int) × (List (T4 Str Str Int Int))))) (v_names : (List Str)) (v_kept : Str) (v_every : (List (List Str))) (v_due : (Dc Str Int)) (v_losses : (List Int)) (v_worst : (Dc Str Int)) (v_told : (List (Str × Int))) (v_needs : (List Int)) (v_common : (List Int)) (v_rest : Int) (P : (Option Bool) → Prop), w_law_p7 v_script v_pacts v_moves v_prices v_books v_names v_kept v_every v_due v_losses v_worst v_told v_needs v_common v_rest P → Sd (Wtp r) K t [sD (α := Sq) v_script, .non, .raw (.ref r), sD (α := (List Str)) v_pacts, sD (α := (List (Dc Str Int))) v_moves, sD (α := (Dc Str Int)) v_prices, sD (α := (Dc Str ((Dc Str Int) × (List (T4 Str Str Int Int))))) v_books, sD (α := (List Str)) v_names, sD (α := Str) v_kept, sD (α := (List (List Str))) v_every, .non, .non, sD (α := (Dc Str Int)) v_due, sD (α := (List Int)) v_losses, sD (α := (Dc Str Int)) v_worst, sM (κ := Str) (α := Int) v_told, sD (α := (List Int)) v_needs, sD (α := (List Int)) v_common, .non, sD (α := Int) v_rest, .non] { nx := fun W1 δ2 => Wle W1 (Wtp r) ∧ δ2[0]? = some (sD (α := Sq) v_script) ∧ δ2.length = 21 ∧ P none, rt := fun W1 y => Wle W1 (Wtp r) ∧ P (some y) } := by
  exact ⟨_, (pss_cons (ps_if (pt_not (pt_val (pe_cd C__law_same_I_I hr (by decide) (by rfl) (pa_cons (pe_cdK C_saved_k210 hr (by decide) (by rfl) (pk_cons (pv 5) (pk_cons (pv 4) (pk_cons (pv 6) pk_nil)))) (pa_cons (pv 19) pa_nil))))) (pss_cons (ps_ret pe_bl) pss_nil) pss_nil) (pss_cons (ps_if (pt_not (pt_val (pe_cd C__law_same_OI_OI hr (by decide) (by rfl) (pa_cons (pe_cdK C_common_move_k210 hr (by decide) (by rfl) (pk_cons (pv 5) (pk_cons (pv 4) (pk_cons (pv 6) pk_nil)))) (pa_cons (pe_ix ix_list (pe_op op_cat (pv 17) (pe_lst (pa_cons pe_non pa_nil))) pe_int (fun _ _ => rfl)) pa_nil))))) (pss_cons (ps_ret pe_bl) pss_nil) pss_nil) (pss_cons (ps_if (pt_cmpR op_ne (pe_callB (cr_repr hgd hr) (by rfl) X.b_repr rfl (pa_cons (pe_lst (pa_cons (pv 6) (pa_cons (pv 4) (pa_cons (pv 5) pa_nil)))) pa_nil)) (pv 8) (nomark _)) (pss_cons (ps_ret pe_bl) pss_nil) pss_nil) pss_nil))), fun r v_script v_pacts v_moves v_prices v_books v_names v_kept v_every v_due v_losses v_worst v_told v_needs v_common v_rest P h => by
    unfold w_law_p7 at h
    exact sd_seq (sd_if (et_not (et_B (Ev.imp (ev_call rfl (ea_cons (Ev.imp (ev_callK (F := W_saved) (fun g : (Dc Str Int) × (List (Dc Str Int)) × (Dc Str ((Dc Str Int) × (List (T4 Str Str Int Int)))) × Unit => (g.2.2.1, g.2.1, g.1, ())) (fun W K S vs g hh => by obtain ⟨v0, r0, rfl, h0, v1, r1, rfl, h1, v2, r2, rfl, h2, e⟩ := hh; have e2 : r2 = [] := e; subst e2; exact ⟨rfl, v2, _, rfl, h2, v1, _, rfl, h1, v0, _, rfl, h0, rfl⟩) rfl (ea_cons (ev_var rfl (ea_cons (ev_var rfl (ea_cons (ev_var rfl (ea_nil h)))))))) (fun y4912 h4913 => ea_cons (ev_var rfl (ea_nil h4913)))))) (fun y4914 h4915 => ⟨fun e4930 => sd_seq (sd_ret (Ev.imp (ev_bl ((h4915.1 e4930))) (fun _ z => ⟨(Wle.refl _), z⟩))), fun e4931 => sd_next (sd_seq (sd_if (et_not (et_B (Ev.imp (ev_call rfl (ea_cons (Ev.imp (ev_callK (F := W_common_move) (fun g : (Dc Str Int) × (List (Dc Str Int)) × (Dc Str ((Dc Str Int) × (List (T4 Str Str Int Int)))) × Unit => (g.2.2.1, g.2.1, g.1, ())) (fun W K S vs g hh => by obtain ⟨v0, r0, rfl, h0, v1, r1, rfl, h1, v2, r2, rfl, h2, e⟩ := hh; have e2 : r2 = [] := e; subst e2; exact ⟨rfl, v2, _, rfl, h2, v1, _, rfl, h1, v0, _, rfl, h0, rfl⟩) rfl (ea_cons (ev_var rfl (ea_cons (ev_var rfl (ea_cons (ev_var rfl (ea_nil (h4915.2 e4931))))))))) (fun y4920 h4921 => ea_cons (ev_ixL (fun h => h) (ec_ev (ev_fresh (ef_cat (fun h => h) (ec_opt (ec_ev (ev_var rfl (ec_ev (ev_fresh (ef_lst (es_cons (ev_nonO (es_nil (⟨Nat.le_of_ble_eq_true rfl, ⟨h4921.1, ev_int (Exists.elim h4921.2 fun x4922 h4923 => ⟨x4922, h4923.1, ea_nil h4923.2⟩)⟩⟩)))))))))))))))))) (fun y4924 h4925 => ⟨fun e4928 => sd_seq (sd_ret (Ev.imp (ev_bl ((h4925.1 e4928))) (fun _ z => ⟨(Wle.refl _), z⟩))), fun e4929 => sd_next (sd_seq (sd_if (et_test (ev_neS (fun h => h) (ev_repr (α := (L3 (Dc Str ((Dc Str Int) × (List (T4 Str Str Int Int)))) (List (Dc Str Int)) (Dc Str Int))) (ev_l3 (ea_cons (ev_var rfl (ea_cons (ev_var rfl (ea_cons (ev_var rfl (ea_nil (⟨(h4925.2 e4929).1, ev_var rfl (⟨fun e4926 => sd_seq (sd_ret (Ev.imp (ev_bl (((h4925.2 e4929).2.1 e4926))) (fun _ z => ⟨(Wle.refl _), z⟩))), fun e4927 => sd_next (sd_next ⟨(Wle.refl _), rfl, rfl, ((h4925.2 e4929).2.2 e4927)⟩)⟩)⟩))))))))))))))⟩))))))⟩)))))⟩
def w_law_p6 (v_script : Sq) (v_pacts : (List Str)) (v_moves : (List (Dc Str Int))) (v_prices : (Dc Str Int)) (v_books : (Dc Str ((Dc Str Int) × (List (T4 Str Str Int Int))))) (v_names : (List Str)) (v_kept : Str) (v_every : (List (List Str))) (v_due : (Dc Str Int)) (v_losses : (List Int)) (v_worst : (Dc Str Int)) (v_told : (List (Str × Int))) (v_needs : (List Int)) (v_common : (List Int)) (P : (Option Bool) → Prop) : Prop := ((-(2 ^ 62) ≤ (v_moves.length : Int) ∧ (v_moves.length : Int) < 2 ^ 62) ∧ forW (fun (x4874 : Int) (s4871 : (List Int)) (n4875 b4876 : (List Int) → Prop) => joinW (fun (k4895 : (List Int) → Prop) => (v_names.length ≤ 100000 ∧ compW (fun (x4877 : Str) (R4878 : Option Int → Prop) => ((∃ (x4880 : ((Dc Str Int) × (List (T4 Str Str Int Int)))), look v_books.l x4877 = some x4880 ∧ (∃ (x4882 : (Dc Str Int)), atI v_moves x4874 = some x4882 ∧ w__law_book_loss x4880 x4882 v_prices (fun (y4884 : Int) => R4878 (some y4884)))))) (fun (y4888 : (List Int)) => (((decide (y4888 = v_needs)) = true → s4871.length < 100000 ∧ ∀ (z_common_4896 : (List Int)), z_common_4896 = s4871 ++ [x4874] → k4895 z_common_4896) ∧ ((decide (y4888 = v_needs)) = false → k4895 s4871))) v_names [])) (fun (s4894 : (List Int)) => n4875 s4894)) (fun (s4902 : (List Int)) => (0 < v_losses.length ∧ ∀ m4903, m4903 ∈ v_losses → (∀ y4906, y4906 ∈ v_losses → y4906 ≤ m4903) → ∀ (z_rest_4907 : Int), z_rest_4907 = ((List.sum v_needs) - m4903) → altW (fun (P4908 : Bool → Prop) => (((decide (z_rest_4907 < (0 : Int))) = false → P4908 (!decide ((decide (z_rest_4907 = (0 : Int))) = (!decide (s4902 = ([] : List Int)))))) ∧ ((decide (z_rest_4907 < (0 : Int))) = true → P4908 true))) (fun (y4932 : Bool) => ((y4932 = true → P (some false)) ∧ (y4932 = false → w_law_p7 v_script v_pacts v_moves v_prices v_books v_names v_kept v_every v_due v_losses v_worst v_told v_needs s4902 z_rest_4907 P))))) (rng 0 (Int.toNat (v_moves.length : Int))) v_common)
theorem part_law_p6 (X : Tx K mg) (C__law_book_loss : CalD P w K mg base 2 "_law_book_loss" (spD K AnyW W__law_book_loss) []) (C__law_same_I_I : CalD P w K mg base 1 "_law_same" (spD K AnyW W__law_same_I_I) []) (C_saved_k210 : CalK P w K mg base 7 "saved" (spD K AnyW W_saved) ["prices", "moves", "books"] @kwp_210) (C__law_same_OI_OI : CalD P w K mg base 1 "_law_same" (spD K AnyW W__law_same_OI_OI) []) (C_common_move_k210 : CalK P w K mg base 7 "common_move" (spD K AnyW W_common_move) ["prices", "moves", "books"] @kwp_210) {f : Addr} {cdv : Value} {A : Around} {outer : List Env} {s : Shared} {H : Hp} {E : XK} (hgd : A.guards = some []) (hr : Room 11 (A.deeper (envOfC "law" (defScope (topS 73)) s.heap.objs.size f cdv))) :
    ∃ t, PSs (cxOf CX0 P w K mg base ["script", "k", "tape", "pacts", "moves", "prices", "books", "names", "kept", "every", "turn", "group", "due", "losses", "worst", "told", "needs", "common", "at", "rest", "name"] "law" (defScope (topS 73)) f cdv A outer s H E).nox (loopS.drop 16) t ∧ ∀ (r : Addr), ∀ (v_script : Sq) (v_pacts : (List Str)) (v_moves : (List (Dc Str Int))) (v_prices : (Dc Str Int)) (v_books : (Dc Str ((Dc Str Int) × (List (T4 Str Str Int Int))))) (v_names : (List Str)) (v_kept : Str) (v_every : (List (List Str))) (v_due : (Dc Str Int)) (v_losses : (List Int)) (v_worst : (Dc Str Int)) (v_told : (List (Str × Int))) (v_needs : (List Int)) (v_common : (List Int)) (P : (Option Bool) → Prop), w_law_p6 v_script v_pacts v_moves v_prices v_books v_names v_kept v_every v_due v_losses v_worst v_told v_needs v_common P → Sd (Wtp r) K t [sD (α := Sq) v_script, .non, .raw (.ref r), sD (α := (List Str)) v_pacts, sD (α := (List (Dc Str Int))) v_moves, sD (α := (Dc Str Int)) v_prices, sD (α := (Dc Str ((Dc Str Int) × (List (T4 Str Str Int Int))))) v_books, sD (α := (List Str)) v_names, sD (α := Str) v_kept, sD (α := (List (List Str))) v_every, .non, .non, sD (α := (Dc Str Int)) v_due, sD (α := (List Int)) v_losses, sD (α := (Dc Str Int)) v_worst, sM (κ := Str) (α := Int) v_told, sD (α := (List Int)) v_needs, sL (α := Int) v_common, .non, .non, .non] { nx := fun W1 δ2 => Wle W1 (Wtp r) ∧ δ2[0]? = some (sD (α := Sq) v_script) ∧ δ2.length = 21 ∧ P none, rt := fun W1 y => Wle W1 (Wtp r) ∧ P (some y) } := by
  obtain ⟨t7, d7, s7⟩ := part_law_p7 X C__law_same_I_I C_saved_k210 C__law_same_OI_OI C_common_move_k210 hgd hr
  exact ⟨_, (pss_cons (ps_for PassesOwn.never rfl (pi_range1 (by rfl) X.b_range (pa_cons (pe_callB call_len_seq (by rfl) X.b_len rfl (pa_cons (pv 4) pa_nil)) pa_nil)) (pg_name (i := 18) sc_law.nd (by rfl) (by first | exact .inl rfl | exact .inr rfl)) (pss_cons (ps_if (pt_cmpR (op_eqD (hu64 hr)) (pe_lc rfl sc_law.nd (pi_list (pv 7)) (blkOk_by (N := ["script", "k", "tape", "pacts", "moves", "prices", "books", "names", "kept", "every", "turn", "group", "due", "losses", "worst", "told", "needs", "common", "at", "rest", "name"]) (sc := defScope (topS 73)) (own := [("name", 20)]) (by decide +kernel)) (fun _ _ _ _ _ => (pg_name (i := 20) sc_law.nd (by rfl) (by first | exact .inl rfl | exact .inr rfl))) (fun _ _ _ _ _ => pts_nil) (fun _ _ _ _ _ => (pe_cd C__law_book_loss hr (by decide) (by rfl) (pa_cons (pe_dget (hu_of hr) (pv 6) (pv 20) (fun _ _ => rfl)) (pa_cons (pe_ix ix_list (pv 4) (pv 18) (fun _ _ => rfl)) (pa_cons (pv 5) pa_nil)))))) (pv 16) (nomark _)) (pss_cons (ps_expr (pe_bm PySem.F.plainAttrs_list PySem.F.slot_list_append PySem.F.type_list_append mt_append (pv 17) (pa_cons (pv 18) pa_nil))) pss_nil) pss_nil) pss_nil)) (pss_cons (ps_set (i := 19) sc_law.nd (by rfl) (by first | exact .inl rfl | exact .inr rfl) (pe_op op_sub (pe_callB (cr_sum rfl) (by rfl) X.b_sum rfl (pa_cons (pv 16) pa_nil)) (pe_callB (cr_max rfl) (by rfl) X.b_max rfl (pa_cons (pv 13) pa_nil)))) (pss_cons (ps_if (PW.pt (pw_or (pt_cmpR op_lt (pv 19) pe_int (nomark _)) (pw_or1 (pt_cmpR op_ne (pe_cmpR op_eq (pv 19) pe_int (nomark _)) (pe_cmpR (op_neD (hu64 hr)) (pv 17) (pe_lst pa_nil) (nomark _)) (nomark _))))) (pss_cons (ps_ret pe_bl) pss_nil) pss_nil) d7))), fun r v_script v_pacts v_moves v_prices v_books v_names v_kept v_every v_due v_losses v_worst v_told v_needs v_common P h => by
    unfold w_law_p6 at h
    exact sd_wipe [18] (sd_seq (sd_forW (fun (s4871 : (List Int)) => [sD (α := Sq) v_script, .non, .raw (.ref r), sD (α := (List Str)) v_pacts, sD (α := (List (Dc Str Int))) v_moves, sD (α := (Dc Str Int)) v_prices, sD (α := (Dc Str ((Dc Str Int) × (List (T4 Str Str Int Int))))) v_books, sD (α := (List Str)) v_names, sD (α := Str) v_kept, sD (α := (List (List Str))) v_every, .non, .non, sD (α := (Dc Str Int)) v_due, sD (α := (List Int)) v_losses, sD (α := (Dc Str Int)) v_worst, sM (κ := Str) (α := Int) v_told, sD (α := (List Int)) v_needs, sL (α := Int) s4871, .non, .non, .non]) (evi_rng1 (ea_cons (ev_lenC (fun h => h) (ec_ev (ev_var rfl (ea_nil ⟨h.1, ⟨v_common, rfl, h.2⟩⟩)))))) (by exact fun x4874 s4871 n4875 h4936 => tg_name (sd_joinW (Wtp r) (fun (s4894 : (List Int)) => [sD (α := Sq) v_script, .non, .raw (.ref r), sD (α := (List Str)) v_pacts, sD (α := (List (Dc Str Int))) v_moves, sD (α := (Dc Str Int)) v_prices, sD (α := (Dc Str ((Dc Str Int) × (List (T4 Str Str Int Int))))) v_books, sD (α := (List Str)) v_names, sD (α := Str) v_kept, sD (α := (List (List Str))) v_every, .non, .non, sD (α := (Dc Str Int)) v_due, sD (α := (List Int)) v_losses, sD (α := (Dc Str Int)) v_worst, sM (κ := Str) (α := Int) v_told, sD (α := (List Int)) v_needs, sL (α := Int) s4894, sD (α := Int) x4874, .non, .non]) h4936 (by exact fun h4900 => sd_if (et_test (ev_eqP (α := (List Int)) (fun h => h) (ev_fresh (EvF.imp (ef_lcW (evio (evi_list (ev_var rfl (h4900)))) (by exact fun x4877 R4878 h4879 => bd_yes (tgc_name (Ev.imp (ev_call rfl (ea_cons (ev_dget (ecd_ev (ev_var rfl (ev_var rfl (Exists.elim h4879 fun x4880 h4881 => ⟨x4880, h4881.1, ea_cons (ev_ixL (fun h => h) (ec_ev (ev_var rfl (ev_var rfl (Exists.elim h4881.2 fun x4882 h4883 => ⟨x4882, h4883.1, ea_cons (ev_var rfl (ea_nil h4883.2))⟩)))))⟩))))))) (fun y4884 h4885 => h4885))) (Wle.refl _))) (fun y4888 h4891 => ev_var rfl (⟨fun e4898 => sd_seq (sd_appendZ (i := 17) rfl (ev_var rfl (⟨(h4891.1 e4898).1, fun z_common_4896 e4897 => sd_nextW [] ⟨z_common_4896, rfl, (Wle.refl _), ((h4891.1 e4898).2 z_common_4896 e4897)⟩⟩))), fun e4899 => sd_nextW [] ⟨s4871, rfl, (Wle.refl _), (h4891.2 e4899)⟩⟩))))))) (by exact fun s4894 h4901 => sd_nextW [18] ⟨s4894, rfl, (Wle.refl _), h4901⟩))) (by exact fun s4902 h4937 => sd_seq (sd_asgZ (i := 19) (ev_I0 (f := fun i j : Int => i - j) (fun h => h) (ev_sum (ec_ev (ev_var rfl (ev_max (ec_ev (ev_var rfl (⟨h4937.1, fun m4903 h4904 h4905 => fun z_rest_4907 e4935 => sd_fix (i := 17) rfl (sd_seq (sd_if (et_alt ((h4937.2 m4903 h4904 h4905) z_rest_4907 e4935) (by exact fun h4909 => et_or (et_test (ev_I0 (f := fun i j : Int => (decide (i < j))) (fun h => h) (ev_var rfl (ev_int (⟨fun e4940 => et_test (ev_neB (fun h => h) (ev_eqI (fun h => h) (ev_var rfl (ev_int (ev_neP (α := (List Int)) (fun h => h) (ev_var rfl (ev_fresh (ef_lst (es_nil (⟨Nat.le_of_ble_eq_true rfl, (h4909.1 e4940)⟩)))))))))), fun e4941 => h4909.2 e4941⟩))))) (Wle.refl _)) (fun y4938 h4939 => ⟨fun e4933 => sd_seq (sd_ret (Ev.imp (ev_bl ((h4939.1 e4933))) (fun _ z => ⟨(Wle.refl _), z⟩))), fun e4934 => sd_next (sd_le (Wle.refl _) (s7 r v_script v_pacts v_moves v_prices v_books v_names v_kept v_every v_due v_losses v_worst v_told v_needs s4902 z_rest_4907 _ (h4939.2 e4934)))⟩))))⟩)))))))))) (fun _ _ l z => sd_le l z)))⟩
def w_law_p5 (v_script : Sq) (v_pacts : (List Str)) (v_moves : (List (Dc Str Int))) (v_prices : (Dc Str Int)) (v_books : (Dc Str ((Dc Str Int) × (List (T4 Str Str Int Int))))) (v_names : (List Str)) (v_kept : Str) (v_every : (List (List Str))) (v_due : (Dc Str Int)) (v_losses : (List Int)) (v_worst : (Dc Str Int)) (v_told : (List (Str × Int))) (P : (Option Bool) → Prop) : Prop := altW (fun (P4831 : Bool → Prop) => ((w_sharing v_books v_moves v_prices (fun (y4825 : (List (Str × Int))) => w__law_same_DSI_DSI (Dc.mk y4825) v_due (fun (y4827 : Bool) => (((!y4827) = false → (w__law_shares_right v_books v_moves v_prices v_due (fun (y4829 : Bool) => P4831 (!y4829)))) ∧ ((!y4827) = true → P4831 true))))))) (fun (y4944 : Bool) => ((y4944 = true → P (some false)) ∧ (y4944 = false → (v_names.length ≤ 100000 ∧ compW (fun (x4833 : Str) (R4834 : Option Int → Prop) => (w__law_need v_books [x4833] v_moves v_prices (fun (y4836 : Int) => R4834 (some y4836)))) (fun (y4840 : (List Int)) => ∀ (z_needs_4844 : (List Int)), z_needs_4844 = y4840 → ∀ (z_common_4845 : (List Int)), z_common_4845 = ([] : List Int) → w_law_p6 v_script v_pacts v_moves v_prices v_books v_names v_kept v_every v_due v_losses v_worst v_told z_needs_4844 z_common_4845 P) v_names []))))
theorem part_law_p5 (X : Tx K mg) (C__law_same_DSI_DSI : CalD P w K mg base 3 "_law_same" (spD K AnyW W__law_same_DSI_DSI) []) (C_sharing : CalD P w K mg base 7 "sharing" (spG K AnyW W_sharing) []) (C__law_shares_right : CalG P w K mg base 11 "_law_shares_right" (spD K TpW W__law_shares_right)) (C__law_need : CalD P w K mg base 4 "_law_need" (spD K AnyW W__law_need) []) (C__law_book_loss : CalD P w K mg base 2 "_law_book_loss" (spD K AnyW W__law_book_loss) []) (C__law_same_I_I : CalD P w K mg base 1 "_law_same" (spD K AnyW W__law_same_I_I) []) (C_saved_k210 : CalK P w K mg base 7 "saved" (spD K AnyW W_saved) ["prices", "moves", "books"] @kwp_210) (C__law_same_OI_OI : CalD P w K mg base 1 "_law_same" (spD K AnyW W__law_same_OI_OI) []) (C_common_move_k210 : CalK P w K mg base 7 "common_move" (spD K AnyW W_common_move) ["prices", "moves", "books"] @kwp_210) {f : Addr} {cdv : Value} {A : Around} {outer : List Env} {s : Shared} {H : Hp} {E : XK} (hgd : A.guards = some []) (hr : Room 11 (A.deeper (envOfC "law" (defScope (topS 73)) s.heap.objs.size f cdv))) :
    ∃ t, PSs (cxOf CX0 P w K mg base ["script", "k", "tape", "pacts", "moves", "prices", "books", "names", "kept", "every", "turn", "group", "due", "losses", "worst", "told", "needs", "common", "at", "rest", "name"] "law" (defScope (topS 73)) f cdv A outer s H E).nox (loopS.drop 13) t ∧ ∀ (r : Addr), ∀ (v_script : Sq) (v_pacts : (List Str)) (v_moves : (List (Dc Str Int))) (v_prices : (Dc Str Int)) (v_books : (Dc Str ((Dc Str Int) × (List (T4 Str Str Int Int))))) (v_names : (List Str)) (v_kept : Str) (v_every : (List (List Str))) (v_due : (Dc Str Int)) (v_losses : (List Int)) (v_worst : (Dc Str Int)) (v_told : (List (Str × Int))) (P : (Option Bool) → Prop), w_law_p5 v_script v_pacts v_moves v_prices v_books v_names v_kept v_every v_due v_losses v_worst v_told P → Sd (Wtp r) K t [sD (α := Sq) v_script, .non, .raw (.ref r), sD (α := (List Str)) v_pacts, sD (α := (List (Dc Str Int))) v_moves, sD (α := (Dc Str Int)) v_prices, sD (α := (Dc Str ((Dc Str Int) × (List (T4 Str Str Int Int))))) v_books, sD (α := (List Str)) v_names, sD (α := Str) v_kept, sD (α := (List (List Str))) v_every, .non, .non, sD (α := (Dc Str Int)) v_due, sD (α := (List Int)) v_losses, sD (α := (Dc Str Int)) v_worst, sM (κ := Str) (α := Int) v_told, .non, .non, .non, .non, .non] { nx := fun W1 δ2 => Wle W1 (Wtp r) ∧ δ2[0]? = some (sD (α := Sq) v_script) ∧ δ2.length = 21 ∧ P none, rt := fun W1 y => Wle W1 (Wtp r) ∧ P (some y) } := by
  obtain ⟨t6, d6, s6⟩ := part_law_p6 X C__law_book_loss C__law_same_I_I C_saved_k210 C__law_same_OI_OI C_common_move_k210 hgd hr
  exact ⟨_, (pss_cons (ps_if (PW.pt (pw_or (pt_not (pt_val (pe_cd C__law_same_DSI_DSI hr (by decide) (by rfl) (pa_cons (pe_cd C_sharing hr (by decide) (by rfl) (pa_cons (pv 6) (pa_cons (pv 4) (pa_cons (pv 5) pa_nil)))) (pa_cons (pv 12) pa_nil))))) (pw_or1 (pt_not (pt_val (pe_cdG C__law_shares_right hr hgd (by decide) (by rfl) (pa_cons (pv 2) (pa_cons (pv 6) (pa_cons (pv 4) (pa_cons (pv 5) (pa_cons (pv 12) pa_nil))))))))))) (pss_cons (ps_ret pe_bl) pss_nil) pss_nil) (pss_cons (ps_setLc (i := 16) rfl sc_law.nd (by rfl) (by rfl) (sw_true rfl rfl rfl rfl) (pi_list (pv 7)) (blkOk_by (N := ["script", "k", "tape", "pacts", "moves", "prices", "books", "names", "kept", "every", "turn", "group", "due", "losses", "worst", "told", "needs", "common", "at", "rest", "name"]) (sc := defScope (topS 73)) (own := [("name", 20)]) (by decide +kernel)) (fun _ _ _ _ _ => (pg_name (i := 20) sc_law.nd (by rfl) (by first | exact .inl rfl | exact .inr rfl))) (fun _ _ _ _ _ => pts_nil) (fun _ _ _ _ _ => (pe_cd C__law_need hr (by decide) (by rfl) (pa_cons (pv 6) (pa_cons (pe_lst (pa_cons (pv 20) pa_nil)) (pa_cons (pv 4) (pa_cons (pv 5) pa_nil))))))) (pss_cons (ps_set (i := 17) sc_law.nd (by rfl) (by first | exact .inl rfl | exact .inr rfl) (pe_lst pa_nil)) d6))), fun r v_script v_pacts v_moves v_prices v_books v_names v_kept v_every v_due v_losses v_worst v_told P h => by
    unfold w_law_p5 at h
    exact sd_seq (sd_if (et_alt h (by exact fun h4832 => et_or (et_not (et_B (Ev.imp (ev_call rfl (ea_cons (evd_fresh (EvG.imp (eg_call rfl (ea_cons (ev_var rfl (ea_cons (ev_var rfl (ea_cons (ev_var rfl (ea_nil h4832)))))))) (fun y4825 h4826 => ea_cons (ev_var rfl (ea_nil h4826))))))) (fun y4827 h4828 => ⟨fun e4949 => et_not (et_B (Ev.imp (ev_call (tpw r) (ea_tok rfl (ea_cons (ev_var rfl (ea_cons (ev_var rfl (ea_cons (ev_var rfl (ea_cons (ev_var rfl (ea_nil (h4828.1 e4949)))))))))))) (fun y4829 h4830 => h4830))), fun e4950 => h4828.2 e4950⟩)))) (Wle.refl _)) (fun y4947 h4948 => ⟨fun e4945 => sd_seq (sd_ret (Ev.imp (ev_bl ((h4948.1 e4945))) (fun _ z => ⟨(Wle.refl _), z⟩))), fun e4946 => sd_next (sd_seq (sd_asgZ (i := 16) (ev_fresh (EvF.imp (ef_lcW (evio (evi_list (ev_var rfl ((h4948.2 e4946))))) (by exact fun x4833 R4834 h4835 => bd_yes (tgc_name (Ev.imp (ev_call rfl (ea_cons (ev_var rfl (ea_cons (ev_fresh (ef_lst (es_cons (ev_var rfl (es_nil (⟨Nat.le_of_ble_eq_true rfl, ea_cons (ev_var rfl (ea_cons (ev_var rfl (ea_nil h4835))))⟩)))))))))) (fun y4836 h4837 => h4837))) (Wle.refl _))) (fun y4840 h4843 => fun z_needs_4844 e4943 => sd_seq (sd_asgLZ (i := 17) (ef_lst (es_nil (⟨Nat.le_of_ble_eq_true rfl, fun z_common_4845 e4942 => sd_le (Wle.refl _) (s6 r v_script v_pacts v_moves v_prices v_books v_names v_kept v_every v_due v_losses v_worst v_told z_needs_4844 z_common_4845 _ ((h4843 z_needs_4844 e4943) z_common_4845 e4942))⟩)))))))))⟩)))⟩
def w_law_p4 (v_script : Sq) (v_pacts : (List Str)) (v_moves : (List (Dc Str Int))) (v_prices : (Dc Str Int)) (v_books : (Dc Str ((Dc Str Int) × (List (T4 Str Str Int Int))))) (v_names : (List Str)) (v_kept : Str) (v_every : (List (List Str))) (v_due : (Dc Str Int)) (v_losses : (List Int)) (v_worst : (Dc Str Int)) (P : (Option Bool) → Prop) : Prop := (w_sharing v_books v_moves v_prices (fun (y4812 : (List (Str × Int))) => ∀ (z_told_4814 : (List (Str × Int))), z_told_4814 = y4812 → altW (fun (P4819 : Bool → Prop) => (w__law_same_DSI_DSI (Dc.mk z_told_4814) v_due (fun (y4815 : Bool) => (((!y4815) = false → (w__law_objecting v_books v_moves v_prices v_due (fun (y4817 : (Option (List Str))) => P4819 (Option.isSome y4817)))) ∧ ((!y4815) = true → P4819 true))))) (fun (y4951 : Bool) => ((y4951 = true → P (some false)) ∧ (y4951 = false → z_told_4814.length < 100000 ∧ ∀ (z_told_4821 : List (Str × Int)), z_told_4821 = put z_told_4814 ("zz" : Str) (1 : Int) → w_law_p5 v_script v_pacts v_moves v_prices v_books v_names v_kept v_every v_due v_losses v_worst z_told_4821 P)))))
theorem part_law_p4 (X : Tx K mg) (C_sharing_k210 : CalK P w K mg base 7 "sharing" (spG K AnyW W_sharing) ["prices", "moves", "books"] @kwp_210) (C__law_same_DSI_DSI : CalD P w K mg base 3 "_law_same" (spD K AnyW W__law_same_DSI_DSI) []) (C__law_objecting : CalD P w K mg base 5 "_law_objecting" (spD K AnyW W__law_objecting) []) (C_sharing : CalD P w K mg base 7 "sharing" (spG K AnyW W_sharing) []) (C__law_shares_right : CalG P w K mg base 11 "_law_shares_right" (spD K TpW W__law_shares_right)) (C__law_need : CalD P w K mg base 4 "_law_need" (spD K AnyW W__law_need) []) (C__law_book_loss : CalD P w K mg base 2 "_law_book_loss" (spD K AnyW W__law_book_loss) []) (C__law_same_I_I : CalD P w K mg base 1 "_law_same" (spD K AnyW W__law_same_I_I) []) (C_saved_k210 : CalK P w K mg base 7 "saved" (spD K AnyW W_saved) ["prices", "moves", "books"] @kwp_210) (C__law_same_OI_OI : CalD P w K mg base 1 "_law_same" (spD K AnyW W__law_same_OI_OI) []) (C_common_move_k210 : CalK P w K mg base 7 "common_move" (spD K AnyW W_common_move) ["prices", "moves", "books"] @kwp_210) {f : Addr} {cdv : Value} {A : Around} {outer : List Env} {s : Shared} {H : Hp} {E : XK} (hgd : A.guards = some []) (hr : Room 11 (A.deeper (envOfC "law" (defScope (topS 73)) s.heap.objs.size f cdv))) :
    ∃ t, PSs (cxOf CX0 P w K mg base ["script", "k", "tape", "pacts", "moves", "prices", "books", "names", "kept", "every", "turn", "group", "due", "losses", "worst", "told", "needs", "common", "at", "rest", "name"] "law" (defScope (topS 73)) f cdv A outer s H E).nox (loopS.drop 10) t ∧ ∀ (r : Addr), ∀ (v_script : Sq) (v_pacts : (List Str)) (v_moves : (List (Dc Str Int))) (v_prices : (Dc Str Int)) (v_books : (Dc Str ((Dc Str Int) × (List (T4 Str Str Int Int))))) (v_names : (List Str)) (v_kept : Str) (v_every : (List (List Str))) (v_due : (Dc Str Int)) (v_losses : (List Int)) (v_worst : (Dc Str Int)) (P : (Option Bool) → Prop), w_law_p4 v_script v_pacts v_moves v_prices v_books v_names v_kept v_every v_due v_losses v_worst P → Sd (Wtp r) K t [sD (α := Sq) v_script, .non, .raw (.ref r), sD (α := (List Str)) v_pacts, sD (α := (List (Dc Str Int))) v_moves, sD (α := (Dc Str Int)) v_prices, sD (α := (Dc Str ((Dc Str Int) × (List (T4 Str Str Int Int))))) v_books, sD (α := (List Str)) v_names, sD (α := Str) v_kept, sD (α := (List (List Str))) v_every, .non, .non, sD (α := (Dc Str Int)) v_due, sD (α := (List Int)) v_losses, sD (α := (Dc Str Int)) v_worst, .non, .non, .non, .non, .non, .non] { nx := fun W1 δ2 => Wle W1 (Wtp r) ∧ δ2[0]? = some (sD (α := Sq) v_script) ∧ δ2.length = 21 ∧ P none, rt := fun W1 y => Wle W1 (Wtp r) ∧ P (some y) } := by
  obtain ⟨t5, d5, s5⟩ := part_law_p5 X C__law_same_DSI_DSI C_sharing C__law_shares_right C__law_need C__law_book_loss C__law_same_I_I C_saved_k210 C__law_same_OI_OI C_common_move_k210 hgd hr
  exact ⟨_, (pss_cons (ps_set (i := 15) sc_law.nd (by rfl) (by first | exact .inl rfl | exact .inr rfl) (pe_cdK C_sharing_k210 hr (by decide) (by rfl) (pk_cons (pv 5) (pk_cons (pv 4) (pk_cons (pv 6) pk_nil))))) (pss_cons (ps_if (PW.pt (pw_or (pt_not (pt_val (pe_cd C__law_same_DSI_DSI hr (by decide) (by rfl) (pa_cons (pv 15) (pa_cons (pv 12) pa_nil))))) (pw_or1 (pt_cmpR op_notN (pe_cd C__law_objecting hr (by decide) (by rfl) (pa_cons (pv 6) (pa_cons (pv 4) (pa_cons (pv 5) (pa_cons (pv 12) pa_nil))))) pe_non (nomark _))))) (pss_cons (ps_ret pe_bl) pss_nil) pss_nil) (pss_cons (ps_dput (hu_of hr) (pv 15) pe_str pe_int (by rfl)) d5))), fun r v_script v_pacts v_moves v_prices v_books v_names v_kept v_every v_due v_losses v_worst P h => by
    unfold w_law_p4 at h
    exact sd_seq (sd_asgMZ (i := 15) (EvG.imp (eg_callK (F := W_sharing) (fun g : (Dc Str Int) × (List (Dc Str Int)) × (Dc Str ((Dc Str Int) × (List (T4 Str Str Int Int)))) × Unit => (g.2.2.1, g.2.1, g.1, ())) (fun W K S vs g hh => by obtain ⟨v0, r0, rfl, h0, v1, r1, rfl, h1, v2, r2, rfl, h2, e⟩ := hh; have e2 : r2 = [] := e; subst e2; exact ⟨rfl, v2, _, rfl, h2, v1, _, rfl, h1, v0, _, rfl, h0, rfl⟩) rfl (ea_cons (ev_var rfl (ea_cons (ev_var rfl (ea_cons (ev_var rfl (ea_nil h)))))))) (fun y4812 h4813 => fun z_told_4814 e4954 => sd_seq (sd_ifLend (lt_M (i := 15) rfl (lt_base (et_alt (h4813 z_told_4814 e4954) (by exact fun h4820 => et_or (et_not (et_B (Ev.imp (ev_call rfl (ea_cons (ev_var rfl (ea_cons (ev_var rfl (ea_nil h4820)))))) (fun y4815 h4816 => ⟨fun e4957 => et_test (ev_notN (fun h => h) (Ev.imp (ev_call rfl (ea_cons (ev_var rfl (ea_cons (ev_var rfl (ea_cons (ev_var rfl (ea_cons (ev_var rfl (ea_nil (h4816.1 e4957))))))))))) (fun y4817 h4818 => h4818))), fun e4958 => h4816.2 e4958⟩)))) (Wle.refl _)) (fun y4955 h4956 => ⟨fun e4952 => sd_seq (sd_ret (Ev.imp (ev_bl ((h4956.1 e4952))) (fun _ z => ⟨(Wle.refl _), z⟩))), fun e4953 => sd_next (sd_seq (sd_putZ (i := 15) rfl (ev_int (ev_str (⟨(h4956.2 e4953).1, fun z_told_4821 e4822 => sd_le (Wle.refl _) (s5 r v_script v_pacts v_moves v_prices v_books v_names v_kept v_every v_due v_losses v_worst z_told_4821 _ ((h4956.2 e4953).2 z_told_4821 e4822))⟩)))))⟩))))))))⟩
def w_law_p3 (v_script : Sq) (v_pacts : (List Str)) (v_moves : (List (Dc Str Int))) (v_prices : (Dc Str Int)) (v_books : (Dc Str ((Dc Str Int) × (List (T4 Str Str Int Int))))) (v_names : (List Str)) (v_kept : Str) (v_every : (List (List Str))) (P : (Option Bool) → Prop) : Prop := (w__law_losses v_books v_names v_moves v_prices (fun (y4785 : (List Int)) => ∀ (z_losses_4787 : (List Int)), z_losses_4787 = y4785 → (0 < z_losses_4787.length ∧ ∀ m4790, m4790 ∈ z_losses_4787 → (∀ y4793, y4793 ∈ z_losses_4787 → y4793 ≤ m4790) → (z_losses_4787.length ≤ 100000 ∧ m4790 ∈ z_losses_4787 ∧ ∀ (j4794 : Nat), z_losses_4787[j4794]? = some m4790 → (∀ i, i < j4794 → z_losses_4787[i]? ≠ some m4790) → (∃ (x4788 : (Dc Str Int)), atI v_moves (j4794 : Int) = some x4788 ∧ ∀ (z_worst_4797 : (Dc Str Int)), z_worst_4797 = x4788 → (v_names.length ≤ 100000 ∧ compW (fun (x4798 : Str) (R4799 : Option (Str × Int) → Prop) => ((∃ (x4801 : ((Dc Str Int) × (List (T4 Str Str Int Int)))), look v_books.l x4798 = some x4801 ∧ w__law_book_loss x4801 z_worst_4797 v_prices (fun (y4803 : Int) => R4799 (some (x4798, y4803)))))) (fun (y4807 : (List (Str × Int))) => ∀ (z_due_4811 : (Dc Str Int)), z_due_4811 = (Dc.mk (puts [] y4807)) → w_law_p4 v_script v_pacts v_moves v_prices v_books v_names v_kept v_every z_due_4811 z_losses_4787 z_worst_4797 P) v_names []))))))
theorem part_law_p3 (X : Tx K mg) (C__law_losses : CalD P w K mg base 3 "_law_losses" (spD K AnyW W__law_losses) []) (C__law_book_loss : CalD P w K mg base 2 "_law_book_loss" (spD K AnyW W__law_book_loss) []) (C_sharing_k210 : CalK P w K mg base 7 "sharing" (spG K AnyW W_sharing) ["prices", "moves", "books"] @kwp_210) (C__law_same_DSI_DSI : CalD P w K mg base 3 "_law_same" (spD K AnyW W__law_same_DSI_DSI) []) (C__law_objecting : CalD P w K mg base 5 "_law_objecting" (spD K AnyW W__law_objecting) []) (C_sharing : CalD P w K mg base 7 "sharing" (spG K AnyW W_sharing) []) (C__law_shares_right : CalG P w K mg base 11 "_law_shares_right" (spD K TpW W__law_shares_right)) (C__law_need : CalD P w K mg base 4 "_law_need" (spD K AnyW W__law_need) []) (C__law_same_I_I : CalD P w K mg base 1 "_law_same" (spD K AnyW W__law_same_I_I) []) (C_saved_k210 : CalK P w K mg base 7 "saved" (spD K AnyW W_saved) ["prices", "moves", "books"] @kwp_210) (C__law_same_OI_OI : CalD P w K mg base 1 "_law_same" (spD K AnyW W__law_same_OI_OI) []) (C_common_move_k210 : CalK P w K mg base 7 "common_move" (spD K AnyW W_common_move) ["prices", "moves", "books"] @kwp_210) {f : Addr} {cdv : Value} {A : Around} {outer : List Env} {s : Shared} {H : Hp} {E : XK} (hgd : A.guards = some []) (hr : Room 11 (A.deeper (envOfC "law" (defScope (topS 73)) s.heap.objs.size f cdv))) :
    ∃ t, PSs (cxOf CX0 P w K mg base ["script", "k", "tape", "pacts", "moves", "prices", "books", "names", "kept", "every", "turn", "group", "due", "losses", "worst", "told", "needs", "common", "at", "rest", "name"] "law" (defScope (topS 73)) f cdv A outer s H E).nox (loopS.drop 7) t ∧ ∀ (r : Addr), ∀ (v_script : Sq) (v_pacts : (List Str)) (v_moves : (List (Dc Str Int))) (v_prices : (Dc Str Int)) (v_books : (Dc Str ((Dc Str Int) × (List (T4 Str Str Int Int))))) (v_names : (List Str)) (v_kept : Str) (v_every : (List (List Str))) (P : (Option Bool) → Prop), w_law_p3 v_script v_pacts v_moves v_prices v_books v_names v_kept v_every P → Sd (Wtp r) K t [sD (α := Sq) v_script, .non, .raw (.ref r), sD (α := (List Str)) v_pacts, sD (α := (List (Dc Str Int))) v_moves, sD (α := (Dc Str Int)) v_prices, sD (α := (Dc Str ((Dc Str Int) × (List (T4 Str Str Int Int))))) v_books, sD (α := (List Str)) v_names, sD (α := Str) v_kept, sD (α := (List (List Str))) v_every, .non, .non, .non, .non, .non, .non, .non, .non, .non, .non, .non] { nx := fun W1 δ2 => Wle W1 (Wtp r) ∧ δ2[0]? = some (sD (α := Sq) v_script) ∧ δ2.length = 21 ∧ P none, rt := fun W1 y => Wle W1 (Wtp r) ∧ P (some y) } := by
  obtain ⟨t4, d4, s4⟩ := part_law_p4 X C_sharing_k210 C__law_same_DSI_DSI C__law_objecting C_sharing C__law_shares_right C__law_need C__law_book_loss C__law_same_I_I C_saved_k210 C__law_same_OI_OI C_common_move_k210 hgd hr
  exact ⟨_, (pss_cons (ps_set (i := 13) sc_law.nd (by rfl) (by first | exact .inl rfl | exact .inr rfl) (pe_cd C__law_losses hr (by decide) (by rfl) (pa_cons (pv 6) (pa_cons (pv 7) (pa_cons (pv 4) (pa_cons (pv 5) pa_nil)))))) (pss_cons (ps_set (i := 14) sc_law.nd (by rfl) (by first | exact .inl rfl | exact .inr rfl) (pe_ix ix_list (pv 4) (pe_bm PySem.F.plainAttrs_list PySem.F.slot_list_index PySem.F.type_list_index mt_index (pv 13) (pa_cons (pe_callB (cr_max rfl) (by rfl) X.b_max rfl (pa_cons (pv 13) pa_nil)) pa_nil)) (fun _ _ => rfl))) (pss_cons (ps_set (i := 12) sc_law.nd (by rfl) (by first | exact .inl rfl | exact .inr rfl) (pe_callTy (call_dictP rfl) (by rfl) X.b_dict rfl (pa_cons (pe_lc rfl sc_law.nd (pi_list (pv 7)) (blkOk_by (N := ["script", "k", "tape", "pacts", "moves", "prices", "books", "names", "kept", "every", "turn", "group", "due", "losses", "worst", "told", "needs", "common", "at", "rest", "name"]) (sc := defScope (topS 73)) (own := [("name", 20)]) (by decide +kernel)) (fun _ _ _ _ _ => (pg_name (i := 20) sc_law.nd (by rfl) (by first | exact .inl rfl | exact .inr rfl))) (fun _ _ _ _ _ => pts_nil) (fun _ _ _ _ _ => (pe_tup (pa_cons (pv 20) (pa_cons (pe_cd C__law_book_loss hr (by decide) (by rfl) (pa_cons (pe_dget (hu_of hr) (pv 6) (pv 20) (fun _ _ => rfl)) (pa_cons (pv 14) (pa_cons (pv 5) pa_nil)))) pa_nil))))) pa_nil))) d4))), fun r v_script v_pacts v_moves v_prices v_books v_names v_kept v_every P h => by
    unfold w_law_p3 at h
    exact sd_seq (sd_asgZ (i := 13) (Ev.imp (ev_call rfl (ea_cons (ev_var rfl (ea_cons (ev_var rfl (ea_cons (ev_var rfl (ea_cons (ev_var rfl (ea_nil h)))))))))) (fun y4785 h4786 => fun z_losses_4787 e4961 => sd_seq (sd_asgZ (i := 14) (ev_ixL (fun h => h) (ec_ev (ev_var rfl (ev_index (ec_ev (ev_var rfl (ev_max (ec_ev (ev_var rfl (⟨(h4786 z_losses_4787 e4961).1, fun m4790 h4791 h4792 => ⟨((h4786 z_losses_4787 e4961).2 m4790 h4791 h4792).1, ((h4786 z_losses_4787 e4961).2 m4790 h4791 h4792).2.1, fun j4794 h4795 h4796 => Exists.elim (((h4786 z_losses_4787 e4961).2 m4790 h4791 h4792).2.2 j4794 h4795 h4796) fun x4788 h4789 => ⟨x4788, h4789.1, fun z_worst_4797 e4960 => sd_seq (sd_asgZ (i := 12) (evd_fresh (eg_pairs (ec_ev (ev_fresh (EvF.imp (ef_lcW (evio (evi_list (ev_var rfl ((h4789.2 z_worst_4797 e4960))))) (by exact fun x4798 R4799 h4800 => bd_yes (tgc_name (ev_tup2 (ea_cons (ev_var rfl (ea_cons (Ev.imp (ev_call rfl (ea_cons (ev_dget (ecd_ev (ev_var rfl (ev_var rfl (Exists.elim h4800 fun x4801 h4802 => ⟨x4801, h4802.1, ea_cons (ev_var rfl (ea_cons (ev_var rfl (ea_nil h4802.2))))⟩))))))) (fun y4803 h4804 => ea_nil (h4804)))))))) (Wle.refl _))) (fun y4807 h4810 => fun z_due_4811 e4959 => sd_le (Wle.refl _) (s4 r v_script v_pacts v_moves v_prices v_books v_names v_kept v_every z_due_4811 z_losses_4787 z_worst_4797 _ (h4810 z_due_4811 e4959)))))))))⟩⟩⟩))))))))))))))⟩
def w_law_p2 (v_script : Sq) (v_pacts : (List Str)) (v_moves : (List (Dc Str Int))) (v_prices : (Dc Str Int)) (v_books : (Dc Str ((Dc Str Int) × (List (T4 Str Str Int Int))))) (P : (Option Bool) → Prop) : Prop := (v_books.l.length < 64 ∧ ∀ (z4704 : List Str), List.Perm z4704 (List.map Prod.fst v_books.l) → sortedS z4704 = true → ∀ (z_names_4707 : (List Str)), z_names_4707 = z4704 → (showOk (L3.mk v_books v_moves v_prices) ∧ ∀ (z_kept_4708 : Str), z_kept_4708 = (PyS.shown (L3.mk v_books v_moves v_prices)) → (w__law_lists z_names_4707 (fun (y4709 : (List (List Str))) => ∀ (z_every_4711 : (List (List Str))), z_every_4711 = y4709 → ((-(2 ^ 62) ≤ (6 : Int) ∧ (6 : Int) < 2 ^ 62) ∧ forW (fun (x4748 : Int) (s4745 : Unit) (n4749 b4750 : Unit → Prop) => (altW (fun (P4755 : (List Str) → Prop) => (((decide ((0 : Int) < x4748)) = true → (w__law_pick (z_every_4711.length : Int) (fun (y4753 : Int) => (∃ (x4751 : (List Str)), atI z_every_4711 y4753 = some x4751 ∧ P4755 x4751)))) ∧ ((decide ((0 : Int) < x4748)) = false → P4755 z_names_4707))) (fun (y4782 : (List Str)) => w__law_shuffled y4782 (fun (y4759 : (List Str)) => ∀ (z_group_4761 : (List Str)), z_group_4761 = y4759 → (w__law_need v_books z_group_4761 v_moves v_prices (fun (y4762 : Int) => ∀ (z_due_4764 : Int), z_due_4764 = y4762 → ((w_group_need v_books z_group_4761 v_moves v_prices (fun (y4767 : Int) => w__law_same_I_I y4767 z_due_4764 (fun (y4769 : Bool) => (((!y4769) = true → P (some false)) ∧ ((!y4769) = false → ((w_group_need_DSTDSILTSSII_TpS_TpDSI_DSI v_books (Tp.mk z_group_4761) (Tp.mk v_moves) v_prices (fun (y4773 : Int) => w__law_same_I_I y4773 z_due_4764 (fun (y4775 : Bool) => (((!y4775) = true → P (some false)) ∧ ((!y4775) = false → n4749 ())))))))))))))))))) (fun (s4784 : Unit) => w_law_p3 v_script v_pacts v_moves v_prices v_books z_names_4707 z_kept_4708 z_every_4711 P) (rng 0 (Int.toNat (6 : Int))) ())))))
theorem part_law_p2 (X : Tx K mg) (C__law_lists : CalD P w K mg base 1 "_law_lists" (spD K AnyW W__law_lists) []) (C__law_shuffled : CalD P w K mg base 2 "_law_shuffled" (spD K TpW W__law_shuffled) []) (C__law_pick : CalD P w K mg base 1 "_law_pick" (spD K TpW W__law_pick) []) (C__law_need : CalD P w K mg base 4 "_law_need" (spD K AnyW W__law_need) []) (C__law_same_I_I : CalD P w K mg base 1 "_law_same" (spD K AnyW W__law_same_I_I) []) (C_group_need_k3210 : CalK P w K mg base 7 "group_need" (spD K AnyW W_group_need) ["prices", "moves", "members", "books"] @kwp_3210) (C_group_need_DSTDSILTSSII_TpS_TpDSI_DSI : CalD P w K mg base 7 "group_need" (spD K AnyW W_group_need_DSTDSILTSSII_TpS_TpDSI_DSI) []) (C__law_losses : CalD P w K mg base 3 "_law_losses" (spD K AnyW W__law_losses) []) (C__law_book_loss : CalD P w K mg base 2 "_law_book_loss" (spD K AnyW W__law_book_loss) []) (C_sharing_k210 : CalK P w K mg base 7 "sharing" (spG K AnyW W_sharing) ["prices", "moves", "books"] @kwp_210) (C__law_same_DSI_DSI : CalD P w K mg base 3 "_law_same" (spD K AnyW W__law_same_DSI_DSI) []) (C__law_objecting : CalD P w K mg base 5 "_law_objecting" (spD K AnyW W__law_objecting) []) (C_sharing : CalD P w K mg base 7 "sharing" (spG K AnyW W_sharing) []) (C__law_shares_right : CalG P w K mg base 11 "_law_shares_right" (spD K TpW W__law_shares_right)) (C_saved_k210 : CalK P w K mg base 7 "saved" (spD K AnyW W_saved) ["prices", "moves", "books"] @kwp_210) (C__law_same_OI_OI : CalD P w K mg base 1 "_law_same" (spD K AnyW W__law_same_OI_OI) []) (C_common_move_k210 : CalK P w K mg base 7 "common_move" (spD K AnyW W_common_move) ["prices", "moves", "books"] @kwp_210) {f : Addr} {cdv : Value} {A : Around} {outer : List Env} {s : Shared} {H : Hp} {E : XK} (hgd : A.guards = some []) (hr : Room 11 (A.deeper (envOfC "law" (defScope (topS 73)) s.heap.objs.size f cdv))) :
    ∃ t, PSs (cxOf CX0 P w K mg base ["script", "k", "tape", "pacts", "moves", "prices", "books", "names", "kept", "every", "turn", "group", "due", "losses", "worst", "told", "needs", "common", "at", "rest", "name"] "law" (defScope (topS 73)) f cdv A outer s H E).nox (loopS.drop 4) t ∧ ∀ (r : Addr), ∀ (v_script : Sq) (v_pacts : (List Str)) (v_moves : (List (Dc Str Int))) (v_prices : (Dc Str Int)) (v_books : (Dc Str ((Dc Str Int) × (List (T4 Str Str Int Int))))) (P : (Option Bool) → Prop), w_law_p2 v_script v_pacts v_moves v_prices v_books P → Sd (Wtp r) K t [sD (α := Sq) v_script, .non, .raw (.ref r), sD (α := (List Str)) v_pacts, sD (α := (List (Dc Str Int))) v_moves, sD (α := (Dc Str Int)) v_prices, sD (α := (Dc Str ((Dc Str Int) × (List (T4 Str Str Int Int))))) v_books, .non, .non, .non, .non, .non, .non, .non, .non, .non, .non, .non, .non, .non, .non] { nx := fun W1 δ2 => Wle W1 (Wtp r) ∧ δ2[0]? = some (sD (α := Sq) v_script) ∧ δ2.length = 21 ∧ P none, rt := fun W1 y => Wle W1 (Wtp r) ∧ P (some y) } := by
  obtain ⟨t3, d3, s3⟩ := part_law_p3 X C__law_losses C__law_book_loss C_sharing_k210 C__law_same_DSI_DSI C__law_objecting C_sharing C__law_shares_right C__law_need C__law_same_I_I C_saved_k210 C__law_same_OI_OI C_common_move_k210 hgd hr
  exact ⟨_, (pss_cons (ps_par (i := 7) (j := 8) rfl sc_law.nd (by rfl) (by rfl) (by decide) (by rfl) (by rfl) (pa_cons (pe_callB (call_sortedD rfl) (by rfl) X.b_sorted rfl (pa_cons (pv 6) pa_nil)) (pa_cons (pe_callB (cr_repr hgd hr) (by rfl) X.b_repr rfl (pa_cons (pe_lst (pa_cons (pv 6) (pa_cons (pv 4) (pa_cons (pv 5) pa_nil)))) pa_nil)) pa_nil)) (by rfl)) (pss_cons (ps_set (i := 9) sc_law.nd (by rfl) (by first | exact .inl rfl | exact .inr rfl) (pe_cd C__law_lists hr (by decide) (by rfl) (pa_cons (pv 7) pa_nil))) (pss_cons (ps_for PassesOwn.never rfl (pi_range1 (by rfl) X.b_range (pa_cons pe_int pa_nil)) (pg_name (i := 10) sc_law.nd (by rfl) (by first | exact .inl rfl | exact .inr rfl)) (pss_cons (ps_set (i := 11) sc_law.nd (by rfl) (by first | exact .inl rfl | exact .inr rfl) (pe_cd C__law_shuffled hr (by decide) (by rfl) (pa_cons (pv 2) (pa_cons (pe_ifExp (pt_cmpR op_gt (pv 10) pe_int (nomark _)) (pe_ix ix_list (pv 9) (pe_cd C__law_pick hr (by decide) (by rfl) (pa_cons (pv 2) (pa_cons (pe_callB call_len_seq (by rfl) X.b_len rfl (pa_cons (pv 9) pa_nil)) pa_nil))) (fun _ _ => rfl)) (pv 7)) pa_nil)))) (pss_cons (ps_set (i := 12) sc_law.nd (by rfl) (by first | exact .inl rfl | exact .inr rfl) (pe_cd C__law_need hr (by decide) (by rfl) (pa_cons (pv 6) (pa_cons (pv 11) (pa_cons (pv 4) (pa_cons (pv 5) pa_nil)))))) (pss_cons (ps_if (pt_not (pt_val (pe_cd C__law_same_I_I hr (by decide) (by rfl) (pa_cons (pe_cdK C_group_need_k3210 hr (by decide) (by rfl) (pk_cons (pv 5) (pk_cons (pv 4) (pk_cons (pv 11) (pk_cons (pv 6) pk_nil))))) (pa_cons (pv 12) pa_nil))))) (pss_cons (ps_ret pe_bl) pss_nil) pss_nil) (pss_cons (ps_if (pt_not (pt_val (pe_cd C__law_same_I_I hr (by decide) (by rfl) (pa_cons (pe_cd C_group_need_DSTDSILTSSII_TpS_TpDSI_DSI hr (by decide) (by rfl) (pa_cons (pv 6) (pa_cons (pe_callTy call_tuple_of (by rfl) X.b_tuple rfl (pa_cons (pv 11) pa_nil)) (pa_cons (pe_callTy call_tuple_of (by rfl) X.b_tuple rfl (pa_cons (pv 4) pa_nil)) (pa_cons (pv 5) pa_nil))))) (pa_cons (pv 12) pa_nil))))) (pss_cons (ps_ret pe_bl) pss_nil) pss_nil) pss_nil))))) d3))), fun r v_script v_pacts v_moves v_prices v_books P h => by
    unfold w_law_p2 at h
    exact sd_seq (sd_par (i := 7) (j := 8) (ea_consZ (ev_fresh (ef_sortedD (ecd_ev (ev_var rfl (⟨h.1, fun z4704 h4705 h4706 => fun z_names_4707 e4965 => ea_consZ (ev_repr (α := (L3 (Dc Str ((Dc Str Int) × (List (T4 Str Str Int Int)))) (List (Dc Str Int)) (Dc Str Int))) (ev_l3 (ea_cons (ev_var rfl (ea_cons (ev_var rfl (ea_cons (ev_var rfl (ea_nil (⟨((h.2 z4704 h4705 h4706) z_names_4707 e4965).1, fun z_kept_4708 e4966 => ea_nil (sd_seq (sd_asgZ (i := 9) (Ev.imp (ev_call rfl (ea_cons (ev_var rfl (ea_nil (((h.2 z4704 h4705 h4706) z_names_4707 e4965).2 z_kept_4708 e4966))))) (fun y4709 h4710 => fun z_every_4711 e4964 => sd_wipe [10, 11, 12] (sd_seq (sd_forW (fun (s4745 : Unit) => [sD (α := Sq) v_script, .non, .raw (.ref r), sD (α := (List Str)) v_pacts, sD (α := (List (Dc Str Int))) v_moves, sD (α := (Dc Str Int)) v_prices, sD (α := (Dc Str ((Dc Str Int) × (List (T4 Str Str Int Int))))) v_books, sD (α := (List Str)) z_names_4707, sD (α := Str) z_kept_4708, sD (α := (List (List Str))) z_every_4711, .non, .non, .non, .non, .non, .non, .non, .non, .non, .non, .non]) (evi_rng1 (ea_cons (ev_int (ea_nil ⟨(h4710 z_every_4711 e4964).1, ⟨(), rfl, (h4710 z_every_4711 e4964).2⟩⟩)))) (by exact fun x4748 s4745 n4749 h4962 => tg_name (sd_seq (sd_asgZ (i := 11) (Ev.imp (ev_call (tpw r) (ea_tok rfl (ea_cons (ev_alt h4962 (by exact fun h4756 => ev_if (et_test (ev_I0 (f := fun i j : Int => (decide (j < i))) (fun h => h) (ev_var rfl (ev_int (⟨fun e4757 => ev_ixL (fun h => h) (ec_ev (ev_var rfl (Ev.imp (ev_call (tpw r) (ea_tok rfl (ea_cons (ev_lenC (fun h => h) (ec_ev (ev_var rfl (ea_nil (h4756.1 e4757)))))))) (fun y4753 h4754 => Exists.elim h4754 fun x4751 h4752 => ⟨x4751, h4752.1, h4752.2⟩)))), fun e4758 => ev_var rfl ((h4756.2 e4758))⟩)))))) (fun y4967 h4968 => ea_nil h4968))))) (fun y4759 h4760 => fun z_group_4761 e4783 => sd_seq (sd_asgZ (i := 12) (Ev.imp (ev_call rfl (ea_cons (ev_var rfl (ea_cons (ev_var rfl (ea_cons (ev_var rfl (ea_cons (ev_var rfl (ea_nil (h4760 z_group_4761 e4783))))))))))) (fun y4762 h4763 => fun z_due_4764 e4781 => sd_seq (sd_if (et_not (et_B (Ev.imp (ev_call rfl (ea_cons (Ev.imp (ev_callK (F := W_group_need) (fun g : (Dc Str Int) × (List (Dc Str Int)) × (List Str) × (Dc Str ((Dc Str Int) × (List (T4 Str Str Int Int)))) × Unit => (g.2.2.2.1, g.2.2.1, g.2.1, g.1, ())) (fun W K S vs g hh => by obtain ⟨v0, r0, rfl, h0, v1, r1, rfl, h1, v2, r2, rfl, h2, v3, r3, rfl, h3, e⟩ := hh; have e2 : r3 = [] := e; subst e2; exact ⟨rfl, v3, _, rfl, h3, v2, _, rfl, h2, v1, _, rfl, h1, v0, _, rfl, h0, rfl⟩) rfl (ea_cons (ev_var rfl (ea_cons (ev_var rfl (ea_cons (ev_var rfl (ea_cons (ev_var rfl (ea_nil (h4763 z_due_4764 e4781))))))))))) (fun y4767 h4768 => ea_cons (ev_var rfl (ea_nil h4768)))))) (fun y4769 h4770 => ⟨fun e4779 => sd_seq (sd_ret (Ev.imp (ev_bl ((h4770.1 e4779))) (fun _ z => ⟨(Wle.refl _), z⟩))), fun e4780 => sd_next (sd_seq (sd_if (et_not (et_B (Ev.imp (ev_call rfl (ea_cons (Ev.imp (ev_call rfl (ea_cons (ev_var rfl (ea_cons (ev_tupleC (ec_ev (ev_var rfl (ea_cons (ev_tupleC (ec_ev (ev_var rfl (ea_cons (ev_var rfl (ea_nil (h4770.2 e4780))))))))))))))) (fun y4773 h4774 => ea_cons (ev_var rfl (ea_nil h4774)))))) (fun y4775 h4776 => ⟨fun e4777 => sd_seq (sd_ret (Ev.imp (ev_bl ((h4776.1 e4777))) (fun _ z => ⟨(Wle.refl _), z⟩))), fun e4778 => sd_next (sd_nextW [10, 11, 12] ⟨(), rfl, (Wle.refl _), (h4776.2 e4778)⟩)⟩))))))⟩))))))))))))) (by exact fun s4784 h4963 => sd_le (Wle.refl _) (s3 r v_script v_pacts v_moves v_prices v_books z_names_4707 z_kept_4708 z_every_4711 _ h4963)) (fun _ _ l z => sd_le l z)))))))⟩))))))))))⟩)))))))⟩
def w_law_p1 (v_script : Sq) (P : (Option Bool) → Prop) : Prop := (w__law_pick (2 : Int) (fun (y4692 : Int) => (∃ (x4690 : (List Str)), atI [[("oil" : Str)], [("oil" : Str), ("tin" : Str)]] y4692 = some x4690 ∧ ∀ (z_pacts_4694 : (List Str)), z_pacts_4694 = x4690 → (w__law_moves z_pacts_4694 (fun (y4695 : (List (Dc Str Int))) => (w__law_prices z_pacts_4694 (fun (y4697 : (Dc Str Int)) => ∀ (z4699 : ((List (Dc Str Int)) × (Dc Str Int))), z4699 = (y4695, y4697) → (w__law_books z_pacts_4694 z4699.2 (fun (y4701 : (Dc Str ((Dc Str Int) × (List (T4 Str Str Int Int))))) => ∀ (z_books_4703 : (Dc Str ((Dc Str Int) × (List (T4 Str Str Int Int))))), z_books_4703 = y4701 → w_law_p2 v_script z_pacts_4694 z4699.1 z4699.2 z_books_4703 P)))))))))
theorem part_law_p1 (X : Tx K mg) (C__law_pick : CalD P w K mg base 1 "_law_pick" (spD K TpW W__law_pick) []) (C__law_moves : CalD P w K mg base 2 "_law_moves" (spD K TpW W__law_moves) []) (C__law_prices : CalD P w K mg base 2 "_law_prices" (spD K TpW W__law_prices) []) (C__law_books : CalD P w K mg base 4 "_law_books" (spD K TpW W__law_books) []) (C__law_lists : CalD P w K mg base 1 "_law_lists" (spD K AnyW W__law_lists) []) (C__law_shuffled : CalD P w K mg base 2 "_law_shuffled" (spD K TpW W__law_shuffled) []) (C__law_need : CalD P w K mg base 4 "_law_need" (spD K AnyW W__law_need) []) (C__law_same_I_I : CalD P w K mg base 1 "_law_same" (spD K AnyW W__law_same_I_I) []) (C_group_need_k3210 : CalK P w K mg base 7 "group_need" (spD K AnyW W_group_need) ["prices", "moves", "members", "books"] @kwp_3210) (C_group_need_DSTDSILTSSII_TpS_TpDSI_DSI : CalD P w K mg base 7 "group_need" (spD K AnyW W_group_need_DSTDSILTSSII_TpS_TpDSI_DSI) []) (C__law_losses : CalD P w K mg base 3 "_law_losses" (spD K AnyW W__law_losses) []) (C__law_book_loss : CalD P w K mg base 2 "_law_book_loss" (spD K AnyW W__law_book_loss) []) (C_sharing_k210 : CalK P w K mg base 7 "sharing" (spG K AnyW W_sharing) ["prices", "moves", "books"] @kwp_210) (C__law_same_DSI_DSI : CalD P w K mg base 3 "_law_same" (spD K AnyW W__law_same_DSI_DSI) []) (C__law_objecting : CalD P w K mg base 5 "_law_objecting" (spD K AnyW W__law_objecting) []) (C_sharing : CalD P w K mg base 7 "sharing" (spG K AnyW W_sharing) []) (C__law_shares_right : CalG P w K mg base 11 "_law_shares_right" (spD K TpW W__law_shares_right)) (C_saved_k210 : CalK P w K mg base 7 "saved" (spD K AnyW W_saved) ["prices", "moves", "books"] @kwp_210) (C__law_same_OI_OI : CalD P w K mg base 1 "_law_same" (spD K AnyW W__law_same_OI_OI) []) (C_common_move_k210 : CalK P w K mg base 7 "common_move" (spD K AnyW W_common_move) ["prices", "moves", "books"] @kwp_210) {f : Addr} {cdv : Value} {A : Around} {outer : List Env} {s : Shared} {H : Hp} {E : XK} (hgd : A.guards = some []) (hr : Room 11 (A.deeper (envOfC "law" (defScope (topS 73)) s.heap.objs.size f cdv))) :
    ∃ t, PSs (cxOf CX0 P w K mg base ["script", "k", "tape", "pacts", "moves", "prices", "books", "names", "kept", "every", "turn", "group", "due", "losses", "worst", "told", "needs", "common", "at", "rest", "name"] "law" (defScope (topS 73)) f cdv A outer s H E).nox (loopS.drop 1) t ∧ ∀ (r : Addr), ∀ (v_script : Sq) (P : (Option Bool) → Prop), w_law_p1 v_script P → Sd (Wtp r) K t [sD (α := Sq) v_script, .non, .raw (.ref r), .non, .non, .non, .non, .non, .non, .non, .non, .non, .non, .non, .non, .non, .non, .non, .non, .non, .non] { nx := fun W1 δ2 => Wle W1 (Wtp r) ∧ δ2[0]? = some (sD (α := Sq) v_script) ∧ δ2.length = 21 ∧ P none, rt := fun W1 y => Wle W1 (Wtp r) ∧ P (some y) } := by
  obtain ⟨t2, d2, s2⟩ := part_law_p2 X C__law_lists C__law_shuffled C__law_pick C__law_need C__law_same_I_I C_group_need_k3210 C_group_need_DSTDSILTSSII_TpS_TpDSI_DSI C__law_losses C__law_book_loss C_sharing_k210 C__law_same_DSI_DSI C__law_objecting C_sharing C__law_shares_right C_saved_k210 C__law_same_OI_OI C_common_move_k210 hgd hr
  exact ⟨_, (pss_cons (ps_set (i := 3) sc_law.nd (by rfl) (by first | exact .inl rfl | exact .inr rfl) (pe_ix ix_list (pe_lst (pa_cons (pe_lst (pa_cons pe_str pa_nil)) (pa_cons (pe_lst (pa_cons pe_str (pa_cons pe_str pa_nil))) pa_nil))) (pe_cd C__law_pick hr (by decide) (by rfl) (pa_cons (pv 2) (pa_cons pe_int pa_nil))) (fun _ _ => rfl))) (pss_cons (ps_asg (pe_tup (pa_cons (pe_cd C__law_moves hr (by decide) (by rfl) (pa_cons (pv 2) (pa_cons (pv 3) pa_nil))) (pa_cons (pe_cd C__law_prices hr (by decide) (by rfl) (pa_cons (pv 2) (pa_cons (pv 3) pa_nil))) pa_nil))) (pg_tup rfl (pgs_cons (pg_name (i := 4) sc_law.nd (by rfl) (by first | exact .inl rfl | exact .inr rfl)) (pgs_cons (pg_name (i := 5) sc_law.nd (by rfl) (by first | exact .inl rfl | exact .inr rfl)) pgs_nil)))) (pss_cons (ps_set (i := 6) sc_law.nd (by rfl) (by first | exact .inl rfl | exact .inr rfl) (pe_cd C__law_books hr (by decide) (by rfl) (pa_cons (pv 2) (pa_cons (pv 3) (pa_cons (pv 5) pa_nil))))) d2))), fun r v_script P h => by
    unfold w_law_p1 at h
    exact sd_seq (sd_asgZ (i := 3) (ev_ixL (fun h => h) (ec_ev (ev_fresh (ef_lst (es_cons (ev_fresh (ef_lst (es_cons (ev_str (es_nil (⟨Nat.le_of_ble_eq_true rfl, es_cons (ev_fresh (ef_lst (es_cons (ev_str (es_cons (ev_str (es_nil (⟨Nat.le_of_ble_eq_true rfl, es_nil (⟨Nat.le_of_ble_eq_true rfl, Ev.imp (ev_call (tpw r) (ea_tok rfl (ea_cons (ev_int (ea_nil h))))) (fun y4692 h4693 => Exists.elim h4693 fun x4690 h4691 => ⟨x4690, h4691.1, fun z_pacts_4694 e4970 => sd_seq (sd_asgTZ (ev_tup2 (ea_cons (Ev.imp (ev_call (tpw r) (ea_tok rfl (ea_cons (ev_var rfl (ea_nil (h4691.2 z_pacts_4694 e4970)))))) (fun y4695 h4696 => ea_cons (Ev.imp (ev_call (tpw r) (ea_tok rfl (ea_cons (ev_var rfl (ea_nil h4696))))) (fun y4697 h4698 => ea_nil (fun z4699 e4700 => tg_two (sd_seq (sd_asgZ (i := 6) (Ev.imp (ev_call (tpw r) (ea_tok rfl (ea_cons (ev_var rfl (ea_cons (ev_var rfl (ea_nil (h4698 z4699 e4700)))))))) (fun y4701 h4702 => fun z_books_4703 e4969 => sd_le (Wle.refl _) (s2 r v_script z_pacts_4694 z4699.1 z4699.2 z_books_4703 _ (h4702 z_books_4703 e4969))))))))))))))⟩)⟩)⟩))))))))⟩))))))))))))⟩

end
end K89
set_option maxHeartbeats 4000000
namespace K89
open PySem PySem.Spec PyProof.Rows L2 DW
section
variable {P : Program} {w : World} {K : Frag} {mg : Str → Option Value} {base : Heap}
theorem lo_all {f : Addr} {fd : FuncData} (X : Tx K mg) (F : Fun K "lists_of" "lists_of" (topS 35) f fd) (hm : mg "lists_of" = some (.ref f)) (bd : Binds K fd ["items", "size"] []) :
    ∀ n, CalD P w K mg base (n + 1) "lists_of" (spD K AnyW (fun (g : (List Str) × Int × Unit) (P : (List (List Str)) → Prop) => loW n g.1 g.2.1 P)) []
  | 0 => ⟨f, fd, ["items", "size"], [], hm, F.ok sc_lists_of (fun vs H Q E h => by
      obtain ⟨W, W', O, S', g, Q', h1, h2, h3, h4, h5⟩ := h
      exact h4.elim) (fun cdv A outer s H vs Q E hr h => by
      obtain ⟨W, W', O, S', g, Q', h1, h2, h3, h4, h5⟩ := h
      exact h4.elim), .nil, bd, F.kp⟩
  | n + 1 => walk_lists_of_b X (lo_all X F hm bd n) F hm bd
theorem walk_lists_of {f : Addr} {fd : FuncData} (X : Tx K mg) (F : Fun K "lists_of" "lists_of" (topS 35) f fd) (hm : mg "lists_of" = some (.ref f)) (bd : Binds K fd ["items", "size"] []) : CalD P w K mg base 8 "lists_of" (spD K AnyW W_lists_of) [] :=
  lo_all X F hm bd 7
end
/-- a def that gives None or a new list -/
theorem cal_okO {P : Program} {w : World} {K : Frag} {mg : Str → Option Value} {base : Heap} {γ α : Type} [RepA γ] [Rep α] {x : Str} {st : Stmt} {f : Addr} {fd : FuncData} {N ps : List Str} {k : Nat} {Wp : Wd → Wd → Prop} {Fp : γ → (Option (List α) → Prop) → Prop} (F : Fun K x x st f fd) (S : FnScope N ps (defScope st)) (ha : RepA.arity γ = ps.length) (hn : ps.length ≤ N.length)
    (hb : ∀ (cdv : Value) (A : Around) (outer : List Env) (s : Shared) (H : Hp) (E : XK), Room k (A.deeper (envOfC x (defScope st) s.heap.objs.size f cdv)) →
      ∃ t, PSs (cxOf CX0 P w K mg base N x (defScope st) f cdv A outer s H E).nox (defBody st) t ∧ ∀ (W W' : Wd), Wp W W' → ∀ (g : γ) (Q : Option (List α) → Prop), Fp g Q → Sd (β := Unit) W K t (RepA.slots W g ++ List.replicate (N.length - ps.length) DSlot.non) { nx := fun _ _ => False, rt := fun W1 _ => Wle W1 W' ∧ Q none, rg := rgF K W' (fun x => Q (some x)) }) :
    FnOk P w K mg base CX0 (k + 1) f fd ps (spO K Wp Fp) := by
  refine F.ok S (fun vs H Q E h => ?_) (fun cdv A outer s H vs Q E hr h => ?_)
  · obtain ⟨W, W', O, S', g, Q', h1, h2, h3, h4, h5⟩ := h
    exact (RepA.len h3).trans ha
  · obtain ⟨W, W', O, S', g, Q', h1, h2, h3, h4, h5, h6⟩ := h
    obtain ⟨t, ht, hs⟩ := hb cdv A outer s H E hr
    refine ⟨t, ht, hs W W' h1 g Q' h4 O S' H _ (start_cf h2 h3 ha hn) _ ⟨fun _ _ _ _ _ _ z => z.elim, fun _ _ _ _ _ _ z => z.elim, fun _ _ _ _ _ _ z => z.elim, fun v S2 H2 y m r p => ?_, fun q o S2 H2 m fr ⟨le, vs', xs, e, r, p⟩ => ?_⟩⟩
    · obtain rfl : v = V.non := r
      exact h5 S2 H2 (m.wle p.1) p.2
    · subst e
      exact h6 q vs' S2 H2 xs (m.wle le) (fr.wle le) r p
section
variable {P : Program} {w : World} {K : Frag} {mg : Str → Option Value} {base : Heap}
theorem ok_objecting {f : Addr} {fd : FuncData} (X : Tx K mg) (C_check_world : CalD P w K mg base 6 "check_world" (spD K AnyW W_check_world) []) (C_are_shares : CalD P w K mg base 5 "are_shares" (spD K AnyW W_are_shares) []) (C_all_lists : CalD P w K mg base 9 "all_lists" (spD K AnyW W_all_lists) []) (C_worst_together : CalD P w K mg base 4 "worst_together" (spD K AnyW W_worst_together) []) (F : Fun K "objecting" "objecting" (topS 51) f fd) : FnOk P w K mg base CX0 10 f fd ["books", "moves", "prices", "shares"] (spO K AnyW W_objecting) :=
  cal_okO F sc_objecting rfl (by decide) fun cdv A outer s H E hr => by
    exact ⟨_, (pss_cons (ps_expr (pe_cd C_check_world hr (by decide) (by rfl) (pa_cons (pv 0) (pa_cons (pv 1) (pa_cons (pv 2) pa_nil))))) (pss_cons (ps_if (pt_not (pt_val (pe_cd C_are_shares hr (by decide) (by rfl) (pa_cons (pv 0) (pa_cons (pv 1) (pa_cons (pv 2) (pa_cons (pv 3) pa_nil))))))) (pss_cons ps_never pss_nil) pss_nil) (pss_cons (ps_for PassesOwn.never rfl (pi_list (pe_cd C_all_lists hr (by decide) (by rfl) (pa_cons (pe_callB (call_sortedD rfl) (by rfl) X.b_sorted rfl (pa_cons (pv 0) pa_nil)) pa_nil))) (pg_name (i := 4) sc_objecting.nd (by rfl) (by first | exact .inl rfl | exact .inr rfl)) (pss_cons (ps_if (pt_cmpR op_gt (pe_callB (cr_sum rfl) (by rfl) X.b_sum rfl (pa_cons (pe_lc rfl sc_objecting.nd (pi_list (pv 4)) (blkOk_by (N := ["books", "moves", "prices", "shares", "group", "member"]) (sc := defScope (topS 51)) (own := [("member", 5)]) (by decide +kernel)) (fun _ _ _ _ _ => (pg_name (i := 5) sc_objecting.nd (by rfl) (by first | exact .inl rfl | exact .inr rfl))) (fun _ _ _ _ _ => pts_nil) (fun _ _ _ _ _ => (pe_dget (hu_of hr) (pv 3) (pv 5) (fun _ _ => rfl)))) pa_nil)) (pe_ix ix_tup (pe_cd C_worst_together hr (by decide) (by rfl) (pa_cons (pv 0) (pa_cons (pv 4) (pa_cons (pv 1) (pa_cons (pv 2) pa_nil))))) pe_int (fun _ _ => rfl)) (nomark _)) (pss_cons (ps_ret (pv 4)) pss_nil) pss_nil) pss_nil)) (pss_cons (ps_ret pe_non) pss_nil)))), fun W W2 hW g P h => by
      have e1 : W = W2 := hW
      subst e1
      have h' : w_objecting_p g.1 g.2.1 g.2.2.1 g.2.2.2.1 P := h
      clear h
      have h := h'
      clear h'
      unfold w_objecting_p at h
      refine sd_seq (sd_drop (Ev.imp (ev_call rfl (ea_cons (ev_var rfl (ea_cons (ev_var rfl (ea_cons (ev_var rfl (ea_nil h)))))))) (fun y1237 h1238 => sd_seq (sd_if (et_not (et_B (Ev.imp (ev_call rfl (ea_cons (ev_var rfl (ea_cons (ev_var rfl (ea_cons (ev_var rfl (ea_cons (ev_var rfl (ea_nil h1238)))))))))) (fun y1239 h1240 => ⟨fun e1285 => sd_seq (sd_never (h1240.1 e1285)), fun e1286 => sd_next (sd_wipe [4] (sd_seq (sd_forNew rfl (fun (s1261 : Unit) => [sD (α := (Dc Str ((Dc Str Int) × (List (T4 Str Str Int Int))))) g.1, sD (α := (List (Dc Str Int))) g.2.1, sD (α := (Dc Str Int)) g.2.2.1, sD (α := (Dc Str Int)) g.2.2.2.1, .non, .non]) (s0 := ()) (evnew_call (F := W_all_lists) (ef_sortedD (ecd_ev (ev_var rfl (⟨(h1240.2 e1286).1, fun z1241 h1242 h1243 => (h1240.2 e1286).2 z1241 h1242 h1243⟩))))) (fun R x1264 s1261 n1265 h1283 => tg_name (sd_seq (sd_if (et_test (ev_I0 (f := fun i j : Int => (decide (j < i))) (fun h => h) (ev_sum (ec_ev (ev_fresh (EvF.imp (ef_lcW (evio (evi_list (ev_varN rfl (h1283)))) (by exact fun x1267 R1268 h1269 => bd_yes (tgc_name (ev_dget (ecd_ev (ev_var rfl (ev_var rfl (Exists.elim h1269 fun x1270 h1271 => ⟨x1270, h1271.1, h1271.2⟩)))))) (Wle.refl _))) (fun y1274 h1277 => ev_p0 (fun h => h) (Ev.imp (ev_call rfl (ea_cons (ev_var rfl (ea_cons (ev_varN rfl (ea_cons (ev_var rfl (ea_cons (ev_var rfl (ea_nil h1277)))))))))) (fun y1278 h1279 => ⟨fun e1280 => sd_seq (sd_ret (ev_var rfl ⟨Wle.refl _, h1279.1 e1280⟩)), fun e1281 => sd_next (sd_nextW [4] ⟨Wle.refl _, (), rfl, h1279.2 e1281⟩)⟩)))))))))))) (fun s1282 h1284 => sd_seq (sd_retN (y := ()) ⟨Wle.refl _, h1284⟩)))))⟩))))))))⟩
end
end K89
set_option maxHeartbeats 4000000
namespace DW
open PySem PySem.Spec PyProof.Rows L2
section
variable {W W1 : Wd} {K : Frag} {δ : DEnv} {i : Nat} {x : Sq}
theorem ev_lenQ {P : Int → Prop} (hi : δ[i]? = some (sD x)) (p : P (x.l.length : Int)) : Ev W W K (tCB (fun xs H Q => ∃ p ys, xs = [.ref p] ∧ (SqL K H p ys ∨ SqT K H p ys) ∧ Q (.int ys.length) H) (tCons (tVar i) tNil)) δ P := fun O S H σ s Q q => by
  obtain ⟨a, e, h⟩ := sq_at s hi
  exact ⟨_, e, a, _, rfl, .inl (s.g.sub.sqL h), by rw [List.length_map]; exact q _ S H _ (Mv.refl s.g) rfl p⟩
theorem ev_ixQ {tb : TE} {P : Int → Prop} (hi : δ[i]? = some (sD x)) (h : Ev W W1 K tb δ fun k : Int => ∃ y, atI x.l k = some y ∧ P y) : Ev W W1 K (tOp (rIxL K) (tVar i) tb) δ P := fun O S H σ s Q q => by
  obtain ⟨a, e, hs⟩ := sq_at s hi
  refine ⟨_, e, h O S H σ s _ fun u S2 H2 k m2 r2 p2 => ?_⟩
  obtain rfl : u = .int k := r2
  obtain ⟨y, hy, py⟩ := p2
  obtain ⟨j, hj, hb⟩ := atI_at hy
  have sq : SqL K H2 a (x.l.map V.int) := m2.good.sub.sqL (m2.ex.sqL hs)
  have g : (x.l.map V.int)[j]? = some (.int y) := by rw [List.getElem?_map, hj] <;> rfl
  exact ⟨a, _, k, _, rfl, rfl, sq, (hb (List.length_map ..)).trans g, q _ S2 H2 y m2 rfl py⟩
end
end DW
namespace K89
open PySem PySem.Spec PyProof.Rows L2 DW
/-- the tape that comes new: three ints, the last two small -/
def tapeOk (k : Int) (xs : List Int) : Prop := ∃ a, xs = [a, 104729 + 7919 * k, 15485863 + 1299709 * k] ∧ 0 ≤ a
abbrev W__law_tape (g : Sq × Int × Unit) (P : Option (List Int) → Prop) : Prop := 0 ≤ g.2.1 ∧ g.2.1 ≤ 100 ∧ ∀ xs, tapeOk g.2.1 xs → P (some xs)
section
variable {P : Program} {w : World} {K : Frag} {mg : Str → Option Value} {base : Heap}
theorem sc__law_tape : FnScope ["script", "k", "cell"] ["script", "k"] (defScope (topS 56)) := ⟨rfl, rfl, rfl, by decide +kernel, rfl, by decide +kernel, by decide +kernel⟩
theorem abs_nn (i : Int) : 0 ≤ (if i < 0 then -i else i) := by split <;> omega
theorem walk__law_tape {f : Addr} {fd : FuncData} (X : Tx K mg) (F : Fun K "_law_tape" "_law_tape" (topS 56) f fd) (hm : mg "_law_tape" = some (.ref f)) (bd : Binds K fd ["script", "k"] []) : CalD P w K mg base 1 "_law_tape" (spO K AnyW W__law_tape) [] :=
  ⟨f, fd, _, [], hm, cal_okO F sc__law_tape rfl (by decide) fun cdv A outer s H E hr => by
    refine ⟨_, (pss_cons (ps_set (i := 2) sc__law_tape.nd (by rfl) (by first | exact .inl rfl | exact .inr rfl) (pe_op op_add pe_int (pe_op op_mod (pe_callB (cr_sum rfl) (by rfl) X.b_sum rfl (pa_cons (pe_slice sl_list (pv 0) po_none (po_some pe_int)) pa_nil)) pe_int))) (pss_cons (ps_if (pt_cmpR op_lt (pv 1) (pe_callB call_len_seq (by rfl) X.b_len rfl (pa_cons (pv 0) pa_nil)) (nomark _)) (pss_cons (ps_set (i := 2) sc__law_tape.nd (by rfl) (by first | exact .inl rfl | exact .inr rfl) (pe_ix ix_list (pv 0) (pv 1) (fun _ _ => rfl))) pss_nil) pss_nil) (pss_cons (ps_ret (pe_lst (pa_cons (pe_callB call_abs (by rfl) X.b_abs rfl (pa_cons (pv 2) pa_nil)) (pa_cons (pe_op op_add pe_int (pe_op op_mul pe_int (pv 1))) (pa_cons (pe_op op_add pe_int (pe_op op_mul pe_int (pv 1))) pa_nil))))) pss_nil))), fun W W2 hW g P h => ?_⟩
    have e1 : W = W2 := hW
    subst e1
    obtain ⟨k0, k1, h⟩ := h
    have cm : ∀ c : Int, 0 ≤ c → c ≤ 10000000 → CMul c g.2.1 := fun c c0 c1 => .inl ⟨by omega, by omega⟩
    refine sd_seq (sd_asgZ (i := 2) (ev_I0 (f := fun i j : Int => i + j) (fun h => h) (ev_int (ev_I (f := fun i j : Int => i % j) (C := (fun _ j => 0 < j)) (fun h => h) (ev_sum (ec_ev (ev_fresh (ef_slQ (i := 0) rfl (ev_int ⟨by decide, fun z ez => ?_⟩)))))))))
    refine sd_joinW W (fun (s1462 : Int) => [sD (α := Sq) g.1, sD (α := Int) g.2.1, sD (α := Int) s1462]) (f := fun k : Int → Prop => ∀ y, k y) (k := fun _ => True) (fun _ => trivial) (fun h0 => sd_if (et_test (ev_I0 (f := fun i j : Int => (decide (i < j))) (fun h => h) (ev_var rfl (ev_lenQ (i := 0) rfl ⟨fun e => ?_, fun e => ?_⟩))))) (fun s1462 _ => ?_)
    · refine sd_seq (sd_asgZ (i := 2) (ev_ixQ (i := 0) rfl (ev_var rfl ?_)))
      have e2 : g.2.1 < (g.1.l.length : Int) := of_decide_eq_true e
      obtain ⟨y, hy⟩ : ∃ y, atI g.1.l g.2.1 = some y := by
        unfold atI ixN
        rw [if_pos k0, if_pos e2]
        have l : g.2.1.toNat < g.1.l.length := by omega
        exact ⟨g.1.l[g.2.1.toNat], by simp [l]⟩
      exact ⟨y, hy, fun z e => sd_nextW [] ⟨z, rfl, Wle.refl _, h0 z⟩⟩
    · exact sd_nextW [] ⟨z, rfl, (Wle.refl _), h0 z⟩
    · refine sd_seq (sd_retF rfl (ef_lst (es_cons (ev_abs (ev_var rfl (es_cons (ev_I0 (f := fun i j : Int => i + j) (fun h => h) (ev_int (ev_I (f := fun i j : Int => i * j) (C := CMul) (fun h => h) (ev_int (ev_var rfl ⟨cm _ (by decide) (by decide), es_cons (ev_I0 (f := fun i j : Int => i + j) (fun h => h) (ev_int (ev_I (f := fun i j : Int => i * j) (C := CMul) (fun h => h) (ev_int (ev_var rfl ⟨cm _ (by decide) (by decide), es_nil ⟨Nat.le_of_ble_eq_true rfl, h _ ⟨_, rfl, abs_nn _⟩⟩⟩)))))⟩)))))))))) (Wle.refl _)), .nil, bd, F.kp⟩
end
end K89
set_option maxHeartbeats 4000000
namespace DW
open PySem PySem.Spec PyProof.Rows L2
/-- tape = f(..): the new list becomes the tape -/
theorem sd_tape {β γ : Type} [Rep β] [RepA γ] {K : Frag} {δ : DEnv} {i : Nat} {D : DE β} {ta : TA} {P : Option (List Int) → Prop} {F : γ → (Option (List Int) → Prop) → Prop} {E : XK} (h : EvA W0 W0 K ta δ fun g : γ => F g P)
    (hP : ∀ xs, P (some xs) → ∃ a b c, xs = [a, b, c] ∧ 0 ≤ a ∧ 0 ≤ b ∧ b < small31 ∧ 0 ≤ c ∧ c < small31) (hN : ¬ P none) (hn : ∀ r, D.nx (Wtp r) (δ.set i (.raw (.ref r)))) : Sd W0 K (tAsg (tCall (spO K AnyW F) [] E ta) (gName i)) δ D := fun O S H σ c E' r =>
  h _ S H σ c.stt _ fun vs S1 H1 g m rv p => ⟨W0, W0, _, S1, g, P, rfl, m.good, by rw [List.append_nil]; exact rv, p, fun S2 H2 m2 n => (hN n).elim, fun q us S2 H2 xs m2 f rr n => by
    have m3 := m.trans m2
    obtain ⟨a, b, d, e, a0, b0, b1, d0, d1⟩ := hP xs n
    subst e
    have eu : us = [.int a, .int b, .int d] := flat_reps rr
    subst eu
    have c2 := c.mv m3
    have c3 := c2.set (i := i) (v := .ref q) (d := .raw (.ref q)) rfl rfl
    refine r.nx S2 H2 _ _ (m3.mo fun _ z => .inl z) (W' := Wtp q) ⟨⟨c3.g.sub, ⟨a, b, d, f.at_, a0, b0, b1, d0, d1⟩, fun x z => ?_, fun x z y => ?_, c3.g.oS, c3.g.oH⟩, c3.sl, c3.dst, c3.out⟩ (hn q)
    · have z' : x = q := z
      rw [z']
      exact f.s
    · have z' : x = q := z
      rw [z'] at y
      exact f.o (y.imp id (own_set rfl))⟩
theorem forW_all {B : Int → Unit → (Unit → Prop) → (Unit → Prop) → Prop} {k : Unit → Prop} (hB : ∀ (x : Int) (n : Unit → Prop), 0 ≤ x → x ≤ 100 → n () → B x () n k) (hk : k ()) : ∀ xs : List Int, (∀ x ∈ xs, 0 ≤ x ∧ x ≤ 100) → forW B k xs ()
  | [], _ => hk
  | x :: xs, h => hB x _ (h x (List.mem_cons_self ..)).1 (h x (List.mem_cons_self ..)).2 (forW_all hB hk xs fun y hy => h y (List.mem_cons_of_mem _ hy))
theorem sd_impW {β : Type} [Rep β] {W : Wd} {K : Frag} {t : TS} {δ : DEnv} {D D' : DE β} (vs : List Nat) (h : Sd W K t δ D) (hn : ∀ W' δ', D.nx W' δ' → D'.nx W' (wipeD δ' vs)) (hr : ∀ W' y, D.rt W' y → D'.rt W' y) (hb : ∀ W' δ', ¬ D.bk W' δ') (hc : ∀ W' δ', ¬ D.ct W' δ') (hg : ∀ W' o S', ¬ D.rg W' o S') : Sd W K t δ D' := fun O S H σ c E r =>
  h O S H σ c E ⟨fun S' H' σ' δ' m c' q => r.nx S' H' σ' _ m (c'.wipeD vs) (hn _ δ' q), fun S' H' σ' δ' m c' q => (hb _ δ' q).elim, fun S' H' σ' δ' m c' q => (hc _ δ' q).elim, fun v S' H' y m q p => r.rt v S' H' y m q (hr _ y p), fun q o S' H' m f p => (hg _ o S' p).elim⟩
theorem wipe21 {d : DSlot} {δ : DEnv} (h0 : δ[0]? = some d) (hl : δ.length = 21) : wipeD δ [1, 2, 3, 4, 5, 6, 7, 8, 9, 10, 11, 12, 13, 14, 15, 16, 17, 18, 19, 20] = [d, .non, .non, .non, .non, .non, .non, .non, .non, .non, .non, .non, .non, .non, .non, .non, .non, .non, .non, .non, .non] := by
  match δ, hl, h0 with
  | [a0, a1, a2, a3, a4, a5, a6, a7, a8, a9, a10, a11, a12, a13, a14, a15, a16, a17, a18, a19, a20], _, h0 =>
    have e : a0 = d := Option.some.inj h0
    rw [← e]
    rfl
end DW
namespace K89
open PySem PySem.Spec PyProof.Rows L2 DW
section
variable {P : Program} {w : World} {K : Frag} {mg : Str → Option Value} {base : Heap}
def nms : List Str := ["script", "k", "tape", "pacts", "moves", "prices", "books", "names", "kept", "every", "turn", "group", "due", "losses", "worst", "told", "needs", "common", "at", "rest", "name"]
theorem ok_law {f : Addr} {fd : FuncData} (X : Tx K mg) (C__law_tape : CalD P w K mg base 1 "_law_tape" (spO K AnyW W__law_tape) []) (C__law_pick : CalD P w K mg base 1 "_law_pick" (spD K TpW W__law_pick) []) (C__law_moves : CalD P w K mg base 2 "_law_moves" (spD K TpW W__law_moves) []) (C__law_prices : CalD P w K mg base 2 "_law_prices" (spD K TpW W__law_prices) []) (C__law_books : CalD P w K mg base 4 "_law_books" (spD K TpW W__law_books) []) (C__law_lists : CalD P w K mg base 1 "_law_lists" (spD K AnyW W__law_lists) []) (C__law_shuffled : CalD P w K mg base 2 "_law_shuffled" (spD K TpW W__law_shuffled) []) (C__law_need : CalD P w K mg base 4 "_law_need" (spD K AnyW W__law_need) []) (C__law_same_I_I : CalD P w K mg base 1 "_law_same" (spD K AnyW W__law_same_I_I) []) (C_group_need_k3210 : CalK P w K mg base 7 "group_need" (spD K AnyW W_group_need) ["prices", "moves", "members", "books"] @kwp_3210) (C_group_need_DSTDSILTSSII_TpS_TpDSI_DSI : CalD P w K mg base 7 "group_need" (spD K AnyW W_group_need_DSTDSILTSSII_TpS_TpDSI_DSI) []) (C__law_losses : CalD P w K mg base 3 "_law_losses" (spD K AnyW W__law_losses) []) (C__law_book_loss : CalD P w K mg base 2 "_law_book_loss" (spD K AnyW W__law_book_loss) []) (C_sharing_k210 : CalK P w K mg base 7 "sharing" (spG K AnyW W_sharing) ["prices", "moves", "books"] @kwp_210) (C__law_same_DSI_DSI : CalD P w K mg base 3 "_law_same" (spD K AnyW W__law_same_DSI_DSI) []) (C__law_objecting : CalD P w K mg base 5 "_law_objecting" (spD K AnyW W__law_objecting) []) (C_sharing : CalD P w K mg base 7 "sharing" (spG K AnyW W_sharing) []) (C__law_shares_right : CalG P w K mg base 11 "_law_shares_right" (spD K TpW W__law_shares_right)) (C_saved_k210 : CalK P w K mg base 7 "saved" (spD K AnyW W_saved) ["prices", "moves", "books"] @kwp_210) (C__law_same_OI_OI : CalD P w K mg base 1 "_law_same" (spD K AnyW W__law_same_OI_OI) []) (C_common_move_k210 : CalK P w K mg base 7 "common_move" (spD K AnyW W_common_move) ["prices", "moves", "books"] @kwp_210) (F : Fun K "law" "law" (topS 73) f fd) (main : ∀ q : Sq, w_law_p1 q fun o => o = none ∨ o = some true) : FnOkG P w K mg base 12 f fd ["script"] (spLaw K) := by
  refine fun_guard F sc_law (fun {vs H Q E} h => ?_) (fun cdv A outer s H vs Q E hgd hr h => ?_)
  · obtain ⟨a, ns, e, _⟩ := h
    rw [e] <;> rfl
  · obtain ⟨t1, d1, s1⟩ := part_law_p1 X C__law_pick C__law_moves C__law_prices C__law_books C__law_lists C__law_shuffled C__law_need C__law_same_I_I C_group_need_k3210 C_group_need_DSTDSILTSSII_TpS_TpDSI_DSI C__law_losses C__law_book_loss C_sharing_k210 C__law_same_DSI_DSI C__law_objecting C_sharing C__law_shares_right C_saved_k210 C__law_same_OI_OI C_common_move_k210 (H := H) (E := E) hgd hr
    refine ⟨_, pss_cons (ps_for PassesOwn.never rfl (pi_range1 (by rfl) X.b_range (pa_cons (pe_callB (call_max2 rfl) (by rfl) X.b_max rfl (pa_cons pe_int (pa_cons (pe_callB (call_min2 rfl) (by rfl) X.b_min rfl (pa_cons pe_int (pa_cons (pe_callB call_len_seq (by rfl) X.b_len rfl (pa_cons (pv 0) pa_nil)) pa_nil))) pa_nil))) pa_nil)) (pg_name (i := 1) sc_law.nd (by rfl) (by first | exact .inl rfl | exact .inr rfl))
      (pss_cons (ps_set (i := 2) sc_law.nd (by rfl) (by first | exact .inl rfl | exact .inr rfl) (pe_cd C__law_tape hr (by decide) (by rfl) (pa_cons (pv 0) (pa_cons (pv 1) pa_nil)))) d1)) (pss_cons (ps_ret pe_bl) pss_nil), ?_⟩
    obtain ⟨a, ns, e, hs, hl, q⟩ := h
    subst e
    have no : ∀ b, ¬ OwnAt (L2.start nms [.ref a]) [sD (⟨ns⟩ : Sq), .non, .non, .non, .non, .non, .non, .non, .non, .non, .non, .non, .non, .non, .non, .non, .non, .non, .non, .non, .non] b := fun b ⟨i, d, h1, h2, _⟩ => by
      match i, h1 with
      | 0, h1 => cases h1; cases h2
      | 1, h1 => cases h1; cases h2
      | 2, h1 => cases h1; cases h2
      | 3, h1 => cases h1; cases h2
      | 4, h1 => cases h1; cases h2
      | 5, h1 => cases h1; cases h2
      | 6, h1 => cases h1; cases h2
      | 7, h1 => cases h1; cases h2
      | 8, h1 => cases h1; cases h2
      | 9, h1 => cases h1; cases h2
      | 10, h1 => cases h1; cases h2
      | 11, h1 => cases h1; cases h2
      | 12, h1 => cases h1; cases h2
      | 13, h1 => cases h1; cases h2
      | 14, h1 => cases h1; cases h2
      | 15, h1 => cases h1; cases h2
      | 16, h1 => cases h1; cases h2
      | 17, h1 => cases h1; cases h2
      | 18, h1 => cases h1; cases h2
      | 19, h1 => cases h1; cases h2
      | 20, h1 => cases h1; cases h2
    have g : Good W0 (fun b => False ∨ OwnAt (L2.start nms [.ref a]) [sD (⟨ns⟩ : Sq), .non, .non, .non, .non, .non, .non, .non, .non, .non, .non, .non, .non, .non, .non, .non, .non, .non, .non, .non, .non] b) (onlyAt H a) H := ⟨only_sub, trivial, fun _ h => h.elim, fun _ h => h.elim, fun b h => h.elim (fun z => z.elim) fun z => (no b z).elim, fun b h => h.elim (fun z => z.elim) fun z => (no b z).elim⟩
    have c : Cf W0 K (fun _ => False) (onlyAt H a) H (L2.start nms [.ref a]) [sD (⟨ns⟩ : Sq), .non, .non, .non, .non, .non, .non, .non, .non, .non, .non, .non, .non, .non, .non, .non, .non, .non, .non, .non, .non] :=
      ⟨g, ⟨rfl, fun i d h1 => by
        match i, h1 with
        | 0, h1 => cases h1; exact ⟨_, rfl, _, rfl, a, rfl, only_sq hs⟩
        | 1, h1 => cases h1; exact ⟨_, rfl, trivial⟩
        | 2, h1 => cases h1; exact ⟨_, rfl, trivial⟩
        | 3, h1 => cases h1; exact ⟨_, rfl, trivial⟩
        | 4, h1 => cases h1; exact ⟨_, rfl, trivial⟩
        | 5, h1 => cases h1; exact ⟨_, rfl, trivial⟩
        | 6, h1 => cases h1; exact ⟨_, rfl, trivial⟩
        | 7, h1 => cases h1; exact ⟨_, rfl, trivial⟩
        | 8, h1 => cases h1; exact ⟨_, rfl, trivial⟩
        | 9, h1 => cases h1; exact ⟨_, rfl, trivial⟩
        | 10, h1 => cases h1; exact ⟨_, rfl, trivial⟩
        | 11, h1 => cases h1; exact ⟨_, rfl, trivial⟩
        | 12, h1 => cases h1; exact ⟨_, rfl, trivial⟩
        | 13, h1 => cases h1; exact ⟨_, rfl, trivial⟩
        | 14, h1 => cases h1; exact ⟨_, rfl, trivial⟩
        | 15, h1 => cases h1; exact ⟨_, rfl, trivial⟩
        | 16, h1 => cases h1; exact ⟨_, rfl, trivial⟩
        | 17, h1 => cases h1; exact ⟨_, rfl, trivial⟩
        | 18, h1 => cases h1; exact ⟨_, rfl, trivial⟩
        | 19, h1 => cases h1; exact ⟨_, rfl, trivial⟩
        | 20, h1 => cases h1; exact ⟨_, rfl, trivial⟩⟩, fun i j d e b h1 h2 h3 => absurd ⟨i, d, h1, h2, h3⟩ (no b), fun b h => absurd h (no b)⟩
    refine sd_run (W := W0) (We := W0) (β := Bool) (P := fun b => b = true) (D := { nx := fun _ _ => False, rt := rtW W0 (fun b : Bool => b = true) }) ?_ c (fun _ _ h => h) (fun _ _ h => h) (fun _ _ h => h.elim) rfl fun v S' H2 y m rv e => by
      have ev : v = .bl y := rv
      rw [ev, e]
      exact q H2
    refine sd_seq (sd_forW (fun _ : Unit => [sD (⟨ns⟩ : Sq), .non, .non, .non, .non, .non, .non, .non, .non, .non, .non, .non, .non, .non, .non, .non, .non, .non, .non, .non, .non]) (B := fun x _ n _ => 0 ≤ x ∧ x ≤ 100 ∧ n ()) (k := fun _ => True) (evi_rng1 (ea_cons (ev_max2 (ev_int (ev_min2 (ev_int (ev_lenQ (i := 0) rfl (ea_nil ⟨?_, (), rfl, ?_⟩)))))))) (fun x _ n hx => ?_) (fun _ _ => ?_) (fun _ _ l z => sd_le l z))
    · dsimp only
      split <;> split <;> omega
    · refine forW_all (fun x n h0 h1 h2 => ⟨h0, h1, h2⟩) trivial _ fun x hx => ?_
      unfold rng at hx
      obtain ⟨j, hj, e⟩ := List.mem_map.mp hx
      have hj2 := List.mem_range.mp hj
      have hj3 : j < 5 := by
        revert hj2
        split <;> split <;> omega
      omega
    · refine tg_name (sd_seq (sd_tape (P := fun o => ∃ xs, o = some xs ∧ tapeOk x xs) (ea_cons (ev_var (i := 0) rfl (ea_cons (ev_var (i := 1) rfl (ea_nil ⟨hx.1, hx.2.1, fun xs h => ⟨xs, rfl, h⟩⟩))))) (fun xs h => ?_) (fun h => ?_) fun r => ?_))
      · obtain ⟨ys, e, a, e2, ha⟩ := h
        cases e
        subst e2
        refine ⟨a, _, _, rfl, ha, ?_, ?_, ?_, ?_⟩ <;> (have h1 := hx.1; have h2 := hx.2.1; first | omega | (unfold small31; omega))
      · obtain ⟨xs, e, _⟩ := h
        cases e
      · have k := s1 r ⟨ns⟩ (fun o => o = none ∨ o = some true) (main ⟨ns⟩)
        have le : Wle (Wtp r) W0 := tp_none r W0 (fun _ => trivial) fun _ _ z => z
        refine sd_wipe [1] (sd_impW [1, 2, 3, 4, 5, 6, 7, 8, 9, 10, 11, 12, 13, 14, 15, 16, 17, 18, 19, 20] k (fun W' δ' z => ⟨(), wipe21 z.2.1 z.2.2.1, z.1.trans le, hx.2.2⟩) (fun W' y z => ?_) (fun _ _ z => z) (fun _ _ z => z) (fun _ _ _ z => z))
        refine ⟨z.1.trans le, ?_⟩
        rcases z.2 with z | z
        · cases z
        · exact Option.some.inj z
    · exact sd_seq (sd_retW rfl (ev_bl rfl) (Wle.refl _))
end
end K89
set_option maxHeartbeats 4000000
/-! DW: the law's end, for a law that is entered with no guard on the stack -/
namespace DW
open PySem PySem.Spec PyProof.Rows L2
section
variable {P : Program} {w : World} {K : Frag} {mg mb : Str → Option Value}
theorem script_run {k : Nat} {fa a : Addr} {fd : FuncData} {x : Str} {t : Shared} {vs : List Value} {ns : List Int} (inK : K.In t.heap) (main : t.heap.Ns mainGlobals mg) (blt : t.heap.Ns builtinsNs mb) (boot : ∀ y : Str, y ≠ "__name__" → mb y = bootBuiltins y)
    (nol : t.heap.NoLimit) (still : t.gens = #[]) (at_ : t.heap.get? a = some { cls := .type "list", data := .seq vs.toArray }) (inI : IntsAre vs ns) (few : ns.length ≤ 63) (room : Room k callerA)
    (F : ∀ bh : Heap, K.In bh → bh.Ns mainGlobals mg → FnOkG P w K mg bh k fa fd [x] (spLaw K)) (bind : ∀ (t : Shared) (u : Value), BindsTo t fd ⟨[u], []⟩ [(x, u)]) :
    codeAny (model P w) callerA (.call (.ref fa) ⟨[.ref a], []⟩) (fun r t2 => r = .ok (.ret (.bool true)) ∧ OldK t.heap t2.heap ∧ t2.os = t.os ∧ AllBare t2.gens) t := by
  have rel := vals_ints inI
  have small : (ns.map V.int).length ≤ sizeLine := by
    rw [List.length_map]
    exact Nat.le_trans few (by decide)
  -- the script is held still, unless the module owns it
  obtain ⟨H, hH, sq⟩ : ∃ H : Hp, (∀ b u, H b = some u → b = a ∧ K.lookup a = none ∧ u = .frz { cls := .type "list", data := .seq vs.toArray } (.lst (ns.map V.int))) ∧ SqL K H a (ns.map V.int) := by
    cases own : K.lookup a with
    | none =>
      refine ⟨fun b => if b = a then some (.frz { cls := .type "list", data := .seq vs.toArray } (.lst (ns.map V.int))) else none, fun b u e => ?_, .inl (.inr ⟨{ cls := .type "list", data := .seq vs.toArray }, if_pos rfl⟩)⟩
      by_cases c : b = a
      · have e' : some _ = some u := (if_pos c).symm.trans e
        exact ⟨c, rfl, (Option.some.inj e').symm⟩
      · have e' : none = some u := (if_neg c).symm.trans e
        cases e'
    | some o =>
      have eo := inK a o own
      rw [at_] at eo
      cases eo
      refine ⟨fun _ => none, (fun b u e => by
        have e' : (none : Option HO) = some u := e
        cases e'), .inr ⟨_, vs.toArray, _, own, rfl, rfl, rfl, ?_, by simpa using rel⟩⟩
      rw [List.size_toArray, ← rel.length]
      exact small
  have clear : ∀ {b : Addr}, (b = a → K.lookup a ≠ none) → H b = none := fun {b} h => by
    cases e : H b with
    | none => rfl
    | some u => exact absurd (hH b u e).2.1 (h (hH b u e).1)
  have dictClear : ∀ {b : Addr} {o : Obj} {es : Array DictEntry} {n : Nat}, t.heap.get? b = some o → o.data = .dict es n → H b = none := fun {b o es n} e d => by
    cases q : H b with
    | none => rfl
    | some u =>
      rw [(hH b u q).1, at_] at e
      cases e
      cases d
  have stay : ∀ {b : Addr} {m : Str → Option Value}, t.heap.Ns b m → (hidT t.heap H).Ns b m := by
    rintro b m ⟨o, es, n, e, d, r⟩
    exact ⟨o, es, n, hidT_get e (dictClear e d), d, r⟩
  have inB : K.In (hidT t.heap H) := fun b o e => hidT_get (inK b o e) (clear fun q z => by
    rw [q, z] at e
    cases e)
  have ok : HOk P w H t.heap := fun b u e => by
    obtain ⟨e1, _, e2⟩ := hH b u e
    subst e1 e2
    exact ⟨at_, small, vs, _, rel, at_⟩
  obtain ⟨mc, l1, l2⟩ := nol
  have env : Env0 P w K mg (hidT t.heap H) callerA [] t H :=
    ⟨rfl, ⟨inB, stay main, ⟨mb, stay blt, boot⟩, ⟨mc, stay l1, l2⟩⟩, fun b o e => of_hidT e, Nat.le_of_eq (hidT_size _ _), trivial, (fun b z => by cases z), ok, .of_eq still⟩
  refine codeAny_mono ((F _ inB (stay main)).enter (Q := fun v _ => v = .bl true) (E := fun _ _ _ => False) (zs := [.ref a]) (ws := [.ref a]) room rfl env (bind t (.ref a)) (.cons rfl .nil) ⟨a, ns, rfl, sq, few, fun _ => rfl⟩) fun out t2 o => ?_
  match out, o with
  | .error _, o => exact False.elim o
  | .ok (.ret u), ⟨v, H2, o1, o2, un, ok2, rv, q⟩ =>
    have ev : v = .bl true := q
    subst ev
    have eu : u = Value.bool true := rv
    refine ⟨by rw [eu], OldK.of_keep fun b ob e => ?_, o1, o2⟩
    cases h : H b with
    | none => exact un.keep b ob e h (fun z => by cases z) (fun z => by cases z)
    | some u2 =>
      obtain ⟨_, _, e2⟩ := hH b u2 h
      rw [e2] at h
      have k1 := (ok b _ h).1
      rw [e] at k1
      cases k1
      exact (ok2 b _ (un.frzs b _ _ h)).1
end
/-- the row, from the law's promise -/
theorem row_of {l : PySem.W.OpenLaw} {k : Nat} {q : Program} {loose : List Str} {XP : (Str → Option Value) → Heap → Prop} {YP : World → Heap → Prop} {d : DefRec} {KK : Params → Frag} {x : Str} (most : l.most = some 63) (plain : d.params.defaults = []) (room : Room k callerA)
    (inK : ∀ (w : World) (h : Heap), YP w h → (KK w.params).In h)
    (F : ∀ (w : World) (mg : Str → Option Value) (fa : Addr) (h : Heap), (KK w.params).In h → h.Ns mainGlobals mg → mg d.name = some (.ref fa) →
      ∃ fd : FuncData, (∀ (t : Shared) (u : Value), BindsTo t fd ⟨[u], []⟩ [(x, u)]) ∧ ∀ bh : Heap, (KK w.params).In bh → bh.Ns mainGlobals mg → FnOkG l.prog w (KK w.params) mg bh k fa fd [x] (spLaw (KK w.params))) :
    PySem.W.WalkO q loose XP YP l.row.toRowW d [] (fun f vs => PySem.call f vs) := by
  apply Att.attach_call most plain
  intro w t0 t mg mb fa ob pm cd doc a vs ns G Y h1 h2 h3 h4 h5 h6 h7 h8
  obtain ⟨fd, b, ok⟩ := F w mg fa _ (inK w _ Y) G.T.g h4
  exact script_run (inK w _ Y) G.T.g G.T.b G.T.builtins G.T.nolimit h8 h5 h6 h7 room ok b
end DW
set_option maxHeartbeats 4000000
/-! k89, the plain law: what the defs compute -/
namespace K89
open PySem PySem.Spec PyProof.Rows L2 DW
/-! ### comprehensions and loops -/
theorem comp_map {α β : Type} {B : α → (Option β → Prop) → Prop} {k : List β → Prop} (f : α → β) : ∀ (xs : List α) (acc : List β), (∀ x ∈ xs, ∀ R : Option β → Prop, R (some (f x)) → B x R) → k (acc ++ xs.map f) → compW B k xs acc
  | [], acc, _, h => by
    rw [List.map_nil, List.append_nil] at h
    exact h
  | x :: xs, acc, hB, h => hB x List.mem_cons_self _ (comp_map f xs _ (fun y hy => hB y (List.mem_cons_of_mem _ hy)) (by
    show k ((acc ++ [f x]) ++ xs.map f)
    rw [List.append_assoc]
    exact h))
theorem comp_fm {α β : Type} {B : α → (Option β → Prop) → Prop} {k : List β → Prop} (f : α → Option β) : ∀ (xs : List α) (acc : List β), (∀ x ∈ xs, ∀ R : Option β → Prop, R (f x) → B x R) → k (acc ++ xs.filterMap f) → compW B k xs acc
  | [], acc, _, h => by
    rw [List.filterMap_nil, List.append_nil] at h
    exact h
  | x :: xs, acc, hB, h => hB x List.mem_cons_self _ (comp_fm f xs _ (fun y hy => hB y (List.mem_cons_of_mem _ hy)) (by
    rw [List.filterMap_cons] at h
    cases e : f x with
    | none =>
      rw [e] at h
      show k ((acc ++ []) ++ _)
      rw [List.append_nil]
      exact h
    | some y =>
      rw [e] at h
      show k ((acc ++ [y]) ++ _)
      rw [List.append_assoc]
      exact h))
/-- any results that keep Rel -/
theorem comp_rel {α β : Type} {B : α → (Option β → Prop) → Prop} {k : List β → Prop} (Rel : α → β → Prop) : ∀ (xs : List α) (acc : List β), (∀ x ∈ xs, ∀ R : Option β → Prop, (∀ y, Rel x y → R (some y)) → B x R) → (∀ ys, Paired Rel xs ys → k (acc ++ ys)) → compW B k xs acc
  | [], acc, _, h => by
    have := h [] .nil
    rw [List.append_nil] at this
    exact this
  | x :: xs, acc, hB, h => hB x List.mem_cons_self _ fun y hy => comp_rel Rel xs _ (fun z hz => hB z (List.mem_cons_of_mem _ hz)) fun ys hys => by
    show k ((acc ++ [y]) ++ ys)
    rw [List.append_assoc]
    exact h (y :: ys) (.cons hy hys)
theorem for_inv {α σ : Type} {B : α → σ → (σ → Prop) → (σ → Prop) → Prop} {k : σ → Prop} (Inv : Nat → σ → Prop) : ∀ (xs : List α) (i : Nat) (s : σ), Inv i s → (∀ (j : Nat) x s (nx bk : σ → Prop), xs[j]? = some x → Inv (i + j) s → (∀ s', Inv (i + j + 1) s' → nx s') → B x s nx bk) → (∀ s, Inv (i + xs.length) s → k s) → forW B k xs s
  | [], i, s, h, _, hk => hk s h
  | x :: xs, i, s, h, hB, hk => hB 0 x s _ _ rfl h fun s' h' => for_inv Inv xs (i + 1) s' h' (fun j y s nx bk hj hi hn => hB (j + 1) y s nx bk (by simpa using hj) (by rw [show i + (j + 1) = i + 1 + j by omega]; exact hi) fun s' z => hn s' (by rw [show i + 1 + j + 1 = i + (j + 1) + 1 by omega]; exact z)) fun s hs => hk s (by rw [List.length_cons, show i + (xs.length + 1) = i + 1 + xs.length by omega]; exact hs)
theorem for_unit {α : Type} {B : α → Unit → (Unit → Prop) → (Unit → Prop) → Prop} {k : Unit → Prop} (xs : List α) (hB : ∀ x ∈ xs, ∀ (nx bk : Unit → Prop), nx () → B x () nx bk) (hk : k ()) : forW B k xs () :=
  for_inv (fun _ _ => True) xs 0 () trivial (fun j x s nx bk hx _ hn => hB x (List.mem_of_getElem? hx) nx bk (hn () trivial)) fun _ _ => hk
/-! ### dicts -/
abbrev keys {κ α : Type} (d : List (κ × α)) : List κ := d.map Prod.fst
theorem look_mem {κ α : Type} [DecidableEq κ] {d : List (κ × α)} {k : κ} (h : k ∈ keys d) : ∃ v, look d k = some v := by
  cases e : look d k with
  | some v => exact ⟨v, rfl⟩
  | none => exact absurd h (look_none.mp e)
theorem mem_look {κ α : Type} [DecidableEq κ] {d : List (κ × α)} {k : κ} {v : α} (h : look d k = some v) : k ∈ keys d := by
  by_cases z : k ∈ keys d
  · exact z
  · rw [look_none.mpr z] at h
    cases h
/-! ### names -/
def memOk (x : Str) : Bool := nameOk x && !decide (x ∈ reserved.l)
theorem s_is_member {x : Str} {P : Bool → Prop} (hl : x.length ≤ 100000) (h : P (memOk x)) : w_is_member x P := by
  unfold w_is_member
  try unfold altW
  refine ⟨hl, fun e => ?_, fun e => ?_⟩
  · have : memOk x = !decide (x ∈ reserved.l) := by unfold memOk; rw [e, Bool.true_and]
    rw [← this]
    exact h
  · have : memOk x = false := by unfold memOk; rw [e, Bool.false_and]
    rw [this] at h
    exact h
theorem memOk_len {x : Str} (h : memOk x = true) : x.length ≤ 100000 := by
  unfold memOk nameOk at h
  rw [Bool.and_eq_true, Bool.and_eq_true, Bool.and_eq_true] at h
  have := of_decide_eq_true h.1.2.1
  omega
theorem s_member {x : Str} {P : Bool → Prop} (m : memOk x = true) (h : P true) : w_is_member x P := s_is_member (memOk_len m) (by rw [m]; exact h)
theorem s_is_integer {v : Int} {P : Bool → Prop} (h : P true) : w_is_integer v none P := by
  unfold w_is_integer
  try unfold altW
  exact ⟨fun _ => ⟨fun _ => ⟨(fun z => nomatch z), fun _ => h⟩, (fun z => nomatch z)⟩, (fun z => nomatch z)⟩
theorem s_is_integer1 {v b : Int} {P : Bool → Prop} (h : P (decide (b ≤ v))) : w_is_integer v (some b) P := by
  unfold w_is_integer
  try unfold altW
  exact ⟨fun _ => ⟨fun _ => ⟨fun _ => ⟨b, rfl, h⟩, (fun z => nomatch z)⟩, (fun z => nomatch z)⟩, (fun z => nomatch z)⟩
/-! ### positions, moves, prices -/
structure Dct (d : List (Str × Int)) : Prop where
  nd : (keys d).Nodup
  mem : ∀ k ∈ keys d, memOk k = true
  few : d.length ≤ 30
def NoZ (d : List (Str × Int)) : Prop := ∀ k v, look d k = some v → v ≠ 0
def Small (d : List (Str × Int)) : Prop := ∀ k, -1000 ≤ (look d k).getD 0 ∧ (look d k).getD 0 ≤ 1000
theorem keys_len {d : List (Str × Int)} (h : Dct d) : (keys d).length ≤ 100000 := by
  rw [List.length_map]
  have := h.few
  omega
theorem all_map {α : Type} {xs : List α} {f : α → Bool} (h : ∀ x ∈ xs, f x = true) : (xs.map f).all id = true := by
  rw [List.all_eq_true]
  intro y hy
  obtain ⟨x, hx, rfl⟩ := List.mem_map.mp hy
  exact h x hx
theorem s_is_position {d : Dc Str Int} {P : Bool → Prop} (D : Dct d.l) (z : NoZ d.l) (h : P true) : w_is_position d P := by
  unfold w_is_position
  try unfold altW
  refine ⟨fun _ => ⟨keys_len D, comp_map (fun _ => true) _ _ (fun x hx R hR => ?_) ?_⟩, (fun e => nomatch e)⟩
  · obtain ⟨v, hv⟩ := look_mem hx
    refine s_member (D.mem x hx) ⟨fun _ => ⟨v, hv, s_is_integer ⟨fun _ => ⟨v, hv, ?_⟩, (fun e => nomatch e)⟩⟩, (fun e => nomatch e)⟩
    have : (!decide (v = 0)) = true := by
      have := z x v hv
      simp [this]
    rw [this]
    exact hR
  · rw [List.nil_append, all_map fun _ _ => rfl]
    exact h
theorem s_is_move {d : Dc Str Int} {P : Bool → Prop} (D : Dct d.l) (h : P true) : w_is_move d P := by
  unfold w_is_move
  try unfold altW
  refine ⟨fun _ => ⟨keys_len D, comp_map (fun _ => true) _ _ (fun x hx R hR => ?_) ?_⟩, (fun e => nomatch e)⟩
  · obtain ⟨v, hv⟩ := look_mem hx
    exact s_member (D.mem x hx) ⟨fun _ => ⟨v, hv, s_is_integer hR⟩, (fun e => nomatch e)⟩
  · rw [List.nil_append, all_map fun _ _ => rfl]
    exact h
theorem s_is_price {v : Int} {P : Bool → Prop} (a : 1 ≤ v) (b : v ≤ 99) (h : P true) : w_is_price v P := by
  unfold w_is_price altW
  refine s_is_integer1 ⟨fun _ => ?_, fun e => ?_⟩
  · rw [decide_eq_true b]
    exact h
  · rw [decide_eq_true a] at e
    cases e
structure Prc (d : List (Str × Int)) : Prop where
  D : Dct d
  lo : ∀ k v, look d k = some v → 1 ≤ v ∧ v ≤ 99
theorem s_check_prices {d : Dc Str Int} {P : Unit → Prop} (D : Prc d.l) (h : P ()) : w_check_prices d P := by
  unfold w_check_prices altW
  refine ⟨fun _ => ⟨keys_len D.D, comp_map (fun _ => true) _ _ (fun x hx R hR => ?_) ?_⟩, (fun e => nomatch e)⟩
  · obtain ⟨v, hv⟩ := look_mem hx
    refine s_member (D.D.mem x hx) ⟨fun _ => ⟨v, hv, s_is_price (D.lo x v hv).1 (D.lo x v hv).2 hR⟩, (fun e => nomatch e)⟩
  · rw [List.nil_append, all_map fun _ _ => rfl]
    exact ⟨(fun e => nomatch e), fun _ => h⟩
structure Mvs (ms : List (Dc Str Int)) : Prop where
  D : ∀ m ∈ ms, Dct m.l
  few : ms.length ≤ 8
  head : ∃ m, ms[0]? = some m ∧ m.l = []
theorem mvs_pos {ms : List (Dc Str Int)} (M : Mvs ms) : 1 ≤ ms.length := by
  obtain ⟨m, hm, _⟩ := M.head
  cases ms with
  | nil => cases hm
  | cons _ _ => simp
theorem s_check_moves {ms : List (Dc Str Int)} {P : Unit → Prop} (M : Mvs ms) (h : P ()) : w_check_moves ms P := by
  unfold w_check_moves altW
  have h1 := mvs_pos M
  have h2 := M.few
  refine ⟨fun _ => ⟨fun e => ?_, fun _ => for_unit _ (fun x hx nx bk hn => s_is_move (M.D x hx) ⟨(fun e => nomatch e), fun _ => hn⟩) ?_⟩, fun e => ?_⟩
  · rw [decide_eq_true (by omega)] at e
    cases e
  · obtain ⟨m, hm, hl⟩ := M.head
    refine ⟨m, ?_, fun e => ?_, fun _ => h⟩
    · show atI ms ((0 : Nat) : Int) = some m
      exact atI_nat hm
    · rw [hl] at e
      cases e
  · rw [decide_eq_true (by omega)] at e
    cases e
/-! ### losses -/
def lossBy (p m : List (Str × Int)) : Int := -(((keys p).map fun k => (look p k).getD 0 * (look m k).getD 0).sum)
theorem s_loss_by {p m : Dc Str Int} {P : Int → Prop} (D : Dct p.l) (c : ∀ k v, look p.l k = some v → CMul v ((look m.l k).getD 0)) (h : P (lossBy p.l m.l)) : w_loss_by p m P := by
  unfold w_loss_by
  refine ⟨keys_len D, comp_map (fun k => (look p.l k).getD 0 * (look m.l k).getD 0) _ _ (fun x hx R hR => ?_) ?_⟩
  · obtain ⟨v, hv⟩ := look_mem hx
    rw [hv] at hR
    exact ⟨v, hv, c x v hv, hR⟩
  · rw [List.nil_append]
    exact h
def Cm (p m : List (Str × Int)) : Prop := ∀ k v, look p k = some v → CMul v ((look m k).getD 0)
/-- the greatest of a list -/
def IsMax (xs : List Int) (m : Int) : Prop := m ∈ xs ∧ ∀ y ∈ xs, y ≤ m
theorem isMax_one {xs : List Int} {a b : Int} (h : IsMax xs a) (g : IsMax xs b) : a = b := Int.le_antisymm (g.2 a h.1) (h.2 b g.1)
/-! ### orders -/
structure OkO (o : T4 Str Str Int Int) : Prop where
  side : o.a = "buy" ∨ o.a = "sell"
  mem : memOk o.b = true
  lo : 1 ≤ o.c
  hi : o.c ≤ 99
  pos : 1 ≤ o.d
theorem s_is_standing {o : T4 Str Str Int Int} {P : Bool → Prop} (O : OkO o) (h : P true) : w_is_standing o P := by
  unfold w_is_standing altW
  refine ⟨fun _ => ⟨fun _ => ⟨(fun e => nomatch e), fun _ z hz => ?_⟩, fun e => ?_⟩, (fun e => nomatch e)⟩
  rotate_left
  · rw [decide_eq_true rfl] at e
    cases e
  · subst hz
    refine ⟨fun _ => s_member O.mem ⟨fun _ => s_is_price O.lo O.hi ⟨fun _ => s_is_integer1 ?_, (fun e => nomatch e)⟩, (fun e => nomatch e)⟩, fun e => ?_⟩
    · rw [decide_eq_true O.pos]
      exact h
    · rw [decide_eq_true (by rcases O.side with e | e <;> rw [e] <;> simp)] at e
      cases e
theorem s_check_priced {os : List (T4 Str Str Int Int)} {pr : Dc Str Int} {P : Unit → Prop} (O : ∀ o ∈ os, o.b ∈ keys pr.l) (h : P ()) : w_check_priced os pr P := by
  unfold w_check_priced
  refine for_unit _ (fun x hx nx bk hn => ?_) h
  obtain ⟨v, hv⟩ := look_mem (O x hx)
  exact ⟨(fun e => by rw [hv] at e; cases e), fun _ => hn⟩
end K89
set_option maxHeartbeats 4000000
/-! k89, the plain law: two units, totals -/
namespace K89
open PySem PySem.Spec PyProof.Rows L2 DW
structure U2 (u v : Str) : Prop where
  ne : u ≠ v
  mu : memOk u = true
  mv : memOk v = true
structure In2 {α : Type} (u v : Str) (d : List (Str × α)) : Prop where
  nd : (keys d).Nodup
  sub : ∀ k ∈ keys d, k = u ∨ k = v
theorem in2_cases {α : Type} {u v : Str} {d : List (Str × α)} (h : In2 u v d) : keys d = [] ∨ keys d = [u] ∨ keys d = [v] ∨ keys d = [u, v] ∨ keys d = [v, u] := by
  obtain ⟨nd, sub⟩ := h
  generalize keys d = ks at nd sub
  match ks with
  | [] => exact .inl rfl
  | [a] =>
    rcases sub a (by simp) with e | e <;> subst e <;> simp
  | [a, b] =>
    have : a ≠ b := by
      intro e
      simp [e] at nd
    rcases sub a (by simp) with e | e <;> rcases sub b (by simp) with f | f <;> subst e <;> subst f <;> simp_all
  | a :: b :: c :: r =>
    simp only [List.nodup_cons, List.mem_cons, not_or] at nd
    rcases sub a (by simp) with e | e <;> rcases sub b (by simp) with f | f <;> rcases sub c (by simp) with i | i <;> simp_all
theorem in2_len {α : Type} {u v : Str} {d : List (Str × α)} (h : In2 u v d) : d.length ≤ 2 := by
  have : d.length = (keys d).length := by rw [List.length_map]
  rw [this]
  rcases in2_cases h with e | e | e | e | e <;> rw [e] <;> simp
theorem in2_dct {u v : Str} {d : List (Str × Int)} (H : U2 u v) (h : In2 u v d) : Dct d :=
  ⟨h.nd, fun k hk => by
    rcases h.sub k hk with e | e
    · rw [e]; exact H.mu
    · rw [e]; exact H.mv, by have := in2_len h; omega⟩
abbrev g (d : List (Str × Int)) (k : Str) : Int := (look d k).getD 0
theorem g_none {d : List (Str × Int)} {k : Str} (h : k ∉ keys d) : g d k = 0 := by
  unfold g
  rw [look_none.mpr h]
  rfl
theorem g_some {d : List (Str × Int)} {k : Str} {v : Int} (h : look d k = some v) : g d k = v := by
  unfold g
  rw [h]
  rfl
theorem lossBy2 {u v : Str} {p m : List (Str × Int)} (H : u ≠ v) (h : In2 u v p) : lossBy p m = -(g p u * g m u + g p v * g m v) := by
  have hu : u ∉ keys p → g p u = 0 := g_none
  have hv : v ∉ keys p → g p v = 0 := g_none
  unfold lossBy
  rcases in2_cases h with e | e | e | e | e <;> rw [e] at hu hv ⊢ <;> simp [H, H.symm, Ne.symm] at hu hv ⊢ <;> simp_all [g] <;> omega
/-! ### orders and totals -/
def ul (o : T4 Str Str Int Int) (m pr : List (Str × Int)) : Int := if o.a = ("buy" : Str) then o.c - (g pr o.b + g m o.b) else g pr o.b + g m o.b - o.c
def fill (o : T4 Str Str Int Int) (m pr : List (Str × Int)) : Int := if 0 < ul o m pr then o.d else 0
def bite (o : T4 Str Str Int Int) (m pr : List (Str × Int)) : Int := fill o m pr * ul o m pr
def tot (p : List (Str × Int)) (os : List (T4 Str Str Int Int)) (m pr : List (Str × Int)) : Int := lossBy p m + (os.map fun o => bite o m pr).sum
theorem s_unit_loss {o : T4 Str Str Int Int} {m pr : Dc Str Int} {P : Int → Prop} (k : o.b ∈ keys pr.l) (h : P (ul o m.l pr.l)) : w_unit_loss o m pr P := by
  unfold w_unit_loss altW
  obtain ⟨x, hx⟩ := look_mem k
  refine ⟨x, hx, fun z hz => ?_⟩
  subst hz
  unfold ul at h
  rw [g_some hx] at h
  refine ⟨fun e => ?_, fun e => ?_⟩
  · rw [if_pos (of_decide_eq_true e)] at h
    exact h
  · rw [if_neg (of_decide_eq_false e)] at h
    exact h
theorem s_worst_filled {os : List (T4 Str Str Int Int)} {m pr : Dc Str Int} {P : Tp Int → Prop} (k : ∀ o ∈ os, o.b ∈ keys pr.l) (f : os.length ≤ 100000) (h : P ⟨os.map fun o => fill o m.l pr.l⟩) : w_worst_filled os m pr P := by
  unfold w_worst_filled altW
  refine ⟨f, comp_map (fun o => fill o m.l pr.l) _ _ (fun o ho R hR => s_unit_loss (k o ho) ?_) ?_⟩
  · unfold fill at hR
    refine ⟨fun e => ?_, fun e => ?_⟩
    · rw [if_pos (of_decide_eq_true e)] at hR
      exact hR
    · rw [if_neg (of_decide_eq_false e)] at hR
      exact hR
  · rw [List.nil_append]
    exact h
theorem zip_own {α β γ : Type} (f : α → β) (q : α × β → γ) : ∀ xs : List α, (xs.zip (xs.map f)).map q = xs.map fun x => q (x, f x)
  | [] => rfl
  | x :: xs => by
    show q (x, f x) :: (xs.zip (xs.map f)).map q = _
    rw [zip_own f q xs]
    rfl
theorem mem_zip_own {α β : Type} {f : α → β} {z : α × β} : ∀ {xs : List α}, z ∈ xs.zip (xs.map f) → z.1 ∈ xs ∧ z.2 = f z.1
  | x :: xs, h => by
    have h : z ∈ (x, f x) :: xs.zip (xs.map f) := h
    rcases List.mem_cons.mp h with e | e
    · subst e
      exact ⟨List.mem_cons_self, rfl⟩
    · have := mem_zip_own e
      exact ⟨List.mem_cons_of_mem _ this.1, this.2⟩
structure OkQ (p : List (Str × Int)) (os : List (T4 Str Str Int Int)) (ms : List (Dc Str Int)) (pr : List (Str × Int)) : Prop where
  D : Dct p
  z : NoZ p
  O : ∀ o ∈ os, OkO o
  top : ∀ o ∈ os, o.d ≤ 1000
  few : os.length ≤ 1000
  M : Mvs ms
  c : ∀ m ∈ ms, Cm p m.l
  R : Prc pr
  k : ∀ o ∈ os, o.b ∈ keys pr
theorem fill_small {o : T4 Str Str Int Int} {m pr : List (Str × Int)} (O : OkO o) (t : o.d ≤ 1000) : 0 ≤ fill o m pr ∧ fill o m pr ≤ 1000 := by
  have := O.pos
  unfold fill
  split <;> omega
theorem s_loss_with {p : Dc Str Int} {os : List (T4 Str Str Int Int)} {ms : List (Dc Str Int)} {m pr : Dc Str Int} {P : Int → Prop} (Q : OkQ p.l os ms pr.l) (hm : m ∈ ms) (h : P (tot p.l os m.l pr.l)) : w_loss_with p os m pr ⟨os.map fun o => fill o m.l pr.l⟩ P := by
  unfold w_loss_with
  refine ⟨?_, comp_map (fun z => z.2 * ul z.1 m.l pr.l) _ _ (fun z hz R hR => ?_) ?_⟩
  · have := Q.few
    rw [List.length_zip, List.length_map]
    omega
  · obtain ⟨h1, h2⟩ := mem_zip_own hz
    refine s_unit_loss (Q.k _ h1) ⟨.inl ?_, hR⟩
    rw [h2]
    have := fill_small (m := m.l) (pr := pr.l) (Q.O _ h1) (Q.top _ h1)
    omega
  · rw [List.nil_append, zip_own]
    intro z hz
    subst hz
    exact s_loss_by Q.D (Q.c m hm) h
/-- what worst answers -/
structure Wst1 (p : List (Str × Int)) (os : List (T4 Str Str Int Int)) (ms : List (Dc Str Int)) (pr : List (Str × Int)) (r : T3 Int Int (Tp Int)) (j : Nat) (m : Dc Str Int) : Prop where
  at' : ms[j]? = some m
  a : r.a = tot p os m.l pr
  b : r.b = j
  c : r.c = ⟨os.map fun o => fill o m.l pr⟩
  mx : ∀ m' ∈ ms, tot p os m'.l pr ≤ tot p os m.l pr
  first : ∀ i, i < j → ∀ m', ms[i]? = some m' → tot p os m'.l pr ≠ tot p os m.l pr
theorem s_worst_of {p pr : Dc Str Int} {os : List (T4 Str Str Int Int)} {ms : List (Dc Str Int)} {P : T3 Int Int (Tp Int) → Prop} (Q : OkQ p.l os ms pr.l) (h : ∀ r j m, Wst1 p.l os ms pr.l r j m → P r) : w_worst_of p os ms pr P := by
  unfold w_worst_of
  have f8 := Q.M.few
  have f1 := mvs_pos Q.M
  have fo := Q.few
  refine ⟨by omega, comp_map (fun m : Dc Str Int => (⟨os.map fun o => fill o m.l pr.l⟩ : Tp Int)) _ _ (fun m hm R hR => s_worst_filled Q.k (by omega) hR) ?_⟩
  rw [List.nil_append]
  intro fs hfs
  refine ⟨by rw [List.length_zip, hfs, List.length_map]; omega, ?_⟩
  rw [hfs]
  refine comp_map (fun z => tot p.l os z.1.l pr.l) _ _ (fun z hz R hR => ?_) ?_
  · obtain ⟨h1, h2⟩ := mem_zip_own hz
    rw [h2]
    exact s_loss_with Q h1 hR
  · rw [List.nil_append, zip_own]
    intro ls hls
    subst hls
    refine ⟨by rw [List.length_map]; omega, fun mx hmx hall => ⟨by rw [List.length_map]; omega, hmx, fun j hj hfirst z hz => ?_⟩⟩
    subst hz
    rw [List.getElem?_map] at hj
    cases e : ms[j]? with
    | none =>
      rw [e] at hj
      cases hj
    | some m =>
      rw [e] at hj
      injection hj with hj
      have hj : tot p.l os m.l pr.l = mx := hj
      refine ⟨mx, atI_nat (by rw [List.getElem?_map, e]; exact congrArg some hj), ⟨os.map fun o => fill o m.l pr.l⟩, atI_nat (by rw [List.getElem?_map, e]; rfl), h _ j m ⟨e, hj.symm, rfl, rfl, fun m' hm' => ?_, fun i hi m' hm' ne => ?_⟩⟩
      · rw [hj]
        exact hall _ (List.mem_map_of_mem hm')
      · refine hfirst i hi ?_
        rw [List.getElem?_map, hm']
        show some (tot p.l os m'.l pr.l) = some mx
        rw [ne, hj]
end K89
set_option maxHeartbeats 4000000
/-! k89, the plain law: folds, greatest, summed -/
namespace K89
open PySem PySem.Spec PyProof.Rows L2 DW
theorem for_fold {α σ : Type} {B : α → σ → (σ → Prop) → (σ → Prop) → Prop} {k : σ → Prop} (f : σ → α → σ) : ∀ (xs : List α) (s : σ), (∀ x ∈ xs, ∀ s (nx bk : σ → Prop), nx (f s x) → B x s nx bk) → k (xs.foldl f s) → forW B k xs s
  | [], s, _, h => h
  | x :: xs, s, hB, h => hB x List.mem_cons_self s _ _ (for_fold f xs (f s x) (fun y hy => hB y (List.mem_cons_of_mem _ hy)) h)
def mxL : List Int → Int
  | [] => 0
  | [x] => x
  | x :: y :: r => max x (mxL (y :: r))
theorem mxL_is : ∀ {xs : List Int}, xs ≠ [] → IsMax xs (mxL xs)
  | [], h => absurd rfl h
  | [x], _ => ⟨List.mem_cons_self, fun y hy => by
    rcases List.mem_cons.mp hy with e | e
    · subst e
      exact Int.le_refl _
    · cases e⟩
  | x :: y :: r, _ => by
    have ih := mxL_is (xs := y :: r) (by simp)
    show IsMax _ (max x (mxL (y :: r)))
    refine ⟨?_, fun z hz => ?_⟩
    · by_cases e : x ≤ mxL (y :: r)
      · rw [show max x (mxL (y :: r)) = mxL (y :: r) by omega]
        exact List.mem_cons_of_mem _ ih.1
      · rw [show max x (mxL (y :: r)) = x by omega]
        exact List.mem_cons_self
    · rcases List.mem_cons.mp hz with e | e
      · omega
      · have := ih.2 z e
        omega
/-- the greatest total -/
theorem mem_rng {lo : Int} {n : Nat} {x : Int} (h : x ∈ rng lo n) : lo ≤ x ∧ x < lo + n := by
  unfold rng at h
  obtain ⟨i, hi, rfl⟩ := List.mem_map.mp h
  have := List.mem_range.mp hi
  omega

theorem puts_own {κ α : Type} [DecidableEq κ] {ys : List (κ × α)} (h : (keys ys).Nodup) : puts [] ys = ys := by
  have := puts_new (xs := ([] : List (κ × α))) (ys := ys) (by simpa using h)
  simpa using this
def thin (S : Str → Int) (z : List Str) : List (Str × Int) := z.filterMap fun x => if S x = 0 then none else some (x, S x)
theorem thin_keys (S : Str → Int) : ∀ z : List Str, keys (thin S z) = z.filter fun x => decide (S x ≠ 0)
  | [] => rfl
  | x :: z => by
    have ih := thin_keys S z
    unfold thin at ih ⊢
    by_cases e : S x = 0
    · simp [e] at ih ⊢
      exact ih
    · simp [e] at ih ⊢
      exact ih
theorem thin_look (S : Str → Int) (k : Str) : ∀ z : List Str, look (thin S z) k = if k ∈ z then (if S k = 0 then none else some (S k)) else none
  | [] => rfl
  | x :: z => by
    have ih := thin_look S k z
    unfold thin at ih ⊢
    rw [List.filterMap_cons]
    by_cases e : S x = 0
    · simp only [e, if_true]
      rw [ih]
      by_cases c : k = x
      · subst c
        simp [e]
      · simp [c]
    · simp only [e, if_false]
      unfold look
      by_cases c : k = x
      · subst c
        simp [e]
      · simp only [Ne.symm c, c, if_false, List.mem_cons, false_or]
        rw [ih]
theorem look_own {α : Type} (S : Str → α) {x : Str} : ∀ {us : List Str}, x ∈ us → look (us.map fun x => (x, S x)) x = some (S x)
  | y :: us, hx => by
    show look ((y, S y) :: us.map fun x => (x, S x)) x = _
    unfold look
    by_cases c : x = y
    · subst c
      simp
    · simp only [Ne.symm c, c, if_false]
      rcases List.mem_cons.mp hx with e | e
      · exact absurd e c
      · exact look_own S e
structure Sum2 (u v : Str) (a b r : List (Str × Int)) : Prop where
  I : In2 u v r
  z : NoZ r
  g : ∀ k, g r k = g a k + g b k
theorem s_summed {u v : Str} {a b : Dc Str Int} {P : Dc Str Int → Prop} (A : In2 u v a.l) (B : In2 u v b.l) (h : ∀ r : Dc Str Int, Sum2 u v a.l b.l r.l → P r) : w_summed a b P := by
  unfold w_summed
  have la := in2_len A
  have lb := in2_len B
  have len : (keys a.l ++ (keys b.l ++ [])).length < 64 := by
    simp only [List.length_append, List.length_map, List.length_nil]
    omega
  refine ⟨Nat.le_of_lt (Nat.lt_trans len (by decide)), len, fun z nd me _ us hus => ?_⟩
  subst hus
  have sub : ∀ k ∈ us, k = u ∨ k = v := fun k hk => by
    have := (me k).mp hk
    rw [List.append_nil] at this
    rcases List.mem_append.mp this with e | e
    · exact A.sub k e
    · exact B.sub k e
  have l2 : us.length ≤ 2 := by
    have := in2_len (d := us.map fun x => (x, (0 : Int))) (u := u) (v := v) ⟨by simpa [Function.comp_def] using nd, by simpa [Function.comp_def] using sub⟩
    simpa using this
  let S : Str → Int := fun x => g a.l x + g b.l x
  refine ⟨by omega, comp_map (fun x => (x, S x)) _ _ (fun x hx R hR => hR) ?_⟩
  rw [List.nil_append]
  have ko : keys (us.map fun x => (x, S x)) = us := by simp [Function.comp_def]
  rw [puts_own (by rw [ko]; exact nd)]
  intro both hb
  have kb : keys both.l = us := by rw [hb]; exact ko
  have lk : ∀ x ∈ us, look both.l x = some (S x) := fun x hx => by
    rw [hb]
    exact look_own S hx
  refine ⟨by show (keys both.l).length ≤ _; rw [kb]; omega, ?_⟩
  show compM _ _ (keys both.l)
  rw [kb]
  refine comp_fm (fun x => if S x = 0 then none else some (x, S x)) _ _ (fun x hx R hR => ?_) ?_
  · refine ⟨S x, lk x hx, fun e => ⟨S x, lk x hx, ?_⟩, fun e => ?_⟩
    · have : ¬ S x = 0 := by simpa using e
      rw [if_neg this] at hR
      exact hR
    · have : S x = 0 := by simpa using e
      rw [if_pos this] at hR
      exact hR
  · rw [List.nil_append]
    show P ⟨puts [] (thin S us)⟩
    have nt : (keys (thin S us)).Nodup := by
      rw [thin_keys]
      exact nd.filter _
    rw [puts_own nt]
    refine h _ ⟨⟨nt, fun k hk => sub k ?_⟩, fun k x hk => ?_, fun k => ?_⟩
    · have hk : k ∈ keys (thin S us) := hk
      rw [thin_keys] at hk
      exact (List.mem_filter.mp hk).1
    · have hk : look (thin S us) k = some x := hk
      rw [thin_look] at hk
      split at hk
      · split at hk
        · cases hk
        · injection hk with hk
          subst hk
          assumption
      · cases hk
    · show ((look (thin S us) k).getD 0) = g a.l k + g b.l k
      rw [thin_look]
      by_cases c : k ∈ us
      · rw [if_pos c]
        by_cases e : S k = 0
        · rw [if_pos e]
          exact e.symm
        · rw [if_neg e]
          rfl
      · rw [if_neg c]
        have n : ¬ (k ∈ keys a.l ∨ k ∈ keys b.l) := fun e => c ((me k).mpr (by rw [List.append_nil]; exact List.mem_append.mpr e))
        rw [g_none fun e => n (.inl e), g_none fun e => n (.inr e)]
        rfl
end K89
set_option maxHeartbeats 4000000
/-! k89, the plain law: moves, prices, positions, orders, books as they are drawn -/
namespace K89
open PySem PySem.Spec PyProof.Rows L2 DW
def Pac (ps : List Str) : Prop := ps = [("oil" : Str)] ∨ ps = [("oil" : Str), ("tin" : Str)]
abbrev I2 {α : Type} (d : List (Str × α)) : Prop := In2 ("oil" : Str) ("tin" : Str) d
theorem u2 : U2 ("oil" : Str) ("tin" : Str) := ⟨by decide, by decide +kernel, by decide +kernel⟩
theorem pac_mem {ps : List Str} (h : Pac ps) {x : Str} (hx : x ∈ ps) : x = "oil" ∨ x = "tin" := by
  rcases h with e | e <;> subst e <;> simp at hx <;> simp [hx]
theorem pac_len {ps : List Str} (h : Pac ps) : ps.length = 1 ∨ ps.length = 2 := by
  rcases h with e | e <;> subst e <;> simp
theorem put_sub {α : Type} {d : List (Str × α)} {k x : Str} {v : α} (h : k ∈ keys (put d x v)) : k = x ∨ k ∈ keys d := by
  by_cases e : k = x
  · exact .inl e
  · obtain ⟨y, hy⟩ := look_mem h
    rw [look_put, if_neg e] at hy
    exact .inr (mem_look hy)
theorem put_keep {α : Type} {d : List (Str × α)} {k x : Str} {v : α} (h : k = x ∨ k ∈ keys d) : k ∈ keys (put d x v) := by
  by_cases e : k = x
  · exact mem_look (v := v) (by rw [look_put, if_pos e])
  · obtain ⟨y, hy⟩ := look_mem (h.resolve_left e)
    exact mem_look (v := y) (by rw [look_put, if_neg e]; exact hy)
theorem in2_put {α : Type} {u v : Str} {d : List (Str × α)} (h : In2 u v d) {x : Str} (hx : x = u ∨ x = v) (y : α) : In2 u v (put d x y) :=
  ⟨put_nodup h.nd, fun k hk => by
    rcases put_sub hk with e | e
    · rw [e]; exact hx
    · exact h.sub k e⟩
theorem noz_put {d : List (Str × Int)} (h : NoZ d) {x : Str} {y : Int} (hy : y ≠ 0) : NoZ (put d x y) := fun k w hk => by
  rw [look_put] at hk
  split at hk
  · injection hk with hk
    rw [← hk]; exact hy
  · exact h k w hk
theorem in2_nil {α : Type} {u v : Str} : In2 u v ([] : List (Str × α)) := ⟨List.nodup_nil, fun k hk => nomatch hk⟩
def Bd (b : Int) (d : List (Str × Int)) : Prop := ∀ k w, look d k = some w → -b ≤ w ∧ w ≤ b
theorem bd_put {b : Int} {d : List (Str × Int)} (h : Bd b d) {x : Str} {y : Int} (hy : -b ≤ y ∧ y ≤ b) : Bd b (put d x y) := fun k w hk => by
  rw [look_put] at hk
  split at hk
  · injection hk with hk
    rw [← hk]; exact hy
  · exact h k w hk
theorem bd_nil {b : Int} : Bd b [] := fun k w h => nomatch h
theorem s__law_position {ps : List Str} {P : Dc Str Int → Prop} (pp : Pac ps) (h : ∀ d : Dc Str Int, I2 d.l → NoZ d.l → Bd 6 d.l → P d) : w__law_position ps P := by
  unfold w__law_position
  intro s hs
  subst hs
  refine for_inv (fun _ (s : List (Str × Int)) => I2 s ∧ NoZ s ∧ Bd 6 s) _ 0 _ ⟨in2_nil, (fun k w hk => nomatch hk), bd_nil⟩ (fun j x s nx bk hx I hn => ?_) fun s I => h _ I.1 I.2.1 I.2.2
  have hx := pac_mem pp (List.mem_of_getElem? hx)
  refine ⟨by decide, fun y y0 y1 w hw => ?_⟩
  unfold joinW altW
  refine ⟨fun e => ⟨by decide, fun z z0 z1 => ⟨fun _ => ⟨by have := in2_len I.1; omega, fun w' hw' => ?_⟩, fun _ => hn _ I⟩⟩, fun e => ⟨(fun e => nomatch e), fun _ => hn _ I⟩⟩
  subst hw'
  have e : ¬ w = 0 := by simpa using e
  exact hn _ ⟨in2_put I.1 hx w, noz_put I.2.1 e, bd_put I.2.2 (by omega)⟩
structure PrcP (ps : List Str) (d : List (Str × Int)) : Prop where
  I : I2 d
  k : ∀ x ∈ ps, x ∈ keys d
  lo : ∀ k w, look d k = some w → 1 ≤ w ∧ w ≤ 99
theorem prcP {ps : List Str} {d : List (Str × Int)} (h : PrcP ps d) : Prc d := ⟨in2_dct u2 h.I, h.lo⟩
theorem s__law_prices {ps : List Str} {P : Dc Str Int → Prop} (pp : Pac ps) (h : ∀ d : Dc Str Int, PrcP ps d.l → P d) : w__law_prices ps P := by
  unfold w__law_prices
  intro s hs
  subst hs
  refine for_inv (fun i (s : List (Str × Int)) => I2 s ∧ (∀ j, j < i → ∀ x, ps[j]? = some x → x ∈ keys s) ∧ ∀ k w, look s k = some w → 1 ≤ w ∧ w ≤ 99) _ 0 _ ⟨in2_nil, (fun j hj => absurd hj (Nat.not_lt_zero j)), (fun k w hk => nomatch hk)⟩ (fun j x s nx bk hx I hn => ?_) fun s I => h _ ⟨I.1, fun x hx => ?_, I.2.2⟩
  · have hx2 := pac_mem pp (List.mem_of_getElem? hx)
    refine ⟨by decide, fun y y0 y1 => ⟨by decide, fun z z0 z1 => ?_⟩⟩
    have key : ∃ q : Int, atI [(50 : Int), (1 : Int), (99 : Int), ((20 : Int) + y)] z = some q ∧ 1 ≤ q ∧ q ≤ 99 := by
      have : z = 0 ∨ z = 1 ∨ z = 2 ∨ z = 3 := by omega
      rcases this with e | e | e | e <;> subst e
      · exact ⟨50, rfl, by decide, by decide⟩
      · exact ⟨1, rfl, by decide, by decide⟩
      · exact ⟨99, rfl, by decide, by decide⟩
      · exact ⟨20 + y, rfl, by omega, by omega⟩
    obtain ⟨q, hq, q0, q1⟩ := key
    refine ⟨q, hq, by have := in2_len I.1; omega, fun w hw => ?_⟩
    subst hw
    refine hn _ ⟨in2_put I.1 hx2 q, fun i hi x' hx' => ?_, fun k w hk => ?_⟩
    · by_cases c : i = j
      · subst c
        rw [hx] at hx'
        cases hx'
        exact put_keep (.inl rfl)
      · exact put_keep (.inr (I.2.1 i (by omega) x' hx'))
    · rw [look_put] at hk
      split at hk
      · injection hk with hk
        omega
      · exact I.2.2 k w hk
  · obtain ⟨j, hj⟩ := List.getElem?_of_mem hx
    exact I.2.1 j (by have := (List.getElem?_eq_some_iff.mp hj).1; omega) x hj
/-- moves of the law -/
structure MvsP (ms : List (Dc Str Int)) : Prop where
  I : ∀ m ∈ ms, I2 m.l
  few : ms.length ≤ 5
  head : ∃ m, ms[0]? = some m ∧ m.l = []
  lo : ∀ m ∈ ms, Bd 8 m.l
theorem mvsP {ms : List (Dc Str Int)} (h : MvsP ms) : Mvs ms := ⟨fun m hm => in2_dct u2 (h.I m hm), by have := h.few; omega, h.head⟩
theorem mvsP_c {ms : List (Dc Str Int)} (h : MvsP ms) (p : List (Str × Int)) : ∀ m ∈ ms, Cm p m.l := fun m hm k w _ => .inr (by
  show -(2 ^ 64) < g m.l k ∧ g m.l k < 2 ^ 64
  cases e : look m.l k with
  | none =>
    unfold g
    rw [e]
    decide
  | some x =>
    rw [g_some e]
    have := h.lo m hm k x e
    omega)
theorem s__law_moves {ps : List Str} {P : List (Dc Str Int) → Prop} (pp : Pac ps) (h : ∀ ms, MvsP ms → P ms) : w__law_moves ps P := by
  unfold w__law_moves
  intro s hs
  subst hs
  refine ⟨by decide, fun n h0 h1 => ⟨by omega, for_inv (fun i (ms : List (Dc Str Int)) => (∀ m ∈ ms, I2 m.l) ∧ ms.length ≤ 1 + i ∧ (∃ m, ms[0]? = some m ∧ m.l = []) ∧ ∀ m ∈ ms, Bd 8 m.l) _ 0 _ ?_ (fun j x ms nx bk hj I hn => ?_) fun ms I => h ms ⟨I.1, ?_, I.2.2.1, I.2.2.2⟩⟩⟩
  · refine ⟨fun m hm => ?_, by simp, ⟨_, rfl, rfl⟩, fun m hm k w hk => ?_⟩
    · rw [List.mem_singleton.mp hm]
      exact in2_nil
    · rw [List.mem_singleton.mp hm] at hk
      cases hk
  · intro sh hsh
    subst hsh
    have jn : j < n.toNat := by
      have := (List.getElem?_eq_some_iff.mp hj).1
      unfold rng at this
      rw [List.length_map, List.length_range] at this
      exact this
    refine for_inv (fun _ (d : List (Str × Int)) => I2 d ∧ Bd 8 d) _ 0 _ ⟨in2_nil, bd_nil⟩ (fun j x d nx bk hx I hn => ?_) fun d D => ?_
    · have hx := pac_mem pp (List.mem_of_getElem? hx)
      unfold joinW
      refine ⟨by decide, fun y _ _ => ⟨fun _ => ⟨by decide, fun w hw0 hw1 => ⟨by have := in2_len I.1; omega, fun d' hd' => ?_⟩⟩, fun _ => hn _ I⟩⟩
      subst hd'
      exact hn _ ⟨in2_put I.1 hx _, bd_put I.2 (by omega)⟩
    · refine ⟨by have := I.2.1; omega, fun ms' hms' => ?_⟩
      subst hms'
      refine hn _ ⟨fun m hm => ?_, by rw [List.length_append, List.length_singleton]; have := I.2.1; omega, ?_, fun m hm => ?_⟩
      · rcases List.mem_append.mp hm with e | e
        · exact I.1 m e
        · rw [List.mem_singleton.mp e]
          exact D.1
      · obtain ⟨m, hm, hl⟩ := I.2.2.1
        refine ⟨m, ?_, hl⟩
        rw [List.getElem?_append_left (List.getElem?_eq_some_iff.mp hm).1]
        exact hm
      · rcases List.mem_append.mp hm with e | e
        · exact I.2.2.2 m e
        · rw [List.mem_singleton.mp e]
          exact D.2
  · have := I.2.1
    unfold rng at this
    rw [List.length_map, List.length_range] at this
    omega
structure OrdP (ps : List Str) (os : List (T4 Str Str Int Int)) : Prop where
  O : ∀ o ∈ os, OkO o
  t : ∀ o ∈ os, o.d ≤ 5
  k : ∀ o ∈ os, o.b ∈ ps
  few : os.length ≤ 3
theorem ordP_nil {ps : List Str} : OrdP ps [] := ⟨(fun o ho => nomatch ho), (fun o ho => nomatch ho), (fun o ho => nomatch ho), by simp⟩
theorem s__law_near {p : Int} {P : Int → Prop} (h : ∀ x, 1 ≤ x → x ≤ 99 → P x) : w__law_near p P := by
  unfold w__law_near
  refine ⟨by decide, fun y y0 y1 => h _ ?_ ?_⟩ <;> (split <;> split <;> omega)
theorem s__law_orders {ps : List Str} {pr : Dc Str Int} {rm : Int} {P : List (T4 Str Str Int Int) → Prop} (pp : Pac ps) (R : PrcP ps pr.l) (hr : -100 ≤ rm ∧ rm ≤ 100) (h : ∀ os, OrdP ps os → P os) : w__law_orders ps pr rm P := by
  unfold w__law_orders
  intro s hs
  subst hs
  refine ⟨by decide, fun y y0 y1 => ?_⟩
  have key : ∃ q : Int, atI [(0 : Int), (0 : Int), (1 : Int), (2 : Int), (3 : Int)] y = some q ∧ 0 ≤ q ∧ q ≤ 3 := by
    have : y = 0 ∨ y = 1 ∨ y = 2 ∨ y = 3 ∨ y = 4 := by omega
    rcases this with e | e | e | e | e <;> subst e
    · exact ⟨0, rfl, by decide, by decide⟩
    · exact ⟨0, rfl, by decide, by decide⟩
    · exact ⟨1, rfl, by decide, by decide⟩
    · exact ⟨2, rfl, by decide, by decide⟩
    · exact ⟨3, rfl, by decide, by decide⟩
  obtain ⟨q, hq, q0, q1⟩ := key
  refine ⟨q, hq, by split <;> omega, for_inv (fun i (os : List (T4 Str Str Int Int)) => (∀ o ∈ os, OkO o) ∧ (∀ o ∈ os, o.d ≤ 5) ∧ (∀ o ∈ os, o.b ∈ ps) ∧ os.length ≤ i) _ 0 _ ⟨(fun o ho => nomatch ho), (fun o ho => nomatch ho), (fun o ho => nomatch ho), by simp⟩ (fun j x os nx bk hj I hn => ?_) fun os I => h os ⟨I.1, I.2.1, I.2.2.1, ?_⟩⟩
  · have jn : j < 4 := by
      have := (List.getElem?_eq_some_iff.mp hj).1
      unfold rng at this
      rw [List.length_map, List.length_range] at this
      revert this
      split <;> omega
    have lp := pac_len pp
    refine ⟨by omega, fun y y0 y1 => ?_⟩
    have un : ∃ c, atI ps y = some c ∧ c ∈ ps := by
      have hy : y.toNat < ps.length := by omega
      exact ⟨ps[y.toNat], by unfold atI ixN; rw [if_pos y0, if_pos y1]; simp [hy], List.getElem_mem hy⟩
    obtain ⟨c, hc, mc⟩ := un
    refine ⟨c, hc, fun c' hc' => ?_⟩
    subst hc'
    refine ⟨by decide, fun y y0 y1 => ?_⟩
    have sd : ∃ q : Str, atI [("buy" : Str), ("sell" : Str)] y = some q ∧ (q = "buy" ∨ q = "sell") := by
      have : y = 0 ∨ y = 1 := by omega
      rcases this with e | e <;> subst e
      · exact ⟨_, rfl, .inl rfl⟩
      · exact ⟨_, rfl, .inr rfl⟩
    obtain ⟨sd, hs, us⟩ := sd
    refine ⟨sd, hs, fun sd' hsd => ?_⟩
    subst hsd
    obtain ⟨w, hw⟩ := look_mem (R.k _ mc)
    refine ⟨w, hw, s__law_near fun nr n1 n2 => ⟨by decide, fun a a0 a1 => ⟨by have := I.2.2.2; omega, fun os' ho => ?_⟩⟩⟩
    subst ho
    have mem : memOk c' = true := by
      rcases pac_mem pp mc with e | e
      · rw [e]; exact u2.mu
      · rw [e]; exact u2.mv
    refine hn _ ⟨fun o ho => ?_, fun o ho => ?_, fun o ho => ?_, by rw [List.length_append, List.length_singleton]; have := I.2.2.2; omega⟩
    · rcases List.mem_append.mp ho with e | e
      · exact I.1 o e
      · rw [List.mem_singleton.mp e]
        exact ⟨us, mem, n1, n2, by show 1 ≤ 1 + a; omega⟩
    · rcases List.mem_append.mp ho with e | e
      · exact I.2.1 o e
      · rw [List.mem_singleton.mp e]
        show 1 + a ≤ 5
        omega
    · rcases List.mem_append.mp ho with e | e
      · exact I.2.2.1 o e
      · rw [List.mem_singleton.mp e]
        exact mc
  · have := I.2.2.2
    unfold rng at this
    rw [List.length_map, List.length_range] at this
    revert this
    split <;> omega
end K89
set_option maxHeartbeats 4000000
/-! k89, the plain law: books -/
namespace K89
open PySem PySem.Spec PyProof.Rows L2 DW
abbrev Bk := Dc Str Int × List (T4 Str Str Int Int)
structure BkP (ps : List Str) (b : Bk) : Prop where
  I : I2 b.1.l
  z : NoZ b.1.l
  bd : Bd 18 b.1.l
  O : OrdP ps b.2
def six : List Str := [("ann" : Str), ("bob" : Str), ("cid" : Str), ("dee" : Str), ("eve" : Str), ("a" : Str)]
structure BksP (ps : List Str) (bs : List (Str × Bk)) : Prop where
  nd : (keys bs).Nodup
  sub : ∀ k ∈ keys bs, k ∈ six
  lo : 1 ≤ bs.length
  hi : bs.length ≤ 5
  bk : ∀ k b, look bs k = some b → BkP ps b
theorem put_len {κ α : Type} [DecidableEq κ] (k : κ) (v : α) : ∀ xs : List (κ × α), (put xs k v).length ≤ xs.length + 1
  | [] => by unfold put; simp
  | (a, b) :: r => by
    unfold put
    split
    · simp
    · have := put_len k v r
      simp only [List.length_cons]
      omega
theorem put_ne {κ α : Type} [DecidableEq κ] (k : κ) (v : α) (xs : List (κ × α)) : 1 ≤ (put xs k v).length := by
  cases xs with
  | nil => unfold put; simp
  | cons p r =>
    obtain ⟨a, b⟩ := p
    unfold put
    split <;> simp
theorem paired_keys {α : Type} {F : Str → Str × α → Prop} (f : ∀ x p, F x p → p.1 = x) : ∀ {xs : List Str} {ys : List (Str × α)}, Paired F xs ys → keys ys = xs
  | _, _, .nil => rfl
  | _, _, .cons h t => by
    show _ :: keys _ = _
    rw [paired_keys f t, f _ _ h]
theorem paired_look {α : Type} {F : Str → Str × α → Prop} {G : α → Prop} (f : ∀ x p, F x p → G p.2) : ∀ {xs : List Str} {ys : List (Str × α)}, Paired F xs ys → ∀ k w, look ys k = some w → G w
  | _, _, .nil, k, w, h => nomatch h
  | _, _, .cons (b := p) h t, k, w, e => by
    unfold look at e
    split at e
    · injection e with e
      rw [← e]
      exact f _ _ h
    · exact paired_look f t k w e
theorem cut_pre {α : Type} (A X : List α) {i : Int} (h : i = (A.length : Int)) : cutL (A ++ X) none (some i) = A := by
  subst h
  unfold cutL
  rw [HT.sIx_nat, HT.sIx_none, List.drop_zero, List.length_append, show min A.length (A.length + X.length) - 0 = A.length by omega, List.take_left']
  rfl
theorem cut_post {α : Type} (A X : List α) (k : Nat) {i : Int} (h : i = ((A.length + k : Nat) : Int)) : cutL (A ++ X) (some i) none = X.drop k := by
  subst h
  unfold cutL
  rw [HT.sIx_nat, HT.sIx_none, List.length_append]
  by_cases c : k ≤ X.length
  · rw [show min (A.length + k) (A.length + X.length) = A.length + k by omega, List.drop_append, List.take_of_length_le (by simp; omega)]
    rw [show A.length + k - A.length = k by omega, List.drop_eq_nil_of_le (by omega), List.nil_append]
  · rw [show min (A.length + k) (A.length + X.length) = A.length + X.length by omega, show A.length + X.length - (A.length + X.length) = 0 by omega, List.take_zero, List.drop_eq_nil_of_le (by omega)]
theorem cut_take {α : Type} (xs : List α) {q : Int} (h0 : 0 ≤ q) (h1 : q ≤ xs.length) : cutL xs none (some q) = xs.take q.toNat := by
  have e : xs = xs.take q.toNat ++ xs.drop q.toNat := (List.take_append_drop _ _).symm
  have l : (xs.take q.toNat).length = q.toNat := by rw [List.length_take]; omega
  have := cut_pre (xs.take q.toNat) (xs.drop q.toNat) (i := q) (by rw [l]; omega)
  rw [← e] at this
  exact this
theorem six_ok : ∀ s ∈ six, PyData.strOk s = true := by decide +kernel
theorem s__law_books {ps : List Str} {pr : Dc Str Int} {P : Dc Str Bk → Prop} (pp : Pac ps) (R : PrcP ps pr.l) (h : ∀ bs : Dc Str Bk, BksP ps bs.l → P bs) : w__law_books ps pr P := by
  unfold w__law_books
  refine ⟨⟨by decide, six_ok⟩, fun nm hnm => ⟨by decide, fun q q0 q1 names hn f hf rm hrm => ⟨by decide, fun wy w0 w1 wy' hwy => s__law_position pp fun d0 I0 Z0 B0 fst hfst => ?_⟩⟩⟩
  subst hf hrm hwy hfst
  have ln : names.length = (1 + q).toNat := by
    subst hn
    have l6 : nm.length = 6 := hnm.length_eq
    rw [cut_take nm (by omega) (by omega), List.length_take]
    omega
  have sn : ∀ x ∈ names, x ∈ six := fun x hx => by
    subst hn
    have l6 : nm.length = 6 := hnm.length_eq
    rw [cut_take nm (by omega) (by omega)] at hx
    exact hnm.mem_iff.mp (List.mem_of_mem_take hx)
  unfold w__law_books_p1
  refine for_inv (fun i (s : List (Str × Bk) × Int) => ((keys s.1).Nodup ∧ (∀ k ∈ keys s.1, k ∈ six) ∧ s.1.length ≤ i ∧ (i = 0 ∨ 1 ≤ s.1.length) ∧ ∀ k b, look s.1 k = some b → BkP ps b) ∧ 8 - 3 * (i : Int) ≤ s.2 ∧ s.2 ≤ 8) _ 0 _ ⟨⟨List.nodup_nil, (fun k hk => nomatch hk), by simp, .inl rfl, (fun k b hk => nomatch hk)⟩, by simp, by simp⟩ (fun j x s nx bk hx I hn => ?_) fun s I => h _ ⟨I.1.1, I.1.2.1, ?_, ?_, I.1.2.2.2.2⟩
  · have jn : j < names.length := (List.getElem?_eq_some_iff.mp hx).1
    have hx := sn x (List.mem_of_getElem? hx)
    refine s__law_position pp fun d I1 Z1 B1 d' hd' => ?_
    subst hd'
    have fin : ∀ (p : Dc Str Int) (os : List (T4 Str Str Int Int)), BkP ps (p, os) → ∀ z, z = os → ∀ r, r = s.2 - (z.length : Int) → s.1.length < 100000 ∧ ∀ f, f = put s.1 x (p, z) → nx (f, r) := fun p os B z hz r hr => by
      subst hz hr
      refine ⟨by have := I.1.2.2.1; omega, fun f hf => ?_⟩
      subst hf
      refine hn _ ⟨⟨put_nodup I.1.1, fun k hk => ?_, ?_, .inr (put_ne _ _ _), fun k b hk => ?_⟩, ?_, ?_⟩
      · rcases put_sub hk with e | e
        · rw [e]; exact hx
        · exact I.1.2.1 k e
      · have := put_len x (p, z) s.1
        have := I.1.2.2.1
        show (put s.1 x (p, z)).length ≤ _
        omega
      · have hk : look (put s.1 x (p, z)) k = some b := hk
        rw [look_put] at hk
        split at hk
        · injection hk with hk
          rw [← hk]
          exact B
        · exact I.1.2.2.2.2 k b hk
      · have few := B.O.few
        have := I.2.1
        show _ ≤ s.2 - (z.length : Int)
        have e : ((z : List _).length : Int) ≤ 3 := by exact_mod_cast few
        omega
      · have := I.2.2
        show s.2 - (z.length : Int) ≤ 8
        omega
    have ordr : ∀ p : Dc Str Int, I2 p.l → NoZ p.l → Bd 18 p.l → altW (fun (P2175 : (List (T4 Str Str Int Int)) → Prop) => (((decide ((1 : Int) < wy')) = true → (w__law_orders ps pr s.2 (fun y => P2175 y))) ∧ ((decide ((1 : Int) < wy')) = false → P2175 ([] : List (T4 Str Str Int Int))))) (fun y => ∀ z, z = y → ∀ r, r = s.2 - (z.length : Int) → s.1.length < 100000 ∧ ∀ f, f = put s.1 x (p, z) → nx (f, r)) := fun p Ip Zp Bp => by
      unfold altW
      refine ⟨fun _ => s__law_orders pp R ?_ fun os O => fin p os ⟨Ip, Zp, Bp, O⟩, fun _ => fin p [] ⟨Ip, Zp, Bp, ordP_nil⟩⟩
      have := I.2.1
      have := I.2.2
      omega
    unfold joinW
    refine ⟨fun _ => ⟨by have := in2_len I0; rw [List.length_map]; omega, comp_rel (fun x (p : Str × Int) => p.1 = x ∧ p.2 ≠ 0 ∧ -18 ≤ p.2 ∧ p.2 ≤ 18) _ _ (fun y hy R' hR => ?_) fun ys hys p hp => ?_⟩, fun _ => ?_⟩
    · obtain ⟨v, hv⟩ := look_mem hy
      have nz := Z0 y v hv
      have b6 := B0 y v hv
      refine ⟨v, hv, by decide, fun t t0 t1 => ⟨.inl (by omega), hR _ ⟨rfl, ?_, ?_, ?_⟩⟩⟩
      · have : t = 0 ∨ t = 1 ∨ t = 2 := by omega
        rcases this with e | e | e <;> subst e <;> (show v * _ ≠ 0; omega)
      · have : t = 0 ∨ t = 1 ∨ t = 2 := by omega
        rcases this with e | e | e <;> subst e <;> (show -18 ≤ v * _; omega)
      · have : t = 0 ∨ t = 1 ∨ t = 2 := by omega
        rcases this with e | e | e <;> subst e <;> (show v * _ ≤ 18; omega)
    · have kz := paired_keys (fun x p e => e.1) hys
      rw [List.nil_append, puts_own (by rw [kz]; exact I0.nd)] at hp
      subst hp
      refine ordr _ ⟨by show (keys ys).Nodup; rw [kz]; exact I0.nd, fun k hk => ?_⟩ (paired_look (G := fun w => w ≠ 0) (fun x p e => e.2.1) hys) (paired_look (G := fun w => -18 ≤ w ∧ w ≤ 18) (fun x p e => e.2.2) hys)
      have hk : k ∈ keys ys := hk
      rw [kz] at hk
      exact I0.sub k hk
    · exact ordr _ I1 Z1 fun k w hk => by
        have := B1 k w hk
        omega
  · rcases I.1.2.2.2.1 with e | e
    · omega
    · exact e
  · have := I.1.2.2.1
    show s.1.length ≤ 5
    omega
end K89
set_option maxHeartbeats 4000000
/-! k89, the plain law: losses of books and groups -/
namespace K89
open PySem PySem.Spec PyProof.Rows L2 DW
structure Wld (ps : List Str) (bs : Dc Str Bk) (ms : List (Dc Str Int)) (pr : Dc Str Int) : Prop where
  pp : Pac ps
  R : PrcP ps pr.l
  M : MvsP ms
  B : BksP ps bs.l
def posN (bs : List (Str × Bk)) (n : Str) : List (Str × Int) := ((look bs n).map fun b => b.1.l).getD []
def ordN (bs : List (Str × Bk)) (n : Str) : List (T4 Str Str Int Int) := ((look bs n).map fun b => b.2).getD []
def lN (bs : List (Str × Bk)) (pr : List (Str × Int)) (n : Str) (m : List (Str × Int)) : Int := tot (posN bs n) (ordN bs n) m pr
def grpL (bs : List (Str × Bk)) (pr : List (Str × Int)) (gr : List Str) (m : List (Str × Int)) : Int := (gr.map fun n => lN bs pr n m).sum
theorem posN_some {bs : List (Str × Bk)} {n : Str} {b : Bk} (h : look bs n = some b) : posN bs n = b.1.l := by
  unfold posN
  rw [h]
  rfl
theorem ordN_some {bs : List (Str × Bk)} {n : Str} {b : Bk} (h : look bs n = some b) : ordN bs n = b.2 := by
  unfold ordN
  rw [h]
  rfl
theorem lN_some {bs : List (Str × Bk)} {pr : List (Str × Int)} {n : Str} {b : Bk} (h : look bs n = some b) (m : List (Str × Int)) : lN bs pr n m = tot b.1.l b.2 m pr := by
  unfold lN
  rw [posN_some h, ordN_some h]
theorem bk_dct {ps : List Str} {b : Bk} (B : BkP ps b) : Dct b.1.l := in2_dct u2 B.I
theorem foldl_bite {m pr : List (Str × Int)} : ∀ (os : List (T4 Str Str Int Int)) (s : Int), os.foldl (fun s o => s + bite o m pr) s = s + (os.map fun o => bite o m pr).sum
  | [], s => by simp
  | o :: os, s => by
    rw [List.foldl_cons, foldl_bite os, List.map_cons, List.sum_cons]
    omega
theorem ul_bd {ps : List Str} {o : T4 Str Str Int Int} {m pr : List (Str × Int)} (R : PrcP ps pr) (M : Bd 8 m) (O : OkO o) : -1000 ≤ ul o m pr ∧ ul o m pr ≤ 1000 := by
  have a := O.lo
  have b := O.hi
  have p : 0 ≤ g pr o.b ∧ g pr o.b ≤ 99 := by
    cases e : look pr o.b with
    | none => unfold g; rw [e]; decide
    | some w =>
      rw [g_some e]
      have := R.lo _ _ e
      omega
  have q : -8 ≤ g m o.b ∧ g m o.b ≤ 8 := by
    cases e : look m o.b with
    | none => unfold g; rw [e]; decide
    | some w =>
      rw [g_some e]
      exact M _ _ e
  unfold ul
  split <;> omega
theorem s__law_loss {p m : Dc Str Int} {P : Int → Prop} (D : Dct p.l) (c : Cm p.l m.l) (h : P (lossBy p.l m.l)) : w__law_loss p m P := by
  unfold w__law_loss
  refine ⟨keys_len D, comp_map (fun k => (look p.l k).getD 0 * (look m.l k).getD 0) _ _ (fun x hx R hR => ?_) ?_⟩
  · obtain ⟨v, hv⟩ := look_mem hx
    rw [hv] at hR
    exact ⟨v, hv, c x v hv, hR⟩
  · rw [List.nil_append, Int.zero_sub]
    exact h
section
variable {ps : List Str} {bs : Dc Str Bk} {ms : List (Dc Str Int)} {pr : Dc Str Int}
theorem s__law_book_loss {b : Bk} {m : Dc Str Int} {P : Int → Prop} (W : Wld ps bs ms pr) (B : BkP ps b) (hm : m ∈ ms) (h : P (tot b.1.l b.2 m.l pr.l)) : w__law_book_loss b m pr P := by
  unfold w__law_book_loss
  refine s__law_loss (bk_dct B) (mvsP_c W.M _ m hm) fun f hf => ?_
  subst hf
  refine for_fold (fun s o => s + bite o m.l pr.l) _ _ (fun o ho s nx bk hn => ?_) ?_
  · obtain ⟨w, hw⟩ := look_mem (W.R.k _ (B.O.k o ho))
    refine ⟨w, hw, fun z hz => ?_⟩
    subst hz
    have O := B.O.O o ho
    have ub := ul_bd W.R (W.M.lo m hm) O
    have t5 := B.O.t o ho
    have d1 := O.pos
    have fin : ∀ y, y = ul o m.l pr.l → CMul o.d (if y > 0 then y else 0) ∧ ∀ z, z = s + o.d * (if y > 0 then y else 0) → nx z := fun y hy => by
      subst hy
      refine ⟨.inl (by omega), fun z hz => ?_⟩
      have e : o.d * (if ul o m.l pr.l > 0 then ul o m.l pr.l else 0) = bite o m.l pr.l := by
        unfold bite fill
        split
        · rfl
        · simp
      rw [hz, e]
      exact hn
    unfold altW
    refine ⟨fun e => fin _ ?_, fun e => fin _ ?_⟩
    · unfold ul
      rw [g_some hw, if_pos (of_decide_eq_true e)]
    · unfold ul
      rw [g_some hw, if_neg (of_decide_eq_false e)]
  · rw [foldl_bite]
    exact h
theorem s__law_losses {gr : List Str} {P : List Int → Prop} (W : Wld ps bs ms pr) (hg : ∀ n ∈ gr, n ∈ keys bs.l) (hl : gr.length ≤ 1000) (h : P (ms.map fun m => grpL bs.l pr.l gr m.l)) : w__law_losses bs gr ms pr P := by
  unfold w__law_losses
  refine ⟨by have := W.M.few; omega, comp_map (fun m : Dc Str Int => grpL bs.l pr.l gr m.l) _ _ (fun m hm R hR => ⟨by omega, comp_map (fun n => lN bs.l pr.l n m.l) _ _ (fun n hn R' hR' => ?_) ?_⟩) ?_⟩
  · obtain ⟨b, hb⟩ := look_mem (hg n hn)
    refine ⟨b, hb, s__law_book_loss W (W.B.bk n b hb) hm ?_⟩
    rw [← lN_some hb]
    exact hR'
  · rw [List.nil_append]
    exact hR
  · rw [List.nil_append]
    exact h
theorem s__law_need {gr : List Str} {P : Int → Prop} (W : Wld ps bs ms pr) (hg : ∀ n ∈ gr, n ∈ keys bs.l) (hl : gr.length ≤ 1000) (h : ∀ r, IsMax (ms.map fun m => grpL bs.l pr.l gr m.l) r → P r) : w__law_need bs gr ms pr P := by
  unfold w__law_need
  refine s__law_losses W hg hl ⟨?_, fun r h1 h2 => h r ⟨h1, h2⟩⟩
  rw [List.length_map]
  exact mvs_pos (mvsP W.M)
/-! ### the program's -/
theorem okQ {p : List (Str × Int)} {os : List (T4 Str Str Int Int)} (W : Wld ps bs ms pr) (I : I2 p) (z : NoZ p) (O : ∀ o ∈ os, OkO o ∧ o.d ≤ 5 ∧ o.b ∈ ps) (f : os.length ≤ 1000) : OkQ p os ms pr.l :=
  ⟨in2_dct u2 I, z, fun o ho => (O o ho).1, fun o ho => by have := (O o ho).2.1; omega, f, mvsP W.M, mvsP_c W.M _, prcP W.R, fun o ho => W.R.k _ (O o ho).2.2⟩
theorem bk_O {b : Bk} (B : BkP ps b) : ∀ o ∈ b.2, OkO o ∧ o.d ≤ 5 ∧ o.b ∈ ps := fun o ho => ⟨B.O.O o ho, B.O.t o ho, B.O.k o ho⟩
theorem s_loss_of {b : Bk} {m : Dc Str Int} {P : Int → Prop} (W : Wld ps bs ms pr) (B : BkP ps b) (hm : m ∈ ms) (h : P (tot b.1.l b.2 m.l pr.l)) : w_loss_of b m pr P := by
  unfold w_loss_of
  intro z hz
  subst hz
  have Q := okQ W B.I B.z (bk_O B) (by have := B.O.few; omega)
  exact s_worst_filled Q.k (by have := B.O.few; omega) (s_loss_with Q hm h)
end
end K89
set_option maxHeartbeats 4000000
/-! k89, the plain law: groups together -/
namespace K89
open PySem PySem.Spec PyProof.Rows L2 DW
theorem comp2_map {α β : Type} {B : α → (List β → Prop) → Prop} {k : List β → Prop} (f : α → List β) : ∀ (xs : List α) (acc : List β), (∀ x ∈ xs, ∀ R : List β → Prop, R (f x) → B x R) → k (acc ++ xs.flatMap f) → comp2W B k xs acc
  | [], acc, _, h => by
    rw [List.flatMap_nil, List.append_nil] at h
    exact h
  | x :: xs, acc, hB, h => hB x List.mem_cons_self _ (comp2_map f xs _ (fun y hy => hB y (List.mem_cons_of_mem _ hy)) (by
    rw [List.flatMap_cons, ← List.append_assoc] at h
    exact h))
theorem sum_flat {α β : Type} (f : α → List β) (q : β → Int) : ∀ xs : List α, ((xs.flatMap f).map q).sum = (xs.map fun x => ((f x).map q).sum).sum
  | [] => rfl
  | x :: xs => by
    rw [List.flatMap_cons, List.map_append, List.sum_append, sum_flat f q xs, List.map_cons, List.sum_cons]
theorem sum_add {α : Type} (f q : α → Int) : ∀ xs : List α, (xs.map fun x => f x + q x).sum = (xs.map f).sum + (xs.map q).sum
  | [] => rfl
  | x :: xs => by
    rw [List.map_cons, List.sum_cons, sum_add f q xs, List.map_cons, List.sum_cons, List.map_cons, List.sum_cons]
    omega
theorem sum_lin {α : Type} (f q : α → Int) (a b : Int) : ∀ xs : List α, (xs.map fun x => -(f x * a + q x * b)).sum = -((xs.map f).sum * a + (xs.map q).sum * b)
  | [] => by simp
  | x :: xs => by
    rw [List.map_cons, List.sum_cons, sum_lin f q a b xs, List.map_cons, List.sum_cons, List.map_cons, List.sum_cons, Int.add_mul, Int.add_mul]
    omega
structure Jn (bs : List (Str × Bk)) (gr : List Str) (J : List (Str × Int)) : Prop where
  I : I2 J
  z : NoZ J
  gk : ∀ k, g J k = (gr.map fun n => g (posN bs n) k).sum
section
variable {ps : List Str} {bs : Dc Str Bk} {ms : List (Dc Str Int)} {pr : Dc Str Int} {gr : List Str}
theorem W_bk (W : Wld ps bs ms pr) {n : Str} (h : n ∈ keys bs.l) : ∃ b, look bs.l n = some b ∧ BkP ps b := by
  obtain ⟨b, hb⟩ := look_mem h
  exact ⟨b, hb, W.B.bk n b hb⟩
theorem s_joined_position {P : Dc Str Int → Prop} (W : Wld ps bs ms pr) (hg : ∀ n ∈ gr, n ∈ keys bs.l) (h : ∀ J : Dc Str Int, Jn bs.l gr J.l → P J) : w_joined_position bs gr P := by
  unfold w_joined_position
  intro s hs
  subst hs
  refine for_inv (fun i (s : Dc Str Int) => I2 s.l ∧ NoZ s.l ∧ ∀ k, g s.l k = ((gr.take i).map fun n => g (posN bs.l n) k).sum) _ 0 _ ⟨in2_nil, (fun k w hk => nomatch hk), fun k => rfl⟩ (fun j x s nx bk hx I hn => ?_) fun s I => h s ⟨I.1, I.2.1, fun k => ?_⟩
  · obtain ⟨b, hb, B⟩ := W_bk W (hg x (List.mem_of_getElem? hx))
    refine ⟨b, hb, s_summed I.1 B.I fun r S r' hr => ?_⟩
    subst hr
    refine hn _ ⟨S.I, S.z, fun k => ?_⟩
    rw [S.g k, I.2.2 k, Nat.zero_add]
    have e : gr.take (j + 1) = gr.take j ++ [x] := by
      rw [List.take_add_one, hx]
      rfl
    rw [e, List.map_append, List.sum_append, List.map_cons, List.map_nil, List.sum_cons, List.sum_nil, posN_some hb]
    omega
  · rw [I.2.2 k, Nat.zero_add, List.take_length]
theorem posN_I (W : Wld ps bs ms pr) {n : Str} (h : n ∈ keys bs.l) : I2 (posN bs.l n) := by
  obtain ⟨b, hb, B⟩ := W_bk W h
  rw [posN_some hb]
  exact B.I
theorem jn_loss (W : Wld ps bs ms pr) (hg : ∀ n ∈ gr, n ∈ keys bs.l) {J : List (Str × Int)} (j : Jn bs.l gr J) (m : List (Str × Int)) : lossBy J m = (gr.map fun n => lossBy (posN bs.l n) m).sum := by
  rw [lossBy2 u2.ne j.I, j.gk, j.gk, ← sum_lin]
  refine congrArg List.sum (List.map_congr_left fun n hn => ?_)
  rw [lossBy2 u2.ne (posN_I W (hg n hn))]
theorem jn_tot (W : Wld ps bs ms pr) (hg : ∀ n ∈ gr, n ∈ keys bs.l) {J : List (Str × Int)} (j : Jn bs.l gr J) (m : List (Str × Int)) : tot J (gr.flatMap (ordN bs.l)) m pr.l = grpL bs.l pr.l gr m := by
  show lossBy J m + ((gr.flatMap (ordN bs.l)).map fun o => bite o m pr.l).sum = (gr.map fun n => lossBy (posN bs.l n) m + ((ordN bs.l n).map fun o => bite o m pr.l).sum).sum
  rw [jn_loss W hg j, sum_flat, sum_add]
theorem s_all_orders {P : List (T4 Str Str Int Int) → Prop} (W : Wld ps bs ms pr) (hg : ∀ n ∈ gr, n ∈ keys bs.l) (hl : gr.length ≤ 100) (h : P (gr.flatMap (ordN bs.l))) : w_all_orders bs gr P := by
  unfold w_all_orders
  refine ⟨by omega, comp2_map (ordN bs.l) _ _ (fun n hn R hR => ?_) h⟩
  obtain ⟨b, hb, B⟩ := W_bk W (hg n hn)
  refine ⟨b, hb, by have := B.O.few; omega, comp_map id _ _ (fun o ho R' hR' => hR') ?_⟩
  rw [List.nil_append, List.map_id, ← ordN_some hb]
  exact hR
theorem all_O (W : Wld ps bs ms pr) (hg : ∀ n ∈ gr, n ∈ keys bs.l) : ∀ o ∈ gr.flatMap (ordN bs.l), OkO o ∧ o.d ≤ 5 ∧ o.b ∈ ps := fun o ho => by
  obtain ⟨n, hn, h⟩ := List.mem_flatMap.mp ho
  obtain ⟨b, hb, B⟩ := W_bk W (hg n hn)
  rw [ordN_some hb] at h
  exact bk_O B o h
theorem all_len (W : Wld ps bs ms pr) (hg : ∀ n ∈ gr, n ∈ keys bs.l) : (gr.flatMap (ordN bs.l)).length ≤ 3 * gr.length := by
  induction gr with
  | nil => simp
  | cons n r ih =>
    rw [List.flatMap_cons, List.length_append, List.length_cons]
    have := ih fun k hk => hg k (List.mem_cons_of_mem _ hk)
    obtain ⟨b, hb, B⟩ := W_bk W (hg n List.mem_cons_self)
    rw [ordN_some hb]
    have := B.O.few
    omega
/-- what the worst move is -/
structure Wt (bs : List (Str × Bk)) (pr : List (Str × Int)) (ms : List (Dc Str Int)) (gr : List Str) (j : Nat) (m : Dc Str Int) : Prop where
  at' : ms[j]? = some m
  mx : ∀ m' ∈ ms, grpL bs pr gr m'.l ≤ grpL bs pr gr m.l
  first : ∀ i, i < j → ∀ m', ms[i]? = some m' → grpL bs pr gr m'.l ≠ grpL bs pr gr m.l
theorem s_wt {P : Int × Int → Prop} (W : Wld ps bs ms pr) (hg : ∀ n ∈ gr, n ∈ keys bs.l) (hl : gr.length ≤ 100) (h : ∀ j m, Wt bs.l pr.l ms gr j m → P (grpL bs.l pr.l gr m.l, (j : Int))) : w_worst_together bs gr ms pr P := by
  unfold w_worst_together
  refine s_joined_position W hg fun J j => s_all_orders W hg hl ?_
  have ln := all_len W hg
  refine s_worst_of (okQ W j.I j.z (all_O W hg) (by omega)) fun r i m w => ?_
  have e := jn_tot W hg j
  have ra := w.a
  rw [e] at ra
  rw [ra, w.b]
  refine h i m ⟨w.at', fun m' hm' => ?_, fun i' hi m' hm' => ?_⟩
  · have := w.mx m' hm'
    rw [e, e] at this
    exact this
  · have := w.first i' hi m' hm'
    rw [e, e] at this
    exact this
theorem s_wt_T {P : Int × Int → Prop} (W : Wld ps bs ms pr) (hg : ∀ n ∈ gr, n ∈ keys bs.l) (hl : gr.length ≤ 100) (h : ∀ j m, Wt bs.l pr.l ms gr j m → P (grpL bs.l pr.l gr m.l, (j : Int))) : w_worst_together_DSTDSILTSSII_TpS_TpDSI_DSI bs ⟨gr⟩ ⟨ms⟩ pr P :=
  (s_wt W hg hl h : w_worst_together bs gr ms pr P)
theorem wt_need {gr : List Str} {j : Nat} {m : Dc Str Int} {r : Int} (w : Wt bs.l pr.l ms gr j m) (h : IsMax (ms.map fun m => grpL bs.l pr.l gr m.l) r) : grpL bs.l pr.l gr m.l = r :=
  isMax_one (xs := ms.map fun m => grpL bs.l pr.l gr m.l) ⟨List.mem_map.mpr ⟨m, List.mem_of_getElem? w.at', rfl⟩, fun y hy => by
    obtain ⟨m', hm', e⟩ := List.mem_map.mp hy
    rw [← e]
    exact w.mx m' hm'⟩ h
/-! ### checks -/
theorem six_mem : ∀ s ∈ six, memOk s = true := by decide +kernel
theorem s_is_book {b : Bk} {P : Bool → Prop} (B : BkP ps b) (h : P true) : w_is_book b P := by
  unfold w_is_book altW
  refine ⟨fun _ => ⟨fun _ => s_is_position (bk_dct B) B.z ⟨(fun e => nomatch e), fun _ => ⟨fun _ => ⟨by have := B.O.few; omega, comp_map (fun _ => true) _ _ (fun o ho R hR => s_is_standing (B.O.O o ho) hR) ?_⟩, (fun e => nomatch e)⟩⟩, fun e => ?_⟩, (fun e => nomatch e)⟩
  · rw [List.nil_append, all_map fun _ _ => rfl]
    exact h
  · rw [decide_eq_true rfl] at e
    cases e
theorem bs_len (W : Wld ps bs ms pr) : (keys bs.l).length ≤ 5 := by
  rw [List.length_map]
  exact W.B.hi
theorem look_val {κ α : Type} [DecidableEq κ] : ∀ {d : List (κ × α)}, (keys d).Nodup → ∀ p ∈ d, look d p.1 = some p.2
  | q :: d, nd, p, h => by
    have nd' := List.nodup_cons.mp (show (q.1 :: keys d).Nodup from nd)
    unfold look
    rcases List.mem_cons.mp h with e | h
    · rw [e, if_pos rfl]
    · rw [if_neg (fun e => nd'.1 (by rw [e]; exact List.mem_map_of_mem h))]
      exact look_val nd'.2 p h
theorem s_are_books {P : Bool → Prop} (W : Wld ps bs ms pr) (h : P true) : w_are_books bs P := by
  unfold w_are_books altW
  have l5 := bs_len W
  refine ⟨fun _ => ⟨Nat.le_trans l5 (by decide), comp_map (fun _ => true) _ _ (fun x hx R hR => s_member (six_mem x (W.B.sub x hx)) hR) ?_⟩, (fun e => nomatch e)⟩
  rw [List.nil_append, all_map fun _ _ => rfl]
  refine ⟨(fun e => nomatch e), fun _ => ⟨by have := W.B.hi; rw [List.length_map]; omega, comp_map (fun _ => true) _ _ (fun b hb R hR => ?_) ?_⟩⟩
  · obtain ⟨p, hp, e⟩ := List.mem_map.mp hb
    have := W.B.bk _ _ (look_val W.B.nd p hp)
    rw [e] at this
    exact s_is_book this hR
  · rw [List.nil_append, all_map fun _ _ => rfl]
    exact h
theorem s_check_world {P : Unit → Prop} (W : Wld ps bs ms pr) (h : P ()) : w_check_world bs ms pr P := by
  unfold w_check_world
  refine s_are_books W ⟨(fun e => nomatch e), fun _ => s_check_moves (mvsP W.M) (s_check_prices (prcP W.R) ⟨by have := W.B.hi; omega, fun z hz _ => ?_⟩)⟩
  have hz' : ∀ n ∈ z, n ∈ keys bs.l := fun n hn => hz.mem_iff.mp hn
  have lz : z.length ≤ 5 := by
    have := hz.length_eq
    have := bs_len W
    show z.length ≤ 5
    have e : z.length = (keys bs.l).length := hz.length_eq
    omega
  exact s_all_orders W hz' (by omega) (s_check_priced (fun o ho => W.R.k _ (all_O W hz' o ho).2.2) h)
theorem s_check_world_T {P : Unit → Prop} (W : Wld ps bs ms pr) (h : P ()) : w_check_world_DSTDSILTSSII_TpDSI_DSI bs ⟨ms⟩ pr P := (s_check_world W h : w_check_world bs ms pr P)
end
end K89
set_option maxHeartbeats 4000000
/-! k89, the plain law: sorted names, lists of names -/
namespace K89
open PySem PySem.Spec PyProof.Rows L2 DW
/-! ### sorted lists are one -/
theorem sto_uniq {α : Type} {lt : α → α → Bool} (O : Sto lt) : ∀ {l m : List α}, l.Pairwise (fun a b => lt b a = false) → m.Pairwise (fun a b => lt b a = false) → l.Perm m → l = m
  | [], m, _, _, h => h.symm.eq_nil.symm
  | x :: l, [], _, _, h => absurd h.length_eq (by simp)
  | x :: l, y :: m, hl, hm, h => by
    have h1 : x = y ∨ lt x y = false := by
      rcases List.mem_cons.mp (h.mem_iff.mp List.mem_cons_self) with e | e
      · exact .inl e
      · exact .inr ((List.pairwise_cons.mp hm).1 x e)
    have h2 : x = y ∨ lt y x = false := by
      rcases List.mem_cons.mp (h.mem_iff.mpr List.mem_cons_self) with e | e
      · exact .inl e.symm
      · exact .inr ((List.pairwise_cons.mp hl).1 y e)
    have e : x = y := by
      rcases h1 with e | h1
      · exact e
      · rcases h2 with e | h2
        · exact e
        · exact O.con x y h1 h2
    subst e
    rw [sto_uniq O (List.pairwise_cons.mp hl).2 (List.pairwise_cons.mp hm).2 h.cons_inv]
theorem strLt_cps (x y : Str) : ltCps x.cps.toList y.cps.toList = strLt x y := (lt_meets x y).symm
theorem rising_pw : ∀ (p : Str) (l : List Str), risingS p l = true → (p :: l).Pairwise fun a b => strLt b a = false
  | p, [], _ => List.pairwise_singleton _ _
  | p, x :: r, h => by
    have h' : (!ltCps x.cps.toList p.cps.toList && risingS x r) = true := h
    obtain ⟨h1, h2⟩ := (Bool.and_eq_true _ _).mp h'
    rw [strLt_cps] at h1
    have h1 : strLt x p = false := by simpa using h1
    have ih := rising_pw x r h2
    refine List.pairwise_cons.mpr ⟨fun b hb => ?_, ih⟩
    rcases List.mem_cons.mp hb with e | hb
    · rw [e]; exact h1
    · exact (sto_str.swo (id : Str → Str)).tr p x b h1 ((List.pairwise_cons.mp ih).1 b hb)
theorem sorted_pw {l : List Str} (h : sortedS l = true) : l.Pairwise fun a b => strLt b a = false := by
  cases l with
  | nil => exact List.Pairwise.nil
  | cons p l => exact rising_pw p l h
theorem sorted_uniq {l m : List Str} (hl : sortedS l = true) (hm : sortedS m = true) (h : l.Perm m) : l = m := sto_uniq sto_str (sorted_pw hl) (sorted_pw hm) h
theorem sorted_strict {l : List Str} (h : sortedS l = true) (nd : l.Nodup) : l.Pairwise fun a b => strLt a b = true := by
  have a := sorted_pw h
  have b : l.Pairwise fun a b => a ≠ b := nd
  refine (a.and b).imp fun {x y} hh => ?_
  cases e : strLt x y with
  | true => rfl
  | false => exact absurd (sto_str.con x y e hh.1) hh.2
/-! ### lists of k names -/
def comb : Nat → List Str → List (List Str)
  | 0, _ => [[]]
  | _ + 1, [] => []
  | k + 1, x :: xs => (comb k xs).map (fun r => x :: r) ++ comb (k + 1) xs
theorem comb_len : ∀ (xs : List Str) (k : Nat), (comb k xs).length ≤ 2 ^ xs.length
  | xs, 0 => by
    have : 1 ≤ 2 ^ xs.length := Nat.one_le_two_pow
    simpa [comb] using this
  | [], k + 1 => by simp [comb]
  | x :: xs, k + 1 => by
    unfold comb
    rw [List.length_append, List.length_map, List.length_cons, Nat.pow_succ]
    have := comb_len xs k
    have := comb_len xs (k + 1)
    omega
theorem comb_mem : ∀ (xs : List Str) (k : Nat) (l : List Str), l ∈ comb k xs ↔ l.Sublist xs ∧ l.length = k
  | xs, 0, l => by
    unfold comb
    rw [List.mem_singleton]
    constructor
    · intro e
      rw [e]
      exact ⟨List.nil_sublist _, rfl⟩
    · intro h
      exact List.length_eq_zero_iff.mp h.2
  | [], k + 1, l => by
    unfold comb
    constructor
    · intro h
      exact nomatch h
    · intro h
      have e := List.sublist_nil.mp h.1
      rw [e] at h
      cases h.2
  | x :: xs, k + 1, l => by
    unfold comb
    rw [List.mem_append, List.mem_map, comb_mem xs (k + 1) l]
    constructor
    · rintro (⟨r, hr, e⟩ | h)
      · have := (comb_mem xs k r).mp hr
        rw [← e]
        exact ⟨this.1.cons_cons x, by rw [List.length_cons, this.2]⟩
      · exact ⟨h.1.cons x, h.2⟩
    · intro h
      rcases List.sublist_cons_iff.mp h.1 with e | ⟨r, e, hr⟩
      · exact .inr ⟨e, h.2⟩
      · refine .inl ⟨r, (comb_mem xs k r).mpr ⟨hr, ?_⟩, e.symm⟩
        have := h.2
        rw [e, List.length_cons] at this
        omega
theorem comb_srt : ∀ (xs : List Str) (k : Nat), (xs.Pairwise fun a b => strLt a b = true) → (comb k xs).Pairwise fun a b => lexS a b = true
  | xs, 0, _ => by
    unfold comb
    exact List.pairwise_singleton _ _
  | [], k + 1, _ => by
    unfold comb
    exact List.Pairwise.nil
  | x :: xs, k + 1, h => by
    unfold comb
    obtain ⟨h1, h2⟩ := List.pairwise_cons.mp h
    refine List.pairwise_append.mpr ⟨?_, comb_srt xs (k + 1) h2, fun a ha b hb => ?_⟩
    · refine List.pairwise_map.mpr ((comb_srt xs k h2).imp fun {a b} h => ?_)
      rw [lexS_cons, if_pos rfl]
      exact h
    · obtain ⟨r, hr, e⟩ := List.mem_map.mp ha
      rw [← e]
      have hb' := (comb_mem xs (k + 1) b).mp hb
      cases b with
      | nil => cases hb'.2
      | cons y b =>
        have hy : y ∈ xs := hb'.1.subset List.mem_cons_self
        have lt := h1 y hy
        rw [lexS_cons, if_neg (fun q => by rw [q, sto_str.irr] at lt; cases lt)]
        exact lt
def allL (xs : List Str) : List (List Str) := (List.range (xs.length + 1)).flatMap fun k => comb k xs
def zz (l : List Str) : Int × List Str := ((l.length : Int), l)
theorem allL_mem {xs l : List Str} : l ∈ allL xs ↔ l.Sublist xs := by
  unfold allL
  rw [List.mem_flatMap]
  constructor
  · rintro ⟨k, _, h⟩
    exact ((comb_mem xs k l).mp h).1
  · intro h
    exact ⟨l.length, List.mem_range.mpr (Nat.lt_succ_of_le h.length_le), (comb_mem xs _ l).mpr ⟨h, rfl⟩⟩
theorem allL_srt {xs : List Str} (h : xs.Pairwise fun a b => strLt a b = true) : (allL xs).Pairwise fun a b => lexN (zz a) (zz b) = true := by
  unfold allL
  refine List.pairwise_flatMap.mpr ⟨fun k _ => ?_, ?_⟩
  · refine List.Pairwise.imp_of_mem (fun {a b} ha hb hab => ?_) (comb_srt xs k h)
    have e : (zz a).1 = (zz b).1 := by
      show (a.length : Int) = b.length
      rw [((comb_mem xs k a).mp ha).2, ((comb_mem xs k b).mp hb).2]
    unfold lexN
    rw [if_pos e]
    exact hab
  · refine List.pairwise_lt_range.imp fun {i j} hij a ha b hb => ?_
    have la := ((comb_mem xs i a).mp ha).2
    have lb := ((comb_mem xs j b).mp hb).2
    have e : (zz a).1 < (zz b).1 := by
      show (a.length : Int) < b.length
      omega
    unfold lexN
    rw [if_neg (by omega)]
    exact decide_eq_true e
theorem allL_nd {xs : List Str} (h : xs.Pairwise fun a b => strLt a b = true) : (allL xs).Nodup := (allL_srt h).imp fun {a b} hab e => by
  rw [e, sto_N.irr] at hab
  cases hab
/-! ### the program's lists -/
theorem s_lo : ∀ (fuel k : Nat) (xs : List Str) (P : List (List Str) → Prop), k < fuel → xs.length ≤ 5 → P (comb k xs) → loW fuel xs (k : Int) P
  | 0, k, xs, P, h, _, _ => absurd h (Nat.not_lt_zero k)
  | fuel + 1, k, xs, P, hk, hl, hP => by
    show w_lists_of_b (loW fuel) xs (k : Int) P
    unfold w_lists_of_b
    refine ⟨fun e => ?_, fun e s hs => ?_⟩
    · have : k = 0 := by
        have := of_decide_eq_true e
        omega
      subst this
      have e : comb 0 xs = [[]] := by unfold comb; rfl
      rw [e] at hP
      exact hP
    · have k0 : k ≠ 0 := by
        have := of_decide_eq_false e
        omega
      obtain ⟨n, rfl⟩ : ∃ n, k = n + 1 := ⟨k - 1, by omega⟩
      subst hs
      have hlen : (enumL xs).length = xs.length := enum_len
      refine for_inv (fun i (s : List (List Str)) => s ++ comb (n + 1) (xs.drop i) = comb (n + 1) xs) _ 0 _ (by simp) (fun j p s nx bk hj I hn => ?_) fun s I => ?_
      · obtain ⟨h1, h2⟩ := enum_at hj
        have hj2 : j < xs.length := (List.getElem?_eq_some_iff.mp h2).1
        have e1 : cutL xs (some (p.1 + 1)) none = xs.drop (j + 1) := by
          have := cut_post ([] : List Str) xs (j + 1) (i := p.1 + 1) (by rw [h1]; simp)
          simpa using this
        have ed : xs.drop (0 + j) = p.2 :: xs.drop (0 + j + 1) := by
          rw [Nat.zero_add, List.drop_eq_getElem_cons hj2]
          have := (List.getElem?_eq_some_iff.mp h2).2
          rw [this]
        rw [e1]
        have e2 : (((n + 1 : Nat) : Int) - 1) = (n : Int) := by omega
        rw [e2]
        refine s_lo fuel n (xs.drop (j + 1)) _ (by omega) (by rw [List.length_drop]; omega) ?_
        have c1 := comb_len (xs.drop (j + 1)) n
        have c2 : 2 ^ (xs.drop (j + 1)).length ≤ 2 ^ 5 := Nat.pow_le_pow_right (by decide) (by rw [List.length_drop]; omega)
        have I' := I
        rw [ed] at I'
        have I2 : s ++ ((comb n (xs.drop (0 + j + 1))).map (fun r => p.2 :: r) ++ comb (n + 1) (xs.drop (0 + j + 1))) = comb (n + 1) xs := I'
        have ls : s.length ≤ 2 ^ 5 := by
          have := congrArg List.length I2
          rw [List.length_append] at this
          have c3 := comb_len xs (n + 1)
          have c4 : 2 ^ xs.length ≤ 2 ^ 5 := Nat.pow_le_pow_right (by decide) hl
          omega
        refine ⟨by omega, comp_map (fun r => p.2 :: r) _ _ (fun r hr R hR => ⟨?_, ?_⟩) ?_⟩
        · have := ((comb_mem _ _ r).mp hr).2
          simp
          have hh : (xs.drop (j+1)).length ≤ 5 := by rw [List.length_drop]; omega
          have := ((comb_mem _ _ r).mp hr).1.length_le
          omega
        · simpa using hR
        · rw [List.nil_append]
          refine ⟨by rw [List.length_map]; omega, fun s' hs' => hn _ ?_⟩
          subst hs'
          rw [List.append_assoc, Nat.zero_add] at *
          exact I2
      · rw [Nat.zero_add, hlen, List.drop_length] at I
        have I' : s ++ [] = comb (n + 1) xs := I
        rw [List.append_nil] at I'
        rw [I']
        exact hP
theorem rng_flat {β : Type} (f : Int → List β) (n : Nat) : (rng 0 n).flatMap f = (List.range n).flatMap fun k : Nat => f (k : Int) := by
  unfold rng
  simp only [Int.zero_add]
  rw [List.flatMap_map]
theorem s_all_lists {xs : List Str} {P : List (List Str) → Prop} (hl : xs.length ≤ 5) (h : P (allL xs)) : w_all_lists xs P := by
  unfold w_all_lists
  refine ⟨by omega, by rw [rng_len]; omega, comp2_map (fun k : Int => comb k.toNat xs) _ _ (fun k hk R hR => ?_) ?_⟩
  · unfold rng at hk
    obtain ⟨i, hi, e⟩ := List.mem_map.mp hk
    have hi := List.mem_range.mp hi
    rw [Int.zero_add] at e
    subst e
    unfold w_lists_of
    refine s_lo 7 i xs _ (by omega) hl ⟨?_, comp_map id _ _ (fun r _ R' hR' => hR') ?_⟩
    · have c1 := comb_len xs i
      have c4 : 2 ^ xs.length ≤ 2 ^ 5 := Nat.pow_le_pow_right (by decide) hl
      omega
    · rw [List.nil_append, List.map_id]
      exact hR
  · rw [List.nil_append, rng_flat]
    have e : ((xs.length : Int) + 1).toNat = xs.length + 1 := by omega
    rw [e]
    exact h
end K89
set_option maxHeartbeats 4000000
/-! k89, the plain law: the law's own lists of names -/
namespace K89
open PySem PySem.Spec PyProof.Rows L2 DW
theorem sto_ltN : Sto ltN := ⟨fun x => sto_N.irr _, fun x y z => sto_N.tr _ _ _, fun x y h1 h2 => by
  have e := sto_N.con _ _ h1 h2
  obtain ⟨i, ⟨l⟩⟩ := x
  obtain ⟨j, ⟨m⟩⟩ := y
  have e1 : i = j := congrArg Prod.fst e
  have e2 : l = m := congrArg Prod.snd e
  rw [e1, e2]⟩
def prT (l : List Str) : Int × Tp Str := ((l.length : Int), ⟨l⟩)
theorem prT_inj {a b : List Str} (h : prT a = prT b) : a = b := by
  have : (prT a).2.l = (prT b).2.l := by rw [h]
  exact this
theorem sub_snoc {l p : List Str} {x : Str} : l.Sublist (p ++ [x]) ↔ l.Sublist p ∨ ∃ r, l = r ++ [x] ∧ r.Sublist p := by
  constructor
  · intro h
    obtain ⟨a, b, e, h1, h2⟩ := List.sublist_append_iff.mp h
    rcases List.sublist_cons_iff.mp h2 with h3 | ⟨r, e2, h3⟩
    · have := List.sublist_nil.mp h3
      rw [e, this, List.append_nil]
      exact .inl h1
    · have := List.sublist_nil.mp h3
      rw [this] at e2
      exact .inr ⟨a, by rw [e, e2], h1⟩
  · rintro (h | ⟨r, e, h⟩)
    · exact h.trans (List.sublist_append_left p [x])
    · rw [e]
      exact h.append (List.Sublist.refl [x])
theorem s__law_lists {z : List Str} {P : List (List Str) → Prop} (hl : z.length ≤ 5) (st : z.Pairwise fun a b => strLt a b = true) (h : P (allL z)) : w__law_lists z P := by
  unfold w__law_lists
  intro s hs
  subst hs
  have nd : z.Nodup := st.imp fun {a b} hab e => by
    rw [e, sto_str.irr] at hab
    cases hab
  refine for_inv (fun i (L : List (List Str)) => i ≤ z.length → L.Nodup ∧ (∀ l, l ∈ L ↔ l.Sublist (z.take i)) ∧ L.length = 2 ^ i) _ 0 _ (fun _ => ⟨by simp, fun l => by simp, rfl⟩) (fun j x L nx bk hj I hn => ?_) fun L I => ?_
  · have hj2 : j < z.length := (List.getElem?_eq_some_iff.mp hj).1
    obtain ⟨n1, m1, l1⟩ := I (by omega)
    rw [Nat.zero_add] at *
    have c4 : 2 ^ j ≤ 2 ^ 5 := Nat.pow_le_pow_right (by decide) (by omega)
    refine ⟨by omega, comp_map (fun l => l ++ [x]) _ _ (fun l hl' R hR => ⟨?_, hR⟩) ?_⟩
    · have := ((m1 l).mp hl').length_le
      rw [List.length_take] at this
      simp
      omega
    · rw [List.nil_append]
      refine ⟨by rw [List.length_map]; omega, fun L' hL' => hn _ fun _ => ?_⟩
      subst hL'
      have et : z.take (j + 1) = z.take j ++ [x] := by
        rw [List.take_add_one, hj]
        rfl
      have nx : x ∉ z.take j := fun hx => by
        have hz : z = z.take j ++ z.drop j := (List.take_append_drop _ _).symm
        rw [List.drop_eq_getElem_cons hj2, (List.getElem?_eq_some_iff.mp hj).2] at hz
        rw [hz] at nd
        exact (List.nodup_append.mp nd).2.2 x hx x List.mem_cons_self rfl
      refine ⟨List.nodup_append.mpr ⟨n1, ?_, fun a ha b hb e => ?_⟩, fun l => ?_, by rw [List.length_append, List.length_map, l1, Nat.pow_succ]; omega⟩
      · refine List.Pairwise.map _ (fun a b hab e => hab ?_) n1
        exact List.append_cancel_right e
      · obtain ⟨r, hr, e2⟩ := List.mem_map.mp hb
        have hx : x ∈ a := by rw [e, ← e2]; simp
        exact nx (((m1 a).mp ha).subset hx)
      · rw [List.mem_append, m1, et, sub_snoc]
        constructor
        · rintro (h | h)
          · exact .inl h
          · obtain ⟨r, hr, e⟩ := List.mem_map.mp h
            exact .inr ⟨r, e.symm, (m1 r).mp hr⟩
        · rintro (h | ⟨r, e, h⟩)
          · exact .inl h
          · exact .inr (List.mem_map.mpr ⟨r, (m1 r).mpr h, e.symm⟩)
  · obtain ⟨n1, m1, l1⟩ := I (by omega)
    rw [Nat.zero_add] at *
    rw [List.take_length] at m1
    have c4 : 2 ^ z.length ≤ 2 ^ 5 := Nat.pow_le_pow_right (by decide) hl
    refine ⟨by omega, comp_map prT _ _ (fun l hl' R hR => hR) ?_⟩
    rw [List.nil_append]
    intro q hq sq
    have pm : L.Perm (allL z) := (List.perm_ext_iff_of_nodup n1 (allL_nd st)).mpr fun l => by rw [m1, allL_mem]
    have e : q = (allL z).map prT := by
      refine sto_uniq sto_ltN sq ?_ (hq.trans (pm.map prT))
      refine List.pairwise_map.mpr ((allL_srt st).imp fun {a b} hab => ?_)
      have hab : ltN (prT a) (prT b) = true := hab
      cases e : ltN (prT b) (prT a) with
      | false => rfl
      | true =>
        have := sto_ltN.tr _ _ _ hab e
        rw [sto_ltN.irr] at this
        cases this
    have lq : q.length ≤ 100000 := by
      rw [hq.length_eq, List.length_map]
      omega
    refine ⟨lq, comp_map (fun p : Int × Tp Str => p.2.l) _ _ (fun p hp R hR => hR) ?_⟩
    rw [List.nil_append, e, List.map_map]
    have e2 : ((fun p : Int × Tp Str => p.2.l) ∘ prT) = id := rfl
    rw [e2, List.map_id]
    exact h
end K89
set_option maxHeartbeats 4000000
/-! k89, the plain law: the functions of groups -/
namespace K89
open PySem PySem.Spec PyProof.Rows L2 DW
/-! ### equal things -/
theorem s_same_I {a b : Int} {P : Bool → Prop} (h : P (decide (a = b))) : w__law_same_I_I a b P := by
  unfold w__law_same_I_I w__law_same_I_I_p1 altW
  exact ⟨fun _ => ⟨fun _ => ⟨fun _ => ⟨fun _ => ⟨fun _ => ⟨fun _ => h, (fun e => nomatch e)⟩, (fun e => nomatch e)⟩, (fun e => nomatch e)⟩, (fun e => nomatch e)⟩, (fun e => nomatch e)⟩, (fun e => nomatch e)⟩
theorem s_same_S {a : Str} {P : Bool → Prop} (h : P true) : w__law_same_S_S a a P := by
  unfold w__law_same_S_S w__law_same_S_S_p1 altW
  refine ⟨fun _ => ⟨fun _ => ⟨fun _ => ⟨fun _ => ⟨fun _ => ⟨fun _ => ⟨fun _ => ?_, (fun e => nomatch e)⟩, (fun e => nomatch e)⟩, (fun e => nomatch e)⟩, (fun e => nomatch e)⟩, (fun e => nomatch e)⟩, (fun e => nomatch e)⟩, (fun e => nomatch e)⟩
  rw [decide_eq_true rfl]
  exact h
theorem rng_mem {n : Nat} {x : Int} (h : x ∈ rng 0 n) : 0 ≤ x ∧ x < n := by
  unfold rng at h
  obtain ⟨i, hi, e⟩ := List.mem_map.mp h
  have := List.mem_range.mp hi
  omega
theorem atI_in {α : Type} {xs : List α} {x : Int} (h : x ∈ rng 0 xs.length) : ∃ y, atI xs x = some y := by
  obtain ⟨h0, h1⟩ := rng_mem h
  have l : x.toNat < xs.length := by omega
  exact ⟨xs[x.toNat], by unfold atI ixN; rw [if_pos h0, if_pos h1]; simp [l]⟩
theorem s_same_LS {a : List Str} {P : Bool → Prop} (hl : a.length ≤ 1000) (h : P true) : w__law_same_LS_LS a a P := by
  unfold w__law_same_LS_LS altW
  refine ⟨fun _ => ⟨fun _ => ⟨fun _ => ⟨fun _ => ⟨fun _ => ⟨by omega, by rw [rng_len]; omega, comp_map (fun _ => true) _ _ (fun x hx R hR => ?_) ?_⟩, fun e => ?_⟩, fun e => ?_⟩, (fun e => nomatch e)⟩, (fun e => nomatch e)⟩, (fun e => nomatch e)⟩
  rotate_right
  · rw [decide_eq_true rfl] at e
    cases e
  · rw [Int.toNat_natCast] at hx
    obtain ⟨y, hy⟩ := atI_in hx
    exact ⟨y, hy, y, hy, s_same_S hR⟩
  · rw [List.nil_append, all_map fun _ _ => rfl]
    exact h
  · rw [decide_eq_true rfl] at e
    cases e
theorem s_same_LI {a : List Int} {P : Bool → Prop} (hl : a.length ≤ 1000) (h : P true) : w__law_same_LI_LI a a P := by
  unfold w__law_same_LI_LI altW
  refine ⟨fun _ => ⟨fun _ => ⟨fun _ => ⟨fun _ => ⟨fun _ => ⟨by omega, by rw [rng_len]; omega, comp_map (fun _ => true) _ _ (fun x hx R hR => ?_) ?_⟩, fun e => ?_⟩, fun e => ?_⟩, (fun e => nomatch e)⟩, (fun e => nomatch e)⟩, (fun e => nomatch e)⟩
  rotate_right
  · rw [decide_eq_true rfl] at e
    cases e
  · rw [Int.toNat_natCast] at hx
    obtain ⟨y, hy⟩ := atI_in hx
    exact ⟨y, hy, y, hy, s_same_I (by rw [decide_eq_true rfl]; exact hR)⟩
  · rw [List.nil_append, all_map fun _ _ => rfl]
    exact h
  · rw [decide_eq_true rfl] at e
    cases e
theorem s_same_D {a b : Dc Str Int} {P : Bool → Prop} (e : a.l = b.l) (hl : a.l.length ≤ 1000) (h : P true) : w__law_same_DSI_DSI a b P := by
  obtain ⟨a⟩ := a
  obtain ⟨b⟩ := b
  have e : a = b := e
  subst e
  unfold w__law_same_DSI_DSI altW
  have lk : (List.map Prod.fst a).length ≤ 1000 := by rw [List.length_map]; exact hl
  have lk' : (List.map Prod.fst a).length ≤ 100000 := Nat.le_trans lk (by decide)
  refine ⟨fun _ => ⟨fun _ => s_same_LS lk ⟨(fun e => nomatch e), fun _ => ⟨lk', comp_map (fun k => g a k) _ _ (fun x hx R hR => ?_) ⟨lk', comp_map (fun k => g a k) _ _ (fun x hx R hR => ?_) ?_⟩⟩⟩, (fun e => nomatch e)⟩, (fun e => nomatch e)⟩
  · obtain ⟨v, hv⟩ := look_mem hx
    rw [g_some hv] at hR
    exact ⟨v, hv, hR⟩
  · obtain ⟨v, hv⟩ := look_mem hx
    rw [g_some hv] at hR
    exact ⟨v, hv, hR⟩
  · rw [List.nil_append]
    exact s_same_LI (by rw [List.length_map]; exact lk) h
theorem s_same_OI {a : Option Int} {P : Bool → Prop} (h : P true) : w__law_same_OI_OI a a P := by
  unfold w__law_same_OI_OI w__law_same_OI_OI_p1 altW
  cases a with
  | none => exact ⟨fun _ => ⟨fun _ => ⟨fun _ => ⟨fun _ => ⟨(fun e => nomatch e), fun _ => ⟨fun _ => ⟨fun _ => h, (fun e => nomatch e)⟩, (fun e => nomatch e)⟩⟩, (fun e => nomatch e)⟩, (fun e => nomatch e)⟩, (fun e => nomatch e)⟩, (fun e => nomatch e)⟩
  | some x =>
    refine ⟨fun _ => ⟨fun _ => ⟨fun _ => ⟨fun _ => ⟨fun _ => ⟨fun _ => ?_, (fun e => nomatch e)⟩, (fun e => nomatch e)⟩, (fun e => nomatch e)⟩, (fun e => nomatch e)⟩, (fun e => nomatch e)⟩, (fun e => nomatch e)⟩
    rw [decide_eq_true rfl]
    exact h
theorem s_same_OL {a : Option (List Str)} {P : Bool → Prop} (hl : ∀ x, a = some x → x.length ≤ 1000) (h : P true) : w__law_same_OLS_OLS a a P := by
  unfold w__law_same_OLS_OLS w__law_same_OLS_OLS_p1 altW
  cases a with
  | none => exact ⟨fun _ => ⟨(fun e => nomatch e), fun _ => ⟨fun _ => ⟨fun _ => ⟨fun _ => ⟨fun _ => ⟨fun _ => h, (fun e => nomatch e)⟩, (fun e => nomatch e)⟩, (fun e => nomatch e)⟩, (fun e => nomatch e)⟩, (fun e => nomatch e)⟩⟩, (fun e => nomatch e)⟩
  | some x =>
    have lx := hl x rfl
    refine ⟨fun _ => ⟨fun _ => ⟨fun _ => ⟨fun e => ?_, fun _ => ⟨x, rfl, x, rfl, fun _ => ⟨x, rfl, by omega, by rw [rng_len]; omega, comp_map (fun _ => true) _ _ (fun i hi R hR => ?_) ?_⟩, fun e => ?_⟩⟩, (fun e => nomatch e)⟩, (fun e => nomatch e)⟩, (fun e => nomatch e)⟩
    · rw [decide_eq_true rfl] at e
      cases e
    · rw [Int.toNat_natCast] at hi
      obtain ⟨y, hy⟩ := atI_in hi
      exact ⟨x, rfl, y, hy, x, rfl, y, hy, s_same_S hR⟩
    · rw [List.nil_append, all_map fun _ _ => rfl]
      exact h
    · rw [decide_eq_true rfl] at e
      cases e
/-! ### names and needs -/
structure Nms (bs : Dc Str Bk) (z : List Str) : Prop where
  perm : z.Perm (keys bs.l)
  srt : sortedS z = true
def needG (bs : List (Str × Bk)) (pr : List (Str × Int)) (ms : List (Dc Str Int)) (gr : List Str) : Int := mxL (ms.map fun m => grpL bs pr gr m.l)
section
variable {ps : List Str} {bs : Dc Str Bk} {ms : List (Dc Str Int)} {pr : Dc Str Int} {gr z : List Str}
theorem nms_nd (W : Wld ps bs ms pr) (N : Nms bs z) : z.Nodup := N.perm.nodup_iff.mpr W.B.nd
theorem nms_mem (N : Nms bs z) {n : Str} : n ∈ z ↔ n ∈ keys bs.l := N.perm.mem_iff
theorem nms_len (W : Wld ps bs ms pr) (N : Nms bs z) : z.length ≤ 5 := by
  rw [N.perm.length_eq]
  exact bs_len W
theorem nms_one (N : Nms bs z) {y : List Str} (h : y.Perm (keys bs.l)) (s : sortedS y = true) : y = z := sorted_uniq s N.srt (h.trans N.perm.symm)
theorem nms_st (W : Wld ps bs ms pr) (N : Nms bs z) : z.Pairwise fun a b => strLt a b = true := sorted_strict N.srt (nms_nd W N)
theorem need_is (W : Wld ps bs ms pr) (gr : List Str) : IsMax (ms.map fun m => grpL bs.l pr.l gr m.l) (needG bs.l pr.l ms gr) := mxL_is (by
  have h := mvs_pos (mvsP W.M)
  intro e
  have h2 := congrArg List.length e
  rw [List.length_map] at h2
  have h3 : ms.length = 0 := h2
  omega)
theorem wt_is (W : Wld ps bs ms pr) {j : Nat} {m : Dc Str Int} (w : Wt bs.l pr.l ms gr j m) : grpL bs.l pr.l gr m.l = needG bs.l pr.l ms gr := wt_need w (need_is W gr)
theorem sub_ok (N : Nms bs z) (hg : gr.Sublist z) : ∀ n ∈ gr, n ∈ keys bs.l := fun n hn => (nms_mem N).mp (hg.subset hn)
theorem sub_len (W : Wld ps bs ms pr) (N : Nms bs z) (hg : gr.Sublist z) : gr.length ≤ 5 := Nat.le_trans hg.length_le (nms_len W N)
theorem s__need {P : Int → Prop} (W : Wld ps bs ms pr) (hg : ∀ n ∈ gr, n ∈ keys bs.l) (hl : gr.length ≤ 100) (h : P (needG bs.l pr.l ms gr)) : w__law_need bs gr ms pr P :=
  s__law_need W hg (by omega) fun r hr => by
    rw [isMax_one hr (need_is W gr)]
    exact h
theorem s_owners {P : Bool → Prop} (mem : ∀ n ∈ gr, memOk n = true) (nd : gr.Nodup) (hl : gr.length ≤ 100) (h : P true) : w_are_owners gr P := by
  unfold w_are_owners w_is_list altW
  refine ⟨fun _ => ⟨by omega, comp_map (fun _ => true) _ _ (fun x hx R hR => s_member (mem x hx) hR) ?_⟩, (fun e => nomatch e)⟩
  rw [List.nil_append, all_map fun _ _ => rfl]
  refine ⟨(fun e => nomatch e), fun _ => ⟨by rw [enum_len]; omega, comp_map (fun _ => false) _ _ (fun p hp R hR => ?_) ?_⟩⟩
  · obtain ⟨i, hi⟩ := List.getElem?_of_mem hp
    obtain ⟨h1, h2⟩ := enum_at hi
    have hi2 : i < gr.length := (List.getElem?_eq_some_iff.mp h2).1
    have nx : p.2 ∉ gr.take i := fun hx => by
      have hz : gr = gr.take i ++ gr.drop i := (List.take_append_drop _ _).symm
      rw [List.drop_eq_getElem_cons hi2, (List.getElem?_eq_some_iff.mp h2).2] at hz
      rw [hz] at nd
      exact (List.nodup_append.mp nd).2.2 _ hx _ List.mem_cons_self rfl
    have ec : cutL gr none (some p.1) = gr.take i := by
      rw [h1, cut_take gr (by omega) (by omega)]
      simp
    rw [ec, decide_eq_false nx]
    exact hR
  · have e : ∀ xs : List (Int × Str), List.any (xs.map fun _ => false) id = false := fun xs => by
      induction xs with
      | nil => rfl
      | cons x xs ih => rw [List.map_cons, List.any_cons, ih]; rfl
    rw [List.nil_append, e]
    exact h
theorem s_group_need {P : Int → Prop} (W : Wld ps bs ms pr) (hg : ∀ n ∈ gr, n ∈ keys bs.l) (nd : gr.Nodup) (hl : gr.length ≤ 100) (h : P (needG bs.l pr.l ms gr)) : w_group_need bs gr ms pr P := by
  unfold w_group_need altW
  refine s_are_books W ⟨(fun e => nomatch e), fun _ => s_owners (fun n hn => six_mem n (W.B.sub n (hg n hn))) nd hl ⟨fun _ => ⟨by omega, comp_map (fun _ => true) _ _ (fun x hx R hR => ?_) ?_⟩, (fun e => nomatch e)⟩⟩
  · obtain ⟨b, hb⟩ := look_mem (hg x hx)
    rw [hb]
    exact hR
  · rw [List.nil_append, all_map fun _ _ => rfl]
    exact ⟨(fun e => nomatch e), fun _ => s_check_world W (s_wt W hg hl fun j m w => by rw [wt_is W w]; exact h)⟩
theorem s_group_need_T {P : Int → Prop} (W : Wld ps bs ms pr) (hg : ∀ n ∈ gr, n ∈ keys bs.l) (nd : gr.Nodup) (hl : gr.length ≤ 100) (h : P (needG bs.l pr.l ms gr)) : w_group_need_DSTDSILTSSII_TpS_TpDSI_DSI bs ⟨gr⟩ ⟨ms⟩ pr P := by
  have k : w_group_need bs gr ms pr P := s_group_need W hg nd hl h
  exact k
end
end K89
set_option maxHeartbeats 4000000
/-! k89, the plain law: shares, objections, what is saved, the common move -/
namespace K89
open PySem PySem.Spec PyProof.Rows L2 DW
theorem for_find {α β : Type} (e : α → β) (q : α → Bool) {B : α → Unit → (Unit → Prop) → (Unit → Prop) → Prop} {P : Option β → Prop} {k : Unit → Prop} (hk : P none → k ()) : ∀ xs : List α, (∀ x ∈ xs, ∀ nx bk : Unit → Prop, (q x = true → P (some (e x))) → (q x = false → nx ()) → B x () nx bk) → P ((xs.find? q).map e) → forW B k xs ()
  | [], _, h => hk h
  | x :: xs, hB, h => hB x List.mem_cons_self _ _ (fun hq => by
      rw [List.find?_cons_of_pos hq] at h
      exact h) fun hq => for_find e q hk xs (fun y hy => hB y (List.mem_cons_of_mem _ hy)) (by
      rw [List.find?_cons_of_neg (by rw [hq]; exact Bool.false_ne_true)] at h
      exact h)
def sh (V : List (Str × Int)) (gr : List Str) : Int := (gr.map fun n => g V n).sum
section
variable {ps : List Str} {bs : Dc Str Bk} {ms : List (Dc Str Int)} {pr : Dc Str Int} {gr z : List Str}
theorem own_keys {α : Type} (f : Str → α) (z : List Str) : keys (z.map fun n => (n, f n)) = z := by
  simp [Function.comp_def]
theorem own_snd {α : Type} (f : Str → α) (z : List Str) : (z.map fun n => (n, f n)).map Prod.snd = z.map f := by
  simp [Function.comp_def]
theorem s_sharing {P : List (Str × Int) → Prop} (W : Wld ps bs ms pr) (N : Nms bs z) (h : ∀ j m, Wt bs.l pr.l ms z j m → P (z.map fun n => (n, lN bs.l pr.l n m.l))) : w_sharing bs ms pr P := by
  unfold w_sharing
  refine s_check_world W ⟨by have := W.B.hi; omega, fun y hy sy z' hz' => ?_⟩
  have e := nms_one N hy sy
  subst e hz'
  have lz := nms_len W N
  refine s_wt W (fun n hn => (nms_mem N).mp hn) (by omega) fun j m w i hi => ⟨by omega, ?_⟩
  subst hi
  refine comp_map (fun n => (n, lN bs.l pr.l n m.l)) _ _ (fun n hn R hR => ?_) ?_
  · obtain ⟨b, hb, B⟩ := W_bk W ((nms_mem N).mp hn)
    refine ⟨b, hb, m, atI_nat w.at', s_loss_of W B (List.mem_of_getElem? w.at') ?_⟩
    rw [← lN_some hb]
    exact hR
  · rw [List.nil_append, puts_own (by rw [own_keys]; exact nms_nd W N)]
    exact h j m w
theorem s_own_needs {P : Dc Str Int → Prop} (W : Wld ps bs ms pr) (N : Nms bs z) (h : P ⟨z.map fun n => (n, needG bs.l pr.l ms [n])⟩) : w_own_needs bs ms pr P := by
  unfold w_own_needs
  refine ⟨by have := W.B.hi; omega, fun y hy sy => ?_⟩
  have e := nms_one N hy sy
  subst e
  have lz := nms_len W N
  refine ⟨by omega, comp_map (fun n => (n, needG bs.l pr.l ms [n])) _ _ (fun n hn R hR => ?_) ?_⟩
  · refine s_wt W (fun k hk => by rw [List.mem_singleton.mp hk]; exact (nms_mem N).mp hn) (by simp) fun j m w => ?_
    rw [wt_is W w]
    exact hR
  · rw [List.nil_append, puts_own (by rw [own_keys]; exact nms_nd W N)]
    exact h
theorem s_saved {P : Int → Prop} (W : Wld ps bs ms pr) (N : Nms bs z) (h : P ((z.map fun n => needG bs.l pr.l ms [n]).sum - needG bs.l pr.l ms z)) : w_saved bs ms pr P := by
  unfold w_saved
  refine s_check_world W (s_own_needs W N fun q hq => ⟨by have := W.B.hi; omega, fun y hy sy => ?_⟩)
  subst hq
  have e := nms_one N hy sy
  subst e
  have lz := nms_len W N
  refine s_wt W (fun n hn => (nms_mem N).mp hn) (by omega) fun j m w => ?_
  rw [wt_is W w]
  show P ((List.map Prod.snd (y.map fun n => (n, needG bs.l pr.l ms [n]))).sum - _)
  rw [own_snd]
  exact h
def cm (bs : List (Str × Bk)) (pr : List (Str × Int)) (ms : List (Dc Str Int)) (z : List Str) (m : Dc Str Int) : Bool := (z.map fun n => decide (lN bs pr n m.l = needG bs pr ms [n])).all id
theorem s_common_move {P : Option Int → Prop} (W : Wld ps bs ms pr) (N : Nms bs z) (h : P (((enumL ms).find? fun p => cm bs.l pr.l ms z p.2).map Prod.fst)) : w_common_move bs ms pr P := by
  unfold w_common_move
  refine s_check_world W (s_own_needs W N fun q hq => ?_)
  subst hq
  have lz := nms_len W N
  refine for_find Prod.fst (fun p => cm bs.l pr.l ms z p.2) (fun h => h) _ (fun p hp nx bk h1 h2 => ?_) h
  have kk : (List.map Prod.fst (z.map fun n => (n, needG bs.l pr.l ms [n]))) = z := own_keys _ z
  show (List.map Prod.fst (z.map fun n => (n, needG bs.l pr.l ms [n]))).length ≤ 100000 ∧ compW _ _ (List.map Prod.fst (z.map fun n => (n, needG bs.l pr.l ms [n]))) []
  rw [kk]
  have pm : p.2 ∈ ms := by
    obtain ⟨i, hi⟩ := List.getElem?_of_mem hp
    exact List.mem_of_getElem? (enum_at hi).2
  refine ⟨by omega, comp_map (fun n => decide (lN bs.l pr.l n p.2.l = needG bs.l pr.l ms [n])) _ _ (fun n hn R hR => ?_) ⟨fun e => h1 e, fun e => h2 e⟩⟩
  obtain ⟨b, hb, B⟩ := W_bk W ((nms_mem N).mp hn)
  refine ⟨b, hb, s_loss_of W B pm ⟨_, look_own _ hn, ?_⟩⟩
  rw [← lN_some hb]
  exact hR
/-! ### shares -/
structure Shr (z : List Str) (V : List (Str × Int)) : Prop where
  perm : (keys V).Perm z
theorem s_are_shares {V : Dc Str Int} {P : Bool → Prop} (W : Wld ps bs ms pr) (N : Nms bs z) (S : Shr z V.l) (h : P (decide ((V.l.map Prod.snd).sum = needG bs.l pr.l ms z))) : w_are_shares bs ms pr V P := by
  unfold w_are_shares altW
  have lz := nms_len W N
  have lk : (keys V.l).length ≤ 5 := by rw [S.perm.length_eq]; exact lz
  have lv : V.l.length ≤ 5 := by rw [List.length_map] at lk; exact lk
  have memk : ∀ n ∈ keys V.l, n ∈ six := fun n hn => W.B.sub n ((nms_mem N).mp (S.perm.mem_iff.mp hn))
  refine ⟨fun _ => ⟨Nat.le_trans lk (by decide), comp_map (fun _ => true) _ _ (fun x hx R hR => s_member (six_mem x (memk x hx)) hR) ?_⟩, (fun e => nomatch e)⟩
  rw [List.nil_append, all_map fun _ _ => rfl]
  refine ⟨(fun e => nomatch e), fun _ => ⟨by omega, fun y1 hy1 sy1 => ⟨by have := W.B.hi; omega, fun y2 hy2 sy2 => ?_⟩⟩⟩
  have e2 := nms_one N hy2 sy2
  have e1 : y1 = z := sorted_uniq sy1 N.srt (hy1.trans S.perm)
  subst e1 e2
  have ok : ∀ s ∈ y2, PyData.strOk s = true := fun s hs => six_ok s (W.B.sub s ((nms_mem N).mp hs))
  refine ⟨⟨ok, ok⟩, fun _ => ⟨by rw [List.length_map]; omega, comp_map (fun _ => true) _ _ (fun x hx R hR => s_is_integer hR) ?_⟩, fun e => ?_⟩
  · rw [List.nil_append, all_map fun _ _ => rfl]
    refine ⟨(fun e => nomatch e), fun _ => ⟨by have := W.B.hi; omega, fun y3 hy3 sy3 => ?_⟩⟩
    have e3 := nms_one N hy3 sy3
    subst e3
    refine s_wt W (fun n hn => (nms_mem N).mp hn) (by omega) fun j m w => ?_
    rw [wt_is W w]
    exact h
  · rw [decide_eq_true rfl] at e
    cases e
def obj (bs : List (Str × Bk)) (pr : List (Str × Int)) (ms : List (Dc Str Int)) (z : List Str) (V : List (Str × Int)) : Option (List Str) := (allL z).find? fun gr => decide (needG bs pr ms gr < sh V gr)
theorem shr_look {V : List (Str × Int)} (S : Shr z V) {n : Str} (hn : n ∈ z) : ∃ v, look V n = some v ∧ g V n = v := by
  obtain ⟨v, hv⟩ := look_mem (S.perm.mem_iff.mpr hn)
  exact ⟨v, hv, g_some hv⟩
theorem s_objecting {V : Dc Str Int} {P : Option (List Str) → Prop} (W : Wld ps bs ms pr) (N : Nms bs z) (S : Shr z V.l) (sm : (V.l.map Prod.snd).sum = needG bs.l pr.l ms z) (h : P (obj bs.l pr.l ms z V.l)) : w_objecting bs ms pr V P := by
  unfold w_objecting w_objecting_p
  refine s_check_world W (s_are_shares W N S ?_)
  rw [decide_eq_true sm]
  refine ⟨(fun e => nomatch e), fun _ => ⟨by have := W.B.hi; omega, fun y hy sy => ?_⟩⟩
  have e := nms_one N hy sy
  subst e
  refine s_all_lists (nms_len W N) (for_find id (fun gr => decide (needG bs.l pr.l ms gr < sh V.l gr)) (fun h => h) _ (fun gr hgr nx bk h1 h2 => ?_) (by rw [Option.map_id]; exact h))
  have sg := allL_mem.mp hgr
  have lg := sub_len W N sg
  refine ⟨by omega, comp_map (fun n => g V.l n) _ _ (fun n hn R hR => ?_) ?_⟩
  · obtain ⟨v, hv, e⟩ := shr_look S (sg.subset hn)
    rw [e] at hR
    exact ⟨v, hv, hR⟩
  · rw [List.nil_append]
    refine s_wt W (sub_ok N sg) (by omega) fun j m w => ?_
    rw [wt_is W w]
    exact ⟨h1, h2⟩
theorem s__objecting {V : Dc Str Int} {P : Option (List Str) → Prop} (W : Wld ps bs ms pr) (N : Nms bs z) (S : Shr z V.l) (h : P (obj bs.l pr.l ms z V.l)) : w__law_objecting bs ms pr V P := by
  unfold w__law_objecting
  refine ⟨by have := W.B.hi; omega, fun y hy sy => ?_⟩
  have e := nms_one N hy sy
  subst e
  refine s__law_lists (nms_len W N) (nms_st W N) (for_find id (fun gr => decide (needG bs.l pr.l ms gr < sh V.l gr)) (fun h => h) _ (fun gr hgr nx bk h1 h2 => ?_) (by rw [Option.map_id]; exact h))
  have sg := allL_mem.mp hgr
  have lg := sub_len W N sg
  refine ⟨by omega, comp_map (fun n => g V.l n) _ _ (fun n hn R hR => ?_) ?_⟩
  · obtain ⟨v, hv, e⟩ := shr_look S (sg.subset hn)
    rw [e] at hR
    exact ⟨v, hv, hR⟩
  · rw [List.nil_append]
    exact s__need W (sub_ok N sg) (by omega) ⟨h1, h2⟩
theorem obj_len (W : Wld ps bs ms pr) (N : Nms bs z) {V : List (Str × Int)} : ∀ x, obj bs.l pr.l ms z V = some x → x.length ≤ 1000 := fun x hx => by
  have := sub_len W N (allL_mem.mp (List.mem_of_find?_eq_some hx))
  omega
end
end K89
set_option maxHeartbeats 4000000
/-! k89, the plain law: what repr may show -/
namespace K89
open PySem PySem.Spec PyProof.Rows L2 DW
structure Sm (w d : Nat) (x : PyData) : Prop where
  s : x.showable = true
  l : x.leavesShort 13 = true
  w : x.weight ≤ w
  d : x.depth ≤ d
theorem sm_int {i : Int} (h : -1000000 ≤ i ∧ i ≤ 1000000) : Sm 20 0 (.int i) := by
  have a : i.natAbs < 2 ^ 20 := by omega
  have lg : i.natAbs = 0 ∨ i.natAbs.log2 < 20 := by
    by_cases z : i.natAbs = 0
    · exact .inl z
    · exact .inr ((Nat.log2_lt z).mpr a)
  refine ⟨?_, ?_, ?_, ?_⟩
  · show decide (i.natAbs.log2 < 1920) = true
    rcases lg with e | e
    · rw [e]; decide
    · exact decide_eq_true (by omega)
  · show decide (_ ≤ 13) = true
    exact decide_eq_true (PyData.shown_int_le (by omega))
  · show (if i == 0 then 0 else i.natAbs.log2 + 1) ≤ 20
    split
    · omega
    · rename_i h0
      rcases lg with e | e
      · have : i = 0 := Int.natAbs_eq_zero.mp e
        subst this
        simp at h0
      · omega
  · exact Nat.le_refl _
theorem sm_str {x : Str} (h1 : x.cps.size ≤ 8) (h2 : (x.cps.toList.all fun c => decide (c < 16 ^ 8)) = true) : Sm 8 0 (.str x) := ⟨rfl, h2, h1, Nat.le_refl _⟩
theorem sm_all {w d : Nat} : ∀ (xs : List PyData), (∀ x ∈ xs, Sm w d x) → PyData.showableAll xs = true ∧ PyData.leavesShortAll 13 xs = true ∧ PyData.weightAll xs ≤ xs.length * (w + 1) ∧ PyData.depthAll xs ≤ d
  | [], _ => ⟨rfl, rfl, by simp [PyData.weightAll], Nat.zero_le _⟩
  | x :: xs, h => by
    obtain ⟨a, b, c, e⟩ := sm_all xs fun y hy => h y (List.mem_cons_of_mem _ hy)
    have k := h x List.mem_cons_self
    refine ⟨?_, ?_, ?_, ?_⟩
    · show (x.showable && PyData.showableAll xs) = true
      rw [k.s, a]; rfl
    · show (x.leavesShort 13 && PyData.leavesShortAll 13 xs) = true
      rw [k.l, b]; rfl
    · show x.weight + 1 + PyData.weightAll xs ≤ _
      have := k.w
      rw [List.length_cons, Nat.succ_mul]
      omega
    · show max x.depth (PyData.depthAll xs) ≤ d
      have := k.d
      omega
theorem sm_list {w d n : Nat} {xs : List PyData} (h : ∀ x ∈ xs, Sm w d x) (hl : xs.length ≤ n) : Sm (n * (w + 1)) (d + 1) (.list xs) := by
  obtain ⟨a, b, c, e⟩ := sm_all xs h
  exact ⟨a, b, Nat.le_trans c (Nat.mul_le_mul_right _ hl), by show PyData.depthAll xs + 1 ≤ d + 1; omega⟩
theorem sm_tup {w d n : Nat} {xs : List PyData} (h : ∀ x ∈ xs, Sm w d x) (hl : xs.length ≤ n) : Sm (n * (w + 1)) (d + 1) (.tuple xs) := by
  obtain ⟨a, b, c, e⟩ := sm_all xs h
  exact ⟨a, b, Nat.le_trans c (Nat.mul_le_mul_right _ hl), by show PyData.depthAll xs + 1 ≤ d + 1; omega⟩
theorem sm_kv {w d : Nat} : ∀ (kvs : List (PyData × PyData)), (∀ p ∈ kvs, Sm 8 0 p.1 ∧ Sm w d p.2) → PyData.showableKv kvs = true ∧ PyData.leavesShortKv 13 kvs = true ∧ PyData.weightKv kvs ≤ kvs.length * (w + 10) ∧ PyData.depthKv kvs ≤ d
  | [], _ => ⟨rfl, rfl, by simp [PyData.weightKv], Nat.zero_le _⟩
  | (x, y) :: xs, h => by
    obtain ⟨a, b, c, e⟩ := sm_kv xs fun y hy => h y (List.mem_cons_of_mem _ hy)
    obtain ⟨k, k2⟩ := h (x, y) List.mem_cons_self
    refine ⟨?_, ?_, ?_, ?_⟩
    · show (x.showable && y.showable && PyData.showableKv xs) = true
      rw [k.s, k2.s, a]; rfl
    · show (x.leavesShort 13 && y.leavesShort 13 && PyData.leavesShortKv 13 xs) = true
      rw [k.l, k2.l, b]; rfl
    · show x.weight + y.weight + 2 + PyData.weightKv xs ≤ _
      have h1 : x.weight ≤ 8 := k.w
      have h2 : y.weight ≤ w := k2.w
      rw [List.length_cons, Nat.succ_mul]
      omega
    · show max (max x.depth y.depth) (PyData.depthKv xs) ≤ d
      have h1 : x.depth ≤ 0 := k.d
      have h2 : y.depth ≤ d := k2.d
      omega
theorem sm_dict {w d n : Nat} {kvs : List (PyData × PyData)} (h : ∀ p ∈ kvs, Sm 8 0 p.1 ∧ Sm w d p.2) (hl : kvs.length ≤ n) : Sm (n * (w + 10)) (d + 1) (.dict kvs) := by
  obtain ⟨a, b, c, e⟩ := sm_kv kvs h
  exact ⟨a, b, Nat.le_trans c (Nat.mul_le_mul_right _ hl), by show PyData.depthKv kvs + 1 ≤ d + 1; omega⟩
theorem sm_ok {α : Type} [PyS α] {x : α} {w d : Nat} (h : Sm w d (PyS.py x)) (hw : w ≤ 6000) (hd : d ≤ 30) : showOk x := by
  refine ⟨h.s, ?_, Nat.le_trans h.d hd⟩
  have := PyData.shown_le 13 (by decide) (PyS.py x) h.l
  have := h.w
  omega
def words : List Str := [("ann" : Str), ("bob" : Str), ("cid" : Str), ("dee" : Str), ("eve" : Str), ("a" : Str), ("oil" : Str), ("tin" : Str), ("buy" : Str), ("sell" : Str)]
theorem words_ok : ∀ x ∈ words, decide (x.cps.size ≤ 8) = true ∧ (x.cps.toList.all fun c => decide (c < 16 ^ 8)) = true := by decide +kernel
theorem sm_word {x : Str} (h : x ∈ words) : Sm 8 0 (.str x) := sm_str (of_decide_eq_true (words_ok x h).1) (words_ok x h).2
theorem sm_D {d : Dc Str Int} {n : Nat} (nd : (keys d.l).Nodup) (k : ∀ x ∈ keys d.l, x ∈ words) (b : Bd 1000000 d.l) (hl : d.l.length ≤ n) : Sm (n * (20 + 10)) 1 (PyS.py d) := by
  refine sm_dict (kvs := d.l.map fun p => (.str p.1, PyS.py p.2)) (fun q hq => ?_) (by rw [List.length_map]; exact hl)
  obtain ⟨p, hp, e⟩ := List.mem_map.mp hq
  rw [← e]
  exact ⟨sm_word (k _ (List.mem_map_of_mem hp)), sm_int (b _ _ (look_val nd p hp))⟩
theorem in2_words {d : List (Str × Int)} (I : I2 d) : ∀ x ∈ keys d, x ∈ words := fun x hx => by
  rcases I.sub x hx with e | e <;> rw [e] <;> simp [words]
theorem bd_up {a b : Int} {d : List (Str × Int)} (h : Bd a d) (hab : a ≤ b) : Bd b d := fun k w hk => by
  have := h k w hk
  omega
section
variable {ps : List Str} {bs : Dc Str Bk} {ms : List (Dc Str Int)} {pr : Dc Str Int} {z : List Str}
theorem sm_I2 {d : Dc Str Int} {b : Int} (I : I2 d.l) (B : Bd b d.l) (hb : b ≤ 1000000) : Sm 60 1 (PyS.py d) := sm_D (n := 2) I.nd (in2_words I) (bd_up B hb) (in2_len I)
theorem sm_ord {o : T4 Str Str Int Int} (pp : Pac ps) (O : OkO o ∧ o.d ≤ 5 ∧ o.b ∈ ps) : Sm 84 1 (PyS.py o) := by
  refine sm_tup (n := 4) (w := 20) (d := 0) (fun x hx => ?_) (Nat.le_refl 4)
  have up : ∀ {x : PyData}, Sm 8 0 x → Sm 20 0 x := fun h => ⟨h.s, h.l, Nat.le_trans h.w (by decide), h.d⟩
  have hx' : x = PyS.py o.a ∨ x = PyS.py o.b ∨ x = PyS.py o.c ∨ x = PyS.py o.d := by simpa using hx
  have hx : x = .str o.a ∨ x = .str o.b ∨ x = .int o.c ∨ x = .int o.d := hx'
  have a := O.1.lo
  have b := O.1.hi
  have c := O.1.pos
  have e := O.2.1
  rcases hx with h | h | h | h <;> rw [h]
  · refine up (sm_word ?_)
    rcases O.1.side with e | e <;> rw [e] <;> simp [words]
  · refine up (sm_word ?_)
    rcases pac_mem pp O.2.2 with e | e <;> rw [e] <;> simp [words]
  · exact sm_int (by omega)
  · exact sm_int (by omega)
theorem sm_bk {b : Bk} (pp : Pac ps) (B : BkP ps b) : Sm 512 3 (PyS.py b) := by
  refine sm_tup (n := 2) (w := 255) (d := 2) (fun x hx => ?_) (Nat.le_refl 2)
  have hx : x = PyS.py b.1 ∨ x = PyS.py b.2 := by simpa using hx
  rcases hx with h | h <;> rw [h]
  · have := sm_I2 B.I B.bd (by decide)
    exact ⟨this.s, this.l, Nat.le_trans this.w (by decide), Nat.le_trans this.d (by decide)⟩
  · refine sm_list (n := 3) (w := 84) (d := 1) (xs := b.2.map PyS.py) (fun x hx => ?_) (by rw [List.length_map]; exact B.O.few)
    obtain ⟨o, ho, e⟩ := List.mem_map.mp hx
    rw [← e]
    exact sm_ord pp (bk_O B o ho)
theorem sm_bks (W : Wld ps bs ms pr) : Sm 2610 4 (PyS.py bs) := by
  refine sm_dict (n := 5) (w := 512) (d := 3) (kvs := bs.l.map fun p => (.str p.1, PyS.py p.2)) (fun q hq => ?_) (by rw [List.length_map]; exact W.B.hi)
  obtain ⟨p, hp, e⟩ := List.mem_map.mp hq
  rw [← e]
  refine ⟨sm_word ?_, sm_bk W.pp (W.B.bk _ _ (look_val W.B.nd p hp))⟩
  have h6 := W.B.sub _ (List.mem_map_of_mem hp)
  have s6 : ∀ x ∈ six, x ∈ words := by decide +kernel
  exact s6 _ h6
theorem prc_bd (W : Wld ps bs ms pr) : Bd 99 pr.l := fun k w hk => by
  have := W.R.lo k w hk
  omega
theorem show_all (W : Wld ps bs ms pr) : showOk (L3.mk bs ms pr) := by
  have k1 := sm_bks W
  have k2 : Sm 305 2 (PyS.py ms) := by
    refine sm_list (n := 5) (w := 60) (d := 1) (xs := ms.map PyS.py) (fun x hx => ?_) (by rw [List.length_map]; exact W.M.few)
    obtain ⟨m, hm, e⟩ := List.mem_map.mp hx
    rw [← e]
    exact sm_I2 (W.M.I m hm) (W.M.lo m hm) (by decide)
  have k3 := sm_I2 W.R.I (prc_bd W) (by decide)
  have k : Sm 3000 5 (PyS.py (L3.mk bs ms pr)) := by
    refine ⟨?_, ?_, ?_, ?_⟩
    · show ((PyS.py bs).showable && ((PyS.py ms).showable && ((PyS.py pr).showable && true))) = true
      rw [k1.s, k2.s, k3.s]; rfl
    · show ((PyS.py bs).leavesShort 13 && ((PyS.py ms).leavesShort 13 && ((PyS.py pr).leavesShort 13 && true))) = true
      rw [k1.l, k2.l, k3.l]; rfl
    · show (PyS.py bs).weight + 1 + ((PyS.py ms).weight + 1 + ((PyS.py pr).weight + 1 + 0)) ≤ 3000
      have := k1.w
      have := k2.w
      have := k3.w
      omega
    · show max (PyS.py bs).depth (max (PyS.py ms).depth (max (PyS.py pr).depth 0)) + 1 ≤ 5
      have := k1.d
      have := k2.d
      have := k3.d
      omega
  exact sm_ok k (by decide) (by decide)
theorem show_V {V : Dc Str Int} (W : Wld ps bs ms pr) (N : Nms bs z) (S : Shr z V.l) (b : Bd 1000000 V.l) : showOk V := by
  have lz := nms_len W N
  have lk : (keys V.l).length ≤ 5 := by rw [S.perm.length_eq]; exact lz
  have s6 : ∀ x ∈ six, x ∈ words := by decide +kernel
  exact sm_ok (sm_D (n := 5) (S.perm.nodup_iff.mpr (nms_nd W N)) (fun x hx => s6 x (W.B.sub x ((nms_mem N).mp (S.perm.mem_iff.mp hx)))) b (by rw [List.length_map] at lk; exact lk)) (by decide) (by decide)
end
end K89
set_option maxHeartbeats 4000000
/-! k89, the plain law: other shares -/
namespace K89
open PySem PySem.Spec PyProof.Rows L2 DW
theorem put_keys {k : Str} {v : Int} : ∀ {d : List (Str × Int)}, k ∈ keys d → keys (put d k v) = keys d
  | p :: d, h => by
    unfold put
    split
    · rename_i e
      show k :: keys d = p.1 :: keys d
      rw [e]
    · rename_i e
      show p.1 :: keys (put d k v) = p.1 :: keys d
      rcases List.mem_cons.mp h with e2 | h
      · exact absurd e2.symm e
      · rw [put_keys h]
theorem put_sum {k : Str} {v w : Int} : ∀ {d : List (Str × Int)}, look d k = some w → ((put d k v).map Prod.snd).sum = (d.map Prod.snd).sum - w + v
  | p :: d, h => by
    unfold look at h
    unfold put
    split
    · rename_i e
      rw [if_pos e] at h
      injection h with h
      rw [List.map_cons, List.sum_cons, List.map_cons, List.sum_cons, h]
      show v + _ = _
      omega
    · rename_i e
      rw [if_neg e] at h
      rw [List.map_cons, List.sum_cons, put_sum h, List.map_cons, List.sum_cons]
      omega
section
variable {ps : List Str} {bs : Dc Str Bk} {ms : List (Dc Str Int)} {pr : Dc Str Int} {z : List Str}
theorem s_pick_name {z : List Str} {P : Str → Prop} (h1 : 1 ≤ z.length) (h2 : z.length ≤ 5) (h : ∀ x ∈ z, P x) : w__law_pick (z.length : Int) (fun y => ∃ x, atI z y = some x ∧ P x) := by
  refine ⟨by omega, fun y y0 y1 => ?_⟩
  have l : y.toNat < z.length := by omega
  exact ⟨z[y.toNat], by unfold atI ixN; rw [if_pos y0, if_pos y1]; simp [l], h _ (List.getElem_mem l)⟩
theorem s__shares_right {V : Dc Str Int} {P : Bool → Prop} (W : Wld ps bs ms pr) (N : Nms bs z) (S : Shr z V.l) (sm : (V.l.map Prod.snd).sum = needG bs.l pr.l ms z) (no : obj bs.l pr.l ms z V.l = none) (bd : Bd 100000 V.l) (h : P true) : w__law_shares_right bs ms pr V P := by
  unfold w__law_shares_right
  refine s_objecting W N S sm ?_
  rw [no]
  refine ⟨(fun e => nomatch e), fun _ => ⟨by have := W.B.hi; omega, fun y hy sy z' hz' => ⟨by decide, ?_⟩⟩⟩
  have e := nms_one N hy sy
  subst e hz'
  have lz := nms_len W N
  have lz1 : 1 ≤ z'.length := by
    rw [N.perm.length_eq, List.length_map]
    exact W.B.lo
  refine for_unit _ (fun x _ nx bk hn o ho => ⟨by decide, fun q q0 q1 => ⟨by omega, ?_⟩⟩) h
  subst ho
  refine for_inv (fun i (s : List (Str × Int)) => keys s = keys V.l ∧ (s.map Prod.snd).sum = (V.l.map Prod.snd).sum ∧ Bd (100000 + 24 * (i : Int)) s) _ 0 _ ⟨rfl, rfl, bd_up bd (by omega)⟩ (fun j x s nx2 bk hj I hn2 => ?_) fun s I => ?_
  · have mk : ∀ n ∈ z', n ∈ keys s := fun n hn => by
      rw [I.1]
      exact S.perm.mem_iff.mpr hn
    have ls : s.length ≤ 5 := by
      have := congrArg List.length I.1
      rw [List.length_map] at this
      rw [this, S.perm.length_eq]
      exact lz
    refine s_pick_name lz1 lz fun one h1 one' e1 => ?_
    subst e1
    refine s_pick_name lz1 lz fun two h2 two' e2 => ⟨by decide, fun a a0 a1 am ha => ?_⟩
    subst e2 ha
    obtain ⟨v1, hv1⟩ := look_mem (mk _ h1)
    have k1 : keys (put s one' (v1 - (1 + a))) = keys s := put_keys (mk _ h1)
    obtain ⟨v2, hv2⟩ := look_mem (d := put s one' (v1 - (1 + a))) (k := two') (by rw [k1]; exact mk _ h2)
    have k2 : keys (put (put s one' (v1 - (1 + a))) two' (v2 + (1 + a))) = keys s := (put_keys (by rw [k1]; exact mk _ h2)).trans k1
    have b1 := I.2.2 _ _ hv1
    have B1 : Bd (100000 + 24 * (j : Int) + 12) (put s one' (v1 - (1 + a))) := bd_put (bd_up (by have := I.2.2; rw [Nat.zero_add] at this; exact this) (by omega)) (by rw [Nat.zero_add] at b1; omega)
    have b2 := B1 _ _ hv2
    have l1 : (put s one' (v1 - (1 + a))).length ≤ 6 := by
      have := put_len one' (v1 - (1 + a)) s
      omega
    refine ⟨v1, hv1, by omega, fun s1 hs1 => ?_⟩
    subst hs1
    refine ⟨v2, hv2, by omega, fun s2 hs2 => ?_⟩
    subst hs2
    refine hn2 _ ⟨k2.trans I.1, ?_, ?_⟩
    · rw [put_sum hv2, put_sum hv1, I.2.1]
      omega
    · refine bd_put (bd_up B1 (by omega)) (by omega)
  · have lr : (rng 0 (Int.toNat (1 + q))).length ≤ 2 := by rw [rng_len]; omega
    have S' : Shr z' (Dc.mk s).l := ⟨by show (keys s).Perm z'; rw [I.1]; exact S.perm⟩
    have sm' : (((Dc.mk s).l).map Prod.snd).sum = needG bs.l pr.l ms z' := by show (s.map Prod.snd).sum = _; rw [I.2.1, sm]
    have ok : showOk (Dc.mk s) := show_V W N S' (bd_up I.2.2 (by omega))
    refine ⟨ok, fun kept hk => s__objecting W N S' fun due hd => s_objecting W N S' sm' ?_⟩
    subst hk hd
    have ol := obj_len W N (V := (Dc.mk s).l)
    unfold altW joinW
    refine s_same_OL ol ⟨fun _ => ⟨ok, ?_⟩, (fun e => nomatch e)⟩
    refine ⟨fun e => ?_, fun _ => ⟨fun e => ?_, fun _ => hn⟩⟩
    · rw [decide_eq_true rfl] at e
      cases e
    · cases e3 : obj bs.l pr.l ms z' (Dc.mk s).l with
      | none =>
        rw [e3] at e
        cases e
      | some x =>
        refine ⟨x, rfl, by have := ol x e3; omega, fun t ht => s_objecting W N S' sm' ?_⟩
        rw [e3]
        exact s_same_OL (fun y hy => ol y (e3.trans hy)) ⟨(fun e => nomatch e), fun _ => hn⟩
end
end K89
set_option maxHeartbeats 4000000
/-! k89, the plain law: what is saved and the common moves; the law's last parts -/
namespace K89
open PySem PySem.Spec PyProof.Rows L2 DW
abbrev PO (o : Option Bool) : Prop := o = none ∨ o = some true
theorem all_dec {α : Type} (f q : α → Int) : ∀ z : List α, decide (z.map f = z.map q) = (z.map fun n => decide (f n = q n)).all id
  | [] => rfl
  | x :: z => by
    rw [List.map_cons, List.map_cons, List.map_cons, List.all_cons, ← all_dec f q z]
    by_cases a : f x = q x
    · rw [a, decide_eq_true (p := q x = q x) rfl]
      by_cases b : z.map f = z.map q
      · rw [b]
        simp
      · rw [decide_eq_false b, decide_eq_false fun e => b (List.cons.inj e).2]
        rfl
    · rw [decide_eq_false a, decide_eq_false fun e => a (List.cons.inj e).1]
      rfl
theorem sum_le {α : Type} (f q : α → Int) : ∀ z : List α, (∀ n ∈ z, f n ≤ q n) → (z.map f).sum ≤ (z.map q).sum
  | [], _ => Int.le_refl _
  | x :: z, h => by
    have := sum_le f q z fun n hn => h n (List.mem_cons_of_mem _ hn)
    have := h x List.mem_cons_self
    rw [List.map_cons, List.sum_cons, List.map_cons, List.sum_cons]
    omega
theorem sum_eq {α : Type} (f q : α → Int) : ∀ z : List α, (∀ n ∈ z, f n ≤ q n) → (z.map f).sum = (z.map q).sum → ∀ n ∈ z, f n = q n
  | [], _, _, n, h => nomatch h
  | x :: z, h, e, n, hn => by
    have a := sum_le f q z fun n hn => h n (List.mem_cons_of_mem _ hn)
    have b := h x List.mem_cons_self
    rw [List.map_cons, List.sum_cons, List.map_cons, List.sum_cons] at e
    rcases List.mem_cons.mp hn with e2 | hn
    · rw [e2]
      omega
    · exact sum_eq f q z (fun n hn => h n (List.mem_cons_of_mem _ hn)) (by omega) n hn
def comL (bs : List (Str × Bk)) (pr : List (Str × Int)) (ms : List (Dc Str Int)) (z : List Str) : List Int := ((enumL ms).filter fun p => cm bs pr ms z p.2).map Prod.fst
theorem enum_get {α : Type} {xs : List α} {j : Nat} {m : α} (h : xs[j]? = some m) : (enumL xs)[j]? = some ((j : Int), m) := by
  have l : j < (enumL xs).length := by
    rw [enum_len]
    exact (List.getElem?_eq_some_iff.mp h).1
  have e : (enumL xs)[j]? = some (enumL xs)[j] := List.getElem?_eq_getElem l
  obtain ⟨h1, h2⟩ := enum_at e
  rw [h] at h2
  rw [e]
  exact congrArg some (Prod.ext h1 (Option.some.inj h2).symm)
section
variable {ps : List Str} {bs : Dc Str Bk} {ms : List (Dc Str Int)} {pr : Dc Str Int} {z : List Str}
theorem grp_one (n : Str) (m : List (Str × Int)) : grpL bs.l pr.l [n] m = lN bs.l pr.l n m := by
  show lN bs.l pr.l n m + 0 = _
  omega
theorem le_need (W : Wld ps bs ms pr) (gr : List Str) {m : Dc Str Int} (hm : m ∈ ms) : grpL bs.l pr.l gr m.l ≤ needG bs.l pr.l ms gr := (need_is W gr).2 _ (List.mem_map.mpr ⟨m, hm, rfl⟩)
theorem lN_le (W : Wld ps bs ms pr) (n : Str) {m : Dc Str Int} (hm : m ∈ ms) : lN bs.l pr.l n m.l ≤ needG bs.l pr.l ms [n] := by
  have := le_need W [n] hm
  rw [grp_one] at this
  exact this
theorem rest_nn (W : Wld ps bs ms pr) : needG bs.l pr.l ms z ≤ (z.map fun n => needG bs.l pr.l ms [n]).sum := by
  obtain ⟨m, hm, e⟩ := List.mem_map.mp (need_is W z).1
  rw [← e]
  exact sum_le _ _ _ fun n _ => lN_le W n hm
theorem cm_iff {m : Dc Str Int} : cm bs.l pr.l ms z m = true ↔ ∀ n ∈ z, lN bs.l pr.l n m.l = needG bs.l pr.l ms [n] := by
  unfold cm
  rw [List.all_eq_true]
  constructor
  · intro h n hn
    exact of_decide_eq_true (h _ (List.mem_map.mpr ⟨n, hn, rfl⟩))
  · intro h y hy
    obtain ⟨n, hn, e⟩ := List.mem_map.mp hy
    rw [← e]
    exact decide_eq_true (h n hn)
theorem com_iff (W : Wld ps bs ms pr) : decide ((z.map fun n => needG bs.l pr.l ms [n]).sum - needG bs.l pr.l ms z = 0) = !decide (comL bs.l pr.l ms z = []) := by
  have key : (z.map fun n => needG bs.l pr.l ms [n]).sum - needG bs.l pr.l ms z = 0 ↔ ∃ m ∈ ms, cm bs.l pr.l ms z m = true := by
    constructor
    · intro h
      obtain ⟨m, hm, e⟩ := List.mem_map.mp (need_is W z).1
      refine ⟨m, hm, cm_iff.mpr (sum_eq _ _ z (fun n _ => lN_le W n hm) ?_)⟩
      have e : (z.map fun n => lN bs.l pr.l n m.l).sum = needG bs.l pr.l ms z := e
      omega
    · rintro ⟨m, hm, h⟩
      have h := cm_iff.mp h
      have a := le_need W z hm
      have b := rest_nn (z := z) W
      have e : (z.map fun n => needG bs.l pr.l ms [n]) = z.map fun n => lN bs.l pr.l n m.l := List.map_congr_left fun n hn => (h n hn).symm
      have a : (z.map fun n => lN bs.l pr.l n m.l).sum ≤ needG bs.l pr.l ms z := a
      rw [← e] at a
      omega
  have key2 : comL bs.l pr.l ms z = [] ↔ ¬ ∃ m ∈ ms, cm bs.l pr.l ms z m = true := by
    unfold comL
    rw [List.map_eq_nil_iff, List.filter_eq_nil_iff]
    constructor
    · rintro h ⟨m, hm, hc⟩
      obtain ⟨j, hj⟩ := List.getElem?_of_mem hm
      exact h _ (List.mem_of_getElem? (enum_get hj)) hc
    · intro h p hp hc
      obtain ⟨i, hi⟩ := List.getElem?_of_mem hp
      exact h ⟨p.2, List.mem_of_getElem? (enum_at hi).2, hc⟩
  by_cases c : ∃ m ∈ ms, cm bs.l pr.l ms z m = true
  · rw [decide_eq_true (key.mpr c), decide_eq_false fun e => key2.mp e c]
    rfl
  · rw [decide_eq_false fun e => c (key.mp e), decide_eq_true (key2.mpr c)]
    rfl
theorem com_head : ((enumL ms).find? fun p => cm bs.l pr.l ms z p.2).map Prod.fst = (comL bs.l pr.l ms z).head? := by
  unfold comL
  rw [List.head?_map, List.head?_filter]
theorem head_at (C : List Int) : ∃ x : Option Int, atI ((List.map some C) ++ [(none : Option Int)]) (0 : Int) = some x ∧ x = C.head? := by
  cases C with
  | nil => exact ⟨none, rfl, rfl⟩
  | cons c r =>
    refine ⟨some c, ?_, rfl⟩
    have : ((List.map some (c :: r)) ++ [(none : Option Int)])[0]? = some (some c) := rfl
    exact atI_nat (j := 0) this
variable {q : Sq} {pcs : List Str} {kept : Str} {every : List (List Str)} {due worst : Dc Str Int} {losses : List Int} {told : List (Str × Int)}
theorem com_len : (comL bs.l pr.l ms z).length ≤ ms.length := by
  unfold comL
  rw [List.length_map]
  refine Nat.le_trans (List.length_filter_le _ _) ?_
  rw [enum_len]
  exact Nat.le_refl _
theorem s_p7 (W : Wld ps bs ms pr) (N : Nms bs z) : w_law_p7 q pcs ms pr bs z (PyS.shown (L3.mk bs ms pr)) every due losses worst told (z.map fun n => needG bs.l pr.l ms [n]) (comL bs.l pr.l ms z) ((z.map fun n => needG bs.l pr.l ms [n]).sum - needG bs.l pr.l ms z) PO := by
  unfold w_law_p7
  refine s_saved W N (s_same_I ?_)
  rw [decide_eq_true rfl]
  refine ⟨(fun e => nomatch e), fun _ => s_common_move W N ?_⟩
  rw [com_head]
  obtain ⟨x, hx, e⟩ := head_at (comL bs.l pr.l ms z)
  refine ⟨?_, x, hx, ?_⟩
  · rw [List.length_map]
    have := com_len (bs := bs) (pr := pr) (ms := ms) (z := z)
    have := W.M.few
    simp
    omega
  · rw [e]
    refine s_same_OI ⟨(fun e => nomatch e), fun _ => ⟨show_all W, fun e => ?_, fun _ => .inl rfl⟩⟩
    rw [decide_eq_true rfl] at e
    cases e
theorem s_p6 (W : Wld ps bs ms pr) (N : Nms bs z) (hL : losses = ms.map fun m => grpL bs.l pr.l z m.l) : w_law_p6 q pcs ms pr bs z (PyS.shown (L3.mk bs ms pr)) every due losses worst told (z.map fun n => needG bs.l pr.l ms [n]) [] PO := by
  unfold w_law_p6
  have few := W.M.few
  have lz := nms_len W N
  refine ⟨by omega, for_inv (fun i (s : List Int) => s = (((enumL ms).take i).filter fun p => cm bs.l pr.l ms z p.2).map Prod.fst) _ 0 _ rfl (fun j x s nx bk hj I hn => ?_) fun s I => ?_⟩
  · have hj2 := rng_at hj
    have hjm : j < ms.length := by omega
    obtain ⟨m, hm⟩ : ∃ m, ms[j]? = some m := ⟨ms[j], List.getElem?_eq_getElem hjm⟩
    have ex : x = (j : Int) := by omega
    subst ex
    have mm : m ∈ ms := List.mem_of_getElem? hm
    rw [Nat.zero_add] at I
    have et : (enumL ms).take (j + 1) = (enumL ms).take j ++ [((j : Int), m)] := by
      rw [List.take_add_one, enum_get hm]
      rfl
    have nxt : ∀ s', s' = (if cm bs.l pr.l ms z m = true then s ++ [(j : Int)] else s) → nx s' := fun s' hs => hn _ (by
      rw [hs, Nat.zero_add, et, List.filter_append, List.map_append, I]
      by_cases c : cm bs.l pr.l ms z m = true
      · rw [if_pos c]
        have e : List.filter (fun p : Int × Dc Str Int => cm bs.l pr.l ms z p.2) [((j : Int), m)] = [((j : Int), m)] := List.filter_cons_of_pos (by exact c)
        rw [e]
        rfl
      · rw [if_neg c]
        have e : List.filter (fun p : Int × Dc Str Int => cm bs.l pr.l ms z p.2) [((j : Int), m)] = [] := List.filter_cons_of_neg (by exact c)
        rw [e]
        simp)
    unfold joinW
    refine ⟨by omega, comp_map (fun n => lN bs.l pr.l n m.l) _ _ (fun n hn R hR => ?_) ?_⟩
    · obtain ⟨b, hb, B⟩ := W_bk W ((nms_mem N).mp hn)
      refine ⟨b, hb, m, atI_nat hm, s__law_book_loss W B mm ?_⟩
      rw [← lN_some hb]
      exact hR
    · rw [List.nil_append, all_dec]
      have ls : s.length ≤ ms.length := by
        rw [I, List.length_map]
        refine Nat.le_trans (List.length_filter_le _ _) ?_
        rw [List.length_take, enum_len]
        omega
      refine ⟨fun e => ⟨by omega, fun s' hs' => nxt _ ?_⟩, fun e => nxt _ ?_⟩
      · have e : cm bs.l pr.l ms z m = true := e
        rw [if_pos e]
        exact hs'
      · have e : cm bs.l pr.l ms z m = false := e
        rw [if_neg (by rw [e]; exact Bool.false_ne_true)]
  · rw [Nat.zero_add, rng_len, Int.toNat_natCast] at I
    have el : (enumL ms).take ms.length = enumL ms := by
      rw [← enum_len (xs := ms), List.take_length]
    rw [el] at I
    have I : s = comL bs.l pr.l ms z := I
    subst I hL
    refine ⟨by rw [List.length_map]; exact mvs_pos (mvsP W.M), fun r h1 h2 rest hr => ?_⟩
    have er : r = needG bs.l pr.l ms z := isMax_one ⟨h1, h2⟩ (need_is W z)
    subst er hr
    have nn := rest_nn (z := z) W
    unfold altW
    refine ⟨fun _ => ⟨fun e => ?_, fun _ => s_p7 W N⟩, fun e => ?_⟩
    · rw [com_iff W] at e
      simp at e
    · have := of_decide_eq_true e
      omega
/-! ### the due shares -/
theorem lN_bd (W : Wld ps bs ms pr) {n : Str} (hn : n ∈ keys bs.l) {m : Dc Str Int} (hm : m ∈ ms) : -100000 ≤ lN bs.l pr.l n m.l ∧ lN bs.l pr.l n m.l ≤ 100000 := by
  obtain ⟨b, hb, B⟩ := W_bk W hn
  rw [lN_some hb]
  have gb : ∀ {d : List (Str × Int)} {c : Int} (k : Str), 0 ≤ c → Bd c d → -c ≤ g d k ∧ g d k ≤ c := fun {d c} k hc B => by
    cases e : look d k with
    | none => unfold g; rw [e]; show -c ≤ 0 ∧ 0 ≤ c; omega
    | some w =>
      rw [g_some e]
      exact B _ _ e
  have mulb : ∀ x y : Int, -18 ≤ x ∧ x ≤ 18 → -8 ≤ y ∧ y ≤ 8 → -144 ≤ x * y ∧ x * y ≤ 144 := fun x y hx hy => by
    have hy' : y = -8 ∨ y = -7 ∨ y = -6 ∨ y = -5 ∨ y = -4 ∨ y = -3 ∨ y = -2 ∨ y = -1 ∨ y = 0 ∨ y = 1 ∨ y = 2 ∨ y = 3 ∨ y = 4 ∨ y = 5 ∨ y = 6 ∨ y = 7 ∨ y = 8 := by omega
    rcases hy' with e | e | e | e | e | e | e | e | e | e | e | e | e | e | e | e | e <;> subst e <;> omega
  have l1 : -288 ≤ lossBy b.1.l m.l ∧ lossBy b.1.l m.l ≤ 288 := by
    rw [lossBy2 u2.ne B.I]
    have a := mulb _ _ (gb (d := b.1.l) "oil" (by decide) B.bd) (gb (d := m.l) "oil" (by decide) (W.M.lo m hm))
    have c := mulb _ _ (gb (d := b.1.l) "tin" (by decide) B.bd) (gb (d := m.l) "tin" (by decide) (W.M.lo m hm))
    omega
  have one : ∀ o ∈ b.2, 0 ≤ bite o m.l pr.l ∧ bite o m.l pr.l ≤ 5000 := fun o ho => by
    have O := bk_O B o ho
    have ub := ul_bd W.R (W.M.lo m hm) O.1
    have d1 := O.1.pos
    have d5 := O.2.1
    unfold bite fill
    split
    · rename_i h0
      have : o.d = 1 ∨ o.d = 2 ∨ o.d = 3 ∨ o.d = 4 ∨ o.d = 5 := by omega
      rcases this with e | e | e | e | e <;> rw [e] <;> omega
    · omega
  have sumb : ∀ os : List (T4 Str Str Int Int), (∀ o ∈ os, 0 ≤ bite o m.l pr.l ∧ bite o m.l pr.l ≤ 5000) → 0 ≤ (os.map fun o => bite o m.l pr.l).sum ∧ (os.map fun o => bite o m.l pr.l).sum ≤ 5000 * (os.length : Int) := fun os => by
    induction os with
    | nil => intro _; simp
    | cons o os ih =>
      intro h
      have a := ih fun x hx => h x (List.mem_cons_of_mem _ hx)
      have c := h o List.mem_cons_self
      rw [List.map_cons, List.sum_cons, List.length_cons]
      omega
  have s := sumb b.2 one
  have few := B.O.few
  unfold tot
  omega
theorem due_shr (W : Wld ps bs ms pr) (N : Nms bs z) (m : Dc Str Int) : Shr z (z.map fun n => (n, lN bs.l pr.l n m.l)) := ⟨by rw [own_keys]⟩
theorem due_bd (W : Wld ps bs ms pr) (N : Nms bs z) {m : Dc Str Int} (hm : m ∈ ms) : Bd 100000 (z.map fun n => (n, lN bs.l pr.l n m.l)) := fun k w hk => by
  have hk2 : k ∈ z := by
    have := mem_look hk
    rw [own_keys] at this
    exact this
  rw [look_own (fun n => lN bs.l pr.l n m.l) hk2] at hk
  cases hk
  exact lN_bd W ((nms_mem N).mp hk2) hm
theorem due_sum {m : Dc Str Int} : ((z.map fun n => (n, lN bs.l pr.l n m.l)).map Prod.snd).sum = grpL bs.l pr.l z m.l := by
  rw [own_snd]
  rfl
theorem due_obj (W : Wld ps bs ms pr) (N : Nms bs z) {m : Dc Str Int} (hm : m ∈ ms) : obj bs.l pr.l ms z (z.map fun n => (n, lN bs.l pr.l n m.l)) = none := by
  unfold obj
  refine List.find?_eq_none.mpr fun gr hgr e => ?_
  have sg := allL_mem.mp hgr
  have e := of_decide_eq_true e
  have es : sh (z.map fun n => (n, lN bs.l pr.l n m.l)) gr = grpL bs.l pr.l gr m.l := by
    unfold sh grpL
    refine congrArg List.sum (List.map_congr_left fun n hn => ?_)
    exact g_some (look_own (fun n => lN bs.l pr.l n m.l) (sg.subset hn))
  have := le_need W gr hm
  omega
theorem wt_one {j j' : Nat} {m m' : Dc Str Int} (a : Wt bs.l pr.l ms z j m) (b : Wt bs.l pr.l ms z j' m') : m = m' := by
  have e : grpL bs.l pr.l z m.l = grpL bs.l pr.l z m'.l := Int.le_antisymm (b.mx m (List.mem_of_getElem? a.at')) (a.mx m' (List.mem_of_getElem? b.at'))
  have ej : j = j' := by
    rcases Nat.lt_trichotomy j j' with h | h | h
    · exact absurd e (b.first j h m a.at')
    · exact h
    · exact absurd e.symm (a.first j' h m' b.at')
  subst ej
  have := a.at'.symm.trans b.at'
  exact Option.some.inj this
theorem s_p5 {j : Nat} {m : Dc Str Int} (W : Wld ps bs ms pr) (N : Nms bs z) (w : Wt bs.l pr.l ms z j m) (hL : losses = ms.map fun m => grpL bs.l pr.l z m.l) : w_law_p5 q pcs ms pr bs z (PyS.shown (L3.mk bs ms pr)) every ⟨z.map fun n => (n, lN bs.l pr.l n m.l)⟩ losses m told PO := by
  unfold w_law_p5 altW
  have lz := nms_len W N
  have mm := List.mem_of_getElem? w.at'
  refine s_sharing W N fun j' m' w' => s_same_D (by rw [wt_one w w']) (by simp; omega) ⟨fun _ => ?_, (fun e => nomatch e)⟩
  refine s__shares_right W N (due_shr W N m) (by rw [due_sum, wt_is W w]) (due_obj W N mm) (due_bd W N mm) ⟨(fun e => nomatch e), fun _ => ⟨by omega, ?_⟩⟩
  refine comp_map (fun n => needG bs.l pr.l ms [n]) _ _ (fun n hn R hR => s__need W (fun k hk => by rw [List.mem_singleton.mp hk]; exact (nms_mem N).mp hn) (by simp) hR) ?_
  rw [List.nil_append]
  intro needs hn com hc
  subst hn hc
  exact s_p6 W N hL
theorem s_p4 {j : Nat} {m : Dc Str Int} (W : Wld ps bs ms pr) (N : Nms bs z) (w : Wt bs.l pr.l ms z j m) (hL : losses = ms.map fun m => grpL bs.l pr.l z m.l) : w_law_p4 q pcs ms pr bs z (PyS.shown (L3.mk bs ms pr)) every ⟨z.map fun n => (n, lN bs.l pr.l n m.l)⟩ losses m PO := by
  unfold w_law_p4 altW
  have lz := nms_len W N
  have mm := List.mem_of_getElem? w.at'
  refine s_sharing W N fun j' m' w' told ht => ?_
  have e := wt_one w w'
  subst e ht
  refine s_same_D rfl (by simp; omega) ⟨fun _ => s__objecting W N (due_shr W N m) ?_, (fun e => nomatch e)⟩
  rw [due_obj W N mm]
  exact ⟨(fun e => nomatch e), fun _ => ⟨by simp; omega, fun t ht => s_p5 W N w hL⟩⟩
theorem s_p3 (W : Wld ps bs ms pr) (N : Nms bs z) : w_law_p3 q pcs ms pr bs z (PyS.shown (L3.mk bs ms pr)) every PO := by
  unfold w_law_p3
  have lz := nms_len W N
  have few := W.M.few
  refine s__law_losses W (fun n hn => (nms_mem N).mp hn) (by omega) fun L hL => ⟨?_, fun r h1 h2 => ⟨?_, h1, fun j hj hf => ?_⟩⟩
  · rw [hL, List.length_map]
    exact mvs_pos (mvsP W.M)
  · rw [hL, List.length_map]
    omega
  · have hj' := hj
    rw [hL, List.getElem?_map] at hj'
    cases e : ms[j]? with
    | none =>
      rw [e] at hj'
      cases hj'
    | some m =>
      rw [e] at hj'
      have er : grpL bs.l pr.l z m.l = r := Option.some.inj hj'
      have w : Wt bs.l pr.l ms z j m := ⟨e, fun m' hm' => by rw [er]; exact h2 _ (by rw [hL]; exact List.mem_map.mpr ⟨m', hm', rfl⟩), fun i hi m' hm' e2 => hf i hi (by
        rw [hL, List.getElem?_map, hm']
        show some (grpL bs.l pr.l z m'.l) = some r
        rw [e2, er])⟩
      have mm := List.mem_of_getElem? e
      refine ⟨m, atI_nat e, fun worst hw => ⟨by omega, ?_⟩⟩
      subst hw
      refine comp_map (fun n => (n, lN bs.l pr.l n worst.l)) _ _ (fun n hn R hR => ?_) ?_
      · obtain ⟨b, hb, B⟩ := W_bk W ((nms_mem N).mp hn)
        refine ⟨b, hb, s__law_book_loss W B mm ?_⟩
        rw [← lN_some hb]
        exact hR
      · rw [List.nil_append, puts_own (by rw [own_keys]; exact nms_nd W N)]
        intro due hd
        subst hd
        exact s_p4 W N w hL
end
end K89
set_option maxHeartbeats 4000000
/-! k89, the plain law: whole -/
namespace K89
open PySem PySem.Spec PyProof.Rows L2 DW
theorem allL_len {z : List Str} (h : z.length ≤ 5) : 1 ≤ (allL z).length ∧ (allL z).length ≤ 192 := by
  constructor
  · have : [] ∈ allL z := allL_mem.mpr (List.nil_sublist _)
    exact List.length_pos_of_mem this
  · unfold allL
    rw [List.length_flatMap]
    have h1 : ∀ k ∈ List.range (z.length + 1), (comb k z).length ≤ 32 := fun k _ => by
      have c1 := comb_len z k
      have c4 : 2 ^ z.length ≤ 2 ^ 5 := Nat.pow_le_pow_right (by decide) h
      omega
    have gen : ∀ l : List Nat, (∀ k ∈ l, (comb k z).length ≤ 32) → (l.map fun k => (comb k z).length).sum ≤ 32 * l.length := fun l => by
      induction l with
      | nil => intro _; simp
      | cons k l ih =>
        intro h
        have a := ih fun x hx => h x (List.mem_cons_of_mem _ hx)
        have b := h k List.mem_cons_self
        rw [List.map_cons, List.sum_cons, List.length_cons]
        omega
    have := gen _ h1
    rw [List.length_range] at this
    omega
section
variable {ps : List Str} {bs : Dc Str Bk} {ms : List (Dc Str Int)} {pr : Dc Str Int} {z : List Str} {q : Sq} {pcs : List Str}
theorem s_p2 (W : Wld ps bs ms pr) : w_law_p2 q pcs ms pr bs PO := by
  unfold w_law_p2
  refine ⟨by have := W.B.hi; omega, fun z hz sz nm hn => ⟨show_all W, fun kept hk => ?_⟩⟩
  subst hn hk
  have N : Nms bs nm := ⟨hz, sz⟩
  have lz := nms_len W N
  have ll := allL_len lz
  refine s__law_lists lz (nms_st W N) fun ev he => ⟨by decide, ?_⟩
  subst he
  refine for_unit _ (fun x _ nx bk hn => ?_) (s_p3 W N)
  have key : ∀ g0 : List Str, g0.Sublist nm → w__law_shuffled g0 (fun y => ∀ gr, gr = y → w__law_need bs gr ms pr (fun y => ∀ due, due = y → w_group_need bs gr ms pr (fun y => w__law_same_I_I y due (fun b => ((!b) = true → PO (some false)) ∧ ((!b) = false → w_group_need_DSTDSILTSSII_TpS_TpDSI_DSI bs ⟨gr⟩ ⟨ms⟩ pr (fun y => w__law_same_I_I y due (fun b => ((!b) = true → PO (some false)) ∧ ((!b) = false → nx ()))))))) ) := fun g0 sg => by
    have lg := sub_len W N sg
    refine ⟨⟨by omega, fun s hs => six_ok s (W.B.sub s (sub_ok N sg s hs))⟩, fun r hr gr hg => ?_⟩
    subst hg
    have mem : ∀ n ∈ gr, n ∈ keys bs.l := fun n hn => sub_ok N sg n (hr.mem_iff.mp hn)
    have nd : gr.Nodup := hr.nodup_iff.mpr ((nms_nd W N).sublist sg)
    have lr : gr.length ≤ 5 := by rw [hr.length_eq]; exact lg
    refine s__need W mem (by omega) fun due hd => s_group_need W mem nd (by omega) (s_same_I ?_)
    subst hd
    rw [decide_eq_true rfl]
    refine ⟨(fun e => nomatch e), fun _ => s_group_need_T W mem nd (by omega) (s_same_I ?_)⟩
    rw [decide_eq_true rfl]
    exact ⟨(fun e => nomatch e), fun _ => hn⟩
  unfold altW
  refine ⟨fun _ => ⟨by omega, fun y y0 y1 => ?_⟩, fun _ => key _ (List.Sublist.refl _)⟩
  have l : y.toNat < (allL nm).length := by omega
  refine ⟨(allL nm)[y.toNat], by unfold atI ixN; rw [if_pos y0, if_pos y1]; simp [l], key _ (allL_mem.mp (List.getElem_mem l))⟩
theorem law_right : ∀ q : Sq, w_law_p1 q fun o => o = none ∨ o = some true := fun q => by
  unfold w_law_p1
  refine ⟨by decide, fun y y0 y1 => ?_⟩
  have key : ∀ ps, Pac ps → w__law_moves ps (fun y4695 => w__law_prices ps (fun y4697 => ∀ z, z = (y4695, y4697) → w__law_books ps z.2 (fun y4701 => ∀ zb, zb = y4701 → w_law_p2 q ps z.1 z.2 zb PO))) := fun ps pp => by
    refine s__law_moves pp fun ms M => s__law_prices pp fun pr R z hz => ?_
    subst hz
    refine s__law_books pp R fun bs B b hb => ?_
    subst hb
    exact s_p2 ⟨pp, R, M, B⟩
  have : y = 0 ∨ y = 1 := by omega
  rcases this with e | e <;> subst e
  · refine ⟨[("oil" : Str)], rfl, fun z hz => ?_⟩
    subst hz
    exact key _ (.inl rfl)
  · refine ⟨[("oil" : Str), ("tin" : Str)], rfl, fun z hz => ?_⟩
    subst hz
    exact key _ (.inr rfl)
end
end K89
set_option maxHeartbeats 4000000
namespace K89
open PySem PySem.Spec PyProof.Rows L2 DW
/-! ### what the top has written -/
structure AllF (K : Frag) : Prop where
  d__law_tape : ∃ f fd, PySem.W.nsIn K mainGlobals "_law_tape" = some (some (.ref f)) ∧ Fun K "_law_tape" "_law_tape" (topS 56) f fd
  d__law_pick : ∃ f fd, PySem.W.nsIn K mainGlobals "_law_pick" = some (some (.ref f)) ∧ Fun K "_law_pick" "_law_pick" (topS 57) f fd
  d__law_moves : ∃ f fd, PySem.W.nsIn K mainGlobals "_law_moves" = some (some (.ref f)) ∧ Fun K "_law_moves" "_law_moves" (topS 60) f fd
  d__law_prices : ∃ f fd, PySem.W.nsIn K mainGlobals "_law_prices" = some (some (.ref f)) ∧ Fun K "_law_prices" "_law_prices" (topS 61) f fd
  d__law_shuffled : ∃ f fd, PySem.W.nsIn K mainGlobals "_law_shuffled" = some (some (.ref f)) ∧ Fun K "_law_shuffled" "_law_shuffled" (topS 58) f fd
  d__law_position : ∃ f fd, PySem.W.nsIn K mainGlobals "_law_position" = some (some (.ref f)) ∧ Fun K "_law_position" "_law_position" (topS 62) f fd
  d__law_near : ∃ f fd, PySem.W.nsIn K mainGlobals "_law_near" = some (some (.ref f)) ∧ Fun K "_law_near" "_law_near" (topS 63) f fd
  d__law_orders : ∃ f fd, PySem.W.nsIn K mainGlobals "_law_orders" = some (some (.ref f)) ∧ Fun K "_law_orders" "_law_orders" (topS 65) f fd
  d__law_books : ∃ f fd, PySem.W.nsIn K mainGlobals "_law_books" = some (some (.ref f)) ∧ Fun K "_law_books" "_law_books" (topS 66) f fd
  d__law_lists : ∃ f fd, PySem.W.nsIn K mainGlobals "_law_lists" = some (some (.ref f)) ∧ Fun K "_law_lists" "_law_lists" (topS 70) f fd
  d__law_loss : ∃ f fd, PySem.W.nsIn K mainGlobals "_law_loss" = some (some (.ref f)) ∧ Fun K "_law_loss" "_law_loss" (topS 64) f fd
  d__law_book_loss : ∃ f fd, PySem.W.nsIn K mainGlobals "_law_book_loss" = some (some (.ref f)) ∧ Fun K "_law_book_loss" "_law_book_loss" (topS 67) f fd
  d__law_losses : ∃ f fd, PySem.W.nsIn K mainGlobals "_law_losses" = some (some (.ref f)) ∧ Fun K "_law_losses" "_law_losses" (topS 68) f fd
  d__law_need : ∃ f fd, PySem.W.nsIn K mainGlobals "_law_need" = some (some (.ref f)) ∧ Fun K "_law_need" "_law_need" (topS 69) f fd
  d__law_same : ∃ f fd, PySem.W.nsIn K mainGlobals "_law_same" = some (some (.ref f)) ∧ Fun K "_law_same" "_law_same" (topS 59) f fd
  d_is_name : ∃ f fd, PySem.W.nsIn K mainGlobals "is_name" = some (some (.ref f)) ∧ Fun K "is_name" "is_name" (topS 7) f fd
  d_is_member : ∃ f fd, PySem.W.nsIn K mainGlobals "is_member" = some (some (.ref f)) ∧ Fun K "is_member" "is_member" (topS 8) f fd
  d_is_integer : ∃ f fd, PySem.W.nsIn K mainGlobals "is_integer" = some (some (.ref f)) ∧ FunD K "is_integer" "is_integer" (defArgs (topS 6)) (defBody (topS 6)) (defScope (topS 6)) [.non] [] f fd
  d_is_position : ∃ f fd, PySem.W.nsIn K mainGlobals "is_position" = some (some (.ref f)) ∧ Fun K "is_position" "is_position" (topS 13) f fd
  d_is_price : ∃ f fd, PySem.W.nsIn K mainGlobals "is_price" = some (some (.ref f)) ∧ Fun K "is_price" "is_price" (topS 14) f fd
  d_is_standing : ∃ f fd, PySem.W.nsIn K mainGlobals "is_standing" = some (some (.ref f)) ∧ Fun K "is_standing" "is_standing" (topS 24) f fd
  d_is_book : ∃ f fd, PySem.W.nsIn K mainGlobals "is_book" = some (some (.ref f)) ∧ Fun K "is_book" "is_book" (topS 41) f fd
  d_are_books : ∃ f fd, PySem.W.nsIn K mainGlobals "are_books" = some (some (.ref f)) ∧ Fun K "are_books" "are_books" (topS 42) f fd
  d_is_list : ∃ f fd, PySem.W.nsIn K mainGlobals "is_list" = some (some (.ref f)) ∧ Fun K "is_list" "is_list" (topS 32) f fd
  d_are_owners : ∃ f fd, PySem.W.nsIn K mainGlobals "are_owners" = some (some (.ref f)) ∧ Fun K "are_owners" "are_owners" (topS 33) f fd
  d_is_move : ∃ f fd, PySem.W.nsIn K mainGlobals "is_move" = some (some (.ref f)) ∧ Fun K "is_move" "is_move" (topS 21) f fd
  d_check_moves : ∃ f fd, PySem.W.nsIn K mainGlobals "check_moves" = some (some (.ref f)) ∧ Fun K "check_moves" "check_moves" (topS 22) f fd
  d_check_prices : ∃ f fd, PySem.W.nsIn K mainGlobals "check_prices" = some (some (.ref f)) ∧ Fun K "check_prices" "check_prices" (topS 15) f fd
  d_check_priced : ∃ f fd, PySem.W.nsIn K mainGlobals "check_priced" = some (some (.ref f)) ∧ Fun K "check_priced" "check_priced" (topS 25) f fd
  d_all_orders : ∃ f fd, PySem.W.nsIn K mainGlobals "all_orders" = some (some (.ref f)) ∧ Fun K "all_orders" "all_orders" (topS 43) f fd
  d_check_world : ∃ f fd, PySem.W.nsIn K mainGlobals "check_world" = some (some (.ref f)) ∧ Fun K "check_world" "check_world" (topS 44) f fd
  d_unit_loss : ∃ f fd, PySem.W.nsIn K mainGlobals "unit_loss" = some (some (.ref f)) ∧ Fun K "unit_loss" "unit_loss" (topS 26) f fd
  d_worst_filled : ∃ f fd, PySem.W.nsIn K mainGlobals "worst_filled" = some (some (.ref f)) ∧ Fun K "worst_filled" "worst_filled" (topS 27) f fd
  d_loss_by : ∃ f fd, PySem.W.nsIn K mainGlobals "loss_by" = some (some (.ref f)) ∧ Fun K "loss_by" "loss_by" (topS 23) f fd
  d_loss_with : ∃ f fd, PySem.W.nsIn K mainGlobals "loss_with" = some (some (.ref f)) ∧ Fun K "loss_with" "loss_with" (topS 28) f fd
  d_worst_of : ∃ f fd, PySem.W.nsIn K mainGlobals "worst_of" = some (some (.ref f)) ∧ Fun K "worst_of" "worst_of" (topS 29) f fd
  d_summed : ∃ f fd, PySem.W.nsIn K mainGlobals "summed" = some (some (.ref f)) ∧ Fun K "summed" "summed" (topS 16) f fd
  d_joined_position : ∃ f fd, PySem.W.nsIn K mainGlobals "joined_position" = some (some (.ref f)) ∧ Fun K "joined_position" "joined_position" (topS 45) f fd
  d_worst_together : ∃ f fd, PySem.W.nsIn K mainGlobals "worst_together" = some (some (.ref f)) ∧ Fun K "worst_together" "worst_together" (topS 46) f fd
  d_group_need : ∃ f fd, PySem.W.nsIn K mainGlobals "group_need" = some (some (.ref f)) ∧ Fun K "group_need" "group_need" (topS 47) f fd
  d_loss_of : ∃ f fd, PySem.W.nsIn K mainGlobals "loss_of" = some (some (.ref f)) ∧ Fun K "loss_of" "loss_of" (topS 48) f fd
  d_sharing : ∃ f fd, PySem.W.nsIn K mainGlobals "sharing" = some (some (.ref f)) ∧ Fun K "sharing" "sharing" (topS 49) f fd
  d__law_objecting : ∃ f fd, PySem.W.nsIn K mainGlobals "_law_objecting" = some (some (.ref f)) ∧ Fun K "_law_objecting" "_law_objecting" (topS 71) f fd
  d_are_shares : ∃ f fd, PySem.W.nsIn K mainGlobals "are_shares" = some (some (.ref f)) ∧ Fun K "are_shares" "are_shares" (topS 50) f fd
  d_lists_of : ∃ f fd, PySem.W.nsIn K mainGlobals "lists_of" = some (some (.ref f)) ∧ Fun K "lists_of" "lists_of" (topS 35) f fd
  d_all_lists : ∃ f fd, PySem.W.nsIn K mainGlobals "all_lists" = some (some (.ref f)) ∧ Fun K "all_lists" "all_lists" (topS 37) f fd
  d_objecting : ∃ f fd, PySem.W.nsIn K mainGlobals "objecting" = some (some (.ref f)) ∧ Fun K "objecting" "objecting" (topS 51) f fd
  d__law_shares_right : ∃ f fd, PySem.W.nsIn K mainGlobals "_law_shares_right" = some (some (.ref f)) ∧ Fun K "_law_shares_right" "_law_shares_right" (topS 72) f fd
  d_own_needs : ∃ f fd, PySem.W.nsIn K mainGlobals "own_needs" = some (some (.ref f)) ∧ Fun K "own_needs" "own_needs" (topS 52) f fd
  d_saved : ∃ f fd, PySem.W.nsIn K mainGlobals "saved" = some (some (.ref f)) ∧ Fun K "saved" "saved" (topS 53) f fd
  d_common_move : ∃ f fd, PySem.W.nsIn K mainGlobals "common_move" = some (some (.ref f)) ∧ Fun K "common_move" "common_move" (topS 54) f fd
  d_law : ∃ f fd, PySem.W.nsIn K mainGlobals "law" = some (some (.ref f)) ∧ Fun K "law" "law" (topS 73) f fd
  b_abs : PySem.W.nsIn K mainGlobals "abs" = some none
  b_all : PySem.W.nsIn K mainGlobals "all" = some none
  b_any : PySem.W.nsIn K mainGlobals "any" = some none
  b_bool : PySem.W.nsIn K mainGlobals "bool" = some none
  b_dict : PySem.W.nsIn K mainGlobals "dict" = some none
  b_enumerate : PySem.W.nsIn K mainGlobals "enumerate" = some none
  b_int : PySem.W.nsIn K mainGlobals "int" = some none
  b_isinstance : PySem.W.nsIn K mainGlobals "isinstance" = some none
  b_len : PySem.W.nsIn K mainGlobals "len" = some none
  b_list : PySem.W.nsIn K mainGlobals "list" = some none
  b_max : PySem.W.nsIn K mainGlobals "max" = some none
  b_min : PySem.W.nsIn K mainGlobals "min" = some none
  b_range : PySem.W.nsIn K mainGlobals "range" = some none
  b_repr : PySem.W.nsIn K mainGlobals "repr" = some none
  b_set : PySem.W.nsIn K mainGlobals "set" = some none
  b_sorted : PySem.W.nsIn K mainGlobals "sorted" = some none
  b_str : PySem.W.nsIn K mainGlobals "str" = some none
  b_sum : PySem.W.nsIn K mainGlobals "sum" = some none
  b_tuple : PySem.W.nsIn K mainGlobals "tuple" = some none
  b_zip : PySem.W.nsIn K mainGlobals "zip" = some none
  c_LONGEST : (He.Fa.int "LONGEST" 8).ok K = true
  c_MOST_PRICE : (He.Fa.int "MOST_PRICE" 99).ok K = true
  c_MOST_MOVES : (He.Fa.int "MOST_MOVES" 8).ok K = true
  c_LETTERS : (He.Fa.str "LETTERS" letters).ok K = true
  c_RESERVED : (He.Fa.glo "RESERVED").ok K = true
  t_RESERVED : He.tupB K "RESERVED" [.str "house", .str "outside", .str "money"] = true
theorem fn_at {K : Frag} {x : Str} {st : Stmt} {f : Addr} {oc : Value} {od an : Option Addr} {osl : Array (Option Value)} {kV doc pm cdv ct : Value} (a : PySem.W.nsIn K mainGlobals x = some (some (.ref f)))
    (l : K.lookup f = some ⟨oc, od, .func (PySem.W.fnOf x x (defArgs st) (defBody st) (defScope st) .none kV doc pm an cdv ct), osl⟩) (c : PySem.W.codeIn K cdv x = true) (k : PySem.W.keepIn K (.ref f) = true) : ∃ f fd, PySem.W.nsIn K mainGlobals x = some (some (.ref f)) ∧ Fun K x x st f fd :=
  ⟨_, _, a, fun_mk l c k⟩
theorem fnD_at {K : Frag} {x : Str} {st : Stmt} {f T : Addr} {oc : Value} {od an : Option Addr} {osl : Array (Option Value)} {kV doc pm cdv ct : Value} {ob : Obj} {n : Nat} (a : PySem.W.nsIn K mainGlobals x = some (some (.ref f)))
    (l : K.lookup f = some ⟨oc, od, .func (PySem.W.fnOf x x (defArgs st) (defBody st) (defScope st) (.ref T) kV doc pm an cdv ct), osl⟩) (c : PySem.W.codeIn K cdv x = true) (k : PySem.W.keepIn K (.ref f) = true) (t : K.lookup T = some ob) (d : ob.data = .seq #[.none] n) :
    ∃ f fd, PySem.W.nsIn K mainGlobals x = some (some (.ref f)) ∧ FunD K x x (defArgs st) (defBody st) (defScope st) [.non] [] f fd :=
  ⟨f, _, a, ⟨oc, od, .ref T, kV, doc, pm, an, cdv, ct, osl, rfl, l, c, .inr ⟨by simp, T, ob, [.none], n, rfl, t, d, .cons rfl .nil⟩, .inl rfl⟩, k⟩
theorem tx_of {K : Frag} {h : Heap} {mg : Str → Option Value} (X : K.In h) (G : h.Ns mainGlobals mg) (A : AllF K) : Tx K mg where
  b_abs := PySem.W.mg_none_of X G A.b_abs
  b_all := PySem.W.mg_none_of X G A.b_all
  b_any := PySem.W.mg_none_of X G A.b_any
  b_bool := PySem.W.mg_none_of X G A.b_bool
  b_dict := PySem.W.mg_none_of X G A.b_dict
  b_enumerate := PySem.W.mg_none_of X G A.b_enumerate
  b_int := PySem.W.mg_none_of X G A.b_int
  b_isinstance := PySem.W.mg_none_of X G A.b_isinstance
  b_len := PySem.W.mg_none_of X G A.b_len
  b_list := PySem.W.mg_none_of X G A.b_list
  b_max := PySem.W.mg_none_of X G A.b_max
  b_min := PySem.W.mg_none_of X G A.b_min
  b_range := PySem.W.mg_none_of X G A.b_range
  b_repr := PySem.W.mg_none_of X G A.b_repr
  b_set := PySem.W.mg_none_of X G A.b_set
  b_sorted := PySem.W.mg_none_of X G A.b_sorted
  b_str := PySem.W.mg_none_of X G A.b_str
  b_sum := PySem.W.mg_none_of X G A.b_sum
  b_tuple := PySem.W.mg_none_of X G A.b_tuple
  b_zip := PySem.W.mg_none_of X G A.b_zip
  c_LONGEST := He.int_ok X G A.c_LONGEST
  c_MOST_PRICE := He.int_ok X G A.c_MOST_PRICE
  c_MOST_MOVES := He.int_ok X G A.c_MOST_MOVES
  c_LETTERS := He.str_ok X G A.c_LETTERS
  c_RESERVED := ⟨He.ga K "RESERVED", He.glo_ok X G A.c_RESERVED, fun S => ⟨_, _, rfl, He.tupB_ok A.t_RESERVED S, (reps_flat (xs := reserved.l))⟩⟩

theorem law_binds {K : Frag} {f : Addr} {fd : FuncData} (F : Fun K "law" "law" (topS 73) f fd) (s : Shared) (v : Value) : BindsTo s fd ⟨[v], []⟩ [("script", v)] := by
  obtain ⟨oc, od, kV, doc, pm, an, cdv, ct, osl, e, lk, hcd⟩ := F.ex
  subst e
  exact .of_eq rfl
theorem all_of {l : PySem.W.OpenLaw} {w : World} {K : Frag} {h : Heap} {mg : Str → Option Value} {fa : Addr} (X0 : K.In h) (G : h.Ns mainGlobals mg) (hfa : mg "law" = some (.ref fa)) (A : AllF K) :
    ∃ fd : FuncData, (∀ (s : Shared) (v : Value), BindsTo s fd ⟨[v], []⟩ [("script", v)]) ∧ ∀ base : Heap, K.In base → base.Ns mainGlobals mg → FnOkG l.prog w K mg base 12 fa fd ["script"] (spLaw K) := by
  have X := tx_of X0 G A
  obtain ⟨f__law_tape, fd__law_tape, a__law_tape, F__law_tape⟩ := A.d__law_tape
  obtain ⟨f__law_pick, fd__law_pick, a__law_pick, F__law_pick⟩ := A.d__law_pick
  obtain ⟨f__law_moves, fd__law_moves, a__law_moves, F__law_moves⟩ := A.d__law_moves
  obtain ⟨f__law_prices, fd__law_prices, a__law_prices, F__law_prices⟩ := A.d__law_prices
  obtain ⟨f__law_shuffled, fd__law_shuffled, a__law_shuffled, F__law_shuffled⟩ := A.d__law_shuffled
  obtain ⟨f__law_position, fd__law_position, a__law_position, F__law_position⟩ := A.d__law_position
  obtain ⟨f__law_near, fd__law_near, a__law_near, F__law_near⟩ := A.d__law_near
  obtain ⟨f__law_orders, fd__law_orders, a__law_orders, F__law_orders⟩ := A.d__law_orders
  obtain ⟨f__law_books, fd__law_books, a__law_books, F__law_books⟩ := A.d__law_books
  obtain ⟨f__law_lists, fd__law_lists, a__law_lists, F__law_lists⟩ := A.d__law_lists
  obtain ⟨f__law_loss, fd__law_loss, a__law_loss, F__law_loss⟩ := A.d__law_loss
  obtain ⟨f__law_book_loss, fd__law_book_loss, a__law_book_loss, F__law_book_loss⟩ := A.d__law_book_loss
  obtain ⟨f__law_losses, fd__law_losses, a__law_losses, F__law_losses⟩ := A.d__law_losses
  obtain ⟨f__law_need, fd__law_need, a__law_need, F__law_need⟩ := A.d__law_need
  obtain ⟨f__law_same, fd__law_same, a__law_same, F__law_same⟩ := A.d__law_same
  obtain ⟨f_is_name, fd_is_name, a_is_name, F_is_name⟩ := A.d_is_name
  obtain ⟨f_is_member, fd_is_member, a_is_member, F_is_member⟩ := A.d_is_member
  obtain ⟨f_is_integer, fd_is_integer, a_is_integer, F_is_integer⟩ := A.d_is_integer
  obtain ⟨f_is_position, fd_is_position, a_is_position, F_is_position⟩ := A.d_is_position
  obtain ⟨f_is_price, fd_is_price, a_is_price, F_is_price⟩ := A.d_is_price
  obtain ⟨f_is_standing, fd_is_standing, a_is_standing, F_is_standing⟩ := A.d_is_standing
  obtain ⟨f_is_book, fd_is_book, a_is_book, F_is_book⟩ := A.d_is_book
  obtain ⟨f_are_books, fd_are_books, a_are_books, F_are_books⟩ := A.d_are_books
  obtain ⟨f_is_list, fd_is_list, a_is_list, F_is_list⟩ := A.d_is_list
  obtain ⟨f_are_owners, fd_are_owners, a_are_owners, F_are_owners⟩ := A.d_are_owners
  obtain ⟨f_is_move, fd_is_move, a_is_move, F_is_move⟩ := A.d_is_move
  obtain ⟨f_check_moves, fd_check_moves, a_check_moves, F_check_moves⟩ := A.d_check_moves
  obtain ⟨f_check_prices, fd_check_prices, a_check_prices, F_check_prices⟩ := A.d_check_prices
  obtain ⟨f_check_priced, fd_check_priced, a_check_priced, F_check_priced⟩ := A.d_check_priced
  obtain ⟨f_all_orders, fd_all_orders, a_all_orders, F_all_orders⟩ := A.d_all_orders
  obtain ⟨f_check_world, fd_check_world, a_check_world, F_check_world⟩ := A.d_check_world
  obtain ⟨f_unit_loss, fd_unit_loss, a_unit_loss, F_unit_loss⟩ := A.d_unit_loss
  obtain ⟨f_worst_filled, fd_worst_filled, a_worst_filled, F_worst_filled⟩ := A.d_worst_filled
  obtain ⟨f_loss_by, fd_loss_by, a_loss_by, F_loss_by⟩ := A.d_loss_by
  obtain ⟨f_loss_with, fd_loss_with, a_loss_with, F_loss_with⟩ := A.d_loss_with
  obtain ⟨f_worst_of, fd_worst_of, a_worst_of, F_worst_of⟩ := A.d_worst_of
  obtain ⟨f_summed, fd_summed, a_summed, F_summed⟩ := A.d_summed
  obtain ⟨f_joined_position, fd_joined_position, a_joined_position, F_joined_position⟩ := A.d_joined_position
  obtain ⟨f_worst_together, fd_worst_together, a_worst_together, F_worst_together⟩ := A.d_worst_together
  obtain ⟨f_group_need, fd_group_need, a_group_need, F_group_need⟩ := A.d_group_need
  obtain ⟨f_loss_of, fd_loss_of, a_loss_of, F_loss_of⟩ := A.d_loss_of
  obtain ⟨f_sharing, fd_sharing, a_sharing, F_sharing⟩ := A.d_sharing
  obtain ⟨f__law_objecting, fd__law_objecting, a__law_objecting, F__law_objecting⟩ := A.d__law_objecting
  obtain ⟨f_are_shares, fd_are_shares, a_are_shares, F_are_shares⟩ := A.d_are_shares
  obtain ⟨f_lists_of, fd_lists_of, a_lists_of, F_lists_of⟩ := A.d_lists_of
  obtain ⟨f_all_lists, fd_all_lists, a_all_lists, F_all_lists⟩ := A.d_all_lists
  obtain ⟨f_objecting, fd_objecting, a_objecting, F_objecting⟩ := A.d_objecting
  obtain ⟨f__law_shares_right, fd__law_shares_right, a__law_shares_right, F__law_shares_right⟩ := A.d__law_shares_right
  obtain ⟨f_own_needs, fd_own_needs, a_own_needs, F_own_needs⟩ := A.d_own_needs
  obtain ⟨f_saved, fd_saved, a_saved, F_saved⟩ := A.d_saved
  obtain ⟨f_common_move, fd_common_move, a_common_move, F_common_move⟩ := A.d_common_move
  obtain ⟨f_law, fd_law, a_law, F_law⟩ := A.d_law
  have e := hfa.symm.trans (PySem.W.mg_of X0 G a_law)
  cases e
  have b__law_tape := F__law_tape.binds (ps := ["script", "k"]) fun _ _ _ _ _ _ us hl => match us, hl with | [_, _], _ => rfl
  have b__law_pick := F__law_pick.binds (ps := ["tape", "many"]) fun _ _ _ _ _ _ us hl => match us, hl with | [_, _], _ => rfl
  have b__law_moves := F__law_moves.binds (ps := ["tape", "pacts"]) fun _ _ _ _ _ _ us hl => match us, hl with | [_, _], _ => rfl
  have b__law_prices := F__law_prices.binds (ps := ["tape", "pacts"]) fun _ _ _ _ _ _ us hl => match us, hl with | [_, _], _ => rfl
  have b__law_shuffled := F__law_shuffled.binds (ps := ["tape", "items"]) fun _ _ _ _ _ _ us hl => match us, hl with | [_, _], _ => rfl
  have b__law_position := F__law_position.binds (ps := ["tape", "pacts"]) fun _ _ _ _ _ _ us hl => match us, hl with | [_, _], _ => rfl
  have b__law_near := F__law_near.binds (ps := ["tape", "price"]) fun _ _ _ _ _ _ us hl => match us, hl with | [_, _], _ => rfl
  have b__law_orders := F__law_orders.binds (ps := ["tape", "pacts", "prices", "room"]) fun _ _ _ _ _ _ us hl => match us, hl with | [_, _, _, _], _ => rfl
  have b__law_books := F__law_books.binds (ps := ["tape", "pacts", "prices"]) fun _ _ _ _ _ _ us hl => match us, hl with | [_, _, _], _ => rfl
  have b__law_lists := F__law_lists.binds (ps := ["names"]) fun _ _ _ _ _ _ us hl => match us, hl with | [_], _ => rfl
  have b__law_loss := F__law_loss.binds (ps := ["position", "move"]) fun _ _ _ _ _ _ us hl => match us, hl with | [_, _], _ => rfl
  have b__law_book_loss := F__law_book_loss.binds (ps := ["book", "move", "prices"]) fun _ _ _ _ _ _ us hl => match us, hl with | [_, _, _], _ => rfl
  have b__law_losses := F__law_losses.binds (ps := ["books", "group", "moves", "prices"]) fun _ _ _ _ _ _ us hl => match us, hl with | [_, _, _, _], _ => rfl
  have b__law_need := F__law_need.binds (ps := ["books", "group", "moves", "prices"]) fun _ _ _ _ _ _ us hl => match us, hl with | [_, _, _, _], _ => rfl
  have b__law_same := F__law_same.binds (ps := ["told", "due"]) fun _ _ _ _ _ _ us hl => match us, hl with | [_, _], _ => rfl
  have b_is_name := F_is_name.binds (ps := ["value"]) fun _ _ _ _ _ _ us hl => match us, hl with | [_], _ => rfl
  have b_is_member := F_is_member.binds (ps := ["value"]) fun _ _ _ _ _ _ us hl => match us, hl with | [_], _ => rfl
  have b_is_integer : ∃ ds, Vals [] ds ∧ Binds K fd_is_integer ["value", "least"] ds := FunD.binds1 F_is_integer 2 1 (by simp) rfl fun _ _ _ _ _ _ _ us its h1 h2 => match us, its, h1, h2 with | [_, _], [_], _, _ => ⟨_, rfl, rfl⟩
  have b_is_integer_d : ∃ ds, Vals [.non] ds ∧ Binds K fd_is_integer ["value", "least"] ds := FunD.binds1 F_is_integer 1 0 (by simp) rfl fun _ _ _ _ _ _ _ us its h1 h2 => match us, its, h1, h2 with | [_], [_], _, _ => ⟨_, rfl, rfl⟩
  have b_is_position := F_is_position.binds (ps := ["value"]) fun _ _ _ _ _ _ us hl => match us, hl with | [_], _ => rfl
  have b_is_price := F_is_price.binds (ps := ["value"]) fun _ _ _ _ _ _ us hl => match us, hl with | [_], _ => rfl
  have b_is_standing := F_is_standing.binds (ps := ["value"]) fun _ _ _ _ _ _ us hl => match us, hl with | [_], _ => rfl
  have b_is_book := F_is_book.binds (ps := ["value"]) fun _ _ _ _ _ _ us hl => match us, hl with | [_], _ => rfl
  have b_are_books := F_are_books.binds (ps := ["value"]) fun _ _ _ _ _ _ us hl => match us, hl with | [_], _ => rfl
  have b_is_list := F_is_list.binds (ps := ["value"]) fun _ _ _ _ _ _ us hl => match us, hl with | [_], _ => rfl
  have b_are_owners := F_are_owners.binds (ps := ["value"]) fun _ _ _ _ _ _ us hl => match us, hl with | [_], _ => rfl
  have b_is_move := F_is_move.binds (ps := ["value"]) fun _ _ _ _ _ _ us hl => match us, hl with | [_], _ => rfl
  have b_check_moves := F_check_moves.binds (ps := ["moves"]) fun _ _ _ _ _ _ us hl => match us, hl with | [_], _ => rfl
  have b_check_prices := F_check_prices.binds (ps := ["value"]) fun _ _ _ _ _ _ us hl => match us, hl with | [_], _ => rfl
  have b_check_priced := F_check_priced.binds (ps := ["orders", "prices"]) fun _ _ _ _ _ _ us hl => match us, hl with | [_, _], _ => rfl
  have b_all_orders := F_all_orders.binds (ps := ["books", "members"]) fun _ _ _ _ _ _ us hl => match us, hl with | [_, _], _ => rfl
  have b_check_world := F_check_world.binds (ps := ["books", "moves", "prices"]) fun _ _ _ _ _ _ us hl => match us, hl with | [_, _, _], _ => rfl
  have b_unit_loss := F_unit_loss.binds (ps := ["order", "move", "prices"]) fun _ _ _ _ _ _ us hl => match us, hl with | [_, _, _], _ => rfl
  have b_worst_filled := F_worst_filled.binds (ps := ["orders", "move", "prices"]) fun _ _ _ _ _ _ us hl => match us, hl with | [_, _, _], _ => rfl
  have b_loss_by := F_loss_by.binds (ps := ["position", "move"]) fun _ _ _ _ _ _ us hl => match us, hl with | [_, _], _ => rfl
  have b_loss_with := F_loss_with.binds (ps := ["position", "orders", "move", "prices", "filled"]) fun _ _ _ _ _ _ us hl => match us, hl with | [_, _, _, _, _], _ => rfl
  have b_worst_of := F_worst_of.binds (ps := ["position", "orders", "moves", "prices"]) fun _ _ _ _ _ _ us hl => match us, hl with | [_, _, _, _], _ => rfl
  have b_summed := F_summed.binds (ps := ["one", "other"]) fun _ _ _ _ _ _ us hl => match us, hl with | [_, _], _ => rfl
  have b_joined_position := F_joined_position.binds (ps := ["books", "members"]) fun _ _ _ _ _ _ us hl => match us, hl with | [_, _], _ => rfl
  have b_worst_together := F_worst_together.binds (ps := ["books", "members", "moves", "prices"]) fun _ _ _ _ _ _ us hl => match us, hl with | [_, _, _, _], _ => rfl
  have b_group_need := F_group_need.binds (ps := ["books", "members", "moves", "prices"]) fun _ _ _ _ _ _ us hl => match us, hl with | [_, _, _, _], _ => rfl
  have b_loss_of := F_loss_of.binds (ps := ["book", "move", "prices"]) fun _ _ _ _ _ _ us hl => match us, hl with | [_, _, _], _ => rfl
  have b_sharing := F_sharing.binds (ps := ["books", "moves", "prices"]) fun _ _ _ _ _ _ us hl => match us, hl with | [_, _, _], _ => rfl
  have b__law_objecting := F__law_objecting.binds (ps := ["books", "moves", "prices", "shares"]) fun _ _ _ _ _ _ us hl => match us, hl with | [_, _, _, _], _ => rfl
  have b_are_shares := F_are_shares.binds (ps := ["books", "moves", "prices", "value"]) fun _ _ _ _ _ _ us hl => match us, hl with | [_, _, _, _], _ => rfl
  have b_lists_of := F_lists_of.binds (ps := ["items", "size"]) fun _ _ _ _ _ _ us hl => match us, hl with | [_, _], _ => rfl
  have b_all_lists := F_all_lists.binds (ps := ["names"]) fun _ _ _ _ _ _ us hl => match us, hl with | [_], _ => rfl
  have b_objecting := F_objecting.binds (ps := ["books", "moves", "prices", "shares"]) fun _ _ _ _ _ _ us hl => match us, hl with | [_, _, _, _], _ => rfl
  have b__law_shares_right := F__law_shares_right.binds (ps := ["tape", "books", "moves", "prices", "shares"]) fun _ _ _ _ _ _ us hl => match us, hl with | [_, _, _, _, _], _ => rfl
  have b_own_needs := F_own_needs.binds (ps := ["books", "moves", "prices"]) fun _ _ _ _ _ _ us hl => match us, hl with | [_, _, _], _ => rfl
  have b_saved := F_saved.binds (ps := ["books", "moves", "prices"]) fun _ _ _ _ _ _ us hl => match us, hl with | [_, _, _], _ => rfl
  have b_common_move := F_common_move.binds (ps := ["books", "moves", "prices"]) fun _ _ _ _ _ _ us hl => match us, hl with | [_, _, _], _ => rfl
  refine ⟨fd_law, fun s v => law_binds F_law s v, fun base _ _ => ?_⟩
  have C__law_tape := walk__law_tape (P := l.prog) (w := w) (base := base) X  F__law_tape (PySem.W.mg_of X0 G a__law_tape) b__law_tape
  have C__law_pick := walk__law_pick (P := l.prog) (w := w) (base := base) X  F__law_pick (PySem.W.mg_of X0 G a__law_pick) b__law_pick
  have C__law_moves := walk__law_moves (P := l.prog) (w := w) (base := base) X C__law_pick F__law_moves (PySem.W.mg_of X0 G a__law_moves) b__law_moves
  have C__law_prices := walk__law_prices (P := l.prog) (w := w) (base := base) X C__law_pick F__law_prices (PySem.W.mg_of X0 G a__law_prices) b__law_prices
  have C__law_shuffled := walk__law_shuffled (P := l.prog) (w := w) (base := base) X C__law_pick F__law_shuffled (PySem.W.mg_of X0 G a__law_shuffled) b__law_shuffled
  have C__law_position := walk__law_position (P := l.prog) (w := w) (base := base) X C__law_pick F__law_position (PySem.W.mg_of X0 G a__law_position) b__law_position
  have C__law_near := walk__law_near (P := l.prog) (w := w) (base := base) X C__law_pick F__law_near (PySem.W.mg_of X0 G a__law_near) b__law_near
  have C__law_orders := walk__law_orders (P := l.prog) (w := w) (base := base) X C__law_pick C__law_near F__law_orders (PySem.W.mg_of X0 G a__law_orders) b__law_orders
  have C__law_books := walk__law_books (P := l.prog) (w := w) (base := base) X C__law_shuffled C__law_pick C__law_position C__law_orders F__law_books (PySem.W.mg_of X0 G a__law_books) b__law_books
  have C__law_lists := walk__law_lists (P := l.prog) (w := w) (base := base) X  F__law_lists (PySem.W.mg_of X0 G a__law_lists) b__law_lists
  have C__law_loss := walk__law_loss (P := l.prog) (w := w) (base := base) X  F__law_loss (PySem.W.mg_of X0 G a__law_loss) b__law_loss
  have C__law_book_loss := walk__law_book_loss (P := l.prog) (w := w) (base := base) X C__law_loss F__law_book_loss (PySem.W.mg_of X0 G a__law_book_loss) b__law_book_loss
  have C__law_losses := walk__law_losses (P := l.prog) (w := w) (base := base) X C__law_book_loss F__law_losses (PySem.W.mg_of X0 G a__law_losses) b__law_losses
  have C__law_need := walk__law_need (P := l.prog) (w := w) (base := base) X C__law_losses F__law_need (PySem.W.mg_of X0 G a__law_need) b__law_need
  have C__law_same_I_I := walk__law_same_I_I (P := l.prog) (w := w) (base := base) X  F__law_same (PySem.W.mg_of X0 G a__law_same) b__law_same
  have C_is_name := walk_is_name (P := l.prog) (w := w) (base := base) X  F_is_name (PySem.W.mg_of X0 G a_is_name) b_is_name
  have C_is_member := walk_is_member (P := l.prog) (w := w) (base := base) X C_is_name F_is_member (PySem.W.mg_of X0 G a_is_member) b_is_member
  have C_is_integer := walk_is_integer (P := l.prog) (w := w) (base := base) (dvs := []) X  F_is_integer (PySem.W.mg_of X0 G a_is_integer) b_is_integer
  have C_is_integer_d := walk_is_integer (P := l.prog) (w := w) (base := base) (dvs := [.non]) X  F_is_integer (PySem.W.mg_of X0 G a_is_integer) b_is_integer_d
  have C_is_position := walk_is_position (P := l.prog) (w := w) (base := base) X C_is_member C_is_integer_d F_is_position (PySem.W.mg_of X0 G a_is_position) b_is_position
  have C_is_price := walk_is_price (P := l.prog) (w := w) (base := base) X C_is_integer F_is_price (PySem.W.mg_of X0 G a_is_price) b_is_price
  have C_is_standing := walk_is_standing (P := l.prog) (w := w) (base := base) X C_is_member C_is_price C_is_integer F_is_standing (PySem.W.mg_of X0 G a_is_standing) b_is_standing
  have C_is_book := walk_is_book (P := l.prog) (w := w) (base := base) X C_is_position C_is_standing F_is_book (PySem.W.mg_of X0 G a_is_book) b_is_book
  have C_are_books := walk_are_books (P := l.prog) (w := w) (base := base) X C_is_member C_is_book F_are_books (PySem.W.mg_of X0 G a_are_books) b_are_books
  have C_is_list := walk_is_list (P := l.prog) (w := w) (base := base) X  F_is_list (PySem.W.mg_of X0 G a_is_list) b_is_list
  have C_are_owners := walk_are_owners (P := l.prog) (w := w) (base := base) X C_is_list C_is_member F_are_owners (PySem.W.mg_of X0 G a_are_owners) b_are_owners
  have C_is_move := walk_is_move (P := l.prog) (w := w) (base := base) X C_is_member C_is_integer_d F_is_move (PySem.W.mg_of X0 G a_is_move) b_is_move
  have C_check_moves := walk_check_moves (P := l.prog) (w := w) (base := base) X C_is_move F_check_moves (PySem.W.mg_of X0 G a_check_moves) b_check_moves
  have C_check_prices := walk_check_prices (P := l.prog) (w := w) (base := base) X C_is_member C_is_price F_check_prices (PySem.W.mg_of X0 G a_check_prices) b_check_prices
  have C_check_priced := walk_check_priced (P := l.prog) (w := w) (base := base) X  F_check_priced (PySem.W.mg_of X0 G a_check_priced) b_check_priced
  have C_all_orders := walk_all_orders (P := l.prog) (w := w) (base := base) X  F_all_orders (PySem.W.mg_of X0 G a_all_orders) b_all_orders
  have C_check_world := walk_check_world (P := l.prog) (w := w) (base := base) X C_are_books C_check_moves C_check_prices C_check_priced C_all_orders F_check_world (PySem.W.mg_of X0 G a_check_world) b_check_world
  have C_unit_loss := walk_unit_loss (P := l.prog) (w := w) (base := base) X  F_unit_loss (PySem.W.mg_of X0 G a_unit_loss) b_unit_loss
  have C_worst_filled := walk_worst_filled (P := l.prog) (w := w) (base := base) X C_unit_loss F_worst_filled (PySem.W.mg_of X0 G a_worst_filled) b_worst_filled
  have C_loss_by := walk_loss_by (P := l.prog) (w := w) (base := base) X  F_loss_by (PySem.W.mg_of X0 G a_loss_by) b_loss_by
  have C_loss_with := walk_loss_with (P := l.prog) (w := w) (base := base) X C_unit_loss C_loss_by F_loss_with (PySem.W.mg_of X0 G a_loss_with) b_loss_with
  have C_worst_of := walk_worst_of (P := l.prog) (w := w) (base := base) X C_worst_filled C_loss_with F_worst_of (PySem.W.mg_of X0 G a_worst_of) b_worst_of
  have C_summed := walk_summed (P := l.prog) (w := w) (base := base) X  F_summed (PySem.W.mg_of X0 G a_summed) b_summed
  have C_joined_position := walk_joined_position (P := l.prog) (w := w) (base := base) X C_summed F_joined_position (PySem.W.mg_of X0 G a_joined_position) b_joined_position
  have C_worst_together := walk_worst_together (P := l.prog) (w := w) (base := base) X C_worst_of C_joined_position C_all_orders F_worst_together (PySem.W.mg_of X0 G a_worst_together) b_worst_together
  have O_group_need := ok_group_need (P := l.prog) (w := w) (base := base) X C_are_books C_are_owners C_check_world C_worst_together F_group_need
  have C_group_need := cal_of F_group_need (PySem.W.mg_of X0 G a_group_need) b_group_need O_group_need
  have C_group_need_k3210 := calK_of F_group_need (PySem.W.mg_of X0 G a_group_need) (kwb_3210 F_group_need fun _ _ _ _ _ _ _ _ _ _ => rfl) O_group_need
  have C_is_list_TpS := walk_is_list_TpS (P := l.prog) (w := w) (base := base) X  F_is_list (PySem.W.mg_of X0 G a_is_list) b_is_list
  have C_are_owners_TpS := walk_are_owners_TpS (P := l.prog) (w := w) (base := base) X C_is_list_TpS C_is_member F_are_owners (PySem.W.mg_of X0 G a_are_owners) b_are_owners
  have C_check_moves_TpDSI := walk_check_moves_TpDSI (P := l.prog) (w := w) (base := base) X C_is_move F_check_moves (PySem.W.mg_of X0 G a_check_moves) b_check_moves
  have C_check_world_DSTDSILTSSII_TpDSI_DSI := walk_check_world_DSTDSILTSSII_TpDSI_DSI (P := l.prog) (w := w) (base := base) X C_are_books C_check_moves_TpDSI C_check_prices C_check_priced C_all_orders F_check_world (PySem.W.mg_of X0 G a_check_world) b_check_world
  have C_worst_of_DSI_LTSSII_TpDSI_DSI := walk_worst_of_DSI_LTSSII_TpDSI_DSI (P := l.prog) (w := w) (base := base) X C_worst_filled C_loss_with F_worst_of (PySem.W.mg_of X0 G a_worst_of) b_worst_of
  have C_joined_position_DSTDSILTSSII_TpS := walk_joined_position_DSTDSILTSSII_TpS (P := l.prog) (w := w) (base := base) X C_summed F_joined_position (PySem.W.mg_of X0 G a_joined_position) b_joined_position
  have C_all_orders_DSTDSILTSSII_TpS := walk_all_orders_DSTDSILTSSII_TpS (P := l.prog) (w := w) (base := base) X  F_all_orders (PySem.W.mg_of X0 G a_all_orders) b_all_orders
  have C_worst_together_DSTDSILTSSII_TpS_TpDSI_DSI := walk_worst_together_DSTDSILTSSII_TpS_TpDSI_DSI (P := l.prog) (w := w) (base := base) X C_worst_of_DSI_LTSSII_TpDSI_DSI C_joined_position_DSTDSILTSSII_TpS C_all_orders_DSTDSILTSSII_TpS F_worst_together (PySem.W.mg_of X0 G a_worst_together) b_worst_together
  have C_group_need_DSTDSILTSSII_TpS_TpDSI_DSI := walk_group_need_DSTDSILTSSII_TpS_TpDSI_DSI (P := l.prog) (w := w) (base := base) X C_are_books C_are_owners_TpS C_check_world_DSTDSILTSSII_TpDSI_DSI C_worst_together_DSTDSILTSSII_TpS_TpDSI_DSI F_group_need (PySem.W.mg_of X0 G a_group_need) b_group_need
  have C_loss_of := walk_loss_of (P := l.prog) (w := w) (base := base) X C_loss_with C_worst_filled F_loss_of (PySem.W.mg_of X0 G a_loss_of) b_loss_of
  have O_sharing := ok_sharing (P := l.prog) (w := w) (base := base) X C_check_world C_worst_together C_loss_of F_sharing
  have C_sharing := cal_of F_sharing (PySem.W.mg_of X0 G a_sharing) b_sharing O_sharing
  have C_sharing_k210 := calK_of F_sharing (PySem.W.mg_of X0 G a_sharing) (kwb_210 F_sharing fun _ _ _ _ _ _ _ _ _ => rfl) O_sharing
  have C__law_same_S_S := walk__law_same_S_S (P := l.prog) (w := w) (base := base) X  F__law_same (PySem.W.mg_of X0 G a__law_same) b__law_same
  have C__law_same_LS_LS := walk__law_same_LS_LS (P := l.prog) (w := w) (base := base) X C__law_same_S_S F__law_same (PySem.W.mg_of X0 G a__law_same) b__law_same
  have C__law_same_LI_LI := walk__law_same_LI_LI (P := l.prog) (w := w) (base := base) X C__law_same_I_I F__law_same (PySem.W.mg_of X0 G a__law_same) b__law_same
  have C__law_same_DSI_DSI := walk__law_same_DSI_DSI (P := l.prog) (w := w) (base := base) X C__law_same_LS_LS C__law_same_LI_LI F__law_same (PySem.W.mg_of X0 G a__law_same) b__law_same
  have C__law_objecting := walk__law_objecting (P := l.prog) (w := w) (base := base) X C__law_lists C__law_need F__law_objecting (PySem.W.mg_of X0 G a__law_objecting) b__law_objecting
  have C_are_shares := walk_are_shares (P := l.prog) (w := w) (base := base) X C_is_member C_is_integer_d C_worst_together F_are_shares (PySem.W.mg_of X0 G a_are_shares) b_are_shares
  have C_lists_of := walk_lists_of (P := l.prog) (w := w) (base := base) X  F_lists_of (PySem.W.mg_of X0 G a_lists_of) b_lists_of
  have C_all_lists := walk_all_lists (P := l.prog) (w := w) (base := base) X C_lists_of F_all_lists (PySem.W.mg_of X0 G a_all_lists) b_all_lists
  have O_objecting := ok_objecting (P := l.prog) (w := w) (base := base) X C_check_world C_are_shares C_all_lists C_worst_together F_objecting
  have C_objecting := cal_of F_objecting (PySem.W.mg_of X0 G a_objecting) b_objecting O_objecting
  have C_objecting_k3210 := calK_of F_objecting (PySem.W.mg_of X0 G a_objecting) (kwb_3210 F_objecting fun _ _ _ _ _ _ _ _ _ _ => rfl) O_objecting
  have C__law_same_OLS_OLS := walk__law_same_OLS_OLS (P := l.prog) (w := w) (base := base) X C__law_same_S_S F__law_same (PySem.W.mg_of X0 G a__law_same) b__law_same
  have C__law_shares_right := walk__law_shares_right (P := l.prog) (w := w) (base := base) X C_objecting_k3210 C__law_pick C__law_objecting C_objecting C__law_same_OLS_OLS F__law_shares_right (PySem.W.mg_of X0 G a__law_shares_right) b__law_shares_right
  have C_own_needs := walk_own_needs (P := l.prog) (w := w) (base := base) X C_worst_together F_own_needs (PySem.W.mg_of X0 G a_own_needs) b_own_needs
  have O_saved := ok_saved (P := l.prog) (w := w) (base := base) X C_check_world C_own_needs C_worst_together F_saved
  have C_saved := cal_of F_saved (PySem.W.mg_of X0 G a_saved) b_saved O_saved
  have C_saved_k210 := calK_of F_saved (PySem.W.mg_of X0 G a_saved) (kwb_210 F_saved fun _ _ _ _ _ _ _ _ _ => rfl) O_saved
  have C__law_same_OI_OI := walk__law_same_OI_OI (P := l.prog) (w := w) (base := base) X  F__law_same (PySem.W.mg_of X0 G a__law_same) b__law_same
  have O_common_move := ok_common_move (P := l.prog) (w := w) (base := base) X C_check_world C_own_needs C_loss_of F_common_move
  have C_common_move := cal_of F_common_move (PySem.W.mg_of X0 G a_common_move) b_common_move O_common_move
  have C_common_move_k210 := calK_of F_common_move (PySem.W.mg_of X0 G a_common_move) (kwb_210 F_common_move fun _ _ _ _ _ _ _ _ _ => rfl) O_common_move
  exact ok_law X C__law_tape C__law_pick C__law_moves C__law_prices C__law_books C__law_lists C__law_shuffled C__law_need C__law_same_I_I C_group_need_k3210 C_group_need_DSTDSILTSSII_TpS_TpDSI_DSI C__law_losses C__law_book_loss C_sharing_k210 C__law_same_DSI_DSI C__law_objecting C_sharing C__law_shares_right C_saved_k210 C__law_same_OI_OI C_common_move_k210 F_law law_right
end K89
open PySem PySem.W PyProof.Rows
set_option maxHeartbeats 0 in
theorem PySem.Challenge.cw_beforeclose_k89_whole_shares_nobody_obje_holds : PySem.Challenge.rw_beforeclose_k89_whole_shares_nobody_obje.Holds := by
  w_on; o_law; k_head; (case hw => w_witness2)
  k_fill
  refine DW.row_of (l := PySem.Challenge.rw_beforeclose_k89_whole_shares_nobody_obje) (k := 12) (x := "script") rfl rfl ⟨rfl, by decide, by decide⟩ (fun w h Y => PySem.W.kIn_of Y) ?F
  case F =>
    intro w mg fa h KX G hmg
    refine K89.all_of KX G hmg ⟨?d__law_tape, ?d__law_pick, ?d__law_moves, ?d__law_prices, ?d__law_shuffled, ?d__law_position, ?d__law_near, ?d__law_orders, ?d__law_books, ?d__law_lists, ?d__law_loss, ?d__law_book_loss, ?d__law_losses, ?d__law_need, ?d__law_same, ?d_is_name, ?d_is_member, ?d_is_integer, ?d_is_position, ?d_is_price, ?d_is_standing, ?d_is_book, ?d_are_books, ?d_is_list, ?d_are_owners, ?d_is_move, ?d_check_moves, ?d_check_prices, ?d_check_priced, ?d_all_orders, ?d_check_world, ?d_unit_loss, ?d_worst_filled, ?d_loss_by, ?d_loss_with, ?d_worst_of, ?d_summed, ?d_joined_position, ?d_worst_together, ?d_group_need, ?d_loss_of, ?d_sharing, ?d__law_objecting, ?d_are_shares, ?d_lists_of, ?d_all_lists, ?d_objecting, ?d__law_shares_right, ?d_own_needs, ?d_saved, ?d_common_move, ?d_law, ?b_abs, ?b_all, ?b_any, ?b_bool, ?b_dict, ?b_enumerate, ?b_int, ?b_isinstance, ?b_len, ?b_list, ?b_max, ?b_min, ?b_range, ?b_repr, ?b_set, ?b_sorted, ?b_str, ?b_sum, ?b_tuple, ?b_zip, ?c_LONGEST, ?c_MOST_PRICE, ?c_MOST_MOVES, ?c_LETTERS, ?c_RESERVED, ?t_RESERVED⟩
    case d__law_tape =>
      refine' K89.fn_at ?a_d__law_tape ?l_d__law_tape ?c_d__law_tape ?k_d__law_tape
      (case a_d__law_tape => k_is); (case l_d__law_tape => k_is); (case c_d__law_tape => k_is); (case k_d__law_tape => k_is)
    case d__law_pick =>
      refine' K89.fn_at ?a_d__law_pick ?l_d__law_pick ?c_d__law_pick ?k_d__law_pick
      (case a_d__law_pick => k_is); (case l_d__law_pick => k_is); (case c_d__law_pick => k_is); (case k_d__law_pick => k_is)
    case d__law_moves =>
      refine' K89.fn_at ?a_d__law_moves ?l_d__law_moves ?c_d__law_moves ?k_d__law_moves
      (case a_d__law_moves => k_is); (case l_d__law_moves => k_is); (case c_d__law_moves => k_is); (case k_d__law_moves => k_is)
    case d__law_prices =>
      refine' K89.fn_at ?a_d__law_prices ?l_d__law_prices ?c_d__law_prices ?k_d__law_prices
      (case a_d__law_prices => k_is); (case l_d__law_prices => k_is); (case c_d__law_prices => k_is); (case k_d__law_prices => k_is)
    case d__law_shuffled =>
      refine' K89.fn_at ?a_d__law_shuffled ?l_d__law_shuffled ?c_d__law_shuffled ?k_d__law_shuffled
      (case a_d__law_shuffled => k_is); (case l_d__law_shuffled => k_is); (case c_d__law_shuffled => k_is); (case k_d__law_shuffled => k_is)
    case d__law_position =>
      refine' K89.fn_at ?a_d__law_position ?l_d__law_position ?c_d__law_position ?k_d__law_position
      (case a_d__law_position => k_is); (case l_d__law_position => k_is); (case c_d__law_position => k_is); (case k_d__law_position => k_is)
    case d__law_near =>
      refine' K89.fn_at ?a_d__law_near ?l_d__law_near ?c_d__law_near ?k_d__law_near
      (case a_d__law_near => k_is); (case l_d__law_near => k_is); (case c_d__law_near => k_is); (case k_d__law_near => k_is)
    case d__law_orders =>
      refine' K89.fn_at ?a_d__law_orders ?l_d__law_orders ?c_d__law_orders ?k_d__law_orders
      (case a_d__law_orders => k_is); (case l_d__law_orders => k_is); (case c_d__law_orders => k_is); (case k_d__law_orders => k_is)
    case d__law_books =>
      refine' K89.fn_at ?a_d__law_books ?l_d__law_books ?c_d__law_books ?k_d__law_books
      (case a_d__law_books => k_is); (case l_d__law_books => k_is); (case c_d__law_books => k_is); (case k_d__law_books => k_is)
    case d__law_lists =>
      refine' K89.fn_at ?a_d__law_lists ?l_d__law_lists ?c_d__law_lists ?k_d__law_lists
      (case a_d__law_lists => k_is); (case l_d__law_lists => k_is); (case c_d__law_lists => k_is); (case k_d__law_lists => k_is)
    case d__law_loss =>
      refine' K89.fn_at ?a_d__law_loss ?l_d__law_loss ?c_d__law_loss ?k_d__law_loss
      (case a_d__law_loss => k_is); (case l_d__law_loss => k_is); (case c_d__law_loss => k_is); (case k_d__law_loss => k_is)
    case d__law_book_loss =>
      refine' K89.fn_at ?a_d__law_book_loss ?l_d__law_book_loss ?c_d__law_book_loss ?k_d__law_book_loss
      (case a_d__law_book_loss => k_is); (case l_d__law_book_loss => k_is); (case c_d__law_book_loss => k_is); (case k_d__law_book_loss => k_is)
    case d__law_losses =>
      refine' K89.fn_at ?a_d__law_losses ?l_d__law_losses ?c_d__law_losses ?k_d__law_losses
      (case a_d__law_losses => k_is); (case l_d__law_losses => k_is); (case c_d__law_losses => k_is); (case k_d__law_losses => k_is)
    case d__law_need =>
      refine' K89.fn_at ?a_d__law_need ?l_d__law_need ?c_d__law_need ?k_d__law_need
      (case a_d__law_need => k_is); (case l_d__law_need => k_is); (case c_d__law_need => k_is); (case k_d__law_need => k_is)
    case d__law_same =>
      refine' K89.fn_at ?a_d__law_same ?l_d__law_same ?c_d__law_same ?k_d__law_same
      (case a_d__law_same => k_is); (case l_d__law_same => k_is); (case c_d__law_same => k_is); (case k_d__law_same => k_is)
    case d_is_name =>
      refine' K89.fn_at ?a_d_is_name ?l_d_is_name ?c_d_is_name ?k_d_is_name
      (case a_d_is_name => k_is); (case l_d_is_name => k_is); (case c_d_is_name => k_is); (case k_d_is_name => k_is)
    case d_is_member =>
      refine' K89.fn_at ?a_d_is_member ?l_d_is_member ?c_d_is_member ?k_d_is_member
      (case a_d_is_member => k_is); (case l_d_is_member => k_is); (case c_d_is_member => k_is); (case k_d_is_member => k_is)
    case d_is_integer =>
      refine' K89.fnD_at ?a_d_is_integer ?l_d_is_integer ?c_d_is_integer ?k_d_is_integer ?t_d_is_integer ?d_d_is_integer
      (case a_d_is_integer => k_is); (case l_d_is_integer => k_is); (case c_d_is_integer => k_is); (case k_d_is_integer => k_is); (case t_d_is_integer => k_is); (case d_d_is_integer => rfl)
    case d_is_position =>
      refine' K89.fn_at ?a_d_is_position ?l_d_is_position ?c_d_is_position ?k_d_is_position
      (case a_d_is_position => k_is); (case l_d_is_position => k_is); (case c_d_is_position => k_is); (case k_d_is_position => k_is)
    case d_is_price =>
      refine' K89.fn_at ?a_d_is_price ?l_d_is_price ?c_d_is_price ?k_d_is_price
      (case a_d_is_price => k_is); (case l_d_is_price => k_is); (case c_d_is_price => k_is); (case k_d_is_price => k_is)
    case d_is_standing =>
      refine' K89.fn_at ?a_d_is_standing ?l_d_is_standing ?c_d_is_standing ?k_d_is_standing
      (case a_d_is_standing => k_is); (case l_d_is_standing => k_is); (case c_d_is_standing => k_is); (case k_d_is_standing => k_is)
    case d_is_book =>
      refine' K89.fn_at ?a_d_is_book ?l_d_is_book ?c_d_is_book ?k_d_is_book
      (case a_d_is_book => k_is); (case l_d_is_book => k_is); (case c_d_is_book => k_is); (case k_d_is_book => k_is)
    case d_are_books =>
      refine' K89.fn_at ?a_d_are_books ?l_d_are_books ?c_d_are_books ?k_d_are_books
      (case a_d_are_books => k_is); (case l_d_are_books => k_is); (case c_d_are_books => k_is); (case k_d_are_books => k_is)
    case d_is_list =>
      refine' K89.fn_at ?a_d_is_list ?l_d_is_list ?c_d_is_list ?k_d_is_list
      (case a_d_is_list => k_is); (case l_d_is_list => k_is); (case c_d_is_list => k_is); (case k_d_is_list => k_is)
    case d_are_owners =>
      refine' K89.fn_at ?a_d_are_owners ?l_d_are_owners ?c_d_are_owners ?k_d_are_owners
      (case a_d_are_owners => k_is); (case l_d_are_owners => k_is); (case c_d_are_owners => k_is); (case k_d_are_owners => k_is)
    case d_is_move =>
      refine' K89.fn_at ?a_d_is_move ?l_d_is_move ?c_d_is_move ?k_d_is_move
      (case a_d_is_move => k_is); (case l_d_is_move => k_is); (case c_d_is_move => k_is); (case k_d_is_move => k_is)
    case d_check_moves =>
      refine' K89.fn_at ?a_d_check_moves ?l_d_check_moves ?c_d_check_moves ?k_d_check_moves
      (case a_d_check_moves => k_is); (case l_d_check_moves => k_is); (case c_d_check_moves => k_is); (case k_d_check_moves => k_is)
    case d_check_prices =>
      refine' K89.fn_at ?a_d_check_prices ?l_d_check_prices ?c_d_check_prices ?k_d_check_prices
      (case a_d_check_prices => k_is); (case l_d_check_prices => k_is); (case c_d_check_prices => k_is); (case k_d_check_prices => k_is)
    case d_check_priced =>
      refine' K89.fn_at ?a_d_check_priced ?l_d_check_priced ?c_d_check_priced ?k_d_check_priced
      (case a_d_check_priced => k_is); (case l_d_check_priced => k_is); (case c_d_check_priced => k_is); (case k_d_check_priced => k_is)
    case d_all_orders =>
      refine' K89.fn_at ?a_d_all_orders ?l_d_all_orders ?c_d_all_orders ?k_d_all_orders
      (case a_d_all_orders => k_is); (case l_d_all_orders => k_is); (case c_d_all_orders => k_is); (case k_d_all_orders => k_is)
    case d_check_world =>
      refine' K89.fn_at ?a_d_check_world ?l_d_check_world ?c_d_check_world ?k_d_check_world
      (case a_d_check_world => k_is); (case l_d_check_world => k_is); (case c_d_check_world => k_is); (case k_d_check_world => k_is)
    case d_unit_loss =>
      refine' K89.fn_at ?a_d_unit_loss ?l_d_unit_loss ?c_d_unit_loss ?k_d_unit_loss
      (case a_d_unit_loss => k_is); (case l_d_unit_loss => k_is); (case c_d_unit_loss => k_is); (case k_d_unit_loss => k_is)
    case d_worst_filled =>
      refine' K89.fn_at ?a_d_worst_filled ?l_d_worst_filled ?c_d_worst_filled ?k_d_worst_filled
      (case a_d_worst_filled => k_is); (case l_d_worst_filled => k_is); (case c_d_worst_filled => k_is); (case k_d_worst_filled => k_is)
    case d_loss_by =>
      refine' K89.fn_at ?a_d_loss_by ?l_d_loss_by ?c_d_loss_by ?k_d_loss_by
      (case a_d_loss_by => k_is); (case l_d_loss_by => k_is); (case c_d_loss_by => k_is); (case k_d_loss_by => k_is)
    case d_loss_with =>
      refine' K89.fn_at ?a_d_loss_with ?l_d_loss_with ?c_d_loss_with ?k_d_loss_with
      (case a_d_loss_with => k_is); (case l_d_loss_with => k_is); (case c_d_loss_with => k_is); (case k_d_loss_with => k_is)
    case d_worst_of =>
      refine' K89.fn_at ?a_d_worst_of ?l_d_worst_of ?c_d_worst_of ?k_d_worst_of
      (case a_d_worst_of => k_is); (case l_d_worst_of => k_is); (case c_d_worst_of => k_is); (case k_d_worst_of => k_is)
    case d_summed =>
      refine' K89.fn_at ?a_d_summed ?l_d_summed ?c_d_summed ?k_d_summed
      (case a_d_summed => k_is); (case l_d_summed => k_is); (case c_d_summed => k_is); (case k_d_summed => k_is)
    case d_joined_position =>
      refine' K89.fn_at ?a_d_joined_position ?l_d_joined_position ?c_d_joined_position ?k_d_joined_position
      (case a_d_joined_position => k_is); (case l_d_joined_position => k_is); (case c_d_joined_position => k_is); (case k_d_joined_position => k_is)
    case d_worst_together =>
      refine' K89.fn_at ?a_d_worst_together ?l_d_worst_together ?c_d_worst_together ?k_d_worst_together
      (case a_d_worst_together => k_is); (case l_d_worst_together => k_is); (case c_d_worst_together => k_is); (case k_d_worst_together => k_is)
    case d_group_need =>
      refine' K89.fn_at ?a_d_group_need ?l_d_group_need ?c_d_group_need ?k_d_group_need
      (case a_d_group_need => k_is); (case l_d_group_need => k_is); (case c_d_group_need => k_is); (case k_d_group_need => k_is)
    case d_loss_of =>
      refine' K89.fn_at ?a_d_loss_of ?l_d_loss_of ?c_d_loss_of ?k_d_loss_of
      (case a_d_loss_of => k_is); (case l_d_loss_of => k_is); (case c_d_loss_of => k_is); (case k_d_loss_of => k_is)
    case d_sharing =>
      refine' K89.fn_at ?a_d_sharing ?l_d_sharing ?c_d_sharing ?k_d_sharing
      (case a_d_sharing => k_is); (case l_d_sharing => k_is); (case c_d_sharing => k_is); (case k_d_sharing => k_is)
    case d__law_objecting =>
      refine' K89.fn_at ?a_d__law_objecting ?l_d__law_objecting ?c_d__law_objecting ?k_d__law_objecting
      (case a_d__law_objecting => k_is); (case l_d__law_objecting => k_is); (case c_d__law_objecting => k_is); (case k_d__law_objecting => k_is)
    case d_are_shares =>
      refine' K89.fn_at ?a_d_are_shares ?l_d_are_shares ?c_d_are_shares ?k_d_are_shares
      (case a_d_are_shares => k_is); (case l_d_are_shares => k_is); (case c_d_are_shares => k_is); (case k_d_are_shares => k_is)
    case d_lists_of =>
      refine' K89.fn_at ?a_d_lists_of ?l_d_lists_of ?c_d_lists_of ?k_d_lists_of
      (case a_d_lists_of => k_is); (case l_d_lists_of => k_is); (case c_d_lists_of => k_is); (case k_d_lists_of => k_is)
    case d_all_lists =>
      refine' K89.fn_at ?a_d_all_lists ?l_d_all_lists ?c_d_all_lists ?k_d_all_lists
      (case a_d_all_lists => k_is); (case l_d_all_lists => k_is); (case c_d_all_lists => k_is); (case k_d_all_lists => k_is)
    case d_objecting =>
      refine' K89.fn_at ?a_d_objecting ?l_d_objecting ?c_d_objecting ?k_d_objecting
      (case a_d_objecting => k_is); (case l_d_objecting => k_is); (case c_d_objecting => k_is); (case k_d_objecting => k_is)
    case d__law_shares_right =>
      refine' K89.fn_at ?a_d__law_shares_right ?l_d__law_shares_right ?c_d__law_shares_right ?k_d__law_shares_right
      (case a_d__law_shares_right => k_is); (case l_d__law_shares_right => k_is); (case c_d__law_shares_right => k_is); (case k_d__law_shares_right => k_is)
    case d_own_needs =>
      refine' K89.fn_at ?a_d_own_needs ?l_d_own_needs ?c_d_own_needs ?k_d_own_needs
      (case a_d_own_needs => k_is); (case l_d_own_needs => k_is); (case c_d_own_needs => k_is); (case k_d_own_needs => k_is)
    case d_saved =>
      refine' K89.fn_at ?a_d_saved ?l_d_saved ?c_d_saved ?k_d_saved
      (case a_d_saved => k_is); (case l_d_saved => k_is); (case c_d_saved => k_is); (case k_d_saved => k_is)
    case d_common_move =>
      refine' K89.fn_at ?a_d_common_move ?l_d_common_move ?c_d_common_move ?k_d_common_move
      (case a_d_common_move => k_is); (case l_d_common_move => k_is); (case c_d_common_move => k_is); (case k_d_common_move => k_is)
    case d_law =>
      refine' K89.fn_at ?a_d_law ?l_d_law ?c_d_law ?k_d_law
      (case a_d_law => k_is); (case l_d_law => k_is); (case c_d_law => k_is); (case k_d_law => k_is)
    (case b_abs => k_is)
    (case b_all => k_is)
    (case b_any => k_is)
    (case b_bool => k_is)
    (case b_dict => k_is)
    (case b_enumerate => k_is)
    (case b_int => k_is)
    (case b_isinstance => k_is)
    (case b_len => k_is)
    (case b_list => k_is)
    (case b_max => k_is)
    (case b_min => k_is)
    (case b_range => k_is)
    (case b_repr => k_is)
    (case b_set => k_is)
    (case b_sorted => k_is)
    (case b_str => k_is)
    (case b_sum => k_is)
    (case b_tuple => k_is)
    (case b_zip => k_is)
    (case c_LONGEST => kernel_rfl)
    (case c_MOST_PRICE => kernel_rfl)
    (case c_MOST_MOVES => kernel_rfl)
    (case c_LETTERS => kernel_rfl)
    (case c_RESERVED => kernel_rfl)
    (case t_RESERVED => kernel_rfl)
