import PyProof.Rows.All
import Wide.All
import OpenK.AllK
import Wide.FinOn
import HandS.ForMost
import HandS.Wide
import HandS.Style
import HandS.SortInts
import HandS.IsInst
import HandS.Zip
import HandS.Defaults
import HandS.Flt
import KE.KDictZip
import HandS.NoneIn
import HandS.TupLe
import HandS.DictComp
import HandS.Conv
import HandS.WordsExc
import HandS.SetFor
import KE.SortData
import PyProof.StrOps2
import HandS.Codes
import KE.GoesEnumKw
import PyProof.Rows.StrRev
import HandS.WideBits
import KE.DataMinMax
import KE.DatumMoreOrd
import HandS.SortKw
import PyProof.Rows.RowBridgeK
import HandS.Steps
import HandS.FStr
import HandS.Deep
import HandS.Text
import HandS.ExcIs
import HandS.CallLocal
import HandS.HotCalls
import HandS.SetBool
import PySem.Challenge.RW_pleatpunch_k71_ring_foldings
set_option Elab.async false
set_option linter.all false
set_option maxRecDepth 100000
/-! DL: typed weakest preconditions over the hand layer's readings: tags, frozen heaps, representations, judgements. -/
namespace DL
open PySem PySem.Spec PyProof.Rows L2

abbrev Sl := List (Option V)
/-! ### tags -/
inductive Tg where
  | oth | frz | tok
  | own (i : Nat)
abbrev Gh := Addr → Tg
def isTup : HO → Bool
  | .tup _ => true
  | _ => false
def isFrz : Tg → Bool
  | .frz => true
  | _ => false
/-- what never changes: tuples, and what is tagged frozen -/
def Fz (g : Gh) (H : Hp) : Hp := fun a => match H a with
  | none => none
  | some o => if isTup o || isFrz (g a) then some o else none
theorem fz_some {g : Gh} {H : Hp} {a : Addr} {o : HO} : Fz g H a = some o ↔ H a = some o ∧ (isTup o = true ∨ isFrz (g a) = true) := by
  unfold Fz
  cases h : H a with
  | none => simp
  | some u =>
    simp only [Option.some.injEq]
    by_cases c : (isTup u || isFrz (g a)) = true
    · rw [if_pos c]
      simp only [Option.some.injEq]
      constructor
      · rintro rfl
        exact ⟨rfl, by simpa using c⟩
      · exact fun z => z.1
    · rw [if_neg c]
      constructor
      · intro z
        cases z
      · rintro ⟨rfl, z⟩
        exact absurd (by simpa using z) c
theorem fz_sub {g : Gh} {H : Hp} : Same (Fz g H) H := fun a o h => (fz_some.mp h).1
theorem isFrz_iff {t : Tg} : isFrz t = true ↔ t = .frz := by cases t <;> simp [isFrz]

/-- a later state: what stood keeps its tag; what is no token stays -/
def Ext (g : Gh) (H : Hp) (g' : Gh) (H' : Hp) : Prop := ∀ a o, H a = some o → g' a = g a ∧ (g a ≠ .tok → H' a = some o)
/-- what a token looks like behind so many draws; most draws there are -/
structure TokP where
  Tk : Nat → HO → Prop
  nt : ∀ b xs, ¬ Tk b (.tup xs)
  up : ∀ {b b' o}, b ≤ b' → Tk b o → Tk b' o
  B : Nat
structure Act where
  g0 : Gh
  H0 : Hp
  noown : ∀ a i, g0 a ≠ .own i
variable {P : TokP} {K : PySem.W.Frag}
structure Good (P : TokP) (A : Act) (b0 : Nat) (g : Gh) (H : Hp) : Prop where
  ext : Ext A.g0 A.H0 g H
  tok : ∀ a, g a = .tok → ∃ o, H a = some o ∧ P.Tk b0 o
  non : ∀ a, H a = none → g a = .oth
structure Le (g : Gh) (H : Hp) (g' : Gh) (H' : Hp) : Prop where
  fz : Same (Fz g H) (Fz g' H')
  tk : ∀ a, g a = .tok → g' a = .tok
/-- what the slot i owns stays -/
def Ow (i : Nat) (g : Gh) (H : Hp) (g' : Gh) (H' : Hp) : Prop := ∀ a o, g a = .own i → H a = some o → g' a = .own i ∧ H' a = some o
/-- .. and what is owned stays -/
structure Lx (g : Gh) (H : Hp) (g' : Gh) (H' : Hp) : Prop extends Le g H g' H' where
  ow : ∀ i, Ow i g H g' H'
theorem Le.refl (g : Gh) (H : Hp) : Le g H g H := ⟨Same.refl _, fun _ h => h⟩
theorem Le.trans {g g1 g2 : Gh} {H H1 H2 : Hp} (a : Le g H g1 H1) (b : Le g1 H1 g2 H2) : Le g H g2 H2 := ⟨a.fz.trans b.fz, fun c h => b.tk c (a.tk c h)⟩
theorem Lx.refl (g : Gh) (H : Hp) : Lx g H g H := ⟨Le.refl g H, fun _ _ _ h e => ⟨h, e⟩⟩
theorem Ext.refl (g : Gh) (H : Hp) : Ext g H g H := fun _ _ h => ⟨rfl, fun _ => h⟩
theorem Good.refl {P : TokP} {A : Act} {b0 : Nat} (ht : ∀ a, A.g0 a = .tok → ∃ o, A.H0 a = some o ∧ P.Tk b0 o) (hn : ∀ a, A.H0 a = none → A.g0 a = .oth) : Good P A b0 A.g0 A.H0 := ⟨Ext.refl _ _, ht, hn⟩
theorem Good.up {A : Act} {b0 b1 : Nat} {g : Gh} {H : Hp} (G : Good P A b0 g H) (h : b0 ≤ b1) : Good P A b1 g H := ⟨G.ext, fun a ha => let ⟨o, e, t⟩ := G.tok a ha; ⟨o, e, P.up h t⟩, G.non⟩
section
variable {A A' : Act} {b0 b1 : Nat} {g g1 g2 g' : Gh} {H H1 H2 H' : Hp}
theorem Good.there (G : Good P A b0 g H) {a : Addr} (h : g a ≠ .oth) : ∃ o, H a = some o := by
  cases e : H a with
  | none => exact absurd (G.non a e) h
  | some o => exact ⟨o, rfl⟩
theorem Ext.lx (G : Good P A b0 g H) (e : Ext g H g' H') : Lx g H g' H' := by
  refine ⟨⟨fun a o h => ?_, fun a h => ?_⟩, fun i a o h ho => ?_⟩
  · obtain ⟨ho, z⟩ := fz_some.mp h
    obtain ⟨e1, e2⟩ := e a o ho
    have nt : g a ≠ .tok := by
      intro q
      obtain ⟨u, hu, tu⟩ := G.tok a q
      rw [ho] at hu
      cases hu
      rcases z with z | z
      · cases o <;> simp [isTup] at z
        exact P.nt _ _ tu
      · rw [isFrz_iff.mp z] at q
        cases q
    exact fz_some.mpr ⟨e2 nt, by rw [e1]; exact z⟩
  · obtain ⟨o, ho⟩ := G.there (a := a) (by rw [h]; simp)
    rw [(e a o ho).1]
    exact h
  · obtain ⟨e1, e2⟩ := e a o ho
    exact ⟨e1.trans h, e2 (by rw [h]; simp)⟩
theorem Ext.le (G : Good P A b0 g H) (e : Ext g H g' H') : Le g H g' H' := (e.lx G).toLe
theorem Ext.trans (G1 : Good P A b0 g1 H1) (a : Ext g H g1 H1) (b : Ext g1 H1 g2 H2) : Ext g H g2 H2 := fun c o h => by
  obtain ⟨a1, a2⟩ := a c o h
  by_cases q : g c = .tok
  · obtain ⟨o1, h1, _⟩ := G1.tok c (a1.trans q)
    exact ⟨(b c o1 h1).1.trans a1, fun z => absurd q z⟩
  · obtain ⟨b1, b2⟩ := b c o (a2 q)
    exact ⟨b1.trans a1, fun _ => b2 (by rw [a1]; exact q)⟩
theorem Ext.keeps (G1 : Good P A b0 g1 H1) (a : Ext g H g1 H1) {c : Addr} (h : H1 c = none) : H c = none := by
  cases e : H c with
  | none => rfl
  | some o =>
    obtain ⟨a1, a2⟩ := a c o e
    by_cases q : g c = .tok
    · obtain ⟨o1, h1, _⟩ := G1.tok c (a1.trans q)
      rw [h] at h1
      cases h1
    · rw [a2 q] at h
      cases h
theorem Good.noown0 (G : Good P A b0 g H) {a : Addr} {i : Nat} (h : g a = .own i) : A.H0 a = none := by
  cases e : A.H0 a with
  | none => rfl
  | some o => exact absurd ((G.ext a o e).1.symm.trans h) (A.noown a i)
/-- one cell is new, with any tag but token -/
def tagAt (g : Gh) (a : Addr) (t : Tg) : Gh := fun b => if b = a then t else g b
theorem tagAt_same {g : Gh} {a : Addr} {t : Tg} : tagAt g a t a = t := if_pos rfl
theorem tagAt_ne {g : Gh} {a b : Addr} {t : Tg} (h : b ≠ a) : tagAt g a t b = g b := if_neg h
theorem Good.new (G : Good P A b0 g H) {a : Addr} {o : HO} {t : Tg} (h : H a = none) (ht : t = .tok → P.Tk b0 o) : Good P A b0 (tagAt g a t) (upd H a o) ∧ Ext g H (tagAt g a t) (upd H a o) := by
  have ex : Ext g H (tagAt g a t) (upd H a o) := fun b u hb => by
    have ne : b ≠ a := ne_of_none hb h
    rw [tagAt_ne ne, upd_ne ne]
    exact ⟨rfl, fun _ => hb⟩
  refine ⟨⟨G.ext.trans G ex, fun b hb => ?_, fun b hb => ?_⟩, ex⟩
  · by_cases e : b = a
    · subst e
      rw [tagAt_same] at hb
      exact ⟨o, upd_same, ht hb⟩
    · rw [tagAt_ne e] at hb
      obtain ⟨u, hu, tu⟩ := G.tok b hb
      exact ⟨u, by rw [upd_ne e]; exact hu, tu⟩
  · by_cases e : b = a
    · subst e
      rw [upd_same] at hb
      cases hb
    · rw [upd_ne e] at hb
      rw [tagAt_ne e]
      exact G.non b hb
/-- a cell that came behind the entry, no token, is written -/
theorem Good.put (G : Good P A b0 g H) {a : Addr} {o u : HO} (h0 : A.H0 a = none) (ho : H a = some o) (hg : g a ≠ .tok) : Good P A b0 g (upd H a u) := by
  refine ⟨fun b v hb => ?_, fun b hb => ?_, fun b hb => ?_⟩
  · have ne : b ≠ a := ne_of_none hb h0
    rw [upd_ne ne]
    exact G.ext b v hb
  · have ne : b ≠ a := fun e => by
      subst e
      exact hg hb
    rw [upd_ne ne]
    exact G.tok b hb
  · have ne : b ≠ a := fun e => by
      subst e
      rw [upd_same] at hb
      cases hb
    rw [upd_ne ne] at hb
    exact G.non b hb
theorem lx_write {a : Addr} {o u : HO} (hg : g a = .oth) (ho : H a = some o) (hn : isTup o = false) : Lx g H g (upd H a u) := by
  refine ⟨⟨fun b v hb => ?_, fun _ h => h⟩, fun i b v hb hv => ⟨hb, ?_⟩⟩
  · obtain ⟨hv, z⟩ := fz_some.mp hb
    have ne : b ≠ a := fun e => by
      subst e
      rw [ho] at hv
      cases hv
      rcases z with z | z
      · rw [hn] at z
        cases z
      · rw [isFrz_iff.mp z] at hg
        cases hg
    exact fz_some.mpr ⟨by rw [upd_ne ne]; exact hv, z⟩
  · have ne : b ≠ a := fun e => by
      subst e
      rw [hg] at hb
      cases hb
    rw [upd_ne ne]
    exact hv
/-- a new cell without a tag -/
theorem Good.new0 (G : Good P A b0 g H) {a : Addr} {o : HO} (h : H a = none) : Good P A b0 g (upd H a o) ∧ Ext g H g (upd H a o) := by
  have q := G.new (a := a) (o := o) (t := .oth) h (fun z => nomatch z)
  have e : tagAt g a .oth = g := by
    funext b
    by_cases z : b = a
    · subst z
      rw [tagAt_same, G.non b h]
    · rw [tagAt_ne z]
  rw [e] at q
  exact q
/-- a cell that came behind the entry and is no token is tagged anew -/
theorem Good.retag (G : Good P A b0 g H) {a : Addr} {t : Tg} {o : HO} (h0 : A.H0 a = none) (ho : H a = some o) (hg : g a ≠ .tok) (ht : t = .tok → P.Tk b0 o) : Good P A b0 (tagAt g a t) H := by
  refine ⟨fun b u hb => ?_, fun b hb => ?_, fun b hb => ?_⟩
  · have ne : b ≠ a := ne_of_none hb h0
    rw [tagAt_ne ne]
    exact G.ext b u hb
  · by_cases e : b = a
    · subst e
      rw [tagAt_same] at hb
      exact ⟨o, ho, ht hb⟩
    · rw [tagAt_ne e] at hb
      exact G.tok b hb
  · by_cases e : b = a
    · subst e
      rw [ho] at hb
      cases hb
    · rw [tagAt_ne e]
      exact G.non b hb
/-- an owned cell is written -/
theorem Good.write (G : Good P A b0 g H) {a : Addr} {i : Nat} {o u : HO} (hg : g a = .own i) (ho : H a = some o) : Good P A b0 g (upd H a u) := by
  have h0 := G.noown0 hg
  refine ⟨fun b v hb => ?_, fun b hb => ?_, fun b hb => ?_⟩
  · have ne : b ≠ a := ne_of_none hb h0
    rw [upd_ne ne]
    exact G.ext b v hb
  · have ne : b ≠ a := fun e => by
      subst e
      rw [hg] at hb
      cases hb
    rw [upd_ne ne]
    exact G.tok b hb
  · have ne : b ≠ a := fun e => by
      subst e
      rw [upd_same] at hb
      cases hb
    rw [upd_ne ne] at hb
    exact G.non b hb
theorem Good.write_le (_G : Good P A b0 g H) {a : Addr} {i : Nat} {o u : HO} (hg : g a = .own i) (ho : H a = some o) (hn : isTup o = false) : Le g H g (upd H a u) := by
  refine ⟨fun b v hb => ?_, fun _ h => h⟩
  obtain ⟨hv, z⟩ := fz_some.mp hb
  have ne : b ≠ a := fun e => by
    subst e
    rw [ho] at hv
    cases hv
    rcases z with z | z
    · rw [hn] at z
      cases z
    · rw [isFrz_iff.mp z] at hg
      cases hg
  exact fz_some.mpr ⟨by rw [upd_ne ne]; exact hv, z⟩
/-- what is frozen anew stays what it was -/
theorem le_tag {a : Addr} {t : Tg} (h1 : g a ≠ .frz) (h2 : g a ≠ .tok) : Le g H (tagAt g a t) H := by
  refine ⟨fun b v hb => ?_, fun b h => ?_⟩
  · obtain ⟨hv, z⟩ := fz_some.mp hb
    refine fz_some.mpr ⟨hv, ?_⟩
    rcases z with z | z
    · exact .inl z
    · right
      have ne : b ≠ a := fun e => by
        subst e
        exact h1 (isFrz_iff.mp z)
      rw [tagAt_ne ne]
      exact z
  · have ne : b ≠ a := fun e => by
      subst e
      exact h2 h
    rw [tagAt_ne ne]
    exact h
end

/-! ### representations -/
class Rp (K : PySem.W.Frag) (α : Type) where
  rp : Hp → V → α → Prop
  mono : ∀ {F F' : Hp} {v : V} {x : α}, Same F F' → rp F v x → rp F' v x
theorem Paired.rp_mono {α : Type} [Rp K α] {F F' : Hp} (s : Same F F') {vs : List V} {xs : List α} (h : Paired (Rp.rp K F) vs xs) : Paired (Rp.rp K F') vs xs := Paired.mapP h fun _ _ q => Rp.mono s q
theorem Same.tup {K : PySem.W.Frag} {H H' : Hp} {a : Addr} {xs : List V} (e : Same H H') (h : SqT K H a xs) : SqT K H' a xs := by
  rcases h with (h | ⟨o, h⟩) | h
  · exact .inl (.inl (e _ _ h))
  · exact .inl (.inr ⟨o, e _ _ h⟩)
  · exact .inr h
instance : Rp K Int := ⟨fun _ v x => v = .int x, fun _ h => h⟩
instance : Rp K Bool := ⟨fun _ v x => v = .bl x, fun _ h => h⟩
instance : Rp K Str := ⟨fun _ v x => v = .str x, fun _ h => h⟩
instance : Rp K Unit := ⟨fun _ v _ => v = .non, fun _ h => h⟩
instance {α : Type} [Rp K α] : Rp K (List α) := ⟨fun F v xs => ∃ a vs, v = .ref a ∧ F a = some (.lst vs) ∧ Paired (Rp.rp K F) vs xs ∧ xs.length ≤ 9223372036854775808,
  fun s ⟨a, vs, e, h, q, l⟩ => ⟨a, vs, e, s _ _ h, Paired.rp_mono s q, l⟩⟩
/-- a tuple that stands in the heap, or in the written part -/
def TpAt (K : PySem.W.Frag) (F : Hp) (a : Addr) (xs : List V) : Prop := F a = some (.tup xs) ∨ SqT K (fun _ => none) a xs
theorem TpAt.mono {F F' : Hp} {a : Addr} {xs : List V} (h : ∀ b zs, F b = some (.tup zs) → F' b = some (.tup zs)) (q : TpAt K F a xs) : TpAt K F' a xs := q.imp (h _ _) id
theorem TpAt.sq {F H : Hp} {a : Addr} {xs : List V} (s : Same F H) (q : TpAt K F a xs) : SqT K H a xs := by
  rcases q with q | q
  · exact .inl (.inl (s _ _ q))
  · exact Same.tup (fun _ _ z => by cases z) q
instance {α β : Type} [Rp K α] [Rp K β] : Rp K (α × β) := ⟨fun F v x => ∃ a v1 v2, v = .ref a ∧ TpAt K F a [v1, v2] ∧ Rp.rp K F v1 x.1 ∧ Rp.rp K F v2 x.2,
  fun s ⟨a, v1, v2, e, h, q1, q2⟩ => ⟨a, v1, v2, e, h.mono fun _ _ z => s _ _ z, Rp.mono s q1, Rp.mono s q2⟩⟩
structure T3 (α β γ : Type) where
  a : α
  b : β
  c : γ
instance {α β γ : Type} [Rp K α] [Rp K β] [Rp K γ] : Rp K (T3 α β γ) := ⟨fun F v x => ∃ a v1 v2 v3, v = .ref a ∧ TpAt K F a [v1, v2, v3] ∧ Rp.rp K F v1 x.a ∧ Rp.rp K F v2 x.b ∧ Rp.rp K F v3 x.c,
  fun s ⟨a, v1, v2, v3, e, h, q1, q2, q3⟩ => ⟨a, v1, v2, v3, e, h.mono fun _ _ z => s _ _ z, Rp.mono s q1, Rp.mono s q2, Rp.mono s q3⟩⟩
instance {α : Type} [Rp K α] : Rp K (Option α) := ⟨fun F v x => match x with | none => v = .non | some y => v ≠ .non ∧ Rp.rp K F v y,
  fun {F F' v x} s h => match x, h with | none, h => h | some _, h => ⟨h.1, Rp.mono s h.2⟩⟩
/-- what leans on tuples alone -/
class Flat (K : PySem.W.Frag) (α : Type) [Rp K α] : Prop where
  fl : ∀ {F F' : Hp} {v : V} {x : α}, (∀ b zs, F b = some (.tup zs) → F' b = some (.tup zs)) → Rp.rp K F v x → Rp.rp K F' v x
instance : Flat K Int := ⟨fun _ h => h⟩
instance : Flat K Bool := ⟨fun _ h => h⟩
instance : Flat K Str := ⟨fun _ h => h⟩
instance : Flat K Unit := ⟨fun _ h => h⟩
instance {α β : Type} [Rp K α] [Rp K β] [Flat K α] [Flat K β] : Flat K (α × β) := ⟨fun s ⟨a, v1, v2, e, h, q1, q2⟩ => ⟨a, v1, v2, e, h.mono s, Flat.fl s q1, Flat.fl s q2⟩⟩
instance {α β γ : Type} [Rp K α] [Rp K β] [Rp K γ] [Flat K α] [Flat K β] [Flat K γ] : Flat K (T3 α β γ) := ⟨fun s ⟨a, v1, v2, v3, e, h, q1, q2, q3⟩ => ⟨a, v1, v2, v3, e, h.mono s, Flat.fl s q1, Flat.fl s q2, Flat.fl s q3⟩⟩
instance {α : Type} [Rp K α] [Flat K α] : Flat K (Option α) := ⟨by
  intro F F' v x s h
  cases x with
  | none => exact h
  | some y => exact ⟨h.1, Flat.fl s h.2⟩⟩
/-- the script: a list of whole numbers that nobody writes -/
structure Scr where
  xs : List Int
  le : xs.length ≤ 63
instance : Rp K Scr := ⟨fun F v x => ∃ a, v = .ref a ∧ SqL K F a (x.xs.map V.int), fun s ⟨a, e, h⟩ => ⟨a, e, Same.seq s h⟩⟩

/-! ### kinds of values, of slots, of results -/
structure Vk where
  T : Type
  rel : V → T → Gh → Hp → Prop
  mono : ∀ {v x g H g' H'}, Le g H g' H' → rel v x g H → rel v x g' H'
@[reducible] def vF (K : PySem.W.Frag) (α : Type) [Rp K α] : Vk := ⟨α, fun v x g H => Rp.rp K (Fz g H) v x, fun l h => Rp.mono l.fz h⟩
@[reducible] def vT : Vk := ⟨Unit, fun v _ g _ => ∃ p, v = .ref p ∧ g p = .tok, fun l ⟨p, e, h⟩ => ⟨p, e, l.tk p h⟩⟩
structure Kd where
  T : Type
  rel : Nat → Option V → T → Gh → Hp → Prop
  st : ∀ {i y x g H g' H'}, Le g H g' H' → Ow i g H g' H' → rel i y x g H → rel i y x g' H'
@[reducible] def kU : Kd := ⟨Unit, fun _ _ _ _ _ => True, fun _ _ h => h⟩
@[reducible] def kV (k : Vk) : Kd := ⟨k.T, fun _ y x g H => ∃ v, y = some v ∧ k.rel v x g H, fun l _ ⟨v, e, h⟩ => ⟨v, e, k.mono l h⟩⟩
abbrev kF (K : PySem.W.Frag) (α : Type) [Rp K α] : Kd := kV (vF K α)
abbrev kT : Kd := kV vT
@[reducible] def kO (K : PySem.W.Frag) (α : Type) [Rp K α] : Kd := ⟨List α, fun i y x g H => ∃ p vs, y = some (.ref p) ∧ g p = .own i ∧ H p = some (.lst vs) ∧ Paired (Rp.rp K (Fz g H)) vs x ∧ x.length ≤ 9223372036854775808,
  fun l o ⟨p, vs, e, h1, h2, h3, hl⟩ => ⟨p, vs, e, (o p _ h1 h2).1, (o p _ h1 h2).2, Paired.rp_mono l.fz h3, hl⟩⟩
@[reducible] def TupT : List Kd → Type
  | [] => Unit
  | k :: ks => k.T × TupT ks
def RelL : (ks : List Kd) → Nat → TupT ks → Sl → Gh → Hp → Prop
  | [], _, _, σ, _, _ => σ = []
  | k :: ks, i, x, σ, g, H => ∃ y r, σ = y :: r ∧ k.rel i y x.1 g H ∧ RelL ks (i + 1) x.2 r g H
theorem RelL.st {g g' : Gh} {H H' : Hp} (l : Lx g H g' H') : ∀ {ks : List Kd} {i : Nat} {γ : TupT ks} {σ : Sl}, RelL ks i γ σ g H → RelL ks i γ σ g' H'
  | [], _, _, _, h => h
  | _ :: _, _, _, _, ⟨y, r, e, h, q⟩ => ⟨y, r, e, Kd.st _ l.toLe (l.ow _) h, RelL.st l q⟩
structure Acc (ks : List Kd) (n : Nat) (k : Kd) where
  get : TupT ks → k.T
  ok : ∀ {i γ σ g H}, RelL ks i γ σ g H → ∃ y, σ[n]? = some y ∧ k.rel (i + n) y (get γ) g H
def Acc.z {k : Kd} {ks : List Kd} : Acc (k :: ks) 0 k := ⟨fun γ => γ.1, fun ⟨y, r, e, h, _⟩ => ⟨y, by rw [e]; rfl, h⟩⟩
def Acc.s {k k' : Kd} {ks : List Kd} {n : Nat} (a : Acc ks n k) : Acc (k' :: ks) (n + 1) k := ⟨fun γ => a.get γ.2, fun {i γ σ g H} ⟨y, r, e, _, q⟩ => by
  obtain ⟨z, e1, h1⟩ := a.ok q
  refine ⟨z, by rw [e]; exact e1, ?_⟩
  rw [show i + (n + 1) = i + 1 + n by omega]
  exact h1⟩
structure Put (ks : List Kd) (n : Nat) (k : Kd) (ks' : List Kd) where
  put : TupT ks → k.T → TupT ks'
  ok : ∀ {i γ σ g H g' H' y x}, RelL ks i γ σ g H → Le g H g' H' → (∀ j, j ≠ i + n → Ow j g H g' H') → k.rel (i + n) y x g' H' → RelL ks' i (put γ x) (σ.set n y) g' H'
theorem RelL.stFrom {g g' : Gh} {H H' : Hp} (l : Le g H g' H') : ∀ {ks : List Kd} {i : Nat} {γ : TupT ks} {σ : Sl}, (∀ j, i ≤ j → Ow j g H g' H') → RelL ks i γ σ g H → RelL ks i γ σ g' H'
  | [], _, _, _, _, h => h
  | _ :: _, i, _, _, o, ⟨y, r, e, h, q⟩ => ⟨y, r, e, Kd.st _ l (o i (Nat.le_refl i)) h, RelL.stFrom l (fun j hj => o j (by omega)) q⟩
def Put.z {k k' : Kd} {ks : List Kd} : Put (k' :: ks) 0 k (k :: ks) := ⟨fun γ x => (x, γ.2), fun {i γ σ g H g' H' y x} ⟨y0, r, e, _, q⟩ l o h => ⟨y, r, by rw [e]; rfl, h, RelL.stFrom l (fun j hj => o j (by omega)) q⟩⟩
def Put.s {k k' : Kd} {ks ks' : List Kd} {n : Nat} (a : Put ks n k ks') : Put (k' :: ks) (n + 1) k (k' :: ks') := ⟨fun γ x => (γ.1, a.put γ.2 x), fun {i γ σ g H g' H' y x} ⟨y0, r, e, h0, q⟩ l o h => by
  have en : i + 1 + n = i + (n + 1) := by omega
  refine ⟨y0, r.set n y, by rw [e]; rfl, Kd.st _ l (o i (by omega)) h0, a.ok q l (fun j hj => o j (by omega)) ?_⟩
  rw [en]
  exact h⟩
/-- what is known is forgotten -/
structure Wk (ks ks' : List Kd) where
  to : TupT ks → TupT ks'
  ok : ∀ {i γ σ g H}, RelL ks i γ σ g H → RelL ks' i (to γ) σ g H
def Wk.n : Wk [] [] := ⟨fun γ => γ, fun h => h⟩
def Wk.k {k : Kd} {ks ks' : List Kd} (a : Wk ks ks') : Wk (k :: ks) (k :: ks') := ⟨fun γ => (γ.1, a.to γ.2), fun ⟨y, r, e, h, q⟩ => ⟨y, r, e, h, a.ok q⟩⟩
def Wk.d {k : Kd} {ks ks' : List Kd} (a : Wk ks ks') : Wk (k :: ks) (kU :: ks') := ⟨fun γ => ((), a.to γ.2), fun ⟨y, r, e, _, q⟩ => ⟨y, r, e, trivial, a.ok q⟩⟩
def Wk.i (ks : List Kd) : Wk ks ks := ⟨fun γ => γ, fun h => h⟩
structure Rk where
  T : Type
  rel : Hp → V → T → Gh → Hp → Prop
  start : ∀ {Hs Hs' v x g H}, (∀ a, Hs' a = none → Hs a = none) → rel Hs' v x g H → rel Hs v x g H
  mg : ∀ {Hs v x g g' H}, (∀ a, g a = .frz → g' a = .frz) → (∀ a, g a = .tok → g' a = .tok) → (∀ a, Hs a = none → g a = .oth → g' a = .oth) → rel Hs v x g H → rel Hs v x g' H
theorem le_mg {g g' : Gh} {H : Hp} (h1 : ∀ a, g a = .frz → g' a = .frz) (h2 : ∀ a, g a = .tok → g' a = .tok) : Le g H g' H := ⟨fun a o h => by
  obtain ⟨ho, z⟩ := fz_some.mp h
  refine fz_some.mpr ⟨ho, z.imp (fun q => q) fun q => ?_⟩
  rw [isFrz_iff] at q ⊢
  exact h1 a q, h2⟩
@[reducible] def rV (k : Vk) : Rk := ⟨k.T, fun _ v x g H => k.rel v x g H, fun _ h => h, fun h1 h2 _ h => k.mono (le_mg h1 h2) h⟩
abbrev rF (K : PySem.W.Frag) (α : Type) [Rp K α] : Rk := rV (vF K α)
@[reducible] def rO (K : PySem.W.Frag) (α : Type) [Rp K α] : Rk := ⟨List α, fun Hs v x g H => ∃ p vs, v = .ref p ∧ Hs p = none ∧ g p = .oth ∧ H p = some (.lst vs) ∧ Paired (Rp.rp K (Fz g H)) vs x ∧ x.length ≤ 9223372036854775808,
  fun h ⟨p, vs, e, h1, h2⟩ => ⟨p, vs, e, h p h1, h2⟩, fun h1 h2 h3 ⟨p, vs, e, q1, q2, q3, q4, q5⟩ => ⟨p, vs, e, q1, h3 p q1 q2, q3, Paired.rp_mono (le_mg h1 h2).fz q4, q5⟩⟩

/-! ### the judgements: c is how many draws there are at most -/
structure AE (P : TokP) (ks : List Kd) (r : Rk) (c : Nat) (t : TE) (w : TupT ks → (r.T → Prop) → Prop) : Prop where
  mono : ∀ γ (Q Q' : r.T → Prop), (∀ x, Q x → Q' x) → w γ Q → w γ Q'
  run : ∀ (A : Act) b0 γ σ g H (Q : VK), b0 + c ≤ P.B → Good P A b0 g H → RelL ks 0 γ σ g H → w γ (fun x => ∀ v g' H', Good P A (b0 + c) g' H' → Ext g H g' H' → r.rel H v x g' H' → Q v H') → t σ H Q
structure AT (P : TokP) (ks : List Kd) (c : Nat) (t : TT) (w : TupT ks → (Bool → Prop) → Prop) : Prop where
  mono : ∀ γ (Q Q' : Bool → Prop), (∀ x, Q x → Q' x) → w γ Q → w γ Q'
  run : ∀ (A : Act) b0 γ σ g H (Q : Bool → Hp → Prop), b0 + c ≤ P.B → Good P A b0 g H → RelL ks 0 γ σ g H → w γ (fun b => ∀ g' H', Good P A (b0 + c) g' H' → Ext g H g' H' → Q b H') → t σ H Q
@[reducible] def TupV : List Vk → Type
  | [] => Unit
  | k :: ks => k.T × TupV ks
def RelVs : (ks : List Vk) → TupV ks → List V → Gh → Hp → Prop
  | [], _, vs, _, _ => vs = []
  | k :: ks, x, vs, g, H => ∃ v r, vs = v :: r ∧ k.rel v x.1 g H ∧ RelVs ks x.2 r g H
theorem RelVs.mono {g g' : Gh} {H H' : Hp} (l : Le g H g' H') : ∀ {ks : List Vk} {x : TupV ks} {vs : List V}, RelVs ks x vs g H → RelVs ks x vs g' H'
  | [], _, _, h => h
  | _ :: _, _, _, ⟨v, r, e, h, q⟩ => ⟨v, r, e, Vk.mono _ l h, RelVs.mono l q⟩
structure AA (P : TokP) (ks : List Kd) (ps : List Vk) (c : Nat) (t : TA) (w : TupT ks → (TupV ps → Prop) → Prop) : Prop where
  mono : ∀ γ (Q Q' : TupV ps → Prop), (∀ x, Q x → Q' x) → w γ Q → w γ Q'
  run : ∀ (A : Act) b0 γ σ g H (Q : List V → Hp → Prop), b0 + c ≤ P.B → Good P A b0 g H → RelL ks 0 γ σ g H → w γ (fun xs => ∀ vs g' H', Good P A (b0 + c) g' H' → Ext g H g' H' → RelVs ps xs vs g' H' → Q vs H') → t σ H Q
structure We (ks' : List Kd) (r : Rk) (kb : List Kd) where
  nx : TupT ks' → Prop
  rt : r.T → Prop
  bk : TupT kb → Prop
  ct : TupT kb → Prop
structure We.Imp {ks' : List Kd} {r : Rk} {kb : List Kd} (E E' : We ks' r kb) : Prop where
  nx : ∀ x, E.nx x → E'.nx x
  rt : ∀ x, E.rt x → E'.rt x
  bk : ∀ x, E.bk x → E'.bk x
  ct : ∀ x, E.ct x → E'.ct x
/-- what is wanted of the slots and the heap -/
def Wt (P : TokP) (A : Act) (b0 : Nat) (g : Gh) (H : Hp) (ks : List Kd) (N : Sl → Hp → Prop) : TupT ks → Prop := fun γ => ∀ σ' g' H', Good P A b0 g' H' → Le g H g' H' → RelL ks 0 γ σ' g' H' → N σ' H'
def Wr (P : TokP) (A : Act) (b0 : Nat) (r : Rk) (N : VK) : r.T → Prop := fun x => ∀ v g' H', Good P A b0 g' H' → r.rel A.H0 v x g' H' → N v H'
structure AS (P : TokP) (ks ks' : List Kd) (r : Rk) (kb : List Kd) (c : Nat) (t : TS) (w : TupT ks → We ks' r kb → Prop) : Prop where
  mono : ∀ γ (E E' : We ks' r kb), E.Imp E' → w γ E → w γ E'
  run : ∀ (A : Act) b0 γ σ g H (D : Ends), b0 + c ≤ P.B → Good P A b0 g H → RelL ks 0 γ σ g H → w γ ⟨Wt P A (b0 + c) g H ks' D.nx, Wr P A (b0 + c) r D.rt, Wt P A (b0 + c) g H kb D.bk, Wt P A (b0 + c) g H kb D.ct⟩ → t D σ H
end DL
/-! DL: expressions, tests, arguments, calls. -/
namespace DL
open PySem PySem.Spec PyProof.Rows L2
variable {P : TokP} {K : PySem.W.Frag} {ks : List Kd} {r : Rk} {ta tb tc : TE}
theorem RelL.ext {A : Act} {g g' : Gh} {H H' : Hp} {i : Nat} {γ : TupT ks} {σ : Sl} (G : Good P A b0 g H) (e : Ext g H g' H') (R : RelL ks i γ σ g H) : RelL ks i γ σ g' H' := R.st (e.lx G)
theorem rp_ext {A : Act} {g g' : Gh} {H H' : Hp} {α : Type} [Rp K α] {v : V} {x : α} (G : Good P A b0 g H) (e : Ext g H g' H') (h : Rp.rp K (Fz g H) v x) : Rp.rp K (Fz g' H') v x := Rp.mono (e.le G).fz h

/-! ### names, constants -/
abbrev wV {n : Nat} {k : Kd} (a : Acc ks n k) : TupT ks → (k.T → Prop) → Prop := fun γ Q => Q (a.get γ)
theorem ae_var {vk : Vk} {n : Nat} (a : Acc ks n (kV vk)) : AE P ks (rV vk) 0 (tVar n) (wV a) := by
  refine ⟨fun γ Q Q' h q => h _ q, fun A b0 γ σ g H Q hb0 G R hw => ?_⟩
  obtain ⟨y, e, v, rfl, h⟩ := a.ok R
  exact ⟨v, e, hw v g H (G.up (by omega)) (Ext.refl g H) h⟩
abbrev wC {α : Type} (x : α) : TupT ks → (α → Prop) → Prop := fun _ Q => Q x
theorem ae_c {α : Type} [Rp K α] {v : V} {x : α} (h : ∀ F, Rp.rp K F v x) : AE P ks (rF K α) 0 (tC v) (wC x) := by
  refine ⟨fun γ Q Q' h q => h _ q, fun A b0 γ σ g H Q hb0 G R hw => ?_⟩
  exact hw v g H (G.up (by omega)) (Ext.refl g H) (h _)
theorem ae_int {i : Int} : AE P ks (rF K Int) 0 (tC (.int i)) (wC i) := ae_c fun _ => rfl
theorem ae_bl {b : Bool} : AE P ks (rF K Bool) 0 (tC (.bl b)) (wC b) := ae_c fun _ => rfl
theorem ae_str {x : Str} : AE P ks (rF K Str) 0 (tC (.str x)) (wC x) := ae_c fun _ => rfl
theorem ae_non : AE P ks (rF K Unit) 0 (tC .non) (wC ()) := ae_c fun _ => rfl
theorem ae_none {α : Type} [Rp K α] : AE P ks (rF K (Option α)) 0 (tC .non) (wC none) := ae_c fun _ => rfl
/-- the same value, by another reading -/
theorem AE.map {α β : Type} [Rp K α] [Rp K β] {w : TupT ks → (α → Prop) → Prop} {f : α → β} (h : AE P ks (rF K α) ca ta w) (hf : ∀ F v x, Rp.rp K F v x → Rp.rp K F v (f x)) : AE P ks (rF K β) ca ta (fun γ Q => w γ fun x => Q (f x)) := by
  refine ⟨fun γ Q Q' q z => h.mono γ _ _ (fun x => q (f x)) z, fun A b0 γ σ g H Q hb0 G R hw => h.run A b0 γ σ g H Q (by omega) G R (h.mono γ _ _ (fun x z v g' H' G' e rl => z v g' H' (G'.up (by omega)) e (hf _ _ _ rl)) hw)⟩
/-- no value of such a kind is None -/
class NN (K : PySem.W.Frag) (α : Type) [Rp K α] : Prop where
  nn : ∀ {F v} {x : α}, Rp.rp K F v x → v ≠ .non
instance : NN K Int := ⟨fun h z => by cases h; cases z⟩
instance : NN K Bool := ⟨fun h z => by cases h; cases z⟩
instance : NN K Str := ⟨fun h z => by cases h; cases z⟩
instance {α : Type} [Rp K α] : NN K (List α) := ⟨fun ⟨_, _, h, _⟩ z => by cases h; cases z⟩
instance {α β : Type} [Rp K α] [Rp K β] : NN K (α × β) := ⟨fun ⟨_, _, _, h, _⟩ z => by cases h; cases z⟩
instance {α β γ : Type} [Rp K α] [Rp K β] [Rp K γ] : NN K (T3 α β γ) := ⟨fun ⟨_, _, _, _, h, _⟩ z => by cases h; cases z⟩
theorem ae_some {α : Type} [Rp K α] [NN K α] {w : TupT ks → (α → Prop) → Prop} (h : AE P ks (rF K α) ca ta w) : AE P ks (rF K (Option α)) ca ta (fun γ Q => w γ fun x => Q (some x)) :=
  h.map (f := some) fun _ _ _ q => ⟨NN.nn q, q⟩

/-! ### two operands -/
theorem AE.op2 {k1 k2 : Vk} {rr : R2} {wa : TupT ks → (k1.T → Prop) → Prop} {wb : TupT ks → (k2.T → Prop) → Prop} {f : k1.T → k2.T → (r.T → Prop) → Prop} (ha : AE P ks (rV k1) ca ta wa) (hb : AE P ks (rV k2) cb tb wb)
    (fm : ∀ a b (Q Q' : r.T → Prop), (∀ x, Q x → Q' x) → f a b Q → f a b Q')
    (h : ∀ (A : Act) b0 g H x y a b (Q : VK), Good P A b0 g H → k1.rel x a g H → k2.rel y b g H → f a b (fun c => ∀ v g' H', Good P A b0 g' H' → Ext g H g' H' → r.rel H v c g' H' → Q v H') → rr x y H Q) :
    AE P ks r (ca + cb) (tOp rr ta tb) (fun γ Q => wa γ fun a => wb γ fun b => f a b Q) := by
  refine ⟨fun γ Q Q' q z => ha.mono γ _ _ (fun a za => hb.mono γ _ _ (fun b zb => fm a b Q Q' q zb) za) z, fun A b0 γ σ g H Q hb0 G R hw => ?_⟩
  refine ha.run A b0 γ σ g H _ (by omega) G R (ha.mono γ _ _ (fun a za x g1 H1 G1 e1 r1 => ?_) hw)
  refine hb.run A _ γ σ g1 H1 _ (by omega) G1 (R.ext G e1) (hb.mono γ _ _ (fun b zb y g2 H2 G2 e2 r2 => ?_) za)
  refine h A _ g2 H2 x y a b Q G2 (k1.mono (e2.le G1) r1) r2 (fm a b _ _ (fun c zc v g' H' G' e r' => ?_) zb)
  exact zc v g' H' (G'.up (by omega)) ((e1.trans G1 e2).trans G2 e) (r.start (fun a ha => (e1.trans G1 e2).keeps G2 ha) r')
section
variable {α β δ : Type} [Rp K α] [Rp K β] [Rp K δ]
abbrev w2 (f : α → β → δ) (wa : TupT ks → (α → Prop) → Prop) (wb : TupT ks → (β → Prop) → Prop) : TupT ks → (δ → Prop) → Prop := fun γ Q => wa γ fun a => wb γ fun b => Q (f a b)
abbrev w2c (C : α → β → Prop) (f : α → β → δ) (wa : TupT ks → (α → Prop) → Prop) (wb : TupT ks → (β → Prop) → Prop) : TupT ks → (δ → Prop) → Prop := fun γ Q => wa γ fun a => wb γ fun b => C a b ∧ Q (f a b)
end
theorem ae_I0 {δ : Type} [Rp K δ] {gv : Int → Int → V} {f : Int → Int → δ} {wa wb : TupT ks → (Int → Prop) → Prop} (hg : ∀ F i j, Rp.rp K F (gv i j) (f i j)) (ha : AE P ks (rF K Int) ca ta wa) (hb : AE P ks (rF K Int) cb tb wb) :
    AE P ks (rF K δ) (ca + cb) (tOp (rI0 gv) ta tb) (w2 f wa wb) :=
  AE.op2 (r := rF K δ) (k1 := vF K Int) (k2 := vF K Int) (f := fun a b Q => Q (f a b)) ha hb (fun _ _ _ _ q z => q _ z) fun A b0 g H x y a b Q G rx ry z => ⟨a, b, rx, ry, z _ g H (G.up (by omega)) (Ext.refl g H) (hg _ a b)⟩
theorem ae_I {δ : Type} [Rp K δ] {C : Int → Int → Prop} {gv : Int → Int → V} {f : Int → Int → δ} {wa wb : TupT ks → (Int → Prop) → Prop} (hg : ∀ F i j, Rp.rp K F (gv i j) (f i j)) (ha : AE P ks (rF K Int) ca ta wa) (hb : AE P ks (rF K Int) cb tb wb) :
    AE P ks (rF K δ) (ca + cb) (tOp (rI C gv) ta tb) (w2c C f wa wb) :=
  AE.op2 (r := rF K δ) (k1 := vF K Int) (k2 := vF K Int) (f := fun a b Q => C a b ∧ Q (f a b)) ha hb (fun _ _ _ _ q z => ⟨z.1, q _ z.2⟩) fun A b0 g H x y a b Q G rx ry z => ⟨a, b, rx, ry, z.1, z.2 _ g H (G.up (by omega)) (Ext.refl g H) (hg _ a b)⟩
section
variable {wa wb : TupT ks → (Int → Prop) → Prop}
theorem ae_add (ha : AE P ks (rF K Int) ca ta wa) (hb : AE P ks (rF K Int) cb tb wb) : AE P ks (rF K Int) (ca + cb) (tOp (rI0 fun i j => .int (i + j)) ta tb) (w2 (fun i j => i + j) wa wb) := ae_I0 (fun _ _ _ => rfl) ha hb
theorem ae_sub (ha : AE P ks (rF K Int) ca ta wa) (hb : AE P ks (rF K Int) cb tb wb) : AE P ks (rF K Int) (ca + cb) (tOp (rI0 fun i j => .int (i - j)) ta tb) (w2 (fun i j => i - j) wa wb) := ae_I0 (fun _ _ _ => rfl) ha hb
theorem ae_mul (ha : AE P ks (rF K Int) ca ta wa) (hb : AE P ks (rF K Int) cb tb wb) : AE P ks (rF K Int) (ca + cb) (tOp (rI CMul fun i j => .int (i * j)) ta tb) (w2c CMul (fun i j => i * j) wa wb) := ae_I (fun _ _ _ => rfl) ha hb
theorem ae_fdiv (ha : AE P ks (rF K Int) ca ta wa) (hb : AE P ks (rF K Int) cb tb wb) : AE P ks (rF K Int) (ca + cb) (tOp (rI CDiv fun i j => .int (i / j)) ta tb) (w2c CDiv (fun i j => i / j) wa wb) := ae_I (fun _ _ _ => rfl) ha hb
theorem ae_mod (ha : AE P ks (rF K Int) ca ta wa) (hb : AE P ks (rF K Int) cb tb wb) : AE P ks (rF K Int) (ca + cb) (tOp (rI (fun _ j => 0 < j) fun i j => .int (i % j)) ta tb) (w2c (fun _ j => 0 < j) (fun i j => i % j) wa wb) := ae_I (fun _ _ _ => rfl) ha hb
theorem ae_pow (ha : AE P ks (rF K Int) ca ta wa) (hb : AE P ks (rF K Int) cb tb wb) : AE P ks (rF K Int) (ca + cb) (tOp (rI CPow fun i j => .int (i ^ j.toNat)) ta tb) (w2c CPow (fun i j => i ^ j.toNat) wa wb) := ae_I (fun _ _ _ => rfl) ha hb
theorem ae_lt (ha : AE P ks (rF K Int) ca ta wa) (hb : AE P ks (rF K Int) cb tb wb) : AE P ks (rF K Bool) (ca + cb) (tOp (rI0 fun i j => .bl (decide (i < j))) ta tb) (w2 (fun i j => decide (i < j)) wa wb) := ae_I0 (fun _ _ _ => rfl) ha hb
theorem ae_le (ha : AE P ks (rF K Int) ca ta wa) (hb : AE P ks (rF K Int) cb tb wb) : AE P ks (rF K Bool) (ca + cb) (tOp (rI0 fun i j => .bl (decide (i ≤ j))) ta tb) (w2 (fun i j => decide (i ≤ j)) wa wb) := ae_I0 (fun _ _ _ => rfl) ha hb
theorem ae_gt (ha : AE P ks (rF K Int) ca ta wa) (hb : AE P ks (rF K Int) cb tb wb) : AE P ks (rF K Bool) (ca + cb) (tOp (rI0 fun i j => .bl (decide (j < i))) ta tb) (w2 (fun i j => decide (j < i)) wa wb) := ae_I0 (fun _ _ _ => rfl) ha hb
theorem ae_ge (ha : AE P ks (rF K Int) ca ta wa) (hb : AE P ks (rF K Int) cb tb wb) : AE P ks (rF K Bool) (ca + cb) (tOp (rI0 fun i j => .bl (decide (j ≤ i))) ta tb) (w2 (fun i j => decide (j ≤ i)) wa wb) := ae_I0 (fun _ _ _ => rfl) ha hb
theorem ae_eqI (ha : AE P ks (rF K Int) ca ta wa) (hb : AE P ks (rF K Int) cb tb wb) : AE P ks (rF K Bool) (ca + cb) (tOp rEq ta tb) (w2 (fun i j => decide (i = j)) wa wb) :=
  AE.op2 (r := rF K Bool) (k1 := vF K Int) (k2 := vF K Int) (f := fun a b Q => Q (decide (a = b))) ha hb (fun _ _ _ _ q z => q _ z) fun A b0 g H x y a b Q G rx ry z => by
    have rx : x = .int a := rx
    have ry : y = .int b := ry
    subst rx ry
    refine ⟨rfl, z _ g H (G.up (by omega)) (Ext.refl g H) ?_⟩
    show V.bl _ = V.bl _
    simp
theorem ae_neI (ha : AE P ks (rF K Int) ca ta wa) (hb : AE P ks (rF K Int) cb tb wb) : AE P ks (rF K Bool) (ca + cb) (tOp rNe ta tb) (w2 (fun i j => !decide (i = j)) wa wb) :=
  AE.op2 (r := rF K Bool) (k1 := vF K Int) (k2 := vF K Int) (f := fun a b Q => Q (!decide (a = b))) ha hb (fun _ _ _ _ q z => q _ z) fun A b0 g H x y a b Q G rx ry z => by
    have rx : x = .int a := rx
    have ry : y = .int b := ry
    subst rx ry
    refine ⟨rfl, z _ g H (G.up (by omega)) (Ext.refl g H) ?_⟩
    show V.bl _ = V.bl _
    simp
theorem ae_neg (ha : AE P ks (rF K Int) ca ta wa) : AE P ks (rF K Int) ca (tUn (rU fun i => .int (-i)) ta) (fun γ Q => wa γ fun i => Q (-i)) := by
  refine ⟨fun γ Q Q' q z => ha.mono γ _ _ (fun a za => q _ za) z, fun A b0 γ σ g H Q hb0 G R hw => ?_⟩
  refine ha.run A b0 γ σ g H _ (by omega) G R (ha.mono γ _ _ (fun a za x g1 H1 G1 e1 r1 => ⟨a, r1, za _ g1 H1 (G1.up (by omega)) e1 rfl⟩) hw)
end
/-! ### is None -/
theorem ae_isN {α : Type} [Rp K α] [NN K α] {wa : TupT ks → (Option α → Prop) → Prop} (ha : AE P ks (rF K (Option α)) ca ta wa) : AE P ks (rF K Bool) ca (tOp (fun x y H Q => y = .non ∧ Q (.bl (decide (x = .non))) H) ta (tC .non)) (fun γ Q => wa γ fun a => Q a.isNone) := by
  refine ⟨fun γ Q Q' q z => ha.mono γ _ _ (fun a za => q _ za) z, fun A b0 γ σ g H Q hb0 G R hw => ?_⟩
  refine ha.run A b0 γ σ g H _ (by omega) G R (ha.mono γ _ _ (fun a za x g1 H1 G1 e1 r1 => ⟨rfl, za _ g1 H1 (G1.up (by omega)) e1 ?_⟩) hw)
  cases a with
  | none =>
    have r1 : x = .non := r1
    subst r1
    rfl
  | some b =>
    show V.bl _ = V.bl _
    rw [decide_eq_false r1.1]
    rfl
theorem ae_notN {α : Type} [Rp K α] [NN K α] {wa : TupT ks → (Option α → Prop) → Prop} (ha : AE P ks (rF K (Option α)) ca ta wa) : AE P ks (rF K Bool) ca (tOp (fun x y H Q => y = .non ∧ Q (.bl (!decide (x = .non))) H) ta (tC .non)) (fun γ Q => wa γ fun a => Q a.isSome) := by
  refine ⟨fun γ Q Q' q z => ha.mono γ _ _ (fun a za => q _ za) z, fun A b0 γ σ g H Q hb0 G R hw => ?_⟩
  refine ha.run A b0 γ σ g H _ (by omega) G R (ha.mono γ _ _ (fun a za x g1 H1 G1 e1 r1 => ⟨rfl, za _ g1 H1 (G1.up (by omega)) e1 ?_⟩) hw)
  cases a with
  | none =>
    have r1 : x = .non := r1
    subst r1
    rfl
  | some b =>
    show V.bl _ = V.bl _
    rw [decide_eq_false r1.1]
    rfl

/-! ### tests -/
theorem at_v {w : TupT ks → (Bool → Prop) → Prop} (h : AE P ks (rF K Bool) ca ta w) : AT P ks ca (tTest ta) w := by
  refine ⟨h.mono, fun A b0 γ σ g H Q hb0 G R hw => ?_⟩
  exact h.run A b0 γ σ g H _ (by omega) G R (h.mono γ _ _ (fun b zb x g1 H1 G1 e1 r1 => ⟨b, r1, zb g1 H1 (G1.up (by omega)) e1⟩) hw)
theorem at_b {w : TupT ks → (Bool → Prop) → Prop} (h : AE P ks (rF K Bool) ca ta w) : AT P ks ca (tB ta) w := at_v h
section
variable {t u : TT} {wt wu : TupT ks → (Bool → Prop) → Prop}
abbrev wAnd (wt wu : TupT ks → (Bool → Prop) → Prop) : TupT ks → (Bool → Prop) → Prop := fun γ Q => wt γ fun b => if b = true then wu γ Q else Q false
abbrev wOr (wt wu : TupT ks → (Bool → Prop) → Prop) : TupT ks → (Bool → Prop) → Prop := fun γ Q => wt γ fun b => if b = true then Q true else wu γ Q
abbrev wNot (wt : TupT ks → (Bool → Prop) → Prop) : TupT ks → (Bool → Prop) → Prop := fun γ Q => wt γ fun b => Q (!b)
theorem at_and (ht : AT P ks ct t wt) (hu : AT P ks cu u wu) : AT P ks (ct + cu) (tAnd t u) (wAnd wt wu) := by
  refine ⟨fun γ Q Q' q z => ht.mono γ _ _ (fun b zb => ?_) z, fun A b0 γ σ g H Q hb0 G R hw => ?_⟩
  · cases b with
    | false => exact q _ zb
    | true => exact hu.mono γ _ _ q zb
  · refine ht.run A b0 γ σ g H _ (by omega) G R (ht.mono γ _ _ (fun b zb g1 H1 G1 e1 => ?_) hw)
    cases b with
    | false => exact zb g1 H1 (G1.up (by omega)) e1
    | true => exact hu.run A _ γ σ g1 H1 _ (by omega) G1 (R.ext G e1) (hu.mono γ _ _ (fun c zc g2 H2 G2 e2 => zc g2 H2 (G2.up (by omega)) (e1.trans G1 e2)) zb)
theorem at_or (ht : AT P ks ct t wt) (hu : AT P ks cu u wu) : AT P ks (ct + cu) (tOr t u) (wOr wt wu) := by
  refine ⟨fun γ Q Q' q z => ht.mono γ _ _ (fun b zb => ?_) z, fun A b0 γ σ g H Q hb0 G R hw => ?_⟩
  · cases b with
    | true => exact q _ zb
    | false => exact hu.mono γ _ _ q zb
  · refine ht.run A b0 γ σ g H _ (by omega) G R (ht.mono γ _ _ (fun b zb g1 H1 G1 e1 => ?_) hw)
    cases b with
    | true => exact zb g1 H1 (G1.up (by omega)) e1
    | false => exact hu.run A _ γ σ g1 H1 _ (by omega) G1 (R.ext G e1) (hu.mono γ _ _ (fun c zc g2 H2 G2 e2 => zc g2 H2 (G2.up (by omega)) (e1.trans G1 e2)) zb)
theorem at_not (ht : AT P ks ct t wt) : AT P ks ct (tNot t) (wNot wt) := by
  refine ⟨fun γ Q Q' q z => ht.mono γ _ _ (fun b zb => q _ zb) z, fun A b0 γ σ g H Q hb0 G R hw => ?_⟩
  exact ht.run A b0 γ σ g H _ (by omega) G R (ht.mono γ _ _ (fun b zb g1 H1 G1 e1 => zb g1 H1 (G1.up (by omega)) e1) hw)
theorem at_yes : AT P ks 0 tYes (fun _ Q => Q true) := ⟨fun _ _ _ q z => q _ z, fun A b0 γ σ g H Q hb0 G R hw => hw g H (G.up (by omega)) (Ext.refl g H)⟩
end
section
variable {wa wb : TupT ks → (Bool → Prop) → Prop}
theorem ae_andB (ha : AE P ks (rF K Bool) ca ta wa) (hb : AE P ks (rF K Bool) cb tb wb) : AE P ks (rF K Bool) (ca + cb) (tAndV ta tb) (wAnd wa wb) := by
  refine ⟨fun γ Q Q' q z => ha.mono γ _ _ (fun b zb => ?_) z, fun A b0 γ σ g H Q hb0 G R hw => ?_⟩
  · cases b with
    | false => exact q _ zb
    | true => exact hb.mono γ _ _ q zb
  · refine ha.run A b0 γ σ g H _ (by omega) G R (ha.mono γ _ _ (fun b zb x g1 H1 G1 e1 r1 => ⟨b, r1, ?_⟩) hw)
    cases b with
    | false => exact zb _ g1 H1 (G1.up (by omega)) e1 rfl
    | true => exact hb.run A _ γ σ g1 H1 _ (by omega) G1 (R.ext G e1) (hb.mono γ _ _ (fun c zc v g2 H2 G2 e2 r2 => zc v g2 H2 (G2.up (by omega)) (e1.trans G1 e2) r2) zb)
theorem ae_orB (ha : AE P ks (rF K Bool) ca ta wa) (hb : AE P ks (rF K Bool) cb tb wb) : AE P ks (rF K Bool) (ca + cb) (tOrV ta tb) (wOr wa wb) := by
  refine ⟨fun γ Q Q' q z => ha.mono γ _ _ (fun b zb => ?_) z, fun A b0 γ σ g H Q hb0 G R hw => ?_⟩
  · cases b with
    | true => exact q _ zb
    | false => exact hb.mono γ _ _ q zb
  · refine ha.run A b0 γ σ g H _ (by omega) G R (ha.mono γ _ _ (fun b zb x g1 H1 G1 e1 r1 => ⟨b, r1, ?_⟩) hw)
    cases b with
    | true => exact zb _ g1 H1 (G1.up (by omega)) e1 rfl
    | false => exact hb.run A _ γ σ g1 H1 _ (by omega) G1 (R.ext G e1) (hb.mono γ _ _ (fun c zc v g2 H2 G2 e2 r2 => zc v g2 H2 (G2.up (by omega)) (e1.trans G1 e2) r2) zb)
theorem ae_notB (ha : AE P ks (rF K Bool) ca ta wa) : AE P ks (rF K Bool) ca (tNotV ta) (wNot wa) := by
  refine ⟨fun γ Q Q' q z => ha.mono γ _ _ (fun b zb => q _ zb) z, fun A b0 γ σ g H Q hb0 G R hw => ?_⟩
  exact ha.run A b0 γ σ g H _ (by omega) G R (ha.mono γ _ _ (fun b zb x g1 H1 G1 e1 r1 => ⟨b, r1, zb _ g1 H1 (G1.up (by omega)) e1 rfl⟩) hw)
/-- a < b < c of whole numbers -/
theorem ae_chain {p q : Int → Int → Bool} {wa wb wc : TupT ks → (Int → Prop) → Prop} (ha : AE P ks (rF K Int) ca ta wa) (hb : AE P ks (rF K Int) cb tb wb) (hc : AE P ks (rF K Int) cc tc wc) :
    AE P ks (rF K Bool) (ca + cb + cc) (tChain (rI0 fun i j => .bl (p i j)) (rI0 fun i j => .bl (q i j)) ta tb tc) (fun γ Q => wa γ fun a => wb γ fun b => if p a b = true then wc γ fun c => Q (q b c) else Q false) := by
  refine ⟨fun γ Q Q' f z => ha.mono γ _ _ (fun a za => hb.mono γ _ _ (fun b zb => ?_) za) z, fun A b0 γ σ g H Q hb0 G R hw => ?_⟩
  · by_cases e : p a b = true
    · rw [if_pos e] at zb ⊢
      exact hc.mono γ _ _ (fun c zc => f _ zc) zb
    · rw [if_neg e] at zb ⊢
      exact f _ zb
  · refine ha.run A b0 γ σ g H _ (by omega) G R (ha.mono γ _ _ (fun a za x g1 H1 G1 e1 r1 => ?_) hw)
    refine hb.run A _ γ σ g1 H1 _ (by omega) G1 (R.ext G e1) (hb.mono γ _ _ (fun b zb y g2 H2 G2 e2 r2 => ⟨a, b, r1, r2, p a b, rfl, ?_⟩) za)
    have e12 := e1.trans G1 e2
    by_cases e : p a b = true
    · rw [if_pos e] at zb ⊢
      exact hc.run A _ γ σ g2 H2 _ (by omega) G2 (R.ext G e12) (hc.mono γ _ _ (fun c zc v g3 H3 G3 e3 r3 => ⟨b, c, r2, r3, zc _ g3 H3 (G3.up (by omega)) (e12.trans G2 e3) rfl⟩) zb)
    · rw [if_neg e] at zb ⊢
      exact zb _ g2 H2 (G2.up (by omega)) e12 rfl
end
/-! ### a if t else b -/
theorem ae_ife {t : TT} {wt : TupT ks → (Bool → Prop) → Prop} {wa wb : TupT ks → (r.T → Prop) → Prop} (ht : AT P ks ct t wt) (ha : AE P ks r ca ta wa) (hb : AE P ks r cb tb wb) :
    AE P ks r (ct + ca + cb) (tIf t ta tb) (fun γ Q => wt γ fun b => if b = true then wa γ Q else wb γ Q) := by
  refine ⟨fun γ Q Q' q z => ht.mono γ _ _ (fun b zb => ?_) z, fun A b0 γ σ g H Q hb0 G R hw => ?_⟩
  · cases b with
    | true => exact ha.mono γ _ _ q zb
    | false => exact hb.mono γ _ _ q zb
  · refine ht.run A b0 γ σ g H _ (by omega) G R (ht.mono γ _ _ (fun b zb g1 H1 G1 e1 => ?_) hw)
    have k : ∀ a, H1 a = none → H a = none := fun a ha => e1.keeps G1 ha
    cases b with
    | true => exact ha.run A _ γ σ g1 H1 _ (by omega) G1 (R.ext G e1) (ha.mono γ _ _ (fun c zc v g2 H2 G2 e2 r2 => zc v g2 H2 (G2.up (by omega)) (e1.trans G1 e2) (r.start k r2)) zb)
    | false => exact hb.run A _ γ σ g1 H1 _ (by omega) G1 (R.ext G e1) (hb.mono γ _ _ (fun c zc v g2 H2 G2 e2 r2 => zc v g2 H2 (G2.up (by omega)) (e1.trans G1 e2) (r.start k r2)) zb)

/-! ### arguments -/
theorem aa_nil : AA P ks [] 0 tNil (fun _ Q => Q ()) := ⟨fun _ _ _ q z => q _ z, fun A b0 γ σ g H Q hb0 G R hw => hw [] g H (G.up (by omega)) (Ext.refl g H) rfl⟩
theorem aa_cons {k : Vk} {ps : List Vk} {te : TE} {t : TA} {we : TupT ks → (k.T → Prop) → Prop} {wt : TupT ks → (TupV ps → Prop) → Prop} (he : AE P ks (rV k) ce te we) (ht : AA P ks ps ct t wt) :
    AA P ks (k :: ps) (ce + ct) (tCons te t) (fun γ Q => we γ fun x => wt γ fun xs => Q (x, xs)) := by
  refine ⟨fun γ Q Q' q z => he.mono γ _ _ (fun a za => ht.mono γ _ _ (fun b zb => q _ zb) za) z, fun A b0 γ σ g H Q hb0 G R hw => ?_⟩
  refine he.run A b0 γ σ g H _ (by omega) G R (he.mono γ _ _ (fun a za x g1 H1 G1 e1 r1 => ?_) hw)
  refine ht.run A _ γ σ g1 H1 _ (by omega) G1 (R.ext G e1) (ht.mono γ _ _ (fun b zb vs g2 H2 G2 e2 r2 => ?_) za)
  exact zb _ g2 H2 (G2.up (by omega)) (e1.trans G1 e2) ⟨x, vs, rfl, k.mono (e2.le G1) r1, r2⟩

/-! ### calls of defs -/
def SpOf (P : TokP) (ps : List Vk) (r : Rk) (c : Nat) (w : TupV ps → (r.T → Prop) → Prop) : Sp := fun vs H Q _ => ∃ (A : Act) (b0 : Nat) (γ : TupV ps), A.H0 = H ∧ b0 + c ≤ P.B ∧ Good P A b0 A.g0 A.H0 ∧ RelVs ps γ vs A.g0 A.H0 ∧ w γ (Wr P A (b0 + c) r Q)
def hide : Tg → Tg
  | .own _ => .oth
  | t => t
theorem hide_frz {t : Tg} : hide t = .frz ↔ t = .frz := by cases t <;> simp [hide]
theorem hide_tok {t : Tg} : hide t = .tok ↔ t = .tok := by cases t <;> simp [hide]
theorem hide_own {t : Tg} {i : Nat} : hide t ≠ .own i := by cases t <;> simp [hide]
def hidden (g : Gh) (H : Hp) : Act := ⟨fun a => hide (g a), H, fun _ _ => hide_own⟩
theorem hidden_good {A : Act} {g : Gh} {H : Hp} (G : Good P A b0 g H) : Good P (hidden g H) b0 (hidden g H).g0 (hidden g H).H0 :=
  Good.refl (fun a h => G.tok a (hide_tok.mp h)) fun a h => by
    show hide (g a) = .oth
    rw [G.non a h]
    rfl
/-- behind a call: what stood has its tag as before, what is new the callee's -/
def back (g1 : Gh) (H1 : Hp) (g' : Gh) : Gh := fun a => match H1 a with
  | some _ => g1 a
  | none => hide (g' a)
theorem back_some {g1 : Gh} {H1 : Hp} {g' : Gh} {a : Addr} {o : HO} (h : H1 a = some o) : back g1 H1 g' a = g1 a := by unfold back; rw [h]
theorem back_none {g1 : Gh} {H1 : Hp} {g' : Gh} {a : Addr} (h : H1 a = none) : back g1 H1 g' a = hide (g' a) := by unfold back; rw [h]
theorem back_good {A : Act} {g1 g' : Gh} {H1 H' : Hp} (G : Good P A b0 g1 H1) (G' : Good P (hidden g1 H1) b1 g' H') : Good P A b1 (back g1 H1 g') H' ∧ Ext g1 H1 (back g1 H1 g') H' := by
  have ex : Ext g1 H1 (back g1 H1 g') H' := fun a o h => ⟨back_some h, fun q => (G'.ext a o h).2 fun z => q (hide_tok.mp z)⟩
  refine ⟨⟨G.ext.trans G ex, fun a h => ?_, fun a h => ?_⟩, ex⟩
  · cases e : H1 a with
    | none =>
      rw [back_none e] at h
      exact G'.tok a (hide_tok.mp h)
    | some o =>
      rw [back_some e] at h
      refine G'.tok a ((G'.ext a o e).1.trans ?_)
      show hide (g1 a) = .tok
      rw [h]
      rfl
  · have e : H1 a = none := G'.ext.keeps G' h
    rw [back_none e, G'.non a h]
    rfl
theorem back_rel {A : Act} {g1 g' : Gh} {H1 H' : Hp} {v : V} {x : r.T} (G' : Good P (hidden g1 H1) b1 g' H') (h : r.rel H1 v x g' H') : r.rel H1 v x (back g1 H1 g') H' := by
  have up : ∀ a o, H1 a = some o → g' a = hide (g1 a) := fun a o e => (G'.ext a o e).1
  refine r.mg (fun a q => ?_) (fun a q => ?_) (fun a e q => ?_) h
  · cases e : H1 a with
    | none => rw [back_none e, q]; rfl
    | some o =>
      rw [back_some e]
      exact hide_frz.mp ((up a o e).symm.trans q)
  · cases e : H1 a with
    | none => rw [back_none e, q]; rfl
    | some o =>
      rw [back_some e]
      exact hide_tok.mp ((up a o e).symm.trans q)
  · rw [back_none e, q]
    rfl
/-- a def by its promise -/
structure Pm (P : TokP) (ps : List Vk) (r : Rk) (w : TupV ps → (r.T → Prop) → Prop) : Prop where
  mono : ∀ γ (Q Q' : r.T → Prop), (∀ x, Q x → Q' x) → w γ Q → w γ Q'
theorem sp_call {A : Act} {g1 : Gh} {H H1 : Hp} {g : Gh} {ps : List Vk} {w : TupV ps → (r.T → Prop) → Prop} {xs : TupV ps} {vs : List V} {Q : VK} {E : XK} (wm : Pm P ps r w) (hc : b0 + c ≤ P.B) (G1 : Good P A b0 g1 H1) (e1 : Ext g H g1 H1) (rv : RelVs ps xs vs g1 H1)
    (h : w xs fun x => ∀ v g' H', Good P A (b0 + c) g' H' → Ext g H g' H' → r.rel H v x g' H' → Q v H') : SpOf P ps r c w vs H1 Q E := by
  refine ⟨hidden g1 H1, b0, xs, rfl, hc, hidden_good G1, RelVs.mono (le_mg (fun a q => hide_frz.mpr q) fun a q => hide_tok.mpr q) rv, wm.mono xs _ _ (fun c zc v g' H' G' r' => ?_) h⟩
  obtain ⟨G2, e2⟩ := back_good G1 G'
  exact zc v _ H' (G2.up (by omega)) (e1.trans G1 e2) (r.start (fun a ha => e1.keeps G1 ha) (back_rel (A := A) G' r'))
theorem ae_call {c : Nat} {ps : List Vk} {w : TupV ps → (r.T → Prop) → Prop} {t : TA} {wt : TupT ks → (TupV ps → Prop) → Prop} (wm : Pm P ps r w) (ha : AA P ks ps ct t wt) :
    AE P ks r (ct + c) (tCall (SpOf P ps r c w) [] E0 t) (fun γ Q => wt γ fun xs => w xs Q) := by
  refine ⟨fun γ Q Q' q z => ha.mono γ _ _ (fun a za => wm.mono a _ _ q za) z, fun A b0 γ σ g H Q hb0 G R hw => ?_⟩
  refine ha.run A b0 γ σ g H _ (by omega) G R (ha.mono γ _ _ (fun xs zx vs g1 H1 G1 e1 r1 => ?_) hw)
  rw [List.append_nil]
  exact sp_call wm (by omega) G1 e1 r1 (wm.mono xs _ _ (fun x z v g' H' G' => z v g' H' (G'.up (by omega))) zx)
theorem RelVs.length : ∀ {ps : List Vk} {x : TupV ps} {vs : List V} {g : Gh} {H : Hp}, RelVs ps x vs g H → vs.length = ps.length
  | [], _, _, _, _, h => by
    have h : _ = [] := h
    subst h
    rfl
  | _ :: _, _, _, _, _, ⟨v, r, e, _, q⟩ => by
    subst e
    rw [List.length_cons, List.length_cons, RelVs.length q]
end DL
/-! DL: lists, tuples, what is walked, comprehensions. -/
namespace DL
open PySem PySem.Spec PyProof.Rows L2
variable {P : TokP} {K : PySem.W.Frag} {ks : List Kd} {r : Rk} {ta tb tc : TE}

/-! ### one or two arguments of a built-in -/
theorem AE.cb1 {k : Vk} {rr : List V → Hp → VK → Prop} {wa : TupT ks → (k.T → Prop) → Prop} {f : k.T → (r.T → Prop) → Prop} (ha : AE P ks (rV k) ca ta wa) (fm : ∀ a (Q Q' : r.T → Prop), (∀ x, Q x → Q' x) → f a Q → f a Q')
    (h : ∀ (A : Act) b0 g H x a (Q : VK), Good P A b0 g H → k.rel x a g H → f a (fun c => ∀ v g' H', Good P A b0 g' H' → Ext g H g' H' → r.rel H v c g' H' → Q v H') → rr [x] H Q) :
    AE P ks r ca (tCB rr (tCons ta tNil)) (fun γ Q => wa γ fun a => f a Q) := by
  refine ⟨fun γ Q Q' q z => ha.mono γ _ _ (fun a za => fm a Q Q' q za) z, fun A b0 γ σ g H Q hb0 G R hw => ?_⟩
  refine ha.run A b0 γ σ g H _ (by omega) G R (ha.mono γ _ _ (fun a za x g1 H1 G1 e1 r1 => ?_) hw)
  refine h A _ g1 H1 x a Q G1 r1 (fm a _ _ (fun c zc v g' H' G' e r' => ?_) za)
  exact zc v g' H' (G'.up (by omega)) (e1.trans G1 e) (r.start (fun a ha => e1.keeps G1 ha) r')
theorem AE.cb2 {k1 k2 : Vk} {rr : List V → Hp → VK → Prop} {wa : TupT ks → (k1.T → Prop) → Prop} {wb : TupT ks → (k2.T → Prop) → Prop} {f : k1.T → k2.T → (r.T → Prop) → Prop} (ha : AE P ks (rV k1) ca ta wa) (hb : AE P ks (rV k2) cb tb wb)
    (fm : ∀ a b (Q Q' : r.T → Prop), (∀ x, Q x → Q' x) → f a b Q → f a b Q')
    (h : ∀ (A : Act) b0 g H x y a b (Q : VK), Good P A b0 g H → k1.rel x a g H → k2.rel y b g H → f a b (fun c => ∀ v g' H', Good P A b0 g' H' → Ext g H g' H' → r.rel H v c g' H' → Q v H') → rr [x, y] H Q) :
    AE P ks r (ca + cb) (tCB rr (tCons ta (tCons tb tNil))) (fun γ Q => wa γ fun a => wb γ fun b => f a b Q) := by
  have h2 := AE.op2 (rr := fun x y H Q => rr [x, y] H Q) ha hb fm h
  exact ⟨h2.mono, h2.run⟩
theorem AE.un {k : Vk} {tr : TE} {rr : V → Hp → VK → Prop} {wa : TupT ks → (k.T → Prop) → Prop} {f : k.T → (r.T → Prop) → Prop} (ha : AE P ks (rV k) ca ta wa) (ht : ∀ σ H Q, (ta σ H fun x H1 => rr x H1 Q) → tr σ H Q) (fm : ∀ a (Q Q' : r.T → Prop), (∀ x, Q x → Q' x) → f a Q → f a Q')
    (h : ∀ (A : Act) b0 g H x a (Q : VK), Good P A b0 g H → k.rel x a g H → f a (fun c => ∀ v g' H', Good P A b0 g' H' → Ext g H g' H' → r.rel H v c g' H' → Q v H') → rr x H Q) :
    AE P ks r ca tr (fun γ Q => wa γ fun a => f a Q) := by
  refine ⟨fun γ Q Q' q z => ha.mono γ _ _ (fun a za => fm a Q Q' q za) z, fun A b0 γ σ g H Q hb0 G R hw => ht _ _ _ ?_⟩
  refine ha.run A b0 γ σ g H _ (by omega) G R (ha.mono γ _ _ (fun a za x g1 H1 G1 e1 r1 => ?_) hw)
  refine h A _ g1 H1 x a Q G1 r1 (fm a _ _ (fun c zc v g' H' G' e r' => ?_) za)
  exact zc v g' H' (G'.up (by omega)) (e1.trans G1 e) (r.start (fun a ha => e1.keeps G1 ha) r')

/-! ### paired lists -/
theorem Paired.len {α β : Type} {F : α → β → Prop} {l1 : List α} {l2 : List β} (h : Paired F l1 l2) : l1.length = l2.length := Paired.length h
theorem Paired.at {α β : Type} {F : α → β → Prop} : ∀ {l1 : List α} {l2 : List β} {i : Nat} {y : β}, Paired F l1 l2 → l2[i]? = some y → ∃ x, l1[i]? = some x ∧ F x y
  | _, _, _, _, .nil, e => by simp at e
  | _, _, 0, _, .cons r _, e => by simp at e; subst e; exact ⟨_, rfl, r⟩
  | _, _, i + 1, y, .cons _ t, e => by
    obtain ⟨x, h1, h2⟩ := Paired.at (i := i) (y := y) t (by simpa using e)
    exact ⟨x, by simpa using h1, h2⟩
theorem Paired.atI' {α β : Type} {F : α → β → Prop} {l1 : List α} {l2 : List β} {i : Int} {y : β} (h : Paired F l1 l2) (e : atI l2 i = some y) : ∃ x, atI l1 i = some x ∧ F x y := by
  unfold atI at e ⊢
  rw [Paired.len h]
  cases q : ixN l2.length i with
  | none => rw [q] at e; cases e
  | some j =>
    rw [q] at e
    exact Paired.at h e
theorem Paired.app {α β : Type} {F : α → β → Prop} : ∀ {a b : List α} {c d : List β}, Paired F a c → Paired F b d → Paired F (a ++ b) (c ++ d)
  | _, _, _, _, .nil, h => h
  | _, _, _, _, .cons r t, h => .cons r (Paired.app t h)
theorem Paired.rev {α β : Type} {F : α → β → Prop} {a : List α} {c : List β} (h : Paired F a c) : Paired F a.reverse c.reverse := by
  induction h with
  | nil => exact .nil
  | cons r t ih => rw [List.reverse_cons, List.reverse_cons]; exact Paired.app ih (.cons r .nil)
theorem Paired.drop' {α β : Type} {F : α → β → Prop} : ∀ {a : List α} {c : List β} (n : Nat), Paired F a c → Paired F (a.drop n) (c.drop n)
  | _, _, 0, h => h
  | _, _, _ + 1, .nil => .nil
  | _, _, n + 1, .cons _ t => Paired.drop' n t
theorem Paired.take' {α β : Type} {F : α → β → Prop} : ∀ {a : List α} {c : List β} (n : Nat), Paired F a c → Paired F (a.take n) (c.take n)
  | _, _, 0, _ => .nil
  | _, _, _ + 1, .nil => .nil
  | _, _, n + 1, .cons r t => .cons r (Paired.take' n t)
theorem Paired.rep' {α β : Type} {F : α → β → Prop} {a : List α} {c : List β} (h : Paired F a c) : ∀ k : Nat, Paired F (List.replicate k a).flatten (List.replicate k c).flatten
  | 0 => .nil
  | k + 1 => by
    rw [List.replicate_succ, List.replicate_succ, List.flatten_cons, List.flatten_cons]
    exact Paired.app h (Paired.rep' h k)
theorem Paired.set' {α β : Type} {F : α → β → Prop} {x : α} {y : β} (r : F x y) : ∀ {a : List α} {c : List β} (n : Nat), Paired F a c → Paired F (a.set n x) (c.set n y)
  | _, _, _, .nil => .nil
  | _, _, 0, .cons _ t => .cons r t
  | _, _, n + 1, .cons q t => .cons q (Paired.set' r n t)
theorem paired_int {F : Hp} : ∀ {vs : List V} {ns : List Int}, Paired (Rp.rp K F) vs ns → vs = ns.map V.int
  | _, _, .nil => rfl
  | _, _, .cons r t => by
    have r' : _ = V.int _ := r
    rw [List.map_cons, r', paired_int t]
theorem int_paired {F : Hp} : ∀ {ns : List Int}, Paired (Rp.rp K F) (ns.map V.int) ns
  | [] => .nil
  | _ :: _ => .cons rfl int_paired
theorem paired_bl {F : Hp} : ∀ {vs : List V} {bs : List Bool}, Paired (Rp.rp K F) vs bs → vs = bs.map V.bl
  | _, _, .nil => rfl
  | _, _, .cons r t => by
    have r' : _ = V.bl _ := r
    rw [List.map_cons, r', paired_bl t]
theorem paired_str {F : Hp} : ∀ {vs : List V} {bs : List Str}, Paired (Rp.rp K F) vs bs → vs = bs.map V.str
  | _, _, .nil => rfl
  | _, _, .cons r t => by
    have r' : _ = V.str _ := r
    rw [List.map_cons, r', paired_str t]
theorem str_paired {F : Hp} : ∀ {ns : List Str}, Paired (Rp.rp K F) (ns.map V.str) ns
  | [] => .nil
  | _ :: _ => .cons rfl str_paired

/-! ### new objects -/
section
variable {A : Act} {g : Gh} {H : Hp} {p : Addr}
theorem fz_new_tup {xs : List V} : TpAt K (Fz g (upd H p (.tup xs))) p xs := .inl (fz_some.mpr ⟨upd_same, .inl rfl⟩)
/-- a new list is handed on as owned by nobody -/
theorem new_own {α : Type} [Rp K α] {Hs : Hp} {vs : List V} {xs : List α} (G : Good P A b0 g H) (hp : H p = none) (hs : Hs p = none) (r : Paired (Rp.rp K (Fz g H)) vs xs) (hl : xs.length ≤ 9223372036854775808) : (rO K α).rel Hs (.ref p) xs g (upd H p (.lst vs)) := by
  obtain ⟨_, ex⟩ := G.new0 (o := .lst vs) hp
  exact ⟨p, vs, rfl, hs, G.non p hp, upd_same, Paired.rp_mono (ex.le G).fz r, hl⟩
end
/-- who owns nothing may freeze it -/
theorem frz_own {α : Type} [Rp K α] {A : Act} {g g' : Gh} {H H' : Hp} {v : V} {xs : List α} (G : Good P A b0 g H) (G' : Good P A b1 g' H') (ex : Ext g H g' H') (h : (rO K α).rel H v xs g' H') :
    ∃ g'', Good P A b1 g'' H' ∧ Ext g H g'' H' ∧ Rp.rp K (Fz g'' H') v xs := by
  obtain ⟨p, vs, rfl, h1, h2, h3, h4, h5⟩ := h
  have h0 : A.H0 p = none := G.ext.keeps G h1
  refine ⟨tagAt g' p .frz, G'.retag h0 h3 (by rw [h2]; simp) (fun z => nomatch z), fun a o ha => ?_, p, vs, rfl, ?_, ?_, h5⟩
  · rw [tagAt_ne (ne_of_none ha h1)]
    exact ex a o ha
  · exact fz_some.mpr ⟨h3, .inr (by rw [tagAt_same]; rfl)⟩
  · exact Paired.rp_mono (le_tag (by rw [h2]; simp) (by rw [h2]; simp)).fz h4
theorem ae_frz {α : Type} [Rp K α] {w : TupT ks → (List α → Prop) → Prop} (h : AE P ks (rO K α) ca ta w) : AE P ks (rF K (List α)) ca ta w := by
  refine ⟨h.mono, fun A b0 γ σ g H Q hb0 G R hw => ?_⟩
  refine h.run A b0 γ σ g H Q (by omega) G R (h.mono γ _ _ (fun xs z v g' H' G' e r' => ?_) hw)
  obtain ⟨g'', G'', e'', r''⟩ := frz_own G G' e r'
  exact z v g'' H' (G''.up (by omega)) e'' r''

/-! ### displays -/
theorem ae_pair {α β : Type} [Rp K α] [Rp K β] {t : TA} {wt : TupT ks → (TupV [vF K α, vF K β] → Prop) → Prop} (h : AA P ks [vF K α, vF K β] ct t wt) : AE P ks (rF K (α × β)) ct (tTup t) (fun γ Q => wt γ fun xs => Q (xs.1, xs.2.1)) := by
  refine ⟨fun γ Q Q' q z => h.mono γ _ _ (fun a za => q _ za) z, fun A b0 γ σ g H Q hb0 G R hw => ?_⟩
  refine h.run A b0 γ σ g H _ (by omega) G R (h.mono γ _ _ (fun xs z vs g1 H1 G1 e1 rv => ?_) hw)
  obtain ⟨v1, r1, rfl, h1, v2, r2, rfl, h2, rfl⟩ := rv
  refine ⟨by show 2 ≤ sizeLine; decide, fun p hp => ?_⟩
  obtain ⟨G2, e2⟩ := G1.new0 (o := .tup [v1, v2]) hp
  exact z _ g1 _ (G2.up (by omega)) (e1.trans G1 e2) ⟨p, v1, v2, rfl, fz_new_tup, rp_ext G1 e2 h1, rp_ext G1 e2 h2⟩
theorem ae_tri {α β δ : Type} [Rp K α] [Rp K β] [Rp K δ] {t : TA} {wt : TupT ks → (TupV [vF K α, vF K β, vF K δ] → Prop) → Prop} (h : AA P ks [vF K α, vF K β, vF K δ] ct t wt) :
    AE P ks (rF K (T3 α β δ)) ct (tTup t) (fun γ Q => wt γ fun xs => Q ⟨xs.1, xs.2.1, xs.2.2.1⟩) := by
  refine ⟨fun γ Q Q' q z => h.mono γ _ _ (fun a za => q _ za) z, fun A b0 γ σ g H Q hb0 G R hw => ?_⟩
  refine h.run A b0 γ σ g H _ (by omega) G R (h.mono γ _ _ (fun xs z vs g1 H1 G1 e1 rv => ?_) hw)
  obtain ⟨v1, r1, rfl, h1, v2, r2, rfl, h2, v3, r3, rfl, h3, rfl⟩ := rv
  refine ⟨by show 3 ≤ sizeLine; decide, fun p hp => ?_⟩
  obtain ⟨G2, e2⟩ := G1.new0 (o := .tup [v1, v2, v3]) hp
  exact z _ g1 _ (G2.up (by omega)) (e1.trans G1 e2) ⟨p, v1, v2, v3, rfl, fz_new_tup, rp_ext G1 e2 h1, rp_ext G1 e2 h2, rp_ext G1 e2 h3⟩
/-- items of one kind -/
structure AX (P : TokP) (K : PySem.W.Frag) (ks : List Kd) (α : Type) [Rp K α] (n : Nat) (c : Nat) (t : TA) (w : TupT ks → (List α → Prop) → Prop) : Prop where
  mono : ∀ γ (Q Q' : List α → Prop), (∀ x, Q x → Q' x) → w γ Q → w γ Q'
  run : ∀ (A : Act) b0 γ σ g H (Q : List V → Hp → Prop), b0 + c ≤ P.B → Good P A b0 g H → RelL ks 0 γ σ g H → w γ (fun xs => ∀ vs g' H', Good P A (b0 + c) g' H' → Ext g H g' H' → vs.length = n → Paired (Rp.rp K (Fz g' H')) vs xs → Q vs H') → t σ H Q
section
variable {α : Type} [Rp K α]
theorem ax_nil : AX P K ks α 0 0 tNil (fun _ Q => Q []) := ⟨fun _ _ _ q z => q _ z, fun A b0 γ σ g H Q hb0 G R hw => hw [] g H (G.up (by omega)) (Ext.refl g H) rfl .nil⟩
theorem ax_cons {n : Nat} {te : TE} {t : TA} {we : TupT ks → (α → Prop) → Prop} {wt : TupT ks → (List α → Prop) → Prop} (he : AE P ks (rF K α) ce te we) (ht : AX P K ks α n ct t wt) : AX P K ks α (n + 1) (ce + ct) (tCons te t) (fun γ Q => we γ fun x => wt γ fun xs => Q (x :: xs)) := by
  refine ⟨fun γ Q Q' q z => he.mono γ _ _ (fun a za => ht.mono γ _ _ (fun b zb => q _ zb) za) z, fun A b0 γ σ g H Q hb0 G R hw => ?_⟩
  refine he.run A b0 γ σ g H _ (by omega) G R (he.mono γ _ _ (fun a za x g1 H1 G1 e1 r1 => ?_) hw)
  refine ht.run A _ γ σ g1 H1 _ (by omega) G1 (R.ext G e1) (ht.mono γ _ _ (fun b zb vs g2 H2 G2 e2 hl r2 => ?_) za)
  exact zb _ g2 H2 (G2.up (by omega)) (e1.trans G1 e2) (by rw [List.length_cons, hl]) (.cons (rp_ext G1 e2 r1) r2)
theorem ae_lst {n : Nat} {t : TA} {wt : TupT ks → (List α → Prop) → Prop} (h : AX P K ks α n ct t wt) (hn : n ≤ 1000 := by decide) : AE P ks (rO K α) ct (tLst t) wt := by
  refine ⟨h.mono, fun A b0 γ σ g H Q hb0 G R hw => ?_⟩
  refine h.run A b0 γ σ g H _ (by omega) G R (h.mono γ _ _ (fun xs z vs g1 H1 G1 e1 hl rv => ?_) hw)
  refine ⟨by rw [hl]; exact Nat.le_of_lt (small1000 hn), fun p hp => ?_⟩
  obtain ⟨G2, e2⟩ := G1.new0 (o := .lst vs) hp
  exact z _ g1 _ (G2.up (by omega)) (e1.trans G1 e2) (new_own G1 hp (e1.keeps G1 hp) rv (by rw [← Paired.len rv, hl]; omega))

/-! ### items, lengths -/
theorem sq_of {F H : Hp} {a : Addr} {vs : List V} (s : Same F H) (h : F a = some (.lst vs)) : SqL K H a vs := .inl (.inl (s _ _ h))
theorem ae_ix {wa : TupT ks → (List α → Prop) → Prop} {wb : TupT ks → (Int → Prop) → Prop} (ha : AE P ks (rF K (List α)) ca ta wa) (hb : AE P ks (rF K Int) cb tb wb) :
    AE P ks (rF K α) (ca + cb) (tOp (rIxL K) ta tb) (fun γ Q => wa γ fun xs => wb γ fun i => ∃ x, atI xs i = some x ∧ Q x) :=
  AE.op2 (r := rF K α) (k1 := vF K (List α)) (k2 := vF K Int) (f := fun xs i Q => ∃ x, atI xs i = some x ∧ Q x) ha hb (fun _ _ _ _ q ⟨x, e, z⟩ => ⟨x, e, q _ z⟩) fun A b0 g H x y xs i Q G rx ry ⟨z, e, hz⟩ => by
    obtain ⟨a, vs, rfl, h, pr, hl⟩ := rx
    obtain ⟨v, hv, rv⟩ := Paired.atI' pr e
    exact ⟨a, vs, i, v, rfl, ry, sq_of fz_sub h, hv, hz v g H (G.up (by omega)) (Ext.refl g H) rv⟩
theorem ae_ixScr {wa : TupT ks → (Scr → Prop) → Prop} {wb : TupT ks → (Int → Prop) → Prop} (ha : AE P ks (rF K Scr) ca ta wa) (hb : AE P ks (rF K Int) cb tb wb) :
    AE P ks (rF K Int) (ca + cb) (tOp (rIxL K) ta tb) (fun γ Q => wa γ fun s => wb γ fun i => ∃ x, atI s.xs i = some x ∧ Q x) :=
  AE.op2 (r := rF K Int) (k1 := vF K Scr) (k2 := vF K Int) (f := fun s i Q => ∃ x, atI s.xs i = some x ∧ Q x) ha hb (fun _ _ _ _ q ⟨x, e, z⟩ => ⟨x, e, q _ z⟩) fun A b0 g H x y xs i Q G rx ry ⟨z, e, hz⟩ => by
    obtain ⟨a, rfl, h⟩ := rx
    obtain ⟨v, hv, rv⟩ := Paired.atI' (int_paired (K := K) (F := H)) e
    exact ⟨a, _, i, v, rfl, ry, Same.seq fz_sub h, hv, hz v g H (G.up (by omega)) (Ext.refl g H) rv⟩
theorem ae_len {wa : TupT ks → (List α → Prop) → Prop} (ha : AE P ks (rF K (List α)) ca ta wa) : AE P ks (rF K Int) ca (tCB (fun xs H Q => ∃ x n, xs = [x] ∧ LenV K x H n ∧ Q (.int n) H) (tCons ta tNil)) (fun γ Q => wa γ fun xs => Q (xs.length : Int)) :=
  AE.cb1 (r := rF K Int) (k := vF K (List α)) (f := fun xs Q => Q (xs.length : Int)) ha (fun _ _ _ q z => q _ z) fun A b0 g H x xs Q G rx z => by
    obtain ⟨a, vs, rfl, h, pr, hl⟩ := rx
    exact ⟨_, xs.length, rfl, .inl ⟨vs, sq_of fz_sub h, (Paired.len pr).symm⟩, z _ g H (G.up (by omega)) (Ext.refl g H) rfl⟩
theorem ae_lenScr {wa : TupT ks → (Scr → Prop) → Prop} (ha : AE P ks (rF K Scr) ca ta wa) : AE P ks (rF K Int) ca (tCB (fun xs H Q => ∃ x n, xs = [x] ∧ LenV K x H n ∧ Q (.int n) H) (tCons ta tNil)) (fun γ Q => wa γ fun s => Q (s.xs.length : Int)) :=
  AE.cb1 (r := rF K Int) (k := vF K Scr) (f := fun s Q => Q (s.xs.length : Int)) ha (fun _ _ _ q z => q _ z) fun A b0 g H x s Q G rx z => by
    obtain ⟨a, rfl, h⟩ := rx
    exact ⟨_, s.xs.length, rfl, .inl ⟨_, Same.seq fz_sub h, by simp⟩, z _ g H (G.up (by omega)) (Ext.refl g H) rfl⟩
end
section
variable {α β δ : Type} [Rp K α] [Rp K β] [Rp K δ]
theorem ae_fst {wa : TupT ks → (α × β → Prop) → Prop} (ha : AE P ks (rF K (α × β)) ca ta wa) : AE P ks (rF K α) ca (tOp (rIxT K) ta (tC (.int 0))) (fun γ Q => wa γ fun x => Q x.1) :=
  AE.un (r := rF K α) (k := vF K (α × β)) (rr := fun x H Q => rIxT K x (.int 0) H Q) (f := fun x Q => Q x.1) ha (fun _ _ _ h => h) (fun _ _ _ q z => q _ z) fun A b0 g H x xs Q G rx z => by
    obtain ⟨a, v1, v2, rfl, h, h1, h2⟩ := rx
    exact ⟨a, _, 0, v1, rfl, rfl, h.sq fz_sub, rfl, z _ g H (G.up (by omega)) (Ext.refl g H) h1⟩
theorem ae_snd {wa : TupT ks → (α × β → Prop) → Prop} (ha : AE P ks (rF K (α × β)) ca ta wa) : AE P ks (rF K β) ca (tOp (rIxT K) ta (tC (.int 1))) (fun γ Q => wa γ fun x => Q x.2) :=
  AE.un (r := rF K β) (k := vF K (α × β)) (rr := fun x H Q => rIxT K x (.int 1) H Q) (f := fun x Q => Q x.2) ha (fun _ _ _ h => h) (fun _ _ _ q z => q _ z) fun A b0 g H x xs Q G rx z => by
    obtain ⟨a, v1, v2, rfl, h, h1, h2⟩ := rx
    exact ⟨a, _, 1, v2, rfl, rfl, h.sq fz_sub, rfl, z _ g H (G.up (by omega)) (Ext.refl g H) h2⟩
theorem ae_t1 {wa : TupT ks → (T3 α β δ → Prop) → Prop} (ha : AE P ks (rF K (T3 α β δ)) ca ta wa) : AE P ks (rF K α) ca (tOp (rIxT K) ta (tC (.int 0))) (fun γ Q => wa γ fun x => Q x.a) :=
  AE.un (r := rF K α) (k := vF K (T3 α β δ)) (rr := fun x H Q => rIxT K x (.int 0) H Q) (f := fun x Q => Q x.a) ha (fun _ _ _ h => h) (fun _ _ _ q z => q _ z) fun A b0 g H x xs Q G rx z => by
    obtain ⟨a, v1, v2, v3, rfl, h, h1, h2, h3⟩ := rx
    exact ⟨a, _, 0, v1, rfl, rfl, h.sq fz_sub, rfl, z _ g H (G.up (by omega)) (Ext.refl g H) h1⟩
theorem ae_t2 {wa : TupT ks → (T3 α β δ → Prop) → Prop} (ha : AE P ks (rF K (T3 α β δ)) ca ta wa) : AE P ks (rF K β) ca (tOp (rIxT K) ta (tC (.int 1))) (fun γ Q => wa γ fun x => Q x.b) :=
  AE.un (r := rF K β) (k := vF K (T3 α β δ)) (rr := fun x H Q => rIxT K x (.int 1) H Q) (f := fun x Q => Q x.b) ha (fun _ _ _ h => h) (fun _ _ _ q z => q _ z) fun A b0 g H x xs Q G rx z => by
    obtain ⟨a, v1, v2, v3, rfl, h, h1, h2, h3⟩ := rx
    exact ⟨a, _, 1, v2, rfl, rfl, h.sq fz_sub, rfl, z _ g H (G.up (by omega)) (Ext.refl g H) h2⟩
theorem ae_t3 {wa : TupT ks → (T3 α β δ → Prop) → Prop} (ha : AE P ks (rF K (T3 α β δ)) ca ta wa) : AE P ks (rF K δ) ca (tOp (rIxT K) ta (tC (.int 2))) (fun γ Q => wa γ fun x => Q x.c) :=
  AE.un (r := rF K δ) (k := vF K (T3 α β δ)) (rr := fun x H Q => rIxT K x (.int 2) H Q) (f := fun x Q => Q x.c) ha (fun _ _ _ h => h) (fun _ _ _ q z => q _ z) fun A b0 g H x xs Q G rx z => by
    obtain ⟨a, v1, v2, v3, rfl, h, h1, h2, h3⟩ := rx
    exact ⟨a, _, 2, v3, rfl, rfl, h.sq fz_sub, rfl, z _ g H (G.up (by omega)) (Ext.refl g H) h3⟩

/-! ### new lists of old ones -/
/-- a new list of the items that stand at a place -/
theorem newlist {A : Act} {g : Gh} {H : Hp} {p : Addr} {vs : List V} {xs : List α} {Q : VK} (G : Good P A b0 g H) (hp : H p = none) (h : Paired (Rp.rp K (Fz g H)) vs xs) (hl : xs.length ≤ 9223372036854775808) (z : ∀ v g' H', Good P A b0 g' H' → Ext g H g' H' → (rO K α).rel H v xs g' H' → Q v H') : Q (.ref p) (upd H p (.lst vs)) := by
  obtain ⟨G2, e2⟩ := G.new0 (o := .lst vs) hp
  exact z _ g _ (G2.up (by omega)) e2 (new_own G hp hp h hl)
/-- a slice's parts -/
structure AP (P : TokP) (ks : List Kd) (c : Nat) (t : TO) (w : TupT ks → (Option Int → Prop) → Prop) : Prop where
  mono : ∀ γ (Q Q' : Option Int → Prop), (∀ x, Q x → Q' x) → w γ Q → w γ Q'
  run : ∀ (A : Act) b0 γ σ g H (Q : Option Int → Hp → Prop), b0 + c ≤ P.B → Good P A b0 g H → RelL ks 0 γ σ g H → w γ (fun x => ∀ g' H', Good P A (b0 + c) g' H' → Ext g H g' H' → Q x H') → t σ H Q
theorem ap_none : AP P ks 0 tNoPart (fun _ Q => Q none) := ⟨fun _ _ _ q z => q _ z, fun A b0 γ σ g H Q hb0 G R hw => hw g H (G.up (by omega)) (Ext.refl g H)⟩
theorem ap_some {wa : TupT ks → (Int → Prop) → Prop} (ha : AE P ks (rF K Int) ca ta wa) : AP P ks ca (tPart ta) (fun γ Q => wa γ fun i => Q (some i)) :=
  ⟨fun γ Q Q' q z => ha.mono γ _ _ (fun a za => q _ za) z, fun A b0 γ σ g H Q hb0 G R hw => ha.run A b0 γ σ g H _ (by omega) G R (ha.mono γ _ _ (fun a za x g1 H1 G1 e1 r1 => ⟨a, r1, za g1 H1 (G1.up (by omega)) e1⟩) hw)⟩
def cutL {α : Type} (xs : List α) (lo hi : Option Int) : List α := (xs.drop (HT.sIx xs.length 0 lo)).take (HT.sIx xs.length xs.length hi - HT.sIx xs.length 0 lo)
theorem cutL_le {α : Type} (xs : List α) (lo hi : Option Int) : (cutL xs lo hi).length ≤ xs.length := by
  unfold cutL
  rw [List.length_take, List.length_drop]
  omega
theorem ae_slice {tl th : TO} {wa : TupT ks → (List α → Prop) → Prop} {wl wh : TupT ks → (Option Int → Prop) → Prop} (ha : AE P ks (rF K (List α)) ca ta wa) (hl : AP P ks cl tl wl) (hh : AP P ks ch th wh) :
    AE P ks (rO K α) (ca + cl + ch) (tSl (rSlL K) ta tl th) (fun γ Q => wa γ fun xs => wl γ fun l => wh γ fun h => Q (cutL xs l h)) := by
  refine ⟨fun γ Q Q' q z => ha.mono γ _ _ (fun a za => hl.mono γ _ _ (fun b zb => hh.mono γ _ _ (fun c zc => q _ zc) zb) za) z, fun A b0 γ σ g H Q hb0 G R hw => ?_⟩
  refine ha.run A b0 γ σ g H _ (by omega) G R (ha.mono γ _ _ (fun xs za x g1 H1 G1 e1 r1 => ?_) hw)
  refine hl.run A _ γ σ g1 H1 _ (by omega) G1 (R.ext G e1) (hl.mono γ _ _ (fun l zl g2 H2 G2 e2 => ?_) za)
  refine hh.run A _ γ σ g2 H2 _ (by omega) G2 ((R.ext G e1).ext G1 e2) (hh.mono γ _ _ (fun u zu g3 H3 G3 e3 => ?_) zl)
  have r3 := rp_ext G2 e3 (rp_ext G1 e2 r1)
  obtain ⟨a, vs, rfl, h, pr, hl⟩ := r3
  refine ⟨a, vs, rfl, sq_of fz_sub h, fun p hp => ?_⟩
  have e13 := (e1.trans G1 e2).trans G2 e3
  refine newlist (xs := cutL xs l u) G3 hp ?_ (Nat.le_trans (cutL_le xs l u) hl) fun v g' H' G' e' r' => zu v g' H' (G'.up (by omega)) (e13.trans G3 e') ((rO K α).start (fun a ha => e13.keeps G3 ha) r')
  unfold cutV cutL
  rw [Paired.len pr]
  exact Paired.take' _ (Paired.drop' _ pr)
theorem ae_rev {wa : TupT ks → (List α → Prop) → Prop} (ha : AE P ks (rF K (List α)) ca ta wa) : AE P ks (rO K α) ca (tRevL K ta) (fun γ Q => wa γ fun xs => Q xs.reverse) :=
  AE.un (r := rO K α) (k := vF K (List α)) (rr := fun x H1 Q => ∃ a xs, x = .ref a ∧ SqL K H1 a xs ∧ ∀ p, H1 p = none → Q (.ref p) (upd H1 p (.lst xs.reverse))) (f := fun xs Q => Q xs.reverse) ha (fun _ _ _ h => h) (fun _ _ _ q z => q _ z) fun A b0 g H x xs Q G rx z => by
    obtain ⟨a, vs, rfl, h, pr, hl⟩ := rx
    exact ⟨a, vs, rfl, sq_of fz_sub h, fun p hp => newlist (xs := xs.reverse) G hp (Paired.rev pr) (by rw [List.length_reverse]; exact hl) z⟩
theorem ae_cat {wa wb : TupT ks → (List α → Prop) → Prop} (ha : AE P ks (rF K (List α)) ca ta wa) (hb : AE P ks (rF K (List α)) cb tb wb) : AE P ks (rO K α) (ca + cb) (tOp rCat ta tb) (fun γ Q => wa γ fun xs => wb γ fun ys => xs.length + ys.length ≤ sizeLine ∧ Q (xs ++ ys)) :=
  AE.op2 (r := rO K α) (k1 := vF K (List α)) (k2 := vF K (List α)) (f := fun xs ys Q => xs.length + ys.length ≤ sizeLine ∧ Q (xs ++ ys)) ha hb (fun _ _ _ _ q z => ⟨z.1, q _ z.2⟩) fun A b0 g H x y xs ys Q G rx ry ⟨hz, z⟩ => by
    obtain ⟨a, vs, rfl, h, pr, hl⟩ := rx
    obtain ⟨b, us, rfl, h', pr', hl'⟩ := ry
    exact ⟨a, b, vs, us, rfl, rfl, fz_sub _ _ h, fz_sub _ _ h', by rw [Paired.len pr, Paired.len pr']; exact hz, fun p hp => newlist (xs := xs ++ ys) G hp (Paired.app pr pr') (by rw [List.length_append]; exact Nat.le_trans hz (by decide)) z⟩
theorem ae_rep {wa : TupT ks → (List α → Prop) → Prop} {wb : TupT ks → (Int → Prop) → Prop} (ha : AE P ks (rF K (List α)) ca ta wa) (hb : AE P ks (rF K Int) cb tb wb) :
    AE P ks (rO K α) (ca + cb) (tOp rRep ta tb) (fun γ Q => wa γ fun xs => wb γ fun k => (-(2 ^ 63) ≤ k ∧ k < 2 ^ 63 ∧ xs.length * k.toNat ≤ sizeLine) ∧ Q (List.replicate k.toNat xs).flatten) :=
  AE.op2 (r := rO K α) (k1 := vF K (List α)) (k2 := vF K Int) (f := fun xs k Q => (-(2 ^ 63) ≤ k ∧ k < 2 ^ 63 ∧ xs.length * k.toNat ≤ sizeLine) ∧ Q (List.replicate k.toNat xs).flatten) ha hb (fun _ _ _ _ q z => ⟨z.1, q _ z.2⟩) fun A b0 g H x y xs k Q G rx ry ⟨hz, z⟩ => by
    obtain ⟨a, vs, rfl, h, pr, hl⟩ := rx
    exact ⟨a, k, vs, rfl, ry, fz_sub _ _ h, hz.1, hz.2.1, by rw [Paired.len pr]; exact hz.2.2, fun p hp => newlist (xs := (List.replicate k.toNat xs).flatten) G hp (Paired.rep' pr _) (by rw [List.length_flatten, List.map_replicate, List.sum_replicate_nat, Nat.mul_comm]; exact Nat.le_trans hz.2.2 (by decide)) z⟩
/-- list(xs) -/
theorem ae_copy {wa : TupT ks → (List α → Prop) → Prop} (ha : AE P ks (rF K (List α)) ca ta wa) : AE P ks (rO K α) ca (tCB (fun xs H Q => ∃ p ys, xs = [.ref p] ∧ (SqL K H p ys ∨ SqT K H p ys) ∧ ∀ l, H l = none → Q (.ref l) (upd H l (.lst ys))) (tCons ta tNil)) wa :=
  AE.cb1 (r := rO K α) (k := vF K (List α)) (f := fun xs Q => Q xs) ha (fun _ _ _ q z => q _ z) fun A b0 g H x xs Q G rx z => by
    obtain ⟨a, vs, rfl, h, pr, hl⟩ := rx
    exact ⟨a, vs, rfl, .inl (sq_of fz_sub h), fun p hp => newlist (xs := xs) G hp pr hl z⟩
end

/-! ### built-ins -/
section
variable {wa wb : TupT ks → (Int → Prop) → Prop} {wl : TupT ks → (List Int → Prop) → Prop} {wbs : TupT ks → (List Bool → Prop) → Prop} {wbo : TupT ks → (Bool → Prop) → Prop}
theorem ae_sum (ha : AE P ks (rF K (List Int)) ca ta wl) : AE P ks (rF K Int) ca (tCB (rSum K) (tCons ta tNil)) (fun γ Q => wl γ fun xs => Q xs.sum) :=
  AE.cb1 (r := rF K Int) (k := vF K (List Int)) (f := fun xs Q => Q xs.sum) ha (fun _ _ _ q z => q _ z) fun A b0 g H x xs Q G rx z => by
    obtain ⟨a, vs, rfl, h, pr, hl⟩ := rx
    exact ⟨a, xs, rfl, by rw [← paired_int pr]; exact sq_of fz_sub h, z _ g H (G.up (by omega)) (Ext.refl g H) rfl⟩
def IsMax (xs : List Int) (m : Int) : Prop := m ∈ xs ∧ ∀ y, y ∈ xs → y ≤ m
def IsMin (xs : List Int) (m : Int) : Prop := m ∈ xs ∧ ∀ y, y ∈ xs → m ≤ y
theorem ae_max (ha : AE P ks (rF K (List Int)) ca ta wl) : AE P ks (rF K Int) ca (tCB (rMax K) (tCons ta tNil)) (fun γ Q => wl γ fun xs => 0 < xs.length ∧ ∀ m, IsMax xs m → Q m) :=
  AE.cb1 (r := rF K Int) (k := vF K (List Int)) (f := fun xs Q => 0 < xs.length ∧ ∀ m, IsMax xs m → Q m) ha (fun _ _ _ q z => ⟨z.1, fun m hm => q _ (z.2 m hm)⟩) fun A b0 g H x xs Q G rx z => by
    obtain ⟨a, vs, rfl, h, pr, hl⟩ := rx
    exact ⟨a, xs, rfl, by rw [← paired_int pr]; exact sq_of fz_sub h, z.1, fun m h1 h2 => z.2 m ⟨h1, h2⟩ _ g H (G.up (by omega)) (Ext.refl g H) rfl⟩
theorem ae_min (ha : AE P ks (rF K (List Int)) ca ta wl) : AE P ks (rF K Int) ca (tCB (rMin K) (tCons ta tNil)) (fun γ Q => wl γ fun xs => 0 < xs.length ∧ ∀ m, IsMin xs m → Q m) :=
  AE.cb1 (r := rF K Int) (k := vF K (List Int)) (f := fun xs Q => 0 < xs.length ∧ ∀ m, IsMin xs m → Q m) ha (fun _ _ _ q z => ⟨z.1, fun m hm => q _ (z.2 m hm)⟩) fun A b0 g H x xs Q G rx z => by
    obtain ⟨a, vs, rfl, h, pr, hl⟩ := rx
    exact ⟨a, xs, rfl, by rw [← paired_int pr]; exact sq_of fz_sub h, z.1, fun m h1 h2 => z.2 m ⟨h1, h2⟩ _ g H (G.up (by omega)) (Ext.refl g H) rfl⟩
theorem ae_all (ha : AE P ks (rF K (List Bool)) ca ta wbs) : AE P ks (rF K Bool) ca (tCB (rAll K) (tCons ta tNil)) (fun γ Q => wbs γ fun xs => Q (xs.all id)) :=
  AE.cb1 (r := rF K Bool) (k := vF K (List Bool)) (f := fun xs Q => Q (xs.all id)) ha (fun _ _ _ q z => q _ z) fun A b0 g H x xs Q G rx z => by
    obtain ⟨a, vs, rfl, h, pr, hl⟩ := rx
    exact ⟨a, xs, rfl, by rw [← paired_bl pr]; exact sq_of fz_sub h, z _ g H (G.up (by omega)) (Ext.refl g H) rfl⟩
theorem ae_any (ha : AE P ks (rF K (List Bool)) ca ta wbs) : AE P ks (rF K Bool) ca (tCB (rAny K) (tCons ta tNil)) (fun γ Q => wbs γ fun xs => Q (xs.any id)) :=
  AE.cb1 (r := rF K Bool) (k := vF K (List Bool)) (f := fun xs Q => Q (xs.any id)) ha (fun _ _ _ q z => q _ z) fun A b0 g H x xs Q G rx z => by
    obtain ⟨a, vs, rfl, h, pr, hl⟩ := rx
    exact ⟨a, xs, rfl, by rw [← paired_bl pr]; exact sq_of fz_sub h, z _ g H (G.up (by omega)) (Ext.refl g H) rfl⟩
theorem ae_sortedI (ha : AE P ks (rF K (List Int)) ca ta wl) : AE P ks (rO K Int) ca (tCB (rSortedI K) (tCons ta tNil)) (fun γ Q => wl γ fun xs => ∀ ys : List Int, ys.Perm xs → ys.Pairwise (· ≤ ·) → Q ys) :=
  AE.cb1 (r := rO K Int) (k := vF K (List Int)) (f := fun xs Q => ∀ ys : List Int, ys.Perm xs → ys.Pairwise (· ≤ ·) → Q ys) ha (fun _ _ _ q z ys h1 h2 => q _ (z ys h1 h2)) fun A b0 g H x xs Q G rx z => by
    obtain ⟨a, vs, rfl, h, pr, hl⟩ := rx
    exact ⟨a, xs, rfl, by rw [← paired_int pr]; exact sq_of fz_sub h, fun ys p h1 h2 hp => newlist (xs := ys) G hp int_paired (by rw [h1.length_eq]; exact hl) (z ys h1 h2)⟩
def iabs (i : Int) : Int := if i < 0 then -i else i
def imax (i j : Int) : Int := if j > i then j else i
def imin (i j : Int) : Int := if j < i then j else i
theorem ae_abs (ha : AE P ks (rF K Int) ca ta wa) : AE P ks (rF K Int) ca (tCB (fun xs H Q => ∃ i, xs = [.int i] ∧ Q (.int (if i < 0 then -i else i)) H) (tCons ta tNil)) (fun γ Q => wa γ fun i => Q (iabs i)) :=
  AE.cb1 (r := rF K Int) (k := vF K Int) (f := fun i Q => Q (iabs i)) ha (fun _ _ _ q z => q _ z) fun A b0 g H x i Q G rx z => ⟨i, by rw [show x = V.int i from rx], z _ g H (G.up (by omega)) (Ext.refl g H) rfl⟩
theorem ae_max2 (ha : AE P ks (rF K Int) ca ta wa) (hb : AE P ks (rF K Int) cb tb wb) : AE P ks (rF K Int) (ca + cb) (tCB (fun xs H Q => ∃ i j, xs = [.int i, .int j] ∧ Q (.int (if j > i then j else i)) H) (tCons ta (tCons tb tNil))) (w2 imax wa wb) :=
  AE.cb2 (r := rF K Int) (k1 := vF K Int) (k2 := vF K Int) (f := fun i j Q => Q (imax i j)) ha hb (fun _ _ _ _ q z => q _ z) fun A b0 g H x y i j Q G rx ry z => ⟨i, j, by rw [show x = V.int i from rx, show y = V.int j from ry], z _ g H (G.up (by omega)) (Ext.refl g H) rfl⟩
theorem ae_min2 (ha : AE P ks (rF K Int) ca ta wa) (hb : AE P ks (rF K Int) cb tb wb) : AE P ks (rF K Int) (ca + cb) (tCB (fun xs H Q => ∃ i j, xs = [.int i, .int j] ∧ Q (.int (if j < i then j else i)) H) (tCons ta (tCons tb tNil))) (w2 imin wa wb) :=
  AE.cb2 (r := rF K Int) (k1 := vF K Int) (k2 := vF K Int) (f := fun i j Q => Q (imin i j)) ha hb (fun _ _ _ _ q z => q _ z) fun A b0 g H x y i j Q G rx ry z => ⟨i, j, by rw [show x = V.int i from rx, show y = V.int j from ry], z _ g H (G.up (by omega)) (Ext.refl g H) rfl⟩
def b2n (b : Bool) : Int := if b then 1 else 0
theorem ae_intB (ha : AE P ks (rF K Bool) ca ta wbo) : AE P ks (rF K Int) ca (tCB (fun xs H Q => (∃ i, xs = [.int i] ∧ Q (.int i) H) ∨ ∃ k, xs = [.bl k] ∧ Q (.int (if k then 1 else 0)) H) (tCons ta tNil)) (fun γ Q => wbo γ fun b => Q (b2n b)) :=
  AE.cb1 (r := rF K Int) (k := vF K Bool) (f := fun b Q => Q (b2n b)) ha (fun _ _ _ q z => q _ z) fun A b0 g H x b Q G rx z => .inr ⟨b, by rw [show x = V.bl b from rx], z _ g H (G.up (by omega)) (Ext.refl g H) rfl⟩
end
end DL
/-! DL: targets, statements, what is walked, loops, comprehensions, defs. -/
namespace DL
open PySem PySem.Spec PyProof.Rows L2
variable {P : TokP} {K : PySem.W.Frag} {ks ks' ks1 ks2 kb : List Kd} {r : Rk} {ta tb te : TE}

theorem set_self {α : Type} {σ : List α} {n : Nat} {y : α} (e : σ[n]? = some y) : σ.set n y = σ := by
  apply List.ext_getElem?
  intro i
  rw [List.getElem?_set]
  by_cases h : n = i
  · subst h
    have hl : n < σ.length := (List.getElem?_eq_some_iff.mp e).1
    rw [if_pos rfl, if_pos hl, e]
  · rw [if_neg h]
/-! ### targets -/
structure AG (K : PySem.W.Frag) (ks : List Kd) (α : Type) [Rp K α] (ks' : List Kd) (G : TG) (put : TupT ks → α → TupT ks') (sl : List Nat) : Prop where
  run : ∀ v x γ σ g H (Q : Sl → Hp → Prop), RelL ks 0 γ σ g H → Rp.rp K (Fz g H) v x → (∀ σ', RelL ks' 0 (put γ x) σ' g H → (∀ vs, (∀ i ∈ sl, i ∈ vs) → wipe σ' vs = wipe σ vs) → Q σ' H) → G v σ H Q
theorem set_wipe {σ : Sl} {i : Nat} {y : Option V} : ∀ {vs : List Nat}, i ∈ vs → wipe (σ.set i y) vs = wipe σ vs
  | [], h => by cases h
  | v :: vs, h => by
    show (wipe (σ.set i y) vs).set v none = (wipe σ vs).set v none
    by_cases hi : i ∈ vs
    · rw [set_wipe hi]
    · have e : i = v := by
        rcases List.mem_cons.mp h with e | e
        · exact e
        · exact absurd e hi
      subst e
      have comm : ∀ (us : List Nat) (τ : Sl), i ∉ us → wipe (τ.set i y) us = (wipe τ us).set i y := by
        intro us
        induction us with
        | nil => intro τ _; rfl
        | cons u us ih =>
          intro τ hu
          show (wipe (τ.set i y) us).set u none = ((wipe τ us).set u none).set i y
          rw [ih τ (fun z => hu (List.mem_cons_of_mem _ z)), List.set_comm]
          intro z
          exact hu (z ▸ List.mem_cons_self)
      rw [comm vs σ hi, List.set_set]
theorem ag_name {α : Type} [Rp K α] {n : Nat} (p : Put ks n (kF K α) ks') : AG K ks α ks' (gName n) (fun γ x => p.put γ x) [n] := ⟨fun v x γ σ g H Q R rv q => by
  refine q _ (p.ok R (Le.refl g H) (fun j _ a o h1 h2 => ⟨h1, h2⟩) ⟨v, rfl, rv⟩) fun vs hv => set_wipe (hv n (by simp))⟩
theorem ag_two {α β : Type} [Rp K α] [Rp K β] {g1 g2 : TG} {put1 : TupT ks → α → TupT ks1} {put2 : TupT ks1 → β → TupT ks2} {s1 s2 : List Nat} (h1 : AG K ks α ks1 g1 put1 s1) (h2 : AG K ks1 β ks2 g2 put2 s2) :
    AG K ks (α × β) ks2 (gTup K 2 (gCons g1 (gCons g2 gNil))) (fun γ x => put2 (put1 γ x.1) x.2) (s1 ++ s2) := ⟨fun v x γ σ g H Q R rv q => by
  obtain ⟨a, v1, v2, rfl, h, r1, r2⟩ := rv
  refine ⟨a, _, rfl, h.sq fz_sub, rfl, v1, [v2], rfl, h1.run v1 x.1 γ σ g H _ R r1 fun σ1 R1 w1 => ⟨v2, [], rfl, h2.run v2 x.2 _ σ1 g H _ R1 r2 fun σ2 R2 w2 => ⟨rfl, q σ2 R2 fun vs hv => ?_⟩⟩⟩
  rw [w2 vs fun i hi => hv i (List.mem_append_right _ hi), w1 vs fun i hi => hv i (List.mem_append_left _ hi)]⟩
theorem ag_three {α β δ : Type} [Rp K α] [Rp K β] [Rp K δ] {ks3 : List Kd} {g1 g2 g3 : TG} {put1 : TupT ks → α → TupT ks1} {put2 : TupT ks1 → β → TupT ks2} {put3 : TupT ks2 → δ → TupT ks3} {s1 s2 s3 : List Nat} (h1 : AG K ks α ks1 g1 put1 s1) (h2 : AG K ks1 β ks2 g2 put2 s2) (h3 : AG K ks2 δ ks3 g3 put3 s3) :
    AG K ks (T3 α β δ) ks3 (gTup K 3 (gCons g1 (gCons g2 (gCons g3 gNil)))) (fun γ x => put3 (put2 (put1 γ x.a) x.b) x.c) (s1 ++ (s2 ++ s3)) := ⟨fun v x γ σ g H Q R rv q => by
  obtain ⟨a, v1, v2, v3, rfl, h, r1, r2, r3⟩ := rv
  refine ⟨a, _, rfl, h.sq fz_sub, rfl, v1, _, rfl, h1.run v1 x.a γ σ g H _ R r1 fun σ1 R1 w1 => ⟨v2, _, rfl, h2.run v2 x.b _ σ1 g H _ R1 r2 fun σ2 R2 w2 => ⟨v3, [], rfl, h3.run v3 x.c _ σ2 g H _ R2 r3 fun σ3 R3 w3 => ⟨rfl, q σ3 R3 fun vs hv => ?_⟩⟩⟩⟩
  rw [w3 vs fun i hi => hv i (List.mem_append_right _ (List.mem_append_right _ hi)), w2 vs fun i hi => hv i (List.mem_append_right _ (List.mem_append_left _ hi)), w1 vs fun i hi => hv i (List.mem_append_left _ hi)]⟩

/-! ### statements -/
theorem Wt.of {A : Act} {b0 b1 : Nat} {g g1 : Gh} {H H1 : Hp} {N : Sl → Hp → Prop} {γ : TupT ks} (hb : b1 ≤ b0) (l : Le g H g1 H1) (h : Wt P A b0 g H ks N γ) : Wt P A b1 g1 H1 ks N γ := fun σ' g' H' G' l' R' => h σ' g' H' (G'.up hb) (l.trans l') R'
theorem We.of {A : Act} {b0 b1 : Nat} {g g1 : Gh} {H H1 : Hp} {D : Ends} (hb : b1 ≤ b0) (l : Le g H g1 H1) : We.Imp (⟨Wt P A b0 g H ks' D.nx, Wr P A b0 r D.rt, Wt P A b0 g H kb D.bk, Wt P A b0 g H kb D.ct⟩ : We ks' r kb) ⟨Wt P A b1 g1 H1 ks' D.nx, Wr P A b1 r D.rt, Wt P A b1 g1 H1 kb D.bk, Wt P A b1 g1 H1 kb D.ct⟩ :=
  ⟨fun _ h => Wt.of hb l h, fun _ h v g' H' G' => h v g' H' (G'.up hb), fun _ h => Wt.of hb l h, fun _ h => Wt.of hb l h⟩
theorem as_nil (k : Wk ks ks') : AS P ks ks' r kb 0 tNext (fun γ E => E.nx (k.to γ)) := ⟨fun γ E E' i z => i.nx _ z, fun A b0 γ σ g H D hb0 G R hw => hw σ g H (G.up (by omega)) (Le.refl g H) (k.ok R)⟩
theorem as_seq {t u : TS} {w1 : TupT ks → We ks1 r kb → Prop} {w2 : TupT ks1 → We ks' r kb → Prop} (h1 : AS P ks ks1 r kb ct t w1) (h2 : AS P ks1 ks' r kb cu u w2) :
    AS P ks ks' r kb (ct + cu) (tSeq t u) (fun γ E => w1 γ ⟨fun γ1 => w2 γ1 E, E.rt, E.bk, E.ct⟩) := by
  refine ⟨fun γ E E' i z => h1.mono γ _ _ ⟨fun x zx => h2.mono x _ _ i zx, i.rt, i.bk, i.ct⟩ z, fun A b0 γ σ g H D hb0 G R hw => ?_⟩
  refine h1.run A b0 γ σ g H _ (by omega) G R ?_
  refine h1.mono γ _ _ ?_ hw
  refine ⟨fun x zx σ' g' H' G' l' R' => ?_, fun _ h v g' H' G' => h v g' H' (G'.up (by omega)), fun _ h => Wt.of (by omega) (Le.refl _ _) h, fun _ h => Wt.of (by omega) (Le.refl _ _) h⟩
  exact h2.run A _ x σ' g' H' D (by omega) G' R' (h2.mono x _ _ (We.of (by omega) l') zx)
/-- a value is given to a name -/
theorem as_set {vk : Vk} {n : Nat} {w : TupT ks → (vk.T → Prop) → Prop} (he : AE P ks (rV vk) ce te w) (p : Put ks n (kV vk) ks') : AS P ks ks' r kb ce (tAsg te (gName n)) (fun γ E => w γ fun x => ∀ y, y = x → E.nx (p.put γ y)) := by
  refine ⟨fun γ E E' i z => he.mono γ _ _ (fun x zx y ey => i.nx _ (zx y ey)) z, fun A b0 γ σ g H D hb0 G R hw => ?_⟩
  refine he.run A b0 γ σ g H _ (by omega) G R (he.mono γ _ _ (fun x zx v g' H' G' e' r' => ?_) hw)
  exact zx x rfl _ g' H' (G'.up (by omega)) (e'.le G) (p.ok R (e'.le G) (fun j _ => (e'.lx G).ow j) ⟨v, rfl, r'⟩)
/-- by a target of any form -/
theorem as_asg {α : Type} [Rp K α] {gt : TG} {put : TupT ks → α → TupT ks'} {sl : List Nat} {w : TupT ks → (α → Prop) → Prop} (he : AE P ks (rF K α) ce te w) (hg : AG K ks α ks' gt put sl) : AS P ks ks' r kb ce (tAsg te gt) (fun γ E => w γ fun x => ∀ y, y = x → E.nx (put γ y)) := by
  refine ⟨fun γ E E' i z => he.mono γ _ _ (fun x zx y ey => i.nx _ (zx y ey)) z, fun A b0 γ σ g H D hb0 G R hw => ?_⟩
  refine he.run A b0 γ σ g H _ (by omega) G R (he.mono γ _ _ (fun x zx v g' H' G' e' r' => ?_) hw)
  exact hg.run v x γ σ g' H' _ (R.ext G e') r' fun σ' R' _ => zx x rfl σ' g' H' (G'.up (by omega)) (e'.le G) R'
/-- a new list is given to a name that will change it -/
theorem as_own {α : Type} [Rp K α] {n : Nat} {w : TupT ks → (List α → Prop) → Prop} (he : AE P ks (rO K α) ce te w) (p : Put ks n (kO K α) ks') : AS P ks ks' r kb ce (tAsg te (gName n)) (fun γ E => w γ fun x => ∀ y, y = x → E.nx (p.put γ y)) := by
  refine ⟨fun γ E E' i z => he.mono γ _ _ (fun x zx y ey => i.nx _ (zx y ey)) z, fun A b0 γ σ g H D hb0 G R hw => ?_⟩
  refine he.run A b0 γ σ g H _ (by omega) G R (he.mono γ _ _ (fun x zx v g' H' G' e' r' => ?_) hw)
  obtain ⟨a, vs, rfl, h1, h2, h3, h4, hl⟩ := r'
  have h0 : A.H0 a = none := G.ext.keeps G h1
  have l2 : Le g' H' (tagAt g' a (.own n)) H' := le_tag (by rw [h2]; simp) (by rw [h2]; simp)
  refine zx x rfl _ _ H' (G'.retag (t := .own n) h0 h3 (by rw [h2]; simp) fun z => nomatch z) ((e'.le G).trans l2) (p.ok R ((e'.le G).trans l2) (fun j _ b o hb ho => ?_) ⟨a, vs, rfl, ?_, h3, Paired.rp_mono l2.fz h4, hl⟩)
  · obtain ⟨q1, q2⟩ := (e'.lx G).ow j b o hb ho
    refine ⟨?_, q2⟩
    rw [tagAt_ne]
    · exact q1
    · intro z
      subst z
      rw [h2] at q1
      cases q1
  · rw [tagAt_same, Nat.zero_add]
/-- a new list of whole numbers becomes a token -/
theorem as_tok {n : Nat} {w : TupT ks → (List Int → Prop) → Prop} (he : AE P ks (rO K Int) ce te w) (p : Put ks n kT ks') : AS P ks ks' r kb ce (tAsg te (gName n)) (fun γ E => w γ fun x => P.Tk 0 (.lst (x.map V.int)) ∧ E.nx (p.put γ ())) := by
  refine ⟨fun γ E E' i z => he.mono γ _ _ (fun x zx => ⟨zx.1, i.nx _ zx.2⟩) z, fun A b0 γ σ g H D hb0 G R hw => ?_⟩
  refine he.run A b0 γ σ g H _ (by omega) G R (he.mono γ _ _ (fun x zx v g' H' G' e' r' => ?_) hw)
  obtain ⟨a, vs, rfl, h1, h2, h3, h4, hl⟩ := r'
  have h0 : A.H0 a = none := G.ext.keeps G h1
  have l2 : Le g' H' (tagAt g' a .tok) H' := le_tag (by rw [h2]; simp) (by rw [h2]; simp)
  refine zx.2 _ _ H' (G'.retag h0 h3 (by rw [h2]; simp) fun _ => by rw [paired_int h4]; exact P.up (Nat.zero_le _) zx.1) ((e'.le G).trans l2) (p.ok R ((e'.le G).trans l2) (fun j _ b o hb ho => ?_) ⟨_, rfl, a, rfl, tagAt_same⟩)
  obtain ⟨q1, q2⟩ := (e'.lx G).ow j b o hb ho
  refine ⟨?_, q2⟩
  rw [tagAt_ne]
  · exact q1
  · intro z
    subst z
    rw [h2] at q1
    cases q1
theorem as_ret {w : TupT ks → (r.T → Prop) → Prop} (he : AE P ks r ce te w) : AS P ks ks' r kb ce (tRet te) (fun γ E => w γ E.rt) := by
  refine ⟨fun γ E E' i z => he.mono γ _ _ i.rt z, fun A b0 γ σ g H D hb0 G R hw => ?_⟩
  refine he.run A b0 γ σ g H _ (by omega) G R (he.mono γ _ _ (fun x zx v g' H' G' e' r' => ?_) hw)
  exact zx v g' H' (G'.up (by omega)) (r.start (fun a ha => G.ext.keeps G ha) r')
/-- return of an owned list -/
theorem ae_give {α : Type} [Rp K α] {n : Nat} (a : Acc ks n (kO K α)) : AS P ks ks' (rO K α) kb 0 (tRet (tVar n)) (fun γ E => E.rt (a.get γ)) := by
  refine ⟨fun γ E E' i z => i.rt _ z, fun A b0 γ σ g H D hb0 G R hw => ?_⟩
  obtain ⟨y, e, p, vs, rfl, h1, h2, h3, hl⟩ := a.ok R
  have h0 : A.H0 p = none := G.noown0 h1
  refine ⟨_, e, hw _ (tagAt g p .oth) H (G.retag h0 h2 (by rw [h1]; simp) fun z => nomatch z) ⟨p, vs, rfl, h0, tagAt_same, h2, Paired.rp_mono (le_tag (by rw [h1]; simp) (by rw [h1]; simp)).fz h3, hl⟩⟩
/-- from here on an owned list is frozen -/
theorem as_frz {α : Type} [Rp K α] {n : Nat} {t : TS} {w : TupT ks1 → We ks' r kb → Prop} (a : Acc ks n (kO K α)) (p : Put ks n (kF K (List α)) ks1) (h : AS P ks1 ks' r kb ct t w) : AS P ks ks' r kb ct t (fun γ E => w (p.put γ (a.get γ)) E) := by
  refine ⟨fun γ E E' i z => h.mono _ _ _ i z, fun A b0 γ σ g H D hb0 G R hw => ?_⟩
  obtain ⟨y, e, b, vs, rfl, h1, h2, h3, hl⟩ := a.ok R
  have h0 : A.H0 b = none := G.noown0 h1
  have l2 : Le g H (tagAt g b .frz) H := le_tag (by rw [h1]; simp) (by rw [h1]; simp)
  have es : σ.set n (some (.ref b)) = σ := set_self e
  have R1 := p.ok (y := some (.ref b)) (x := a.get γ) R l2 (fun j hj c o hc ho => ⟨by
    rw [tagAt_ne]
    · exact hc
    · intro z
      subst z
      rw [h1] at hc
      exact hj (Tg.own.inj hc).symm, ho⟩) ⟨_, rfl, b, vs, rfl, fz_some.mpr ⟨h2, .inr (by rw [tagAt_same]; rfl)⟩, Paired.rp_mono l2.fz h3, hl⟩
  rw [es] at R1
  exact h.run A b0 _ σ (tagAt g b .frz) H D (by omega) (G.retag h0 h2 (by rw [h1]; simp) fun z => nomatch z) R1 (h.mono _ _ _ (We.of (by omega) l2) hw)
theorem as_expr {w : TupT ks → (r.T → Prop) → Prop} {r' : Rk} (he : AE P ks r ce te w) : AS P ks ks r' kb ce (tDrop te) (fun γ E => w γ fun _ => E.nx γ) := by
  refine ⟨fun γ E E' i z => he.mono γ _ _ (fun x zx => i.nx _ zx) z, fun A b0 γ σ g H D hb0 G R hw => ?_⟩
  refine he.run A b0 γ σ g H _ (by omega) G R (he.mono γ _ _ (fun x zx v g' H' G' e' r' => ?_) hw)
  exact zx σ g' H' (G'.up (by omega)) (e'.le G) (R.ext G e')
theorem as_if {c : TT} {t u : TS} {wc : TupT ks → (Bool → Prop) → Prop} {w1 w2 : TupT ks → We ks' r kb → Prop} (hc : AT P ks cc c wc) (h1 : AS P ks ks' r kb ct t w1) (h2 : AS P ks ks' r kb cu u w2) : AS P ks ks' r kb (cc + ct + cu) (tIfS c t u) (fun γ E => wc γ fun b => if b = true then w1 γ E else w2 γ E) := by
  refine ⟨fun γ E E' i z => hc.mono γ _ _ (fun b zb => ?_) z, fun A b0 γ σ g H D hb0 G R hw => ?_⟩
  · cases b with
    | true => exact h1.mono γ _ _ i zb
    | false => exact h2.mono γ _ _ i zb
  · refine hc.run A b0 γ σ g H _ (by omega) G R (hc.mono γ _ _ (fun b zb g' H' G' e' => ?_) hw)
    cases b with
    | true => exact h1.run A _ γ σ g' H' D (by omega) G' (R.ext G e') (h1.mono γ _ _ (We.of (by omega) (e'.le G)) zb)
    | false => exact h2.run A _ γ σ g' H' D (by omega) G' (R.ext G e') (h2.mono γ _ _ (We.of (by omega) (e'.le G)) zb)
theorem as_never : AS P ks ks' r kb 0 tNever (fun _ _ => False) := ⟨fun _ _ _ _ z => z, fun _ _ _ _ _ _ _ _ _ _ hw => hw⟩
theorem as_break (k : Wk ks kb) : AS P ks ks' r kb 0 tBreak (fun γ E => E.bk (k.to γ)) := ⟨fun γ E E' i z => i.bk _ z, fun A b0 γ σ g H D hb0 G R hw => hw σ g H (G.up (by omega)) (Le.refl g H) (k.ok R)⟩
theorem as_cont (k : Wk ks kb) : AS P ks ks' r kb 0 tCont (fun γ E => E.ct (k.to γ)) := ⟨fun γ E E' i z => i.ct _ z, fun A b0 γ σ g H D hb0 G R hw => hw σ g H (G.up (by omega)) (Le.refl g H) (k.ok R)⟩

/-! ### changes of an owned list -/
theorem own_write {α : Type} [Rp K α] {A : Act} {g : Gh} {H : Hp} {n : Nat} {γ : TupT ks} {σ : Sl} {b : Addr} {vs us : List V} {xs : List α} (p : Put ks n (kO K α) ks) (G : Good P A b0 g H) (R : RelL ks 0 γ σ g H) (e : σ[n]? = some (some (.ref b))) (h1 : g b = .own (0 + n)) (h2 : H b = some (.lst vs))
    (h3 : Paired (Rp.rp K (Fz g H)) us xs) (hl : xs.length ≤ 9223372036854775808) : Good P A b0 g (upd H b (.lst us)) ∧ Le g H g (upd H b (.lst us)) ∧ RelL ks 0 (p.put γ xs) σ g (upd H b (.lst us)) := by
  have l2 := G.write_le (u := .lst us) h1 h2 rfl
  refine ⟨G.write h1 h2, l2, ?_⟩
  have R1 := p.ok (y := some (.ref b)) (x := xs) R l2 (fun j hj c o hc ho => ⟨hc, by
    rw [upd_ne]
    · exact ho
    · intro z
      subst z
      rw [h1] at hc
      exact hj (Tg.own.inj hc).symm⟩) ⟨b, us, rfl, h1, upd_same, Paired.rp_mono l2.fz h3, hl⟩
  rwa [set_self e] at R1
theorem as_append {α : Type} [Rp K α] {n : Nat} {w : TupT ks → (α → Prop) → Prop} (a : Acc ks n (kO K α)) (p : Put ks n (kO K α) ks) (he : AE P ks (rF K α) ce te w) :
    AS P ks ks r kb ce (tDrop (tBM K "list" rAppend (tVar n) (tCons te tNil))) (fun γ E => w γ fun x => (a.get γ).length < sizeLine ∧ E.nx (p.put γ (a.get γ ++ [x]))) := by
  refine ⟨fun γ E E' i z => he.mono γ _ _ (fun x zx => ⟨zx.1, i.nx _ zx.2⟩) z, fun A b0 γ σ g H D hb0 G R hw => ?_⟩
  obtain ⟨y, e, b, vs, rfl, h1, h2, h3, hl⟩ := a.ok R
  refine ⟨_, e, .inl ⟨rfl, vs, .inl (.inl h2)⟩, ?_⟩
  refine he.run A b0 γ σ g H _ (by omega) G R (he.mono γ _ _ (fun x zx v g' H' G' e' r' => ?_) hw)
  obtain ⟨q1, q2⟩ := (e'.lx G).ow _ b _ h1 h2
  have h3' := Paired.rp_mono (e'.le G).fz h3
  obtain ⟨G2, l2, R2⟩ := own_write p G' (R.ext G e') e q1 q2 (Paired.app h3' (.cons r' .nil)) (by rw [List.length_append]; show (a.get γ).length + 1 ≤ _; have h := zx.1; rw [sizeLine_eq] at h; omega)
  exact ⟨b, vs, v, rfl, rfl, q2, by rw [Paired.len h3]; exact zx.1, zx.2 σ g' _ (G2.up (by omega)) ((e'.le G).trans l2) R2⟩
theorem as_setitem {α : Type} [Rp K α] {n : Nat} {ti : TE} {w : TupT ks → (α → Prop) → Prop} {wi : TupT ks → (Int → Prop) → Prop} (a : Acc ks n (kO K α)) (p : Put ks n (kO K α) ks) (he : AE P ks (rF K α) ce te w) (hi : AE P ks (rF K Int) ci ti wi) :
    AS P ks ks r kb (ce + ci) (tAsg te (gSub (tVar n) ti rSetL)) (fun γ E => w γ fun x => wi γ fun i => ∃ j, ixN (a.get γ).length i = some j ∧ E.nx (p.put γ ((a.get γ).set j x))) := by
  refine ⟨fun γ E E' i z => he.mono γ _ _ (fun x zx => hi.mono γ _ _ (fun k ⟨j, e, zk⟩ => ⟨j, e, i.nx _ zk⟩) zx) z, fun A b0 γ σ g H D hb0 G R hw => ?_⟩
  obtain ⟨y, e, b, vs, rfl, h1, h2, h3, hl⟩ := a.ok R
  refine he.run A b0 γ σ g H _ (by omega) G R (he.mono γ _ _ (fun x zx v g' H' G' e' r' => ⟨_, e, ?_⟩) hw)
  refine hi.run A _ γ σ g' H' _ (by omega) G' (R.ext G e') (hi.mono γ _ _ (fun k ⟨j, ej, zk⟩ u g2 H2 G2 e2 r2 => ?_) zx)
  have e12 := e'.trans G' e2
  obtain ⟨q1, q2⟩ := (e12.lx G).ow _ b _ h1 h2
  have h3' := Paired.rp_mono (e12.le G).fz h3
  obtain ⟨G3, l3, R3⟩ := own_write p G2 (R.ext G e12) e q1 q2 (Paired.set' (rp_ext G' e2 r') j h3') (by rw [List.length_set]; exact hl)
  exact ⟨b, vs, k, j, rfl, r2, q2, by rw [Paired.len h3]; exact ej, zk σ g2 _ (G3.up (by omega)) ((e12.le G).trans l3) R3⟩
/-- x += e of whole numbers -/
theorem as_aug {n : Nat} {f : Int → Int → Int} {w : TupT ks → (Int → Prop) → Prop} (a : Acc ks n (kF K Int)) (p : Put ks n (kF K Int) ks') (he : AE P ks (rF K Int) ce te w) : AS P ks ks' r kb ce (tAug n te (ipI f)) (fun γ E => w γ fun x => ∀ y, y = f (a.get γ) x → E.nx (p.put γ y)) := by
  refine ⟨fun γ E E' i z => he.mono γ _ _ (fun x zx y ey => i.nx _ (zx y ey)) z, fun A b0 γ σ g H D hb0 G R hw => ?_⟩
  obtain ⟨y, e, v0, rfl, h0⟩ := a.ok R
  refine ⟨_, e, ?_⟩
  refine he.run A b0 γ σ g H _ (by omega) G R (he.mono γ _ _ (fun x zx v g' H' G' e' r' => ⟨a.get γ, x, h0, r', ?_⟩) hw)
  exact zx _ rfl _ g' H' (G'.up (by omega)) (e'.le G) (p.ok R (e'.le G) (fun j _ => (e'.lx G).ow j) ⟨_, rfl, rfl⟩)

/-! ### a, b = x, y -/
theorem as_par {k1 k2 : Vk} {i j : Nat} {t : TA} {wt : TupT ks → (TupV [k1, k2] → Prop) → Prop} (ht : AA P ks [k1, k2] ct t wt) (p1 : Put ks i (kV k1) ks1) (p2 : Put ks1 j (kV k2) ks') :
    AS P ks ks' r kb ct (tPar i j t) (fun γ E => wt γ fun xs => ∀ a b, a = xs.1 → b = xs.2.1 → E.nx (p2.put (p1.put γ a) b)) := by
  refine ⟨fun γ E E' im z => ht.mono γ _ _ (fun x zx a b ea eb => im.nx _ (zx a b ea eb)) z, fun A b0 γ σ g H D hb0 G R hw => ?_⟩
  refine ht.run A b0 γ σ g H _ (by omega) G R (ht.mono γ _ _ (fun xs zx vs g' H' G' e' r' => ?_) hw)
  obtain ⟨v1, _, rfl, h1, v2, _, rfl, h2, rfl⟩ := r'
  have R1 := p1.ok (y := some v1) (x := xs.1) R (e'.le G) (fun j _ => (e'.lx G).ow j) ⟨v1, rfl, h1⟩
  have R2 := p2.ok (y := some v2) (x := xs.2.1) R1 (Le.refl g' H') (fun j _ a o h h' => ⟨h, h'⟩) ⟨v2, rfl, h2⟩
  exact ⟨v1, v2, rfl, zx _ _ rfl rfl _ g' H' (G'.up (by omega)) (e'.le G) R2⟩

/-! ### what is walked -/
structure ItOk (P : TokP) (K : PySem.W.Frag) {α : Type} [Rp K α] (J : It) (xs : List α) (gs : Gh) (Hs : Hp) : Prop where
  len : xs.length ≤ 9223372036854775808
  stop : ∀ (A : Act) b0 g H i, Good P A b0 g H → Le gs Hs g H → xs.length ≤ i → J.stop i H
  go : ∀ (A : Act) b0 g H i, Good P A b0 g H → Le gs Hs g H → i < xs.length → J.go i H
  yld : ∀ (A : Act) b0 g H i x H', Good P A b0 g H → Le gs Hs g H → J.yld i H x H' → ∀ y, xs[i]? = some y → Good P A b0 g H' ∧ Ext g H g H' ∧ Rp.rp K (Fz g H') x y
structure AI (P : TokP) (K : PySem.W.Frag) (ks : List Kd) (α : Type) [Rp K α] (c : Nat) (wi : TI) (w : TupT ks → (List α → Prop) → Prop) : Prop where
  mono : ∀ γ (Q Q' : List α → Prop), (∀ x, Q x → Q' x) → w γ Q → w γ Q'
  run : ∀ (A : Act) b0 γ σ g H (Q : It → Hp → Prop), b0 + c ≤ P.B → Good P A b0 g H → RelL ks 0 γ σ g H → w γ (fun xs => ∀ J g' H', Good P A (b0 + c) g' H' → Ext g H g' H' → ItOk P K J xs g' H' → Q J H') → wi σ H Q
theorem ai_list {α : Type} [Rp K α] {w : TupT ks → (List α → Prop) → Prop} (he : AE P ks (rF K (List α)) ce te w) : AI P K ks α ce (iList K te) w := by
  refine ⟨he.mono, fun A b0 γ σ g H Q hb0 G R hw => ?_⟩
  refine he.run A b0 γ σ g H _ (by omega) G R (he.mono γ _ _ (fun xs zx v g' H' G' e' r' => ?_) hw)
  obtain ⟨a, vs, rfl, h, pr, hl⟩ := r'
  have sq : ∀ {A : Act} {g2 H2}, Le g' H' g2 H2 → SqL K H2 a vs := fun l => sq_of fz_sub (l.fz _ _ h)
  refine ⟨a, rfl, ⟨vs, sq_of fz_sub h⟩, zx _ g' H' (G'.up (by omega)) e' ⟨hl, fun A2 b2 g2 H2 i G2 l hi => ⟨vs, sq (A := A2) l, by rw [Paired.len pr]; exact hi⟩, fun A2 b2 g2 H2 i G2 l hi => ?_, fun A2 b2 g2 H2 i x H3 G2 l hy y ey => ?_⟩⟩
  · have hi' : i < vs.length := by rw [Paired.len pr]; exact hi
    exact ⟨vs, vs[i], sq (A := A2) l, List.getElem?_eq_getElem hi'⟩
  · obtain ⟨rfl, hx⟩ := hy
    obtain ⟨z, ez, rz⟩ := Paired.at pr ey
    have e2 := hx vs (sq (A := A2) l)
    rw [ez] at e2
    cases e2
    exact ⟨G2, Ext.refl _ _, Rp.mono l.fz rz⟩
/-- lo, lo + 1, .. -/
def rangeI (lo : Int) (n : Nat) : List Int := (List.range n).map fun i : Nat => lo + (i : Int)
theorem rangeI_len (lo : Int) (n : Nat) : (rangeI lo n).length = n := by unfold rangeI; simp
theorem it_rng {lo : Int} {n : Nat} {gs : Gh} {Hs : Hp} (hn : n ≤ 9223372036854775808) : ItOk P K (Itr lo n) (rangeI lo n) gs Hs := by
  have hlen : (rangeI lo n).length ≤ 9223372036854775808 := by rw [rangeI_len]; exact hn
  refine ⟨hlen, fun A2 b2 g2 H2 i G2 l hi => by rw [rangeI_len] at hi; exact hi, fun A2 b2 g2 H2 i G2 l hi => by rw [rangeI_len] at hi; exact hi, fun A2 b2 g2 H2 i x H3 G2 l hy y ey => ?_⟩
  obtain ⟨rfl, rfl⟩ := hy
  refine ⟨G2, Ext.refl _ _, ?_⟩
  unfold rangeI at ey
  rw [List.getElem?_map] at ey
  cases h : (List.range n)[i]? with
  | none => rw [h] at ey; cases ey
  | some j =>
    rw [h] at ey
    have hj : i = j := by
      have hl : i < (List.range n).length := (List.getElem?_eq_some_iff.mp h).1
      rw [List.getElem?_eq_getElem hl, List.getElem_range] at h
      exact Option.some.inj h
    have ey' : lo + (j : Int) = y := Option.some.inj ey
    rw [← ey', ← hj]
    rfl
theorem ai_range1 {w : TupT ks → (Int → Prop) → Prop} (he : AE P ks (rF K Int) ce te w) : AI P K ks Int ce (iRng1 (tCons te tNil)) (fun γ Q => w γ fun j => (-(2 ^ 62) ≤ j ∧ j < 2 ^ 62) ∧ Q (rangeI 0 j.toNat)) := by
  refine ⟨fun γ Q Q' q z => he.mono γ _ _ (fun a za => ⟨za.1, q _ za.2⟩) z, fun A b0 γ σ g H Q hb0 G R hw => ?_⟩
  refine he.run A b0 γ σ g H _ (by omega) G R (he.mono γ _ _ (fun j zj v g' H' G' e' r' => ⟨j, ?_, zj.1.1, zj.1.2, zj.2 _ g' H' (G'.up (by omega)) e' (it_rng (by have := zj.1.2; omega))⟩) hw)
  rw [show v = V.int j from r']
theorem ai_range2 {wa wb : TupT ks → (Int → Prop) → Prop} (ha : AE P ks (rF K Int) ca ta wa) (hb : AE P ks (rF K Int) cb tb wb) : AI P K ks Int (ca + cb) (iRng2 (tCons ta (tCons tb tNil))) (fun γ Q => wa γ fun i => wb γ fun j => (-(2 ^ 62) ≤ i ∧ i < 2 ^ 62 ∧ -(2 ^ 62) ≤ j ∧ j < 2 ^ 62) ∧ Q (rangeI i (j - i).toNat)) := by
  refine ⟨fun γ Q Q' q z => ha.mono γ _ _ (fun a za => hb.mono γ _ _ (fun b zb => ⟨zb.1, q _ zb.2⟩) za) z, fun A b0 γ σ g H Q hb0 G R hw => ?_⟩
  refine ha.run A b0 γ σ g H _ (by omega) G R (ha.mono γ _ _ (fun i zi u g1 H1 G1 e1 r1 => ?_) hw)
  refine hb.run A _ γ σ g1 H1 _ (by omega) G1 (R.ext G e1) (hb.mono γ _ _ (fun j zj v g' H' G' e' r' => ⟨i, j, ?_, zj.1, zj.2 _ g' H' (G'.up (by omega)) (e1.trans G1 e') (it_rng (by have := zj.1; omega))⟩) zi)
  rw [show v = V.int j from r', show u = V.int i from r1]
/-- a written pair of like things -/
theorem ai_two {α : Type} [Rp K α] {w : TupT ks → (α × α → Prop) → Prop} (he : AE P ks (rF K (α × α)) ce te w) : AI P K ks α ce (iTup K te) (fun γ Q => w γ fun x => Q [x.1, x.2]) := by
  refine ⟨fun γ Q Q' q z => he.mono γ _ _ (fun a za => q _ za) z, fun A b0 γ σ g H Q hb0 G R hw => ?_⟩
  refine he.run A b0 γ σ g H _ (by omega) G R (he.mono γ _ _ (fun xs zx v g' H' G' e' r' => ?_) hw)
  obtain ⟨a, v1, v2, rfl, h, p1, p2⟩ := r'
  have sq : ∀ {A : Act} {g2 H2}, Le g' H' g2 H2 → SqT K H2 a [v1, v2] := fun l => (h.mono fun _ _ z => l.fz _ _ z).sq fz_sub
  refine ⟨a, rfl, ⟨_, h.sq fz_sub⟩, zx _ g' H' (G'.up (by omega)) e' ⟨(by show 2 ≤ _; omega), fun A2 b2 g2 H2 i G2 l hi => ⟨_, sq (A := A2) l, hi⟩, fun A2 b2 g2 H2 i G2 l hi => ?_, fun A2 b2 g2 H2 i x H3 G2 l hy y ey => ?_⟩⟩
  · have hi' : i < [v1, v2].length := hi
    exact ⟨_, [v1, v2][i], sq (A := A2) l, List.getElem?_eq_getElem hi'⟩
  · obtain ⟨rfl, hx⟩ := hy
    have e2 := hx _ (sq (A := A2) l)
    refine ⟨G2, Ext.refl _ _, ?_⟩
    match i, ey, e2 with
    | 0, ey, e2 => cases ey; cases e2; exact Rp.mono l.fz p1
    | 1, ey, e2 => cases ey; cases e2; exact Rp.mono l.fz p2
theorem ai_zip {α β : Type} [Rp K α] [Rp K β] {wa : TupT ks → (List α → Prop) → Prop} {wb : TupT ks → (List β → Prop) → Prop} (ha : AE P ks (rF K (List α)) ca ta wa) (hb : AE P ks (rF K (List β)) cb tb wb) :
    AI P K ks (α × β) (ca + cb) (iZip K (tCons ta (tCons tb tNil))) (fun γ Q => wa γ fun xs => wb γ fun ys => Q (xs.zip ys)) := by
  refine ⟨fun γ Q Q' q z => ha.mono γ _ _ (fun a za => hb.mono γ _ _ (fun b zb => q _ zb) za) z, fun A b0 γ σ g H Q hb0 G R hw => ?_⟩
  refine ha.run A b0 γ σ g H _ (by omega) G R (ha.mono γ _ _ (fun xs zx u g1 H1 G1 e1 r1 => ?_) hw)
  refine hb.run A _ γ σ g1 H1 _ (by omega) G1 (R.ext G e1) (hb.mono γ _ _ (fun ys zy v g' H' G' e' r' => ?_) zx)
  obtain ⟨b, us, rfl, h', pr', hl'⟩ := r'
  obtain ⟨a, vs, rfl, h, pr, hl⟩ := rp_ext G1 e' r1
  have s1 : ∀ {A : Act} {g2 H2}, Le g' H' g2 H2 → SqL K H2 a vs := fun l => sq_of fz_sub (l.fz _ _ h)
  have s2 : ∀ {A : Act} {g2 H2}, Le g' H' g2 H2 → SqL K H2 b us := fun l => sq_of fz_sub (l.fz _ _ h')
  refine ⟨a, b, vs, us, rfl, sq_of fz_sub h, sq_of fz_sub h', zy _ g' H' (G'.up (by omega)) (e1.trans G1 e') ⟨(by rw [List.length_zip]; omega), fun A2 b2 g2 H2 i G2 l hi => ⟨vs, us, s1 (A := A2) l, s2 (A := A2) l, ?_⟩, fun A2 b2 g2 H2 i G2 l hi => ?_, fun A2 b2 g2 H2 i x H3 G2 l hy y ey => ?_⟩⟩
  · rw [List.length_zip] at hi
    rw [Paired.len pr, Paired.len pr']
    omega
  · rw [List.length_zip] at hi
    have h1 : i < vs.length := by rw [Paired.len pr]; omega
    have h2 : i < us.length := by rw [Paired.len pr']; omega
    exact ⟨vs, us, vs[i], us[i], s1 (A := A2) l, s2 (A := A2) l, List.getElem?_eq_getElem h1, List.getElem?_eq_getElem h2⟩
  · obtain ⟨T, x1, x2, rfl, nT, rfl, f1, f2⟩ := hy
    obtain ⟨G3, e3⟩ := G2.new0 (o := .tup [x1, x2]) nT
    have ey' : (xs.zip ys)[i]? = some y := ey
    obtain ⟨y1, y2⟩ := y
    rw [List.getElem?_zip_eq_some] at ey'
    obtain ⟨k1, k2⟩ := ey'
    obtain ⟨z1, d1, q1⟩ := Paired.at pr k1
    obtain ⟨z2, d2, q2⟩ := Paired.at pr' k2
    have c1 := f1 _ (s1 (A := A2) l)
    have c2 := f2 _ (s2 (A := A2) l)
    rw [d1] at c1
    rw [d2] at c2
    cases c1
    cases c2
    exact ⟨G3, e3, T, _, _, rfl, fz_new_tup, rp_ext G2 e3 (Rp.mono l.fz q1), rp_ext G2 e3 (Rp.mono l.fz q2)⟩
/-- numbered from 0 on -/
def enumI {α : Type} (xs : List α) : List (Int × α) := (rangeI 0 xs.length).zip xs
theorem ai_enum {α : Type} [Rp K α] {w : TupT ks → (List α → Prop) → Prop} (he : AE P ks (rF K (List α)) ce te w) : AI P K ks (Int × α) ce (iEnum K (tCons te tNil)) (fun γ Q => w γ fun xs => Q (enumI xs)) := by
  refine ⟨fun γ Q Q' q z => he.mono γ _ _ (fun a za => q _ za) z, fun A b0 γ σ g H Q hb0 G R hw => ?_⟩
  refine he.run A b0 γ σ g H _ (by omega) G R (he.mono γ _ _ (fun xs zx v g' H' G' e' r' => ?_) hw)
  obtain ⟨a, vs, rfl, h, pr, hl⟩ := r'
  have sq : ∀ {A : Act} {g2 H2}, Le g' H' g2 H2 → SqL K H2 a vs := fun l => sq_of fz_sub (l.fz _ _ h)
  have el : (enumI xs).length = xs.length := by unfold enumI; rw [List.length_zip, rangeI_len]; omega
  refine ⟨a, vs, rfl, sq_of fz_sub h, zx _ g' H' (G'.up (by omega)) e' ⟨(by rw [el]; exact hl), fun A2 b2 g2 H2 i G2 l hi => ⟨vs, sq (A := A2) l, by rw [Paired.len pr, ← el]; exact hi⟩, fun A2 b2 g2 H2 i G2 l hi => ?_, fun A2 b2 g2 H2 i x H3 G2 l hy y ey => ?_⟩⟩
  · have hi' : i < vs.length := by rw [Paired.len pr, ← el]; exact hi
    exact ⟨vs, vs[i], sq (A := A2) l, List.getElem?_eq_getElem hi'⟩
  · obtain ⟨T, x1, rfl, nT, rfl, f1⟩ := hy
    obtain ⟨G3, e3⟩ := G2.new0 (o := .tup [.int (i : Nat), x1]) nT
    have ey' : (enumI xs)[i]? = some y := ey
    obtain ⟨y1, y2⟩ := y
    unfold enumI at ey'
    rw [List.getElem?_zip_eq_some] at ey'
    obtain ⟨k1, k2⟩ := ey'
    obtain ⟨z1, d1, q1⟩ := Paired.at pr k2
    have c1 := f1 _ (sq (A := A2) l)
    rw [d1] at c1
    cases c1
    have ei : y1 = (i : Int) := by
      unfold rangeI at k1
      rw [List.getElem?_map] at k1
      cases h : (List.range xs.length)[i]? with
      | none => rw [h] at k1; cases k1
      | some j =>
        rw [h] at k1
        have hl : i < (List.range xs.length).length := (List.getElem?_eq_some_iff.mp h).1
        rw [List.getElem?_eq_getElem hl, List.getElem_range] at h
        have hj : i = j := Option.some.inj h
        have k1' : 0 + (j : Int) = y1 := Option.some.inj k1
        omega
    exact ⟨G3, e3, T, _, _, rfl, fz_new_tup, by rw [ei]; rfl, rp_ext G2 e3 (Rp.mono l.fz q1)⟩

/-! ### for -/
/-- a loop by its list -/
def wForL {α Γ : Type} (body : α → Γ → (Γ → Prop) → (Γ → Prop) → Prop) (N : Γ → Prop) : List α → Γ → Prop
  | [], γ => N γ
  | x :: xs, γ => body x γ (wForL body N xs) N
theorem as_for {α : Type} [Rp K α] {wi : TI} {gt : TG} {tb' : TS} {ksx ksl : List Kd} {w : TupT ks → (List α → Prop) → Prop} {put : TupT ksl → α → TupT ksx} {sl : List Nat} {wb : TupT ksx → We ksl r ksl → Prop} (hi : AI P K ks α ci wi w) (k : Wk ks ksl)
    (hg : AG K ksl α ksx gt put sl) (hb : AS P ksx ksl r ksl cb tb' wb) :
    AS P ks ksl r kb (ci + 9223372036854775808 * cb) (tFor wi gt tb') (fun γ E => w γ fun xs => wForL (fun x γ' nx bk => wb (put γ' x) ⟨nx, E.rt, bk, nx⟩) E.nx xs (k.to γ)) := by
  have fm : ∀ (E E' : We ksl r kb), E.Imp E' → ∀ (xs : List α) γ', wForL (fun x γ' nx bk => wb (put γ' x) ⟨nx, E.rt, bk, nx⟩) E.nx xs γ' → wForL (fun x γ' nx bk => wb (put γ' x) ⟨nx, E'.rt, bk, nx⟩) E'.nx xs γ' := by
    intro E E' i xs
    induction xs with
    | nil => exact fun γ' z => i.nx _ z
    | cons x xs ih => exact fun γ' z => hb.mono _ _ _ ⟨ih, i.rt, i.nx, ih⟩ z
  refine ⟨fun γ E E' i z => hi.mono γ _ _ (fun xs zx => fm E E' i xs _ zx) z, fun A b0 γ σ g H D hb0 G R hw => ?_⟩
  refine hi.run A b0 γ σ g H _ (by omega) G R (hi.mono γ _ _ (fun xs zx J g1 H1 G1 e1 it => ?_) hw)
  generalize hT : b0 + (ci + 9223372036854775808 * cb) = T at zx
  have step : ∀ i, i < xs.length → b0 + ci + i * cb + cb ≤ T ∧ b0 + ci + i * cb + cb = b0 + ci + (i + 1) * cb := fun i hi => by
    have hm : (i + 1) * cb ≤ 9223372036854775808 * cb := Nat.mul_le_mul_right cb (by have := it.len; omega)
    rw [Nat.succ_mul] at hm ⊢
    omega
  refine ⟨fun i m σ' H' => ∃ γ' g', m = xs.length - i ∧ i ≤ xs.length ∧ Good P A (b0 + ci + i * cb) g' H' ∧ Le g1 H1 g' H' ∧ RelL ksl 0 γ' σ' g' H' ∧
    wForL (fun x γ' nx bk => wb (put γ' x) ⟨nx, Wr P A T r D.rt, bk, nx⟩) (Wt P A T g H ksl D.nx) (xs.drop i) γ', ⟨xs.length, k.to γ, g1, rfl, Nat.zero_le _, G1.up (by omega), Le.refl _ _, k.ok (R.ext G e1), zx⟩, ?_⟩
  rintro i m σ' H' ⟨γ', g', rfl, hle, G', l', R', z⟩
  have l0 : Le g H g' H' := (e1.le G).trans l'
  by_cases hlt : i < xs.length
  · right
    obtain ⟨st1, st2⟩ := step i hlt
    refine ⟨it.go A _ g' H' i G' l' hlt, fun σ2 H2 => ∃ γ2 g2, Good P A (b0 + ci + (i + 1) * cb) g2 H2 ∧ Le g1 H1 g2 H2 ∧ RelL ksl 0 γ2 σ2 g2 H2 ∧ wForL (fun x γ' nx bk => wb (put γ' x) ⟨nx, Wr P A T r D.rt, bk, nx⟩) (Wt P A T g H ksl D.nx) (xs.drop (i + 1)) γ2,
      fun σ2 H2 ⟨γ2, g2, G2, l2, R2, z2⟩ => ⟨xs.length - (i + 1), by omega, γ2, g2, rfl, hlt, G2, l2, R2, z2⟩, fun x H2 hy => ?_⟩
    have ei : xs[i]? = some xs[i] := List.getElem?_eq_getElem hlt
    obtain ⟨G2, e2, rx⟩ := it.yld A _ g' H' i x H2 G' l' hy _ ei
    have l2 := e2.le G'
    refine hg.run x xs[i] γ' σ' g' H2 _ (R'.ext G' e2) rx fun σ3 R3 _ => ?_
    rw [List.drop_eq_getElem_cons hlt] at z
    have z' : wb (put γ' xs[i]) ⟨wForL (fun x γ' nx bk => wb (put γ' x) ⟨nx, Wr P A T r D.rt, bk, nx⟩) (Wt P A T g H ksl D.nx) (xs.drop (i + 1)), Wr P A T r D.rt, Wt P A T g H ksl D.nx, wForL (fun x γ' nx bk => wb (put γ' x) ⟨nx, Wr P A T r D.rt, bk, nx⟩) (Wt P A T g H ksl D.nx) (xs.drop (i + 1))⟩ := z
    refine hb.run A _ _ σ3 g' H2 _ (by omega) G2 R3 ?_
    refine hb.mono _ _ _ ?_ z'
    exact ⟨fun γ4 z4 σ4 g4 H4 G4 l4 R4 => ⟨γ4, g4, G4.up (Nat.le_of_eq st2), (l'.trans l2).trans l4, R4, z4⟩, fun _ h v g5 H5 G5 => h v g5 H5 (G5.up st1), fun γ4 z4 σ4 g4 H4 G4 l4 R4 => z4 σ4 g4 H4 (G4.up st1) ((l0.trans l2).trans l4) R4,
      fun γ4 z4 σ4 g4 H4 G4 l4 R4 => ⟨γ4, g4, G4.up (Nat.le_of_eq st2), (l'.trans l2).trans l4, R4, z4⟩⟩
  · left
    have ei : i = xs.length := by omega
    refine ⟨it.stop A _ g' H' i G' l' (by omega), ?_⟩
    have hT2 : b0 + ci + i * cb ≤ T := by
      have hm : i * cb ≤ 9223372036854775808 * cb := Nat.mul_le_mul_right cb (by have := it.len; omega)
      omega
    rw [ei, List.drop_length] at z
    exact z σ' g' H' (G'.up hT2) l0 R'

/-! ### list comprehensions -/
/-- the comprehension's own slots are wiped -/
structure Wp (ks : List Kd) (vs : List Nat) (ks' : List Kd) where
  to : TupT ks → TupT ks'
  ok : ∀ {γ σ g H}, RelL ks 0 γ σ g H → RelL ks' 0 (to γ) (wipe σ vs) g H
def Wp.n : Wp ks [] ks := ⟨fun γ => γ, fun h => h⟩
def Wp.c {vs : List Nat} {v : Nat} (p : Put ks1 v kU ks2) (w : Wp ks vs ks1) : Wp ks (v :: vs) ks2 := ⟨fun γ => p.put (w.to γ) (), fun {γ σ g H} h => p.ok (y := none) (x := ()) (w.ok h) (Le.refl g H) (fun j _ a o h1 h2 => ⟨h1, h2⟩) trivial⟩
theorem wipe_comm {σ : Sl} {v : Nat} : ∀ (us : List Nat), wipe (σ.set v none) us = (wipe σ us).set v none
  | [] => rfl
  | u :: us => by
    show (wipe (σ.set v none) us).set u none = ((wipe σ us).set u none).set v none
    rw [wipe_comm us]
    by_cases e : u = v
    · subst e
      rfl
    · rw [List.set_comm _ _ (fun z => e z.symm)]
theorem wipe_wipe {σ : Sl} : ∀ (vs us : List Nat), (∀ i ∈ us, i ∈ vs) → wipe (wipe σ us) vs = wipe σ vs
  | vs, [], _ => rfl
  | vs, u :: us, h => by
    show wipe ((wipe σ us).set u none) vs = wipe σ vs
    rw [set_wipe (h u List.mem_cons_self), wipe_wipe vs us fun i hi => h i (List.mem_cons_of_mem _ hi)]
def wLcL {α β : Type} (tst : α → (Bool → Prop) → Prop) (body : α → (β → Prop) → Prop) (Q : List β → Prop) : List α → List β → Prop
  | [], acc => Q acc
  | x :: xs, acc => tst x fun b => if b = true then body x fun y => wLcL tst body Q xs (acc ++ [y]) else wLcL tst body Q xs acc
theorem ae_lc {α β : Type} [Rp K α] [Rp K β] {wi : TI} {gt : TG} {tt : TT} {el : TE} {vs : List Nat} {ksw ksx : List Kd} {w : TupT ks → (List α → Prop) → Prop} {put : TupT ksw → α → TupT ksx} {sl : List Nat} {wt : TupT ksx → (Bool → Prop) → Prop} {we : TupT ksx → (β → Prop) → Prop}
    (hi : AI P K ks α ci wi w) (k : Wp ks vs ksw) (hg : AG K ksw α ksx gt put sl) (hsl : ∀ i ∈ sl, i ∈ vs) (ht : AT P ksx ct tt wt) (he : AE P ksx (rF K β) ce el we) :
    AE P ks (rO K β) (ci + 9223372036854775808 * (ct + ce)) (tLc wi gt tt el vs) (fun γ Q => w γ fun xs => xs.length ≤ sizeLine ∧ wLcL (fun x => wt (put (k.to γ) x)) (fun x => we (put (k.to γ) x)) Q xs []) := by
  have fm : ∀ γ (Q Q' : List β → Prop), (∀ x, Q x → Q' x) → ∀ (xs : List α) acc, wLcL (fun x => wt (put (k.to γ) x)) (fun x => we (put (k.to γ) x)) Q xs acc → wLcL (fun x => wt (put (k.to γ) x)) (fun x => we (put (k.to γ) x)) Q' xs acc := by
    intro γ Q Q' i xs
    induction xs with
    | nil => exact fun acc z => i _ z
    | cons x xs ih =>
      refine fun acc z => ht.mono _ _ _ (fun b zb => ?_) z
      cases b with
      | true => exact he.mono _ _ _ (fun y zy => ih _ zy) zb
      | false => exact ih _ zb
  refine ⟨fun γ Q Q' i z => hi.mono γ _ _ (fun xs zx => ⟨zx.1, fm γ Q Q' i xs _ zx.2⟩) z, fun A b0 γ σ g H Q hb0 G R hw => ?_⟩
  refine hi.run A b0 γ σ g H _ (by omega) G R (hi.mono γ _ _ (fun xs zx J g1 H1 G1 e1 it D hD => ?_) hw)
  obtain ⟨hxs, zx⟩ := zx
  generalize hT : b0 + (ci + 9223372036854775808 * (ct + ce)) = T at zx
  have step : ∀ i, i < xs.length → b0 + ci + i * (ct + ce) + (ct + ce) ≤ T ∧ b0 + ci + i * (ct + ce) + (ct + ce) = b0 + ci + (i + 1) * (ct + ce) := fun i hi => by
    have hm : (i + 1) * (ct + ce) ≤ 9223372036854775808 * (ct + ce) := Nat.mul_le_mul_right (ct + ce) (by have := it.len; omega)
    rw [Nat.succ_mul] at hm ⊢
    omega
  have hD0 : H D = none := e1.keeps G1 hD
  have hA0 : A.H0 D = none := G.ext.keeps G hD0
  have Rw1 : RelL ksw 0 (k.to γ) (wipe σ vs) g1 H1 := k.ok (R.ext G e1)
  obtain ⟨GD, eD⟩ := G1.new0 (o := .lst []) hD
  have zx : wLcL (fun x => wt (put (k.to γ) x)) (fun x => we (put (k.to γ) x)) (fun ys => ∀ v g' H', Good P A T g' H' → Ext g H g' H' → (rO K β).rel H v ys g' H' → Q v H') xs [] := zx
  refine ⟨fun i m H' => ∃ g' acc us, m = xs.length - i ∧ i ≤ xs.length ∧ Good P A (b0 + ci + i * (ct + ce)) g' H' ∧ Ext g1 H1 g' H' ∧ g' D = .oth ∧ H' D = some (.lst us) ∧ Paired (Rp.rp K (Fz g' H')) us acc ∧ us.length ≤ i ∧
    wLcL (fun x => wt (put (k.to γ) x)) (fun x => we (put (k.to γ) x)) (fun ys => ∀ v g' H', Good P A T g' H' → Ext g H g' H' → (rO K β).rel H v ys g' H' → Q v H') (xs.drop i) acc,
    ⟨xs.length, g1, [], [], rfl, Nat.zero_le _, GD.up (by omega), eD, G1.non D hD, upd_same, .nil, Nat.le_refl _, zx⟩, ?_⟩
  rintro i m H' ⟨g', acc, us, rfl, hle, G', e', hgD, hHD, pr, hus, z⟩
  have e0 : Ext g H g' H' := e1.trans G1 e'
  by_cases hlt : i < xs.length
  · right
    obtain ⟨st1, st2⟩ := step i hlt
    refine ⟨it.go A _ g' H' i G' (e'.le G1) hlt, fun H2 => ∃ g2 acc us, Good P A (b0 + ci + (i + 1) * (ct + ce)) g2 H2 ∧ Ext g1 H1 g2 H2 ∧ g2 D = .oth ∧ H2 D = some (.lst us) ∧ Paired (Rp.rp K (Fz g2 H2)) us acc ∧ us.length ≤ i + 1 ∧
      wLcL (fun x => wt (put (k.to γ) x)) (fun x => we (put (k.to γ) x)) (fun ys => ∀ v g' H', Good P A T g' H' → Ext g H g' H' → (rO K β).rel H v ys g' H' → Q v H') (xs.drop (i + 1)) acc,
      fun H2 ⟨g2, acc2, us2, a1, a2, a3, a4, a5, a6, a7⟩ => ⟨xs.length - (i + 1), by omega, g2, acc2, us2, rfl, hlt, a1, a2, a3, a4, a5, a6, a7⟩, fun x H2 hy => ?_⟩
    have ei : xs[i]? = some xs[i] := List.getElem?_eq_getElem hlt
    obtain ⟨G2, e2, rx⟩ := it.yld A _ g' H' i x H2 G' (e'.le G1) hy _ ei
    have e12 : Ext g1 H1 g' H2 := e'.trans G' e2
    have R2 : RelL ksw 0 (k.to γ) (wipe σ vs) g' H2 := Rw1.ext G1 e12
    refine hg.run x xs[i] _ _ g' H2 _ R2 rx fun σ3 R3 w3 => ⟨(w3 vs hsl).trans (by rw [wipe_wipe vs vs fun _ h => h]), ?_⟩
    rw [List.drop_eq_getElem_cons hlt] at z
    have z' : wt (put (k.to γ) xs[i]) fun b => if b = true then we (put (k.to γ) xs[i]) fun y => wLcL (fun x => wt (put (k.to γ) x)) (fun x => we (put (k.to γ) x)) (fun ys => ∀ v g' H', Good P A T g' H' → Ext g H g' H' → (rO K β).rel H v ys g' H' → Q v H') (xs.drop (i + 1)) (acc ++ [y])
      else wLcL (fun x => wt (put (k.to γ) x)) (fun x => we (put (k.to γ) x)) (fun ys => ∀ v g' H', Good P A T g' H' → Ext g H g' H' → (rO K β).rel H v ys g' H' → Q v H') (xs.drop (i + 1)) acc := z
    refine ht.run A _ _ σ3 g' H2 _ (by omega) G2 R3 (ht.mono _ _ _ (fun b zb g3 H3 G3 e3 => ?_) z')
    have e23 : Ext g' H' g3 H3 := e2.trans G2 e3
    have hD3 := e23 D _ hHD
    have hH3 : H3 D = some (.lst us) := hD3.2 (by rw [hgD]; simp)
    have hg3 : g3 D = .oth := hD3.1.trans hgD
    have p3 : Paired (Rp.rp K (Fz g3 H3)) us acc := Paired.rp_mono (e23.le G').fz pr
    have e13 : Ext g1 H1 g3 H3 := e'.trans G' e23
    cases b with
    | false => exact ⟨g3, acc, us, G3.up (by omega), e13, hg3, hH3, p3, Nat.le_succ_of_le hus, zb⟩
    | true =>
      refine he.run A _ _ σ3 g3 H3 _ (by omega) G3 (R3.ext G2 e3) (he.mono _ _ _ (fun y zy v g4 H4 G4 e4 r4 => ?_) zb)
      have hD4 := e4 D _ hH3
      have hH4 : H4 D = some (.lst us) := hD4.2 (by rw [hg3]; simp)
      have hg4 : g4 D = .oth := hD4.1.trans hg3
      have p4 : Paired (Rp.rp K (Fz g4 H4)) us acc := Paired.rp_mono (e4.le G3).fz p3
      have lx := lx_write (u := .lst (us ++ [v])) hg4 hH4 rfl
      refine ⟨us, hH4, Nat.lt_of_le_of_lt hus (Nat.lt_of_lt_of_le hlt hxs), g4, acc ++ [y], us ++ [v], (G4.put hA0 hH4 (by rw [hg4]; simp)).up (by omega), fun a o ha => ?_, hg4, upd_same, Paired.rp_mono lx.fz (Paired.app p4 (.cons r4 .nil)), by rw [List.length_append]; show us.length + 1 ≤ i + 1; omega, zy⟩
      have ne : a ≠ D := ne_of_none ha hD
      rw [upd_ne ne]
      exact (e13.trans G3 e4) a o ha
  · left
    have ei : i = xs.length := by omega
    refine ⟨it.stop A _ g' H' i G' (e'.le G1) (by omega), ?_⟩
    have hT2 : b0 + ci + i * (ct + ce) ≤ T := by
      have hm : i * (ct + ce) ≤ 9223372036854775808 * (ct + ce) := Nat.mul_le_mul_right (ct + ce) (by have := it.len; omega)
      omega
    rw [ei, List.drop_length] at z
    refine z _ g' H' (G'.up hT2) e0 ⟨D, us, rfl, hD0, hgD, hHD, pr, ?_⟩
    rw [← Paired.len pr]
    have := it.len
    omega

/-! ### defs -/
structure Ini (pk : List Vk) (ks : List Kd) (n : Nat) where
  to : TupV pk → TupT ks
  ok : ∀ {i x vs g H}, RelVs pk x vs g H → RelL ks i (to x) (vs.map some ++ List.replicate n none) g H
def Ini.n : Ini [] [] 0 := ⟨fun γ => γ, fun h => by
  have h : _ = [] := h
  subst h
  rfl⟩
def Ini.u {n : Nat} (a : Ini [] ks n) : Ini [] (kU :: ks) (n + 1) := ⟨fun γ => ((), a.to γ), fun {i x vs g H} h => by
  have h' : vs = [] := h
  subst h'
  exact ⟨none, _, rfl, trivial, a.ok (x := x) (vs := []) h⟩⟩
def Ini.c {k : Vk} {pk : List Vk} {n : Nat} (a : Ini pk ks n) : Ini (k :: pk) (kV k :: ks) n := ⟨fun γ => (γ.1, a.to γ.2), fun {i x vs g H} ⟨v, r, e, h, q⟩ => by
  subst e
  exact ⟨some v, _, rfl, ⟨v, rfl, h⟩, a.ok q⟩⟩
def wDef {pk : List Vk} {n : Nat} (i : Ini pk ks n) (w : TupT ks → We ks' r [] → Prop) : TupV pk → (r.T → Prop) → Prop := fun γ Q => w (i.to γ) ⟨fun _ => False, Q, fun _ => False, fun _ => False⟩
def wDefU {pk : List Vk} {n : Nat} (i : Ini pk ks n) (w : TupT ks → We ks' (rF K Unit) [] → Prop) : TupV pk → (Unit → Prop) → Prop := fun γ Q => w (i.to γ) ⟨fun _ => Q (), Q, fun _ => False, fun _ => False⟩
theorem pm_def {pk : List Vk} {n : Nat} {i : Ini pk ks n} {t : TS} {w : TupT ks → We ks' r [] → Prop} (h : AS P ks ks' r [] ct t w) : Pm P pk r (wDef i w) := ⟨fun γ Q Q' q z => by
  refine h.mono _ _ _ ?_ z
  exact ⟨fun _ h => h, q, fun _ h => h, fun _ h => h⟩⟩
theorem sp_def {pk : List Vk} {n : Nat} {i : Ini pk ks n} {t : TS} {w : TupT ks → We ks' r [] → Prop} (h : AS P ks ks' r [] ct t w) {vs : List V} {H : Hp} {Q : VK} {E : XK} {N : List Str} (hN : N.length = pk.length + n) (q : SpOf P pk r ct (wDef i w) vs H Q E) :
    t { nx := fun _ H' => Q .non H', rt := Q } (L2.start N vs) H := by
  obtain ⟨A, b0, γ, rfl, hb0, G, rv, z⟩ := q
  have e : L2.start N vs = vs.map some ++ List.replicate n none := by
    unfold L2.start
    rw [RelVs.length rv, hN, Nat.add_sub_cancel_left]
  rw [e]
  refine h.run A b0 _ _ A.g0 A.H0 _ hb0 G (i.ok rv) ?_
  refine h.mono _ _ _ ?_ z
  exact ⟨fun _ h => h.elim, fun _ h => h, fun _ h => h.elim, fun _ h => h.elim⟩
theorem sp_len {pk : List Vk} {w : TupV pk → (r.T → Prop) → Prop} {vs : List V} {H : Hp} {Q : VK} {E : XK} (q : SpOf P pk r ct w vs H Q E) : vs.length = pk.length := by
  obtain ⟨A, b0, γ, rfl, hb0, G, rv, z⟩ := q
  exact RelVs.length rv
end DL
/-! DL: borrowed lists, data of any kind, keywords, great powers, the end. -/
namespace DL
open PySem PySem.Spec PyProof.Rows L2
variable {P : TokP} {K : PySem.W.Frag} {ks ks' ks1 ks2 kb : List Kd} {r : Rk} {ta tb te : TE}

/-! ### owned lists read -/
def bg (g : Gh) : Gh := fun a => match g a with
  | .own _ => .frz
  | t => t
theorem bg_frz {g : Gh} {a : Addr} (h : g a = .frz) : bg g a = .frz := by unfold bg; rw [h]
theorem bg_own {g : Gh} {a : Addr} {i : Nat} (h : g a = .own i) : bg g a = .frz := by unfold bg; rw [h]
theorem bg_tok {g : Gh} {a : Addr} : bg g a = .tok ↔ g a = .tok := by unfold bg; cases g a <;> simp
theorem bg_oth {g : Gh} {a : Addr} (h : g a = .oth) : bg g a = .oth := by unfold bg; rw [h]
theorem bg_le {g : Gh} {H : Hp} : Le g H (bg g) H := le_mg (fun _ h => bg_frz h) fun _ h => bg_tok.mpr h
structure Bor (ks ks' : List Kd) where
  to : TupT ks → TupT ks'
  ok : ∀ {i γ σ g H}, RelL ks i γ σ g H → RelL ks' i (to γ) σ (bg g) H
def Bor.n : Bor [] [] := ⟨fun γ => γ, fun h => h⟩
def Bor.u (a : Bor ks ks') : Bor (kU :: ks) (kU :: ks') := ⟨fun γ => (γ.1, a.to γ.2), fun ⟨y, r, e, _, q⟩ => ⟨y, r, e, trivial, a.ok q⟩⟩
def Bor.v {k : Vk} (a : Bor ks ks') : Bor (kV k :: ks) (kV k :: ks') := ⟨fun γ => (γ.1, a.to γ.2), fun ⟨y, r, e, ⟨v, ev, h⟩, q⟩ => ⟨y, r, e, ⟨v, ev, k.mono bg_le h⟩, a.ok q⟩⟩
def Bor.o {α : Type} [Rp K α] (a : Bor ks ks') : Bor (kO K α :: ks) (kF K (List α) :: ks') := ⟨fun γ => (γ.1, a.to γ.2), fun ⟨y, r, e, ⟨p, vs, ep, h1, h2, h3, h4⟩, q⟩ =>
  ⟨y, r, e, ⟨_, ep, p, vs, rfl, fz_some.mpr ⟨h2, .inr (by rw [bg_own h1]; rfl)⟩, Paired.rp_mono bg_le.fz h3, h4⟩, a.ok q⟩⟩
/-- results that lean on nothing borrowed -/
class RkFlat (r : Rk) : Prop where
  fl : ∀ {Hs v x g g' H}, (∀ a, Hs a = none → g' a = g a) → r.rel Hs v x g H → r.rel Hs v x g' H
theorem fz_tups {g g' : Gh} {H : Hp} : ∀ b zs, Fz g H b = some (.tup zs) → Fz g' H b = some (.tup zs) := fun b zs h => fz_some.mpr ⟨(fz_some.mp h).1, .inl rfl⟩
instance {α : Type} [Rp K α] [Flat K α] : RkFlat (rF K α) := ⟨fun {Hs v x g g' H} _ h => Flat.fl (K := K) (α := α) (F := Fz g H) (F' := Fz g' H) fz_tups h⟩
instance {α : Type} [Rp K α] [Flat K α] : RkFlat (rO K α) := ⟨fun {Hs v x g g' H} s ⟨p, vs, e, h1, h2, h3, h4, h5⟩ => ⟨p, vs, e, h1, (s p h1).trans h2, h3, Paired.mapP h4 fun _ _ q => Flat.fl (K := K) (α := α) (F := Fz g H) (F' := Fz g' H) fz_tups q, h5⟩⟩
theorem bor_good {A : Act} {g : Gh} {H : Hp} (G : Good P A b0 g H) : Good P A b0 (bg g) H := by
  refine ⟨fun a o h => ?_, fun a h => G.tok a (bg_tok.mp h), fun a h => bg_oth (G.non a h)⟩
  obtain ⟨e1, e2⟩ := G.ext a o h
  refine ⟨?_, e2⟩
  unfold bg
  rw [e1]
  have := A.noown a
  cases q : A.g0 a with
  | own i => exact absurd q (this i)
  | _ => rfl
theorem bor_back {A : Act} {g g' : Gh} {H H' : Hp} (G : Good P A b0 g H) (G' : Good P A b1 g' H') (e' : Ext (bg g) H g' H') : ∃ g2 : Gh, Good P A b1 g2 H' ∧ Ext g H g2 H' ∧ ∀ a, H a = none → g2 a = g' a := by
  let g2 : Gh := fun a => match H a with
    | some _ => g a
    | none => g' a
  have s2 : ∀ a o, H a = some o → g2 a = g a := fun a o h => by show (match H a with | some _ => g a | none => g' a) = g a; rw [h]
  have n2 : ∀ a, H a = none → g2 a = g' a := fun a h => by show (match H a with | some _ => g a | none => g' a) = g' a; rw [h]
  have ex : Ext g H g2 H' := fun a o h => ⟨s2 a o h, fun q => (e' a o h).2 fun z => q (bg_tok.mp z)⟩
  refine ⟨g2, ⟨G.ext.trans G ex, fun a h => ?_, fun a h => ?_⟩, ex, n2⟩
  · cases e : H a with
    | none => exact G'.tok a ((n2 a e).symm.trans h)
    | some o =>
      rw [s2 a o e] at h
      exact G'.tok a ((e' a o e).1.trans (bg_tok.mpr h))
  · have e : H a = none := e'.keeps G' h
    rw [n2 a e]
    exact G'.non a h
theorem ae_bor {w : TupT ks' → (r.T → Prop) → Prop} [RkFlat r] (b : Bor ks ks') (he : AE P ks' r ce te w) : AE P ks r ce te (fun γ Q => w (b.to γ) Q) := by
  refine ⟨fun γ Q Q' q z => he.mono _ _ _ q z, fun A b0 γ σ g H Q hb0 G R hw => ?_⟩
  refine he.run A b0 _ σ (bg g) H Q hb0 (bor_good G) (b.ok R) (he.mono _ _ _ (fun x z v g' H' G' e' r' => ?_) hw)
  obtain ⟨g2, G2, ex, n2⟩ := bor_back G G' e'
  exact z v g2 H' G2 ex (RkFlat.fl n2 r')
theorem at_bor {t : TT} {w : TupT ks' → (Bool → Prop) → Prop} (b : Bor ks ks') (he : AT P ks' ct t w) : AT P ks ct t (fun γ Q => w (b.to γ) Q) := by
  refine ⟨fun γ Q Q' q z => he.mono _ _ _ q z, fun A b0 γ σ g H Q hb0 G R hw => ?_⟩
  refine he.run A b0 _ σ (bg g) H Q hb0 (bor_good G) (b.ok R) (he.mono _ _ _ (fun x z g' H' G' e' => ?_) hw)
  obtain ⟨g2, G2, ex, n2⟩ := bor_back G G' e'
  exact z g2 H' G2 ex

/-! ### data of any kind -/
mutual
theorem Dp.mono' {F F' : Hp} (s : Same F F') : ∀ (d : PyData) (v : V), Dp K F v d → Dp K F' v d
  | .none, _, h => by cases h; exact .non
  | .bool b, _, h => by cases h; exact .bl b
  | .int i, _, h => by cases h; exact .int i
  | .str x, _, h => by cases h; exact .str x
  | .list ds, _, h => by
    cases h with
    | lst hs ha => exact .lst (Same.seq s hs) (DpAll.mono' s ds _ ha)
  | .tuple ds, _, h => by
    cases h with
    | tup hs ha => exact .tup (Same.tup s hs) (DpAll.mono' s ds _ ha)
  | .dict _, _, h => by cases h
theorem DpAll.mono' {F F' : Hp} (s : Same F F') : ∀ (ds : List PyData) (vs : List V), DpAll K F vs ds → DpAll K F' vs ds
  | [], _, h => by cases h; exact .nil
  | d :: ds, _, h => by
    cases h with
    | cons h1 h2 => exact .cons (Dp.mono' s d _ h1) (DpAll.mono' s ds _ h2)
end
instance : Rp K PyData := ⟨fun F v d => Dp K F v d, fun s h => Dp.mono' s _ _ h⟩
theorem dpall {F : Hp} : ∀ {vs : List V} {ds : List PyData}, Paired (Rp.rp K F) vs ds → DpAll K F vs ds
  | _, _, .nil => .nil
  | _, _, .cons r t => .cons r (dpall t)
theorem of_dpall {F : Hp} : ∀ {vs : List V} {ds : List PyData}, DpAll K F vs ds → Paired (Rp.rp K F) vs ds
  | _, _, .nil => .nil
  | _, _, .cons r t => .cons r (of_dpall t)
class ToD (K : PySem.W.Frag) (α : Type) [Rp K α] where
  toD : α → PyData
  ok : ∀ {F v x}, Rp.rp K F v x → Dp K F v (toD x)
theorem toDs {α : Type} [Rp K α] [ToD K α] {F : Hp} {vs : List V} {xs : List α} (pr : Paired (Rp.rp K F) vs xs) : Paired (Rp.rp K F) vs (xs.map (ToD.toD K)) := by
  induction pr with
  | nil => exact .nil
  | cons r t ih => exact .cons (ToD.ok r) ih
instance : ToD K Int := ⟨.int, fun h => by cases h; exact .int _⟩
instance : ToD K Bool := ⟨.bool, fun h => by cases h; exact .bl _⟩
instance : ToD K Str := ⟨.str, fun h => by cases h; exact .str _⟩
instance : ToD K Unit := ⟨fun _ => .none, fun h => by cases h; exact .non⟩
instance : ToD K PyData := ⟨fun d => d, fun h => h⟩
instance {α : Type} [Rp K α] [ToD K α] : ToD K (List α) := ⟨fun xs => .list (xs.map (ToD.toD K)), fun ⟨a, vs, e, h, pr, _⟩ => by
  subst e
  exact .lst (.inl (.inl h)) (dpall (toDs pr))⟩
instance {α β : Type} [Rp K α] [Rp K β] [ToD K α] [ToD K β] : ToD K (α × β) := ⟨fun x => .tuple [ToD.toD K x.1, ToD.toD K x.2], fun ⟨a, v1, v2, e, h, h1, h2⟩ => by
  subst e
  exact .tup (h.sq (Same.refl _)) (.cons (ToD.ok h1) (.cons (ToD.ok h2) .nil))⟩
instance {α β γ : Type} [Rp K α] [Rp K β] [Rp K γ] [ToD K α] [ToD K β] [ToD K γ] : ToD K (T3 α β γ) := ⟨fun x => .tuple [ToD.toD K x.a, ToD.toD K x.b, ToD.toD K x.c], fun ⟨a, v1, v2, v3, e, h, h1, h2, h3⟩ => by
  subst e
  exact .tup (h.sq (Same.refl _)) (.cons (ToD.ok h1) (.cons (ToD.ok h2) (.cons (ToD.ok h3) .nil)))⟩
instance {α : Type} [Rp K α] [ToD K α] : ToD K (Option α) := ⟨fun x => match x with | none => .none | some y => ToD.toD K y, fun {F v x} h => by
  cases x with
  | none =>
    have h : v = .non := h
    subst h
    exact .non
  | some y => exact ToD.ok h.2⟩
theorem ae_toD {α : Type} [Rp K α] [ToD K α] {w : TupT ks → (α → Prop) → Prop} (h : AE P ks (rF K α) ce te w) : AE P ks (rF K PyData) ce te (fun γ Q => w γ fun x => Q (ToD.toD K x)) := h.map (f := ToD.toD K) fun _ _ _ q => ToD.ok q
/-- a list of things of many kinds -/
theorem ae_lstD {n : Nat} {t : TA} {wt : TupT ks → (List PyData → Prop) → Prop} (h : AX P K ks PyData n ct t wt) (hn : n ≤ 1000 := by decide) : AE P ks (rF K PyData) ct (tLst t) (fun γ Q => wt γ fun xs => Q (.list xs)) :=
  (ae_frz (ae_lst h hn)).map (f := fun xs => PyData.list xs) fun F v xs ⟨a, vs, e, h, pr, _⟩ => by
    subst e
    exact Dp.lst (.inl (.inl h)) (dpall pr)
theorem ae_tupD {n : Nat} {t : TA} {wt : TupT ks → (List PyData → Prop) → Prop} (h : AX P K ks PyData n ct t wt) (hn : n ≤ 1000 := by decide) : AE P ks (rF K PyData) ct (tTup t) (fun γ Q => wt γ fun xs => Q (.tuple xs)) := by
  refine ⟨fun γ Q Q' q z => h.mono γ _ _ (fun a za => q _ za) z, fun A b0 γ σ g H Q hb0 G R hw => ?_⟩
  refine h.run A b0 γ σ g H _ hb0 G R (h.mono γ _ _ (fun xs z vs g1 H1 G1 e1 hl rv => ?_) hw)
  refine ⟨by rw [hl]; exact Nat.le_of_lt (small1000 hn), fun p hp => ?_⟩
  obtain ⟨G2, e2⟩ := G1.new0 (o := .tup vs) hp
  exact z _ g1 _ G2 (e1.trans G1 e2) (.tup (.inl (.inl (fz_some.mpr ⟨upd_same, .inl rfl⟩))) (dpall (Paired.rp_mono (e2.le G1).fz rv)))
/-! ### == of data -/
section
variable {wa wb : TupT ks → (PyData → Prop) → Prop}
theorem ae_eqD (ha : AE P ks (rF K PyData) ca ta wa) (hb : AE P ks (rF K PyData) cb tb wb) : AE P ks (rF K Bool) (ca + cb) (tOp (rEqD K) ta tb) (fun γ Q => wa γ fun a => wb γ fun b => (SeqAt.shaped a = true ∧ SeqAt.shaped b = true) ∧ Q (PyData.eqv a b)) :=
  AE.op2 (r := rF K Bool) (k1 := vF K PyData) (k2 := vF K PyData) (f := fun a b Q => (SeqAt.shaped a = true ∧ SeqAt.shaped b = true) ∧ Q (PyData.eqv a b)) ha hb (fun _ _ _ _ q z => ⟨z.1, q _ z.2⟩) fun A b0 g H x y a b Q G rx ry z =>
    ⟨a, b, Dp.mono' fz_sub _ _ rx, Dp.mono' fz_sub _ _ ry, z.1.1, z.1.2, z.2 _ g H G (Ext.refl g H) rfl⟩
theorem ae_neD (ha : AE P ks (rF K PyData) ca ta wa) (hb : AE P ks (rF K PyData) cb tb wb) : AE P ks (rF K Bool) (ca + cb) (tOp (rNeD K) ta tb) (fun γ Q => wa γ fun a => wb γ fun b => (SeqAt.shaped a = true ∧ SeqAt.shaped b = true) ∧ Q (!PyData.eqv a b)) :=
  AE.op2 (r := rF K Bool) (k1 := vF K PyData) (k2 := vF K PyData) (f := fun a b Q => (SeqAt.shaped a = true ∧ SeqAt.shaped b = true) ∧ Q (!PyData.eqv a b)) ha hb (fun _ _ _ _ q z => ⟨z.1, q _ z.2⟩) fun A b0 g H x y a b Q G rx ry z =>
    ⟨a, b, Dp.mono' fz_sub _ _ rx, Dp.mono' fz_sub _ _ ry, z.1.1, z.1.2, z.2 _ g H G (Ext.refl g H) rfl⟩
def isN : PyData → Bool
  | .none => true
  | _ => false
theorem ae_isND (ha : AE P ks (rF K PyData) ca ta wa) : AE P ks (rF K Bool) ca (tOp (fun x y H Q => y = .non ∧ Q (.bl (decide (x = .non))) H) ta (tC .non)) (fun γ Q => wa γ fun a => Q (isN a)) := by
  refine ⟨fun γ Q Q' q z => ha.mono γ _ _ (fun a za => q _ za) z, fun A b0 γ σ g H Q hb0 G R hw => ?_⟩
  refine ha.run A b0 γ σ g H _ hb0 G R (ha.mono γ _ _ (fun a za x g1 H1 G1 e1 r1 => ⟨rfl, za _ g1 H1 G1 e1 ?_⟩) hw)
  have r1 : Dp K (Fz g1 H1) x a := r1
  cases r1 <;> rfl
/-! ### isinstance of data -/
def tyD : PyData → String
  | .none => "NoneType"
  | .bool _ => "bool"
  | .int _ => "int"
  | .str _ => "str"
  | .list _ => "list"
  | .tuple _ => "tuple"
  | .dict _ => "dict"
theorem tyx_d {F H : Hp} {v : V} {d : PyData} (s : Same F H) (h : Dp K F v d) : TyX K H v (.type (tyD d)) := by
  cases h with
  | non => exact .base .non
  | bl b => exact .base (.bl b)
  | int i => exact .base (.int i)
  | str x => exact .base (.str x)
  | lst hs _ =>
    rcases hs with (hs | ⟨o, hs⟩) | ⟨o, its, n, e, c, _⟩
    · exact .base (.lst (s _ _ hs))
    · exact .base (.frz (s _ _ hs))
    · exact .kList e c
  | tup hs _ =>
    rcases hs with (hs | ⟨o, hs⟩) | ⟨o, its, n, e, c, _⟩
    · exact .base (.tup (s _ _ hs))
    · exact .fTuple (s _ _ hs)
    · exact .kTuple e c
theorem ae_isi {T : String} {f : PyData → Bool} (hf : ∀ d, kitB (tyD d) T = some (f d)) (ha : AE P ks (rF K PyData) ca ta wa) : AE P ks (rF K Bool) ca (tCB (rIsi K) (tCons ta (tCons (tC (.ty T)) tNil))) (fun γ Q => wa γ fun a => Q (f a)) := by
  refine ⟨fun γ Q Q' q z => ha.mono γ _ _ (fun a za => q _ za) z, fun A b0 γ σ g H Q hb0 G R hw => ?_⟩
  refine ha.run A b0 γ σ g H _ hb0 G R (ha.mono γ _ _ (fun a za x g1 H1 G1 e1 r1 => ?_) hw)
  exact ⟨x, .ty T, _, _, f a, rfl, .ty T, tyx_d fz_sub r1, kit_ty (hf a), za _ g1 H1 G1 e1 rfl⟩
theorem ae_isi2 {S T : String} {f f' : PyData → Bool} (hf : ∀ d, kitB (tyD d) S = some (f d)) (hf' : ∀ d, kitB (tyD d) T = some (f' d)) (ha : AE P ks (rF K PyData) ca ta wa) :
    AE P ks (rF K Bool) ca (tCB (rIsiT K) (tCons ta (tCons (tTup (tCons (tC (.ty S)) (tCons (tC (.ty T)) tNil))) tNil))) (fun γ Q => wa γ fun a => Q (f a || f' a)) := by
  refine ⟨fun γ Q Q' q z => ha.mono γ _ _ (fun a za => q _ za) z, fun A b0 γ σ g H Q hb0 G R hw => ?_⟩
  refine ha.run A b0 γ σ g H _ hb0 G R (ha.mono γ _ _ (fun a za x g1 H1 G1 e1 r1 => ?_) hw)
  refine ⟨by show 2 ≤ sizeLine; decide, fun p hp => ?_⟩
  obtain ⟨G2, e2⟩ := G1.new0 (o := .tup [.ty S, .ty T]) hp
  have r1 : Dp K (Fz g1 H1) x a := r1
  refine ⟨x, p, _, _, _, (f a || f' a), rfl, upd_same, .cons (.ty S) (.cons (.ty T) .nil), tyx_d (fun b o hb => e2 b o (fz_sub b o hb) |>.2 ?_) r1, ?_, za _ g1 _ G2 (e1.trans G1 e2) rfl⟩
  · intro q
    obtain ⟨hb1, z⟩ := fz_some.mp hb
    obtain ⟨o', ho', to'⟩ := G1.tok b q
    rw [hb1] at ho'
    cases ho'
    rcases z with z | z
    · cases o <;> simp [isTup] at z
      exact P.nt _ _ to'
    · rw [isFrz_iff.mp z] at q
      cases q
  · refine kitAny_cons (kit_ty (hf a)) (fun q => ?_) (fun q => by rw [q]; rfl)
    refine kitAny_cons (kit_ty (hf' a)) (fun q' => by rw [q, q']; exact kitAny_nil) (fun q' => by rw [q', Bool.or_true])
/-- the items of a list or a tuple -/
def itemsD : PyData → Option (List PyData)
  | .list xs => some xs
  | .tuple xs => some xs
  | _ => none
theorem ae_lenD (ha : AE P ks (rF K PyData) ca ta wa) : AE P ks (rF K Int) ca (tCB (fun xs H Q => ∃ x n, xs = [x] ∧ LenV K x H n ∧ Q (.int n) H) (tCons ta tNil)) (fun γ Q => wa γ fun d => ∃ xs, itemsD d = some xs ∧ Q (xs.length : Int)) :=
  AE.cb1 (r := rF K Int) (k := vF K PyData) (f := fun d Q => ∃ xs, itemsD d = some xs ∧ Q (xs.length : Int)) ha (fun _ _ _ q ⟨xs, e, z⟩ => ⟨xs, e, q _ z⟩) fun A b0 g H x d Q G rx ⟨xs, e, z⟩ => by
    have rx : Dp K (Fz g H) x d := rx
    cases rx with
    | lst hs ha =>
      cases e
      exact ⟨_, xs.length, rfl, .inl ⟨_, Same.seq fz_sub hs, (Paired.len (of_dpall ha)).symm⟩, z _ g H G (Ext.refl g H) rfl⟩
    | tup hs ha =>
      cases e
      exact ⟨_, xs.length, rfl, .inr ⟨_, Same.tup fz_sub hs, (Paired.len (of_dpall ha)).symm⟩, z _ g H G (Ext.refl g H) rfl⟩
    | _ => cases e
end
/-- zip of two lists of data, or two tuples -/
def zipD : PyData → PyData → Option (List (PyData × PyData))
  | .list xs, .list ys => some (xs.zip ys)
  | .tuple xs, .tuple ys => some (xs.zip ys)
  | _, _ => none
theorem ai_zipD {wa wb : TupT ks → (PyData → Prop) → Prop} (ha : AE P ks (rF K PyData) ca ta wa) (hb : AE P ks (rF K PyData) cb tb wb) :
    AI P K ks (PyData × PyData) (ca + cb) (RZ.iZipA K (tCons ta (tCons tb tNil))) (fun γ Q => wa γ fun a => wb γ fun b => ∃ xs, zipD a b = some xs ∧ xs.length ≤ 9223372036854775808 ∧ Q xs) := by
  refine ⟨fun γ Q Q' q z => ha.mono γ _ _ (fun a za => hb.mono γ _ _ (fun b ⟨xs, e, hl, zb⟩ => ⟨xs, e, hl, q _ zb⟩) za) z, fun A b0 γ σ g H Q hb0 G R hw => ?_⟩
  refine ha.run A b0 γ σ g H _ (by omega) G R (ha.mono γ _ _ (fun d zx u g1 H1 G1 e1 r1 => ?_) hw)
  refine hb.run A _ γ σ g1 H1 _ (by omega) G1 (R.ext G e1) (hb.mono γ _ _ (fun e ⟨xs, exs, hlen, zy⟩ v g' H' G' e' r' => ?_) zx)
  have r1' : Dp K (Fz g' H') u d := rp_ext G1 e' r1
  have r' : Dp K (Fz g' H') v e := r'
  cases r1' with
  | @lst a vs ds hs pr =>
    cases r' with
    | @lst b us es hs' pr' =>
      cases exs
      have pr := of_dpall pr
      have pr' := of_dpall pr'
      have s1 : ∀ {A : Act} {g2 H2}, Le g' H' g2 H2 → SqL K H2 a vs := fun l => Same.seq fz_sub (Same.seq l.fz hs)
      have s2 : ∀ {A : Act} {g2 H2}, Le g' H' g2 H2 → SqL K H2 b us := fun l => Same.seq fz_sub (Same.seq l.fz hs')
      refine ⟨a, b, vs, us, rfl, .inl ⟨Same.seq fz_sub hs, Same.seq fz_sub hs', zy _ g' H' (G'.up (by omega)) (e1.trans G1 e') ⟨hlen, fun A2 b2 g2 H2 i G2 l hi => ⟨vs, us, s1 (A := A2) l, s2 (A := A2) l, ?_⟩, fun A2 b2 g2 H2 i G2 l hi => ?_, fun A2 b2 g2 H2 i x H3 G2 l hy y ey => ?_⟩⟩⟩
      · rw [List.length_zip] at hi
        rw [Paired.len pr, Paired.len pr']
        omega
      · rw [List.length_zip] at hi
        have h1 : i < vs.length := by rw [Paired.len pr]; omega
        have h2 : i < us.length := by rw [Paired.len pr']; omega
        exact ⟨vs, us, vs[i], us[i], s1 (A := A2) l, s2 (A := A2) l, List.getElem?_eq_getElem h1, List.getElem?_eq_getElem h2⟩
      · obtain ⟨T, x1, x2, rfl, nT, rfl, f1, f2⟩ := hy
        obtain ⟨G3, e3⟩ := G2.new0 (o := .tup [x1, x2]) nT
        have ey' : (ds.zip es)[i]? = some y := ey
        obtain ⟨y1, y2⟩ := y
        rw [List.getElem?_zip_eq_some] at ey'
        obtain ⟨k1, k2⟩ := ey'
        obtain ⟨z1, d1, q1⟩ := Paired.at pr k1
        obtain ⟨z2, d2, q2⟩ := Paired.at pr' k2
        have c1 := f1 _ (s1 (A := A2) l)
        have c2 := f2 _ (s2 (A := A2) l)
        rw [d1] at c1
        rw [d2] at c2
        cases c1
        cases c2
        exact ⟨G3, e3, T, _, _, rfl, fz_new_tup, rp_ext G2 e3 (Rp.mono l.fz q1), rp_ext G2 e3 (Rp.mono l.fz q2)⟩
    | _ => cases exs
  | @tup a vs ds hs pr =>
    cases r' with
    | @tup b us es hs' pr' =>
      cases exs
      have pr := of_dpall pr
      have pr' := of_dpall pr'
      have s1 : ∀ {A : Act} {g2 H2}, Le g' H' g2 H2 → SqT K H2 a vs := fun l => Same.tup fz_sub (Same.tup l.fz hs)
      have s2 : ∀ {A : Act} {g2 H2}, Le g' H' g2 H2 → SqT K H2 b us := fun l => Same.tup fz_sub (Same.tup l.fz hs')
      refine ⟨a, b, vs, us, rfl, .inr ⟨Same.tup fz_sub hs, Same.tup fz_sub hs', zy _ g' H' (G'.up (by omega)) (e1.trans G1 e') ⟨hlen, fun A2 b2 g2 H2 i G2 l hi => ⟨vs, us, s1 (A := A2) l, s2 (A := A2) l, ?_⟩, fun A2 b2 g2 H2 i G2 l hi => ?_, fun A2 b2 g2 H2 i x H3 G2 l hy y ey => ?_⟩⟩⟩
      · rw [List.length_zip] at hi
        rw [Paired.len pr, Paired.len pr']
        omega
      · rw [List.length_zip] at hi
        have h1 : i < vs.length := by rw [Paired.len pr]; omega
        have h2 : i < us.length := by rw [Paired.len pr']; omega
        exact ⟨vs, us, vs[i], us[i], s1 (A := A2) l, s2 (A := A2) l, List.getElem?_eq_getElem h1, List.getElem?_eq_getElem h2⟩
      · obtain ⟨T, x1, x2, rfl, nT, rfl, f1, f2⟩ := hy
        obtain ⟨G3, e3⟩ := G2.new0 (o := .tup [x1, x2]) nT
        have ey' : (ds.zip es)[i]? = some y := ey
        obtain ⟨y1, y2⟩ := y
        rw [List.getElem?_zip_eq_some] at ey'
        obtain ⟨k1, k2⟩ := ey'
        obtain ⟨z1, d1, q1⟩ := Paired.at pr k1
        obtain ⟨z2, d2, q2⟩ := Paired.at pr' k2
        have c1 := f1 _ (s1 (A := A2) l)
        have c2 := f2 _ (s2 (A := A2) l)
        rw [d1] at c1
        rw [d2] at c2
        cases c1
        cases c2
        exact ⟨G3, e3, T, _, _, rfl, fz_new_tup, rp_ext G2 e3 (Rp.mono l.fz q1), rp_ext G2 e3 (Rp.mono l.fz q2)⟩
    | _ => cases exs
  | _ => cases exs
/-! ### == of truths -/
theorem ae_eqB {wa wb : TupT ks → (Bool → Prop) → Prop} (ha : AE P ks (rF K Bool) ca ta wa) (hb : AE P ks (rF K Bool) cb tb wb) : AE P ks (rF K Bool) (ca + cb) (tOp rEq ta tb) (w2 (fun i j => decide (i = j)) wa wb) :=
  AE.op2 (r := rF K Bool) (k1 := vF K Bool) (k2 := vF K Bool) (f := fun a b Q => Q (decide (a = b))) ha hb (fun _ _ _ _ q z => q _ z) fun A b0 g H x y a b Q G rx ry z => by
    have rx : x = .bl a := rx
    have ry : y = .bl b := ry
    subst rx ry
    refine ⟨rfl, z _ g H G (Ext.refl g H) ?_⟩
    show V.bl _ = V.bl _
    simp
theorem ae_neB {wa wb : TupT ks → (Bool → Prop) → Prop} (ha : AE P ks (rF K Bool) ca ta wa) (hb : AE P ks (rF K Bool) cb tb wb) : AE P ks (rF K Bool) (ca + cb) (tOp rNe ta tb) (w2 (fun i j => !decide (i = j)) wa wb) :=
  AE.op2 (r := rF K Bool) (k1 := vF K Bool) (k2 := vF K Bool) (f := fun a b Q => Q (!decide (a = b))) ha hb (fun _ _ _ _ q z => q _ z) fun A b0 g H x y a b Q G rx ry z => by
    have rx : x = .bl a := rx
    have ry : y = .bl b := ry
    subst rx ry
    refine ⟨rfl, z _ g H G (Ext.refl g H) ?_⟩
    show V.bl _ = V.bl _
    simp
/-! ### great powers -/
def CPowW (i j : Int) : Prop := 0 ≤ j ∧ (Builtin.Int.intBits i : Int) * j ≤ 2 ^ 27
theorem op_powW {X : Cx} : OpR X (binaryOp .Pow) (rI CPowW fun i j => .int (i ^ j.toNat)) := opI fun _ _ _ _ _ _ _ hc q => pow_int hc.1 hc.2 q
theorem ae_powW {wa wb : TupT ks → (Int → Prop) → Prop} (ha : AE P ks (rF K Int) ca ta wa) (hb : AE P ks (rF K Int) cb tb wb) : AE P ks (rF K Int) (ca + cb) (tOp (rI CPowW fun i j => .int (i ^ j.toNat)) ta tb) (w2c CPowW (fun i j => i ^ j.toNat) wa wb) := ae_I (fun _ _ _ => rfl) ha hb

/-! ### calls with keywords -/
section
variable {X : Cx} {CX : CXT} {k n : Nat} {f : Addr} {fd : FuncData} {ps kn : List Str} {sp : Sp} {E : XK} {x : Str} {p pos : Pos} {kws : List Keyword} {tk : TA} {g : List Value → List Value → List Value} {gV : List V → List V → List V}
theorem pe_callN0 (F : FnOk X.prog X.w X.K X.mg X.base CX k f fd ps sp) (hr : Room k X.A) (hg : Gl X x) (hm : X.mg x = some (.ref f)) (hk : PySem.W.keepIn X.K (.ref f) = true) (hb : KBn X.K fd ps 0 kn g gV) (hx : Passes CX X E)
    (hkw : PK X kws tk) (hall : (backToKw pos (keywordEach kws X.env)).all (·.1.isSome) = true := by rfl) (hks : (backToKw pos (keywordEach kws X.env)).filterMap (·.1) = kn := by rfl)
    (hdb : (x == ("__debug__" : Str)) = false := by decide) (hpl : ((backTo pos (starEach [] X.env)).any (·.1) || (backToKw pos (keywordEach kws X.env)).any (·.1.isNone)) = false := by rfl) :
    PE X (.Call (.Name x p) [] kws pos) (tCallN 0 kn.length sp gV E tNil tk) := by
  refine ⟨fun pins s σ H Q I h => ?_⟩
  refine wpAny_Call_Name_kw (ld_glob I hg hm ?_ hdb)
  refine PySem.W.callWith_KW0 (h₀ := X.base) I.ok.mod.kin hk hall ?_ hpl
  refine thn (hkw.run pos pins s σ H _ I h) fun ws s2 ⟨zs, H2, I2, rz, l1, l2, q2⟩ => ⟨I2.kIn, ?_⟩
  rw [hks]
  exact run_fnN (us := []) (vs := []) F hr hb hx I2 .nil rz l1 l2 q2
end
theorem kbn_of {x qual : Str} {st : Stmt} {f : Addr} {fd : FuncData} {ps : List Str} (F : Fun K x qual st f fd) (n : Nat) (kn : List Str) (g : {α : Type} → List α → List α → List α)
    (hrel : ∀ {vs zs : List V} {us ws : List Value}, Vals vs us → Vals zs ws → Vals (g vs zs) (g us ws))
    (h : ∀ (kV doc pm : Value) (an : Option Addr) (cdv ct : Value) (us ws : List Value), us.length = n → ws.length = kn.length → bindArgs (PySem.W.fnOf x qual (defArgs st) (defBody st) (defScope st) .none kV doc pm an cdv ct) ⟨us, kn.zip ws⟩ = pure (ps.zip (g us ws))) :
    KBn K fd ps n kn (fun us ws => g us ws) (fun vs zs => g vs zs) := by
  obtain ⟨oc, od, kV, doc, pm, an, cdv, ct, osl, rfl, lk, hcd⟩ := F.ex
  exact ⟨fun s us ws _ h1 h2 => .of_eq (h kV doc pm an cdv ct us ws h1 h2), hrel⟩
theorem ae_callN {c : Nat} {p1 p2 ps : List Vk} {n m : Nat} {gV : List V → List V → List V} {gT : TupV p1 → TupV p2 → TupV ps} {w : TupV ps → (r.T → Prop) → Prop} {t tk : TA} {wt : TupT ks → (TupV p1 → Prop) → Prop} {wk : TupT ks → (TupV p2 → Prop) → Prop} (wm : Pm P ps r w)
    (ha : AA P ks p1 ct t wt) (hk : AA P ks p2 ck tk wk) (hn : p1.length = n) (hm : p2.length = m)
    (hg : ∀ {x y vs zs g H}, RelVs p1 x vs g H → RelVs p2 y zs g H → RelVs ps (gT x y) (gV vs zs) g H) :
    AE P ks r (ct + ck + c) (tCallN n m (SpOf P ps r c w) gV E0 t tk) (fun γ Q => wt γ fun x => wk γ fun y => w (gT x y) Q) := by
  refine ⟨fun γ Q Q' q z => ha.mono γ _ _ (fun a za => hk.mono γ _ _ (fun b zb => wm.mono _ _ _ q zb) za) z, fun A b0 γ σ g H Q hb0 G R hw => ?_⟩
  refine ha.run A b0 γ σ g H _ (by omega) G R (ha.mono γ _ _ (fun a za vs g1 H1 G1 e1 r1 => ?_) hw)
  refine hk.run A _ γ σ g1 H1 _ (by omega) G1 (R.ext G e1) (hk.mono γ _ _ (fun b zb zs g2 H2 G2 e2 r2 => ?_) za)
  refine ⟨(RelVs.length r1).trans hn, (RelVs.length r2).trans hm, ?_⟩
  exact sp_call wm (by omega) G2 (e1.trans G1 e2) (hg (RelVs.mono (e2.le G1) r1) r2) (wm.mono _ _ _ (fun x z v g' H' G' => z v g' H' (G'.up (by omega))) zb)

/-! ### the end -/
/-- the law's own promise, at the script -/
theorem law_end {w : TupV [vF K Scr] → (Bool → Prop) → Prop} {c : Nat} (hc : c ≤ P.B) (a : Addr) (ns : List Int) (hl : ns.length ≤ 63) (H : Hp) (hS : SqL K H a (ns.map V.int)) (hw : ∀ Q : Bool → Prop, Q true → w (⟨ns, hl⟩, ()) Q) :
    SpOf P [vF K Scr] (rF K Bool) c w [.ref a] H (fun v _ => v = .bl true) fun _ _ _ => False := by
  let g0 : Gh := fun b => match H b with
    | some _ => .frz
    | none => .oth
  have f0 : Fz g0 H = H := by
    funext b
    cases e : H b with
    | none =>
      cases q : Fz g0 H b with
      | none => rfl
      | some o => exact absurd (fz_some.mp q).1 (by rw [e]; simp)
    | some o => exact fz_some.mpr ⟨e, .inr (by show isFrz (match H b with | some _ => .frz | none => .oth) = true; rw [e]; rfl)⟩
  have n0 : ∀ b, g0 b ≠ .tok ∧ (∀ i, g0 b ≠ .own i) := fun b => by
    show (match H b with | some _ => Tg.frz | none => Tg.oth) ≠ .tok ∧ ∀ i, (match H b with | some _ => Tg.frz | none => Tg.oth) ≠ .own i
    cases H b <;> exact ⟨by simp, fun i => by simp⟩
  refine ⟨⟨g0, H, fun b i => (n0 b).2 i⟩, 0, (⟨ns, hl⟩, ()), rfl, by omega, Good.refl (fun b h => absurd h (n0 b).1) (fun b h => ?_), ⟨.ref a, [], rfl, ⟨a, rfl, ?_⟩, rfl⟩, hw _ fun v g' H' G' r' => r'⟩
  · show (match H b with | some _ => Tg.frz | none => Tg.oth) = .oth
    have h : H b = none := h
    rw [h]
  · show SqL K (Fz g0 H) a _
    rw [f0]
    exact hS
end DL
/-! DL: a def's code with what it is worth; more of lists; isinstance by name. -/
namespace DL
open PySem PySem.Spec PyProof.Rows L2
variable {P : TokP} {K : PySem.W.Frag} {ks ks' ks1 ks2 kb : List Kd} {r : Rk} {ta tb te : TE}
structure Cd (P : TokP) (ks ks' : List Kd) (r : Rk) where
  c : Nat
  t : TS
  w : TupT ks → We ks' r [] → Prop
  ok : AS P ks ks' r [] c t w
/-- a promise: what it costs, what it is worth -/
structure Pr (P : TokP) (ps : List Vk) (r : Rk) where
  c : Nat
  w : TupV ps → (r.T → Prop) → Prop
  pm : Pm P ps r w
/-- the parameters' order behind keywords -/
def pick {α : Type} (l : List α) : List Nat → List α
  | [] => []
  | i :: r => match l[i]? with
    | some x => x :: pick l r
    | none => pick l r
theorem pick_rel {vs : List V} {us : List Value} (h : Vals vs us) : ∀ p : List Nat, Vals (pick vs p) (pick us p)
  | [] => .nil
  | i :: r => by
    unfold pick
    cases e : vs[i]? with
    | none =>
      rw [Vals.none_of h e]
      exact pick_rel h r
    | some x =>
      obtain ⟨u, eu, ru⟩ := Vals.get h e
      rw [eu]
      exact .cons ru (pick_rel h r)
def is_list : PyData → Bool
  | .list _ => true
  | _ => false
def is_tuple : PyData → Bool
  | .tuple _ => true
  | _ => false
def is_bool : PyData → Bool
  | .bool _ => true
  | _ => false
def is_int : PyData → Bool
  | .bool _ => true
  | .int _ => true
  | _ => false
theorem is_list_ok : ∀ d, kitB (tyD d) "list" = some (is_list d)
  | .none => (by decide +kernel : kitB "NoneType" "list" = some false)
  | .bool _ => (by decide +kernel : kitB "bool" "list" = some false)
  | .int _ => (by decide +kernel : kitB "int" "list" = some false)
  | .str _ => (by decide +kernel : kitB "str" "list" = some false)
  | .list _ => (by decide +kernel : kitB "list" "list" = some true)
  | .tuple _ => (by decide +kernel : kitB "tuple" "list" = some false)
  | .dict _ => (by decide +kernel : kitB "dict" "list" = some false)
theorem is_tuple_ok : ∀ d, kitB (tyD d) "tuple" = some (is_tuple d)
  | .none => (by decide +kernel : kitB "NoneType" "tuple" = some false)
  | .bool _ => (by decide +kernel : kitB "bool" "tuple" = some false)
  | .int _ => (by decide +kernel : kitB "int" "tuple" = some false)
  | .str _ => (by decide +kernel : kitB "str" "tuple" = some false)
  | .list _ => (by decide +kernel : kitB "list" "tuple" = some false)
  | .tuple _ => (by decide +kernel : kitB "tuple" "tuple" = some true)
  | .dict _ => (by decide +kernel : kitB "dict" "tuple" = some false)
theorem is_bool_ok : ∀ d, kitB (tyD d) "bool" = some (is_bool d)
  | .none => (by decide +kernel : kitB "NoneType" "bool" = some false)
  | .bool _ => (by decide +kernel : kitB "bool" "bool" = some true)
  | .int _ => (by decide +kernel : kitB "int" "bool" = some false)
  | .str _ => (by decide +kernel : kitB "str" "bool" = some false)
  | .list _ => (by decide +kernel : kitB "list" "bool" = some false)
  | .tuple _ => (by decide +kernel : kitB "tuple" "bool" = some false)
  | .dict _ => (by decide +kernel : kitB "dict" "bool" = some false)
theorem is_int_ok : ∀ d, kitB (tyD d) "int" = some (is_int d)
  | .none => (by decide +kernel : kitB "NoneType" "int" = some false)
  | .bool _ => (by decide +kernel : kitB "bool" "int" = some true)
  | .int _ => (by decide +kernel : kitB "int" "int" = some true)
  | .str _ => (by decide +kernel : kitB "str" "int" = some false)
  | .list _ => (by decide +kernel : kitB "list" "int" = some false)
  | .tuple _ => (by decide +kernel : kitB "tuple" "int" = some false)
  | .dict _ => (by decide +kernel : kitB "dict" "int" = some false)
/-! ### methods of an owned list -/
theorem as_reverse {α : Type} [Rp K α] {n : Nat} (a : Acc ks n (kO K α)) (p : Put ks n (kO K α) ks) :
    AS P ks ks r kb 0 (tDrop (tBM0 K "list" rReverse (tVar n))) (fun γ E => E.nx (p.put γ (a.get γ).reverse)) := by
  refine ⟨fun γ E E' i z => i.nx _ z, fun A b0 γ σ g H D hb0 G R hw => ?_⟩
  obtain ⟨y, e, b, vs, rfl, h1, h2, h3, hl⟩ := a.ok R
  obtain ⟨G2, l2, R2⟩ := own_write p G R e h1 h2 (Paired.rev h3) (by rw [List.length_reverse]; exact hl)
  exact ⟨_, e, .inl ⟨rfl, vs, .inl (.inl h2)⟩, b, vs, rfl, rfl, h2, hw σ g _ (G2.up (by omega)) l2 R2⟩
theorem as_clear {α : Type} [Rp K α] {n : Nat} (a : Acc ks n (kO K α)) (p : Put ks n (kO K α) ks) :
    AS P ks ks r kb 0 (tDrop (tBM0 K "list" rClear (tVar n))) (fun γ E => E.nx (p.put γ [])) := by
  refine ⟨fun γ E E' i z => i.nx _ z, fun A b0 γ σ g H D hb0 G R hw => ?_⟩
  obtain ⟨y, e, b, vs, rfl, h1, h2, h3, hl⟩ := a.ok R
  obtain ⟨G2, l2, R2⟩ := own_write p G R e h1 h2 (us := []) (xs := []) .nil (Nat.zero_le _)
  exact ⟨_, e, .inl ⟨rfl, vs, .inl (.inl h2)⟩, b, vs, rfl, rfl, h2, hw σ g _ (G2.up (by omega)) l2 R2⟩
/-- a, b = x, y where both are new lists that will be changed -/
theorem as_parO {α β : Type} [Rp K α] [Rp K β] {i j : Nat} {wa : TupT ks → (List α → Prop) → Prop} {wb : TupT ks → (List β → Prop) → Prop} (ha : AE P ks (rO K α) ca ta wa) (hb : AE P ks (rO K β) cb tb wb) (hij : i ≠ j) (p1 : Put ks i (kO K α) ks1) (p2 : Put ks1 j (kO K β) ks') :
    AS P ks ks' r kb (ca + cb) (tPar i j (tCons ta (tCons tb tNil))) (fun γ E => wa γ fun x => wb γ fun y => ∀ a b, a = x → b = y → E.nx (p2.put (p1.put γ a) b)) := by
  refine ⟨fun γ E E' im z => ha.mono γ _ _ (fun x zx => hb.mono γ _ _ (fun y zy a b ea eb => im.nx _ (zy a b ea eb)) zx) z, fun A b0 γ σ g H D hb0 G R hw => ?_⟩
  refine ha.run A b0 γ σ g H _ (by omega) G R (ha.mono γ _ _ (fun x zx v g1 H1 G1 e1 r1 => ?_) hw)
  refine hb.run A _ γ σ g1 H1 _ (by omega) G1 (R.ext G e1) (hb.mono γ _ _ (fun y zy u g2 H2 G2 e2 r2 => ?_) zx)
  obtain ⟨a, vs, rfl, h1, h2, h3, h4, hl⟩ := r1
  obtain ⟨b, us, rfl, k1, k2, k3, k4, kl⟩ := r2
  have q1 := e2 a _ h3
  have h2' : g2 a = .oth := q1.1.trans h2
  have h3' : H2 a = some (.lst vs) := q1.2 (by rw [h2]; simp)
  have hA : A.H0 a = none := G.ext.keeps G h1
  have hB : A.H0 b = none := G1.ext.keeps G1 k1
  have nab : b ≠ a := fun e => by
    subst e
    rw [h3] at k1
    cases k1
  let ga := tagAt g2 a (.own i)
  let gb := tagAt ga b (.own j)
  have Ga : Good P A (b0 + ca + cb) ga H2 := G2.retag (t := .own i) hA h3' (by rw [h2']; simp) (fun z => nomatch z)
  have gab : ga b = .oth := by show tagAt g2 a (.own i) b = .oth; rw [tagAt_ne nab]; exact k2
  have Gb : Good P A (b0 + ca + cb) gb H2 := Ga.retag (t := .own j) hB k3 (by rw [gab]; simp) (fun z => nomatch z)
  have la : Le g2 H2 ga H2 := le_tag (by rw [h2']; simp) (by rw [h2']; simp)
  have lb : Le ga H2 gb H2 := le_tag (by rw [gab]; simp) (by rw [gab]; simp)
  have e12 := e1.trans G1 e2
  have l0 : Le g H ga H2 := (e12.le G).trans la
  have R1 := p1.ok (y := some (.ref a)) (x := x) R l0 (fun k hk c o hc ho => by
    obtain ⟨z1, z2⟩ := (e12.lx G).ow k c o hc ho
    refine ⟨?_, z2⟩
    show tagAt g2 a (.own i) c = _
    rw [tagAt_ne]
    · exact z1
    · intro z
      subst z
      rw [h2'] at z1
      cases z1) ⟨a, vs, rfl, by rw [Nat.zero_add]; exact tagAt_same, h3', Paired.rp_mono ((e2.le G1).fz.trans la.fz) h4, hl⟩
  have R2 := p2.ok (y := some (.ref b)) (x := y) R1 lb (fun k hk c o hc ho => by
    refine ⟨?_, ho⟩
    show tagAt ga b (.own j) c = _
    rw [tagAt_ne]
    · exact hc
    · intro z
      subst z
      rw [gab] at hc
      cases hc) ⟨b, us, rfl, by rw [Nat.zero_add]; exact tagAt_same, k3, Paired.rp_mono (la.fz.trans lb.fz) k4, kl⟩
  exact ⟨_, _, rfl, zy _ _ rfl rfl _ gb H2 (Gb.up (by omega)) (l0.trans lb) R2⟩
end DL
/-! DL: loops and comprehensions in plain words; data alike. -/
namespace DL
open PySem PySem.Spec PyProof.Rows L2
/-- a loop by an invariant over the number of turns gone -/
theorem wfor_inv {α Γ : Type} {body : α → Γ → (Γ → Prop) → (Γ → Prop) → Prop} {N : Γ → Prop} {γ : Γ} (xs : List α) (Inv : Nat → Γ → Prop) (h0 : Inv 0 γ)
    (step : ∀ i x γ nx, xs[i]? = some x → Inv i γ → (∀ γ', Inv (i + 1) γ' → nx γ') → body x γ nx N) (hend : ∀ γ, Inv xs.length γ → N γ) : wForL body N xs γ := by
  have aux : ∀ (rest : List α) (i : Nat) (γ : Γ), xs.drop i = rest → Inv i γ → i ≤ xs.length → wForL body N rest γ := by
    intro rest
    induction rest with
    | nil =>
      intro i γ hd hi hle
      have : xs.length ≤ i := List.drop_eq_nil_iff.mp hd
      have e : i = xs.length := by omega
      subst e
      exact hend γ hi
    | cons x rest ih =>
      intro i γ hd hi hle
      have hlt : i < xs.length := by
        rcases Nat.lt_or_ge i xs.length with h | h
        · exact h
        · rw [List.drop_of_length_le h] at hd
          cases hd
      have hx : xs[i]? = some x := by
        rw [List.drop_eq_getElem_cons hlt] at hd
        rw [List.getElem?_eq_getElem hlt]
        exact congrArg some (List.cons.inj hd).1
      have hr : xs.drop (i + 1) = rest := by
        rw [List.drop_eq_getElem_cons hlt] at hd
        exact (List.cons.inj hd).2
      exact step i x γ _ hx hi fun γ' hi' => ih (i + 1) γ' hr hi' hlt
  exact aux xs 0 γ rfl h0 (Nat.zero_le _)
/-- a loop that folds -/
theorem wfor_fold {α Γ : Type} {body : α → Γ → (Γ → Prop) → (Γ → Prop) → Prop} {N : Γ → Prop} (f : Γ → α → Γ) : ∀ (xs : List α) (γ : Γ), (∀ x ∈ xs, ∀ γ nx, nx (f γ x) → body x γ nx N) → N (xs.foldl f γ) → wForL body N xs γ
  | [], _, _, h => h
  | x :: xs, γ, hb, h => hb x List.mem_cons_self γ _ (wfor_fold f xs (f γ x) (fun y hy => hb y (List.mem_cons_of_mem _ hy)) h)
/-- a comprehension whose items may be any by a relation -/
theorem wlc_rel {α β : Type} {tst : α → (Bool → Prop) → Prop} {body : α → (β → Prop) → Prop} {Q : List β → Prop} (R : α → β → Prop) : ∀ (xs : List α) (acc : List β), (∀ x ∈ xs, ∀ k, k true → tst x k) → (∀ x ∈ xs, ∀ k, (∀ y, R x y → k y) → body x k) →
    (∀ ys, Paired R xs ys → Q (acc ++ ys)) → wLcL tst body Q xs acc
  | [], acc, _, _, h => by
    have := h [] .nil
    rw [List.append_nil] at this
    exact this
  | x :: xs, acc, ht, hb, h => by
    refine ht x List.mem_cons_self _ ?_
    rw [if_pos rfl]
    refine hb x List.mem_cons_self _ fun y r => wlc_rel R xs (acc ++ [y]) (fun z hz => ht z (List.mem_cons_of_mem _ hz)) (fun z hz => hb z (List.mem_cons_of_mem _ hz)) fun ys p => ?_
    rw [List.append_assoc]
    exact h (y :: ys) (.cons r p)
/-- a comprehension that maps -/
theorem wlc_map {α β : Type} {tst : α → (Bool → Prop) → Prop} {body : α → (β → Prop) → Prop} {Q : List β → Prop} (f : α → β) : ∀ (xs : List α) (acc : List β), (∀ x ∈ xs, ∀ k, k true → tst x k) → (∀ x ∈ xs, ∀ k, k (f x) → body x k) → Q (acc ++ xs.map f) → wLcL tst body Q xs acc
  | [], acc, _, _, h => by
    rw [List.map_nil, List.append_nil] at h
    exact h
  | x :: xs, acc, ht, hb, h => by
    refine ht x List.mem_cons_self _ ?_
    rw [if_pos rfl]
    refine hb x List.mem_cons_self _ (wlc_map f xs (acc ++ [f x]) (fun z hz => ht z (List.mem_cons_of_mem _ hz)) (fun z hz => hb z (List.mem_cons_of_mem _ hz)) ?_)
    rw [List.append_assoc]
    exact h
/-- a comprehension that picks and maps -/
theorem wlc_filter {α β : Type} {tst : α → (Bool → Prop) → Prop} {body : α → (β → Prop) → Prop} {Q : List β → Prop} (p : α → Bool) (f : α → β) : ∀ (xs : List α) (acc : List β), (∀ x ∈ xs, ∀ k, k (p x) → tst x k) → (∀ x ∈ xs, p x = true → ∀ k, k (f x) → body x k) → Q (acc ++ (xs.filter p).map f) → wLcL tst body Q xs acc
  | [], acc, _, _, h => by
    rw [List.filter_nil, List.map_nil, List.append_nil] at h
    exact h
  | x :: xs, acc, ht, hb, h => by
    refine ht x List.mem_cons_self _ ?_
    by_cases e : p x = true
    · rw [if_pos e]
      refine hb x List.mem_cons_self e _ (wlc_filter p f xs (acc ++ [f x]) (fun z hz => ht z (List.mem_cons_of_mem _ hz)) (fun z hz => hb z (List.mem_cons_of_mem _ hz)) ?_)
      rw [List.append_assoc]
      rw [List.filter_cons_of_pos e, List.map_cons] at h
      exact h
    · rw [if_neg e]
      rw [List.filter_cons_of_neg e] at h
      exact wlc_filter p f xs acc (fun z hz => ht z (List.mem_cons_of_mem _ hz)) (fun z hz => hb z (List.mem_cons_of_mem _ hz)) h
theorem rangeI_mem {lo x : Int} {n : Nat} (h : x ∈ rangeI lo n) : lo ≤ x ∧ x < lo + n := by
  unfold rangeI at h
  obtain ⟨i, hi, rfl⟩ := List.mem_map.mp h
  have := List.mem_range.mp hi
  omega
theorem rangeI_get {lo x : Int} {n i : Nat} (h : (rangeI lo n)[i]? = some x) : x = lo + i ∧ i < n := by
  have hl : i < (rangeI lo n).length := (List.getElem?_eq_some_iff.mp h).1
  rw [rangeI_len] at hl
  unfold rangeI at h
  rw [List.getElem?_map, List.getElem?_eq_getElem (by simpa using hl), List.getElem_range] at h
  exact ⟨(Option.some.inj h).symm, hl⟩
/-- an item that stands there -/
theorem atI_at {α : Type} {xs : List α} {i : Int} (h0 : 0 ≤ i) (h1 : i < xs.length) : ∃ x, atI xs i = some x ∧ xs[i.toNat]? = some x := by
  have h2 : i.toNat < xs.length := by omega
  refine ⟨xs[i.toNat], ?_, List.getElem?_eq_getElem h2⟩
  have := atI_nat (xs := xs) (j := i.toNat) (List.getElem?_eq_getElem h2)
  rwa [Int.toNat_of_nonneg h0] at this
theorem atI_mem {α : Type} {xs : List α} {i : Int} {x : α} (h : atI xs i = some x) : x ∈ xs := by
  obtain ⟨j, _, h2, _⟩ := atI_get h
  exact List.mem_of_getElem? h2
theorem ixN_at {n : Nat} {i : Int} (h0 : 0 ≤ i) (h1 : i < n) : ixN n i = some i.toNat := by
  unfold ixN
  rw [if_pos h0, if_pos h1]
theorem eq1 {α : Type} {x : α} {R : α → Prop} (h : R x) : ∀ y, y = x → R y := fun _ e => e ▸ h
theorem eq2 {α β : Type} {x : α} {y : β} {R : α → β → Prop} (h : R x y) : ∀ a b, a = x → b = y → R a b := fun _ _ e f => e ▸ f ▸ h
/-! ### data alike -/
def okd : Nat → PyData → Bool
  | _, .none => true
  | _, .bool _ => true
  | _, .int _ => true
  | _, .str x => SeqAt.shaped (.str x)
  | n + 1, .list xs => decide (xs.length ≤ 16777216) && xs.all (okd n)
  | n + 1, .tuple xs => decide (xs.length ≤ 16777216) && xs.all (okd n)
  | _, _ => false
theorem okd_up : ∀ (n : Nat) (d : PyData), okd n d = true → okd (n + 1) d = true
  | _, .none, _ => by unfold okd; rfl
  | _, .bool _, _ => by unfold okd; rfl
  | _, .int _, _ => by unfold okd; rfl
  | _, .str x, h => by unfold okd at h ⊢; exact h
  | 0, .list xs, h => by unfold okd at h; cases h
  | 0, .tuple xs, h => by unfold okd at h; cases h
  | n + 1, .list xs, h => by
    unfold okd at h ⊢
    rw [Bool.and_eq_true] at h ⊢
    exact ⟨h.1, List.all_eq_true.mpr fun x hx => okd_up n x (List.all_eq_true.mp h.2 x hx)⟩
  | n + 1, .tuple xs, h => by
    unfold okd at h ⊢
    rw [Bool.and_eq_true] at h ⊢
    exact ⟨h.1, List.all_eq_true.mpr fun x hx => okd_up n x (List.all_eq_true.mp h.2 x hx)⟩
  | 0, .dict _, h => by unfold okd at h; cases h
  | _ + 1, .dict _, h => by unfold okd at h; cases h
theorem okd_le {n m : Nat} {d : PyData} (h : n ≤ m) (k : okd n d = true) : okd m d = true := by
  induction h with
  | refl => exact k
  | step _ ih => exact okd_up _ _ ih
theorem okd_lst {n : Nat} {xs : List PyData} (h : xs.length ≤ 16777216) (k : ∀ x ∈ xs, okd n x = true) : okd (n + 1) (.list xs) = true := by
  unfold okd
  rw [Bool.and_eq_true, decide_eq_true_eq, List.all_eq_true]
  exact ⟨h, k⟩
theorem okd_tup {n : Nat} {xs : List PyData} (h : xs.length ≤ 16777216) (k : ∀ x ∈ xs, okd n x = true) : okd (n + 1) (.tuple xs) = true := by
  unfold okd
  rw [Bool.and_eq_true, decide_eq_true_eq, List.all_eq_true]
  exact ⟨h, k⟩
theorem okd_map {α : Type} {n : Nat} {f : α → PyData} {xs : List α} (h : xs.length ≤ 16777216) (k : ∀ x ∈ xs, okd n (f x) = true) : okd (n + 1) (.list (xs.map f)) = true := okd_lst (by rw [List.length_map]; exact h) fun x hx => by
  obtain ⟨y, hy, rfl⟩ := List.mem_map.mp hx
  exact k y hy
theorem okd_lst2 {n : Nat} {a b : PyData} (h : okd n a = true) (k : okd n b = true) : okd (n + 1) (.list [a, b]) = true := okd_lst (by show 2 ≤ _; decide) fun x hx => by
  simp only [List.mem_cons, List.not_mem_nil, or_false] at hx
  rcases hx with rfl | rfl
  · exact h
  · exact k
theorem okd_lst3 {n : Nat} {a b c : PyData} (h : okd n a = true) (k : okd n b = true) (l : okd n c = true) : okd (n + 1) (.list [a, b, c]) = true := okd_lst (by show 3 ≤ _; decide) fun x hx => by
  simp only [List.mem_cons, List.not_mem_nil, or_false] at hx
  rcases hx with rfl | rfl | rfl
  · exact h
  · exact k
  · exact l
theorem okd_tup2 {n : Nat} {a b : PyData} (h : okd n a = true) (k : okd n b = true) : okd (n + 1) (.tuple [a, b]) = true := okd_tup (by show 2 ≤ _; decide) fun x hx => by
  simp only [List.mem_cons, List.not_mem_nil, or_false] at hx
  rcases hx with rfl | rfl
  · exact h
  · exact k
theorem okd_tup3 {n : Nat} {a b c : PyData} (h : okd n a = true) (k : okd n b = true) (l : okd n c = true) : okd (n + 1) (.tuple [a, b, c]) = true := okd_tup (by show 3 ≤ _; decide) fun x hx => by
  simp only [List.mem_cons, List.not_mem_nil, or_false] at hx
  rcases hx with rfl | rfl | rfl
  · exact h
  · exact k
  · exact l
theorem okd_int {n : Nat} (i : Int) : okd n (.int i) = true := by cases n <;> (unfold okd; rfl)
theorem okd_bool {n : Nat} (b : Bool) : okd n (.bool b) = true := by cases n <;> (unfold okd; rfl)
theorem okd_none {n : Nat} : okd n .none = true := by cases n <;> (unfold okd; rfl)
theorem zip_self {α : Type} : ∀ (xs : List α) (p : α × α), p ∈ xs.zip xs → p.1 = p.2 ∧ p.1 ∈ xs
  | [], _, h => by cases h
  | x :: xs, p, h => by
    rw [List.zip_cons_cons] at h
    rcases List.mem_cons.mp h with rfl | h
    · exact ⟨rfl, List.mem_cons_self⟩
    · obtain ⟨h1, h2⟩ := zip_self xs p h
      exact ⟨h1, List.mem_cons_of_mem _ h2⟩
theorem all_true {α : Type} (xs : List α) : (xs.map fun _ => true).all id = true := by
  rw [List.all_map, List.all_eq_true]
  exact fun _ _ => rfl
end DL
/-! DL: more methods of owned lists. -/
namespace DL
open PySem PySem.Spec PyProof.Rows L2
variable {P : TokP} {K : PySem.W.Frag} {ks ks' ks1 ks2 kb : List Kd} {r : Rk} {ta tb te : TE}
theorem Paired.last' {α β : Type} {F : α → β → Prop} {l1 : List α} {l2 : List β} (h : Paired F l1 l2) : Paired F l1.dropLast l2.dropLast := by
  rw [List.dropLast_eq_take, List.dropLast_eq_take, Paired.len h]
  exact Paired.take' _ h
theorem as_pop {α : Type} [Rp K α] {n : Nat} (a : Acc ks n (kO K α)) (p : Put ks n (kO K α) ks) :
    AS P ks ks r kb 0 (tDrop (tBM0 K "list" rPop (tVar n))) (fun γ E => ∃ z, (a.get γ)[(a.get γ).length - 1]? = some z ∧ E.nx (p.put γ (a.get γ).dropLast)) := by
  refine ⟨fun γ E E' i ⟨z, e, q⟩ => ⟨z, e, i.nx _ q⟩, fun A b0 γ σ g H D hb0 G R hw => ?_⟩
  obtain ⟨z, ez, hw⟩ := hw
  obtain ⟨y, e, b, vs, rfl, h1, h2, h3, hl⟩ := a.ok R
  obtain ⟨v, ev, rv⟩ := Paired.at h3 ez
  obtain ⟨G2, l2, R2⟩ := own_write p G R e h1 h2 (Paired.last' h3) (by rw [List.length_dropLast]; omega)
  exact ⟨_, e, .inl ⟨rfl, vs, .inl (.inl h2)⟩, b, vs, v, rfl, rfl, h2, by rw [Paired.len h3]; exact ev, hw σ g _ (G2.up (by omega)) l2 R2⟩
theorem sIx_nat {n d : Nat} {i : Int} (h : 0 ≤ i) : HT.sIx n d (some i) = min i.toNat n := by
  show (if i < 0 then (i + (n : Int)).toNat else min i.toNat n) = min i.toNat n
  rw [if_neg (by omega)]
theorem cutL_to {α : Type} (xs : List α) {i : Int} (h : 0 ≤ i) : cutL xs none (some i) = xs.take i.toNat := by
  unfold cutL
  rw [sIx_nat h]
  show (xs.drop 0).take (min i.toNat xs.length - 0) = _
  rw [List.drop_zero, Nat.sub_zero, ← List.take_take, List.take_length]
theorem cutL_from {α : Type} (xs : List α) {i : Int} (h : 0 ≤ i) : cutL xs (some i) none = xs.drop i.toNat := by
  unfold cutL
  rw [sIx_nat h]
  show (xs.drop (min i.toNat xs.length)).take (xs.length - min i.toNat xs.length) = _
  rw [List.take_of_length_le (by rw [List.length_drop]; omega)]
  rcases Nat.le_total i.toNat xs.length with h | h
  · rw [Nat.min_eq_left h]
  · rw [Nat.min_eq_right h, List.drop_length, List.drop_of_length_le h]
end DL
/-! DL: promises that also know that no text of a list is being written (so that repr may be asked). -/
namespace DL
open PySem PySem.Spec PyProof.Rows L2
structure RoomG (k : Nat) (A : Around) : Prop where
  room : Room k A
  clear : A.guards = some []
theorem RoomG.mono {j k : Nat} {A : Around} (z : RoomG k A) (h : j ≤ k) : RoomG j A := ⟨z.room.mono h, z.clear⟩
/-- the promise of a def -/
structure FnG (Pg : Program) (w : World) (K : PySem.W.Frag) (mg : Str → Option Value) (base : Heap) (k : Nat) (f : Addr) (fd : FuncData) (ps : List Str) (sp : Sp) : Prop where
  len : ∀ vs H Q E, sp vs H Q E → vs.length = ps.length
  run : ∀ (A : Around) (stk : List Env) (s : Shared) (H : Hp) (ar : Args) (us : List Value) (vs : List V) (Q : VK) (E : XK), RoomG k A → Env0 Pg w K mg base A stk s H → BindsTo s fd ar (ps.zip us) → Vals vs us → sp vs H Q E →
    codeAny (model Pg w) A (.call (.ref f) ar) (CR L2.CX0 stk Pg w H s Q E) s
section
variable {Pg : Program} {w : World} {K : PySem.W.Frag} {mg : Str → Option Value} {base : Heap} {f : Addr} {fd : FuncData} {ps : List Str} {sp : Sp}
theorem FnG.mono {j k : Nat} (F : FnG Pg w K mg base j f fd ps sp) (h : j ≤ k) : FnG Pg w K mg base k f fd ps sp := ⟨F.len, fun A stk s H ar us vs Q E z => F.run A stk s H ar us vs Q E (z.mono h)⟩
/-- a def of the text -/
theorem okG {x qual : Str} {st : Stmt} {N : List Str} {k : Nat} (F : Fun K x qual st f fd) (S : FnScope N ps (defScope st)) (len : ∀ vs H Q E, sp vs H Q E → vs.length = ps.length)
    (body : ∀ (cdv : Value) (A : Around) (stk : List Env) (s : Shared) (H : Hp) (vs : List V) (Q : VK) (E : XK), RoomG k (A.deeper (envOfC qual (defScope st) s.heap.objs.size f cdv)) → sp vs H Q E →
      ∃ t, PSs (cxOf L2.CX0 Pg w K mg base N qual (defScope st) f cdv A stk s H E).nox (defBody st) t ∧ t { nx := fun _ H' => Q .non H', rt := Q } (start N vs) H) : FnG Pg w K mg base (k + 1) f fd ps sp := by
  obtain ⟨oc, od, kV, doc, pm, an, cdv, ct, sl, rfl, at1, code⟩ := F.ex
  refine ⟨len, fun A stk s H ar us vs Q E z env bind rv want => ?_⟩
  have many := len _ _ _ _ want
  have up : ∀ b o, base.get? b = some o → s.heap.get? b = some o := fun b o e => (env.bs b o e).1
  have inK : K.In s.heap := env.mod.kin.keeps up
  have nolim : s.heap.NoLimit := env.mod.nolimit.keeps up
  refine codeAny_call_function z.room.depth (inK _ _ at1) rfl S.co S.gen rfl (PySem.W.codeRec_of inK code) (bind _ _ _ _ ?_)
  refine wpAny_newFunctionEnv_cells S.kind (fun y hy => ?_) fun env1 e1 s1 inside => ?_
  · obtain ⟨n, v⟩ := y
    rcases S.par n (List.of_mem_zip hy).1 with q | q
    · exact Or.inl q
    · exact Or.inr ⟨q, PySem.W.cellsFrom_some _ _ _ (Or.inl q)⟩
  subst e1
  refine ⟨nolim.keeps inside.toInCall.keep, codeAny_func ?_⟩
  obtain ⟨t, rule, reading⟩ := body cdv A stk s H vs Q E ⟨z.room.deeper _, z.clear⟩ want
  have I1 : Inv (cxOf L2.CX0 Pg w K mg base N qual (defScope st) f cdv A stk s H E) [] (start N vs) H s1 := inv_start S z.room.hd env many rv inside
  refine wpAny_mono (rule.nox.run [] s1 (start N vs) H _ I1 reading) (fun fl s2 post => ?_) fun _ _ q => q
  cases fl with
  | brk => exact (show False from post.choose_spec.choose_spec.2).elim
  | cont => exact (show False from post.choose_spec.choose_spec.2).elim
  | next =>
    obtain ⟨σ2, H2, J, q⟩ := post
    exact ⟨V.non, H2, J.os, J.bare, J.base, J.hok, rfl, q⟩
  | ret u =>
    obtain ⟨v, σ2, H2, J, rv2, q⟩ := post
    exact ⟨v, H2, J.os, J.bare, J.base, J.hok, rv2, q⟩
end
section
variable {X : Cx} {k n : Nat} {f : Addr} {fd : FuncData} {ps kn : List Str} {sp : Sp} {x : Str} {p pos : Pos} {e : Expr} {es : List Expr} {t tk : TA} {ds : List Value} {dvs : List V} {kws : List Keyword} {g : List Value → List Value → List Value} {gV : List V → List V → List V}
theorem run_G {pins : List (Addr × Obj)} {σ : L2.St} {H : Hp} {s : Shared} {Q : VK} {ar : Args} {us : List Value} {vs : List V} (F : FnG X.prog X.w X.K X.mg X.base k f fd ps sp) (z : RoomG k X.A) (I : Inv X pins σ H s) (hb : BindsTo s fd ar (ps.zip us)) (r : Vals vs us) (h : sp vs H Q L2.E0) :
    codeAny (model X.prog X.w) X.A (.call (.ref f) ar) (fun r s' => match r with | .ok (.ret u) => EP X pins σ Q u s' | _ => False) s := by
  refine codeAny_mono (F.run X.A X.stack s H ar us vs Q L2.E0 z I.env0 hb r h) fun res s2 post => ?_
  cases res with
  | error _ => exact (show False from post).elim
  | ok fl =>
    cases fl with
    | ret u => exact I.after post
    | next => exact (show False from post).elim
    | brk => exact (show False from post).elim
    | cont => exact (show False from post).elim
theorem run_fnG {pins : List (Addr × Obj)} {σ : L2.St} {H : Hp} {s : Shared} {Q : VK} {us : List Value} {vs : List V} (F : FnG X.prog X.w X.K X.mg X.base k f fd ps sp) (z : RoomG k X.A) (hb : Binds X.K fd ps ds) (hd : Vals dvs ds)
    (I : Inv X pins σ H s) (r : Vals vs us) (h : sp (vs ++ dvs) H Q L2.E0) : wpAny (model X.prog X.w) X.A (call (.ref f) us) (EP X pins σ Q) X.xe s := by
  have r2 : Vals (vs ++ dvs) (us ++ ds) := r.append hd
  have many : (us ++ ds).length = ps.length := by rw [← r2.length, F.len _ _ _ _ h]
  refine wpAny_call (codeAny_mono (run_G F z I (hb s us I.kIn many) r2 h) fun res s2 post => ?_)
  cases res with
  | error _ => exact (show False from post).elim
  | ok fl =>
    cases fl with
    | ret u => exact post
    | next => exact (show False from post).elim
    | brk => exact (show False from post).elim
    | cont => exact (show False from post).elim
theorem pe_callG (F : FnG X.prog X.w X.K X.mg X.base k f fd ps sp) (z : RoomG k X.A) (hg : Gl X x) (hm : X.mg x = some (.ref f)) (hk : PySem.W.keepIn X.K (.ref f) = true) (hb : Binds X.K fd ps ds) (hd : Vals dvs ds)
    (ha : PA X (e :: es) t) (hdb : (x == ("__debug__" : Str)) = false := by decide) (hst : starEach (e :: es) X.env = (false, eval e X.env) :: starEach es X.env := by rfl) (hpl : (backTo pos (starEach es X.env)).any (·.1) = false := by rfl) :
    PE X (.Call (.Name x p) (e :: es) [] pos) (tCall sp dvs L2.E0 t) :=
  ⟨fun pins s σ H Q I h => wpAny_Call_Name_kw (ld_glob I hg hm (PySem.W.callWith_K (h₀ := X.base) I.ok.mod.kin hk (thn (ha.run pos pins s σ H _ I h) fun us s1 ⟨vs, H1, I1, r, q⟩ => ⟨I1.kIn, run_fnG F z hb hd I1 r q⟩) hst hpl) hdb)⟩
theorem pe_callG0 (F : FnG X.prog X.w X.K X.mg X.base k f fd ps sp) (z : RoomG k X.A) (hg : Gl X x) (hm : X.mg x = some (.ref f)) (hk : PySem.W.keepIn X.K (.ref f) = true) (hb : Binds X.K fd ps ds) (hd : Vals dvs ds)
    (hdb : (x == ("__debug__" : Str)) = false := by decide) : PE X (.Call (.Name x p) [] [] pos) (tCall sp dvs L2.E0 tNil) :=
  ⟨fun pins s σ H Q I h => wpAny_Call_Name_kw (ld_glob I hg hm (PySem.W.callWith_K0 I.kIn hk (run_fnG (us := []) F z hb hd I .nil h)) hdb)⟩
/-- f(e, .., k = v, ..) -/
theorem run_fnGN {pins : List (Addr × Obj)} {σ : L2.St} {H : Hp} {s : Shared} {Q : VK} {us ws : List Value} {vs zs : List V} (F : FnG X.prog X.w X.K X.mg X.base k f fd ps sp) (z : RoomG k X.A) (hb : KBn X.K fd ps n kn g gV)
    (I : Inv X pins σ H s) (r : Vals vs us) (r2 : Vals zs ws) (l1 : vs.length = n) (l2 : zs.length = kn.length) (h : sp (gV vs zs) H Q L2.E0) : wpAny (model X.prog X.w) X.A (call (.ref f) us (kn.zip ws)) (EP X pins σ Q) X.xe s := by
  refine wpAny_call (codeAny_mono (run_G F z I (hb.to s us ws I.kIn (r.length.symm.trans l1) (r2.length.symm.trans l2)) (hb.rel r r2) h) fun res s2 post => ?_)
  cases res with
  | error _ => exact (show False from post).elim
  | ok fl =>
    cases fl with
    | ret u => exact post
    | next => exact (show False from post).elim
    | brk => exact (show False from post).elim
    | cont => exact (show False from post).elim
theorem pe_callGN (F : FnG X.prog X.w X.K X.mg X.base k f fd ps sp) (z : RoomG k X.A) (hg : Gl X x) (hm : X.mg x = some (.ref f)) (hk : PySem.W.keepIn X.K (.ref f) = true) (hb : KBn X.K fd ps n kn g gV)
    (ha : PA X (e :: es) t) (hkw : PK X kws tk) (hall : (backToKw pos (keywordEach kws X.env)).all (·.1.isSome) = true := by rfl) (hks : (backToKw pos (keywordEach kws X.env)).filterMap (·.1) = kn := by rfl)
    (hdb : (x == ("__debug__" : Str)) = false := by decide) (hst : starEach (e :: es) X.env = (false, eval e X.env) :: starEach es X.env := by rfl)
    (hpl : ((backTo pos (starEach (e :: es) X.env)).any (·.1) || (backToKw pos (keywordEach kws X.env)).any (·.1.isNone)) = false := by rfl) :
    PE X (.Call (.Name x p) (e :: es) kws pos) (tCallN n kn.length sp gV L2.E0 t tk) := by
  refine ⟨fun pins s σ H Q I h => wpAny_Call_Name_kw (ld_glob I hg hm ?_ hdb)⟩
  refine PySem.W.callWith_KW (h₀ := X.base) I.ok.mod.kin hk hall (thn (ha.run pos pins s σ H _ I h) fun us s1 ⟨vs, H1, I1, r, q⟩ => ?_) hpl hst
  refine thn (hkw.run pos pins s1 σ H1 _ I1 q) fun ws s2 ⟨zs, H2, I2, r2, l1, l2, q2⟩ => ⟨I2.kIn, ?_⟩
  rw [hks]
  exact run_fnGN F z hb I2 r r2 l1 l2 q2
theorem pe_callGN0 (F : FnG X.prog X.w X.K X.mg X.base k f fd ps sp) (z : RoomG k X.A) (hg : Gl X x) (hm : X.mg x = some (.ref f)) (hk : PySem.W.keepIn X.K (.ref f) = true) (hb : KBn X.K fd ps 0 kn g gV)
    (hkw : PK X kws tk) (hall : (backToKw pos (keywordEach kws X.env)).all (·.1.isSome) = true := by rfl) (hks : (backToKw pos (keywordEach kws X.env)).filterMap (·.1) = kn := by rfl)
    (hdb : (x == ("__debug__" : Str)) = false := by decide) (hpl : ((backTo pos (starEach [] X.env)).any (·.1) || (backToKw pos (keywordEach kws X.env)).any (·.1.isNone)) = false := by rfl) :
    PE X (.Call (.Name x p) [] kws pos) (tCallN 0 kn.length sp gV L2.E0 tNil tk) := by
  refine ⟨fun pins s σ H Q I h => wpAny_Call_Name_kw (ld_glob I hg hm ?_ hdb)⟩
  refine PySem.W.callWith_KW0 (h₀ := X.base) I.ok.mod.kin hk hall ?_ hpl
  refine thn (hkw.run pos pins s σ H _ I h) fun ws s2 ⟨zs, H2, I2, r2, l1, l2, q2⟩ => ⟨I2.kIn, ?_⟩
  rw [hks]
  exact run_fnGN (us := []) (vs := []) F z hb I2 .nil r2 l1 l2 q2
/-- repr of data -/
def okShown (d : PyData) : Prop := d.showable = true ∧ d.hasDict = false ∧ d.depth + 1 ≤ 64 ∧ d.shown.length ≤ sizeLine
theorem call_reprD {k : Nat} (z : RoomG k X.A) : CallR X (.builtin "repr") (fun xs H Q => ∃ v d, xs = [v] ∧ Dp X.K H v d ∧ okShown d ∧ Q (.str d.shown) H) := by
  intro pins s σ H xs us Q I r h
  obtain ⟨v, d, rfl, hd, ⟨h1, h2, h3, h4⟩, q⟩ := h
  obtain ⟨u, rfl, rv⟩ := vals1 r
  obtain ⟨as, rd⟩ := Dp.reads I d v u hd rv
  have un := z.room.units
  have byRef : ∀ a, u = .ref a → wpAny (model X.prog X.w) X.A (call (.builtin "repr") [u]) (EP X pins σ Q) X.xe s := fun a e => by
    subst e
    exact repr_of_reads' rd h1 (PyData.noDict_hsm h2) z.clear (by omega) (fun _ _ e => e) (fun h' u tk keep => ⟨.str d.shown, H, I.kept keep, ⟨_, rfl⟩, q⟩) h4
  cases hd with
  | non =>
    cases rv
    exact PySem.P.repr_of_none ⟨.str _, H, I.tok _, ⟨_, rfl⟩, q⟩
  | bl b =>
    cases rv
    refine PySem.P.repr_of_bool ⟨.str (PyData.shown (.bool b)), H, I.tok _, ?_, q⟩
    cases b <;> exact ⟨_, rfl⟩
  | int i =>
    obtain ⟨t, rfl⟩ := rv
    exact PySem.P.repr_of_int (of_decide_eq_true h1) ⟨.str (PyData.shown (.int i)), H, I.tok _, ⟨_, rfl⟩, q⟩
  | str x =>
    obtain ⟨t, rfl⟩ := rv
    exact PySem.P.repr_of_str ⟨.str (PyData.shown (.str x)), H, I.tok _, ⟨_, rfl⟩, q⟩ h4
  | lst _ _ =>
    cases rv
    exact byRef _ rfl
  | tup _ _ =>
    cases rv
    exact byRef _ rfl
end
/-! ### the law's call -/
theorem law_callG {Pg : Program} {w : World} {K : PySem.W.Frag} {mg mb : Str → Option Value} {k : Nat} {fa a : Addr} {fd : FuncData} {x : Str} {sp : Sp} {s : Shared} {its : List Value} {ns : List Int}
    (inK : K.In s.heap) (glo : s.heap.Ns mainGlobals mg) (blt : s.heap.Ns builtinsNs mb) (boot : ∀ y : Str, y ≠ "__name__" → mb y = bootBuiltins y) (lim : s.heap.NoLimit) (gens : s.gens = #[])
    (obj : s.heap.get? a = some { cls := .type "list", data := .seq its.toArray }) (nums : IntsAre its ns) (short : ns.length ≤ sizeLine) (room : RoomG k callerA)
    (F : ∀ base : Heap, K.In base → base.Ns mainGlobals mg → FnG Pg w K mg base k fa fd [x] sp) (bind : ∀ (s : Shared) (u : Value), BindsTo s fd ⟨[u], []⟩ [(x, u)])
    (want : ∀ H : Hp, SqL K H a (ns.map V.int) → sp [.ref a] H (fun v _ => v = .bl true) L2.E0) :
    codeAny (model Pg w) callerA (.call (.ref fa) ⟨[.ref a], []⟩) (fun r s' => r = .ok (.ret (.bool true)) ∧ OldK s.heap s'.heap ∧ s'.os = s.os ∧ AllBare s'.gens) s := by
  have rv := vals_ints nums
  have many := nums.length
  -- one tracked heap H: nothing in it, or the script alone and frozen
  suffices go : ∀ H : Hp, SqL K H a (ns.map V.int) → HOk Pg w H s.heap → (∀ b u, H b = some u → b = a ∧ K.lookup a = none ∧ ∃ o ys, u = .frz o (.lst ys)) →
      codeAny (model Pg w) callerA (.call (.ref fa) ⟨[.ref a], []⟩) (fun r s' => r = .ok (.ret (.bool true)) ∧ OldK s.heap s'.heap ∧ s'.os = s.os ∧ AllBare s'.gens) s by
    cases own : K.lookup a with
    | some o =>
      have e := inK a o own
      rw [obj] at e
      cases e
      exact go (fun _ => none) (.inr ⟨_, its.toArray, _, own, rfl, rfl, rfl, by rw [List.size_toArray, many]; exact short, by simpa using rv⟩) (fun b u z => nomatch (show (none : Option HO) = some u from z)) (fun b u z => nomatch (show (none : Option HO) = some u from z))
    | none =>
      refine go (fun b => if b = a then some (.frz { cls := .type "list", data := .seq its.toArray } (.lst (ns.map V.int))) else none) (.inl (.inr ⟨_, if_pos rfl⟩)) (fun b u z => ?_) (fun b u z => ?_)
      · by_cases same : b = a
        · cases (if_pos same).symm.trans z
          subst same
          exact ⟨obj, by rw [List.length_map]; exact short, its, _, rv, obj⟩
        · cases (if_neg same).symm.trans z
      · by_cases same : b = a
        · cases (if_pos same).symm.trans z
          exact ⟨same, own, _, _, rfl⟩
        · cases (if_neg same).symm.trans z
  intro H sq ok only
  have out : ∀ {b : Addr} {o : Obj}, s.heap.get? b = some o → H b = none → (hidT s.heap H).get? b = some o := fun e n => hidT_get e n
  have spaces : ∀ {b : Addr} {m : Str → Option Value}, s.heap.Ns b m → (hidT s.heap H).Ns b m := fun {b m} ⟨o, es, ep, e, d, more⟩ => by
    refine ⟨o, es, ep, out e ?_, d, more⟩
    cases hb : H b with
    | none => rfl
    | some u =>
      obtain ⟨same, _⟩ := only b u hb
      subst same
      rw [obj] at e
      cases e
      cases (show Data.seq its.toArray _ = Data.dict es ep from d)
  have inB : K.In (hidT s.heap H) := fun b o e => out (inK b o e) (by
    cases hb : H b with
    | none => rfl
    | some u =>
      obtain ⟨same, no, _⟩ := only b u hb
      subst same
      rw [no] at e
      cases e)
  have modl : Mod K mg (hidT s.heap H) := ⟨inB, spaces glo, ⟨mb, spaces blt, boot⟩, let ⟨mc, h1, h2⟩ := lim; ⟨mc, spaces h1, h2⟩⟩
  have env : Env0 Pg w K mg (hidT s.heap H) callerA [] s H := ⟨rfl, modl, fun b o e => of_hidT e, Nat.le_of_eq (hidT_size _ _), trivial, fun b hb => (nomatch (show b ∈ ([] : List Addr) from hb)), ok, .of_eq gens⟩
  refine codeAny_mono ((F _ inB (spaces glo)).run callerA [] s H ⟨[.ref a], []⟩ [.ref a] [.ref a] _ _ room env (bind s (.ref a)) (.cons rfl .nil) (want H sq)) fun res s2 post => ?_
  cases res with
  | error _ => exact (show False from post).elim
  | ok fl =>
    cases fl with
    | next => exact (show False from post).elim
    | brk => exact (show False from post).elim
    | cont => exact (show False from post).elim
    | ret u =>
      obtain ⟨v, H2, os, bare, un, ok2, r2, q⟩ := post
      obtain rfl : v = V.bl true := q
      obtain rfl : u = Value.bool true := r2
      refine ⟨rfl, OldK.of_keep fun b o e => ?_, os, bare⟩
      cases hb : H b with
      | none => exact un.keep b o e hb (fun z => nomatch (show b ∈ ([] : List Addr) from z)) (by simp)
      | some u =>
        obtain ⟨_, _, o1, ys, rfl⟩ := only b u hb
        obtain ⟨e1, _⟩ := ok b _ hb
        obtain ⟨e2, _⟩ := ok2 b _ (un.frzs b o1 _ hb)
        rw [e] at e1
        cases e1
        exact e2
theorem walk_ofG {l : PySem.W.OpenLaw} {n k : Nat} {q : Program} {loose : List Str} {XP : (Str → Option Value) → Heap → Prop} {YP : World → Heap → Prop} {d : DefRec} {K : Params → PySem.W.Frag} {sp : PySem.W.Frag → Sp} {x : Str}
    (hn : l.most = some n) (hn2 : n ≤ sizeLine) (hdf : d.params.defaults = []) (room : RoomG k callerA)
    (hY : ∀ (w : World) (h : Heap), YP w h → (K w.params).In h)
    (F : ∀ (w : World) (mg : Str → Option Value) (fa : Addr) (h : Heap), (K w.params).In h → h.Ns mainGlobals mg → mg d.name = some (.ref fa) →
      ∃ fd : FuncData, (∀ (s : Shared) (u : Value), BindsTo s fd ⟨[u], []⟩ [(x, u)]) ∧ ∀ base : Heap, (K w.params).In base → base.Ns mainGlobals mg → FnG l.prog w (K w.params) mg base k fa fd [x] (sp (K w.params)))
    (want : ∀ (K : PySem.W.Frag) (H : Hp) (a : Addr) (ns : List Int), ns.length ≤ n → SqL K H a (ns.map V.int) → sp K [.ref a] H (fun v _ => v = .bl true) L2.E0) :
    PySem.W.WalkO q loose XP YP l.row.toRowW d [] (fun f vs => PySem.call f vs) := by
  refine Att.attach_call hn hdf fun w s₀ s₁ mg mb fa o pm cd doc a vs ns G Y ho hd hcd hmg hobj hints hlen hg => ?_
  have inK := hY w _ Y
  obtain ⟨fd, hb, hF⟩ := F w mg fa _ inK G.T.g hmg
  exact law_callG inK G.T.g G.T.b G.T.builtins G.T.nolimit hg hobj hints (Nat.le_trans hlen hn2) room hF hb fun H sq => want _ H a ns hlen sq
end DL
/-! DL: repr, texts compared. -/
namespace DL
open PySem PySem.Spec PyProof.Rows L2
variable {P : TokP} {K : PySem.W.Frag} {ks ks' ks1 ks2 kb : List Kd} {r : Rk} {ta tb te : TE}
theorem ae_repr {wa : TupT ks → (PyData → Prop) → Prop} (ha : AE P ks (rF K PyData) ca ta wa) : AE P ks (rF K Str) ca (tCB (fun xs H Q => ∃ v d, xs = [v] ∧ Dp K H v d ∧ okShown d ∧ Q (.str d.shown) H) (tCons ta tNil)) (fun γ Q => wa γ fun d => okShown d ∧ Q d.shown) :=
  AE.cb1 (r := rF K Str) (k := vF K PyData) (f := fun d Q => okShown d ∧ Q d.shown) ha (fun _ _ _ q z => ⟨z.1, q _ z.2⟩) fun A b0 g H x d Q G rx z => ⟨x, d, rfl, Dp.mono' fz_sub _ _ rx, z.1, z.2 _ g H (G.up (by omega)) (Ext.refl g H) rfl⟩
section
variable {wa wb : TupT ks → (Str → Prop) → Prop}
theorem ae_eqS (ha : AE P ks (rF K Str) ca ta wa) (hb : AE P ks (rF K Str) cb tb wb) : AE P ks (rF K Bool) (ca + cb) (tOp rEq ta tb) (w2 (fun i j => decide (i = j)) wa wb) :=
  AE.op2 (r := rF K Bool) (k1 := vF K Str) (k2 := vF K Str) (f := fun a b Q => Q (decide (a = b))) ha hb (fun _ _ _ _ q z => q _ z) fun A b0 g H x y a b Q G rx ry z => by
    have rx : x = .str a := rx
    have ry : y = .str b := ry
    subst rx ry
    refine ⟨rfl, z _ g H (G.up (by omega)) (Ext.refl g H) ?_⟩
    show V.bl _ = V.bl _
    simp
theorem ae_neS (ha : AE P ks (rF K Str) ca ta wa) (hb : AE P ks (rF K Str) cb tb wb) : AE P ks (rF K Bool) (ca + cb) (tOp rNe ta tb) (w2 (fun i j => !decide (i = j)) wa wb) :=
  AE.op2 (r := rF K Bool) (k1 := vF K Str) (k2 := vF K Str) (f := fun a b Q => Q (!decide (a = b))) ha hb (fun _ _ _ _ q z => q _ z) fun A b0 g H x y a b Q G rx ry z => by
    have rx : x = .str a := rx
    have ry : y = .str b := ry
    subst rx ry
    refine ⟨rfl, z _ g H (G.up (by omega)) (Ext.refl g H) ?_⟩
    show V.bl _ = V.bl _
    simp
end
/-! ### the greatest, the least of three -/
section
variable {wa wb wc : TupT ks → (Int → Prop) → Prop}
theorem AE.cb3 {rr : List V → Hp → VK → Prop} {f : Int → Int → Int → Int} (ha : AE P ks (rF K Int) ca ta wa) (hb : AE P ks (rF K Int) cb tb wb) (hc : AE P ks (rF K Int) cc te wc)
    (h : ∀ (i j k : Int) (H : Hp) (Q : VK), Q (.int (f i j k)) H → rr [.int i, .int j, .int k] H Q) :
    AE P ks (rF K Int) (ca + cb + cc) (tCB rr (tCons ta (tCons tb (tCons te tNil)))) (fun γ Q => wa γ fun i => wb γ fun j => wc γ fun k => Q (f i j k)) := by
  refine ⟨fun γ Q Q' q z => ha.mono γ _ _ (fun a za => hb.mono γ _ _ (fun b zb => hc.mono γ _ _ (fun c zc => q _ zc) zb) za) z, fun A b0 γ σ g H Q hb0 G R hw => ?_⟩
  refine ha.run A b0 γ σ g H _ (by omega) G R (ha.mono γ _ _ (fun i zi x g1 H1 G1 e1 r1 => ?_) hw)
  refine hb.run A _ γ σ g1 H1 _ (by omega) G1 (R.ext G e1) (hb.mono γ _ _ (fun j zj y g2 H2 G2 e2 r2 => ?_) zi)
  refine hc.run A _ γ σ g2 H2 _ (by omega) G2 ((R.ext G e1).ext G1 e2) (hc.mono γ _ _ (fun k zk v g3 H3 G3 e3 r3 => ?_) zj)
  have r1 : x = .int i := r1
  have r2 : y = .int j := r2
  have r3 : v = .int k := r3
  subst r1 r2 r3
  exact h i j k H3 Q (zk _ g3 H3 (G3.up (by omega)) ((e1.trans G1 e2).trans G2 e3) rfl)
def imax3 (i j k : Int) : Int := if (if i < j then j else i) < k then k else if i < j then j else i
def imin3 (i j k : Int) : Int := if k < (if j < i then j else i) then k else if j < i then j else i
theorem ae_max3 (ha : AE P ks (rF K Int) ca ta wa) (hb : AE P ks (rF K Int) cb tb wb) (hc : AE P ks (rF K Int) cc te wc) : AE P ks (rF K Int) (ca + cb + cc) (tCB (rNuC3 nuMax3) (tCons ta (tCons tb (tCons te tNil)))) (fun γ Q => wa γ fun i => wb γ fun j => wc γ fun k => Q (imax3 i j k)) :=
  AE.cb3 ha hb hc fun i j k H Q q => ⟨_, _, _, _, rfl, by
    unfold imax3
    show (nuMax2 (.int i) (.int j)).bind _ = _
    have e : ∀ a b : Int, nuMax2 (.int a) (.int b) = some (.int (if a < b then b else a)) := fun a b => by
      show some (if decide (a < b) = true then V.int b else V.int a) = _
      by_cases h : a < b
      · rw [if_pos h, if_pos (decide_eq_true h)]
      · rw [if_neg h, if_neg (by rw [decide_eq_true_eq]; exact h)]
    rw [e]
    exact e _ _, q⟩
theorem ae_min3 (ha : AE P ks (rF K Int) ca ta wa) (hb : AE P ks (rF K Int) cb tb wb) (hc : AE P ks (rF K Int) cc te wc) : AE P ks (rF K Int) (ca + cb + cc) (tCB (rNuC3 nuMin3) (tCons ta (tCons tb (tCons te tNil)))) (fun γ Q => wa γ fun i => wb γ fun j => wc γ fun k => Q (imin3 i j k)) :=
  AE.cb3 ha hb hc fun i j k H Q q => ⟨_, _, _, _, rfl, by
    unfold imin3
    show (nuMin2 (.int i) (.int j)).bind _ = _
    have e : ∀ a b : Int, nuMin2 (.int a) (.int b) = some (.int (if b < a then b else a)) := fun a b => by
      show some (if decide (b < a) = true then V.int b else V.int a) = _
      by_cases h : b < a
      · rw [if_pos h, if_pos (decide_eq_true h)]
      · rw [if_neg h, if_neg (by rw [decide_eq_true_eq]; exact h)]
    rw [e]
    exact e _ _, q⟩
end
/-! ### how long a text of data is -/
structure Shn (n w : Nat) (d : PyData) : Prop where
  dp : d.depth ≤ n
  wt : d.weight ≤ w
  sh : d.leavesShort 8 = true
  sb : d.showable = true
  nd : d.hasDict = false
theorem Shn.ok {n w : Nat} {d : PyData} (h : Shn n w d) (hn : n ≤ 60) (hw : w ≤ 1600000) : okShown d := by
  refine ⟨h.sb, h.nd, by have := h.dp; omega, ?_⟩
  have := PyData.shown_le 8 (by decide) d h.sh
  have := h.wt
  rw [sizeLine_eq]
  omega
theorem Shn.mono {n n' w w' : Nat} {d : PyData} (h : Shn n w d) (hn : n ≤ n') (hw : w ≤ w') : Shn n' w' d := ⟨Nat.le_trans h.dp hn, Nat.le_trans h.wt hw, h.sh, h.sb, h.nd⟩
theorem shn_none : Shn 0 0 .none := ⟨Nat.le_refl _, Nat.le_refl _, rfl, rfl, rfl⟩
theorem shn_bool (b : Bool) : Shn 0 0 (.bool b) := ⟨Nat.le_refl _, Nat.le_refl _, rfl, rfl, rfl⟩
theorem all_depth : ∀ {xs : List PyData} {n : Nat}, (∀ x ∈ xs, x.depth ≤ n) → PyData.depthAll xs ≤ n
  | [], _, _ => Nat.zero_le _
  | x :: xs, n, h => by
    show max x.depth (PyData.depthAll xs) ≤ n
    have h1 := h x List.mem_cons_self
    have h2 := all_depth (xs := xs) fun y hy => h y (List.mem_cons_of_mem _ hy)
    omega
theorem all_weight : ∀ {xs : List PyData} {w : Nat}, (∀ x ∈ xs, x.weight ≤ w) → PyData.weightAll xs ≤ xs.length * (w + 1)
  | [], _, _ => Nat.zero_le _
  | x :: xs, w, h => by
    show x.weight + 1 + PyData.weightAll xs ≤ (xs.length + 1) * (w + 1)
    have h1 := h x List.mem_cons_self
    have h2 := all_weight (xs := xs) fun y hy => h y (List.mem_cons_of_mem _ hy)
    rw [Nat.add_mul]
    omega
theorem all_short : ∀ {xs : List PyData}, (∀ x ∈ xs, x.leavesShort 8 = true) → PyData.leavesShortAll 8 xs = true
  | [], _ => rfl
  | x :: xs, h => by
    show (x.leavesShort 8 && PyData.leavesShortAll 8 xs) = true
    rw [h x List.mem_cons_self, all_short fun y hy => h y (List.mem_cons_of_mem _ hy)]
    rfl
theorem all_showable : ∀ {xs : List PyData}, (∀ x ∈ xs, x.showable = true) → PyData.showableAll xs = true
  | [], _ => rfl
  | x :: xs, h => by
    show (x.showable && PyData.showableAll xs) = true
    rw [h x List.mem_cons_self, all_showable fun y hy => h y (List.mem_cons_of_mem _ hy)]
    rfl
theorem all_nodict : ∀ {xs : List PyData}, (∀ x ∈ xs, x.hasDict = false) → PyData.hasDictAll xs = false
  | [], _ => rfl
  | x :: xs, h => by
    show (x.hasDict || PyData.hasDictAll xs) = false
    rw [h x List.mem_cons_self, all_nodict fun y hy => h y (List.mem_cons_of_mem _ hy)]
    rfl
theorem shn_lst {n w : Nat} {xs : List PyData} (h : ∀ x ∈ xs, Shn n w x) : Shn (n + 1) (xs.length * (w + 1)) (.list xs) :=
  ⟨Nat.succ_le_succ (all_depth fun x hx => (h x hx).dp), all_weight fun x hx => (h x hx).wt, all_short fun x hx => (h x hx).sh, all_showable fun x hx => (h x hx).sb, all_nodict fun x hx => (h x hx).nd⟩
theorem shn_tup {n w : Nat} {xs : List PyData} (h : ∀ x ∈ xs, Shn n w x) : Shn (n + 1) (xs.length * (w + 1)) (.tuple xs) :=
  ⟨Nat.succ_le_succ (all_depth fun x hx => (h x hx).dp), all_weight fun x hx => (h x hx).wt, all_short fun x hx => (h x hx).sh, all_showable fun x hx => (h x hx).sb, all_nodict fun x hx => (h x hx).nd⟩
theorem shn_map {α : Type} {n w : Nat} {f : α → PyData} {xs : List α} (h : ∀ x ∈ xs, Shn n w (f x)) : Shn (n + 1) (xs.length * (w + 1)) (.list (xs.map f)) := by
  have := shn_lst (xs := xs.map f) (n := n) (w := w) fun x hx => by
    obtain ⟨y, hy, rfl⟩ := List.mem_map.mp hx
    exact h y hy
  rwa [List.length_map] at this
theorem shn_lst2 {n w : Nat} {a b : PyData} (h : Shn n w a) (k : Shn n w b) : Shn (n + 1) (2 * (w + 1)) (.list [a, b]) := shn_lst (xs := [a, b]) fun x hx => by
  simp only [List.mem_cons, List.not_mem_nil, or_false] at hx
  rcases hx with rfl | rfl
  · exact h
  · exact k
theorem shn_lst3 {n w : Nat} {a b c : PyData} (h : Shn n w a) (k : Shn n w b) (l : Shn n w c) : Shn (n + 1) (3 * (w + 1)) (.list [a, b, c]) := shn_lst (xs := [a, b, c]) fun x hx => by
  simp only [List.mem_cons, List.not_mem_nil, or_false] at hx
  rcases hx with rfl | rfl | rfl
  · exact h
  · exact k
  · exact l
theorem shn_tup2 {n w : Nat} {a b : PyData} (h : Shn n w a) (k : Shn n w b) : Shn (n + 1) (2 * (w + 1)) (.tuple [a, b]) := shn_tup (xs := [a, b]) fun x hx => by
  simp only [List.mem_cons, List.not_mem_nil, or_false] at hx
  rcases hx with rfl | rfl
  · exact h
  · exact k
theorem shn_int {i : Int} (h : -10000000 < i) (h2 : i < 10000000) : Shn 0 24 (.int i) := by
  have hb : i.natAbs < 10000000 := by omega
  have hlog : i.natAbs.log2 ≤ 23 := by
    rcases Nat.eq_zero_or_pos i.natAbs with z | z
    · rw [z]; decide
    · have := (Nat.log2_lt (n := i.natAbs) (k := 24) (by omega)).mpr (by omega)
      omega
  refine ⟨Nat.le_refl _, ?_, ?_, ?_, rfl⟩
  · show (if i == 0 then 0 else i.natAbs.log2 + 1) ≤ 24
    split
    · omega
    · omega
  · have e := int_text_length_le10 (a := i) (k := 7) (by decide) hb
    refine decide_eq_true ?_
    show (Str.ofString (toString i)).length ≤ 8
    rw [PySem.ofString_length]
    exact e
  · exact decide_eq_true (by omega)
end DL
/-! DL: plain laws of lists. -/
namespace DL
open PySem PySem.Spec PyProof.Rows L2
theorem bits_of {i : Int} {n : Nat} (h0 : 0 ≤ i) (h : i < 2 ^ n) (hn : 0 < n) : Builtin.Int.intBits i ≤ n := by
  unfold Builtin.Int.intBits
  split
  · exact Nat.zero_le _
  · have e : i.natAbs < 2 ^ n := by
      have h2 : ((i.natAbs : Nat) : Int) < ((2 ^ n : Nat) : Int) := by
        rw [Int.natAbs_of_nonneg h0]
        push_cast
        exact h
      exact Int.ofNat_lt.mp h2
    have := PySem.Flt.log2_lt_of hn e
    omega
theorem enumI_len {α : Type} (xs : List α) : (enumI xs).length = xs.length := by
  unfold enumI
  rw [List.length_zip, rangeI_len, Nat.min_self]
theorem enumI_get {α : Type} {xs : List α} {i : Nat} {x : Int × α} (h : (enumI xs)[i]? = some x) : x.1 = i ∧ xs[i]? = some x.2 ∧ i < xs.length := by
  have hl : i < xs.length := by
    have := (List.getElem?_eq_some_iff.mp h).1
    rwa [enumI_len] at this
  unfold enumI at h
  rw [List.getElem?_zip_eq_some] at h
  obtain ⟨h1, h2⟩ := h
  have := (rangeI_get h1).1
  exact ⟨by omega, h2, hl⟩
theorem imax_l (a b : Int) : a ≤ imax a b := by unfold imax; split <;> omega
theorem imax_r (a b : Int) : b ≤ imax a b := by unfold imax; split <;> omega
theorem imax_or (a b : Int) : imax a b = a ∨ imax a b = b := by unfold imax; split <;> omega
theorem imin_l (a b : Int) : imin a b ≤ a := by unfold imin; split <;> omega
theorem imin_r (a b : Int) : imin a b ≤ b := by unfold imin; split <;> omega
theorem imin_or (a b : Int) : imin a b = a ∨ imin a b = b := by unfold imin; split <;> omega
theorem imax3_1 (a b c : Int) : a ≤ imax3 a b c := by unfold imax3; split <;> (try split) <;> (try split at *) <;> omega
theorem imax3_2 (a b c : Int) : b ≤ imax3 a b c := by unfold imax3; split <;> (try split) <;> (try split at *) <;> omega
theorem imax3_3 (a b c : Int) : c ≤ imax3 a b c := by unfold imax3; split <;> (try split) <;> (try split at *) <;> omega
theorem imax3_or (a b c : Int) : imax3 a b c = a ∨ imax3 a b c = b ∨ imax3 a b c = c := by unfold imax3; split <;> (try split) <;> (try split at *) <;> omega
end DL
/-! DL: owned lists of owned lists. -/
namespace DL
open PySem PySem.Spec PyProof.Rows L2
variable {P : TokP} {K : PySem.W.Frag} {ks ks' ks1 ks2 kb : List Kd} {r : Rk} {ta tb te : TE}
def Nst (K : PySem.W.Frag) (α : Type) [Rp K α] (t : Tg) (bs : List Addr) (x : List (List α)) (g : Gh) (H : Hp) : Prop :=
  Paired (fun b xs => g b = t ∧ ∃ vs, H b = some (.lst vs) ∧ Paired (Rp.rp K (Fz g H)) vs xs ∧ xs.length ≤ 9223372036854775808) bs x
section
variable {α : Type} [Rp K α] {t : Tg} {bs : List Addr} {x : List (List α)} {g g' : Gh} {H H' : Hp}
theorem Nst.st (h : Nst K α t bs x g H) (l : Le g H g' H') (k : ∀ b ∈ bs, ∀ o, g b = t → H b = some o → g' b = t ∧ H' b = some o) : Nst K α t bs x g' H' := by
  unfold Nst at h ⊢
  induction h with
  | nil => exact .nil
  | cons q _ ih =>
    obtain ⟨q1, vs, q2, q3, q4⟩ := q
    obtain ⟨k1, k2⟩ := k _ List.mem_cons_self _ q1 q2
    exact .cons ⟨k1, vs, k2, Paired.rp_mono l.fz q3, q4⟩ (ih fun b hb => k b (List.mem_cons_of_mem _ hb))
theorem Nst.mem (h : Nst K α t bs x g H) : ∀ b ∈ bs, g b = t ∧ ∃ vs, H b = some (.lst vs) := by
  unfold Nst at h
  induction h with
  | nil => exact fun _ z => nomatch z
  | cons q _ ih =>
    intro b hb
    rcases List.mem_cons.mp hb with rfl | hb
    · exact ⟨q.1, q.2.choose, q.2.choose_spec.1⟩
    · exact ih b hb
theorem Nst.len (h : Nst K α t bs x g H) : bs.length = x.length := Paired.len h
theorem Nst.tag {t' : Tg} (h : Nst K α t bs x g H) (l : Le g H g' H) (k : ∀ b ∈ bs, g' b = t') : Nst K α t' bs x g' H := by
  unfold Nst at h ⊢
  induction h with
  | nil => exact .nil
  | cons q _ ih =>
    obtain ⟨q1, vs, q2, q3, q4⟩ := q
    exact .cons ⟨k _ List.mem_cons_self, vs, q2, Paired.rp_mono l.fz q3, q4⟩ (ih fun b hb => k b (List.mem_cons_of_mem _ hb))
end
/-- many tags at once -/
def tagAll (g : Gh) (bs : List Addr) (t : Tg) : Gh := fun a => if a ∈ bs then t else g a
theorem tagAll_in {g : Gh} {bs : List Addr} {t : Tg} {a : Addr} (h : a ∈ bs) : tagAll g bs t a = t := if_pos h
theorem tagAll_out {g : Gh} {bs : List Addr} {t : Tg} {a : Addr} (h : a ∉ bs) : tagAll g bs t a = g a := if_neg h
theorem Good.retagAll {A : Act} {b0 : Nat} {g : Gh} {H : Hp} (G : Good P A b0 g H) {bs : List Addr} {t : Tg} (h0 : ∀ b ∈ bs, A.H0 b = none ∧ ∃ o, H b = some o) (ht : t ≠ .tok) : Good P A b0 (tagAll g bs t) H := by
  refine ⟨fun a o ha => ?_, fun a ha => ?_, fun a ha => ?_⟩
  · have out : a ∉ bs := fun z => by
      rw [(h0 a z).1] at ha
      cases ha
    rw [tagAll_out out]
    exact G.ext a o ha
  · by_cases z : a ∈ bs
    · rw [tagAll_in z] at ha
      exact absurd ha ht
    · rw [tagAll_out z] at ha
      exact G.tok a ha
  · have out : a ∉ bs := fun z => by
      obtain ⟨_, o, ho⟩ := h0 a z
      rw [ha] at ho
      cases ho
    rw [tagAll_out out]
    exact G.non a ha
theorem le_tagAll {g : Gh} {H : Hp} {bs : List Addr} {t : Tg} (h : ∀ b ∈ bs, g b ≠ .frz ∧ g b ≠ .tok) : Le g H (tagAll g bs t) H := by
  refine le_mg (fun a ha => ?_) fun a ha => ?_
  · rw [tagAll_out fun z => (h a z).1 ha]
    exact ha
  · rw [tagAll_out fun z => (h a z).2 ha]
    exact ha
@[reducible] def rN (K : PySem.W.Frag) (α : Type) [Rp K α] : Rk := ⟨List (List α), fun Hs v x g H => ∃ (p : Addr) (bs : List Addr), v = .ref p ∧ Hs p = none ∧ g p = .oth ∧ H p = some (.lst (bs.map V.ref)) ∧ p ∉ bs ∧ bs.Nodup ∧ (∀ b ∈ bs, Hs b = none) ∧ Nst K α .oth bs x g H ∧ x.length ≤ 9223372036854775808,
  fun h ⟨p, bs, e, h1, h2, h3, h4, h5, h6, h7⟩ => ⟨p, bs, e, h p h1, h2, h3, h4, h5, fun b hb => h b (h6 b hb), h7⟩,
  fun h1 h2 h3 ⟨p, bs, e, q1, q2, q3, q4, q5, q6, q7, q8⟩ => ⟨p, bs, e, q1, h3 p q1 q2, q3, q4, q5, q6, q7.st (le_mg h1 h2) (fun b hb o z1 z2 => ⟨h3 b (q6 b hb) z1, z2⟩), q8⟩⟩
@[reducible] def kN (K : PySem.W.Frag) (α : Type) [Rp K α] : Kd := ⟨List (List α), fun i y x g H => ∃ (p : Addr) (bs : List Addr), y = some (.ref p) ∧ g p = .own i ∧ H p = some (.lst (bs.map V.ref)) ∧ p ∉ bs ∧ bs.Nodup ∧ Nst K α (.own i) bs x g H ∧ x.length ≤ 9223372036854775808,
  fun l o ⟨p, bs, e, h1, h2, h3, h4, h5, h6⟩ => ⟨p, bs, e, (o p _ h1 h2).1, (o p _ h1 h2).2, h3, h4, h5.st l (fun b _ u z1 z2 => o b u z1 z2), h6⟩⟩
/-- [[..] for ..]: new lists in a new list -/
theorem ae_lcN {α β : Type} [Rp K α] [Rp K β] {wi : TI} {gt : TG} {tt : TT} {el : TE} {vs : List Nat} {ksw ksx : List Kd} {w : TupT ks → (List α → Prop) → Prop} {put : TupT ksw → α → TupT ksx} {sl : List Nat} {wt : TupT ksx → (Bool → Prop) → Prop} {we : TupT ksx → (List β → Prop) → Prop}
    (hi : AI P K ks α ci wi w) (k : Wp ks vs ksw) (hg : AG K ksw α ksx gt put sl) (hsl : ∀ i ∈ sl, i ∈ vs) (ht : AT P ksx ct tt wt) (he : AE P ksx (rO K β) ce el we) :
    AE P ks (rN K β) (ci + 9223372036854775808 * (ct + ce)) (tLc wi gt tt el vs) (fun γ Q => w γ fun xs => xs.length ≤ sizeLine ∧ wLcL (fun x => wt (put (k.to γ) x)) (fun x => we (put (k.to γ) x)) Q xs []) := by
  have fm : ∀ γ (Q Q' : List (List β) → Prop), (∀ x, Q x → Q' x) → ∀ (xs : List α) acc, wLcL (fun x => wt (put (k.to γ) x)) (fun x => we (put (k.to γ) x)) Q xs acc → wLcL (fun x => wt (put (k.to γ) x)) (fun x => we (put (k.to γ) x)) Q' xs acc := by
    intro γ Q Q' i xs
    induction xs with
    | nil => exact fun acc z => i _ z
    | cons x xs ih =>
      refine fun acc z => ht.mono _ _ _ (fun b zb => ?_) z
      cases b with
      | true => exact he.mono _ _ _ (fun y zy => ih _ zy) zb
      | false => exact ih _ zb
  refine ⟨fun γ Q Q' i z => hi.mono γ _ _ (fun xs zx => ⟨zx.1, fm γ Q Q' i xs _ zx.2⟩) z, fun A b0 γ σ g H Q hb0 G R hw => ?_⟩
  refine hi.run A b0 γ σ g H _ (by omega) G R (hi.mono γ _ _ (fun xs zx J g1 H1 G1 e1 it D hD => ?_) hw)
  obtain ⟨hxs, zx⟩ := zx
  generalize hT : b0 + (ci + 9223372036854775808 * (ct + ce)) = T at zx
  have step : ∀ i, i < xs.length → b0 + ci + i * (ct + ce) + (ct + ce) ≤ T ∧ b0 + ci + i * (ct + ce) + (ct + ce) = b0 + ci + (i + 1) * (ct + ce) := fun i hi => by
    have hm : (i + 1) * (ct + ce) ≤ 9223372036854775808 * (ct + ce) := Nat.mul_le_mul_right (ct + ce) (by have := it.len; omega)
    rw [Nat.succ_mul] at hm ⊢
    omega
  have hD0 : H D = none := e1.keeps G1 hD
  have hA0 : A.H0 D = none := G.ext.keeps G hD0
  have Rw1 : RelL ksw 0 (k.to γ) (wipe σ vs) g1 H1 := k.ok (R.ext G e1)
  obtain ⟨GD, eD⟩ := G1.new0 (o := .lst []) hD
  have zx : wLcL (fun x => wt (put (k.to γ) x)) (fun x => we (put (k.to γ) x)) (fun ys => ∀ v g' H', Good P A T g' H' → Ext g H g' H' → (rN K β).rel H v ys g' H' → Q v H') xs [] := zx
  refine ⟨fun i m H' => ∃ (g' : Gh) (acc : List (List β)) (bs : List Addr), m = xs.length - i ∧ i ≤ xs.length ∧ Good P A (b0 + ci + i * (ct + ce)) g' H' ∧ Ext g1 H1 g' H' ∧ g' D = .oth ∧ H' D = some (.lst (bs.map V.ref)) ∧ (D ∉ bs ∧ bs.Nodup ∧ ∀ b ∈ bs, H1 b = none) ∧ Nst K β .oth bs acc g' H' ∧ bs.length ≤ i ∧
    wLcL (fun x => wt (put (k.to γ) x)) (fun x => we (put (k.to γ) x)) (fun ys => ∀ v g' H', Good P A T g' H' → Ext g H g' H' → (rN K β).rel H v ys g' H' → Q v H') (xs.drop i) acc,
    ⟨xs.length, g1, [], [], rfl, Nat.zero_le _, GD.up (by omega), eD, G1.non D hD, upd_same, ⟨(fun z => nomatch z), .nil, fun _ z => nomatch z⟩, .nil, Nat.le_refl _, zx⟩, ?_⟩
  rintro i m H' ⟨g', acc, bs, rfl, hle, G', e', hgD, hHD, ⟨nD, nd, fresh⟩, pr, hus, z⟩
  have e0 : Ext g H g' H' := e1.trans G1 e'
  by_cases hlt : i < xs.length
  · right
    obtain ⟨st1, st2⟩ := step i hlt
    refine ⟨it.go A _ g' H' i G' (e'.le G1) hlt, fun H2 => ∃ (g2 : Gh) (acc : List (List β)) (bs : List Addr), Good P A (b0 + ci + (i + 1) * (ct + ce)) g2 H2 ∧ Ext g1 H1 g2 H2 ∧ g2 D = .oth ∧ H2 D = some (.lst (bs.map V.ref)) ∧ (D ∉ bs ∧ bs.Nodup ∧ ∀ b ∈ bs, H1 b = none) ∧ Nst K β .oth bs acc g2 H2 ∧ bs.length ≤ i + 1 ∧
      wLcL (fun x => wt (put (k.to γ) x)) (fun x => we (put (k.to γ) x)) (fun ys => ∀ v g' H', Good P A T g' H' → Ext g H g' H' → (rN K β).rel H v ys g' H' → Q v H') (xs.drop (i + 1)) acc,
      fun H2 ⟨g2, acc2, us2, a1, a2, a3, a4, a5, a6, a7, a8⟩ => ⟨xs.length - (i + 1), by omega, g2, acc2, us2, rfl, hlt, a1, a2, a3, a4, a5, a6, a7, a8⟩, fun x H2 hy => ?_⟩
    have ei : xs[i]? = some xs[i] := List.getElem?_eq_getElem hlt
    obtain ⟨G2, e2, rx⟩ := it.yld A _ g' H' i x H2 G' (e'.le G1) hy _ ei
    have e12 : Ext g1 H1 g' H2 := e'.trans G' e2
    have R2 : RelL ksw 0 (k.to γ) (wipe σ vs) g' H2 := Rw1.ext G1 e12
    refine hg.run x xs[i] _ _ g' H2 _ R2 rx fun σ3 R3 w3 => ⟨(w3 vs hsl).trans (by rw [wipe_wipe vs vs fun _ h => h]), ?_⟩
    rw [List.drop_eq_getElem_cons hlt] at z
    have z' : wt (put (k.to γ) xs[i]) fun b => if b = true then we (put (k.to γ) xs[i]) fun y => wLcL (fun x => wt (put (k.to γ) x)) (fun x => we (put (k.to γ) x)) (fun ys => ∀ v g' H', Good P A T g' H' → Ext g H g' H' → (rN K β).rel H v ys g' H' → Q v H') (xs.drop (i + 1)) (acc ++ [y])
      else wLcL (fun x => wt (put (k.to γ) x)) (fun x => we (put (k.to γ) x)) (fun ys => ∀ v g' H', Good P A T g' H' → Ext g H g' H' → (rN K β).rel H v ys g' H' → Q v H') (xs.drop (i + 1)) acc := z
    refine ht.run A _ _ σ3 g' H2 _ (by omega) G2 R3 (ht.mono _ _ _ (fun b zb g3 H3 G3 e3 => ?_) z')
    have e23 : Ext g' H' g3 H3 := e2.trans G2 e3
    have keep : ∀ {g4 : Gh} {H4 : Hp}, Ext g' H' g4 H4 → ∀ b ∈ bs, ∀ o, g' b = .oth → H' b = some o → g4 b = .oth ∧ H4 b = some o := fun {g4 H4} e4 b _ o q1 q2 => by
      have := e4 b o q2
      exact ⟨this.1.trans q1, this.2 (by rw [q1]; simp)⟩
    have hD3 := e23 D _ hHD
    have hH3 : H3 D = some (.lst (bs.map V.ref)) := hD3.2 (by rw [hgD]; simp)
    have hg3 : g3 D = .oth := hD3.1.trans hgD
    have p3 : Nst K β .oth bs acc g3 H3 := pr.st (e23.le G') (keep e23)
    have e13 : Ext g1 H1 g3 H3 := e'.trans G' e23
    cases b with
    | false => exact ⟨g3, acc, bs, G3.up (by omega), e13, hg3, hH3, ⟨nD, nd, fresh⟩, p3, Nat.le_succ_of_le hus, zb⟩
    | true =>
      refine he.run A _ _ σ3 g3 H3 _ (by omega) G3 (R3.ext G2 e3) (he.mono _ _ _ (fun y zy v g4 H4 G4 e4 r4 => ?_) zb)
      obtain ⟨q, ws, rfl, q1, q2, q3, q4, q5⟩ := r4
      have hD4 := e4 D _ hH3
      have hH4 : H4 D = some (.lst (bs.map V.ref)) := hD4.2 (by rw [hg3]; simp)
      have hg4 : g4 D = .oth := hD4.1.trans hg3
      have e24 := e23.trans G3 e4
      have p4 : Nst K β .oth bs acc g4 H4 := pr.st (e24.le G') (keep e24)
      have nqD : q ≠ D := fun z => by
        subst z
        rw [hH3] at q1
        cases q1
      have nq : q ∉ bs := fun z => by
        obtain ⟨_, us, hu⟩ := p3.mem q z
        rw [hu] at q1
        cases q1
      have q1' : H1 q = none := e13.keeps G3 q1
      have lx := lx_write (u := .lst (bs.map V.ref ++ [V.ref q])) hg4 hH4 rfl
      have p5 : Nst K β .oth (bs ++ [q]) (acc ++ [y]) g4 (upd H4 D (.lst (bs.map V.ref ++ [V.ref q]))) := by
        refine Paired.app (p4.st lx.toLe fun b hb o z1 z2 => ⟨z1, ?_⟩) (.cons ⟨q2, ws, ?_, Paired.rp_mono lx.fz q4, q5⟩ .nil)
        · have nb : b ≠ D := fun z => nD (z ▸ hb)
          rw [upd_ne nb]
          exact z2
        · rw [upd_ne nqD]
          exact q3
      refine ⟨bs.map V.ref, hH4, Nat.lt_of_le_of_lt (by rw [List.length_map]; exact hus) (Nat.lt_of_lt_of_le hlt hxs), g4, acc ++ [y], bs ++ [q], (G4.put hA0 hH4 (by rw [hg4]; simp)).up (by omega), fun a o ha => ?_, hg4, ?_, ⟨?_, ?_, ?_⟩, p5, by rw [List.length_append]; show bs.length + 1 ≤ i + 1; omega, zy⟩
      · have ne : a ≠ D := ne_of_none ha hD
        rw [upd_ne ne]
        exact (e13.trans G3 e4) a o ha
      · rw [upd_same, List.map_append]
        rfl
      · intro z
        rcases List.mem_append.mp z with z | z
        · exact nD z
        · exact nqD (List.mem_singleton.mp z).symm
      · refine List.nodup_append.mpr ⟨nd, List.nodup_cons.mpr ⟨(fun z => nomatch z), .nil⟩, fun a ha b hb z => ?_⟩
        rw [List.mem_singleton.mp hb] at z
        exact nq (z ▸ ha)
      · intro b hb
        rcases List.mem_append.mp hb with hb | hb
        · exact fresh b hb
        · rw [List.mem_singleton.mp hb]
          exact q1'
  · left
    have ei : i = xs.length := by omega
    refine ⟨it.stop A _ g' H' i G' (e'.le G1) (by omega), ?_⟩
    have hT2 : b0 + ci + i * (ct + ce) ≤ T := by
      have hm : i * (ct + ce) ≤ 9223372036854775808 * (ct + ce) := Nat.mul_le_mul_right (ct + ce) (by have := it.len; omega)
      omega
    rw [ei, List.drop_length] at z
    refine z _ g' H' (G'.up hT2) e0 ⟨D, bs, rfl, hD0, hgD, hHD, nD, nd, fun b hb => e1.keeps G1 (fresh b hb), pr, ?_⟩
    rw [← pr.len]
    have := it.len
    omega
/-- x = such a list, to be changed -/
theorem as_ownN {α : Type} [Rp K α] {n : Nat} {w : TupT ks → (List (List α) → Prop) → Prop} (he : AE P ks (rN K α) ce te w) (p : Put ks n (kN K α) ks') : AS P ks ks' r kb ce (tAsg te (gName n)) (fun γ E => w γ fun x => ∀ y, y = x → E.nx (p.put γ y)) := by
  refine ⟨fun γ E E' i z => he.mono γ _ _ (fun x zx y ey => i.nx _ (zx y ey)) z, fun A b0 γ σ g H D hb0 G R hw => ?_⟩
  refine he.run A b0 γ σ g H _ (by omega) G R (he.mono γ _ _ (fun x zx v g' H' G' e' r' => ?_) hw)
  obtain ⟨a, bs, rfl, h1, h2, h3, h4, h5, h6, h7, hl⟩ := r'
  have all : ∀ b ∈ a :: bs, H b = none ∧ g' b = .oth ∧ ∃ o, H' b = some o := fun b hb => by
    rcases List.mem_cons.mp hb with rfl | hb
    · exact ⟨h1, h2, _, h3⟩
    · obtain ⟨q1, vs, q2⟩ := h7.mem b hb
      exact ⟨h6 b hb, q1, _, q2⟩
  have l2 : Le g' H' (tagAll g' (a :: bs) (.own n)) H' := le_tagAll fun b hb => by rw [(all b hb).2.1]; simp
  refine zx x rfl _ _ H' ((G'.retagAll (t := .own n) (fun b hb => ⟨G.ext.keeps G (all b hb).1, (all b hb).2.2⟩) (fun z => nomatch z)).up (by omega)) ((e'.le G).trans l2)
    (p.ok R ((e'.le G).trans l2) (fun j _ b o hb ho => ?_) ⟨a, bs, rfl, ?_, h3, h4, h5, h7.tag l2 (fun b hb => ?_), hl⟩)
  · obtain ⟨q1, q2⟩ := (e'.lx G).ow j b o hb ho
    refine ⟨?_, q2⟩
    rw [tagAll_out]
    · exact q1
    · intro z
      rw [(all b z).1] at ho
      cases ho
  · rw [tagAll_in List.mem_cons_self, Nat.zero_add]
  · rw [tagAll_in (List.mem_cons_of_mem _ hb), Nat.zero_add]
/-- what was changed is held for ever -/
theorem as_frzN {α : Type} [Rp K α] {n : Nat} {t : TS} {w : TupT ks1 → We ks' r kb → Prop} (a : Acc ks n (kN K α)) (p : Put ks n (kF K (List (List α))) ks1) (h : AS P ks1 ks' r kb ct t w) : AS P ks ks' r kb ct t (fun γ E => w (p.put γ (a.get γ)) E) := by
  refine ⟨fun γ E E' i z => h.mono _ _ _ i z, fun A b0 γ σ g H D hb0 G R hw => ?_⟩
  obtain ⟨y, e, b, bs, rfl, h1, h2, h3, h4, h5, hl⟩ := a.ok R
  have all : ∀ c ∈ b :: bs, g c = .own (0 + n) ∧ ∃ o, H c = some o := fun c hc => by
    rcases List.mem_cons.mp hc with rfl | hc
    · exact ⟨h1, _, h2⟩
    · obtain ⟨q1, vs, q2⟩ := h5.mem c hc
      exact ⟨q1, _, q2⟩
  have l2 : Le g H (tagAll g (b :: bs) .frz) H := le_tagAll fun c hc => by rw [(all c hc).1]; simp
  have es : σ.set n (some (.ref b)) = σ := set_self e
  have inn : ∀ c ∈ b :: bs, ∀ u, H c = some u → Fz (tagAll g (b :: bs) .frz) H c = some u := fun c hc u hu => fz_some.mpr ⟨hu, .inr (by rw [tagAll_in hc]; rfl)⟩
  have items : Paired (Rp.rp K (Fz (tagAll g (b :: bs) .frz) H)) (bs.map V.ref) (a.get γ) := by
    have all2 : ∀ c ∈ bs, c ∈ b :: bs := fun c hc => List.mem_cons_of_mem _ hc
    unfold Nst at h5
    generalize a.get γ = x at h5
    clear hw R hl h4 h3 h2 all
    revert inn l2 all2
    generalize tagAll g (b :: bs) .frz = gg
    generalize b :: bs = cs
    intro l2 inn all2
    induction h5 with
    | nil => exact .nil
    | cons q _ ih =>
      obtain ⟨q1, vs, q2, q3, q4⟩ := q
      exact .cons ⟨_, vs, rfl, inn _ (all2 _ List.mem_cons_self) _ q2, Paired.rp_mono l2.fz q3, q4⟩ (ih fun c hc => all2 c (List.mem_cons_of_mem _ hc))
  have R1 := p.ok (y := some (.ref b)) (x := a.get γ) R l2 (fun j hj c o hc ho => ⟨by
    rw [tagAll_out]
    · exact hc
    · intro z
      rw [(all c z).1] at hc
      exact hj (Tg.own.inj hc).symm, ho⟩) ⟨_, rfl, b, bs.map V.ref, rfl, inn b List.mem_cons_self _ h2, items, hl⟩
  rw [es] at R1
  exact h.run A b0 _ σ _ H D (by omega) (G.retagAll (t := .frz) (fun c hc => ⟨G.noown0 (all c hc).1, (all c hc).2⟩) fun z => nomatch z) R1 (h.mono _ _ _ (We.of (by omega) l2) hw)
/-- one of the inner lists is changed -/
theorem Nst.set {α : Type} [Rp K α] {t : Tg} {g : Gh} {H : Hp} {q : Addr} {vs' : List V} {ys' : List α} (hl : ys'.length ≤ 9223372036854775808) (l : Le g H g (upd H q (.lst vs'))) (pr : Paired (Rp.rp K (Fz g H)) vs' ys') : ∀ {bs : List Addr} {x : List (List α)} {j : Nat}, Nst K α t bs x g H → bs[j]? = some q → bs.Nodup → Nst K α t bs (x.set j ys') g (upd H q (.lst vs'))
  | _, _, _, .nil, e, _ => nomatch e
  | b :: bs, y :: x, 0, .cons h k, e, nd => by
    obtain rfl : b = q := Option.some.inj e
    have nd := List.nodup_cons.mp nd
    exact .cons ⟨h.1, vs', upd_same, Paired.rp_mono l.fz pr, hl⟩ (Nst.st (K := K) (α := α) k l fun c hc o z1 z2 => ⟨z1, by
      have nc : c ≠ b := fun z => nd.1 (z ▸ hc)
      rw [upd_ne nc]
      exact z2⟩)
  | b :: bs, y :: x, j + 1, .cons h k, e, nd => by
    have nd := List.nodup_cons.mp nd
    have e : bs[j]? = some q := e
    have nb : b ≠ q := fun z => nd.1 (z ▸ List.mem_of_getElem? e)
    obtain ⟨h1, vs, h2, h3, h4⟩ := h
    exact .cons ⟨h1, vs, by rw [upd_ne nb]; exact h2, Paired.rp_mono l.fz h3, h4⟩ (Nst.set hl l pr k e nd.2)
theorem Nst.at {α : Type} [Rp K α] {t : Tg} {g : Gh} {H : Hp} : ∀ {bs : List Addr} {x : List (List α)} {j : Nat} {ys : List α}, Nst K α t bs x g H → x[j]? = some ys → ∃ q vs, bs[j]? = some q ∧ g q = t ∧ H q = some (.lst vs) ∧ Paired (Rp.rp K (Fz g H)) vs ys ∧ ys.length ≤ 9223372036854775808
  | _, _, _, _, h, e => by
    obtain ⟨q, e1, h1, vs, h2, h3, h4⟩ := Paired.at h e
    exact ⟨q, vs, e1, h1, h2, h3, h4⟩
theorem own_writeN {α : Type} [Rp K α] {A : Act} {g : Gh} {H : Hp} {n j b0 : Nat} {γ : TupT ks} {σ : Sl} {b q : Addr} {bs : List Addr} {x : List (List α)} {vs' vs0 : List V} {ys' : List α} (p : Put ks n (kN K α) ks) (G : Good P A b0 g H) (R : RelL ks 0 γ σ g H) (e : σ[n]? = some (some (.ref b))) (h1 : g b = .own (0 + n)) (h2 : H b = some (.lst (bs.map V.ref)))
    (h3 : b ∉ bs) (h4 : bs.Nodup) (h5 : Nst K α (.own (0 + n)) bs x g H) (hx : x.length ≤ 9223372036854775808) (ej : bs[j]? = some q) (hq : H q = some (.lst vs0)) (pr : Paired (Rp.rp K (Fz g H)) vs' ys') (hl : ys'.length ≤ 9223372036854775808) :
    Good P A b0 g (upd H q (.lst vs')) ∧ Le g H g (upd H q (.lst vs')) ∧ RelL ks 0 (p.put γ (x.set j ys')) σ g (upd H q (.lst vs')) := by
  have mq : q ∈ bs := List.mem_of_getElem? ej
  have gq : g q = .own (0 + n) := (h5.mem q mq).1
  have l2 := G.write_le (u := .lst vs') gq hq rfl
  refine ⟨G.write gq hq, l2, ?_⟩
  have nb : b ≠ q := fun z => h3 (z ▸ mq)
  have R1 := p.ok (y := some (.ref b)) (x := x.set j ys') R l2 (fun i hi c u hc ho => ⟨hc, by
    rw [upd_ne]
    · exact ho
    · intro z
      subst z
      rw [gq] at hc
      exact hi (Tg.own.inj hc).symm⟩) ⟨b, bs, rfl, h1, by rw [upd_ne nb]; exact h2, h3, h4, Nst.set hl l2 pr h5 ej h4, by rw [List.length_set]; exact hx⟩
  rwa [set_self e] at R1
/-- x[i].append(e) -/
theorem as_appendN {α : Type} [Rp K α] {n : Nat} {ti : TE} {w : TupT ks → (α → Prop) → Prop} {wi : TupT ks → (Int → Prop) → Prop} (a : Acc ks n (kN K α)) (p : Put ks n (kN K α) ks) (hi : AE P ks (rF K Int) ci ti wi) (he : AE P ks (rF K α) ce te w) :
    AS P ks ks r kb (ci + ce) (tDrop (tBM K "list" rAppend (tOp (rIxL K) (tVar n) ti) (tCons te tNil))) (fun γ E => wi γ fun i => ∃ j ys, ixN (a.get γ).length i = some j ∧ (a.get γ)[j]? = some ys ∧ w γ fun x => ys.length < sizeLine ∧ E.nx (p.put γ ((a.get γ).set j (ys ++ [x])))) := by
  refine ⟨fun γ E E' im z => hi.mono γ _ _ (fun i ⟨j, ys, q1, q2, q3⟩ => ⟨j, ys, q1, q2, he.mono γ _ _ (fun x zx => ⟨zx.1, im.nx _ zx.2⟩) q3⟩) z, fun A b0 γ σ g H D hb0 G R hw => ?_⟩
  obtain ⟨y, e, b, bs, rfl, h1, h2, h3, h4, h5, hx⟩ := a.ok R
  refine ⟨_, e, ?_⟩
  refine hi.run A b0 γ σ g H _ (by omega) G R (hi.mono γ _ _ (fun i ⟨j, ys, q1, q2, q3⟩ u g1 H1 G1 e1 r1 => ?_) hw)
  have R1 := R.ext G e1
  obtain ⟨y1, f, b1, bs1, rfl, h1, h2, h3, h4, h5, hx⟩ := a.ok R1
  rw [e] at f
  cases f
  obtain ⟨q, vs, k1, k2, k3, k4, k5⟩ := h5.at q2
  have ix : atI (bs1.map V.ref) i = some (V.ref q) := by
    unfold atI
    rw [List.length_map, h5.len, q1]
    show (bs1.map V.ref)[j]? = _
    rw [List.getElem?_map, k1]
    rfl
  refine ⟨b, bs1.map V.ref, i, V.ref q, rfl, r1, .inl (.inl h2), ix, .inl ⟨rfl, vs, .inl (.inl k3)⟩, ?_⟩
  refine he.run A _ γ σ g1 H1 _ (by omega) G1 R1 (he.mono γ _ _ (fun x zx v g2 H2 G2 e2 r2 => ?_) q3)
  have R2 := R1.ext G1 e2
  obtain ⟨y2, f2, b2, bs2, rfl, m1, m2, m3, m4, m5, mx⟩ := a.ok R2
  rw [e] at f2
  cases f2
  have same : bs2 = bs1 := by
    have := ((e2.lx G1).ow _ b _ h1 h2).2
    rw [m2] at this
    exact List.map_inj_right (fun _ _ z => V.ref.inj z) |>.mp (HO.lst.inj (Option.some.inj this))
  subst same
  obtain ⟨w1, w2⟩ := (e2.lx G1).ow _ q _ k2 k3
  have k4' := Paired.rp_mono (e2.le G1).fz k4
  obtain ⟨G3, l3, R3⟩ := own_writeN p G2 R2 e m1 m2 m3 m4 m5 mx k1 w2 (Paired.app k4' (.cons r2 .nil)) (by rw [List.length_append]; show ys.length + 1 ≤ _; have h := zx.1; rw [sizeLine_eq] at h; omega)
  exact ⟨q, vs, v, rfl, rfl, w2, by rw [Paired.len k4]; exact zx.1, zx.2 σ g2 _ (G3.up (by omega)) (((e1.le G).trans (e2.le G1)).trans l3) R3⟩
/-- held while it is read -/
def Bor.d {α : Type} [Rp K α] (a : Bor ks ks') : Bor (kN K α :: ks) (kF K (List (List α)) :: ks') := ⟨fun γ => (γ.1, a.to γ.2), fun {i γ σ g H} ⟨y, r, e, ⟨p, bs, ep, h1, h2, n1, n2, h5, h6⟩, q⟩ => by
  refine ⟨y, r, e, ⟨_, ep, p, bs.map V.ref, rfl, fz_some.mpr ⟨h2, .inr (by rw [bg_own h1]; rfl)⟩, ?_, h6⟩, a.ok q⟩
  unfold Nst at h5
  clear h2 e ep n1 n2 h6
  generalize γ.1 = x at h5
  induction h5 with
  | nil => exact .nil
  | cons z _ ih =>
    obtain ⟨z1, vs, z2, z3, z4⟩ := z
    exact .cons ⟨_, vs, rfl, fz_some.mpr ⟨z2, .inr (by rw [bg_own z1]; rfl)⟩, Paired.rp_mono bg_le.fz z3, z4⟩ ih⟩
end DL
/-! DL: defs that fall off, x[i] += e, more methods of owned lists. -/
namespace DL
open PySem PySem.Spec PyProof.Rows L2
variable {P : TokP} {K : PySem.W.Frag} {ks ks' ks1 ks2 kb : List Kd} {r : Rk} {ta tb te : TE}
theorem pm_defU {pk : List Vk} {n : Nat} {i : Ini pk ks n} {t : TS} {w : TupT ks → We ks' (rF K Unit) [] → Prop} (h : AS P ks ks' (rF K Unit) [] ct t w) : Pm P pk (rF K Unit) (wDefU i w) := ⟨fun γ Q Q' q z => by
  refine h.mono _ _ _ ?_ z
  exact ⟨fun _ h => q _ h, q, fun _ h => h, fun _ h => h⟩⟩
theorem sp_defU {pk : List Vk} {n : Nat} {i : Ini pk ks n} {t : TS} {w : TupT ks → We ks' (rF K Unit) [] → Prop} (h : AS P ks ks' (rF K Unit) [] ct t w) {vs : List V} {H : Hp} {Q : VK} {E : XK} {N : List Str} (hN : N.length = pk.length + n) (q : SpOf P pk (rF K Unit) ct (wDefU i w) vs H Q E) :
    t { nx := fun _ H' => Q .non H', rt := Q } (L2.start N vs) H := by
  obtain ⟨A, b0, γ, rfl, hb0, G, rv, z⟩ := q
  have e : L2.start N vs = vs.map some ++ List.replicate n none := by
    unfold L2.start
    rw [RelVs.length rv, hN, Nat.add_sub_cancel_left]
  rw [e]
  refine h.run A b0 _ _ A.g0 A.H0 _ hb0 G (i.ok rv) ?_
  refine h.mono _ _ _ ?_ z
  exact ⟨fun _ h σ2 g2 H2 G2 _ _ => h .non g2 H2 G2 rfl, fun _ h => h, fun _ h => h.elim, fun _ h => h.elim⟩
/-! ### x[i] += e -/
def rGetN (K : PySem.W.Frag) : V → V → Hp → VK → Prop := fun o i H Q => ∃ p xs k v, o = .ref p ∧ i = .int k ∧ 0 ≤ k ∧ SqL K H p xs ∧ atI xs k = some v ∧ Q v H
theorem get_listN {X : Cx} : PGet X (rGetN X.K) := by
  intro pins s σ H o i ov iv Q I ro ri h
  obtain ⟨p, xs, k, v, rfl, rfl, h0, hq, he, q⟩ := h
  cases ro
  obtain ⟨t, rfl⟩ := ri
  obtain ⟨its, r, pl, hz⟩ := I.list hq
  obtain ⟨j, h1, h2, h3, h4, h5⟩ := atI_get he
  obtain ⟨w, ew, rw'⟩ := r.get h2
  have hl := r.length
  have hn := line63
  have hj : k.toNat = j := by
    rw [seqIndex_of h0 h5] at h1
    exact Option.some.inj h1
  exact wpAny_getItem_list pl.isList h0 (by omega) (by rw [hj]; simpa using ew) ⟨v, H, I, rw', q⟩
theorem as_augitem {n : Nat} {ti : TE} {f : Int → Int → Int} {w wi : TupT ks → (Int → Prop) → Prop} (a : Acc ks n (kO K Int)) (p : Put ks n (kO K Int) ks) (hi : AE P ks (rF K Int) ci ti wi) (he : AE P ks (rF K Int) ce te w) :
    AS P ks ks r kb (ci + ce) (tAugS (tVar n) ti te (rGetN K) (ipI f) rSetL) (fun γ E => wi γ fun i => ∃ j v, 0 ≤ i ∧ ixN (a.get γ).length i = some j ∧ (a.get γ)[j]? = some v ∧ w γ fun x => ∀ y, y = f v x → E.nx (p.put γ ((a.get γ).set j y))) := by
  refine ⟨fun γ E E' im z => hi.mono γ _ _ (fun i ⟨j, v, q0, q1, q2, q3⟩ => ⟨j, v, q0, q1, q2, he.mono γ _ _ (fun x zx y ey => im.nx _ (zx y ey)) q3⟩) z, fun A b0 γ σ g H D hb0 G R hw => ?_⟩
  obtain ⟨y, e, b, vs, rfl, h1, h2, h3, hl⟩ := a.ok R
  refine ⟨_, e, ?_⟩
  refine hi.run A b0 γ σ g H _ (by omega) G R (hi.mono γ _ _ (fun i ⟨j, v, q0, q1, q2, q3⟩ u g1 H1 G1 e1 r1 => ?_) hw)
  have R1 := R.ext G e1
  obtain ⟨k1, k2⟩ := (e1.lx G).ow _ b _ h1 h2
  have k3 := Paired.rp_mono (e1.le G).fz h3
  obtain ⟨v', ev, rv⟩ := Paired.at k3 q2
  have rv : v' = .int v := rv
  subst rv
  have ix : atI vs i = some (.int v) := by
    unfold atI
    rw [Paired.len h3, q1]
    exact ev
  refine ⟨b, vs, i, _, rfl, r1, q0, .inl (.inl k2), ix, ?_⟩
  refine he.run A _ γ σ g1 H1 _ (by omega) G1 R1 (he.mono γ _ _ (fun x zx z g2 H2 G2 e2 r2 => ?_) q3)
  obtain ⟨m1, m2⟩ := (e2.lx G1).ow _ b _ k1 k2
  have m3 := Paired.rp_mono (e2.le G1).fz k3
  have R2 := R1.ext G1 e2
  obtain ⟨G3, l3, R3⟩ := own_write p G2 R2 e m1 m2 (Paired.set' (show Rp.rp K (Fz g2 H2) (V.int (f v x)) (f v x) from rfl) j m3) (by rw [List.length_set]; exact hl)
  exact ⟨v, x, rfl, r2, b, vs, i, j, rfl, r1, m2, by rw [Paired.len h3]; exact q1, zx _ rfl σ g2 _ (G3.up (by omega)) (((e1.le G).trans (e2.le G1)).trans l3) R3⟩
/-! ### extend, insert -/
theorem as_extend {α : Type} [Rp K α] {n : Nat} {w : TupT ks → (List α → Prop) → Prop} (a : Acc ks n (kO K α)) (p : Put ks n (kO K α) ks) (he : AE P ks (rO K α) ce te w) :
    AS P ks ks r kb ce (tDrop (tBM K "list" rExtend (tVar n) (tCons te tNil))) (fun γ E => w γ fun x => (a.get γ).length + x.length ≤ sizeLine ∧ E.nx (p.put γ (a.get γ ++ x))) := by
  refine ⟨fun γ E E' i z => he.mono γ _ _ (fun x zx => ⟨zx.1, i.nx _ zx.2⟩) z, fun A b0 γ σ g H D hb0 G R hw => ?_⟩
  obtain ⟨y, e, b, vs, rfl, h1, h2, h3, hl⟩ := a.ok R
  refine ⟨_, e, .inl ⟨rfl, vs, .inl (.inl h2)⟩, ?_⟩
  refine he.run A b0 γ σ g H _ (by omega) G R (he.mono γ _ _ (fun x zx v g' H' G' e' r' => ?_) hw)
  obtain ⟨c, us, rfl, k1, k2, k3, k4, k5⟩ := r'
  obtain ⟨q1, q2⟩ := (e'.lx G).ow _ b _ h1 h2
  have h3' := Paired.rp_mono (e'.le G).fz h3
  obtain ⟨G2, l2, R2⟩ := own_write p G' (R.ext G e') e q1 q2 (Paired.app h3' k4) (by rw [List.length_append]; have h := zx.1; rw [sizeLine_eq] at h; omega)
  exact ⟨b, c, vs, us, rfl, rfl, q2, k3, by rw [Paired.len h3, Paired.len k4]; exact zx.1, zx.2 σ g' _ (G2.up (by omega)) ((e'.le G).trans l2) R2⟩
/-- what is not None -/
theorem ae_get {α : Type} [Rp K α] {w : TupT ks → (Option α → Prop) → Prop} (h : AE P ks (rF K (Option α)) ca ta w) : AE P ks (rF K α) ca ta (fun γ Q => w γ fun x => ∃ y, x = some y ∧ Q y) := by
  refine ⟨fun γ Q Q' q z => h.mono γ _ _ (fun x ⟨y, e, z⟩ => ⟨y, e, q y z⟩) z, fun A b0 γ σ g H Q hb0 G R hw => h.run A b0 γ σ g H Q (by omega) G R (h.mono γ _ _ (fun x ⟨y, e, z⟩ v g' H' G' ex rl => z v g' H' (G'.up (by omega)) ex ?_) hw)⟩
  subst e
  exact rl.2
end DL
/-! DL: more plain laws: sums ahead, data compared. -/
namespace DL
open PySem PySem.Spec PyProof.Rows L2
/-- the sum of the first ones -/
def pre (f : Nat → Int) : Nat → Int
  | 0 => 0
  | n + 1 => pre f n + f n
theorem pre_congr {f g : Nat → Int} : ∀ {n : Nat}, (∀ i, i < n → f i = g i) → pre f n = pre g n
  | 0, _ => rfl
  | n + 1, h => by
    show pre f n + f n = pre g n + g n
    rw [pre_congr fun i hi => h i (by omega), h n (by omega)]
theorem pre_add (f : Nat → Int) (k : Nat) : ∀ n : Nat, pre f (k + n) = pre f k + pre (fun i => f (k + i)) n
  | 0 => by show pre f k = pre f k + 0; omega
  | n + 1 => by
    show pre f (k + n) + f (k + n) = pre f k + (pre (fun i => f (k + i)) n + f (k + n))
    rw [pre_add f k n]
    omega
theorem pre_zero {f : Nat → Int} : ∀ {n : Nat}, (∀ i, i < n → f i = 0) → pre f n = 0
  | 0, _ => rfl
  | n + 1, h => by
    show pre f n + f n = 0
    rw [pre_zero fun i hi => h i (by omega), h n (by omega)]
    rfl
theorem pre_rev (f : Nat → Int) (n : Nat) : ∀ j : Nat, j ≤ n → pre (fun i => f (n - 1 - i)) j = pre f n - pre f (n - j)
  | 0, _ => by show 0 = pre f n - pre f (n - 0); rw [Nat.sub_zero]; omega
  | j + 1, h => by
    show pre (fun i => f (n - 1 - i)) j + f (n - 1 - j) = _
    rw [pre_rev f n j (by omega)]
    have e : n - j = (n - (j + 1)) + 1 := by omega
    have e2 : pre f (n - j) = pre f (n - (j + 1)) + f (n - (j + 1)) := by rw [e]; rfl
    rw [e2, show n - 1 - j = n - (j + 1) by omega]
    omega
theorem okd_lay : ∀ {n : Nat} {d : PyData}, okd n d = true → d.canLay0 = true ∧ d.depth ≤ n := by
  intro n
  induction n with
  | zero =>
    intro d h
    cases d with
    | none => exact ⟨rfl, Nat.zero_le _⟩
    | bool b => exact ⟨rfl, Nat.zero_le _⟩
    | int i => exact ⟨rfl, Nat.zero_le _⟩
    | str x => unfold okd at h; exact ⟨SeqAt.canLay_of_shaped h, Nat.zero_le _⟩
    | list xs => unfold okd at h; cases h
    | tuple xs => unfold okd at h; cases h
    | dict xs => unfold okd at h; cases h
  | succ n ih =>
    intro d h
    have seq : ∀ xs : List PyData, (∀ x ∈ xs, okd n x = true) → PyData.canLayAll0 xs = true ∧ PyData.depthAll xs ≤ n := by
      intro xs
      induction xs with
      | nil => exact fun _ => ⟨rfl, Nat.zero_le _⟩
      | cons x xs ih2 =>
        intro h
        obtain ⟨a, b⟩ := ih (h x List.mem_cons_self)
        obtain ⟨c, e⟩ := ih2 fun y hy => h y (List.mem_cons_of_mem _ hy)
        refine ⟨?_, ?_⟩
        · show (x.canLay0 && PyData.canLayAll0 xs) = true
          rw [a, c]
          rfl
        · show max x.depth (PyData.depthAll xs) ≤ n
          omega
    cases d with
    | none => exact ⟨rfl, Nat.zero_le _⟩
    | bool b => exact ⟨rfl, Nat.zero_le _⟩
    | int i => exact ⟨rfl, Nat.zero_le _⟩
    | str x => unfold okd at h; exact ⟨SeqAt.canLay_of_shaped h, Nat.zero_le _⟩
    | list xs =>
      unfold okd at h
      rw [Bool.and_eq_true, List.all_eq_true] at h
      obtain ⟨a, b⟩ := seq xs h.2
      exact ⟨a, Nat.succ_le_succ b⟩
    | tuple xs =>
      unfold okd at h
      rw [Bool.and_eq_true, List.all_eq_true] at h
      obtain ⟨a, b⟩ := seq xs h.2
      exact ⟨a, Nat.succ_le_succ b⟩
    | dict xs => unfold okd at h; cases h
theorem shaped_of {n : Nat} {d : PyData} (h : okd n d = true) (hn : n ≤ 60) : SeqAt.shaped d = true := by
  obtain ⟨a, b⟩ := okd_lay h
  unfold SeqAt.shaped
  rw [a]
  exact decide_eq_true (by omega)
theorem eqv_same {n : Nat} {d : PyData} (h : okd n d = true) : PyData.eqv d d = true := SeqAt.eqv_refl _ (okd_lay h).1
theorem eqv_nil {α : Type} (f : α → PyData) (xs : List α) : PyData.eqv (.list (xs.map f)) (.list []) = xs.isEmpty := by
  cases xs <;> rfl
end DL
/-! DL: enumerate(zip(xs, ys)): the pairs that the zip gives out stay within the triples. -/
namespace DL
open PySem PySem.Spec PyProof.Rows L2

/-- a zip with any mark of what it gave out -/
abbrev Zf (h : Heap) (z TI TO : Addr) (m n : Value) : Prop := h.get? z = some { cls := .type "zip", dict := none, data := .fields #[m, n, .bool false, .ref TI, .ref TO], slots := #[] }
/-- .. as it stands between two turns -/
def Zst (h : Heap) (z TI TO : Addr) : Prop := Zf h z TI TO .none (.bool false) ∨ ∃ (T : Addr) (f : Bool), Zf h z TI TO (rawInt T) (.bool f)
section
variable {prog : Program} {w : World} {A : Around} {E : Value → Shared → Prop} {s : Shared}
theorem dead_one {a : Addr} {Q : Option Obj → Shared → Prop} (ho : s.heap.get? a = none) (h : Q none s) : wpAny (model prog w) A (loadIfAlive a) Q E s := by
  have q : Q (s.heap.get? a) s := by
    rw [ho]
    exact h
  exact fun _ _ _ => q
theorem freed_zip {z TI TO T : Addr} {f : Bool} {Q : Bool → Shared → Prop} (hz : Zf s.heap z TI TO (rawInt T) (.bool f)) (hT : s.heap.get? T = none) (h : Q true s) : wpAny (model prog w) A (Builtin.SmallTypes.ownedTupleIsFree (.ref z)) Q E s := by
  unfold Builtin.SmallTypes.ownedTupleIsFree
  refine wpAny_bind (wpAny_field hz rfl (x := rawInt T) rfl ?_)
  show wpAny _ _ (loadIfAlive (Int.toNat (T : Int)) >>= _) _ _ _
  rw [Int.toNat_natCast]
  refine wpAny_bind (dead_one hT ?_)
  simp only [Option.isNone_none, if_true]
  exact wpAny_pure h
theorem virgin_zip {z TI TO : Addr} {n : Value} {Q : Bool → Shared → Prop} (hz : Zf s.heap z TI TO .none n) (h : Q true s) : wpAny (model prog w) A (Builtin.SmallTypes.ownedTupleIsFree (.ref z)) Q E s := by
  unfold Builtin.SmallTypes.ownedTupleIsFree
  exact wpAny_bind (wpAny_field hz rfl (x := .none) rfl (wpAny_pure h))
section
variable {z TI TO i1 i2 l1 l2 : Addr} {k1 k2 : Nat} {xs ys : Array Value} {x y m n : Value}
/-- the zip reuses its own tuple -/
theorem zip_turn_free {a b : Value} {Q : Value → Shared → Prop} (D : ZipApart z TI TO i1 i2 l1 l2) (hz : Zf s.heap z TI TO m n)
    (hfree : ∀ {Q' : Bool → Shared → Prop} {A' : Around} {E' : Value → Shared → Prop}, Q' true s → wpAny (model prog w) A' (Builtin.SmallTypes.ownedTupleIsFree (.ref z)) Q' E' s)
    (hTI : IsPair s.heap TI (.ref i1) (.ref i2)) (hTO : IsPair s.heap TO a b) (h1 : s.heap.IsListIter i1 l1 k1) (h2 : s.heap.IsListIter i2 l2 k2) (hl1 : s.heap.IsList l1 xs) (hl2 : s.heap.IsList l2 ys) (hx : xs[k1]? = some x) (hy : ys[k2]? = some y)
    (hQ : ∀ h', Zst h' z TI TO → IsPair h' TO x y → h'.IsListIter i1 l1 (k1 + 1) → h'.IsListIter i2 l2 (k2 + 1) → IsPair h' s.heap.objs.size x y → h'.objs.size = s.heap.objs.size + 1 →
      (∀ c o, c ≠ z → c ≠ TO → c ≠ i1 → c ≠ i2 → s.heap.get? c = some o → h'.get? c = some o) → Q (.ref s.heap.objs.size) { s with heap := h' }) :
    wpAny (model prog w) A (Builtin.«zip.__next__» ⟨[.ref z], []⟩) (fun fin s' => ∃ v, fin = .done (.ret v) ∧ Q v s') E s := by
  show wpAny _ _ (field (.ref z) 2 >>= _) _ _ _
  refine wpAny_bind (wpAny_field hz rfl (x := .bool false) rfl ?_)
  show wpAny _ _ (field (.ref z) 3 >>= _) _ _ _
  refine wpAny_bind (wpAny_field hz rfl (x := .ref TI) rfl ?_)
  refine wpAny_bind (wpAny_seqItems hTI rfl ?_)
  show wpAny _ _ (Builtin.SmallTypes.ownedTupleIsFree (.ref z) >>= _) _ _ _
  refine wpAny_bind (hfree ?_)
  simp only [if_true]
  refine wpAny_bind (wpAny_rule (wpAny_bind (wpAny_field hz rfl (x := .ref TO) rfl ?_)))
  refine wpAny_bind (wpAny_setField_rec hz (by simp) fun ha za sa => ?_)
  replace za : Zf ha z TI TO .ellipsis n := za
  refine wpAny_bind ?_
  simp only [List.zipIdx_cons, List.zipIdx_nil, List.forIn_cons, List.forIn_nil]
  -- the one side
  refine wpAny_bind (wpAny_bind (wpAny_onRaise ?_))
  show wpAny _ _ (Builtin.SmallTypes.nextOf (.ref i1) >>= _) _ _ _
  refine wpAny_bind (wpAny_nextOf_list_item (h1.extBut sa.extBut D.i1z) (hl1.extBut sa.extBut D.l1z) hx fun hb ib sb => wpAny_pure ?_)
  have pb : IsPair hb TO a b := sb.extBut _ _ D.TOi1 (sa.extBut _ _ D.TOz hTO)
  refine wpAny_bind (wpAny_seqItems pb rfl (wpAny_bind (wpAny_updateSeq_pair pb fun hc pc sc => ?_)))
  replace pc : IsPair hc TO x b := pc
  refine wpAny_bind (wpAny_letGo (wpAny_pure ?_))
  -- the other side
  refine wpAny_bind (wpAny_bind (wpAny_onRaise ?_))
  show wpAny _ _ (Builtin.SmallTypes.nextOf (.ref i2) >>= _) _ _ _
  have i2c := ((h2.extBut sa.extBut D.i2z).extBut sb.extBut D.i12.symm).extBut sc.extBut D.TOi2.symm
  have l2c := ((hl2.extBut sa.extBut D.l2z).extBut sb.extBut D.l2i1).extBut sc.extBut D.l2TO
  refine wpAny_bind (wpAny_nextOf_list_item i2c l2c hy fun hd id' sd => wpAny_pure ?_)
  have pd : IsPair hd TO x b := sd.extBut _ _ D.TOi2 pc
  refine wpAny_bind (wpAny_seqItems pd rfl (wpAny_bind (wpAny_updateSeq_pair pd fun he pe se => ?_)))
  replace pe : IsPair he TO x y := pe
  refine wpAny_bind (wpAny_letGo (wpAny_pure (wpAny_pure ?_)))
  refine wpAny_bind (wpAny_seqItems pe rfl (wpAny_bind (wpAny_newTuple ?_)))
  have size : he.objs.size = s.heap.objs.size := by rw [se.1, sd.1, sc.1, sb.1, sa.1]
  have ze : Zf he z TI TO .ellipsis n := se.extBut _ _ D.TOz.symm (sd.extBut _ _ D.i2z.symm (sc.extBut _ _ D.TOz.symm (sb.extBut _ _ D.i1z.symm za)))
  have keep : ∀ c o, c ≠ z → c ≠ TO → c ≠ i1 → c ≠ i2 → s.heap.get? c = some o → he.get? c = some o := fun c o c1 c2 c3 c4 e =>
    se.extBut _ _ c2 (sd.extBut _ _ c4 (sc.extBut _ _ c2 (sb.extBut _ _ c3 (sa.extBut _ _ c1 e))))
  have i1e : he.IsListIter i1 l1 (k1 + 1) := ((ib.extBut sc.extBut D.TOi1.symm).extBut sd.extBut D.i12).extBut se.extBut D.TOi1.symm
  have i2e : he.IsListIter i2 l2 (k2 + 1) := id'.extBut se.extBut D.TOi2.symm
  have zlt : z < he.objs.size := Heap.lt_size ze
  show wpAny _ _ (Builtin.SmallTypes.ownedTupleHandOut (.ref z) (.ref he.objs.size) >>= _) _ _ _
  refine wpAny_bind ?_
  unfold Builtin.SmallTypes.ownedTupleHandOut
  have zf : Zf (he.push { cls := .type "tuple", data := .seq #[x, y] }) z TI TO .ellipsis n := Heap.get?_push_of_some _ ze
  refine wpAny_bind (wpAny_setField_rec zf (by simp) fun hg zg sg => ?_)
  replace zg : Zf hg z TI TO (rawInt he.objs.size) n := zg
  refine wpAny_setField_rec zg (by simp) fun hh zh sh => ?_
  replace zh : Zf hh z TI TO (rawInt he.objs.size) (.bool false) := zh
  have up : ∀ c o, c ≠ z → he.get? c = some o → hh.get? c = some o := fun c o c1 e => sh.extBut _ _ c1 (sg.extBut _ _ c1 (Heap.get?_push_of_some _ e))
  have pT : IsPair hh he.objs.size x y := sh.extBut _ _ (Nat.ne_of_gt zlt) (sg.extBut _ _ (Nat.ne_of_gt zlt) (Heap.get?_push_size _ rfl))
  have size2 : hh.objs.size = he.objs.size + 1 := by rw [sh.1, sg.1, Heap.size_push]
  rw [size] at zh pT size2
  refine wpAny_pure ⟨_, rfl, ?_⟩
  show Q (.ref he.objs.size) _
  rw [size]
  exact hQ hh (.inr ⟨_, _, zh⟩) (up _ _ D.TOz pe) (i1e.at fun o e => up _ o D.i1z e) (i2e.at fun o e => up _ o D.i2z e) pT size2 fun c o c1 c2 c3 c4 e => up c o c1 (keep c o c1 c2 c3 c4 e)
theorem zip_over_free {a b : Value} {Q : Fin → Shared → Prop} (hh : A.handled = none) (D : ZipApart z TI TO i1 i2 l1 l2) (hz : Zf s.heap z TI TO m n)
    (hfree : ∀ {Q' : Bool → Shared → Prop} {A' : Around} {E' : Value → Shared → Prop}, Q' true s → wpAny (model prog w) A' (Builtin.SmallTypes.ownedTupleIsFree (.ref z)) Q' E' s)
    (hTI : IsPair s.heap TI (.ref i1) (.ref i2)) (hTO : IsPair s.heap TO a b) (h1 : s.heap.IsListIter i1 l1 k1) (h2 : s.heap.IsListIter i2 l2 k2) (hl1 : s.heap.IsList l1 xs) (hl2 : s.heap.IsList l2 ys) (hend : xs[k1]? = none ∨ ys[k2]? = none)
    (hE : ∀ h' e, (∀ c o, c ≠ z → c ≠ TO → c ≠ i1 → c ≠ i2 → s.heap.get? c = some o → h'.get? c = some o) → (∃ o, h'.get? e = some o ∧ o.cls = .type "StopIteration") → E (.ref e) { s with heap := h' }) :
    wpAny (model prog w) A (Builtin.«zip.__next__» ⟨[.ref z], []⟩) Q E s := by
  show wpAny _ _ (field (.ref z) 2 >>= _) _ _ _
  refine wpAny_bind (wpAny_field hz rfl (x := .bool false) rfl ?_)
  show wpAny _ _ (field (.ref z) 3 >>= _) _ _ _
  refine wpAny_bind (wpAny_field hz rfl (x := .ref TI) rfl ?_)
  refine wpAny_bind (wpAny_seqItems hTI rfl ?_)
  show wpAny _ _ (Builtin.SmallTypes.ownedTupleIsFree (.ref z) >>= _) _ _ _
  refine wpAny_bind (hfree ?_)
  simp only [if_true]
  refine wpAny_bind (wpAny_rule (wpAny_bind (wpAny_field hz rfl (x := .ref TO) rfl ?_)))
  refine wpAny_bind (wpAny_setField_rec hz (by simp) fun ha za sa => ?_)
  replace za : Zf ha z TI TO .ellipsis n := za
  refine wpAny_bind ?_
  simp only [List.zipIdx_cons, List.zipIdx_nil, List.forIn_cons, List.forIn_nil]
  refine wpAny_bind (wpAny_bind (wpAny_onRaise ?_))
  show wpAny _ _ (Builtin.SmallTypes.nextOf (.ref i1) >>= _) _ _ _
  cases hx : xs[k1]? with
  | none =>
    refine wpAny_bind (wpAny_nextOf_list_end hh (h1.extBut sa.extBut D.i1z) (hl1.extBut sa.extBut D.l1z) hx fun hb e sb ee => ?_)
    obtain ⟨oe, ge, ce⟩ := ee
    have zb : Zf hb z TI TO .ellipsis n := sb _ _ D.i1z.symm za
    have ne : e ≠ z := fun q => by subst q; rw [zb] at ge; cases ge; simp at ce
    exact wpAny_setField_rec zb (by simp) fun hc _ sc => hE hc e (fun c o c1 _ c3 _ q => sc.extBut _ _ c1 (sb _ _ c3 (sa.extBut _ _ c1 q))) ⟨oe, sc.extBut _ _ ne ge, ce⟩
  | some x =>
    have hy : ys[k2]? = none := by
      rcases hend with q | q
      · rw [hx] at q; cases q
      · exact q
    refine wpAny_bind (wpAny_nextOf_list_item (h1.extBut sa.extBut D.i1z) (hl1.extBut sa.extBut D.l1z) hx fun hb ib sb => wpAny_pure ?_)
    have pb : IsPair hb TO a b := sb.extBut _ _ D.TOi1 (sa.extBut _ _ D.TOz hTO)
    refine wpAny_bind (wpAny_seqItems pb rfl (wpAny_bind (wpAny_updateSeq_pair pb fun hc pc sc => ?_)))
    refine wpAny_bind (wpAny_letGo (wpAny_pure ?_))
    refine wpAny_bind (wpAny_bind (wpAny_onRaise ?_))
    show wpAny _ _ (Builtin.SmallTypes.nextOf (.ref i2) >>= _) _ _ _
    have i2c := ((h2.extBut sa.extBut D.i2z).extBut sb.extBut D.i12.symm).extBut sc.extBut D.TOi2.symm
    have l2c := ((hl2.extBut sa.extBut D.l2z).extBut sb.extBut D.l2i1).extBut sc.extBut D.l2TO
    refine wpAny_bind (wpAny_nextOf_list_end hh i2c l2c hy fun hd e sd ee => ?_)
    obtain ⟨oe, ge, ce⟩ := ee
    have zd : Zf hd z TI TO .ellipsis n := sd _ _ D.i2z.symm (sc.extBut _ _ D.TOz.symm (sb.extBut _ _ D.i1z.symm za))
    have ne : e ≠ z := fun q => by subst q; rw [zd] at ge; cases ge; simp at ce
    exact wpAny_setField_rec zd (by simp) fun hf _ sf => hE hf e (fun c o c1 c2 c3 c4 q => sf.extBut _ _ c1 (sd _ _ c4 (sc.extBut _ _ c2 (sb.extBut _ _ c3 (sa.extBut _ _ c1 q))))) ⟨oe, sf.extBut _ _ ne ge, ce⟩
/-- one turn of a zip, whatever became of the tuple that it gave out -/
theorem zip_turn {a b : Value} {Q : Value → Shared → Prop} (D : ZipApart z TI TO i1 i2 l1 l2) (hz : Zst s.heap z TI TO)
    (hTI : IsPair s.heap TI (.ref i1) (.ref i2)) (hTO : IsPair s.heap TO a b) (h1 : s.heap.IsListIter i1 l1 k1) (h2 : s.heap.IsListIter i2 l2 k2) (hl1 : s.heap.IsList l1 xs) (hl2 : s.heap.IsList l2 ys) (hx : xs[k1]? = some x) (hy : ys[k2]? = some y)
    (hQ : ∀ h', Zst h' z TI TO → (∃ a b, IsPair h' TO a b) → h'.IsListIter i1 l1 (k1 + 1) → h'.IsListIter i2 l2 (k2 + 1) → IsPair h' s.heap.objs.size x y → h'.objs.size = s.heap.objs.size + 1 →
      (∀ c o, c ≠ z → c ≠ TO → c ≠ i1 → c ≠ i2 → s.heap.get? c = some o → h'.get? c = some o) → Q (.ref s.heap.objs.size) { s with heap := h' }) :
    wpAny (model prog w) A (Builtin.SmallTypes.nextOf (.ref z)) Q E s := by
  have ty : s.TypeIs (.ref z) "zip" := by
    rcases hz with hz | ⟨T, f, hz⟩
    · exact ⟨_, hz, rfl⟩
    · exact ⟨_, hz, rfl⟩
  unfold Builtin.SmallTypes.nextOf
  refine wpAny_bind (wpAny_callSpecial?_slot (name := Str.ofString "__next__") ty F.slot_zip_next (wpAny_call_entry F.slot_zip_next ty F.entry_zip_next ?_ (F.args_zip_next_1 _)))
  rcases hz with hz | ⟨T, f, hz⟩
  · exact zip_turn_free D hz (fun q => virgin_zip hz q) hTI hTO h1 h2 hl1 hl2 hx hy fun h' q1 q2 q3 q4 q5 q6 q7 => wpAny_pure (hQ h' q1 ⟨_, _, q2⟩ q3 q4 q5 q6 q7)
  · cases hT : s.heap.get? T with
    | none => exact zip_turn_free D hz (fun q => freed_zip hz hT q) hTI hTO h1 h2 hl1 hl2 hx hy fun h' q1 q2 q3 q4 q5 q6 q7 => wpAny_pure (hQ h' q1 ⟨_, _, q2⟩ q3 q4 q5 q6 q7)
    | some oT => exact zip_next_item_held D hz hT hTI h1 h2 hl1 hl2 hx hy fun h' q1 q3 q4 q5 q6 q7 =>
        wpAny_pure (hQ h' (.inr ⟨_, _, q1⟩) ⟨_, _, q7 _ _ D.TOz D.TOi1 D.TOi2 hTO⟩ q3 q4 q5 q6 fun c o c1 _ c3 c4 => q7 c o c1 c3 c4)
theorem zip_over {a b : Value} {Q : Value → Shared → Prop} (hh : A.handled = none) (D : ZipApart z TI TO i1 i2 l1 l2) (hz : Zst s.heap z TI TO)
    (hTI : IsPair s.heap TI (.ref i1) (.ref i2)) (hTO : IsPair s.heap TO a b) (h1 : s.heap.IsListIter i1 l1 k1) (h2 : s.heap.IsListIter i2 l2 k2) (hl1 : s.heap.IsList l1 xs) (hl2 : s.heap.IsList l2 ys) (hend : xs[k1]? = none ∨ ys[k2]? = none)
    (hE : ∀ h' e, (∀ c o, c ≠ z → c ≠ TO → c ≠ i1 → c ≠ i2 → s.heap.get? c = some o → h'.get? c = some o) → (∃ o, h'.get? e = some o ∧ o.cls = .type "StopIteration") → E (.ref e) { s with heap := h' }) :
    wpAny (model prog w) A (Builtin.SmallTypes.nextOf (.ref z)) Q E s := by
  have ty : s.TypeIs (.ref z) "zip" := by
    rcases hz with hz | ⟨T, f, hz⟩
    · exact ⟨_, hz, rfl⟩
    · exact ⟨_, hz, rfl⟩
  unfold Builtin.SmallTypes.nextOf
  refine wpAny_bind (wpAny_callSpecial?_slot (name := Str.ofString "__next__") ty F.slot_zip_next (wpAny_call_entry F.slot_zip_next ty F.entry_zip_next ?_ (F.args_zip_next_1 _)))
  rcases hz with hz | ⟨T, f, hz⟩
  · exact zip_over_free hh D hz (fun q => virgin_zip hz q) hTI hTO h1 h2 hl1 hl2 hend hE
  · cases hT : s.heap.get? T with
    | none => exact zip_over_free hh D hz (fun q => freed_zip hz hT q) hTI hTO h1 h2 hl1 hl2 hend hE
    | some oT => exact zip_next_end_held hh D hz hT hTI h1 h2 hl1 hl2 hend fun h' e q => hE h' e fun c o c1 _ c3 c4 => q c o c1 c3 c4
end
/-- one turn of an enumerate over whatever draws -/
theorem enum_turn {e it : Addr} {i : Int} {old : Value} {R : Value → Heap → Prop} {Q : Option Value → Shared → Prop} (he : IsEnum s.heap e it i old)
    (hn : ∀ {Q' : Value → Shared → Prop} {A' : Around} {E' : Value → Shared → Prop}, (∀ x h₁, R x h₁ → Q' x { s with heap := h₁ }) → wpAny (model prog w) A' (Builtin.SmallTypes.nextOf (.ref it)) Q' E' s)
    (hR : ∀ x h₁, R x h₁ → IsEnum h₁ e it i old)
    (hQ : ∀ x h₁ h', R x h₁ → IsEnumOut h' e it (i + 1) x h₁.objs.size → h'.get? h₁.objs.size = some { cls := .type "tuple", data := .seq #[.int i s.toks, x] } → h'.objs.size = h₁.objs.size + 1 →
      (∀ b o, b ≠ e → h₁.get? b = some o → h'.get? b = some o) → Q (some (.ref h₁.objs.size)) { s with heap := h', toks := s.toks + 1 }) : wpAny (model prog w) A (pyNext (.ref e)) Q E s := by
  have ty : s.TypeIs (.ref e) "enumerate" := ⟨_, he, rfl⟩
  unfold pyNext
  refine wpAny_bind (wpAny_attempt (wpAny_callSpecial?_slot (name := Str.ofString "__next__") ty F.slot_enumerate_next (wpAny_call_entry F.slot_enumerate_next ty F.entry_enumerate_next ?_ (F.args_enumerate_next_1 _))))
  obtain ⟨hp, gn, dr, tk, os⟩ := s
  show wpAny _ _ (field (.ref e) 2 >>= _) _ _ _
  refine wpAny_bind (wpAny_field he rfl (x := .ref it) rfl ?_)
  refine wpAny_bind (hn fun x ha ra => ?_)
  have ea := hR x ha ra
  show wpAny _ _ (field (.ref e) 3 >>= _) _ _ ⟨ha, gn, dr, tk, os⟩
  refine wpAny_bind (wpAny_field ea rfl (x := rawInt i) rfl ?_)
  show wpAny _ _ (field (.ref e) 4 >>= _) _ _ ⟨ha, gn, dr, tk, os⟩
  refine wpAny_bind (wpAny_field ea rfl (x := .none) rfl ?_)
  show wpAny _ _ (mkInt i >>= _) _ _ ⟨ha, gn, dr, tk, os⟩
  refine wpAny_bind (wpAny_mkInt ?_)
  show wpAny _ _ (setField (.ref e) 3 (rawInt (i + 1)) >>= _) _ _ ⟨ha, gn, dr, tk + 1, os⟩
  refine wpAny_bind (wpAny_setField_rec ea (by simp) fun hb eb sb => ?_)
  replace eb : IsEnum hb e it (i + 1) old := eb
  show wpAny _ _ (setField (.ref e) 4 .none >>= _) _ _ ⟨hb, gn, dr, tk + 1, os⟩
  refine wpAny_bind (wpAny_setField_rec eb (by simp) fun hc ec sc => ?_)
  replace ec : IsEnum hc e it (i + 1) old := ec
  show wpAny _ _ (newTuple [.int i tk, x] >>= _) _ _ ⟨hc, gn, dr, tk + 1, os⟩
  refine wpAny_bind (wpAny_newTuple ?_)
  have el : e < ha.objs.size := Heap.lt_size ea
  have size : hc.objs.size = ha.objs.size := by rw [sc.1, sb.1]
  have ed : IsEnum (hc.push { cls := .type "tuple", data := .seq #[.int i tk, x] }) e it (i + 1) old := Heap.get?_push_of_some _ ec
  have kd : ∀ b o, b ≠ e → ha.get? b = some o → (hc.push { cls := .type "tuple", data := .seq #[.int i tk, x] }).get? b = some o := fun b o ne q => Heap.get?_push_of_some _ (sc.extBut b o ne (sb.extBut b o ne q))
  have td : (hc.push { cls := .type "tuple", data := .seq #[.int i tk, x] }).get? ha.objs.size = some { cls := .type "tuple", data := .seq #[.int i tk, x] } := by
    rw [← size]
    exact Heap.get?_push_size _ rfl
  have zd : (hc.push { cls := .type "tuple", data := .seq #[.int i tk, x] }).objs.size = ha.objs.size + 1 := by rw [Heap.size_push, size]
  rw [size]
  generalize hc.push { cls := .type "tuple", data := .seq #[.int i tk, x] } = hd at ed kd td zd
  show wpAny _ _ (Builtin.SmallTypes.ownedTupleIsFree (.ref e) >>= _) _ _ ⟨hd, gn, dr, tk + 1, os⟩
  refine wpAny_bind ?_
  unfold Builtin.SmallTypes.ownedTupleIsFree
  refine wpAny_bind (wpAny_field ed rfl (x := .none) rfl (wpAny_pure ?_))
  simp only [if_true]
  refine wpAny_bind (wpAny_rule (wpAny_bind (wpAny_field ed rfl (x := old) rfl ?_)))
  refine wpAny_bind (wpAny_setField_rec ed (by simp) fun hf ef sf => ?_)
  replace ef : IsEnum hf e it (i + 1) x := ef
  show wpAny _ _ (Builtin.SmallTypes.ownedTupleHandOut (.ref e) (.ref ha.objs.size) >>= _) _ _ ⟨hf, gn, dr, tk + 1, os⟩
  refine wpAny_bind ?_
  unfold Builtin.SmallTypes.ownedTupleHandOut
  refine wpAny_bind (wpAny_setField_rec ef (by simp) fun hg eg sg => ?_)
  replace eg : IsEnumOut hg e it (i + 1) x ha.objs.size := eg
  refine wpAny_setField_rec eg (by simp) fun hk ek sk => ?_
  replace ek : IsEnumOut hk e it (i + 1) x ha.objs.size := ek
  have up : ∀ b o, b ≠ e → hd.get? b = some o → hk.get? b = some o := fun b o ne q => sk.extBut b o ne (sg.extBut b o ne (sf.extBut b o ne q))
  refine wpAny_bind (wpAny_letGo (wpAny_pure ⟨_, rfl, wpAny_pure (hQ x ha hk ra ek (up _ _ (Nat.ne_of_gt el) td) (by rw [sk.1, sg.1, sf.1, zd]) fun b o ne q => up b o ne (kd b o ne q))⟩))
theorem enum_over {e it : Addr} {i : Int} {old : Value} {R : Heap → Prop} {Q : Option Value → Shared → Prop} (he : IsEnum s.heap e it i old)
    (hn : ∀ {Q' : Value → Shared → Prop} {A' : Around} {E' : Value → Shared → Prop}, A'.handled = A.handled → (∀ h' e', R h' → (∃ o, h'.get? e' = some o ∧ o.cls = .type "StopIteration") → E' (.ref e') { s with heap := h' }) → wpAny (model prog w) A' (Builtin.SmallTypes.nextOf (.ref it)) Q' E' s)
    (hQ : ∀ h', R h' → Q none { s with heap := h' }) : wpAny (model prog w) A (pyNext (.ref e)) Q E s := by
  have ty : s.TypeIs (.ref e) "enumerate" := ⟨_, he, rfl⟩
  unfold pyNext
  refine wpAny_bind (wpAny_attempt (wpAny_callSpecial?_slot (name := Str.ofString "__next__") ty F.slot_enumerate_next (wpAny_call_entry F.slot_enumerate_next ty F.entry_enumerate_next ?_ (F.args_enumerate_next_1 _))))
  show wpAny _ _ (field (.ref e) 2 >>= _) _ _ _
  refine wpAny_bind (wpAny_field he rfl (x := .ref it) rfl ?_)
  refine wpAny_bind (hn rfl fun h' e' r ee => ?_)
  obtain ⟨o, ho, hc⟩ := ee
  exact wpAny_bind (wpAny_isInstance (T := "StopIteration") (b := true) ⟨o, ho, hc⟩ isSubtype_stop (wpAny_pure (hQ _ r)))
end
theorem meets_enum_zip (z : Addr) (TI TO : Addr) :
    Meets (Builtin.«enumerate.__new__» ⟨[.type "enumerate", .ref z], []⟩) (fun _ R s => IsZip s.heap z TI TO .none ∧
      R (.ok (.ret (.ref s.heap.objs.size))) { s with heap := s.heap.push { cls := .type "enumerate", data := .fields #[.none, .bool false, .ref z, rawInt 0, .none, .none] } }) :=
  .of_wp fun prog w A R s h => by
    obtain ⟨hp, gn, dr, tk, os⟩ := s
    obtain ⟨hz, h⟩ := h
    have hsub := sub_enumerate
    have q1 : ∀ {A' : Around} {E : Value → Shared → Prop} {Q : Value → Shared → Prop}, Q (.ref z) ⟨hp, gn, dr, tk, os⟩ → wpAny (model prog w) A' (pyIter (.ref z)) Q E ⟨hp, gn, dr, tk, os⟩ := fun q => wpAny_pyIter_zip (s := ⟨hp, gn, dr, tk, os⟩) hz q
    wp_walk using q1
    refine wpAny_stack_any fun st => wpAny_pure ?_
    split
    · rename_i c _ _ _ _ _
      cases (c == Value.type "enumerate")
      · wp_walk using q1
        exact ⟨_, rfl, h⟩
      · wp_walk using q1
        exact ⟨_, rfl, h⟩
    · wp_walk using q1
      exact ⟨_, rfl, h⟩
theorem call_enum_zip {prog : Program} {w : World} {A : Around} {E : Value → Shared → Prop} {s : Shared} {z TI TO : Addr} {Q : Value → Shared → Prop} (hz : IsZip s.heap z TI TO .none)
    (h : ∀ h', IsEnum h' s.heap.objs.size z 0 .none → h'.objs.size = s.heap.objs.size + 1 → (∀ b o, s.heap.get? b = some o → h'.get? b = some o) → Q (.ref s.heap.objs.size) { s with heap := h' }) :
    wpAny (model prog w) A (call (.type "enumerate") [.ref z]) Q E s := by
  refine callType_new F.called_enumerate (by decide) (F.typeCall_enumerate_1 _) (F.newCall_enumerate_1 _) (fun obj => F.args_object_init_2 obj _) F.entry_enumerate_new (meets_enum_zip z TI TO) ⟨hz, ?_⟩
  have he : IsEnum (s.heap.push { cls := .type "enumerate", data := .fields #[.none, .bool false, .ref z, rawInt 0, .none, .none] }) s.heap.objs.size z 0 .none := Heap.get?_push_size s.heap rfl
  exact ⟨⟨_, he, rfl⟩, h _ he (Heap.size_push ..) fun b o q => Heap.get?_push_of_some _ q⟩

/-- the lists at a and b as they stand at each turn: their items in new pairs, numbered in others -/
def Itez (K : PySem.W.Frag) (a b : Addr) : It :=
  ⟨fun i H => ∃ (xs ys : List V) (x y : V), SqL K H a xs ∧ SqL K H b ys ∧ xs[i]? = some x ∧ ys[i]? = some y,
    fun i H v H' => ∃ T U x y, v = .ref T ∧ H U = none ∧ upd H U (.tup [x, y]) T = none ∧ H' = upd (upd H U (.tup [x, y])) T (.tup [.int (i : Nat), .ref U]) ∧ (∀ xs, SqL K H a xs → xs[i]? = some x) ∧ ∀ ys, SqL K H b ys → ys[i]? = some y,
    fun i H => ∃ xs ys : List V, SqL K H a xs ∧ SqL K H b ys ∧ (xs.length ≤ i ∨ ys.length ≤ i)⟩
theorem turn_ez {P : Program} {w : World} {K : PySem.W.Frag} {elts : List Expr} {kk : Nat} {tpos : Pos} {a b e z TI TO i1 i2 : Addr} (D : ZipApart z TI TO i1 i2 a b) (hez : e ≠ z) (heI : e ≠ TI) (heO : e ≠ TO) (he1 : e ≠ i1) (he2 : e ≠ i2) :
    Turn P w K (.Tuple elts kk tpos) (Itez K a b) [e, z, TI, TO, i1, i2] e (fun i h => (∃ old, IsEnum h e z ((i : Nat) : Int) old) ∧ Zst h z TI TO ∧ IsPair h TI (.ref i1) (.ref i2) ∧ (∃ x y, IsPair h TO x y) ∧ h.IsListIter i1 a i ∧ h.IsListIter i2 b i) where
  mem := by simp
  obj := fun i h st c hc => by
    obtain ⟨⟨old, he⟩, hz, hTI, ⟨x, y, hTO⟩, ⟨o1, e1, _, d1⟩, ⟨o2, e2, _, d2⟩⟩ := st
    have e' : c = e ∨ c = z ∨ c = TI ∨ c = TO ∨ c = i1 ∨ c = i2 := by simpa using hc
    rcases e' with q | q | q | q | q | q
    · rw [q]
      exact ⟨_, he, fun v r => nomatch r⟩
    · rw [q]
      rcases hz with hz | ⟨_, _, hz⟩
      · exact ⟨_, hz, fun v r => nomatch r⟩
      · exact ⟨_, hz, fun v r => nomatch r⟩
    · rw [q]
      exact ⟨_, hTI, fun v r => nomatch r⟩
    · rw [q]
      exact ⟨_, hTO, fun v r => nomatch r⟩
    · rw [q]
      exact ⟨o1, e1, fun v r => by rw [d1] at r; cases r⟩
    · rw [q]
      exact ⟨o2, e2, fun v r => by rw [d2] at r; cases r⟩
  keep := fun i h h' st k => by
    obtain ⟨⟨old, he⟩, hz, hTI, ⟨x, y, hTO⟩, h1, h2⟩ := st
    exact ⟨⟨old, k e (by simp) _ he⟩, hz.imp (k z (by simp) _) fun ⟨T, f, q⟩ => ⟨T, f, k z (by simp) _ q⟩, k TI (by simp) _ hTI, ⟨x, y, k TO (by simp) _ hTO⟩, h1.at fun o q => k i1 (by simp) o q, h2.at fun o q => k i2 (by simp) o q⟩
  item := by
    intro X hP hw hK hc i pins s σ H E I hf st hg
    subst hP hw hK
    obtain ⟨⟨old, he⟩, hz, hTI, ⟨x0, y0, hTO⟩, h1, h2⟩ := st
    obtain ⟨xs, ys, x, y, hqx, hqy, hx, hy⟩ := hg
    obtain ⟨its, rv, p, _⟩ := I.list hqx
    obtain ⟨its2, rv2, p2, _⟩ := I.list hqy
    obtain ⟨u, hu, ru⟩ := rv.get hx
    obtain ⟨u2, hu2, ru2⟩ := rv2.get hy
    have le : e < s.heap.objs.size := Heap.lt_size he
    have lz : z < s.heap.objs.size := by rcases hz with hz | ⟨_, _, hz⟩ <;> exact Heap.lt_size hz
    have lI : TI < s.heap.objs.size := Heap.lt_size hTI
    have lO : TO < s.heap.objs.size := Heap.lt_size hTO
    have l1 : i1 < s.heap.objs.size := by obtain ⟨_, q, _⟩ := h1; exact Heap.lt_size q
    have l2 : i2 < s.heap.objs.size := by obtain ⟨_, q, _⟩ := h2; exact Heap.lt_size q
    have lt : ∀ c ∈ [e, z, TI, TO, i1, i2], c < s.heap.objs.size := fun c hcm => by
      have e' : c = e ∨ c = z ∨ c = TI ∨ c = TO ∨ c = i1 ∨ c = i2 := by simpa using hcm
      rcases e' with q | q | q | q | q | q <;> (rw [q]; assumption)
    refine enum_turn (i := (i : Int)) (R := fun v h' => v = .ref s.heap.objs.size ∧ Zst h' z TI TO ∧ (∃ a b, IsPair h' TO a b) ∧ h'.IsListIter i1 a (i + 1) ∧ h'.IsListIter i2 b (i + 1) ∧ IsPair h' s.heap.objs.size u u2 ∧ h'.objs.size = s.heap.objs.size + 1 ∧
      (∀ c o, c ≠ z → c ≠ TO → c ≠ i1 → c ≠ i2 → s.heap.get? c = some o → h'.get? c = some o)) he
      (fun k => zip_turn D hz hTI hTO h1 h2 p.isList p2.isList (x := u) (y := u2) (by simpa using hu) (by simpa using hu2) fun h' q1 q2 q3 q4 q5 q6 q7 => k _ h' ⟨rfl, q1, q2, q3, q4, q5, q6, q7⟩)
      (fun v h' r => r.2.2.2.2.2.2.2 _ _ hez heO he1 he2 he) fun v ha hb r eo tt sz kb => ?_
    obtain ⟨rfl, za, ⟨a0, b0, pa⟩, ia, ib, pp, sa, ka⟩ := r
    refine ⟨_, rfl, wpAny_letOwnedTupleGo_enum (s := { s with heap := hb, toks := s.toks + 1 }) eo fun hc' ec sc => ?_⟩
    have nT : ∀ c, c < s.heap.objs.size → c ≠ s.heap.objs.size := fun c q => Nat.ne_of_lt q
    have I1 : Inv X pins σ (upd H s.heap.objs.size (.tup [x, y])) { s with heap := ha } :=
      I.turnedNew (t' := s.toks) (ch := [e, z, TI, TO, i1, i2]) (fun c o hcn q => ka c o (fun z => hcn (by simp [z])) (fun z => hcn (by simp [z])) (fun z => hcn (by simp [z])) (fun z => hcn (by simp [z])) q) hf (Nat.le_refl _)
        ⟨by show 2 ≤ sizeLine; decide, [u, u2], .cons ru (.cons ru2 .nil), ⟨_, pp, rfl, _, rfl⟩⟩
    have hf1 : ∀ c ∈ [e], FpOk X pins (upd H s.heap.objs.size (.tup [x, y])) c := fun c hcm => by
      have q : c = e := by simpa using hcm
      have f := hf c (by simp [q])
      refine ⟨?_, f.2⟩
      rw [q, upd_ne (nT e le)]
      exact (hf e (by simp)).1
    have tc : hc'.get? ha.objs.size = some { cls := .type "tuple", data := .seq #[.int i s.toks, .ref s.heap.objs.size] } := (sc.2 _ (Nat.ne_of_gt (Nat.lt_of_lt_of_le le (by rw [sa]; exact Nat.le_succ _)))).trans tt
    have I2 : Inv X pins σ (upd (upd H s.heap.objs.size (.tup [x, y])) ha.objs.size (.tup [.int (i : Nat), .ref s.heap.objs.size])) { s with heap := hc', toks := s.toks + 1 } :=
      I1.turnedNew (t' := s.toks + 1) (ch := [e]) (fun c o hcn q => (sc.2 c (fun z => hcn (by simp [z]))).trans (kb c o (fun z => hcn (by simp [z])) q)) hf1 (Nat.le_refl _)
        ⟨by show 2 ≤ sizeLine; decide, [.int i s.toks, .ref s.heap.objs.size], .cons ⟨_, rfl⟩ (.cons rfl .nil), ⟨_, tc, rfl, _, rfl⟩⟩
    have up : ∀ c o, c ≠ e → ha.get? c = some o → hc'.get? c = some o := fun c o ne q => (sc.2 c ne).trans (kb c o ne q)
    refine ⟨.ref ha.objs.size, _, I2, rfl, ⟨_, s.heap.objs.size, x, y, rfl, I.hok.fresh (Nat.le_refl _), I1.hok.fresh (Nat.le_refl _), rfl, fun l hl => by rw [I.list_inj hl hqx]; exact hx, fun l hl => by rw [I.list_inj hl hqy]; exact hy⟩,
      ⟨⟨.ref s.heap.objs.size, ?_⟩, za.imp (up _ _ (Ne.symm hez)) (fun ⟨T, f, q⟩ => ⟨T, f, up _ _ (Ne.symm hez) q⟩), up _ _ (Ne.symm heI) (ka _ _ D.TIz D.TITO D.TIi1 D.TIi2 hTI), ⟨_, _, up _ _ (Ne.symm heO) pa⟩, ia.at fun o q => up _ o (Ne.symm he1) q, ib.at fun o q => up _ o (Ne.symm he2) q⟩, fun c hcm => ?_⟩
    · have e1 : ((i + 1 : Nat) : Int) = (i : Int) + 1 := by omega
      rw [e1]
      exact ec
    · have q := lt c hcm
      rw [upd_ne (Nat.ne_of_lt (Nat.lt_of_lt_of_le q (by rw [sa]; exact Nat.le_succ _))), upd_ne (Nat.ne_of_lt q)]
      exact (hf c hcm).1
  done := by
    intro X hP hw hK hc i pins s σ H E I hf st hg
    subst hP hw hK
    obtain ⟨⟨old, he⟩, hz, hTI, ⟨x0, y0, hTO⟩, h1, h2⟩ := st
    obtain ⟨xs, ys, hqx, hqy, hend⟩ := hg
    obtain ⟨its, rv, p, _⟩ := I.list hqx
    obtain ⟨its2, rv2, p2, _⟩ := I.list hqy
    have l1 := rv.length
    have l2 := rv2.length
    have ended : its.toArray[i]? = none ∨ its2.toArray[i]? = none := by
      rcases hend with q | q
      · exact .inl (by simp; omega)
      · exact .inr (by simp; omega)
    refine enum_over (R := fun h' => ∀ c o, c ≠ z → c ≠ TO → c ≠ i1 → c ≠ i2 → s.heap.get? c = some o → h'.get? c = some o) he (fun hA k => zip_over (hA.trans (I.ok.hd hc)) D hz hTI hTO h1 h2 p.isList p2.isList ended fun h' e' q ee => k h' e' q ee) fun h' q => ?_
    exact ⟨rfl, I.turnedL (t' := s.toks) (ch := [e, z, TI, TO, i1, i2]) (fun c o hcn g => q c o (fun z => hcn (by simp [z])) (fun z => hcn (by simp [z])) (fun z => hcn (by simp [z])) (fun z => hcn (by simp [z])) g) hf⟩
  self := fun A i s Q E st h => let ⟨⟨_, he⟩, _⟩ := st; wpAny_pyIter_enum he h
def iEz (K : PySem.W.Frag) (ta : TA) : TI := fun σ H R => ta σ H fun vs H1 => ∃ a b xs ys, vs = [.ref a, .ref b] ∧ SqL K H1 a xs ∧ SqL K H1 b ys ∧ R (Itez K a b) H1
theorem pi_ez {X : Cx} {e e2 : Expr} {ta : TA} {p pos p' pos' tpos : Pos} {elts : List Expr} {kk : Nat} (hg0 : Gl X "enumerate") (hm0 : X.mg "enumerate" = none) (hg : Gl X "zip") (hm : X.mg "zip" = none) (ha : PA X [e, e2] ta)
    (hs0 : starEach [Expr.Call (.Name "zip" p) [e, e2] [] pos] X.env = [(false, eval (.Call (.Name "zip" p) [e, e2] [] pos) X.env)] := by rfl)
    (hs : starEach [e, e2] X.env = (false, eval e X.env) :: starEach [e2] X.env := by rfl) (hpl : (backTo pos (starEach [e2] X.env)).any (·.1) = false := by rfl) :
    PI X (.Tuple elts kk tpos) (.Call (.Name "enumerate" p') [.Call (.Name "zip" p) [e, e2] [] pos] [] pos') (iEz X.K ta) := by
  refine ⟨fun pins s σ H R I h => ?_⟩
  refine Call_ (ld_blt I hg0 hm0 boot_enumerate (PyProof.Rows.callWith_type1 ?_ hs0 rfl))
  rw [hs0]
  refine Calls.spliced_cons ?_
  refine Call_ (ld_blt I hg hm PyProof.Rows.boot_zip (PyProof.Rows.callWith_type1 (thn (ha.run pos pins s σ H _ I h) fun us s1 ⟨vs, H1, I1, r1, q1⟩ => ?_) hs hpl))
  obtain ⟨a, b, xs, ys, ex, hqx, hqy, q⟩ := q1
  subst ex
  cases r1 with
  | cons r rr =>
    cases rr with
    | cons r' rr =>
      cases rr
      cases r
      cases r'
      obtain ⟨its, rv, p1, _⟩ := I1.list hqx
      obtain ⟨its2, rv2, p2, _⟩ := I1.list hqy
      have la : a < s1.heap.objs.size := p1.lt
      have lb : b < s1.heap.objs.size := p2.lt
      refine call_zip_2 p1.isList p2.isList fun h' hz hTI hTO h1 h2 hsz hk => ?_
      refine Calls.spliced_nil ?_
      refine call_enum_zip (s := { s1 with heap := h' }) hz fun h3 he hsz3 hk3 => wpAny_pyIter_enum he ?_
      have I2 : Inv X pins σ H1 { s1 with heap := h3 } := I1.kept (t' := s1.toks) fun c o q => hk3 c o (hk c o q)
      generalize hN : s1.heap.objs.size = N at *
      have hE : h'.objs.size = N + 5 := hsz
      have ad : ∀ {i j : Nat}, i ≠ j → (N : Nat) + i ≠ N + j := fun h q => h (Nat.add_left_cancel q)
      have ad0 : ∀ {i : Nat}, i ≠ 0 → (N : Nat) + i ≠ N := fun h q => h (Nat.add_left_cancel (k := 0) q)
      rw [show ({ s1 with heap := h' } : Shared).heap.objs.size = N + 5 from hE] at he ⊢
      refine ⟨N + 5, [N + 5, N + 4, N + 2, N + 3, N, N + 1], _, _, H1, rfl, I2, turn_ez (a := a) (b := b) (e := N + 5) (z := N + 4) (TI := N + 2) (TO := N + 3) (i1 := N) (i2 := N + 1) (PySem.W.ktu_apart N a b la lb) (ad (by decide) : (N : Nat) + 5 ≠ N + 4) (ad (by decide)) (ad (by decide)) (ad0 (by decide)) (ad (by decide)),
        ⟨⟨.none, he⟩, .inl (hk3 _ _ hz), hk3 _ _ hTI, ⟨_, _, hk3 _ _ hTO⟩, h1.at fun o q => hk3 _ o q, h2.at fun o q => hk3 _ o q⟩, fun c hcm => ?_, q⟩
      have e' : c = N + 5 ∨ c = N + 4 ∨ c = N + 2 ∨ c = N + 3 ∨ c = N ∨ c = N + 1 := by simpa using hcm
      have hle : (N : Nat) ≤ c := by
        rcases e' with z | z | z | z | z | z
        · rw [z]; exact Nat.le_add_right _ _
        · rw [z]; exact Nat.le_add_right _ _
        · rw [z]; exact Nat.le_add_right _ _
        · rw [z]; exact Nat.le_add_right _ _
        · rw [z]; exact Nat.le_refl _
        · rw [z]; exact Nat.le_add_right _ _
      exact I1.fpOk (by rw [hN]; exact hle) (I1.hok.fresh (by rw [hN]; exact hle))
variable {P : TokP} {K : PySem.W.Frag} {ks : List Kd} {ta tb : TE}
theorem ai_ez {α β : Type} [Rp K α] [Rp K β] {wa : TupT ks → (List α → Prop) → Prop} {wb : TupT ks → (List β → Prop) → Prop} (ha : AE P ks (rF K (List α)) ca ta wa) (hb : AE P ks (rF K (List β)) cb tb wb) :
    AI P K ks (Int × (α × β)) (ca + cb) (iEz K (tCons ta (tCons tb tNil))) (fun γ Q => wa γ fun xs => wb γ fun ys => Q (enumI (xs.zip ys))) := by
  refine ⟨fun γ Q Q' q z => ha.mono γ _ _ (fun a za => hb.mono γ _ _ (fun b zb => q _ zb) za) z, fun A b0 γ σ g H Q hb0 G R hw => ?_⟩
  refine ha.run A b0 γ σ g H _ (by omega) G R (ha.mono γ _ _ (fun xs zx u g1 H1 G1 e1 r1 => ?_) hw)
  refine hb.run A _ γ σ g1 H1 _ (by omega) G1 (R.ext G e1) (hb.mono γ _ _ (fun ys zy v g' H' G' e' r' => ?_) zx)
  obtain ⟨b, us, rfl, h', pr', hl'⟩ := r'
  obtain ⟨a, vs, rfl, h, pr, hl⟩ := rp_ext G1 e' r1
  have s1 : ∀ {A : Act} {g2 H2}, Le g' H' g2 H2 → SqL K H2 a vs := fun l => sq_of fz_sub (l.fz _ _ h)
  have s2 : ∀ {A : Act} {g2 H2}, Le g' H' g2 H2 → SqL K H2 b us := fun l => sq_of fz_sub (l.fz _ _ h')
  have el : (enumI (xs.zip ys)).length = min xs.length ys.length := by unfold enumI; rw [List.length_zip, rangeI_len, List.length_zip]; omega
  refine ⟨a, b, vs, us, rfl, sq_of fz_sub h, sq_of fz_sub h', zy _ g' H' (G'.up (by omega)) (e1.trans G1 e') ⟨(by rw [el]; omega), fun A2 b2 g2 H2 i G2 l hi => ⟨vs, us, s1 (A := A2) l, s2 (A := A2) l, ?_⟩, fun A2 b2 g2 H2 i G2 l hi => ?_, fun A2 b2 g2 H2 i x H3 G2 l hy y ey => ?_⟩⟩
  · rw [el] at hi
    rw [Paired.len pr, Paired.len pr']
    omega
  · rw [el] at hi
    have h1 : i < vs.length := by rw [Paired.len pr]; omega
    have h2 : i < us.length := by rw [Paired.len pr']; omega
    exact ⟨vs, us, vs[i], us[i], s1 (A := A2) l, s2 (A := A2) l, List.getElem?_eq_getElem h1, List.getElem?_eq_getElem h2⟩
  · obtain ⟨T, U, x1, x2, rfl, nU, nT, rfl, f1, f2⟩ := hy
    obtain ⟨G3, e3⟩ := G2.new0 (o := .tup [x1, x2]) nU
    obtain ⟨G4, e4⟩ := G3.new0 (o := .tup [.int (i : Nat), .ref U]) nT
    obtain ⟨y0, y1, y2⟩ := y
    have ey' : (enumI (xs.zip ys))[i]? = some (y0, y1, y2) := ey
    unfold enumI at ey'
    rw [List.getElem?_zip_eq_some] at ey'
    obtain ⟨k0, k12⟩ := ey'
    have k12 : (xs.zip ys)[i]? = some (y1, y2) := k12
    rw [List.getElem?_zip_eq_some] at k12
    obtain ⟨k1, k2⟩ := k12
    obtain ⟨z1, d1, q1⟩ := Paired.at pr k1
    obtain ⟨z2, d2, q2⟩ := Paired.at pr' k2
    have c1 := f1 _ (s1 (A := A2) l)
    have c2 := f2 _ (s2 (A := A2) l)
    rw [d1] at c1
    rw [d2] at c2
    cases c1
    cases c2
    have ei : y0 = (i : Int) := by
      unfold rangeI at k0
      rw [List.getElem?_map] at k0
      cases q : (List.range (xs.zip ys).length)[i]? with
      | none => rw [q] at k0; cases k0
      | some j =>
        rw [q] at k0
        have hl : i < (List.range (xs.zip ys).length).length := (List.getElem?_eq_some_iff.mp q).1
        rw [List.getElem?_eq_getElem hl, List.getElem_range] at q
        have hj : i = j := Option.some.inj q
        have k0' : 0 + (j : Int) = y0 := Option.some.inj k0
        omega
    have inner : Rp.rp K (Fz g2 (upd H2 U (.tup [x1, x2]))) (.ref U) (y1, y2) := ⟨U, _, _, rfl, fz_new_tup, rp_ext G2 e3 (Rp.mono l.fz q1), rp_ext G2 e3 (Rp.mono l.fz q2)⟩
    exact ⟨G4, e3.trans G3 e4, T, _, _, rfl, fz_new_tup, by rw [ei]; rfl, rp_ext G3 e4 inner⟩
end DL
/-! DL: two things of unlike kinds in one list, while, in, is, slices of the script, x *= e, xs[i][j] = e. -/
namespace DL
open PySem PySem.Spec PyProof.Rows L2
variable {P : TokP} {K : PySem.W.Frag} {ks ks' ks1 ks2 kb : List Kd} {r : Rk} {ta tb te : TE}
/-! ### [x, y] -/
structure LP (α β : Type) where
  a : α
  b : β
instance {α β : Type} [Rp K α] [Rp K β] : Rp K (LP α β) := ⟨fun F v x => ∃ a v1 v2, v = .ref a ∧ F a = some (.lst [v1, v2]) ∧ Rp.rp K F v1 x.a ∧ Rp.rp K F v2 x.b,
  fun s ⟨a, v1, v2, e, h, q1, q2⟩ => ⟨a, v1, v2, e, s _ _ h, Rp.mono s q1, Rp.mono s q2⟩⟩
instance {α β : Type} [Rp K α] [Rp K β] : NN K (LP α β) := ⟨fun ⟨_, _, _, h, _⟩ z => by cases h; cases z⟩
section
variable {α β : Type} [Rp K α] [Rp K β]
theorem ae_lp {t : TA} {wt : TupT ks → (TupV [vF K α, vF K β] → Prop) → Prop} (h : AA P ks [vF K α, vF K β] ct t wt) : AE P ks (rF K (LP α β)) ct (tLst t) (fun γ Q => wt γ fun xs => Q ⟨xs.1, xs.2.1⟩) := by
  refine ⟨fun γ Q Q' q z => h.mono γ _ _ (fun a za => q _ za) z, fun A b0 γ σ g H Q hb0 G R hw => ?_⟩
  refine h.run A b0 γ σ g H _ (by omega) G R (h.mono γ _ _ (fun xs z vs g1 H1 G1 e1 rv => ?_) hw)
  obtain ⟨v1, r1, rfl, h1, v2, r2, rfl, h2, rfl⟩ := rv
  refine ⟨by show 2 ≤ sizeLine; decide, fun p hp => ?_⟩
  obtain ⟨G2, e2⟩ := G1.new (o := .lst [v1, v2]) (t := .frz) hp (fun z => nomatch z)
  exact z _ (tagAt g1 p .frz) _ (G2.up (by omega)) (e1.trans G1 e2) ⟨p, v1, v2, rfl, fz_some.mpr ⟨upd_same, .inr (by rw [tagAt_same]; rfl)⟩, rp_ext G1 e2 h1, rp_ext G1 e2 h2⟩
theorem ae_lpA {wa : TupT ks → (LP α β → Prop) → Prop} (ha : AE P ks (rF K (LP α β)) ca ta wa) : AE P ks (rF K α) ca (tOp (rIxL K) ta (tC (.int 0))) (fun γ Q => wa γ fun x => Q x.a) :=
  AE.un (r := rF K α) (k := vF K (LP α β)) (rr := fun x H Q => rIxL K x (.int 0) H Q) (f := fun x Q => Q x.a) ha (fun _ _ _ h => h) (fun _ _ _ q z => q _ z) fun A b0 g H x xs Q G rx z => by
    obtain ⟨a, v1, v2, rfl, h, h1, h2⟩ := rx
    exact ⟨a, _, 0, v1, rfl, rfl, sq_of fz_sub h, rfl, z _ g H (G.up (by omega)) (Ext.refl g H) h1⟩
theorem ae_lpB {wa : TupT ks → (LP α β → Prop) → Prop} (ha : AE P ks (rF K (LP α β)) ca ta wa) : AE P ks (rF K β) ca (tOp (rIxL K) ta (tC (.int 1))) (fun γ Q => wa γ fun x => Q x.b) :=
  AE.un (r := rF K β) (k := vF K (LP α β)) (rr := fun x H Q => rIxL K x (.int 1) H Q) (f := fun x Q => Q x.b) ha (fun _ _ _ h => h) (fun _ _ _ q z => q _ z) fun A b0 g H x xs Q G rx z => by
    obtain ⟨a, v1, v2, rfl, h, h1, h2⟩ := rx
    exact ⟨a, _, 1, v2, rfl, rfl, sq_of fz_sub h, rfl, z _ g H (G.up (by omega)) (Ext.refl g H) h2⟩
theorem ag_lp {g1 g2 : TG} {put1 : TupT ks → α → TupT ks1} {put2 : TupT ks1 → β → TupT ks2} {s1 s2 : List Nat} (h1 : AG K ks α ks1 g1 put1 s1) (h2 : AG K ks1 β ks2 g2 put2 s2) :
    AG K ks (LP α β) ks2 (gUnl K 2 (gCons g1 (gCons g2 gNil))) (fun γ x => put2 (put1 γ x.a) x.b) (s1 ++ s2) := ⟨fun v x γ σ g H Q R rv q => by
  obtain ⟨a, v1, v2, rfl, h, r1, r2⟩ := rv
  refine ⟨a, _, rfl, sq_of fz_sub h, rfl, v1, [v2], rfl, h1.run v1 x.a γ σ g H _ R r1 fun σ1 R1 w1 => ⟨v2, [], rfl, h2.run v2 x.b _ σ1 g H _ R1 r2 fun σ2 R2 w2 => ⟨rfl, q σ2 R2 fun vs hv => ?_⟩⟩⟩
  rw [w2 vs fun i hi => hv i (List.mem_append_right _ hi), w1 vs fun i hi => hv i (List.mem_append_left _ hi)]⟩
end
/-! ### while -/
def wWhL {Γ : Type} (tst : Γ → (Bool → Prop) → Prop) (body : Γ → (Γ → Prop) → (Γ → Prop) → Prop) (N : Γ → Prop) : Nat → Γ → Prop
  | 0, _ => False
  | n + 1, γ => tst γ fun b => if b = true then body γ (wWhL tst body N n) N else N γ
theorem as_while {tt : TT} {tb' : TS} {ksl : List Kd} {wt : TupT ksl → (Bool → Prop) → Prop} {wb : TupT ksl → We ksl r ksl → Prop} (k : Wk ks ksl) (ht : AT P ksl ct tt wt) (hb : AS P ksl ksl r ksl cb tb' wb) :
    AS P ks ksl r kb (9223372036854775808 * (ct + cb)) (tWhile tt tb') (fun γ E => ∃ n : Nat, n ≤ 9223372036854775808 ∧ wWhL wt (fun γ' nx bk => wb γ' ⟨nx, E.rt, bk, nx⟩) E.nx n (k.to γ)) := by
  have fm : ∀ (E E' : We ksl r kb), E.Imp E' → ∀ (n : Nat) γ', wWhL wt (fun γ' nx bk => wb γ' ⟨nx, E.rt, bk, nx⟩) E.nx n γ' → wWhL wt (fun γ' nx bk => wb γ' ⟨nx, E'.rt, bk, nx⟩) E'.nx n γ' := by
    intro E E' i n
    induction n with
    | zero => exact fun γ' z => z
    | succ n ih =>
      refine fun γ' z => ht.mono _ _ _ (fun b zb => ?_) z
      cases b with
      | true => exact hb.mono _ _ _ ⟨ih, i.rt, i.nx, ih⟩ zb
      | false => exact i.nx _ zb
  refine ⟨fun γ E E' i ⟨n, hn, z⟩ => ⟨n, hn, fm E E' i n _ z⟩, fun A b0 γ σ g H D hb0 G R hw => ?_⟩
  obtain ⟨n, hn, z0⟩ := hw
  generalize hT : b0 + 9223372036854775808 * (ct + cb) = T at z0
  have step : ∀ i, i < n → b0 + i * (ct + cb) + (ct + cb) ≤ T ∧ b0 + i * (ct + cb) + (ct + cb) = b0 + (i + 1) * (ct + cb) := fun i hi => by
    have hm : (i + 1) * (ct + cb) ≤ 9223372036854775808 * (ct + cb) := Nat.mul_le_mul_right (ct + cb) (by omega)
    rw [Nat.succ_mul] at hm ⊢
    omega
  refine ⟨fun m σ' H' => ∃ i γ' g', m + i = n ∧ Good P A (b0 + i * (ct + cb)) g' H' ∧ Le g H g' H' ∧ RelL ksl 0 γ' σ' g' H' ∧ wWhL wt (fun γ' nx bk => wb γ' ⟨nx, Wr P A T r D.rt, bk, nx⟩) (Wt P A T g H ksl D.nx) m γ', ⟨n, 0, k.to γ, g, by omega, G.up (by omega), Le.refl g H, k.ok R, z0⟩, ?_⟩
  rintro m σ' H' ⟨i, γ', g', hmi, G', l', R', z⟩
  cases m with
  | zero => exact z.elim
  | succ m =>
    obtain ⟨st1, st2⟩ := step i (by omega)
    refine ht.run A _ γ' σ' g' H' _ (by omega) G' R' (ht.mono _ _ _ (fun b zb g2 H2 G2 e2 => ?_) z)
    have l2 := l'.trans (e2.le G')
    cases b with
    | false => exact zb σ' g2 H2 (G2.up (by omega)) l2 (R'.ext G' e2)
    | true =>
      refine ⟨fun σ3 H3 => ∃ γ3 g3, Good P A (b0 + (i + 1) * (ct + cb)) g3 H3 ∧ Le g H g3 H3 ∧ RelL ksl 0 γ3 σ3 g3 H3 ∧ wWhL wt (fun γ' nx bk => wb γ' ⟨nx, Wr P A T r D.rt, bk, nx⟩) (Wt P A T g H ksl D.nx) m γ3,
        fun σ3 H3 ⟨γ3, g3, a1, a2, a3, a4⟩ => ⟨m, by omega, i + 1, γ3, g3, by omega, a1, a2, a3, a4⟩, ?_⟩
      refine hb.run A _ γ' σ' g2 H2 _ (by omega) G2 (R'.ext G' e2) (hb.mono _ _ _ ?_ zb)
      exact ⟨fun γ4 z4 σ4 g4 H4 G4 l4 R4 => ⟨γ4, g4, G4.up (by omega), l2.trans l4, R4, z4⟩, fun _ h v g5 H5 G5 => h v g5 H5 (G5.up (by omega)), fun γ4 z4 σ4 g4 H4 G4 l4 R4 => z4 σ4 g4 H4 (G4.up (by omega)) (l2.trans l4) R4,
        fun γ4 z4 σ4 g4 H4 G4 l4 R4 => ⟨γ4, g4, G4.up (by omega), l2.trans l4, R4, z4⟩⟩
/-- .. by what gets less -/
theorem wwh_inv {Γ : Type} {tst : Γ → (Bool → Prop) → Prop} {body : Γ → (Γ → Prop) → (Γ → Prop) → Prop} {N : Γ → Prop} {γ : Γ} (Inv : Nat → Γ → Prop) (m : Nat) (hm : m < 9223372036854775808) (h0 : Inv m γ)
    (step : ∀ m γ nx, Inv m γ → (∀ m' γ', m' < m → Inv m' γ' → nx γ') → tst γ fun b => if b = true then body γ nx N else N γ) : ∃ n : Nat, n ≤ 9223372036854775808 ∧ wWhL tst body N n γ := by
  refine ⟨m + 1, by omega, ?_⟩
  have aux : ∀ (n m : Nat) (γ : Γ), m < n → Inv m γ → wWhL tst body N n γ := by
    intro n
    induction n with
    | zero => intro m γ h; omega
    | succ n ih => exact fun m γ h hi => step m γ _ hi fun m' γ' h' hi' => ih m' γ' (by omega) hi'
  exact aux _ m γ (by omega) h0
/-! ### in -/
theorem inV_int (x : Int) : ∀ ns : List Int, inV (.int x) (ns.map V.int) = decide (x ∈ ns)
  | [] => rfl
  | n :: ns => by
    have ih := inV_int x ns
    unfold inV at ih ⊢
    rw [List.map_cons, List.any_cons, ih]
    show (n == x || _) = _
    by_cases e : n = x
    · subst e
      rw [decide_eq_true (List.mem_cons_self : n ∈ n :: ns)]
      simp
    · rw [show (n == x) = false from beq_false_of_ne e, Bool.false_or]
      exact decide_eq_decide.mpr ⟨List.mem_cons_of_mem _, fun h => (List.mem_cons.mp h).resolve_left (Ne.symm e)⟩
theorem ints_flat : ∀ ns : List Int, (ns.map V.int).all flatV = true
  | [] => rfl
  | _ :: ns => ints_flat ns
section
variable {wa : TupT ks → (Int → Prop) → Prop} {wb : TupT ks → (List Int → Prop) → Prop}
theorem ae_inI (ha : AE P ks (rF K Int) ca ta wa) (hb : AE P ks (rF K (List Int)) cb tb wb) : AE P ks (rF K Bool) (ca + cb) (tOp (rIn K false) ta tb) (fun γ Q => wa γ fun x => wb γ fun ns => Q (decide (x ∈ ns))) :=
  AE.op2 (r := rF K Bool) (k1 := vF K Int) (k2 := vF K (List Int)) (f := fun x ns Q => Q (decide (x ∈ ns))) ha hb (fun _ _ _ _ q z => q _ z) fun A b0 g H u v x ns Q G ru rv z => by
    obtain ⟨a, vs, rfl, h, pr, hl⟩ := rv
    have eu : u = .int x := ru
    subst eu
    have ev := paired_int pr
    subst ev
    refine ⟨a, _, rfl, .inl (sq_of fz_sub h), rfl, ints_flat ns, z _ g H (G.up (by omega)) (Ext.refl g H) ?_⟩
    show V.bl _ = V.bl _
    rw [inV_int]
    rfl
theorem ae_notInI (ha : AE P ks (rF K Int) ca ta wa) (hb : AE P ks (rF K (List Int)) cb tb wb) : AE P ks (rF K Bool) (ca + cb) (tOp (rIn K true) ta tb) (fun γ Q => wa γ fun x => wb γ fun ns => Q (!decide (x ∈ ns))) :=
  AE.op2 (r := rF K Bool) (k1 := vF K Int) (k2 := vF K (List Int)) (f := fun x ns Q => Q (!decide (x ∈ ns))) ha hb (fun _ _ _ _ q z => q _ z) fun A b0 g H u v x ns Q G ru rv z => by
    obtain ⟨a, vs, rfl, h, pr, hl⟩ := rv
    have eu : u = .int x := ru
    subst eu
    have ev := paired_int pr
    subst ev
    refine ⟨a, _, rfl, .inl (sq_of fz_sub h), rfl, ints_flat ns, z _ g H (G.up (by omega)) (Ext.refl g H) ?_⟩
    show V.bl _ = V.bl _
    rw [inV_int]
    rfl
end
/-! ### is True -/
section
variable {wa wb : TupT ks → (Bool → Prop) → Prop}
theorem ae_isB (ha : AE P ks (rF K Bool) ca ta wa) (hb : AE P ks (rF K Bool) cb tb wb) : AE P ks (rF K Bool) (ca + cb) (tOp (fun x y H Q => ∃ a b, x = .bl a ∧ y = .bl b ∧ Q (.bl (decide (a = b))) H) ta tb) (fun γ Q => wa γ fun x => wb γ fun y => Q (decide (x = y))) :=
  AE.op2 (r := rF K Bool) (k1 := vF K Bool) (k2 := vF K Bool) (f := fun x y Q => Q (decide (x = y))) ha hb (fun _ _ _ _ q z => q _ z) fun A b0 g H u v x y Q G ru rv z => ⟨x, y, ru, rv, z _ g H (G.up (by omega)) (Ext.refl g H) rfl⟩
theorem ae_isnotB (ha : AE P ks (rF K Bool) ca ta wa) (hb : AE P ks (rF K Bool) cb tb wb) : AE P ks (rF K Bool) (ca + cb) (tOp (fun x y H Q => ∃ a b, x = .bl a ∧ y = .bl b ∧ Q (.bl (!decide (a = b))) H) ta tb) (fun γ Q => wa γ fun x => wb γ fun y => Q (!decide (x = y))) :=
  AE.op2 (r := rF K Bool) (k1 := vF K Bool) (k2 := vF K Bool) (f := fun x y Q => Q (!decide (x = y))) ha hb (fun _ _ _ _ q z => q _ z) fun A b0 g H u v x y Q G ru rv z => ⟨x, y, ru, rv, z _ g H (G.up (by omega)) (Ext.refl g H) rfl⟩
end
/-! ### script[a:b] -/
theorem ae_sliceScr {tl th : TO} {wa : TupT ks → (Scr → Prop) → Prop} {wl wh : TupT ks → (Option Int → Prop) → Prop} (ha : AE P ks (rF K Scr) ca ta wa) (hl : AP P ks cl tl wl) (hh : AP P ks ch th wh) :
    AE P ks (rO K Int) (ca + cl + ch) (tSl (rSlL K) ta tl th) (fun γ Q => wa γ fun s => wl γ fun l => wh γ fun h => Q (cutL s.xs l h)) := by
  refine ⟨fun γ Q Q' q z => ha.mono γ _ _ (fun a za => hl.mono γ _ _ (fun b zb => hh.mono γ _ _ (fun c zc => q _ zc) zb) za) z, fun A b0 γ σ g H Q hb0 G R hw => ?_⟩
  refine ha.run A b0 γ σ g H _ (by omega) G R (ha.mono γ _ _ (fun xs za x g1 H1 G1 e1 r1 => ?_) hw)
  refine hl.run A _ γ σ g1 H1 _ (by omega) G1 (R.ext G e1) (hl.mono γ _ _ (fun l zl g2 H2 G2 e2 => ?_) za)
  refine hh.run A _ γ σ g2 H2 _ (by omega) G2 ((R.ext G e1).ext G1 e2) (hh.mono γ _ _ (fun u zu g3 H3 G3 e3 => ?_) zl)
  obtain ⟨a, rfl, h⟩ := rp_ext G2 e3 (rp_ext G1 e2 r1)
  refine ⟨a, _, rfl, Same.seq fz_sub h, fun p hp => ?_⟩
  have e13 := (e1.trans G1 e2).trans G2 e3
  refine newlist (xs := cutL xs.xs l u) G3 hp ?_ (Nat.le_trans (cutL_le _ l u) (by have := xs.le; omega)) fun v g' H' G' e' r' => zu v g' H' (G'.up (by omega)) (e13.trans G3 e') ((rO K Int).start (fun a ha => e13.keeps G3 ha) r')
  unfold cutV cutL
  rw [List.length_map]
  exact Paired.take' _ (Paired.drop' _ int_paired)
/-! ### products of any size -/
def CMulA (i j : Int) : Prop := CMul i j ∨ CMulW i j
theorem CMulA.ok {i j : Int} (h : CMulA i j) : IntMulOk i j := h.elim CMul.ok CMulW.ok
theorem op_mulA {X : Cx} : OpR X (binaryOp .Mult) (rI CMulA fun i j => .int (i * j)) := opI fun _ _ _ _ _ _ _ hc q => mul_int q hc.ok
def ipMulA : TIp := fun x y H Q => ∃ i j, x = .int i ∧ y = .int j ∧ CMulA i j ∧ Q (.int (i * j)) H
theorem ip_mulA {X : Cx} : PIp X .Mult ipMulA := by
  intro pins s σ H x y v u Q I r1 r2 h
  obtain ⟨i, j, e1, e2, hc, q⟩ := h
  subst e1; subst e2
  obtain ⟨t, rfl⟩ := r1
  obtain ⟨t', rfl⟩ := r2
  exact imul_int ⟨.int _, H, I.tok _, ⟨_, rfl⟩, q⟩ hc.ok
theorem ae_mulA {wa wb : TupT ks → (Int → Prop) → Prop} (ha : AE P ks (rF K Int) ca ta wa) (hb : AE P ks (rF K Int) cb tb wb) : AE P ks (rF K Int) (ca + cb) (tOp (rI CMulA fun i j => .int (i * j)) ta tb) (w2c CMulA (fun i j => i * j) wa wb) := ae_I (fun _ _ _ => rfl) ha hb
theorem as_augMul {n : Nat} {w : TupT ks → (Int → Prop) → Prop} (a : Acc ks n (kF K Int)) (p : Put ks n (kF K Int) ks') (he : AE P ks (rF K Int) ce te w) : AS P ks ks' r kb ce (tAug n te ipMulA) (fun γ E => w γ fun x => CMulA (a.get γ) x ∧ ∀ y, y = a.get γ * x → E.nx (p.put γ y)) := by
  refine ⟨fun γ E E' i z => he.mono γ _ _ (fun x zx => ⟨zx.1, fun y ey => i.nx _ (zx.2 y ey)⟩) z, fun A b0 γ σ g H D hb0 G R hw => ?_⟩
  obtain ⟨y, e, v0, rfl, h0⟩ := a.ok R
  refine ⟨_, e, ?_⟩
  refine he.run A b0 γ σ g H _ (by omega) G R (he.mono γ _ _ (fun x zx v g' H' G' e' r' => ⟨a.get γ, x, h0, r', zx.1, ?_⟩) hw)
  exact zx.2 _ rfl _ g' H' (G'.up (by omega)) (e'.le G) (p.ok R (e'.le G) (fun j _ => (e'.lx G).ow j) ⟨_, rfl, rfl⟩)
/-! ### a, b = a new list, any value -/
theorem as_parOF {α : Type} [Rp K α] {k2 : Vk} {i j : Nat} {wa : TupT ks → (List α → Prop) → Prop} {wb : TupT ks → (k2.T → Prop) → Prop} (ha : AE P ks (rO K α) ca ta wa) (hb : AE P ks (rV k2) cb tb wb) (hij : i ≠ j) (p1 : Put ks i (kO K α) ks1) (p2 : Put ks1 j (kV k2) ks') :
    AS P ks ks' r kb (ca + cb) (tPar i j (tCons ta (tCons tb tNil))) (fun γ E => wa γ fun x => wb γ fun y => ∀ a b, a = x → b = y → E.nx (p2.put (p1.put γ a) b)) := by
  refine ⟨fun γ E E' im z => ha.mono γ _ _ (fun x zx => hb.mono γ _ _ (fun y zy a b ea eb => im.nx _ (zy a b ea eb)) zx) z, fun A b0 γ σ g H D hb0 G R hw => ?_⟩
  refine ha.run A b0 γ σ g H _ (by omega) G R (ha.mono γ _ _ (fun x zx v g1 H1 G1 e1 r1 => ?_) hw)
  refine hb.run A _ γ σ g1 H1 _ (by omega) G1 (R.ext G e1) (hb.mono γ _ _ (fun y zy u g2 H2 G2 e2 r2 => ?_) zx)
  obtain ⟨a, vs, rfl, h1, h2, h3, h4, hl⟩ := r1
  have q1 := e2 a _ h3
  have h2' : g2 a = .oth := q1.1.trans h2
  have h3' : H2 a = some (.lst vs) := q1.2 (by rw [h2]; simp)
  have hA : A.H0 a = none := G.ext.keeps G h1
  have Ga : Good P A (b0 + ca + cb) (tagAt g2 a (.own i)) H2 := G2.retag (t := .own i) hA h3' (by rw [h2']; simp) (fun z => nomatch z)
  have la : Le g2 H2 (tagAt g2 a (.own i)) H2 := le_tag (by rw [h2']; simp) (by rw [h2']; simp)
  have e12 := e1.trans G1 e2
  have l0 : Le g H (tagAt g2 a (.own i)) H2 := (e12.le G).trans la
  have R1 := p1.ok (y := some (.ref a)) (x := x) R l0 (fun k hk c o hc ho => by
    obtain ⟨z1, z2⟩ := (e12.lx G).ow k c o hc ho
    refine ⟨?_, z2⟩
    rw [tagAt_ne]
    · exact z1
    · intro z
      subst z
      rw [h2'] at z1
      cases z1) ⟨a, vs, rfl, by rw [Nat.zero_add]; exact tagAt_same, h3', Paired.rp_mono ((e2.le G1).fz.trans la.fz) h4, hl⟩
  have R2 := p2.ok (y := some u) (x := y) R1 (Le.refl _ H2) (fun k hk c o hc ho => ⟨hc, ho⟩) ⟨u, rfl, k2.mono la r2⟩
  exact ⟨_, _, rfl, zy _ _ rfl rfl _ _ H2 (Ga.up (by omega)) l0 R2⟩
/-! ### xs[i][j] = e -/
theorem as_setitemN {α : Type} [Rp K α] {n : Nat} {ti tj : TE} {w : TupT ks → (α → Prop) → Prop} {wi wj : TupT ks → (Int → Prop) → Prop} (a : Acc ks n (kN K α)) (p : Put ks n (kN K α) ks) (he : AE P ks (rF K α) ce te w) (hi : AE P ks (rF K Int) ci ti wi) (hj : AE P ks (rF K Int) cj tj wj) :
    AS P ks ks r kb (ce + ci + cj) (tAsg te (gSub (tOp (rIxL K) (tVar n) ti) tj rSetL)) (fun γ E => w γ fun x => wi γ fun i => ∃ j ys, ixN (a.get γ).length i = some j ∧ (a.get γ)[j]? = some ys ∧ wj γ fun l => ∃ m, ixN ys.length l = some m ∧ E.nx (p.put γ ((a.get γ).set j (ys.set m x)))) := by
  refine ⟨fun γ E E' im z => he.mono γ _ _ (fun x zx => hi.mono γ _ _ (fun i ⟨j, ys, q1, q2, q3⟩ => ⟨j, ys, q1, q2, hj.mono γ _ _ (fun l ⟨m, q4, q5⟩ => ⟨m, q4, im.nx _ q5⟩) q3⟩) zx) z, fun A b0 γ σ g H D hb0 G R hw => ?_⟩
  obtain ⟨y, e, b, bs, rfl, h1, h2, h3, h4, h5, hx⟩ := a.ok R
  refine he.run A b0 γ σ g H _ (by omega) G R (he.mono γ _ _ (fun x zx v g0 H0 G0 e0 r0 => ⟨_, e, ?_⟩) hw)
  have R0 := R.ext G e0
  refine hi.run A _ γ σ g0 H0 _ (by omega) G0 R0 (hi.mono γ _ _ (fun i ⟨j, ys, q1, q2, q3⟩ u g1 H1 G1 e1 r1 => ?_) zx)
  have R1 := R0.ext G0 e1
  obtain ⟨y1, f, b1, bs1, rfl, h1, h2, h3, h4, h5, hx⟩ := a.ok R1
  rw [e] at f
  cases f
  obtain ⟨q, vs, k1, k2, k3, k4, k5⟩ := h5.at q2
  have ix : atI (bs1.map V.ref) i = some (V.ref q) := by
    unfold atI
    rw [List.length_map, h5.len, q1]
    show (bs1.map V.ref)[j]? = _
    rw [List.getElem?_map, k1]
    rfl
  refine ⟨b, bs1.map V.ref, i, V.ref q, rfl, r1, .inl (.inl h2), ix, ?_⟩
  refine hj.run A _ γ σ g1 H1 _ (by omega) G1 R1 (hj.mono γ _ _ (fun l ⟨m, q4, q5⟩ z g2 H2 G2 e2 r2 => ?_) q3)
  have R2 := R1.ext G1 e2
  obtain ⟨y2, f2, b2, bs2, rfl, m1, m2, m3, m4, m5, mx⟩ := a.ok R2
  rw [e] at f2
  cases f2
  have same : bs2 = bs1 := by
    have := ((e2.lx G1).ow _ b _ h1 h2).2
    rw [m2] at this
    exact List.map_inj_right (fun _ _ z => V.ref.inj z) |>.mp (HO.lst.inj (Option.some.inj this))
  subst same
  obtain ⟨w1, w2⟩ := (e2.lx G1).ow _ q _ k2 k3
  have k4' := Paired.rp_mono (e2.le G1).fz k4
  have rx := rp_ext G1 e2 (rp_ext G0 e1 r0)
  obtain ⟨G3, l3, R3⟩ := own_writeN p G2 R2 e m1 m2 m3 m4 m5 mx k1 w2 (Paired.set' rx m k4') (by rw [List.length_set]; exact k5)
  exact ⟨q, vs, l, m, rfl, r2, w2, by rw [Paired.len k4]; exact q4, q5 σ g2 _ (G3.up (by omega)) ((((e0.le G).trans (e1.le G0)).trans (e2.le G1)).trans l3) R3⟩
end DL
/-! DL: (a, b) + (c,), a, b, c = x, y, z, lists of two kinds as data. -/
namespace DL
open PySem PySem.Spec PyProof.Rows L2
variable {P : TokP} {K : PySem.W.Frag} {ks ks' ks1 ks2 kb : List Kd} {r : Rk} {ta tb te : TE}
section
variable {α β δ : Type} [Rp K α] [Rp K β] [Rp K δ]
theorem ae_catP1 {wa : TupT ks → (α × β → Prop) → Prop} {wb : TupT ks → (δ → Prop) → Prop} (ha : AE P ks (rF K (α × β)) ca ta wa) (hb : AE P ks (rF K δ) cb tb wb) :
    AE P ks (rF K (T3 α β δ)) (ca + cb) (tOp (rCatT K) ta (tTup (tCons tb tNil))) (fun γ Q => wa γ fun x => wb γ fun y => Q ⟨x.1, x.2, y⟩) := by
  refine ⟨fun γ Q Q' q z => ha.mono γ _ _ (fun a za => hb.mono γ _ _ (fun b zb => q _ zb) za) z, fun A b0 γ σ g H Q hb0 G R hw => ?_⟩
  refine ha.run A b0 γ σ g H _ (by omega) G R (ha.mono γ _ _ (fun a za x g1 H1 G1 e1 r1 => ?_) hw)
  refine hb.run A _ γ σ g1 H1 _ (by omega) G1 (R.ext G e1) (hb.mono γ _ _ (fun b zb y g2 H2 G2 e2 r2 => ?_) za)
  refine ⟨by show 1 ≤ sizeLine; decide, fun q hq => ?_⟩
  obtain ⟨G3, e3⟩ := G2.new0 (o := .tup [y]) hq
  obtain ⟨a0, v1, v2, rfl, h, h1, h2⟩ := rp_ext G2 e3 (rp_ext G1 e2 r1)
  refine ⟨a0, q, _, _, rfl, rfl, h.sq fz_sub, .inl (.inl upd_same), (fun z => nomatch z), by show 3 ≤ sizeLine; decide, (fun z => nomatch z), fun _ p hp => ?_⟩
  obtain ⟨G4, e4⟩ := G3.new0 (o := .tup ([v1, v2] ++ [y])) hp
  exact zb _ g2 _ (G4.up (by omega)) (((e1.trans G1 e2).trans G2 e3).trans G3 e4) ⟨p, v1, v2, y, rfl, fz_new_tup, rp_ext G3 e4 h1, rp_ext G3 e4 h2, rp_ext G3 e4 (rp_ext G2 e3 r2)⟩
instance [ToD K α] [ToD K β] : ToD K (LP α β) := ⟨fun x => .list [ToD.toD K x.a, ToD.toD K x.b], fun {F v x} ⟨a, v1, v2, e, h, h1, h2⟩ => by
  subst e
  exact .lst (.inl (.inl h)) (.cons (ToD.ok h1) (.cons (ToD.ok h2) .nil))⟩
end
theorem as_par3 {k1 k2 k3 : Vk} {ks3 : List Kd} {i j l : Nat} {t : TA} {wt : TupT ks → (TupV [k1, k2, k3] → Prop) → Prop} (ht : AA P ks [k1, k2, k3] ct t wt) (p1 : Put ks i (kV k1) ks1) (p2 : Put ks1 j (kV k2) ks2) (p3 : Put ks2 l (kV k3) ks3) :
    AS P ks ks3 r kb ct (tPar3 i j l t) (fun γ E => wt γ fun xs => ∀ a b c, a = xs.1 → b = xs.2.1 → c = xs.2.2.1 → E.nx (p3.put (p2.put (p1.put γ a) b) c)) := by
  refine ⟨fun γ E E' im z => ht.mono γ _ _ (fun x zx a b c ea eb ec => im.nx _ (zx a b c ea eb ec)) z, fun A b0 γ σ g H D hb0 G R hw => ?_⟩
  refine ht.run A b0 γ σ g H _ (by omega) G R (ht.mono γ _ _ (fun xs zx vs g' H' G' e' r' => ?_) hw)
  obtain ⟨v1, _, rfl, h1, v2, _, rfl, h2, v3, _, rfl, h3, rfl⟩ := r'
  have R1 := p1.ok (y := some v1) (x := xs.1) R (e'.le G) (fun j _ => (e'.lx G).ow j) ⟨v1, rfl, h1⟩
  have R2 := p2.ok (y := some v2) (x := xs.2.1) R1 (Le.refl g' H') (fun j _ a o h h' => ⟨h, h'⟩) ⟨v2, rfl, h2⟩
  have R3 := p3.ok (y := some v3) (x := xs.2.2.1) R2 (Le.refl g' H') (fun j _ a o h h' => ⟨h, h'⟩) ⟨v3, rfl, h3⟩
  exact ⟨v1, v2, v3, rfl, zx _ _ _ rfl rfl rfl _ g' H' (G'.up (by omega)) (e'.le G) R3⟩
theorem eq3 {α β δ : Type} {x : α} {y : β} {z : δ} {R : α → β → δ → Prop} (h : R x y z) : ∀ a b c, a = x → b = y → c = z → R a b c := fun _ _ _ e f g => e ▸ f ▸ g ▸ h
end DL
/-! DL: plain laws: items of short lists, lists compared with [], loops that write into a list. -/
namespace DL
open PySem PySem.Spec PyProof.Rows L2
theorem atI_all {α : Type} {xs : List α} {i : Int} {R : α → Prop} (h0 : 0 ≤ i) (h1 : i < xs.length) (h : ∀ x ∈ xs, R x) : ∃ x, atI xs i = some x ∧ R x := by
  obtain ⟨x, e, _⟩ := atI_at h0 h1
  exact ⟨x, e, h x (atI_mem e)⟩
theorem atI_is {α : Type} {xs : List α} {i : Int} {x : α} {R : α → Prop} (h0 : 0 ≤ i) (h1 : xs[i.toNat]? = some x) (h : R x) : ∃ x, atI xs i = some x ∧ R x := by
  have hl : i.toNat < xs.length := (List.getElem?_eq_some_iff.mp h1).1
  obtain ⟨y, e, e2⟩ := atI_at (xs := xs) h0 (by omega)
  rw [h1] at e2
  cases e2
  exact ⟨x, e, h⟩
theorem ixN_is {n : Nat} {i : Int} {R : Nat → Prop} (h0 : 0 ≤ i) (h1 : i < n) (h : R i.toNat) : ∃ j, ixN n i = some j ∧ R j := ⟨_, ixN_at h0 h1, h⟩
theorem sz {n : Nat} (h : n ≤ 16000000) : n ≤ sizeLine := by rw [sizeLine_eq]; omega
theorem sz' {n : Nat} (h : n ≤ 16000000) : n < sizeLine := by rw [sizeLine_eq]; omega
theorem rg62 {i : Int} (h0 : -1000000000 ≤ i) (h1 : i < 1000000000) : -2 ^ 62 ≤ i ∧ i < 2 ^ 62 := by
  have e : (2 : Int) ^ 62 = 4611686018427387904 := by decide
  omega
theorem szr {lo : Int} {n : Nat} (h : n ≤ 16000000) : (rangeI lo n).length ≤ sizeLine := by rw [rangeI_len]; exact sz h
theorem sze {α : Type} {xs : List α} (h : xs.length ≤ 16000000) : (enumI xs).length ≤ sizeLine := by rw [enumI_len]; exact sz h
section
variable {K : PySem.W.Frag} {α : Type} [Rp K α] [ToD K α] {A B : Prop}
theorem toD_list (xs : List α) : ToD.toD K xs = .list (xs.map (ToD.toD K)) := rfl
theorem nil_eq {n : Nat} {xs : List α} (ho : okd n (ToD.toD K xs) = true) (hn : n ≤ 60) (h1 : xs = [] → A) (h2 : xs ≠ [] → B) :
    (SeqAt.shaped (ToD.toD K xs) = true ∧ SeqAt.shaped (ToD.toD K ([] : List α)) = true) ∧ if (ToD.toD K xs).eqv (ToD.toD K ([] : List α)) = true then A else B := by
  refine ⟨⟨shaped_of ho hn, rfl⟩, ?_⟩
  have e : (ToD.toD K xs).eqv (ToD.toD K ([] : List α)) = xs.isEmpty := eqv_nil _ _
  rw [e]
  cases xs with
  | nil => exact h1 rfl
  | cons x xs => exact h2 (List.cons_ne_nil _ _)
theorem nil_ne {n : Nat} {xs : List α} (ho : okd n (ToD.toD K xs) = true) (hn : n ≤ 60) (h1 : xs = [] → B) (h2 : xs ≠ [] → A) :
    (SeqAt.shaped (ToD.toD K xs) = true ∧ SeqAt.shaped (ToD.toD K ([] : List α)) = true) ∧ if (!(ToD.toD K xs).eqv (ToD.toD K ([] : List α))) = true then A else B := by
  refine ⟨⟨shaped_of ho hn, rfl⟩, ?_⟩
  have e : (ToD.toD K xs).eqv (ToD.toD K ([] : List α)) = xs.isEmpty := eqv_nil _ _
  rw [e]
  cases xs with
  | nil => exact h1 rfl
  | cons x xs => exact h2 (List.cons_ne_nil _ _)
end
theorem okd_ints {K : PySem.W.Frag} {n : Nat} {xs : List Int} (h : xs.length ≤ 16000000) : okd (n + 1) (ToD.toD K xs) = true := okd_map (by omega) fun _ _ => okd_int _
/-- a list by its items -/
theorem eq_mapr {α : Type} {l : List α} {n : Nat} {f : Nat → α} (h : l.length = n) (h2 : ∀ i, i < n → l[i]? = some (f i)) : l = (List.range n).map f := by
  refine List.ext_getElem? fun i => ?_
  by_cases hi : i < n
  · rw [h2 i hi, List.getElem?_map, List.getElem?_range hi]
    rfl
  · rw [List.getElem?_eq_none (by omega), List.getElem?_eq_none (by rw [List.length_map, List.length_range]; omega)]
theorem mapr_get {α : Type} {n : Nat} {f : Nat → α} {i : Nat} (h : i < n) : ((List.range n).map f)[i]? = some (f i) := by
  rw [List.getElem?_map, List.getElem?_range h]
  rfl
theorem mapr_len {α : Type} {n : Nat} {f : Nat → α} : ((List.range n).map f).length = n := by rw [List.length_map, List.length_range]
/-- a loop that writes into a list: want's cells, each once -/
def upds (F : Int → Int → Int) (want : List Int) (l : List Int) : List Int := want.foldl (fun l c => l.set c.toNat (F c (l.getD c.toNat 0))) l
theorem upds_len (F : Int → Int → Int) : ∀ (want l : List Int), (upds F want l).length = l.length
  | [], _ => rfl
  | c :: want, l => by
    show (upds F want _).length = _
    rw [upds_len F want, List.length_set]
theorem upds_get (F : Int → Int → Int) : ∀ (want l : List Int), want.Pairwise (· < ·) → (∀ c ∈ want, 0 ≤ c) → ∀ j : Nat, j < l.length → (upds F want l)[j]? = some (if (j : Int) ∈ want then F j (l.getD j 0) else l.getD j 0)
  | [], l, _, _, j, hj => by
    show l[j]? = _
    rw [if_neg (by simp), List.getD_eq_getElem?_getD, List.getElem?_eq_getElem hj]
    rfl
  | c :: want, l, hp, h0, j, hj => by
    obtain ⟨h1, h2⟩ := List.pairwise_cons.mp hp
    have hc := h0 c List.mem_cons_self
    show (upds F want _)[j]? = _
    rw [upds_get F want _ h2 (fun d hd => h0 d (List.mem_cons_of_mem _ hd)) j (by rw [List.length_set]; exact hj)]
    have hg : (l.set c.toNat (F c (l.getD c.toNat 0))).getD j 0 = if c.toNat = j then F c (l.getD c.toNat 0) else l.getD j 0 := by
      rw [List.getD_eq_getElem?_getD, List.getElem?_set]
      split
      · rename_i e
        rw [if_pos (by omega)]
        rfl
      · rw [List.getD_eq_getElem?_getD]
    rw [hg]
    by_cases e : c.toNat = j
    · have ec : c = (j : Int) := by omega
      have nw : (j : Int) ∉ want := fun h => by
        have := h1 _ h
        omega
      rw [if_neg nw, if_pos e, if_pos (by rw [ec]; exact List.mem_cons_self)]
      subst ec
      rw [Int.toNat_natCast]
    · rw [if_neg e]
      have : ((j : Int) ∈ c :: want) ↔ (j : Int) ∈ want := ⟨fun h => (List.mem_cons.mp h).resolve_left (by omega), List.mem_cons_of_mem _⟩
      by_cases k : (j : Int) ∈ want
      · rw [if_pos k, if_pos (this.mpr k)]
      · rw [if_neg k, if_neg fun h => k (this.mp h)]
/-- .. as a loop's reading: the list stands in the loop's state -/
theorem wfor_upds {Γ : Type} {body : Int → Γ → (Γ → Prop) → (Γ → Prop) → Prop} {N : Γ → Prop} (F : Int → Int → Int) (st : List Int → Γ) (n : Nat) : ∀ (want l : List Int), l.length = n → (∀ c ∈ want, 0 ≤ c ∧ c < n) →
    (∀ c ∈ want, ∀ l : List Int, l.length = n → ∀ v, l[c.toNat]? = some v → ∀ nx, nx (st (l.set c.toNat (F c v))) → body c (st l) nx N) → N (st (upds F want l)) → wForL body N want (st l)
  | [], l, _, _, _, h => h
  | c :: want, l, hl, hc, hb, h => by
    have h1 := hc c List.mem_cons_self
    have hv : l[c.toNat]? = some (l.getD c.toNat 0) := by
      rw [List.getD_eq_getElem?_getD, List.getElem?_eq_getElem (by omega)]
      rfl
    refine hb c List.mem_cons_self l hl _ hv _ ?_
    exact wfor_upds F st n want _ (by rw [List.length_set]; exact hl) (fun d hd => hc d (List.mem_cons_of_mem _ hd)) (fun d hd => hb d (List.mem_cons_of_mem _ hd)) h
/-- .. into one of two lists -/
theorem wfor_two {Γ : Type} {body : Int → Γ → (Γ → Prop) → (Γ → Prop) → Prop} {N : Γ → Prop} (F G : Int → Int → Int) (st : List Int → List Int → Γ) (n : Nat) : ∀ (want l k : List Int), l.length = n → k.length = n → (∀ c ∈ want, 0 ≤ c ∧ c < n) →
    (∀ c ∈ want, ∀ l k : List Int, l.length = n → k.length = n → ∀ v u, l[c.toNat]? = some v → k[c.toNat]? = some u → ∀ nx, nx (st (l.set c.toNat (F c v)) (k.set c.toNat (G c u))) → body c (st l k) nx N) → N (st (upds F want l) (upds G want k)) → wForL body N want (st l k)
  | [], l, k, _, _, _, _, h => h
  | c :: want, l, k, hl, hk, hc, hb, h => by
    have h1 := hc c List.mem_cons_self
    have hv : l[c.toNat]? = some (l.getD c.toNat 0) := by
      rw [List.getD_eq_getElem?_getD, List.getElem?_eq_getElem (by omega)]
      rfl
    have hu : k[c.toNat]? = some (k.getD c.toNat 0) := by
      rw [List.getD_eq_getElem?_getD, List.getElem?_eq_getElem (by omega)]
      rfl
    refine hb c List.mem_cons_self l k hl hk _ _ hv hu _ ?_
    exact wfor_two F G st n want _ _ (by rw [List.length_set]; exact hl) (by rw [List.length_set]; exact hk) (fun d hd => hc d (List.mem_cons_of_mem _ hd)) (fun d hd => hb d (List.mem_cons_of_mem _ hd)) h
theorem set_at {l : List Int} {i : Nat} {v : Int} (h : l[i]? = some v) : l.set i v = l := by
  refine List.ext_getElem? fun j => ?_
  rw [List.getElem?_set]
  have hi := (List.getElem?_eq_some_iff.mp h).1
  split
  · rename_i e
    subst e
    exact h.symm
  · rfl
theorem ite_t {b : Bool} {A B : Prop} (h1 : b = true → A) (h2 : b = false → B) : if b = true then A else B := by
  cases b with
  | true => exact h1 rfl
  | false => exact h2 rfl
theorem Paired.two {α β : Type} {F : α → β → Prop} {x y : α} {zs : List β} (h : Paired F [x, y] zs) : ∃ a b, zs = [a, b] ∧ F x a ∧ F y b := by
  cases h with
  | cons r t =>
    cases t with
    | cons r2 t2 =>
      cases t2
      exact ⟨_, _, rfl, r, r2⟩
theorem imax_is (a b : Int) : (imax a b = a ∨ imax a b = b) ∧ a ≤ imax a b ∧ b ≤ imax a b := ⟨imax_or a b, imax_l a b, imax_r a b⟩
theorem imin_is (a b : Int) : (imin a b = a ∨ imin a b = b) ∧ imin a b ≤ a ∧ imin a b ≤ b := ⟨imin_or a b, imin_l a b, imin_r a b⟩
/-- sums of pieces -/
theorem take_sum (f : Nat → Int) (n : Nat) : ∀ b, b ≤ n → (((List.range n).map f).take b).sum = pre f b
  | 0, _ => by rw [List.take_zero]; rfl
  | b + 1, h => by
    rw [List.take_add_one, mapr_get (by omega), List.sum_append, take_sum f n b (by omega)]
    show pre f b + (f b + 0) = pre f b + f b
    omega
theorem seg_sum (f : Nat → Int) {n : Nat} {a b : Int} (h0 : 0 ≤ a) (h1 : a ≤ b) (h2 : b ≤ n) : (cutL ((List.range n).map f) (some a) (some b)).sum = pre f b.toNat - pre f a.toNat := by
  unfold cutL
  rw [sIx_nat h0, sIx_nat (by omega), mapr_len, Nat.min_eq_left (by omega), Nat.min_eq_left (by omega), ← List.drop_take]
  have e : (((List.range n).map f).take b.toNat).take a.toNat ++ (((List.range n).map f).take b.toNat).drop a.toNat = ((List.range n).map f).take b.toNat := List.take_append_drop _ _
  have e2 := congrArg List.sum e
  rw [List.sum_append, List.take_take, Nat.min_eq_left (by omega), take_sum f n _ (by omega), take_sum f n _ (by omega)] at e2
  omega
theorem all_sum (f : Nat → Int) (n : Nat) : ((List.range n).map f).sum = pre f n := by
  have := take_sum f n n (Nat.le_refl _)
  rwa [List.take_of_length_le (by rw [mapr_len]; omega)] at this
theorem enumI_mapr {α : Type} (d : α) (xs : List α) : enumI xs = (List.range xs.length).map fun i : Nat => ((i : Int), xs.getD i d) := by
  refine eq_mapr (enumI_len xs) fun i hi => ?_
  unfold enumI
  rw [List.getElem?_zip_eq_some]
  refine ⟨?_, ?_⟩
  · unfold rangeI
    rw [mapr_get hi]
    show some ((0 : Int) + i) = some (i : Int)
    rw [Int.zero_add]
  · show xs[i]? = some (xs.getD i d)
    rw [List.getD_eq_getElem?_getD, List.getElem?_eq_getElem hi]
    rfl
end DL
/-! DL: a block's code by itself. -/
namespace DL
open PySem PySem.Spec PyProof.Rows L2
structure Cb (P : TokP) (ks ks' : List Kd) (r : Rk) (kb : List Kd) where
  c : Nat
  t : TS
  w : TupT ks → We ks' r kb → Prop
  ok : AS P ks ks' r kb c t w
end DL
/-! DL: in, index of flat things; range downwards; insert. -/
namespace DL
open PySem PySem.Spec PyProof.Rows L2
variable {P : TokP} {K : PySem.W.Frag} {ks ks' ks1 ks2 kb : List Kd} {r : Rk} {ta tb te : TE}
/-- flat things with their values -/
class Sca (K : PySem.W.Frag) (α : Type) [Rp K α] where
  emb : α → V
  rp : ∀ {F v x}, Rp.rp K F v x → v = emb x
  flat : ∀ x, flatV (emb x) = true
  dec : DecidableEq α
  eqv : ∀ x y, eqV (emb x) (emb y) = true ↔ x = y
instance : Sca K Int := ⟨V.int, fun h => h, fun _ => rfl, inferInstance, fun x y => by show (x == y) = true ↔ _; simp⟩
instance : Sca K Bool := ⟨V.bl, fun h => h, fun _ => rfl, inferInstance, fun x y => by show (x == y) = true ↔ _; simp⟩
instance : Sca K (Option Int) := ⟨fun x => match x with | none => .non | some i => .int i, fun {F v x} h => by
    cases x with
    | none => exact h
    | some i => exact h.2,
  fun x => by cases x <;> rfl, inferInstance, fun x y => by
    cases x <;> cases y
    · exact ⟨fun _ => rfl, fun _ => rfl⟩
    · exact ⟨(fun h => nomatch h), (fun h => nomatch h)⟩
    · exact ⟨(fun h => nomatch h), (fun h => nomatch h)⟩
    · rename_i a b
      show (a == b) = true ↔ _
      simp⟩
section
variable {α : Type} [Rp K α] [S : Sca K α]
theorem paired_sca {F : Hp} : ∀ {vs : List V} {xs : List α}, Paired (Rp.rp K F) vs xs → vs = xs.map (Sca.emb K)
  | _, _, .nil => rfl
  | _, _, .cons r t => by rw [List.map_cons, Sca.rp r, paired_sca t]
theorem sca_flat : ∀ xs : List α, (xs.map (Sca.emb K)).all flatV = true
  | [] => rfl
  | x :: xs => by
    rw [List.map_cons, List.all_cons, Sca.flat, sca_flat xs]
    rfl
def scaIn (K : PySem.W.Frag) {α : Type} [Rp K α] [S : Sca K α] (x : α) (xs : List α) : Bool := xs.any fun y => @decide (y = x) (S.dec y x)
theorem scaIn_iff {x : α} {xs : List α} : scaIn K x xs = true ↔ x ∈ xs := by
  unfold scaIn
  rw [List.any_eq_true]
  exact ⟨fun ⟨y, hy, e⟩ => (@of_decide_eq_true _ (S.dec y x) e) ▸ hy, fun h => ⟨x, h, @decide_eq_true _ (S.dec x x) rfl⟩⟩
theorem inV_sca (x : α) : ∀ xs : List α, inV (Sca.emb K x) (xs.map (Sca.emb K)) = scaIn K x xs
  | [] => rfl
  | y :: ys => by
    have ih := inV_sca x ys
    unfold inV scaIn at ih ⊢
    rw [List.map_cons, List.any_cons, List.any_cons, ih]
    congr 1
    by_cases e : y = x
    · subst e
      rw [(Sca.eqv (K := K) y y).mpr rfl, @decide_eq_true _ (S.dec y y) rfl]
    · rw [@decide_eq_false _ (S.dec y x) e]
      cases q : eqV (Sca.emb K y) (Sca.emb K x) with
      | false => rfl
      | true => exact absurd ((Sca.eqv (K := K) y x).mp q) e
variable {wa : TupT ks → (α → Prop) → Prop} {wb : TupT ks → (List α → Prop) → Prop}
theorem ae_inS (ha : AE P ks (rF K α) ca ta wa) (hb : AE P ks (rF K (List α)) cb tb wb) : AE P ks (rF K Bool) (ca + cb) (tOp (rIn K false) ta tb) (fun γ Q => wa γ fun x => wb γ fun xs => Q (scaIn K x xs)) :=
  AE.op2 (r := rF K Bool) (k1 := vF K α) (k2 := vF K (List α)) (f := fun x xs Q => Q (scaIn K x xs)) ha hb (fun _ _ _ _ q z => q _ z) fun A b0 g H u v x xs Q G ru rv z => by
    obtain ⟨a, vs, rfl, h, pr, hl⟩ := rv
    obtain rfl := Sca.rp ru
    obtain rfl := paired_sca pr
    refine ⟨a, _, rfl, .inl (sq_of fz_sub h), Sca.flat x, sca_flat xs, z _ g H (G.up (by omega)) (Ext.refl g H) ?_⟩
    show V.bl _ = V.bl _
    rw [inV_sca]
    rfl
theorem ae_notInS (ha : AE P ks (rF K α) ca ta wa) (hb : AE P ks (rF K (List α)) cb tb wb) : AE P ks (rF K Bool) (ca + cb) (tOp (rIn K true) ta tb) (fun γ Q => wa γ fun x => wb γ fun xs => Q (!scaIn K x xs)) :=
  AE.op2 (r := rF K Bool) (k1 := vF K α) (k2 := vF K (List α)) (f := fun x xs Q => Q (!scaIn K x xs)) ha hb (fun _ _ _ _ q z => q _ z) fun A b0 g H u v x xs Q G ru rv z => by
    obtain ⟨a, vs, rfl, h, pr, hl⟩ := rv
    obtain rfl := Sca.rp ru
    obtain rfl := paired_sca pr
    refine ⟨a, _, rfl, .inl (sq_of fz_sub h), Sca.flat x, sca_flat xs, z _ g H (G.up (by omega)) (Ext.refl g H) ?_⟩
    show V.bl _ = V.bl _
    rw [inV_sca]
    rfl
/-- x in (a, b) -/
theorem ae_inP {wp : TupT ks → (α × α → Prop) → Prop} (ha : AE P ks (rF K α) ca ta wa) (hb : AE P ks (rF K (α × α)) cb tb wp) : AE P ks (rF K Bool) (ca + cb) (tOp (rIn K false) ta tb) (fun γ Q => wa γ fun x => wp γ fun p => Q (scaIn K x [p.1, p.2])) :=
  AE.op2 (r := rF K Bool) (k1 := vF K α) (k2 := vF K (α × α)) (f := fun x p Q => Q (scaIn K x [p.1, p.2])) ha hb (fun _ _ _ _ q z => q _ z) fun A b0 g H u v x p Q G ru rv z => by
    obtain ⟨a, v1, v2, rfl, h, r1, r2⟩ := rv
    obtain rfl := Sca.rp ru
    obtain rfl := Sca.rp r1
    obtain rfl := Sca.rp r2
    refine ⟨a, _, rfl, .inr (h.sq fz_sub), Sca.flat x, sca_flat [p.1, p.2], z _ g H (G.up (by omega)) (Ext.refl g H) ?_⟩
    show V.bl _ = V.bl _
    have := inV_sca (K := K) x [p.1, p.2]
    rw [← this]
    rfl
theorem ae_notInP {wp : TupT ks → (α × α → Prop) → Prop} (ha : AE P ks (rF K α) ca ta wa) (hb : AE P ks (rF K (α × α)) cb tb wp) : AE P ks (rF K Bool) (ca + cb) (tOp (rIn K true) ta tb) (fun γ Q => wa γ fun x => wp γ fun p => Q (!scaIn K x [p.1, p.2])) :=
  AE.op2 (r := rF K Bool) (k1 := vF K α) (k2 := vF K (α × α)) (f := fun x p Q => Q (!scaIn K x [p.1, p.2])) ha hb (fun _ _ _ _ q z => q _ z) fun A b0 g H u v x p Q G ru rv z => by
    obtain ⟨a, v1, v2, rfl, h, r1, r2⟩ := rv
    obtain rfl := Sca.rp ru
    obtain rfl := Sca.rp r1
    obtain rfl := Sca.rp r2
    refine ⟨a, _, rfl, .inr (h.sq fz_sub), Sca.flat x, sca_flat [p.1, p.2], z _ g H (G.up (by omega)) (Ext.refl g H) ?_⟩
    show V.bl _ = V.bl _
    have := inV_sca (K := K) x [p.1, p.2]
    rw [← this]
    rfl
/-- xs.index(x): the first place -/
theorem ae_index (ha : AE P ks (rF K (List α)) ca ta wb) (hb : AE P ks (rF K α) cb tb wa) : AE P ks (rF K Int) (ca + cb) (tBM K "list" (rIndex K) ta (tCons tb tNil)) (fun γ Q => wb γ fun xs => wa γ fun x => ∃ j : Nat, xs[j]? = some x ∧ (∀ m, m < j → xs[m]? ≠ some x) ∧ Q (j : Int)) := by
  refine ⟨fun γ Q Q' q z => ha.mono γ _ _ (fun a za => hb.mono γ _ _ (fun b ⟨j, e1, e2, zb⟩ => ⟨j, e1, e2, q _ zb⟩) za) z, fun A b0 γ σ g H Q hb0 G R hw => ?_⟩
  refine ha.run A b0 γ σ g H _ (by omega) G R (ha.mono γ _ _ (fun xs zx v g1 H1 G1 e1 r1 => ?_) hw)
  obtain ⟨a, vs, ev, h, pr, hl⟩ := (show Rp.rp K (Fz g1 H1) v xs from r1)
  subst ev
  refine ⟨.inl ⟨rfl, vs, sq_of fz_sub h⟩, ?_⟩
  refine hb.run A _ γ σ g1 H1 _ (by omega) G1 (R.ext G e1) (hb.mono γ _ _ (fun x ⟨j, q1, q2, q3⟩ y g2 H2 G2 e2 r2 => ?_) zx)
  obtain ⟨a', vs', ea, h', pr', _⟩ := (show Rp.rp K (Fz g2 H2) (V.ref a) xs from rp_ext G1 e2 r1)
  cases ea
  obtain rfl := Sca.rp r2
  obtain rfl := paired_sca pr'
  refine ⟨a, _, _, j, Sca.emb K x, rfl, rfl, sq_of fz_sub h', Sca.flat x, sca_flat xs, by rw [List.getElem?_map, q1]; rfl, (Sca.eqv (K := K) x x).mpr rfl, fun m z hm hz => ?_, q3 _ g2 H2 (G2.up (by omega)) (e1.trans G1 e2) rfl⟩
  rw [List.getElem?_map] at hz
  cases e : xs[m]? with
  | none => rw [e] at hz; cases hz
  | some w =>
    rw [e] at hz
    cases hz
    cases q : eqV (Sca.emb K w) (Sca.emb K x) with
    | false => rfl
    | true =>
      obtain rfl := (Sca.eqv (K := K) w x).mp q
      exact absurd e (q2 m hm)
end
/-- hi, hi - 1, .. -/
def rangeD (hi : Int) (n : Nat) : List Int := (List.range n).map fun i : Nat => hi - (i : Int)
theorem rangeD_len (hi : Int) (n : Nat) : (rangeD hi n).length = n := by unfold rangeD; simp
theorem it_rngD {hi : Int} {n : Nat} {gs : Gh} {Hs : Hp} (hn : n ≤ 9223372036854775808) : ItOk P K (Itc hi (-1) n) (rangeD hi n) gs Hs := by
  refine ⟨by rw [rangeD_len]; exact hn, fun A b0 g H i _ _ h => ?_, fun A b0 g H i _ _ h => ?_, fun A b0 g H i x H' G _ h y e => ?_⟩
  · rw [rangeD_len] at h
    exact h
  · rw [rangeD_len] at h
    exact h
  · obtain ⟨rfl, rfl⟩ := h
    refine ⟨G, Ext.refl _ _, ?_⟩
    have hi' : i < n := by
      have := (List.getElem?_eq_some_iff.mp e).1
      rwa [rangeD_len] at this
    unfold rangeD at e
    rw [mapr_get hi'] at e
    cases e
    show V.int _ = V.int _
    congr 1
    omega
theorem ai_rangeD {wa wb : TupT ks → (Int → Prop) → Prop} (ha : AE P ks (rF K Int) ca ta wa) (hb : AE P ks (rF K Int) cb tb wb) : AI P K ks Int (ca + cb) (iRng3 (tCons ta (tCons tb (tCons (tUn (rU fun i => .int (-i)) (tC (.int 1))) tNil)))) (fun γ Q => wa γ fun i => wb γ fun j => (-(2 ^ 62) ≤ i ∧ i < 2 ^ 62 ∧ -(2 ^ 62) ≤ j ∧ j < 2 ^ 62) ∧ Q (rangeD i (i - j).toNat)) := by
  refine ⟨fun γ Q Q' q z => ha.mono γ _ _ (fun a za => hb.mono γ _ _ (fun b zb => ⟨zb.1, q _ zb.2⟩) za) z, fun A b0 γ σ g H Q hb0 G R hw => ?_⟩
  refine ha.run A b0 γ σ g H _ (by omega) G R (ha.mono γ _ _ (fun i zi x g1 H1 G1 e1 r1 => ?_) hw)
  refine hb.run A _ γ σ g1 H1 _ (by omega) G1 (R.ext G e1) (hb.mono γ _ _ (fun j ⟨bd, zj⟩ y g2 H2 G2 e2 r2 => ?_) zi)
  have r1 : x = .int i := r1
  have r2 : y = .int j := r2
  subst r1 r2
  refine ⟨1, rfl, i, j, -1, (i - j).toNat, rfl, RgC.neg bd.1 bd.2.1 bd.2.2.1 bd.2.2.2, ?_⟩
  have e : (2 : Int) ^ 62 = 4611686018427387904 := by decide
  exact zj _ g2 H2 (G2.up (by omega)) (e1.trans G1 e2) (it_rngD (by omega))
/-- xs.insert(i, y), i not below 0 -/
theorem as_insert {α : Type} [Rp K α] {n : Nat} {ti : TE} {w : TupT ks → (α → Prop) → Prop} {wi : TupT ks → (Int → Prop) → Prop} (a : Acc ks n (kO K α)) (p : Put ks n (kO K α) ks) (hi : AE P ks (rF K Int) ci ti wi) (he : AE P ks (rF K α) ce te w) :
    AS P ks ks r kb (ci + ce) (tDrop (tBM K "list" (fun x vs H Q => ∃ (l : Addr) (xs : List V) (i : Int) (y : V), x = .ref l ∧ vs = [.int i, y] ∧ H l = some (.lst xs) ∧ xs.length < sizeLine ∧ 0 ≤ i ∧ i < 2 ^ 63 ∧ Q .non (upd H l (.lst (xs.take i.toNat ++ [y] ++ xs.drop i.toNat)))) (tVar n) (tCons ti (tCons te tNil))))
      (fun γ E => wi γ fun i => w γ fun y => (a.get γ).length < sizeLine ∧ (0 ≤ i ∧ i < 2 ^ 63) ∧ E.nx (p.put γ ((a.get γ).take i.toNat ++ [y] ++ (a.get γ).drop i.toNat))) := by
  refine ⟨fun γ E E' im z => hi.mono γ _ _ (fun i zi => he.mono γ _ _ (fun x ⟨q1, q2, q3⟩ => ⟨q1, q2, im.nx _ q3⟩) zi) z, fun A b0 γ σ g H D hb0 G R hw => ?_⟩
  obtain ⟨y, e, b, vs, rfl, h1, h2, h3, hl⟩ := a.ok R
  refine ⟨_, e, .inl ⟨rfl, vs, .inl (.inl h2)⟩, ?_⟩
  refine hi.run A _ γ σ g H _ (by omega) G R (hi.mono γ _ _ (fun i zi u g1 H1 G1 e1 r1 => ?_) hw)
  refine he.run A _ γ σ g1 H1 _ (by omega) G1 (R.ext G e1) (he.mono γ _ _ (fun x ⟨q1, q2, q3⟩ v g2 H2 G2 e2 r2 => ?_) zi)
  have r1 : u = .int i := r1
  subst r1
  have R2 := (R.ext G e1).ext G1 e2
  obtain ⟨y2, f, b2, vs2, rfl, k1, k2, k3, kl⟩ := a.ok R2
  rw [e] at f
  cases f
  have pr : Paired (Rp.rp K (Fz g2 H2)) (vs2.take i.toNat ++ [v] ++ vs2.drop i.toNat) ((a.get γ).take i.toNat ++ [x] ++ (a.get γ).drop i.toNat) := Paired.app (Paired.app (Paired.take' _ k3) (.cons r2 .nil)) (Paired.drop' _ k3)
  obtain ⟨G3, l3, R3⟩ := own_write p G2 R2 e k1 k2 pr (by
    have := small1000 (Nat.le_refl 1000)
    simp only [List.length_append, List.length_take, List.length_drop, List.length_cons, List.length_nil]
    have hz := sizeLine_eq
    omega)
  exact ⟨b, vs2, i, v, rfl, rfl, k2, by rw [Paired.len k3]; exact q1, q2.1, q2.2, q3 σ g2 _ (G3.up (by omega)) (((e1.trans G1 e2).le G).trans l3) R3⟩
end DL
/-! DL: a dict from whole numbers to truths, owned by a slot. -/
namespace DL
open PySem PySem.Spec PyProof.Rows L2
variable {P : TokP} {K : PySem.W.Frag} {ks ks' ks1 ks2 kb : List Kd} {r : Rk} {ta tb te : TE}
abbrev DI := List (Int × Bool)
def encD (d : DI) : List (Key × V) := d.map fun p => (.inl p.1, .bl p.2)
def putI (d : DI) (k : Int) (b : Bool) : DI := if (d.any fun p => decide (p.1 = k)) = true then d.map (fun p => if p.1 = k then (p.1, b) else p) else d ++ [(k, b)]
def dropI (d : DI) (k : Int) : DI := d.filter fun p => decide (p.1 ≠ k)
def mergeI (d more : DI) : DI := more.foldl (fun acc p => putI acc p.1 p.2) d
theorem inl_iff {a b : Int} : (Sum.inl a : Key) = Sum.inl b ↔ a = b := ⟨Sum.inl.inj, fun h => h ▸ rfl⟩
theorem enc_put (d : DI) (k : Int) (b : Bool) : putK (encD d) (.inl k) (.bl b) = encD (putI d k b) := by
  unfold putK putI encD
  have e : ((d.map fun p => ((.inl p.1, .bl p.2) : Key × V)).any fun kv => decide (kv.1 = .inl k)) = d.any fun p => decide (p.1 = k) := by
    rw [List.any_map]
    congr 1
    funext p
    exact decide_eq_decide.mpr inl_iff
  rw [e]
  split
  · rw [List.map_map, List.map_map]
    refine List.map_congr_left fun p _ => ?_
    show (if (Sum.inl p.1 : Key) = .inl k then _ else _) = (_ : Key × V)
    by_cases q : p.1 = k
    · rw [if_pos (inl_iff.mpr q)]
      show _ = ((Sum.inl (if p.1 = k then (p.1, b) else p).1, V.bl (if p.1 = k then (p.1, b) else p).2) : Key × V)
      rw [if_pos q]
    · rw [if_neg fun z => q (inl_iff.mp z)]
      show _ = ((Sum.inl (if p.1 = k then (p.1, b) else p).1, V.bl (if p.1 = k then (p.1, b) else p).2) : Key × V)
      rw [if_neg q]
  · rw [List.map_append]
    rfl
theorem enc_merge (more : DI) : ∀ d : DI, mergeK (encD d) (encD more) = encD (mergeI d more) := by
  induction more with
  | nil => exact fun _ => rfl
  | cons p more ih =>
    intro d
    show mergeK (putK (encD d) (.inl p.1) (.bl p.2)) (encD more) = encD (mergeI (putI d p.1 p.2) more)
    rw [enc_put, ih]
theorem enc_drop (d : DI) (k : Int) : dropK (encD d) (.inl k) = encD (dropI d k) := by
  unfold dropK dropI encD
  rw [List.filter_map]
  congr 1
  refine List.filter_congr fun p _ => ?_
  exact decide_eq_decide.mpr (not_congr inl_iff)
theorem drop_none {d : DI} {k : Int} (h : valV (encD d) (.inl k) = none) : dropI d k = d := by
  unfold dropI
  refine List.filter_eq_self.mpr fun p hp => ?_
  rw [decide_eq_true_eq]
  intro e
  unfold valV encD at h
  rw [Option.map_eq_none_iff, List.find?_eq_none] at h
  exact h _ (List.mem_map.mpr ⟨p, hp, rfl⟩) (decide_eq_true (inl_iff.mpr e))
/-- an owned dict; one that is read -/
@[reducible] def kDi (K : PySem.W.Frag) : Kd := ⟨DI, fun i y x g H => ∃ p, y = some (.ref p) ∧ g p = .own i ∧ H p = some (.dK (encD x)), fun l o ⟨p, e, h1, h2⟩ => ⟨p, e, (o p _ h1 h2).1, (o p _ h1 h2).2⟩⟩
@[reducible] def kFd (K : PySem.W.Frag) : Kd := ⟨DI, fun _ y x g H => ∃ p, y = some (.ref p) ∧ Fz g H p = some (.dK (encD x)), fun l _ ⟨p, e, h⟩ => ⟨p, e, l.fz p _ h⟩⟩
def Bor.e (a : Bor ks ks') : Bor (kDi K :: ks) (kFd K :: ks') := ⟨fun γ => (γ.1, a.to γ.2), fun ⟨y, r, e, ⟨p, ep, h1, h2⟩, q⟩ => ⟨y, r, e, ⟨p, ep, fz_some.mpr ⟨h2, .inr (by rw [bg_own h1]; rfl)⟩⟩, a.ok q⟩⟩
def rDictP (K : PySem.W.Frag) : List V → Hp → VK → Prop := fun xs H Q => ∃ (a : Addr) (ps : List Addr) (kvs : List (Key × V)), xs = [.ref a] ∧ SqL K H a (ps.map V.ref) ∧ Paired (fun p kv => SqT K H p [L2.kV kv.1, kv.2]) ps kvs ∧ ∀ p, H p = none → Q (.ref p) (upd H p (.dK (mergeK [] kvs)))
theorem cr_dictP {X : Cx} (hc : X.calm = true) : CallR X (.type "dict") (rDictP X.K) := call_dictP hc
theorem pairs_at {F H : Hp} (s : Same F H) : ∀ {vs : List V} {xs : DI}, Paired (Rp.rp K F) vs xs → ∃ ps : List Addr, vs = ps.map V.ref ∧ Paired (fun p kv => SqT K H p [L2.kV kv.1, kv.2]) ps (encD xs)
  | _, _, .nil => ⟨[], rfl, .nil⟩
  | _, _, .cons r t => by
    obtain ⟨ps, rfl, pr⟩ := pairs_at s t
    obtain ⟨a, v1, v2, rfl, h, r1, r2⟩ := r
    have r1 : v1 = .int _ := r1
    have r2 : v2 = .bl _ := r2
    subst r1 r2
    exact ⟨a :: ps, rfl, .cons (h.sq s) pr⟩
theorem as_dictP {n : Nat} {w : TupT ks → (DI → Prop) → Prop} (he : AE P ks (rF K DI) ce te w) (p : Put ks n (kDi K) ks') : AS P ks ks' r kb ce (tAsg (tCB (rDictP K) (tCons te tNil)) (gName n)) (fun γ E => w γ fun x => ∀ y, y = mergeI [] x → E.nx (p.put γ y)) := by
  refine ⟨fun γ E E' i z => he.mono γ _ _ (fun x zx y ey => i.nx _ (zx y ey)) z, fun A b0 γ σ g H D hb0 G R hw => ?_⟩
  refine he.run A b0 γ σ g H _ (by omega) G R (he.mono γ _ _ (fun x zx v g1 H1 G1 e1 r1 => ?_) hw)
  obtain ⟨a, vs, rfl, h, pr, hl⟩ := r1
  obtain ⟨ps, rfl, pr2⟩ := pairs_at (H := H1) fz_sub pr
  refine ⟨a, ps, encD x, rfl, sq_of fz_sub h, pr2, fun q hq => ?_⟩
  have em : mergeK [] (encD x) = encD (mergeI [] x) := enc_merge x []
  rw [em]
  obtain ⟨G2, e2⟩ := G1.new (o := .dK (encD (mergeI [] x))) (t := .own (0 + n)) hq (fun z => nomatch z)
  refine zx _ rfl _ (tagAt g1 q (.own (0 + n))) _ (G2.up (by omega)) ((e1.trans G1 e2).le G) ?_
  have l2 := (e1.trans G1 e2)
  exact p.ok (y := some (.ref q)) (x := mergeI [] x) R (l2.le G) (fun j _ => (l2.lx G).ow j) ⟨q, rfl, tagAt_same, upd_same⟩
theorem as_dpop {n : Nat} {w : TupT ks → (Int → Prop) → Prop} (a : Acc ks n (kDi K)) (p : Put ks n (kDi K) ks) (he : AE P ks (rF K Int) ce te w) : AS P ks ks r kb ce (tDrop (tDPop2 (tVar n) te (tC .non))) (fun γ E => w γ fun k => E.nx (p.put γ (dropI (a.get γ) k))) := by
  refine ⟨fun γ E E' i z => he.mono γ _ _ (fun x zx => i.nx _ zx) z, fun A b0 γ σ g H D hb0 G R hw => ?_⟩
  obtain ⟨y, e, b, rfl, h1, h2⟩ := a.ok R
  refine ⟨_, e, b, rfl, .inl ⟨_, .inl h2⟩, ?_⟩
  refine he.run A b0 γ σ g H _ (by omega) G R (he.mono γ _ _ (fun k zk u g1 H1 G1 e1 r1 => ?_) hw)
  have r1 : u = .int k := r1
  subst r1
  have R1 := R.ext G e1
  obtain ⟨k1, k2⟩ := (e1.lx G).ow _ b _ h1 h2
  refine ⟨encD (a.get γ), .inl k, k2, rfl, fun v _ => ?_, fun hv => ?_⟩
  · rw [enc_drop]
    have l2 := G1.write_le (u := .dK (encD (dropI (a.get γ) k))) k1 k2 rfl
    have R2 := p.ok (y := some (.ref b)) (x := dropI (a.get γ) k) R1 l2 (fun j hj c o hc ho => ⟨hc, by
      rw [upd_ne]
      · exact ho
      · intro z
        subst z
        rw [k1] at hc
        exact hj (Tg.own.inj hc).symm⟩) ⟨b, rfl, k1, upd_same⟩
    rw [set_self e] at R2
    exact zk σ g1 _ ((G1.write k1 k2).up (by omega)) ((e1.le G).trans l2) R2
  · have R2 := p.ok (y := some (.ref b)) (x := dropI (a.get γ) k) R1 (Le.refl g1 H1) (fun j _ c o hc ho => ⟨hc, ho⟩) ⟨b, rfl, k1, by rw [drop_none hv]; exact k2⟩
    rw [set_self e] at R2
    exact zk σ g1 _ (G1.up (by omega)) (e1.le G) R2
/-- d == {} -/
def rEqE : R2 := fun x y H Q => ∃ a b ks, x = .ref a ∧ y = .ref b ∧ H a = some (.dK ks) ∧ H b = some (.dK []) ∧ Q (.bl ks.isEmpty) H
theorem op_eqE {X : Cx} (hu : X.A.units < cLine) : OpR X (compareOp .Eq) rEqE := by
  rintro pins s σ H _ _ v u Q I rx ry ⟨a, b, ds, rfl, rfl, ha, hb, q⟩
  have ev : v = Value.ref a := rx
  have eu : u = Value.ref b := ry
  subst ev eu
  obtain ⟨_, n1, va, ra, d1⟩ := (show ObjOk X.prog X.w H s.heap a (.dK ds) from I.hok a _ ha)
  obtain ⟨_, n2, vb, rb, d2⟩ := (show ObjOk X.prog X.w H s.heap b (.dK []) from I.hok b _ hb)
  have l1 := ra.length
  have l2 := rb.length
  have fine : va.length = vb.length → ∀ p ∈ ds, valV ([] : List (Key × V)) p.1 = some p.2 ∧ flatB p.2 = true := fun e p hp => by
    cases ds with
    | nil => cases hp
    | cons x xs =>
      rw [← l1, ← l2] at e
      cases e
  have em : ds.isEmpty = (va.length == vb.length && true) := by
    rw [← l1, ← l2, Bool.and_true]
    cases ds <;> rfl
  exact PySem.W.keq_eq (knd := mixKind X.prog X.w) (r := true) n1 n2 d1 d2 hu (fun e => hits_all rb ra (fine e)) (fin_bl I q em)
theorem ae_dnil {n : Nat} (a : Acc ks n (kFd K)) : AE P ks (rF K Bool) 0 (tOp rEqE (tVar n) tDNewK) (fun γ Q => Q (a.get γ).isEmpty) := by
  refine ⟨fun γ Q Q' h q => h _ q, fun A b0 γ σ g H Q hb0 G R hw => ?_⟩
  obtain ⟨y, e, b, rfl, h⟩ := a.ok R
  refine ⟨_, e, fun p hp => ?_⟩
  obtain ⟨G2, e2⟩ := G.new0 (o := .dK []) hp
  have h2 := fz_sub _ _ h
  refine ⟨b, p, encD (a.get γ), rfl, rfl, by rw [upd_ne (ne_of_none h2 hp)]; exact h2, upd_same, ?_⟩
  refine hw _ g _ (G2.up (by omega)) e2 ?_
  show V.bl _ = V.bl _
  unfold encD
  cases a.get γ <;> rfl
end DL
/-! DL: nothing, a number, or three numbers. -/
namespace DL
open PySem PySem.Spec PyProof.Rows L2
variable {P : TokP} {K : PySem.W.Frag} {ks ks' ks1 ks2 kb : List Kd} {r : Rk} {ta tb te : TE}
inductive TU where
  | no
  | num (c : Int)
  | tri (t : T3 Int Int Int)
def tiRp (K : PySem.W.Frag) (F : Hp) (v : V) : TU → Prop
  | .no => v = .non
  | .num c => v = .int c
  | .tri t => Rp.rp K F v t
instance : Rp K TU := ⟨tiRp K, fun {F F' v x} s h => match x, h with | .no, h => h | .num _, h => h | .tri t, h => Rp.mono (α := T3 Int Int Int) s h⟩
instance : Flat K TU := ⟨fun {F F' v x} s h => match x, h with | .no, h => h | .num _, h => h | .tri t, h => Flat.fl (K := K) (α := T3 Int Int Int) s h⟩
def tiD : TU → PyData
  | .no => .none
  | .num c => .int c
  | .tri t => .tuple [.int t.a, .int t.b, .int t.c]
instance : ToD K TU := ⟨tiD, fun {F v x} h => by
  cases x with
  | no =>
    have h : v = .non := h
    subst h
    exact .non
  | num c =>
    have h : v = .int c := h
    subst h
    exact .int _
  | tri t => exact ToD.ok (K := K) (α := T3 Int Int Int) h⟩
theorem ae_tiN {w : TupT ks → (Unit → Prop) → Prop} (h : AE P ks (rF K Unit) ca ta w) : AE P ks (rF K TU) ca ta (fun γ Q => w γ fun _ => Q .no) := h.map (f := fun _ => TU.no) fun _ _ _ q => q
theorem ae_tiI {w : TupT ks → (Int → Prop) → Prop} (h : AE P ks (rF K Int) ca ta w) : AE P ks (rF K TU) ca ta (fun γ Q => w γ fun x => Q (.num x)) := h.map (f := TU.num) fun _ _ _ q => q
theorem ae_tiT {w : TupT ks → (T3 Int Int Int → Prop) → Prop} (h : AE P ks (rF K (T3 Int Int Int)) ca ta w) : AE P ks (rF K TU) ca ta (fun γ Q => w γ fun x => Q (.tri x)) := h.map (f := TU.tri) fun _ _ _ q => q
theorem ae_tiG {w : TupT ks → (TU → Prop) → Prop} (h : AE P ks (rF K TU) ca ta w) : AE P ks (rF K (T3 Int Int Int)) ca ta (fun γ Q => w γ fun x => ∃ t, x = .tri t ∧ Q t) := by
  refine ⟨fun γ Q Q' q z => h.mono γ _ _ (fun x ⟨t, e, zx⟩ => ⟨t, e, q _ zx⟩) z, fun A b0 γ σ g H Q hb0 G R hw => ?_⟩
  refine h.run A b0 γ σ g H Q hb0 G R (h.mono γ _ _ (fun x ⟨t, e, zx⟩ v g' H' G' ex r' => ?_) hw)
  subst e
  exact zx v g' H' G' ex r'
end DL
/-! DL: tests a < b < c < d. -/
namespace DL
open PySem PySem.Spec PyProof.Rows L2
variable {P : TokP} {K : PySem.W.Frag} {ks ks' ks1 ks2 kb : List Kd} {ta tb tc td : TE}
def tCh3 (r r' r'' : R2) (ta tb tc td : TE) : TT := fun σ H Q => ta σ H fun x H1 => tb σ H1 fun y H2 => r x y H2 fun z H3 => ∃ k, z = .bl k ∧
  if k = true then tc σ H3 fun w H4 => r' y w H4 fun z' H5 => ∃ k', z' = .bl k' ∧ (if k' = true then td σ H5 fun u H6 => r'' w u H6 fun z'' H7 => ∃ k'', z'' = .bl k'' ∧ Q k'' H7 else Q false H5) else Q false H3
theorem pt_chain3 {X : Cx} {a b c d : Expr} {pos : Pos} {o1 o2 o3 : CmpOp} {r r' r'' : R2} (h1 : OpR X (compareOp o1) r) (h2 : OpR X (compareOp o2) r') (h3 : OpR X (compareOp o3) r'') (ha : PE X a ta) (hb : PE X b tb) (hc : PE X c tc) (hd : PE X d td)
    (hm : lastMarks [o1, o2, o3] [b, c, d] = false := by with_unfolding_all rfl) : PT X (.Compare a [o1, o2, o3] [b, c, d] pos) (tCh3 r r' r'' ta tb tc td) := by
  refine ⟨fun pins s σ H Q I h => isTrue_chain (thn (ha.run pins s σ H _ I h) fun v s1 ⟨x, H1, I1, r1, q1⟩ => ?_) hm⟩
  refine test_link (thn (hb.run pins s1 σ H1 _ I1 q1) fun u s2 ⟨y, H2, I2, r2, q2⟩ => thn (h1 pins s2 σ H2 x y v u _ I2 r1 r2 q2) fun _ s3 ⟨_, H3, I3, r3, k, e, q3⟩ => ?_)
  subst e
  cases r3
  refine wpAny_truthy_bool ?_
  cases k with
  | false => exact ite_ff ⟨H3, I3, q3⟩
  | true =>
    refine ite_tt (test_link (thn (hc.run pins s3 σ H3 _ I3 q3) fun w s4 ⟨z, H4, I4, r4, q4⟩ => thn (h2 pins s4 σ H4 y z u w _ I4 r2 r4 q4) fun _ s5 ⟨_, H5, I5, r5, k', e', q5⟩ => ?_))
    subst e'
    cases r5
    refine wpAny_truthy_bool ?_
    cases k' with
    | false => exact ite_ff ⟨H5, I5, q5⟩
    | true =>
      refine ite_tt (test_last (thn (hd.run pins s5 σ H5 _ I5 q5) fun t s6 ⟨z', H6, I6, r6, q6⟩ => thn (h3 pins s6 σ H6 z z' w t _ I6 r4 r6 q6) fun _ s7 ⟨_, H7, I7, r7, k'', e'', q7⟩ => ?_))
      subst e''
      cases r7
      exact wpAny_truthy_bool ⟨H7, I7, q7⟩
theorem at_chain3 {p q s : Int → Int → Bool} {wa wb wc wd : TupT ks → (Int → Prop) → Prop} (ha : AE P ks (rF K Int) ca ta wa) (hb : AE P ks (rF K Int) cb tb wb) (hc : AE P ks (rF K Int) cc tc wc) (hd : AE P ks (rF K Int) cd td wd) :
    AT P ks (ca + cb + cc + cd) (tCh3 (rI0 fun i j => .bl (p i j)) (rI0 fun i j => .bl (q i j)) (rI0 fun i j => .bl (s i j)) ta tb tc td) (fun γ Q => wa γ fun a => wb γ fun b => if p a b = true then wc γ fun c => if q b c = true then wd γ fun d => Q (s c d) else Q false else Q false) := by
  refine ⟨fun γ Q Q' f z => ha.mono γ _ _ (fun a za => hb.mono γ _ _ (fun b zb => ?_) za) z, fun A b0 γ σ g H Q hb0 G R hw => ?_⟩
  · by_cases e : p a b = true
    · rw [if_pos e] at zb ⊢
      refine hc.mono γ _ _ (fun c zc => ?_) zb
      by_cases e2 : q b c = true
      · rw [if_pos e2] at zc ⊢
        exact hd.mono γ _ _ (fun d zd => f _ zd) zc
      · rw [if_neg e2] at zc ⊢
        exact f _ zc
    · rw [if_neg e] at zb ⊢
      exact f _ zb
  · refine ha.run A b0 γ σ g H _ (by omega) G R (ha.mono γ _ _ (fun a za x g1 H1 G1 e1 r1 => ?_) hw)
    refine hb.run A _ γ σ g1 H1 _ (by omega) G1 (R.ext G e1) (hb.mono γ _ _ (fun b zb y g2 H2 G2 e2 r2 => ⟨a, b, r1, r2, p a b, rfl, ?_⟩) za)
    have e12 := e1.trans G1 e2
    by_cases e : p a b = true
    · rw [if_pos e] at zb ⊢
      refine hc.run A _ γ σ g2 H2 _ (by omega) G2 (R.ext G e12) (hc.mono γ _ _ (fun c zc v g3 H3 G3 e3 r3 => ⟨b, c, r2, r3, q b c, rfl, ?_⟩) zb)
      have e123 := e12.trans G2 e3
      by_cases e' : q b c = true
      · rw [if_pos e'] at zc ⊢
        exact hd.run A _ γ σ g3 H3 _ (by omega) G3 (R.ext G e123) (hd.mono γ _ _ (fun d zd v2 g4 H4 G4 e4 r4 => ⟨c, d, r3, r4, s c d, rfl, zd g4 H4 (G4.up (by omega)) (e123.trans G3 e4)⟩) zc)
      · rw [if_neg e'] at zc ⊢
        exact zc g3 H3 (G3.up (by omega)) e123
    · rw [if_neg e] at zb ⊢
      exact zb g2 H2 (G2.up (by omega)) e12
end DL
/-! DL: constants of a module; list(range(..)). -/
namespace DL
open PySem PySem.Spec PyProof.Rows L2
variable {P : TokP} {K : PySem.W.Frag} {ks ks' ks1 ks2 kb : List Kd} {r : Rk} {ta tb te : TE}
theorem pe_globI {X : Cx} {x : Str} {i : Int} {pos : Pos} (hg : Gl X x) (hm : ∃ t, X.mg x = some (.int i t)) (hd : (x == ("__debug__" : Str)) = false := by decide) : PE X (.Name x pos) (tC (.int i)) := by
  obtain ⟨t, hm⟩ := hm
  exact pe_glob hg hm ⟨t, rfl⟩ hd
theorem pe_globS {X : Cx} {x : Str} {i : Str} {pos : Pos} (hg : Gl X x) (hm : ∃ t, X.mg x = some (.str i t)) (hd : (x == ("__debug__" : Str)) = false := by decide) : PE X (.Name x pos) (tC (.str i)) := by
  obtain ⟨t, hm⟩ := hm
  exact pe_glob hg hm ⟨t, rfl⟩ hd
theorem rgV_int (a b : Int) : rgV a b = (rangeI a (b - a).toNat).map V.int := by
  unfold rgV rangeI
  rw [List.map_map]
  rfl
/-- small bounds of a range that is told as a list -/
def RgL (a b : Int) : Prop := -1000000000 ≤ a ∧ a < 1000000000 ∧ -1000000000 ≤ b ∧ b < 1000000000 ∧ b - a ≤ 16000000
theorem RgL.ok {a b : Int} (h : RgL a b) : RgOk a b := by
  obtain ⟨h1, h2, h3, h4, h5⟩ := h
  have e : (2 : Int) ^ 62 = 4611686018427387904 := by decide
  have e2 : (2 : Nat) ^ 24 = 16777216 := by decide
  refine ⟨by rw [e]; omega, by rw [e]; omega, by rw [e]; omega, by rw [e]; omega, by rw [e2]; omega⟩
section
variable {wa wb : TupT ks → (Int → Prop) → Prop}
theorem ae_listRg1 (ha : AE P ks (rF K Int) ca ta wa) : AE P ks (rO K Int) ca (tLstRg (tRg1 ta)) (fun γ Q => wa γ fun n => RgL 0 n ∧ Q (rangeI 0 n.toNat)) :=
  AE.un (r := rO K Int) (k := vF K Int) (rr := fun x H Q => ∃ n, x = .int n ∧ (RgOk 0 n ∧ ∀ q, H q = none → Q (.ref q) (upd H q (.lst (rgV 0 n))))) (f := fun n Q => RgL 0 n ∧ Q (rangeI 0 n.toNat)) ha (fun σ H Q h => h) (fun _ _ _ q z => ⟨z.1, q _ z.2⟩) fun A b0 g H x n Q G rx ⟨z1, z2⟩ => by
    refine ⟨n, rx, z1.ok, fun q hq => ?_⟩
    rw [rgV_int, Int.sub_zero]
    refine newlist (xs := rangeI 0 n.toNat) G hq int_paired ?_ z2
    have := z1.2.2.2.2
    rw [rangeI_len]
    omega
theorem ae_listRg2 (ha : AE P ks (rF K Int) ca ta wa) (hb : AE P ks (rF K Int) cb tb wb) : AE P ks (rO K Int) (ca + cb) (tLstRg (tRg2 ta tb)) (fun γ Q => wa γ fun a => wb γ fun b => RgL a b ∧ Q (rangeI a (b - a).toNat)) := by
  refine ⟨fun γ Q Q' q z => ha.mono γ _ _ (fun a za => hb.mono γ _ _ (fun b zb => ⟨zb.1, q _ zb.2⟩) za) z, fun A b0 γ σ g H Q hb0 G R hw => ?_⟩
  refine ha.run A b0 γ σ g H _ (by omega) G R (ha.mono γ _ _ (fun a za x g1 H1 G1 e1 r1 => ?_) hw)
  refine hb.run A _ γ σ g1 H1 _ (by omega) G1 (R.ext G e1) (hb.mono γ _ _ (fun b zb y g2 H2 G2 e2 r2 => ?_) za)
  refine ⟨a, b, r1, r2, zb.1.ok, fun q hq => ?_⟩
  rw [rgV_int]
  have l := zb.1.2.2.2.2
  have e12 := e1.trans G1 e2
  refine newlist (xs := rangeI a (b - a).toNat) G2 hq int_paired (by rw [rangeI_len]; omega) fun v g' H' G' e' r' => zb.2 v g' H' (G'.up (by omega)) (e12.trans G2 e') ((rO K Int).start (fun a ha => e12.keeps G2 ha) r')
end
end DL
/-! DL: owned lists of owned lists: further changes. -/
namespace DL
open PySem PySem.Spec PyProof.Rows L2
variable {P : TokP} {K : PySem.W.Frag} {ks ks' ks1 ks2 kb : List Kd} {r : Rk} {ta tb te : TE}
section
variable {α : Type} [Rp K α]
theorem nstVals {t : Tg} {g : Gh} {H : Hp} {F : Hp} {bs : List Addr} {x : List (List α)} (h : Nst K α t bs x g H) (s : Same (Fz g H) F) (hin : ∀ c ∈ bs, ∀ u, H c = some u → F c = some u) : Paired (Rp.rp K F) (bs.map V.ref) x := by
  unfold Nst at h
  induction h with
  | nil => exact .nil
  | cons q _ ih =>
    obtain ⟨q1, vs, q2, q3, q4⟩ := q
    exact .cons ⟨_, vs, rfl, hin _ List.mem_cons_self _ q2, Paired.rp_mono s q3, q4⟩ (ih fun c hc => hin c (List.mem_cons_of_mem _ hc))
/-- what is within is held for ever, the list itself may still be changed -/
theorem as_frzIn {n : Nat} {t : TS} {w : TupT ks1 → We ks' r kb → Prop} (a : Acc ks n (kN K α)) (p : Put ks n (kO K (List α)) ks1) (h : AS P ks1 ks' r kb ct t w) : AS P ks ks' r kb ct t (fun γ E => w (p.put γ (a.get γ)) E) := by
  refine ⟨fun γ E E' i z => h.mono _ _ _ i z, fun A b0 γ σ g H D hb0 G R hw => ?_⟩
  obtain ⟨y, e, b, bs, rfl, h1, h2, h3, h4, h5, hl⟩ := a.ok R
  have all : ∀ c ∈ bs, g c = .own (0 + n) ∧ ∃ o, H c = some o := fun c hc => by
    obtain ⟨q1, vs, q2⟩ := h5.mem c hc
    exact ⟨q1, _, q2⟩
  have l2 : Le g H (tagAll g bs .frz) H := le_tagAll fun c hc => by rw [(all c hc).1]; simp
  have es : σ.set n (some (.ref b)) = σ := set_self e
  have items := nstVals h5 l2.fz fun c hc u hu => fz_some.mpr ⟨hu, .inr (by rw [tagAll_in hc]; rfl)⟩
  have R1 := p.ok (y := some (.ref b)) (x := a.get γ) R l2 (fun j hj c o hc ho => ⟨by
    rw [tagAll_out]
    · exact hc
    · intro z
      rw [(all c z).1] at hc
      exact hj (Tg.own.inj hc).symm, ho⟩) ⟨b, bs.map V.ref, rfl, by rw [tagAll_out h3]; exact h1, h2, items, hl⟩
  rw [es] at R1
  exact h.run A b0 _ σ _ H D (by omega) (G.retagAll (t := .frz) (fun c hc => ⟨G.noown0 (all c hc).1, (all c hc).2⟩) fun z => nomatch z) R1 (h.mono _ _ _ (We.of (by omega) l2) hw)
/-- the outer list is written -/
theorem outerN {A : Act} {g : Gh} {H : Hp} {n b0 : Nat} {γ : TupT ks} {σ : Sl} {b : Addr} {us : List V} {bs' : List Addr} {x' : List (List α)} (p : Put ks n (kN K α) ks) (G : Good P A b0 g H) (R : RelL ks 0 γ σ g H) (e : σ[n]? = some (some (.ref b))) (h1 : g b = .own (0 + n)) (h2 : H b = some (.lst us))
    (h3 : b ∉ bs') (h4 : bs'.Nodup) (h5 : Nst K α (.own (0 + n)) bs' x' g H) (hx : x'.length ≤ 9223372036854775808) :
    Good P A b0 g (upd H b (.lst (bs'.map V.ref))) ∧ Le g H g (upd H b (.lst (bs'.map V.ref))) ∧ RelL ks 0 (p.put γ x') σ g (upd H b (.lst (bs'.map V.ref))) := by
  have l2 := G.write_le (u := .lst (bs'.map V.ref)) h1 h2 rfl
  refine ⟨G.write h1 h2, l2, ?_⟩
  have R1 := p.ok (y := some (.ref b)) (x := x') R l2 (fun j hj c o hc ho => ⟨hc, by
    rw [upd_ne]
    · exact ho
    · intro z
      subst z
      rw [h1] at hc
      exact hj (Tg.own.inj hc).symm⟩) ⟨b, bs', rfl, h1, upd_same, h3, h4, h5.st l2 (fun c hc o z1 z2 => ⟨z1, by
    have nc : c ≠ b := fun z => h3 (z ▸ hc)
    rw [upd_ne nc]
    exact z2⟩), hx⟩
  rwa [set_self e] at R1
theorem Nst.snoc {t : Tg} {g : Gh} {H : Hp} {bs : List Addr} {x : List (List α)} {q : Addr} {vs : List V} {ys : List α} (h : Nst K α t bs x g H) (h1 : g q = t) (h2 : H q = some (.lst vs)) (h3 : Paired (Rp.rp K (Fz g H)) vs ys) (h4 : ys.length ≤ 9223372036854775808) : Nst K α t (bs ++ [q]) (x ++ [ys]) g H :=
  Paired.app h (.cons ⟨h1, vs, h2, h3, h4⟩ .nil)
/-- x.append(a new list) -/
theorem as_appendNo {n : Nat} {w : TupT ks → (List α → Prop) → Prop} (a : Acc ks n (kN K α)) (p : Put ks n (kN K α) ks) (he : AE P ks (rO K α) ce te w) :
    AS P ks ks r kb ce (tDrop (tBM K "list" rAppend (tVar n) (tCons te tNil))) (fun γ E => w γ fun ys => (a.get γ).length < sizeLine ∧ E.nx (p.put γ (a.get γ ++ [ys]))) := by
  refine ⟨fun γ E E' i z => he.mono γ _ _ (fun x zx => ⟨zx.1, i.nx _ zx.2⟩) z, fun A b0 γ σ g H D hb0 G R hw => ?_⟩
  obtain ⟨y, e, b, bs, rfl, h1, h2, h3, h4, h5, hx⟩ := a.ok R
  refine ⟨_, e, .inl ⟨rfl, bs.map V.ref, .inl (.inl h2)⟩, ?_⟩
  refine he.run A b0 γ σ g H _ (by omega) G R (he.mono γ _ _ (fun ys zx v g1 H1 G1 e1 r1 => ?_) hw)
  obtain ⟨q, vs, rfl, q1, q2, q3, q4, q5⟩ := r1
  have R1 := R.ext G e1
  have lt : Le g1 H1 (tagAt g1 q (.own (0 + n))) H1 := le_tag (by rw [q2]; simp) (by rw [q2]; simp)
  have lx : Lx g1 H1 (tagAt g1 q (.own (0 + n))) H1 := by
    refine ⟨lt, fun i c o hc ho => ⟨?_, ho⟩⟩
    rw [tagAt_ne]
    · exact hc
    · intro z
      subst z
      rw [q2] at hc
      cases hc
  have G2 : Good P A (b0 + ce) (tagAt g1 q (.own (0 + n))) H1 := G1.retag (G.ext.keeps G q1) q3 (by rw [q2]; simp) fun z => nomatch z
  have R2 := R1.st lx
  obtain ⟨y2, f, b2, bs2, rfl, m1, m2, m3, m4, m5, mx⟩ := a.ok R2
  rw [e] at f
  cases f
  have same : bs2 = bs := by
    have := ((e1.lx G).ow _ b _ h1 h2).2
    rw [m2] at this
    exact List.map_inj_right (fun _ _ z => V.ref.inj z) |>.mp (HO.lst.inj (Option.some.inj this))
  subst same
  have nq : ∀ c o, H c = some o → c ≠ q := fun c o hc z => by
    rw [z, q1] at hc
    cases hc
  have n1 : b ≠ q := nq b _ h2
  have n2 : q ∉ bs2 := fun z => by
    obtain ⟨_, vs', hv⟩ := h5.mem q z
    exact nq q _ hv rfl
  obtain ⟨G3, l3, R3⟩ := outerN (bs' := bs2 ++ [q]) (x' := a.get γ ++ [ys]) p G2 R2 e m1 m2 (fun z => by
      rcases List.mem_append.mp z with z | z
      · exact m3 z
      · exact n1 (List.mem_singleton.mp z)) (List.nodup_append.mpr ⟨m4, List.nodup_cons.mpr ⟨(fun z => nomatch z), .nil⟩, fun c hc d hd => by
      rw [List.mem_singleton.mp hd]
      exact fun z => n2 (z ▸ hc)⟩) (m5.snoc tagAt_same q3 (Paired.rp_mono lt.fz q4) q5) (by rw [List.length_append]; show (a.get γ).length + 1 ≤ _; have h := zx.1; rw [sizeLine_eq] at h; omega)
  refine ⟨b, bs2.map V.ref, .ref q, rfl, rfl, ((e1.lx G).ow _ b _ h1 h2).2, by rw [List.length_map, h5.len]; exact zx.1, ?_⟩
  rw [List.map_append] at G3 l3 R3
  exact zx.2 σ _ _ (G3.up (by omega)) (((e1.le G).trans lt).trans l3) R3
theorem seqIx {i : Int} {n : Nat} (h0 : 0 ≤ i) (h1 : i < n) : seqIndex? i n = some i.toNat := by
  have k : ¬ i < 0 := by omega
  simp [seqIndex?, k, h0, h1]
theorem Paired.erase' {α β : Type} {F : α → β → Prop} : ∀ {l1 : List α} {l2 : List β} (i : Nat), Paired F l1 l2 → Paired F (l1.eraseIdx i) (l2.eraseIdx i)
  | _, _, _, .nil => .nil
  | _, _, 0, .cons _ t => t
  | _, _, i + 1, .cons r t => .cons r (Paired.erase' i t)
/-- xs.pop(i) -/
theorem as_popAt {n : Nat} {ti : TE} {wi : TupT ks → (Int → Prop) → Prop} (a : Acc ks n (kO K α)) (p : Put ks n (kO K α) ks) (hi : AE P ks (rF K Int) ci ti wi) :
    AS P ks ks r kb ci (tDrop (tBM K "list" rPopAt (tVar n) (tCons ti tNil))) (fun γ E => wi γ fun i => (0 ≤ i ∧ i < (a.get γ).length) ∧ E.nx (p.put γ ((a.get γ).eraseIdx i.toNat))) := by
  refine ⟨fun γ E E' im z => hi.mono γ _ _ (fun i zi => ⟨zi.1, im.nx _ zi.2⟩) z, fun A b0 γ σ g H D hb0 G R hw => ?_⟩
  obtain ⟨y, e, b, vs, rfl, h1, h2, h3, hl⟩ := a.ok R
  refine ⟨_, e, .inl ⟨rfl, vs, .inl (.inl h2)⟩, ?_⟩
  refine hi.run A b0 γ σ g H _ (by omega) G R (hi.mono γ _ _ (fun i ⟨⟨i0, i1⟩, z⟩ u g1 H1 G1 e1 r1 => ?_) hw)
  have R1 := R.ext G e1
  obtain ⟨y2, f, b2, vs2, rfl, k1, k2, k3, kl⟩ := a.ok R1
  rw [e] at f
  cases f
  have ln := Paired.len k3
  obtain ⟨G2, l2, R2⟩ := own_write p G1 R1 e k1 k2 (Paired.erase' i.toNat k3) (Nat.le_trans (List.length_eraseIdx_le _ _) kl)
  have e63 : (2 : Int) ^ 63 = 9223372036854775808 := by decide
  exact ⟨b, vs2, i, i.toNat, vs2[i.toNat]'(by omega), rfl, by rw [show u = V.int i from r1], k2, by rw [e63]; omega, by rw [e63]; omega, seqIx i0 (by omega), List.getElem?_eq_getElem _, z σ g1 _ (G2.up (by omega)) ((e1.le G).trans l2) R2⟩
theorem nst_erase {t : Tg} {g : Gh} {H : Hp} {bs : List Addr} {x : List (List α)} (h : Nst K α t bs x g H) (i : Nat) : Nst K α t (bs.eraseIdx i) (x.eraseIdx i) g H := Paired.erase' i h
theorem erase_map {α β : Type} (f : α → β) : ∀ (l : List α) (i : Nat), (l.map f).eraseIdx i = (l.eraseIdx i).map f
  | [], _ => rfl
  | _ :: _, 0 => rfl
  | x :: l, i + 1 => by
    show f x :: (l.map f).eraseIdx i = f x :: (l.eraseIdx i).map f
    rw [erase_map f l i]
/-- x.pop(i) of the outer list -/
theorem as_popNo {n : Nat} {ti : TE} {wi : TupT ks → (Int → Prop) → Prop} (a : Acc ks n (kN K α)) (p : Put ks n (kN K α) ks) (hi : AE P ks (rF K Int) ci ti wi) :
    AS P ks ks r kb ci (tDrop (tBM K "list" rPopAt (tVar n) (tCons ti tNil))) (fun γ E => wi γ fun i => (0 ≤ i ∧ i < (a.get γ).length) ∧ E.nx (p.put γ ((a.get γ).eraseIdx i.toNat))) := by
  refine ⟨fun γ E E' im z => hi.mono γ _ _ (fun i zi => ⟨zi.1, im.nx _ zi.2⟩) z, fun A b0 γ σ g H D hb0 G R hw => ?_⟩
  obtain ⟨y, e, b, bs, rfl, h1, h2, h3, h4, h5, hx⟩ := a.ok R
  refine ⟨_, e, .inl ⟨rfl, bs.map V.ref, .inl (.inl h2)⟩, ?_⟩
  refine hi.run A b0 γ σ g H _ (by omega) G R (hi.mono γ _ _ (fun i ⟨⟨i0, i1⟩, z⟩ u g1 H1 G1 e1 r1 => ?_) hw)
  have R1 := R.ext G e1
  obtain ⟨y2, f, b2, bs2, rfl, m1, m2, m3, m4, m5, mx⟩ := a.ok R1
  rw [e] at f
  cases f
  have ln := m5.len
  have sub : ∀ c ∈ bs2.eraseIdx i.toNat, c ∈ bs2 := fun c hc => List.mem_of_mem_eraseIdx hc
  obtain ⟨G2, l2, R2⟩ := outerN (bs' := bs2.eraseIdx i.toNat) (x' := (a.get γ).eraseIdx i.toNat) p G1 R1 e m1 m2 (fun z => m3 (sub _ z)) (m4.sublist (List.eraseIdx_sublist _ _)) (nst_erase m5 _) (Nat.le_trans (List.length_eraseIdx_le _ _) mx)
  have e63 : (2 : Int) ^ 63 = 9223372036854775808 := by decide
  refine ⟨b, bs2.map V.ref, i, i.toNat, V.ref (bs2[i.toNat]'(by omega)), rfl, by rw [show u = V.int i from r1], m2, by rw [e63]; omega, by rw [e63]; omega, by rw [List.length_map]; exact seqIx i0 (by omega), by rw [List.getElem?_map, List.getElem?_eq_getElem]; rfl, ?_⟩
  rw [erase_map]
  exact z σ g1 _ (G2.up (by omega)) ((e1.le G).trans l2) R2
/-- an inner list is found -/
theorem inner {A : Act} {g : Gh} {H : Hp} {n j : Nat} {γ : TupT ks} {σ : Sl} {ys : List α} {i : Int} (a : Acc ks n (kN K α)) (R : RelL ks 0 γ σ g H) (q1 : ixN (a.get γ).length i = some j) (q2 : (a.get γ)[j]? = some ys) :
    ∃ (b : Addr) (bs : List Addr) (q : Addr) (vs : List V), σ[n]? = some (some (.ref b)) ∧ g b = .own (0 + n) ∧ H b = some (.lst (bs.map V.ref)) ∧ b ∉ bs ∧ bs.Nodup ∧ Nst K α (.own (0 + n)) bs (a.get γ) g H ∧ (a.get γ).length ≤ 9223372036854775808 ∧
      bs[j]? = some q ∧ g q = .own (0 + n) ∧ H q = some (.lst vs) ∧ Paired (Rp.rp K (Fz g H)) vs ys ∧ ys.length ≤ 9223372036854775808 ∧ atI (bs.map V.ref) i = some (V.ref q) := by
  obtain ⟨y1, e, b, bs, rfl, h1, h2, h3, h4, h5, hx⟩ := a.ok R
  obtain ⟨q, vs, k1, k2, k3, k4, k5⟩ := h5.at q2
  refine ⟨b, bs, q, vs, e, h1, h2, h3, h4, h5, hx, k1, k2, k3, k4, k5, ?_⟩
  unfold atI
  rw [List.length_map, h5.len, q1]
  show (bs.map V.ref)[j]? = _
  rw [List.getElem?_map, k1]
  rfl
/-- x[i].reverse() -/
theorem as_reverseN {n : Nat} {ti : TE} {wi : TupT ks → (Int → Prop) → Prop} (a : Acc ks n (kN K α)) (p : Put ks n (kN K α) ks) (hi : AE P ks (rF K Int) ci ti wi) :
    AS P ks ks r kb ci (tDrop (tBM0 K "list" rReverse (tOp (rIxL K) (tVar n) ti))) (fun γ E => wi γ fun i => ∃ j ys, ixN (a.get γ).length i = some j ∧ (a.get γ)[j]? = some ys ∧ E.nx (p.put γ ((a.get γ).set j ys.reverse))) := by
  refine ⟨fun γ E E' im z => hi.mono γ _ _ (fun i ⟨j, ys, q1, q2, q3⟩ => ⟨j, ys, q1, q2, im.nx _ q3⟩) z, fun A b0 γ σ g H D hb0 G R hw => ?_⟩
  obtain ⟨y, e, b0', bs0, rfl, _⟩ := a.ok R
  refine ⟨_, e, ?_⟩
  refine hi.run A b0 γ σ g H _ (by omega) G R (hi.mono γ _ _ (fun i ⟨j, ys, q1, q2, q3⟩ u g1 H1 G1 e1 r1 => ?_) hw)
  have R1 := R.ext G e1
  obtain ⟨b, bs, q, vs, f, h1, h2, h3, h4, h5, hx, k1, k2, k3, k4, k5, ix⟩ := inner (A := A) a R1 q1 q2
  rw [e] at f
  cases f
  obtain ⟨G3, l3, R3⟩ := own_writeN p G1 R1 e h1 h2 h3 h4 h5 hx k1 k3 (Paired.rev k4) (by rw [List.length_reverse]; exact k5)
  exact ⟨b0', bs.map V.ref, i, V.ref q, rfl, r1, .inl (.inl h2), ix, .inl ⟨rfl, vs, .inl (.inl k3)⟩, q, vs, rfl, rfl, k3, q3 σ g1 _ (G3.up (by omega)) ((e1.le G).trans l3) R3⟩
/-- x[i].pop(l) -/
theorem as_popN {n : Nat} {ti tl : TE} {wi wl : TupT ks → (Int → Prop) → Prop} (a : Acc ks n (kN K α)) (p : Put ks n (kN K α) ks) (hi : AE P ks (rF K Int) ci ti wi) (hl : AE P ks (rF K Int) cl tl wl) :
    AS P ks ks r kb (ci + cl) (tDrop (tBM K "list" rPopAt (tOp (rIxL K) (tVar n) ti) (tCons tl tNil))) (fun γ E => wi γ fun i => ∃ j ys, ixN (a.get γ).length i = some j ∧ (a.get γ)[j]? = some ys ∧ wl γ fun l => (0 ≤ l ∧ l < ys.length) ∧ E.nx (p.put γ ((a.get γ).set j (ys.eraseIdx l.toNat)))) := by
  refine ⟨fun γ E E' im z => hi.mono γ _ _ (fun i ⟨j, ys, q1, q2, q3⟩ => ⟨j, ys, q1, q2, hl.mono γ _ _ (fun l zl => ⟨zl.1, im.nx _ zl.2⟩) q3⟩) z, fun A b0 γ σ g H D hb0 G R hw => ?_⟩
  obtain ⟨y, e, b0', bs0, rfl, _⟩ := a.ok R
  refine ⟨_, e, ?_⟩
  refine hi.run A b0 γ σ g H _ (by omega) G R (hi.mono γ _ _ (fun i ⟨j, ys, q1, q2, q3⟩ u g1 H1 G1 e1 r1 => ?_) hw)
  have R1 := R.ext G e1
  obtain ⟨b, bs, q, vs, f, h1, h2, h3, h4, h5, hx, k1, k2, k3, k4, k5, ix⟩ := inner (A := A) a R1 q1 q2
  rw [e] at f
  cases f
  refine ⟨b0', bs.map V.ref, i, V.ref q, rfl, r1, .inl (.inl h2), ix, .inl ⟨rfl, vs, .inl (.inl k3)⟩, ?_⟩
  refine hl.run A _ γ σ g1 H1 _ (by omega) G1 R1 (hl.mono γ _ _ (fun l ⟨⟨l0, l1⟩, z⟩ v g2 H2 G2 e2 r2 => ?_) q3)
  have R2 := R1.ext G1 e2
  obtain ⟨b, bs2, q', vs2, f, m1, m2, m3, m4, m5, mx, n1, n2, n3, n4, n5, ix2⟩ := inner (A := A) a R2 q1 q2
  rw [e] at f
  cases f
  have same : bs2 = bs := by
    have := ((e2.lx G1).ow _ b0' _ h1 h2).2
    rw [m2] at this
    exact List.map_inj_right (fun _ _ z => V.ref.inj z) |>.mp (HO.lst.inj (Option.some.inj this))
  subst same
  rw [k1] at n1
  cases n1
  have ln := Paired.len n4
  obtain ⟨G3, l3, R3⟩ := own_writeN p G2 R2 e m1 m2 m3 m4 m5 mx k1 n3 (Paired.erase' l.toNat n4) (Nat.le_trans (List.length_eraseIdx_le _ _) n5)
  have e63 : (2 : Int) ^ 63 = 9223372036854775808 := by decide
  exact ⟨q, vs2, l, l.toNat, vs2[l.toNat]'(by omega), rfl, by rw [show v = V.int l from r2], n3, by rw [e63]; omega, by rw [e63]; omega, seqIx l0 (by omega), List.getElem?_eq_getElem _, z σ g2 _ (G3.up (by omega)) (((e1.le G).trans (e2.le G1)).trans l3) R3⟩
/-- x[i].insert(l, v), l not below 0 -/
theorem as_insertN {n : Nat} {ti tl : TE} {wi wl : TupT ks → (Int → Prop) → Prop} {w : TupT ks → (α → Prop) → Prop} (a : Acc ks n (kN K α)) (p : Put ks n (kN K α) ks) (hi : AE P ks (rF K Int) ci ti wi) (hl : AE P ks (rF K Int) cl tl wl) (he : AE P ks (rF K α) ce te w) :
    AS P ks ks r kb (ci + cl + ce) (tDrop (tBM K "list" (fun x vs H Q => ∃ (l : Addr) (xs : List V) (i : Int) (y : V), x = .ref l ∧ vs = [.int i, y] ∧ H l = some (.lst xs) ∧ xs.length < sizeLine ∧ 0 ≤ i ∧ i < 2 ^ 63 ∧ Q .non (upd H l (.lst (xs.take i.toNat ++ [y] ++ xs.drop i.toNat)))) (tOp (rIxL K) (tVar n) ti) (tCons tl (tCons te tNil))))
      (fun γ E => wi γ fun i => ∃ j ys, ixN (a.get γ).length i = some j ∧ (a.get γ)[j]? = some ys ∧ wl γ fun l => w γ fun v => ys.length < sizeLine ∧ (0 ≤ l ∧ l < 2 ^ 63) ∧ E.nx (p.put γ ((a.get γ).set j (ys.take l.toNat ++ [v] ++ ys.drop l.toNat)))) := by
  refine ⟨fun γ E E' im z => hi.mono γ _ _ (fun i ⟨j, ys, q1, q2, q3⟩ => ⟨j, ys, q1, q2, hl.mono γ _ _ (fun l zl => he.mono γ _ _ (fun v zv => ⟨zv.1, zv.2.1, im.nx _ zv.2.2⟩) zl) q3⟩) z, fun A b0 γ σ g H D hb0 G R hw => ?_⟩
  obtain ⟨y, e, b0', bs0, rfl, _⟩ := a.ok R
  refine ⟨_, e, ?_⟩
  refine hi.run A b0 γ σ g H _ (by omega) G R (hi.mono γ _ _ (fun i ⟨j, ys, q1, q2, q3⟩ u g1 H1 G1 e1 r1 => ?_) hw)
  have R1 := R.ext G e1
  obtain ⟨b, bs, q, vs, f, h1, h2, h3, h4, h5, hx, k1, k2, k3, k4, k5, ix⟩ := inner (A := A) a R1 q1 q2
  rw [e] at f
  cases f
  refine ⟨b0', bs.map V.ref, i, V.ref q, rfl, r1, .inl (.inl h2), ix, .inl ⟨rfl, vs, .inl (.inl k3)⟩, ?_⟩
  refine hl.run A _ γ σ g1 H1 _ (by omega) G1 R1 (hl.mono γ _ _ (fun l zl v g2 H2 G2 e2 r2 => ?_) q3)
  have R2 := R1.ext G1 e2
  refine he.run A _ γ σ g2 H2 _ (by omega) G2 R2 (he.mono γ _ _ (fun z ⟨z1, z2, z3⟩ v' g3 H3 G3 e3 r3 => ?_) zl)
  have R3 := R2.ext G2 e3
  obtain ⟨b, bs2, q', vs2, f, m1, m2, m3, m4, m5, mx, n1, n2, n3, n4, n5, ix2⟩ := inner (A := A) a R3 q1 q2
  rw [e] at f
  cases f
  have same : bs2 = bs := by
    have := (((e2.trans G2 e3).lx G1).ow _ b0' _ h1 h2).2
    rw [m2] at this
    exact List.map_inj_right (fun _ _ z => V.ref.inj z) |>.mp (HO.lst.inj (Option.some.inj this))
  subst same
  rw [k1] at n1
  cases n1
  have ln := Paired.len n4
  have z1' := z1
  rw [sizeLine_eq] at z1'
  have pr : Paired (Rp.rp K (Fz g3 H3)) (vs2.take l.toNat ++ [v'] ++ vs2.drop l.toNat) (ys.take l.toNat ++ [z] ++ ys.drop l.toNat) := Paired.app (Paired.app (Paired.take' _ n4) (.cons r3 .nil)) (Paired.drop' _ n4)
  obtain ⟨G4, l4, R4⟩ := own_writeN p G3 R3 e m1 m2 m3 m4 m5 mx k1 n3 pr (by
    rw [List.length_append, List.length_append, List.length_take, List.length_drop]
    show _ + 1 + _ ≤ _
    omega)
  exact ⟨q, vs2, l, v', rfl, by rw [show v = V.int l from r2], n3, by rw [ln]; exact z1, z2.1, z2.2, z3 σ g3 _ (G4.up (by omega)) ((((e1.le G).trans (e2.le G1)).trans (e3.le G2)).trans l4) R4⟩
end
end DL
/-! DL: an item of an owned list, not borrowed. -/
namespace DL
open PySem PySem.Spec PyProof.Rows L2
variable {P : TokP} {K : PySem.W.Frag} {ks ks' ks1 ks2 kb : List Kd} {r : Rk} {ta tb te : TE}
theorem ae_ixOwn {α : Type} [Rp K α] {n : Nat} {ti : TE} {wi : TupT ks → (Int → Prop) → Prop} (a : Acc ks n (kO K α)) (hi : AE P ks (rF K Int) ci ti wi) :
    AE P ks (rF K α) ci (tOp (rIxL K) (tVar n) ti) (fun γ Q => wi γ fun i => ∃ x, atI (a.get γ) i = some x ∧ Q x) := by
  refine ⟨fun γ Q Q' q z => hi.mono γ _ _ (fun i ⟨x, e, h⟩ => ⟨x, e, q _ h⟩) z, fun A b0 γ σ g H Q hb0 G R hw => ?_⟩
  obtain ⟨y, e, b, vs, rfl, h1, h2, h3, hl⟩ := a.ok R
  refine ⟨_, e, ?_⟩
  refine hi.run A b0 γ σ g H _ (by omega) G R (hi.mono γ _ _ (fun i ⟨x, ex, hx⟩ u g1 H1 G1 e1 r1 => ?_) hw)
  obtain ⟨q1, q2⟩ := (e1.lx G).ow _ b _ h1 h2
  obtain ⟨v, hv, rv⟩ := Paired.atI' (Paired.rp_mono (e1.le G).fz h3) ex
  exact ⟨b, vs, i, v, rfl, r1, .inl (.inl q2), hv, hx v g1 H1 (G1.up (by omega)) e1 rv⟩
end DL
/-! DL: defs that may raise (begun). -/
namespace DL
open PySem PySem.Spec PyProof.Rows L2
/-- the promise of a def that may raise -/
structure FnGX (Pg : Program) (w : World) (K : PySem.W.Frag) (mg : Str → Option Value) (base : Heap) (k : Nat) (f : Addr) (fd : FuncData) (ps : List Str) (sp : Sp) : Prop where
  len : ∀ vs H Q E, sp vs H Q E → vs.length = ps.length
  run : ∀ (A : Around) (stk : List Env) (s : Shared) (H : Hp) (ar : Args) (us : List Value) (vs : List V) (Q : VK) (E : XK), RoomG k A → Env0 Pg w K mg base A stk s H → BindsTo s fd ar (ps.zip us) → Vals vs us → sp vs H Q E →
    codeAny (model Pg w) A (.call (.ref f) ar) (CR (L2.CX Pg w) stk Pg w H s Q E) s
section
variable {Pg : Program} {w : World} {K : PySem.W.Frag} {mg : Str → Option Value} {base : Heap} {f : Addr} {fd : FuncData} {ps : List Str} {sp : Sp}
theorem FnGX.mono {j k : Nat} (F : FnGX Pg w K mg base j f fd ps sp) (h : j ≤ k) : FnGX Pg w K mg base k f fd ps sp := ⟨F.len, fun A stk s H ar us vs Q E z => F.run A stk s H ar us vs Q E (z.mono h)⟩
/-- such a def of the text -/
theorem okGX {x qual : Str} {st : Stmt} {N : List Str} {k : Nat} (F : Fun K x qual st f fd) (S : FnScope N ps (defScope st)) (len : ∀ vs H Q E, sp vs H Q E → vs.length = ps.length)
    (body : ∀ (cdv : Value) (A : Around) (stk : List Env) (s : Shared) (H : Hp) (vs : List V) (Q : VK) (E : XK), RoomG k (A.deeper (envOfC qual (defScope st) s.heap.objs.size f cdv)) → sp vs H Q E →
      ∃ t, PSs (cxOf (L2.CX Pg w) Pg w K mg base N qual (defScope st) f cdv A stk s H E) (defBody st) t ∧ t { nx := fun _ H' => Q .non H', rt := Q } (start N vs) H) : FnGX Pg w K mg base (k + 1) f fd ps sp := by
  obtain ⟨oc, od, kV, doc, pm, an, cdv, ct, sl, rfl, at1, code⟩ := F.ex
  refine ⟨len, fun A stk s H ar us vs Q E z env bind rv want => ?_⟩
  have many := len _ _ _ _ want
  have up : ∀ b o, base.get? b = some o → s.heap.get? b = some o := fun b o e => (env.bs b o e).1
  have inK : K.In s.heap := env.mod.kin.keeps up
  have nolim : s.heap.NoLimit := env.mod.nolimit.keeps up
  refine codeAny_call_function z.room.depth (inK _ _ at1) rfl S.co S.gen rfl (PySem.W.codeRec_of inK code) (bind _ _ _ _ ?_)
  refine wpAny_newFunctionEnv_cells S.kind (fun y hy => ?_) fun env1 e1 s1 inside => ?_
  · obtain ⟨n, v⟩ := y
    rcases S.par n (List.of_mem_zip hy).1 with q | q
    · exact Or.inl q
    · exact Or.inr ⟨q, PySem.W.cellsFrom_some _ _ _ (Or.inl q)⟩
  subst e1
  refine ⟨nolim.keeps inside.toInCall.keep, codeAny_func ?_⟩
  obtain ⟨t, rule, reading⟩ := body cdv A stk s H vs Q E ⟨z.room.deeper _, z.clear⟩ want
  have I1 : Inv (cxOf (L2.CX Pg w) Pg w K mg base N qual (defScope st) f cdv A stk s H E) [] (start N vs) H s1 := inv_start S z.room.hd env many rv inside
  refine wpAny_mono (rule.run [] s1 (start N vs) H _ I1 reading) (fun fl s2 post => ?_) fun _ _ q => q
  cases fl with
  | brk => exact (show False from post.choose_spec.choose_spec.2).elim
  | cont => exact (show False from post.choose_spec.choose_spec.2).elim
  | next =>
    obtain ⟨σ2, H2, J, q⟩ := post
    exact ⟨V.non, H2, J.os, J.bare, J.base, J.hok, rfl, q⟩
  | ret u =>
    obtain ⟨v, σ2, H2, J, rv2, q⟩ := post
    exact ⟨v, H2, J.os, J.bare, J.base, J.hok, rv2, q⟩
end
/-- what is raised within is taken -/
theorem takesG {Pg : Program} {w : World} {K : PySem.W.Frag} {mg : Str → Option Value} {base : Heap} {N : List Str} {qual : Str} {scope : Scope} {f : Addr} {cdv : Value} {A : Around} {stk : List Env} {s : Shared} {H : Hp} {E : XK} :
    Takes (cxOf (L2.CX Pg w) Pg w K mg base N qual scope f cdv A stk s H E) (fun cls d _ H' => E cls d H') := takes_of rfl rfl rfl rfl
section
variable {X : Cx} {k n : Nat} {f : Addr} {fd : FuncData} {ps kn : List Str} {sp : Sp} {x : Str} {p pos : Pos} {e : Expr} {es : List Expr} {t tk : TA} {ds : List Value} {dvs : List V} {kws : List Keyword} {g : List Value → List Value → List Value} {gV : List V → List V → List V} {E : XK}
theorem run_GX {pins : List (Addr × Obj)} {σ : L2.St} {H : Hp} {s : Shared} {Q : VK} {us : List Value} {vs : List V} (F : FnGX X.prog X.w X.K X.mg X.base k f fd ps sp) (z : RoomG k X.A) (hb : Binds X.K fd ps ds) (hd : Vals dvs ds) (hx : Passes (L2.CX X.prog X.w) X E)
    (I : Inv X pins σ H s) (r : Vals vs us) (h : sp (vs ++ dvs) H Q E) : wpAny (model X.prog X.w) X.A (call (.ref f) us) (EP X pins σ Q) X.xe s := by
  have r2 : Vals (vs ++ dvs) (us ++ ds) := r.append hd
  have many : (us ++ ds).length = ps.length := by rw [← r2.length, F.len _ _ _ _ h]
  refine wpAny_call (codeAny_mono (F.run X.A X.stack s H _ _ _ Q E z I.env0 (hb s us I.kIn many) r2 h) fun res s2 post => ?_)
  cases res with
  | error u => exact hx pins σ H s u s2 I post
  | ok fl =>
    cases fl with
    | ret u => exact I.after post
    | next => exact (show False from post).elim
    | brk => exact (show False from post).elim
    | cont => exact (show False from post).elim
theorem pe_callGX (F : FnGX X.prog X.w X.K X.mg X.base k f fd ps sp) (z : RoomG k X.A) (hg : Gl X x) (hm : X.mg x = some (.ref f)) (hk : PySem.W.keepIn X.K (.ref f) = true) (hb : Binds X.K fd ps ds) (hd : Vals dvs ds) (hx : Passes (L2.CX X.prog X.w) X E)
    (ha : PA X (e :: es) t) (hdb : (x == ("__debug__" : Str)) = false := by decide) (hst : starEach (e :: es) X.env = (false, eval e X.env) :: starEach es X.env := by rfl) (hpl : (backTo pos (starEach es X.env)).any (·.1) = false := by rfl) :
    PE X (.Call (.Name x p) (e :: es) [] pos) (tCall sp dvs E t) :=
  ⟨fun pins s σ H Q I h => wpAny_Call_Name_kw (ld_glob I hg hm (PySem.W.callWith_K (h₀ := X.base) I.ok.mod.kin hk (thn (ha.run pos pins s σ H _ I h) fun us s1 ⟨vs, H1, I1, r, q⟩ => ⟨I1.kIn, run_GX F z hb hd hx I1 r q⟩) hst hpl) hdb)⟩
end
end DL
/-! DL: typed judgements with one more end: a class is raised. cn tells the classes by their names. -/
namespace DL
open PySem PySem.Spec PyProof.Rows L2
variable {P : TokP} {K : PySem.W.Frag} {cn : Str → Value} {ks ks' ks1 ks2 kb : List Kd} {r : Rk}
/-- a class is raised -/
def Wx (P : TokP) (A : Act) (b : Nat) (cn : Str → Value) (E : XK) : Str → Prop := fun x => ∀ g' H', Good P A b g' H' → E (cn x) none H'
theorem Wx.of {A : Act} {b0 b1 : Nat} {E : XK} (hb : b1 ≤ b0) (x : Str) (h : Wx P A b0 cn E x) : Wx P A b1 cn E x := fun g' H' G => h g' H' (G.up hb)
structure AEX (P : TokP) (cn : Str → Value) (ks : List Kd) (r : Rk) (c : Nat) (t : XK → TE) (w : TupT ks → (r.T → Prop) → (Str → Prop) → Prop) : Prop where
  mono : ∀ γ (Q Q' : r.T → Prop) (X X' : Str → Prop), (∀ x, Q x → Q' x) → (∀ x, X x → X' x) → w γ Q X → w γ Q' X'
  run : ∀ (A : Act) b0 γ σ g H (Q : VK) (E : XK), b0 + c ≤ P.B → Good P A b0 g H → RelL ks 0 γ σ g H → w γ (fun x => ∀ v g' H', Good P A (b0 + c) g' H' → Ext g H g' H' → r.rel H v x g' H' → Q v H') (Wx P A (b0 + c) cn E) → t E σ H Q
structure ASX (P : TokP) (cn : Str → Value) (ks ks' : List Kd) (r : Rk) (kb : List Kd) (c : Nat) (t : XK → TS) (w : TupT ks → We ks' r kb → (Str → Prop) → Prop) : Prop where
  mono : ∀ γ (E E' : We ks' r kb) (X X' : Str → Prop), E.Imp E' → (∀ x, X x → X' x) → w γ E X → w γ E' X'
  run : ∀ (A : Act) b0 γ σ g H (D : Ends) (E : XK), b0 + c ≤ P.B → Good P A b0 g H → RelL ks 0 γ σ g H → w γ ⟨Wt P A (b0 + c) g H ks' D.nx, Wr P A (b0 + c) r D.rt, Wt P A (b0 + c) g H kb D.bk, Wt P A (b0 + c) g H kb D.ct⟩ (Wx P A (b0 + c) cn E) → t E D σ H
theorem aex_of {t : TE} {w : TupT ks → (r.T → Prop) → Prop} (h : AE P ks r c t w) : AEX P cn ks r c (fun _ => t) (fun γ Q _ => w γ Q) := ⟨fun γ Q Q' _ _ q _ z => h.mono γ Q Q' q z, fun A b0 γ σ g H Q _ hb G R hw => h.run A b0 γ σ g H Q hb G R hw⟩
theorem asx_of {t : TS} {w : TupT ks → We ks' r kb → Prop} (h : AS P ks ks' r kb c t w) : ASX P cn ks ks' r kb c (fun _ => t) (fun γ E _ => w γ E) := ⟨fun γ E E' _ _ i _ z => h.mono γ E E' i z, fun A b0 γ σ g H D _ hb G R hw => h.run A b0 γ σ g H D hb G R hw⟩
/-- raise x(..) -/
theorem asx_raise (x : Str) : ASX P cn ks ks' r kb 0 (fun E _ _ H => E (cn x) none H) (fun _ _ X => X x) := ⟨fun _ _ _ _ _ _ q z => q _ z, fun A b0 γ σ g H D E hb G R hw => hw g H (G.up (by omega))⟩
theorem asx_seq {t u : XK → TS} {w1 : TupT ks → We ks1 r kb → (Str → Prop) → Prop} {w2 : TupT ks1 → We ks' r kb → (Str → Prop) → Prop} (h1 : ASX P cn ks ks1 r kb ct t w1) (h2 : ASX P cn ks1 ks' r kb cu u w2) :
    ASX P cn ks ks' r kb (ct + cu) (fun E => tSeq (t E) (u E)) (fun γ E X => w1 γ ⟨fun γ1 => w2 γ1 E X, E.rt, E.bk, E.ct⟩ X) := by
  refine ⟨fun γ E E' X X' i q z => h1.mono γ _ _ _ _ ⟨fun x zx => h2.mono x _ _ _ _ i q zx, i.rt, i.bk, i.ct⟩ q z, fun A b0 γ σ g H D E hb0 G R hw => ?_⟩
  refine h1.run A b0 γ σ g H _ E (by omega) G R ?_
  refine h1.mono γ _ _ _ _ ?_ (Wx.of (by omega)) hw
  refine ⟨fun x zx σ' g' H' G' l' R' => ?_, fun _ h v g' H' G' => h v g' H' (G'.up (by omega)), fun _ h => Wt.of (by omega) (Le.refl _ _) h, fun _ h => Wt.of (by omega) (Le.refl _ _) h⟩
  exact h2.run A _ x σ' g' H' D E (by omega) G' R' (h2.mono x _ _ _ _ (We.of (by omega) l') (Wx.of (by omega)) zx)
theorem asx_if {c : TT} {t u : XK → TS} {wc : TupT ks → (Bool → Prop) → Prop} {w1 w2 : TupT ks → We ks' r kb → (Str → Prop) → Prop} (hc : AT P ks cc c wc) (h1 : ASX P cn ks ks' r kb ct t w1) (h2 : ASX P cn ks ks' r kb cu u w2) :
    ASX P cn ks ks' r kb (cc + ct + cu) (fun E => tIfS c (t E) (u E)) (fun γ E X => wc γ fun b => if b = true then w1 γ E X else w2 γ E X) := by
  refine ⟨fun γ E E' X X' i q z => hc.mono γ _ _ (fun b zb => ?_) z, fun A b0 γ σ g H D E hb0 G R hw => ?_⟩
  · cases b with
    | true => exact h1.mono γ _ _ _ _ i q zb
    | false => exact h2.mono γ _ _ _ _ i q zb
  · refine hc.run A b0 γ σ g H _ (by omega) G R (hc.mono γ _ _ (fun b zb g' H' G' e' => ?_) hw)
    cases b with
    | true => exact h1.run A _ γ σ g' H' D E (by omega) G' (R.ext G e') (h1.mono γ _ _ _ _ (We.of (by omega) (e'.le G)) (Wx.of (by omega)) zb)
    | false => exact h2.run A _ γ σ g' H' D E (by omega) G' (R.ext G e') (h2.mono γ _ _ _ _ (We.of (by omega) (e'.le G)) (Wx.of (by omega)) zb)
theorem asx_set {vk : Vk} {n : Nat} {te : XK → TE} {w : TupT ks → (vk.T → Prop) → (Str → Prop) → Prop} (he : AEX P cn ks (rV vk) ce te w) (p : Put ks n (kV vk) ks') : ASX P cn ks ks' r kb ce (fun E => tAsg (te E) (gName n)) (fun γ E X => w γ (fun x => ∀ y, y = x → E.nx (p.put γ y)) X) := by
  refine ⟨fun γ E E' X X' i q z => he.mono γ _ _ _ _ (fun x zx y ey => i.nx _ (zx y ey)) q z, fun A b0 γ σ g H D E hb0 G R hw => ?_⟩
  refine he.run A b0 γ σ g H _ E (by omega) G R (he.mono γ _ _ _ _ (fun x zx v g' H' G' e' r' => ?_) (Wx.of (by omega)) hw)
  exact zx x rfl _ g' H' (G'.up (by omega)) (e'.le G) (p.ok R (e'.le G) (fun j _ => (e'.lx G).ow j) ⟨v, rfl, r'⟩)
theorem asx_expr {r' : Rk} {te : XK → TE} {w : TupT ks → (r.T → Prop) → (Str → Prop) → Prop} (he : AEX P cn ks r ce te w) : ASX P cn ks ks r' kb ce (fun E => tDrop (te E)) (fun γ E X => w γ (fun _ => E.nx γ) X) := by
  refine ⟨fun γ E E' X X' i q z => he.mono γ _ _ _ _ (fun x zx => i.nx _ zx) q z, fun A b0 γ σ g H D E hb0 G R hw => ?_⟩
  refine he.run A b0 γ σ g H _ E (by omega) G R (he.mono γ _ _ _ _ (fun x zx v g' H' G' e' r' => ?_) (Wx.of (by omega)) hw)
  exact zx σ g' H' (G'.up (by omega)) (e'.le G) (R.ext G e')
theorem asx_ret {te : XK → TE} {w : TupT ks → (r.T → Prop) → (Str → Prop) → Prop} (he : AEX P cn ks r ce te w) : ASX P cn ks ks' r kb ce (fun E => tRet (te E)) (fun γ E X => w γ E.rt X) := by
  refine ⟨fun γ E E' X X' i q z => he.mono γ _ _ _ _ i.rt q z, fun A b0 γ σ g H D E hb0 G R hw => ?_⟩
  refine he.run A b0 γ σ g H _ E (by omega) G R (he.mono γ _ _ _ _ (fun x zx v g' H' G' e' r' => ?_) (Wx.of (by omega)) hw)
  exact zx v g' H' (G'.up (by omega)) (r.start (fun a ha => G.ext.keeps G ha) r')
/-- a def that may raise, by its promise -/
def SpX (P : TokP) (cn : Str → Value) (ps : List Vk) (r : Rk) (c : Nat) (w : TupV ps → (r.T → Prop) → (Str → Prop) → Prop) : Sp := fun vs H Q E => ∃ (A : Act) (b0 : Nat) (γ : TupV ps), A.H0 = H ∧ b0 + c ≤ P.B ∧ Good P A b0 A.g0 A.H0 ∧ RelVs ps γ vs A.g0 A.H0 ∧ w γ (Wr P A (b0 + c) r Q) (Wx P A (b0 + c) cn E)
structure PmX (P : TokP) (ps : List Vk) (r : Rk) (w : TupV ps → (r.T → Prop) → (Str → Prop) → Prop) : Prop where
  mono : ∀ γ (Q Q' : r.T → Prop) (X X' : Str → Prop), (∀ x, Q x → Q' x) → (∀ x, X x → X' x) → w γ Q X → w γ Q' X'
theorem spx_call {A : Act} {g1 : Gh} {H H1 : Hp} {g : Gh} {b0 c : Nat} {ps : List Vk} {w : TupV ps → (r.T → Prop) → (Str → Prop) → Prop} {xs : TupV ps} {vs : List V} {Q : VK} {E : XK} (wm : PmX P ps r w) (hc : b0 + c ≤ P.B) (G1 : Good P A b0 g1 H1) (e1 : Ext g H g1 H1) (rv : RelVs ps xs vs g1 H1)
    (h : w xs (fun x => ∀ v g' H', Good P A (b0 + c) g' H' → Ext g H g' H' → r.rel H v x g' H' → Q v H') (Wx P A (b0 + c) cn E)) : SpX P cn ps r c w vs H1 Q E := by
  refine ⟨hidden g1 H1, b0, xs, rfl, hc, hidden_good G1, RelVs.mono (le_mg (fun a q => hide_frz.mpr q) fun a q => hide_tok.mpr q) rv, wm.mono xs _ _ _ _ (fun c zc v g' H' G' r' => ?_) (fun x zx g' H' G' => ?_) h⟩
  · obtain ⟨G2, e2⟩ := back_good G1 G'
    exact zc v _ H' (G2.up (by omega)) (e1.trans G1 e2) (r.start (fun a ha => e1.keeps G1 ha) (back_rel (A := A) G' r'))
  · obtain ⟨G2, _⟩ := back_good G1 G'
    exact zx _ H' G2
theorem aex_call {c ct : Nat} {ps : List Vk} {w : TupV ps → (r.T → Prop) → (Str → Prop) → Prop} {t : TA} {wt : TupT ks → (TupV ps → Prop) → Prop} (wm : PmX P ps r w) (ha : AA P ks ps ct t wt) :
    AEX P cn ks r (ct + c) (fun E => tCall (SpX P cn ps r c w) [] E t) (fun γ Q X => wt γ fun xs => w xs Q X) := by
  refine ⟨fun γ Q Q' X X' q k z => ha.mono γ _ _ (fun a za => wm.mono a _ _ _ _ q k za) z, fun A b0 γ σ g H Q E hb0 G R hw => ?_⟩
  refine ha.run A b0 γ σ g H _ (by omega) G R (ha.mono γ _ _ (fun xs zx vs g1 H1 G1 e1 r1 => ?_) hw)
  rw [List.append_nil]
  exact spx_call wm (by omega) G1 e1 r1 (wm.mono xs _ _ _ _ (fun x z v g' H' G' => z v g' H' (G'.up (by omega))) (Wx.of (by omega)) zx)
def wDefX {pk : List Vk} {n : Nat} (i : Ini pk ks n) (w : TupT ks → We ks' r [] → (Str → Prop) → Prop) : TupV pk → (r.T → Prop) → (Str → Prop) → Prop := fun γ Q X => w (i.to γ) ⟨fun _ => False, Q, fun _ => False, fun _ => False⟩ X
def wDefUX {pk : List Vk} {n : Nat} (i : Ini pk ks n) (w : TupT ks → We ks' (rF K Unit) [] → (Str → Prop) → Prop) : TupV pk → (Unit → Prop) → (Str → Prop) → Prop := fun γ Q X => w (i.to γ) ⟨fun _ => Q (), Q, fun _ => False, fun _ => False⟩ X
theorem pm_defX {pk : List Vk} {n : Nat} {i : Ini pk ks n} {t : XK → TS} {w : TupT ks → We ks' r [] → (Str → Prop) → Prop} (h : ASX P cn ks ks' r [] ct t w) : PmX P pk r (wDefX i w) := ⟨fun γ Q Q' X X' q k z => by
  refine h.mono _ _ _ _ _ ?_ k z
  exact ⟨fun _ h => h, q, fun _ h => h, fun _ h => h⟩⟩
theorem pm_defUX {pk : List Vk} {n : Nat} {i : Ini pk ks n} {t : XK → TS} {w : TupT ks → We ks' (rF K Unit) [] → (Str → Prop) → Prop} (h : ASX P cn ks ks' (rF K Unit) [] ct t w) : PmX P pk (rF K Unit) (wDefUX i w) := ⟨fun γ Q Q' X X' q k z => by
  refine h.mono _ _ _ _ _ ?_ k z
  exact ⟨fun _ h => q _ h, q, fun _ h => h, fun _ h => h⟩⟩
theorem sp_defX {pk : List Vk} {n : Nat} {i : Ini pk ks n} {t : XK → TS} {w : TupT ks → We ks' r [] → (Str → Prop) → Prop} (h : ASX P cn ks ks' r [] ct t w) {vs : List V} {H : Hp} {Q : VK} {E : XK} {N : List Str} (hN : N.length = pk.length + n) (q : SpX P cn pk r ct (wDefX i w) vs H Q E) :
    t E { nx := fun _ H' => Q .non H', rt := Q } (L2.start N vs) H := by
  obtain ⟨A, b0, γ, rfl, hb0, G, rv, z⟩ := q
  have e : L2.start N vs = vs.map some ++ List.replicate n none := by
    unfold L2.start
    rw [RelVs.length rv, hN, Nat.add_sub_cancel_left]
  rw [e]
  refine h.run A b0 _ _ A.g0 A.H0 _ E hb0 G (i.ok rv) ?_
  refine h.mono _ _ _ _ _ ?_ (fun _ h => h) z
  exact ⟨fun _ h => h.elim, fun _ h => h, fun _ h => h.elim, fun _ h => h.elim⟩
theorem sp_lenX {pk : List Vk} {w : TupV pk → (r.T → Prop) → (Str → Prop) → Prop} {vs : List V} {H : Hp} {Q : VK} {E : XK} (q : SpX P cn pk r ct w vs H Q E) : vs.length = pk.length := by
  obtain ⟨A, b0, γ, rfl, hb0, G, rv, z⟩ := q
  exact RelVs.length rv
/-- where nothing is raised, the promise of a def that may raise is one that does not -/
theorem spx_of {ps : List Vk} {c : Nat} {w : TupV ps → (r.T → Prop) → (Str → Prop) → Prop} {w0 : TupV ps → (r.T → Prop) → Prop} (h : ∀ γ Q, w0 γ Q → ∀ X, w γ Q X) {vs : List V} {H : Hp} {Q : VK} {E : XK} (q : SpOf P ps r c w0 vs H Q E) : SpX P cn ps r c w vs H Q E := by
  obtain ⟨A, b0, γ, e, hb0, G, rv, z⟩ := q
  exact ⟨A, b0, γ, e, hb0, G, rv, h γ _ z _⟩
end DL
/-! DL: loops of defs that may raise; what is raised. -/
namespace DL
open PySem PySem.Spec PyProof.Rows L2
variable {P : TokP} {K : PySem.W.Frag} {cn : Str → Value} {ks ks' ks1 ks2 kb : List Kd} {r : Rk}
theorem asx_for {α : Type} [Rp K α] {wi : TI} {gt : TG} {tb' : XK → TS} {ksx ksl : List Kd} {w : TupT ks → (List α → Prop) → Prop} {put : TupT ksl → α → TupT ksx} {sl : List Nat} {wb : TupT ksx → We ksl r ksl → (Str → Prop) → Prop} (hi : AI P K ks α ci wi w) (k : Wk ks ksl)
    (hg : AG K ksl α ksx gt put sl) (hb : ASX P cn ksx ksl r ksl cb tb' wb) :
    ASX P cn ks ksl r kb (ci + 9223372036854775808 * cb) (fun E => tFor wi gt (tb' E)) (fun γ E X => w γ fun xs => wForL (fun x γ' nx bk => wb (put γ' x) ⟨nx, E.rt, bk, nx⟩ X) E.nx xs (k.to γ)) := by
  have fm : ∀ (E E' : We ksl r kb) (X X' : Str → Prop), E.Imp E' → (∀ x, X x → X' x) → ∀ (xs : List α) γ', wForL (fun x γ' nx bk => wb (put γ' x) ⟨nx, E.rt, bk, nx⟩ X) E.nx xs γ' → wForL (fun x γ' nx bk => wb (put γ' x) ⟨nx, E'.rt, bk, nx⟩ X') E'.nx xs γ' := by
    intro E E' X X' i q xs
    induction xs with
    | nil => exact fun γ' z => i.nx _ z
    | cons x xs ih => exact fun γ' z => hb.mono _ _ _ _ _ ⟨ih, i.rt, i.nx, ih⟩ q z
  refine ⟨fun γ E E' X X' i q z => hi.mono γ _ _ (fun xs zx => fm E E' X X' i q xs _ zx) z, fun A b0 γ σ g H D E hb0 G R hw => ?_⟩
  refine hi.run A b0 γ σ g H _ (by omega) G R (hi.mono γ _ _ (fun xs zx J g1 H1 G1 e1 it => ?_) hw)
  generalize hT : b0 + (ci + 9223372036854775808 * cb) = T at zx
  have step : ∀ i, i < xs.length → b0 + ci + i * cb + cb ≤ T ∧ b0 + ci + i * cb + cb = b0 + ci + (i + 1) * cb := fun i hi => by
    have hm : (i + 1) * cb ≤ 9223372036854775808 * cb := Nat.mul_le_mul_right cb (by have := it.len; omega)
    rw [Nat.succ_mul] at hm ⊢
    omega
  refine ⟨fun i m σ' H' => ∃ γ' g', m = xs.length - i ∧ i ≤ xs.length ∧ Good P A (b0 + ci + i * cb) g' H' ∧ Le g1 H1 g' H' ∧ RelL ksl 0 γ' σ' g' H' ∧
    wForL (fun x γ' nx bk => wb (put γ' x) ⟨nx, Wr P A T r D.rt, bk, nx⟩ (Wx P A T cn E)) (Wt P A T g H ksl D.nx) (xs.drop i) γ', ⟨xs.length, k.to γ, g1, rfl, Nat.zero_le _, G1.up (by omega), Le.refl _ _, k.ok (R.ext G e1), zx⟩, ?_⟩
  rintro i m σ' H' ⟨γ', g', rfl, hle, G', l', R', z⟩
  have l0 : Le g H g' H' := (e1.le G).trans l'
  by_cases hlt : i < xs.length
  · right
    obtain ⟨st1, st2⟩ := step i hlt
    refine ⟨it.go A _ g' H' i G' l' hlt, fun σ2 H2 => ∃ γ2 g2, Good P A (b0 + ci + (i + 1) * cb) g2 H2 ∧ Le g1 H1 g2 H2 ∧ RelL ksl 0 γ2 σ2 g2 H2 ∧ wForL (fun x γ' nx bk => wb (put γ' x) ⟨nx, Wr P A T r D.rt, bk, nx⟩ (Wx P A T cn E)) (Wt P A T g H ksl D.nx) (xs.drop (i + 1)) γ2,
      fun σ2 H2 ⟨γ2, g2, G2, l2, R2, z2⟩ => ⟨xs.length - (i + 1), by omega, γ2, g2, rfl, hlt, G2, l2, R2, z2⟩, fun x H2 hy => ?_⟩
    have ei : xs[i]? = some xs[i] := List.getElem?_eq_getElem hlt
    obtain ⟨G2, e2, rx⟩ := it.yld A _ g' H' i x H2 G' l' hy _ ei
    have l2 := e2.le G'
    refine hg.run x xs[i] γ' σ' g' H2 _ (R'.ext G' e2) rx fun σ3 R3 _ => ?_
    rw [List.drop_eq_getElem_cons hlt] at z
    have z' : wb (put γ' xs[i]) ⟨wForL (fun x γ' nx bk => wb (put γ' x) ⟨nx, Wr P A T r D.rt, bk, nx⟩ (Wx P A T cn E)) (Wt P A T g H ksl D.nx) (xs.drop (i + 1)), Wr P A T r D.rt, Wt P A T g H ksl D.nx, wForL (fun x γ' nx bk => wb (put γ' x) ⟨nx, Wr P A T r D.rt, bk, nx⟩ (Wx P A T cn E)) (Wt P A T g H ksl D.nx) (xs.drop (i + 1))⟩ (Wx P A T cn E) := z
    refine hb.run A _ _ σ3 g' H2 _ E (by omega) G2 R3 ?_
    refine hb.mono _ _ _ _ _ ?_ (Wx.of st1) z'
    exact ⟨fun γ4 z4 σ4 g4 H4 G4 l4 R4 => ⟨γ4, g4, G4.up (Nat.le_of_eq st2), (l'.trans l2).trans l4, R4, z4⟩, fun _ h v g5 H5 G5 => h v g5 H5 (G5.up st1), fun γ4 z4 σ4 g4 H4 G4 l4 R4 => z4 σ4 g4 H4 (G4.up st1) ((l0.trans l2).trans l4) R4,
      fun γ4 z4 σ4 g4 H4 G4 l4 R4 => ⟨γ4, g4, G4.up (Nat.le_of_eq st2), (l'.trans l2).trans l4, R4, z4⟩⟩
  · left
    have ei : i = xs.length := by omega
    refine ⟨it.stop A _ g' H' i G' l' (by omega), ?_⟩
    have hT2 : b0 + ci + i * cb ≤ T := by
      have hm : i * cb ≤ 9223372036854775808 * cb := Nat.mul_le_mul_right cb (by have := it.len; omega)
      omega
    rw [ei, List.drop_length] at z
    exact z σ' g' H' (G'.up hT2) l0 R'

theorem asx_frz {α : Type} [Rp K α] {n : Nat} {t : XK → TS} {w : TupT ks1 → We ks' r kb → (Str → Prop) → Prop} (a : Acc ks n (kO K α)) (p : Put ks n (kF K (List α)) ks1) (h : ASX P cn ks1 ks' r kb ct t w) : ASX P cn ks ks' r kb ct t (fun γ E X => w (p.put γ (a.get γ)) E X) := by
  refine ⟨fun γ E E' X X' i q z => h.mono _ _ _ _ _ i q z, fun A b0 γ σ g H D E hb0 G R hw => ?_⟩
  obtain ⟨y, e, b, vs, rfl, h1, h2, h3, hl⟩ := a.ok R
  have h0 : A.H0 b = none := G.noown0 h1
  have l2 : Le g H (tagAt g b .frz) H := le_tag (by rw [h1]; simp) (by rw [h1]; simp)
  have es : σ.set n (some (.ref b)) = σ := set_self e
  have R1 := p.ok (y := some (.ref b)) (x := a.get γ) R l2 (fun j hj c o hc ho => ⟨by
    rw [tagAt_ne]
    · exact hc
    · intro z
      subst z
      rw [h1] at hc
      exact hj (Tg.own.inj hc).symm, ho⟩) ⟨_, rfl, b, vs, rfl, fz_some.mpr ⟨h2, .inr (by rw [tagAt_same]; rfl)⟩, Paired.rp_mono l2.fz h3, hl⟩
  rw [es] at R1
  exact h.run A b0 _ σ (tagAt g b .frz) H D E (by omega) (G.retag h0 h2 (by rw [h1]; simp) fun z => nomatch z) R1 (h.mono _ _ _ _ _ (We.of (by omega) l2) (Wx.of (by omega)) hw)
/-- the rest of a block, by itself -/
structure CbX (P : TokP) (cn : Str → Value) (ks ks' : List Kd) (r : Rk) (kb : List Kd) where
  c : Nat
  t : XK → TS
  w : TupT ks → We ks' r kb → (Str → Prop) → Prop
  ok : ASX P cn ks ks' r kb c t w
/-- a def that may raise, by its body -/
structure CdX (P : TokP) (cn : Str → Value) (ks ks' : List Kd) (r : Rk) where
  c : Nat
  t : XK → TS
  w : TupT ks → We ks' r [] → (Str → Prop) → Prop
  ok : ASX P cn ks ks' r [] c t w
theorem sp_defUX {pk : List Vk} {n ct : Nat} {i : Ini pk ks n} {t : XK → TS} {w : TupT ks → We ks' (rF K Unit) [] → (Str → Prop) → Prop} (h : ASX P cn ks ks' (rF K Unit) [] ct t w) {vs : List V} {H : Hp} {Q : VK} {E : XK} {N : List Str} (hN : N.length = pk.length + n) (q : SpX P cn pk (rF K Unit) ct (wDefUX i w) vs H Q E) :
    t E { nx := fun _ H' => Q .non H', rt := Q } (L2.start N vs) H := by
  obtain ⟨A, b0, γ, rfl, hb0, G, rv, z⟩ := q
  have e : L2.start N vs = vs.map some ++ List.replicate n none := by
    unfold L2.start
    rw [RelVs.length rv, hN, Nat.add_sub_cancel_left]
  rw [e]
  refine h.run A b0 _ _ A.g0 A.H0 _ E hb0 G (i.ok rv) ?_
  refine h.mono _ _ _ _ _ ?_ (fun _ h => h) z
  exact ⟨fun _ h σ' g' H' G' _ _ => h .non g' H' G' rfl, fun _ h => h, fun _ h => h.elim, fun _ h => h.elim⟩
/-- raise C('m') of a class without an own __init__ -/
theorem ps_raiseG {X : Cx} {C : Addr} {bmB : List Value} {B newId initId : String} {x m : Str} {j : Nat} {p p2 pos pos2 : Pos} {E : XK} (hc : X.calm = true) (tk : Takes X fun cls d _ H' => E cls d H') (F : ExcBaseFacts B newId initId bmB) (q : PySem.W.excIn X.K C bmB newId = true) (gC : X.mg x = some (.ref C)) (kC : PySem.W.keepIn X.K (.ref C) = true)
    (r1 : PySem.W.subIn X.K (.ref C) (.type "BaseException") = some true) (r2 : PySem.W.typeIn X.K (.ref C) = some (.type "type")) (hg : Gl X x) (hdb : (x == ("__debug__" : Str)) = false := by decide) :
    PS X (.Raise (some (.Call (.Name x p) [.Constant (.str m) j p2] [] pos)) none pos2) (fun _ _ H => E (.ref C) none H) := ps_raise hc tk (pmk_own F q gC kC (raises_own r1 r2) hg hdb)
theorem aex_frz {α : Type} [Rp K α] {t : XK → TE} {w : TupT ks → (List α → Prop) → (Str → Prop) → Prop} (h : AEX P cn ks (rO K α) ca t w) : AEX P cn ks (rF K (List α)) ca t w := by
  refine ⟨h.mono, fun A b0 γ σ g H Q E hb0 G R hw => ?_⟩
  refine h.run A b0 γ σ g H Q E (by omega) G R (h.mono γ _ _ _ _ (fun xs z v g' H' G' e r' => ?_) (fun _ z => z) hw)
  obtain ⟨g'', G'', e'', r''⟩ := frz_own G G' e r'
  exact z v g'' H' (G''.up (by omega)) e'' r''
theorem aex_map {α β : Type} [Rp K α] [Rp K β] {t : XK → TE} {w : TupT ks → (α → Prop) → (Str → Prop) → Prop} {f : α → β} (h : AEX P cn ks (rF K α) ca t w) (hf : ∀ F v x, Rp.rp K F v x → Rp.rp K F v (f x)) : AEX P cn ks (rF K β) ca t (fun γ Q X => w γ (fun x => Q (f x)) X) :=
  ⟨fun γ Q Q' X X' q k z => h.mono γ _ _ _ _ (fun x => q (f x)) k z, fun A b0 γ σ g H Q E hb0 G R hw => h.run A b0 γ σ g H Q E (by omega) G R (h.mono γ _ _ _ _ (fun x z v g' H' G' e rl => z v g' H' (G'.up (by omega)) e (hf _ _ _ rl)) (fun _ z => z) hw)⟩
/-- a call of such a def where nothing may be raised -/
theorem ae_callX {c ct : Nat} {ps : List Vk} {w : TupV ps → (r.T → Prop) → (Str → Prop) → Prop} {t : TA} {wt : TupT ks → (TupV ps → Prop) → Prop} (wm : PmX P ps r w) (ha : AA P ks ps ct t wt) :
    AE P ks r (ct + c) (tCall (SpX P cn ps r c w) [] L2.E0 t) (fun γ Q => wt γ fun xs => w xs Q fun _ => False) := by
  have h := aex_call (P := P) (cn := cn) (ks := ks) (r := r) (c := c) wm ha
  exact ⟨fun γ Q Q' q z => h.mono γ Q Q' _ _ q (fun _ z => z) z, fun A b0 γ σ g H Q hb0 G R hw => h.run A b0 γ σ g H Q L2.E0 hb0 G R (h.mono γ _ _ _ _ (fun _ z => z) (fun _ z => z.elim) hw)⟩
section
variable {X : Cx} {k n : Nat} {f : Addr} {fd : FuncData} {ps kn : List Str} {sp : Sp} {x : Str} {p pos : Pos} {e : Expr} {es : List Expr} {t tk : TA} {ds : List Value} {dvs : List V} {kws : List Keyword} {g : List Value → List Value → List Value} {gV : List V → List V → List V} {E : XK}
/-- f(e, .., k = v, ..) -/
theorem run_fnGNX {pins : List (Addr × Obj)} {σ : L2.St} {H : Hp} {s : Shared} {Q : VK} {us ws : List Value} {vs zs : List V} (F : FnGX X.prog X.w X.K X.mg X.base k f fd ps sp) (z : RoomG k X.A) (hb : KBn X.K fd ps n kn g gV) (hx : Passes (L2.CX X.prog X.w) X E)
    (I : Inv X pins σ H s) (r : Vals vs us) (r2 : Vals zs ws) (l1 : vs.length = n) (l2 : zs.length = kn.length) (h : sp (gV vs zs) H Q E) : wpAny (model X.prog X.w) X.A (call (.ref f) us (kn.zip ws)) (EP X pins σ Q) X.xe s := by
  refine wpAny_call (codeAny_mono (F.run X.A X.stack s H _ _ _ Q E z I.env0 (hb.to s us ws I.kIn (r.length.symm.trans l1) (r2.length.symm.trans l2)) (hb.rel r r2) h) fun res s2 post => ?_)
  cases res with
  | error u => exact hx pins σ H s u s2 I post
  | ok fl =>
    cases fl with
    | ret u => exact I.after post
    | next => exact (show False from post).elim
    | brk => exact (show False from post).elim
    | cont => exact (show False from post).elim
theorem pe_callGNX (F : FnGX X.prog X.w X.K X.mg X.base k f fd ps sp) (z : RoomG k X.A) (hg : Gl X x) (hm : X.mg x = some (.ref f)) (hk : PySem.W.keepIn X.K (.ref f) = true) (hb : KBn X.K fd ps n kn g gV) (hx : Passes (L2.CX X.prog X.w) X E)
    (ha : PA X (e :: es) t) (hkw : PK X kws tk) (hall : (backToKw pos (keywordEach kws X.env)).all (·.1.isSome) = true := by rfl) (hks : (backToKw pos (keywordEach kws X.env)).filterMap (·.1) = kn := by rfl)
    (hdb : (x == ("__debug__" : Str)) = false := by decide) (hst : starEach (e :: es) X.env = (false, eval e X.env) :: starEach es X.env := by rfl)
    (hpl : ((backTo pos (starEach (e :: es) X.env)).any (·.1) || (backToKw pos (keywordEach kws X.env)).any (·.1.isNone)) = false := by rfl) :
    PE X (.Call (.Name x p) (e :: es) kws pos) (tCallN n kn.length sp gV E t tk) := by
  refine ⟨fun pins s σ H Q I h => wpAny_Call_Name_kw (ld_glob I hg hm ?_ hdb)⟩
  refine PySem.W.callWith_KW (h₀ := X.base) I.ok.mod.kin hk hall (thn (ha.run pos pins s σ H _ I h) fun us s1 ⟨vs, H1, I1, r, q⟩ => ?_) hpl hst
  refine thn (hkw.run pos pins s1 σ H1 _ I1 q) fun ws s2 ⟨zs, H2, I2, r2, l1, l2, q2⟩ => ⟨I2.kIn, ?_⟩
  rw [hks]
  exact run_fnGNX F z hb hx I2 r r2 l1 l2 q2
theorem pe_callGN0X (F : FnGX X.prog X.w X.K X.mg X.base k f fd ps sp) (z : RoomG k X.A) (hg : Gl X x) (hm : X.mg x = some (.ref f)) (hk : PySem.W.keepIn X.K (.ref f) = true) (hb : KBn X.K fd ps 0 kn g gV) (hx : Passes (L2.CX X.prog X.w) X E)
    (hkw : PK X kws tk) (hall : (backToKw pos (keywordEach kws X.env)).all (·.1.isSome) = true := by rfl) (hks : (backToKw pos (keywordEach kws X.env)).filterMap (·.1) = kn := by rfl)
    (hdb : (x == ("__debug__" : Str)) = false := by decide) (hpl : ((backTo pos (starEach [] X.env)).any (·.1) || (backToKw pos (keywordEach kws X.env)).any (·.1.isNone)) = false := by rfl) :
    PE X (.Call (.Name x p) [] kws pos) (tCallN 0 kn.length sp gV E tNil tk) := by
  refine ⟨fun pins s σ H Q I h => wpAny_Call_Name_kw (ld_glob I hg hm ?_ hdb)⟩
  refine PySem.W.callWith_KW0 (h₀ := X.base) I.ok.mod.kin hk hall ?_ hpl
  refine thn (hkw.run pos pins s σ H _ I h) fun ws s2 ⟨zs, H2, I2, r2, l1, l2, q2⟩ => ⟨I2.kIn, ?_⟩
  rw [hks]
  exact run_fnGNX (us := []) (vs := []) F z hb hx I2 .nil r2 l1 l2 q2
end
end DL
/-! DL: new lists of new lists told, or None. -/
namespace DL
open PySem PySem.Spec PyProof.Rows L2
variable {P : TokP} {K : PySem.W.Frag} {ks ks' ks1 ks2 kb : List Kd} {r : Rk} {ta tb te : TE}
/-- None, or a new list of new lists -/
@[reducible] def rNO (K : PySem.W.Frag) (α : Type) [Rp K α] : Rk := ⟨Option (List (List α)), fun Hs v x g H => match x with | none => v = .non | some y => (rN K α).rel Hs v y g H,
  fun {Hs Hs' v x g H} h q => by
    cases x with
    | none => exact q
    | some y => exact (rN K α).start h q,
  fun {Hs v x g g' H} h1 h2 h3 q => by
    cases x with
    | none => exact q
    | some y => exact (rN K α).mg h1 h2 h3 q⟩
@[reducible] def kNO (K : PySem.W.Frag) (α : Type) [Rp K α] : Kd := ⟨Option (List (List α)), fun i y x g H => match x with | none => y = some .non | some z => (kN K α).rel i y z g H,
  fun {i y x g H g' H'} l o q => by
    cases x with
    | none => exact q
    | some z => exact (kN K α).st l o q⟩
section
variable {α : Type} [Rp K α]
theorem ae_noneNO : AE P ks (rNO K α) 0 (tC .non) (wC none) := ⟨fun _ _ _ q z => q _ z, fun A b0 γ σ g H Q hb0 G R hw => hw .non g H (G.up (by omega)) (Ext.refl g H) rfl⟩
/-- return of an owned list of owned lists -/
theorem as_giveNO {n : Nat} (a : Acc ks n (kN K α)) : AS P ks ks' (rNO K α) kb 0 (tRet (tVar n)) (fun γ E => E.rt (some (a.get γ))) := by
  refine ⟨fun γ E E' i z => i.rt _ z, fun A b0 γ σ g H D hb0 G R hw => ?_⟩
  obtain ⟨y, e, b, bs, rfl, h1, h2, h3, h4, h5, hl⟩ := a.ok R
  have all : ∀ c ∈ b :: bs, g c = .own (0 + n) ∧ ∃ o, H c = some o := fun c hc => by
    rcases List.mem_cons.mp hc with rfl | hc
    · exact ⟨h1, _, h2⟩
    · obtain ⟨q1, vs, q2⟩ := h5.mem c hc
      exact ⟨q1, _, q2⟩
  have l2 : Le g H (tagAll g (b :: bs) .oth) H := le_tagAll fun c hc => by rw [(all c hc).1]; simp
  refine ⟨_, e, hw _ (tagAll g (b :: bs) .oth) H ((G.retagAll (t := .oth) (fun c hc => ⟨G.noown0 (all c hc).1, (all c hc).2⟩) fun z => nomatch z).up (by omega)) ⟨b, bs, rfl, G.noown0 h1, tagAll_in List.mem_cons_self, h2, h3, h4, fun c hc => G.noown0 (all c (List.mem_cons_of_mem _ hc)).1, h5.tag l2 fun c hc => tagAll_in (List.mem_cons_of_mem _ hc), hl⟩⟩
/-- x = f(..), None or a new list of new lists -/
theorem as_ownNO {n : Nat} {w : TupT ks → (Option (List (List α)) → Prop) → Prop} (he : AE P ks (rNO K α) ce te w) (p : Put ks n (kNO K α) ks') : AS P ks ks' r kb ce (tAsg te (gName n)) (fun γ E => w γ fun x => ∀ y, y = x → E.nx (p.put γ y)) := by
  refine ⟨fun γ E E' i z => he.mono γ _ _ (fun x zx y ey => i.nx _ (zx y ey)) z, fun A b0 γ σ g H D hb0 G R hw => ?_⟩
  refine he.run A b0 γ σ g H _ (by omega) G R (he.mono γ _ _ (fun x zx v g' H' G' e' r' => ?_) hw)
  cases x with
  | none =>
    have r' : v = .non := r'
    subst r'
    exact zx none rfl _ g' H' (G'.up (by omega)) (e'.le G) (p.ok R (e'.le G) (fun j _ => (e'.lx G).ow j) rfl)
  | some x =>
    obtain ⟨a, bs, rfl, h1, h2, h3, h4, h5, h6, h7, hl⟩ := r'
    have all : ∀ b ∈ a :: bs, H b = none ∧ g' b = .oth ∧ ∃ o, H' b = some o := fun b hb => by
      rcases List.mem_cons.mp hb with rfl | hb
      · exact ⟨h1, h2, _, h3⟩
      · obtain ⟨q1, vs, q2⟩ := h7.mem b hb
        exact ⟨h6 b hb, q1, _, q2⟩
    have l2 : Le g' H' (tagAll g' (a :: bs) (.own n)) H' := le_tagAll fun b hb => by rw [(all b hb).2.1]; simp
    refine zx (some x) rfl _ _ H' ((G'.retagAll (t := .own n) (fun b hb => ⟨G.ext.keeps G (all b hb).1, (all b hb).2.2⟩) (fun z => nomatch z)).up (by omega)) ((e'.le G).trans l2)
      (p.ok R ((e'.le G).trans l2) (fun j _ b o hb ho => ?_) ⟨a, bs, rfl, ?_, h3, h4, h5, h7.tag l2 (fun b hb => ?_), hl⟩)
    · obtain ⟨q1, q2⟩ := (e'.lx G).ow j b o hb ho
      refine ⟨?_, q2⟩
      rw [tagAll_out]
      · exact q1
      · intro z
        rw [(all b z).1] at ho
        cases ho
    · rw [tagAll_in List.mem_cons_self, Nat.zero_add]
    · rw [tagAll_in (List.mem_cons_of_mem _ hb), Nat.zero_add]
/-- from here on it is known not to be None -/
theorem as_getN {n : Nat} {t : TS} {w : TupT ks1 → We ks' r kb → Prop} (a : Acc ks n (kNO K α)) (p : Put ks n (kN K α) ks1) (h : AS P ks1 ks' r kb ct t w) : AS P ks ks' r kb ct t (fun γ E => ∃ y, a.get γ = some y ∧ w (p.put γ y) E) := by
  refine ⟨fun γ E E' i ⟨y, e, z⟩ => ⟨y, e, h.mono _ _ _ i z⟩, fun A b0 γ σ g H D hb0 G R ⟨y, ey, hw⟩ => ?_⟩
  obtain ⟨s, e, k⟩ := a.ok R
  rw [ey] at k
  have R1 := p.ok (y := s) (x := y) R (Le.refl g H) (fun j _ b o hb ho => ⟨hb, ho⟩) k
  rw [set_self e] at R1
  exact h.run A b0 _ σ g H D hb0 G R1 hw
/-- held while it is read -/
def Bor.p (a : Bor ks ks') : Bor (kNO K α :: ks) (kF K (Option (List (List α))) :: ks') := ⟨fun γ => (γ.1, a.to γ.2), fun {i γ σ g H} ⟨y, r, e, h, q⟩ => by
  obtain ⟨x, γ2⟩ := γ
  cases x with
  | none => exact ⟨y, r, e, ⟨_, h, rfl⟩, a.ok q⟩
  | some x =>
    obtain ⟨p, bs, ep, h1, h2, n1, n2, h5, h6⟩ := h
    refine ⟨y, r, e, ⟨_, ep, (fun z => nomatch z), p, bs.map V.ref, rfl, fz_some.mpr ⟨h2, .inr (by rw [bg_own h1]; rfl)⟩, nstVals h5 bg_le.fz fun c hc u hu => fz_some.mpr ⟨hu, .inr ?_⟩, h6⟩, a.ok q⟩
    rw [bg_own (h5.mem c hc).1]
    rfl⟩
end
end DL
/-! DL: for x in an owned list of owned lists: x.append(c). -/
namespace DL
open PySem PySem.Spec PyProof.Rows L2
variable {P : TokP} {K : PySem.W.Frag} {ks ks' ks1 ks2 kb : List Kd} {r : Rk} {ta tb te : TE}
def partA {α : Type} (x0 : α) (x : List (List α)) (i : Nat) : List (List α) := (x.take i).map (fun ys => ys ++ [x0]) ++ x.drop i
theorem partA_get {α : Type} {x0 : α} {x : List (List α)} {i : Nat} (h : i < x.length) : (partA x0 x i)[i]? = some x[i] := by
  unfold partA
  have l : ((x.take i).map fun ys => ys ++ [x0]).length = i := by rw [List.length_map, List.length_take]; omega
  rw [List.getElem?_append_right (by omega), l, Nat.sub_self, List.getElem?_drop, Nat.add_zero, List.getElem?_eq_getElem h]
theorem partA_set {α : Type} {x0 : α} {x : List (List α)} {i : Nat} (h : i < x.length) : (partA x0 x i).set i (x[i] ++ [x0]) = partA x0 x (i + 1) := by
  unfold partA
  have l : ((x.take i).map fun ys => ys ++ [x0]).length = i := by rw [List.length_map, List.length_take]; omega
  rw [List.drop_eq_getElem_cons h, List.take_succ, List.getElem?_eq_getElem h, List.set_append_right _ _ (by omega), l, Nat.sub_self, List.set_cons_zero, List.map_append, List.append_assoc]
  rfl
theorem partA_len {α : Type} {x0 : α} {x : List (List α)} {i : Nat} : (partA x0 x i).length = x.length := by
  unfold partA
  rw [List.length_append, List.length_map, List.length_take, List.length_drop]
  omega
theorem as_forAppendN {α : Type} [Rp K α] {n m : Nat} {x0 : α} (a : Acc ks n (kN K α)) (p : Put ks n (kN K α) ks) (q : Put ks m kU ks) (am : Acc ks m kU) (he : AE P ks (rF K α) 0 te (fun _ Q => Q x0)) (hmn : m ≠ n)
    (hq : ∀ γ, q.put γ () = γ) (h0 : ∀ γ, p.put γ (a.get γ) = γ) (h1' : ∀ γ x, a.get (p.put γ x) = x) (h2' : ∀ γ x y, p.put (p.put γ x) y = p.put γ y) :
    AS P ks ks r kb 0 (tFor (iList K (tVar n)) (gName m) (tSeq (tDrop (tBM K "list" rAppend (tVar m) (tCons te tNil))) tNext)) (fun γ E => (∀ ys ∈ a.get γ, ys.length < sizeLine) ∧ E.nx (p.put γ ((a.get γ).map fun ys => ys ++ [x0]))) := by
  refine ⟨fun γ E E' i z => ⟨z.1, i.nx _ z.2⟩, fun A b0 γ σ g H D hb0 G R ⟨small, hw⟩ => ?_⟩
  obtain ⟨y, e, b, bs, rfl, h1, h2, h3, h4, h5, hx⟩ := a.ok R
  refine ⟨.ref b, e, b, rfl, ⟨bs.map V.ref, .inl (.inl h2)⟩, fun i mm σ' H' => ∃ g', mm = (a.get γ).length - i ∧ i ≤ (a.get γ).length ∧ Good P A b0 g' H' ∧ Le g H g' H' ∧ RelL ks 0 (p.put γ (partA x0 (a.get γ) i)) σ' g' H' ∧ H' b = some (.lst (bs.map V.ref)) ∧ σ'[n]? = some (some (.ref b)),
    ⟨(a.get γ).length, g, rfl, Nat.zero_le _, G.up (by omega), Le.refl g H, ?_, h2, e⟩, ?_⟩
  · have e0 : partA x0 (a.get γ) 0 = a.get γ := by unfold partA; simp
    rw [e0, h0]
    exact R
  rintro i mm σ' H' ⟨g', rfl, hi, G', l', R', hb', e'⟩
  have ln := h5.len
  rcases Nat.lt_or_ge i (a.get γ).length with hlt | hge
  · right
    obtain ⟨c, hc⟩ : ∃ c, bs[i]? = some c := ⟨bs[i]'(by omega), List.getElem?_eq_getElem _⟩
    have hv : (bs.map V.ref)[i]? = some (V.ref c) := by rw [List.getElem?_map, hc]; rfl
    refine ⟨⟨bs.map V.ref, V.ref c, .inl (.inl hb'), hv⟩, fun σ2 H2 => ∃ g2, i + 1 ≤ (a.get γ).length ∧ Good P A b0 g2 H2 ∧ Le g H g2 H2 ∧ RelL ks 0 (p.put γ (partA x0 (a.get γ) (i + 1))) σ2 g2 H2 ∧ H2 b = some (.lst (bs.map V.ref)) ∧ σ2[n]? = some (some (.ref b)),
      fun σ2 H2 ⟨g2, z1, z2, z3, z4, z5, z6⟩ => ⟨(a.get γ).length - (i + 1), by omega, g2, rfl, z1, z2, z3, z4, z5, z6⟩, fun x H2 hy => ?_⟩
    obtain ⟨rfl, hx'⟩ := hy
    have ex := hx' (bs.map V.ref) (.inl (.inl hb'))
    rw [hv] at ex
    cases ex
    have R2 := q.ok (y := some (.ref c)) (x := ()) R' (Le.refl g' H2) (fun j _ u o hu ho => ⟨hu, ho⟩) trivial
    rw [hq] at R2
    have em : (σ'.set m (some (.ref c)))[m]? = some (some (.ref c)) := by
      obtain ⟨y3, e3, _⟩ := am.ok R'
      rw [List.getElem?_set, if_pos rfl, if_pos (List.getElem?_eq_some_iff.mp e3).1]
    have en : (σ'.set m (some (.ref c)))[n]? = some (some (.ref b)) := by rw [List.getElem?_set_ne hmn]; exact e'
    have sameB : ∀ {bs2 : List Addr} {H3 : Hp}, H3 b = some (.lst (bs.map V.ref)) → H3 b = some (.lst (bs2.map V.ref)) → bs2 = bs := fun z1 z2 => by
      rw [z1] at z2
      exact (List.map_inj_right (fun _ _ z => V.ref.inj z) |>.mp (HO.lst.inj (Option.some.inj z2))).symm
    obtain ⟨y2, f2, b2, bs2, rfl, m1, m2, m3, m4, m5, mx⟩ := a.ok R2
    rw [en] at f2
    cases f2
    obtain rfl := sameB hb' m2
    rw [h1'] at m5 mx
    obtain ⟨c', vs, k1, k2, k3, k4, k5⟩ := m5.at (partA_get hlt)
    rw [hc] at k1
    cases k1
    refine ⟨.ref c, em, .inl ⟨rfl, vs, .inl (.inl k3)⟩, ?_⟩
    refine he.run A b0 _ (σ'.set m (some (.ref c))) g' H2 _ (by omega) G' R2 fun v g3 H3 G3 e3 r3 => ?_
    have R3 := R2.ext G' e3
    have keepB := ((e3.lx G').ow _ b _ m1 m2).2
    obtain ⟨y4, f4, b4, bs4, rfl, n1, n2, n3, n4, n5, nx'⟩ := a.ok R3
    rw [en] at f4
    cases f4
    obtain rfl := sameB keepB n2
    rw [h1'] at n5 nx'
    obtain ⟨c', vs', k1, k2', k3', k4', k5'⟩ := n5.at (partA_get hlt)
    rw [hc] at k1
    cases k1
    have sm := small _ (List.getElem_mem hlt)
    have sm2 := sm
    rw [sizeLine_eq] at sm2
    obtain ⟨G4, l4, R4⟩ := own_writeN (x := partA x0 (a.get γ) i) p G3 R3 en n1 n2 n3 n4 n5 nx' hc k3' (Paired.app k4' (.cons r3 .nil)) (by rw [List.length_append]; show (a.get γ)[i].length + 1 ≤ _; omega)
    rw [h2', partA_set hlt] at R4
    have nb : b ≠ c := fun z => n3 (z ▸ List.mem_of_getElem? hc)
    exact ⟨c, vs', v, rfl, rfl, k3', by rw [Paired.len k4']; exact sm, g3, hlt, G4.up (by omega), ((l'.trans (e3.le G')).trans l4), R4, by rw [upd_ne nb]; exact keepB, en⟩
  · left
    have ei : i = (a.get γ).length := by omega
    subst ei
    refine ⟨⟨bs.map V.ref, .inl (.inl hb'), by rw [List.length_map]; omega⟩, ?_⟩
    have ee : partA x0 (a.get γ) (a.get γ).length = (a.get γ).map fun ys => ys ++ [x0] := by unfold partA; simp
    rw [ee] at R'
    exact hw σ' g' H' (G'.up (by omega)) l' R'
end DL
/-! DL: sorted(set(xs)), ints, as many as a set is scanned for. -/
namespace DL
open PySem PySem.Spec PyProof.Rows L2
section
variable {Pg : Program} {w : World} {A : Around} {E : Value → Shared → Prop} {s : Shared}
def eSet (w : World) : Obj := { cls := .type "set", dict := none, data := .set #[] 0 (.fresh 0 0 (!w.params.followText "set-order")) }
def madeSet (w : World) (ns : List Int) (s s2 : Shared) : Prop := ∃ (h' : Heap) (tk c : Nat), s2 = { s with heap := h', toks := tk } ∧ SetR w h' s.heap.objs.size (fun j => decide (j ∈ ns)) c ∧ c ≤ ns.length ∧ ∀ b o, s.heap.get? b = some o → h'.get? b = some o
set_option maxHeartbeats 3200000 in
theorem set_lst {l : Addr} {items : Array Value} (ns : List Int) {Q : Value → Shared → Prop} (hh : A.handled = none) (L : s.heap.IsList l items) (I : IntsAre items.toList ns) (B : ns.length + 1 < scanBound)
    (k : ∀ s2, madeSet w ns s s2 → Q (.ref s.heap.objs.size) s2) : wpAny (model Pg w) A (call (.type "set") [.ref l]) Q E s := by
  have z : items.size = ns.length := by rw [← IntsAre.length I, Array.length_toList]
  obtain ⟨mc, mt, m1⟩ := F.called_set.mro
  have m2 := F.called_set.made
  have m3 := F.called_set.sub
  have m4 := F.called_set.notType
  have m5 := F.called_set.canCreate
  have m6 := F.typeCall_set_1 (.ref l)
  refine wpAny_call (codeAny_of_tree (show wpAny _ _ (callAny (.type "set") _) _ _ _ from wpAny_pure ⟨Code.quiet_builtin _ (by decide +kernel), codeAny_builtin F.entry_type_call ?_⟩))
  rw [Around.under_plain (weight_type_call_type "set" [.ref l] []) rfl]
  repeat (any_goals (first | assumption | wp_step))
  refine codeAny_mono (code_set_led1 (.ref l) (E := E) (Q₁ := fun obj s1 => obj = .ref s.heap.objs.size ∧ s1 = { s with heap := s.heap.push (eSet w) }) ⟨rfl, rfl⟩) fun r s1 hr => ?_
  match r, hr with
  | .error e, hr => exact hr
  | .ok (.ret obj), hr =>
    obtain ⟨rfl, rfl⟩ := hr
    have g0 : (s.heap.push (eSet w)).get? s.heap.objs.size = some (eSet w) := Heap.get?_push_size _ rfl
    have ty : Shared.TypeIs { s with heap := s.heap.push (eSet w) } (.ref s.heap.objs.size) "set" := ⟨_, g0, rfl⟩
    have i1 := F.called_set.init.lookup
    have i2 := F.called_set.init.bind (.ref s.heap.objs.size)
    repeat (any_goals (first | assumption | wp_step))
    refine codeAny_mono (codeAny_call_builtin (R := wants (fun r s2 => r = .none ∧ madeSet w ns s s2) E) F.called_set.init.plain F.entry_set_init (check_set_init_1 ty ?_)) fun r2 s2 hr2 => ?_
    · obtain ⟨⟨oc, od, oa, os⟩, ho, e1, nl, e2⟩ := L
      simp only at e1 e2
      subst e1 e2
      have ho' : (s.heap.push (eSet w)).get? l = some { cls := .type "list", dict := od, data := .seq items nl, slots := os } := Heap.get?_push_of_some _ ho
      have s1 := F.sub_list_set
      have s2 := F.sub_list_frozenset
      have s3 : (Value.type "list" == Value.type "dict") = false := by decide
      have L1 : (s.heap.push (eSet w)).IsList l items := ⟨_, ho', rfl, nl, rfl⟩
      unfold Builtin.«set.__init__» noKeywords Builtin.Frozenset.updateFrom
      generalize hPI : pyIter = PI
      wp_walk
      subst hPI
      refine wpAny_pyIter_list L1 (wpAny_bind (wpAny_runValue ?_))
      have lt : l < s.heap.objs.size := Heap.lt_size ho
      have sz : (s.heap.push (eSet w)).objs.size = s.heap.objs.size + 1 := Heap.size_push ..
      have n1 : l ≠ (s.heap.push (eSet w)).objs.size := by rw [sz]; exact Nat.ne_of_lt (Nat.lt_succ_of_lt lt)
      have n2 : s.heap.objs.size ∉ [(s.heap.push (eSet w)).objs.size, l] := by
        rw [sz]
        simp only [List.mem_cons, List.mem_singleton, List.not_mem_nil, or_false, not_or]
        exact ⟨Nat.ne_of_lt (Nat.lt_succ_self _), Nat.ne_of_gt lt⟩
      have val : ∀ (i : Nat) (v : Value), items[i]? = some v → ∃ k t, ns[i]? = some k ∧ v = .int k t := fun i v hv => by
        have hi : i < ns.length := by rw [← z]; exact (Array.getElem?_eq_some_iff.mp hv).1
        obtain ⟨t, e⟩ := PyProof.Rows.IntsAre.int_at I i v (by rw [Array.getElem?_toList]; exact hv)
        refine ⟨ns[i], t, List.getElem?_eq_getElem hi, ?_⟩
        rw [e, List.getD_eq_getElem?_getD, List.getElem?_eq_getElem hi] <;> rfl
      have start : ((s.heap.push (eSet w)).push { cls := .type "list_iterator", data := .fields #[.ref l, .int 0 0] }).get? s.heap.objs.size = some (eSet w) := Heap.get?_push_of_some _ g0
      refine set_update_ints ((Walks.list (by simp [hh]) _ l n1 items).toS) s.heap.objs.size n2 ns z B val (items.size - 0) 0 _ (by omega) (Nat.zero_le _) ⟨⟨_, Heap.get?_push_size _ rfl, rfl, rfl⟩, L1.push _⟩ ⟨0, Nat.le_refl 0, setR_new_at start⟩ fun s' c m hc S' => ?_
      obtain ⟨h', g2, d', tk', os'⟩ := s'
      obtain rfl : g2 = s.gens := m.gens
      obtain rfl : d' = s.drawn := m.drawn
      obtain rfl : os' = s.os := m.os
      refine show wpAny _ _ _ _ _ _ from wpAny_pure (show wpAny _ _ (ret Value.none) _ _ _ from ?_)
      rw [z] at hc
      refine wpAny_pure ⟨rfl, h', tk', c, rfl, S', hc, fun b o e => ?_⟩
      have b0 := Heap.lt_size e
      refine m.heap b o ?_ (Heap.get?_push_of_some _ (Heap.get?_push_of_some _ e))
      rw [sz]
      simp only [List.mem_cons, List.mem_singleton, List.not_mem_nil, or_false, not_or]
      exact ⟨Nat.ne_of_lt b0, Nat.ne_of_lt (Nat.lt_succ_of_lt b0)⟩
    · match r2, hr2 with
      | .error e, hr2 => exact hr2
      | .ok (.ret r), hr2 =>
        obtain ⟨rfl, hm⟩ := hr2
        repeat (any_goals (first | assumption | wp_step))
        exact k _ hm
theorem set_sorted {a : Addr} {S : Int → Bool} {n : Nat} {Q : Value → Shared → Prop} (R : SetR w s.heap a S n) (hh : A.handled = none)
    (k : ∀ s' p (out : Array Value) (c : Nat) (ns : List Int), (∀ b o, s.heap.get? b = some o → s'.heap.get? b = some o) → s'.gens = s.gens → s'.os = s.os → s.heap.objs.size ≤ p → s'.heap.get? p = some (seqObj "list" out c) →
      IntsAre out.toList ns → ns.Pairwise (· < ·) → (∀ k, k ∈ ns ↔ S k = true) → ns.length = n → Q (.ref p) s') : wpAny (model Pg w) A (call (.builtin "sorted") [.ref a]) Q E s := by
  obtain ⟨o, es, ep, t, ho, hex, hd, good, nd, mem, few, fits, size, ris, led⟩ := R
  refine Calls.call_function_entry kind_sorted plain_sorted entry_sorted (args_sorted1 _) ?_
  unfold Builtin.«sorted»
  refine wpAny_bind (m := checkCount "sorted" 1 1 _) (wpAny_pure (wpAny_bind (collect_set (A := A.in1) hh ⟨o, ho, hex.1, hd⟩ fits few ris led fun s1 vs k1 z1 g1 o1 pm => ?_)))
  have len : vs.length = n := by rw [pm.length_eq, List.length_map, Array.length_toList]; exact size
  have few' : n < 4096 := by rw [← size]; exact few
  have hI : IntsAre vs (vs.map SrtO.iv) := SrtO.ints_iv fun v hv => by
    obtain ⟨e, he, q⟩ := List.mem_map.mp (pm.mem_iff.mp hv)
    obtain ⟨i, tk, h1, _⟩ := good e he
    exact ⟨i, tk, q ▸ h1⟩
  have keys : (vs.map SrtO.iv).Perm (es.toList.map keyOf) := by
    have q := pm.map SrtO.iv
    rw [List.map_map] at q
    refine q.trans (List.Perm.of_eq (List.map_congr_left fun e he => ?_))
    obtain ⟨i, tk, h1, h2⟩ := good e he
    simp only [Function.comp]
    unfold keyOf
    rw [h1]
    rfl
  have small : vs.length ≤ sizeLine := by rw [len, sizeLine_eq]; omega
  have here : (s1.heap.push (seqObj "list" vs.toArray 0)).get? s1.heap.objs.size = some (seqObj "list" vs.toArray 0) := Heap.get?_push_size _ rfl
  refine wpAny_bind (wpAny_newList (wpAny_bind (wpAny_holding (wpAny_call_entry slot_list_sort ⟨_, here, rfl⟩ entry_list_sort
    (SrtO.list_sort_ord SrtO.swo_int here small (fun h2 => SrtO.ints_sortable hI h2) fun out a1 a2 => ⟨_, rfl, ?_⟩) (args_list_sort _)))) small)
  obtain ⟨q1, q2, q3⟩ := SrtO.ints_out hI a1 a2
  obtain ⟨c, hc⟩ := sortedHeap_at (vs := vs) (out := out.toArray) here
  have pn := q2.trans keys
  refine wpAny_pure ⟨_, rfl, k _ s1.heap.objs.size out.toArray c (out.map SrtO.iv) (fun b u e => ?_) g1 o1 z1 hc q1 (lt_of_le_nodup _ q3 (pn.nodup_iff.mpr nd)) (fun i => by rw [pn.mem_iff, ← mem i]) (by rw [pn.length_eq, List.length_map, Array.length_toList]; exact size)⟩
  have q := k1 b u e
  have lt := Heap.lt_size q
  show (sortedHeap (s1.heap.push (seqObj "list" vs.toArray 0)) s1.heap.objs.size vs out.toArray).get? b = some u
  rw [sortedHeap_old (Nat.ne_of_lt lt) (by rw [size_push']; exact Nat.lt_succ_of_lt lt)]
  exact Heap.get?_push_of_some _ q
end
/-- sorted(set(xs)) -/
def rSSI (K : PySem.W.Frag) : List V → Hp → VK → Prop := fun vs H Q => ∃ (a : Addr) (ns : List Int), vs = [V.ref a] ∧ SqL K H a (ns.map V.int) ∧ ns.length < 4095 ∧
  ∀ (ys : List Int) (p : Addr), ys.Pairwise (· < ·) → (∀ k, k ∈ ys ↔ k ∈ ns) → ys.length ≤ ns.length → H p = none → Q (.ref p) (upd H p (.lst (ys.map V.int)))
theorem pe_sortedSet {X : Cx} {a : Expr} {ta : TE} {p p2 q pos : Pos} (hg : Gl X "sorted") (hm : X.mg "sorted" = none) (hg2 : Gl X "set") (hm2 : X.mg "set" = none) (ha : PE X a ta) (hc : X.calm = true := by rfl)
    (na : starEach [a] X.env = (false, eval a X.env) :: starEach [] X.env := by rfl) : PE X (.Call (.Name "sorted" p) [.Call (.Name "set" p2) [a] [] q] [] pos) (tCB (rSSI X.K) (tCons ta tNil)) := by
  refine ⟨fun pins s σ H Q I h => ?_⟩
  refine wpAny_Call_Name_kw (ld_blt I hg hm (show bootBuiltins "sorted" = some (.builtin "sorted") by decide +kernel) ?_ (by decide) (by decide))
  refine PyProof.Rows.callWith_builtin1 (PyProof.Rows.args_cons ?_ rfl) rfl rfl
  refine wpAny_Call_Name_kw (ld_blt I hg2 hm2 (show bootBuiltins "set" = some (.type "set") by decide +kernel) ?_ (by decide) (by decide))
  refine PyProof.Rows.callWith_type1 (PyProof.Rows.args_cons (thn (ha.run pins s σ H _ I h) fun v s1 ⟨x, H1, I1, r1, q1⟩ => PyProof.Rows.args_nil ?_) na) na rfl
  obtain ⟨l, ns, e, hq, hn, hk⟩ := q1
  cases e
  cases r1
  obtain ⟨its, r, pl, hz⟩ := I1.list hq
  refine set_lst ns (I1.ok.hd hc) pl.isList (by simpa using r.ints) (by unfold scanBound; omega) fun s2 m => PyProof.Rows.args_nil ?_
  obtain ⟨h', tk, c, e2, S, hcl, keep⟩ := m
  have I2 : Inv X pins σ H1 s2 := by
    rw [e2]
    exact I1.kept keep
  have S2 : SetR X.w s2.heap s1.heap.objs.size (fun j => decide (j ∈ ns)) c := by
    rw [e2]
    exact S
  refine set_sorted S2 (I2.ok.hd hc) fun s' p out c2 ys kk g o hp hgp hi hs hmem hlen => ?_
  have hl2 : (ys.map V.int).length ≤ sizeLine := by rw [List.length_map, hlen, sizeLine_eq]; omega
  have fr : H1 p = none := I2.hok.fresh hp
  have J : Inv X pins σ (upd H1 p (.lst (ys.map V.int))) { s2 with heap := s'.heap, gens := s'.gens, drawn := s'.drawn, toks := s'.toks } :=
    I2.call (ch := []) (Un.laid kk hp fr) (I2.hok.laid kk hp ⟨hl2, out.toList, c2, vals_of_ints hi, hgp⟩) (by rw [g]; exact I2.bare) (fun _ z => nomatch z)
  have es : s' = { s2 with heap := s'.heap, gens := s'.gens, drawn := s'.drawn, toks := s'.toks } := by
    cases s'
    cases s2
    cases o
    rfl
  rw [es]
  exact ⟨.ref p, _, J, rfl, hk ys p hs (fun i => by rw [hmem i]; simp) (by omega) fr⟩
variable {P : TokP} {K : PySem.W.Frag} {ks : List Kd} {ta : TE} {ca : Nat}
theorem ae_sortedSet {wl : TupT ks → (List Int → Prop) → Prop} (ha : AE P ks (rF K (List Int)) ca ta wl) : AE P ks (rO K Int) ca (tCB (rSSI K) (tCons ta tNil)) (fun γ Q => wl γ fun xs => xs.length < 4095 ∧ ∀ ys : List Int, ys.Pairwise (· < ·) → (∀ k, k ∈ ys ↔ k ∈ xs) → Q ys) :=
  AE.cb1 (r := rO K Int) (k := vF K (List Int)) (f := fun xs Q => xs.length < 4095 ∧ ∀ ys : List Int, ys.Pairwise (· < ·) → (∀ k, k ∈ ys ↔ k ∈ xs) → Q ys) ha (fun _ _ _ q z => ⟨z.1, fun ys h1 h2 => q _ (z.2 ys h1 h2)⟩) fun A b0 g H x xs Q G rx z => by
    obtain ⟨a, vs, rfl, h, pr, hl⟩ := rx
    exact ⟨a, xs, rfl, by rw [← paired_int pr]; exact sq_of fz_sub h, z.1, fun ys p h1 h2 h3 hp => newlist (xs := ys) G hp int_paired (by omega) (z.2 ys h1 h2)⟩
end DL
/-! DL: parameters that are changed: given away, or changed and handed back. -/
namespace DL
open PySem PySem.Spec PyProof.Rows L2
variable {P : TokP} {K : PySem.W.Frag} {ks ks' ks1 ks2 kb kp : List Kd} {r r0 : Rk} {ta tb te : TE} {ca cb cc ce ct cu cw : Nat} {f : Nat → Option Nat}
/-! ### owned lists at a known address -/
@[reducible] def kA (K : PySem.W.Frag) (α : Type) [Rp K α] : Kd := ⟨Addr × List α, fun i y x g H => ∃ vs, y = some (.ref x.1) ∧ g x.1 = .own i ∧ H x.1 = some (.lst vs) ∧ Paired (Rp.rp K (Fz g H)) vs x.2 ∧ x.2.length ≤ 9223372036854775808,
  fun l o ⟨vs, e, h1, h2, h3, hl⟩ => ⟨vs, e, (o _ _ h1 h2).1, (o _ _ h1 h2).2, Paired.rp_mono l.fz h3, hl⟩⟩
/-- an address alone -/
@[reducible] def kP : Kd := ⟨Addr, fun _ y x _ _ => y = some (.ref x), fun _ _ h => h⟩
/-- the address of an owned list is told -/
theorem as_anchor {α : Type} [Rp K α] {n : Nat} {t : TS} {w : TupT ks1 → We ks' r kb → Prop} (a : Acc ks n (kO K α)) (p : Put ks n (kA K α) ks1) (h : AS P ks1 ks' r kb ct t w) : AS P ks ks' r kb ct t (fun γ E => ∀ q, w (p.put γ (q, a.get γ)) E) := by
  refine ⟨fun γ E E' i z q => h.mono _ _ _ i (z q), fun A b0 γ σ g H D hb0 G R hw => ?_⟩
  obtain ⟨y, e, b, vs, rfl, h1, h2, h3, hl⟩ := a.ok R
  have R1 := p.ok (y := some (.ref b)) (x := (b, a.get γ)) R (Le.refl g H) (fun j _ b o hb ho => ⟨hb, ho⟩) ⟨vs, rfl, h1, h2, h3, hl⟩
  rw [set_self e] at R1
  exact h.run A b0 _ σ g H D hb0 G R1 (hw b)
/-- .. and is forgotten -/
theorem as_unanchor {α : Type} [Rp K α] {n : Nat} {t : TS} {w : TupT ks1 → We ks' r kb → Prop} (a : Acc ks n (kA K α)) (p : Put ks n (kO K α) ks1) (h : AS P ks1 ks' r kb ct t w) : AS P ks ks' r kb ct t (fun γ E => w (p.put γ (a.get γ).2) E) := by
  refine ⟨fun γ E E' i z => h.mono _ _ _ i z, fun A b0 γ σ g H D hb0 G R hw => ?_⟩
  obtain ⟨y, e, vs, rfl, h1, h2, h3, hl⟩ := a.ok R
  have R1 := p.ok (y := some (.ref (a.get γ).1)) (x := (a.get γ).2) R (Le.refl g H) (fun j _ b o hb ho => ⟨hb, ho⟩) ⟨_, vs, rfl, h1, h2, h3, hl⟩
  rw [set_self e] at R1
  exact h.run A b0 _ σ g H D hb0 G R1 hw
/-! ### statements that set no slot: what holds of an owned list holds of it at its address -/
class Stays (t : TS) : Prop where
  ok : ∀ (D : Ends) (σ : Sl) (H : Hp), t { D with nx := fun σ' H' => σ' = σ → D.nx σ' H' } σ H → t D σ H
instance {te : TE} : Stays (tDrop te) := ⟨fun D σ H h => by
  have e : (fun (v : V) (H1 : Hp) => σ = σ → D.nx σ H1) = fun v H1 => D.nx σ H1 := by
    funext v H1
    simp
  show te σ H fun v H1 => D.nx σ H1
  rw [← e]
  exact h⟩
structure AO (ks ks' : List Kd) where
  to : TupT ks → TupT ks'
  bk : TupT ks → TupT ks' → TupT ks
  okTo : ∀ {i γ σ g H}, RelL ks i γ σ g H → RelL ks' i (to γ) σ g H
  okBk : ∀ {i γ γ' σ g H g' H'}, RelL ks i γ σ g H → RelL ks' i γ' σ g' H' → RelL ks i (bk γ γ') σ g' H'
def AO.n : AO [] [] := ⟨fun γ => γ, fun γ _ => γ, fun h => h, fun h _ => h⟩
def AO.k {k : Kd} (a : AO ks ks') : AO (k :: ks) (k :: ks') := ⟨fun γ => (γ.1, a.to γ.2), fun γ γ' => (γ'.1, a.bk γ.2 γ'.2), fun ⟨y, r, e, h, q⟩ => ⟨y, r, e, h, a.okTo q⟩, fun ⟨y, r, e, h, q⟩ ⟨y', r', e', h', q'⟩ => by
  subst e
  cases e'
  exact ⟨y, r, rfl, h', a.okBk q q'⟩⟩
def AO.a {α : Type} [Rp K α] (a : AO ks ks') : AO (kA K α :: ks) (kO K α :: ks') := ⟨fun γ => (γ.1.2, a.to γ.2), fun γ γ' => ((γ.1.1, γ'.1), a.bk γ.2 γ'.2), fun ⟨y, r, e, ⟨vs, e1, h1, h2, h3, hl⟩, q⟩ => ⟨y, r, e, ⟨_, vs, e1, h1, h2, h3, hl⟩, a.okTo q⟩,
  fun ⟨y, r, e, ⟨vs, e1, h1, h2, h3, hl⟩, q⟩ ⟨y', r', e', ⟨p', vs', e1', h1', h2', h3', hl'⟩, q'⟩ => by
    subst e e1
    cases e'
    cases e1'
    exact ⟨_, r, rfl, ⟨vs', rfl, h1', h2', h3', hl'⟩, a.okBk q q'⟩⟩
theorem as_atA {ksO : List Kd} {t : TS} [Stays t] {w : TupT ksO → We ksO r kb → Prop} (o : AO ks ksO) (h : AS P ksO ksO r kb ct t w) : AS P ks ks r kb ct t (fun γ E => w (o.to γ) ⟨fun γ' => E.nx (o.bk γ γ'), E.rt, fun _ => False, fun _ => False⟩) := by
  refine ⟨fun γ E E' i z => h.mono (o.to γ) ⟨fun γ' => E.nx (o.bk γ γ'), E.rt, fun _ => False, fun _ => False⟩ ⟨fun γ' => E'.nx (o.bk γ γ'), E'.rt, fun _ => False, fun _ => False⟩ (We.Imp.mk (fun x => i.nx _) (fun x => i.rt x) (fun _ q => q) (fun _ q => q)) z, fun A b0 γ σ g H D hb0 G R hw => ?_⟩
  refine Stays.ok D σ H (h.run A b0 _ σ g H _ hb0 G (o.okTo R) (h.mono (o.to γ) ⟨fun γ' => Wt P A (b0 + ct) g H ks D.nx (o.bk γ γ'), Wr P A (b0 + ct) r D.rt, fun _ => False, fun _ => False⟩ _ (We.Imp.mk (fun γ' z σ' g' H' G' l' R' es => ?_) (fun _ q => q) (fun _ q => q.elim) (fun _ q => q.elim)) hw))
  subst es
  exact z σ' g' H' G' l' (o.okBk R R')
/-- held while it is read -/
def Bor.a {α : Type} [Rp K α] (a : Bor ks ks') : Bor (kA K α :: ks) (kF K (List α) :: ks') := ⟨fun γ => (γ.1.2, a.to γ.2), fun ⟨y, r, e, ⟨vs, ep, h1, h2, h3, h4⟩, q⟩ =>
  ⟨y, r, e, ⟨_, ep, _, vs, rfl, fz_some.mpr ⟨h2, .inr (by rw [bg_own h1]; rfl)⟩, Paired.rp_mono bg_le.fz h3, h4⟩, a.ok q⟩⟩
/-! ### results with what is handed back -/
@[reducible] def rB (r : Rk) (K : PySem.W.Frag) (α : Type) [Rp K α] : Rk := ⟨r.T × (Addr × List α), fun Hs v x g H => r.rel Hs v x.1 g H ∧ ∃ vs, Hs x.2.1 = none ∧ g x.2.1 = .oth ∧ H x.2.1 = some (.lst vs) ∧ Paired (Rp.rp K (Fz g H)) vs x.2.2 ∧ x.2.2.length ≤ 9223372036854775808,
  fun h ⟨q, vs, h1, h2⟩ => ⟨r.start h q, vs, h _ h1, h2⟩, fun h1 h2 h3 ⟨q, vs, q1, q2, q3, q4, q5⟩ => ⟨r.mg h1 h2 h3 q, vs, q1, h3 _ q1 q2, q3, Paired.rp_mono (le_mg h1 h2).fz q4, q5⟩⟩
/-! ### the callee's tags -/
def noTup (H : Hp) (a : Addr) : Bool := match H a with
  | some o => !isTup o
  | none => false
def given (f : Nat → Option Nat) (g : Gh) (H : Hp) (a : Addr) : Bool := match g a with
  | .own n => (f n).isSome && noTup H a
  | _ => false
def gc (f : Nat → Option Nat) (g : Gh) (H : Hp) : Gh := fun a => match g a with
  | .own n => (match f n with
    | some m => if noTup H a = true then .own m else .oth
    | none => .oth)
  | t => t
theorem gc_frz {g : Gh} {H : Hp} {a : Addr} : gc f g H a = .frz ↔ g a = .frz := by
  unfold gc
  cases e : g a with
  | own n => cases q : f n <;> simp [q] <;> split <;> simp_all
  | _ => simp
theorem gc_tok {g : Gh} {H : Hp} {a : Addr} : gc f g H a = .tok ↔ g a = .tok := by
  unfold gc
  cases e : g a with
  | own n => cases q : f n <;> simp [q] <;> split <;> simp_all
  | _ => simp
theorem gc_own {g : Gh} {H : Hp} {a : Addr} {n m : Nat} {o : HO} (h : g a = .own n) (hf : f n = some m) (ho : H a = some o) (ht : isTup o = false) : gc f g H a = .own m := by
  unfold gc noTup
  rw [h]
  simp [hf, ho, ht]
theorem gc_le {g : Gh} {H H2 : Hp} : Le g H (gc f g H2) H := le_mg (fun _ h => gc_frz.mpr h) fun _ h => gc_tok.mpr h
theorem gc_given {g : Gh} {H : Hp} {a : Addr} (h : given f g H a = false) : gc f g H a = hide (g a) := by
  unfold given at h
  unfold gc
  cases e : g a with
  | own n =>
    rw [e] at h
    simp only at h
    cases hf : f n with
    | none => simp [hide, hf]
    | some m =>
      rw [hf] at h
      simp at h
      simp [hide, hf, h]
  | _ => simp [hide]
def actM (f : Nat → Option Nat) (g : Gh) (H : Hp) : Act := ⟨fun a => if given f g H a = true then .oth else hide (g a), fun a => if given f g H a = true then none else H a, fun a i => by
  show (if _ then _ else _) ≠ _
  split
  · simp
  · exact hide_own⟩
theorem actM_good {A : Act} {g : Gh} {H : Hp} {b0 : Nat} (G : Good P A b0 g H) : Good P (actM f g H) b0 (gc f g H) H := by
  refine ⟨fun a o h => ?_, fun a h => G.tok a (gc_tok.mp h), fun a h => ?_⟩
  · have h' : (if given f g H a = true then none else H a) = some o := h
    by_cases e : given f g H a = true
    · rw [if_pos e] at h'
      cases h'
    · rw [if_neg e] at h'
      refine ⟨?_, fun _ => h'⟩
      show gc f g H a = if given f g H a = true then _ else _
      rw [if_neg e]
      exact gc_given (by simpa using e)
  · unfold gc
    rw [G.non a h]
/-- behind the call -/
def backM (f : Nat → Option Nat) (g1 : Gh) (H1 : Hp) (g' : Gh) : Gh := fun a => match H1 a with
  | some _ => if given f g1 H1 a = true then hide (g' a) else g1 a
  | none => hide (g' a)
theorem backM_keep {g1 g' : Gh} {H1 : Hp} {a : Addr} {o : HO} (h : H1 a = some o) (e : given f g1 H1 a = false) : backM f g1 H1 g' a = g1 a := by
  unfold backM
  rw [h]
  simp [e]
theorem backM_new {g1 g' : Gh} {H1 : Hp} {a : Addr} (h : H1 a = none ∨ given f g1 H1 a = true) : backM f g1 H1 g' a = hide (g' a) := by
  unfold backM
  cases e : H1 a with
  | none => rfl
  | some o =>
    rcases h with h | h
    · rw [e] at h
      cases h
    · simp [h]
theorem given_own {g : Gh} {H : Hp} {a : Addr} (h : given f g H a = true) : ∃ n, g a = .own n ∧ (f n).isSome = true ∧ noTup H a = true := by
  unfold given at h
  cases e : g a with
  | own n =>
    rw [e] at h
    simp at h
    exact ⟨n, rfl, h⟩
  | _ =>
    rw [e] at h
    cases h
theorem actM_H0 {g : Gh} {H : Hp} {a : Addr} {o : HO} (h : H a = some o) (e : given f g H a = false) : (actM f g H).H0 a = some o := by
  show (if given f g H a = true then none else H a) = _
  rw [if_neg (by rw [e]; simp)]
  exact h
theorem actM_g0 {g : Gh} {H : Hp} {a : Addr} (e : given f g H a = false) : (actM f g H).g0 a = hide (g a) := by
  show (if given f g H a = true then _ else _) = _
  rw [if_neg (by rw [e]; simp)]
theorem actM_non {g : Gh} {H : Hp} {a : Addr} : (actM f g H).H0 a = none ↔ H a = none ∨ given f g H a = true := by
  show (if given f g H a = true then none else H a) = none ↔ _
  by_cases e : given f g H a = true
  · simp [e]
  · simp [e]
theorem backM_good {A : Act} {g1 g' : Gh} {H1 H' : Hp} {b0 b1 : Nat} (G : Good P A b0 g1 H1) (G' : Good P (actM f g1 H1) b1 g' H') :
    Good P A b1 (backM f g1 H1 g') H' ∧ Le g1 H1 (backM f g1 H1 g') H' ∧ (∀ j, f j = none → Ow j g1 H1 (backM f g1 H1 g') H') := by
  have keep : ∀ a o, H1 a = some o → given f g1 H1 a = false → g' a = hide (g1 a) ∧ (g1 a ≠ .tok → H' a = some o) := fun a o h e => by
    obtain ⟨q1, q2⟩ := G'.ext a o (actM_H0 h e)
    rw [actM_g0 e] at q1 q2
    exact ⟨q1, fun z => q2 fun t => z (hide_tok.mp t)⟩
  have notown : ∀ a, (∀ n, g1 a ≠ .own n) → given f g1 H1 a = false := fun a h => by
    cases e : given f g1 H1 a with
    | false => rfl
    | true =>
      obtain ⟨n, q, _⟩ := given_own e
      exact absurd q (h n)
  have old : ∀ a o, A.H0 a = some o → given f g1 H1 a = false := fun a o h => notown a fun n q => A.noown a n ((G.ext a o h).1.symm.trans q)
  have there0 : ∀ a o, A.H0 a = some o → ∃ o1, H1 a = some o1 := fun a o h => by
    cases e : H1 a with
    | some o1 => exact ⟨o1, rfl⟩
    | none =>
      have := G.ext.keeps G e
      rw [h] at this
      cases this
  refine ⟨⟨fun a o h => ?_, fun a h => ?_, fun a h => ?_⟩, ⟨fun a o h => ?_, fun a h => ?_⟩, fun j hj a o h ho => ?_⟩
  · obtain ⟨o1, h1⟩ := there0 a o h
    have e := old a o h
    obtain ⟨q1, q2⟩ := G.ext a o h
    rw [backM_keep h1 e]
    refine ⟨q1, fun z => ?_⟩
    have h1' := q2 z
    exact (keep a o h1' e).2 (by rw [q1]; exact z)
  · by_cases e : H1 a = none ∨ given f g1 H1 a = true
    · rw [backM_new e] at h
      exact G'.tok a (hide_tok.mp h)
    · have e1 : given f g1 H1 a = false := by
        cases q : given f g1 H1 a with
        | false => rfl
        | true => exact absurd (.inr q) e
      cases q : H1 a with
      | none => exact absurd (.inl q) e
      | some o =>
        rw [backM_keep q e1] at h
        refine G'.tok a ?_
        rw [(keep a o q e1).1, h]
        rfl
  · have e : (actM f g1 H1).H0 a = none := G'.ext.keeps G' h
    rw [backM_new (actM_non.mp e), G'.non a h]
    rfl
  · obtain ⟨ho, z⟩ := fz_some.mp h
    rcases z with z | z
    · have e1 : given f g1 H1 a = false := by
        cases e : given f g1 H1 a with
        | false => rfl
        | true =>
          obtain ⟨n, _, _, q⟩ := given_own e
          unfold noTup at q
          rw [ho] at q
          simp [z] at q
      refine fz_some.mpr ⟨(keep a o ho e1).2 fun t => ?_, .inl z⟩
      obtain ⟨u, hu, tu⟩ := G.tok a t
      rw [ho] at hu
      cases hu
      cases o <;> simp [isTup] at z
      exact P.nt _ _ tu
    · have e1 := notown a fun n q => by rw [isFrz_iff.mp z] at q; cases q
      refine fz_some.mpr ⟨(keep a o ho e1).2 (by rw [isFrz_iff.mp z]; simp), .inr ?_⟩
      rw [backM_keep ho e1]
      exact z
  · obtain ⟨o, ho⟩ := G.there (a := a) (by rw [h]; simp)
    rw [backM_keep ho (notown a fun n q => by rw [h] at q; cases q)]
    exact h
  · have e1 : given f g1 H1 a = false := by
      unfold given
      rw [h]
      simp [hj]
    exact ⟨by rw [backM_keep ho e1]; exact h, (keep a o ho e1).2 (by rw [h]; simp)⟩
theorem backM_rel {A : Act} {g1 g' : Gh} {H1 H' : Hp} {b0 b1 : Nat} {v : V} {x : r.T} (G : Good P A b0 g1 H1) (G' : Good P (actM f g1 H1) b1 g' H') (h : r.rel (actM f g1 H1).H0 v x g' H') : r.rel A.H0 v x (backM f g1 H1 g') H' := by
  have up : ∀ a o, H1 a = some o → given f g1 H1 a = false → g' a = hide (g1 a) := fun a o q e => by
    have z := (G'.ext a o (actM_H0 q e)).1
    rw [actM_g0 e] at z
    exact z
  have sp : ∀ a, (H1 a = none ∨ given f g1 H1 a = true) ∨ ∃ o, H1 a = some o ∧ given f g1 H1 a = false := fun a => by
    cases e : H1 a with
    | none => exact .inl (.inl rfl)
    | some o =>
      cases q : given f g1 H1 a with
      | true => exact .inl (.inr rfl)
      | false => exact .inr ⟨o, rfl, rfl⟩
  refine r.start (Hs' := (actM f g1 H1).H0) (fun a ha => ?_) (r.mg (fun a q => ?_) (fun a q => ?_) (fun a e q => ?_) h)
  · rcases actM_non.mp ha with e | e
    · exact G.ext.keeps G e
    · obtain ⟨n, q, _⟩ := given_own e
      exact G.noown0 q
  · rcases sp a with e | ⟨o, ho, e⟩
    · rw [backM_new e, q]
      rfl
    · rw [backM_keep ho e]
      exact hide_frz.mp ((up a o ho e).symm.trans q)
  · rcases sp a with e | ⟨o, ho, e⟩
    · rw [backM_new e, q]
      rfl
    · rw [backM_keep ho e]
      exact hide_tok.mp ((up a o ho e).symm.trans q)
  · rw [backM_new (actM_non.mp e), q]
    rfl
/-! ### the promise of such a def -/
def SpM (P : TokP) (kp : List Kd) (r : Rk) (cw : Nat) (w : TupT kp → (r.T → Prop) → Prop) : Sp := fun vs H Q _ => ∃ (A : Act) (b0 : Nat) (g : Gh) (γ : TupT kp), b0 + cw ≤ P.B ∧ Good P A b0 g H ∧ RelL kp 0 γ (vs.map some) g H ∧ w γ (Wr P A (b0 + cw) r Q)
structure PmM (P : TokP) (kp : List Kd) (r : Rk) (w : TupT kp → (r.T → Prop) → Prop) : Prop where
  mono : ∀ γ (Q Q' : r.T → Prop), (∀ x, Q x → Q' x) → w γ Q → w γ Q'
theorem RelL.length : ∀ {ks : List Kd} {i : Nat} {γ : TupT ks} {σ : Sl} {g : Gh} {H : Hp}, RelL ks i γ σ g H → σ.length = ks.length
  | [], _, _, _, _, _, h => by
    have h : _ = [] := h
    rw [h]
    rfl
  | _ :: _, _, _, _, _, _, ⟨y, r, e, _, q⟩ => by
    rw [e, List.length_cons, List.length_cons, RelL.length q]
structure IniM (kp ks : List Kd) (n : Nat) where
  to : TupT kp → TupT ks
  ok : ∀ {i γ σ g H}, RelL kp i γ σ g H → RelL ks i (to γ) (σ ++ List.replicate n none) g H
def IniM.n : IniM [] [] 0 := ⟨fun γ => γ, fun h => by
  have h : _ = [] := h
  subst h
  rfl⟩
def IniM.u {n : Nat} (a : IniM [] ks n) : IniM [] (kU :: ks) (n + 1) := ⟨fun γ => ((), a.to γ), fun {i γ σ g H} h => by
  have h' : σ = [] := h
  subst h'
  exact ⟨none, _, rfl, trivial, a.ok (γ := γ) (σ := []) h⟩⟩
def IniM.c {k : Kd} {n : Nat} (a : IniM kp ks n) : IniM (k :: kp) (k :: ks) n := ⟨fun γ => (γ.1, a.to γ.2), fun {i γ σ g H} ⟨y, r, e, h, q⟩ => by
  subst e
  exact ⟨y, _, rfl, h, a.ok q⟩⟩
def wDefM {n : Nat} (i : IniM kp ks n) (w : TupT ks → We ks' r [] → Prop) : TupT kp → (r.T → Prop) → Prop := fun γ Q => w (i.to γ) ⟨fun _ => False, Q, fun _ => False, fun _ => False⟩
theorem pm_defM {n : Nat} {i : IniM kp ks n} {t : TS} {w : TupT ks → We ks' r [] → Prop} (h : AS P ks ks' r [] ct t w) : PmM P kp r (wDefM i w) := ⟨fun γ Q Q' q z => by
  refine h.mono _ _ _ ?_ z
  exact ⟨fun _ h => h, q, fun _ h => h, fun _ h => h⟩⟩
theorem sp_defM {n : Nat} {i : IniM kp ks n} {t : TS} {w : TupT ks → We ks' r [] → Prop} (h : AS P ks ks' r [] ct t w) {vs : List V} {H : Hp} {Q : VK} {E : XK} {N : List Str} (hN : N.length = kp.length + n) (q : SpM P kp r ct (wDefM i w) vs H Q E) :
    t { nx := fun _ H' => Q .non H', rt := Q } (L2.start N vs) H := by
  obtain ⟨A, b0, g, γ, hb0, G, rv, z⟩ := q
  have e : L2.start N vs = vs.map some ++ List.replicate n none := by
    unfold L2.start
    have l := RelL.length rv
    rw [List.length_map] at l
    rw [l, hN, Nat.add_sub_cancel_left]
  rw [e]
  refine h.run A b0 _ _ g H _ hb0 G (i.ok rv) ?_
  refine h.mono _ _ _ ?_ z
  exact ⟨fun _ h => h.elim, fun _ h => h, fun _ h => h.elim, fun _ h => h.elim⟩
theorem sp_lenM {w : TupT kp → (r.T → Prop) → Prop} {vs : List V} {H : Hp} {Q : VK} {E : XK} (q : SpM P kp r cw w vs H Q E) : vs.length = kp.length := by
  obtain ⟨A, b0, g, γ, hb0, G, rv, z⟩ := q
  have l := RelL.length rv
  rw [List.length_map] at l
  exact l
/-! ### arguments, in the callee's tags -/
structure AM (P : TokP) (ks kp : List Kd) (f : Nat → Option Nat) (m : Nat) (c : Nat) (t : TA) (w : TupT ks → (TupT kp → Prop) → Prop) : Prop where
  mono : ∀ γ (Q Q' : TupT kp → Prop), (∀ x, Q x → Q' x) → w γ Q → w γ Q'
  run : ∀ (A : Act) b0 γ σ g H (Q : List V → Hp → Prop), b0 + c ≤ P.B → Good P A b0 g H → RelL ks 0 γ σ g H → w γ (fun xs => ∀ vs g' H', Good P A (b0 + c) g' H' → Ext g H g' H' → RelL kp m xs (vs.map some) (gc f g' H') H' → Q vs H') → t σ H Q
theorem am_nil {m : Nat} : AM P ks [] f m 0 tNil (fun _ Q => Q ()) := ⟨fun _ _ _ q z => q _ z, fun A b0 γ σ g H Q hb0 G R hw => hw [] g H (G.up (by omega)) (Ext.refl g H) rfl⟩
theorem am_val {k : Vk} {m : Nat} {t : TA} {we : TupT ks → (k.T → Prop) → Prop} {wt : TupT ks → (TupT kp → Prop) → Prop} (he : AE P ks (rV k) ce te we) (ht : AM P ks kp f (m + 1) ct t wt) :
    AM P ks (kV k :: kp) f m (ce + ct) (tCons te t) (fun γ Q => we γ fun x => wt γ fun xs => Q (x, xs)) := by
  refine ⟨fun γ Q Q' q z => he.mono γ _ _ (fun a za => ht.mono γ _ _ (fun b zb => q _ zb) za) z, fun A b0 γ σ g H Q hb0 G R hw => ?_⟩
  refine he.run A b0 γ σ g H _ (by omega) G R (he.mono γ _ _ (fun a za x g1 H1 G1 e1 r1 => ?_) hw)
  refine ht.run A _ γ σ g1 H1 _ (by omega) G1 (R.ext G e1) (ht.mono γ _ _ (fun b zb vs g2 H2 G2 e2 r2 => ?_) za)
  exact zb _ g2 H2 (G2.up (by omega)) (e1.trans G1 e2) ⟨some x, vs.map some, rfl, ⟨x, rfl, k.mono ((e2.le G1).trans gc_le) r1⟩, r2⟩
/-- how an owned thing comes to the callee -/
structure Cv (k k' : Kd) where
  to : k.T → k'.T
  ok : ∀ {i j y x g g' H}, (∀ a o, g a = .own i → H a = some o → isTup o = false → g' a = .own j) → Le g H g' H → k.rel i y x g H → (∃ v, y = some v) ∧ k'.rel j y (to x) g' H
def Cv.o {α : Type} [Rp K α] : Cv (kO K α) (kO K α) := ⟨fun x => x, fun {i j y x g g' H} u l ⟨p, vs, e, h1, h2, h3, hl⟩ => ⟨⟨_, e⟩, p, vs, e, u p _ h1 h2 rfl, h2, Paired.rp_mono l.fz h3, hl⟩⟩
def Cv.a {α : Type} [Rp K α] : Cv (kA K α) (kA K α) := ⟨fun x => x, fun {i j y x g g' H} u l ⟨vs, e, h1, h2, h3, hl⟩ => ⟨⟨_, e⟩, vs, e, u _ _ h1 h2 rfl, h2, Paired.rp_mono l.fz h3, hl⟩⟩
theorem am_own {k k' : Kd} {n m : Nat} {t : TA} {wt : TupT ks → (TupT kp → Prop) → Prop} (a : Acc ks n k) (cv : Cv k k') (hf : f n = some m) (ht : AM P ks kp f (m + 1) ct t wt) :
    AM P ks (k' :: kp) f m ct (tCons (tVar n) t) (fun γ Q => wt γ fun xs => Q (cv.to (a.get γ), xs)) := by
  refine ⟨fun γ Q Q' q z => ht.mono γ _ _ (fun b zb => q _ zb) z, fun A b0 γ σ g H Q hb0 G R hw => ?_⟩
  obtain ⟨y, e, h⟩ := a.ok R
  obtain ⟨⟨v, rfl⟩, _⟩ := cv.ok (j := m) (g' := gc f g H) (fun a o h1 h2 h3 => gc_own h1 (by rw [Nat.zero_add]; exact hf) h2 h3) gc_le h
  refine ⟨v, e, ?_⟩
  refine ht.run A b0 γ σ g H _ (by omega) G R (ht.mono γ _ _ (fun b zb vs g2 H2 G2 e2 r2 => ?_) hw)
  have R2 := R.ext G e2
  obtain ⟨y2, f2, h2⟩ := a.ok R2
  rw [e] at f2
  cases f2
  exact zb _ g2 H2 G2 e2 ⟨some v, vs.map some, rfl, (cv.ok (j := m) (g' := gc f g2 H2) (fun a o q1 q2 q3 => gc_own q1 (by rw [Nat.zero_add]; exact hf) q2 q3) gc_le h2).2, r2⟩
/-! ### what is known behind the call -/
structure Fgt (f : Nat → Option Nat) (ks ks' : List Kd) (i : Nat) where
  to : TupT ks → TupT ks'
  ok : ∀ {γ σ g H g' H'}, RelL ks i γ σ g H → Le g H g' H' → (∀ j, f j = none → Ow j g H g' H') → RelL ks' i (to γ) σ g' H'
def Fgt.n {i : Nat} : Fgt f [] [] i := ⟨fun γ => γ, fun h _ _ => h⟩
def Fgt.k {k : Kd} {i : Nat} (h : f i = none) (a : Fgt f ks ks' (i + 1)) : Fgt f (k :: ks) (k :: ks') i := ⟨fun γ => (γ.1, a.to γ.2), fun ⟨y, r, e, q, z⟩ l o => ⟨y, r, e, k.st l (o i h) q, a.ok z l o⟩⟩
/-- what is no owned thing -/
def Fgt.v {k : Vk} {i : Nat} (a : Fgt f ks ks' (i + 1)) : Fgt f (kV k :: ks) (kV k :: ks') i := ⟨fun γ => (γ.1, a.to γ.2), fun ⟨y, r, e, ⟨v, ev, q⟩, z⟩ l o => ⟨y, r, e, ⟨v, ev, k.mono l q⟩, a.ok z l o⟩⟩
def Fgt.u {i : Nat} (a : Fgt f ks ks' (i + 1)) : Fgt f (kU :: ks) (kU :: ks') i := ⟨fun γ => ((), a.to γ.2), fun ⟨y, r, e, _, z⟩ l o => ⟨y, r, e, trivial, a.ok z l o⟩⟩
def Fgt.d {k : Kd} {i : Nat} (a : Fgt f ks ks' (i + 1)) : Fgt f (k :: ks) (kU :: ks') i := ⟨fun γ => ((), a.to γ.2), fun ⟨y, r, e, _, z⟩ l o => ⟨y, r, e, trivial, a.ok z l o⟩⟩
def Fgt.p {α : Type} [Rp K α] {i : Nat} (a : Fgt f ks ks' (i + 1)) : Fgt f (kA K α :: ks) (kP :: ks') i := ⟨fun γ => (γ.1.1, a.to γ.2), fun ⟨y, r, e, ⟨vs, ev, _⟩, z⟩ l o => ⟨y, r, e, ev, a.ok z l o⟩⟩
/-! ### expressions that change what slots own -/
structure AXE (P : TokP) (ks ks' : List Kd) (r : Rk) (c : Nat) (t : TE) (w : TupT ks → (r.T → TupT ks' → Prop) → Prop) : Prop where
  mono : ∀ γ (Q Q' : r.T → TupT ks' → Prop), (∀ x y, Q x y → Q' x y) → w γ Q → w γ Q'
  run : ∀ (A : Act) b0 γ σ g H (Q : VK), b0 + c ≤ P.B → Good P A b0 g H → RelL ks 0 γ σ g H → w γ (fun x γ' => ∀ v g' H', Good P A (b0 + c) g' H' → Le g H g' H' → RelL ks' 0 γ' σ g' H' → r.rel A.H0 v x g' H' → Q v H') → t σ H Q
theorem axe_call {t : TA} {w : TupT kp → (r.T → Prop) → Prop} {wt : TupT ks → (TupT kp → Prop) → Prop} (wm : PmM P kp r w) (ha : AM P ks kp f 0 ct t wt) (k : Fgt f ks ks' 0) :
    AXE P ks ks' r (ct + cw) (tCall (SpM P kp r cw w) [] E0 t) (fun γ Q => wt γ fun xs => w xs fun x => Q x (k.to γ)) := by
  refine ⟨fun γ Q Q' q z => ha.mono γ _ _ (fun a za => wm.mono a _ _ (fun x => q x _) za) z, fun A b0 γ σ g H Q hb0 G R hw => ?_⟩
  refine ha.run A b0 γ σ g H _ (by omega) G R (ha.mono γ _ _ (fun xs zx vs g1 H1 G1 e1 r1 => ?_) hw)
  rw [List.append_nil]
  refine ⟨actM f g1 H1, _, gc f g1 H1, xs, by omega, actM_good G1, r1, wm.mono xs _ _ (fun x zx v g' H' G' r' => ?_) zx⟩
  obtain ⟨G2, l2, o2⟩ := backM_good G1 G'
  exact zx v _ H' (G2.up (by omega)) ((e1.le G).trans l2) (k.ok (R.ext G e1) l2 o2) (backM_rel (A := A) G1 G' r')
/-- what was handed back is owned again -/
theorem axe_back {α : Type} [Rp K α] {n : Nat} {ks2 : List Kd} {vk : Vk} {w : TupT ks → ((rB (rV vk) K α).T → TupT ks' → Prop) → Prop} (h : AXE P ks ks' (rB (rV vk) K α) ce te w) (a : Acc ks' n kP) (p : Put ks' n (kA K α) ks2) :
    AXE P ks ks2 (rV vk) ce te (fun γ Q => w γ fun x γ' => x.2.1 = a.get γ' ∧ Q x.1 (p.put γ' x.2)) := by
  refine ⟨fun γ Q Q' q z => h.mono γ _ _ (fun x y z => ⟨z.1, q _ _ z.2⟩) z, fun A b0 γ σ g H Q hb0 G R hw => ?_⟩
  refine h.run A b0 γ σ g H _ hb0 G R (h.mono γ _ _ (fun x γ' ⟨ex, zx⟩ v g' H' G' l' R' r' => ?_) hw)
  obtain ⟨q, vs, h0, h1, h2, h3, hl⟩ := r'
  have l2 : Le g' H' (tagAt g' x.2.1 (.own n)) H' := le_tag (by rw [h1]; simp) (by rw [h1]; simp)
  obtain ⟨y, ey, hy⟩ := a.ok R'
  have hy : y = some (.ref (a.get γ')) := hy
  subst hy
  have R2 := p.ok (y := some (.ref (a.get γ'))) (x := x.2) R' l2 (fun j hj b o hb ho => ⟨(tagAt_ne (fun z => by
    rw [z, h1] at hb
    cases hb)).trans hb, ho⟩) ⟨vs, by rw [ex], by rw [tagAt_same, Nat.zero_add], h2, Paired.rp_mono l2.fz h3, hl⟩
  rw [set_self ey] at R2
  refine zx v _ H' (G'.retag (t := .own n) h0 h2 (by rw [h1]; simp) fun z => nomatch z) (l'.trans l2) R2 (vk.mono l2 q)
/-! ### statements of such expressions -/
theorem as_exprX {w : TupT ks → (r.T → TupT ks' → Prop) → Prop} {r' : Rk} (he : AXE P ks ks' r ce te w) : AS P ks ks' r' kb ce (tDrop te) (fun γ E => w γ fun _ γ' => E.nx γ') := by
  refine ⟨fun γ E E' i z => he.mono γ _ _ (fun x y zx => i.nx _ zx) z, fun A b0 γ σ g H D hb0 G R hw => ?_⟩
  exact he.run A b0 γ σ g H _ hb0 G R (he.mono γ _ _ (fun x γ' zx v g' H' G' l' R' r' => zx σ g' H' G' l' R') hw)
theorem as_setX {vk : Vk} {n : Nat} {w : TupT ks → (vk.T → TupT ks1 → Prop) → Prop} (he : AXE P ks ks1 (rV vk) ce te w) (p : Put ks1 n (kV vk) ks') : AS P ks ks' r kb ce (tAsg te (gName n)) (fun γ E => w γ fun x γ' => ∀ y, y = x → E.nx (p.put γ' y)) := by
  refine ⟨fun γ E E' i z => he.mono γ _ _ (fun x y zx u e => i.nx _ (zx u e)) z, fun A b0 γ σ g H D hb0 G R hw => ?_⟩
  exact he.run A b0 γ σ g H _ hb0 G R (he.mono γ _ _ (fun x γ' zx v g' H' G' l' R' r' => zx x rfl _ g' H' G' l' (p.ok R' (Le.refl g' H') (fun j _ b o hb ho => ⟨hb, ho⟩) ⟨v, rfl, r'⟩)) hw)
theorem as_retX {w : TupT ks → (r.T → TupT ks1 → Prop) → Prop} (he : AXE P ks ks1 r ce te w) : AS P ks ks' r kb ce (tRet te) (fun γ E => w γ fun x _ => E.rt x) := by
  refine ⟨fun γ E E' i z => he.mono γ _ _ (fun x y zx => i.rt _ zx) z, fun A b0 γ σ g H D hb0 G R hw => ?_⟩
  exact he.run A b0 γ σ g H _ hb0 G R (he.mono γ _ _ (fun x γ' zx v g' H' G' l' R' r' => zx v g' H' G' r') hw)
/-- tests -/
structure ATX (P : TokP) (ks ks' : List Kd) (c : Nat) (t : TT) (w : TupT ks → (Bool → TupT ks' → Prop) → Prop) : Prop where
  mono : ∀ γ (Q Q' : Bool → TupT ks' → Prop), (∀ x y, Q x y → Q' x y) → w γ Q → w γ Q'
  run : ∀ (A : Act) b0 γ σ g H (Q : Bool → Hp → Prop), b0 + c ≤ P.B → Good P A b0 g H → RelL ks 0 γ σ g H → w γ (fun b γ' => ∀ g' H', Good P A (b0 + c) g' H' → Le g H g' H' → RelL ks' 0 γ' σ g' H' → Q b H') → t σ H Q
theorem atx_v {w : TupT ks → (Bool → TupT ks' → Prop) → Prop} (h : AXE P ks ks' (rF K Bool) ca ta w) : ATX P ks ks' ca (tB ta) w := by
  refine ⟨h.mono, fun A b0 γ σ g H Q hb0 G R hw => ?_⟩
  exact h.run A b0 γ σ g H _ hb0 G R (h.mono γ _ _ (fun b γ' z v g' H' G' l' R' r' => ⟨b, r', z g' H' G' l' R'⟩) hw)
theorem atx_not {t : TT} {w : TupT ks → (Bool → TupT ks' → Prop) → Prop} (h : ATX P ks ks' ct t w) : ATX P ks ks' ct (tNot t) (fun γ Q => w γ fun b => Q (!b)) :=
  ⟨fun γ Q Q' q z => h.mono γ _ _ (fun b => q (!b)) z, fun A b0 γ σ g H Q hb0 G R hw => h.run A b0 γ σ g H _ hb0 G R hw⟩
theorem atx_at {t : TT} {w : TupT ks → (Bool → Prop) → Prop} (h : AT P ks ct t w) : ATX P ks ks ct t (fun γ Q => w γ fun b => Q b γ) :=
  ⟨fun γ Q Q' q z => h.mono γ _ _ (fun b => q b γ) z, fun A b0 γ σ g H Q hb0 G R hw => h.run A b0 γ σ g H _ hb0 G R (h.mono γ _ _ (fun b z g' H' G' e' => z g' H' G' (e'.le G) (R.ext G e')) hw)⟩
theorem atx_or {t u : TT} {wt : TupT ks → (Bool → TupT ks → Prop) → Prop} {wu : TupT ks → (Bool → TupT ks → Prop) → Prop} (ht : ATX P ks ks ct t wt) (hu : ATX P ks ks cu u wu) : ATX P ks ks (ct + cu) (tOr t u) (fun γ Q => wt γ fun b γ' => if b = true then Q true γ' else wu γ' Q) := by
  refine ⟨fun γ Q Q' q z => ht.mono γ _ _ (fun b y z => ?_) z, fun A b0 γ σ g H Q hb0 G R hw => ?_⟩
  · cases b with
    | true => exact q _ _ z
    | false => exact hu.mono y _ _ q z
  · refine ht.run A b0 γ σ g H _ (by omega) G R (ht.mono γ _ _ (fun b γ' zb g1 H1 G1 l1 R1 => ?_) hw)
    cases b with
    | true => exact zb g1 H1 (G1.up (by omega)) l1 R1
    | false => exact hu.run A _ γ' σ g1 H1 _ (by omega) G1 R1 (hu.mono γ' _ _ (fun c y zc g2 H2 G2 l2 R2 => zc g2 H2 (G2.up (by omega)) (l1.trans l2) R2) zb)
theorem as_ifX {t : TT} {u v : TS} {wc : TupT ks → (Bool → TupT ks1 → Prop) → Prop} {w1 w2 : TupT ks1 → We ks' r kb → Prop} (hc : ATX P ks ks1 cc t wc) (h1 : AS P ks1 ks' r kb ct u w1) (h2 : AS P ks1 ks' r kb cu v w2) :
    AS P ks ks' r kb (cc + ct + cu) (tIfS t u v) (fun γ E => wc γ fun b γ' => if b = true then w1 γ' E else w2 γ' E) := by
  refine ⟨fun γ E E' i z => hc.mono γ _ _ (fun b y zb => ?_) z, fun A b0 γ σ g H D hb0 G R hw => ?_⟩
  · cases b with
    | true => exact h1.mono y _ _ i zb
    | false => exact h2.mono y _ _ i zb
  · refine hc.run A b0 γ σ g H _ (by omega) G R (hc.mono γ _ _ (fun b γ' zb g' H' G' l' R' => ?_) hw)
    cases b with
    | true => exact h1.run A _ γ' σ g' H' D (by omega) G' R' (h1.mono γ' _ _ (We.of (by omega) l') zb)
    | false => exact h2.run A _ γ' σ g' H' D (by omega) G' R' (h2.mono γ' _ _ (We.of (by omega) l') zb)
/-- return of what is no owned thing, an owned list handed back -/
theorem as_retB {α : Type} [Rp K α] {n : Nat} {vk : Vk} {w : TupT ks → (vk.T → Prop) → Prop} (he : AE P ks (rV vk) ce te w) (a : Acc ks n (kA K α)) : AS P ks ks' (rB (rV vk) K α) kb ce (tRet te) (fun γ E => w γ fun x => E.rt (x, a.get γ)) := by
  refine ⟨fun γ E E' i z => he.mono γ _ _ (fun x => i.rt _) z, fun A b0 γ σ g H D hb0 G R hw => ?_⟩
  refine he.run A b0 γ σ g H _ hb0 G R (he.mono γ _ _ (fun x zx v g' H' G' e' r' => ?_) hw)
  obtain ⟨y, e, vs, rfl, h1, h2, h3, hl⟩ := a.ok (R.ext G e')
  have l2 : Le g' H' (tagAt g' (a.get γ).1 .oth) H' := le_tag (by rw [h1]; simp) (by rw [h1]; simp)
  exact zx v _ H' (G'.retag (t := .oth) (G'.noown0 h1) h2 (by rw [h1]; simp) fun z => nomatch z) ⟨vk.mono l2 r', vs, G'.noown0 h1, tagAt_same, h2, Paired.rp_mono l2.fz h3, hl⟩
/-! ### ends of defs -/
structure CdM (P : TokP) (kp : List Kd) (r : Rk) where
  cw : Nat
  w : TupT kp → (r.T → Prop) → Prop
  pm : PmM P kp r w
end DL
/-! DL: two new lists in a new list, told and taken apart. -/
namespace DL
open PySem PySem.Spec PyProof.Rows L2
variable {P : TokP} {K : PySem.W.Frag} {ks ks' ks1 ks2 kb : List Kd} {r : Rk} {ta tb te : TE} {ca cb cc ce : Nat}
def NewL (K : PySem.W.Frag) {α : Type} [Rp K α] (Hs : Hp) (p : Addr) (xs : List α) (g : Gh) (H : Hp) : Prop := ∃ vs, Hs p = none ∧ g p = .oth ∧ H p = some (.lst vs) ∧ Paired (Rp.rp K (Fz g H)) vs xs ∧ xs.length ≤ 9223372036854775808
theorem NewL.start {α : Type} [Rp K α] {Hs Hs' : Hp} {p : Addr} {xs : List α} {g : Gh} {H : Hp} (h : ∀ a, Hs' a = none → Hs a = none) (q : NewL K Hs' p xs g H) : NewL K Hs p xs g H := by
  obtain ⟨vs, h1, h2⟩ := q
  exact ⟨vs, h _ h1, h2⟩
theorem NewL.mg {α : Type} [Rp K α] {Hs : Hp} {p : Addr} {xs : List α} {g g' : Gh} {H : Hp} (h1 : ∀ a, g a = .frz → g' a = .frz) (h2 : ∀ a, g a = .tok → g' a = .tok) (h3 : ∀ a, Hs a = none → g a = .oth → g' a = .oth) (q : NewL K Hs p xs g H) : NewL K Hs p xs g' H := by
  obtain ⟨vs, q1, q2, q3, q4, q5⟩ := q
  exact ⟨vs, q1, h3 _ q1 q2, q3, Paired.rp_mono (le_mg h1 h2).fz q4, q5⟩
@[reducible] def rO2 (K : PySem.W.Frag) (α β : Type) [Rp K α] [Rp K β] : Rk := ⟨List α × List β, fun Hs v x g H => ∃ p a b, v = .ref p ∧ a ≠ b ∧ H p = some (.lst [.ref a, .ref b]) ∧ Hs p = none ∧ g p = .oth ∧ NewL K Hs a x.1 g H ∧ NewL K Hs b x.2 g H,
  fun h ⟨p, a, b, e, ne, h1, h2, h3, h4, h5⟩ => ⟨p, a, b, e, ne, h1, h _ h2, h3, h4.start h, h5.start h⟩,
  fun h1 h2 h3 ⟨p, a, b, e, ne, q1, q2, q3, q4, q5⟩ => ⟨p, a, b, e, ne, q1, q2, h3 _ q2 q3, q4.mg h1 h2 h3, q5.mg h1 h2 h3⟩⟩
section
variable {α β : Type} [Rp K α] [Rp K β]
theorem NewL.fl [Flat K α] {Hs : Hp} {p : Addr} {xs : List α} {g g' : Gh} {H : Hp} (s : ∀ a, Hs a = none → g' a = g a) (q : NewL K Hs p xs g H) : NewL K Hs p xs g' H := by
  obtain ⟨vs, q1, q2, q3, q4, q5⟩ := q
  exact ⟨vs, q1, (s _ q1).trans q2, q3, Paired.mapP q4 fun _ _ q => Flat.fl (K := K) (α := α) (F := Fz g H) (F' := Fz g' H) fz_tups q, q5⟩
instance [Flat K α] [Flat K β] : RkFlat (rO2 K α β) := ⟨fun {Hs v x g g' H} s ⟨p, a, b, e, ne, h1, h2, h3, h4, h5⟩ => ⟨p, a, b, e, ne, h1, h2, (s _ h2).trans h3, h4.fl s, h5.fl s⟩⟩
theorem Nst.fl [Flat K α] {t : Tg} {bs : List Addr} {x : List (List α)} {g g' : Gh} {H : Hp} (s : ∀ b ∈ bs, g' b = g b) (h : Nst K α t bs x g H) : Nst K α t bs x g' H := by
  unfold Nst at h ⊢
  induction h with
  | nil => exact .nil
  | cons q _ ih =>
    obtain ⟨q1, vs, q2, q3, q4⟩ := q
    exact .cons ⟨(s _ List.mem_cons_self).trans q1, vs, q2, Paired.mapP q3 fun _ _ q => Flat.fl (K := K) (α := α) (F := Fz g H) (F' := Fz g' H) fz_tups q, q4⟩ (ih fun b hb => s b (List.mem_cons_of_mem _ hb))
instance [Flat K α] : RkFlat (rN K α) := ⟨fun {Hs v x g g' H} s ⟨p, bs, e, h1, h2, h3, h4, h5, h6, h7, h8⟩ => ⟨p, bs, e, h1, (s _ h1).trans h2, h3, h4, h5, h6, h7.fl fun b hb => s b (h6 b hb), h8⟩⟩
instance [Flat K α] : RkFlat (rNO K α) := ⟨fun {Hs v x g g' H} s h => by
  cases x with
  | none => exact h
  | some y => exact RkFlat.fl (r := rN K α) s h⟩
/-- return [x, y], both owned -/
theorem as_giveLP {i j : Nat} (a : Acc ks i (kO K α)) (b : Acc ks j (kO K β)) (hij : i ≠ j) : AS P ks ks' (rO2 K α β) kb 0 (tRet (tLst (tCons (tVar i) (tCons (tVar j) tNil)))) (fun γ E => E.rt (a.get γ, b.get γ)) := by
  refine ⟨fun γ E E' i z => i.rt _ z, fun A b0 γ σ g H D hb0 G R hw => ?_⟩
  obtain ⟨y, e, p, vs, rfl, h1, h2, h3, hl⟩ := a.ok R
  obtain ⟨y', e', q, ws, rfl, k1, k2, k3, kl⟩ := b.ok R
  have ne : p ≠ q := fun z => by
    rw [z, k1] at h1
    exact hij (by have := Tg.own.inj h1; omega)
  refine ⟨_, e, _, e', by show 2 ≤ sizeLine; decide, fun u hu => ?_⟩
  obtain ⟨G1, e1⟩ := G.new0 (o := .lst [.ref p, .ref q]) hu
  have np : p ≠ u := ne_of_none h2 hu
  have nq : q ≠ u := ne_of_none k2 hu
  have h2' : upd H u (.lst [.ref p, .ref q]) p = some (.lst vs) := by rw [upd_ne np]; exact h2
  have k2' : upd H u (.lst [.ref p, .ref q]) q = some (.lst ws) := by rw [upd_ne nq]; exact k2
  have l2 : Le g (upd H u (.lst [.ref p, .ref q])) (tagAll g [p, q] .oth) (upd H u (.lst [.ref p, .ref q])) := le_tagAll fun c hc => by
    rcases List.mem_cons.mp hc with rfl | hc
    · rw [h1]; simp
    · rw [List.mem_singleton.mp hc, k1]; simp
  have G2 : Good P A (b0 + 0) (tagAll g [p, q] .oth) (upd H u (.lst [.ref p, .ref q])) := (G1.retagAll (t := .oth) (fun c hc => by
    rcases List.mem_cons.mp hc with rfl | hc
    · exact ⟨G.noown0 h1, _, h2'⟩
    · rw [List.mem_singleton.mp hc]
      exact ⟨G.noown0 k1, _, k2'⟩) (fun z => nomatch z)).up (by omega)
  have l3 := (e1.le G).trans l2
  refine hw _ _ _ G2 ⟨u, p, q, rfl, ne, upd_same, G.ext.keeps G hu, ?_, ⟨vs, G.noown0 h1, tagAll_in List.mem_cons_self, h2', Paired.rp_mono l3.fz h3, hl⟩, ⟨ws, G.noown0 k1, tagAll_in (List.mem_cons_of_mem _ List.mem_cons_self), k2', Paired.rp_mono l3.fz k3, kl⟩⟩
  rw [tagAll_out]
  · exact G.non u hu
  · intro z
    rcases List.mem_cons.mp z with z | z
    · exact np z.symm
    · exact nq (List.mem_singleton.mp z).symm
/-- x, y = f(..), two new lists -/
theorem as_ownLP {i j : Nat} {w : TupT ks → (List α × List β → Prop) → Prop} (he : AE P ks (rO2 K α β) ce te w) (p1 : Put ks i (kO K α) ks1) (p2 : Put ks1 j (kO K β) ks') :
    AS P ks ks' r kb ce (tAsg te (gUnl K 2 (gCons (gName i) (gCons (gName j) gNil)))) (fun γ E => w γ fun x => ∀ y z, y = x.1 → z = x.2 → E.nx (p2.put (p1.put γ y) z)) := by
  refine ⟨fun γ E E' i z => he.mono γ _ _ (fun x zx y z ey ez => i.nx _ (zx y z ey ez)) z, fun A b0 γ σ g H D hb0 G R hw => ?_⟩
  refine he.run A b0 γ σ g H _ (by omega) G R (he.mono γ _ _ (fun x zx v g' H' G' e' r' => ?_) hw)
  obtain ⟨p, a, b, rfl, ne, hp, _, _, ⟨vs, h0, h1, h2, h3, hl⟩, ⟨ws, k0, k1, k2, k3, kl⟩⟩ := r'
  have R' := R.ext G e'
  have l1 : Le g' H' (tagAt g' a (.own i)) H' := le_tag (by rw [h1]; simp) (by rw [h1]; simp)
  have b1 : tagAt g' a (.own i) b = .oth := by rw [tagAt_ne (Ne.symm ne)]; exact k1
  have l2 : Le (tagAt g' a (.own i)) H' (tagAt (tagAt g' a (.own i)) b (.own j)) H' := le_tag (by rw [b1]; simp) (by rw [b1]; simp)
  have R1 := p1.ok (y := some (.ref a)) (x := x.1) R' l1 (fun m _ c o hc ho => ⟨(tagAt_ne fun z => by
    rw [z, h1] at hc
    cases hc).trans hc, ho⟩) ⟨a, vs, rfl, by rw [tagAt_same, Nat.zero_add], h2, Paired.rp_mono l1.fz h3, hl⟩
  have R2 := p2.ok (y := some (.ref b)) (x := x.2) R1 l2 (fun m _ c o hc ho => ⟨(tagAt_ne fun z => by
    rw [z, b1] at hc
    cases hc).trans hc, ho⟩) ⟨b, ws, rfl, by rw [tagAt_same, Nat.zero_add], k2, Paired.rp_mono (l1.trans l2).fz k3, kl⟩
  have G1 := G'.retag (t := .own i) (G.ext.keeps G h0) h2 (by rw [h1]; simp) fun z => nomatch z
  have G2 := G1.retag (t := .own j) (G.ext.keeps G k0) k2 (by rw [b1]; simp) fun z => nomatch z
  exact ⟨p, _, rfl, .inl (.inl hp), rfl, .ref a, [.ref b], rfl, .ref b, [], rfl, rfl, zx _ _ rfl rfl _ _ H' (G2.up (by omega)) (((e'.le G).trans l1).trans l2) R2⟩
/-- return of an owned list of owned lists -/
theorem as_giveN {n : Nat} (a : Acc ks n (kN K α)) : AS P ks ks' (rN K α) kb 0 (tRet (tVar n)) (fun γ E => E.rt (a.get γ)) := by
  refine ⟨fun γ E E' i z => i.rt _ z, fun A b0 γ σ g H D hb0 G R hw => ?_⟩
  exact (as_giveNO (ks' := ks') (kb := kb) a).run A b0 γ σ g H D hb0 G R fun v g' H' G' r' => hw v g' H' G' r'
/-- return a if c else b -/
theorem as_retIf {t : TT} {w1 w2 : TupT ks → We ks' r kb → Prop} {wc : TupT ks → (Bool → Prop) → Prop} (hc : AT P ks cc t wc) (h1 : AS P ks ks' r kb ca (tRet ta) w1) (h2 : AS P ks ks' r kb cb (tRet tb) w2) :
    AS P ks ks' r kb (cc + ca + cb) (tRet (tIf t ta tb)) (fun γ E => wc γ fun b => if b = true then w1 γ E else w2 γ E) :=
  ⟨(as_if hc h1 h2).mono, fun A b0 γ σ g H D hb0 G R hw => (as_if hc h1 h2).run A b0 γ σ g H D hb0 G R hw⟩
/-- who owns nothing may freeze it -/
theorem ae_frzN {w : TupT ks → (List (List α) → Prop) → Prop} (h : AE P ks (rN K α) ca ta w) : AE P ks (rF K (List (List α))) ca ta w := by
  refine ⟨h.mono, fun A b0 γ σ g H Q hb0 G R hw => ?_⟩
  refine h.run A b0 γ σ g H Q (by omega) G R (h.mono γ _ _ (fun xs z v g' H' G' e r' => ?_) hw)
  obtain ⟨p, bs, rfl, h1, h2, h3, h4, h5, h6, h7, h8⟩ := r'
  have all : ∀ c ∈ p :: bs, H c = none ∧ g' c = .oth ∧ ∃ o, H' c = some o := fun c hc => by
    rcases List.mem_cons.mp hc with rfl | hc
    · exact ⟨h1, h2, _, h3⟩
    · obtain ⟨q1, vs, q2⟩ := h7.mem c hc
      exact ⟨h6 c hc, q1, _, q2⟩
  have l2 : Le g' H' (tagAll g' (p :: bs) .frz) H' := le_tagAll fun c hc => by rw [(all c hc).2.1]; simp
  have inn : ∀ c ∈ p :: bs, ∀ u, H' c = some u → Fz (tagAll g' (p :: bs) .frz) H' c = some u := fun c hc u hu => fz_some.mpr ⟨hu, .inr (by rw [tagAll_in hc]; rfl)⟩
  refine z _ (tagAll g' (p :: bs) .frz) H' ((G'.retagAll (t := .frz) (fun c hc => ⟨G.ext.keeps G (all c hc).1, (all c hc).2.2⟩) fun z => nomatch z).up (by omega)) (fun a o ha => ?_) ⟨p, bs.map V.ref, rfl, inn p List.mem_cons_self _ h3, nstVals h7 l2.fz (fun c hc => inn c (List.mem_cons_of_mem _ hc)), h8⟩
  rw [tagAll_out]
  · exact e a o ha
  · intro q
    rw [(all a q).1] at ha
    cases ha
theorem ae_frzNO {w : TupT ks → (Option (List (List α)) → Prop) → Prop} (h : AE P ks (rNO K α) ca ta w) : AE P ks (rF K (Option (List (List α)))) ca ta w := by
  refine ⟨h.mono, fun A b0 γ σ g H Q hb0 G R hw => ?_⟩
  refine h.run A b0 γ σ g H Q (by omega) G R (h.mono γ _ _ (fun xs z v g' H' G' e r' => ?_) hw)
  cases xs with
  | none => exact z v g' H' G' e r'
  | some x =>
    obtain ⟨p, bs, rfl, h1, h2, h3, h4, h5, h6, h7, h8⟩ := r'
    have all : ∀ c ∈ p :: bs, H c = none ∧ g' c = .oth ∧ ∃ o, H' c = some o := fun c hc => by
      rcases List.mem_cons.mp hc with rfl | hc
      · exact ⟨h1, h2, _, h3⟩
      · obtain ⟨q1, vs, q2⟩ := h7.mem c hc
        exact ⟨h6 c hc, q1, _, q2⟩
    have l2 : Le g' H' (tagAll g' (p :: bs) .frz) H' := le_tagAll fun c hc => by rw [(all c hc).2.1]; simp
    have inn : ∀ c ∈ p :: bs, ∀ u, H' c = some u → Fz (tagAll g' (p :: bs) .frz) H' c = some u := fun c hc u hu => fz_some.mpr ⟨hu, .inr (by rw [tagAll_in hc]; rfl)⟩
    refine z _ (tagAll g' (p :: bs) .frz) H' ((G'.retagAll (t := .frz) (fun c hc => ⟨G.ext.keeps G (all c hc).1, (all c hc).2.2⟩) fun z => nomatch z).up (by omega)) (fun a o ha => ?_) ⟨(fun z => nomatch z), p, bs.map V.ref, rfl, inn p List.mem_cons_self _ h3, nstVals h7 l2.fz (fun c hc => inn c (List.mem_cons_of_mem _ hc)), h8⟩
    rw [tagAll_out]
    · exact e a o ha
    · intro q
      rw [(all a q).1] at ha
      cases ha
/-- x.reverse() of an owned list of owned lists -/
theorem as_reverseNo {n : Nat} (a : Acc ks n (kN K α)) (p : Put ks n (kN K α) ks) :
    AS P ks ks r kb 0 (tDrop (tBM0 K "list" rReverse (tVar n))) (fun γ E => E.nx (p.put γ (a.get γ).reverse)) := by
  refine ⟨fun γ E E' i z => i.nx _ z, fun A b0 γ σ g H D hb0 G R hw => ?_⟩
  obtain ⟨y, e, b, bs, rfl, h1, h2, h3, h4, h5, hl⟩ := a.ok R
  obtain ⟨G2, l2, R2⟩ := outerN (bs' := bs.reverse) (x' := (a.get γ).reverse) p G R e h1 h2 (fun z => h3 (List.mem_reverse.mp z)) (List.pairwise_reverse.mpr (h4.imp fun z => Ne.symm z)) (Paired.rev h5) (by rw [List.length_reverse]; exact hl)
  rw [List.map_reverse] at G2 l2 R2
  exact ⟨_, e, .inl ⟨rfl, _, .inl (.inl h2)⟩, b, _, rfl, rfl, h2, hw σ g _ (G2.up (by omega)) l2 R2⟩
end
end DL
/-! DL: a whole statement while an owned list is held. -/
namespace DL
open PySem PySem.Spec PyProof.Rows L2
variable {P : TokP} {K : PySem.W.Frag} {ks ks' ks1 ksB ksB' kb : List Kd} {r : Rk} {ta tb te : TE} {ca cb cc ce ct : Nat}
/-- a list that nobody changes, at a known address -/
@[reducible] def kFA (K : PySem.W.Frag) (α : Type) [Rp K α] : Kd := ⟨Addr × List α, fun _ y x g H => ∃ vs, y = some (.ref x.1) ∧ Fz g H x.1 = some (.lst vs) ∧ Paired (Rp.rp K (Fz g H)) vs x.2 ∧ x.2.length ≤ 9223372036854775808,
  fun l _ ⟨vs, e, h1, h2, h3⟩ => ⟨vs, e, l.fz _ _ h1, Paired.rp_mono l.fz h2, h3⟩⟩
def Acc.fa {α : Type} [Rp K α] {n : Nat} (a : Acc ks n (kFA K α)) : Acc ks n (kF K (List α)) := ⟨fun γ => (a.get γ).2, fun R => by
  obtain ⟨y, e, vs, rfl, h1, h2, h3⟩ := a.ok R
  exact ⟨_, e, _, rfl, _, vs, rfl, h1, h2, h3⟩⟩
def Bor.fa {α : Type} [Rp K α] (a : Bor ks ks') : Bor (kFA K α :: ks) (kFA K α :: ks') := ⟨fun γ => (γ.1, a.to γ.2), fun ⟨y, r, e, ⟨vs, ep, h1, h2, h3⟩, q⟩ => ⟨y, r, e, ⟨vs, ep, bg_le.fz _ _ h1, Paired.rp_mono bg_le.fz h2, h3⟩, a.ok q⟩⟩
/-- what leans on no held list -/
structure Unb (n : Nat) (ks ks' : List Kd) (i : Nat) where
  to : TupT ks → TupT ks'
  ok : ∀ {γ σ g g2 H p}, RelL ks i γ σ g H → (∀ a, a ≠ p → g2 a = g a) → g p = .frz → RelL ks' i (to γ) σ g2 H
def Unb.n {n i : Nat} : Unb n [] [] i := ⟨fun γ => γ, fun h _ _ => h⟩
def Unb.u {n i : Nat} (a : Unb n ks ks' (i + 1)) : Unb n (kU :: ks) (kU :: ks') i := ⟨fun γ => ((), a.to γ.2), fun ⟨y, r, e, _, q⟩ s z => ⟨y, r, e, trivial, a.ok q s z⟩⟩
def Unb.d {k : Kd} {n i : Nat} (a : Unb n ks ks' (i + 1)) : Unb n (k :: ks) (kU :: ks') i := ⟨fun γ => ((), a.to γ.2), fun ⟨y, r, e, _, q⟩ s z => ⟨y, r, e, trivial, a.ok q s z⟩⟩
def Unb.t {n i : Nat} (a : Unb n ks ks' (i + 1)) : Unb n (kT :: ks) (kT :: ks') i := ⟨fun γ => ((), a.to γ.2), fun {γ σ g g2 H p} ⟨y, r, e, ⟨v, ev, q, eq, hq⟩, z⟩ s f => ⟨y, r, e, ⟨v, ev, q, eq, (s q fun h => by
  rw [h, f] at hq
  cases hq).trans hq⟩, a.ok z s f⟩⟩
def Unb.f {α : Type} [Rp K α] [Flat K α] {n i : Nat} (a : Unb n ks ks' (i + 1)) : Unb n (kF K α :: ks) (kF K α :: ks') i := ⟨fun γ => (γ.1, a.to γ.2), fun {γ σ g g2 H p} ⟨y, r, e, ⟨v, ev, q⟩, z⟩ s f => ⟨y, r, e, ⟨v, ev, Flat.fl (K := K) (α := α) (F := Fz g H) (F' := Fz g2 H) fz_tups q⟩, a.ok z s f⟩⟩
def Unb.o {α : Type} [Rp K α] [Flat K α] {n i : Nat} (a : Unb n ks ks' (i + 1)) : Unb n (kO K α :: ks) (kO K α :: ks') i := ⟨fun γ => (γ.1, a.to γ.2), fun {γ σ g g2 H p} ⟨y, r, e, ⟨q, vs, ev, h1, h2, h3, h4⟩, z⟩ s f => ⟨y, r, e, ⟨q, vs, ev, (s q fun h => by
  rw [h, f] at h1
  cases h1).trans h1, h2, Paired.mapP h3 fun _ _ q => Flat.fl (K := K) (α := α) (F := Fz g H) (F' := Fz g2 H) fz_tups q, h4⟩, a.ok z s f⟩⟩
/-- a value that is known by itself -/
@[reducible] def kK (k : Vk) : Kd := ⟨V × k.T, fun _ y x g H => y = some x.1 ∧ k.rel x.1 x.2 g H, fun l _ ⟨e, h⟩ => ⟨e, k.mono l h⟩⟩
@[reducible] def kQ : Kd := ⟨V, fun _ y x _ _ => y = some x, fun _ _ h => h⟩
def Acc.kk {k : Vk} {n : Nat} (a : Acc ks n (kK k)) : Acc ks n (kV k) := ⟨fun γ => (a.get γ).2, fun R => by
  obtain ⟨y, e, rfl, h⟩ := a.ok R
  exact ⟨_, e, _, rfl, h⟩⟩
def Bor.kk {k : Vk} (a : Bor ks ks') : Bor (kK k :: ks) (kK k :: ks') := ⟨fun γ => (γ.1, a.to γ.2), fun ⟨y, r, e, ⟨ev, h⟩, q⟩ => ⟨y, r, e, ⟨ev, k.mono bg_le h⟩, a.ok q⟩⟩
def Unb.k {k : Vk} {n i : Nat} (a : Unb n ks ks' (i + 1)) : Unb n (kK k :: ks) (kQ :: ks') i := ⟨fun γ => (γ.1.1, a.to γ.2), fun ⟨y, r, e, h, q⟩ s z => ⟨y, r, e, h.1, a.ok q s z⟩⟩
def Unb.q {n i : Nat} (a : Unb n ks ks' (i + 1)) : Unb n (kQ :: ks) (kQ :: ks') i := ⟨fun γ => (γ.1, a.to γ.2), fun ⟨y, r, e, h, q⟩ s z => ⟨y, r, e, h, a.ok q s z⟩⟩
/-- what is not set stays what it is -/
theorem as_keepV {k : Vk} {n : Nat} {t : TS} {w : TupT ksB → We ksB' r kb → Prop} (a : Acc ks n (kV k)) (p : Put ks n (kK k) ksB) (h : AS P ksB ksB' r kb ct t w) (a' : Acc ksB' n kQ) (p' : Put ksB' n (kV k) ks') :
    AS P ks ks' r kb ct t (fun γ E => ∀ v, w (p.put γ (v, a.get γ)) ⟨fun γ' => a'.get γ' = v ∧ E.nx (p'.put γ' (a.get γ)), E.rt, E.bk, E.ct⟩) := by
  refine ⟨fun γ E E' i z v => h.mono _ ⟨fun γ' => a'.get γ' = v ∧ E.nx (p'.put γ' (a.get γ)), E.rt, E.bk, E.ct⟩ ⟨fun γ' => a'.get γ' = v ∧ E'.nx (p'.put γ' (a.get γ)), E'.rt, E'.bk, E'.ct⟩ (We.Imp.mk (fun _ z => ⟨z.1, i.nx _ z.2⟩) i.rt i.bk i.ct) (z v), fun A b0 γ σ g H D hb0 G R hw => ?_⟩
  obtain ⟨y, e, v, rfl, hv⟩ := a.ok R
  have R1 := p.ok (y := some v) (x := (v, a.get γ)) R (Le.refl g H) (fun j _ b o hb ho => ⟨hb, ho⟩) ⟨rfl, hv⟩
  rw [set_self e] at R1
  refine h.run A b0 _ σ g H D hb0 G R1 (h.mono _ ⟨fun γ' => a'.get γ' = v ∧ Wt P A (b0 + ct) g H ks' D.nx (p'.put γ' (a.get γ)), Wr P A (b0 + ct) r D.rt, Wt P A (b0 + ct) g H kb D.bk, Wt P A (b0 + ct) g H kb D.ct⟩ _ (We.Imp.mk (fun γ' z σ' g' H' G' l' R' => ?_) (fun _ q => q) (fun _ q => q) (fun _ q => q)) (hw v))
  obtain ⟨eq, z⟩ := z
  obtain ⟨y', e', h'⟩ := a'.ok R'
  have h' : y' = some (a'.get γ') := h'
  subst h'
  rw [eq] at e'
  have R2 := p'.ok (y := some v) (x := a.get γ) R' (Le.refl g' H') (fun j _ b o hb ho => ⟨hb, ho⟩) ⟨v, rfl, k.mono l' hv⟩
  rw [set_self e'] at R2
  exact z σ' g' H' G' l' R2
theorem as_borS {α : Type} [Rp K α] [Flat K α] {n : Nat} {t : TS} {w : TupT ksB → We ksB' r kb → Prop} (a : Acc ks n (kO K α)) (p : Put ks n (kFA K α) ksB) (h : AS P ksB ksB' r kb ct t w) (a' : Acc ksB' n (kFA K α)) (u : Unb n ksB' ks1 0) (p' : Put ks1 n (kO K α) ks') :
    AS P ks ks' r kb ct t (fun γ E => ∀ q, w (p.put γ (q, a.get γ)) ⟨fun γ' => (a'.get γ').1 = q ∧ E.nx (p'.put (u.to γ') (a'.get γ').2), E.rt, E.bk, E.ct⟩) := by
  refine ⟨fun γ E E' i z q => h.mono _ ⟨fun γ' => (a'.get γ').1 = q ∧ E.nx (p'.put (u.to γ') (a'.get γ').2), E.rt, E.bk, E.ct⟩ ⟨fun γ' => (a'.get γ').1 = q ∧ E'.nx (p'.put (u.to γ') (a'.get γ').2), E'.rt, E'.bk, E'.ct⟩ (We.Imp.mk (fun _ z => ⟨z.1, i.nx _ z.2⟩) i.rt i.bk i.ct) (z q), fun A b0 γ σ g H D hb0 G R hw => ?_⟩
  obtain ⟨y, e, b, vs, rfl, h1, h2, h3, hl⟩ := a.ok R
  have h0 := G.noown0 h1
  have l1 : Le g H (tagAt g b .frz) H := le_tag (by rw [h1]; simp) (by rw [h1]; simp)
  have G1 : Good P A b0 (tagAt g b .frz) H := G.retag h0 h2 (by rw [h1]; simp) fun z => nomatch z
  have fzb : Fz (tagAt g b .frz) H b = some (.lst vs) := fz_some.mpr ⟨h2, .inr (by rw [tagAt_same]; rfl)⟩
  have R1 := p.ok (y := some (.ref b)) (x := (b, a.get γ)) R l1 (fun j hj c o hc ho => ⟨(tagAt_ne fun z => by
    rw [z, h1] at hc
    exact hj (Tg.own.inj hc).symm).trans hc, ho⟩) ⟨vs, rfl, fzb, Paired.rp_mono l1.fz h3, hl⟩
  rw [set_self e] at R1
  refine h.run A b0 _ σ _ H D hb0 G1 R1 (h.mono _ ⟨fun γ' => (a'.get γ').1 = b ∧ Wt P A (b0 + ct) g H ks' D.nx (p'.put (u.to γ') (a'.get γ').2), Wr P A (b0 + ct) r D.rt, Wt P A (b0 + ct) g H kb D.bk, Wt P A (b0 + ct) g H kb D.ct⟩ _ (We.Imp.mk (fun γ' z σ' g' H' G' l' R' => ?_) (fun _ q => q) (fun γ' z σ' g' H' G' l' R' => z σ' g' H' G' (l1.trans l') R') (fun γ' z σ' g' H' G' l' R' => z σ' g' H' G' (l1.trans l') R')) (hw b))
  obtain ⟨eq, z⟩ := z
  obtain ⟨hb', hf⟩ := fz_some.mp (l'.fz _ _ fzb)
  have fb : g' b = .frz := by
    rcases hf with hf | hf
    · cases hf
    · exact isFrz_iff.mp hf
  obtain ⟨y', e', vs', rfl, k1, k2, k3⟩ := a'.ok R'
  rw [eq] at k1 e'
  rw [l'.fz _ _ fzb] at k1
  obtain rfl : vs = vs' := by cases k1; rfl
  have l2 : Le g H (tagAt g' b (.own n)) H' := by
    have l3 := l1.trans l'
    refine ⟨fun c o hc => ?_, fun c hc => ?_⟩
    · obtain ⟨q1, q2⟩ := fz_some.mp (l3.fz _ _ hc)
      refine fz_some.mpr ⟨q1, ?_⟩
      by_cases z : c = b
      · subst z
        rw [hb'] at q1
        cases q1
        obtain ⟨_, q3⟩ := fz_some.mp hc
        rcases q3 with q3 | q3
        · cases q3
        · rw [isFrz_iff.mp q3] at h1
          cases h1
      · rw [tagAt_ne z]
        exact q2
    · have q := l3.tk c hc
      rw [tagAt_ne]
      · exact q
      · intro z
        subst z
        rw [h1] at hc
        cases hc
  have G2 : Good P A (b0 + ct) (tagAt g' b (.own n)) H' := G'.retag h0 hb' (by rw [fb]; simp) fun z => nomatch z
  have R2 := u.ok (g2 := tagAt g' b (.own n)) R' (fun c hc => tagAt_ne hc) fb
  have R3 := p'.ok (y := some (.ref b)) (x := (a'.get γ').2) R2 (Le.refl _ H') (fun j _ c o hc ho => ⟨hc, ho⟩) ⟨b, vs, rfl, by rw [tagAt_same, Nat.zero_add], hb', Paired.mapP k2 fun _ _ q => Flat.fl (K := K) (α := α) (F := Fz g' H') (F' := Fz (tagAt g' b (.own n)) H') fz_tups q, k3⟩
  rw [set_self e'] at R3
  exact z σ' _ H' G2 l2 R3
end DL
/-! DL: two lists changed and handed back. -/
namespace DL
open PySem PySem.Spec PyProof.Rows L2
variable {P : TokP} {K : PySem.W.Frag} {ks ks' ks1 ks2 kb kp : List Kd} {r : Rk} {ta tb te : TE} {ca cb cc ce ct : Nat}
instance {te to ti : TE} {t : TSet} : Stays (tAsg te (gSub to ti t)) := ⟨fun D σ H h => by
  have e : (fun H3 => σ = σ → D.nx σ H3) = fun H3 => D.nx σ H3 := by
    funext H3
    simp
  show te σ H fun x H1 => to σ H1 fun o H2 => ti σ H2 fun i H3 => t o i x H3 fun H4 => D.nx σ H4
  rw [← e]
  exact h⟩
theorem erase_paired {α : Type} {F : V → α → Prop} : ∀ {vs : List V} {xs : List α} (j : Nat), Paired F vs xs → Paired F (vs.eraseIdx j) (xs.eraseIdx j)
  | _, _, _, .nil => .nil
  | _, _, 0, .cons _ r => r
  | _, _, j + 1, .cons a r => .cons a (erase_paired j r)
/-- x.remove(k) -/
theorem as_remove {n : Nat} {w : TupT ks → (Int → Prop) → Prop} (a : Acc ks n (kO K Int)) (p : Put ks n (kO K Int) ks) (he : AE P ks (rF K Int) ce te w) :
    AS P ks ks r kb ce (tDrop (tBM K "list" rRemI (tVar n) (tCons te tNil))) (fun γ E => w γ fun k => ∃ j : Nat, (a.get γ)[j]? = some k ∧ (∀ m : Nat, m < j → (a.get γ)[m]? ≠ some k) ∧ E.nx (p.put γ ((a.get γ).eraseIdx j))) := by
  refine ⟨fun γ E E' i z => he.mono γ _ _ (fun k ⟨j, z1, z2, z3⟩ => ⟨j, z1, z2, i.nx _ z3⟩) z, fun A b0 γ σ g H D hb0 G R hw => ?_⟩
  obtain ⟨y, e, b, vs, rfl, h1, h2, h3, hl⟩ := a.ok R
  refine ⟨_, e, .inl ⟨rfl, vs, .inl (.inl h2)⟩, ?_⟩
  refine he.run A b0 γ σ g H _ (by omega) G R (he.mono γ _ _ (fun k ⟨j, z1, z2, z3⟩ v g' H' G' e' r' => ?_) hw)
  obtain ⟨q1, q2⟩ := (e'.lx G).ow _ b _ h1 h2
  have h3' := Paired.rp_mono (e'.le G).fz h3
  obtain ⟨G2, l2, R2⟩ := own_write p G' (R.ext G e') e q1 q2 (erase_paired j h3') (Nat.le_trans (List.length_eraseIdx_le _ _) hl)
  have ev := paired_int h3'
  have er := paired_int (erase_paired j h3')
  rw [er] at G2 l2 R2
  rw [ev] at q2
  exact ⟨b, a.get γ, k, j, rfl, by rw [show v = V.int k from r'], q2, z1, z2, z3 σ g' _ (G2.up (by omega)) ((e'.le G).trans l2) R2⟩
/-- a result, two lists handed back -/
@[reducible] def rB2 (r : Rk) (K : PySem.W.Frag) (α β : Type) [Rp K α] [Rp K β] : Rk := ⟨r.T × (Addr × List α) × (Addr × List β), fun Hs v x g H => r.rel Hs v x.1 g H ∧ x.2.1.1 ≠ x.2.2.1 ∧ NewL K Hs x.2.1.1 x.2.1.2 g H ∧ NewL K Hs x.2.2.1 x.2.2.2 g H,
  fun h ⟨q, ne, h1, h2⟩ => ⟨r.start h q, ne, h1.start h, h2.start h⟩, fun h1 h2 h3 ⟨q, ne, q1, q2⟩ => ⟨r.mg h1 h2 h3 q, ne, q1.mg h1 h2 h3, q2.mg h1 h2 h3⟩⟩
section
variable {α β : Type} [Rp K α] [Rp K β]
theorem ends_B2 {A : Act} {b0 i j : Nat} {γ : TupT ks} {σ : Sl} {g : Gh} {H : Hp} {vk : Vk} {v : V} {x : vk.T} (a : Acc ks i (kA K α)) (b : Acc ks j (kA K β)) (hij : i ≠ j) (G : Good P A b0 g H) (R : RelL ks 0 γ σ g H) (hv : vk.rel v x g H) :
    ∃ g', Good P A b0 g' H ∧ (rB2 (rV vk) K α β).rel A.H0 v (x, a.get γ, b.get γ) g' H := by
  obtain ⟨y, e, vs, rfl, h1, h2, h3, hl⟩ := a.ok R
  obtain ⟨y', e', ws, rfl, k1, k2, k3, kl⟩ := b.ok R
  have ne : (a.get γ).1 ≠ (b.get γ).1 := fun z => by
    rw [z, k1] at h1
    exact hij (by have := Tg.own.inj h1; omega)
  have l2 : Le g H (tagAll g [(a.get γ).1, (b.get γ).1] .oth) H := le_tagAll fun c hc => by
    rcases List.mem_cons.mp hc with rfl | hc
    · rw [h1]; simp
    · rw [List.mem_singleton.mp hc, k1]; simp
  refine ⟨_, G.retagAll (t := .oth) (fun c hc => ?_) (fun z => nomatch z), vk.mono l2 hv, ne, ⟨vs, G.noown0 h1, tagAll_in List.mem_cons_self, h2, Paired.rp_mono l2.fz h3, hl⟩, ⟨ws, G.noown0 k1, tagAll_in (List.mem_cons_of_mem _ List.mem_cons_self), k2, Paired.rp_mono l2.fz k3, kl⟩⟩
  rcases List.mem_cons.mp hc with rfl | hc
  · exact ⟨G.noown0 h1, _, h2⟩
  · rw [List.mem_singleton.mp hc]
    exact ⟨G.noown0 k1, _, k2⟩
/-- a def whose end hands two lists back -/
def wDefB2 {n i j : Nat} (ini : IniM kp ks n) (a : Acc ks' i (kA K α)) (b : Acc ks' j (kA K β)) (w : TupT ks → We ks' (rB2 (rF K Unit) K α β) [] → Prop) : TupT kp → ((Unit × (Addr × List α) × (Addr × List β)) → Prop) → Prop :=
  fun γ Q => w (ini.to γ) ⟨fun γ' => Q ((), a.get γ', b.get γ'), Q, fun _ => False, fun _ => False⟩
theorem pm_defB2 {n i j : Nat} {ini : IniM kp ks n} {a : Acc ks' i (kA K α)} {b : Acc ks' j (kA K β)} {t : TS} {w : TupT ks → We ks' (rB2 (rF K Unit) K α β) [] → Prop} (h : AS P ks ks' (rB2 (rF K Unit) K α β) [] ct t w) : PmM P kp (rB2 (rF K Unit) K α β) (wDefB2 ini a b w) := ⟨fun γ Q Q' q z => by
  refine h.mono _ _ _ ?_ z
  exact ⟨fun _ h => q _ h, q, fun _ h => h, fun _ h => h⟩⟩
theorem sp_defB2 {n i j : Nat} {ini : IniM kp ks n} {a : Acc ks' i (kA K α)} {b : Acc ks' j (kA K β)} {t : TS} {w : TupT ks → We ks' (rB2 (rF K Unit) K α β) [] → Prop} (h : AS P ks ks' (rB2 (rF K Unit) K α β) [] ct t w) (hij : i ≠ j) {vs : List V} {H : Hp} {Q : VK} {E : XK} {N : List Str} (hN : N.length = kp.length + n)
    (q : SpM P kp (rB2 (rF K Unit) K α β) ct (wDefB2 ini a b w) vs H Q E) : t { nx := fun _ H' => Q .non H', rt := Q } (L2.start N vs) H := by
  obtain ⟨A, b0, g, γ, hb0, G, rv, z⟩ := q
  have e : L2.start N vs = vs.map some ++ List.replicate n none := by
    unfold L2.start
    have l := RelL.length rv
    rw [List.length_map] at l
    rw [l, hN, Nat.add_sub_cancel_left]
  rw [e]
  refine h.run A b0 _ _ g H _ hb0 G (ini.ok rv) (h.mono _ ⟨fun γ' => Wr P A (b0 + ct) (rB2 (rF K Unit) K α β) Q ((), a.get γ', b.get γ'), Wr P A (b0 + ct) (rB2 (rF K Unit) K α β) Q, fun _ => False, fun _ => False⟩ _ (We.Imp.mk (fun γ' z σ' g' H' G' l' R' => ?_) (fun _ h => h) (fun _ h => h.elim) (fun _ h => h.elim)) z)
  obtain ⟨g2, G2, q⟩ := ends_B2 (vk := vF K Unit) (v := .non) (x := ()) a b hij G' R' rfl
  exact z .non g2 H' G2 q
/-- both are owned again -/
theorem axe_back2 {n m : Nat} {ks2 ks3 : List Kd} {vk : Vk} {w : TupT ks → ((rB2 (rV vk) K α β).T → TupT ks' → Prop) → Prop} (h : AXE P ks ks' (rB2 (rV vk) K α β) ce te w) (a : Acc ks' n kP) (b : Acc ks' m kP) (p : Put ks' n (kA K α) ks2) (b' : Acc ks2 m kP) (q : Put ks2 m (kA K β) ks3)
    (hb : ∀ γ x, b'.get (p.put γ x) = b.get γ := by intros; rfl) :
    AXE P ks ks3 (rV vk) ce te (fun γ Q => w γ fun x γ' => (x.2.1.1 = a.get γ' ∧ x.2.2.1 = b.get γ') ∧ Q x.1 (q.put (p.put γ' x.2.1) x.2.2)) := by
  refine ⟨fun γ Q Q' q z => h.mono γ _ _ (fun x y z => ⟨z.1, q _ _ z.2⟩) z, fun A b0 γ σ g H Q hb0 G R hw => ?_⟩
  refine h.run A b0 γ σ g H _ hb0 G R (h.mono γ _ _ (fun x γ' ⟨⟨ex, ey⟩, zx⟩ v g' H' G' l' R' r' => ?_) hw)
  obtain ⟨hv, ne, ⟨vs, h0, h1, h2, h3, hl⟩, ⟨ws, k0, k1, k2, k3, kl⟩⟩ := r'
  have l1 : Le g' H' (tagAt g' x.2.1.1 (.own n)) H' := le_tag (by rw [h1]; simp) (by rw [h1]; simp)
  have b1 : tagAt g' x.2.1.1 (.own n) x.2.2.1 = .oth := by rw [tagAt_ne (Ne.symm ne)]; exact k1
  have l2 : Le (tagAt g' x.2.1.1 (.own n)) H' (tagAt (tagAt g' x.2.1.1 (.own n)) x.2.2.1 (.own m)) H' := le_tag (by rw [b1]; simp) (by rw [b1]; simp)
  obtain ⟨y, fy, hy⟩ := a.ok R'
  have hy : y = some (.ref (a.get γ')) := hy
  subst hy
  have R1 := p.ok (y := some (.ref (a.get γ'))) (x := x.2.1) R' l1 (fun j _ c o hc ho => ⟨(tagAt_ne fun z => by
    rw [z, h1] at hc
    cases hc).trans hc, ho⟩) ⟨vs, by rw [ex], by rw [tagAt_same, Nat.zero_add], h2, Paired.rp_mono l1.fz h3, hl⟩
  rw [set_self fy] at R1
  obtain ⟨u, fu, hu⟩ := b'.ok R1
  have hu : u = some (.ref (b'.get (p.put γ' x.2.1))) := hu
  subst hu
  have R2 := q.ok (y := some (.ref (b'.get (p.put γ' x.2.1)))) (x := x.2.2) R1 l2 (fun j _ c o hc ho => ⟨(tagAt_ne fun z => by
    rw [z, b1] at hc
    cases hc).trans hc, ho⟩) ⟨ws, by rw [hb, ey], by rw [tagAt_same, Nat.zero_add], k2, Paired.rp_mono (l1.trans l2).fz k3, kl⟩
  rw [set_self fu] at R2
  have G1 := G'.retag (t := .own n) h0 h2 (by rw [h1]; simp) fun z => nomatch z
  have G2 := G1.retag (t := .own m) k0 k2 (by rw [b1]; simp) fun z => nomatch z
  exact zx v _ H' G2 ((l'.trans l1).trans l2) R2 (vk.mono (l1.trans l2) hv)
end
end DL
/-! DL: objects of own classes, their fields. -/
namespace DL
open PySem PySem.Spec PyProof.Rows L2
variable {P : TokP} {K : PySem.W.Frag} {ks ks' ks1 ks2 kb kp : List Kd} {r : Rk} {ta tb te : TE} {ca cb cc ce ct cw : Nat} {f : Nat → Option Nat}
/-! ### attributes as targets -/
def gFld (K : PySem.W.Frag) (to : TE) (f : Str) : TG := fun v σ H Q => to σ H fun x H1 => ∃ a C dx fs, x = .ref a ∧ H1 a = some (.ins C dx fs) ∧ Cls K C ∧ NoAttr K C f ∧ fs.length < 1000 ∧ Q σ (upd H1 a (.ins C dx (putF f v fs)))
theorem pg_fld {X : Cx} {o : Expr} {to : TE} {f : Str} {pos : Pos} (ho : PE X o to) : PG X (.Attribute o f pos) (gFld X.K to f) := by
  refine ⟨fun pins s σ H v u Q I rv h => ?_⟩
  rw [assign_Attribute]
  refine wpAny_bind (wpAny_holding (thn (ho.run pins s σ H _ I h) fun ov s1 ⟨x, H1, I1, rx, a, C, dx, fs, ex, ea, c, n, l, q⟩ => ?_))
  subst ex
  obtain rfl : ov = Value.ref a := rx
  refine wpAny_bind (wpAny_standAt (wpAny_bind (wpAny_holding (setattr_ok I1 ea c n l rv fun s2 I2 => ?_))))
  exact wpAny_release ⟨σ, _, I2, q⟩
/-! ### fields -/
@[reducible] def TupFs : List (Str × Vk) → Type
  | [] => Unit
  | f :: fs => f.2.T × TupFs fs
def RelFs : (fs : List (Str × Vk)) → TupFs fs → List (Str × V) → Gh → Hp → Prop
  | [], _, l, _, _ => l = []
  | f :: fs, x, l, g, H => ∃ v r, l = (f.1, v) :: r ∧ f.2.rel v x.1 g H ∧ RelFs fs x.2 r g H
theorem RelFs.mono {g g' : Gh} {H H' : Hp} (l : Le g H g' H') : ∀ {fs : List (Str × Vk)} {x : TupFs fs} {vs : List (Str × V)}, RelFs fs x vs g H → RelFs fs x vs g' H'
  | [], _, _, h => h
  | _ :: _, _, _, ⟨v, r, e, h, q⟩ => ⟨v, r, e, Vk.mono _ l h, RelFs.mono l q⟩
theorem RelFs.len {g : Gh} {H : Hp} : ∀ {fs : List (Str × Vk)} {x : TupFs fs} {vs : List (Str × V)}, RelFs fs x vs g H → vs.length = fs.length
  | [], _, _, h => by
    have h : _ = [] := h
    rw [h]
    rfl
  | _ :: _, _, _, ⟨v, r, e, h, q⟩ => by
    rw [e, List.length_cons, List.length_cons, RelFs.len q]
theorem RelFs.no {g : Gh} {H : Hp} {m : Str} : ∀ {fs : List (Str × Vk)} {x : TupFs fs} {vs : List (Str × V)}, RelFs fs x vs g H → (fs.map (·.1)).all (fun n => !(m == n)) = true → vs.lookup m = none
  | [], _, _, h, _ => by
    have h : _ = [] := h
    rw [h]
    rfl
  | f :: fs, x, _, ⟨v, r, e, h, q⟩, hm => by
    rw [List.map_cons, List.all_cons, Bool.and_eq_true] at hm
    rw [e, List.lookup_cons]
    have : (m == f.1) = false := by simpa using hm.1
    rw [this]
    exact RelFs.no q hm.2
structure FA (fs : List (Str × Vk)) (f : Str) (k : Vk) where
  get : TupFs fs → k.T
  ok : ∀ {x l g H}, RelFs fs x l g H → ∃ v, l.lookup f = some v ∧ k.rel v (get x) g H
def FA.z {f : Str} {k : Vk} {fs : List (Str × Vk)} : FA ((f, k) :: fs) f k := ⟨fun x => x.1, fun ⟨v, r, e, h, _⟩ => ⟨v, by rw [e, List.lookup_cons]; simp, h⟩⟩
def FA.s {f n : Str} {k k' : Vk} {fs : List (Str × Vk)} (a : FA fs f k) (h : (f == n) = false := by decide) : FA ((n, k') :: fs) f k := ⟨fun x => a.get x.2, fun ⟨v, r, e, _, q⟩ => by
  obtain ⟨u, e1, h1⟩ := a.ok q
  exact ⟨u, by rw [e, List.lookup_cons, h]; exact e1, h1⟩⟩
structure FP (fs : List (Str × Vk)) (f : Str) (k : Vk) (fs' : List (Str × Vk)) where
  put : TupFs fs → k.T → TupFs fs'
  ok : ∀ {x y v l g H}, RelFs fs x l g H → k.rel v y g H → RelFs fs' (put x y) (putF f v l) g H
def FP.z {f : Str} {k k' : Vk} {fs : List (Str × Vk)} : FP ((f, k') :: fs) f k ((f, k) :: fs) := ⟨fun x y => (y, x.2), fun {x y v l g H} ⟨v0, r, e, _, q⟩ h => ⟨v, r, by
  rw [e]
  show (if f = f then _ else _) = _
  rw [if_pos rfl], h, q⟩⟩
def FP.s {f n : Str} {k k' : Vk} {fs fs' : List (Str × Vk)} (a : FP fs f k fs') (h : ¬ n = f := by decide) : FP ((n, k') :: fs) f k ((n, k') :: fs') := ⟨fun x y => (x.1, a.put x.2 y), fun {x y v l g H} ⟨v0, r, e, h0, q⟩ hv => ⟨v0, putF f v r, by
  rw [e]
  show (if n = f then _ else _) = _
  rw [if_neg h], h0, a.ok q hv⟩⟩
def FP.n {f : Str} {k : Vk} : FP [] f k [(f, k)] := ⟨fun _ y => (y, ()), fun {x y v l g H} e h => ⟨v, [], by
  have e : l = [] := e
  rw [e]
  rfl, h, rfl⟩⟩
/-! ### an object -/
def clsAddr (K : PySem.W.Frag) (nm : Str) : Addr := match PySem.W.nsIn K mainGlobals nm with
  | some (some (.ref a)) => a
  | _ => 0
theorem clsAddr_is {K : PySem.W.Frag} {nm : Str} {a : Addr} (h : PySem.W.nsIn K mainGlobals nm = some (some (.ref a))) : clsAddr K nm = a := by
  unfold clsAddr
  rw [h]
structure Jc where
  nm : Str
  ns : List Str
structure JF (K : PySem.W.Frag) (J : Jc) : Prop where
  cl : Cls K (clsAddr K J.nm)
  na : ∀ f ∈ J.ns, NoAttr K (clsAddr K J.nm) f
structure JAt (K : PySem.W.Frag) (J : Jc) (fs : List (Str × Vk)) (t : Tg) (p : Addr) (x : TupFs fs) (dx : Addr) (l : List (Str × V)) (g : Gh) (H : Hp) : Prop where
  ne : p ≠ dx
  gp : g p = t
  gd : g dx = t
  hp : H p = some (.ins (clsAddr K J.nm) dx l)
  hd : H dx = some (.own p)
  rl : RelFs fs x l g H
  fa : JF K J
theorem JAt.tag {J : Jc} {fs : List (Str × Vk)} {t t' : Tg} {p dx : Addr} {x : TupFs fs} {l : List (Str × V)} {g g' : Gh} {H : Hp} (h : JAt K J fs t p x dx l g H) (le : Le g H g' H) (h1 : g' p = t') (h2 : g' dx = t') : JAt K J fs t' p x dx l g' H := ⟨h.ne, h1, h2, h.hp, h.hd, h.rl.mono le, h.fa⟩
@[reducible] def kJ (K : PySem.W.Frag) (J : Jc) (fs : List (Str × Vk)) : Kd := ⟨Addr × TupFs fs, fun i y x g H => y = some (.ref x.1) ∧ ∃ dx l, JAt K J fs (.own i) x.1 x.2 dx l g H,
  fun le o ⟨e, dx, l, h⟩ => ⟨e, dx, l, h.ne, (o _ _ h.gp h.hp).1, (o _ _ h.gd h.hd).1, (o _ _ h.gp h.hp).2, (o _ _ h.gd h.hd).2, h.rl.mono le, h.fa⟩⟩
def JN (K : PySem.W.Frag) (J : Jc) (fs : List (Str × Vk)) (Hs : Hp) (p : Addr) (x : TupFs fs) (g : Gh) (H : Hp) : Prop := ∃ dx l, JAt K J fs .oth p x dx l g H ∧ Hs p = none ∧ Hs dx = none
theorem JN.start {J : Jc} {fs : List (Str × Vk)} {Hs Hs' : Hp} {p : Addr} {x : TupFs fs} {g : Gh} {H : Hp} (h : ∀ a, Hs' a = none → Hs a = none) (q : JN K J fs Hs' p x g H) : JN K J fs Hs p x g H := by
  obtain ⟨dx, l, h0, h1, h2⟩ := q
  exact ⟨dx, l, h0, h _ h1, h _ h2⟩
theorem JN.mg {J : Jc} {fs : List (Str × Vk)} {Hs : Hp} {p : Addr} {x : TupFs fs} {g g' : Gh} {H : Hp} (h1 : ∀ a, g a = .frz → g' a = .frz) (h2 : ∀ a, g a = .tok → g' a = .tok) (h3 : ∀ a, Hs a = none → g a = .oth → g' a = .oth) (q : JN K J fs Hs p x g H) : JN K J fs Hs p x g' H := by
  obtain ⟨dx, l, h, q1, q2⟩ := q
  exact ⟨dx, l, h.tag (le_mg h1 h2) (h3 _ q1 h.gp) (h3 _ q2 h.gd), q1, q2⟩
/-- a new object -/
@[reducible] def rJ (K : PySem.W.Frag) (J : Jc) (fs : List (Str × Vk)) : Rk := ⟨Addr × TupFs fs, fun Hs v x g H => v = .ref x.1 ∧ JN K J fs Hs x.1 x.2 g H, fun h ⟨e, q⟩ => ⟨e, q.start h⟩, fun h1 h2 h3 ⟨e, q⟩ => ⟨e, q.mg h1 h2 h3⟩⟩
/-- a result, an object handed back -/
@[reducible] def rBJ (r : Rk) (K : PySem.W.Frag) (J : Jc) (fs : List (Str × Vk)) : Rk := ⟨r.T × (Addr × TupFs fs), fun Hs v x g H => r.rel Hs v x.1 g H ∧ JN K J fs Hs x.2.1 x.2.2 g H, fun h ⟨e, q⟩ => ⟨r.start h e, q.start h⟩, fun h1 h2 h3 ⟨e, q⟩ => ⟨r.mg h1 h2 h3 e, q.mg h1 h2 h3⟩⟩
section
variable {J : Jc} {fs fs' : List (Str × Vk)} {k k2 : Vk} {fd fd2 : Str}
/-- x.f -/
theorem ae_fld {n : Nat} (a : Acc ks n (kJ K J fs)) (fa : FA fs fd k) (hf : fd ∈ J.ns) : AE P ks (rV k) 0 (tFld K (tVar n) fd) (fun γ Q => Q (fa.get (a.get γ).2)) := by
  refine ⟨fun _ _ _ q z => q _ z, fun A b0 γ σ g H Q hb0 G R hw => ?_⟩
  obtain ⟨y, e, rfl, dx, l, h⟩ := a.ok R
  obtain ⟨v, lv, hv⟩ := fa.ok h.rl
  exact ⟨_, e, _, _, _, _, v, rfl, h.hp, h.fa.cl, h.fa.na _ hf, lv, hw v g H (G.up (by omega)) (Ext.refl g H) hv⟩
theorem own_writeJ {A : Act} {g : Gh} {H : Hp} {n b0 : Nat} {γ : TupT ks} {σ : Sl} {p dx : Addr} {x : TupFs fs} {x' : TupFs fs'} {l l' : List (Str × V)} (pt : Put ks n (kJ K J fs') ks') (G : Good P A b0 g H) (R : RelL ks 0 γ σ g H) (e : σ[n]? = some (some (.ref p))) (h : JAt K J fs (.own (0 + n)) p x dx l g H) (hl : RelFs fs' x' l' g H) :
    Good P A b0 g (upd H p (.ins (clsAddr K J.nm) dx l')) ∧ Le g H g (upd H p (.ins (clsAddr K J.nm) dx l')) ∧ RelL ks' 0 (pt.put γ (p, x')) σ g (upd H p (.ins (clsAddr K J.nm) dx l')) := by
  have l2 := G.write_le (u := .ins (clsAddr K J.nm) dx l') h.gp h.hp rfl
  refine ⟨G.write h.gp h.hp, l2, ?_⟩
  have R1 := pt.ok (y := some (.ref p)) (x := (p, x')) R l2 (fun j hj c o hc ho => ⟨hc, by
    rw [upd_ne]
    · exact ho
    · intro z
      subst z
      rw [h.gp] at hc
      exact hj (Tg.own.inj hc).symm⟩) ⟨rfl, dx, l', h.ne, h.gp, h.gd, upd_same, by rw [upd_ne (Ne.symm h.ne)]; exact h.hd, hl.mono l2, h.fa⟩
  rwa [set_self e] at R1
/-- x.f = e -/
theorem as_fld {n : Nat} {w : TupT ks → (k.T → Prop) → Prop} (a : Acc ks n (kJ K J fs)) (p : Put ks n (kJ K J fs') ks') (fp : FP fs fd k fs') (he : AE P ks (rV k) ce te w) (hf : fd ∈ J.ns) (hl : fs.length < 1000 := by decide) :
    AS P ks ks' r kb ce (sFld K (tVar n) te fd) (fun γ E => w γ fun y => E.nx (p.put γ ((a.get γ).1, fp.put (a.get γ).2 y))) := by
  refine ⟨fun γ E E' i z => he.mono γ _ _ (fun y zy => i.nx _ zy) z, fun A b0 γ σ g H D hb0 G R hw => ?_⟩
  refine he.run A b0 γ σ g H _ hb0 G R (he.mono γ _ _ (fun y zy v g' H' G' e' r' => ?_) hw)
  have R' := R.ext G e'
  obtain ⟨y1, e1, rfl, dx, l, h⟩ := a.ok R'
  obtain ⟨G2, l2, R2⟩ := own_writeJ p G' R' e1 h (fp.ok h.rl r')
  exact ⟨_, e1, _, _, _, l, rfl, h.hp, h.fa.cl, h.fa.na _ hf, by rw [h.rl.len]; exact hl, zy σ g' _ G2 ((e'.le G).trans l2) R2⟩
/-- x.f, x.g = d, e -/
theorem as_fld2 {n : Nat} {fs2 : List (Str × Vk)} {w : TupT ks → (k.T → Prop) → Prop} {w2 : TupT ks → (k2.T → Prop) → Prop} (a : Acc ks n (kJ K J fs)) (p : Put ks n (kJ K J fs2) ks') (fp : FP fs fd k fs') (fp2 : FP fs' fd2 k2 fs2) (he : AE P ks (rV k) ce te w) (he2 : AE P ks (rV k2) ct ta w2) (hf : fd ∈ J.ns) (hf2 : fd2 ∈ J.ns)
    (hl : fs.length < 1000 := by decide) (hl2 : fs'.length < 1000 := by decide) :
    AS P ks ks' r kb (ce + ct) (tAsg (tTup (tCons te (tCons ta tNil))) (gTup K 2 (gCons (gFld K (tVar n) fd) (gCons (gFld K (tVar n) fd2) gNil)))) (fun γ E => w γ fun y => w2 γ fun z => E.nx (p.put γ ((a.get γ).1, fp2.put (fp.put (a.get γ).2 y) z))) := by
  refine ⟨fun γ E E' i z => he.mono γ _ _ (fun y zy => he2.mono γ _ _ (fun u zu => i.nx _ zu) zy) z, fun A b0 γ σ g H D hb0 G R hw => ?_⟩
  refine he.run A b0 γ σ g H _ (by omega) G R (he.mono γ _ _ (fun y zy v g1 H1 G1 e1 r1 => ?_) hw)
  refine he2.run A _ γ σ g1 H1 _ (by omega) G1 (R.ext G e1) (he2.mono γ _ _ (fun z zz v2 g2 H2 G2 e2 r2 => ?_) zy)
  refine ⟨by show 2 ≤ sizeLine; decide, fun t ht => ?_⟩
  obtain ⟨G3, e3⟩ := G2.new0 (o := .tup [v, v2]) ht
  have e03 := (e1.trans G1 e2).trans G2 e3
  have R' := R.ext G e03
  have r1' := k.mono ((e2.trans G2 e3).le G1) r1
  have r2' := k2.mono (e3.le G2) r2
  obtain ⟨y1, f1, rfl, dx, l, h⟩ := a.ok R'
  have ia := own_writeJ p G3 R' f1 h (fp2.ok (fp.ok h.rl r1') r2')
  have nt : t ≠ (a.get γ).1 := fun q => by
    have z := h.hp
    rw [← q, upd_same] at z
    cases z
  refine ⟨t, [v, v2], rfl, .inl (.inl upd_same), rfl, v, [v2], rfl, _, f1, _, _, dx, l, rfl, h.hp, h.fa.cl, h.fa.na _ hf, by rw [h.rl.len]; exact hl, v2, [], rfl, _, f1, _, _, dx, _, rfl, upd_same, h.fa.cl, h.fa.na _ hf2, by rw [(fp.ok h.rl r1').len]; exact hl2, rfl, ?_⟩
  rw [show ∀ (X : Hp) (q : Addr) (o u : HO), upd (upd X q o) q u = upd X q u from fun X q o u => by
    funext b
    by_cases z : b = q
    · rw [z, upd_same, upd_same]
    · rw [upd_ne z, upd_ne z, upd_ne z]]
  exact zz σ g2 _ (ia.1.up (by omega)) ((e03.le G).trans ia.2.1) ia.2.2
/-! ### calls -/
def Fgt.j {i : Nat} (a : Fgt f ks ks' (i + 1)) : Fgt f (kJ K J fs :: ks) (kP :: ks') i := ⟨fun γ => (γ.1.1, a.to γ.2), fun ⟨y, r, e, ⟨ev, _⟩, z⟩ l o => ⟨y, r, e, ev, a.ok z l o⟩⟩
def Fgt.q {i : Nat} (a : Fgt f ks ks' (i + 1)) : Fgt f (kP :: ks) (kP :: ks') i := ⟨fun γ => (γ.1, a.to γ.2), fun ⟨y, r, e, ev, z⟩ l o => ⟨y, r, e, ev, a.ok z l o⟩⟩
theorem axe_meth {n : Nat} {m : Str} {t : TA} {w : TupT (kJ K J fs :: kp) → (r.T → Prop) → Prop} {wt : TupT ks → (TupT kp → Prop) → Prop} (wm : PmM P (kJ K J fs :: kp) r w) (a : Acc ks n (kJ K J fs)) (hf : f n = some 0) (ha : AM P ks kp f 1 ct t wt) (k : Fgt f ks ks' 0) (hm : (fs.map (·.1)).all (fun n => !(m == n)) = true := by decide) :
    AXE P ks ks' r (ct + cw) (tMeth (clsAddr K J.nm) m (SpM P (kJ K J fs :: kp) r cw w) [] E0 (tVar n) t) (fun γ Q => wt γ fun xs => w (a.get γ, xs) fun x => Q x (k.to γ)) := by
  refine ⟨fun γ Q Q' q z => ha.mono γ _ _ (fun b zb => wm.mono _ _ _ (fun x => q x _) zb) z, fun A b0 γ σ g H Q hb0 G R hw => ?_⟩
  obtain ⟨y, e, rfl, dx, l, h⟩ := a.ok R
  refine ⟨_, e, _, dx, l, rfl, h.hp, h.rl.no hm, ?_⟩
  refine ha.run A b0 γ σ g H _ (by omega) G R (ha.mono γ _ _ (fun xs zx vs g1 H1 G1 e1 r1 => ?_) hw)
  rw [List.append_nil]
  have R1 := R.ext G e1
  obtain ⟨y1, f1, h1, dx1, l1, j1⟩ := a.ok R1
  rw [e] at f1
  cases f1
  have gp := gc_own (f := f) (H := H1) j1.gp (by rw [Nat.zero_add]; exact hf) j1.hp rfl
  have gd := gc_own (f := f) (H := H1) j1.gd (by rw [Nat.zero_add]; exact hf) j1.hd rfl
  refine ⟨actM f g1 H1, _, gc f g1 H1, (a.get γ, xs), by omega, actM_good G1, ⟨_, vs.map some, rfl, ⟨rfl, dx1, l1, j1.tag gc_le gp gd⟩, r1⟩, wm.mono _ _ _ (fun x zx v g' H' G' r' => ?_) zx⟩
  obtain ⟨G2, l2, o2⟩ := backM_good G1 G'
  exact zx v _ H' (G2.up (by omega)) ((e1.le G).trans l2) (k.ok R1 l2 o2) (backM_rel (A := A) G1 G' r')
/-- what was handed back is owned again -/
theorem axe_backJ {n : Nat} {vk : Vk} {w : TupT ks → ((rBJ (rV vk) K J fs).T → TupT ks' → Prop) → Prop} (h : AXE P ks ks' (rBJ (rV vk) K J fs) ce te w) (a : Acc ks' n kP) (p : Put ks' n (kJ K J fs) ks2) :
    AXE P ks ks2 (rV vk) ce te (fun γ Q => w γ fun x γ' => x.2.1 = a.get γ' ∧ Q x.1 (p.put γ' x.2)) := by
  refine ⟨fun γ Q Q' q z => h.mono γ _ _ (fun x y z => ⟨z.1, q _ _ z.2⟩) z, fun A b0 γ σ g H Q hb0 G R hw => ?_⟩
  refine h.run A b0 γ σ g H _ hb0 G R (h.mono γ _ _ (fun x γ' ⟨ex, zx⟩ v g' H' G' l' R' r' => ?_) hw)
  obtain ⟨q, dx, l, j, h0, h1⟩ := r'
  have l2 : Le g' H' (tagAll g' [x.2.1, dx] (.own n)) H' := le_tagAll fun c hc => by
    rcases List.mem_cons.mp hc with rfl | hc
    · rw [j.gp]; simp
    · rw [List.mem_singleton.mp hc, j.gd]; simp
  obtain ⟨y, ey, hy⟩ := a.ok R'
  have hy : y = some (.ref (a.get γ')) := hy
  subst hy
  have R2 := p.ok (y := some (.ref (a.get γ'))) (x := x.2) R' l2 (fun i _ b o hb ho => ⟨(tagAll_out fun z => by
    rcases List.mem_cons.mp z with z | z
    · rw [z, j.gp] at hb
      cases hb
    · rw [List.mem_singleton.mp z, j.gd] at hb
      cases hb).trans hb, ho⟩) ⟨by rw [ex], dx, l, j.tag l2 (by rw [tagAll_in List.mem_cons_self, Nat.zero_add]) (by rw [tagAll_in (List.mem_cons_of_mem _ List.mem_cons_self), Nat.zero_add])⟩
  rw [set_self ey] at R2
  refine zx v _ H' (G'.retagAll (t := .own n) (fun c hc => ?_) fun z => nomatch z) (l'.trans l2) R2 (vk.mono l2 q)
  rcases List.mem_cons.mp hc with rfl | hc
  · exact ⟨h0, _, j.hp⟩
  · rw [List.mem_singleton.mp hc]
    exact ⟨h1, _, j.hd⟩
/-! ### a def that hands its object back at its end -/
theorem ends_BJ {A : Act} {b0 i : Nat} {γ : TupT ks} {σ : Sl} {g : Gh} {H : Hp} {vk : Vk} {v : V} {x : vk.T} (a : Acc ks i (kJ K J fs)) (G : Good P A b0 g H) (R : RelL ks 0 γ σ g H) (hv : vk.rel v x g H) :
    ∃ g', Good P A b0 g' H ∧ (rBJ (rV vk) K J fs).rel A.H0 v (x, a.get γ) g' H := by
  obtain ⟨y, e, rfl, dx, l, j⟩ := a.ok R
  have l2 : Le g H (tagAll g [(a.get γ).1, dx] .oth) H := le_tagAll fun c hc => by
    rcases List.mem_cons.mp hc with rfl | hc
    · rw [j.gp]; simp
    · rw [List.mem_singleton.mp hc, j.gd]; simp
  refine ⟨_, G.retagAll (t := .oth) (fun c hc => ?_) (fun z => nomatch z), vk.mono l2 hv, dx, l, j.tag l2 (tagAll_in List.mem_cons_self) (tagAll_in (List.mem_cons_of_mem _ List.mem_cons_self)), G.noown0 j.gp, G.noown0 j.gd⟩
  rcases List.mem_cons.mp hc with rfl | hc
  · exact ⟨G.noown0 j.gp, _, j.hp⟩
  · rw [List.mem_singleton.mp hc]
    exact ⟨G.noown0 j.gd, _, j.hd⟩
def wDefBJ {n i : Nat} (ini : IniM kp ks n) (a : Acc ks' i (kJ K J fs)) (w : TupT ks → We ks' (rBJ (rF K Unit) K J fs) [] → Prop) : TupT kp → ((Unit × (Addr × TupFs fs)) → Prop) → Prop :=
  fun γ Q => w (ini.to γ) ⟨fun γ' => Q ((), a.get γ'), Q, fun _ => False, fun _ => False⟩
theorem pm_defBJ {n i : Nat} {ini : IniM kp ks n} {a : Acc ks' i (kJ K J fs)} {t : TS} {w : TupT ks → We ks' (rBJ (rF K Unit) K J fs) [] → Prop} (h : AS P ks ks' (rBJ (rF K Unit) K J fs) [] ct t w) : PmM P kp (rBJ (rF K Unit) K J fs) (wDefBJ ini a w) := ⟨fun γ Q Q' q z => by
  refine h.mono _ _ _ ?_ z
  exact ⟨fun _ h => q _ h, q, fun _ h => h, fun _ h => h⟩⟩
theorem sp_defBJ {n i : Nat} {ini : IniM kp ks n} {a : Acc ks' i (kJ K J fs)} {t : TS} {w : TupT ks → We ks' (rBJ (rF K Unit) K J fs) [] → Prop} (h : AS P ks ks' (rBJ (rF K Unit) K J fs) [] ct t w) {vs : List V} {H : Hp} {Q : VK} {E : XK} {N : List Str} (hN : N.length = kp.length + n)
    (q : SpM P kp (rBJ (rF K Unit) K J fs) ct (wDefBJ ini a w) vs H Q E) : t { nx := fun _ H' => Q .non H', rt := Q } (L2.start N vs) H := by
  obtain ⟨A, b0, g, γ, hb0, G, rv, z⟩ := q
  have e : L2.start N vs = vs.map some ++ List.replicate n none := by
    unfold L2.start
    have l := RelL.length rv
    rw [List.length_map] at l
    rw [l, hN, Nat.add_sub_cancel_left]
  rw [e]
  refine h.run A b0 _ _ g H _ hb0 G (ini.ok rv) (h.mono _ ⟨fun γ' => Wr P A (b0 + ct) (rBJ (rF K Unit) K J fs) Q ((), a.get γ'), Wr P A (b0 + ct) (rBJ (rF K Unit) K J fs) Q, fun _ => False, fun _ => False⟩ _ (We.Imp.mk (fun γ' z σ' g' H' G' l' R' => ?_) (fun _ h => h) (fun _ h => h.elim) (fun _ h => h.elim)) z)
  obtain ⟨g2, G2, q⟩ := ends_BJ (vk := vF K Unit) (v := .non) (x := ()) a G' R' rfl
  exact z .non g2 H' G2 q
/-! ### a new object -/
def tGiv (p : Prop) (t : TE) : TE := fun σ H Q => p → t σ H Q
theorem pe_giv {X : Cx} {e : Expr} {p : Prop} {t : TE} (hp : p) (h : PE X e t) : PE X e (tGiv p t) := ⟨fun pins s σ H Q I q => h.run pins s σ H Q I (q hp)⟩
theorem ae_make {t : TA} {w : TupT (kJ K J [] :: kp) → (Unit × (Addr × TupFs fs) → Prop) → Prop} {wt : TupT ks → (TupT kp → Prop) → Prop} (wm : PmM P (kJ K J [] :: kp) (rBJ (rF K Unit) K J fs) w) (ha : AM P ks kp (fun _ => none) 1 ct t wt) :
    AE P ks (rJ K J fs) (ct + cw) (tGiv (JF K J) (tMake (clsAddr K J.nm) (SpM P (kJ K J [] :: kp) (rBJ (rF K Unit) K J fs) cw w) [] E0 t)) (fun γ Q => wt γ fun xs => ∀ q, w ((q, ()), xs) fun x => x.2.1 = q ∧ Q (q, x.2.2)) := by
  refine ⟨fun γ Q Q' q z => ha.mono γ _ _ (fun b zb u => wm.mono _ _ _ (fun x y => ⟨y.1, q _ y.2⟩) (zb u)) z, fun A b0 γ σ g H Q hb0 G R hw fa => ?_⟩
  refine ha.run A b0 γ σ g H _ (by omega) G R (ha.mono γ _ _ (fun xs zx vs g1 H1 G1 e1 r1 => ?_) hw)
  intro p dx np nd ne
  rw [List.append_nil]
  have G0 := hidden_good G1
  obtain ⟨Ga, ea⟩ := G0.new (a := dx) (o := .own p) (t := .own 0) nd (fun z => nomatch z)
  have np' : upd (hidden g1 H1).H0 dx (.own p) p = none := by rw [upd_ne (Ne.symm ne)]; exact np
  obtain ⟨Gb, eb⟩ := Ga.new (a := p) (o := .ins (clsAddr K J.nm) dx []) (t := .own 0) np' (fun z => nomatch z)
  have gcn : gc (fun _ => none) g1 H1 = (hidden g1 H1).g0 := by
    funext b
    exact gc_given (by
      unfold given
      cases g1 b <;> rfl)
  rw [gcn] at r1
  have r1' := (r1.ext G0 ea).ext Ga eb
  refine ⟨hidden g1 H1, _, _, ((p, ()), xs), by omega, Gb, ⟨_, vs.map some, rfl, ⟨rfl, dx, [], Ne.symm ne, tagAt_same, by rw [tagAt_ne ne]; exact tagAt_same, upd_same, by rw [upd_ne ne]; exact upd_same, rfl, fa⟩, r1'⟩, wm.mono _ _ _ (fun x ⟨ex, zx⟩ v g' H' G' r' => ?_) (zx p)⟩
  obtain ⟨rv, dx2, l, j, h0, h1⟩ := r'
  obtain ⟨G2, e2⟩ := back_good G1 G'
  refine ⟨rv, zx _ _ H' (G2.up (by omega)) (e1.trans G1 e2) ⟨rfl, ?_⟩⟩
  have q := back_rel (r := rBJ (rF K Unit) K J fs) (A := A) (v := v) (x := x) G' ⟨rv, dx2, l, j, h0, h1⟩
  have q2 := q.2
  rw [ex] at q2
  exact q2.start fun a ha => e1.keeps G1 ha
theorem as_ownJ {n : Nat} {w : TupT ks → (Addr × TupFs fs → Prop) → Prop} (he : AE P ks (rJ K J fs) ce te w) (p : Put ks n (kJ K J fs) ks') : AS P ks ks' r kb ce (tAsg te (gName n)) (fun γ E => w γ fun x => ∀ y, y = x → E.nx (p.put γ y)) := by
  refine ⟨fun γ E E' i z => he.mono γ _ _ (fun x zx y ey => i.nx _ (zx y ey)) z, fun A b0 γ σ g H D hb0 G R hw => ?_⟩
  refine he.run A b0 γ σ g H _ (by omega) G R (he.mono γ _ _ (fun x zx v g' H' G' e' r' => ?_) hw)
  obtain ⟨rfl, dx, l, j, h0, h1⟩ := r'
  have l2 : Le g' H' (tagAll g' [x.1, dx] (.own n)) H' := le_tagAll fun c hc => by
    rcases List.mem_cons.mp hc with rfl | hc
    · rw [j.gp]; simp
    · rw [List.mem_singleton.mp hc, j.gd]; simp
  have R2 := p.ok (y := some (.ref x.1)) (x := x) (R.ext G e') l2 (fun i _ b o hb ho => ⟨(tagAll_out fun z => by
    rcases List.mem_cons.mp z with z | z
    · rw [z, j.gp] at hb
      cases hb
    · rw [List.mem_singleton.mp z, j.gd] at hb
      cases hb).trans hb, ho⟩) ⟨rfl, dx, l, j.tag l2 (by rw [tagAll_in List.mem_cons_self, Nat.zero_add]) (by rw [tagAll_in (List.mem_cons_of_mem _ List.mem_cons_self), Nat.zero_add])⟩
  refine zx x rfl _ _ H' ((G'.retagAll (t := .own n) (fun c hc => ?_) fun z => nomatch z).up (by omega)) ((e'.le G).trans l2) R2
  rcases List.mem_cons.mp hc with rfl | hc
  · exact ⟨G.ext.keeps G h0, _, j.hp⟩
  · rw [List.mem_singleton.mp hc]
    exact ⟨G.ext.keeps G h1, _, j.hd⟩
end
end DL
/-! DL: methods called, objects made. -/
namespace DL
open PySem PySem.Spec PyProof.Rows L2
theorem make_guards {A : Around} {C : Addr} {us : List Value} {kw : List (Str × Value)} : (A.under (.builtin "type.__call__" ⟨.ref C :: us, kw⟩)).guards = A.guards := by
  first | rfl | simp [Around.under, Code.weight, Code.isCreation, Code.isGuard, Code.isCaller, Code.frames, Code.isFrame, guardIds]
theorem RoomG.make {k : Nat} {A : Around} (z : RoomG (k + 1) A) (C : Addr) (us : List Value) (kw : List (Str × Value)) : RoomG k (A.under (.builtin "type.__call__" ⟨.ref C :: us, kw⟩)) := ⟨z.room.make C us kw, by rw [make_guards]; exact z.clear⟩
section
variable {X : Cx} {k : Nat} {f C : Addr} {fd : FuncData} {ps : List Str} {sp : Sp} {dvs : List V} {ds : List Value} {x m : Str} {p pos apos : Pos} {e o : Expr} {es : List Expr} {ta : TE} {t : TA}
/-- o.m(e, ..) -/
theorem pe_methG {pl : Sem Bool} (he : PE X o ta) (c : Cls X.K C) (hm : Meth X.K C m f) (F : FnG X.prog X.w X.K X.mg X.base k f fd ps sp) (z : RoomG k X.A) (hb : Binds X.K fd ps ds) (hd : Vals dvs ds) (ha : PA X (e :: es) t)
    (hst : starEach (e :: es) X.env = (false, eval e X.env) :: starEach es X.env := by rfl) (hpl : (backTo pos (starEach es X.env)).any (·.1) = false := by rfl)
    (ht : eval (.Call (.Attribute o m apos) (e :: es) [] pos) X.env = (do
      let ov ← eval o X.env
      standAt apos.atName
      let (f, first) ← holding [ov] (getMethod ov m pl)
      callWith pos f first (backTo pos (starEach (e :: es) X.env)) (backToKw pos (keywordEach [] X.env))) := by rfl) : PE X (.Call (.Attribute o m apos) (e :: es) [] pos) (tMeth C m sp dvs L2.E0 ta t) :=
  ⟨fun pins s σ H Q I h => PySem.W.methodCall_KW (pl := pl) (thn (he.run pins s σ H _ I h) fun u s1 ⟨y, H1, I1, ry, a, dx, fs, ey, ea, l, q⟩ => by
    subst ey
    obtain rfl : u = Value.ref a := ry
    exact getmeth_ok I1 ea c hm l (PySem.W.callWith_K (first := [.ref a]) (h₀ := X.base) I.ok.mod.kin hm.kp (thn (ha.run pos pins s1 σ H1 _ I1 q) fun us s2 ⟨vs, H2, I2, r, q2⟩ => ⟨I2.kIn, run_fnG (us := .ref a :: us) (vs := .ref a :: vs) F z hb hd I2 (.cons rfl r) q2⟩) hst hpl)) ht⟩
/-- o.m() -/
theorem pe_methG0 {pl : Sem Bool} (he : PE X o ta) (c : Cls X.K C) (hm : Meth X.K C m f) (F : FnG X.prog X.w X.K X.mg X.base k f fd ps sp) (z : RoomG k X.A) (hb : Binds X.K fd ps ds) (hd : Vals dvs ds)
    (ht : eval (.Call (.Attribute o m apos) [] [] pos) X.env = (do
      let ov ← eval o X.env
      standAt apos.atName
      let (f, first) ← holding [ov] (getMethod ov m pl)
      callWith pos f first (backTo pos (starEach [] X.env)) (backToKw pos (keywordEach [] X.env))) := by rfl) : PE X (.Call (.Attribute o m apos) [] [] pos) (tMeth C m sp dvs L2.E0 ta tNil) :=
  ⟨fun pins s σ H Q I h => PySem.W.methodCall_KW (pl := pl) (thn (he.run pins s σ H _ I h) fun u s1 ⟨y, H1, I1, ry, a, dx, fs, ey, ea, l, q⟩ => by
    subst ey
    obtain rfl : u = Value.ref a := ry
    exact getmeth_ok I1 ea c hm l (PySem.W.callWith_K0 (first := [.ref a]) I1.kIn hm.kp (run_fnG (us := [.ref a]) (vs := [.ref a]) F z hb hd I1 (.cons rfl .nil) q))) ht⟩
theorem run_makeG {pins : List (Addr × Obj)} {σ : L2.St} {H : Hp} {s : Shared} {Q : VK} {us : List Value} {vs : List V} (M : Mk X.K C f) (F : FnG X.prog X.w X.K X.mg X.base k f fd ps sp) (z : RoomG (k + 1) X.A) (hb : Binds X.K fd ps ds) (hd : Vals dvs ds) (I : Inv X pins σ H s) (r : Vals vs us)
    (h : ∀ q dx, H q = none → H dx = none → dx ≠ q → sp (.ref q :: (vs ++ dvs)) (upd (upd H dx (.own q)) q (.ins C dx [])) (fun v H2 => v = .non ∧ Q (.ref q) H2) L2.E0) : wpAny (model X.prog X.w) X.A (call (.ref C) us) (EP X pins σ Q) X.xe s := by
  have want := h (s.heap.objs.size + 1) s.heap.objs.size (I.hok.fresh (Nat.le_succ _)) (I.hok.fresh (Nat.le_refl _)) (Nat.ne_of_lt (Nat.lt_succ_self _))
  have I2 := Inv.made (C := C) I
  have r2 : Vals (V.ref (s.heap.objs.size + 1) :: (vs ++ dvs)) (Value.ref (s.heap.objs.size + 1) :: (us ++ ds)) := .cons rfl (r.append hd)
  have many : (Value.ref (s.heap.objs.size + 1) :: us ++ ds).length = ps.length := (r2.length.symm.trans (F.len _ _ _ _ want))
  refine wpAny_call (make_map (f := f) I.kIn M.makes M.init (beq_iff_eq.mp M.fn) (codeAny_mono (F.run _ X.stack _ _ ⟨Value.ref (s.heap.objs.size + 1) :: us, []⟩ (Value.ref (s.heap.objs.size + 1) :: (us ++ ds)) _ _ L2.E0 (z.make C us [])
    (I2.env0.make C us []) (hb _ (Value.ref (s.heap.objs.size + 1) :: us) I2.kIn many) r2 want) fun res s2 post => ?_))
  match res, post with
  | .error _, post => exact (show False from post).elim
  | .ok (.ret u), post =>
    obtain ⟨v, H2, I3, rv, ev, q3⟩ := I2.after post
    subst ev
    exact ⟨rv, ⟨V.ref (s.heap.objs.size + 1), H2, I3, rfl, q3⟩⟩
  | .ok .next, post => exact (show False from post).elim
  | .ok .brk, post => exact (show False from post).elim
  | .ok .cont, post => exact (show False from post).elim
theorem pe_makeG0 (M : Mk X.K C f) (F : FnG X.prog X.w X.K X.mg X.base k f fd ps sp) (z : RoomG (k + 1) X.A) (hg : Gl X x) (hm : X.mg x = some (.ref C)) (hb : Binds X.K fd ps ds) (hd : Vals dvs ds) (hdb : (x == ("__debug__" : Str)) = false := by decide) : PE X (.Call (.Name x p) [] [] pos) (tMake C sp dvs L2.E0 tNil) :=
  ⟨fun pins s σ H Q I h => wpAny_Call_Name_kw (ld_glob I hg hm (PySem.W.callWith_K0 I.kIn M.kp (run_makeG (us := []) M F z hb hd I .nil h)) hdb)⟩
theorem pe_makeG (M : Mk X.K C f) (F : FnG X.prog X.w X.K X.mg X.base k f fd ps sp) (z : RoomG (k + 1) X.A) (hg : Gl X x) (hm : X.mg x = some (.ref C)) (hb : Binds X.K fd ps ds) (hd : Vals dvs ds) (ha : PA X (e :: es) t) (hdb : (x == ("__debug__" : Str)) = false := by decide)
    (he : starEach (e :: es) X.env = (false, eval e X.env) :: starEach es X.env := by rfl) (hpl : (backTo pos (starEach es X.env)).any (·.1) = false := by rfl) : PE X (.Call (.Name x p) (e :: es) [] pos) (tMake C sp dvs L2.E0 t) :=
  ⟨fun pins s σ H Q I h => wpAny_Call_Name_kw (ld_glob I hg hm (PySem.W.callWith_K (h₀ := X.base) I.ok.mod.kin M.kp (thn (ha.run pos pins s σ H _ I h) fun us s1 ⟨vs, H1, I1, r, q⟩ => ⟨I1.kIn, run_makeG M F z hb hd I1 r q⟩) he hpl) hdb)⟩
end
end DL
/-! DL: data that is new all through. -/
namespace DL
open PySem PySem.Spec PyProof.Rows L2
variable {P : TokP} {K : PySem.W.Frag} {ks ks' ks1 ks2 kb : List Kd} {r : Rk} {ta tb te : TE} {ca cb cc ce ct : Nat}
/-- what is frozen and came behind Hs; tuples -/
def FzN (Hs : Hp) (g : Gh) (H : Hp) : Hp := fun a => match H a with
  | none => none
  | some o => if (isTup o || (Hs a).isNone && isFrz (g a)) = true then some o else none
theorem fzn_some {Hs : Hp} {g : Gh} {H : Hp} {a : Addr} {o : HO} : FzN Hs g H a = some o ↔ H a = some o ∧ (isTup o = true ∨ Hs a = none ∧ g a = .frz) := by
  unfold FzN
  cases h : H a with
  | none => simp
  | some u =>
    simp only [Option.some.injEq]
    by_cases c : (isTup u || (Hs a).isNone && isFrz (g a)) = true
    · rw [if_pos c]
      simp only [Option.some.injEq]
      constructor
      · rintro rfl
        refine ⟨rfl, ?_⟩
        rw [Bool.or_eq_true, Bool.and_eq_true, Option.isNone_iff_eq_none, isFrz_iff] at c
        exact c
      · exact fun z => z.1
    · rw [if_neg c]
      constructor
      · intro z
        cases z
      · rintro ⟨rfl, z⟩
        refine absurd ?_ c
        rw [Bool.or_eq_true, Bool.and_eq_true, Option.isNone_iff_eq_none, isFrz_iff]
        exact z
theorem fzn_fz {Hs : Hp} {g : Gh} {H : Hp} : Same (FzN Hs g H) (Fz g H) := fun a o h => by
  obtain ⟨h1, h2⟩ := fzn_some.mp h
  exact fz_some.mpr ⟨h1, h2.imp id fun z => isFrz_iff.mpr z.2⟩
theorem fzn_start {Hs Hs' : Hp} {g : Gh} {H : Hp} (h : ∀ a, Hs' a = none → Hs a = none) : Same (FzN Hs' g H) (FzN Hs g H) := fun a o q => by
  obtain ⟨h1, h2⟩ := fzn_some.mp q
  exact fzn_some.mpr ⟨h1, h2.imp id fun z => ⟨h a z.1, z.2⟩⟩
theorem fzn_le {Hs : Hp} {g g' : Gh} {H H' : Hp} (l : Le g H g' H') : Same (FzN Hs g H) (FzN Hs g' H') := fun a o q => by
  obtain ⟨h1, h2⟩ := fzn_some.mp q
  obtain ⟨k1, k2⟩ := fz_some.mp (l.fz a o (fz_some.mpr ⟨h1, h2.imp id fun z => isFrz_iff.mpr z.2⟩))
  refine fzn_some.mpr ⟨k1, ?_⟩
  rcases h2 with z | z
  · exact .inl z
  · rcases k2 with k | k
    · exact .inl k
    · exact .inr ⟨z.1, isFrz_iff.mp k⟩
theorem fzn_tups {Hs : Hp} {g g' : Gh} {H : Hp} : ∀ b zs, Fz g H b = some (.tup zs) → FzN Hs g' H b = some (.tup zs) := fun b zs h => fzn_some.mpr ⟨(fz_some.mp h).1, .inl rfl⟩
@[reducible] def rNw (K : PySem.W.Frag) (α : Type) [Rp K α] : Rk := ⟨α, fun Hs v x g H => Rp.rp K (FzN Hs g H) v x, fun h q => Rp.mono (fzn_start h) q, fun h1 h2 _ q => Rp.mono (fzn_le (le_mg h1 h2)) q⟩
instance {α : Type} [Rp K α] : RkFlat (rNw K α) := ⟨fun {Hs v x g g' H} s h => Rp.mono (K := K) (α := α) (F := FzN Hs g H) (fun a o q => by
  obtain ⟨h1, h2⟩ := fzn_some.mp q
  exact fzn_some.mpr ⟨h1, h2.imp id fun z => ⟨z.1, (s a z.1).trans z.2⟩⟩) h⟩
section
variable {α : Type} [Rp K α]
theorem ae_nwF {w : TupT ks → (α → Prop) → Prop} (h : AE P ks (rNw K α) ca ta w) : AE P ks (rF K α) ca ta w :=
  ⟨h.mono, fun A b0 γ σ g H Q hb0 G R hw => h.run A b0 γ σ g H Q hb0 G R (h.mono γ _ _ (fun x z v g' H' G' e r' => z v g' H' G' e (Rp.mono fzn_fz r')) hw)⟩
theorem ae_nwFl [Flat K α] {w : TupT ks → (α → Prop) → Prop} (h : AE P ks (rF K α) ca ta w) : AE P ks (rNw K α) ca ta w :=
  ⟨h.mono, fun A b0 γ σ g H Q hb0 G R hw => h.run A b0 γ σ g H Q hb0 G R (h.mono γ _ _ (fun x z v g' H' G' e r' => z v g' H' G' e (Flat.fl (K := K) (α := α) (F := Fz g' H') (F' := FzN H g' H') fzn_tups r')) hw)⟩
theorem ae_nwMap {β : Type} [Rp K β] {w : TupT ks → (α → Prop) → Prop} {f : α → β} (h : AE P ks (rNw K α) ca ta w) (hf : ∀ F v x, Rp.rp K F v x → Rp.rp K F v (f x)) : AE P ks (rNw K β) ca ta (fun γ Q => w γ fun x => Q (f x)) :=
  ⟨fun γ Q Q' q z => h.mono γ _ _ (fun x => q (f x)) z, fun A b0 γ σ g H Q hb0 G R hw => h.run A b0 γ σ g H Q hb0 G R (h.mono γ _ _ (fun x z v g' H' G' e r' => z v g' H' G' e (hf _ _ _ r')) hw)⟩
theorem ae_nwD [ToD K α] {w : TupT ks → (α → Prop) → Prop} (h : AE P ks (rNw K α) ca ta w) : AE P ks (rNw K PyData) ca ta (fun γ Q => w γ fun x => Q (ToD.toD K x)) := ae_nwMap (f := ToD.toD K) h fun _ _ _ q => ToD.ok q
/-- None, or new lists in a new list -/
theorem ae_nwNO [Flat K α] {w : TupT ks → (Option (List (List α)) → Prop) → Prop} (h : AE P ks (rNO K α) ca ta w) : AE P ks (rNw K (Option (List (List α)))) ca ta w := by
  refine ⟨h.mono, fun A b0 γ σ g H Q hb0 G R hw => ?_⟩
  refine h.run A b0 γ σ g H Q (by omega) G R (h.mono γ _ _ (fun xs z v g' H' G' e r' => ?_) hw)
  cases xs with
  | none => exact z v g' H' G' e r'
  | some x =>
    obtain ⟨p, bs, rfl, h1, h2, h3, h4, h5, h6, h7, h8⟩ := r'
    have all : ∀ c ∈ p :: bs, H c = none ∧ g' c = .oth ∧ ∃ o, H' c = some o := fun c hc => by
      rcases List.mem_cons.mp hc with rfl | hc
      · exact ⟨h1, h2, _, h3⟩
      · obtain ⟨q1, vs, q2⟩ := h7.mem c hc
        exact ⟨h6 c hc, q1, _, q2⟩
    have inn : ∀ c ∈ p :: bs, ∀ u, H' c = some u → FzN H (tagAll g' (p :: bs) .frz) H' c = some u := fun c hc u hu => fzn_some.mpr ⟨hu, .inr ⟨(all c hc).1, tagAll_in hc⟩⟩
    have items : Paired (Rp.rp K (FzN H (tagAll g' (p :: bs) .frz) H')) (bs.map V.ref) x := by
      have sub : ∀ c ∈ bs, c ∈ p :: bs := fun c hc => List.mem_cons_of_mem _ hc
      clear z h8 h6 h5 h4 h3 h2 h1 all hw
      revert inn sub
      generalize tagAll g' (p :: bs) .frz = gg
      generalize p :: bs = cs
      unfold Nst at h7
      intro inn sub
      induction h7 with
      | nil => exact .nil
      | cons q _ ih =>
        obtain ⟨q1, vs, q2, q3, q4⟩ := q
        exact .cons ⟨_, vs, rfl, inn _ (sub _ List.mem_cons_self) _ q2, Paired.mapP q3 fun _ _ q => Flat.fl (K := K) (α := α) (F := Fz g' H') (F' := FzN H gg H') fzn_tups q, q4⟩ (ih fun c hc => sub c (List.mem_cons_of_mem _ hc))
    refine z _ (tagAll g' (p :: bs) .frz) H' ((G'.retagAll (t := .frz) (fun c hc => ⟨G.ext.keeps G (all c hc).1, (all c hc).2.2⟩) fun z => nomatch z).up (by omega)) (fun a o ha => ?_) ⟨(fun z => nomatch z), p, bs.map V.ref, rfl, inn p List.mem_cons_self _ h3, items, h8⟩
    rw [tagAll_out]
    · exact e a o ha
    · intro q
      rw [(all a q).1] at ha
      cases ha
/-! ### displays of such -/
structure AXN (P : TokP) (K : PySem.W.Frag) (ks : List Kd) (α : Type) [Rp K α] (n : Nat) (c : Nat) (t : TA) (w : TupT ks → (List α → Prop) → Prop) : Prop where
  mono : ∀ γ (Q Q' : List α → Prop), (∀ x, Q x → Q' x) → w γ Q → w γ Q'
  run : ∀ (A : Act) b0 γ σ g H (Q : List V → Hp → Prop), b0 + c ≤ P.B → Good P A b0 g H → RelL ks 0 γ σ g H → w γ (fun xs => ∀ vs g' H', Good P A (b0 + c) g' H' → Ext g H g' H' → vs.length = n → Paired (Rp.rp K (FzN H g' H')) vs xs → Q vs H') → t σ H Q
theorem axn_nil : AXN P K ks α 0 0 tNil (fun _ Q => Q []) := ⟨fun _ _ _ q z => q _ z, fun A b0 γ σ g H Q hb0 G R hw => hw [] g H (G.up (by omega)) (Ext.refl g H) rfl .nil⟩
theorem axn_cons {n : Nat} {te : TE} {t : TA} {we : TupT ks → (α → Prop) → Prop} {wt : TupT ks → (List α → Prop) → Prop} (he : AE P ks (rNw K α) ce te we) (ht : AXN P K ks α n ct t wt) : AXN P K ks α (n + 1) (ce + ct) (tCons te t) (fun γ Q => we γ fun x => wt γ fun xs => Q (x :: xs)) := by
  refine ⟨fun γ Q Q' q z => he.mono γ _ _ (fun a za => ht.mono γ _ _ (fun b zb => q _ zb) za) z, fun A b0 γ σ g H Q hb0 G R hw => ?_⟩
  refine he.run A b0 γ σ g H _ (by omega) G R (he.mono γ _ _ (fun a za x g1 H1 G1 e1 r1 => ?_) hw)
  refine ht.run A _ γ σ g1 H1 _ (by omega) G1 (R.ext G e1) (ht.mono γ _ _ (fun b zb vs g2 H2 G2 e2 hl r2 => ?_) za)
  exact zb _ g2 H2 (G2.up (by omega)) (e1.trans G1 e2) (by rw [List.length_cons, hl]) (.cons (Rp.mono (fzn_le (e2.le G1)) r1) (Paired.mapP r2 fun _ _ q => Rp.mono (fzn_start fun a ha => e1.keeps G1 ha) q))
theorem ae_lstN {n : Nat} {t : TA} {wt : TupT ks → (List α → Prop) → Prop} (h : AXN P K ks α n ct t wt) (hn : n ≤ 1000 := by decide) : AE P ks (rNw K (List α)) ct (tLst t) wt := by
  refine ⟨h.mono, fun A b0 γ σ g H Q hb0 G R hw => ?_⟩
  refine h.run A b0 γ σ g H _ (by omega) G R (h.mono γ _ _ (fun xs z vs g1 H1 G1 e1 hl rv => ?_) hw)
  refine ⟨by rw [hl]; exact Nat.le_of_lt (small1000 hn), fun p hp => ?_⟩
  obtain ⟨G2, e2⟩ := G1.new (o := .lst vs) (t := .frz) hp (fun z => nomatch z)
  refine z _ _ _ (G2.up (by omega)) (e1.trans G1 e2) ⟨p, vs, rfl, fzn_some.mpr ⟨upd_same, .inr ⟨e1.keeps G1 hp, tagAt_same⟩⟩, Paired.mapP rv fun _ _ q => Rp.mono (fzn_le (e2.le G1)) q, by rw [← Paired.len rv, hl]; omega⟩
/-- x = e; return x + d -/
theorem as_catRet {n : Nat} {w1 : TupT ks → (List α → Prop) → Prop} {w2 : TupT ks1 → (List α → Prop) → Prop} (h1 : AE P ks (rNw K (List α)) ca ta w1) (p : Put ks n kU ks1) (h2 : AE P ks1 (rNw K (List α)) cb tb w2) (hn : n < ks.length := by decide) :
    AS P ks ks' (rNw K (List α)) kb (ca + cb) (tSeq (tAsg ta (gName n)) (tRet (tOp rCat (tVar n) tb))) (fun γ E => w1 γ fun xs => w2 (p.put γ ()) fun ys => xs.length + ys.length ≤ sizeLine ∧ E.rt (xs ++ ys)) := by
  refine ⟨fun γ E E' i z => h1.mono γ _ _ (fun x zx => h2.mono _ _ _ (fun y zy => ⟨zy.1, i.rt _ zy.2⟩) zx) z, fun A b0 γ σ g H D hb0 G R hw => ?_⟩
  refine h1.run A b0 γ σ g H _ (by omega) G R (h1.mono γ _ _ (fun xs zx v g1 H1 G1 e1 r1 => ?_) hw)
  have R1 := p.ok (y := some v) (x := ()) (R.ext G e1) (Le.refl g1 H1) (fun j _ b o hb ho => ⟨hb, ho⟩) trivial
  obtain ⟨a, vs, rfl, k1, k2, k3⟩ := r1
  have ln : σ.length = ks.length := RelL.length R
  refine ⟨.ref a, ?_, ?_⟩
  · rw [List.getElem?_set, if_pos rfl, if_pos (by rw [ln]; exact hn)]
  · refine h2.run A _ _ _ g1 H1 _ (by omega) G1 R1 (h2.mono _ _ _ (fun ys zy u g2 H2 G2 e2 r2 => ?_) zx)
    obtain ⟨b, us, rfl, m1, m2, m3⟩ := r2
    have a1 := fzn_le (Hs := H) (e2.le G1) _ _ k1
    have k2' : Paired (Rp.rp K (FzN H g2 H2)) vs xs := Paired.mapP k2 fun _ _ q => Rp.mono (fzn_le (e2.le G1)) q
    have m2' : Paired (Rp.rp K (FzN H g2 H2)) us ys := Paired.mapP m2 fun _ _ q => Rp.mono (fzn_start fun c hc => e1.keeps G1 hc) q
    refine ⟨a, b, vs, us, rfl, rfl, (fzn_some.mp a1).1, (fzn_some.mp m1).1, by rw [Paired.len k2, Paired.len m2]; exact zy.1, fun q hq => ?_⟩
    obtain ⟨G3, e3⟩ := G2.new (o := .lst (vs ++ us)) (t := .frz) hq (fun z => nomatch z)
    have st : ∀ c, H c = none → A.H0 c = none := fun c hc => G.ext.keeps G hc
    refine zy.2 _ _ _ (G3.up (by omega)) ⟨q, vs ++ us, rfl, fzn_some.mpr ⟨upd_same, .inr ⟨(e1.trans G1 e2).keeps G2 hq |> st q, tagAt_same⟩⟩, Paired.mapP (Paired.app k2' m2') fun _ _ z => Rp.mono (fzn_start st) (Rp.mono (fzn_le (e3.le G2)) z), by rw [List.length_append]; exact Nat.le_trans zy.1 (by decide)⟩
end
end DL
/-! DL: sorted(xs), xs data that are no tuples. -/
namespace DL
open PySem PySem.Spec PyProof.Rows L2
section
variable {X : Cx} {α : Type}
theorem vals_each {R : V → α → Prop} : ∀ {xs : List V} {us : List Value} {bs : List α}, Vals xs us → Paired R xs bs → PySem.W.EachIs (fun u b => ∃ v, RelV v u ∧ R v b) us bs
  | _, _, _, .nil, .nil => .nil
  | _, _, _, .cons h t, .cons r q => .cons ⟨_, h, r⟩ (vals_each t q)
theorem each_vals {R : V → α → Prop} : ∀ {us : List Value} {bs : List α}, PySem.W.EachIs (fun u b => ∃ v, RelV v u ∧ R v b) us bs → ∃ xs, Vals xs us ∧ Paired R xs bs
  | _, _, .nil => ⟨[], .nil, .nil⟩
  | _, _, .cons ⟨v, h, r⟩ t => by
    obtain ⟨xs, h1, h2⟩ := each_vals t
    exact ⟨v :: xs, .cons h h1, .cons r h2⟩
def rSrtD (K : PySem.W.Frag) (α : Type) (enc : α → PyData) : List V → Hp → VK → Prop := fun vs H Q => ∃ (a : Addr) (xs : List V) (bs : List α) (R : V → α → Prop), vs = [V.ref a] ∧ SqL K H a xs ∧ Paired R xs bs ∧ (∀ v b, R v b → Dp K H v (enc b)) ∧
  PySem.W.AllAlike (bs.map enc) ∧ PySem.W.Sortable (bs.map enc) ∧ (∀ b ∈ bs, (enc b).depth ≤ 60) ∧
  ∀ ys p, Paired R ys (bs.mergeSort (PySem.W.dataLe false enc)) → H p = none → Q (.ref p) (upd H p (.lst ys))
theorem cr_srtD {enc : α → PyData} (hu : X.A.units + 64 < cLine) : CallR X (.builtin "sorted") (rSrtD X.K α enc) := by
  intro pins s σ H vs us Q I r h
  obtain ⟨a, xs, bs, R, rfl, hs, pr, hd, al, so, dp, q⟩ := h
  obtain ⟨its, rv, hl, hz⟩ := I.list hs
  obtain ⟨u, rfl, ru⟩ := vals1 r
  obtain rfl : u = Value.ref a := ru
  have ea := vals_each rv pr
  have lb : bs.length = xs.length := pr.length.symm
  have er : PySem.W.EachIs (fun u b => ∃ as, Reads s.heap u (enc b) as) its bs := ea.mono fun u b h => by
    obtain ⟨v, h1, h2⟩ := h
    obtain ⟨as, h⟩ := Dp.reads I _ _ _ (hd v b h2) h1
    exact ⟨as, h⟩
  refine PySem.W.sorted_data (R := fun u b => ∃ v, RelV v u ∧ R v b) (enc := enc) (bs := bs) hl.isList ea er al so (by rw [lb]; exact hz) (fun b hb => by have := dp b hb; omega) fun out ol eo => ?_
  obtain ⟨ys, hy, py⟩ := each_vals eo
  obtain ⟨n, hn⟩ := sortedAll_at s.heap its out.toArray
  refine ⟨.ref (s.heap.objs.size + 1), upd H (s.heap.objs.size + 1) (.lst ys), I.laid (t' := s.toks) (fun b o e => sortedAll_old e) (Nat.le_succ _) ⟨?_, out, n, hy, hn⟩, rfl, q _ _ py (I.hok.fresh (Nat.le_succ _))⟩
  rw [hy.length, ol, lb]
  exact hz
end
variable {P : TokP} {K : PySem.W.Frag} {ks : List Kd} {ta : TE} {ca : Nat}
class SrtOk (K : PySem.W.Frag) (α : Type) [Rp K α] [ToD K α] : Prop where
  al : ∀ a b : α, PySem.W.alike (ToD.toD K a) (ToD.toD K b) = true
  so : ∀ a : α, ToD.toD K a ≠ .none ∧ ∀ xs, ToD.toD K a ≠ .tuple xs
  dp : ∀ a : α, (ToD.toD K a).depth ≤ 60
theorem ae_srtD {α : Type} [Rp K α] [ToD K α] [SrtOk K α] {wl : TupT ks → (List α → Prop) → Prop} (ha : AE P ks (rF K (List α)) ca ta wl) : AE P ks (rO K α) ca (tCB (rSrtD K α (ToD.toD K)) (tCons ta tNil)) (fun γ Q => wl γ fun xs => Q (xs.mergeSort (PySem.W.dataLe false (ToD.toD K)))) :=
  AE.cb1 (r := rO K α) (k := vF K (List α)) (f := fun xs Q => Q (xs.mergeSort (PySem.W.dataLe false (ToD.toD K)))) ha (fun _ _ _ q z => q _ z) fun A b0 g H x xs Q G rx z => by
    obtain ⟨a, vs, rfl, h, pr, hl⟩ := rx
    exact ⟨a, vs, xs, Rp.rp K (Fz g H), rfl, sq_of fz_sub h, pr, fun v b h => Dp.mono' fz_sub _ _ (ToD.ok h), .of SrtOk.al, .others SrtOk.so, fun b _ => SrtOk.dp b, fun ys p hy hp => newlist (xs := xs.mergeSort _) G hp hy (by rw [List.length_mergeSort]; exact hl) z⟩
instance : SrtOk K (List Int) where
  al := fun a b => by
    show PySem.W.alike (.list (a.map .int)) (.list (b.map .int)) = true
    unfold PySem.W.alike
    exact PySem.W.alike_ints a b
  so := fun a => ⟨fun h => (nomatch h), fun _ h => (nomatch h)⟩
  dp := fun a => by
    show (PyData.list (a.map .int)).depth ≤ 60
    rw [PyData.depth, PySem.W.depth_ints]
    decide
instance : SrtOk K (LP Int (List Int)) where
  al := fun a b => by
    show PySem.W.alike (.list [.int a.a, .list (a.b.map .int)]) (.list [.int b.a, .list (b.b.map .int)]) = true
    simp [PySem.W.alike, PySem.W.alikeAll, PySem.W.alike_ints]
  so := fun a => ⟨fun h => (nomatch h), fun _ h => (nomatch h)⟩
  dp := fun a => by
    show (PyData.list [.int a.a, .list (a.b.map .int)]).depth ≤ 60
    simp [PyData.depth, PyData.depthAll, PySem.W.depth_ints]
variable {kb : List Kd} {r : Rk} {te : TE} {ce : Nat}
theorem as_extendF {α : Type} [Rp K α] {n : Nat} {w : TupT ks → (List α → Prop) → Prop} (a : Acc ks n (kO K α)) (p : Put ks n (kO K α) ks) (he : AE P ks (rF K (List α)) ce te w) :
    AS P ks ks r kb ce (tDrop (tBM K "list" rExtend (tVar n) (tCons te tNil))) (fun γ E => w γ fun x => (a.get γ).length + x.length ≤ sizeLine ∧ E.nx (p.put γ (a.get γ ++ x))) := by
  refine ⟨fun γ E E' i z => he.mono γ _ _ (fun x zx => ⟨zx.1, i.nx _ zx.2⟩) z, fun A b0 γ σ g H D hb0 G R hw => ?_⟩
  obtain ⟨y, e, b, vs, rfl, h1, h2, h3, hl⟩ := a.ok R
  refine ⟨_, e, .inl ⟨rfl, vs, .inl (.inl h2)⟩, ?_⟩
  refine he.run A b0 γ σ g H _ (by omega) G R (he.mono γ _ _ (fun x zx v g' H' G' e' r' => ?_) hw)
  obtain ⟨c, us, rfl, k3, k4, k5⟩ := r'
  have hc := (fz_some.mp k3).1
  obtain ⟨q1, q2⟩ := (e'.lx G).ow _ b _ h1 h2
  have h3' := Paired.rp_mono (e'.le G).fz h3
  obtain ⟨G2, l2, R2⟩ := own_write p G' (R.ext G e') e q1 q2 (Paired.app h3' k4) (by rw [List.length_append]; have h := zx.1; rw [sizeLine_eq] at h; omega)
  exact ⟨b, c, vs, us, rfl, rfl, q2, hc, by rw [Paired.len h3, Paired.len k4]; exact zx.1, zx.2 σ g' _ (G2.up (by omega)) ((e'.le G).trans l2) R2⟩
end DL
/-! DL: texts: their length, +, times, signs, slices, loops. -/
namespace DL
open PySem PySem.Spec PyProof.Rows L2
variable {P : TokP} {K : PySem.W.Frag} {ks ks' ks1 ks2 kb : List Kd} {r : Rk} {ta tb te : TE}
instance : NN K Str := inferInstance
/-- the signs of a text -/
abbrev cpl (s : Str) : List Nat := s.cps.toList
theorem cpl_len (s : Str) : s.length = (cpl s).length := by
  unfold cpl
  rw [Array.length_toList]
  rfl
theorem ae_lenS {wa : TupT ks → (Str → Prop) → Prop} (ha : AE P ks (rF K Str) ca ta wa) : AE P ks (rF K Int) ca (tCB (fun xs H Q => ∃ x n, xs = [x] ∧ LenV K x H n ∧ Q (.int n) H) (tCons ta tNil)) (fun γ Q => wa γ fun s => (cpl s).length ≤ sizeLine ∧ Q ((cpl s).length : Int)) :=
  AE.cb1 (r := rF K Int) (k := vF K Str) (f := fun s Q => (cpl s).length ≤ sizeLine ∧ Q ((cpl s).length : Int)) ha (fun _ _ _ q z => ⟨z.1, q _ z.2⟩) fun A b0 g H x s Q G rx z => by
    have rx : x = .str s := rx
    subst rx
    exact ⟨_, (cpl s).length, rfl, ⟨by rw [cpl_len]; exact z.1, (cpl_len s).symm⟩, z.2 _ g H (G.up (by omega)) (Ext.refl g H) rfl⟩
def rAddS : R2 := fun x y H Q => ∃ i j, x = .str i ∧ y = .str j ∧ i.length + j.length ≤ sizeLine ∧ Q (.str (i ++ j)) H
theorem op_addS {X : Cx} : OpR X (binaryOp .Add) rAddS := op_add_str
/-- a text so many times -/
def repS (s : Str) (n : Int) : Str := ⟨(List.replicate n.toNat (cpl s)).flatten.toArray⟩
def rMulS : R2 := fun x y H Q => ∃ s n, x = .str s ∧ y = .int n ∧ -2 ^ 62 ≤ n ∧ n < 2 ^ 62 ∧ (cpl s).length * n.toNat ≤ sizeLine ∧ Q (.str (repS s n)) H
theorem foldl_reps (c : Array Nat) : ∀ (n : Nat) (acc : Array Nat), (List.replicate n c).foldl (· ++ ·) acc = acc ++ (List.replicate n c.toList).flatten.toArray
  | 0, acc => by simp
  | n + 1, acc => by
    rw [List.replicate_succ, List.foldl_cons, foldl_reps c n, List.replicate_succ, List.flatten_cons]
    apply Array.toList_inj.mp
    simp
theorem op_mulS {X : Cx} : OpR X (binaryOp .Mult) rMulS := by
  intro pins s σ H x y v u Q I rx ry h
  obtain ⟨z, n, rfl, rfl, hm, hn, hl, q⟩ := h
  obtain ⟨t, rfl⟩ := rx
  obtain ⟨t', rfl⟩ := ry
  by_cases h1 : n < 1
  · have h0 : ¬ n < -(2 ^ 63 : Int) := by omega
    · refine PySem.P.mul_str_none h1 h0 ⟨.str Str.empty, H, I.tok _, ⟨_, rfl⟩, ?_⟩
      have e : repS z n = Str.empty := by
        unfold repS
        rw [show n.toNat = 0 by omega]
        rfl
      rw [← e]
      exact q
  · have hz : z.length = (cpl z).length := cpl_len z
    have sl : sizeLine = 16777216 := sizeLine_eq
    refine PySem.P.mul_str (by
      rw [decide_eq_false (by omega), decide_eq_false (by omega)]
      rfl) (fun _ h2 => ?_) (fun _ h2 => ?_) ?_
    · intro h3
      have hp : (0 : Int) < n := by omega
      have h4 : ((z.length : Int)) * n ≤ 2 ^ 63 - 1 := by
        have : ((z.length * n.toNat : Nat) : Int) ≤ 16777216 := by rw [hz]; omega
        rw [Int.natCast_mul, Int.toNat_of_nonneg (by omega)] at this
        omega
      have h5 := (Int.le_ediv_iff_mul_le hp).mpr h4
      omega
    · unfold Builtin.Str.tooLong
      rw [hz]
      exact decide_eq_false (by omega)
    · rw [if_neg h1]
      by_cases h2 : (n == 1 || z.length == 0) = true
      · rw [if_pos h2]
        have e : repS z n = z := by
          unfold repS
          rcases Bool.or_eq_true _ _ |>.mp h2 with h | h
          · have : n = 1 := by simpa using h
            subst this
            simp [cpl]
          · have : (cpl z) = [] := by
              rw [← List.length_eq_zero_iff, ← hz]
              simpa using h
            have e2 : z = ⟨(cpl z).toArray⟩ := by simp [cpl]
            rw [this] at e2 ⊢
            rw [e2]
            simp
        rw [e] at q
        exact ⟨.str z, H, I, ⟨_, rfl⟩, q⟩
      · rw [if_neg h2]
        have e : (⟨(List.replicate n.toNat z.cps).foldl (· ++ ·) #[]⟩ : Str) = repS z n := by
          unfold repS
          rw [foldl_reps]
          simp [cpl]
        rw [e]
        refine ⟨?_, .str _, H, I.tok _, ⟨_, rfl⟩, q⟩
        rw [cpl_len]
        unfold repS cpl
        simp [Nat.mul_comm]
        have := hl
        unfold cpl at this
        simp at this
        exact this
theorem ae_addS {wa wb : TupT ks → (Str → Prop) → Prop} (ha : AE P ks (rF K Str) ca ta wa) (hb : AE P ks (rF K Str) cb tb wb) : AE P ks (rF K Str) (ca + cb) (tOp rAddS ta tb) (fun γ Q => wa γ fun a => wb γ fun b => (cpl a).length + (cpl b).length ≤ sizeLine ∧ Q (a ++ b)) :=
  AE.op2 (r := rF K Str) (k1 := vF K Str) (k2 := vF K Str) (f := fun a b Q => (cpl a).length + (cpl b).length ≤ sizeLine ∧ Q (a ++ b)) ha hb (fun _ _ _ _ q z => ⟨z.1, q _ z.2⟩) fun A b0 g H x y a b Q G rx ry z => by
    have rx : x = .str a := rx
    have ry : y = .str b := ry
    subst rx ry
    exact ⟨a, b, rfl, rfl, by rw [cpl_len, cpl_len]; exact z.1, z.2 _ g H (G.up (by omega)) (Ext.refl g H) rfl⟩
theorem ae_mulS {wa : TupT ks → (Str → Prop) → Prop} {wb : TupT ks → (Int → Prop) → Prop} (ha : AE P ks (rF K Str) ca ta wa) (hb : AE P ks (rF K Int) cb tb wb) : AE P ks (rF K Str) (ca + cb) (tOp rMulS ta tb) (fun γ Q => wa γ fun s => wb γ fun n => (-2 ^ 62 ≤ n ∧ n < 2 ^ 62 ∧ (cpl s).length * n.toNat ≤ sizeLine) ∧ Q (repS s n)) :=
  AE.op2 (r := rF K Str) (k1 := vF K Str) (k2 := vF K Int) (f := fun s n Q => (-2 ^ 62 ≤ n ∧ n < 2 ^ 62 ∧ (cpl s).length * n.toNat ≤ sizeLine) ∧ Q (repS s n)) ha hb (fun _ _ _ _ q z => ⟨z.1, q _ z.2⟩) fun A b0 g H x y a b Q G rx ry z => by
    have rx : x = .str a := rx
    have ry : y = .int b := ry
    subst rx ry
    exact ⟨a, b, rfl, rfl, z.1.1, z.1.2.1, z.1.2.2, z.2 _ g H (G.up (by omega)) (Ext.refl g H) rfl⟩
/-- the text of one sign -/
abbrev oneS (c : Nat) : Str := ⟨#[c]⟩
theorem ae_ixS {wa : TupT ks → (Str → Prop) → Prop} {wb : TupT ks → (Int → Prop) → Prop} (ha : AE P ks (rF K Str) ca ta wa) (hb : AE P ks (rF K Int) cb tb wb) : AE P ks (rF K Str) (ca + cb) (tOp rIxS ta tb) (fun γ Q => wa γ fun s => wb γ fun i => (cpl s).length ≤ sizeLine ∧ ∃ c, atI (cpl s) i = some c ∧ Q (oneS c)) :=
  AE.op2 (r := rF K Str) (k1 := vF K Str) (k2 := vF K Int) (f := fun s i Q => (cpl s).length ≤ sizeLine ∧ ∃ c, atI (cpl s) i = some c ∧ Q (oneS c)) ha hb (fun _ _ _ _ q z => ⟨z.1, z.2.imp fun _ h => ⟨h.1, q _ h.2⟩⟩) fun A b0 g H x y a b Q G rx ry z => by
    have rx : x = .str a := rx
    have ry : y = .int b := ry
    subst rx ry
    obtain ⟨z1, c, z2, z3⟩ := z
    exact ⟨a, b, c, rfl, rfl, by rw [cpl_len]; exact z1, z2, z3 _ g H (G.up (by omega)) (Ext.refl g H) rfl⟩
/-- a part of a text -/
def subS (s : Str) (l h : Option Int) : Str := ⟨(cutL (cpl s) l h).toArray⟩
theorem cutS_sub (s : Str) (l h : Option Int) : cutS s l h = subS s l h := by
  unfold cutS subS cutL
  rw [cpl_len] <;> rfl
theorem ae_sliceS {tl th : TO} {wa : TupT ks → (Str → Prop) → Prop} {wl wh : TupT ks → (Option Int → Prop) → Prop} (ha : AE P ks (rF K Str) ca ta wa) (hl : AP P ks cl tl wl) (hh : AP P ks ch th wh) :
    AE P ks (rF K Str) (ca + cl + ch) (tSl rSlS ta tl th) (fun γ Q => wa γ fun s => wl γ fun l => wh γ fun h => (cpl s).length ≤ sizeLine ∧ Q (subS s l h)) := by
  refine ⟨fun γ Q Q' q z => ha.mono γ _ _ (fun a za => hl.mono γ _ _ (fun b zb => hh.mono γ _ _ (fun c zc => ⟨zc.1, q _ zc.2⟩) zb) za) z, fun A b0 γ σ g H Q hb0 G R hw => ?_⟩
  refine ha.run A b0 γ σ g H _ (by omega) G R (ha.mono γ _ _ (fun s za x g1 H1 G1 e1 r1 => ?_) hw)
  refine hl.run A _ γ σ g1 H1 _ (by omega) G1 (R.ext G e1) (hl.mono γ _ _ (fun l zl g2 H2 G2 e2 => ?_) za)
  refine hh.run A _ γ σ g2 H2 _ (by omega) G2 ((R.ext G e1).ext G1 e2) (hh.mono γ _ _ (fun u zu g3 H3 G3 e3 => ?_) zl)
  have r1 : x = .str s := r1
  subst r1
  refine ⟨s, rfl, by rw [cpl_len]; exact zu.1, ?_⟩
  rw [cutS_sub]
  exact zu.2 _ g3 H3 (G3.up (by omega)) ((e1.trans G1 e2).trans G2 e3) rfl
/-- texts in a tuple or list of texts -/
theorem flat_strs : ∀ xs : List Str, (xs.map V.str).all flatV = true
  | [] => rfl
  | x :: xs => by
    rw [List.map_cons, List.all_cons, flat_strs xs]
    rfl
theorem in_strs (s : Str) : ∀ xs : List Str, inV (.str s) (xs.map V.str) = decide (s ∈ xs)
  | [] => by simp [inV]
  | x :: xs => by
    have ih := in_strs s xs
    unfold inV at ih ⊢
    rw [List.map_cons, List.any_cons, ih]
    have e : eqV (.str x) (.str s) = decide (s = x) := by
      show (x == s) = _
      rcases Classical.em (s = x) with h | h
      · subst h
        rw [decide_eq_true rfl]
        exact beq_self_eq_true _
      · rw [decide_eq_false h]
        exact beq_eq_false_iff_ne.mpr fun z => h z.symm
    rw [e, ← Bool.decide_or]
    exact decide_eq_decide.mpr List.mem_cons.symm
theorem ae_inTx {wa : TupT ks → (Str → Prop) → Prop} {wb : TupT ks → (List Str → Prop) → Prop} (ha : AE P ks (rF K Str) ca ta wa) (hb : AE P ks (rF K (List Str)) cb tb wb) : AE P ks (rF K Bool) (ca + cb) (tOp (rIn K false) ta tb) (fun γ Q => wa γ fun s => wb γ fun xs => Q (decide (s ∈ xs))) :=
  AE.op2 (r := rF K Bool) (k1 := vF K Str) (k2 := vF K (List Str)) (f := fun s xs Q => Q (decide (s ∈ xs))) ha hb (fun _ _ _ _ q z => q _ z) fun A b0 g H x y a b Q G rx ry z => by
    have rx : x = .str a := rx
    subst rx
    obtain ⟨p, vs, rfl, h, pr, hl⟩ := ry
    have e : vs = b.map V.str := by
      clear z hl h
      induction pr with
      | nil => rfl
      | cons r t ih =>
        rw [ih, List.map_cons, show _ = _ from r]
    subst e
    refine ⟨p, _, rfl, .inl (sq_of fz_sub h), rfl, flat_strs _, ?_⟩
    rw [in_strs]
    exact z _ g H (G.up (by omega)) (Ext.refl g H) rfl
end DL
/-! DL: enumerate over a text, from any number on. -/
namespace DL
open PySem PySem.Spec PyProof.Rows L2
def itT (x : Str) (tx : Tok) : Obj := { cls := .type (strIterType x), data := .fields #[.str x tx, .int 0 0] }
/-- an enumerate object: what is handed out, the index, the start that is kept (a great one), the item ahead -/
def enT (out : Value) (it : Addr) (i : Int) (gv old : Value) : Obj := { cls := .type "enumerate", data := .fields #[out, .bool false, .ref it, rawInt i, gv, old] }
def gvT (k : Int) (tk : Tok) : Value := if Builtin.SmallTypes.fitsIndex k = true then .none else .int k tk
section
variable {Pg : Program} {w : World} {A : Around} {E : Value → Shared → Prop} {s : Shared}
set_option maxHeartbeats 1000000 in
theorem en_meets (x : Str) (tx : Tok) (k : Int) (tk : Tok) : Meets (Builtin.«enumerate.__new__» ⟨[.type "enumerate", .str x tx], [(Str.ofString "start", .int k tk)]⟩) (fun _ R s =>
      R (.ok (.ret (.ref (s.heap.push (itT x tx)).objs.size))) { s with heap := (s.heap.push (itT x tx)).push (enT .none s.heap.objs.size k (gvT k tk) .none) }) := by
  by_cases hf : Builtin.SmallTypes.fitsIndex k = true
  · have g : gvT k tk = .none := if_pos hf
    rw [g]
    exact fun prog w A R s h => meets_enumerate_newK (begins_text x tx) k tk hf prog w A R s ⟨trivial, h⟩
  · have g : gvT k tk = .int k tk := if_neg hf
    rw [g]
    exact .of_wp fun prog w A R s h => by
      rcases s with ⟨H0, gg, dd, tt, oo⟩
      have en0 := sub_enumerate
      have big : (!Builtin.SmallTypes.fitsIndex k) = true := by simpa using hf
      have go : ∀ {A2 : Around} {E2 Q2 : Value → Shared → Prop}, Q2 (.ref H0.objs.size) ⟨H0.push (itT x tx), gg, dd, tt, oo⟩ → wpAny (model prog w) A2 (pyIter (.str x tx)) Q2 E2 ⟨H0, gg, dd, tt, oo⟩ := fun q => wpAny_pyIter_strU (s := ⟨H0, gg, dd, tt, oo⟩) q
      have n1 : (Str.ofString "start" == ("start" : Str)) = true ∧ (Str.ofString "start" != ("start" : Str)) = false ∧ (Str.ofString "start" != ("iterable" : Str)) = true ∧ (("start" : Str) == Str.ofString "start") = true ∧ (("iterable" : Str) == Str.ofString "start") = false := by decide +kernel
      obtain ⟨n1, n2, n3, n4, n5⟩ := n1
      wp_walk using go
      refine wpAny_stack_any fun zz => (wpAny_pure ?_)
      split
      · rename_i c _ _ _ _ _
        cases (c == Value.type "enumerate") <;> (wp_walk using go; exact ⟨_, rfl, h⟩)
      · wp_walk using go
        exact ⟨_, rfl, h⟩
theorem en_call (x : Str) (tx : Tok) (k : Int) (tk : Tok) {Q : Value → Shared → Prop}
    (h : ∀ h', h'.get? (s.heap.objs.size + 1) = some (enT .none s.heap.objs.size k (gvT k tk) .none) → h'.IsStrIter s.heap.objs.size (strIterType x) x tx 0 → h'.objs.size = s.heap.objs.size + 2 →
      (∀ b o, s.heap.get? b = some o → h'.get? b = some o) → Q (.ref (s.heap.objs.size + 1)) { s with heap := h' }) :
    wpAny (model Pg w) A (call (.type "enumerate") [.str x tx] [(Str.ofString "start", .int k tk)]) Q E s := by
  refine callType_newKw F.called_enumerate (by decide) (F.typeCall_enumerate_start _ _) (F.newCall_enumerate_start _ _) (fun obj => F.args_object_init_start obj _ _) F.entry_enumerate_new (en_meets x tx k tk) ?_
  have z1 : (s.heap.push (itT x tx)).objs.size = s.heap.objs.size + 1 := Heap.size_push ..
  show _ ∧ _
  rw [z1]
  have g1 := Heap.get?_push_size (s.heap.push (itT x tx)) (o := enT .none s.heap.objs.size k (gvT k tk) .none) rfl
  rw [z1] at g1
  exact ⟨⟨_, g1, rfl⟩, h _ g1 ⟨_, Heap.get?_push_of_some _ (Heap.get?_push_size _ rfl), rfl, rfl⟩ (by rw [Heap.size_push, z1]) fun b o y => Heap.get?_push_of_some _ (Heap.get?_push_of_some _ y)⟩
theorem wpAny_iteb {M : Model} {α β : Type} {c : Prop} [Decidable c] {a b : Sem α} {f : α → Sem β} {Q : β → Shared → Prop} (h : wpAny M A ((if c then a else b) >>= f) Q E s) : wpAny M A (if c then a >>= f else b >>= f) Q E s := by
  by_cases hc : c
  · rw [if_pos hc] at h ⊢
    exact h
  · rw [if_neg hc] at h ⊢
    exact h
/-- one turn, the start kept or not -/
theorem en_turn {e it : Addr} {i : Int} {gv old : Value} {R : Value → Heap → Nat → Prop} {Q : Option Value → Shared → Prop} (hg : gv = .none ∨ ∃ t, gv = .int i t) (he : s.heap.get? e = some (enT .none it i gv old))
    (hn : ∀ {Q2 : Value → Shared → Prop} {A2 : Around} {E2 : Value → Shared → Prop}, (∀ x h1 t1, R x h1 t1 → Q2 x { s with heap := h1, toks := t1 }) → wpAny (model Pg w) A2 (Builtin.SmallTypes.nextOf (.ref it)) Q2 E2 s)
    (hR : ∀ x h1 t1, R x h1 t1 → h1.get? e = some (enT .none it i gv old))
    (hQ : ∀ x h1 t1 h2 tn t2, R x h1 t1 → h2.get? e = some (enT (rawInt h1.objs.size) it (i + 1) .none x) → h2.get? h1.objs.size = some { cls := .type "tuple", data := .seq #[.int i tn, x] } → h2.objs.size = h1.objs.size + 1 →
      (∀ b o, b ≠ e → h1.get? b = some o → h2.get? b = some o) → Q (some (.ref h1.objs.size)) { s with heap := h2, toks := t2 }) : wpAny (model Pg w) A (pyNext (.ref e)) Q E s := by
  have ty : s.TypeIs (.ref e) "enumerate" := ⟨_, he, rfl⟩
  unfold pyNext
  refine wpAny_bind (wpAny_attempt (wpAny_callSpecial?_slot (name := Str.ofString "__next__") ty F.slot_enumerate_next (wpAny_call_entry F.slot_enumerate_next ty F.entry_enumerate_next ?_ (F.args_enumerate_next_1 _))))
  obtain ⟨hp, gn, dr, tk, os⟩ := s
  show wpAny _ _ (field (.ref e) 2 >>= _) _ _ _
  refine wpAny_bind (wpAny_field he rfl (x := .ref it) rfl (wpAny_bind (hn fun x ha ta ra => ?_)))
  have ea := hR x ha ta ra
  show wpAny _ _ (field (.ref e) 3 >>= _) _ _ ⟨ha, gn, dr, ta, os⟩
  refine wpAny_bind (wpAny_field ea rfl (x := rawInt i) rfl ?_)
  show wpAny _ _ (field (.ref e) 4 >>= _) _ _ ⟨ha, gn, dr, ta, os⟩
  refine wpAny_bind (wpAny_field ea rfl (x := gv) rfl ?_)
  have idx : ∀ {Q2 : Value → Shared → Prop} {A2 : Around} {E2 : Value → Shared → Prop}, (∀ vx tb tn, vx = .int i tn → Q2 vx ⟨ha, gn, dr, tb, os⟩) → wpAny (model Pg w) A2 (if (gv == .none) = true then mkInt i else pure gv) Q2 E2 ⟨ha, gn, dr, ta, os⟩ := fun k => by
    rcases hg with rfl | ⟨t, rfl⟩
    · rw [if_pos (by decide)]
      exact wpAny_mkInt (k _ _ _ rfl)
    · rw [if_neg (by rw [show (Value.int i t == Value.none) = false from rfl]; decide)]
      exact wpAny_pure (k _ _ _ rfl)
  refine wpAny_iteb ?_
  refine wpAny_bind (idx fun vx tb tn hv => ?_)
  show wpAny _ _ (setField (.ref e) 3 (rawInt (i + 1)) >>= _) _ _ ⟨ha, gn, dr, tb, os⟩
  refine wpAny_bind (wpAny_setField_rec ea (by simp) fun hb eb sb => ?_)
  replace eb : hb.get? e = some (enT .none it (i + 1) gv old) := eb
  show wpAny _ _ (setField (.ref e) 4 .none >>= _) _ _ ⟨hb, gn, dr, tb, os⟩
  refine wpAny_bind (wpAny_setField_rec eb (by simp) fun hc ec sc => ?_)
  replace ec : hc.get? e = some (enT .none it (i + 1) .none old) := ec
  show wpAny _ _ (newTuple [vx, x] >>= _) _ _ ⟨hc, gn, dr, tb, os⟩
  refine wpAny_bind (wpAny_newTuple ?_)
  have el : e < ha.objs.size := Heap.lt_size ea
  have size : hc.objs.size = ha.objs.size := by rw [sc.1, sb.1]
  have ed : (hc.push { cls := .type "tuple", data := .seq #[vx, x] }).get? e = some (enT .none it (i + 1) .none old) := Heap.get?_push_of_some _ ec
  have kd : ∀ b o, b ≠ e → ha.get? b = some o → (hc.push { cls := .type "tuple", data := .seq #[vx, x] }).get? b = some o := fun b o ne q => Heap.get?_push_of_some _ (sc.extBut b o ne (sb.extBut b o ne q))
  have td : (hc.push { cls := .type "tuple", data := .seq #[vx, x] }).get? ha.objs.size = some { cls := .type "tuple", data := .seq #[vx, x] } := by
    rw [← size]
    exact Heap.get?_push_size _ rfl
  have zd : (hc.push { cls := .type "tuple", data := .seq #[vx, x] }).objs.size = ha.objs.size + 1 := by rw [Heap.size_push, size]
  rw [size]
  generalize hc.push { cls := .type "tuple", data := .seq #[vx, x] } = hd at ed kd td zd
  show wpAny _ _ (Builtin.SmallTypes.ownedTupleIsFree (.ref e) >>= _) _ _ ⟨hd, gn, dr, tb, os⟩
  refine wpAny_bind ?_
  unfold Builtin.SmallTypes.ownedTupleIsFree
  refine wpAny_bind (wpAny_field ed rfl (x := .none) rfl (wpAny_pure ?_))
  simp only [if_true]
  refine wpAny_bind (wpAny_rule (wpAny_bind (wpAny_field ed rfl (x := old) rfl ?_)))
  refine wpAny_bind (wpAny_setField_rec ed (by simp) fun hf ef sf => ?_)
  replace ef : hf.get? e = some (enT .none it (i + 1) .none x) := ef
  show wpAny _ _ (Builtin.SmallTypes.ownedTupleHandOut (.ref e) (.ref ha.objs.size) >>= _) _ _ ⟨hf, gn, dr, tb, os⟩
  refine wpAny_bind ?_
  unfold Builtin.SmallTypes.ownedTupleHandOut
  refine wpAny_bind (wpAny_setField_rec ef (by simp) fun hg2 eg sg => ?_)
  replace eg : hg2.get? e = some (enT (rawInt ha.objs.size) it (i + 1) .none x) := eg
  refine wpAny_setField_rec eg (by simp) fun hk ek sk => ?_
  replace ek : hk.get? e = some (enT (rawInt ha.objs.size) it (i + 1) .none x) := ek
  have up : ∀ b o, b ≠ e → hd.get? b = some o → hk.get? b = some o := fun b o ne q => sk.extBut b o ne (sg.extBut b o ne (sf.extBut b o ne q))
  refine wpAny_bind (wpAny_letGo (wpAny_pure ⟨_, rfl, wpAny_pure (hQ x ha ta hk tn tb ra ek (by rw [← hv]; exact up _ _ (Nat.ne_of_gt el) td) (by rw [sk.1, sg.1, sf.1, zd]) fun b o ne q => up b o ne (kd b o ne q))⟩))
end
end DL
/-! DL: for i, c in enumerate(text, start=k), for c in text. -/
namespace DL
open PySem PySem.Spec PyProof.Rows L2
def Ites (x : Str) (k : Int) : It :=
  ⟨fun i _ => i < x.cps.size, fun i H v H' => ∃ T c, v = .ref T ∧ H T = none ∧ x.cps[i]? = some c ∧ H' = upd H T (.tup [.int (k + (i : Nat)), .str ⟨#[c]⟩]), fun i _ => x.cps.size ≤ i⟩
section
variable {Pg : Program} {w : World} {A : Around} {E : Value → Shared → Prop} {s : Shared}
theorem next_sign {it : Addr} {x : Str} {t : Tok} {i c : Nat} {Q : Value → Shared → Prop} (st : s.heap.IsStrIter it (strIterType x) x t i) (hx : x.cps[i]? = some c)
    (k : ∀ h', h'.IsStrIter it (strIterType x) x t (i + 1) → Heap.SameBut it s.heap h' → Q (.str ⟨#[c]⟩ s.toks) { s with heap := h', toks := s.toks + 1 }) :
    wpAny (model Pg w) A (Builtin.SmallTypes.nextOf (.ref it)) Q E s := by
  unfold strIterType at st k
  split at st
  · rename_i q
    rw [if_pos q] at k
    exact wpAny_nextOf_ascii_item st hx k
  · rename_i q
    rw [if_neg q] at k
    exact wpAny_nextOf_wide_item st hx k
theorem drawsT (hh : A.handled = none) (it : Addr) (x : Str) (t : Tok) : Draws Pg w A it [it] x.cps.size (fun i v => ∃ c u, x.cps[i]? = some c ∧ v = .str ⟨#[c]⟩ u) (fun i h => h.IsStrIter it (strIterType x) x t i) := by
  unfold strIterType
  split
  · exact Draws.strAscii hh it x t
  · exact Draws.strWide hh it x t
end
theorem callT_kw {M : Model} {A : Around} {E Q : Value → Shared → Prop} {s : Shared} {pos : Pos} {T : String} {xs : List (Bool × Sem Value)} {zs : List (Option Str × Sem Value)} (hp : (xs.any (·.1) || zs.any (·.1.isNone)) = false)
    (h : wpAny M A (evalArgs (.type T) true xs zs) (fun a s1 => wpAny M A (call (.type T) a.pos a.kw) Q E s1) E s) : wpAny M A (callWith pos (.type T) [] xs zs) Q E s := by
  unfold callWith
  refine wpAny_bind (wpAny_holding (wpAny_mono h (fun a s1 h1 => wpAny_bind (wpAny_standAt ?_)) fun _ _ q => q))
  simp only [hp]
  exact wpAny_bind (wpAny_pure (wpAny_bind (wpAny_mono h1 (fun r s2 hr => wpAny_bind (wpAny_holding (wpAny_point (wpAny_pure hr)))) fun _ _ q => q)))
theorem turn_ens {P : Program} {w : World} {K : PySem.W.Frag} {elts : List Expr} {kk : Nat} {tpos : Pos} {e it : Addr} (x : Str) (tx : Tok) (k : Int) (hx : 0 < x.cps.size) (ne : e ≠ it) :
    Turn P w K (.Tuple elts kk tpos) (Ites x k) [e, it] e (fun i h => (∃ gv old, h.get? e = some (enT .none it (k + (i : Nat)) gv old) ∧ (gv = .none ∨ i = 0 ∧ ∃ t, gv = .int k t)) ∧ h.IsStrIter it (strIterType x) x tx i ∧ i ≤ x.cps.size) where
  mem := by simp
  obj := fun i h st b hb => by
    obtain ⟨⟨gv, old, he, _⟩, ⟨o, ho, hc, hd⟩, _⟩ := st
    have e' : b = e ∨ b = it := by simpa using hb
    rcases e' with z | z
    · rw [z]
      exact ⟨_, he, fun v q => nomatch q⟩
    · rw [z]
      exact ⟨o, ho, fun v q => by rw [hd] at q; cases q⟩
  keep := fun i h h' st kp => by
    obtain ⟨⟨gv, old, he, hg⟩, ⟨o, ho, r⟩, hl⟩ := st
    exact ⟨⟨gv, old, kp e (by simp) _ he, hg⟩, ⟨o, kp it (by simp) o ho, r⟩, hl⟩
  item := by
    intro X hP hw hK hc i pins s σ H E I hf st hg
    subst hP hw hK
    obtain ⟨⟨gv, old, he, hgv⟩, hit, hl⟩ := st
    have hg : i < x.cps.size := hg
    have hxc : x.cps[i]? = some x.cps[i] := by simp [hg]
    have hel : e < s.heap.objs.size := Heap.lt_size he
    have hil : it < s.heap.objs.size := by obtain ⟨_, q, _⟩ := hit; exact Heap.lt_size q
    have gg : gv = .none ∨ ∃ t, gv = .int (k + (i : Nat)) t := hgv.imp id fun ⟨z, t, q⟩ => ⟨t, by rw [q, z]; simp⟩
    refine en_turn (R := fun v h1 t1 => v = .str ⟨#[x.cps[i]]⟩ s.toks ∧ h1.IsStrIter it (strIterType x) x tx (i + 1) ∧ Heap.SameBut it s.heap h1 ∧ t1 = s.toks + 1) gg he
      (fun kq => next_sign hit hxc fun h' q1 q2 => kq _ h' _ ⟨rfl, q1, q2, rfl⟩) (fun v h1 t1 r => (r.2.2.1.2 e ne).trans he) fun v h1 t1 h2 tn t2 r eo tt sz kb => ?_
    obtain ⟨rfl, q1, q2, _⟩ := r
    have s1 : h1.objs.size = s.heap.objs.size := q2.1
    rw [s1] at eo tt sz ⊢
    refine ⟨_, rfl, wpAny_letOwnedTupleGo_enum (s := { s with heap := h2, toks := t2 }) (i := k + (i : Nat) + 1) eo fun h3 e3 sb => ?_⟩
    have hT : h3.get? s.heap.objs.size = some { cls := .type "tuple", data := .seq #[.int (k + (i : Nat)) tn, .str ⟨#[x.cps[i]]⟩ s.toks] } := (sb.2 _ (Nat.ne_of_gt hel)).trans tt
    have new : ObjOk X.prog X.w (upd H s.heap.objs.size (.tup [.int (k + (i : Nat)), .str ⟨#[x.cps[i]]⟩])) h3 s.heap.objs.size (.tup [.int (k + (i : Nat)), .str ⟨#[x.cps[i]]⟩]) :=
      ⟨by show 2 ≤ sizeLine; decide, [.int (k + (i : Nat)) tn, .str ⟨#[x.cps[i]]⟩ s.toks], .cons ⟨_, rfl⟩ (.cons ⟨_, rfl⟩ .nil), ⟨_, hT, rfl, _, rfl⟩⟩
    have I1 : Inv X pins σ (upd H s.heap.objs.size (.tup [.int (k + (i : Nat)), .str ⟨#[x.cps[i]]⟩])) { s with heap := h3, toks := t2 } :=
      I.turnedNew (ch := [e, it]) (fun b ob hb q => (sb.2 b (fun z => hb (by simp [z]))).trans (kb b ob (fun z => hb (by simp [z])) ((q2.2 b (fun z => hb (by simp [z]))).trans q))) hf (Nat.le_refl _) new
    refine ⟨.ref s.heap.objs.size, _, I1, rfl, ⟨_, _, rfl, I.hok.fresh (Nat.le_refl _), hxc, rfl⟩, ⟨⟨.none, .str ⟨#[x.cps[i]]⟩ s.toks, by rw [show k + ((i + 1 : Nat) : Int) = k + (i : Nat) + 1 by omega]; exact e3, .inl rfl⟩, ?_, hg⟩, fun b hb => ?_⟩
    · obtain ⟨o, ho, r⟩ := q1
      exact ⟨o, (sb.2 it (Ne.symm ne)).trans (kb it o (Ne.symm ne) ho), r⟩
    · have hb' : b < s.heap.objs.size := by
        have e' : b = e ∨ b = it := by simpa using hb
        rcases e' with z | z
        · rw [z]; exact hel
        · rw [z]; exact hil
      rw [upd_ne (Nat.ne_of_lt hb')]
      exact (hf b hb).1
  done := by
    intro X hP hw hK hc i pins s σ H E I hf st hg
    subst hP hw hK
    obtain ⟨⟨gv, old, he, hgv⟩, hit, hl⟩ := st
    have hg : x.cps.size ≤ i := hg
    have e1 : gv = .none := hgv.resolve_right fun z => by omega
    subst e1
    have e2 : i = x.cps.size := by omega
    obtain ⟨f0, f1, f2, f3, f4, f5⟩ := hf it (by simp)
    rw [e2] at hit
    exact wpAny_pyNext_enum_endD (drawsT (by exact I.ok.hd hc) it x tx) he hit fun h' eb => ⟨rfl, I.turned (t' := s.toks) (fun b o hb q => eb b o hb q) f0 f1 f3 f4 f5⟩
  self := fun A i s Q E st h => by
    obtain ⟨⟨gv, old, he, hgv⟩, _⟩ := st
    have ty : s.TypeIs (.ref e) "enumerate" := ⟨_, he, rfl⟩
    refine wpAny_pyIter_slot ty F.slot_enumerate_iter (wpAny_call_entry F.slot_enumerate_iter ty F.entry_enumerate_iter (show wpAny _ _ (ret (.ref e)) _ _ s from ?_) (F.args_enumerate_iter_1 _))
    exact wpAny_pure ⟨_, rfl, "enumerate", _, ty, F.slot_enumerate_next.lookup, h⟩
/-- enumerate(text, start=k) -/
def iEnS (ta tk : TA) : TI := fun σ H R => ta σ H fun vs H1 => ∃ x, vs = [.str x] ∧ tk σ H1 fun zs H2 => ∃ k, zs = [.int k] ∧ 0 < x.cps.size ∧ R (Ites x k) H2
section
variable {X : Cx} {e ek : Expr} {ta tk : TA} {p pos tpos kpos : Pos} {elts : List Expr} {kk : Nat}
theorem pi_enS (hg : Gl X "enumerate") (hm : X.mg "enumerate" = none) (ha : PA X [e] ta) (hk : PK X [⟨some "start", ek, kpos⟩] tk) (na : starEach [e] X.env = (false, eval e X.env) :: starEach [] X.env := by rfl)
    (hpl : ((backTo pos (starEach [e] X.env)).any (·.1) || (backToKw pos (keywordEach [⟨some "start", ek, kpos⟩] X.env)).any (·.1.isNone)) = false := by rfl) (hall : (backToKw pos (keywordEach [⟨some "start", ek, kpos⟩] X.env)).all (·.1.isSome) = true := by rfl)
    (hks : (backToKw pos (keywordEach [⟨some "start", ek, kpos⟩] X.env)).filterMap (·.1) = [Str.ofString "start"] := by rfl) :
    PI X (.Tuple elts kk tpos) (.Call (.Name "enumerate" p) [e] [⟨some "start", ek, kpos⟩] pos) (iEnS ta tk) := by
  refine ⟨fun pins s σ H R I h => ?_⟩
  refine wpAny_Call_Name_kw (ld_blt I hg hm boot_enumerate ?_ (by decide) (by decide))
  refine callT_kw hpl (PyProof.Rows.evalArgs_kw2 hall ?_ na)
  refine thn (ha.run pos pins s σ H _ I h) fun us s1 ⟨vs, H1, I1, r1, x, ex, q1⟩ => thn (hk.run pos pins s1 σ H1 _ I1 q1) fun ws s2 ⟨zs, H2, I2, r2, k, ez, hx, q2⟩ => ?_
  subst ex ez
  rw [hks]
  obtain ⟨u, rfl, tx, rfl⟩ := vals1 r1
  obtain ⟨v, rfl, tv, rfl⟩ := vals1 r2
  refine en_call x tx k tv fun h' he hit hsz kp => ?_
  have I3 : Inv X pins σ H2 { s2 with heap := h' } := I2.kept (t' := s2.toks) kp
  have T := turn_ens (P := X.prog) (w := X.w) (K := X.K) (elts := elts) (kk := kk) (tpos := tpos) (e := s2.heap.objs.size + 1) (it := s2.heap.objs.size) x tx k hx (Nat.succ_ne_self _)
  have st : (∃ gv old, h'.get? (s2.heap.objs.size + 1) = some (enT .none s2.heap.objs.size (k + ((0 : Nat) : Int)) gv old) ∧ (gv = .none ∨ (0 : Nat) = 0 ∧ ∃ t, gv = .int k t)) ∧ h'.IsStrIter s2.heap.objs.size (strIterType x) x tx 0 ∧ 0 ≤ x.cps.size := by
    refine ⟨⟨gvT k tv, .none, ?_, ?_⟩, hit, Nat.zero_le _⟩
    · rw [show k + ((0 : Nat) : Int) = k by omega]
      exact he
    · unfold gvT
      split
      · exact .inl rfl
      · exact .inr ⟨rfl, _, rfl⟩
  refine T.self X.A 0 { s2 with heap := h' } _ _ st ⟨s2.heap.objs.size + 1, [s2.heap.objs.size + 1, s2.heap.objs.size], _, _, H2, rfl, I3, T, st, fun b hb => ?_, q2⟩
  have hle : s2.heap.objs.size ≤ b := by
    have e' : b = s2.heap.objs.size + 1 ∨ b = s2.heap.objs.size := by simpa using hb
    rcases e' with z | z
    · rw [z]
      exact Nat.le_succ _
    · rw [z]
      exact Nat.le_refl _
  exact I2.fpOk hle (I2.hok.fresh hle)
/-- enumerate(text) -/
def iEnS0 (ta : TA) : TI := fun σ H R => ta σ H fun vs H1 => ∃ x, vs = [.str x] ∧ 0 < x.cps.size ∧ R (Ites x 0) H1
theorem pi_enS0 (hg : Gl X "enumerate") (hm : X.mg "enumerate" = none) (ha : PA X [e] ta) (hs : starEach [e] X.env = [(false, eval e X.env)] := by rfl) :
    PI X (.Tuple elts kk tpos) (.Call (.Name "enumerate" p) [e] [] pos) (iEnS0 ta) := by
  refine ⟨fun pins s σ H R I h => ?_⟩
  refine Call_ (ld_blt I hg hm boot_enumerate (PyProof.Rows.callWith_type1 (thn (ha.run pos pins s σ H _ I h) fun us s1 ⟨vs, H1, I1, r1, x, ex, hx, q⟩ => ?_) hs rfl))
  subst ex
  obtain ⟨u, rfl, tx, rfl⟩ := vals1 r1
  refine call_enumerate_str fun h' he hit hsz kp => ?_
  have I3 : Inv X pins σ H1 { s1 with heap := h' } := I1.kept (t' := s1.toks) kp
  have T := turn_ens (P := X.prog) (w := X.w) (K := X.K) (elts := elts) (kk := kk) (tpos := tpos) (e := s1.heap.objs.size + 1) (it := s1.heap.objs.size) x tx 0 hx (Nat.succ_ne_self _)
  have st : (∃ gv old, h'.get? (s1.heap.objs.size + 1) = some (enT .none s1.heap.objs.size (0 + ((0 : Nat) : Int)) gv old) ∧ (gv = .none ∨ (0 : Nat) = 0 ∧ ∃ t, gv = .int 0 t)) ∧ h'.IsStrIter s1.heap.objs.size (strIterType x) x tx 0 ∧ 0 ≤ x.cps.size :=
    ⟨⟨.none, .none, he, .inl rfl⟩, hit, Nat.zero_le _⟩
  refine T.self X.A 0 { s1 with heap := h' } _ _ st ⟨s1.heap.objs.size + 1, [s1.heap.objs.size + 1, s1.heap.objs.size], _, _, H1, rfl, I3, T, st, fun b hb => ?_, q⟩
  have hle : s1.heap.objs.size ≤ b := by
    have e' : b = s1.heap.objs.size + 1 ∨ b = s1.heap.objs.size := by simpa using hb
    rcases e' with z | z
    · rw [z]
      exact Nat.le_succ _
    · rw [z]
      exact Nat.le_refl _
  exact I1.fpOk hle (I1.hok.fresh hle)
end
variable {P : TokP} {K : PySem.W.Frag} {ks : List Kd} {te tk : TE}
/-- the signs of a text, numbered from k on -/
def enumK (k : Int) (cs : List Nat) : List (Int × Str) := (rangeI k cs.length).zip (cs.map oneS)
theorem enumK_len (k : Int) (cs : List Nat) : (enumK k cs).length = cs.length := by
  unfold enumK
  rw [List.length_zip, rangeI_len, List.length_map, Nat.min_self]
theorem enumK_get {k : Int} {cs : List Nat} {i : Nat} {y : Int × Str} (h : (enumK k cs)[i]? = some y) : ∃ c, cs[i]? = some c ∧ y = (k + i, oneS c) := by
  unfold enumK at h
  obtain ⟨y1, y2⟩ := y
  rw [List.getElem?_zip_eq_some] at h
  obtain ⟨h1, h2⟩ := h
  unfold rangeI at h1
  rw [List.getElem?_map] at h1 h2
  have hi : i < cs.length := by
    rcases Nat.lt_or_ge i cs.length with q | q
    · exact q
    · rw [List.getElem?_eq_none q] at h2
      cases h2
  rw [List.getElem?_range hi] at h1
  rw [List.getElem?_eq_getElem hi] at h2
  have e1 := Option.some.inj h1
  have e2 := Option.some.inj h2
  exact ⟨cs[i], List.getElem?_eq_getElem hi, Prod.ext e1.symm e2.symm⟩
theorem it_ens {x : Str} {k : Int} {gs : Gh} {Hs : Hp} (hl : (cpl x).length ≤ sizeLine) : ItOk P K (Ites x k) (enumK k (cpl x)) gs Hs := by
  have ll : x.cps.size = (cpl x).length := (Array.length_toList).symm
  refine ⟨?_, fun A b0 g H i G l hi => ?_, fun A b0 g H i G l hi => ?_, fun A b0 g H i v H' G l hy y ey => ?_⟩
  · rw [enumK_len]
    rw [sizeLine_eq] at hl
    omega
  · rw [enumK_len] at hi
    show x.cps.size ≤ i
    omega
  · rw [enumK_len] at hi
    show i < x.cps.size
    omega
  · obtain ⟨T, c, rfl, nT, hc, rfl⟩ := hy
    obtain ⟨c', h1, rfl⟩ := enumK_get ey
    have e : c' = c := by
      have h2 : (cpl x)[i]? = some c := by
        unfold cpl
        rw [Array.getElem?_toList]
        exact hc
      rw [h1] at h2
      exact Option.some.inj h2
    subst e
    obtain ⟨G3, e3⟩ := G.new0 (o := .tup [.int (k + (i : Nat)), .str ⟨#[c']⟩]) nT
    exact ⟨G3, e3, T, _, _, rfl, .inl (fz_some.mpr ⟨upd_same, .inl rfl⟩), rfl, rfl⟩
theorem ai_enS {wa : TupT ks → (Str → Prop) → Prop} {wk : TupT ks → (Int → Prop) → Prop} (ha : AE P ks (rF K Str) ca te wa) (hk : AE P ks (rF K Int) ck tk wk) :
    AI P K ks (Int × Str) (ca + ck) (iEnS (tCons te tNil) (tCons tk tNil)) (fun γ Q => wa γ fun x => wk γ fun k => (0 < (cpl x).length ∧ (cpl x).length ≤ sizeLine) ∧ Q (enumK k (cpl x))) := by
  refine ⟨fun γ Q Q' q z => ha.mono γ _ _ (fun a za => hk.mono γ _ _ (fun b zb => ⟨zb.1, q _ zb.2⟩) za) z, fun A b0 γ σ g H Q hb0 G R hw => ?_⟩
  refine ha.run A b0 γ σ g H _ (by omega) G R (ha.mono γ _ _ (fun x zx v g1 H1 G1 e1 r1 => ?_) hw)
  have r1 : v = .str x := r1
  subst r1
  refine ⟨x, rfl, ?_⟩
  refine hk.run A _ γ σ g1 H1 _ (by omega) G1 (R.ext G e1) (hk.mono γ _ _ (fun k zk u g2 H2 G2 e2 r2 => ?_) zx)
  exact ⟨k, by rw [show u = .int k from r2], by have := zk.1.1; unfold cpl at this; rw [Array.length_toList] at this; exact this, zk.2 _ g2 H2 (G2.up (by omega)) (e1.trans G1 e2) (it_ens zk.1.2)⟩
theorem ai_enS0 {wa : TupT ks → (Str → Prop) → Prop} (ha : AE P ks (rF K Str) ca te wa) :
    AI P K ks (Int × Str) ca (iEnS0 (tCons te tNil)) (fun γ Q => wa γ fun x => (0 < (cpl x).length ∧ (cpl x).length ≤ sizeLine) ∧ Q (enumK 0 (cpl x))) := by
  refine ⟨fun γ Q Q' q z => ha.mono γ _ _ (fun a za => ⟨za.1, q _ za.2⟩) z, fun A b0 γ σ g H Q hb0 G R hw => ?_⟩
  refine ha.run A b0 γ σ g H _ (by omega) G R (ha.mono γ _ _ (fun x zx v g1 H1 G1 e1 r1 => ?_) hw)
  have r1 : v = .str x := r1
  subst r1
  exact ⟨x, rfl, by have := zx.1.1; unfold cpl at this; rw [Array.length_toList] at this; exact this, zx.2 _ g1 H1 (G1.up (by omega)) e1 (it_ens zx.1.2)⟩
end DL
/-! DL: tuples of texts. -/
namespace DL
open PySem PySem.Spec PyProof.Rows L2
variable {P : TokP} {K : PySem.W.Frag} {ks ks' ks1 ks2 kb : List Kd} {r : Rk} {ta tb te : TE}
structure TupS where
  xs : List Str
instance : Rp K TupS := ⟨fun F v x => ∃ a, v = .ref a ∧ TpAt K F a (x.xs.map V.str), fun s ⟨a, e, h⟩ => ⟨a, e, h.mono fun b zs q => s b _ q⟩⟩
/-- a tuple of texts that the head holds -/
def tCT (K : PySem.W.Frag) (xs : List Str) : TE := fun σ H Q => ∀ a, SqT K (fun _ => none) a (xs.map V.str) → Q (.ref a) H
theorem pe_globT {X : Cx} {x : Str} {xs : List Str} {pos : Pos} (hg : Gl X x) (hm : ∃ a, X.mg x = some (.ref a) ∧ SqT X.K (fun _ => none) a (xs.map V.str)) (hd : (x == ("__debug__" : Str)) = false := by decide) : PE X (.Name x pos) (tCT X.K xs) := by
  obtain ⟨a, hm, h⟩ := hm
  exact ⟨fun pins s σ H Q I q => (pe_glob (v := .ref a) (u := .ref a) hg hm rfl hd).run pins s σ H Q I (q a h)⟩
theorem ae_cT {xs : List Str} : AE P ks (rF K TupS) 0 (tCT K xs) (fun _ Q => Q ⟨xs⟩) :=
  ⟨fun _ _ _ q z => q _ z, fun A b0 γ σ g H Q hb0 G R hw a h => hw _ g H (G.up (by omega)) (Ext.refl g H) ⟨a, rfl, .inr h⟩⟩
theorem strs_paired {F : Hp} : ∀ {vs : List V} {xs : List Str}, Paired (Rp.rp K F) vs xs → vs = xs.map V.str
  | _, _, .nil => rfl
  | _, _, .cons r t => by rw [strs_paired t, List.map_cons, show _ = _ from r]
theorem ae_tupS {n : Nat} {t : TA} {wt : TupT ks → (List Str → Prop) → Prop} (h : AX P K ks Str n ct t wt) (hn : n ≤ 1000 := by decide) : AE P ks (rF K TupS) ct (tTup t) (fun γ Q => wt γ fun xs => Q ⟨xs⟩) := by
  refine ⟨fun γ Q Q' q z => h.mono γ _ _ (fun a za => q _ za) z, fun A b0 γ σ g H Q hb0 G R hw => ?_⟩
  refine h.run A b0 γ σ g H _ hb0 G R (h.mono γ _ _ (fun xs z vs g1 H1 G1 e1 hl rv => ?_) hw)
  refine ⟨by rw [hl]; exact Nat.le_of_lt (small1000 hn), fun p hp => ?_⟩
  obtain ⟨G2, e2⟩ := G1.new0 (o := .tup vs) hp
  exact z _ g1 _ G2 (e1.trans G1 e2) ⟨p, rfl, .inl (fz_some.mpr ⟨by rw [upd_same, strs_paired rv], .inl rfl⟩)⟩
theorem ae_inTS {wa : TupT ks → (Str → Prop) → Prop} {wb : TupT ks → (TupS → Prop) → Prop} (ha : AE P ks (rF K Str) ca ta wa) (hb : AE P ks (rF K TupS) cb tb wb) : AE P ks (rF K Bool) (ca + cb) (tOp (rIn K false) ta tb) (fun γ Q => wa γ fun s => wb γ fun x => Q (decide (s ∈ x.xs))) :=
  AE.op2 (r := rF K Bool) (k1 := vF K Str) (k2 := vF K TupS) (f := fun s x Q => Q (decide (s ∈ x.xs))) ha hb (fun _ _ _ _ q z => q _ z) fun A b0 g H x y a b Q G rx ry z => by
    have rx : x = .str a := rx
    subst rx
    obtain ⟨p, rfl, h⟩ := ry
    refine ⟨p, _, rfl, .inr (TpAt.sq fz_sub h), rfl, flat_strs _, ?_⟩
    rw [in_strs]
    exact z _ g H (G.up (by omega)) (Ext.refl g H) rfl
end DL
/-! DL: texts turned about. -/
namespace DL
open PySem PySem.Spec PyProof.Rows L2
def revS (s : Str) : Str := ⟨(cpl s).reverse.toArray⟩
theorem rev_picked (s : Str) : (Builtin.Str.strSliceIndices none none (-1) s.length).filterMap (s.cps[·]?) = (cpl s).reverse := by
  rw [picked_rev, filterMap_get, List.map_map]
  · have hl : s.length = (cpl s).length := cpl_len s
    apply List.ext_getElem
    · simp [hl]
    · intro i h1 h2
      have h3 : i < (cpl s).length := by simpa using h2
      rw [List.getElem_map, List.getElem_range, List.getElem_reverse]
      have h4 : s.length - 1 - i < s.cps.size := by
        have : s.length = s.cps.size := rfl
        omega
      show s.cps.getD (s.length - 1 - i) 0 = _
      unfold Array.getD
      rw [dif_pos h4]
      simp [cpl, Str.length]
  · intro i hi
    obtain ⟨k, hk, rfl⟩ := List.mem_map.mp hi
    have hk' := List.mem_range.mp hk
    show s.length - 1 - k < s.length
    omega
def tRevS (te : TE) : TE := fun σ H Q => te σ H fun x H1 => ∃ s, x = .str s ∧ s.length ≤ sizeLine ∧ Q (.str (revS s)) H1
theorem pe_revS {X : Cx} {e : Expr} {te : TE} {k : Nat} {p1 p2 p3 pos : Pos} (he : PE X e te) : PE X (.Subscript e (.Slice none none (some (.UnaryOp .USub (.Constant (.int 1) k p1) p2)) p3) pos) (tRevS te) := by
  refine ⟨fun pins s σ H Q I h => ?_⟩
  refine Subscript_ (thn (he.run pins s σ H _ I h) fun v s1 ⟨x, H1, I1, r1, z, ez, hz, q⟩ => ?_)
  subst ez
  obtain ⟨tz, rfl⟩ := r1
  have back : PO X (some (.UnaryOp .USub (.Constant (.int 1) k p1) p2)) (tPart (tUn (rU fun i => .int (-i)) (tC (.int 1)))) := po_some (pe_un un_neg pe_int)
  refine wpAny_Slice (thn (po_none.run pins s1 σ H1 (fun o H2 => o = none ∧ H2 = H1) I1 ⟨rfl, rfl⟩) fun v1 s2 ⟨o1, H2, I2, g1, f1, e2⟩ => ?_)
  subst f1 e2
  refine thn (po_none.run pins s2 σ H2 (fun o H3 => o = none ∧ H3 = H2) I2 ⟨rfl, rfl⟩) fun v2 s3 ⟨o2, H3, I3, g2, f2, e3⟩ => ?_
  subst f2 e3
  refine thn (back.run pins s3 σ H3 (fun o H4 => o = some (-1) ∧ H4 = H3) I3 ⟨1, rfl, -1, rfl, rfl, rfl⟩) fun v3 s4 ⟨o3, H4, I4, g3, f3, e4⟩ => ?_
  subst f3 e4
  have I5 : Inv X pins σ H4 { s4 with heap := s4.heap.push { cls := .type "slice", data := .fields #[v1, v2, v3] } } := I4.kept (t' := s4.toks) fun b ob q => Heap.get?_push_of_some _ q
  obtain ⟨l, rfl, h1⟩ := IsPart.raw g1
  obtain ⟨u, rfl, h2⟩ := IsPart.raw g2
  obtain ⟨w, rfl, h3⟩ := IsPart.raw g3
  cases l with
  | some l => cases h1
  | none =>
  cases u with
  | some u => cases h2
  | none =>
  cases w with
  | none => cases h3
  | some w =>
  obtain ⟨w1, w2⟩ := w
  have h3 : some w1 = some (-1) := h3
  cases h3
  refine tail_any (ops := [.str z tz, .ref s4.heap.objs.size]) (typeIs_str _ z tz) F.slot_str_getitem.lookup ?_ (by with_unfolding_all rfl)
  refine wpAny_getItem_str_slice (l := none) (u := none) (st := some (-1, w2)) ⟨_, Heap.get?_push_size _ rfl, rfl, rfl⟩ rfl ?_
  unfold sliceMade
  rw [if_neg (by simp)]
  unfold slicePicked
  show Made.post (Made.str ⟨((Builtin.Str.strSliceIndices none none (-1) z.length).filterMap (z.cps[·]?)).toArray⟩) _ _
  rw [rev_picked]
  refine ⟨?_, .str _, H4, I5.tok _, ⟨_, rfl⟩, q⟩
  rw [cpl_len]
  simp [cpl]
  exact hz
variable {P : TokP} {K : PySem.W.Frag} {ks : List Kd} {ta : TE}
theorem ae_revS {wa : TupT ks → (Str → Prop) → Prop} (ha : AE P ks (rF K Str) ca ta wa) : AE P ks (rF K Str) ca (tRevS ta) (fun γ Q => wa γ fun s => (cpl s).length ≤ sizeLine ∧ Q (revS s)) := by
  refine ⟨fun γ Q Q' q z => ha.mono γ _ _ (fun a za => ⟨za.1, q _ za.2⟩) z, fun A b0 γ σ g H Q hb0 G R hw => ?_⟩
  refine ha.run A b0 γ σ g H _ hb0 G R (ha.mono γ _ _ (fun s zs x g1 H1 G1 e1 r1 => ?_) hw)
  have r1 : x = .str s := r1
  exact ⟨s, r1, by rw [cpl_len]; exact zs.1, zs.2 _ g1 H1 G1 e1 rfl⟩
end DL
/-! DL: tuples of four, a list unpacked into four names. -/
namespace DL
open PySem PySem.Spec PyProof.Rows L2
variable {P : TokP} {K : PySem.W.Frag} {ks ks' ks1 ks2 kb : List Kd} {r : Rk} {ta tb te : TE}
structure T4 (α β γ δ : Type) where
  a : α
  b : β
  c : γ
  d : δ
instance {α β γ δ : Type} [Rp K α] [Rp K β] [Rp K γ] [Rp K δ] : Rp K (T4 α β γ δ) := ⟨fun F v x => ∃ a v1 v2 v3 v4, v = .ref a ∧ TpAt K F a [v1, v2, v3, v4] ∧ Rp.rp K F v1 x.a ∧ Rp.rp K F v2 x.b ∧ Rp.rp K F v3 x.c ∧ Rp.rp K F v4 x.d,
  fun s ⟨a, v1, v2, v3, v4, e, h, q1, q2, q3, q4⟩ => ⟨a, v1, v2, v3, v4, e, h.mono fun _ _ z => s _ _ z, Rp.mono s q1, Rp.mono s q2, Rp.mono s q3, Rp.mono s q4⟩⟩
instance {α β γ δ : Type} [Rp K α] [Rp K β] [Rp K γ] [Rp K δ] : NN K (T4 α β γ δ) := ⟨fun ⟨_, _, _, _, _, h, _⟩ z => by cases h; cases z⟩
instance {α β γ δ : Type} [Rp K α] [Rp K β] [Rp K γ] [Rp K δ] [Flat K α] [Flat K β] [Flat K γ] [Flat K δ] : Flat K (T4 α β γ δ) := ⟨fun s ⟨a, v1, v2, v3, v4, e, h, q1, q2, q3, q4⟩ => ⟨a, v1, v2, v3, v4, e, h.mono s, Flat.fl s q1, Flat.fl s q2, Flat.fl s q3, Flat.fl s q4⟩⟩
section
variable {α β γ' δ : Type} [Rp K α] [Rp K β] [Rp K γ'] [Rp K δ]
theorem ae_four {t : TA} {wt : TupT ks → (TupV [vF K α, vF K β, vF K γ', vF K δ] → Prop) → Prop} (h : AA P ks [vF K α, vF K β, vF K γ', vF K δ] ct t wt) :
    AE P ks (rF K (T4 α β γ' δ)) ct (tTup t) (fun γ Q => wt γ fun xs => Q ⟨xs.1, xs.2.1, xs.2.2.1, xs.2.2.2.1⟩) := by
  refine ⟨fun γ Q Q' q z => h.mono γ _ _ (fun a za => q _ za) z, fun A b0 γ σ g H Q hb0 G R hw => ?_⟩
  refine h.run A b0 γ σ g H _ (by omega) G R (h.mono γ _ _ (fun xs z vs g1 H1 G1 e1 rv => ?_) hw)
  obtain ⟨v1, r1, rfl, h1, v2, r2, rfl, h2, v3, r3, rfl, h3, v4, r4, rfl, h4, rfl⟩ := rv
  refine ⟨by show 4 ≤ sizeLine; decide, fun p hp => ?_⟩
  obtain ⟨G2, e2⟩ := G1.new0 (o := .tup [v1, v2, v3, v4]) hp
  exact z _ g1 _ (G2.up (by omega)) (e1.trans G1 e2) ⟨p, v1, v2, v3, v4, rfl, fz_new_tup, rp_ext G1 e2 h1, rp_ext G1 e2 h2, rp_ext G1 e2 h3, rp_ext G1 e2 h4⟩
variable {wa : TupT ks → (T4 α β γ' δ → Prop) → Prop}
theorem ae_q1 (ha : AE P ks (rF K (T4 α β γ' δ)) ca ta wa) : AE P ks (rF K α) ca (tOp (rIxT K) ta (tC (.int 0))) (fun γ Q => wa γ fun x => Q x.a) :=
  AE.un (r := rF K α) (k := vF K (T4 α β γ' δ)) (rr := fun x H Q => rIxT K x (.int 0) H Q) (f := fun x Q => Q x.a) ha (fun _ _ _ h => h) (fun _ _ _ q z => q _ z) fun A b0 g H x xs Q G rx z => by
    obtain ⟨a, v1, v2, v3, v4, rfl, h, h1, h2, h3, h4⟩ := rx
    exact ⟨a, _, 0, v1, rfl, rfl, h.sq fz_sub, rfl, z _ g H (G.up (by omega)) (Ext.refl g H) h1⟩
theorem ae_q2 (ha : AE P ks (rF K (T4 α β γ' δ)) ca ta wa) : AE P ks (rF K β) ca (tOp (rIxT K) ta (tC (.int 1))) (fun γ Q => wa γ fun x => Q x.b) :=
  AE.un (r := rF K β) (k := vF K (T4 α β γ' δ)) (rr := fun x H Q => rIxT K x (.int 1) H Q) (f := fun x Q => Q x.b) ha (fun _ _ _ h => h) (fun _ _ _ q z => q _ z) fun A b0 g H x xs Q G rx z => by
    obtain ⟨a, v1, v2, v3, v4, rfl, h, h1, h2, h3, h4⟩ := rx
    exact ⟨a, _, 1, v2, rfl, rfl, h.sq fz_sub, rfl, z _ g H (G.up (by omega)) (Ext.refl g H) h2⟩
theorem ae_q3 (ha : AE P ks (rF K (T4 α β γ' δ)) ca ta wa) : AE P ks (rF K γ') ca (tOp (rIxT K) ta (tC (.int 2))) (fun γ Q => wa γ fun x => Q x.c) :=
  AE.un (r := rF K γ') (k := vF K (T4 α β γ' δ)) (rr := fun x H Q => rIxT K x (.int 2) H Q) (f := fun x Q => Q x.c) ha (fun _ _ _ h => h) (fun _ _ _ q z => q _ z) fun A b0 g H x xs Q G rx z => by
    obtain ⟨a, v1, v2, v3, v4, rfl, h, h1, h2, h3, h4⟩ := rx
    exact ⟨a, _, 2, v3, rfl, rfl, h.sq fz_sub, rfl, z _ g H (G.up (by omega)) (Ext.refl g H) h3⟩
theorem ae_q4 (ha : AE P ks (rF K (T4 α β γ' δ)) ca ta wa) : AE P ks (rF K δ) ca (tOp (rIxT K) ta (tC (.int 3))) (fun γ Q => wa γ fun x => Q x.d) :=
  AE.un (r := rF K δ) (k := vF K (T4 α β γ' δ)) (rr := fun x H Q => rIxT K x (.int 3) H Q) (f := fun x Q => Q x.d) ha (fun _ _ _ h => h) (fun _ _ _ q z => q _ z) fun A b0 g H x xs Q G rx z => by
    obtain ⟨a, v1, v2, v3, v4, rfl, h, h1, h2, h3, h4⟩ := rx
    exact ⟨a, _, 3, v4, rfl, rfl, h.sq fz_sub, rfl, z _ g H (G.up (by omega)) (Ext.refl g H) h4⟩
end
/-! ### a list of four -/
structure L4 (α : Type) where
  a : α
  b : α
  c : α
  d : α
instance {α : Type} [Rp K α] : Rp K (L4 α) := ⟨fun F v x => ∃ a v1 v2 v3 v4, v = .ref a ∧ F a = some (.lst [v1, v2, v3, v4]) ∧ Rp.rp K F v1 x.a ∧ Rp.rp K F v2 x.b ∧ Rp.rp K F v3 x.c ∧ Rp.rp K F v4 x.d,
  fun s ⟨a, v1, v2, v3, v4, e, h, q1, q2, q3, q4⟩ => ⟨a, v1, v2, v3, v4, e, s _ _ h, Rp.mono s q1, Rp.mono s q2, Rp.mono s q3, Rp.mono s q4⟩⟩
section
variable {α : Type} [Rp K α]
theorem ae_l4 {wa : TupT ks → (List α → Prop) → Prop} (ha : AE P ks (rF K (List α)) ca ta wa) : AE P ks (rF K (L4 α)) ca ta (fun γ Q => wa γ fun xs => ∃ x y z u, xs = [x, y, z, u] ∧ Q ⟨x, y, z, u⟩) := by
  refine ⟨fun γ Q Q' q z => ha.mono γ _ _ (fun xs ⟨x, y, z, u, e, h⟩ => ⟨x, y, z, u, e, q _ h⟩) z, fun A b0 γ σ g H Q hb0 G R hw => ?_⟩
  refine ha.run A b0 γ σ g H _ hb0 G R (ha.mono γ _ _ (fun xs ⟨x, y, z, u, e, h⟩ v g1 H1 G1 e1 r1 => ?_) hw)
  subst e
  obtain ⟨a, vs, rfl, hv, pr, hl⟩ := r1
  cases pr with
  | cons p1 pr => cases pr with
    | cons p2 pr => cases pr with
      | cons p3 pr => cases pr with
        | cons p4 pr =>
          cases pr
          exact h _ g1 H1 G1 e1 ⟨a, _, _, _, _, rfl, hv, p1, p2, p3, p4⟩
theorem ag_l4 {ks3 ks4 : List Kd} {g1 g2 g3 g4 : TG} {put1 : TupT ks → α → TupT ks1} {put2 : TupT ks1 → α → TupT ks2} {put3 : TupT ks2 → α → TupT ks3} {put4 : TupT ks3 → α → TupT ks4} {s1 s2 s3 s4 : List Nat} (h1 : AG K ks α ks1 g1 put1 s1) (h2 : AG K ks1 α ks2 g2 put2 s2) (h3 : AG K ks2 α ks3 g3 put3 s3) (h4 : AG K ks3 α ks4 g4 put4 s4) :
    AG K ks (L4 α) ks4 (gUnl K 4 (gCons g1 (gCons g2 (gCons g3 (gCons g4 gNil))))) (fun γ x => put4 (put3 (put2 (put1 γ x.a) x.b) x.c) x.d) (s1 ++ (s2 ++ (s3 ++ s4))) := ⟨fun v x γ σ g H Q R rv q => by
  obtain ⟨a, v1, v2, v3, v4, rfl, h, r1, r2, r3, r4⟩ := rv
  refine ⟨a, _, rfl, sq_of fz_sub h, rfl, v1, _, rfl, h1.run v1 x.a γ σ g H _ R r1 fun σ1 R1 w1 => ⟨v2, _, rfl, h2.run v2 x.b _ σ1 g H _ R1 r2 fun σ2 R2 w2 => ⟨v3, _, rfl, h3.run v3 x.c _ σ2 g H _ R2 r3 fun σ3 R3 w3 => ⟨v4, [], rfl, h4.run v4 x.d _ σ3 g H _ R3 r4 fun σ4 R4 w4 => ⟨rfl, q σ4 R4 fun vs hv => ?_⟩⟩⟩⟩⟩
  rw [w4 vs fun i hi => hv i (List.mem_append_right _ (List.mem_append_right _ (List.mem_append_right _ hi))), w3 vs fun i hi => hv i (List.mem_append_right _ (List.mem_append_right _ (List.mem_append_left _ hi))), w2 vs fun i hi => hv i (List.mem_append_right _ (List.mem_append_left _ hi)), w1 vs fun i hi => hv i (List.mem_append_left _ hi)]⟩
end
end DL
/-! DL: a dict of two texts, asked at once. -/
namespace DL
open PySem PySem.Spec PyProof.Rows L2
variable {P : TokP} {K : PySem.W.Frag} {ks : List Kd}
theorem good_put {A : Act} {g : Gh} {H : Hp} {p : Addr} {o o' : HO} {b : Nat} (G : Good P A b g H) (h0 : A.H0 p = none) (hp : H p = some o) (hg : g p ≠ .tok) : Good P A b g (upd H p o') := by
  refine ⟨fun a u ha => ?_, fun a ha => ?_, fun a ha => ?_⟩
  · have ne : a ≠ p := fun e => by
      rw [e, h0] at ha
      cases ha
    rw [upd_ne ne]
    exact G.ext a u ha
  · have ne : a ≠ p := fun e => hg (e ▸ ha)
    rw [upd_ne ne]
    exact G.tok a ha
  · have ne : a ≠ p := fun e => by
      rw [e, upd_same] at ha
      cases ha
    rw [upd_ne ne] at ha
    exact G.non a ha
theorem ae_disp2 {k1 k2 : Str} {t1 t2 ts td : TE} {c1 c2 cs cd : Nat} {w1 w2 wd : TupT ks → (Int → Prop) → Prop} {ws : TupT ks → (Str → Prop) → Prop} (hk : k1 ≠ k2) (h1 : AE P ks (rF K Int) c1 t1 w1) (h2 : AE P ks (rF K Int) c2 t2 w2) (hs : AE P ks (rF K Str) cs ts ws) (hd : AE P ks (rF K Int) cd td wd) :
    AE P ks (rF K Int) (c1 + c2 + cs + cd) (tDGet2 (tDisp [(tC (.str k1), t1), (tC (.str k2), t2)]) ts td) (fun γ Q => w1 γ fun a => w2 γ fun b => ws γ fun s => wd γ fun d => Q (if s = k1 then a else if s = k2 then b else d)) := by
  refine ⟨fun γ Q Q' q z => h1.mono γ _ _ (fun a za => h2.mono γ _ _ (fun b zb => hs.mono γ _ _ (fun s zs => hd.mono γ _ _ (fun d zd => q _ zd) zs) zb) za) z, fun A b0 γ σ g H Q hb0 G R hw => ?_⟩
  intro p hp
  obtain ⟨G0, e0⟩ := G.new0 (o := .dK []) hp
  have hA : A.H0 p = none := G.ext.keeps G hp
  have gp : g p = .oth := G.non p hp
  refine h1.run A b0 γ σ g _ _ (by omega) G0 (R.ext G e0) (h1.mono γ _ _ (fun a za x g1 H1 G1 e1 r1 => ?_) hw)
  refine h2.run A _ γ σ g1 H1 _ (by omega) G1 ((R.ext G e0).ext G0 e1) (h2.mono γ _ _ (fun b zb y g2 H2 G2 e2 r2 => ?_) za)
  have r1 : x = .int a := r1
  have r2 : y = .int b := r2
  subst r1 r2
  have p1 := e1 p _ upd_same
  have g1p : g1 p = .oth := p1.1.trans gp
  have h1p : H1 p = some (.dK []) := p1.2 (by rw [gp]; simp)
  have p2 := e2 p _ h1p
  have g2p : g2 p = .oth := p2.1.trans g1p
  have h2p : H2 p = some (.dK []) := p2.2 (by rw [g1p]; simp)
  have mk : mergeK [] [((Sum.inr k1 : Key), V.int a), (Sum.inr k2, V.int b)] = [(Sum.inr k1, V.int a), (Sum.inr k2, V.int b)] := by
    simp [mergeK, putK, hk]
  refine ⟨h2p, [(Sum.inr k1, V.int a), (Sum.inr k2, V.int b)], rfl, by show 2 ≤ 15; decide, ?_⟩
  rw [mk]
  have G3 := good_put (o' := .dK [(Sum.inr k1, V.int a), (Sum.inr k2, V.int b)]) G2 hA h2p (by rw [g2p]; simp)
  have e3 : Ext g H g2 (upd H2 p (.dK [(Sum.inr k1, V.int a), (Sum.inr k2, V.int b)])) := fun q u hq => by
    have ne : q ≠ p := ne_of_none hq hp
    rw [upd_ne ne]
    exact ((e0.trans G0 e1).trans G1 e2) q u hq
  refine ⟨p, rfl, .inl ⟨_, .inl upd_same⟩, ?_⟩
  refine hs.run A _ γ σ g2 _ _ (by omega) G3 (R.ext G e3) (hs.mono γ _ _ (fun s zs v g4 H4 G4 e4 r4 => ?_) zb)
  refine hd.run A _ γ σ g4 H4 _ (by omega) G4 ((R.ext G e3).ext G3 e4) (hd.mono γ _ _ (fun d zd u g5 H5 G5 e5 r5 => ?_) zs)
  have r4 : v = .str s := r4
  have r5 : u = .int d := r5
  subst r4 r5
  have p4 := e4 p _ upd_same
  have h4p := p4.2 (by rw [g2p]; simp)
  have p5 := e5 p _ h4p
  have h5p := p5.2 (by rw [p4.1, g2p]; simp)
  refine ⟨_, .inl ⟨_, Sum.inr s, .inl h5p, rfl, rfl⟩, ?_⟩
  have key : (valV [((Sum.inr k1 : Key), V.int a), (Sum.inr k2, V.int b)] (Sum.inr s)).getD (V.int d) = V.int (if s = k1 then a else if s = k2 then b else d) := by
    by_cases q1 : s = k1
    · rw [if_pos q1, valV_pos (by rw [q1])]
      rfl
    · rw [if_neg q1, valV_neg (fun e => q1 (Sum.inr.inj e).symm)]
      by_cases q2 : s = k2
      · rw [if_pos q2, valV_pos (by rw [q2])]
        rfl
      · rw [if_neg q2, valV_neg (fun e => q2 (Sum.inr.inj e).symm)]
        rfl
  rw [key]
  exact zd _ g5 H5 (G5.up (by omega)) ((e3.trans G3 e4).trans G4 e5) rfl
end DL
/-! DL: sep.join(texts), for c in text, divmod, min(data, default=None). -/
namespace DL
open PySem PySem.Spec PyProof.Rows L2
variable {P : TokP} {K : PySem.W.Frag} {ks : List Kd} {ta tb te : TE} {ca cb ce : Nat}
/-! ### join -/
def joinS (y : Str) (xs : List Str) : Str := PySem.Txt.join y xs
theorem cpl_joinS (y : Str) (xs : List Str) : cpl (joinS y xs) = TL.joinL (cpl y) (xs.map cpl) := by
  show TL.tl (PySem.Txt.join y xs) = TL.joinL (TL.tl y) (xs.map TL.tl)
  rw [TL.join_eq, TL.tl_join]
def rJoin (K : PySem.W.Frag) : V → List V → Hp → VK → Prop := fun x xs H Q => ∃ a p, ∃ ys : List Str, x = .str a ∧ xs = [.ref p] ∧ (SqL K H p (ys.map V.str) ∨ SqT K H p (ys.map V.str)) ∧
      (ys.map (·.length)).sum + ys.length * a.length ≤ 16777216 ∧ Q (.str (PySem.Txt.join a ys)) H
theorem ae_join {wa : TupT ks → (Str → Prop) → Prop} {wb : TupT ks → (List Str → Prop) → Prop} (ha : AE P ks (rF K Str) ca ta wa) (hb : AE P ks (rF K (List Str)) cb tb wb) :
    AE P ks (rF K Str) (ca + cb) (tM1 (rJoin K) ta tb) (fun γ Q => wa γ fun a => wb γ fun xs => (xs.map fun x => (cpl x).length).sum + xs.length * (cpl a).length ≤ 16777216 ∧ Q (joinS a xs)) := by
  refine ⟨fun γ Q Q' q z => ha.mono γ _ _ (fun a za => hb.mono γ _ _ (fun b zb => ⟨zb.1, q _ zb.2⟩) za) z, fun A b0 γ σ g H Q hb0 G R hw => ?_⟩
  refine ha.run A b0 γ σ g H _ (by omega) G R (ha.mono γ _ _ (fun a za x g1 H1 G1 e1 r1 => ?_) hw)
  have r1 : x = .str a := r1
  subst r1
  refine ⟨⟨a, rfl⟩, ?_⟩
  refine hb.run A _ γ σ g1 H1 _ (by omega) G1 (R.ext G e1) (hb.mono γ _ _ (fun xs zb v g2 H2 G2 e2 r2 => ?_) za)
  obtain ⟨p, vs, rfl, h, pr, hl⟩ := r2
  rw [paired_str pr] at h
  refine ⟨a, p, xs, rfl, rfl, .inl (sq_of fz_sub h), ?_, zb.2 _ g2 H2 (G2.up (by omega)) (e1.trans G1 e2) rfl⟩
  have e : (xs.map fun x : Str => x.length) = xs.map fun x => (cpl x).length := List.map_congr_left fun x _ => cpl_len x
  rw [e, cpl_len]
  exact zb.1
/-! ### the signs of a text, one by one -/
theorem it_str {x : Str} {gs : Gh} {Hs : Hp} (hl : (cpl x).length ≤ sizeLine) : ItOk P K (Its x) ((cpl x).map oneS) gs Hs := by
  have ll : x.cps.size = (cpl x).length := (Array.length_toList).symm
  refine ⟨?_, fun A b0 g H i G l hi => ?_, fun A b0 g H i G l hi => ?_, fun A b0 g H i v H' G l hy y ey => ?_⟩
  · rw [List.length_map]
    rw [sizeLine_eq] at hl
    omega
  · rw [List.length_map] at hi
    show x.cps.size ≤ i
    omega
  · rw [List.length_map] at hi
    show i < x.cps.size
    omega
  · obtain ⟨rfl, c, hc, rfl⟩ := hy
    rw [List.getElem?_map] at ey
    have h2 : (cpl x)[i]? = some c := by
      unfold cpl
      rw [Array.getElem?_toList]
      exact hc
    rw [h2] at ey
    exact ⟨G, Ext.refl _ _, by rw [← Option.some.inj ey]; rfl⟩
theorem ai_str {wa : TupT ks → (Str → Prop) → Prop} (ha : AE P ks (rF K Str) ca te wa) : AI P K ks Str ca (iStr te) (fun γ Q => wa γ fun x => (cpl x).length ≤ sizeLine ∧ Q ((cpl x).map oneS)) := by
  refine ⟨fun γ Q Q' q z => ha.mono γ _ _ (fun a za => ⟨za.1, q _ za.2⟩) z, fun A b0 γ σ g H Q hb0 G R hw => ?_⟩
  refine ha.run A b0 γ σ g H _ (by omega) G R (ha.mono γ _ _ (fun x zx v g1 H1 G1 e1 r1 => ?_) hw)
  have r1 : v = .str x := r1
  subst r1
  exact ⟨x, rfl, zx.2 _ g1 H1 (G1.up (by omega)) e1 (it_str zx.1)⟩
/-! ### divmod -/
theorem ae_divmod {wa wb : TupT ks → (Int → Prop) → Prop} (ha : AE P ks (rF K Int) ca ta wa) (hb : AE P ks (rF K Int) cb tb wb) : AE P ks (rF K (Int × Int)) (ca + cb) (tCB (fun xs H Q => ∃ i j, xs = [.int i, .int j] ∧ CDiv i j ∧ ∀ p, H p = none → Q (.ref p) (upd H p (.tup [.int (i / j), .int (i % j)]))) (tCons ta (tCons tb tNil))) (fun γ Q => wa γ fun i => wb γ fun j => CDiv i j ∧ Q (i / j, i % j)) :=
  AE.cb2 (r := rF K (Int × Int)) (k1 := vF K Int) (k2 := vF K Int) (f := fun i j Q => CDiv i j ∧ Q (i / j, i % j)) ha hb (fun _ _ _ _ q z => ⟨z.1, q _ z.2⟩) fun A b0 g H x y i j Q G rx ry z => by
    refine ⟨i, j, by rw [show x = V.int i from rx, show y = V.int j from ry], z.1, fun p hp => ?_⟩
    obtain ⟨G2, e2⟩ := G.new0 (o := .tup [.int (i / j), .int (i % j)]) hp
    exact z.2 _ g _ (G2.up (by omega)) e2 ⟨p, _, _, rfl, fz_new_tup, rfl, rfl⟩
/-! ### min(xs, default=None) -/
def rMinD (K : PySem.W.Frag) (α : Type) (enc : α → PyData) : List V → List V → Hp → VK → Prop := fun vs zs H Q => ∃ (a : Addr) (xs : List V) (bs : List α) (R : V → α → Prop), vs = [V.ref a] ∧ zs = [V.non] ∧ SqL K H a xs ∧ Paired R xs bs ∧ (∀ v b, R v b → Dp K H v (enc b)) ∧
  PySem.W.AlikeAll (bs.map enc) ∧ PyData.depthAll (bs.map enc) ≤ 60 ∧ (bs = [] → Q .non H) ∧
  ∀ y ys b v, bs = y :: ys → b ∈ bs → R v b → enc b = PySem.W.minD (enc y) (ys.map enc) → Q v H
theorem dpall_enc {α : Type} {enc : α → PyData} {R : V → α → Prop} {F : Hp} (hd : ∀ v b, R v b → Dp K F v (enc b)) : ∀ {xs : List V} {bs : List α}, Paired R xs bs → DpAll K F xs (bs.map enc)
  | _, _, .nil => .nil
  | _, _, .cons r t => .cons (hd _ _ r) (dpall_enc hd t)
theorem vals_at : ∀ {xs : List V} {us : List Value}, Vals xs us → ∀ {i : Nat} {u : Value}, us[i]? = some u → ∃ x, xs[i]? = some x ∧ RelV x u
  | _, _, .nil, i, _, h => by cases i <;> cases h
  | _, _, .cons r _, 0, _, h => ⟨_, rfl, by cases h; exact r⟩
  | _, _, .cons _ t, i + 1, _, h => vals_at t (i := i) h
theorem cr_minD {X : Cx} {α : Type} {enc : α → PyData} (hc : X.calm = true) (hu : X.A.units + 64 < cLine) : CallRK X (.builtin "min") ["default"] (rMinD X.K α enc) := by
  intro pins s σ H vs zs us ws Q I r r2 h
  obtain ⟨a, xs, bs, R, rfl, rfl, hs, pr, hd, al, dp, q0, q⟩ := h
  obtain ⟨its, rv, hl, hz⟩ := I.list hs
  obtain ⟨u, rfl, ru⟩ := vals1 r
  obtain rfl : u = Value.ref a := ru
  obtain ⟨w, rfl, rw'⟩ := vals1 r2
  obtain rfl : w = Value.none := rw'
  obtain ⟨as, hr⟩ := Dp.readsAll I _ _ _ (dpall_enc hd pr) rv
  have hr2 : ReadsAll s.heap its.toArray.toList (bs.map enc) as := by rw [List.toList_toArray]; exact hr
  refine PySem.W.min_list_default (I.ok.hd hc) hl.isList hr2 al (by omega) (fun e h' tk k => ?_) (fun y ys i v h' tk bs' e hv rd k => ?_)
  · exact ⟨.non, H, I.kept (t' := tk) k, rfl, q0 (List.map_eq_nil_iff.mp e)⟩
  · rw [List.getElem?_toArray] at hv
    obtain ⟨x, hx, rx⟩ := vals_at rv hv
    have hi : i < bs.length := by
      rw [← pr.length]
      exact (List.getElem?_eq_some_iff.mp hx).1
    have hb : bs[i]? = some bs[i] := List.getElem?_eq_getElem hi
    obtain ⟨x', hx', rb⟩ := Paired.at pr hb
    rw [hx] at hx'
    cases hx'
    obtain ⟨as', rd'⟩ := Dp.reads I _ _ _ (hd _ _ rb) rx
    have e2 := (reads_det (h := s.heap) (h' := h') (fun b o z _ => k b o z) rd' rd).1
    cases bs with
    | nil => cases hi
    | cons b0 bs =>
      obtain ⟨rfl, rfl⟩ := List.cons.inj e
      exact ⟨x, H, I.kept (t' := tk) k, rx, q _ _ _ x rfl (List.getElem_mem hi) rb e2.symm⟩
class MinOk (K : PySem.W.Frag) (α : Type) [Rp K α] [ToD K α] (C : List α → Prop) : Prop where
  al : ∀ xs : List α, C xs → PySem.W.AlikeAll (xs.map (ToD.toD K)) ∧ PyData.depthAll (xs.map (ToD.toD K)) ≤ 60
theorem ae_minD {α : Type} [Rp K α] [NN K α] [ToD K α] {C : List α → Prop} (o : MinOk K α C) {wl : TupT ks → (List α → Prop) → Prop} {wn : TupT ks → (Unit → Prop) → Prop} (ha : AE P ks (rF K (List α)) ca ta wl) (hb : AE P ks (rF K Unit) cb tb wn) :
    AE P ks (rF K (Option α)) (ca + cb) (tCKw (rMinD K α (ToD.toD K)) (tCons ta tNil) (tCons tb tNil)) (fun γ Q => wl γ fun xs => wn γ fun _ => C xs ∧ (xs = [] → Q none) ∧ ∀ y ys b, xs = y :: ys → b ∈ xs → ToD.toD K b = PySem.W.minD (ToD.toD K y) (ys.map (ToD.toD K)) → Q (some b)) := by
  refine ⟨fun γ Q Q' q z => ha.mono γ _ _ (fun a za => hb.mono γ _ _ (fun b zb => ⟨zb.1, fun e => q _ (zb.2.1 e), fun y ys b e h1 h2 => q _ (zb.2.2 y ys b e h1 h2)⟩) za) z, fun A b0 γ σ g H Q hb0 G R hw => ?_⟩
  refine ha.run A b0 γ σ g H _ (by omega) G R (ha.mono γ _ _ (fun xs za x g1 H1 G1 e1 r1 => ?_) hw)
  refine hb.run A _ γ σ g1 H1 _ (by omega) G1 (R.ext G e1) (hb.mono γ _ _ (fun _ zb v g2 H2 G2 e2 r2 => ?_) za)
  have r2 : v = .non := r2
  subst r2
  obtain ⟨a, vs, rfl, h, pr, hl⟩ := rp_ext G1 e2 r1
  obtain ⟨al, dp⟩ := o.al xs zb.1
  have e3 := e1.trans G1 e2
  refine ⟨a, vs, xs, Rp.rp K (Fz g2 H2), rfl, rfl, sq_of fz_sub h, pr, fun v b h => Dp.mono' fz_sub _ _ (ToD.ok h), al, dp, fun e => zb.2.1 e _ g2 H2 (G2.up (by omega)) e3 rfl, fun y ys b v e hb' rb hm => ?_⟩
  exact zb.2.2 y ys b e hb' hm v g2 H2 (G2.up (by omega)) e3 ⟨NN.nn rb, rb⟩
/-- triples whose first and second are known to be numbers -/
def someB (xs : List (T3 (Option Int) (Option Int) Int)) : Prop := ∀ x ∈ xs, ∃ i j, x.a = some i ∧ x.b = some j
theorem min_t3 : MinOk K (T3 (Option Int) (Option Int) Int) someB := ⟨fun xs h => by
  have key : ∀ x ∈ xs, ∃ i j : Int, (ToD.toD K x : PyData) = .tuple [.int i, .int j, .int x.c] := fun x hx => by
    obtain ⟨i, j, hi, hj⟩ := h x hx
    refine ⟨i, j, ?_⟩
    obtain ⟨xa, xb, xc⟩ := x
    dsimp only at hi hj
    subst hi hj
    rfl
  refine ⟨⟨fun x hx y hy => ?_, fun x hx e => ?_⟩, ?_⟩
  · obtain ⟨x', hx', rfl⟩ := List.mem_map.mp hx
    obtain ⟨y', hy', rfl⟩ := List.mem_map.mp hy
    obtain ⟨i, i2, ei⟩ := key x' hx'
    obtain ⟨j, j2, ej⟩ := key y' hy'
    rw [ei, ej]
    simp [PySem.W.alike, PySem.W.alikeAll]
  · obtain ⟨x', hx', rfl⟩ := List.mem_map.mp hx
    obtain ⟨i, i2, ei⟩ := key x' hx'
    rw [ei] at e
    cases e
  · clear h
    induction xs with
    | nil => exact Nat.zero_le _
    | cons x xs ih =>
      obtain ⟨i, i2, ei⟩ := key x List.mem_cons_self
      rw [List.map_cons, PyData.depthAll, ei]
      refine Nat.max_le.mpr ⟨?_, ih fun z hz => key z (List.mem_cons_of_mem _ hz)⟩
      simp [PyData.depth, PyData.depthAll]⟩
end DL
/-! DL: a dict of three texts, asked at once. -/
namespace DL
open PySem PySem.Spec PyProof.Rows L2
variable {P : TokP} {K : PySem.W.Frag} {ks : List Kd}
theorem ae_disp3 {k1 k2 k3 : Str} {t1 t2 t3 ts td : TE} {c1 c2 c3 cs cd : Nat} {w1 w2 w3 wd : TupT ks → (Int → Prop) → Prop} {ws : TupT ks → (Str → Prop) → Prop} (hk : k1 ≠ k2) (hk2 : k1 ≠ k3) (hk3 : k2 ≠ k3) (h1 : AE P ks (rF K Int) c1 t1 w1) (h2 : AE P ks (rF K Int) c2 t2 w2) (h3 : AE P ks (rF K Int) c3 t3 w3) (hs : AE P ks (rF K Str) cs ts ws) (hd : AE P ks (rF K Int) cd td wd) :
    AE P ks (rF K Int) (c1 + c2 + c3 + cs + cd) (tDGet2 (tDisp [(tC (.str k1), t1), (tC (.str k2), t2), (tC (.str k3), t3)]) ts td) (fun γ Q => w1 γ fun a => w2 γ fun b => w3 γ fun c => ws γ fun s => wd γ fun d => Q (if s = k1 then a else if s = k2 then b else if s = k3 then c else d)) := by
  refine ⟨fun γ Q Q' q z => h1.mono γ _ _ (fun a za => h2.mono γ _ _ (fun b zb => h3.mono γ _ _ (fun c zc => hs.mono γ _ _ (fun s zs => hd.mono γ _ _ (fun d zd => q _ zd) zs) zc) zb) za) z, fun A b0 γ σ g H Q hb0 G R hw => ?_⟩
  intro p hp
  obtain ⟨G0, e0⟩ := G.new0 (o := .dK []) hp
  have hA : A.H0 p = none := G.ext.keeps G hp
  have gp : g p = .oth := G.non p hp
  refine h1.run A b0 γ σ g _ _ (by omega) G0 (R.ext G e0) (h1.mono γ _ _ (fun a za x g1 H1 G1 e1 r1 => ?_) hw)
  refine h2.run A _ γ σ g1 H1 _ (by omega) G1 ((R.ext G e0).ext G0 e1) (h2.mono γ _ _ (fun b zb y g2 H2 G2 e2 r2 => ?_) za)
  refine h3.run A _ γ σ g2 H2 _ (by omega) G2 (((R.ext G e0).ext G0 e1).ext G1 e2) (h3.mono γ _ _ (fun c zc y3 g3 H3 G2' e2' r3 => ?_) zb)
  have r3 : y3 = .int c := r3
  subst r3
  have r1 : x = .int a := r1
  have r2 : y = .int b := r2
  subst r1 r2
  have p1 := e1 p _ upd_same
  have g1p : g1 p = .oth := p1.1.trans gp
  have h1p : H1 p = some (.dK []) := p1.2 (by rw [gp]; simp)
  have p2 := e2 p _ h1p
  have g2p : g2 p = .oth := p2.1.trans g1p
  have h2p : H2 p = some (.dK []) := p2.2 (by rw [g1p]; simp)
  have p3 := e2' p _ h2p
  have g3p : g3 p = .oth := p3.1.trans g2p
  have h3p : H3 p = some (.dK []) := p3.2 (by rw [g2p]; simp)
  have mk : mergeK [] [((Sum.inr k1 : Key), V.int a), (Sum.inr k2, V.int b), (Sum.inr k3, V.int c)] = [(Sum.inr k1, V.int a), (Sum.inr k2, V.int b), (Sum.inr k3, V.int c)] := by
    simp [mergeK, putK, hk, hk2, hk3]
  refine ⟨h3p, [(Sum.inr k1, V.int a), (Sum.inr k2, V.int b), (Sum.inr k3, V.int c)], rfl, by show 3 ≤ 15; decide, ?_⟩
  rw [mk]
  have G3 := good_put (o' := .dK [(Sum.inr k1, V.int a), (Sum.inr k2, V.int b), (Sum.inr k3, V.int c)]) G2' hA h3p (by rw [g3p]; simp)
  have e3 : Ext g H g3 (upd H3 p (.dK [(Sum.inr k1, V.int a), (Sum.inr k2, V.int b), (Sum.inr k3, V.int c)])) := fun q u hq => by
    have ne : q ≠ p := ne_of_none hq hp
    rw [upd_ne ne]
    exact (((e0.trans G0 e1).trans G1 e2).trans G2 e2') q u hq
  refine ⟨p, rfl, .inl ⟨_, .inl upd_same⟩, ?_⟩
  refine hs.run A _ γ σ g3 _ _ (by omega) G3 (R.ext G e3) (hs.mono γ _ _ (fun s zs v g4 H4 G4 e4 r4 => ?_) zc)
  refine hd.run A _ γ σ g4 H4 _ (by omega) G4 ((R.ext G e3).ext G3 e4) (hd.mono γ _ _ (fun d zd u g5 H5 G5 e5 r5 => ?_) zs)
  have r4 : v = .str s := r4
  have r5 : u = .int d := r5
  subst r4 r5
  have p4 := e4 p _ upd_same
  have h4p := p4.2 (by rw [g3p]; simp)
  have p5 := e5 p _ h4p
  have h5p := p5.2 (by rw [p4.1, g3p]; simp)
  refine ⟨_, .inl ⟨_, Sum.inr s, .inl h5p, rfl, rfl⟩, ?_⟩
  have key : (valV [((Sum.inr k1 : Key), V.int a), (Sum.inr k2, V.int b), (Sum.inr k3, V.int c)] (Sum.inr s)).getD (V.int d) = V.int (if s = k1 then a else if s = k2 then b else if s = k3 then c else d) := by
    by_cases q1 : s = k1
    · rw [if_pos q1, valV_pos (by rw [q1])]
      rfl
    · rw [if_neg q1, valV_neg (fun e => q1 (Sum.inr.inj e).symm)]
      by_cases q2 : s = k2
      · rw [if_pos q2, valV_pos (by rw [q2])]
        rfl
      · rw [if_neg q2, valV_neg (fun e => q2 (Sum.inr.inj e).symm)]
        by_cases q3 : s = k3
        · rw [if_pos q3, valV_pos (by rw [q3])]
          rfl
        · rw [if_neg q3, valV_neg (fun e => q3 (Sum.inr.inj e).symm)]
          rfl
  rw [key]
  exact zd _ g5 H5 (G5.up (by omega)) ((e3.trans G3 e4).trans G4 e5) rfl
end DL
/-! DL: a dict of two texts to texts, asked at once. -/
namespace DL
open PySem PySem.Spec PyProof.Rows L2
variable {P : TokP} {K : PySem.W.Frag} {ks : List Kd}
theorem ae_disp2S {k1 k2 : Str} {t1 t2 ts td : TE} {c1 c2 cs cd : Nat} {w1 w2 wd : TupT ks → (Str → Prop) → Prop} {ws : TupT ks → (Str → Prop) → Prop} (hk : k1 ≠ k2) (h1 : AE P ks (rF K Str) c1 t1 w1) (h2 : AE P ks (rF K Str) c2 t2 w2) (hs : AE P ks (rF K Str) cs ts ws) (hd : AE P ks (rF K Str) cd td wd) :
    AE P ks (rF K Str) (c1 + c2 + cs + cd) (tDGet2 (tDisp [(tC (.str k1), t1), (tC (.str k2), t2)]) ts td) (fun γ Q => w1 γ fun a => w2 γ fun b => ws γ fun s => wd γ fun d => Q (if s = k1 then a else if s = k2 then b else d)) := by
  refine ⟨fun γ Q Q' q z => h1.mono γ _ _ (fun a za => h2.mono γ _ _ (fun b zb => hs.mono γ _ _ (fun s zs => hd.mono γ _ _ (fun d zd => q _ zd) zs) zb) za) z, fun A b0 γ σ g H Q hb0 G R hw => ?_⟩
  intro p hp
  obtain ⟨G0, e0⟩ := G.new0 (o := .dK []) hp
  have hA : A.H0 p = none := G.ext.keeps G hp
  have gp : g p = .oth := G.non p hp
  refine h1.run A b0 γ σ g _ _ (by omega) G0 (R.ext G e0) (h1.mono γ _ _ (fun a za x g1 H1 G1 e1 r1 => ?_) hw)
  refine h2.run A _ γ σ g1 H1 _ (by omega) G1 ((R.ext G e0).ext G0 e1) (h2.mono γ _ _ (fun b zb y g2 H2 G2 e2 r2 => ?_) za)
  have r1 : x = .str a := r1
  have r2 : y = .str b := r2
  subst r1 r2
  have p1 := e1 p _ upd_same
  have g1p : g1 p = .oth := p1.1.trans gp
  have h1p : H1 p = some (.dK []) := p1.2 (by rw [gp]; simp)
  have p2 := e2 p _ h1p
  have g2p : g2 p = .oth := p2.1.trans g1p
  have h2p : H2 p = some (.dK []) := p2.2 (by rw [g1p]; simp)
  have mk : mergeK [] [((Sum.inr k1 : Key), V.str a), (Sum.inr k2, V.str b)] = [(Sum.inr k1, V.str a), (Sum.inr k2, V.str b)] := by
    simp [mergeK, putK, hk]
  refine ⟨h2p, [(Sum.inr k1, V.str a), (Sum.inr k2, V.str b)], rfl, by show 2 ≤ 15; decide, ?_⟩
  rw [mk]
  have G3 := good_put (o' := .dK [(Sum.inr k1, V.str a), (Sum.inr k2, V.str b)]) G2 hA h2p (by rw [g2p]; simp)
  have e3 : Ext g H g2 (upd H2 p (.dK [(Sum.inr k1, V.str a), (Sum.inr k2, V.str b)])) := fun q u hq => by
    have ne : q ≠ p := ne_of_none hq hp
    rw [upd_ne ne]
    exact ((e0.trans G0 e1).trans G1 e2) q u hq
  refine ⟨p, rfl, .inl ⟨_, .inl upd_same⟩, ?_⟩
  refine hs.run A _ γ σ g2 _ _ (by omega) G3 (R.ext G e3) (hs.mono γ _ _ (fun s zs v g4 H4 G4 e4 r4 => ?_) zb)
  refine hd.run A _ γ σ g4 H4 _ (by omega) G4 ((R.ext G e3).ext G3 e4) (hd.mono γ _ _ (fun d zd u g5 H5 G5 e5 r5 => ?_) zs)
  have r4 : v = .str s := r4
  have r5 : u = .str d := r5
  subst r4 r5
  have p4 := e4 p _ upd_same
  have h4p := p4.2 (by rw [g2p]; simp)
  have p5 := e5 p _ h4p
  have h5p := p5.2 (by rw [p4.1, g2p]; simp)
  refine ⟨_, .inl ⟨_, Sum.inr s, .inl h5p, rfl, rfl⟩, ?_⟩
  have key : (valV [((Sum.inr k1 : Key), V.str a), (Sum.inr k2, V.str b)] (Sum.inr s)).getD (V.str d) = V.str (if s = k1 then a else if s = k2 then b else d) := by
    by_cases q1 : s = k1
    · rw [if_pos q1, valV_pos (by rw [q1])]
      rfl
    · rw [if_neg q1, valV_neg (fun e => q1 (Sum.inr.inj e).symm)]
      by_cases q2 : s = k2
      · rw [if_pos q2, valV_pos (by rw [q2])]
        rfl
      · rw [if_neg q2, valV_neg (fun e => q2 (Sum.inr.inj e).symm)]
        rfl
  rw [key]
  exact zd _ g5 H5 (G5.up (by omega)) ((e3.trans G3 e4).trans G4 e5) rfl
end DL
/-! DL: [[], []] that is changed, found[i].extend(..), a list of two unpacked, a sign in a text, a tuple gone through as data. -/
namespace DL
open PySem PySem.Spec PyProof.Rows L2
variable {P : TokP} {K : PySem.W.Frag} {ks ks' kb : List Kd} {r : Rk} {ta tb te ti : TE} {ca cb ce ci : Nat}
theorem ae_nil2N {α : Type} [Rp K α] : AE P ks (rN K α) 0 (tLst (tCons (tLst tNil) (tCons (tLst tNil) tNil))) (fun γ Q => Q [[], []]) := by
  refine ⟨fun γ Q Q' q z => q _ z, fun A b0 γ σ g H Q hb0 G R hw => ?_⟩
  refine ⟨Nat.zero_le _, fun p1 h1 => ?_⟩
  obtain ⟨G1, e1⟩ := G.new0 (o := .lst []) h1
  refine ⟨Nat.zero_le _, fun p2 h2 => ?_⟩
  obtain ⟨G2, e2⟩ := G1.new0 (o := .lst []) h2
  refine ⟨by show 2 ≤ sizeLine; decide, fun p h3 => ?_⟩
  obtain ⟨G3, e3⟩ := G2.new0 (o := .lst [.ref p1, .ref p2]) h3
  have e13 := (e1.trans G1 e2).trans G2 e3
  have n21 : p2 ≠ p1 := fun z => by
    rw [z, upd_same] at h2
    cases h2
  have np2 : p ≠ p2 := fun z => by
    rw [z, upd_same] at h3
    cases h3
  have np1 : p ≠ p1 := fun z => by
    rw [z, upd_ne (Ne.symm n21), upd_same] at h3
    cases h3
  have hp2 : H p2 = none := by
    rw [upd_ne n21] at h2
    exact h2
  have hp : H p = none := by
    rw [upd_ne np2, upd_ne np1] at h3
    exact h3
  have i1 : upd (upd (upd H p1 (.lst [])) p2 (.lst [])) p (.lst [.ref p1, .ref p2]) p1 = some (.lst []) := by
    rw [upd_ne (Ne.symm np1), upd_ne (Ne.symm n21), upd_same]
  have i2 : upd (upd (upd H p1 (.lst [])) p2 (.lst [])) p (.lst [.ref p1, .ref p2]) p2 = some (.lst []) := by
    rw [upd_ne (Ne.symm np2), upd_same]
  refine hw _ g _ (G3.up (by omega)) e13 ⟨p, [p1, p2], rfl, hp, G.non p hp, upd_same, ?_, ?_, fun b hb => ?_, ?_, by show 2 ≤ _; decide⟩
  · simp [np1, np2]
  · simp [Ne.symm n21]
  · simp only [List.mem_cons, List.not_mem_nil, or_false] at hb
    rcases hb with rfl | rfl
    · exact h1
    · exact hp2
  · exact .cons ⟨G.non p1 h1, [], i1, .nil, Nat.zero_le _⟩ (.cons ⟨G.non p2 hp2, [], i2, .nil, Nat.zero_le _⟩ .nil)
theorem as_extendN {α : Type} [Rp K α] {n : Nat} {w : TupT ks → (List α → Prop) → Prop} {wi : TupT ks → (Int → Prop) → Prop} (a : Acc ks n (kN K α)) (p : Put ks n (kN K α) ks) (hi : AE P ks (rF K Int) ci ti wi) (he : AE P ks (rO K α) ce te w) :
    AS P ks ks r kb (ci + ce) (tDrop (tBM K "list" rExtend (tOp (rIxL K) (tVar n) ti) (tCons te tNil))) (fun γ E => wi γ fun i => ∃ j ys, ixN (a.get γ).length i = some j ∧ (a.get γ)[j]? = some ys ∧ w γ fun x => ys.length + x.length ≤ sizeLine ∧ E.nx (p.put γ ((a.get γ).set j (ys ++ x)))) := by
  refine ⟨fun γ E E' im z => hi.mono γ _ _ (fun i ⟨j, ys, q1, q2, q3⟩ => ⟨j, ys, q1, q2, he.mono γ _ _ (fun x zx => ⟨zx.1, im.nx _ zx.2⟩) q3⟩) z, fun A b0 γ σ g H D hb0 G R hw => ?_⟩
  obtain ⟨y, e, b, bs, rfl, h1, h2, h3, h4, h5, hx⟩ := a.ok R
  refine ⟨_, e, ?_⟩
  refine hi.run A b0 γ σ g H _ (by omega) G R (hi.mono γ _ _ (fun i ⟨j, ys, q1, q2, q3⟩ u g1 H1 G1 e1 r1 => ?_) hw)
  have R1 := R.ext G e1
  obtain ⟨y1, f, b1, bs1, rfl, h1, h2, h3, h4, h5, hx⟩ := a.ok R1
  rw [e] at f
  cases f
  obtain ⟨q, vs, k1, k2, k3, k4, k5⟩ := h5.at q2
  have ix : atI (bs1.map V.ref) i = some (V.ref q) := by
    unfold atI
    rw [List.length_map, h5.len, q1]
    show (bs1.map V.ref)[j]? = _
    rw [List.getElem?_map, k1]
    rfl
  refine ⟨b, bs1.map V.ref, i, V.ref q, rfl, r1, .inl (.inl h2), ix, .inl ⟨rfl, vs, .inl (.inl k3)⟩, ?_⟩
  refine he.run A _ γ σ g1 H1 _ (by omega) G1 R1 (he.mono γ _ _ (fun x zx v g2 H2 G2 e2 r2 => ?_) q3)
  have R2 := R1.ext G1 e2
  obtain ⟨y2, f2, b2, bs2, rfl, m1, m2, m3, m4, m5, mx⟩ := a.ok R2
  rw [e] at f2
  cases f2
  have same : bs2 = bs1 := by
    have := ((e2.lx G1).ow _ b _ h1 h2).2
    rw [m2] at this
    exact List.map_inj_right (fun _ _ z => V.ref.inj z) |>.mp (HO.lst.inj (Option.some.inj this))
  subst same
  obtain ⟨w1, w2⟩ := (e2.lx G1).ow _ q _ k2 k3
  have k4' := Paired.rp_mono (e2.le G1).fz k4
  obtain ⟨c, us, rfl, x1, x2, x3, x4, x5⟩ := r2
  obtain ⟨G3, l3, R3⟩ := own_writeN p G2 R2 e m1 m2 m3 m4 m5 mx k1 w2 (Paired.app k4' x4) (by rw [List.length_append]; have h := zx.1; rw [sizeLine_eq] at h; omega)
  exact ⟨q, c, vs, us, rfl, rfl, w2, x3, by rw [Paired.len k4, Paired.len x4]; exact zx.1, zx.2 σ g2 _ (G3.up (by omega)) (((e1.le G).trans (e2.le G1)).trans l3) R3⟩
/-- a list of two -/
theorem ae_l2 {α : Type} [Rp K α] {wa : TupT ks → (List α → Prop) → Prop} (ha : AE P ks (rF K (List α)) ca ta wa) : AE P ks (rF K (LP α α)) ca ta (fun γ Q => wa γ fun xs => ∃ x y, xs = [x, y] ∧ Q ⟨x, y⟩) := by
  refine ⟨fun γ Q Q' q z => ha.mono γ _ _ (fun xs ⟨x, y, e, h⟩ => ⟨x, y, e, q _ h⟩) z, fun A b0 γ σ g H Q hb0 G R hw => ?_⟩
  refine ha.run A b0 γ σ g H _ hb0 G R (ha.mono γ _ _ (fun xs ⟨x, y, e, h⟩ v g1 H1 G1 e1 r1 => ?_) hw)
  subst e
  obtain ⟨a, vs, rfl, hv, pr, hl⟩ := r1
  cases pr with
  | cons p1 pr => cases pr with
    | cons p2 pr =>
      cases pr
      exact h _ g1 H1 G1 e1 ⟨a, _, _, rfl, hv, p1, p2⟩
/-- a written sign in a text -/
theorem ae_inSg {c : Nat} {w : Str} (hw : w = ⟨#[c]⟩) {wb : TupT ks → (Str → Prop) → Prop} (hb : AE P ks (rF K Str) cb tb wb) : AE P ks (rF K Bool) cb (tOp rInS (tC (.str w)) tb) (fun γ Q => wb γ fun s => Q (decide (c ∈ cpl s))) := by
  refine ⟨fun γ Q Q' q z => hb.mono γ _ _ (fun a za => q _ za) z, fun A b0 γ σ g H Q hb0 G R h => ?_⟩
  refine hb.run A b0 γ σ g H _ hb0 G R (hb.mono γ _ _ (fun s zs v g1 H1 G1 e1 r1 => ?_) h)
  have r1 : v = .str s := r1
  subst r1
  exact ⟨c, s, by rw [hw], rfl, zs _ g1 H1 G1 e1 rfl⟩
/-- three of a tuple gone through, as data -/
theorem ai_tri {α β δ : Type} [Rp K α] [Rp K β] [Rp K δ] [ToD K α] [ToD K β] [ToD K δ] {w : TupT ks → (T3 α β δ → Prop) → Prop} (he : AE P ks (rF K (T3 α β δ)) ce te w) : AI P K ks PyData ce (iTup K te) (fun γ Q => w γ fun x => Q [ToD.toD K x.a, ToD.toD K x.b, ToD.toD K x.c]) := by
  refine ⟨fun γ Q Q' q z => he.mono γ _ _ (fun a za => q _ za) z, fun A b0 γ σ g H Q hb0 G R hw => ?_⟩
  refine he.run A b0 γ σ g H _ (by omega) G R (he.mono γ _ _ (fun xs zx v g' H' G' e' r' => ?_) hw)
  obtain ⟨a, v1, v2, v3, rfl, h, p1, p2, p3⟩ := r'
  have sq : ∀ {A : Act} {g2 H2}, Le g' H' g2 H2 → SqT K H2 a [v1, v2, v3] := fun l => (h.mono fun _ _ z => l.fz _ _ z).sq fz_sub
  refine ⟨a, rfl, ⟨_, h.sq fz_sub⟩, zx _ g' H' (G'.up (by omega)) e' ⟨(by show 3 ≤ _; omega), fun A2 b2 g2 H2 i G2 l hi => ⟨_, sq (A := A2) l, hi⟩, fun A2 b2 g2 H2 i G2 l hi => ?_, fun A2 b2 g2 H2 i x H3 G2 l hy y ey => ?_⟩⟩
  · have hi' : i < [v1, v2, v3].length := hi
    exact ⟨_, [v1, v2, v3][i], sq (A := A2) l, List.getElem?_eq_getElem hi'⟩
  · obtain ⟨rfl, hx⟩ := hy
    have e2 := hx _ (sq (A := A2) l)
    refine ⟨G2, Ext.refl _ _, ?_⟩
    match i, ey, e2 with
    | 0, ey, e2 => cases ey; cases e2; exact Rp.mono (α := PyData) l.fz (ToD.ok p1)
    | 1, ey, e2 => cases ey; cases e2; exact Rp.mono (α := PyData) l.fz (ToD.ok p2)
    | 2, ey, e2 => cases ey; cases e2; exact Rp.mono (α := PyData) l.fz (ToD.ok p3)
end DL
/-! DL: str(int), int(text), split, partition, f-strings of two parts, a sign in a text, an item among data. -/
namespace DL
open PySem PySem.Spec PyProof.Rows L2
variable {P : TokP} {K : PySem.W.Frag} {ks : List Kd} {ta tb te : TE} {ca cb ce : Nat}
/-- a number's text -/
def strI (i : Int) : Str := Str.ofString (toString i)
theorem cpl_strI (n : Nat) : cpl (strI (n : Int)) = TL.numL n := TL.tl_num n
theorem ae_strI {wa : TupT ks → (Int → Prop) → Prop} (ha : AE P ks (rF K Int) ca ta wa) : AE P ks (rF K Str) ca (tCB (fun xs H Q => ∃ i, xs = [.int i] ∧ i.natAbs.log2 < 1920 ∧ Q (.str (toString i)) H) (tCons ta tNil)) (fun γ Q => wa γ fun i => i.natAbs.log2 < 1920 ∧ Q (strI i)) :=
  AE.cb1 (r := rF K Str) (k := vF K Int) (f := fun i Q => i.natAbs.log2 < 1920 ∧ Q (strI i)) ha (fun _ _ _ q z => ⟨z.1, q _ z.2⟩) fun A b0 g H x i Q G rx z => ⟨i, by rw [show x = V.int i from rx], z.1, z.2 _ g H (G.up (by omega)) (Ext.refl g H) rfl⟩
theorem ae_intS {wa : TupT ks → (Str → Prop) → Prop} (ha : AE P ks (rF K Str) ca ta wa) : AE P ks (rF K Int) ca (tCB (fun xs H Q => ∃ a n, xs = [.str a] ∧ PySem.intText? a = some n ∧ a.length ≤ 640 ∧ Q (.int n) H) (tCons ta tNil)) (fun γ Q => wa γ fun s => ∃ n, PySem.intText? s = some n ∧ (cpl s).length ≤ 640 ∧ Q n) :=
  AE.cb1 (r := rF K Int) (k := vF K Str) (f := fun s Q => ∃ n, PySem.intText? s = some n ∧ (cpl s).length ≤ 640 ∧ Q n) ha (fun _ _ _ q ⟨n, h1, h2, z⟩ => ⟨n, h1, h2, q _ z⟩) fun A b0 g H x s Q G rx ⟨n, h1, h2, z⟩ => ⟨s, n, by rw [show x = V.str s from rx], h1, by rw [cpl_len]; exact h2, z _ g H (G.up (by omega)) (Ext.refl g H) rfl⟩
/-- text.split(sep) -/
def splitS (a b : Str) : List Str := PySem.Txt.split a b
def rSplit : V → List V → Hp → VK → Prop := fun x xs H Q => ∃ a b, x = .str a ∧ xs = [.str b] ∧ (b.length == 0) = false ∧ a.length + 2 ≤ sizeLine ∧ rNewStrs (PySem.Txt.split a b) H Q
theorem ae_split {wa wb : TupT ks → (Str → Prop) → Prop} (ha : AE P ks (rF K Str) ca ta wa) (hb : AE P ks (rF K Str) cb tb wb) :
    AE P ks (rO K Str) (ca + cb) (tM1 rSplit ta tb) (fun γ Q => wa γ fun a => wb γ fun b => (1 ≤ (cpl b).length ∧ (cpl a).length + 2 ≤ sizeLine ∧ (splitS a b).length ≤ sizeLine) ∧ Q (splitS a b)) := by
  refine ⟨fun γ Q Q' q z => ha.mono γ _ _ (fun a za => hb.mono γ _ _ (fun b zb => ⟨zb.1, q _ zb.2⟩) za) z, fun A b0 γ σ g H Q hb0 G R hw => ?_⟩
  refine ha.run A b0 γ σ g H _ (by omega) G R (ha.mono γ _ _ (fun a za x g1 H1 G1 e1 r1 => ?_) hw)
  have r1 : x = .str a := r1
  subst r1
  refine ⟨⟨a, rfl⟩, ?_⟩
  refine hb.run A _ γ σ g1 H1 _ (by omega) G1 (R.ext G e1) (hb.mono γ _ _ (fun b zb v g2 H2 G2 e2 r2 => ?_) za)
  have r2 : v = .str b := r2
  subst r2
  obtain ⟨⟨z1, z2, z3⟩, z4⟩ := zb
  have e12 := e1.trans G1 e2
  refine ⟨a, b, rfl, rfl, ?_, by rw [cpl_len]; exact z2, fun p hp => ?_⟩
  · rw [cpl_len]
    exact beq_eq_false_iff_ne.mpr (by omega)
  · exact newlist (xs := splitS a b) G2 hp str_paired (by have h := z3; rw [sizeLine_eq] at h; omega) fun v g' H' G' e' r' => z4 v g' H' (G'.up (by omega)) (e12.trans G2 e') ((rO K Str).start (fun a ha => e12.keeps G2 ha) r')
/-- text.partition(sep) -/
def partS (a b : Str) : T3 Str Str Str := ⟨(PySem.Txt.partition a b).1, (PySem.Txt.partition a b).2.1, (PySem.Txt.partition a b).2.2⟩
def rPart : V → List V → Hp → VK → Prop := fun x xs H Q => ∃ a b, x = .str a ∧ xs = [.str b] ∧ (b.length == 0) = false ∧ a.length ≤ sizeLine ∧
      ∀ p, H p = none → Q (.ref p) (upd H p (.tup [.str (PySem.Txt.partition a b).1, .str (PySem.Txt.partition a b).2.1, .str (PySem.Txt.partition a b).2.2]))
theorem ae_part {wa wb : TupT ks → (Str → Prop) → Prop} (ha : AE P ks (rF K Str) ca ta wa) (hb : AE P ks (rF K Str) cb tb wb) :
    AE P ks (rF K (T3 Str Str Str)) (ca + cb) (tM1 rPart ta tb) (fun γ Q => wa γ fun a => wb γ fun b => (1 ≤ (cpl b).length ∧ (cpl a).length ≤ sizeLine) ∧ Q (partS a b)) := by
  refine ⟨fun γ Q Q' q z => ha.mono γ _ _ (fun a za => hb.mono γ _ _ (fun b zb => ⟨zb.1, q _ zb.2⟩) za) z, fun A b0 γ σ g H Q hb0 G R hw => ?_⟩
  refine ha.run A b0 γ σ g H _ (by omega) G R (ha.mono γ _ _ (fun a za x g1 H1 G1 e1 r1 => ?_) hw)
  have r1 : x = .str a := r1
  subst r1
  refine ⟨⟨a, rfl⟩, ?_⟩
  refine hb.run A _ γ σ g1 H1 _ (by omega) G1 (R.ext G e1) (hb.mono γ _ _ (fun b zb v g2 H2 G2 e2 r2 => ?_) za)
  have r2 : v = .str b := r2
  subst r2
  obtain ⟨⟨z1, z2⟩, z4⟩ := zb
  refine ⟨a, b, rfl, rfl, ?_, by rw [cpl_len]; exact z2, fun p hp => ?_⟩
  · rw [cpl_len]
    exact beq_eq_false_iff_ne.mpr (by omega)
  · obtain ⟨G3, e3⟩ := G2.new0 (o := .tup [.str (PySem.Txt.partition a b).1, .str (PySem.Txt.partition a b).2.1, .str (PySem.Txt.partition a b).2.2]) hp
    exact z4 _ g2 _ (G3.up (by omega)) ((e1.trans G1 e2).trans G2 e3) ⟨p, _, _, _, rfl, fz_new_tup, rfl, rfl, rfl⟩
/-- f"{number}{text}" -/
theorem ae_fIS {wa : TupT ks → (Int → Prop) → Prop} {wb : TupT ks → (Str → Prop) → Prop} (ha : AE P ks (rF K Int) ca ta wa) (hb : AE P ks (rF K Str) cb tb wb) :
    AE P ks (rF K Str) (ca + cb) (fun σ H Q => tJs [tFmt ta, tFmt tb] Str.empty σ H fun out H1 => Q (.str out) H1) (fun γ Q => wa γ fun i => (i.natAbs.log2 < 1920 ∧ (cpl (strI i)).length ≤ sizeLine) ∧ wb γ fun s => ((cpl s).length ≤ sizeLine ∧ (cpl (strI i)).length + (cpl s).length ≤ sizeLine) ∧ Q (strI i ++ s)) := by
  refine ⟨fun γ Q Q' q z => ha.mono γ _ _ (fun a za => ⟨za.1, hb.mono γ _ _ (fun b zb => ⟨zb.1, q _ zb.2⟩) za.2⟩) z, fun A b0 γ σ g H Q hb0 G R hw => ?_⟩
  refine ha.run A b0 γ σ g H _ (by omega) G R (ha.mono γ _ _ (fun i zi x g1 H1 G1 e1 r1 => ?_) hw)
  have r1 : x = .int i := r1
  subst r1
  have emp : Str.empty ++ strI i = strI i := by
    apply TL.ext_tl
    rw [TL.tl_append]
    rfl
  refine .inr ⟨i, rfl, zi.1.1, strI i, rfl, by rw [emp, cpl_len]; exact zi.1.2, ?_⟩
  refine hb.run A _ γ σ g1 H1 _ (by omega) G1 (R.ext G e1) (hb.mono γ _ _ (fun s zs v g2 H2 G2 e2 r2 => ?_) zi.2)
  have r2 : v = .str s := r2
  subst r2
  refine .inl ⟨s, rfl, by rw [cpl_len]; exact zs.1.1, s, rfl, ?_, ?_⟩
  · rw [emp, Str.length_append, cpl_len, cpl_len]
    exact zs.1.2
  · rw [emp]
    exact zs.2 _ g2 H2 (G2.up (by omega)) (e1.trans G1 e2) rfl
/-- a text of one sign in a text -/
theorem ae_inS1 {wa wb : TupT ks → (Str → Prop) → Prop} (ha : AE P ks (rF K Str) ca ta wa) (hb : AE P ks (rF K Str) cb tb wb) : AE P ks (rF K Bool) (ca + cb) (tOp rInS ta tb) (fun γ Q => wa γ fun s => wb γ fun t => ∃ c, s = oneS c ∧ Q (decide (c ∈ cpl t))) :=
  AE.op2 (r := rF K Bool) (k1 := vF K Str) (k2 := vF K Str) (f := fun s t Q => ∃ c, s = oneS c ∧ Q (decide (c ∈ cpl t))) ha hb (fun _ _ _ _ q ⟨c, e, z⟩ => ⟨c, e, q _ z⟩) fun A b0 g H x y s t Q G rx ry ⟨c, e, z⟩ => by
    have rx : x = .str s := rx
    have ry : y = .str t := ry
    subst rx ry e
    exact ⟨c, t, rfl, rfl, z _ g H (G.up (by omega)) (Ext.refl g H) rfl⟩
/-- an item among data -/
theorem ae_inD {α : Type} [Rp K α] [ToD K α] {wa : TupT ks → (PyData → Prop) → Prop} {wb : TupT ks → (List α → Prop) → Prop} (ha : AE P ks (rF K PyData) ca ta wa) (hb : AE P ks (rF K (List α)) cb tb wb) :
    AE P ks (rF K Bool) (ca + cb) (tOp (rInD K) ta tb) (fun γ Q => wa γ fun d => wb γ fun xs => (SeqAt.shaped d = true ∧ SeqAt.shaped (ToD.toD K xs) = true) ∧ Q (xs.any fun z => PyData.eqv (ToD.toD K z) d)) :=
  AE.op2 (r := rF K Bool) (k1 := vF K PyData) (k2 := vF K (List α)) (f := fun d xs Q => (SeqAt.shaped d = true ∧ SeqAt.shaped (ToD.toD K xs) = true) ∧ Q (xs.any fun z => PyData.eqv (ToD.toD K z) d)) ha hb (fun _ _ _ _ q z => ⟨z.1, q _ z.2⟩) fun A b0 g H x y d xs Q G rx ry z => by
    refine ⟨d, xs.map (ToD.toD K), Dp.mono' fz_sub _ _ rx, Dp.mono' fz_sub _ _ (ToD.ok ry), z.1.1, z.1.2, ?_⟩
    rw [List.any_map]
    exact z.2 _ g H (G.up (by omega)) (Ext.refl g H) rfl
end DL
/-! DL: a new list of what is not None handed back. -/
namespace DL
open PySem PySem.Spec PyProof.Rows L2
variable {P : TokP} {K : PySem.W.Frag} {ks ks' kb : List Kd}
theorem _root_.L2.Room.u65 {k : Nat} {A : Around} (r : Room k A) : A.units + 65 < cLine := by
  have := r.un
  omega
theorem paired_some {α : Type} [Rp K α] {F : Hp} : ∀ {vs : List V} {ys : List α}, Paired (Rp.rp K F) vs (ys.map some) → Paired (Rp.rp K F) vs ys
  | _, [], .nil => .nil
  | _, _ :: _, .cons h t => .cons h.2 (paired_some t)
theorem as_giveS {α : Type} [Rp K α] {n : Nat} (a : Acc ks n (kO K (Option α))) : AS P ks ks' (rO K α) kb 0 (tRet (tVar n)) (fun γ E => ∃ ys, a.get γ = ys.map some ∧ E.rt ys) := by
  refine ⟨fun γ E E' i ⟨ys, e, z⟩ => ⟨ys, e, i.rt _ z⟩, fun A b0 γ σ g H D hb0 G R ⟨ys, ey, hw⟩ => ?_⟩
  obtain ⟨y, e, p, vs, rfl, h1, h2, h3, hl⟩ := a.ok R
  rw [ey] at h3 hl
  rw [List.length_map] at hl
  have h0 : A.H0 p = none := G.noown0 h1
  refine ⟨_, e, hw _ (tagAt g p .oth) H (G.retag h0 h2 (by rw [h1]; simp) fun z => nomatch z) ⟨p, vs, rfl, h0, tagAt_same, h2, Paired.rp_mono (le_tag (by rw [h1]; simp) (by rw [h1]; simp)).fz (paired_some h3), hl⟩⟩
end DL
/-! DL: a set of numbers as data, number in set, row[:] = other, a, b, c = new list, any, any. -/
namespace DL
open PySem PySem.Spec PyProof.Rows L2
/-- the numbers that a set has -/
structure SI where
  l : List Int
def SetF (a : Addr) (S : Int → Bool) : HO := .ext fun h => ∃ w n, SetR w h a S n
theorem setF_new {w w' : World} {P : Program} {H : Hp} {h : Heap} {a : Addr} {S : Int → Bool} {n : Nat} (R : SetR w h a S n) : ObjOk P w' H h a (SetF a S) := by
  have ⟨o, _, _, _, ho, _⟩ := R
  exact ⟨⟨w, n, R⟩, ⟨o, ho⟩, fun h1 h2 ⟨w, n, p⟩ k => ⟨w, n, SetR.at p k⟩⟩
instance {K : PySem.W.Frag} : Rp K SI := ⟨fun F v x => ∃ a, v = .ref a ∧ F a = some (SetF a fun j => decide (j ∈ x.l)), fun e ⟨a, h, k⟩ => ⟨a, h, e _ _ k⟩⟩
def rSetI (K : PySem.W.Frag) : List V → Hp → VK → Prop := fun vs H Q => ∃ (a : Addr) (ns : List Int), vs = [V.ref a] ∧ SqL K H a (ns.map V.int) ∧ ns.length < 4095 ∧
  ∀ p, H p = none → Q (.ref p) (upd H p (SetF p fun j => decide (j ∈ ns)))
theorem pe_setI {X : Cx} {a : Expr} {ta : TE} {p2 q : Pos} (hg2 : Gl X "set") (hm2 : X.mg "set" = none) (ha : PE X a ta) (hc : X.calm = true := by rfl)
    (na : starEach [a] X.env = (false, eval a X.env) :: starEach [] X.env := by rfl) : PE X (.Call (.Name "set" p2) [a] [] q) (tCB (rSetI X.K) (tCons ta tNil)) := by
  refine ⟨fun pins s σ H Q I h => ?_⟩
  refine wpAny_Call_Name_kw (ld_blt I hg2 hm2 (show bootBuiltins "set" = some (.type "set") by decide +kernel) ?_ (by decide) (by decide))
  refine PyProof.Rows.callWith_type1 (PyProof.Rows.args_cons (thn (ha.run pins s σ H _ I h) fun v s1 ⟨x, H1, I1, r1, q1⟩ => PyProof.Rows.args_nil ?_) na) na rfl
  obtain ⟨l, ns, e, hq, hn, hk⟩ := q1
  cases e
  cases r1
  obtain ⟨its, r, pl, hz⟩ := I1.list hq
  refine set_lst ns (I1.ok.hd hc) pl.isList (by simpa using r.ints) (by unfold scanBound; omega) fun s2 m => ?_
  obtain ⟨h', tk, c, e2, S, hcl, keep⟩ := m
  rw [e2]
  exact ⟨.ref _, upd H1 s1.heap.objs.size (SetF s1.heap.objs.size fun j => decide (j ∈ ns)), I1.laid (t' := tk) keep (Nat.le_refl _) (setF_new S), rfl, hk _ (I1.hok.fresh (Nat.le_refl _))⟩
def rInSI : V → V → Hp → VK → Prop := fun x y H Q => ∃ k a S, x = V.int k ∧ y = V.ref a ∧ H a = some (SetF a S) ∧ Q (.bl (S k)) H
theorem op_inSI {X : Cx} : OpR X (compareOp .In) rInSI := by
  intro pins s σ H x y v u Q I rx ry h
  obtain ⟨k, a, S, rfl, rfl, ha, q⟩ := h
  obtain ⟨tk, rfl⟩ := rx
  cases ry
  obtain ⟨w, n, o, es, ep, t, ho, hx, hd, g, nd, hm, hb, hf, hn, _⟩ := (I.hok a _ ha).1
  have SO : s.heap.SetOf (intKind X.prog X.w) a S n := ⟨o, es, ep, t, ho, hx, hd, good_elems g, fun k => (hm k).trans (good_mem g k), hb, hf, hn⟩
  exact wpAny_inSet_of (intKind_is _ _ _ _) rfl SO ⟨.bl (S k), H, I.tok _, rfl, q⟩
section
variable {P : TokP} {K : PySem.W.Frag} {ks ks' ks1 ks2 kb : List Kd} {r : Rk} {ta tb te : TE}
theorem ae_setI {wl : TupT ks → (List Int → Prop) → Prop} (ha : AE P ks (rF K (List Int)) ca ta wl) : AE P ks (rF K SI) ca (tCB (rSetI K) (tCons ta tNil)) (fun γ Q => wl γ fun xs => xs.length < 4095 ∧ Q ⟨xs⟩) :=
  AE.cb1 (r := rF K SI) (k := vF K (List Int)) (f := fun xs Q => xs.length < 4095 ∧ Q ⟨xs⟩) ha (fun _ _ _ q z => ⟨z.1, q _ z.2⟩) fun A b0 g H x xs Q G rx z => by
    obtain ⟨a, vs, rfl, h, pr, hl⟩ := rx
    refine ⟨a, xs, rfl, by rw [← paired_int pr]; exact sq_of fz_sub h, z.1, fun p hp => ?_⟩
    obtain ⟨G2, e2⟩ := G.new0 (o := SetF p fun j => decide (j ∈ xs)) hp
    refine z.2 _ (tagAt g p .frz) _ ((G2.retag (t := .frz) (G.ext.keeps G hp) upd_same (by rw [G.non p hp]; simp) (fun z => nomatch z)).up (by omega)) (fun b o hb => ?_) ⟨p, rfl, fz_some.mpr ⟨upd_same, .inr (by rw [tagAt_same]; rfl)⟩⟩
    rw [tagAt_ne (ne_of_none hb hp)]
    exact e2 b o hb
theorem ae_inSI {wa : TupT ks → (Int → Prop) → Prop} {wb : TupT ks → (SI → Prop) → Prop} (ha : AE P ks (rF K Int) ca ta wa) (hb : AE P ks (rF K SI) cb tb wb) : AE P ks (rF K Bool) (ca + cb) (tOp rInSI ta tb) (fun γ Q => wa γ fun x => wb γ fun ns => Q (decide (x ∈ ns.l))) :=
  AE.op2 (r := rF K Bool) (k1 := vF K Int) (k2 := vF K SI) (f := fun x ns Q => Q (decide (x ∈ ns.l))) ha hb (fun _ _ _ _ q z => q _ z) fun A b0 g H u v x ns Q G ru rv z => by
    obtain ⟨a, rfl, h⟩ := rv
    have eu : u = .int x := ru
    subst eu
    exact ⟨x, a, _, rfl, rfl, (fz_some.mp h).1, z _ g H (G.up (by omega)) (Ext.refl g H) rfl⟩
/-! ### a, b, c = new list, any, any -/
theorem as_par3O {α : Type} [Rp K α] {tc : TE} {k2 k3 : Vk} {i j l : Nat} {wa : TupT ks → (List α → Prop) → Prop} {wb : TupT ks → (k2.T → Prop) → Prop} {wc : TupT ks → (k3.T → Prop) → Prop} (ha : AE P ks (rO K α) ca ta wa) (hb : AE P ks (rV k2) cb tb wb) (hc : AE P ks (rV k3) cc tc wc) (p1 : Put ks i (kO K α) ks1) (p2 : Put ks1 j (kV k2) ks2) (p3 : Put ks2 l (kV k3) ks') :
    AS P ks ks' r kb (ca + cb + cc) (tPar3 i j l (tCons ta (tCons tb (tCons tc tNil)))) (fun γ E => wa γ fun x => wb γ fun y => wc γ fun z => ∀ a b c, a = x → b = y → c = z → E.nx (p3.put (p2.put (p1.put γ a) b) c)) := by
  refine ⟨fun γ E E' im z => ha.mono γ _ _ (fun x zx => hb.mono γ _ _ (fun y zy => hc.mono γ _ _ (fun y3 z3 a b c ea eb ec => im.nx _ (z3 a b c ea eb ec)) zy) zx) z, fun A b0 γ σ g H D hb0 G R hw => ?_⟩
  refine ha.run A b0 γ σ g H _ (by omega) G R (ha.mono γ _ _ (fun x zx v g1 H1 G1 e1 r1 => ?_) hw)
  refine hb.run A _ γ σ g1 H1 _ (by omega) G1 (R.ext G e1) (hb.mono γ _ _ (fun y zy u g2 H2 G2 e2 r2 => ?_) zx)
  refine hc.run A _ γ σ g2 H2 _ (by omega) G2 ((R.ext G e1).ext G1 e2) (hc.mono γ _ _ (fun y3 z3 u3 g3 H3 G3 e3 r3 => ?_) zy)
  obtain ⟨a, vs, rfl, h1, h2, h3, h4, hl⟩ := r1
  have e23 := e2.trans G2 e3
  have q1 := e23 a _ h3
  have h2' : g3 a = .oth := q1.1.trans h2
  have h3' : H3 a = some (.lst vs) := q1.2 (by rw [h2]; simp)
  have hA : A.H0 a = none := G.ext.keeps G h1
  have Ga : Good P A (b0 + ca + cb + cc) (tagAt g3 a (.own i)) H3 := G3.retag (t := .own i) hA h3' (by rw [h2']; simp) (fun z => nomatch z)
  have la : Le g3 H3 (tagAt g3 a (.own i)) H3 := le_tag (by rw [h2']; simp) (by rw [h2']; simp)
  have e13 := (e1.trans G1 e23)
  have l0 : Le g H (tagAt g3 a (.own i)) H3 := (e13.le G).trans la
  have R1 := p1.ok (y := some (.ref a)) (x := x) R l0 (fun k hk c o hc ho => by
    obtain ⟨z1, z2⟩ := (e13.lx G).ow k c o hc ho
    refine ⟨?_, z2⟩
    rw [tagAt_ne]
    · exact z1
    · intro z
      subst z
      rw [h2'] at z1
      cases z1) ⟨a, vs, rfl, by rw [Nat.zero_add]; exact tagAt_same, h3', Paired.rp_mono ((e23.le G1).fz.trans la.fz) h4, hl⟩
  have R2 := p2.ok (y := some u) (x := y) R1 (Le.refl _ H3) (fun k hk c o hc ho => ⟨hc, ho⟩) ⟨u, rfl, k2.mono ((e3.le G2).trans la) r2⟩
  have R3 := p3.ok (y := some u3) (x := y3) R2 (Le.refl _ H3) (fun k hk c o hc ho => ⟨hc, ho⟩) ⟨u3, rfl, k3.mono la r3⟩
  exact ⟨_, _, _, rfl, z3 _ _ _ rfl rfl rfl _ _ H3 (Ga.up (by omega)) l0 R3⟩
end
/-! ### row[:] = other -/
theorem all_bounds (n : Nat) : sliceBounds none none none n = (((0 : Nat) : Int), (n : Int), 1) := by
  simp [sliceBounds]
section
variable {prog : Program} {w : World} {A : Around} {E : Value → Shared → Prop} {s : Shared}
theorem setItem_all {l b sl : Addr} {items new : Array Value} {n n2 : Nat} {o2 : Obj} {Q : Unit → Shared → Prop}
    (e : s.heap.get? l = some { cls := .type "list", data := .seq items n }) (hb : s.heap.IsList b new) (e2 : s.heap.get? b = some o2) (d2 : o2.data = .seq new n2) (hne : l ≠ b)
    (hs : s.heap.IsSliceOf sl .none .none .none) (hsz : items.size + new.size ≤ sizeLine) (h : Q () { s with heap := s.heap.update l (Obj.mapSeq fun xs => xs.extract 0 0 ++ new ++ xs.extract items.size xs.size) }) :
    wpAny (model prog w) A (setItem (.ref l) (.ref sl) (.ref b)) Q E s := by
  have hl : s.heap.IsList l items := PySem.IsL.isList e
  obtain ⟨os, hos, hcs, hds⟩ := id hs
  have hTs : s.TypeIs (.ref sl) "slice" := ⟨os, hos, hcs⟩
  have hstep : ¬ ((rawPart none == rawInt 0) = true) := Bool.false_ne_true
  have hsame : Builtin.List.listSameRef (.ref l) (.ref b) = false := beq_eq_false_iff_ne.mpr hne
  have hmax : (max ((0 : Nat) : Int) (items.size : Int)).toNat = items.size := by omega
  have hz' : ((fun xs : Array Value => xs.extract 0 0 ++ new ++ xs.extract items.size xs.size) items).size ≤ sizeLine + 1 := by
    simp only [Array.size_append, Array.size_extract]
    omega
  unfold setItem
  try with_reducible refine wpAny_holding ?_
  first | refine wpAny_bind (wpAny_pure ?_) | skip
  refine wpAny_bind (wpAny_sequenceKey hl.typeIs (by decide) ?_)
  refine wpAny_bind (wpAny_callSpecial?_slot (name := Str.ofString "__setitem__") hl.typeIs slot_list_setitem
    (wpAny_call_entry slot_list_setitem hl.typeIs entry_list_setitem ?_ (args_list_setitem _ _ _)))
  show wpAny _ _ (Builtin.List.listSubscript? (.ref sl) >>= _) _ _ s
  refine wpAny_bind ?_
  unfold Builtin.List.listSubscript?
  refine wpAny_bind (wpAny_specialOf hTs slice_no_index ?_)
  simp only [Option.isNone_none, if_true]
  refine wpAny_pure ?_
  show wpAny _ _ (typeOf (.ref sl) >>= _) _ _ s
  refine wpAny_bind (wpAny_typeOf hTs ?_)
  first
    | rw [if_neg (by decide)]
    | refine PySem.W.KFB.if_not (by decide) ?_
  rw [listSliceParts_eq]
  refine wpAny_bind (wpAny_bind (wpAny_field hos hds (x := .none) rfl (wpAny_bind (wpAny_listPart .none ?_))))
  rw [if_neg hstep]
  refine wpAny_bind (wpAny_field hos hds (x := .none) rfl (wpAny_bind (wpAny_listPart .none ?_)))
  refine wpAny_bind (wpAny_field hos hds (x := .none) rfl (wpAny_bind (wpAny_listPart .none (wpAny_pure ?_))))
  first
    | simp only [hsame, Bool.false_eq_true, if_false]
    | refine PySem.W.KFB.if_not hsame ?_
  refine wpAny_bind (m := Builtin.List.listAllItems (.ref b) "must assign iterable to extended slice") ?_
  unfold Builtin.List.listAllItems
  refine wpAny_bind (wpAny_typeOf hb.typeIs ?_)
  first
    | refine PySem.W.KFB.if_so (by decide) ?_
    | rw [if_pos (by decide)]
  unfold Builtin.List.listItems
  refine wpAny_bind (wpAny_seqItems e2 d2 (wpAny_pure ?_))
  refine wpAny_bind (wpAny_bind (wpAny_seqItems e rfl (wpAny_pure ?_)))
  refine wpAny_bind (wpAny_of_eq ((sliceIndices_raw none none none items.size (by simp)).trans (congrArg (pure : Int × Int × Int → Sem (Int × Int × Int)) (all_bounds _))) ?_)
  show wpAny _ _ (if ((1 : Int) == 1) = true then _ else _) _ _ s
  rw [if_pos (by decide)]
  refine wpAny_bind (wpAny_rule ?_)
  first
    | simp only [notLongL hsz, Bool.false_eq_true, if_false]
    | refine PySem.W.KFB.if_not (notLongL hsz) ?_
  first | refine wpAny_bind (wpAny_pure ?_) | skip
  show wpAny _ _ (updateSeq l (fun xs => xs.extract 0 (((0 : Nat) : Int)).toNat ++ new ++ xs.extract (max ((0 : Nat) : Int) (items.size : Int)).toNat xs.size) >>= _) _ _ s
  rw [hmax, Int.toNat_natCast]
  refine wpAny_bind (wpAny_updateSeq (hz := Nat.le_trans (Nat.le_add_right _ _) hsz) (_hz' := hz') e rfl ?_)
  refine wpAny_bind (wpAny_letGo ?_)
  first
    | exact wpAny_bind (wpAny_pure (wpAny_pure ⟨.none, rfl, wpAny_pure h⟩))
    | exact wpAny_pure ⟨.none, rfl, wpAny_pure h⟩
end
section
variable {X : Cx} {o : Expr} {to : TE} {p2 pos : Pos}
/-- xs[:] = .. -/
def gAll (K : PySem.W.Frag) (to : TE) : TG := fun v σ H Q => to σ H fun x H1 => ∃ l b xs ys, x = .ref l ∧ v = .ref b ∧ H1 l = some (.lst xs) ∧ SqL K H1 b ys ∧ ((∃ o, K.lookup b = some o) ∨ l ≠ b) ∧ xs.length + ys.length ≤ sizeLine ∧ Q σ (upd H1 l (.lst ys))
theorem pg_all (ho : PE X o to) : PG X (.Subscript o (.Slice none none none p2) pos) (gAll X.K to) := by
  refine ⟨fun pins s σ H v u Q I r h => ?_⟩
  rw [arm_assign_Subscript]
  refine wpAny_bind (wpAny_holding (thn (ho.run pins s σ H _ I h) fun ov s1 ⟨x, H1, I1, r1, q1⟩ => ?_))
  obtain ⟨l, b, xs, ys, rfl, rfl, hl, hb, hor, hz, q⟩ := q1
  have hne : l ≠ b := by
    rcases hor with ⟨o, hk⟩ | hor
    · intro z
      subst z
      have q1 := I1.ok.mod.kin _ _ hk
      have q2 := I1.ok.bs _ _ q1
      have q3 := I1.base.free _ _ q2.1 q2.2 (I1.ok.noex _ _ q1)
      rw [hl] at q3
      cases q3
    · exact hor
  cases r
  cases r1
  refine wpAny_bind (wpAny_holding (wpAny_Slice ?_))
  rw [evalPart_none]
  refine wpAny_pure (wpAny_pure (wpAny_pure ?_))
  have I2 : Inv X pins σ H1 { s1 with heap := s1.heap.push { cls := .type "slice", data := .fields #[.none, .none, .none] } } := I1.kept (t' := s1.toks) fun b ob q => Heap.get?_push_of_some _ q
  obtain ⟨z, its, n, r, hlen, e⟩ := I2.lstM hl
  obtain ⟨its2, r2, pl, hz2⟩ := I2.list hb
  obtain ⟨o2, n2, g2, c2, d2, e2⟩ := id pl
  refine wpAny_bind (wpAny_standAt (wpAny_bind (wpAny_holding ?_)))
  refine setItem_all e pl.isList g2 e2 hne (Heap.IsSliceOf.new ..) (by rw [List.size_toArray, List.size_toArray, ← hlen, ← r2.length]; exact hz) ?_
  refine wpAny_release ⟨σ, upd H1 l (.lst ys), I2.lset (its' := its2) (t' := s1.toks) hl e ?_ r2 hz2, q⟩
  apply Array.toList_inj.mp
  simp
end
section
variable {P : TokP} {K : PySem.W.Frag} {ks ks' kb : List Kd} {r : Rk} {te : TE}
theorem as_all {α : Type} [Rp K α] {n : Nat} {w : TupT ks → (List α → Prop) → Prop} (a : Acc ks n (kO K α)) (p : Put ks n (kO K α) ks) (he : AE P ks (rF K (List α)) ce te w) :
    AS P ks ks r kb ce (tAsg te (gAll K (tVar n))) (fun γ E => w γ fun xs => (a.get γ).length + xs.length ≤ sizeLine ∧ E.nx (p.put γ xs)) := by
  refine ⟨fun γ E E' i z => he.mono γ _ _ (fun x zx => ⟨zx.1, i.nx _ zx.2⟩) z, fun A b0 γ σ g H D hb0 G R hw => ?_⟩
  obtain ⟨y, e, b, vs, rfl, h1, h2, h3, hl⟩ := a.ok R
  refine he.run A b0 γ σ g H _ (by omega) G R (he.mono γ _ _ (fun x zx v g' H' G' e' r' => ⟨_, e, ?_⟩) hw)
  obtain ⟨q1, q2⟩ := (e'.lx G).ow _ b _ h1 h2
  obtain ⟨c, us, rfl, hq, pr, hl2⟩ := r'
  have ne : (∃ o, K.lookup c = some o) ∨ b ≠ c := by
    refine .inr fun z => ?_
    subst z
    obtain ⟨_, hh⟩ := fz_some.mp hq
    rw [q1] at hh
    rcases hh with hh | hh <;> cases hh
  obtain ⟨G3, l3, R3⟩ := own_write p G' (R.ext G e') e q1 q2 pr hl2
  exact ⟨b, c, vs, us, rfl, rfl, q2, sq_of fz_sub hq, ne, by rw [Paired.len h3, Paired.len pr]; exact zx.1, zx.2 σ g' _ (G3.up (by omega)) ((e'.le G).trans l3) R3⟩
theorem ae_ixNw {α : Type} [Rp K α] {ta tb : TE} {wa : TupT ks → (List α → Prop) → Prop} {wb : TupT ks → (Int → Prop) → Prop} (ha : AE P ks (rNw K (List α)) ca ta wa) (hb : AE P ks (rF K Int) cb tb wb) : AE P ks (rNw K α) (ca + cb) (tOp (rIxL K) ta tb) (fun γ Q => wa γ fun xs => wb γ fun i => ∃ x, atI xs i = some x ∧ Q x) := by
  refine ⟨fun γ Q Q' q z => ha.mono γ _ _ (fun a za => hb.mono γ _ _ (fun b ⟨x, e, zb⟩ => ⟨x, e, q _ zb⟩) za) z, fun A b0 γ σ g H Q hb0 G R hw => ?_⟩
  refine ha.run A b0 γ σ g H _ (by omega) G R (ha.mono γ _ _ (fun xs za v g1 H1 G1 e1 r1 => ?_) hw)
  refine hb.run A _ γ σ g1 H1 _ (by omega) G1 (R.ext G e1) (hb.mono γ _ _ (fun i ⟨x, ex, zi⟩ u g2 H2 G2 e2 r2 => ?_) za)
  obtain ⟨a, vs, rfl, k1, k2, k3⟩ := r1
  obtain ⟨w, hv, rv⟩ := Paired.atI' k2 ex
  have a1 := fzn_le (Hs := H) (e2.le G1) _ _ k1
  exact ⟨a, vs, i, w, rfl, r2, .inl (.inl (fzn_some.mp a1).1), hv, zi w g2 H2 (G2.up (by omega)) (e1.trans G1 e2) (Rp.mono (fzn_le (e2.le G1)) rv)⟩
theorem ae_nwO {α : Type} [Rp K α] [Flat K α] {ta : TE} {w : TupT ks → (List α → Prop) → Prop} (h : AE P ks (rO K α) ca ta w) : AE P ks (rNw K (List α)) ca ta w := by
  refine ⟨h.mono, fun A b0 γ σ g H Q hb0 G R hw => ?_⟩
  refine h.run A b0 γ σ g H Q (by omega) G R (h.mono γ _ _ (fun xs z v g' H' G' e r' => ?_) hw)
  obtain ⟨p, vs, rfl, h1, h2, h3, h4, h5⟩ := r'
  refine z _ (tagAt g' p .frz) H' (G'.retag (t := .frz) (G.ext.keeps G h1) h3 (by rw [h2]; simp) (fun z => nomatch z)) (fun a o ha => ?_) ⟨p, vs, rfl, fzn_some.mpr ⟨h3, .inr ⟨h1, tagAt_same⟩⟩, Paired.mapP h4 fun _ _ q => Flat.fl (K := K) (α := α) (F := Fz g' H') (F' := FzN H (tagAt g' p .frz) H') fzn_tups q, h5⟩
  rw [tagAt_ne (ne_of_none ha h1)]
  exact e a o ha
end
end DL
/-! DL: a dict that counts texts, owned by a slot; as data. -/
namespace DL
open PySem PySem.Spec PyProof.Rows L2
/-- texts, each with a number -/
structure DT where
  l : List (Str × Int)
def encT (d : DT) : List (Key × V) := d.l.map fun p => (.inr p.1, .int p.2)
def getT (d : DT) (s : Str) (z : Int) : Int := ((d.l.find? fun p => decide (p.1 = s)).map (·.2)).getD z
def putT (d : DT) (s : Str) (z : Int) : DT := ⟨if (d.l.any fun p => decide (p.1 = s)) = true then d.l.map (fun p => if p.1 = s then (p.1, z) else p) else d.l ++ [(s, z)]⟩
def incT (d : DT) (s : Str) : DT := putT d s (getT d s 0 + 1)
theorem inr_iff {a b : Str} : (Sum.inr a : Key) = Sum.inr b ↔ a = b := ⟨Sum.inr.inj, fun h => h ▸ rfl⟩
theorem encT_put (d : DT) (k : Str) (z : Int) : putK (encT d) (.inr k) (.int z) = encT (putT d k z) := by
  unfold putK putT encT
  have e : ((d.l.map fun p => ((.inr p.1, .int p.2) : Key × V)).any fun kv => decide (kv.1 = .inr k)) = d.l.any fun p => decide (p.1 = k) := by
    rw [List.any_map]
    congr 1
    funext p
    exact decide_eq_decide.mpr inr_iff
  rw [e]
  dsimp only
  split
  · rw [List.map_map, List.map_map]
    refine List.map_congr_left fun p _ => ?_
    show (if (Sum.inr p.1 : Key) = .inr k then _ else _) = (_ : Key × V)
    by_cases q : p.1 = k
    · rw [if_pos (inr_iff.mpr q)]
      show _ = ((Sum.inr (if p.1 = k then (p.1, z) else p).1, V.int (if p.1 = k then (p.1, z) else p).2) : Key × V)
      rw [if_pos q]
    · rw [if_neg fun y => q (inr_iff.mp y)]
      show _ = ((Sum.inr (if p.1 = k then (p.1, z) else p).1, V.int (if p.1 = k then (p.1, z) else p).2) : Key × V)
      rw [if_neg q]
  · rw [List.map_append]
    rfl
theorem encT_get (d : DT) (k : Str) (z : Int) : (valV (encT d) (.inr k)).getD (.int z) = .int (getT d k z) := by
  obtain ⟨l⟩ := d
  unfold encT getT
  dsimp only
  induction l with
  | nil => rfl
  | cons p l ih =>
    by_cases q : p.1 = k
    · rw [List.map_cons, valV_pos (by rw [q]), List.find?_cons, decide_eq_true q]
      rfl
    · rw [List.map_cons, valV_neg (fun e => q (Sum.inr.inj e)), ih, List.find?_cons, decide_eq_false q]
instance {K : PySem.W.Frag} : Rp K DT := ⟨fun F v x => ∃ p, v = .ref p ∧ F p = some (.dK (encT x)), fun e ⟨p, h, k⟩ => ⟨p, h, e _ _ k⟩⟩
@[reducible] def kDt (K : PySem.W.Frag) : Kd := ⟨DT, fun i y x g H => ∃ p, y = some (.ref p) ∧ g p = .own i ∧ H p = some (.dK (encT x)), fun l o ⟨p, e, h1, h2⟩ => ⟨p, e, (o p _ h1 h2).1, (o p _ h1 h2).2⟩⟩
variable {P : TokP} {K : PySem.W.Frag} {ks ks' ks1 ks2 kb : List Kd} {r : Rk} {tb td ts tz : TE}
theorem ae_getT {wd : TupT ks → (DT → Prop) → Prop} {ws : TupT ks → (Str → Prop) → Prop} {wz : TupT ks → (Int → Prop) → Prop} (hd : AE P ks (rF K DT) cd td wd) (hs : AE P ks (rF K Str) cs ts ws) (hz : AE P ks (rF K Int) cz tz wz) :
    AE P ks (rF K Int) (cd + cs + cz) (tDGet2 td ts tz) (fun γ Q => wd γ fun d => ws γ fun s => wz γ fun z => Q (getT d s z)) := by
  refine ⟨fun γ Q Q' q z => hd.mono γ _ _ (fun d zd => hs.mono γ _ _ (fun s zs => hz.mono γ _ _ (fun x zx => q _ zx) zs) zd) z, fun A b0 γ σ g H Q hb0 G R hw => ?_⟩
  refine hd.run A b0 γ σ g H _ (by omega) G R (hd.mono γ _ _ (fun d zd v g1 H1 G1 e1 r1 => ?_) hw)
  obtain ⟨p, rfl, hp⟩ := r1
  refine ⟨p, rfl, .inl ⟨_, .inl (fz_some.mp hp).1⟩, ?_⟩
  refine hs.run A _ γ σ g1 H1 _ (by omega) G1 (R.ext G e1) (hs.mono γ _ _ (fun s zs u g2 H2 G2 e2 r2 => ?_) zd)
  refine hz.run A _ γ σ g2 H2 _ (by omega) G2 ((R.ext G e1).ext G1 e2) (hz.mono γ _ _ (fun z zz y g3 H3 G3 e3 r3 => ?_) zs)
  have r2 : u = .str s := r2
  have r3 : y = .int z := r3
  subst r2 r3
  have hp3 := (e3.le G2).fz p _ ((e2.le G1).fz p _ hp)
  refine ⟨_, .inl ⟨encT d, Sum.inr s, .inl (fz_some.mp hp3).1, rfl, rfl⟩, ?_⟩
  rw [encT_get]
  exact zz _ g3 H3 (G3.up (by omega)) ((e1.trans G1 e2).trans G2 e3) rfl
/-- d, x = {}, e -/
theorem as_parDt {k2 : Vk} {i j : Nat} {wb : TupT ks → (k2.T → Prop) → Prop} (hb : AE P ks (rV k2) cb tb wb) (hij : i ≠ j) (p1 : Put ks i (kDt K) ks1) (p2 : Put ks1 j (kV k2) ks') :
    AS P ks ks' r kb cb (tPar i j (tCons tDNewK (tCons tb tNil))) (fun γ E => wb γ fun y => ∀ a b, a = ⟨[]⟩ → b = y → E.nx (p2.put (p1.put γ a) b)) := by
  refine ⟨fun γ E E' im z => hb.mono γ _ _ (fun y zy a b ea eb => im.nx _ (zy a b ea eb)) z, fun A b0 γ σ g H D hb0 G R hw => ?_⟩
  intro a ha
  obtain ⟨G1, e1⟩ := G.new0 (o := .dK []) ha
  have h2 : g a = .oth := G.non a ha
  refine hb.run A b0 γ σ g _ _ (by omega) G1 (R.ext G e1) (hb.mono γ _ _ (fun y zy u g2 H2 G2 e2 r2 => ?_) hw)
  have q1 := e2 a _ upd_same
  have h2' : g2 a = .oth := q1.1.trans h2
  have h3' : H2 a = some (.dK []) := q1.2 (by rw [h2]; simp)
  have hA : A.H0 a = none := G.ext.keeps G ha
  have Ga : Good P A (b0 + cb) (tagAt g2 a (.own i)) H2 := G2.retag (t := .own i) hA h3' (by rw [h2']; simp) (fun z => nomatch z)
  have la : Le g2 H2 (tagAt g2 a (.own i)) H2 := le_tag (by rw [h2']; simp) (by rw [h2']; simp)
  have e12 := e1.trans G1 e2
  have l0 : Le g H (tagAt g2 a (.own i)) H2 := (e12.le G).trans la
  have R1 := p1.ok (y := some (.ref a)) (x := ⟨[]⟩) R l0 (fun k hk c o hc ho => by
    obtain ⟨z1, z2⟩ := (e12.lx G).ow k c o hc ho
    refine ⟨?_, z2⟩
    rw [tagAt_ne]
    · exact z1
    · intro z
      subst z
      rw [h2'] at z1
      cases z1) ⟨a, rfl, by rw [Nat.zero_add]; exact tagAt_same, h3'⟩
  have R2 := p2.ok (y := some u) (x := y) R1 (Le.refl _ H2) (fun k hk c o hc ho => ⟨hc, ho⟩) ⟨u, rfl, k2.mono la r2⟩
  exact ⟨_, _, rfl, zy _ _ rfl rfl _ _ H2 (Ga.up (by omega)) l0 R2⟩
/-- d[s] = d.get(s, 0) + 1 -/
theorem as_incT {n m : Nat} (a : Acc ks n (kDt K)) (p : Put ks n (kDt K) ks) (am : Acc ks m (kF K Str)) :
    AS P ks ks r kb 0 (sDPut (tVar n) (tVar m) (tOp (rI0 fun i j => .int (i + j)) (tDGet2 (tVar n) (tVar m) (tC (.int 0))) (tC (.int 1)))) (fun γ E => (a.get γ).l.length < sizeLine ∧ E.nx (p.put γ (incT (a.get γ) (am.get γ)))) := by
  refine ⟨fun γ E E' i z => ⟨z.1, i.nx _ z.2⟩, fun A b0 γ σ g H D hb0 G R hw => ?_⟩
  obtain ⟨y, e, b, rfl, h1, h2⟩ := a.ok R
  obtain ⟨y2, e2, v2, rfl, h3⟩ := am.ok R
  have h3 : v2 = .str (am.get γ) := h3
  subst h3
  refine ⟨_, e, b, rfl, .inl ⟨_, .inl h2⟩, _, e2, ?_⟩
  refine ⟨_, .inl ⟨encT (a.get γ), Sum.inr (am.get γ), .inl h2, rfl, rfl⟩, ?_⟩
  rw [encT_get]
  refine ⟨_, _, rfl, rfl, _, e, _, e2, b, _, rfl, .inl ⟨_, Sum.inr (am.get γ), h2, rfl, by unfold encT; rw [List.length_map]; exact hw.1, rfl⟩, ?_⟩
  rw [encT_put]
  have l2 := G.write_le (u := .dK (encT (incT (a.get γ) (am.get γ)))) h1 h2 rfl
  have R2 := p.ok (y := some (.ref b)) (x := incT (a.get γ) (am.get γ)) R l2 (fun j hj c o hc ho => ⟨hc, by
    rw [upd_ne]
    · exact ho
    · intro z
      subst z
      rw [h1] at hc
      exact hj (Tg.own.inj hc).symm⟩) ⟨b, rfl, h1, upd_same⟩
  rw [set_self e] at R2
  exact hw.2 σ g _ ((G.write h1 h2).up (by omega)) l2 R2
/-- nobody changes it any more -/
theorem as_frzDt {n : Nat} {t : TS} {w : TupT ks1 → We ks' r kb → Prop} (a : Acc ks n (kDt K)) (p : Put ks n (kF K DT) ks1) (h : AS P ks1 ks' r kb ct t w) : AS P ks ks' r kb ct t (fun γ E => w (p.put γ (a.get γ)) E) := by
  refine ⟨fun γ E E' i z => h.mono _ _ _ i z, fun A b0 γ σ g H D hb0 G R hw => ?_⟩
  obtain ⟨y, e, b, rfl, h1, h2⟩ := a.ok R
  have h0 : A.H0 b = none := G.noown0 h1
  have l2 : Le g H (tagAt g b .frz) H := le_tag (by rw [h1]; simp) (by rw [h1]; simp)
  have es : σ.set n (some (.ref b)) = σ := set_self e
  have R1 := p.ok (y := some (.ref b)) (x := a.get γ) R l2 (fun j hj c o hc ho => ⟨by
    rw [tagAt_ne]
    · exact hc
    · intro z
      subst z
      rw [h1] at hc
      exact hj (Tg.own.inj hc).symm, ho⟩) ⟨_, rfl, b, rfl, fz_some.mpr ⟨h2, .inr (by rw [tagAt_same]; rfl)⟩⟩
  rw [es] at R1
  exact h.run A b0 _ σ (tagAt g b .frz) H D (by omega) (G.retag h0 h2 (by rw [h1]; simp) fun z => nomatch z) R1 (h.mono _ _ _ (We.of (by omega) l2) hw)
/-! ### counting -/
theorem find_putT {l : List (Str × Int)} {s t : Str} {z : Int} : ((putT ⟨l⟩ s z).l.find? fun p => decide (p.1 = t)).map (·.2) = if t = s then some z else (l.find? fun p => decide (p.1 = t)).map (·.2) := by
  unfold putT
  dsimp only
  split
  · rename_i h
    induction l with
    | nil => simp at h
    | cons p l ih =>
      rw [List.map_cons, List.find?_cons, List.find?_cons]
      by_cases q : p.1 = s
      · rw [if_pos q]
        by_cases k : t = s
        · rw [if_pos k]
          have e : decide ((p.1, z).1 = t) = true := decide_eq_true (by rw [k]; exact q)
          rw [e]
          rfl
        · rw [if_neg k]
          have e : decide ((p.1, z).1 = t) = false := decide_eq_false fun y => k (by rw [← y]; exact q)
          have e2 : decide (p.1 = t) = false := e
          rw [e]
          by_cases h2 : (l.any fun p => decide (p.1 = s)) = true
          · have := ih h2
            rw [if_neg k] at this
            exact this
          · have : l.map (fun p => if p.1 = s then (p.1, z) else p) = l := by
              refine (List.map_congr_left fun x hx => ?_).trans (List.map_id _)
              rw [if_neg fun y => h2 (List.any_eq_true.mpr ⟨x, hx, decide_eq_true y⟩)]
              rfl
            show (List.find? _ (l.map fun p => if p.1 = s then (p.1, z) else p)).map _ = _
            rw [this]
      · rw [if_neg q]
        have h2 : (l.any fun p => decide (p.1 = s)) = true := by
          rw [List.any_cons, decide_eq_false q, Bool.false_or] at h
          exact h
        have := ih h2
        by_cases k : p.1 = t
        · rw [decide_eq_true k, if_neg fun y => q (k.trans y)]
        · rw [decide_eq_false k]
          exact this
  · rename_i h
    rw [List.find?_append]
    by_cases k : t = s
    · rw [if_pos k]
      have e : (l.find? fun p => decide (p.1 = t)) = none := List.find?_eq_none.mpr fun x hx y => h (List.any_eq_true.mpr ⟨x, hx, by rw [← k]; exact y⟩)
      rw [e, List.find?_cons, decide_eq_true k.symm]
      rfl
    · rw [if_neg k, List.find?_cons, decide_eq_false fun y => k y.symm]
      cases l.find? fun p => decide (p.1 = t) <;> rfl
theorem get_incT (d : DT) (s t : Str) : getT (incT d s) t 0 = getT d t 0 + if t = s then 1 else 0 := by
  obtain ⟨l⟩ := d
  unfold incT
  have e := find_putT (l := l) (s := s) (t := t) (z := getT ⟨l⟩ s 0 + 1)
  unfold getT at e ⊢
  rw [e]
  by_cases k : t = s
  · rw [if_pos k, if_pos k, k]
    rfl
  · rw [if_neg k, if_neg k, Int.add_zero]
theorem len_incT (d : DT) (s : Str) : (incT d s).l.length ≤ d.l.length + 1 := by
  unfold incT putT
  dsimp only
  split
  · rw [List.length_map]
    omega
  · rw [List.length_append]
    exact Nat.le_refl _
end DL
/-! DL: code that is never come to; what raises within an expression; isinstance(e, (A, B)) in a suite; [f, g][i](..). -/
namespace DL
open PySem PySem.Spec PyProof.Rows L2
variable {P : TokP} {K : PySem.W.Frag} {cn : Str → Value} {ks ks' ks1 kb : List Kd} {r r' : Rk}
/-- never come to -/
def tDead : TS := fun _ _ _ => False
theorem pss_dead {X : Cx} {ss : List Stmt} : PSs X ss tDead := ⟨fun _ _ _ _ _ _ h => h.elim⟩
theorem as_dead : AS P ks ks' r kb 0 tDead (fun _ _ => False) := ⟨fun _ _ _ _ z => z, fun _ _ _ _ _ _ _ _ _ _ hw => hw.elim⟩
/-- what raises within -/
theorem aex_ctx {c : Nat} {t : XK → TE} {wr : TupT ks → (Str → Prop) → Prop} {C : TE → TE} (h : AEX P cn ks r c t (fun γ _ X => wr γ X)) (hC : ∀ te σ H Q, ∃ Q', te σ H Q' → C te σ H Q) : AEX P cn ks r' c (fun E => C (t E)) (fun γ _ X => wr γ X) :=
  ⟨fun γ _ _ X X' _ q z => h.mono γ (fun _ => True) (fun _ => True) X X' (fun _ _ => trivial) q z, fun A b0 γ σ g H Q E hb G R hw => by
    obtain ⟨Q', k⟩ := hC (t E) σ H Q
    exact k (h.run A b0 γ σ g H Q' E hb G R hw)⟩
theorem asx_ctx {c : Nat} {t : XK → TE} {wr : TupT ks → (Str → Prop) → Prop} {S : TE → TS} (h : AEX P cn ks r c t (fun γ _ X => wr γ X)) (hS : ∀ te D σ H, ∃ Q', te σ H Q' → S te D σ H) : ASX P cn ks ks' r' kb c (fun E => S (t E)) (fun γ _ X => wr γ X) :=
  ⟨fun γ _ _ X X' _ q z => h.mono γ (fun _ => True) (fun _ => True) X X' (fun _ _ => trivial) q z, fun A b0 γ σ g H D E hb G R hw => by
    obtain ⟨Q', k⟩ := hS (t E) D σ H
    exact k (h.run A b0 γ σ g H Q' E hb G R hw)⟩
/-- a call that raises, its promise told so -/
theorem aex_raises {c ct : Nat} {ps : List Vk} {w : TupV ps → (r.T → Prop) → (Str → Prop) → Prop} {t : TA} {wt : TupT ks → (TupV ps → Prop) → Prop} {nw : TupV ps → Prop} {x : Str} (wm : PmX P ps r w) (ha : AA P ks ps ct t wt) (hn : ∀ γ Q X, nw γ → X x → w γ Q X) :
    AEX P cn ks r (ct + c) (fun E => tCall (SpX P cn ps r c w) [] E t) (fun γ _ X => wt γ fun xs => nw xs ∧ X x) := by
  have h := aex_call (P := P) (cn := cn) (ks := ks) (r := r) (c := c) wm ha
  exact ⟨fun γ _ _ X X' _ q z => ha.mono γ _ _ (fun xs zx => ⟨zx.1, q _ zx.2⟩) z, fun A b0 γ σ g H Q E hb G R hw => h.run A b0 γ σ g H Q E hb G R (ha.mono γ _ _ (fun xs zx => hn xs _ _ zx.1 zx.2) hw)⟩
/-- [f, g][i](a, ..) -/
structure HeldX (P : Program) (w : World) (K : PySem.W.Frag) (mg : Str → Option Value) (base : Heap) (k : Nat) (f : Addr) (sp : Sp) : Prop where
  ex : ∃ (fd : FuncData) (ps : List Str), FnGX P w K mg base k f fd ps sp ∧ PySem.W.keepIn K (.ref f) = true ∧ Binds K fd ps []
def tCallS (S : Addr → Option Sp) (tf : TE) (E : XK) (t : TA) : TE := fun σ H Q => tf σ H fun v H1 => ∃ f sp, v = .ref f ∧ S f = some sp ∧ t σ H1 fun vs H2 => sp vs H2 Q E
theorem pe_callS2 {X : Cx} {k : Nat} {S : Addr → Option Sp} {E : XK} {o i e : Expr} {es : List Expr} {p pos : Pos} {tf : TE} {t : TA} (A : ∀ f sp, S f = some sp → HeldX X.prog X.w X.K X.mg X.base k f sp) (z : RoomG k X.A) (hx : Passes (L2.CX X.prog X.w) X E) (hf : PE X (.Subscript o i p) tf) (ha : PA X (e :: es) t)
    (he : starEach (e :: es) X.env = (false, eval e X.env) :: starEach es X.env := by rfl) (hpl : (backTo pos (starEach es X.env)).any (·.1) = false := by rfl) : PE X (.Call (.Subscript o i p) (e :: es) [] pos) (tCallS S tf E t) := by
  refine ⟨fun pins s σ H Q I h => ?_⟩
  have arm : eval (.Call (.Subscript o i p) (e :: es) [] pos) X.env = (do
    callWith pos (← eval (.Subscript o i p) X.env) [] (backTo pos (starEach (e :: es) X.env)) (backToKw pos (keywordEach [] X.env))) := rfl
  rw [arm]
  refine wpAny_bind (thn (hf.run pins s σ H _ I h) fun u s1 ⟨v, H1, I1, r1, f, sp, ev, hS, q1⟩ => ?_)
  subst ev
  cases r1
  obtain ⟨fd, ps, F, hk, hb⟩ := (A f sp hS).ex
  refine PySem.W.callWith_K (h₀ := X.base) I.ok.mod.kin hk (thn (ha.run pos pins s1 σ _ _ I1 q1) fun us s2 ⟨vs, H2, I2, r, q⟩ => ⟨I2.kIn, ?_⟩) he hpl
  have q' : sp (vs ++ []) H2 Q E := by rw [List.append_nil]; exact q
  exact run_GX F z hb .nil hx I2 r q'
end DL
/-! DL: isinstance(e, (A, B, ..)) in the suite that holds e; a def of two lists that raises. -/
namespace DL
open PySem PySem.Spec PyProof.Rows L2
/-- isinstance(e, (A, B, ..)), e the exception that the suite holds -/
def rIsET (K : PySem.W.Frag) (D a : Addr) : List V → Hp → VK → Prop := fun xs H Q => ∃ (tp : Addr) (cs : List V) (us : List Value) (b : Bool), xs = [.ref a, .ref tp] ∧ H tp = some (.tup cs) ∧ Paired ClsV cs us ∧ PySem.W.kitAny K (.ref D) us = some b ∧ Q (.bl b) H
theorem call_isET {X : Cx} {a D : Addr} {oe : Obj} {pn : List (Addr × Obj)} (C : ExcC X.K D) (hz : Zc (.ref D) none oe) (hf : ∃ vs, oe.data = .fields vs) : CallR (X.suite a ((a, oe) :: pn)) (.builtin "isinstance") (rIsET X.K D a) := by
  intro pins s σ H xs us Q I r h
  obtain ⟨tp, cs, ws, b, rfl, hT, k, e, q⟩ := h
  obtain ⟨u1, u2, rfl, r1, r2⟩ := vals2 r
  cases (show u1 = Value.ref a from r1)
  cases (show u2 = Value.ref tp from r2)
  obtain ⟨_, its, rv, o, h1, h2, n, h3⟩ := (show ObjOk X.prog X.w H s.heap tp (.tup cs) from I.hok tp _ hT)
  have e3 := ClsV.all k rv
  subst e3
  obtain ⟨oc, od, dt, sl⟩ := o
  simp only at h2 h3
  subst h2 h3
  obtain ⟨hget, _⟩ := I.pin (a, oe) (List.mem_append.mpr (.inl List.mem_cons_self))
  obtain ⟨vs, hv⟩ := hf
  have J : PySem.W.InstAt s.heap a oe D none := by
    obtain ⟨oc, od, oda, osl⟩ := oe
    obtain ⟨h1, h2⟩ := hz
    dsimp only at h1 h2 hv
    subst h1 h2 hv
    exact ⟨hget, rfl, rfl, trivial⟩
  exact PySem.W.kia_tup (PySem.W.handS_kitx_exc C.hg C.hk C.hs C.hd C.ha C.hn C.ht C.hm) I.kIn J h1 e (fun z => nomatch z) fun tk => ⟨.bl b, H, I.kept (t' := tk) fun _ _ z => z, rfl, q⟩
/-- what is told at a call within a try: the wish knows the slots -/
def tCallSX (S : Addr → Option Sp) (tf : TE) (E : L2.St → XK) (t : TA) : TE := fun σ H Q => tf σ H fun v H1 => ∃ f sp, v = .ref f ∧ S f = some sp ∧ t σ H1 fun vs H2 => sp vs H2 Q (E σ)
section
variable {X : Cx} {k : Nat} {f : Addr} {fd : FuncData} {ps : List Str} {sp : Sp} {ds : List Value} {dvs : List V} {E : L2.St → XK}
theorem run_GXat {CT : CXT} {pins : List (Addr × Obj)} {σ : L2.St} {H : Hp} {s : Shared} {Q : VK} {us : List Value} {vs : List V} (hct : CT = L2.CX X.prog X.w) (F : FnGX X.prog X.w X.K X.mg X.base k f fd ps sp) (z : RoomG k X.A) (hb : Binds X.K fd ps ds) (hd : Vals dvs ds) (hx : PassesAt CT X σ (E σ))
    (I : Inv X pins σ H s) (r : Vals vs us) (h : sp (vs ++ dvs) H Q (E σ)) : wpAny (model X.prog X.w) X.A (call (.ref f) us) (EP X pins σ Q) X.xe s := by
  subst hct
  have r2 : Vals (vs ++ dvs) (us ++ ds) := r.append hd
  have many : (us ++ ds).length = ps.length := by rw [← r2.length, F.len _ _ _ _ h]
  refine wpAny_call (codeAny_mono (F.run X.A X.stack s H _ _ _ Q (E σ) z I.env0 (hb s us I.kIn many) r2 h) fun res s2 post => ?_)
  cases res with
  | error u => exact hx pins H s u s2 I post
  | ok fl =>
    cases fl with
    | ret u => exact I.after post
    | next => exact (show False from post).elim
    | brk => exact (show False from post).elim
    | cont => exact (show False from post).elim
theorem pe_callSX {CT : CXT} {S : Addr → Option Sp} {o i e : Expr} {es : List Expr} {p pos : Pos} {tf : TE} {t : TA} (hct : CT = L2.CX X.prog X.w) (A : ∀ f sp, S f = some sp → HeldX X.prog X.w X.K X.mg X.base k f sp) (z : RoomG k X.A) (hx : ∀ σ, PassesAt CT X σ (E σ)) (hf : PE X (.Subscript o i p) tf) (ha : PA X (e :: es) t)
    (he : starEach (e :: es) X.env = (false, eval e X.env) :: starEach es X.env := by rfl) (hpl : (backTo pos (starEach es X.env)).any (·.1) = false := by rfl) : PE X (.Call (.Subscript o i p) (e :: es) [] pos) (tCallSX S tf E t) := by
  refine ⟨fun pins s σ H Q I h => ?_⟩
  have arm : eval (.Call (.Subscript o i p) (e :: es) [] pos) X.env = (do
    callWith pos (← eval (.Subscript o i p) X.env) [] (backTo pos (starEach (e :: es) X.env)) (backToKw pos (keywordEach [] X.env))) := rfl
  rw [arm]
  refine wpAny_bind (thn (hf.run pins s σ H _ I h) fun u s1 ⟨v, H1, I1, r1, f, sp, ev, hS, q1⟩ => ?_)
  subst ev
  cases r1
  obtain ⟨fd, ps, F, hk, hb⟩ := (A f sp hS).ex
  refine PySem.W.callWith_K (h₀ := X.base) I.ok.mod.kin hk (thn (ha.run pos pins s1 σ _ _ I1 q1) fun us s2 ⟨vs, H2, I2, r, q⟩ => ⟨I2.kIn, ?_⟩) he hpl
  have q' : sp (vs ++ []) H2 Q (E σ) := by rw [List.append_nil]; exact q
  exact run_GXat hct F z hb .nil (hx σ) I2 r q'
end
/-! ### defs of a strip and a wish that refuse the wish -/
section
variable {P : TokP} {K : PySem.W.Frag} {cn : Str → Value}
/-- what is no wish of a strip is refused -/
def wR (α : Type) (NW : List α → List Int → Prop) [Rp K α] (x : Str) : TupV [vF K (List α), vF K (List Int)] → (Unit → Prop) → (Str → Prop) → Prop := fun γ _ X => NW γ.1 γ.2.1 ∧ X x
theorem pm_R {α : Type} [Rp K α] {NW : List α → List Int → Prop} {x : Str} : PmX P [vF K (List α), vF K (List Int)] (rF K Unit) (wR (K := K) α NW x) := ⟨fun γ _ _ X X' _ q z => ⟨z.1, q _ z.2⟩⟩
abbrev spR (P : TokP) (K : PySem.W.Frag) (cn : Str → Value) (α : Type) [Rp K α] (NW : List α → List Int → Prop) (x : Str) (c : Nat) : Sp := SpX P cn [vF K (List α), vF K (List Int)] (rF K Unit) c (wR (K := K) α NW x)
/-- who hands its own strip and wish on to one that refuses raises, whatever it goes on with -/
theorem raise_on {α : Type} [Rp K α] {NW : List α → List Int → Prop} {x : Str} {c : Nat} {vs : List V} {H : Hp} {Q : VK} {E : XK} {N : List Str} (q : spR P K cn α NW x c vs H Q E) (Q' : VK) : tCall (spR P K cn α NW x c) [] E (tCons (tVar 0) (tCons (tVar 1) tNil)) (L2.start N vs) H Q' := by
  obtain ⟨A, b0, γ, eH, hb, G, rv, nw, hx⟩ := q
  obtain ⟨v0, r0, rfl, h0, v1, r1, rfl, h1, rfl⟩ := rv
  refine ⟨v0, ?_, v1, ?_, ?_⟩
  · rfl
  · rfl
  · exact ⟨A, b0, γ, eH, hb, G, ⟨v0, _, rfl, h0, v1, _, rfl, h1, rfl⟩, nw, hx⟩
end
end DL
/-! DL: sets and dicts made of an empty list by a comprehension. -/
namespace DL
open PySem PySem.Spec PyProof.Rows L2 PpSet
/-- an empty set, an empty dict -/
inductive SE where
  | e
inductive DE where
  | e
def SetE (a : Addr) : HO := .ext fun h => ∃ w, SetB w h a (fun _ => false) 0
theorem setE_new {w w' : World} {P : Program} {H : Hp} {h : Heap} {a : Addr} (R : SetB w h a (fun _ => false) 0) : ObjOk P w' H h a (SetE a) := by
  have ⟨o, _, _, _, ho, _⟩ := R
  exact ⟨⟨w, R⟩, ⟨o, ho⟩, fun h1 h2 ⟨w, p⟩ k => ⟨w, SetB.at p k⟩⟩
instance {K : PySem.W.Frag} : Rp K SE := ⟨fun F v _ => ∃ a, v = .ref a ∧ F a = some (SetE a), fun e ⟨a, h, k⟩ => ⟨a, h, e _ _ k⟩⟩
instance {K : PySem.W.Frag} : Rp K DE := ⟨fun F v _ => ∃ a, v = .ref a ∧ F a = some (.dK []), fun e ⟨a, h, k⟩ => ⟨a, h, e _ _ k⟩⟩
def tScX (wi : TI) (g : TG) (tt : TT) (te : TE) (vs : List Nat) : TE := fun σ H Q => ∀ w, tSc w wi g tt te vs σ H (fun v H' => ∃ D, v = .ref D ∧ H' D = some (SetBO w D (fun _ => false) 0) ∧ Q v (upd H' D (SetE D)))
theorem pe_scX {X : Cx} {elt tg iter : Expr} {ifs : List Expr} {scope : Scope} {own : List (PySem.Str × Nat)} {pos : Pos} {wi : TI} {g : TG} {tt : TT} {te : TE} (hc : X.calm = true) (hN : X.N.Nodup) (hi : PI X tg iter wi) (ok : BlkOk X.N X.env.scope scope own)
    (hg : ∀ (s : Shared) (H : Hp) (C : Addr) (cl : List (PySem.Str × Addr)) (fp : List Addr), PG (X.blk s H scope (compEnvC scope cl C X.env) fp) tg g) (ht : ∀ (s : Shared) (H : Hp) (C : Addr) (cl : List (PySem.Str × Addr)) (fp : List Addr), PTs (X.blk s H scope (compEnvC scope cl C X.env) fp) ifs tt)
    (he : ∀ (s : Shared) (H : Hp) (C : Addr) (cl : List (PySem.Str × Addr)) (fp : List Addr), PE (X.blk s H scope (compEnvC scope cl C X.env) fp) elt te) (hs : ∀ x, foldedSetIterable iter X.env x = pure x := by intro _; rfl) :
    PE X (.SetComp elt [⟨tg, iter, ifs, 0⟩] scope pos) (tScX wi g tt te (own.map (·.2))) := by
  refine ⟨fun pins s σ H Q I h => ?_⟩
  refine thn ((pe_sc (pos := pos) hc hN hi ok hg ht he hs).run pins s σ H _ I (h X.w)) fun v s' ⟨x, H', I', rx, D, ex, hD, q⟩ => ?_
  have R := setBO_get I' hD
  have hob : ∃ u, s'.heap.get? D = some u := by
    have ⟨o, _, _, _, ho, _⟩ := R
    exact ⟨o, ho⟩
  exact ⟨x, upd H' D (SetE D), I'.write (e := D) (t' := s'.toks) (h' := s'.heap) (by rw [hD]; trivial) (.inl rfl) (fun b u hb hu => hu) hob (setE_new R), rx, q⟩
def rLenSE : List V → Hp → VK → Prop := fun xs H Q => ∃ a, xs = [.ref a] ∧ H a = some (SetE a) ∧ Q (.int 0) H
theorem call_lenSE {X : Cx} : CallR X (.builtin "len") rLenSE := by
  intro pins s σ H xs us Q I r h
  obtain ⟨a, rfl, ha, q⟩ := h
  rw [Vals.ref1 r]
  obtain ⟨w, o, es, ep, t, ho, hx, hd, _, _, _, _, hf, hn, _⟩ := (I.hok a _ ha).1
  exact call_len_set ho hx hd hf (by rw [hn]; decide) ⟨.int 0, H, I.tok _, ⟨_, by rw [hn]; rfl⟩, q⟩
section
variable {P : TokP} {K : PySem.W.Frag} {ks : List Kd} {ta td tk tz : TE}
theorem ae_scX {α : Type} [Rp K α] {wi : TI} {gt : TG} {tt : TT} {el : TE} {vs : List Nat} {ksw ksx : List Kd} {re : Rk} {w : TupT ks → (List α → Prop) → Prop} {put : TupT ksw → α → TupT ksx} {sl : List Nat} {wt : TupT ksx → (Bool → Prop) → Prop} {we : TupT ksx → (re.T → Prop) → Prop} (hi : AI P K ks α ci wi w) (_k : Wp ks vs ksw) (_hg : AG K ksw α ksx gt put sl) (_ht : AT P ksx ct tt wt) (_he : AE P ksx re ce el we) : AE P ks (rF K SE) ci (tScX wi gt tt el vs) (fun γ Q => w γ fun xs => xs = [] ∧ Q .e) := by
  refine ⟨fun γ Q Q' i z => hi.mono γ _ _ (fun xs zx => ⟨zx.1, i _ zx.2⟩) z, fun A b0 γ σ g H Q hb0 G R hw w' => ?_⟩
  refine hi.run A b0 γ σ g H _ (by omega) G R (hi.mono γ _ _ (fun xs zx J g1 H1 G1 e1 it D hD => ?_) hw)
  obtain ⟨rfl, zx⟩ := zx
  obtain ⟨GD, eD⟩ := G1.new0 (o := SetBO w' D (fun _ => false) 0) hD
  refine ⟨fun i m H' => i = 0 ∧ H' = upd H1 D (SetBO w' D (fun _ => false) 0), ⟨0, rfl, rfl⟩, ?_⟩
  rintro i m H' ⟨rfl, rfl⟩
  refine .inl ⟨it.stop A _ g1 _ 0 GD (eD.le G1) (Nat.zero_le _), D, rfl, upd_same, ?_⟩
  have eu : upd (upd H1 D (SetBO w' D (fun _ => false) 0)) D (SetE D) = upd H1 D (SetE D) := by
    funext b
    by_cases q : b = D
    · rw [q, upd_same, upd_same]
    · rw [upd_ne q, upd_ne q, upd_ne q]
  rw [eu]
  obtain ⟨GE, eE⟩ := G1.new0 (o := SetE D) hD
  have e2 := e1.trans G1 eE
  have hD0 : H D = none := e1.keeps G1 hD
  refine zx _ (tagAt g1 D .frz) _ ((GE.retag (t := .frz) (G.ext.keeps G hD0) upd_same (by rw [G1.non D hD]; simp) (fun z => nomatch z)).up (by omega)) (fun b o hb => ?_) ⟨D, rfl, fz_some.mpr ⟨upd_same, .inr (by rw [tagAt_same]; rfl)⟩⟩
  rw [tagAt_ne (ne_of_none hb hD0)]
  exact e2 b o hb
theorem ae_lenSE {w : TupT ks → (SE → Prop) → Prop} (ha : AE P ks (rF K SE) ca ta w) : AE P ks (rF K Int) ca (tCB rLenSE (tCons ta tNil)) (fun γ Q => w γ fun _ => Q 0) :=
  AE.cb1 (r := rF K Int) (k := vF K SE) (f := fun _ Q => Q 0) ha (fun _ _ _ q z => q _ z) fun A b0 g H x xs Q G rx z => by
    obtain ⟨a, rfl, h⟩ := rx
    exact ⟨a, rfl, (fz_some.mp h).1, z _ g H (G.up (by omega)) (Ext.refl g H) rfl⟩
theorem ae_dcX {α : Type} [Rp K α] {wi : TI} {gt : TG} {tt : TT} {tk tv : TE} {vs : List Nat} {ksw ksx : List Kd} {rk re : Rk} {w : TupT ks → (List α → Prop) → Prop} {put : TupT ksw → α → TupT ksx} {sl : List Nat} {wt : TupT ksx → (Bool → Prop) → Prop} {wk : TupT ksx → (rk.T → Prop) → Prop} {we : TupT ksx → (re.T → Prop) → Prop} (hi : AI P K ks α ci wi w) (_k : Wp ks vs ksw) (_hg : AG K ksw α ksx gt put sl) (_ht : AT P ksx ct tt wt) (_hk : AE P ksx rk ck tk wk) (_he : AE P ksx re ce tv we) : AE P ks (rF K DE) ci (tDc wi gt tt tk tv vs) (fun γ Q => w γ fun xs => xs = [] ∧ Q .e) := by
  refine ⟨fun γ Q Q' i z => hi.mono γ _ _ (fun xs zx => ⟨zx.1, i _ zx.2⟩) z, fun A b0 γ σ g H Q hb0 G R hw => ?_⟩
  refine hi.run A b0 γ σ g H _ (by omega) G R (hi.mono γ _ _ (fun xs zx J g1 H1 G1 e1 it D hD => ?_) hw)
  obtain ⟨rfl, zx⟩ := zx
  obtain ⟨GD, eD⟩ := G1.new0 (o := .dK []) hD
  refine ⟨fun i m H' => i = 0 ∧ H' = upd H1 D (.dK []), ⟨0, rfl, rfl⟩, ?_⟩
  rintro i m H' ⟨rfl, rfl⟩
  refine .inl ⟨it.stop A _ g1 _ 0 GD (eD.le G1) (Nat.zero_le _), ?_⟩
  have e2 := e1.trans G1 eD
  have hD0 : H D = none := e1.keeps G1 hD
  refine zx _ (tagAt g1 D .frz) _ ((GD.retag (t := .frz) (G.ext.keeps G hD0) upd_same (by rw [G1.non D hD]; simp) (fun z => nomatch z)).up (by omega)) (fun b o hb => ?_) ⟨D, rfl, fz_some.mpr ⟨upd_same, .inr (by rw [tagAt_same]; rfl)⟩⟩
  rw [tagAt_ne (ne_of_none hb hD0)]
  exact e2 b o hb
theorem ae_getE {wd : TupT ks → (DE → Prop) → Prop} {wk : TupT ks → (Int → Prop) → Prop} {wz : TupT ks → (Int → Prop) → Prop} (hd : AE P ks (rF K DE) cd td wd) (hk : AE P ks (rF K Int) ck tk wk) (hz : AE P ks (rF K Int) cz tz wz) :
    AE P ks (rF K Int) (cd + ck + cz) (tDGet2 td tk tz) (fun γ Q => wd γ fun _ => wk γ fun _ => wz γ fun z => Q z) := by
  refine ⟨fun γ Q Q' q z => hd.mono γ _ _ (fun d zd => hk.mono γ _ _ (fun s zs => hz.mono γ _ _ (fun x zx => q _ zx) zs) zd) z, fun A b0 γ σ g H Q hb0 G R hw => ?_⟩
  refine hd.run A b0 γ σ g H _ (by omega) G R (hd.mono γ _ _ (fun d zd v g1 H1 G1 e1 r1 => ?_) hw)
  obtain ⟨p, rfl, hp⟩ := r1
  refine ⟨p, rfl, .inl ⟨_, .inl (fz_some.mp hp).1⟩, ?_⟩
  refine hk.run A _ γ σ g1 H1 _ (by omega) G1 (R.ext G e1) (hk.mono γ _ _ (fun s zs u g2 H2 G2 e2 r2 => ?_) zd)
  refine hz.run A _ γ σ g2 H2 _ (by omega) G2 ((R.ext G e1).ext G1 e2) (hz.mono γ _ _ (fun z zz y g3 H3 G3 e3 r3 => ?_) zs)
  have r2 : u = .int s := r2
  subst r2
  have hp3 := (e3.le G2).fz p _ ((e2.le G1).fz p _ hp)
  exact ⟨_, .inl ⟨[], Sum.inl s, .inl (fz_some.mp hp3).1, rfl, rfl⟩, zz y g3 H3 (G3.up (by omega)) ((e1.trans G1 e2).trans G2 e3) r3⟩
end
end DL
/-! DL: [f, g, h, k][i](..), all of them defs of the text. -/
namespace DL
open PySem PySem.Spec PyProof.Rows L2
theorem FnG.imp {Pg : Program} {w : World} {K : PySem.W.Frag} {mg : Str → Option Value} {base : Heap} {k : Nat} {f : Addr} {fd : FuncData} {ps : List Str} {sp sp' : Sp} (F : FnG Pg w K mg base k f fd ps sp) (h : ∀ vs H Q E, sp' vs H Q E → sp vs H Q E) : FnG Pg w K mg base k f fd ps sp' :=
  ⟨fun vs H Q E z => F.len vs H Q E (h _ _ _ _ z), fun A stk s H ar us vs Q E z e b v q => F.run A stk s H ar us vs Q E z e b v (h _ _ _ _ q)⟩
structure HeldG (P : Program) (w : World) (K : PySem.W.Frag) (mg : Str → Option Value) (base : Heap) (k : Nat) (f : Addr) (sp : Sp) : Prop where
  ex : ∃ (fd : FuncData) (ps : List Str), FnG P w K mg base k f fd ps sp ∧ PySem.W.keepIn K (.ref f) = true ∧ Binds K fd ps []
def tCallR (R : Addr → Sp → Prop) (tf : TE) (t : TA) : TE := fun σ H Q => tf σ H fun v H1 => ∃ f sp, v = .ref f ∧ R f sp ∧ t σ H1 fun vs H2 => sp vs H2 Q L2.E0
theorem pe_callR {X : Cx} {k : Nat} {R : Addr → Sp → Prop} {o i e : Expr} {es : List Expr} {p pos : Pos} {tf : TE} {t : TA} (A : ∀ f sp, R f sp → HeldG X.prog X.w X.K X.mg X.base k f sp) (z : RoomG k X.A) (hf : PE X (.Subscript o i p) tf) (ha : PA X (e :: es) t)
    (he : starEach (e :: es) X.env = (false, eval e X.env) :: starEach es X.env := by rfl) (hpl : (backTo pos (starEach es X.env)).any (·.1) = false := by rfl) : PE X (.Call (.Subscript o i p) (e :: es) [] pos) (tCallR R tf t) := by
  refine ⟨fun pins s σ H Q I h => ?_⟩
  have arm : eval (.Call (.Subscript o i p) (e :: es) [] pos) X.env = (do
    callWith pos (← eval (.Subscript o i p) X.env) [] (backTo pos (starEach (e :: es) X.env)) (backToKw pos (keywordEach [] X.env))) := rfl
  rw [arm]
  refine wpAny_bind (thn (hf.run pins s σ H _ I h) fun u s1 ⟨v, H1, I1, r1, f, sp, ev, hS, q1⟩ => ?_)
  subst ev
  cases r1
  obtain ⟨fd, ps, F, hk, hb⟩ := (A f sp hS).ex
  refine PySem.W.callWith_K (h₀ := X.base) I.ok.mod.kin hk (thn (ha.run pos pins s1 σ _ _ I1 q1) fun us s2 ⟨vs, H2, I2, r, q⟩ => ⟨I2.kIn, ?_⟩) he hpl
  have q' : sp (vs ++ []) H2 Q L2.E0 := by rw [List.append_nil]; exact q
  exact run_fnG F z hb .nil I2 r q'
section
variable {P : TokP} {K : PySem.W.Frag} {ks : List Kd} {r : Rk} {ps : List Vk}
theorem ae_pick4 {f1 f2 f3 f4 : Addr} {c1 c2 c3 c4 : Nat} {w1 w2 w3 w4 : TupV ps → (r.T → Prop) → Prop} {td : TE} {t : TA} {wd : TupT ks → (Int → Prop) → Prop} {wt : TupT ks → (TupV ps → Prop) → Prop} (m1 : Pm P ps r w1) (m2 : Pm P ps r w2) (m3 : Pm P ps r w3) (m4 : Pm P ps r w4) (hd : AE P ks (rF K Int) cd td wd) (ha : AA P ks ps ct t wt) :
    AE P ks r (cd + (ct + (c1 + c2 + c3 + c4))) (tCallR (fun f sp => (f = f1 ∧ sp = SpOf P ps r c1 w1) ∨ (f = f2 ∧ sp = SpOf P ps r c2 w2) ∨ (f = f3 ∧ sp = SpOf P ps r c3 w3) ∨ (f = f4 ∧ sp = SpOf P ps r c4 w4)) (tOp (rIxL K) (tLst (tCons (tC (.ref f1)) (tCons (tC (.ref f2)) (tCons (tC (.ref f3)) (tCons (tC (.ref f4)) tNil))))) td) t)
      (fun γ Q => wd γ fun d => (d = 0 ∧ wt γ fun xs => w1 xs Q) ∨ (d = 1 ∧ wt γ fun xs => w2 xs Q) ∨ (d = 2 ∧ wt γ fun xs => w3 xs Q) ∨ (d = 3 ∧ wt γ fun xs => w4 xs Q)) := by
  refine ⟨fun γ Q Q' q z => hd.mono γ _ _ (fun d zd => ?_) z, fun A b0 γ σ g H Q hb0 G R hw => ?_⟩
  · rcases zd with ⟨e, zd⟩ | ⟨e, zd⟩ | ⟨e, zd⟩ | ⟨e, zd⟩
    · exact .inl ⟨e, ha.mono γ _ _ (fun xs zx => m1.mono xs _ _ q zx) zd⟩
    · exact .inr (.inl ⟨e, ha.mono γ _ _ (fun xs zx => m2.mono xs _ _ q zx) zd⟩)
    · exact .inr (.inr (.inl ⟨e, ha.mono γ _ _ (fun xs zx => m3.mono xs _ _ q zx) zd⟩))
    · exact .inr (.inr (.inr ⟨e, ha.mono γ _ _ (fun xs zx => m4.mono xs _ _ q zx) zd⟩))
  · refine ⟨by show 4 ≤ sizeLine; decide, fun p hp => ?_⟩
    obtain ⟨G1, e1⟩ := G.new0 (o := .lst [.ref f1, .ref f2, .ref f3, .ref f4]) hp
    refine hd.run A b0 γ σ g _ _ (by omega) G1 (R.ext G e1) (hd.mono γ _ _ (fun d zd v g2 H2 G2 e2 r2 => ?_) hw)
    have r2 : v = .int d := r2
    have hp2 : H2 p = some (.lst [.ref f1, .ref f2, .ref f3, .ref f4]) := (e2 p _ upd_same).2 (by rw [G.non p hp]; simp)
    have e12 : Ext g H g2 H2 := e1.trans G1 e2
    have R2 := R.ext G e12
    have go : ∀ {c : Nat} {w : TupV ps → (r.T → Prop) → Prop}, c ≤ c1 + c2 + c3 + c4 → Pm P ps r w → (wt γ fun xs => w xs fun x => ∀ v g' H', Good P A (b0 + (cd + (ct + (c1 + c2 + c3 + c4)))) g' H' → Ext g H g' H' → r.rel H v x g' H' → Q v H') → t σ H2 fun vs H3 => SpOf P ps r c w vs H3 Q L2.E0 := fun {c w} hc m z => by
      have q := (ae_call (c := c) m ha).run A _ γ σ g2 H2 Q (by omega) G2 R2 ((ae_call (c := c) m ha).mono γ _ _ (fun x zx v g' H' G' e' r' => zx v g' H' (G'.up (by omega)) (e12.trans G2 e') (r.start (fun a ha => e12.keeps G2 ha) r')) z)
      have q : t σ H2 fun vs H3 => SpOf P ps r c w (vs ++ []) H3 Q L2.E0 := q
      simp only [List.append_nil] at q
      exact q
    rcases zd with ⟨e, zd⟩ | ⟨e, zd⟩ | ⟨e, zd⟩ | ⟨e, zd⟩
    · subst e
      exact ⟨p, _, 0, .ref f1, rfl, r2, .inl (.inl hp2), rfl, f1, _, rfl, .inl ⟨rfl, rfl⟩, go (by omega) m1 zd⟩
    · subst e
      exact ⟨p, _, 1, .ref f2, rfl, r2, .inl (.inl hp2), rfl, f2, _, rfl, .inr (.inl ⟨rfl, rfl⟩), go (by omega) m2 zd⟩
    · subst e
      exact ⟨p, _, 2, .ref f3, rfl, r2, .inl (.inl hp2), rfl, f3, _, rfl, .inr (.inr (.inl ⟨rfl, rfl⟩)), go (by omega) m3 zd⟩
    · subst e
      exact ⟨p, _, 3, .ref f4, rfl, r2, .inl (.inl hp2), rfl, f4, _, rfl, .inr (.inr (.inr ⟨rfl, rfl⟩)), go (by omega) m4 zd⟩
/-- an empty list told, whatever its items would be -/
def wE {α : Type} [Rp K α] (w : TupV ps → ((rO K α).T → Prop) → Prop) : TupV ps → ((rO K Int).T → Prop) → Prop := fun γ Q => w γ fun xs => xs = [] ∧ Q []
theorem pm_E {α : Type} [Rp K α] {w : TupV ps → ((rO K α).T → Prop) → Prop} (m : Pm P ps (rO K α) w) : Pm P ps (rO K Int) (wE w) := ⟨fun γ Q Q' q z => m.mono γ _ _ (fun xs zx => ⟨zx.1, q _ zx.2⟩) z⟩
theorem sp_E {α : Type} [Rp K α] {w : TupV ps → ((rO K α).T → Prop) → Prop} {c : Nat} (m : Pm P ps (rO K α) w) : ∀ vs H Q E, SpOf P ps (rO K Int) c (wE w) vs H Q E → SpOf P ps (rO K α) c w vs H Q E := fun vs H Q E ⟨A, b0, γ, e, hb, G, rv, z⟩ =>
  ⟨A, b0, γ, e, hb, G, rv, m.mono γ _ _ (fun xs zx v g' H' G' r' => by
    obtain ⟨rfl, zx⟩ := zx
    obtain ⟨p, vs, ev, h1, h2, h3, h4, h5⟩ := r'
    cases h4
    exact zx v g' H' G' ⟨p, [], ev, h1, h2, h3, .nil, h5⟩) z⟩
end
end DL
/-! DL: name = {.. for ..}, name = {..: .. for ..}. -/
namespace DL
open PySem PySem.Spec PyProof.Rows L2 PpSet
variable {X : Cx}
theorem sw_trueS {elt : Expr} {gs : List Comprehension} {scope : Scope} {pos py : Pos} {y : Str} {l : Nat} {env : Env} (hk : env.scope.kind = .function) (hy : env.scope.names.lookup y = some .local) (hl : (py.line == pos.line) = true)
    (ha : (scope.names.any fun (n, k) => n == y && (k == .local || k == .cell)) = false) : swapsWith (.SetComp elt gs scope pos) (some (.Name y py)) l env = pure true := by
  have ky : env.kindOf y = some .local := hy
  have hb : env.blockKind = .function := by unfold Env.blockKind; rw [hk]; rfl
  unfold swapsWith
  simp only [hb, ky, ha, Expr.pos, hl]
  rfl
theorem sw_trueD {kx vx : Expr} {gs : List Comprehension} {scope : Scope} {pos py : Pos} {y : Str} {l : Nat} {env : Env} (hk : env.scope.kind = .function) (hy : env.scope.names.lookup y = some .local) (hl : (py.line == pos.line) = true)
    (ha : (scope.names.any fun (n, k) => n == y && (k == .local || k == .cell)) = false) : swapsWith (.DictComp kx vx gs scope pos) (some (.Name y py)) l env = pure true := by
  have ky : env.kindOf y = some .local := hy
  have hb : env.blockKind = .function := by unfold Env.blockKind; rw [hk]; rfl
  unfold swapsWith
  simp only [hb, ky, ha, Expr.pos, hl]
  rfl
theorem ps_setScX {i : Nat} {y : Str} {py : Pos} {elt tg iter : Expr} {ifs : List Expr} {scope : Scope} {own : List (Str × Nat)} {pos spos : Pos} {wi : TI} {g : TG} {tt : TT} {te : TE} (hc : X.calm = true) (hN : X.N.Nodup) (hy : X.N[i]? = some y) (hyl : X.env.scope.names.lookup y = some .local)
    (hsw : swapsWith (.SetComp elt [⟨tg, iter, ifs, 0⟩] scope pos) (some (.Name y py)) spos.line X.env = pure true) (hi : PI X tg iter wi) (ok : BlkOk X.N X.env.scope scope own)
    (hg : ∀ (s : Shared) (H : Hp) (C : Addr) (cl : List (Str × Addr)) (fp : List Addr), PG (X.blk s H scope (compEnvC scope cl C X.env) fp) tg g) (ht : ∀ (s : Shared) (H : Hp) (C : Addr) (cl : List (Str × Addr)) (fp : List Addr), PTs (X.blk s H scope (compEnvC scope cl C X.env) fp) ifs tt)
    (he : ∀ (s : Shared) (H : Hp) (C : Addr) (cl : List (Str × Addr)) (fp : List Addr), PE (X.blk s H scope (compEnvC scope cl C X.env) fp) elt te) (hs : ∀ x, foldedSetIterable iter X.env x = pure x := by intro _; rfl) :
    PS X (.Assign [.Name y py] (.SetComp elt [⟨tg, iter, ifs, 0⟩] scope pos) spos) (tAsg (tScX wi g tt te (own.map (·.2))) (gName i)) := by
  refine ⟨fun pins s σ H D I h => ?_⟩
  rw [exec_Assign_Name_used _ _ _ _ hsw]
  refine wpAny_bind (wpAny_standAt (wpAny_bind ?_))
  show wpAny _ X.A (do let _ ← comprehension (.SetComp elt [⟨tg, iter, ifs, 0⟩] scope pos) scope X.env (firstIterPos [⟨tg, iter, ifs, 0⟩] pos) (newSet (.type "set")) false (eval iter X.env) (some (assign (.Name y py) X.env))) _ _ s
  have h : tScX wi g tt te (own.map (·.2)) σ H (fun x H1 => gName i x σ H1 D.nx) := h
  refine wpAny_bind (thn (sc_core (Qf := fun _ s' => SP X pins D .next s') hc hN I hi ok hg ht he hs (h X.w) fun L C s' m H0 I0 q0 hn f => ?_) fun _ s' hq => wpAny_pure (wpAny_pure hq))
  obtain ⟨D', ev, hD, q⟩ := q0
  cases ev
  have R := setBO_get I0 hD
  have hob : ∃ u, s'.heap.get? L = some u := by
    have ⟨o, _, _, _, ho, _⟩ := R
    exact ⟨o, ho⟩
  have I' : Inv X pins σ (upd H0 L (SetE L)) s' := I0.write (e := L) (t' := s'.toks) (h' := s'.heap) (by rw [hD]; trivial) (.inl rfl) (fun b u hb hu => hu) hob (setE_new R)
  show wpAny _ _ (assign (.Name y py) X.env (.ref L)) _ _ _
  refine wpAny_assign_Name (store_ok2 (v := V.ref L) I' hN hy (.inl hyl) rfl (fun s2 I2 ⟨a, sb, ha⟩ => ?_) (.inr hyl))
  obtain ⟨f0, f1, f2, f3, f4, f5⟩ := f
  have f0' : (upd H0 L (SetE L)) C = none := by
    rw [upd_ne]
    · exact f0
    · intro z
      rw [z, hD] at f0
      cases f0
  have haC : C ≠ a := by
    rcases ha with z | z
    · rw [z]; exact f1
    · exact fun e => f4 y a z e.symm
  refine ⟨m, hn.sameBut sb haC, fun h3 sb3 => ?_⟩
  exact ⟨_, _, I2.turned (t' := s2.toks) (fun b o hb e => (sb3.2 b hb).trans e) f0' f1 f3 f4 f5, q⟩
theorem ps_setDcX {i : Nat} {y : Str} {py : Pos} {kx vx tg iter : Expr} {ifs : List Expr} {scope : Scope} {own : List (Str × Nat)} {pos spos : Pos} {wi : TI} {g : TG} {tt : TT} {tk tv : TE} (hc : X.calm = true) (hN : X.N.Nodup) (hy : X.N[i]? = some y) (hyl : X.env.scope.names.lookup y = some .local)
    (hsw : swapsWith (.DictComp kx vx [⟨tg, iter, ifs, 0⟩] scope pos) (some (.Name y py)) spos.line X.env = pure true) (hi : PI X tg iter wi) (ok : BlkOk X.N X.env.scope scope own)
    (hg : ∀ (s : Shared) (H : Hp) (C : Addr) (cl : List (Str × Addr)) (fp : List Addr), PG (X.blk s H scope (compEnvC scope cl C X.env) fp) tg g) (ht : ∀ (s : Shared) (H : Hp) (C : Addr) (cl : List (Str × Addr)) (fp : List Addr), PTs (X.blk s H scope (compEnvC scope cl C X.env) fp) ifs tt)
    (hk : ∀ (s : Shared) (H : Hp) (C : Addr) (cl : List (Str × Addr)) (fp : List Addr), PE (X.blk s H scope (compEnvC scope cl C X.env) fp) kx tk)
    (he : ∀ (s : Shared) (H : Hp) (C : Addr) (cl : List (Str × Addr)) (fp : List Addr), PE (X.blk s H scope (compEnvC scope cl C X.env) fp) vx tv) (hs : ∀ x, foldedSetIterable iter X.env x = pure x := by intro _; rfl) :
    PS X (.Assign [.Name y py] (.DictComp kx vx [⟨tg, iter, ifs, 0⟩] scope pos) spos) (tAsg (tDc wi g tt tk tv (own.map (·.2))) (gName i)) := by
  refine ⟨fun pins s σ H D I h => ?_⟩
  rw [exec_Assign_Name_used _ _ _ _ hsw]
  refine wpAny_bind (wpAny_standAt (wpAny_bind ?_))
  show wpAny _ X.A (do let _ ← comprehension (.DictComp kx vx [⟨tg, iter, ifs, 0⟩] scope pos) scope X.env (firstIterPos [⟨tg, iter, ifs, 0⟩] pos) newDict false (eval iter X.env) (some (assign (.Name y py) X.env))) _ _ s
  have h : tDc wi g tt tk tv (own.map (·.2)) σ H (fun x H1 => gName i x σ H1 D.nx) := h
  refine wpAny_bind (thn (dc_core (Qf := fun _ s' => SP X pins D .next s') hc hN I hi ok hg ht hk he hs h fun L C s' m H' I' q hn f => ?_) fun _ s' hq => wpAny_pure (wpAny_pure hq))
  show wpAny _ _ (assign (.Name y py) X.env (.ref L)) _ _ _
  refine wpAny_assign_Name (store_ok2 (v := V.ref L) I' hN hy (.inl hyl) rfl (fun s2 I2 ⟨a, sb, ha⟩ => ?_) (.inr hyl))
  obtain ⟨f0, f1, f2, f3, f4, f5⟩ := f
  have haC : C ≠ a := by
    rcases ha with z | z
    · rw [z]; exact f1
    · exact fun e => f4 y a z e.symm
  refine ⟨m, hn.sameBut sb haC, fun h3 sb3 => ?_⟩
  exact ⟨_, H', I2.turned (t' := s2.toks) (fun b o hb e => (sb3.2 b hb).trans e) f0 f1 f3 f4 f5, q⟩
end DL
/-! DL: except (A, B, ..) as e: .., the exception kept behind the suite. -/
namespace DL
open PySem PySem.Spec PyProof.Rows L2
open PySem.W (Looks exm_cls exmAny exmOne exmAny_cons)
/-- an exception that was caught, at a -/
def ExK (cls : Value) (a : Addr) : HO := .ext fun h => ∃ (oe : Obj), h.get? a = some oe ∧ Zc cls none oe ∧ ∃ vs, oe.data = .fields vs
theorem exK_ok {P : Program} {w : World} {H : Hp} {h : Heap} {a : Addr} {cls : Value} {oe : Obj} {vs : Array Value} (e : h.get? a = some oe) (z : Zc cls none oe) (d : oe.data = .fields vs) : ObjOk P w H h a (ExK cls a) :=
  ⟨⟨oe, e, z, vs, d⟩, ⟨oe, e⟩, fun _ _ ⟨o, q, r⟩ k => ⟨o, k o q, r⟩⟩
section
variable {X : Cx} {pins : List (Addr × Obj)} {σ : L2.St} {H : Hp} {s : Shared}
/-- an object of ours is tracked from now on -/
theorem _root_.L2.Inv.track {a : Addr} {o : HO} {oe : Obj} {vs : Array Value} (I : Inv X pins σ H s) (na : H a = none) (n0 : X.s_0.heap.get? a = none) (he : s.heap.get? a = some oe) (hd : oe.data = .fields vs) (nL : a ≠ X.env.locals) (np : ∀ p ∈ X.pn ++ pins, p.1 ≠ a)
    (new : ObjOk X.prog X.w (upd H a o) s.heap a o) : Inv X pins σ (upd H a o) s := by
  have ne : ∀ b, b ≠ a → upd H a o b = H b := fun b h => upd_ne h
  refine ⟨I.ok, I.os, I.bare, ⟨I.base.keep, I.base.slot, fun b u q n hx => ?_, I.base.there, fun b xs q => ?_, fun b u xs q => ?_, fun b ps q => ?_⟩, I.loc, I.cell, ?_, fun x c q => ?_, fun p hp => ?_, fun b u e => ?_, I.len⟩
  · rw [ne b fun z => by rw [z, n0] at q; cases q]
    exact I.base.free b u q n hx
  · have z := I.base.tups b xs q
    rw [ne b fun e => by rw [e, na] at z; cases z]
    exact z
  · have z := I.base.frzs b u xs q
    rw [ne b fun e => by rw [e, na] at z; cases z]
    exact z
  · obtain ⟨m, z⟩ := I.base.tbls b ps q
    refine ⟨m, ?_⟩
    rw [ne b fun e => by rw [e, na] at z; cases z]
    exact z
  · rw [ne _ fun z => nL z.symm]
    exact I.free
  · rw [ne c fun z => ?_]
    · exact I.freeC x c q
    · obtain ⟨v, oc, h1, h2⟩ := I.cell x c q
      rw [z, he] at h1
      have h1 := Option.some.inj h1
      subst h1
      rw [hd] at h2
      exact (nomatch h2)
  · obtain ⟨h1, h2, h3⟩ := I.pin p hp
    exact ⟨h1, by rw [ne _ (np p hp)]; exact h2, h3⟩
  · by_cases hb : b = a
    · subst hb
      rw [upd_same] at e
      cases e
      exact new
    · rw [ne b hb] at e
      exact (I.hok b u e).stay (fun c v _ q => q) (fun c q => by rw [upd_ne (ne_of_none q na)]; exact q) fun c xs q => by rw [upd_ne (ne_of_none q na)]; exact q
end
theorem paired_left {α β : Type} {F : α → β → Prop} : ∀ {l₁ : List α} {l₂ : List β}, Paired F l₁ l₂ → ∀ a ∈ l₁, ∃ b, F a b
  | _, _, .nil, _, h => (nomatch h)
  | _, _, .cons x r, a, h => (List.mem_cons.mp h).elim (fun e => ⟨_, e ▸ x⟩) fun h => paired_left r a h
section
variable {M : Model} {K : PySem.W.Frag}
theorem exm_any {h : Heap} {cls : Value} (X : K.In h) : ∀ (cs : List Value) {b : Bool}, exmAny K cls cs = some b → ∃ bs : List Bool, Paired (fun c v => Looks M h (isExcClass c) true ∧ Looks M h (isSubtype cls c) v) cs bs ∧ b = bs.any id
  | [], b, e => ⟨[], .nil, by cases e; rfl⟩
  | c :: r, b, e => by
    obtain ⟨b1, d1, h1, h2, rfl⟩ := exmAny_cons e
    obtain ⟨bs, p, rfl⟩ := exm_any X r h2
    exact ⟨b1 :: bs, .cons (exm_cls X h1) p, rfl⟩
theorem exm_tup {cls : Value} {cs : List Value} {tp e : Addr} {b : Bool} {h : Heap} (X : K.In h) (LT : Looks M h (typeOf (.ref e)) cls) (hp : h.get? tp = some { cls := .type "tuple", data := .seq cs.toArray }) (hx : exmAny K cls cs = some b) :
    Looks M h (excMatches (.ref e) (.ref tp)) b := by
  intro A Q E s k₀ q
  obtain ⟨bs, p, hb⟩ := exm_any (M := M) X cs hx
  have LT0 : Looks M h (isInstance (.ref tp) (.type "tuple")) true := ((Looks.ld hp).andThen .now).andThen (Looks.of_pure isSubtype_tuple_tuple)
  have hp' := k₀ _ _ hp
  unfold excMatches
  refine wpAny_bind (LT0 _ _ _ _ k₀ ?_)
  dsimp only
  rw [if_pos rfl]
  first
    | refine wpAny_bind (wpAny_seqItems hp' rfl ?_)
    | refine wpAny_bind (wpAny_bind (wpAny_seqItems hp' rfl (wpAny_pure ?_)))
  dsimp only [Option.getD_some, Option.getD]
  refine wpAny_bind (wpAny_pure ?_)
  refine wpAny_bind (wpAny_forIn_list _ (fun l _ s' => s' = s ∧ ∀ c ∈ l, Looks M h (isExcClass c) true) _ (fun c rest b' s1 ⟨e1, hl⟩ => ?t1) (fun b' s1 ⟨e1, _⟩ => ?t2) _ _ ⟨rfl, fun c hc => ?t3⟩)
  case t1 =>
    subst e1
    refine wpAny_bind ((hl c List.mem_cons_self) _ _ _ _ k₀ ?_)
    try dsimp only [Bool.not_true]
    rw [if_neg (show ¬ (!true) = true from Bool.false_ne_true)]
    exact wpAny_pure ⟨rfl, fun d hd => hl d (List.mem_cons_of_mem _ hd)⟩
  case t2 =>
    subst e1
    refine wpAny_bind (LT _ _ _ _ k₀ ?_)
    refine wpAny_bind (wpAny_forIn_list _ (fun l r s' => r.1 = none ∧ s' = s1 ∧ ∃ bs, Paired (fun c v => Looks M h (isExcClass c) true ∧ Looks M h (isSubtype cls c) v) l bs ∧ b = bs.any id) _ (fun c rest b2 s2 ⟨r0, e2, hl⟩ => ?u1) (fun b2 s2 ⟨r0, e2, hl⟩ => ?u2) _ _ ⟨rfl, rfl, bs, ?u3, hb⟩)
    case u1 =>
      subst e2
      obtain ⟨bs2, p2, hb2⟩ := hl
      cases p2 with
      | cons h1 h2 =>
        rename_i v vs
        refine wpAny_bind (h1.2 _ _ _ _ k₀ ?_)
        cases v with
        | true =>
          rw [if_pos rfl]
          refine wpAny_pure ?_
          subst hb2
          exact wpAny_pure q
        | false =>
          rw [if_neg Bool.false_ne_true]
          exact wpAny_pure ⟨rfl, rfl, vs, h2, hb2⟩
    case u2 =>
      subst e2
      obtain ⟨bs2, p2, hb2⟩ := hl
      cases p2
      subst hb2
      try dsimp only
      rw [r0]
      exact wpAny_pure q
    case u3 => simpa using p
  case t3 =>
    obtain ⟨v, hv⟩ := paired_left p c (by simpa using hc)
    exact hv.1
end
/-- the classes that an except clause names -/
def NamesL (X : Cx) : List Expr → List Value → Prop
  | [], cs => cs = []
  | e :: es, cs => ∃ x p c r, e = .Name x p ∧ cs = c :: r ∧ Names X x c ∧ NamesL X es r
/-- what the clause 'except (A, B, ..) as n' wishes of an exception of the body: slot i is n's; behind it the exception is kept -/
def wAsK (K : PySem.W.Frag) (cs : List Value) (i : Nat) (ts : Addr → Value → TS) (D : Ends) : WX := fun cls d σ H =>
  exmAny K cls cs = some true ∧ d = none ∧ ∀ a, H a = none → ts a cls { nx := fun σ' H' => H' a = none → D.nx (σ'.set i none) (upd H' a (ExK cls a)), rt := D.rt, bk := fun σ' H' => D.bk (σ'.set i none) H', ct := fun σ' H' => D.ct (σ'.set i none) H' } (σ.set i (some (.ref a))) H
section
variable {X : Cx} {n : Str} {cs : List Value} {i kk : Nat} {body suite : List Stmt} {b₀ : Stmt} {es : List Expr} {np pos pos' : Pos} {tb : WX → TS} {ts : Addr → Value → TS}
theorem items_names {Y : Cx} {pins : List (Addr × Obj)} {σ : L2.St} {H : Hp} {s : Shared} {M : Model} {A : Around} {E : Value → Shared → Prop} {pos : Pos} (I : Inv Y pins σ H s) (hM : M = model Y.prog Y.w) (hA : A = Y.A) :
    ∀ (es : List Expr) (cs : List Value) (Q : List Value → Shared → Prop), NamesL Y es cs → Q cs s → wpAny M A (spliced (backTo pos (starEach es Y.env))) Q E s
  | [], cs, Q, h, q => by
    have h : cs = [] := h
    subst h
    exact wpAny_items_nil q
  | e :: es, cs, Q, h, q => by
    obtain ⟨x, p, c, r, rfl, rfl, hc, hr⟩ := h
    refine wpAny_items_cons ?_
    have go := items_names (E := E) (pos := pos) I hM hA es r (fun vs s2 => Q (c :: vs) s2) hr q
    subst hM hA
    obtain ⟨hg, hdbg, hm | ⟨hm, hv, hnn⟩⟩ := hc
    · exact ld_glob I hg hm go hdbg
    · exact ld_blt I hg hm hv go hnn hdbg
theorem flyZ_keeps {B : Heap} {l : List Env} {a : Addr} {Z : Obj → Prop} {h h' : Heap} (R : HandSPX.FlyingZ B l a Z h) (k : ∀ b o, h.get? b = some o → h'.get? b = some o) : HandSPX.FlyingZ B l a Z h' := by
  obtain ⟨f1, f2, f3, oe, vs, T, oT, ts, he, hz, hd, h1, hn, hne, hT, hdT, h3⟩ := R
  exact ⟨fun b o q => k b o (f1 b o q), f2, f3.of_keeps fun b o q _ => ⟨o, k b o q, rfl⟩, oe, vs, T, oT, ts, k _ _ he, hz, hd, h1, hn, hne, k _ _ hT, hdT, h3⟩
theorem ps_try_keep (hs : X.stack = X.env :: X.outer) (hf : X.env.frame = some X.env.locals) (hN : X.N.Nodup) (hi : X.N[i]? = some n) (hln : X.env.kindOf n = some .local) (hex : X.ex = []) (hc : ∀ a pn, NamesL (X.suite a pn) es cs) (hsz : cs.length ≤ sizeLine)
    (hb : ∀ (W : WX) (pn : List (Addr × Obj)) (xe : Value → Shared → Prop), Takes (X.tr pn xe) W → PassesOwn (model X.prog X.w) X.A X.env xe → PSs (X.tr pn xe) body (tb W))
    (hsu : ∀ (a : Addr) (oe : Obj) (cls : Value) (pn : List (Addr × Obj)), Zc cls none oe → (∃ vs, oe.data = .fields vs) → PSs (X.suite a ((a, oe) :: pn)) (b₀ :: suite) (ts a cls)) :
    PS X (.Try body [.ExceptHandler (some (.Tuple es kk np)) (some n) (b₀ :: suite) pos'] [] [] pos) (fun D σ H => tb (wAsK X.K cs i ts D) D σ H) := by
  refine ⟨fun pins s σ H D I h => ?_⟩
  have ok := I.ok
  have hfr : X.A.frames = some (X.env :: X.outer) := by rw [ok.frames, hs]
  have hloc : Loc X.env.scope n := .inl hln
  refine wpAny_Try_except ?_
  refine wpAny_mono ((hb (wAsK X.K cs i ts D) (X.pn ++ pins) (fun e s₁ => wpAny (model X.prog X.w) X.A (noteFrame e X.env) (fun _ s₂ => wpAny (model X.prog X.w) X.A (setFlight e none) (fun _ s₃ =>
    wpAny (model X.prog X.w) X.A (handleBy e X.env [.ExceptHandler (some (.Tuple es kk np)) (some n) (b₀ :: suite) pos']) (SP X pins D) X.xe s₃) X.xe s₂) X.xe s₁) (fun u s' xx => ?_) PassesOwn.looking).run [] s σ H D (I.toTry _) h) (fun f s1 hsp => ?_) (fun e s1 he => he)
  · -- the catch
    obtain ⟨a, B, sI, pins', σ', H', cls, d, rfl, J', nb, up, sky, na, os, ag, hb1, rfl, hyes⟩ := xx
    have J : Inv X pins σ' H' sI := J'.ofTry ok
    have sky' : Sky B (X.env :: X.outer) a (Zc cls none) X.env.locals s'.heap := by rw [← hs]; exact sky
    show wpAny (model X.prog X.w) X.A (noteFrame (.ref a) X.env) _ _ _
    refine Sky.land Zc.steady hfr hf sky' fun h3 fl3 up3 => ?_
    have J3 : Inv X pins σ' H' { s' with heap := h3 } := J.landed nb fl3.1 (up.trans up3) os ag
    obtain ⟨oe3, vs3, he3, hz3, hd3⟩ := fl3.there
    have notFr : ∀ {h : Heap} {o : Obj} {vs : Array Value}, h.FunFrames B (X.env :: X.outer) → h.get? a = some o → o.data = .fields vs → a ∉ frs (X.env :: X.outer) := fun {h o vs} ff e dd hm => by
      obtain ⟨_, o', e', hnf⟩ := ff.mem hm
      rw [e] at e'; cases e'
      exact hnf _ dd
    have nfr := notFr fl3.2.2.1 he3 hd3
    have nL : a ≠ X.env.locals := fun z => nfr (List.mem_filterMap.mpr ⟨X.env, List.mem_cons_self, by rw [hf, z]⟩)
    have nF : a ∉ X.fs := fun hm => by
      obtain ⟨e, he, q⟩ := List.mem_filterMap.mp hm
      exact nfr (List.mem_filterMap.mpr ⟨e, List.mem_cons_of_mem _ he, q⟩)
    have nI : sI.heap.get? a = none := by
      cases e : sI.heap.get? a with
      | none => rfl
      | some o =>
        have z := nb a o e (by rw [hs]; exact nfr)
        rw [fl3.2.1] at z
        cases z
    have n0 : X.s_0.heap.get? a = none := by
      cases e : X.s_0.heap.get? a with
      | none => rfl
      | some o =>
        obtain ⟨o', z⟩ := J.base.there a o e (by rw [hex]; exact fun z => nomatch z)
        rw [nI] at z
        cases z
    have np' : ∀ p ∈ X.pn ++ pins, p.1 ≠ a := fun p hp z => by
      have q := (J.pin p hp).1
      rw [z, nI] at q
      cases q
    have S3 := J3.suite he3 hd3 na nL nF
    refine wpAny_handleBy_cons (codeAny_handlers_test ?_) (by intro q; cases q)
    have kp : ∀ q o, h3.get? q = some o → (h3.push { cls := .type "tuple", data := .seq cs.toArray }).get? q = some o := fun _ _ z => Heap.get?_push_of_some _ z
    have LT : PySem.W.Looks (model X.prog X.w) h3 (typeOf (.ref a)) cls := fun A Q E s k q => wpAny_typeOf_ref (k _ _ he3) (by rw [hz3.1]; exact q)
    have LM := exm_tup (M := model X.prog X.w) (J3.kIn.keeps kp) (LT.keeps kp) (Heap.get?_push_size h3 rfl) hb1
    refine wpAny_Tuple (items_names S3 rfl rfl es cs _ (hc _ _) ⟨hsz, ?_⟩)
    refine LM.here ?_
    refine codeAny_handlers_suite_as ?_
    have fl3' := flyZ_keeps fl3 kp
    refine HandSPX.lands_againZ fl3' fun h4 fl4 up4 => ?_
    have J4 : Inv X pins σ' H' { s' with heap := h4 } := J.landed nb fl4.1 ((up.trans up3).trans ((Heap.UpToSlots.of_keeps kp).trans up4)) os ag
    obtain ⟨oe4, vs4, he4, hz4, hd4⟩ := fl4.there
    have S4 := J4.suite he4 hd4 na nL nF
    refine store_ok (X := X.suite a ((a, oe4) :: (X.pn ++ pins))) (v := .ref a) S4 hN hi hloc rfl (fun s5 S5 => ?_) (.inr hln)
    refine wpAny_mono ((hsu a oe4 cls (X.pn ++ pins) hz4 ⟨_, hd4⟩).run [] s5 _ H' _ S5 (hyes a na)) (fun f s6 hsp => ?_) (fun _ _ z => False.elim z)
    have end_ : ∀ {σ6 : L2.St} {H6 : Hp} {Q : Shared → Prop}, Inv (X.suite a ((a, oe4) :: (X.pn ++ pins))) [] σ6 H6 s6 → (∀ s7, Inv (X.suite a ((a, oe4) :: (X.pn ++ pins))) [] (σ6.set i none) H6 s7 → Q s7) →
        wpAny (model X.prog X.w) X.A (do bindName X.env n .none; unbindBehindTheSuite X.env n pos') (fun _ s7 => Q s7) X.xe s6 := fun {σ6 H6 Q} S6 hq => gone_ok (X := X.suite a ((a, oe4) :: (X.pn ++ pins))) S6 hN hi hln hq
    cases f with
    | next =>
      obtain ⟨σ6, H6, S6, q6⟩ := hsp
      refine end_ S6 fun s7 S7 => ?_
      have p7 := S7.pin (a, oe4) (List.mem_append.mpr (.inl List.mem_cons_self))
      exact ⟨_, _, (S7.unsuite ok).track p7.2.1 n0 p7.1 hd4 nL np' (exK_ok p7.1 hz4 hd4), q6 p7.2.1⟩
    | brk =>
      obtain ⟨σ6, H6, S6, q6⟩ := hsp
      exact end_ S6 fun s7 S7 => ⟨_, _, S7.unsuite ok, q6⟩
    | cont =>
      obtain ⟨σ6, H6, S6, q6⟩ := hsp
      exact end_ S6 fun s7 S7 => ⟨_, _, S7.unsuite ok, q6⟩
    | ret u =>
      obtain ⟨v6, σ6, H6, S6, r6, q6⟩ := hsp
      exact end_ S6 fun s7 S7 => ⟨_, _, _, S7.unsuite ok, r6, q6⟩
  · cases f with
    | next =>
      obtain ⟨σ', H', J', q⟩ := hsp
      exact wpAny_execs_nil ⟨σ', H', J'.ofTry ok, q⟩
    | brk =>
      obtain ⟨σ', H', J', q⟩ := hsp
      exact ⟨σ', H', J'.ofTry ok, q⟩
    | cont =>
      obtain ⟨σ', H', J', q⟩ := hsp
      exact ⟨σ', H', J'.ofTry ok, q⟩
    | ret u =>
      obtain ⟨v, σ', H', J', r, q⟩ := hsp
      exact ⟨v, σ', H', J'.ofTry ok, r, q⟩
end
/-- isinstance(e, (A, B, ..)), e an exception that was kept -/
def rIsKT (K : PySem.W.Frag) (D : Addr) : List V → Hp → VK → Prop := fun xs H Q => ∃ (a tp : Addr) (cs : List V) (us : List Value) (b : Bool), xs = [.ref a, .ref tp] ∧ H a = some (ExK (.ref D) a) ∧ H tp = some (.tup cs) ∧ Paired ClsV cs us ∧ PySem.W.kitAny K (.ref D) us = some b ∧ Q (.bl b) H
theorem call_isKT {X : Cx} {D : Addr} (C : ExcC X.K D) : CallR X (.builtin "isinstance") (rIsKT X.K D) := by
  intro pins s σ H xs us Q I r h
  obtain ⟨a, tp, cs, ws, b, rfl, hA, hT, k, e, q⟩ := h
  obtain ⟨u1, u2, rfl, r1, r2⟩ := vals2 r
  cases (show u1 = Value.ref a from r1)
  cases (show u2 = Value.ref tp from r2)
  obtain ⟨_, its, rv, o, h1, h2, n, h3⟩ := (show ObjOk X.prog X.w H s.heap tp (.tup cs) from I.hok tp _ hT)
  have e3 := ClsV.all k rv
  subst e3
  obtain ⟨oc, od, dt, sl⟩ := o
  simp only at h2 h3
  subst h2 h3
  obtain ⟨⟨oe, hget, hz, vs, hv⟩, _⟩ := I.hok a _ hA
  have J : PySem.W.InstAt s.heap a oe D none := by
    obtain ⟨oc, od, oda, osl⟩ := oe
    obtain ⟨h1, h2⟩ := hz
    dsimp only at h1 h2 hv
    subst h1 h2 hv
    exact ⟨hget, rfl, rfl, trivial⟩
  exact PySem.W.kia_tup (PySem.W.handS_kitx_exc C.hg C.hk C.hs C.hd C.ha C.hn C.ht C.hm) I.kIn J h1 e (fun z => nomatch z) fun tk => ⟨.bl b, H, I.kept (t' := tk) fun _ _ z => z, rfl, q⟩
/-- isinstance(e, A), e an exception that was kept -/
def rIsK (K : PySem.W.Frag) (D : Addr) : List V → Hp → VK → Prop := fun xs H Q => ∃ (a : Addr) (c : V) (cv : Value) (b : Bool), xs = [.ref a, c] ∧ H a = some (ExK (.ref D) a) ∧ (∀ u, RelV c u → u = cv) ∧ PySem.W.kitOne K (.ref D) cv = some b ∧ Q (.bl b) H
theorem call_isK {X : Cx} {D : Addr} (C : ExcC X.K D) : CallR X (.builtin "isinstance") (rIsK X.K D) := by
  intro pins s σ H xs us Q I r h
  obtain ⟨a, c, cv, b, rfl, hA, hcv, e, q⟩ := h
  obtain ⟨u1, u2, rfl, r1, r2⟩ := vals2 r
  cases (show u1 = Value.ref a from r1)
  have ec := hcv _ r2
  subst ec
  obtain ⟨⟨oe, hget, hz, vs, hv⟩, _⟩ := I.hok a _ hA
  have J : PySem.W.InstAt s.heap a oe D none := by
    obtain ⟨oc, od, oda, osl⟩ := oe
    obtain ⟨h1, h2⟩ := hz
    dsimp only at h1 h2 hv
    subst h1 h2 hv
    exact ⟨hget, rfl, rfl, trivial⟩
  exact PySem.W.kia_one (PySem.W.handS_kitx_exc C.hg C.hk C.hs C.hd C.ha C.hn C.ht C.hm) I.kIn J e (fun z => nomatch z) fun tk => ⟨.bl b, H, I.kept (t' := tk) fun _ _ z => z, rfl, q⟩
end DL
/-! DL: a tuple of a new list and two numbers, handed back. -/
namespace DL
open PySem PySem.Spec PyProof.Rows L2
variable {P : TokP} {K : PySem.W.Frag} {ks : List Kd} {ta tb tc : TE} {ca cb cc : Nat}
@[reducible] def rTI (K : PySem.W.Frag) : Rk := ⟨T3 (List Int) Int Int, fun Hs v x g H => ∃ t p vs, v = .ref t ∧ H t = some (.tup [.ref p, .int x.b, .int x.c]) ∧ Hs p = none ∧ g p = .oth ∧ H p = some (.lst vs) ∧ Paired (Rp.rp K (Fz g H)) vs x.a ∧ x.a.length ≤ 9223372036854775808,
  fun h ⟨t, p, vs, e, h0, h1, h2⟩ => ⟨t, p, vs, e, h0, h p h1, h2⟩, fun h1 h2 h3 ⟨t, p, vs, e, q0, q1, q2, q3, q4, q5⟩ => ⟨t, p, vs, e, q0, q1, h3 p q1 q2, q3, Paired.rp_mono (le_mg h1 h2).fz q4, q5⟩⟩
instance : RkFlat (rTI K) := ⟨fun {Hs v x g g' H} s ⟨t, p, vs, e, h0, h1, h2, h3, h4, h5⟩ => ⟨t, p, vs, e, h0, h1, (s p h1).trans h2, h3, Paired.mapP h4 fun _ _ q => Flat.fl (K := K) (α := Int) (F := Fz g H) (F' := Fz g' H) (fun b zs hb => fz_some.mpr ⟨(fz_some.mp hb).1, .inl rfl⟩) q, h5⟩⟩
theorem ae_triO {wa : TupT ks → (List Int → Prop) → Prop} {wb wc : TupT ks → (Int → Prop) → Prop} (ha : AE P ks (rO K Int) ca ta wa) (hb : AE P ks (rF K Int) cb tb wb) (hc : AE P ks (rF K Int) cc tc wc) :
    AE P ks (rTI K) (ca + (cb + cc)) (tTup (tCons ta (tCons tb (tCons tc tNil)))) (fun γ Q => wa γ fun x => wb γ fun y => wc γ fun z => Q ⟨x, y, z⟩) := by
  refine ⟨fun γ Q Q' q z => ha.mono γ _ _ (fun x zx => hb.mono γ _ _ (fun y zy => hc.mono γ _ _ (fun z zz => q _ zz) zy) zx) z, fun A b0 γ σ g H Q hb0 G R hw => ?_⟩
  refine ha.run A b0 γ σ g H _ (by omega) G R (ha.mono γ _ _ (fun x zx v1 g1 H1 G1 e1 r1 => ?_) hw)
  refine hb.run A _ γ σ g1 H1 _ (by omega) G1 (R.ext G e1) (hb.mono γ _ _ (fun y zy v2 g2 H2 G2 e2 r2 => ?_) zx)
  refine hc.run A _ γ σ g2 H2 _ (by omega) G2 ((R.ext G e1).ext G1 e2) (hc.mono γ _ _ (fun z zz v3 g3 H3 G3 e3 r3 => ?_) zy)
  have r2 : v2 = .int y := r2
  have r3 : v3 = .int z := r3
  subst r2 r3
  obtain ⟨p, vs, rfl, h1, h2, h3, h4, h5⟩ := r1
  refine ⟨by show 3 ≤ sizeLine; decide, fun t ht => ?_⟩
  obtain ⟨G4, e4⟩ := G3.new0 (o := .tup [.ref p, .int y, .int z]) ht
  have e34 := (e3.trans G3 e4)
  have e24 := (e2.trans G2 e34)
  obtain ⟨k1, k2⟩ := e24 p _ h3
  exact zz _ g3 _ (G4.up (by omega)) (e1.trans G1 e24) ⟨t, p, vs, rfl, upd_same, h1, k1.trans h2, k2 (by rw [h2]; simp), Paired.rp_mono (e24.le G1).fz h4, h5⟩
theorem ae_frzTI {w : TupT ks → (T3 (List Int) Int Int → Prop) → Prop} (h : AE P ks (rTI K) ca ta w) : AE P ks (rF K (T3 (List Int) Int Int)) ca ta w := by
  refine ⟨h.mono, fun A b0 γ σ g H Q hb0 G R hw => ?_⟩
  refine h.run A b0 γ σ g H Q (by omega) G R (h.mono γ _ _ (fun x z v g' H' G' e r' => ?_) hw)
  obtain ⟨t, p, vs, rfl, h0, h1⟩ := r'
  obtain ⟨g'', G'', e'', r''⟩ := frz_own (α := Int) (v := .ref p) (xs := x.a) G G' e ⟨p, vs, rfl, h1⟩
  exact z _ g'' H' (G''.up (by omega)) e'' ⟨t, _, _, _, rfl, .inl (fz_some.mpr ⟨h0, .inl rfl⟩), r'', rfl, rfl⟩
theorem ae_t1TI {w : TupT ks → (T3 (List Int) Int Int → Prop) → Prop} (h : AE P ks (rTI K) ca ta w) : AE P ks (rO K Int) ca (tOp (rIxT K) ta (tC (.int 0))) (fun γ Q => w γ fun x => Q x.a) := by
  refine ⟨fun γ Q Q' q z => h.mono γ _ _ (fun x zx => q _ zx) z, fun A b0 γ σ g H Q hb0 G R hw => ?_⟩
  refine h.run A b0 γ σ g H _ (by omega) G R (h.mono γ _ _ (fun x z v g' H' G' e r' => ?_) hw)
  obtain ⟨t, p, vs, rfl, h0, h1⟩ := r'
  exact ⟨t, _, 0, .ref p, rfl, rfl, .inl (.inl h0), rfl, z _ g' H' G' e ⟨p, vs, rfl, h1⟩⟩
end DL
/-! DL: calls that raise, within a try; defs that refuse what they are handed. -/
namespace DL
open PySem PySem.Spec PyProof.Rows L2
theorem exm_cons {K : PySem.W.Frag} {cls c : Value} {r : List Value} {b d : Bool} (h1 : PySem.W.exmOne K cls c = some b) (h2 : PySem.W.exmAny K cls r = some d) : PySem.W.exmAny K cls (c :: r) = some (b || d) := by
  unfold PySem.W.exmAny
  rw [h1, h2]
theorem exm_nil {K : PySem.W.Frag} {cls : Value} : PySem.W.exmAny K cls [] = some false := rfl
section
variable {X : Cx} {k n : Nat} {f : Addr} {fd : FuncData} {ps kn : List Str} {sp : Sp} {x : Str} {p pos : Pos} {e : Expr} {es : List Expr} {t tk : TA} {ds : List Value} {dvs : List V} {kws : List Keyword} {g : List Value → List Value → List Value} {gV : List V → List V → List V} {E : L2.St → XK}
def tCallAt (sp : Sp) (dvs : List V) (E : L2.St → XK) (t : TA) : TE := fun σ H Q => t σ H fun vs H1 => sp (vs ++ dvs) H1 Q (E σ)
def tCallNAt (n m : Nat) (sp : Sp) (gV : List V → List V → List V) (E : L2.St → XK) (t tk : TA) : TE := fun σ H Q => t σ H fun vs H1 => tk σ H1 fun zs H2 => vs.length = n ∧ zs.length = m ∧ sp (gV vs zs) H2 Q (E σ)
theorem pe_callGXat (F : FnGX X.prog X.w X.K X.mg X.base k f fd ps sp) (z : RoomG k X.A) (hg : Gl X x) (hm : X.mg x = some (.ref f)) (hk : PySem.W.keepIn X.K (.ref f) = true) (hb : Binds X.K fd ps ds) (hd : Vals dvs ds) (hx : ∀ σ, PassesAt (L2.CX X.prog X.w) X σ (E σ))
    (ha : PA X (e :: es) t) (hdb : (x == ("__debug__" : Str)) = false := by decide) (hst : starEach (e :: es) X.env = (false, eval e X.env) :: starEach es X.env := by rfl) (hpl : (backTo pos (starEach es X.env)).any (·.1) = false := by rfl) :
    PE X (.Call (.Name x p) (e :: es) [] pos) (tCallAt sp dvs E t) :=
  ⟨fun pins s σ H Q I h => wpAny_Call_Name_kw (ld_glob I hg hm (PySem.W.callWith_K (h₀ := X.base) I.ok.mod.kin hk (thn (ha.run pos pins s σ H _ I h) fun us s1 ⟨vs, H1, I1, r, q⟩ => ⟨I1.kIn, run_GXat rfl F z hb hd (hx σ) I1 r q⟩) hst hpl) hdb)⟩
theorem run_fnGNXat {pins : List (Addr × Obj)} {σ : L2.St} {H : Hp} {s : Shared} {Q : VK} {us ws : List Value} {vs zs : List V} (F : FnGX X.prog X.w X.K X.mg X.base k f fd ps sp) (z : RoomG k X.A) (hb : KBn X.K fd ps n kn g gV) (hx : PassesAt (L2.CX X.prog X.w) X σ (E σ))
    (I : Inv X pins σ H s) (r : Vals vs us) (r2 : Vals zs ws) (l1 : vs.length = n) (l2 : zs.length = kn.length) (h : sp (gV vs zs) H Q (E σ)) : wpAny (model X.prog X.w) X.A (call (.ref f) us (kn.zip ws)) (EP X pins σ Q) X.xe s := by
  refine wpAny_call (codeAny_mono (F.run X.A X.stack s H _ _ _ Q (E σ) z I.env0 (hb.to s us ws I.kIn (r.length.symm.trans l1) (r2.length.symm.trans l2)) (hb.rel r r2) h) fun res s2 post => ?_)
  cases res with
  | error u => exact hx pins H s u s2 I post
  | ok fl =>
    cases fl with
    | ret u => exact I.after post
    | next => exact (show False from post).elim
    | brk => exact (show False from post).elim
    | cont => exact (show False from post).elim
theorem pe_callGN0Xat (F : FnGX X.prog X.w X.K X.mg X.base k f fd ps sp) (z : RoomG k X.A) (hg : Gl X x) (hm : X.mg x = some (.ref f)) (hk : PySem.W.keepIn X.K (.ref f) = true) (hb : KBn X.K fd ps 0 kn g gV) (hx : ∀ σ, PassesAt (L2.CX X.prog X.w) X σ (E σ))
    (hkw : PK X kws tk) (hall : (backToKw pos (keywordEach kws X.env)).all (·.1.isSome) = true := by rfl) (hks : (backToKw pos (keywordEach kws X.env)).filterMap (·.1) = kn := by rfl)
    (hdb : (x == ("__debug__" : Str)) = false := by decide) (hpl : ((backTo pos (starEach [] X.env)).any (·.1) || (backToKw pos (keywordEach kws X.env)).any (·.1.isNone)) = false := by rfl) :
    PE X (.Call (.Name x p) [] kws pos) (tCallNAt 0 kn.length sp gV E tNil tk) := by
  refine ⟨fun pins s σ H Q I h => wpAny_Call_Name_kw (ld_glob I hg hm ?_ hdb)⟩
  refine PySem.W.callWith_KW0 (h₀ := X.base) I.ok.mod.kin hk hall ?_ hpl
  refine thn (hkw.run pos pins s σ H _ I h) fun ws s2 ⟨zs, H2, I2, r2, l1, l2, q2⟩ => ⟨I2.kIn, ?_⟩
  rw [hks]
  exact run_fnGNXat (us := []) (vs := []) F z hb (hx σ) I2 .nil r2 l1 l2 q2
end
/-! ### defs that refuse -/
section
variable {P : TokP} {K : PySem.W.Frag} {cn : Str → Value} {pk : List Vk}
def wRg (K : PySem.W.Frag) (bad : TupV pk → Prop) (x : Str) : TupV pk → ((rF K Unit).T → Prop) → (Str → Prop) → Prop := fun γ _ X => bad γ ∧ X x
theorem pm_Rg {bad : TupV pk → Prop} {x : Str} : PmX P pk (rF K Unit) (wRg K bad x) := ⟨fun γ _ _ X X' _ q z => ⟨z.1, q _ z.2⟩⟩
abbrev spRg (P : TokP) (K : PySem.W.Frag) (cn : Str → Value) (pk : List Vk) (bad : TupV pk → Prop) (x : Str) (c : Nat) : Sp := SpX P cn pk (rF K Unit) c (wRg K bad x)
theorem spRg_len {bad : TupV pk → Prop} {x : Str} {c : Nat} {vs : List V} {H : Hp} {Q : VK} {E : XK} (h : spRg P K cn pk bad x c vs H Q E) : vs.length = pk.length := by
  obtain ⟨A, b0, γ, e, hb, G, rv, _⟩ := h
  exact RelVs.length rv
/-- who hands its own first two on to one that refuses them raises -/
theorem raise_on2 {a b : Vk} {pk : List Vk} {bad : TupV (a :: b :: pk) → Prop} {bad2 : TupV [a, b] → Prop} {x : Str} {c : Nat} {vs : List V} {H : Hp} {Q : VK} {E : XK} {N : List Str} (hbad : ∀ γ, bad γ → bad2 (γ.1, γ.2.1, ())) (q : spRg P K cn (a :: b :: pk) bad x c vs H Q E) (Q' : VK) :
    tCall (spRg P K cn [a, b] bad2 x c) [] E (tCons (tVar 0) (tCons (tVar 1) tNil)) (L2.start N vs) H Q' := by
  obtain ⟨A, b0, γ, eH, hb, G, rv, nw, hx⟩ := q
  obtain ⟨v0, r0, rfl, h0, v1, r1, rfl, h1, _⟩ := rv
  refine ⟨v0, ?_, v1, ?_, ?_⟩
  · rfl
  · rfl
  · exact ⟨A, b0, (γ.1, γ.2.1, ()), eH, hb, G, ⟨v0, _, rfl, h0, v1, _, rfl, h1, rfl⟩, hbad _ nw, hx⟩
/-- a def told in two ways -/
theorem FnG.two {Pg : Program} {w : World} {mg : Str → Option Value} {base : Heap} {k : Nat} {f : Addr} {fd : FuncData} {ps : List Str} {r : Rk} {c1 c2 : Nat} {w1 w2 : TupV pk → (r.T → Prop) → Prop} (m1 : Pm P pk r w1) (m2 : Pm P pk r w2) (F1 : FnG Pg w K mg base k f fd ps (SpOf P pk r c1 w1)) (F2 : FnG Pg w K mg base k f fd ps (SpOf P pk r c2 w2)) :
    FnG Pg w K mg base k f fd ps (SpOf P pk r (c1 + c2) (fun γ Q => w1 γ Q ∨ w2 γ Q)) := by
  have go : ∀ {vs H Q E}, SpOf P pk r (c1 + c2) (fun γ Q => w1 γ Q ∨ w2 γ Q) vs H Q E → SpOf P pk r c1 w1 vs H Q E ∨ SpOf P pk r c2 w2 vs H Q E := fun {vs H Q E} h => by
    obtain ⟨A, b0, γ, e, hb, G, rv, z⟩ := h
    rcases z with z | z
    · exact .inl ⟨A, b0, γ, e, by omega, G, rv, m1.mono γ _ _ (fun x zx v g' H' G' r' => zx v g' H' (G'.up (by omega)) r') z⟩
    · exact .inr ⟨A, b0, γ, e, by omega, G, rv, m2.mono γ _ _ (fun x zx v g' H' G' r' => zx v g' H' (G'.up (by omega)) r') z⟩
  refine ⟨fun vs H Q E z => ?_, fun A stk s H ar us vs Q E z e b v q => ?_⟩
  · rcases go z with z | z
    · exact F1.len _ _ _ _ z
    · exact F2.len _ _ _ _ z
  · rcases go q with q | q
    · exact F1.run A stk s H ar us vs Q E z e b v q
    · exact F2.run A stk s H ar us vs Q E z e b v q
theorem pm_two {r : Rk} {w1 w2 : TupV pk → (r.T → Prop) → Prop} (m1 : Pm P pk r w1) (m2 : Pm P pk r w2) : Pm P pk r (fun γ Q => w1 γ Q ∨ w2 γ Q) := ⟨fun γ Q Q' q z => z.imp (m1.mono γ _ _ q) (m2.mono γ _ _ q)⟩
end
end DL
/-! DL: x = [y.pop(e) for k in ..]. -/
namespace DL
open PySem PySem.Spec PyProof.Rows L2
variable {P : TokP} {K : PySem.W.Frag} {ks ks' kb : List Kd} {r : Rk} {ci ce : Nat}
def wPopL {α Γ : Type} (wx : α → Γ → (Int → Prop) → Prop) (a : Γ → List Int) (p : Γ → List Int → Γ) (N : Γ → List Int → Prop) : List α → Γ → List Int → Prop
  | [], γ, acc => N γ acc
  | x :: xs, γ, acc => wx x γ fun i => (0 ≤ i ∧ i < (a γ).length) ∧ ∀ v, (a γ)[i.toNat]? = some v → wPopL wx a p N xs (p γ ((a γ).eraseIdx i.toNat)) (acc ++ [v])
theorem wPopL_mono {α Γ : Type} {wx : α → Γ → (Int → Prop) → Prop} {a : Γ → List Int} {p : Γ → List Int → Γ} {N N' : Γ → List Int → Prop} (hm : ∀ x γ (Q Q' : Int → Prop), (∀ i, Q i → Q' i) → wx x γ Q → wx x γ Q') (h : ∀ γ acc, N γ acc → N' γ acc) : ∀ xs γ acc, wPopL wx a p N xs γ acc → wPopL wx a p N' xs γ acc
  | [], γ, acc, z => h _ _ z
  | x :: xs, γ, acc, z => hm _ _ _ _ (fun i zi => ⟨zi.1, fun v hv => wPopL_mono hm h xs _ _ (zi.2 v hv)⟩) z
theorem wipe_at {σ : Sl} {n : Nat} : ∀ {vs : List Nat}, n ∉ vs → (wipe σ vs)[n]? = σ[n]?
  | [], _ => rfl
  | v :: vs, h => by
    show ((wipe σ vs).set v none)[n]? = σ[n]?
    rw [List.getElem?_set_ne (fun z => h (by rw [z]; exact List.mem_cons_self))]
    exact wipe_at fun z => h (List.mem_cons_of_mem _ z)
theorem as_lcPop {α : Type} [Rp K α] {wi : TI} {gt : TG} {ti : TE} {n m : Nat} {vs : List Nat} {ksw ksx : List Kd} {w : TupT ks → (List α → Prop) → Prop} {put : TupT ksw → α → TupT ksx} {sl : List Nat} {we : TupT ksx → (Int → Prop) → Prop}
    (hi : AI P K ks α ci wi w) (k : Wp ks vs ksw) (hg : AG K ksw α ksx gt put sl) (hsl : ∀ i ∈ sl, i ∈ vs) (hn : n ∉ vs) (he : AE P ksx (rF K Int) ce ti we) (a : Acc ks n (kO K Int)) (p : Put ks n (kO K Int) ks) (pm : Put ks m (kF K (List Int)) ks') :
    AS P ks ks' r kb (ci + 9223372036854775808 * ce) (tAsg (tLc wi gt tYes (tBM K "list" rPopAt (tVar n) (tCons ti tNil)) vs) (gName m))
      (fun γ E => w γ fun xs => xs.length ≤ sizeLine ∧ wPopL (fun x γ => we (put (k.to γ) x)) a.get p.put (fun γ acc => ∀ y, y = acc → E.nx (pm.put γ y)) xs γ []) := by
  refine ⟨fun γ E E' im z => hi.mono γ _ _ (fun xs zx => ⟨zx.1, wPopL_mono (wx := fun x γ => we (put (k.to γ) x)) (a := a.get) (p := p.put) (N := fun γ acc => ∀ y, y = acc → E.nx (pm.put γ y)) (N' := fun γ acc => ∀ y, y = acc → E'.nx (pm.put γ y)) (fun x γ Q Q' q z => he.mono _ _ _ q z) (fun γ acc zz y ey => im.nx _ (zz y ey)) _ _ _ zx.2⟩) z, fun A b0 γ σ g H D0 hb0 G R hw => ?_⟩
  refine hi.run A b0 γ σ g H _ (by omega) G R (hi.mono γ _ _ (fun xs zx J g1 H1 G1 e1 it D hD => ?_) hw)
  obtain ⟨hxs, zx⟩ := zx
  generalize hT : b0 + (ci + 9223372036854775808 * ce) = T at zx
  have step : ∀ i, i < xs.length → b0 + ci + i * ce + ce ≤ T ∧ b0 + ci + i * ce + ce = b0 + ci + (i + 1) * ce := fun i hi => by
    have hm : (i + 1) * ce ≤ 9223372036854775808 * ce := Nat.mul_le_mul_right ce (by have := it.len; omega)
    rw [Nat.succ_mul] at hm ⊢
    omega
  have hA0 : A.H0 D = none := G.ext.keeps G (e1.keeps G1 hD)
  obtain ⟨GD, eD⟩ := G1.new0 (o := .lst []) hD
  have R1 : RelL ks 0 γ σ g1 (upd H1 D (.lst [])) := (R.ext G e1).ext G1 eD
  obtain ⟨W, hW⟩ : ∃ W : List α → TupT ks → List Int → Prop, W = wPopL (fun x γ => we (put (k.to γ) x)) a.get p.put (fun γ acc => ∀ y, y = acc → (Wt P A T g H ks' D0.nx) (pm.put γ y)) := ⟨_, rfl⟩
  have zx : W xs γ [] := by rw [hW]; exact zx
  have Wstep : ∀ x xs γ acc, W (x :: xs) γ acc → we (put (k.to γ) x) fun i => (0 ≤ i ∧ i < (a.get γ).length) ∧ ∀ v, (a.get γ)[i.toNat]? = some v → W xs (p.put γ ((a.get γ).eraseIdx i.toNat)) (acc ++ [v]) := by
    rw [hW]
    exact fun _ _ _ _ z => z
  have Wend : ∀ γ acc, W [] γ acc → ∀ y, y = acc → (Wt P A T g H ks' D0.nx) (pm.put γ y) := by
    rw [hW]
    exact fun _ _ z => z
  clear hW
  refine ⟨fun i m' H' => ∃ g' γ' acc, m' = xs.length - i ∧ i ≤ xs.length ∧ Good P A (b0 + ci + i * ce) g' H' ∧ Le g1 H1 g' H' ∧ RelL ks 0 γ' σ g' H' ∧ g' D = .oth ∧ H' D = some (.lst (acc.map V.int)) ∧ acc.length ≤ i ∧ W (xs.drop i) γ' acc,
    ⟨xs.length, g1, γ, [], rfl, Nat.zero_le _, GD.up (by omega), eD.le G1, R1, G1.non D hD, upd_same, Nat.le_refl _, zx⟩, ?_⟩
  rintro i m' H' ⟨g', γ', acc, rfl, hle, G', l', R', hgD, hHD, hus, z⟩
  by_cases hlt : i < xs.length
  · right
    obtain ⟨st1, st2⟩ := step i hlt
    refine ⟨it.go A _ g' H' i G' l' hlt, fun H2 => ∃ g2 γ2 acc2, Good P A (b0 + ci + (i + 1) * ce) g2 H2 ∧ Le g1 H1 g2 H2 ∧ RelL ks 0 γ2 σ g2 H2 ∧ g2 D = .oth ∧ H2 D = some (.lst (acc2.map V.int)) ∧ acc2.length ≤ i + 1 ∧ W (xs.drop (i + 1)) γ2 acc2,
      fun H2 ⟨g2, γ2, acc2, a1, a2, a3, a4, a5, a6, a7⟩ => ⟨xs.length - (i + 1), by omega, g2, γ2, acc2, rfl, hlt, a1, a2, a3, a4, a5, a6, a7⟩, fun x H2 hy => ?_⟩
    have ei : xs[i]? = some xs[i] := List.getElem?_eq_getElem hlt
    obtain ⟨G2, e2, rx⟩ := it.yld A _ g' H' i x H2 G' l' hy _ ei
    have R2 : RelL ks 0 γ' σ g' H2 := R'.ext G' e2
    refine hg.run x xs[i] _ _ g' H2 _ (k.ok R2) rx fun σ3 R3 w3 => ?_
    have w3 : wipe σ3 vs = wipe σ vs := (w3 vs hsl).trans (by rw [wipe_wipe vs vs fun _ h => h])
    refine ⟨w3, ?_⟩
    delta tYes
    dsimp only
    rw [if_pos rfl]
    rw [List.drop_eq_getElem_cons hlt] at z
    have z' := Wstep _ _ _ _ z
    obtain ⟨y0, e, b, us, rfl, h1, h2, h3, hl⟩ := a.ok R2
    have e3 : σ3[n]? = some (some (.ref b)) := (wipe_some (by rw [w3, wipe_at hn]; exact e)).1
    refine ⟨_, e3, .inl ⟨rfl, us, .inl (.inl h2)⟩, ?_⟩
    refine he.run A _ _ σ3 g' H2 _ (by omega) G2 R3 (he.mono _ _ _ (fun j ⟨⟨j0, j1⟩, zj⟩ u g3 H3 G3 e3' r3 => ?_) z')
    have R4 := R2.ext G2 e3'
    obtain ⟨y2, f, b2, us2, rfl, k1, k2, k3, kl⟩ := a.ok R4
    rw [e] at f
    cases f
    have ln := Paired.len k3
    have e63 : (2 : Int) ^ 63 = 9223372036854775808 := by decide
    have e23 := e2.trans G2 e3'
    have hD3 := e23 D _ hHD
    have hH3 : H3 D = some (.lst (acc.map V.int)) := hD3.2 (by rw [hgD]; simp)
    have hg3 : g3 D = .oth := hD3.1.trans hgD
    have nD : D ≠ b := fun q => by
      subst q
      rw [hg3] at k1
      cases k1
    obtain ⟨G4, l4, R5⟩ := own_write p G3 R4 e k1 k2 (Paired.erase' j.toNat k3) (Nat.le_trans (List.length_eraseIdx_le _ _) kl)
    have hH4 : (upd H3 b (.lst (us2.eraseIdx j.toNat))) D = some (.lst (acc.map V.int)) := (upd_ne nD).trans hH3
    have jl : j.toNat < us2.length := by omega
    have jl2 : j.toNat < (a.get γ').length := by omega
    obtain ⟨q, hq, rq⟩ := Paired.at k3 (List.getElem?_eq_getElem jl2)
    have eq : us2[j.toNat] = q := by
      rw [List.getElem?_eq_getElem jl] at hq
      exact Option.some.inj hq
    have rq : q = .int ((a.get γ')[j.toNat]) := rq
    refine ⟨b, us2, j, j.toNat, us2[j.toNat], rfl, by rw [show u = V.int j from r3], k2, by rw [e63]; omega, by rw [e63]; omega, seqIx j0 (by omega), List.getElem?_eq_getElem _, ?_⟩
    have lx := lx_write (u := .lst ((acc ++ [(a.get γ')[j.toNat]]).map V.int)) hg3 hH4 rfl
    refine ⟨acc.map V.int, hH4, by rw [List.length_map]; omega, g3, _, acc ++ [(a.get γ')[j.toNat]], ?_, ?_, ?_, hg3, ?_, by rw [List.length_append]; show acc.length + 1 ≤ i + 1; omega, zj _ (List.getElem?_eq_getElem jl2)⟩
    all_goals rw [eq, rq, show acc.map V.int ++ [V.int ((a.get γ')[j.toNat])] = (acc ++ [(a.get γ')[j.toNat]]).map V.int by rw [List.map_append]; rfl]
    · exact (G4.put hA0 hH4 (by rw [hg3]; simp)).up (by omega)
    · exact ((l'.trans (e23.le G')).trans l4).trans lx.toLe
    · exact R5.st lx
    · exact upd_same
  · left
    have ei : i = xs.length := by omega
    refine ⟨it.stop A _ g' H' i G' l' (by omega), ?_⟩
    have hT2 : b0 + ci + i * ce ≤ T := by
      have hm : i * ce ≤ 9223372036854775808 * ce := Nat.mul_le_mul_right ce (by have := it.len; omega)
      omega
    rw [ei, List.drop_length] at z
    have l2 : Le g' H' (tagAt g' D .frz) H' := le_tag (by rw [hgD]; simp) (by rw [hgD]; simp)
    have pr : Paired (Rp.rp K (Fz g' H')) (acc.map V.int) acc := by
      clear hHD hus z
      induction acc with
      | nil => exact .nil
      | cons x xs ih => exact .cons rfl ih
    refine Wend γ' acc z acc rfl _ _ H' ((G'.retag (t := .frz) hA0 hHD (by rw [hgD]; simp) fun z => nomatch z).up hT2) (((e1.le G).trans l').trans l2) (pm.ok R' l2 (fun j _ b o hb ho => ⟨?_, ho⟩) ⟨.ref D, rfl, D, acc.map V.int, rfl, ?_, Paired.rp_mono l2.fz pr, by have := it.len; omega⟩)
    · rw [tagAt_ne fun q => by rw [q, hgD] at hb; cases hb]
      exact hb
    · exact fz_some.mpr ⟨hHD, .inr (by rw [tagAt_same]; rfl)⟩
end DL
/-! DL: x = [own, ..][i]; if c: x = .. of what is taken from own. -/
namespace DL
open PySem PySem.Spec PyProof.Rows L2
variable {P : TokP} {K : PySem.W.Frag} {ks ksF ksP ksU ks1 ks' kb : List Kd} {r : Rk} {cx cc c1 c2 c3 : Nat}
theorem as_pick {n m : Nat} {tx : TE} {c : TT} {t1 t2 t3 : TS} {wx : TupT ksF → (List Int → Prop) → Prop} {wc : TupT ksP → (Bool → Prop) → Prop} {w1 : TupT ksU → We ks1 r kb → Prop} {w2 : TupT ksP → We ks1 r kb → Prop} {w3 : TupT ks1 → We ks' r kb → Prop}
    (a : Acc ks n (kO K Int)) (pF : Put ks n (kF K (List Int)) ksF) (pP : Put ksF m (kF K (List Int)) ksP) (pU : Put ks m kU ksU)
    (hx : AE P ksF (rF K (List Int)) cx tx wx) (hc : AT P ksP cc c wc) (h1 : AS P ksU ks1 r kb c1 t1 w1) (h2 : AS P ksP ks1 r kb c2 t2 w2) (h3 : AS P ks1 ks' r kb c3 t3 w3) :
    AS P ks ks' r kb (cx + (cc + (c1 + c2) + c3)) (tSeq (tAsg tx (gName m)) (tSeq (tIfS c t1 t2) t3))
      (fun γ E => wx (pF.put γ (a.get γ)) fun x => ∀ y, y = x → wc (pP.put (pF.put γ (a.get γ)) y) fun b => if b = true then w1 (pU.put γ ()) ⟨fun γ' => w3 γ' E, E.rt, E.bk, E.ct⟩ else w2 (pP.put (pF.put γ (a.get γ)) y) ⟨fun γ' => w3 γ' E, E.rt, E.bk, E.ct⟩) := by
  refine ⟨fun γ E E' i z => hx.mono _ _ _ (fun x zx y ey => hc.mono _ _ _ (fun b zb => ?_) (zx y ey)) z, fun A b0 γ σ g H D hb0 G R hw => ?_⟩
  · cases b with
    | true => exact h1.mono _ _ _ ⟨fun x zx => h3.mono x _ _ i zx, i.rt, i.bk, i.ct⟩ zb
    | false => exact h2.mono _ _ _ ⟨fun x zx => h3.mono x _ _ i zx, i.rt, i.bk, i.ct⟩ zb
  obtain ⟨y, e, b, vs, rfl, k1, k2, k3, hl⟩ := a.ok R
  have h0 : A.H0 b = none := G.noown0 k1
  have l2 : Le g H (tagAt g b .frz) H := le_tag (by rw [k1]; simp) (by rw [k1]; simp)
  have es : σ.set n (some (.ref b)) = σ := set_self e
  have RF := pF.ok (y := some (.ref b)) (x := a.get γ) R l2 (fun j hj c o hc ho => ⟨by
    rw [tagAt_ne]
    · exact hc
    · intro z
      subst z
      rw [k1] at hc
      exact hj (Tg.own.inj hc).symm, ho⟩) ⟨_, rfl, b, vs, rfl, fz_some.mpr ⟨k2, .inr (by rw [tagAt_same]; rfl)⟩, Paired.rp_mono l2.fz k3, hl⟩
  rw [es] at RF
  have G1 : Good P A b0 (tagAt g b .frz) H := G.retag h0 k2 (by rw [k1]; simp) fun z => nomatch z
  refine hx.run A b0 _ σ (tagAt g b .frz) H _ (by omega) G1 RF (hx.mono _ _ _ (fun x zx v g2 H2 G2 e2 r2 => ?_) hw)
  have RP := pP.ok (y := some v) (x := x) (RF.ext G1 e2) (Le.refl g2 H2) (fun j _ c o hc ho => ⟨hc, ho⟩) ⟨v, rfl, r2⟩
  have zx := zx x rfl
  refine hc.run A _ _ _ g2 H2 _ (by omega) G2 RP (hc.mono _ _ _ (fun q zq g3 H3 G3 e3 => ?_) zx)
  have e13 : Ext (tagAt g b .frz) H g3 H3 := e2.trans G2 e3
  have cont : ∀ {g4 : Gh} {B : Nat}, B ≤ b0 + (cx + (cc + (c1 + c2) + c3)) - c3 → Le g H g4 H3 → We.Imp (⟨fun γ' => w3 γ' ⟨Wt P A (b0 + (cx + (cc + (c1 + c2) + c3))) g H ks' D.nx, Wr P A (b0 + (cx + (cc + (c1 + c2) + c3))) r D.rt, Wt P A (b0 + (cx + (cc + (c1 + c2) + c3))) g H kb D.bk, Wt P A (b0 + (cx + (cc + (c1 + c2) + c3))) g H kb D.ct⟩, Wr P A (b0 + (cx + (cc + (c1 + c2) + c3))) r D.rt, Wt P A (b0 + (cx + (cc + (c1 + c2) + c3))) g H kb D.bk, Wt P A (b0 + (cx + (cc + (c1 + c2) + c3))) g H kb D.ct⟩ : We ks1 r kb)
      ⟨Wt P A B g4 H3 ks1 (t3 D), Wr P A B r D.rt, Wt P A B g4 H3 kb D.bk, Wt P A B g4 H3 kb D.ct⟩ := fun {g4 B} hB l4 => by
    refine ⟨fun x zx σ' g' H' G' l' R' => ?_, fun _ h v g' H' G' => h v g' H' (G'.up (by omega)), fun _ h => Wt.of (by omega) l4 h, fun _ h => Wt.of (by omega) l4 h⟩
    exact h3.run A _ x σ' g' H' D (by omega) G' R' (h3.mono x _ _ (We.of (by omega) (l4.trans l')) zx)
  cases q with
  | false =>
    exact h2.run A _ _ _ g3 H3 { D with nx := t3 D } (by omega) G3 (RP.ext G2 e3) (h2.mono _ _ _ (cont (by omega) (l2.trans (e13.le G1))) zq)
  | true =>
    obtain ⟨kb1, kb2⟩ := e13 b _ k2
    have kb3 : g3 b = .frz := kb1.trans tagAt_same
    have kb4 : H3 b = some (.lst vs) := kb2 (by rw [tagAt_same]; simp)
    have l5 : Le g H (tagAt g3 b (.own (0 + n))) H3 := by
      refine ⟨fun d u hd => ?_, fun d hd => ?_⟩
      · obtain ⟨hd1, hd2⟩ := fz_some.mp hd
        have ne : d ≠ b := fun z => by
          subst z
          rw [k2] at hd1
          cases hd1
          rcases hd2 with hd2 | hd2
          · cases hd2
          · rw [k1] at hd2
            cases hd2
        obtain ⟨m1, m2⟩ := fz_some.mp ((l2.trans (e13.le G1)).fz _ _ hd)
        exact fz_some.mpr ⟨m1, by rw [tagAt_ne ne]; exact m2⟩
      · have ne : d ≠ b := fun z => by
          subst z
          rw [k1] at hd
          cases hd
        rw [tagAt_ne ne]
        exact (l2.trans (e13.le G1)).tk d hd
    have lx : Lx g H (tagAt g3 b (.own (0 + n))) H3 := ⟨l5, fun i d u hd hu => by
      by_cases q : d = b
      · subst q
        rw [k1] at hd
        rw [k2] at hu
        cases hu
        cases hd
        exact ⟨tagAt_same, kb4⟩
      · obtain ⟨m1, m2⟩ := e13 d u hu
        rw [tagAt_ne q] at m1 m2 ⊢
        exact ⟨m1.trans hd, m2 (by rw [hd]; simp)⟩⟩
    have RU := pU.ok (y := some v) (x := ()) (R.st lx) (Le.refl _ _) (fun j _ c o hc ho => ⟨hc, ho⟩) trivial
    exact h1.run A _ _ _ _ H3 { D with nx := t3 D } (by omega) (G3.retag (t := .own (0 + n)) h0 kb4 (by rw [kb3]; simp) fun z => nomatch z) RU (h1.mono _ _ _ (cont (by omega) l5) zq)
end DL
namespace Lk71
open PySem PySem.Spec PyProof.Rows L2 DL
def topS (i : Nat) : Stmt := PySem.Challenge.pw_pleatpunch_k71_ring_foldings.main.body.getD i (.Pass ⟨0, 0, 0, 0⟩)
/-! ### the draw -/
abbrev s__law_ladle : Stmt := topS 21
abbrev N__law_ladle : List Str := ["crock", "wide", "drop", "mixed"]
theorem sc__law_ladle : FnScope N__law_ladle ["crock", "wide"] (defScope s__law_ladle) := ⟨rfl, rfl, rfl, by decide +kernel, rfl, by decide +kernel, by decide +kernel⟩
def TkG (b : Nat) (o : HO) : Prop := ∃ x y z : Int, o = .lst [.int x, .int y, .int z] ∧ 0 ≤ y ∧ y < 2 ^ 200 ∧ 0 ≤ z ∧ z ≤ b
def P : TokP := ⟨TkG, (fun b xs ⟨x, y, z, e, _⟩ => by cases e), (fun {b b' o} h ⟨x, y, z, e, h1, h2, h3, h4⟩ => ⟨x, y, z, e, h1, h2, h3, by omega⟩), 2 ^ 4000⟩
def w__law_ladle (K : PySem.W.Frag) : TupV [vT, vF K Int] → (Int → Prop) → Prop := fun γ Q => ∃ n : Int, n = γ.2.1 ∧ (1 ≤ n ∧ n < 1073741824) ∧ ∀ r : Int, 0 ≤ r → r < n → Q r
theorem pm__law_ladle (K : PySem.W.Frag) : Pm P [vT, vF K Int] (rF K Int) (w__law_ladle K) := ⟨fun γ Q Q' h ⟨n, e, h1, h2⟩ => ⟨n, e, h1, fun r a b => h r (h2 r a b)⟩⟩
abbrev sp__law_ladle (K : PySem.W.Frag) : Sp := SpOf P [vT, vF K Int] (rF K Int) 1 (w__law_ladle K)

/-! ### _law_crock -/
abbrev s__law_crock : Stmt := topS 20
abbrev N__law_crock : List Str := ["script", "k", "piece"]
theorem sc__law_crock : FnScope N__law_crock ["script", "k"] (defScope s__law_crock) := ⟨rfl, rfl, rfl, by decide +kernel, rfl, by decide +kernel, by decide +kernel⟩
def cd__law_crock (K : PySem.W.Frag) : Cd P [kF K Scr, kF K Int, kU] [kF K Scr, kF K Int, kF K Int] (rO K Int) := ⟨_, _, _,
  (as_seq (as_set (vk := vF K Int) (ae_int (i := 0)) (Put.z.s.s))
  (as_seq (as_if (at_v (ae_lt (ae_var (Acc.z.s)) (ae_lenScr (ae_var (Acc.z)))))
  (as_seq (as_set (vk := vF K Int) (ae_ixScr (ae_var (Acc.z)) (ae_var (Acc.z.s))) (Put.z.s.s))
  (as_nil (ks' := [kF K Scr, kF K Int, kF K Int]) (Wk.k (Wk.k (Wk.k Wk.n)))))
  (as_nil (ks' := [kF K Scr, kF K Int, kF K Int]) (Wk.k (Wk.k (Wk.k Wk.n)))))
  (as_ret (ks' := [kF K Scr, kF K Int, kF K Int]) (ae_lst (ax_cons (ae_max2 (ae_int (i := 0)) (ae_sub (ae_abs (ae_var (Acc.z.s.s))) (ae_pow (ae_int (i := 10)) (ae_int (i := 18))))) (ax_cons (ae_add (ae_mulA (ae_mod (ae_var (Acc.z.s.s)) (ae_add (ae_pow (ae_int (i := 10)) (ae_int (i := 37))) (ae_int (i := 43)))) (ae_int (i := 64))) (ae_var (Acc.z.s))) (ax_cons (ae_int (i := 0)) ax_nil)))))))⟩
def w__law_crock (K : PySem.W.Frag) : TupV [(vF K Scr), (vF K Int)] → ((rO K Int).T → Prop) → Prop := wDef (ks := [kF K Scr, kF K Int, kU]) (Ini.c (Ini.c (Ini.u Ini.n))) (cd__law_crock K).w
theorem pm__law_crock (K : PySem.W.Frag) : Pm P [(vF K Scr), (vF K Int)] (rO K Int) (w__law_crock K) := pm_def (i := (Ini.c (Ini.c (Ini.u Ini.n)))) (cd__law_crock K).ok
abbrev sp__law_crock (K : PySem.W.Frag) : Sp := SpOf P [(vF K Scr), (vF K Int)] (rO K Int) (cd__law_crock K).c (w__law_crock K)
/-! ### _law_walked -/
abbrev s__law_walked : Stmt := topS 22
abbrev N__law_walked : List Str := ["size", "bends", "spots", "spot", "way", "k"]
theorem sc__law_walked : FnScope N__law_walked ["size", "bends"] (defScope s__law_walked) := ⟨rfl, rfl, rfl, by decide +kernel, rfl, by decide +kernel, by decide +kernel⟩
def cd__law_walked (K : PySem.W.Frag) : Cd P [kF K Int, kF K (List Int), kU, kU, kU, kU] [kF K Int, kF K (List Int), kF K (List Int), kF K Int, kF K Int, kU] (rF K (T3 (List Int) Int Int)) := ⟨_, _, _,
  (as_seq (as_par3O (α := Int) (k2 := vF K Int) (k3 := vF K Int) (ae_lst (ax_nil (α := Int))) (ae_int (i := 0)) (ae_int (i := 1)) (Put.z.s.s) (Put.z.s.s.s) (Put.z.s.s.s.s))
  (as_seq (as_for (ai_range1 (ae_var (Acc.z))) (Wk.k (Wk.k (Wk.k (Wk.k (Wk.k (Wk.k Wk.n)))))) (ag_name (K := K) (α := Int) (Put.z.s.s.s.s.s))
  (as_seq (as_append (Acc.z.s.s) (Put.z.s.s) (ae_var (Acc.z.s.s.s)))
  (as_seq (as_if (at_v (ae_inI (ae_var (Acc.z.s.s.s.s.s)) (ae_var (Acc.z.s))))
  (as_seq (as_set (vk := vF K Int) (ae_sub (ae_int (i := 0)) (ae_var (Acc.z.s.s.s.s))) (Put.z.s.s.s.s))
  (as_nil (ks' := [kF K Int, kF K (List Int), kO K Int, kF K Int, kF K Int, kF K Int]) (Wk.k (Wk.k (Wk.k (Wk.k (Wk.k (Wk.k Wk.n))))))))
  (as_seq (as_set (vk := vF K Int) (ae_add (ae_var (Acc.z.s.s.s)) (ae_var (Acc.z.s.s.s.s))) (Put.z.s.s.s))
  (as_nil (ks' := [kF K Int, kF K (List Int), kO K Int, kF K Int, kF K Int, kF K Int]) (Wk.k (Wk.k (Wk.k (Wk.k (Wk.k (Wk.k Wk.n)))))))))
  (as_nil (ks' := [kF K Int, kF K (List Int), kO K Int, kF K Int, kF K Int, kU]) (Wk.k (Wk.k (Wk.k (Wk.k (Wk.k (Wk.d Wk.n))))))))))
  (as_frz (Acc.z.s.s) (Put.z.s.s) (as_ret (ks' := [kF K Int, kF K (List Int), kF K (List Int), kF K Int, kF K Int, kU]) (ae_tri (aa_cons (ae_var (Acc.z.s.s)) (aa_cons (ae_var (Acc.z.s.s.s)) (aa_cons (ae_var (Acc.z.s.s.s.s)) aa_nil))))))))⟩
def w__law_walked (K : PySem.W.Frag) : TupV [(vF K Int), (vF K (List Int))] → ((rF K (T3 (List Int) Int Int)).T → Prop) → Prop := wDef (ks := [kF K Int, kF K (List Int), kU, kU, kU, kU]) (Ini.c (Ini.c (Ini.u (Ini.u (Ini.u (Ini.u Ini.n)))))) (cd__law_walked K).w
theorem pm__law_walked (K : PySem.W.Frag) : Pm P [(vF K Int), (vF K (List Int))] (rF K (T3 (List Int) Int Int)) (w__law_walked K) := pm_def (i := (Ini.c (Ini.c (Ini.u (Ini.u (Ini.u (Ini.u Ini.n))))))) (cd__law_walked K).ok
abbrev sp__law_walked (K : PySem.W.Frag) : Sp := SpOf P [(vF K Int), (vF K (List Int))] (rF K (T3 (List Int) Int Int)) (cd__law_walked K).c (w__law_walked K)
/-! ### laid -/
abbrev s_laid : Stmt := topS 16
abbrev N_laid : List Str := ["many", "folds", "found", "way", "bent", "cell"]
theorem sc_laid : FnScope N_laid ["many", "folds"] (defScope s_laid) := ⟨rfl, rfl, rfl, by decide +kernel, rfl, by decide +kernel, by decide +kernel⟩
def cd_laid (K : PySem.W.Frag) : Cd P [kF K Int, kF K (List Int), kU, kU, kU, kU] [kF K Int, kF K (List Int), kF K (List Int), kF K Int, kF K SI, kU] (rTI K) := ⟨_, _, _,
  (as_seq (as_own (α := Int) (ae_lst (ax_cons (ae_int (i := 0)) ax_nil)) (Put.z.s.s))
  (as_seq (as_set (vk := vF K Int) (ae_int (i := 1)) (Put.z.s.s.s))
  (as_seq (as_set (vk := vF K SI) (ae_setI (ae_var (Acc.z.s))) (Put.z.s.s.s.s))
  (as_seq (as_for (ai_range1 (ae_var (Acc.z))) (Wk.k (Wk.k (Wk.k (Wk.k (Wk.k (Wk.k Wk.n)))))) (ag_name (K := K) (α := Int) (Put.z.s.s.s.s.s))
  (as_seq (as_if (at_v (ae_inSI (ae_var (Acc.z.s.s.s.s.s)) (ae_var (Acc.z.s.s.s.s))))
  (as_seq (as_set (vk := vF K Int) (ae_neg (ae_var (Acc.z.s.s.s))) (Put.z.s.s.s))
  (as_seq (as_append (Acc.z.s.s) (Put.z.s.s) (ae_bor (Bor.v (Bor.v (Bor.o (Bor.v (Bor.v (Bor.v Bor.n)))))) (ae_ix (ae_var (Acc.z.s.s)) (ae_neg (ae_int (i := 1))))))
  (as_nil (ks' := [kF K Int, kF K (List Int), kO K Int, kF K Int, kF K SI, kF K Int]) (Wk.k (Wk.k (Wk.k (Wk.k (Wk.k (Wk.k Wk.n)))))))))
  (as_seq (as_append (Acc.z.s.s) (Put.z.s.s) (ae_bor (Bor.v (Bor.v (Bor.o (Bor.v (Bor.v (Bor.v Bor.n)))))) (ae_add (ae_ix (ae_var (Acc.z.s.s)) (ae_neg (ae_int (i := 1)))) (ae_var (Acc.z.s.s.s)))))
  (as_nil (ks' := [kF K Int, kF K (List Int), kO K Int, kF K Int, kF K SI, kF K Int]) (Wk.k (Wk.k (Wk.k (Wk.k (Wk.k (Wk.k Wk.n)))))))))
  (as_nil (ks' := [kF K Int, kF K (List Int), kO K Int, kF K Int, kF K SI, kU]) (Wk.k (Wk.k (Wk.k (Wk.k (Wk.k (Wk.d Wk.n)))))))))
  (as_frz (Acc.z.s.s) (Put.z.s.s) (as_ret (ks' := [kF K Int, kF K (List Int), kF K (List Int), kF K Int, kF K SI, kU]) (ae_triO (ae_slice (ae_var (Acc.z.s.s)) ap_none (ap_some (K := K) (ae_neg (ae_int (i := 1))))) (ae_ix (ae_var (Acc.z.s.s)) (ae_neg (ae_int (i := 1)))) (ae_var (Acc.z.s.s.s)))))))))⟩
def w_laid (K : PySem.W.Frag) : TupV [(vF K Int), (vF K (List Int))] → ((rTI K).T → Prop) → Prop := wDef (ks := [kF K Int, kF K (List Int), kU, kU, kU, kU]) (Ini.c (Ini.c (Ini.u (Ini.u (Ini.u (Ini.u Ini.n)))))) (cd_laid K).w
theorem pm_laid (K : PySem.W.Frag) : Pm P [(vF K Int), (vF K (List Int))] (rTI K) (w_laid K) := pm_def (i := (Ini.c (Ini.c (Ini.u (Ini.u (Ini.u (Ini.u Ini.n))))))) (cd_laid K).ok
abbrev sp_laid (K : PySem.W.Frag) : Sp := SpOf P [(vF K Int), (vF K (List Int))] (rTI K) (cd_laid K).c (w_laid K)
/-! ### is_size -/
abbrev s_is_size : Stmt := topS 14
abbrev N_is_size : List Str := ["many"]
theorem sc_is_size : FnScope N_is_size ["many"] (defScope s_is_size) := ⟨rfl, rfl, rfl, by decide +kernel, rfl, by decide +kernel, by decide +kernel⟩
def cd_is_size (K : PySem.W.Frag) : Cd P [kF K Int] [kF K Int] (rF K Bool) := ⟨_, _, _,
  (as_ret (ks' := [kF K Int]) (ae_andB (ae_isi is_int_ok (ae_toD (ae_var (Acc.z)))) (ae_andB (ae_notB (ae_isi is_bool_ok (ae_toD (ae_var (Acc.z))))) (ae_andB (ae_chain (p := fun i j => decide (i ≤ j)) (q := fun i j => decide (i ≤ j)) (ae_int (i := 2)) (ae_var (Acc.z)) (ae_int (i := 200))) (ae_eqI (ae_mod (ae_var (Acc.z)) (ae_int (i := 2))) (ae_int (i := 0)))))))⟩
def w_is_size (K : PySem.W.Frag) : TupV [(vF K Int)] → ((rF K Bool).T → Prop) → Prop := wDef (ks := [kF K Int]) (Ini.c Ini.n) (cd_is_size K).w
theorem pm_is_size (K : PySem.W.Frag) : Pm P [(vF K Int)] (rF K Bool) (w_is_size K) := pm_def (i := (Ini.c Ini.n)) (cd_is_size K).ok
abbrev sp_is_size (K : PySem.W.Frag) : Sp := SpOf P [(vF K Int)] (rF K Bool) (cd_is_size K).c (w_is_size K)
/-! ### is_rising -/
abbrev s_is_rising : Stmt := topS 15
abbrev N_is_rising : List Str := ["numbers", "many", "one", "other", "number"]
theorem sc_is_rising : FnScope N_is_rising ["numbers", "many"] (defScope s_is_rising) := ⟨rfl, rfl, rfl, by decide +kernel, rfl, by decide +kernel, by decide +kernel⟩
def cd_is_rising (K : PySem.W.Frag) : Cd P [kF K (List Int), kF K Int, kU, kU, kU] [kF K (List Int), kF K Int, kU, kU, kU] (rF K Bool) := ⟨_, _, _,
  (as_seq (as_if (at_not (at_b (ae_all (ae_frz (ae_lc (ai_list (ae_var (Acc.z))) (Wp.c (Put.z.s.s.s.s) Wp.n) (ag_name (K := K) (α := Int) (Put.z.s.s.s.s)) (by decide) at_yes (ae_andB (ae_isi is_int_ok (ae_toD (ae_var (Acc.z.s.s.s.s)))) (ae_chain (p := fun i j => decide (i ≤ j)) (q := fun i j => decide (i < j)) (ae_int (i := 0)) (ae_var (Acc.z.s.s.s.s)) (ae_var (Acc.z.s)))))))))
  (as_ret (ks' := [kF K (List Int), kF K Int, kU, kU, kU]) (ae_bl (b := false)))
  (as_nil (ks' := [kF K (List Int), kF K Int, kU, kU, kU]) (Wk.k (Wk.k (Wk.k (Wk.k (Wk.k Wk.n)))))))
  (as_ret (ks' := [kF K (List Int), kF K Int, kU, kU, kU]) (ae_all (ae_frz (ae_lc (ai_zip (ae_var (Acc.z)) (ae_frz (ae_slice (ae_var (Acc.z)) (ap_some (K := K) (ae_int (i := 1))) ap_none))) (Wp.c (Put.z.s.s) (Wp.c (Put.z.s.s.s) Wp.n)) (ag_two (ag_name (K := K) (α := Int) (Put.z.s.s)) (ag_name (K := K) (α := Int) (Put.z.s.s.s))) (by decide) at_yes (ae_lt (ae_var (Acc.z.s.s)) (ae_var (Acc.z.s.s.s))))))))⟩
def w_is_rising (K : PySem.W.Frag) : TupV [(vF K (List Int)), (vF K Int)] → ((rF K Bool).T → Prop) → Prop := wDef (ks := [kF K (List Int), kF K Int, kU, kU, kU]) (Ini.c (Ini.c (Ini.u (Ini.u (Ini.u Ini.n))))) (cd_is_rising K).w
theorem pm_is_rising (K : PySem.W.Frag) : Pm P [(vF K (List Int)), (vF K Int)] (rF K Bool) (w_is_rising K) := pm_def (i := (Ini.c (Ini.c (Ini.u (Ini.u (Ini.u Ini.n)))))) (cd_is_rising K).ok
abbrev sp_is_rising (K : PySem.W.Frag) : Sp := SpOf P [(vF K (List Int)), (vF K Int)] (rF K Bool) (cd_is_rising K).c (w_is_rising K)
/-! ### is_ring_folding -/
abbrev s_is_ring_folding : Stmt := topS 17
abbrev N_is_ring_folding : List Str := ["many", "folds", "found", "place", "way"]
theorem sc_is_ring_folding : FnScope N_is_ring_folding ["many", "folds"] (defScope s_is_ring_folding) := ⟨rfl, rfl, rfl, by decide +kernel, rfl, by decide +kernel, by decide +kernel⟩
def cd_is_ring_folding (K : PySem.W.Frag) : Cd P [kF K Int, kF K (List Int), kU, kU, kU] [kF K Int, kF K (List Int), kF K (List Int), kF K Int, kF K Int] (rF K Bool) := ⟨_, _, _,
  (as_seq (as_if (at_or (at_not (at_b (ae_call (c := (cd_is_size K).c) (pm_is_size K) (aa_cons (ae_var (Acc.z)) aa_nil)))) (at_not (at_b (ae_call (c := (cd_is_rising K).c) (pm_is_rising K) (aa_cons (ae_var (Acc.z.s)) (aa_cons (ae_var (Acc.z)) aa_nil))))))
  (as_ret (ks' := [kF K Int, kF K (List Int), kU, kU, kU]) (ae_bl (b := false)))
  (as_nil (ks' := [kF K Int, kF K (List Int), kU, kU, kU]) (Wk.k (Wk.k (Wk.k (Wk.k (Wk.k Wk.n)))))))
  (as_seq (as_asg (α := (T3 (List Int) Int Int)) (ae_frzTI (ae_call (c := (cd_laid K).c) (pm_laid K) (aa_cons (ae_var (Acc.z)) (aa_cons (ae_var (Acc.z.s)) aa_nil)))) (ag_three (ag_name (K := K) (α := (List Int)) (Put.z.s.s)) (ag_name (K := K) (α := Int) (Put.z.s.s.s)) (ag_name (K := K) (α := Int) (Put.z.s.s.s.s))))
  (as_ret (ks' := [kF K Int, kF K (List Int), kF K (List Int), kF K Int, kF K Int]) (ae_andB (ae_eqI (ae_var (Acc.z.s.s.s)) (ae_int (i := 0))) (ae_eqI (ae_var (Acc.z.s.s.s.s)) (ae_int (i := 1)))))))⟩
def w_is_ring_folding (K : PySem.W.Frag) : TupV [(vF K Int), (vF K (List Int))] → ((rF K Bool).T → Prop) → Prop := wDef (ks := [kF K Int, kF K (List Int), kU, kU, kU]) (Ini.c (Ini.c (Ini.u (Ini.u (Ini.u Ini.n))))) (cd_is_ring_folding K).w
theorem pm_is_ring_folding (K : PySem.W.Frag) : Pm P [(vF K Int), (vF K (List Int))] (rF K Bool) (w_is_ring_folding K) := pm_def (i := (Ini.c (Ini.c (Ini.u (Ini.u (Ini.u Ini.n)))))) (cd_is_ring_folding K).ok
abbrev sp_is_ring_folding (K : PySem.W.Frag) : Sp := SpOf P [(vF K Int), (vF K (List Int))] (rF K Bool) (cd_is_ring_folding K).c (w_is_ring_folding K)
/-! ### ring_places -/
abbrev s_ring_places : Stmt := topS 18
abbrev N_ring_places : List Str := ["many", "folds"]
theorem sc_ring_places : FnScope N_ring_places ["many", "folds"] (defScope s_ring_places) := ⟨rfl, rfl, rfl, by decide +kernel, rfl, by decide +kernel, by decide +kernel⟩
def cd_ring_places (K : PySem.W.Frag) : Cd P [kF K Int, kF K (List Int)] [kF K Int, kF K (List Int)] (rO K Int) := ⟨_, _, _,
  (as_seq (as_if (at_not (at_b (ae_call (c := (cd_is_ring_folding K).c) (pm_is_ring_folding K) (aa_cons (ae_var (Acc.z)) (aa_cons (ae_var (Acc.z.s)) aa_nil)))))
  (as_never (ks' := [kF K Int, kF K (List Int)]))
  (as_nil (ks' := [kF K Int, kF K (List Int)]) (Wk.k (Wk.k Wk.n))))
  (as_ret (ks' := [kF K Int, kF K (List Int)]) (ae_t1TI (ae_call (c := (cd_laid K).c) (pm_laid K) (aa_cons (ae_var (Acc.z)) (aa_cons (ae_var (Acc.z.s)) aa_nil))))))⟩
def w_ring_places (K : PySem.W.Frag) : TupV [(vF K Int), (vF K (List Int))] → ((rO K Int).T → Prop) → Prop := wDef (ks := [kF K Int, kF K (List Int)]) (Ini.c (Ini.c Ini.n)) (cd_ring_places K).w
theorem pm_ring_places (K : PySem.W.Frag) : Pm P [(vF K Int), (vF K (List Int))] (rO K Int) (w_ring_places K) := pm_def (i := (Ini.c (Ini.c Ini.n))) (cd_ring_places K).ok
abbrev sp_ring_places (K : PySem.W.Frag) : Sp := SpOf P [(vF K Int), (vF K (List Int))] (rO K Int) (cd_ring_places K).c (w_ring_places K)
/-- what the text's class NoFolds is -/
structure Fe (K : PySem.W.Frag) (mg : Str → Option Value) where
  C : Addr
  gC : mg "NoFolds" = some (.ref C)
  xC : PySem.W.excIn K C [.type "ValueError", .type "Exception", .type "BaseException", .type "object"] "ValueError.__new__" = true
  kC : PySem.W.keepIn K (.ref C) = true
  bC : PySem.W.subIn K (.ref C) (.type "BaseException") = some true
  tC : PySem.W.typeIn K (.ref C) = some (.type "type")
/-- what the other classes are -/
structure Fo (K : PySem.W.Frag) (mg : Str → Option Value) (C : Addr) where
  c_NoCell : Addr
  g_NoCell : mg "NoCell" = some (.ref c_NoCell)
  c_NoList : Addr
  g_NoList : mg "NoList" = some (.ref c_NoList)
  c_NoMark : Addr
  g_NoMark : mg "NoMark" = some (.ref c_NoMark)
  c_NoPlace : Addr
  g_NoPlace : mg "NoPlace" = some (.ref c_NoPlace)
  c_NoPlan : Addr
  g_NoPlan : mg "NoPlan" = some (.ref c_NoPlan)
  c_NoText : Addr
  g_NoText : mg "NoText" = some (.ref c_NoText)
  c_NoWish : Addr
  g_NoWish : mg "NoWish" = some (.ref c_NoWish)
  c_TooMany : Addr
  g_TooMany : mg "TooMany" = some (.ref c_TooMany)
  c_Torn : Addr
  g_Torn : mg "Torn" = some (.ref c_Torn)
  c_Whole : Addr
  g_Whole : mg "Whole" = some (.ref c_Whole)
  odd : PySem.W.kitAny K (.ref C) [.ref c_NoCell, .ref c_NoList, .ref c_NoMark, .ref c_NoPlace, .ref c_NoPlan, .ref c_NoText, .ref c_NoWish, .ref c_TooMany, .ref c_Torn, .ref c_Whole] = some false
  slf : PySem.W.kitOne K (.ref C) (.ref C) = some true
  val : PySem.W.kitOne K (.ref C) (.type "ValueError") = some true
  own : PySem.W.exmOne K (.ref C) (.ref C) = some true
  ec : ExcC K C
  hit : PySem.W.exmAny K (.ref C) [.ref C, .ref c_NoList, .ref c_NoWish, .ref c_NoPlace, .ref c_NoCell, .ref c_NoText] = some true
abbrev s__law_no_places : Stmt := topS 25
abbrev N__law_no_places : List Str := ["size", "bends", "caught", "e"]
theorem sc__law_no_places : FnScope N__law_no_places ["size", "bends"] (defScope s__law_no_places) := ⟨rfl, rfl, rfl, by decide +kernel, rfl, by decide +kernel, by decide +kernel⟩
abbrev bad2 (K : PySem.W.Frag) : TupV [vF K Int, vF K (List Int)] → Prop := fun γ => w_is_ring_folding K γ fun b => b = false
def cdR_ring_places (K : PySem.W.Frag) (C : Addr) : CdX P (fun _ => .ref C) [kF K Int, kF K (List Int)] [kF K Int, kF K (List Int)] (rF K Unit) := ⟨_, _, _,
  (asx_seq (asx_if (at_not (at_b (ae_call (c := (cd_is_ring_folding K).c) (pm_is_ring_folding K) (aa_cons (ae_var (Acc.z)) (aa_cons (ae_var (Acc.z.s)) aa_nil)))))
  (asx_raise (ks' := [kF K Int, kF K (List Int)]) "NoFolds")
  (asx_of (as_nil (ks' := [kF K Int, kF K (List Int)]) (Wk.k (Wk.k Wk.n)))))
  (asx_of (as_dead (ks' := [kF K Int, kF K (List Int)]))))⟩
def cP (K : PySem.W.Frag) : Nat := (cdR_ring_places K 0).c
local macro_rules | `(tactic| walk_at "dl") => `(tactic| dsimp only [wDef, wDefU, Ini.c, Ini.u, Ini.n, Acc.z, Acc.s, Put.z, Put.s, Wk.k, Wk.n, Wk.d, Wk.i, Bor.o, Bor.v, Bor.u, Bor.n, Bor.d, Bor.e, Bor.p, Bor.a, Bor.fa, Acc.fa, Acc.kk, Bor.kk, Unb.k, Unb.q, Unb.n, Unb.u, Unb.d, Unb.t, Unb.f, Unb.o, wDefM, IniM.c, IniM.u, IniM.n, Cv.o, Cv.a, Fgt.n, Fgt.d, Fgt.u, Fgt.v, Fgt.k, Fgt.p, Fgt.j, Fgt.q, FA.z, FA.s, FP.z, FP.s, FP.n, wDefB2, wDefBJ, AO.n, AO.k, AO.a, Wp.c, Wp.n, wV, wC, w2, w2c, wAnd, wOr, wNot])
theorem refuses (K : PySem.W.Frag) (C : Addr) (γ : TupV [vF K Int, vF K (List Int)]) (h : bad2 K γ) (X : Str → Prop) (hX : X "NoFolds") (E : We [kF K Int, kF K (List Int)] (rF K Unit) []) : (cdR_ring_places K C).w γ E X := by
  obtain ⟨many, folds, u⟩ := γ
  cases u
  delta cdR_ring_places
  walk_at "dl"
  refine (pm_is_ring_folding K).mono _ _ _ (fun b e => ?_) h
  subst e
  exact ite_t (fun _ => hX) fun z => nomatch z
structure Cw where
  c : Nat
def cd__law_no_places (K : PySem.W.Frag) : Cw := ⟨cP K⟩
def w__law_no_places (K : PySem.W.Frag) : TupV [vF K Int, vF K (List Int)] → ((rF K Bool).T → Prop) → Prop := fun γ Q => bad2 K γ ∧ Q true
theorem pm__law_no_places (K : PySem.W.Frag) : Pm P [vF K Int, vF K (List Int)] (rF K Bool) (w__law_no_places K) := ⟨fun γ Q Q' h ⟨a, d⟩ => ⟨a, h _ d⟩⟩
abbrev sp__law_no_places (K : PySem.W.Frag) : Sp := SpOf P [vF K Int, vF K (List Int)] (rF K Bool) (cd__law_no_places K).c (w__law_no_places K)

/-! ### _law_judged -/
abbrev s__law_judged : Stmt := topS 26
abbrev N__law_judged : List Str := ["size", "bends", "spots", "spot", "way", "due", "told"]
theorem sc__law_judged : FnScope N__law_judged ["size", "bends"] (defScope s__law_judged) := ⟨rfl, rfl, rfl, by decide +kernel, rfl, by decide +kernel, by decide +kernel⟩
def cb__law_judged_1 (K : PySem.W.Frag) : Cb P [kF K Int, kF K (List Int), kF K (List Int), kF K Int, kF K Int, kF K Bool, kU] [kF K Int, kF K (List Int), kF K (List Int), kF K Int, kF K Int, kF K Bool, kF K (List Int)] (rF K Bool) [] := ⟨_, _, _,
  (as_seq (as_own (α := Int) (ae_call (c := (cd_ring_places K).c) (pm_ring_places K) (aa_cons (ae_var (Acc.z)) (aa_cons (ae_var (Acc.z.s)) aa_nil))) (Put.z.s.s.s.s.s.s))
  (as_seq (as_if (at_bor (Bor.v (Bor.v (Bor.v (Bor.v (Bor.v (Bor.v (Bor.o Bor.n))))))) (at_v (ae_neS (ae_repr (ae_toD (ae_var (Acc.z.s.s.s.s.s.s)))) (ae_repr (ae_toD (ae_var (Acc.z.s.s)))))))
  (as_ret (ks' := [kF K Int, kF K (List Int), kF K (List Int), kF K Int, kF K Int, kF K Bool, kO K Int]) (ae_bl (b := false)))
  (as_nil (ks' := [kF K Int, kF K (List Int), kF K (List Int), kF K Int, kF K Int, kF K Bool, kO K Int]) (Wk.k (Wk.k (Wk.k (Wk.k (Wk.k (Wk.k (Wk.k Wk.n)))))))))
  (as_seq (as_append (Acc.z.s.s.s.s.s.s) (Put.z.s.s.s.s.s.s) (ae_int (i := 7)))
  (as_frz (Acc.z.s.s.s.s.s.s) (Put.z.s.s.s.s.s.s) (as_ret (ks' := [kF K Int, kF K (List Int), kF K (List Int), kF K Int, kF K Int, kF K Bool, kF K (List Int)]) (ae_eqD (ae_toD (ae_frz (ae_callN (n := 0) (m := 2) (gV := fun us ws => pick (us ++ ws) [1, 0]) (c := (cd_ring_places K).c) (ps := [(vF K Int), (vF K (List Int))]) (p1 := []) (p2 := [(vF K (List Int)), (vF K Int)]) (gT := fun x y => (y.2.1, y.1, ())) (pm_ring_places K) aa_nil (aa_cons (ae_var (Acc.z.s)) (aa_cons (ae_var (Acc.z)) aa_nil)) rfl rfl (by intro x y vs zs g H h1 h2; cases (show _ = [] from h1); obtain ⟨b0v, _, rfl, b0r, b1v, _, rfl, b1r, rfl⟩ := h2; exact ⟨_, _, rfl, b1r, _, _, rfl, b0r, rfl⟩)))) (ae_toD (ae_var (Acc.z.s.s)))))))))⟩
def cb__law_judged_2 (K : PySem.W.Frag) : Cb P [kF K Int, kF K (List Int), kF K (List Int), kF K Int, kF K Int, kF K Bool, kU] [kF K Int, kF K (List Int), kF K (List Int), kF K Int, kF K Int, kF K Bool, kF K (List Int)] (rF K Bool) [] := ⟨_, _, _,
  (as_seq (as_if (at_not (at_b (ae_var (Acc.z.s.s.s.s.s))))
  (as_ret (ks' := [kF K Int, kF K (List Int), kF K (List Int), kF K Int, kF K Int, kF K Bool, kU]) (ae_call (c := (cd__law_no_places K).c) (pm__law_no_places K) (aa_cons (ae_var (Acc.z)) (aa_cons (ae_var (Acc.z.s)) aa_nil))))
  (as_nil (ks' := [kF K Int, kF K (List Int), kF K (List Int), kF K Int, kF K Int, kF K Bool, kU]) (Wk.k (Wk.k (Wk.k (Wk.k (Wk.k (Wk.k (Wk.k Wk.n)))))))))
  (cb__law_judged_1 K).ok)⟩
def cd__law_judged (K : PySem.W.Frag) : Cd P [kF K Int, kF K (List Int), kU, kU, kU, kU, kU] [kF K Int, kF K (List Int), kF K (List Int), kF K Int, kF K Int, kF K Bool, kF K (List Int)] (rF K Bool) := ⟨_, _, _,
  (as_seq (as_asg (α := (T3 (List Int) Int Int)) (ae_call (c := (cd__law_walked K).c) (pm__law_walked K) (aa_cons (ae_var (Acc.z)) (aa_cons (ae_var (Acc.z.s)) aa_nil))) (ag_three (ag_name (K := K) (α := (List Int)) (Put.z.s.s)) (ag_name (K := K) (α := Int) (Put.z.s.s.s)) (ag_name (K := K) (α := Int) (Put.z.s.s.s.s))))
  (as_seq (as_set (vk := vF K Bool) (ae_eqD (ae_toD (ae_pair (aa_cons (ae_var (Acc.z.s.s.s)) (aa_cons (ae_var (Acc.z.s.s.s.s)) aa_nil)))) (ae_toD (ae_pair (aa_cons (ae_int (i := 0)) (aa_cons (ae_int (i := 1)) aa_nil))))) (Put.z.s.s.s.s.s))
  (as_seq (as_if (at_v (ae_neS (ae_repr (ae_lstD (ax_cons (ae_toD (ae_call (c := (cd_is_ring_folding K).c) (pm_is_ring_folding K) (aa_cons (ae_var (Acc.z)) (aa_cons (ae_var (Acc.z.s)) aa_nil)))) (ax_cons (ae_toD (ae_callN (n := 0) (m := 2) (gV := fun us ws => pick (us ++ ws) [1, 0]) (c := (cd_is_ring_folding K).c) (ps := [(vF K Int), (vF K (List Int))]) (p1 := []) (p2 := [(vF K (List Int)), (vF K Int)]) (gT := fun x y => (y.2.1, y.1, ())) (pm_is_ring_folding K) aa_nil (aa_cons (ae_var (Acc.z.s)) (aa_cons (ae_var (Acc.z)) aa_nil)) rfl rfl (by intro x y vs zs g H h1 h2; cases (show _ = [] from h1); obtain ⟨b0v, _, rfl, b0r, b1v, _, rfl, b1r, rfl⟩ := h2; exact ⟨_, _, rfl, b1r, _, _, rfl, b0r, rfl⟩))) ax_nil)))) (ae_repr (ae_lstD (ax_cons (ae_toD (ae_var (Acc.z.s.s.s.s.s))) (ax_cons (ae_toD (ae_var (Acc.z.s.s.s.s.s))) ax_nil))))))
  (as_ret (ks' := [kF K Int, kF K (List Int), kF K (List Int), kF K Int, kF K Int, kF K Bool, kU]) (ae_bl (b := false)))
  (as_nil (ks' := [kF K Int, kF K (List Int), kF K (List Int), kF K Int, kF K Int, kF K Bool, kU]) (Wk.k (Wk.k (Wk.k (Wk.k (Wk.k (Wk.k (Wk.k Wk.n)))))))))
  (cb__law_judged_2 K).ok)))⟩
def w__law_judged (K : PySem.W.Frag) : TupV [(vF K Int), (vF K (List Int))] → ((rF K Bool).T → Prop) → Prop := wDef (ks := [kF K Int, kF K (List Int), kU, kU, kU, kU, kU]) (Ini.c (Ini.c (Ini.u (Ini.u (Ini.u (Ini.u (Ini.u Ini.n))))))) (cd__law_judged K).w
theorem pm__law_judged (K : PySem.W.Frag) : Pm P [(vF K Int), (vF K (List Int))] (rF K Bool) (w__law_judged K) := pm_def (i := (Ini.c (Ini.c (Ini.u (Ini.u (Ini.u (Ini.u (Ini.u Ini.n)))))))) (cd__law_judged K).ok
abbrev sp__law_judged (K : PySem.W.Frag) : Sp := SpOf P [(vF K Int), (vF K (List Int))] (rF K Bool) (cd__law_judged K).c (w__law_judged K)
/-! ### _law_all_right -/
abbrev s__law_all_right : Stmt := topS 27
abbrev N__law_all_right : List Str := ["size", "found", "k", "row"]
theorem sc__law_all_right : FnScope N__law_all_right ["size"] (defScope s__law_all_right) := ⟨rfl, rfl, rfl, by decide +kernel, rfl, by decide +kernel, by decide +kernel⟩
def cd__law_all_right (K : PySem.W.Frag) : Cd P [kF K Int, kU, kU, kU] [kF K Int, kF K (List (List Int)), kU, kU] (rF K Bool) := ⟨_, _, _,
  (as_seq (as_set (vk := vF K (List (List Int))) (ae_frz (ae_lst (ax_cons (ae_frz (ae_lst (ax_nil (α := Int)))) ax_nil))) (Put.z.s))
  (as_seq (as_for (ai_range1 (ae_var (Acc.z))) (Wk.k (Wk.k (Wk.k (Wk.k Wk.n)))) (ag_name (K := K) (α := Int) (Put.z.s.s))
  (as_seq (as_set (vk := vF K (List (List Int))) (ae_frz (ae_cat (ae_var (Acc.z.s)) (ae_frz (ae_lc (ai_list (ae_var (Acc.z.s))) (Wp.c (Put.z.s.s.s) Wp.n) (ag_name (K := K) (α := (List Int)) (Put.z.s.s.s)) (by decide) at_yes (ae_frz (ae_cat (ae_var (Acc.z.s.s.s)) (ae_frz (ae_lst (ax_cons (ae_var (Acc.z.s.s)) ax_nil))))))))) (Put.z.s))
  (as_nil (ks' := [kF K Int, kF K (List (List Int)), kU, kU]) (Wk.k (Wk.k (Wk.d (Wk.k Wk.n)))))))
  (as_ret (ks' := [kF K Int, kF K (List (List Int)), kU, kU]) (ae_eqD (ae_toD (ae_frz (ae_lc (ai_list (ae_var (Acc.z.s))) (Wp.c (Put.z.s.s.s) Wp.n) (ag_name (K := K) (α := (List Int)) (Put.z.s.s.s)) (by decide) (at_not (at_b (ae_call (c := (cd__law_judged K).c) (pm__law_judged K) (aa_cons (ae_var (Acc.z)) (aa_cons (ae_var (Acc.z.s.s.s)) aa_nil))))) (ae_var (Acc.z.s.s.s))))) (ae_toD (ae_frz (ae_lst (ax_nil (α := (List Int))))))))))⟩
def w__law_all_right (K : PySem.W.Frag) : TupV [(vF K Int)] → ((rF K Bool).T → Prop) → Prop := wDef (ks := [kF K Int, kU, kU, kU]) (Ini.c (Ini.u (Ini.u (Ini.u Ini.n)))) (cd__law_all_right K).w
theorem pm__law_all_right (K : PySem.W.Frag) : Pm P [(vF K Int)] (rF K Bool) (w__law_all_right K) := pm_def (i := (Ini.c (Ini.u (Ini.u (Ini.u Ini.n))))) (cd__law_all_right K).ok
abbrev sp__law_all_right (K : PySem.W.Frag) : Sp := SpOf P [(vF K Int)] (rF K Bool) (cd__law_all_right K).c (w__law_all_right K)
/-! ### _law_size -/
abbrev s__law_size : Stmt := topS 23
abbrev N__law_size : List Str := ["crock", "some"]
theorem sc__law_size : FnScope N__law_size ["crock"] (defScope s__law_size) := ⟨rfl, rfl, rfl, by decide +kernel, rfl, by decide +kernel, by decide +kernel⟩
def cd__law_size (K : PySem.W.Frag) : Cd P [kT, kU] [kT, kF K (List Int)] (rF K Int) := ⟨_, _, _,
  (as_seq (as_set (vk := vF K (List Int)) (ae_frz (ae_lst (ax_cons (ae_add (ae_int (i := 2)) (ae_mulA (ae_int (i := 2)) (ae_call (c := 1) (pm__law_ladle K) (aa_cons (ae_var (Acc.z)) (aa_cons (ae_int (i := 4)) aa_nil))))) (ax_cons (ae_add (ae_int (i := 2)) (ae_mulA (ae_int (i := 2)) (ae_call (c := 1) (pm__law_ladle K) (aa_cons (ae_var (Acc.z)) (aa_cons (ae_int (i := 20)) aa_nil))))) (ax_cons (ae_add (ae_int (i := 2)) (ae_mulA (ae_int (i := 2)) (ae_call (c := 1) (pm__law_ladle K) (aa_cons (ae_var (Acc.z)) (aa_cons (ae_int (i := 100)) aa_nil))))) (ax_cons (ae_int (i := 200)) ax_nil)))))) (Put.z.s))
  (as_ret (ks' := [kT, kF K (List Int)]) (ae_ix (ae_var (Acc.z.s)) (ae_call (c := 1) (pm__law_ladle K) (aa_cons (ae_var (Acc.z)) (aa_cons (ae_int (i := 4)) aa_nil))))))⟩
def w__law_size (K : PySem.W.Frag) : TupV [vT] → ((rF K Int).T → Prop) → Prop := wDef (ks := [kT, kU]) (Ini.c (Ini.u Ini.n)) (cd__law_size K).w
theorem pm__law_size (K : PySem.W.Frag) : Pm P [vT] (rF K Int) (w__law_size K) := pm_def (i := (Ini.c (Ini.u Ini.n))) (cd__law_size K).ok
abbrev sp__law_size (K : PySem.W.Frag) : Sp := SpOf P [vT] (rF K Int) (cd__law_size K).c (w__law_size K)
/-! ### _law_closed -/
abbrev s__law_closed : Stmt := topS 24
abbrev N__law_closed : List Str := ["crock", "size", "left", "some", "k"]
theorem sc__law_closed : FnScope N__law_closed ["crock", "size"] (defScope s__law_closed) := ⟨rfl, rfl, rfl, by decide +kernel, rfl, by decide +kernel, by decide +kernel⟩
def cd__law_closed (K : PySem.W.Frag) : Cd P [kT, kF K Int, kU, kU, kU] [kT, kF K Int, kU, kF K (List Int), kU] (rO K Int) := ⟨_, _, _,
  (as_seq (as_own (α := Int) (ae_cat (ae_frz (ae_rep (ae_frz (ae_lst (ax_cons (ae_int (i := 1)) ax_nil))) (ae_sub (ae_fdiv (ae_var (Acc.z.s)) (ae_int (i := 2))) (ae_int (i := 1))))) (ae_frz (ae_rep (ae_frz (ae_lst (ax_cons (ae_sub (ae_int (i := 0)) (ae_int (i := 1))) ax_nil))) (ae_fdiv (ae_var (Acc.z.s)) (ae_int (i := 2)))))) (Put.z.s.s))
  (as_pick (Acc.z.s.s) (Put.z.s.s) (Put.z.s.s.s) (Put.z.s.s.s) (ae_ix (ae_frz (ae_lst (ax_cons (ae_var (Acc.z.s.s)) (ax_cons (ae_frz (ae_rev (ae_var (Acc.z.s.s)))) (ax_cons (ae_frz (ae_cat (ae_frz (ae_rep (ae_frz (ae_lst (ax_cons (ae_sub (ae_int (i := 0)) (ae_int (i := 1))) (ax_cons (ae_int (i := 1)) ax_nil)))) (ae_sub (ae_fdiv (ae_var (Acc.z.s)) (ae_int (i := 2))) (ae_int (i := 1))))) (ae_frz (ae_lst (ax_cons (ae_sub (ae_int (i := 0)) (ae_int (i := 1))) ax_nil))))) ax_nil))))) (ae_call (c := 1) (pm__law_ladle K) (aa_cons (ae_var (Acc.z)) (aa_cons (ae_int (i := 3)) aa_nil)))) (at_v (ae_eqI (ae_call (c := 1) (pm__law_ladle K) (aa_cons (ae_var (Acc.z)) (aa_cons (ae_int (i := 2)) aa_nil))) (ae_int (i := 0))))
  (as_seq (as_lcPop (ai_range1 (ae_bor (Bor.v (Bor.v (Bor.o (Bor.u (Bor.u Bor.n))))) (ae_len (ae_var (Acc.z.s.s))))) (Wp.c (Put.z.s.s.s.s) Wp.n) (ag_name (K := K) (α := Int) (Put.z.s.s.s.s)) (by decide) (by decide) (ae_bor (Bor.v (Bor.v (Bor.o (Bor.u (Bor.v Bor.n))))) (ae_call (c := 1) (pm__law_ladle K) (aa_cons (ae_var (Acc.z)) (aa_cons (ae_len (ae_var (Acc.z.s.s))) aa_nil)))) (Acc.z.s.s) (Put.z.s.s) (Put.z.s.s.s))
  (as_nil (ks' := [kT, kF K Int, kU, kF K (List Int), kU]) (Wk.k (Wk.k (Wk.d (Wk.k (Wk.k Wk.n)))))))
  (as_nil (ks' := [kT, kF K Int, kU, kF K (List Int), kU]) (Wk.k (Wk.k (Wk.d (Wk.k (Wk.k Wk.n))))))
  (as_seq (as_set (vk := vF K (List Int)) (ae_frz (ae_cat (ae_frz (ae_lst (ax_cons (ae_int (i := 1)) ax_nil))) (ae_var (Acc.z.s.s.s)))) (Put.z.s.s.s))
  (as_ret (ks' := [kT, kF K Int, kU, kF K (List Int), kU]) (ae_lc (ai_range1 (ae_var (Acc.z.s))) (Wp.c (Put.z.s.s.s.s) Wp.n) (ag_name (K := K) (α := Int) (Put.z.s.s.s.s)) (by decide) (at_v (ae_neI (ae_ix (ae_var (Acc.z.s.s.s)) (ae_var (Acc.z.s.s.s.s))) (ae_ix (ae_var (Acc.z.s.s.s)) (ae_mod (ae_add (ae_var (Acc.z.s.s.s.s)) (ae_int (i := 1))) (ae_var (Acc.z.s)))))) (ae_var (Acc.z.s.s.s.s)))))))⟩
def w__law_closed (K : PySem.W.Frag) : TupV [vT, (vF K Int)] → ((rO K Int).T → Prop) → Prop := wDef (ks := [kT, kF K Int, kU, kU, kU]) (Ini.c (Ini.c (Ini.u (Ini.u (Ini.u Ini.n))))) (cd__law_closed K).w
theorem pm__law_closed (K : PySem.W.Frag) : Pm P [vT, (vF K Int)] (rO K Int) (w__law_closed K) := pm_def (i := (Ini.c (Ini.c (Ini.u (Ini.u (Ini.u Ini.n)))))) (cd__law_closed K).ok
abbrev sp__law_closed (K : PySem.W.Frag) : Sp := SpOf P [vT, (vF K Int)] (rO K Int) (cd__law_closed K).c (w__law_closed K)
/-! ### _law_none_right -/
abbrev s__law_none_right : Stmt := topS 28
abbrev N__law_none_right : List Str := ["size", "bends", "some", "others", "row", "wide"]
theorem sc__law_none_right : FnScope N__law_none_right ["size", "bends"] (defScope s__law_none_right) := ⟨rfl, rfl, rfl, by decide +kernel, rfl, by decide +kernel, by decide +kernel⟩
def cb__law_none_right_1 (K : PySem.W.Frag) : Cb P [kF K Int, kF K (List Int), kF K (List (List Int)), kU, kU, kU] [kF K Int, kF K (List Int), kF K (List (List Int)), kF K (List Int), kU, kU] (rF K Bool) [] := ⟨_, _, _,
  (as_seq (as_set (vk := vF K (List Int)) (ae_frz (ae_lst (ax_cons (ae_int (i := 0)) (ax_cons (ae_int (i := 1)) (ax_cons (ae_add (ae_var (Acc.z)) (ae_int (i := 1))) (ax_cons (ae_sub (ae_int (i := 0)) (ae_var (Acc.z))) (ax_cons (ae_int (i := 202)) (ax_cons (ae_int (i := 400)) (ax_cons (ae_pow (ae_int (i := 10)) (ae_int (i := 29))) ax_nil))))))))) (Put.z.s.s.s))
  (as_ret (ks' := [kF K Int, kF K (List Int), kF K (List (List Int)), kF K (List Int), kU, kU]) (ae_eqD (ae_toD (ae_frz (ae_lc (ai_list (ae_var (Acc.z.s.s.s))) (Wp.c (Put.z.s.s.s.s.s) Wp.n) (ag_name (K := K) (α := Int) (Put.z.s.s.s.s.s)) (by decide) (at_or (at_b (ae_call (c := (cd_is_ring_folding K).c) (pm_is_ring_folding K) (aa_cons (ae_var (Acc.z.s.s.s.s.s)) (aa_cons (ae_var (Acc.z.s)) aa_nil)))) (at_not (at_b (ae_call (c := (cd__law_no_places K).c) (pm__law_no_places K) (aa_cons (ae_var (Acc.z.s.s.s.s.s)) (aa_cons (ae_var (Acc.z.s)) aa_nil)))))) (ae_var (Acc.z.s.s.s.s.s))))) (ae_toD (ae_frz (ae_lst (ax_nil (α := Int))))))))⟩
def cd__law_none_right (K : PySem.W.Frag) : Cd P [kF K Int, kF K (List Int), kU, kU, kU, kU] [kF K Int, kF K (List Int), kF K (List (List Int)), kF K (List Int), kU, kU] (rF K Bool) := ⟨_, _, _,
  (as_seq (as_set (vk := vF K (List (List Int))) (ae_frz (ae_lst (ax_cons (ae_frz (ae_rev (ae_var (Acc.z.s)))) (ax_cons (ae_frz (ae_cat (ae_var (Acc.z.s)) (ae_frz (ae_slice (ae_var (Acc.z.s)) (ap_some (K := K) (ae_neg (ae_int (i := 1)))) ap_none)))) (ax_cons (ae_frz (ae_cat (ae_var (Acc.z.s)) (ae_frz (ae_lst (ax_cons (ae_var (Acc.z)) ax_nil))))) (ax_cons (ae_frz (ae_cat (ae_frz (ae_lst (ax_cons (ae_sub (ae_int (i := 0)) (ae_int (i := 1))) ax_nil))) (ae_var (Acc.z.s)))) (ax_cons (ae_frz (ae_cat (ae_var (Acc.z.s)) (ae_frz (ae_lst (ax_cons (ae_pow (ae_int (i := 10)) (ae_int (i := 29))) ax_nil))))) ax_nil))))))) (Put.z.s.s))
  (as_seq (as_set (vk := vF K (List (List Int))) (ae_frz (ae_lc (ai_list (ae_var (Acc.z.s.s))) (Wp.c (Put.z.s.s.s.s) Wp.n) (ag_name (K := K) (α := (List Int)) (Put.z.s.s.s.s)) (by decide) (at_v (ae_neD (ae_toD (ae_var (Acc.z.s.s.s.s))) (ae_toD (ae_var (Acc.z.s))))) (ae_var (Acc.z.s.s.s.s)))) (Put.z.s.s))
  (as_seq (as_if (at_v (ae_neD (ae_toD (ae_frz (ae_lc (ai_list (ae_var (Acc.z.s.s))) (Wp.c (Put.z.s.s.s.s) Wp.n) (ag_name (K := K) (α := (List Int)) (Put.z.s.s.s.s)) (by decide) (at_or (at_b (ae_call (c := (cd_is_ring_folding K).c) (pm_is_ring_folding K) (aa_cons (ae_var (Acc.z)) (aa_cons (ae_var (Acc.z.s.s.s.s)) aa_nil)))) (at_not (at_b (ae_call (c := (cd__law_no_places K).c) (pm__law_no_places K) (aa_cons (ae_var (Acc.z)) (aa_cons (ae_var (Acc.z.s.s.s.s)) aa_nil)))))) (ae_var (Acc.z.s.s.s.s))))) (ae_toD (ae_frz (ae_lst (ax_nil (α := (List Int))))))))
  (as_ret (ks' := [kF K Int, kF K (List Int), kF K (List (List Int)), kU, kU, kU]) (ae_bl (b := false)))
  (as_nil (ks' := [kF K Int, kF K (List Int), kF K (List (List Int)), kU, kU, kU]) (Wk.k (Wk.k (Wk.k (Wk.k (Wk.k (Wk.k Wk.n))))))))
  (cb__law_none_right_1 K).ok)))⟩
def w__law_none_right (K : PySem.W.Frag) : TupV [(vF K Int), (vF K (List Int))] → ((rF K Bool).T → Prop) → Prop := wDef (ks := [kF K Int, kF K (List Int), kU, kU, kU, kU]) (Ini.c (Ini.c (Ini.u (Ini.u (Ini.u (Ini.u Ini.n)))))) (cd__law_none_right K).w
theorem pm__law_none_right (K : PySem.W.Frag) : Pm P [(vF K Int), (vF K (List Int))] (rF K Bool) (w__law_none_right K) := pm_def (i := (Ini.c (Ini.c (Ini.u (Ini.u (Ini.u (Ini.u Ini.n))))))) (cd__law_none_right K).ok
abbrev sp__law_none_right (K : PySem.W.Frag) : Sp := SpOf P [(vF K Int), (vF K (List Int))] (rF K Bool) (cd__law_none_right K).c (w__law_none_right K)
/-! ### _law_right -/
abbrev s__law_right : Stmt := topS 29
abbrev N__law_right : List Str := ["crock", "size", "bends", "kept", "k", "near", "row", "one"]
theorem sc__law_right : FnScope N__law_right ["crock"] (defScope s__law_right) := ⟨rfl, rfl, rfl, by decide +kernel, rfl, by decide +kernel, by decide +kernel⟩
def cd__law_right (K : PySem.W.Frag) : Cd P [kT, kU, kU, kU, kU, kU, kU, kU] [kT, kF K Int, kF K (List Int), kF K (List Int), kF K Int, kF K (List (List Int)), kU, kU] (rF K Bool) := ⟨_, _, _,
  (as_seq (as_set (vk := vF K Int) (ae_call (c := (cd__law_size K).c) (pm__law_size K) (aa_cons (ae_var (Acc.z)) aa_nil)) (Put.z.s))
  (as_seq (as_set (vk := vF K (List Int)) (ae_frz (ae_call (c := (cd__law_closed K).c) (pm__law_closed K) (aa_cons (ae_var (Acc.z)) (aa_cons (ae_var (Acc.z.s)) aa_nil)))) (Put.z.s.s))
  (as_seq (as_set (vk := vF K (List Int)) (ae_frz (ae_copy (ae_var (Acc.z.s.s)))) (Put.z.s.s.s))
  (as_seq (as_set (vk := vF K Int) (ae_call (c := 1) (pm__law_ladle K) (aa_cons (ae_var (Acc.z)) (aa_cons (ae_var (Acc.z.s)) aa_nil))) (Put.z.s.s.s.s))
  (as_seq (as_own (α := (List Int)) (ae_lst (ax_cons (ae_frz (ae_sortedSet (ae_frz (ae_cat (ae_var (Acc.z.s.s)) (ae_frz (ae_lst (ax_cons (ae_var (Acc.z.s.s.s.s)) ax_nil))))))) (ax_cons (ae_frz (ae_lc (ai_list (ae_var (Acc.z.s.s))) (Wp.c (Put.z.s.s.s.s.s.s.s) Wp.n) (ag_name (K := K) (α := Int) (Put.z.s.s.s.s.s.s.s)) (by decide) (at_v (ae_neI (ae_var (Acc.z.s.s.s.s.s.s.s)) (ae_var (Acc.z.s.s.s.s)))) (ae_var (Acc.z.s.s.s.s.s.s.s)))) (ax_cons (ae_var (Acc.z.s.s)) (ax_cons (ae_frz (ae_listRg1 (ae_var (Acc.z.s)))) ax_nil))))) (Put.z.s.s.s.s.s))
  (as_seq (as_append (Acc.z.s.s.s.s.s) (Put.z.s.s.s.s.s) (ae_frz (ae_lc (ai_range1 (ae_var (Acc.z.s))) (Wp.c (Put.z.s.s.s.s.s.s.s) Wp.n) (ag_name (K := K) (α := Int) (Put.z.s.s.s.s.s.s.s)) (by decide) (at_v (ae_eqI (ae_call (c := 1) (pm__law_ladle K) (aa_cons (ae_var (Acc.z)) (aa_cons (ae_int (i := 2)) aa_nil))) (ae_int (i := 0)))) (ae_var (Acc.z.s.s.s.s.s.s.s)))))
  (as_frz (Acc.z.s.s.s.s.s) (Put.z.s.s.s.s.s) (as_seq (as_for (ai_list (ae_var (Acc.z.s.s.s.s.s))) (Wk.k (Wk.k (Wk.k (Wk.k (Wk.k (Wk.k (Wk.k (Wk.k Wk.n)))))))) (ag_name (K := K) (α := (List Int)) (Put.z.s.s.s.s.s.s))
  (as_seq (as_if (at_not (at_b (ae_call (c := (cd__law_judged K).c) (pm__law_judged K) (aa_cons (ae_var (Acc.z.s)) (aa_cons (ae_var (Acc.z.s.s.s.s.s.s)) aa_nil)))))
  (as_ret (ks' := [kT, kF K Int, kF K (List Int), kF K (List Int), kF K Int, kF K (List (List Int)), kF K (List Int), kU]) (ae_bl (b := false)))
  (as_nil (ks' := [kT, kF K Int, kF K (List Int), kF K (List Int), kF K Int, kF K (List (List Int)), kF K (List Int), kU]) (Wk.k (Wk.k (Wk.k (Wk.k (Wk.k (Wk.k (Wk.k (Wk.k Wk.n))))))))))
  (as_nil (ks' := [kT, kF K Int, kF K (List Int), kF K (List Int), kF K Int, kF K (List (List Int)), kU, kU]) (Wk.k (Wk.k (Wk.k (Wk.k (Wk.k (Wk.k (Wk.d (Wk.k Wk.n)))))))))))
  (as_ret (ks' := [kT, kF K Int, kF K (List Int), kF K (List Int), kF K Int, kF K (List (List Int)), kU, kU]) (ae_andB (ae_eqD (ae_toD (ae_var (Acc.z.s.s))) (ae_toD (ae_var (Acc.z.s.s.s)))) (ae_orB (ae_lt (ae_len (ae_var (Acc.z.s.s))) (ae_int (i := 2))) (ae_call (c := (cd__law_none_right K).c) (pm__law_none_right K) (aa_cons (ae_var (Acc.z.s)) (aa_cons (ae_var (Acc.z.s.s)) aa_nil))))))))))))))⟩
def w__law_right (K : PySem.W.Frag) : TupV [vT] → ((rF K Bool).T → Prop) → Prop := wDef (ks := [kT, kU, kU, kU, kU, kU, kU, kU]) (Ini.c (Ini.u (Ini.u (Ini.u (Ini.u (Ini.u (Ini.u (Ini.u Ini.n)))))))) (cd__law_right K).w
theorem pm__law_right (K : PySem.W.Frag) : Pm P [vT] (rF K Bool) (w__law_right K) := pm_def (i := (Ini.c (Ini.u (Ini.u (Ini.u (Ini.u (Ini.u (Ini.u (Ini.u Ini.n))))))))) (cd__law_right K).ok
abbrev sp__law_right (K : PySem.W.Frag) : Sp := SpOf P [vT] (rF K Bool) (cd__law_right K).c (w__law_right K)
/-! ### law -/
abbrev s_law : Stmt := topS 30
abbrev N_law : List Str := ["script", "k", "crock", "turn"]
theorem sc_law : FnScope N_law ["script"] (defScope s_law) := ⟨rfl, rfl, rfl, by decide +kernel, rfl, by decide +kernel, by decide +kernel⟩
def cd_law (K : PySem.W.Frag) : Cd P [kF K Scr, kU, kU, kU] [kF K Scr, kU, kU, kU] (rF K Bool) := ⟨_, _, _,
  (as_seq (as_for (ai_range1 (ae_max2 (ae_int (i := 1)) (ae_min2 (ae_int (i := 4)) (ae_lenScr (ae_var (Acc.z)))))) (Wk.k (Wk.k (Wk.k (Wk.k Wk.n)))) (ag_name (K := K) (α := Int) (Put.z.s))
  (as_seq (as_tok (ae_call (c := (cd__law_crock K).c) (pm__law_crock K) (aa_cons (ae_var (Acc.z)) (aa_cons (ae_var (Acc.z.s)) aa_nil))) (Put.z.s.s))
  (as_seq (as_if (at_not (at_b (ae_call (c := (cd__law_all_right K).c) (pm__law_all_right K) (aa_cons (ae_add (ae_int (i := 2)) (ae_mulA (ae_int (i := 2)) (ae_call (c := 1) (pm__law_ladle K) (aa_cons (ae_var (Acc.z.s.s)) (aa_cons (ae_int (i := 4)) aa_nil))))) aa_nil))))
  (as_ret (ks' := [kF K Scr, kF K Int, kT, kU]) (ae_bl (b := false)))
  (as_nil (ks' := [kF K Scr, kF K Int, kT, kU]) (Wk.k (Wk.k (Wk.k (Wk.k Wk.n))))))
  (as_seq (as_for (ai_range1 (ae_int (i := 3))) (Wk.k (Wk.k (Wk.k (Wk.k Wk.n)))) (ag_name (K := K) (α := Int) (Put.z.s.s.s))
  (as_seq (as_if (at_not (at_b (ae_call (c := (cd__law_right K).c) (pm__law_right K) (aa_cons (ae_var (Acc.z.s.s)) aa_nil))))
  (as_ret (ks' := [kF K Scr, kF K Int, kT, kF K Int]) (ae_bl (b := false)))
  (as_nil (ks' := [kF K Scr, kF K Int, kT, kF K Int]) (Wk.k (Wk.k (Wk.k (Wk.k Wk.n))))))
  (as_nil (ks' := [kF K Scr, kF K Int, kT, kU]) (Wk.k (Wk.k (Wk.k (Wk.d Wk.n)))))))
  (as_nil (ks' := [kF K Scr, kU, kU, kU]) (Wk.k (Wk.d (Wk.d (Wk.k Wk.n)))))))))
  (as_ret (ks' := [kF K Scr, kU, kU, kU]) (ae_bl (b := true))))⟩
def w_law (K : PySem.W.Frag) : TupV [(vF K Scr)] → ((rF K Bool).T → Prop) → Prop := wDef (ks := [kF K Scr, kU, kU, kU]) (Ini.c (Ini.u (Ini.u (Ini.u Ini.n)))) (cd_law K).w
theorem pm_law (K : PySem.W.Frag) : Pm P [(vF K Scr)] (rF K Bool) (w_law K) := pm_def (i := (Ini.c (Ini.u (Ini.u (Ini.u Ini.n))))) (cd_law K).ok
abbrev sp_law (K : PySem.W.Frag) : Sp := SpOf P [(vF K Scr)] (rF K Bool) (cd_law K).c (w_law K)
structure Fx (K : PySem.W.Frag) (mg : Str → Option Value) where
  a__law_ladle : Addr
  d__law_ladle : FuncData
  F__law_ladle : Fun K "_law_ladle" "_law_ladle" s__law_ladle a__law_ladle d__law_ladle
  B__law_ladle : Binds K d__law_ladle ["crock", "wide"] []
  g__law_ladle : mg "_law_ladle" = some (.ref a__law_ladle)
  a__law_crock : Addr
  d__law_crock : FuncData
  F__law_crock : Fun K "_law_crock" "_law_crock" s__law_crock a__law_crock d__law_crock
  B__law_crock : Binds K d__law_crock ["script", "k"] []
  g__law_crock : mg "_law_crock" = some (.ref a__law_crock)
  a__law_walked : Addr
  d__law_walked : FuncData
  F__law_walked : Fun K "_law_walked" "_law_walked" s__law_walked a__law_walked d__law_walked
  B__law_walked : Binds K d__law_walked ["size", "bends"] []
  g__law_walked : mg "_law_walked" = some (.ref a__law_walked)
  a_laid : Addr
  d_laid : FuncData
  F_laid : Fun K "laid" "laid" s_laid a_laid d_laid
  B_laid : Binds K d_laid ["many", "folds"] []
  g_laid : mg "laid" = some (.ref a_laid)
  a_is_size : Addr
  d_is_size : FuncData
  F_is_size : Fun K "is_size" "is_size" s_is_size a_is_size d_is_size
  B_is_size : Binds K d_is_size ["many"] []
  g_is_size : mg "is_size" = some (.ref a_is_size)
  a_is_rising : Addr
  d_is_rising : FuncData
  F_is_rising : Fun K "is_rising" "is_rising" s_is_rising a_is_rising d_is_rising
  B_is_rising : Binds K d_is_rising ["numbers", "many"] []
  g_is_rising : mg "is_rising" = some (.ref a_is_rising)
  a_is_ring_folding : Addr
  d_is_ring_folding : FuncData
  F_is_ring_folding : Fun K "is_ring_folding" "is_ring_folding" s_is_ring_folding a_is_ring_folding d_is_ring_folding
  B_is_ring_folding : Binds K d_is_ring_folding ["many", "folds"] []
  g_is_ring_folding : mg "is_ring_folding" = some (.ref a_is_ring_folding)
  a_ring_places : Addr
  d_ring_places : FuncData
  F_ring_places : Fun K "ring_places" "ring_places" s_ring_places a_ring_places d_ring_places
  B_ring_places : Binds K d_ring_places ["many", "folds"] []
  g_ring_places : mg "ring_places" = some (.ref a_ring_places)
  a__law_no_places : Addr
  d__law_no_places : FuncData
  F__law_no_places : Fun K "_law_no_places" "_law_no_places" s__law_no_places a__law_no_places d__law_no_places
  B__law_no_places : Binds K d__law_no_places ["size", "bends"] []
  g__law_no_places : mg "_law_no_places" = some (.ref a__law_no_places)
  a__law_judged : Addr
  d__law_judged : FuncData
  F__law_judged : Fun K "_law_judged" "_law_judged" s__law_judged a__law_judged d__law_judged
  B__law_judged : Binds K d__law_judged ["size", "bends"] []
  g__law_judged : mg "_law_judged" = some (.ref a__law_judged)
  a__law_all_right : Addr
  d__law_all_right : FuncData
  F__law_all_right : Fun K "_law_all_right" "_law_all_right" s__law_all_right a__law_all_right d__law_all_right
  B__law_all_right : Binds K d__law_all_right ["size"] []
  g__law_all_right : mg "_law_all_right" = some (.ref a__law_all_right)
  a__law_size : Addr
  d__law_size : FuncData
  F__law_size : Fun K "_law_size" "_law_size" s__law_size a__law_size d__law_size
  B__law_size : Binds K d__law_size ["crock"] []
  g__law_size : mg "_law_size" = some (.ref a__law_size)
  a__law_closed : Addr
  d__law_closed : FuncData
  F__law_closed : Fun K "_law_closed" "_law_closed" s__law_closed a__law_closed d__law_closed
  B__law_closed : Binds K d__law_closed ["crock", "size"] []
  g__law_closed : mg "_law_closed" = some (.ref a__law_closed)
  a__law_none_right : Addr
  d__law_none_right : FuncData
  F__law_none_right : Fun K "_law_none_right" "_law_none_right" s__law_none_right a__law_none_right d__law_none_right
  B__law_none_right : Binds K d__law_none_right ["size", "bends"] []
  g__law_none_right : mg "_law_none_right" = some (.ref a__law_none_right)
  a__law_right : Addr
  d__law_right : FuncData
  F__law_right : Fun K "_law_right" "_law_right" s__law_right a__law_right d__law_right
  B__law_right : Binds K d__law_right ["crock"] []
  g__law_right : mg "_law_right" = some (.ref a__law_right)
  a_law : Addr
  d_law : FuncData
  F_law : Fun K "law" "law" s_law a_law d_law
  B_law : Binds K d_law ["script"] []
  g_law : mg "law" = some (.ref a_law)
  kw_is_ring_folding_0_folds_many : KBn K d_is_ring_folding ["many", "folds"] 0 ["folds", "many"] (fun us ws => pick (us ++ ws) [1, 0]) (fun us ws => pick (us ++ ws) [1, 0])
  kw_ring_places_0_folds_many : KBn K d_ring_places ["many", "folds"] 0 ["folds", "many"] (fun us ws => pick (us ++ ws) [1, 0]) (fun us ws => pick (us ++ ws) [1, 0])
  b_ValueError : mg "ValueError" = none
  b_abs : mg "abs" = none
  b_all : mg "all" = none
  b_bool : mg "bool" = none
  b_int : mg "int" = none
  b_isinstance : mg "isinstance" = none
  b_len : mg "len" = none
  b_list : mg "list" = none
  b_max : mg "max" = none
  b_min : mg "min" = none
  b_range : mg "range" = none
  b_repr : mg "repr" = none
  b_set : mg "set" = none
  b_sorted : mg "sorted" = none
  b_zip : mg "zip" = none
  c_MOST_CELLS : ∃ t, mg "MOST_CELLS" = some (.int 200 t)
  Y : Fe K mg
  Z : Fo K mg Y.C
theorem ok__law_ladle {Pg : Program} {w : World} {K : PySem.W.Frag} {mg : Str → Option Value} {base : Heap} (X : Fx K mg) : FnG Pg w K mg base 1 X.a__law_ladle X.d__law_ladle ["crock", "wide"] (sp__law_ladle K) := by
  refine okG X.F__law_ladle sc__law_ladle (fun vs H Q E h => sp_len h) fun cdv A outer s H vs Q E hr h => ⟨_,
    pss_cons (ps_if (pt_cmpR op_gt (pe_ix ix_list (pv 0) pe_int (fun _ _ => rfl)) pe_int (nomark _))
      (pss_cons (ps_set (i := 2) sc__law_ladle.nd rfl (.inl rfl) (pe_op op_mod (pe_ix ix_list (pv 0) pe_int (fun _ _ => rfl)) (pv 1)))
        (pss_cons (ps_asg (pe_op op_fdiv (pe_ix ix_list (pv 0) pe_int (fun _ _ => rfl)) (pv 1)) (pg_sub (pv 0) pe_int set_list))
          (pss_one (ps_ret (pv 2))))) pss_nil)
      (pss_cons (ps_asg (pe_op op_add (pe_ix ix_list (pv 0) pe_int (fun _ _ => rfl)) pe_int) (pg_sub (pv 0) pe_int set_list))
      (pss_cons (ps_set (i := 3) sc__law_ladle.nd rfl (.inl rfl) (pe_op op_mod (pe_op op_powW (pe_op op_add (pe_ix ix_list (pv 0) pe_int (fun _ _ => rfl)) (pe_op op_mul pe_int (pe_ix ix_list (pv 0) pe_int (fun _ _ => rfl)))) pe_int) (pe_op op_add (pe_op op_pow pe_int pe_int) pe_int)))
      (pss_cons (ps_set (i := 3) sc__law_ladle.nd rfl (.inl rfl) (pe_op op_mod (pe_op op_powW (pe_op op_add (pv 3) (pe_op op_mul pe_int (pe_ix ix_list (pv 0) pe_int (fun _ _ => rfl)))) pe_int) (pe_op op_add (pe_op op_pow pe_int pe_int) pe_int)))
      (pss_one (ps_ret (pe_op op_mod (pe_op op_fdiv (pv 3) pe_int) (pv 1))))))), ?_⟩
  obtain ⟨A0, b0, ⟨u, n, u2⟩, rfl, hB, G, rv, ⟨n', rfl, ⟨hn1, hn2⟩, q⟩⟩ := h
  obtain ⟨v0, r0, rfl, ⟨p, rfl, hp⟩, v1, r1, rfl, h1, rfl⟩ := rv
  have h1 : v1 = .int n' := h1
  subst h1
  obtain ⟨o, ho, x, y, z, rfl, hy0, hy1, hz0, hz1⟩ := G.tok p hp
  have hBv : P.B = 2 ^ 4000 := rfl
  rw [hBv] at hB
  have hz2 : z + 1 ≤ (2 : Int) ^ 4000 := by
    have : ((b0 + 1 : Nat) : Int) ≤ ((2 ^ 4000 : Nat) : Int) := Int.ofNat_le.mpr hB
    push_cast at this
    omega
  -- what is wanted at each end: one cell of the token written
  have fin : ∀ (x' y' z' : Int) (r : Int), 0 ≤ y' → y' < 2 ^ 200 → 0 ≤ z' → z' ≤ z + 1 → 0 ≤ r → r < n' → Q (.int r) (upd A0.H0 p (.lst [.int x', .int y', .int z'])) := fun x' y' z' r a1 a2 a3 a4 a5 a6 => by
    refine q r a5 a6 _ A0.g0 _ ⟨fun b v hb => ?_, fun b hb => ?_, fun b hb => ?_⟩ rfl
    · refine ⟨rfl, fun nt => ?_⟩
      have ne : b ≠ p := fun e => nt (e ▸ hp)
      rw [upd_ne ne]
      exact hb
    · by_cases e : b = p
      · subst e
        exact ⟨_, upd_same, x', y', z', rfl, a1, a2, a3, by omega⟩
      · obtain ⟨o', ho', t'⟩ := G.tok b hb
        exact ⟨o', by rw [upd_ne e]; exact ho', P.up (Nat.le_add_right _ _) t'⟩
    · have ne : b ≠ p := fun e => by
        subst e
        rw [upd_same] at hb
        cases hb
      rw [upd_ne ne] at hb
      exact G.non b hb
  have rd : ∀ {σ : L2.St} {H : Hp} {xs : List V} {j : Int} {v : V} {R : V → Hp → Prop}, σ[0]? = some (some (.ref p)) → H p = some (.lst xs) → atI xs j = some v → R v H → tOp (rIxL K) (tVar 0) (tC (.int j)) σ H R := fun {σ H xs j v R} a b c d => ⟨_, a, p, xs, j, v, rfl, rfl, .inl (.inl b), c, d⟩
  refine rd rfl ho rfl ⟨x, 1, rfl, rfl, _, rfl, ?_⟩
  dsimp only
  by_cases hx : 1 < x
  · rw [if_pos (decide_eq_true hx)]
    refine rd rfl ho rfl ⟨_, rfl, x, n', rfl, rfl, by omega, ?_⟩
    refine rd rfl ho rfl ⟨_, rfl, x, n', rfl, rfl, ⟨by omega, hn2⟩, ?_⟩
    refine ⟨_, rfl, p, _, 0, 0, rfl, rfl, ho, rfl, ?_⟩
    exact ⟨_, rfl, fin (x / n') y z (x % n') hy0 hy1 hz0 (by omega) (Int.emod_nonneg _ (by omega)) (Int.emod_lt_of_pos _ (by omega))⟩
  · rw [if_neg (by rw [decide_eq_true_eq]; exact hx)]
    refine rd rfl ho rfl ⟨z, 1, rfl, rfl, ?_⟩
    refine ⟨_, rfl, p, _, 2, 2, rfl, rfl, ho, rfl, ?_⟩
    have ho2 : upd A0.H0 p (.lst [.int x, .int y, .int (z + 1)]) p = some (.lst [.int x, .int y, .int (z + 1)]) := upd_same
    have pw : ∀ (i : Int) (n : Nat), 0 ≤ i → i < 2 ^ n → 0 < n → n ≤ 40000 → CPowW i 3 ∧ CPowW i 5 := fun i n a b c d => by
      have := bits_of a b c
      have e : (2 : Int) ^ 27 = 134217728 := by decide
      refine ⟨⟨by decide, ?_⟩, ⟨by decide, ?_⟩⟩ <;> (rw [e]; omega)
    have e38 : ((10 : Int) ^ Int.toNat 39 + 3) = 1000000000000000000000000000000000000003 := by decide
    have e37 : ((10 : Int) ^ Int.toNat 36 + 67) = 1000000000000000000000000000000000067 := by decide
    have big : (2 : Int) ^ 4100 = 2 ^ 100 * 2 ^ 4000 := by rw [← Int.pow_add]
    have big2 : (2 : Int) ^ 200 ≤ 2 ^ 4000 := by
      have e : (2 : Int) ^ 4000 = 2 ^ 200 * 2 ^ 3800 := by rw [← Int.pow_add]
      have h1 : (1 : Int) ≤ 2 ^ 3800 := Int.pow_pos (by decide)
      have h2 : (0 : Int) ≤ 2 ^ 200 := Int.le_of_lt (Int.pow_pos (by decide))
      rw [e]
      have := Int.mul_le_mul_of_nonneg_left h1 h2
      omega
    have c100 : (2 : Int) ^ 100 = 1267650600228229401496703205376 := by decide
    have c200 : (2 : Int) ^ 200 = 1606938044258990275541962092341162602522202993782792835301376 := by decide
    generalize (2 : Int) ^ 4000 = M at *
    generalize (2 : Int) ^ 4100 = M2 at *
    have m38 := fun i : Int => Int.emod_lt_of_pos i (show (0 : Int) < 1000000000000000000000000000000000000003 by decide)
    have k38 := fun i : Int => Int.emod_nonneg i (show (1000000000000000000000000000000000000003 : Int) ≠ 0 by decide)
    have P1 : CPowW (y + 32452843 * (z + 1)) 3 := (pw _ 4100 (by omega) (by omega) (by decide) (by decide)).1
    have w2 : ∀ t : Int, ∃ u : Int, u = t ^ Int.toNat 3 := fun t => ⟨_, rfl⟩
    refine rd rfl ho2 rfl ?_
    refine rd rfl ho2 rfl ⟨_, _, rfl, rfl, .inl ⟨by decide, by decide⟩, ⟨_, _, rfl, rfl, ⟨_, _, rfl, rfl, P1, ?_⟩⟩⟩
    refine ⟨_, _, rfl, rfl, ⟨by decide, by decide, by decide⟩, ⟨_, _, rfl, rfl, ⟨_, _, rfl, rfl, ?_, ?_⟩⟩⟩
    · show 0 < ((10 : Int) ^ Int.toNat 39 + 3)
      rw [e38]
      decide
    rw [e38]
    have P2 : ∀ u : Int, CPowW (u % 1000000000000000000000000000000000000003 + 67867979 * (z + 1)) 3 := fun u => (pw _ 4100 (by have := k38 u; omega) (by have := k38 u; have := m38 u; omega) (by decide) (by decide)).1
    refine ⟨_, rfl, rd rfl ho2 rfl ⟨_, _, rfl, rfl, .inl ⟨by decide, by decide⟩, ⟨_, _, rfl, rfl, ⟨_, _, rfl, rfl, P2 _, ?_⟩⟩⟩⟩
    refine ⟨_, _, rfl, rfl, ⟨by decide, by decide, by decide⟩, ⟨_, _, rfl, rfl, ⟨_, _, rfl, rfl, ?_, ?_⟩⟩⟩
    · show 0 < ((10 : Int) ^ Int.toNat 36 + 67)
      rw [e37]
      decide
    rw [e37]
    refine ⟨_, rfl, _, _, rfl, rfl, ⟨by decide, by decide⟩, ⟨_, rfl, _, n', rfl, rfl, by omega, ?_⟩⟩
    exact fin x y (z + 1) _ hy0 hy1 (by omega) (Int.le_refl _) (Int.emod_nonneg _ (by omega)) (Int.emod_lt_of_pos _ (by omega))

theorem ok__law_crock {Pg : Program} {w : World} {K : PySem.W.Frag} {mg : Str → Option Value} {base : Heap} (X : Fx K mg) : FnG Pg w K mg base 1 X.a__law_crock X.d__law_crock ["script", "k"] (sp__law_crock K) := by
  refine okG X.F__law_crock sc__law_crock (fun vs H Q E h => sp_len h) fun cdv A outer s H vs Q E hr h => ⟨(cd__law_crock K).t, ?_, sp_def (N := N__law_crock) (i := (Ini.c (Ini.c (Ini.u Ini.n)))) (cd__law_crock K).ok rfl h⟩
  delta cd__law_crock
  dsimp only
  exact (pss_cons (ps_set (i := 2) sc__law_crock.nd rfl (.inl rfl) pe_int)
  (pss_cons (ps_if (pt_cmpR op_lt (pv 1) (pe_callB (id := "len") call_len (by rfl) X.b_len (by decide +kernel) (pa_cons (pv 0) pa_nil)) (nomark _))
  (pss_cons (ps_set (i := 2) sc__law_crock.nd rfl (.inl rfl) (pe_ix ix_list (pv 0) (pv 1) (fun _ _ => rfl)))
  pss_nil)
  pss_nil)
  (pss_one (ps_ret (pe_lst (pa_cons (pe_callB (id := "max") (call_max2 rfl) (by rfl) X.b_max (by decide +kernel) (pa_cons pe_int (pa_cons (pe_op op_sub (pe_callB (id := "abs") call_abs (by rfl) X.b_abs (by decide +kernel) (pa_cons (pv 2) pa_nil)) (pe_op op_pow pe_int pe_int)) pa_nil))) (pa_cons (pe_op op_add (pe_op op_mulA (pe_op op_mod (pv 2) (pe_op op_add (pe_op op_pow pe_int pe_int) pe_int)) pe_int) (pv 1)) (pa_cons pe_int pa_nil))))))))
theorem ok__law_walked {Pg : Program} {w : World} {K : PySem.W.Frag} {mg : Str → Option Value} {base : Heap} (X : Fx K mg) : FnG Pg w K mg base 1 X.a__law_walked X.d__law_walked ["size", "bends"] (sp__law_walked K) := by
  refine okG X.F__law_walked sc__law_walked (fun vs H Q E h => sp_len h) fun cdv A outer s H vs Q E hr h => ⟨(cd__law_walked K).t, ?_, sp_def (N := N__law_walked) (i := (Ini.c (Ini.c (Ini.u (Ini.u (Ini.u (Ini.u Ini.n))))))) (cd__law_walked K).ok rfl h⟩
  delta cd__law_walked
  dsimp only
  exact (pss_cons (ps_par3 (i := 2) (j := 3) (l := 4) (by rfl) sc__law_walked.nd rfl rfl rfl (by decide) (by decide) (by decide) rfl rfl rfl (pa_cons (pe_lst pa_nil) (pa_cons pe_int (pa_cons pe_int pa_nil))) (by rfl))
  (pss_cons (ps_for PassesOwn.never rfl (pi_range1 (by rfl) X.b_range (pa_cons (pv 0) pa_nil)) (pg_name (i := 5) sc__law_walked.nd rfl (Or.inl rfl) (hf := Or.inl rfl))
  (pss_cons (ps_expr (pe_bm PySem.F.plainAttrs_list PySem.F.slot_list_append PySem.F.type_list_append mt_append (pv 2) (pa_cons (pv 3) pa_nil)))
  (pss_cons (ps_if (pt_cmpR op_in_seq (pv 5) (pv 1) (by rfl))
  (pss_cons (ps_set (i := 4) sc__law_walked.nd rfl (.inl rfl) (pe_op op_sub pe_int (pv 4)))
  pss_nil)
  (pss_cons (ps_set (i := 3) sc__law_walked.nd rfl (.inl rfl) (pe_op op_add (pv 3) (pv 4)))
  pss_nil))
  pss_nil)))
  (pss_one (ps_ret (pe_tup (pa_cons (pv 2) (pa_cons (pv 3) (pa_cons (pv 4) pa_nil))))))))
theorem ok_laid {Pg : Program} {w : World} {K : PySem.W.Frag} {mg : Str → Option Value} {base : Heap} (X : Fx K mg) : FnG Pg w K mg base 1 X.a_laid X.d_laid ["many", "folds"] (sp_laid K) := by
  refine okG X.F_laid sc_laid (fun vs H Q E h => sp_len h) fun cdv A outer s H vs Q E hr h => ⟨(cd_laid K).t, ?_, sp_def (N := N_laid) (i := (Ini.c (Ini.c (Ini.u (Ini.u (Ini.u (Ini.u Ini.n))))))) (cd_laid K).ok rfl h⟩
  delta cd_laid
  dsimp only
  exact (pss_cons (ps_set (i := 2) sc_laid.nd rfl (.inl rfl) (pe_lst (pa_cons pe_int pa_nil)))
  (pss_cons (ps_set (i := 3) sc_laid.nd rfl (.inl rfl) pe_int)
  (pss_cons (ps_set (i := 4) sc_laid.nd rfl (.inl rfl) (pe_setI (by rfl) X.b_set (pv 1)))
  (pss_cons (ps_for PassesOwn.never rfl (pi_range1 (by rfl) X.b_range (pa_cons (pv 0) pa_nil)) (pg_name (i := 5) sc_laid.nd rfl (Or.inl rfl) (hf := Or.inl rfl))
  (pss_cons (ps_if (pt_cmpR op_inSI (pv 5) (pv 4) (by rfl))
  (pss_cons (ps_set (i := 3) sc_laid.nd rfl (.inl rfl) (pe_un un_neg (pv 3)))
  (pss_cons (ps_expr (pe_bm PySem.F.plainAttrs_list PySem.F.slot_list_append PySem.F.type_list_append mt_append (pv 2) (pa_cons (pe_ix ix_list (pv 2) (pe_un un_neg pe_int) (fun _ _ => rfl)) pa_nil)))
  pss_nil))
  (pss_cons (ps_expr (pe_bm PySem.F.plainAttrs_list PySem.F.slot_list_append PySem.F.type_list_append mt_append (pv 2) (pa_cons (pe_op op_add (pe_ix ix_list (pv 2) (pe_un un_neg pe_int) (fun _ _ => rfl)) (pv 3)) pa_nil)))
  pss_nil))
  pss_nil))
  (pss_one (ps_ret (pe_tup (pa_cons (pe_slice sl_list (pv 2) po_none (po_some (pe_un un_neg pe_int))) (pa_cons (pe_ix ix_list (pv 2) (pe_un un_neg pe_int) (fun _ _ => rfl)) (pa_cons (pv 3) pa_nil))))))))))
theorem ok_is_size {Pg : Program} {w : World} {K : PySem.W.Frag} {mg : Str → Option Value} {base : Heap} (X : Fx K mg) : FnG Pg w K mg base 1 X.a_is_size X.d_is_size ["many"] (sp_is_size K) := by
  refine okG X.F_is_size sc_is_size (fun vs H Q E h => sp_len h) fun cdv A outer s H vs Q E hr h => ⟨(cd_is_size K).t, ?_, sp_def (N := N_is_size) (i := (Ini.c Ini.n)) (cd_is_size K).ok rfl h⟩
  delta cd_is_size
  dsimp only
  exact (pss_one (ps_ret (pe_and (pe_callB (id := "isinstance") call_isi (by rfl) X.b_isinstance (by decide +kernel) (pa_cons (pv 0) (pa_cons (pe_bltn (by rfl) X.b_int (by decide +kernel) (v := .ty "int") rfl) pa_nil))) (pe_and (pe_not (pe_callB (id := "isinstance") call_isi (by rfl) X.b_isinstance (by decide +kernel) (pa_cons (pv 0) (pa_cons (pe_bltn (by rfl) X.b_bool (by decide +kernel) (v := .ty "bool") rfl) pa_nil)))) (pe_and (pe_chain op_le op_le pe_int (pv 0) (pe_globI (by rfl) X.c_MOST_CELLS)) (pe_one (pe_cmpR op_eq (pe_op op_mod (pv 0) pe_int) pe_int (nomark _))))))))
theorem ok_is_rising {Pg : Program} {w : World} {K : PySem.W.Frag} {mg : Str → Option Value} {base : Heap} (X : Fx K mg) : FnG Pg w K mg base 1 X.a_is_rising X.d_is_rising ["numbers", "many"] (sp_is_rising K) := by
  refine okG X.F_is_rising sc_is_rising (fun vs H Q E h => sp_len h) fun cdv A outer s H vs Q E hr h => ⟨(cd_is_rising K).t, ?_, sp_def (N := N_is_rising) (i := (Ini.c (Ini.c (Ini.u (Ini.u (Ini.u Ini.n)))))) (cd_is_rising K).ok rfl h⟩
  delta cd_is_rising
  dsimp only
  exact (pss_cons (ps_if (pt_not (pt_val (pe_callB (id := "all") (cr_all rfl) (by rfl) X.b_all (by decide +kernel) (pa_cons (pe_lc (own := [("number", 4)]) (by rfl) sc_is_rising.nd (pi_list (pv 0)) (blkOk_by (own := [("number", 4)]) (N := N_is_rising) (sc := defScope s_is_rising) (by decide +kernel)) (fun _ _ _ _ _ => (pg_name (i := 4) sc_is_rising.nd rfl (Or.inl rfl) (hf := Or.inr rfl))) (fun _ _ _ _ _ => pts_nil) (fun _ _ _ _ _ => (pe_and (pe_callB (id := "isinstance") call_isi (by rfl) X.b_isinstance (by decide +kernel) (pa_cons (pv 4) (pa_cons (pe_bltn (by rfl) X.b_int (by decide +kernel) (v := .ty "int") rfl) pa_nil))) (pe_one (pe_chain op_le op_lt pe_int (pv 4) (pv 1)))))) pa_nil))))
  (pss_one (ps_ret pe_bl))
  pss_nil)
  (pss_one (ps_ret (pe_callB (id := "all") (cr_all rfl) (by rfl) X.b_all (by decide +kernel) (pa_cons (pe_lc (own := [("one", 2), ("other", 3)]) (by rfl) sc_is_rising.nd (pi_zip (by rfl) X.b_zip (pa_cons (pv 0) (pa_cons (pe_slice sl_list (pv 0) (po_some pe_int) po_none) pa_nil))) (blkOk_by (own := [("one", 2), ("other", 3)]) (N := N_is_rising) (sc := defScope s_is_rising) (by decide +kernel)) (fun _ _ _ _ _ => (pg_tup (n := 2) rfl (pgs_cons (pg_name (i := 2) sc_is_rising.nd rfl (Or.inl rfl) (hf := Or.inr rfl)) (pgs_cons (pg_name (i := 3) sc_is_rising.nd rfl (Or.inl rfl) (hf := Or.inr rfl)) pgs_nil)))) (fun _ _ _ _ _ => pts_nil) (fun _ _ _ _ _ => (pe_cmpR op_lt (pv 2) (pv 3) (nomark _)))) pa_nil)))))
theorem ok_is_ring_folding {Pg : Program} {w : World} {K : PySem.W.Frag} {mg : Str → Option Value} {base : Heap} (X : Fx K mg) : FnG Pg w K mg base 2 X.a_is_ring_folding X.d_is_ring_folding ["many", "folds"] (sp_is_ring_folding K) := by
  refine okG X.F_is_ring_folding sc_is_ring_folding (fun vs H Q E h => sp_len h) fun cdv A outer s H vs Q E hr h => ⟨(cd_is_ring_folding K).t, ?_, sp_def (N := N_is_ring_folding) (i := (Ini.c (Ini.c (Ini.u (Ini.u (Ini.u Ini.n)))))) (cd_is_ring_folding K).ok rfl h⟩
  delta cd_is_ring_folding
  dsimp only
  exact (pss_cons (ps_if (PW.pt (pw_or (pt_not (pt_val (pe_callG (ok_is_size X) (hr.mono (by decide)) (by rfl) X.g_is_size X.F_is_size.kp X.B_is_size .nil (pa_cons (pv 0) pa_nil)))) (pw_or1 (pt_not (pt_val (pe_callG (ok_is_rising X) (hr.mono (by decide)) (by rfl) X.g_is_rising X.F_is_rising.kp X.B_is_rising .nil (pa_cons (pv 1) (pa_cons (pv 0) pa_nil))))))))
  (pss_one (ps_ret pe_bl))
  pss_nil)
  (pss_cons (ps_asg (pe_callG (ok_laid X) (hr.mono (by decide)) (by rfl) X.g_laid X.F_laid.kp X.B_laid .nil (pa_cons (pv 0) (pa_cons (pv 1) pa_nil))) (pg_tup (n := 3) rfl (pgs_cons (pg_name (i := 2) sc_is_ring_folding.nd rfl (Or.inl rfl) (hf := Or.inl rfl)) (pgs_cons (pg_name (i := 3) sc_is_ring_folding.nd rfl (Or.inl rfl) (hf := Or.inl rfl)) (pgs_cons (pg_name (i := 4) sc_is_ring_folding.nd rfl (Or.inl rfl) (hf := Or.inl rfl)) pgs_nil)))))
  (pss_one (ps_ret (pe_and (pe_cmpR op_eq (pv 3) pe_int (nomark _)) (pe_one (pe_cmpR op_eq (pv 4) pe_int (nomark _))))))))
theorem ok_ring_places {Pg : Program} {w : World} {K : PySem.W.Frag} {mg : Str → Option Value} {base : Heap} (X : Fx K mg) : FnG Pg w K mg base 3 X.a_ring_places X.d_ring_places ["many", "folds"] (sp_ring_places K) := by
  refine okG X.F_ring_places sc_ring_places (fun vs H Q E h => sp_len h) fun cdv A outer s H vs Q E hr h => ⟨(cd_ring_places K).t, ?_, sp_def (N := N_ring_places) (i := (Ini.c (Ini.c Ini.n))) (cd_ring_places K).ok rfl h⟩
  delta cd_ring_places
  dsimp only
  exact (pss_cons (ps_if (pt_not (pt_val (pe_callG (ok_is_ring_folding X) (hr.mono (by decide)) (by rfl) X.g_is_ring_folding X.F_is_ring_folding.kp X.B_is_ring_folding .nil (pa_cons (pv 0) (pa_cons (pv 1) pa_nil)))))
  (pss_one ps_never)
  pss_nil)
  (pss_one (ps_ret (pe_ix ix_tup (pe_callG (ok_laid X) (hr.mono (by decide)) (by rfl) X.g_laid X.F_laid.kp X.B_laid .nil (pa_cons (pv 0) (pa_cons (pv 1) pa_nil))) pe_int (fun _ _ => rfl)))))
theorem okR_ring_places {Pg : Program} {w : World} {K : PySem.W.Frag} {mg : Str → Option Value} {base : Heap} (X : Fx K mg) (Y : Fe K mg) : FnGX Pg w K mg base 3 X.a_ring_places X.d_ring_places ["many", "folds"] (spRg P K (fun _ => .ref Y.C) [vF K Int, vF K (List Int)] (bad2 K) "NoFolds" (cP K)) := by
  refine okGX X.F_ring_places sc_ring_places (fun vs H Q E h => spRg_len h) fun cdv A outer s H vs Q E hr h => ⟨(cdR_ring_places K Y.C).t E, ?_, ?_⟩
  · delta cdR_ring_places
    dsimp only
    exact (pss_cons (ps_if (pt_not (pt_val (pe_callG (ok_is_ring_folding X) (hr.mono (by decide)) (by rfl) X.g_is_ring_folding X.F_is_ring_folding.kp X.B_is_ring_folding .nil (pa_cons (pv 0) (pa_cons (pv 1) pa_nil)))))
      (pss_one (ps_raiseG rfl takesG PySem.F.excBase_ValueError Y.xC Y.gC Y.kC Y.bC Y.tC (by rfl)))
      pss_nil)
      pss_dead)
  · obtain ⟨A0, b0, γ, eH, hb, G, rv, nw, hx⟩ := h
    exact sp_defUX (N := N_ring_places) (i := (Ini.c (Ini.c Ini.n))) (cdR_ring_places K Y.C).ok rfl ⟨A0, b0, γ, eH, hb, G, rv, refuses K Y.C γ nw _ hx _⟩
theorem ok__law_no_places {Pg : Program} {w : World} {K : PySem.W.Frag} {mg : Str → Option Value} {base : Heap} (X : Fx K mg) : FnG Pg w K mg base 4 X.a__law_no_places X.d__law_no_places ["size", "bends"] (sp__law_no_places K) := by
  refine okG X.F__law_no_places sc__law_no_places (fun vs H Q E h => sp_len h) fun cdv A outer s H vs Q E hr h => ⟨_, pss_cons (ps_set (i := 2) sc__law_no_places.nd rfl (.inl rfl) pe_non) (pss_cons
    (ps_try_keep (i := 3) (cs := [.ref X.Y.C, .ref X.Z.c_NoList, .ref X.Z.c_NoWish, .ref X.Z.c_NoPlace, .ref X.Z.c_NoCell, .ref X.Z.c_NoText]) (tb := fun W => tDrop (tCallAt (spRg P K (fun _ => .ref X.Y.C) [vF K Int, vF K (List Int)] (bad2 K) "NoFolds" (cP K)) [] (fun σ cls d H => W cls d σ H) (tCons (tVar 0) (tCons (tVar 1) tNil))))
      (ts := fun a cls => tAsg (tVar 3) (gName 2))
      rfl rfl sc__law_no_places.nd rfl rfl rfl (fun a pn => ⟨_, _, _, _, rfl, rfl, ⟨by rfl, by decide, .inl X.Y.gC⟩, _, _, _, _, rfl, rfl, ⟨by rfl, by decide, .inl X.Z.g_NoList⟩, _, _, _, _, rfl, rfl, ⟨by rfl, by decide, .inl X.Z.g_NoWish⟩, _, _, _, _, rfl, rfl, ⟨by rfl, by decide, .inl X.Z.g_NoPlace⟩, _, _, _, _, rfl, rfl, ⟨by rfl, by decide, .inl X.Z.g_NoCell⟩, _, _, _, _, rfl, rfl, ⟨by rfl, by decide, .inl X.Z.g_NoText⟩, rfl⟩) (by show 6 ≤ sizeLine; decide)
      (fun W pn xe tk _ => pss_one (ps_expr (pe_callGXat (okR_ring_places X X.Y) (hr.mono (by decide)) (by rfl) X.g_ring_places X.F_ring_places.kp X.B_ring_places .nil (fun σ => passAt tk σ) (pa_cons (pv 0) (pa_cons (pv 1) pa_nil)))))
      (fun a oe cls pn hz hf => pss_one (ps_set (i := 2) sc__law_no_places.nd rfl (.inl rfl) (pv 3))))
    (pss_cons (ps_if (pt_val (pe_callB (id := "isinstance") (call_isKT X.Z.ec) (by rfl) X.b_isinstance (by decide +kernel) (pa_cons (pv 2) (pa_cons (pe_tup (pa_cons (pe_glob (v := .ref X.Z.c_NoCell) (by rfl) X.Z.g_NoCell rfl) (pa_cons (pe_glob (v := .ref X.Z.c_NoList) (by rfl) X.Z.g_NoList rfl) (pa_cons (pe_glob (v := .ref X.Z.c_NoMark) (by rfl) X.Z.g_NoMark rfl) (pa_cons (pe_glob (v := .ref X.Z.c_NoPlace) (by rfl) X.Z.g_NoPlace rfl) (pa_cons (pe_glob (v := .ref X.Z.c_NoPlan) (by rfl) X.Z.g_NoPlan rfl) (pa_cons (pe_glob (v := .ref X.Z.c_NoText) (by rfl) X.Z.g_NoText rfl) (pa_cons (pe_glob (v := .ref X.Z.c_NoWish) (by rfl) X.Z.g_NoWish rfl) (pa_cons (pe_glob (v := .ref X.Z.c_TooMany) (by rfl) X.Z.g_TooMany rfl) (pa_cons (pe_glob (v := .ref X.Z.c_Torn) (by rfl) X.Z.g_Torn rfl) (pa_cons (pe_glob (v := .ref X.Z.c_Whole) (by rfl) X.Z.g_Whole rfl) pa_nil))))))))))) pa_nil)))) (pss_one (ps_ret pe_bl)) pss_nil)
    (pss_one (ps_ret (pe_and (pe_callB (id := "isinstance") (call_isK X.Z.ec) (by rfl) X.b_isinstance (by decide +kernel) (pa_cons (pv 2) (pa_cons (pe_glob (v := .ref X.Y.C) (by rfl) X.Y.gC rfl) pa_nil))) (pe_one (pe_callB (id := "isinstance") (call_isK X.Z.ec) (by rfl) X.b_isinstance (by decide +kernel) (pa_cons (pv 2) (pa_cons (pe_bltn (v := .ty "ValueError") (by rfl) X.b_ValueError (show bootBuiltins "ValueError" = some (.type "ValueError") by decide +kernel) rfl) pa_nil))))))))), ?_⟩
  obtain ⟨A0, b0, γ, rfl, hb, G, rv, nw, hq⟩ := h
  obtain ⟨size, cr, u⟩ := γ
  cases u
  obtain ⟨v1, _, rfl, h1, v2, _, rfl, h2, rfl⟩ := rv
  refine ⟨v1, rfl, v2, rfl, ?_⟩
  refine spx_call (r := rF K Unit) (xs := (size, cr, ())) pm_Rg hb G (Ext.refl _ _) ⟨v1, _, rfl, h1, v2, _, rfl, h2, rfl⟩ ⟨nw, fun g' H' G' => ?_⟩
  refine ⟨X.Z.hit, rfl, fun a ha => ⟨.ref a, rfl, fun na => ⟨.ref a, rfl, by show 10 ≤ sizeLine; decide, fun tp htp => ?_⟩⟩⟩
  have ne : a ≠ tp := fun z => by
    rw [← z, upd_same] at htp
    cases htp
  refine ⟨a, tp, [.ref X.Z.c_NoCell, .ref X.Z.c_NoList, .ref X.Z.c_NoMark, .ref X.Z.c_NoPlace, .ref X.Z.c_NoPlan, .ref X.Z.c_NoText, .ref X.Z.c_NoWish, .ref X.Z.c_TooMany, .ref X.Z.c_Torn, .ref X.Z.c_Whole], _, false, rfl, (upd_ne ne).trans upd_same, upd_same, (.cons (.own _) (.cons (.own _) (.cons (.own _) (.cons (.own _) (.cons (.own _) (.cons (.own _) (.cons (.own _) (.cons (.own _) (.cons (.own _) (.cons (.own _) .nil)))))))))), X.Z.odd, false, rfl, ?_⟩
  refine ite_t (fun z => nomatch z) fun _ => ?_
  refine ⟨.ref a, rfl, a, .ref X.Y.C, .ref X.Y.C, true, rfl, (upd_ne ne).trans upd_same, fun u h => h, X.Z.slf, true, rfl, ?_⟩
  refine ite_t (fun _ => ?_) fun z => nomatch z
  refine ⟨.ref a, rfl, a, .ty "ValueError", .type "ValueError", true, rfl, (upd_ne ne).trans upd_same, fun u h => h, X.Z.val, ?_⟩
  obtain ⟨G2, _⟩ := G'.new0 (o := ExK (.ref X.Y.C) a) ha
  obtain ⟨G3, _⟩ := G2.new0 (o := .tup [.ref X.Z.c_NoCell, .ref X.Z.c_NoList, .ref X.Z.c_NoMark, .ref X.Z.c_NoPlace, .ref X.Z.c_NoPlan, .ref X.Z.c_NoText, .ref X.Z.c_NoWish, .ref X.Z.c_TooMany, .ref X.Z.c_Torn, .ref X.Z.c_Whole]) htp
  exact hq (.bl true) g' _ G3 rfl

theorem ok__law_judged {Pg : Program} {w : World} {K : PySem.W.Frag} {mg : Str → Option Value} {base : Heap} (X : Fx K mg) : FnG Pg w K mg base 5 X.a__law_judged X.d__law_judged ["size", "bends"] (sp__law_judged K) := by
  refine okG X.F__law_judged sc__law_judged (fun vs H Q E h => sp_len h) fun cdv A outer s H vs Q E hr h => ⟨(cd__law_judged K).t, ?_, sp_def (N := N__law_judged) (i := (Ini.c (Ini.c (Ini.u (Ini.u (Ini.u (Ini.u (Ini.u Ini.n)))))))) (cd__law_judged K).ok rfl h⟩
  delta cd__law_judged cb__law_judged_1 cb__law_judged_2
  dsimp only
  exact (pss_cons (ps_asg (pe_callG (ok__law_walked X) (hr.mono (by decide)) (by rfl) X.g__law_walked X.F__law_walked.kp X.B__law_walked .nil (pa_cons (pv 0) (pa_cons (pv 1) pa_nil))) (pg_tup (n := 3) rfl (pgs_cons (pg_name (i := 2) sc__law_judged.nd rfl (Or.inl rfl) (hf := Or.inl rfl)) (pgs_cons (pg_name (i := 3) sc__law_judged.nd rfl (Or.inl rfl) (hf := Or.inl rfl)) (pgs_cons (pg_name (i := 4) sc__law_judged.nd rfl (Or.inl rfl) (hf := Or.inl rfl)) pgs_nil)))))
  (pss_cons (ps_set (i := 5) sc__law_judged.nd rfl (.inl rfl) (pe_cmpR (op_eqD hr.room.units) (pe_tup (pa_cons (pv 3) (pa_cons (pv 4) pa_nil))) (pe_tup (pa_cons pe_int (pa_cons pe_int pa_nil))) (nomark _)))
  (pss_cons (ps_if (pt_cmpR op_ne (pe_callB (id := "repr") (call_reprD hr) (by rfl) X.b_repr (by decide +kernel) (pa_cons (pe_lst (pa_cons (pe_callG (ok_is_ring_folding X) (hr.mono (by decide)) (by rfl) X.g_is_ring_folding X.F_is_ring_folding.kp X.B_is_ring_folding .nil (pa_cons (pv 0) (pa_cons (pv 1) pa_nil))) (pa_cons (pe_callGN0 (kn := ["folds", "many"]) (ok_is_ring_folding X) (hr.mono (by decide)) (by rfl) X.g_is_ring_folding X.F_is_ring_folding.kp X.kw_is_ring_folding_0_folds_many (pk_cons (pv 1) (pk_cons (pv 0) pk_nil))) pa_nil))) pa_nil)) (pe_callB (id := "repr") (call_reprD hr) (by rfl) X.b_repr (by decide +kernel) (pa_cons (pe_lst (pa_cons (pv 5) (pa_cons (pv 5) pa_nil))) pa_nil)) (nomark _))
  (pss_one (ps_ret pe_bl))
  pss_nil)
  (pss_cons (ps_if (pt_not (pt_val (pv 5)))
  (pss_one (ps_ret (pe_callG (ok__law_no_places X) (hr.mono (by decide)) (by rfl) X.g__law_no_places X.F__law_no_places.kp X.B__law_no_places .nil (pa_cons (pv 0) (pa_cons (pv 1) pa_nil)))))
  pss_nil)
  (pss_cons (ps_set (i := 6) sc__law_judged.nd rfl (.inl rfl) (pe_callG (ok_ring_places X) (hr.mono (by decide)) (by rfl) X.g_ring_places X.F_ring_places.kp X.B_ring_places .nil (pa_cons (pv 0) (pa_cons (pv 1) pa_nil))))
  (pss_cons (ps_if (pt_cmpR op_ne (pe_callB (id := "repr") (call_reprD hr) (by rfl) X.b_repr (by decide +kernel) (pa_cons (pv 6) pa_nil)) (pe_callB (id := "repr") (call_reprD hr) (by rfl) X.b_repr (by decide +kernel) (pa_cons (pv 2) pa_nil)) (nomark _))
  (pss_one (ps_ret pe_bl))
  pss_nil)
  (pss_cons (ps_expr (pe_bm PySem.F.plainAttrs_list PySem.F.slot_list_append PySem.F.type_list_append mt_append (pv 6) (pa_cons pe_int pa_nil)))
  (pss_one (ps_ret (pe_cmpR (op_eqD hr.room.units) (pe_callGN0 (kn := ["folds", "many"]) (ok_ring_places X) (hr.mono (by decide)) (by rfl) X.g_ring_places X.F_ring_places.kp X.kw_ring_places_0_folds_many (pk_cons (pv 1) (pk_cons (pv 0) pk_nil))) (pv 2) (nomark _)))))))))))
theorem ok__law_all_right {Pg : Program} {w : World} {K : PySem.W.Frag} {mg : Str → Option Value} {base : Heap} (X : Fx K mg) : FnG Pg w K mg base 6 X.a__law_all_right X.d__law_all_right ["size"] (sp__law_all_right K) := by
  refine okG X.F__law_all_right sc__law_all_right (fun vs H Q E h => sp_len h) fun cdv A outer s H vs Q E hr h => ⟨(cd__law_all_right K).t, ?_, sp_def (N := N__law_all_right) (i := (Ini.c (Ini.u (Ini.u (Ini.u Ini.n))))) (cd__law_all_right K).ok rfl h⟩
  delta cd__law_all_right
  dsimp only
  exact (pss_cons (ps_set (i := 1) sc__law_all_right.nd rfl (.inl rfl) (pe_lst (pa_cons (pe_lst pa_nil) pa_nil)))
  (pss_cons (ps_for PassesOwn.never rfl (pi_range1 (by rfl) X.b_range (pa_cons (pv 0) pa_nil)) (pg_name (i := 2) sc__law_all_right.nd rfl (Or.inr rfl) (hf := Or.inl rfl))
  (pss_cons (ps_set (i := 1) sc__law_all_right.nd rfl (.inl rfl) (pe_op op_cat (pv 1) (pe_lc (own := [("row", 3)]) (by rfl) sc__law_all_right.nd (pi_list (pv 1)) (blkOk_by (own := [("row", 3)]) (N := N__law_all_right) (sc := defScope s__law_all_right) (by decide +kernel)) (fun _ _ _ _ _ => (pg_name (i := 3) sc__law_all_right.nd rfl (Or.inl rfl) (hf := Or.inr rfl))) (fun _ _ _ _ _ => pts_nil) (fun _ _ _ _ _ => (pe_op op_cat (pv 3) (pe_lst (pa_cons (pv 2) pa_nil)))))))
  pss_nil))
  (pss_one (ps_ret (pe_cmpR (op_eqD hr.room.units) (pe_lc (own := [("row", 3)]) (by rfl) sc__law_all_right.nd (pi_list (pv 1)) (blkOk_by (own := [("row", 3)]) (N := N__law_all_right) (sc := defScope s__law_all_right) (by decide +kernel)) (fun _ _ _ _ _ => (pg_name (i := 3) sc__law_all_right.nd rfl (Or.inl rfl) (hf := Or.inr rfl))) (fun _ _ _ _ _ => (pts_one (pt_not (pt_val (pe_callG (ok__law_judged X) (hr.mono (by decide)) (by rfl) X.g__law_judged X.F__law_judged.kp X.B__law_judged .nil (pa_cons (pv 0) (pa_cons (pv 3) pa_nil))))))) (fun _ _ _ _ _ => (pv 3))) (pe_lst pa_nil) (nomark _))))))
theorem ok__law_size {Pg : Program} {w : World} {K : PySem.W.Frag} {mg : Str → Option Value} {base : Heap} (X : Fx K mg) : FnG Pg w K mg base 2 X.a__law_size X.d__law_size ["crock"] (sp__law_size K) := by
  refine okG X.F__law_size sc__law_size (fun vs H Q E h => sp_len h) fun cdv A outer s H vs Q E hr h => ⟨(cd__law_size K).t, ?_, sp_def (N := N__law_size) (i := (Ini.c (Ini.u Ini.n))) (cd__law_size K).ok rfl h⟩
  delta cd__law_size
  dsimp only
  exact (pss_cons (ps_set (i := 1) sc__law_size.nd rfl (.inl rfl) (pe_lst (pa_cons (pe_op op_add pe_int (pe_op op_mulA pe_int (pe_callG (ok__law_ladle X) (hr.mono (by decide)) (by rfl) X.g__law_ladle X.F__law_ladle.kp X.B__law_ladle .nil (pa_cons (pv 0) (pa_cons pe_int pa_nil))))) (pa_cons (pe_op op_add pe_int (pe_op op_mulA pe_int (pe_callG (ok__law_ladle X) (hr.mono (by decide)) (by rfl) X.g__law_ladle X.F__law_ladle.kp X.B__law_ladle .nil (pa_cons (pv 0) (pa_cons pe_int pa_nil))))) (pa_cons (pe_op op_add pe_int (pe_op op_mulA pe_int (pe_callG (ok__law_ladle X) (hr.mono (by decide)) (by rfl) X.g__law_ladle X.F__law_ladle.kp X.B__law_ladle .nil (pa_cons (pv 0) (pa_cons pe_int pa_nil))))) (pa_cons pe_int pa_nil))))))
  (pss_one (ps_ret (pe_ix ix_list (pv 1) (pe_callG (ok__law_ladle X) (hr.mono (by decide)) (by rfl) X.g__law_ladle X.F__law_ladle.kp X.B__law_ladle .nil (pa_cons (pv 0) (pa_cons pe_int pa_nil))) (fun _ _ => rfl)))))
theorem ok__law_closed {Pg : Program} {w : World} {K : PySem.W.Frag} {mg : Str → Option Value} {base : Heap} (X : Fx K mg) : FnG Pg w K mg base 2 X.a__law_closed X.d__law_closed ["crock", "size"] (sp__law_closed K) := by
  refine okG X.F__law_closed sc__law_closed (fun vs H Q E h => sp_len h) fun cdv A outer s H vs Q E hr h => ⟨(cd__law_closed K).t, ?_, sp_def (N := N__law_closed) (i := (Ini.c (Ini.c (Ini.u (Ini.u (Ini.u Ini.n)))))) (cd__law_closed K).ok rfl h⟩
  delta cd__law_closed
  dsimp only
  exact (pss_cons (ps_set (i := 2) sc__law_closed.nd rfl (.inr rfl) (pe_op op_cat (pe_op op_rep (pe_lst (pa_cons pe_int pa_nil)) (pe_op op_sub (pe_op op_fdiv (pv 1) pe_int) pe_int)) (pe_op op_rep (pe_lst (pa_cons (pe_op op_sub pe_int pe_int) pa_nil)) (pe_op op_fdiv (pv 1) pe_int))))
  (pss_cons (ps_set (i := 3) sc__law_closed.nd rfl (.inr rfl) (pe_ix ix_list (pe_lst (pa_cons (pv 2) (pa_cons (pe_revL (pv 2)) (pa_cons (pe_op op_cat (pe_op op_rep (pe_lst (pa_cons (pe_op op_sub pe_int pe_int) (pa_cons pe_int pa_nil))) (pe_op op_sub (pe_op op_fdiv (pv 1) pe_int) pe_int)) (pe_lst (pa_cons (pe_op op_sub pe_int pe_int) pa_nil))) pa_nil)))) (pe_callG (ok__law_ladle X) (hr.mono (by decide)) (by rfl) X.g__law_ladle X.F__law_ladle.kp X.B__law_ladle .nil (pa_cons (pv 0) (pa_cons pe_int pa_nil))) (fun _ _ => rfl)))
  (pss_cons (ps_if (pt_cmpR op_eq (pe_callG (ok__law_ladle X) (hr.mono (by decide)) (by rfl) X.g__law_ladle X.F__law_ladle.kp X.B__law_ladle .nil (pa_cons (pv 0) (pa_cons pe_int pa_nil))) pe_int (nomark _))
  (pss_cons (ps_set (i := 3) sc__law_closed.nd rfl (.inr rfl) (pe_lc (own := [("k", 4)]) (by rfl) sc__law_closed.nd (pi_range1 (by rfl) X.b_range (pa_cons (pe_callB (id := "len") call_len (by rfl) X.b_len (by decide +kernel) (pa_cons (pv 2) pa_nil)) pa_nil)) (blkOk_by (own := [("k", 4)]) (N := N__law_closed) (sc := defScope s__law_closed) (by decide +kernel)) (fun _ _ _ _ _ => (pg_name (i := 4) sc__law_closed.nd rfl (Or.inl rfl) (hf := Or.inr rfl))) (fun _ _ _ _ _ => pts_nil) (fun _ _ _ _ _ => (pe_bm PySem.F.plainAttrs_list PySem.F.slot_list_pop PySem.F.type_list_pop mt_popAt (pv 2) (pa_cons (pe_callG (ok__law_ladle X) (hr.mono (by decide)) (by rfl) X.g__law_ladle X.F__law_ladle.kp X.B__law_ladle .nil (pa_cons (pv 0) (pa_cons (pe_callB (id := "len") call_len (by rfl) X.b_len (by decide +kernel) (pa_cons (pv 2) pa_nil)) pa_nil))) pa_nil)))))
  pss_nil)
  pss_nil)
  (pss_cons (ps_set (i := 3) sc__law_closed.nd rfl (.inr rfl) (pe_op op_cat (pe_lst (pa_cons pe_int pa_nil)) (pv 3)))
  (pss_one (ps_ret (pe_lc (own := [("k", 4)]) (by rfl) sc__law_closed.nd (pi_range1 (by rfl) X.b_range (pa_cons (pv 1) pa_nil)) (blkOk_by (own := [("k", 4)]) (N := N__law_closed) (sc := defScope s__law_closed) (by decide +kernel)) (fun _ _ _ _ _ => (pg_name (i := 4) sc__law_closed.nd rfl (Or.inl rfl) (hf := Or.inr rfl))) (fun _ _ _ _ _ => (pts_one (pt_cmpR op_ne (pe_ix ix_list (pv 3) (pv 4) (fun _ _ => rfl)) (pe_ix ix_list (pv 3) (pe_op op_mod (pe_op op_add (pv 4) pe_int) (pv 1)) (fun _ _ => rfl)) (nomark _)))) (fun _ _ _ _ _ => (pv 4)))))))))
theorem ok__law_none_right {Pg : Program} {w : World} {K : PySem.W.Frag} {mg : Str → Option Value} {base : Heap} (X : Fx K mg) : FnG Pg w K mg base 5 X.a__law_none_right X.d__law_none_right ["size", "bends"] (sp__law_none_right K) := by
  refine okG X.F__law_none_right sc__law_none_right (fun vs H Q E h => sp_len h) fun cdv A outer s H vs Q E hr h => ⟨(cd__law_none_right K).t, ?_, sp_def (N := N__law_none_right) (i := (Ini.c (Ini.c (Ini.u (Ini.u (Ini.u (Ini.u Ini.n))))))) (cd__law_none_right K).ok rfl h⟩
  delta cd__law_none_right cb__law_none_right_1
  dsimp only
  exact (pss_cons (ps_set (i := 2) sc__law_none_right.nd rfl (.inl rfl) (pe_lst (pa_cons (pe_revL (pv 1)) (pa_cons (pe_op op_cat (pv 1) (pe_slice sl_list (pv 1) (po_some (pe_un un_neg pe_int)) po_none)) (pa_cons (pe_op op_cat (pv 1) (pe_lst (pa_cons (pv 0) pa_nil))) (pa_cons (pe_op op_cat (pe_lst (pa_cons (pe_op op_sub pe_int pe_int) pa_nil)) (pv 1)) (pa_cons (pe_op op_cat (pv 1) (pe_lst (pa_cons (pe_op op_pow pe_int pe_int) pa_nil))) pa_nil)))))))
  (pss_cons (ps_setLc (i := 2) (own := [("row", 4)]) (by rfl) sc__law_none_right.nd rfl rfl (sw_true rfl rfl rfl (by decide +kernel)) (pi_list (pv 2)) (blkOk_by (own := [("row", 4)]) (N := N__law_none_right) (sc := defScope s__law_none_right) (by decide +kernel)) (fun _ _ _ _ _ => (pg_name (i := 4) sc__law_none_right.nd rfl (Or.inl rfl) (hf := Or.inr rfl))) (fun _ _ _ _ _ => (pts_one (pt_cmpR (op_neD hr.room.units) (pv 4) (pv 1) (nomark _)))) (fun _ _ _ _ _ => (pv 4)))
  (pss_cons (ps_if (pt_cmpR (op_neD hr.room.units) (pe_lc (own := [("row", 4)]) (by rfl) sc__law_none_right.nd (pi_list (pv 2)) (blkOk_by (own := [("row", 4)]) (N := N__law_none_right) (sc := defScope s__law_none_right) (by decide +kernel)) (fun _ _ _ _ _ => (pg_name (i := 4) sc__law_none_right.nd rfl (Or.inl rfl) (hf := Or.inr rfl))) (fun _ _ _ _ _ => (pts_one (PW.pt (pw_or (pt_val (pe_callG (ok_is_ring_folding X) (hr.mono (by decide)) (by rfl) X.g_is_ring_folding X.F_is_ring_folding.kp X.B_is_ring_folding .nil (pa_cons (pv 0) (pa_cons (pv 4) pa_nil)))) (pw_or1 (pt_not (pt_val (pe_callG (ok__law_no_places X) (hr.mono (by decide)) (by rfl) X.g__law_no_places X.F__law_no_places.kp X.B__law_no_places .nil (pa_cons (pv 0) (pa_cons (pv 4) pa_nil)))))))))) (fun _ _ _ _ _ => (pv 4))) (pe_lst pa_nil) (nomark _))
  (pss_one (ps_ret pe_bl))
  pss_nil)
  (pss_cons (ps_set (i := 3) sc__law_none_right.nd rfl (.inl rfl) (pe_lst (pa_cons pe_int (pa_cons pe_int (pa_cons (pe_op op_add (pv 0) pe_int) (pa_cons (pe_op op_sub pe_int (pv 0)) (pa_cons pe_int (pa_cons pe_int (pa_cons (pe_op op_pow pe_int pe_int) pa_nil)))))))))
  (pss_one (ps_ret (pe_cmpR (op_eqD hr.room.units) (pe_lc (own := [("wide", 5)]) (by rfl) sc__law_none_right.nd (pi_list (pv 3)) (blkOk_by (own := [("wide", 5)]) (N := N__law_none_right) (sc := defScope s__law_none_right) (by decide +kernel)) (fun _ _ _ _ _ => (pg_name (i := 5) sc__law_none_right.nd rfl (Or.inl rfl) (hf := Or.inr rfl))) (fun _ _ _ _ _ => (pts_one (PW.pt (pw_or (pt_val (pe_callG (ok_is_ring_folding X) (hr.mono (by decide)) (by rfl) X.g_is_ring_folding X.F_is_ring_folding.kp X.B_is_ring_folding .nil (pa_cons (pv 5) (pa_cons (pv 1) pa_nil)))) (pw_or1 (pt_not (pt_val (pe_callG (ok__law_no_places X) (hr.mono (by decide)) (by rfl) X.g__law_no_places X.F__law_no_places.kp X.B__law_no_places .nil (pa_cons (pv 5) (pa_cons (pv 1) pa_nil)))))))))) (fun _ _ _ _ _ => (pv 5))) (pe_lst pa_nil) (nomark _))))))))
theorem ok__law_right {Pg : Program} {w : World} {K : PySem.W.Frag} {mg : Str → Option Value} {base : Heap} (X : Fx K mg) : FnG Pg w K mg base 6 X.a__law_right X.d__law_right ["crock"] (sp__law_right K) := by
  refine okG X.F__law_right sc__law_right (fun vs H Q E h => sp_len h) fun cdv A outer s H vs Q E hr h => ⟨(cd__law_right K).t, ?_, sp_def (N := N__law_right) (i := (Ini.c (Ini.u (Ini.u (Ini.u (Ini.u (Ini.u (Ini.u (Ini.u Ini.n))))))))) (cd__law_right K).ok rfl h⟩
  delta cd__law_right
  dsimp only
  exact (pss_cons (ps_set (i := 1) sc__law_right.nd rfl (.inl rfl) (pe_callG (ok__law_size X) (hr.mono (by decide)) (by rfl) X.g__law_size X.F__law_size.kp X.B__law_size .nil (pa_cons (pv 0) pa_nil)))
  (pss_cons (ps_set (i := 2) sc__law_right.nd rfl (.inl rfl) (pe_callG (ok__law_closed X) (hr.mono (by decide)) (by rfl) X.g__law_closed X.F__law_closed.kp X.B__law_closed .nil (pa_cons (pv 0) (pa_cons (pv 1) pa_nil))))
  (pss_cons (ps_set (i := 3) sc__law_right.nd rfl (.inl rfl) (pe_callTy (T := "list") call_list_of (by rfl) X.b_list (by decide +kernel) (pa_cons (pv 2) pa_nil)))
  (pss_cons (ps_set (i := 4) sc__law_right.nd rfl (.inr rfl) (pe_callG (ok__law_ladle X) (hr.mono (by decide)) (by rfl) X.g__law_ladle X.F__law_ladle.kp X.B__law_ladle .nil (pa_cons (pv 0) (pa_cons (pv 1) pa_nil))))
  (pss_cons (ps_set (i := 5) sc__law_right.nd rfl (.inl rfl) (pe_lst (pa_cons (pe_sortedSet (by rfl) X.b_sorted (by rfl) X.b_set (pe_op op_cat (pv 2) (pe_lst (pa_cons (pv 4) pa_nil)))) (pa_cons (pe_lc (own := [("one", 7)]) (by rfl) sc__law_right.nd (pi_list (pv 2)) (blkOk_by (own := [("one", 7)]) (N := N__law_right) (sc := defScope s__law_right) (by decide +kernel)) (fun _ _ _ _ _ => (pg_name (i := 7) sc__law_right.nd rfl (Or.inl rfl) (hf := Or.inr rfl))) (fun _ _ _ _ _ => (pts_one (pt_cmpR op_ne (pv 7) (pv 4) (nomark _)))) (fun _ _ _ _ _ => (pv 7))) (pa_cons (pv 2) (pa_cons (pe_listRg rfl (by rfl) X.b_list (prg_1 (by rfl) X.b_range (pv 1))) pa_nil))))))
  (pss_cons (ps_expr (pe_bm PySem.F.plainAttrs_list PySem.F.slot_list_append PySem.F.type_list_append mt_append (pv 5) (pa_cons (pe_lc (own := [("one", 7)]) (by rfl) sc__law_right.nd (pi_range1 (by rfl) X.b_range (pa_cons (pv 1) pa_nil)) (blkOk_by (own := [("one", 7)]) (N := N__law_right) (sc := defScope s__law_right) (by decide +kernel)) (fun _ _ _ _ _ => (pg_name (i := 7) sc__law_right.nd rfl (Or.inl rfl) (hf := Or.inr rfl))) (fun _ _ _ _ _ => (pts_one (pt_cmpR op_eq (pe_callG (ok__law_ladle X) (hr.mono (by decide)) (by rfl) X.g__law_ladle X.F__law_ladle.kp X.B__law_ladle .nil (pa_cons (pv 0) (pa_cons pe_int pa_nil))) pe_int (nomark _)))) (fun _ _ _ _ _ => (pv 7))) pa_nil)))
  (pss_cons (ps_for PassesOwn.never rfl (pi_list (pv 5)) (pg_name (i := 6) sc__law_right.nd rfl (Or.inl rfl) (hf := Or.inl rfl))
  (pss_cons (ps_if (pt_not (pt_val (pe_callG (ok__law_judged X) (hr.mono (by decide)) (by rfl) X.g__law_judged X.F__law_judged.kp X.B__law_judged .nil (pa_cons (pv 1) (pa_cons (pv 6) pa_nil)))))
  (pss_one (ps_ret pe_bl))
  pss_nil)
  pss_nil))
  (pss_one (ps_ret (pe_and (pe_cmpR (op_eqD hr.room.units) (pv 2) (pv 3) (nomark _)) (pe_one (pe_or (pe_cmpR op_lt (pe_callB (id := "len") call_len (by rfl) X.b_len (by decide +kernel) (pa_cons (pv 2) pa_nil)) pe_int (nomark _)) (pe_one (pe_callG (ok__law_none_right X) (hr.mono (by decide)) (by rfl) X.g__law_none_right X.F__law_none_right.kp X.B__law_none_right .nil (pa_cons (pv 1) (pa_cons (pv 2) pa_nil))))))))))))))))
theorem ok_law {Pg : Program} {w : World} {K : PySem.W.Frag} {mg : Str → Option Value} {base : Heap} (X : Fx K mg) : FnG Pg w K mg base 7 X.a_law X.d_law ["script"] (sp_law K) := by
  refine okG X.F_law sc_law (fun vs H Q E h => sp_len h) fun cdv A outer s H vs Q E hr h => ⟨(cd_law K).t, ?_, sp_def (N := N_law) (i := (Ini.c (Ini.u (Ini.u (Ini.u Ini.n))))) (cd_law K).ok rfl h⟩
  delta cd_law
  dsimp only
  exact (pss_cons (ps_for PassesOwn.never rfl (pi_range1 (by rfl) X.b_range (pa_cons (pe_callB (id := "max") (call_max2 rfl) (by rfl) X.b_max (by decide +kernel) (pa_cons pe_int (pa_cons (pe_callB (id := "min") (call_min2 rfl) (by rfl) X.b_min (by decide +kernel) (pa_cons pe_int (pa_cons (pe_callB (id := "len") call_len (by rfl) X.b_len (by decide +kernel) (pa_cons (pv 0) pa_nil)) pa_nil))) pa_nil))) pa_nil)) (pg_name (i := 1) sc_law.nd rfl (Or.inl rfl) (hf := Or.inl rfl))
  (pss_cons (ps_set (i := 2) sc_law.nd rfl (.inl rfl) (pe_callG (ok__law_crock X) (hr.mono (by decide)) (by rfl) X.g__law_crock X.F__law_crock.kp X.B__law_crock .nil (pa_cons (pv 0) (pa_cons (pv 1) pa_nil))))
  (pss_cons (ps_if (pt_not (pt_val (pe_callG (ok__law_all_right X) (hr.mono (by decide)) (by rfl) X.g__law_all_right X.F__law_all_right.kp X.B__law_all_right .nil (pa_cons (pe_op op_add pe_int (pe_op op_mulA pe_int (pe_callG (ok__law_ladle X) (hr.mono (by decide)) (by rfl) X.g__law_ladle X.F__law_ladle.kp X.B__law_ladle .nil (pa_cons (pv 2) (pa_cons pe_int pa_nil))))) pa_nil))))
  (pss_one (ps_ret pe_bl))
  pss_nil)
  (pss_cons (ps_for PassesOwn.never rfl (pi_range1 (by rfl) X.b_range (pa_cons pe_int pa_nil)) (pg_name (i := 3) sc_law.nd rfl (Or.inl rfl) (hf := Or.inl rfl))
  (pss_cons (ps_if (pt_not (pt_val (pe_callG (ok__law_right X) (hr.mono (by decide)) (by rfl) X.g__law_right X.F__law_right.kp X.B__law_right .nil (pa_cons (pv 2) pa_nil))))
  (pss_one (ps_ret pe_bl))
  pss_nil)
  pss_nil))
  pss_nil))))
  (pss_one (ps_ret pe_bl)))
/-! ### the mathematics -/

local macro_rules | `(tactic| walk_at "dl") => `(tactic| dsimp only [wDef, wDefU, Ini.c, Ini.u, Ini.n, Acc.z, Acc.s, Put.z, Put.s, Wk.k, Wk.n, Wk.d, Wk.i, Bor.o, Bor.v, Bor.u, Bor.n, Bor.d, Bor.e, Bor.p, Bor.a, Bor.fa, Acc.fa, Acc.kk, Bor.kk, Unb.k, Unb.q, Unb.n, Unb.u, Unb.d, Unb.t, Unb.f, Unb.o, wDefM, IniM.c, IniM.u, IniM.n, Cv.o, Cv.a, Fgt.n, Fgt.d, Fgt.u, Fgt.v, Fgt.k, Fgt.p, Fgt.j, Fgt.q, FA.z, FA.s, FP.z, FP.s, FP.n, wDefB2, wDefBJ, AO.n, AO.k, AO.a, Wp.c, Wp.n, wV, wC, w2, w2c, wAnd, wOr, wNot])
local macro_rules | `(tactic| walk_at "si") => `(tactic| try simp only [if_true, if_false, Bool.false_eq_true, Bool.not_true, Bool.not_false, decide_true, decide_false, ite_true, ite_false, reduceIte])
section
variable {K : PySem.W.Frag}
theorem pos2 : (0 : Int) < 2 := by decide
end


def Odd1 : List Int → Prop
  | [] => True
  | [_] => True
  | x :: y :: r => x < y ∧ (y - x) % 2 = 1 ∧ Odd1 (y :: r)
theorem Odd1.drop {c : List Int} (h : Odd1 c) : ∀ n : Nat, Odd1 (c.drop n)
  | 0 => h
  | n + 1 => by
    cases c with
    | nil => exact h
    | cons x r =>
      cases r with
      | nil => rw [List.drop_succ_cons, List.drop_nil]; trivial
      | cons y r => exact Odd1.drop h.2.2 n
theorem Odd1.snoc : ∀ {c : List Int} {x : Int}, Odd1 c → (∀ y, c.getLast? = some y → y < x ∧ (x - y) % 2 = 1) → Odd1 (c ++ [x])
  | [], _, _, _ => trivial
  | [z], x, _, h => by
    have := h z rfl
    exact ⟨this.1, this.2, trivial⟩
  | z :: w :: r, x, hc, h => ⟨hc.1, hc.2.1, Odd1.snoc (c := w :: r) hc.2.2 fun y hy => h y (by rw [List.getLast?_cons_cons]; exact hy)⟩
theorem Odd1.len : ∀ {c : List Int} {x n : Int}, Odd1 (x :: c) → (∀ y ∈ x :: c, y < n) → ((x :: c).length : Int) + x ≤ n
  | [], x, n, _, h => by
    have := h x List.mem_cons_self
    show ((0 + 1 : Nat) : Int) + x ≤ n
    omega
  | y :: r, x, n, h, hn => by
    have ih := Odd1.len (c := r) h.2.2 fun z hz => hn z (List.mem_cons_of_mem _ hz)
    have := h.1
    rw [List.length_cons]
    omega
theorem Odd1.at : ∀ {c : List Int} (_ : Odd1 c) (i : Nat) (x y : Int), c[i]? = some x → c[i + 1]? = some y → x < y ∧ (y - x) % 2 = 1
  | [], _, _, _, _, h, _ => nomatch h
  | [_], _, 0, _, _, _, h => nomatch h
  | [_], _, _ + 1, _, _, h, _ => nomatch h
  | a :: b :: r, h, 0, x, y, h1, h2 => by
    cases h1
    cases h2
    exact ⟨h.1, h.2.1⟩
  | a :: b :: r, h, i + 1, x, y, h1, h2 => Odd1.at (c := b :: r) h.2.2 i x y h1 h2


/-! ### lists that a punch can have; plans judged -/
def zp (xs : List Int) : List (Int × Int) := xs.zip (xs.drop 1)
theorem zp_cons2 (a b : Int) (t : List Int) : zp (a :: b :: t) = (a, b) :: zp (b :: t) := rfl
theorem zp_pw : ∀ {xs : List Int}, (∀ p ∈ zp xs, p.1 < p.2) → xs.Pairwise (· < ·)
  | [], _ => .nil
  | [_], _ => List.pairwise_singleton _ _
  | a :: b :: t, h => by
    rw [zp_cons2] at h
    have ih := zp_pw (xs := b :: t) fun p hp => h p (List.mem_cons_of_mem _ hp)
    have hab := h (a, b) List.mem_cons_self
    refine List.pairwise_cons.mpr ⟨fun c hc => ?_, ih⟩
    rcases List.mem_cons.mp hc with e | hc
    · rw [e]; exact hab
    · have := (List.pairwise_cons.mp ih).1 c hc
      exact Int.lt_trans hab this
theorem zp_get {xs : List Int} {i : Nat} {a b : Int} (h1 : xs[i]? = some a) (h2 : xs[i + 1]? = some b) : (a, b) ∈ zp xs := by
  refine List.mem_of_getElem? (i := i) ?_
  unfold zp
  rw [List.getElem?_zip_eq_some]
  exact ⟨h1, by rw [List.getElem?_drop, Nat.add_comm]; exact h2⟩
theorem zp_at {xs : List Int} {p : Int × Int} (h : p ∈ zp xs) : ∃ i, xs[i]? = some p.1 ∧ xs[i + 1]? = some p.2 := by
  obtain ⟨i, hi⟩ := List.getElem?_of_mem h
  unfold zp at hi
  rw [List.getElem?_zip_eq_some] at hi
  refine ⟨i, hi.1, ?_⟩
  have := hi.2
  rwa [List.getElem?_drop, Nat.add_comm] at this
theorem zp_len (xs : List Int) : (zp xs).length ≤ xs.length := by
  unfold zp
  rw [List.length_zip]
  omega


/-! ### where cells lie -/
def wayF (F : List Int) : Nat → Int
  | 0 => 1
  | i + 1 => if (i : Int) ∈ F then - wayF F i else wayF F i
def plF (F : List Int) : Nat → Int
  | 0 => 0
  | i + 1 => if (i : Int) ∈ F then plF F i else plF F i + wayF F i
theorem wayF_pm (F : List Int) : ∀ i, wayF F i = 1 ∨ wayF F i = -1
  | 0 => .inl (rfl)
  | i + 1 => by
    have ih := wayF_pm F i
    unfold wayF
    split <;> omega
theorem wayF_succ (F : List Int) (i : Nat) : wayF F (i + 1) = if (i : Int) ∈ F then - wayF F i else wayF F i := rfl
theorem plF_succ (F : List Int) (i : Nat) : plF F (i + 1) = if (i : Int) ∈ F then plF F i else plF F i + wayF F i := rfl
/-- no crease for a while -/
theorem pl_run {F : List Int} {a : Nat} : ∀ t : Nat, (∀ j : Nat, a ≤ j → j < a + t → ¬ (j : Int) ∈ F) → plF F (a + t) = plF F a + wayF F a * t ∧ wayF F (a + t) = wayF F a
  | 0, _ => by
    rw [Nat.add_zero]
    refine ⟨?_, rfl⟩
    show _ = _ + _ * 0
    rw [Int.mul_zero, Int.add_zero]
  | t + 1, h => by
    obtain ⟨e1, e2⟩ := pl_run t fun j h1 h2 => h j h1 (by omega)
    have q := h (a + t) (by omega) (by omega)
    rw [show a + (t + 1) = a + t + 1 by omega, plF_succ, wayF_succ, if_neg q, if_neg q, e1, e2]
    refine ⟨?_, rfl⟩
    rcases wayF_pm F a with w | w <;> rw [w] <;> omega
/-- the middles of a list -/
def mids (L : List Int) : List Int := (zp L).map fun p => (p.1 + p.2 - 1) / 2
theorem mids_cons (a b : Int) (r : List Int) : mids (a :: b :: r) = (a + b - 1) / 2 :: mids (b :: r) := rfl
theorem mids_ge : ∀ {r : List Int} {b : Int}, Odd1 (b :: r) → ∀ m ∈ mids (b :: r), b ≤ m
  | [], _, _, _, h => nomatch h
  | c :: r, b, o, m, h => by
    have o1 : b < c := o.1
    rw [mids_cons] at h
    rcases List.mem_cons.mp h with rfl | h
    · omega
    · have := mids_ge o.2.2 m h
      omega
theorem mids_lt : ∀ {r : List Int} {b n : Int}, Odd1 (b :: r) → (∀ x ∈ b :: r, x < n) → ∀ m ∈ mids (b :: r), m < n - 1
  | [], _, _, _, _, _, h => nomatch h
  | c :: r, b, n, o, hn, m, h => by
    have o1 : b < c := o.1
    have hc := hn c (List.mem_cons_of_mem _ List.mem_cons_self)
    rw [mids_cons] at h
    rcases List.mem_cons.mp h with rfl | h
    · omega
    · exact mids_lt o.2.2 (fun x hx => hn x (List.mem_cons_of_mem _ hx)) m h
theorem mids_inc : ∀ {r : List Int} {b : Int}, Odd1 (b :: r) → (mids (b :: r)).Pairwise (· < ·)
  | [], _, _ => .nil
  | c :: r, b, o => by
    have o1 : b < c := o.1
    rw [mids_cons, List.pairwise_cons]
    refine ⟨fun m hm => ?_, mids_inc o.2.2⟩
    have := mids_ge o.2.2 m hm
    omega
theorem mids_len (L : List Int) : (mids L).length = L.length - 1 := by
  unfold mids zp
  rw [List.length_map, List.length_zip, List.length_drop]
  omega
theorem Odd1.gt' : ∀ {r : List Int} {x : Int}, Odd1 (x :: r) → ∀ y ∈ r, x < y
  | y :: r, x, h, z, hz => by
    have h1 : x < y := h.1
    rcases List.mem_cons.mp hz with rfl | hz
    · exact h1
    · have := Odd1.gt' h.2.2 z hz
      omega
/-- from a cell of the list on -/
theorem pl_from {F : List Int} : ∀ {r : List Int} {a : Int}, Odd1 (a :: r) → 0 ≤ a → (∀ j : Nat, a ≤ (j : Int) → ((j : Int) ∈ F ↔ (j : Int) ∈ mids (a :: r))) → ∀ i : Nat, a ≤ (i : Int) → (plF F i = plF F a.toNat ↔ (i : Int) ∈ a :: r)
  | [], a, _, a0, h, i, hi => by
    have e : ((a.toNat : Nat) : Int) = a := Int.toNat_of_nonneg a0
    obtain ⟨e1, _⟩ := pl_run (F := F) (a := a.toNat) (i - a.toNat) fun j h1 h2 q => by
      have := (h j (by omega)).mp q
      cases this
    rw [show a.toNat + (i - a.toNat) = i by omega] at e1
    rw [e1, List.mem_singleton]
    rcases wayF_pm F a.toNat with w | w <;> rw [w] <;> omega
  | b :: r, a, o, a0, h, i, hi => by
    have e : ((a.toNat : Nat) : Int) = a := Int.toNat_of_nonneg a0
    have o1 : a < b := o.1
    have o2 : (b - a) % 2 = 1 := o.2.1
    have o3 : Odd1 (b :: r) := o.2.2
    have ge := mids_ge o3
    obtain ⟨k, hk⟩ : ∃ k : Nat, (k : Int) = (a + b - 1) / 2 - a := ⟨((a + b - 1) / 2 - a).toNat, by omega⟩
    have no : ∀ j : Nat, a ≤ (j : Int) → (j : Int) < b → (j : Int) ≠ a + k → ¬ (j : Int) ∈ F := fun j h1 h2 h3 q => by
      have := (h j h1).mp q
      rw [mids_cons] at this
      rcases List.mem_cons.mp this with z | z
      · omega
      · have := ge _ z
        omega
    have yes : ((a.toNat + k : Nat) : Int) ∈ F := (h _ (by omega)).mpr (by
      rw [mids_cons]
      exact List.mem_cons.mpr (.inl (by omega)))
    have first : ∀ t : Nat, t ≤ k → plF F (a.toNat + t) = plF F a.toNat + wayF F a.toNat * t ∧ wayF F (a.toNat + t) = wayF F a.toNat := fun t ht => pl_run t fun j h1 h2 => no j (by omega) (by omega) (by omega)
    have mid : plF F (a.toNat + k + 1) = plF F a.toNat + wayF F a.toNat * k ∧ wayF F (a.toNat + k + 1) = - wayF F a.toNat := by
      rw [plF_succ, wayF_succ, if_pos yes, if_pos yes, (first k (Nat.le_refl _)).1, (first k (Nat.le_refl _)).2]
      exact ⟨rfl, rfl⟩
    have second : ∀ t : Nat, t ≤ k → plF F (a.toNat + k + 1 + t) = plF F a.toNat + wayF F a.toNat * k - wayF F a.toNat * t := fun t ht => by
      obtain ⟨e1, _⟩ := pl_run (F := F) (a := a.toNat + k + 1) t fun j h1 h2 => no j (by omega) (by omega) (by omega)
      rw [e1, mid.1, mid.2]
      rcases wayF_pm F a.toNat with w | w <;> rw [w] <;> omega
    have eb : b.toNat = a.toNat + k + 1 + k := by omega
    have atb : plF F b.toNat = plF F a.toNat := by
      rw [eb, second k (Nat.le_refl _)]
      omega
    rcases Int.lt_or_le (i : Int) b with q | q
    · have key : plF F i = plF F a.toNat ↔ (i : Int) = a := by
        rcases Nat.lt_or_ge i (a.toNat + k + 1) with z | z
        · have f := (first (i - a.toNat) (by omega)).1
          rw [show a.toNat + (i - a.toNat) = i by omega] at f
          rw [f]
          rcases wayF_pm F a.toNat with w | w <;> rw [w] <;> omega
        · have f := second (i - (a.toNat + k + 1)) (by omega)
          rw [show a.toNat + k + 1 + (i - (a.toNat + k + 1)) = i by omega] at f
          rw [f]
          rcases wayF_pm F a.toNat with w | w <;> rw [w] <;> omega
      rw [key, List.mem_cons]
      refine ⟨.inl, fun z => z.resolve_right fun z => ?_⟩
      rcases List.mem_cons.mp z with z | z
      · omega
      · have := o3.gt' _ z
        omega
    · rw [← atb, pl_from o3 (by omega) (fun j hj => ?_) i q]
      · constructor
        · exact List.mem_cons_of_mem _
        · intro z
          rcases List.mem_cons.mp z with z | z
          · omega
          · exact z
      · rw [h j (by omega), mids_cons, List.mem_cons]
        refine ⟨fun z => z.resolve_left fun z => by omega, .inr⟩
/-- all cells of the strip -/
theorem pl_all {a : Int} {r : List Int} (o : Odd1 (a :: r)) (a0 : 0 ≤ a) (i : Nat) : plF (mids (a :: r)) i = plF (mids (a :: r)) a.toNat ↔ (i : Int) ∈ a :: r := by
  have e : ((a.toNat : Nat) : Int) = a := Int.toNat_of_nonneg a0
  rcases Int.lt_or_le (i : Int) a with q | q
  · have no : ∀ j : Nat, (j : Int) < a → ¬ (j : Int) ∈ mids (a :: r) := fun j hj z => by
      have := mids_ge o _ z
      omega
    have h1 := (pl_run (F := mids (a :: r)) (a := 0) i fun j _ h => no j (by omega)).1
    have h2 := (pl_run (F := mids (a :: r)) (a := 0) a.toNat fun j _ h => no j (by omega)).1
    rw [Nat.zero_add] at h1 h2
    rw [h1, h2]
    have w : wayF (mids (a :: r)) 0 = 1 := rfl
    rw [w]
    refine ⟨fun z => by omega, fun z => ?_⟩
    rcases List.mem_cons.mp z with z | z
    · omega
    · have := o.gt' _ z
      omega
  · exact pl_from o a0 (fun _ _ => Iff.rfl) i q
/-- rising lists of the same numbers are one -/
theorem inc_ext : ∀ {xs ys : List Int}, xs.Pairwise (· < ·) → ys.Pairwise (· < ·) → (∀ x, x ∈ xs ↔ x ∈ ys) → xs = ys
  | [], [], _, _, _ => rfl
  | [], y :: ys, _, _, h => nomatch (h y).mpr List.mem_cons_self
  | x :: xs, [], _, _, h => nomatch (h x).mp List.mem_cons_self
  | x :: xs, y :: ys, hx, hy, h => by
    rw [List.pairwise_cons] at hx hy
    have e : x = y := by
      rcases List.mem_cons.mp ((h x).mp List.mem_cons_self) with z | z
      · exact z
      · rcases List.mem_cons.mp ((h y).mpr List.mem_cons_self) with w | w
        · exact w.symm
        · have := hx.1 _ w
          have := hy.1 _ z
          omega
    subst e
    rw [inc_ext hx.2 hy.2 fun z => ?_]
    constructor
    · intro k
      rcases List.mem_cons.mp ((h z).mp (List.mem_cons_of_mem _ k)) with w | w
      · have := hx.1 _ k
        omega
      · exact w
    · intro k
      rcases List.mem_cons.mp ((h z).mpr (List.mem_cons_of_mem _ k)) with w | w
      · have := hy.1 _ k
        omega
      · exact w
theorem odd_inc : ∀ {c : List Int}, Odd1 c → c.Pairwise (· < ·)
  | [], _ => .nil
  | x :: r, o => by
    rw [List.pairwise_cons]
    refine ⟨o.gt', ?_⟩
    cases r with
    | nil => exact .nil
    | cons y r => exact odd_inc o.2.2
/-- the cells at a place -/
def atF (n : Nat) (F : List Int) (p : Int) : List Int := ((List.range n).filter fun i => decide (plF F i = p)).map fun i : Nat => (i : Int)
theorem atF_mem {n : Nat} {F : List Int} {p x : Int} : x ∈ atF n F p ↔ ∃ i : Nat, i < n ∧ plF F i = p ∧ x = i := by
  unfold atF
  rw [List.mem_map]
  constructor
  · rintro ⟨i, hi, rfl⟩
    obtain ⟨h1, h2⟩ := List.mem_filter.mp hi
    exact ⟨i, List.mem_range.mp h1, of_decide_eq_true h2, rfl⟩
  · rintro ⟨i, h1, h2, rfl⟩
    exact ⟨i, List.mem_filter.mpr ⟨List.mem_range.mpr h1, decide_eq_true h2⟩, rfl⟩
theorem atF_inc (n : Nat) (F : List Int) (p : Int) : (atF n F p).Pairwise (· < ·) := by
  unfold atF
  rw [List.pairwise_map]
  refine List.Pairwise.filter _ ?_
  refine List.Pairwise.imp ?_ List.pairwise_lt_range
  intro a b h
  omega
theorem least_at {n : Nat} {a : Int} {r : List Int} (o : Odd1 (a :: r)) (hx : ∀ x ∈ a :: r, 0 ≤ x ∧ x < n) : atF n (mids (a :: r)) (plF (mids (a :: r)) a.toNat) = a :: r := by
  refine inc_ext (atF_inc _ _ _) (odd_inc o) fun x => ?_
  rw [atF_mem]
  have a0 := (hx a List.mem_cons_self).1
  constructor
  · rintro ⟨i, h1, h2, rfl⟩
    exact (pl_all o a0 i).mp h2
  · intro h
    obtain ⟨x0, x1⟩ := hx x h
    have e : ((x.toNat : Nat) : Int) = x := Int.toNat_of_nonneg x0
    exact ⟨x.toNat, by omega, (pl_all o a0 x.toNat).mpr (by rw [e]; exact h), e.symm⟩
theorem pl_small (F : List Int) : ∀ i : Nat, -(i : Int) ≤ plF F i ∧ plF F i ≤ i
  | 0 => by show -((0 : Nat) : Int) ≤ 0 ∧ (0 : Int) ≤ ((0 : Nat) : Int); omega
  | i + 1 => by
    have ih := pl_small F i
    rw [plF_succ]
    rcases wayF_pm F i with w | w <;> rw [w] <;> split <;> omega
/-- a folding -/
structure Fold (n : Int) (F : List Int) : Prop where
  one : 1 ≤ n
  two : n ≤ 200
  up : ∀ p ∈ zp F, p.1 < p.2
  rg : ∀ c ∈ F, 0 ≤ c ∧ c ≤ n - 2
theorem pw_zp : ∀ {xs : List Int}, xs.Pairwise (· < ·) → ∀ p ∈ zp xs, p.1 < p.2
  | [], _, _, h => nomatch h
  | [_], _, _, h => nomatch h
  | a :: b :: t, hp, p, h => by
    rw [List.pairwise_cons] at hp
    rw [zp_cons2] at h
    rcases List.mem_cons.mp h with rfl | h
    · exact hp.1 _ List.mem_cons_self
    · exact pw_zp hp.2 p h
theorem least_fold {n a : Int} {r : List Int} (n1 : 1 ≤ n) (n2 : n ≤ 200) (o : Odd1 (a :: r)) (hx : ∀ x ∈ a :: r, 0 ≤ x ∧ x < n) : Fold n (mids (a :: r)) :=
  ⟨n1, n2, pw_zp (mids_inc o), fun c hc => by
    have := mids_ge o c hc
    have := mids_lt o (fun x h => (hx x h).2) c hc
    have := hx a List.mem_cons_self
    omega⟩


/-! ### how long texts are, told exactly -/
structure Sho (n m : Nat) (d : PyData) : Prop where
  dp : d.depth ≤ n
  ln : d.shown.length ≤ m
  sb : d.showable = true
  nd : d.hasDict = false
theorem Sho.ok {n m : Nat} {d : PyData} (h : Sho n m d) (hn : n ≤ 60) (hm : m ≤ 16000000) : okShown d := by
  refine ⟨h.sb, h.nd, by have := h.dp; omega, ?_⟩
  have := h.ln
  rw [sizeLine_eq]
  omega
theorem Sho.mono {n n' m m' : Nat} {d : PyData} (h : Sho n m d) (hn : n ≤ n') (hm : m ≤ m') : Sho n' m' d := ⟨Nat.le_trans h.dp hn, Nat.le_trans h.ln hm, h.sb, h.nd⟩
theorem shn_sho {n w : Nat} {d : PyData} (h : Shn n w d) : Sho n (10 * w + 8) d := ⟨h.dp, by
  have := PyData.shown_le 8 (by decide) d h.sh
  have := h.wt
  omega, h.sb, h.nd⟩
theorem shownAll_map : ∀ xs : List PyData, PyData.shownAll xs = xs.map PyData.shown
  | [] => rfl
  | x :: xs => by
    show PyData.shown x :: PyData.shownAll xs = _
    rw [shownAll_map xs]
    rfl
theorem sho_map {α : Type} {n : Nat} {g : α → PyData} {f : α → Nat} {xs : List α} (h : ∀ x ∈ xs, Sho n (f x) (g x)) : Sho (n + 1) ((xs.map fun x => f x + 2).sum + 5) (.list (xs.map g)) := by
  have up : ∀ y ∈ xs.map g, ∃ x, x ∈ xs ∧ g x = y := fun y hy => List.mem_map.mp hy
  refine ⟨?_, ?_, ?_, ?_⟩
  · have := all_depth (xs := xs.map g) (n := n) fun y hy => by
      obtain ⟨x, hx, rfl⟩ := up y hy
      exact (h x hx).dp
    show PyData.depthAll (xs.map g) + 1 ≤ _
    omega
  · show (listText (PyData.shownAll (xs.map g))).length ≤ _
    have l1 := listText_len_le (PyData.shownAll (xs.map g))
    rw [shownAll_map, List.map_map, List.map_map, List.length_map] at l1
    have l2 : (xs.map ((fun x => x.length) ∘ PyData.shown ∘ g)).sum + 2 * xs.length ≤ (xs.map fun x => f x + 2).sum := by
      clear l1 up
      induction xs with
      | nil => exact Nat.le_refl _
      | cons x xs ih =>
        have := ih fun y hy => h y (List.mem_cons_of_mem _ hy)
        have := (h x List.mem_cons_self).ln
        rw [List.map_cons, List.map_cons, List.sum_cons, List.sum_cons, List.length_cons]
        show (g x).shown.length + _ + _ ≤ _
        omega
    rw [shownAll_map, List.map_map]
    omega
  · exact all_showable fun y hy => by
      obtain ⟨x, hx, rfl⟩ := up y hy
      exact (h x hx).sb
  · exact all_nodict fun y hy => by
      obtain ⟨x, hx, rfl⟩ := up y hy
      exact (h x hx).nd
def zI (x : Int) : Nat := (PyData.int x).shown.length
theorem zI_le {x : Int} {k : Nat} (hk : 0 < k) (h : x.natAbs < 10 ^ k) : zI x ≤ k + 1 := by
  show (Str.ofString (toString x)).length ≤ _
  rw [PySem.ofString_length]
  exact int_text_length_le10 hk h
theorem sho_int {x : Int} (h : x.natAbs < 10 ^ 30) : Sho 0 (zI x) (.int x) := ⟨Nat.le_refl _, Nat.le_refl _, decide_eq_true (by
  have h2 : x.natAbs < 2 ^ 100 := Nat.lt_trans h (by decide)
  rcases Nat.eq_zero_or_pos x.natAbs with z | z
  · rw [z]; decide
  · have := (Nat.log2_lt (n := x.natAbs) (k := 100) (by omega)).mpr h2
    omega), rfl⟩
def zz (l : List Int) : Nat := (l.map fun x => zI x + 2).sum + 5
def zL (L : List (List Int)) : Nat := (L.map fun l => zz l + 2).sum + 5
def zR (R : List (List (List Int))) : Nat := (R.map fun L => zL L + 2).sum + 5
theorem sum_le {α : Type} {f : α → Nat} {m : Nat} : ∀ {xs : List α}, (∀ x ∈ xs, f x ≤ m) → (xs.map f).sum ≤ xs.length * m
  | [], _ => by rw [List.map_nil, List.sum_nil]; omega
  | x :: xs, h => by
    have h1 := h x List.mem_cons_self
    have h2 := sum_le fun y hy => h y (List.mem_cons_of_mem x hy)
    rw [List.map_cons, List.sum_cons, List.length_cons, Nat.succ_mul]
    omega
theorem len_le_sum {α : Type} {f : α → Nat} : ∀ (xs : List α), xs.length ≤ (xs.map fun x => f x + 2).sum
  | [] => Nat.le_refl _
  | x :: xs => by
    have := len_le_sum (f := f) xs
    rw [List.map_cons, List.sum_cons, List.length_cons]
    omega
theorem zz_len (l : List Int) : l.length ≤ zz l := by
  have := len_le_sum (f := zI) l
  unfold zz
  omega
theorem zL_len (L : List (List Int)) : L.length ≤ zL L := by
  have := len_le_sum (f := zz) L
  unfold zL
  omega
section
variable {α : Type} (f : α → Nat)
theorem sm_app (a b : List α) : ((a ++ b).map f).sum = (a.map f).sum + (b.map f).sum := by rw [List.map_append, List.sum_append]
theorem sm_ins (xs : List α) (i : Nat) (y : α) : ((xs.take i ++ [y] ++ xs.drop i).map f).sum = (xs.map f).sum + f y := by
  have e : (xs.map f).sum = ((xs.take i).map f).sum + ((xs.drop i).map f).sum := by rw [← sm_app, List.take_append_drop]
  rw [sm_app, sm_app, e]
  show _ + (f y + 0) + _ = _
  omega
theorem sm_set : ∀ (xs : List α) (i : Nat) (o y : α), xs[i]? = some o → ((xs.set i y).map f).sum + f o = (xs.map f).sum + f y
  | [], _, _, _, h => nomatch h
  | x :: xs, 0, o, y, h => by
    cases h
    rw [List.set_cons_zero, List.map_cons, List.map_cons, List.sum_cons, List.sum_cons]
    omega
  | x :: xs, i + 1, o, y, h => by
    have := sm_set xs i o y (by simpa using h)
    rw [List.set_cons_succ, List.map_cons, List.map_cons, List.sum_cons, List.sum_cons]
    omega
theorem sm_erase : ∀ (xs : List α) (i : Nat), ((xs.eraseIdx i).map f).sum ≤ (xs.map f).sum
  | [], _ => Nat.le_refl _
  | x :: xs, 0 => by
    rw [List.eraseIdx_cons_zero, List.map_cons, List.sum_cons]
    omega
  | x :: xs, i + 1 => by
    have := sm_erase xs i
    rw [List.eraseIdx_cons_succ, List.map_cons, List.map_cons, List.sum_cons, List.sum_cons]
    omega
theorem sm_rev (xs : List α) : ((xs.reverse).map f).sum = (xs.map f).sum := by
  rw [List.map_reverse, List.sum_reverse]
end
/-- lists of whole numbers, bent so many times -/
structure Bk (b : Nat) (L : List (List Int)) : Prop where
  cell : ∀ l ∈ L, zz l ≤ 1300 + 40 * b ∧ ∀ x ∈ l, x.natAbs < 10 ^ 30
  tot : zL L ≤ 260000 + 4500 * b
theorem Bk.up {b c : Nat} {L : List (List Int)} (h : Bk b L) (hc : b ≤ c) : Bk c L := ⟨fun l hl => ⟨by have := (h.cell l hl).1; omega, (h.cell l hl).2⟩, by have := h.tot; omega⟩
theorem Bk.base {L : List (List Int)} {m : Nat} (hm : m ≤ 200) (h : ∀ l ∈ L, l.length ≤ m ∧ ∀ x ∈ l, 0 ≤ x ∧ x < 1000) (ht : L.length * (6 * m + 7) ≤ 259000) : Bk 0 L := by
  have z : ∀ l ∈ L, zz l ≤ 6 * m + 5 := fun l hl => by
    obtain ⟨h1, h2⟩ := h l hl
    have := sum_le (f := fun x => zI x + 2) (m := 6) (xs := l) fun x hx => by
      have := h2 x hx
      have := zI_le (x := x) (k := 3) (by decide) (by omega)
      omega
    unfold zz
    omega
  have e : (10 : Nat) ^ 30 = 1000000000000000000000000000000 := by decide
  refine ⟨fun l hl => ⟨by have := z l hl; omega, fun x hx => by have := (h l hl).2 x hx; rw [e]; omega⟩, ?_⟩
  have := sum_le (f := fun l => zz l + 2) (m := 6 * m + 7) (xs := L) fun l hl => by have := z l hl; omega
  unfold zL
  omega
theorem zI31 {x : Int} (h : x.natAbs < 10 ^ 30) : zI x ≤ 31 := zI_le (by decide) h
theorem Bk.put {b j : Nat} {L : List (List Int)} {l l' : List Int} (h : Bk b L) (hj : L[j]? = some l) (hz : zz l' ≤ zz l + 40) (hx : ∀ x ∈ l', x.natAbs < 10 ^ 30) : Bk (b + 1) (L.set j l') := by
  have hl := h.cell l (List.mem_of_getElem? hj)
  refine ⟨fun m hm => ?_, ?_⟩
  · rcases List.mem_or_eq_of_mem_set hm with hm | rfl
    · have := h.cell m hm
      exact ⟨by omega, this.2⟩
    · exact ⟨by omega, hx⟩
  · have := sm_set (fun l => zz l + 2) L j l l' hj
    have := h.tot
    unfold zL at this ⊢
    omega
theorem Bk.ins {b i : Nat} {L : List (List Int)} {l : List Int} (h : Bk b L) (hz : zz l ≤ 1300 + 40 * b) (hb : b ≤ 78) (hx : ∀ x ∈ l, x.natAbs < 10 ^ 30) : Bk (b + 1) (L.take i ++ [l] ++ L.drop i) := by
  refine ⟨fun m hm => ?_, ?_⟩
  · have : m ∈ L ∨ m = l := by
      rcases List.mem_append.mp hm with hm | hm
      · rcases List.mem_append.mp hm with hm | hm
        · exact .inl (List.mem_of_mem_take hm)
        · exact .inr (List.mem_singleton.mp hm)
      · exact .inl (List.mem_of_mem_drop hm)
    rcases this with hm | rfl
    · have := h.cell m hm
      exact ⟨by omega, this.2⟩
    · exact ⟨by omega, hx⟩
  · have := sm_ins (fun l => zz l + 2) L i l
    have := h.tot
    unfold zL at this ⊢
    omega
theorem Bk.snoc {b : Nat} {L : List (List Int)} {l : List Int} (h : Bk b L) (hz : zz l ≤ 1300 + 40 * b) (hb : b ≤ 78) (hx : ∀ x ∈ l, x.natAbs < 10 ^ 30) : Bk (b + 1) (L ++ [l]) := by
  have := h.ins (i := L.length) hz hb hx
  rwa [List.take_length, List.drop_length, List.append_nil] at this
theorem Bk.out {b i : Nat} {L : List (List Int)} (h : Bk b L) : Bk b (L.eraseIdx i) := ⟨fun m hm => h.cell m (List.mem_of_mem_eraseIdx hm), by
  have := sm_erase (fun l => zz l + 2) L i
  have := h.tot
  unfold zL at this ⊢
  omega⟩
theorem Bk.rev {b : Nat} {L : List (List Int)} (h : Bk b L) : Bk b L.reverse := ⟨fun m hm => h.cell m (List.mem_reverse.mp hm), by
  have := sm_rev (fun l => zz l + 2) L
  have := h.tot
  unfold zL at this ⊢
  omega⟩
section
variable {K : PySem.W.Frag}
theorem Bk.sho {b : Nat} {L : List (List Int)} (h : Bk b L) : Sho 2 (zL L) (ToD.toD K L) :=
  sho_map (f := zz) (n := 1) fun l hl => sho_map (f := zI) (n := 0) fun x hx => sho_int ((h.cell l hl).2 x hx)
theorem Bk.okd {b n : Nat} {L : List (List Int)} (h : Bk b L) (hb : b ≤ 100) : okd (n + 2) (ToD.toD K L) = true := okd_map (by have := zL_len L; have := h.tot; omega) fun l hl => okd_ints (by have := zz_len l; have := (h.cell l hl).1; omega)
end


/-! ### lists of whole numbers compared, sorted, shown -/
theorem eqvAll_ints : ∀ xs ys : List Int, PyData.eqvAll (xs.map PyData.int) (ys.map PyData.int) = decide (xs = ys)
  | [], [] => rfl
  | [], _ :: _ => rfl
  | _ :: _, [] => rfl
  | x :: xs, y :: ys => by
    rw [List.map_cons, List.map_cons]
    show (PyData.eqv (.int x) (.int y) && PyData.eqvAll _ _) = _
    rw [eqvAll_ints xs ys]
    show ((x == y) && _) = _
    by_cases h : x = y
    · subst h
      simp
    · simp [h]
theorem eqv_ints {K : PySem.W.Frag} (xs ys : List Int) : PyData.eqv (ToD.toD K xs) (ToD.toD K ys) = decide (xs = ys) := eqvAll_ints xs ys
theorem sorted_ext : ∀ {xs ys : List Int}, xs.Pairwise (· < ·) → ys.Pairwise (· < ·) → (∀ c, c ∈ xs ↔ c ∈ ys) → xs = ys
  | [], [], _, _, _ => rfl
  | [], y :: ys, _, _, h => absurd ((h y).mpr List.mem_cons_self) (by simp)
  | x :: xs, [], _, _, h => absurd ((h x).mp List.mem_cons_self) (by simp)
  | x :: xs, y :: ys, hx, hy, h => by
    obtain ⟨x1, x2⟩ := List.pairwise_cons.mp hx
    obtain ⟨y1, y2⟩ := List.pairwise_cons.mp hy
    have e : x = y := by
      rcases List.mem_cons.mp ((h x).mp List.mem_cons_self) with a | a
      · exact a
      · rcases List.mem_cons.mp ((h y).mpr List.mem_cons_self) with b | b
        · exact b.symm
        · have := x1 y b
          have := y1 x a
          omega
    subst e
    rw [sorted_ext x2 y2 fun c => ?_]
    constructor
    · intro hc
      rcases List.mem_cons.mp ((h c).mp (List.mem_cons_of_mem _ hc)) with a | a
      · have := x1 c hc
        omega
      · exact a
    · intro hc
      rcases List.mem_cons.mp ((h c).mpr (List.mem_cons_of_mem _ hc)) with a | a
      · have := y1 c hc
        omega
      · exact a
theorem nodup_le : ∀ {xs ys : List Int}, xs.Nodup → (∀ x ∈ xs, x ∈ ys) → xs.length ≤ ys.length
  | [], _, _, _ => Nat.zero_le _
  | x :: xs, ys, nd, s => by
    obtain ⟨n1, n2⟩ := List.nodup_cons.mp nd
    have hx := s x List.mem_cons_self
    have ih := nodup_le (ys := ys.erase x) n2 fun y hy => (List.mem_erase_of_ne (fun e : y = x => n1 (by rw [← e]; exact hy))).mpr (s y (List.mem_cons_of_mem _ hy))
    rw [List.length_erase_of_mem hx] at ih
    have : 0 < ys.length := List.length_pos_of_mem hx
    rw [List.length_cons]
    omega
structure Gd (r : List Int) : Prop where
  len : r.length ≤ 2000
  cell : ∀ x ∈ r, x.natAbs < 10 ^ 30
theorem Gd.sub {a b : List Int} (h : Gd b) (l : a.length ≤ 2000) (s : ∀ x ∈ a, x ∈ b) : Gd a := ⟨l, fun x hx => h.cell x (s x hx)⟩
section
variable {K : PySem.W.Frag}
theorem ints_ne {A B : Prop} {xs ys : List Int} (hx : xs.length ≤ 16000000) (hy : ys.length ≤ 16000000) (h1 : xs ≠ ys → A) (h2 : xs = ys → B) :
    (SeqAt.shaped (ToD.toD K xs) = true ∧ SeqAt.shaped (ToD.toD K ys) = true) ∧ if (!(ToD.toD K xs).eqv (ToD.toD K ys)) = true then A else B := by
  refine ⟨⟨shaped_of (n := 1) (okd_ints hx) (by decide), shaped_of (n := 1) (okd_ints hy) (by decide)⟩, ?_⟩
  rw [eqv_ints]
  refine ite_t (fun h => h1 ?_) fun h => h2 ?_
  · simpa using h
  · simpa using h
theorem Gd.shown {r : List Int} (h : Gd r) : okShown (ToD.toD K r) := by
  have s := sho_map (n := 0) (g := PyData.int) (f := fun _ => 31) (xs := r) fun x hx => (sho_int (h.cell x hx)).mono (Nat.le_refl _) (zI31 (h.cell x hx))
  refine Sho.ok s (by decide) ?_
  have l := h.len
  have e : (r.map fun _ => 31 + 2).sum ≤ 2000 * 33 := by
    have := sum_le (f := fun _ : Int => 31 + 2) (m := 33) (xs := r) fun _ _ => Nat.le_refl _
    have : r.length * 33 ≤ 2000 * 33 := Nat.mul_le_mul_right _ l
    omega
  omega
theorem int_short {x : Int} (h : x.natAbs < 10 ^ 30) : (PyData.int x).leavesShort 31 = true := decide_eq_true (zI31 h)
theorem w_int {x : Int} (h : x.natAbs < 10 ^ 30) : PyData.weight (.int x) ≤ 100 := by
  have h2 : x.natAbs < 2 ^ 100 := Nat.lt_trans h (by decide)
  show (if x == 0 then 0 else x.natAbs.log2 + 1) ≤ 100
  split
  · omega
  · rename_i q
    have z : x.natAbs ≠ 0 := fun z => by
      have : x = 0 := by omega
      subst this
      exact q rfl
    have := (Nat.log2_lt (n := x.natAbs) (k := 100) z).mpr h2
    omega
theorem shown_pair {x y : Int} (hx : x.natAbs < 10 ^ 30) (hy : y.natAbs < 10 ^ 30) : okShown (.tuple [.int x, .int y]) := by
  have sx := sho_int hx
  have sy := sho_int hy
  have l := PyData.shown_le 31 (by decide) (.tuple [.int x, .int y]) (by
    show (PyData.leavesShort 31 (.int x) && (PyData.leavesShort 31 (.int y) && true)) = true
    rw [int_short hx, int_short hy]
    rfl)
  refine ⟨?_, ?_, ?_, ?_⟩
  · show PyData.showableAll [.int x, .int y] = true
    exact all_showable fun z hz => by
      simp only [List.mem_cons, List.not_mem_nil, or_false] at hz
      rcases hz with rfl | rfl
      · exact sx.sb
      · exact sy.sb
  · rfl
  · have d : PyData.depth (.tuple [.int x, .int y]) = 1 := rfl
    rw [d]
    decide
  · rw [sizeLine_eq]
    have w : PyData.weight (.tuple [.int x, .int y]) = PyData.weight (.int x) + 1 + (PyData.weight (.int y) + 1 + 0) := rfl
    have := w_int hx
    have := w_int hy
    omega
theorem strok_of (s : String) : PyData.strOk (Str.ofString s) = true := by
  rw [Str.ofString_eq_toList]
  unfold PyData.strOk
  rw [← Array.all_toList, List.all_eq_true]
  intro c hc
  obtain ⟨d, _, rfl⟩ := List.mem_map.mp (show c ∈ s.toList.map Char.toNat from hc)
  refine decide_eq_true ?_
  rcases d.valid with h | h
  · have h : d.toNat < 0xd800 := h
    omega
  · exact h.2
theorem strok_app (a b : Str) : PyData.strOk (a ++ b) = (PyData.strOk a && PyData.strOk b) := by
  unfold PyData.strOk
  rw [Str.cps_append, Array.all_append]
theorem shown_pair_ok (x y : Int) : PyData.strOk (PyData.shown (.tuple [.int x, .int y])) = true := by
  show PyData.strOk (Str.ofString "(" ++ (Str.ofString (toString x) ++ Str.ofString ", " ++ Str.ofString (toString y)) ++ Str.ofString ")") = true
  simp only [strok_app, strok_of, Bool.and_self]
theorem okd_str {n : Nat} {x : Str} (h : PyData.strOk x = true) : okd n (.str x) = true := by
  have e : SeqAt.shaped (.str x) = true := by
    unfold SeqAt.shaped
    rw [Bool.and_eq_true]
    exact ⟨h, rfl⟩
  cases n <;> (unfold okd; exact e)
end


section
variable {K : PySem.W.Frag}
theorem same_ne' {α : Type} [Rp K α] [ToD K α] {A B : Prop} {n : Nat} {x : α} (ho : okd n (ToD.toD K x) = true) (hn : n ≤ 60) (h : B) : (SeqAt.shaped (ToD.toD K x) = true ∧ SeqAt.shaped (ToD.toD K x) = true) ∧ if (!(ToD.toD K x).eqv (ToD.toD K x)) = true then A else B := by
  refine ⟨⟨shaped_of ho hn, shaped_of ho hn⟩, ?_⟩
  rw [eqv_same ho]
  exact h
theorem same_eq' {α : Type} [Rp K α] [ToD K α] {A B : Prop} {n : Nat} {x : α} (ho : okd n (ToD.toD K x) = true) (hn : n ≤ 60) (h : A) : (SeqAt.shaped (ToD.toD K x) = true ∧ SeqAt.shaped (ToD.toD K x) = true) ∧ if (ToD.toD K x).eqv (ToD.toD K x) = true then A else B := by
  refine ⟨⟨shaped_of ho hn, shaped_of ho hn⟩, ?_⟩
  rw [eqv_same ho]
  exact h
end


theorem rangeI_inc (a : Int) (n : Nat) : (rangeI a n).Pairwise (· < ·) := by
  unfold rangeI
  rw [List.pairwise_map]
  refine List.Pairwise.imp ?_ List.pairwise_lt_range
  intro x y h
  omega
theorem at_range {n : Nat} {F : List Int} {p : Int} : ((rangeI 0 n).filter fun x => decide (plF F x.toNat = p)) = atF n F p := by
  refine inc_ext (List.Pairwise.filter _ (rangeI_inc _ _)) (atF_inc _ _ _) fun x => ?_
  rw [atF_mem, List.mem_filter, decide_eq_true_eq]
  constructor
  · rintro ⟨h1, h2⟩
    have := rangeI_mem h1
    exact ⟨x.toNat, by omega, h2, by omega⟩
  · rintro ⟨i, h1, h2, rfl⟩
    refine ⟨?_, h2⟩
    unfold rangeI
    exact List.mem_map.mpr ⟨i, List.mem_range.mpr h1, by omega⟩


section
variable {K : PySem.W.Frag}
theorem ladle_ok {n : Int} {Q : Int → Prop} (h : 1 ≤ n) (h2 : n < 1073741824) (hq : ∀ r, 0 ≤ r → r < n → Q r) : w__law_ladle K ((), n, ()) Q := ⟨n, rfl, ⟨h, h2⟩, hq⟩
theorem crock_ok (s : Scr) (k : Int) (hk : 0 ≤ k) (hk2 : k ≤ 63) (Q : List Int → Prop) (hQ : ∀ a b : Int, 0 ≤ b → b < 2 ^ 200 → Q [a, b, 0]) : w__law_crock K (s, k, ()) Q := by
  unfold w__law_crock
  delta cd__law_crock
  walk_at "dl"
  have p18 : CPow 10 18 := ⟨by omega, by omega, by decide⟩
  have p37 : CPow 10 37 := ⟨by omega, by omega, by decide⟩
  have key : ∀ y : Int, CPow 10 18 ∧ CPow 10 37 ∧ 0 < (10 : Int) ^ Int.toNat 37 + 43 ∧ CMulA (y % (10 ^ Int.toNat 37 + 43)) 64 ∧
      Q [imax 0 (iabs y - 10 ^ Int.toNat 18), y % (10 ^ Int.toNat 37 + 43) * 64 + k, 0] := fun y => by
    have e : ((10 : Int) ^ Int.toNat 37 + 43) = 10000000000000000000000000000000000043 := by decide
    rw [e]
    have h1 := Int.emod_nonneg y (show (10000000000000000000000000000000000043 : Int) ≠ 0 by decide)
    have h2 := Int.emod_lt_of_pos y (show (0 : Int) < 10000000000000000000000000000000000043 by decide)
    refine ⟨p18, p37, by decide, .inl (.inr ⟨by decide, by decide⟩), hQ _ _ (by omega) ?_⟩
    have : (2 : Int) ^ 200 = 1606938044258990275541962092341162602522202993782792835301376 := by decide
    omega
  refine eq1 (ite_t (fun h => ?_) fun _ => key _)
  obtain ⟨x, e, _⟩ := atI_at hk (of_decide_eq_true h)
  exact ⟨x, e, eq1 (key _)⟩
theorem crock_tk (a b : Int) (h0 : 0 ≤ b) (h1 : b < 2 ^ 200) : P.Tk 0 (.lst ([a, b, 0].map V.int)) := ⟨a, b, 0, rfl, h0, h1, by decide⟩
theorem walked_ok {n : Int} {F : List Int} (n1 : 0 ≤ n) (n2 : n ≤ 100000) (Q : T3 (List Int) Int Int → Prop) (hQ : Q ⟨(List.range n.toNat).map (plF F), plF F n.toNat, wayF F n.toNat⟩) : w__law_walked K (n, F, ()) Q := by
  unfold w__law_walked
  delta cd__law_walked
  walk_at "dl"
  refine eq3 ⟨rg62 (by omega) (by omega), ?_⟩
  refine wfor_inv _ (fun i γ => γ = (n, F, (List.range i).map (plF F), plF F i, wayF F i, (), ())) rfl ?_ ?_
  · rintro i x _ nx hx rfl hn
    obtain ⟨rfl, hi⟩ := rangeI_get hx
    rw [Int.zero_add]
    have e : (List.range (i + 1)).map (plF F) = (List.range i).map (plF F) ++ [plF F i] := by rw [List.range_succ, List.map_append]; rfl
    rw [e, plF_succ, wayF_succ] at hn
    refine ⟨sz' (by rw [mapr_len]; omega), ite_t (fun q => ?_) fun q => ?_⟩
    · have q : (i : Int) ∈ F := of_decide_eq_true q
      rw [if_pos q, if_pos q] at hn
      refine eq1 (hn _ ?_)
      rw [Int.zero_sub]
    · have q : ¬ (i : Int) ∈ F := of_decide_eq_false q
      rw [if_neg q, if_neg q] at hn
      exact eq1 (hn _ rfl)
  · rintro _ rfl
    rw [rangeI_len]
    exact hQ
theorem is_size_ok {n : Int} (n1 : 2 ≤ n) (n2 : n ≤ 200) (n3 : n % 2 = 0) (Q : Bool → Prop) (hQ : Q true) : w_is_size K (n, ()) Q := by
  unfold w_is_size
  delta cd_is_size
  walk_at "dl"
  refine ite_t (fun _ => ite_t (fun _ => ite_t (fun _ => ite_t (fun _ => ⟨pos2, ?_⟩) fun z => ?_) fun z => ?_) fun z => ?_) fun z => ?_
  · rw [decide_eq_true n3]
    exact hQ
  · exact absurd n2 (of_decide_eq_false z)
  · exact absurd n1 (of_decide_eq_false z)
  · exact nomatch (show false = true from by cases z)
  · exact nomatch (show false = true from by cases z)
theorem is_rising_ok {n : Int} {xs : List Int} (hl : xs.length ≤ 16000) (up : xs.Pairwise (· < ·)) (rg : ∀ x ∈ xs, 0 ≤ x ∧ x < n) (Q : Bool → Prop) (hQ : Q true) : w_is_rising K (xs, n, ()) Q := by
  unfold w_is_rising
  delta cd_is_rising
  walk_at "dl"
  refine ⟨sz (by omega), wlc_map (fun _ => true) _ _ (fun _ _ _ hk => hk) (fun x hx k hk => ?_) ?_⟩
  · obtain ⟨h1, h2⟩ := rg x hx
    refine ite_t (fun _ => ite_t (fun _ => ?_) fun z => ?_) fun z => ?_
    · rw [decide_eq_true h2]
      exact hk
    · exact absurd h1 (of_decide_eq_false z)
    · exact nomatch (show false = true from by cases z)
  · have al : ([] ++ xs.map fun _ => true).all id = true := by
      rw [List.nil_append, List.all_map, List.all_eq_true]
      exact fun _ _ => rfl
    rw [al]
    refine ite_t (fun z => nomatch z) fun _ => ?_
    rw [cutL_from _ (by decide), show xs.zip (xs.drop (Int.toNat 1)) = zp xs from rfl]
    have zl := zp_len xs
    refine ⟨sz (by omega), wlc_map (fun p : Int × Int => decide (p.1 < p.2)) _ _ (fun _ _ _ hk => hk) (fun _ _ _ hk => hk) ?_⟩
    have al : ([] ++ (zp xs).map fun p : Int × Int => decide (p.1 < p.2)).all id = true := by
      rw [List.nil_append, List.all_map, List.all_eq_true]
      exact fun p hp => decide_eq_true (pw_zp up p hp)
    rw [al]
    exact hQ
theorem spot_at {n : Nat} {F : List Int} {x : Int} (h0 : 0 ≤ x) (h1 : x < n) {R : Int → Prop} (hR : R (plF F x.toNat)) : ∃ y, atI ((List.range n).map (plF F)) x = some y ∧ R y := by
  obtain ⟨y, e, h⟩ := atI_at (xs := (List.range n).map (plF F)) h0 (by rw [mapr_len]; exact h1)
  rw [mapr_get (by omega)] at h
  exact ⟨y, e, Option.some.inj h ▸ hR⟩
end

-- uses: base odd zpp foldp sizes ints same rangei ringw
theorem wlc_sub {tst : Int → (Bool → Prop) → Prop} {Q : List Int → Prop} : ∀ (xs acc : List Int), (∀ x ∈ xs, ∀ k : Bool → Prop, (∀ b, k b) → tst x k) → (∀ ys, ys.Sublist xs → Q (acc ++ ys)) → wLcL tst (fun x Q => Q x) Q xs acc
  | [], acc, _, h => by
    have := h [] (List.Sublist.refl _)
    rw [List.append_nil] at this
    exact this
  | x :: xs, acc, ht, h => by
    refine ht x List.mem_cons_self _ fun b => ?_
    refine ite_t (fun _ => ?_) fun _ => ?_
    · exact wlc_sub xs (acc ++ [x]) (fun z hz => ht z (List.mem_cons_of_mem _ hz)) fun ys s => by
        rw [List.append_assoc]
        exact h (x :: ys) (s.cons_cons x)
    · exact wlc_sub xs acc (fun z hz => ht z (List.mem_cons_of_mem _ hz)) fun ys s => h ys (s.cons x)
theorem sIx_back {n d : Nat} : HT.sIx n d (some (-1)) = n - 1 := by
  show (if (-1 : Int) < 0 then (-1 + (n : Int)).toNat else min (-1 : Int).toNat n) = n - 1
  rw [if_pos (by decide)]
  omega
theorem cutL_init {α : Type} (xs : List α) (x : α) : cutL (xs ++ [x]) none (some (-1)) = xs := by
  unfold cutL
  rw [sIx_back, HT.sIx_none, List.drop_zero, List.length_append]
  show (xs ++ [x]).take (xs.length + 1 - 1 - 0) = xs
  rw [Nat.sub_zero, Nat.add_sub_cancel, List.take_left]
theorem cutL_end {α : Type} (xs : List α) (x : α) : cutL (xs ++ [x]) (some (-1)) none = [x] := by
  unfold cutL
  rw [sIx_back, HT.sIx_none, List.length_append]
  show ((xs ++ [x]).drop (xs.length + 1 - 1)).take (xs.length + 1 - (xs.length + 1 - 1)) = [x]
  rw [Nat.add_sub_cancel, List.drop_left, Nat.add_sub_cancel_left]
  rfl
/-- what may be pleated round -/
structure Rw1 (n : Int) (F : List Int) : Prop where
  up : F.Pairwise (· < ·)
  rg : ∀ x ∈ F, 0 ≤ x ∧ x < n
theorem Rw1.sub {n : Int} {F G : List Int} (h : Rw1 n F) (s : G.Sublist F) : Rw1 n G := ⟨h.up.sublist s, fun x hx => h.rg x (s.subset hx)⟩
theorem rw_range {n : Int} (n0 : 0 ≤ n) : Rw1 n (rangeI 0 n.toNat) := ⟨rangeI_inc _ _, fun x hx => by
  have := rangeI_mem hx
  omega⟩
theorem Rw1.len {n : Int} {F : List Int} (h : Rw1 n F) (n0 : 0 ≤ n) : F.length ≤ n.toNat := by
  have nd : F.Nodup := h.up.imp fun h => by omega
  have := nodup_le nd (ys := rangeI 0 n.toNat) fun x hx => by
    obtain ⟨h1, h2⟩ := h.rg x hx
    refine List.mem_of_getElem? (i := x.toNat) ?_
    have hl : x.toNat < (rangeI 0 n.toNat).length := by rw [rangeI_len]; omega
    rw [List.getElem?_eq_getElem hl]
    have := rangeI_get (List.getElem?_eq_getElem hl)
    rw [this.1]
    congr 1
    omega
  rw [rangeI_len] at this
  exact this
/-- sizes of rings -/
def Sz (n : Int) : Prop := 2 ≤ n ∧ n ≤ 200 ∧ n % 2 = 0
/-- foldings of rings -/
def RF (n : Int) (F : List Int) : Prop := Sz n ∧ Rw1 n F ∧ plF F n.toNat = 0 ∧ wayF F n.toNat = 1
theorem zp_not {xs : List Int} (h : ¬ xs.Pairwise (· < ·)) : ¬ ∀ p ∈ zp xs, p.1 < p.2 := fun z => h (zp_pw z)
section
variable {K : PySem.W.Frag}
theorem size_is {n : Int} (Q : Bool → Prop) (hQ : ∀ b, (b = true ↔ Sz n) → Q b) : w_is_size K (n, ()) Q := by
  unfold w_is_size
  delta cd_is_size
  walk_at "dl"
  have no : ¬ Sz n → Q false := fun h => hQ false ⟨(fun z => nomatch z), fun z => absurd z h⟩
  refine ite_t (fun _ => ite_t (fun _ => ite_t (fun h1 => ite_t (fun h2 => ⟨pos2, ?_⟩) fun z => ?_) fun z => ?_) fun z => ?_) fun z => ?_
  · refine hQ _ ?_
    rw [decide_eq_true_eq]
    exact ⟨fun z => ⟨of_decide_eq_true h1, of_decide_eq_true h2, z⟩, fun z => z.2.2⟩
  · exact no fun q => of_decide_eq_false z q.2.1
  · exact ite_t (fun z => nomatch z) fun _ => no fun q => of_decide_eq_false z q.1
  · exact nomatch (show false = true from by cases z)
  · exact nomatch (show false = true from by cases z)
theorem rising_is {n : Int} {xs : List Int} (hl : xs.length ≤ 16000) (Q : Bool → Prop) (hQ : ∀ b, (b = true ↔ Rw1 n xs) → Q b) : w_is_rising K (xs, n, ()) Q := by
  unfold w_is_rising
  delta cd_is_rising
  walk_at "dl"
  have no : ¬ Rw1 n xs → Q false := fun h => hQ false ⟨(fun z => nomatch z), fun z => absurd z h⟩
  refine ⟨sz (by omega), wlc_map (fun x => decide (0 ≤ x ∧ x < n)) _ _ (fun _ _ _ hk => hk) (fun x hx k hk => ?_) ?_⟩
  · refine ite_t (fun _ => ite_t (fun z => ?_) fun z => ?_) fun z => ?_
    · have z := of_decide_eq_true z
      rw [show decide (x < n) = decide (0 ≤ x ∧ x < n) from decide_eq_decide.mpr ⟨fun y => ⟨z, y⟩, fun y => y.2⟩]
      exact hk
    · have z := of_decide_eq_false z
      rw [decide_eq_false (p := 0 ≤ x ∧ x < n) (fun y => z y.1)] at hk
      exact hk
    · exact nomatch (show false = true from by cases z)
  · rw [List.nil_append]
    have al : ((xs.map fun x => decide (0 ≤ x ∧ x < n)).all id = true) ↔ ∀ x ∈ xs, 0 ≤ x ∧ x < n := by
      rw [List.all_map, List.all_eq_true]
      exact ⟨fun h x hx => of_decide_eq_true (h x hx), fun h x hx => decide_eq_true (h x hx)⟩
    refine ite_t (fun z => no fun q => ?_) fun z => ?_
    · rw [al.mpr q.rg] at z
      cases z
    · rw [Bool.not_eq_false'] at z
      rw [cutL_from _ (by decide), show xs.zip (xs.drop (Int.toNat 1)) = zp xs from rfl]
      have zl := zp_len xs
      refine ⟨sz (by omega), wlc_map (fun p : Int × Int => decide (p.1 < p.2)) _ _ (fun _ _ _ hk => hk) (fun _ _ _ hk => hk) (hQ _ ?_)⟩
      rw [List.nil_append, List.all_map, List.all_eq_true]
      exact ⟨fun h => ⟨zp_pw fun p hp => of_decide_eq_true (h p hp), al.mp z⟩, fun h p hp => decide_eq_true (pw_zp h.up p hp)⟩
theorem laid_ok {n : Int} {F : List Int} (n1 : 0 ≤ n) (n2 : n ≤ 100000) (fl : F.length ≤ 4000) (Q : T3 (List Int) Int Int → Prop) (hQ : Q ⟨(List.range n.toNat).map (plF F), plF F n.toNat, wayF F n.toNat⟩) : w_laid K (n, F, ()) Q := by
  unfold w_laid
  delta cd_laid
  walk_at "dl"
  refine eq1 (eq1 ⟨by show F.length < _; omega, eq1 ⟨rg62 (by omega) (by omega), ?_⟩⟩)
  refine wfor_inv _ (fun i γ => γ = (n, F, (List.range (i + 1)).map (plF F), wayF F i, ⟨F⟩, (), ())) rfl ?_ ?_
  · rintro i x _ nx hx rfl hn
    obtain ⟨rfl, hi⟩ := rangeI_get hx
    rw [Int.zero_add]
    have e : (List.range (i + 1)).map (plF F) = (List.range i).map (plF F) ++ [plF F i] := by rw [List.range_succ, List.map_append]; rfl
    have e2 : (List.range (i + 1 + 1)).map (plF F) = (List.range (i + 1)).map (plF F) ++ [plF F (i + 1)] := by rw [List.range_succ (n := i + 1), List.map_append]; rfl
    have la : atI ((List.range (i + 1)).map (plF F)) (-1) = some (plF F i) := by rw [e]; exact L2.atI_last _ _
    have ln : ((List.range (i + 1)).map (plF F)).length < sizeLine := by rw [mapr_len]; exact sz' (by omega)
    rw [e2, plF_succ, wayF_succ] at hn
    refine ite_t (fun q => ?_) fun q => ?_
    · have q : (i : Int) ∈ F := of_decide_eq_true q
      rw [if_pos q, if_pos q] at hn
      exact eq1 ⟨_, la, ln, hn _ rfl⟩
    · have q : ¬ (i : Int) ∈ F := of_decide_eq_false q
      rw [if_neg q, if_neg q] at hn
      exact ⟨_, la, ln, hn _ rfl⟩
  · rintro _ rfl
    rw [rangeI_len]
    have e : (List.range ((Int.toNat n) + 1)).map (plF F) = (List.range n.toNat).map (plF F) ++ [plF F n.toNat] := by rw [List.range_succ, List.map_append]; rfl
    show ∃ x, atI ((List.range ((Int.toNat n) + 1)).map (plF F)) (-1) = some x ∧ Q ⟨cutL ((List.range ((Int.toNat n) + 1)).map (plF F)) none (some (-1)), x, wayF F n.toNat⟩
    rw [e, cutL_init]
    exact ⟨_, L2.atI_last _ _, hQ⟩
theorem ring_is {n : Int} {F : List Int} (fl : F.length ≤ 4000) (Q : Bool → Prop) (hQ : ∀ b, (b = true ↔ RF n F) → Q b) : w_is_ring_folding K (n, F, ()) Q := by
  unfold w_is_ring_folding
  delta cd_is_ring_folding
  walk_at "dl"
  have no : ¬ RF n F → Q false := fun h => hQ false ⟨(fun z => nomatch z), fun z => absurd z h⟩
  refine size_is _ fun b hb => ite_t (fun z => ite_t (fun _ => no fun q => ?_) fun z => nomatch z) fun z => rising_is (by omega) _ fun c hc => ite_t (fun y => no fun q => ?_) fun y => ?_
  · rw [hb.mpr q.1] at z
    cases z
  · rw [hc.mpr q.2.1] at y
    cases y
  · rw [Bool.not_eq_false'] at y z
    have sz := hb.mp z
    have h2 := sz.2.1
    refine laid_ok (by have := sz.1; omega) (by omega) fl _ (eq1 ?_)
    refine ite_t (fun q => hQ _ ?_) fun q => no fun r => of_decide_eq_false q r.2.2.1
    rw [decide_eq_true_eq]
    exact ⟨fun w => ⟨sz, hc.mp y, of_decide_eq_true q, w⟩, fun w => w.2.2.2⟩
theorem places_ok {n : Int} {F : List Int} (fl : F.length ≤ 4000) (f : RF n F) (Q : List Int → Prop) (hQ : Q ((List.range n.toNat).map (plF F))) : w_ring_places K (n, F, ()) Q := by
  unfold w_ring_places
  delta cd_ring_places
  walk_at "dl"
  have h1 := f.1.1
  have h2 := f.1.2.1
  refine ring_is fl _ fun b hb => ?_
  rw [hb.mpr f]
  exact ite_t (fun z => nomatch z) fun _ => laid_ok (by omega) (by omega) fl _ hQ
theorem no_places_ok {n : Int} {F : List Int} (fl : F.length ≤ 4000) (f : ¬ RF n F) (Q : Bool → Prop) (hQ : Q true) : w__law_no_places K (n, F, ()) Q := by
  refine ⟨ring_is (by show F.length ≤ _; exact fl) _ fun b hb => ?_, hQ⟩
  cases b with
  | false => rfl
  | true => exact absurd (hb.mp rfl) f
theorem eqv_pr (b c : Int) : (ToD.toD K ((b, c) : Int × Int)).eqv (ToD.toD K ((0, 1) : Int × Int)) = (decide (b = 0) && decide (c = 1)) := by
  show ((b == 0) && ((c == 1) && true)) = _
  rw [Bool.and_true]
  rfl
theorem bools_shown (a b : Bool) : okShown (PyData.list [.bool a, .bool b]) := (shn_lst2 (shn_bool a) (shn_bool b)).ok (by decide) (by decide)
theorem places_gd {n : Int} (n2 : n ≤ 200) (F : List Int) : Gd ((List.range n.toNat).map (plF F)) := ⟨by rw [mapr_len]; omega, fun y hy => by
  have e30 : (10 : Nat) ^ 30 = 1000000000000000000000000000000 := by decide
  obtain ⟨i, hi, rfl⟩ := List.mem_map.mp hy
  have := pl_small F i
  have := List.mem_range.mp hi
  omega⟩
theorem judged_ok {n : Int} {F : List Int} (s : Sz n) (r : Rw1 n F) (Q : Bool → Prop) (hQ : Q true) : w__law_judged K (n, F, ()) Q := by
  have n1 := s.1
  have n2 := s.2.1
  have fl := r.len (by omega)
  have fl : F.length ≤ 4000 := by omega
  unfold w__law_judged
  delta cd__law_judged
  walk_at "dl"
  refine walked_ok (by omega) (by omega) _ (eq1 ⟨⟨rfl, rfl⟩, eq1 ?_⟩)
  rw [eqv_pr]
  have due : (decide (plF F n.toNat = 0) && decide (wayF F n.toNat = 1)) = true ↔ RF n F := by
    rw [Bool.and_eq_true, decide_eq_true_eq, decide_eq_true_eq]
    exact ⟨fun h => ⟨s, r, h⟩, fun h => h.2.2⟩
  generalize (decide (plF F n.toNat = 0) && decide (wayF F n.toNat = 1)) = d at due ⊢
  refine ring_is fl _ fun b hb => ring_is fl _ fun c hc => ?_
  have e1 : b = d := Bool.eq_iff_iff.mpr (hb.trans due.symm)
  have e2 : c = d := Bool.eq_iff_iff.mpr (hc.trans due.symm)
  subst e1 e2
  refine ⟨bools_shown c c, bools_shown c c, ?_⟩
  rw [show (!decide ((PyData.list [ToD.toD K c, ToD.toD K c]).shown = (PyData.list [ToD.toD K c, ToD.toD K c]).shown)) = false by
    rw [decide_eq_true rfl]; rfl]
  refine ite_t (fun z => nomatch z) fun _ => ?_
  delta cb__law_judged_2
  walk_at "dl"
  refine ite_t (fun z => no_places_ok fl (fun f => ?_) _ hQ) fun z => ?_
  · rw [due.mpr f] at z
    cases z
  rw [Bool.not_eq_false'] at z
  have f := due.mp z
  delta cb__law_judged_1
  walk_at "dl"
  have g := places_gd n2 F
  have gl := g.len
  refine places_ok fl f _ (eq1 ⟨g.shown, g.shown, ?_⟩)
  rw [decide_eq_true rfl]
  refine ite_t (fun z => nomatch z) fun _ => ⟨sz' (by omega), places_ok fl f _ ?_⟩
  refine ⟨⟨shaped_of (n := 1) (okd_ints (by omega)) (by decide), shaped_of (n := 1) (okd_ints (by omega)) (by decide)⟩, ?_⟩
  rw [eqv_ints, decide_eq_true rfl]
  exact hQ
theorem nil_same {α : Type} [Rp K α] [ToD K α] (f : α → PyData) (h : ToD.toD K ([] : List α) = .list []) (Q : Bool → Prop) (hQ : Q true) : (SeqAt.shaped (ToD.toD K ([] : List α)) = true ∧ SeqAt.shaped (ToD.toD K ([] : List α)) = true) ∧ Q ((ToD.toD K ([] : List α)).eqv (ToD.toD K ([] : List α))) := by
  rw [h]
  exact ⟨⟨rfl, rfl⟩, hQ⟩
theorem all_right_ok {n : Int} (s : Sz n) (n8 : n ≤ 8) (Q : Bool → Prop) (hQ : Q true) : w__law_all_right K (n, ()) Q := by
  unfold w__law_all_right
  delta cd__law_all_right
  walk_at "dl"
  have n1 := s.1
  refine eq1 ⟨rg62 (by omega) (by omega), ?_⟩
  refine wfor_inv _ (fun i γ => ∃ L : List (List Int), γ = (n, L, (), (), ()) ∧ L.length = 2 ^ i ∧ ∀ R ∈ L, R.Pairwise (· < ·) ∧ R.length ≤ i ∧ ∀ x ∈ R, 0 ≤ x ∧ x < i) ⟨_, rfl, rfl, fun R hR => by
    rw [List.mem_singleton.mp hR]
    exact ⟨.nil, Nat.le_refl _, fun _ z => nomatch z⟩⟩ ?_ ?_
  · rintro i x _ nx hx ⟨L, rfl, ll, h⟩ hn
    obtain ⟨rfl, hi⟩ := rangeI_get hx
    rw [Int.zero_add]
    have i8 : i < 8 := by omega
    have pw : 2 ^ i ≤ 2 ^ 8 := Nat.pow_le_pow_right (by decide) (by omega)
    have e8 : 2 ^ 8 = 256 := by decide
    refine ⟨sz (by show L.length ≤ _; omega), wlc_map (fun R => R ++ [(i : Int)]) _ _ (fun _ _ _ hk => hk) (fun R hR k hk => ⟨sz (by have := (h R hR).2.1; show _ + 1 ≤ _; omega), hk⟩) ?_⟩
    rw [List.nil_append]
    refine ⟨sz (by rw [List.length_map]; show L.length + L.length ≤ _; omega), eq1 (hn _ ⟨_, rfl, by rw [List.length_append, List.length_map, ll, Nat.pow_succ]; omega, fun R hR => ?_⟩)⟩
    rcases List.mem_append.mp hR with hR | hR
    · obtain ⟨h1, h2, h3⟩ := h R hR
      exact ⟨h1, by omega, fun x hx => by have := h3 x hx; omega⟩
    · obtain ⟨S, hS, rfl⟩ := List.mem_map.mp hR
      obtain ⟨h1, h2, h3⟩ := h S hS
      refine ⟨List.pairwise_append.mpr ⟨h1, List.pairwise_singleton _ _, fun a ha b hb => ?_⟩, by rw [List.length_append]; show _ + 1 ≤ _; omega, fun x hx => ?_⟩
      · rw [List.mem_singleton.mp hb]
        exact (h3 a ha).2
      · rcases List.mem_append.mp hx with hx | hx
        · have := h3 x hx
          omega
        · rw [List.mem_singleton.mp hx]
          omega
  · rintro _ ⟨L, rfl, ll, h⟩
    rw [rangeI_len] at ll h
    have n8' : (Int.toNat n) ≤ 8 := by omega
    have pw : 2 ^ (Int.toNat n) ≤ 2 ^ 8 := Nat.pow_le_pow_right (by decide) n8'
    have e8 : 2 ^ 8 = 256 := by decide
    refine ⟨sz (by show L.length ≤ _; omega), wlc_filter (fun _ => false) (fun R => R) _ _ (fun R hR k hk => ?_) (fun _ _ z => nomatch z) ?_⟩
    · obtain ⟨h1, h2, h3⟩ := h R hR
      exact judged_ok s ⟨h1, fun x hx => by have := h3 x hx; omega⟩ _ hk
    · rw [show L.filter (fun _ => false) = [] from List.filter_eq_nil_iff.mpr fun _ _ => by simp]
      exact ⟨⟨rfl, rfl⟩, hQ⟩
theorem size_ok (Q : Int → Prop) (hQ : ∀ r, Sz r → Q r) : w__law_size K ((), ()) Q := by
  unfold w__law_size
  delta cd__law_size
  walk_at "dl"
  have m2 : ∀ x : Int, CMulA 2 x := fun x => .inl (.inl ⟨by decide, by decide⟩)
  refine ladle_ok (by decide) (by decide) fun a a0 a1 => ⟨m2 _, ladle_ok (by decide) (by decide) fun b b0 b1 => ⟨m2 _, ladle_ok (by decide) (by decide) fun c c0 c1 => ⟨m2 _, eq1 (ladle_ok (by decide) (by decide) fun i i0 i1 => ?_)⟩⟩⟩
  refine atI_all i0 i1 fun x hx => ?_
  simp only [List.mem_cons, List.not_mem_nil, or_false] at hx
  exact hQ x ⟨by omega, by omega, by omega⟩
theorem wpop_len {α Γ : Type} {wx : α → Γ → (Int → Prop) → Prop} {a : Γ → List Int} {p : Γ → List Int → Γ} {N : Γ → List Int → Prop} (I : Γ → Prop) (hp : ∀ γ l, I γ → I (p γ l)) (ha : ∀ γ l, a (p γ l) = l) (hx : ∀ x γ (Q : Int → Prop), I γ → 1 ≤ (a γ).length → (a γ).length ≤ 1000 → (∀ i : Int, 0 ≤ i → i < (a γ).length → Q i) → wx x γ Q) :
    ∀ (xs : List α) (γ : Γ) (acc : List Int), I γ → xs.length ≤ (a γ).length → (a γ).length ≤ 1000 → (∀ γ' ys, I γ' → ys.length = acc.length + xs.length → N γ' ys) → wPopL wx a p N xs γ acc
  | [], γ, acc, i0, _, _, h => h γ acc i0 rfl
  | x :: xs, γ, acc, i0, hl, h1, h => by
    rw [List.length_cons] at hl
    refine hx x γ _ i0 (by omega) h1 fun i i0' i1 => ⟨⟨i0', i1⟩, fun v hv => ?_⟩
    refine wpop_len I hp ha hx xs _ _ (hp _ _ i0) ?_ ?_ fun γ' ys ig hy => h γ' ys ig ?_
    · rw [ha, List.length_eraseIdx, if_pos (by omega)]
      omega
    · rw [ha, List.length_eraseIdx, if_pos (by omega)]
      omega
    · simp only [List.length_append, List.length_cons, List.length_nil] at hy ⊢
      omega
theorem rep_len (k : Nat) (l : List Int) : (List.replicate k l).flatten.length = k * l.length := by
  rw [List.length_flatten, List.map_replicate, List.sum_replicate_nat]
theorem closed_ok {n : Int} (s : Sz n) (Q : List Int → Prop) (hQ : ∀ F, Rw1 n F → Q F) : w__law_closed K ((), n, ()) Q := by
  unfold w__law_closed
  delta cd__law_closed
  walk_at "dl"
  have n1 := s.1
  have n2 := s.2.1
  have n3 := s.2.2
  have d2 : CDiv n 2 := ⟨by decide, by decide⟩
  have l1 : (List.replicate (n / 2 - 1).toNat [(1 : Int)]).flatten.length = (n / 2 - 1).toNat := by rw [rep_len]; show _ * 1 = _; omega
  have l2 : (List.replicate (n / 2).toNat [(0 : Int) - 1]).flatten.length = (n / 2).toNat := by rw [rep_len]; show _ * 1 = _; omega
  have l3 : (List.replicate (n / 2 - 1).toNat [(0 : Int) - 1, 1]).flatten.length = (n / 2 - 1).toNat * 2 := by rw [rep_len]; rfl
  have last : ∀ y : List Int, y.length = n.toNat - 1 → [(1 : Int)].length + y.length ≤ sizeLine ∧ ∀ z : List Int, z = [1] ++ y → (-2 ^ 62 ≤ n ∧ n < 2 ^ 62) ∧ (rangeI 0 n.toNat).length ≤ sizeLine ∧
      wLcL (fun (x : Int) (k : Bool → Prop) => ∃ a, atI z x = some a ∧ (0 < n ∧ ∃ b, atI z ((x + 1) % n) = some b ∧ k (!decide (a = b))))
        (fun x Q => Q x) Q (rangeI 0 n.toNat) [] := by
   intro y hy
   refine ⟨sz (by show 1 + _ ≤ _; omega), fun z hz => ⟨rg62 (by omega) (by omega), sz (by rw [rangeI_len]; omega), wlc_sub _ _ (fun k hk c hc => ?_) fun ys ss => hQ _ (by rw [List.nil_append]; exact (rw_range (by omega)).sub ss)⟩⟩
   have zl : z.length = n.toNat := by rw [hz, List.length_append]; show 1 + _ = _; omega
   obtain ⟨k0, k1⟩ := rangeI_mem hk
   obtain ⟨x, ex, _⟩ := atI_at (xs := z) (i := k) k0 (by omega)
   have m0 := Int.emod_nonneg (k + 1) (show n ≠ 0 by omega)
   have m1 := Int.emod_lt_of_pos (k + 1) (show 0 < n by omega)
   obtain ⟨w, ew, _⟩ := atI_at (xs := z) (i := (k + 1) % n) m0 (by omega)
   exact ⟨x, ex, by show 0 < n; omega, w, ew, hc _⟩
  refine ⟨d2, ⟨by omega, by omega, sz (by show 1 * _ ≤ _; omega)⟩, d2, ⟨by omega, by omega, sz (by show 1 * _ ≤ _; omega)⟩, sz (by rw [l1, l2]; omega), fun y ey => ⟨d2, ⟨by omega, by omega, sz (by show 2 * _ ≤ _; omega)⟩, sz (by rw [l3]; show _ + 1 ≤ _; omega), ?_⟩⟩
  have yl : y.length = n.toNat - 1 := by rw [ey, List.length_append, l1, l2]; omega
  refine ladle_ok (by decide) (by decide) fun i i0 i1 => atI_all i0 i1 fun x hx => eq1 (ladle_ok (by decide) (by decide) fun a a0 a1 => ite_t (fun _ => ?_) fun _ => ?_)
  · refine ⟨rg62 (by omega) (by omega), sz (by rw [rangeI_len]; omega), ?_⟩
    refine wpop_len (fun γ => ∃ l, γ = ((), n, l, (), (), ())) (fun γ l ⟨_, e⟩ => ⟨l, by rw [e]⟩) (fun _ _ => rfl) (fun x γ R ⟨l, e⟩ h1 h2 hR => ?px) _ _ _ ⟨y, rfl⟩ (by rw [rangeI_len]; show _ ≤ y.length; omega) (by show y.length ≤ _; omega) fun γ' ys ⟨l, e⟩ hy => ?pn
    case px =>
      subst e
      exact ladle_ok (by show 1 ≤ (l.length : Int); have h1 : 1 ≤ l.length := h1; omega) (by show (l.length : Int) < _; have h2 : l.length ≤ 1000 := h2; omega) fun i i0 i1 => hR i i0 i1
    case pn =>
      subst e
      refine eq1 (last ys ?_)
      rw [hy, rangeI_len]
      show 0 + _ = _
      omega
  · refine last x ?_
    simp only [List.mem_cons, List.not_mem_nil, or_false] at hx
    rcases hx with rfl | rfl | rfl
    · exact yl
    · rw [List.length_reverse]
      exact yl
    · rw [List.length_append, l3]
      show _ + 1 = _
      omega
theorem not_up {n : Int} {F : List Int} (h : ¬ F.Pairwise (· < ·)) : ¬ RF n F := fun f => h f.2.1.up
theorem not_rg {n x : Int} {F : List Int} (h : x ∈ F) (hx : x < 0 ∨ n ≤ x) : ¬ RF n F := fun f => by
  have := f.2.1.rg x h
  omega
theorem none_right_ok {n : Int} {F : List Int} (s : Sz n) (r : Rw1 n F) (l2 : 2 ≤ F.length) (Q : Bool → Prop) (hQ : Q true) : w__law_none_right K (n, F, ()) Q := by
  have n1 := s.1
  have n2 := s.2.1
  have fl := r.len (by omega)
  unfold w__law_none_right
  delta cd__law_none_right
  walk_at "dl"
  have p29 : CPow 10 29 := ⟨by omega, by omega, by decide⟩
  have e29 : (10 : Int) ^ Int.toNat 29 = 100000000000000000000000000000 := by decide
  obtain ⟨G, z, eF⟩ : ∃ G z, F = G ++ [z] := by
    rcases List.eq_nil_or_concat F with e | ⟨ys, z, e⟩
    · rw [e] at l2
      exact absurd l2 (by show ¬ 2 ≤ 0; omega)
    · exact ⟨ys, z, by rw [e, List.concat_eq_append]⟩
  have ce : cutL F (some (-1)) none = [z] := by rw [eF, cutL_end]
  rw [ce, e29]
  have up := r.up
  have a1 : ¬ F.reverse.Pairwise (· < ·) := fun h => by
    rw [List.pairwise_reverse] at h
    match F, l2, up, h with
    | a :: b :: t, _, up, h =>
      have u1 := (List.pairwise_cons.mp up).1 b List.mem_cons_self
      have u2 := (List.pairwise_cons.mp h).1 b List.mem_cons_self
      omega
  have a2 : ¬ (F ++ [z]).Pairwise (· < ·) := fun h => by
    have := (List.pairwise_append.mp h).2.2 z (by rw [eF]; exact List.mem_append.mpr (.inr List.mem_cons_self)) z List.mem_cons_self
    omega
  have mem2 : ∀ x : Int, x ∈ F ++ [x] := fun x => List.mem_append.mpr (.inr List.mem_cons_self)
  have all : ∀ R ∈ [F.reverse, F ++ [z], F ++ [n], [0 - 1] ++ F, F ++ [100000000000000000000000000000]], ¬ RF n R ∧ R.length ≤ 4000 := fun R hR => by
    simp only [List.mem_cons, List.not_mem_nil, or_false] at hR
    have ap : ∀ x : Int, (F ++ [x]).length ≤ 4000 := fun x => by rw [List.length_append]; show _ + 1 ≤ _; omega
    rcases hR with rfl | rfl | rfl | rfl | rfl
    · exact ⟨not_up a1, by rw [List.length_reverse]; omega⟩
    · exact ⟨not_up a2, ap _⟩
    · exact ⟨not_rg (mem2 n) (.inr (Int.le_refl _)), ap _⟩
    · exact ⟨not_rg (x := 0 - 1) (List.mem_append.mpr (.inl List.mem_cons_self)) (.inl (by decide)), by rw [List.length_append]; show 1 + _ ≤ _; omega⟩
    · exact ⟨not_rg (mem2 _) (.inr (by omega)), ap _⟩
  have len5 : ([F.reverse, F ++ [z], F ++ [n], [0 - 1] ++ F, F ++ [100000000000000000000000000000]] : List (List Int)).length = 5 := rfl
  have oth : ∀ m ∈ [0, 1, n + 1, 0 - n, 202, 400, 100000000000000000000000000000], ¬ RF m F := fun m hm f => by
    have := f.1.1
    have := f.1.2.1
    have := f.1.2.2
    have := s.2.2
    simp only [List.mem_cons, List.not_mem_nil, or_false] at hm
    omega
  refine ⟨sz (by show _ + 1 ≤ _; omega), sz (by show _ + 1 ≤ _; omega), sz (by show 1 + _ ≤ _; omega), p29, sz (by show _ + 1 ≤ _; omega), ?_⟩
  generalize ([F.reverse, F ++ [z], F ++ [n], [0 - 1] ++ F, F ++ [100000000000000000000000000000]] : List (List Int)) = M at all len5 ⊢
  refine eq1 ⟨sz (by omega), wlc_filter (fun R => !(ToD.toD K R).eqv (ToD.toD K F)) (fun R => R) _ _ (fun R hR k hk => ⟨⟨shaped_of (n := 1) (okd_ints (by have := (all R hR).2; omega)) (by decide), shaped_of (n := 1) (okd_ints (by omega)) (by decide)⟩, hk⟩) (fun _ _ _ k hk => hk) (eq1 ?_)⟩
  rw [List.nil_append, List.map_id']
  have ml : (M.filter fun R => !(ToD.toD K R).eqv (ToD.toD K F)).length ≤ 5 := by rw [← len5]; exact List.length_filter_le _ _
  have all2 : ∀ R ∈ M.filter fun R => !(ToD.toD K R).eqv (ToD.toD K F), ¬ RF n R ∧ R.length ≤ 4000 := fun R hR => all R (List.mem_filter.mp hR).1
  generalize (M.filter fun R => !(ToD.toD K R).eqv (ToD.toD K F)) = M2 at ml all2 ⊢
  refine ⟨sz (by omega), wlc_filter (fun _ => false) (fun R => R) _ _ (fun R hR k hk => ?_) (fun _ _ z => nomatch z) ?_⟩
  · obtain ⟨h1, h2⟩ := all2 R hR
    refine ring_is h2 _ fun b hb => ite_t (fun z => absurd (hb.mp z) h1) fun _ => no_places_ok h2 h1 _ hk
  rw [show M2.filter (fun _ => false) = [] from List.filter_eq_nil_iff.mpr fun _ _ => by simp]
  refine ⟨⟨rfl, rfl⟩, ite_t (fun z => nomatch z) fun _ => ?_⟩
  delta cb__law_none_right_1
  walk_at "dl"
  rw [e29]
  refine ⟨p29, eq1 ⟨by show 7 ≤ sizeLine; decide, wlc_filter (fun _ => false) (fun R => R) _ _ (fun m hm k hk => ?_) (fun _ _ z => nomatch z) ?_⟩⟩
  · exact ring_is (by show F.length ≤ _; omega) _ fun b hb => ite_t (fun z => absurd (hb.mp z) (oth m hm)) fun _ => no_places_ok (by show F.length ≤ _; omega) (oth m hm) _ hk
  · rw [show ([0, 1, n + 1, 0 - n, 202, 400, 100000000000000000000000000000] : List Int).filter (fun _ => false) = [] from List.filter_eq_nil_iff.mpr fun _ _ => by simp]
    exact ⟨⟨rfl, rfl⟩, hQ⟩
theorem right_ok (Q : Bool → Prop) (hQ : Q true) : w__law_right K ((), ()) Q := by
  unfold w__law_right
  delta cd__law_right
  walk_at "dl"
  refine size_ok _ fun n s => eq1 (closed_ok s _ fun F r => eq1 (eq1 ?_))
  have n1 := s.1
  have n2 := s.2.1
  have fl := r.len (by omega)
  refine ladle_ok (by omega) (by omega) fun k k0 k1 => eq1 ⟨sz (by show _ + 1 ≤ _; omega), by rw [List.length_append]; show _ + 1 < _; omega, fun ys up mem => ⟨sz (by omega), ?_⟩⟩
  have ry : Rw1 n ys := ⟨up, fun x hx => by
    rcases List.mem_append.mp ((mem x).mp hx) with h | h
    · exact r.rg x h
    · rw [List.mem_singleton.mp h]
      exact ⟨k0, k1⟩⟩
  refine wlc_filter (fun x => !decide (x = k)) (fun x => x) _ _ (fun _ _ _ hk => hk) (fun _ _ _ _ hk => hk) ?_
  rw [List.nil_append, List.map_id']
  have rf : Rw1 n (F.filter fun x => !decide (x = k)) := r.sub (List.filter_sublist)
  refine ⟨⟨by omega, by omega, by omega, by omega, by omega⟩, eq1 ⟨rg62 (by omega) (by omega), sz (by rw [rangeI_len]; omega), wlc_sub _ _ (fun c _ q hq => ladle_ok (by decide) (by decide) fun _ _ _ => hq _) fun zs ss => ⟨by show 4 < sizeLine; decide, ?_⟩⟩⟩
  rw [List.nil_append]
  have rz : Rw1 n zs := (rw_range (by omega)).sub ss
  have all : ∀ R ∈ [ys, F.filter fun x => !decide (x = k), F, rangeI 0 n.toNat] ++ [zs], Rw1 n R := fun R hR => by
    simp only [List.mem_append, List.mem_cons, List.not_mem_nil, or_false] at hR
    rcases hR with (rfl | rfl | rfl | rfl) | rfl
    · exact ry
    · exact rf
    · exact r
    · exact rw_range (by omega)
    · exact rz
  generalize ([ys, F.filter fun x => !decide (x = k), F, rangeI 0 n.toNat] ++ [zs] : List (List Int)) = M at all ⊢
  refine wfor_inv _ (fun i γ => γ = ((), n, F, F, k, M, (), (), ())) rfl ?_ ?_
  · rintro i R _ nx hR rfl hn
    exact judged_ok s (all R (List.mem_of_getElem? hR)) _ (ite_t (fun z => nomatch z) fun _ => hn _ rfl)
  · rintro _ rfl
    refine same_eq' (n := 1) (okd_ints (by show F.length ≤ _; omega)) (by decide) (ite_t (fun _ => hQ) fun z => ?_)
    have z := of_decide_eq_false z
    exact none_right_ok s r (by have z : ¬ (F.length : Int) < 2 := z; omega) _ hQ
end
theorem law_w (K : PySem.W.Frag) (ns : List Int) (hl : ns.length ≤ 63) (Q : Bool → Prop) (hQ : Q true) : w_law K (⟨ns, hl⟩, ()) Q := by
  unfold w_law
  delta cd_law
  walk_at "dl"
  have m := imin_is 4 (ns.length : Int)
  have m2 := imax_is 1 (imin 4 (ns.length : Int))
  refine ⟨rg62 (show -1000000000 ≤ imax 1 (imin 4 (ns.length : Int)) by omega) (show imax 1 (imin 4 (ns.length : Int)) < 1000000000 by omega), ?_⟩
  refine wfor_inv _ (fun i γ => γ = (⟨ns, hl⟩, (), (), (), ())) rfl ?_ ?_
  · rintro i x _ nx hx rfl hn
    obtain ⟨rfl, hi⟩ := rangeI_get hx
    have hi : i < (imax 1 (imin 4 (ns.length : Int))).toNat := hi
    refine crock_ok _ _ (by omega) (by omega) _ fun a b b0 b1 => ⟨crock_tk a b b0 b1, ladle_ok (by decide) (by decide) fun c c0 c1 => ⟨.inl (.inl ⟨by decide, by decide⟩), all_right_ok ⟨by omega, by omega, by omega⟩ (by omega) _ (ite_t (fun z => nomatch z) fun _ => ⟨rg62 (by decide) (by decide), ?_⟩)⟩⟩
    refine wfor_inv _ (fun j γ => γ = ((⟨ns, hl⟩ : Scr), (0 + (i : Int)), (), (), ())) rfl ?_ ?_
    · rintro j y _ nx2 _ rfl hn2
      exact right_ok _ (ite_t (fun z => nomatch z) fun _ => hn2 _ rfl)
    · rintro _ rfl
      exact hn _ rfl
  · rintro _ rfl
    exact hQ

theorem all_mk {l : PySem.W.OpenLaw} {w : World} {K : PySem.W.Frag} {h : Heap} {mg : Str → Option Value} {fa : Addr} (X : K.In h) (G : h.Ns mainGlobals mg) (hfa : mg "law" = some (.ref fa))
    {E_NoFolds : Addr}
    {E_NoCell : Addr}
    {E_NoList : Addr}
    {E_NoMark : Addr}
    {E_NoPlace : Addr}
    {E_NoPlan : Addr}
    {E_NoText : Addr}
    {E_NoWish : Addr}
    {E_TooMany : Addr}
    {E_Torn : Addr}
    {E_Whole : Addr}
    {f1 : Addr} {od1 an1 : Option Addr} {sl1 : Array (Option Value)} {oc1 kV1 dc1 pm1 cd1 ct1 : Value}
    {f2 : Addr} {od2 an2 : Option Addr} {sl2 : Array (Option Value)} {oc2 kV2 dc2 pm2 cd2 ct2 : Value}
    {f3 : Addr} {od3 an3 : Option Addr} {sl3 : Array (Option Value)} {oc3 kV3 dc3 pm3 cd3 ct3 : Value}
    {f4 : Addr} {od4 an4 : Option Addr} {sl4 : Array (Option Value)} {oc4 kV4 dc4 pm4 cd4 ct4 : Value}
    {f5 : Addr} {od5 an5 : Option Addr} {sl5 : Array (Option Value)} {oc5 kV5 dc5 pm5 cd5 ct5 : Value}
    {f6 : Addr} {od6 an6 : Option Addr} {sl6 : Array (Option Value)} {oc6 kV6 dc6 pm6 cd6 ct6 : Value}
    {f7 : Addr} {od7 an7 : Option Addr} {sl7 : Array (Option Value)} {oc7 kV7 dc7 pm7 cd7 ct7 : Value}
    {f8 : Addr} {od8 an8 : Option Addr} {sl8 : Array (Option Value)} {oc8 kV8 dc8 pm8 cd8 ct8 : Value}
    {f9 : Addr} {od9 an9 : Option Addr} {sl9 : Array (Option Value)} {oc9 kV9 dc9 pm9 cd9 ct9 : Value}
    {f10 : Addr} {od10 an10 : Option Addr} {sl10 : Array (Option Value)} {oc10 kV10 dc10 pm10 cd10 ct10 : Value}
    {f11 : Addr} {od11 an11 : Option Addr} {sl11 : Array (Option Value)} {oc11 kV11 dc11 pm11 cd11 ct11 : Value}
    {f12 : Addr} {od12 an12 : Option Addr} {sl12 : Array (Option Value)} {oc12 kV12 dc12 pm12 cd12 ct12 : Value}
    {f13 : Addr} {od13 an13 : Option Addr} {sl13 : Array (Option Value)} {oc13 kV13 dc13 pm13 cd13 ct13 : Value}
    {f14 : Addr} {od14 an14 : Option Addr} {sl14 : Array (Option Value)} {oc14 kV14 dc14 pm14 cd14 ct14 : Value}
    {f15 : Addr} {od15 an15 : Option Addr} {sl15 : Array (Option Value)} {oc15 kV15 dc15 pm15 cd15 ct15 : Value}
    {f16 : Addr} {od16 an16 : Option Addr} {sl16 : Array (Option Value)} {oc16 kV16 dc16 pm16 cd16 ct16 : Value}
    (aE_NoFolds : PySem.W.nsIn K mainGlobals "NoFolds" = some (some (.ref E_NoFolds)))
    (aE_NoCell : PySem.W.nsIn K mainGlobals "NoCell" = some (some (.ref E_NoCell)))
    (aE_NoList : PySem.W.nsIn K mainGlobals "NoList" = some (some (.ref E_NoList)))
    (aE_NoMark : PySem.W.nsIn K mainGlobals "NoMark" = some (some (.ref E_NoMark)))
    (aE_NoPlace : PySem.W.nsIn K mainGlobals "NoPlace" = some (some (.ref E_NoPlace)))
    (aE_NoPlan : PySem.W.nsIn K mainGlobals "NoPlan" = some (some (.ref E_NoPlan)))
    (aE_NoText : PySem.W.nsIn K mainGlobals "NoText" = some (some (.ref E_NoText)))
    (aE_NoWish : PySem.W.nsIn K mainGlobals "NoWish" = some (some (.ref E_NoWish)))
    (aE_TooMany : PySem.W.nsIn K mainGlobals "TooMany" = some (some (.ref E_TooMany)))
    (aE_Torn : PySem.W.nsIn K mainGlobals "Torn" = some (some (.ref E_Torn)))
    (aE_Whole : PySem.W.nsIn K mainGlobals "Whole" = some (some (.ref E_Whole)))
    (xE : PySem.W.excIn K E_NoFolds [.type "ValueError", .type "Exception", .type "BaseException", .type "object"] "ValueError.__new__" = true)
    (kE : PySem.W.keepIn K (.ref E_NoFolds) = true)
    (bE : PySem.W.subIn K (.ref E_NoFolds) (.type "BaseException") = some true)
    (tE : PySem.W.typeIn K (.ref E_NoFolds) = some (.type "type"))
    (oE : PySem.W.kitAny K (.ref E_NoFolds) [.ref E_NoCell, .ref E_NoList, .ref E_NoMark, .ref E_NoPlace, .ref E_NoPlan, .ref E_NoText, .ref E_NoWish, .ref E_TooMany, .ref E_Torn, .ref E_Whole] = some false)
    (vE : PySem.W.kitOne K (.ref E_NoFolds) (.type "ValueError") = some true)
    (uE : PySem.W.kitOne K (.ref E_NoFolds) (.ref E_NoFolds) = some true)
    (sE : PySem.W.subIn K (.ref E_NoFolds) (.ref E_NoFolds) = some true)
    (e1 : PySem.W.findIn K (.ref E_NoFolds) "__getattribute__" = some (some (.builtin "BaseException.__getattribute__")))
    (e2 : PySem.W.findIn K (.ref E_NoFolds) "__getattr__" = some none)
    (e4 : PySem.W.hasDictIn K E_NoFolds = true)
    (e5 : PySem.W.findIn K (.ref E_NoFolds) "__class__" = some (some (.builtin "object.__class__")))
    (e6 : PySem.W.specialIn K (.builtin "object.__class__") "__get__" = some (some (.builtin "getset_descriptor.__get__")))
    (e7 : PySem.W.takesIn K (.builtin "object.__class__") = some true)
    (e8 : PySem.W.mroIn K E_NoFolds (.type "object") = some true)
    (bE_NoList : PySem.W.subIn K (.ref E_NoList) (.type "BaseException") = some true)
    (dE_NoList : PySem.W.hasDictIn K E_NoList = true)
    (tE_NoList : PySem.W.typeIn K (.ref E_NoList) = some (.type "type"))
    (sE_NoList : PySem.W.subIn K (.ref E_NoFolds) (.ref E_NoList) = some false)
    (bE_NoWish : PySem.W.subIn K (.ref E_NoWish) (.type "BaseException") = some true)
    (dE_NoWish : PySem.W.hasDictIn K E_NoWish = true)
    (tE_NoWish : PySem.W.typeIn K (.ref E_NoWish) = some (.type "type"))
    (sE_NoWish : PySem.W.subIn K (.ref E_NoFolds) (.ref E_NoWish) = some false)
    (bE_NoPlace : PySem.W.subIn K (.ref E_NoPlace) (.type "BaseException") = some true)
    (dE_NoPlace : PySem.W.hasDictIn K E_NoPlace = true)
    (tE_NoPlace : PySem.W.typeIn K (.ref E_NoPlace) = some (.type "type"))
    (sE_NoPlace : PySem.W.subIn K (.ref E_NoFolds) (.ref E_NoPlace) = some false)
    (bE_NoCell : PySem.W.subIn K (.ref E_NoCell) (.type "BaseException") = some true)
    (dE_NoCell : PySem.W.hasDictIn K E_NoCell = true)
    (tE_NoCell : PySem.W.typeIn K (.ref E_NoCell) = some (.type "type"))
    (sE_NoCell : PySem.W.subIn K (.ref E_NoFolds) (.ref E_NoCell) = some false)
    (bE_NoText : PySem.W.subIn K (.ref E_NoText) (.type "BaseException") = some true)
    (dE_NoText : PySem.W.hasDictIn K E_NoText = true)
    (tE_NoText : PySem.W.typeIn K (.ref E_NoText) = some (.type "type"))
    (sE_NoText : PySem.W.subIn K (.ref E_NoFolds) (.ref E_NoText) = some false)
    (a1 : PySem.W.nsIn K mainGlobals "_law_ladle" = some (some (.ref f1))) (l1 : K.lookup f1 = some ⟨oc1, od1, .func (PySem.W.fnOf "_law_ladle" "_law_ladle" (defArgs s__law_ladle) (defBody s__law_ladle) (defScope s__law_ladle) .none kV1 dc1 pm1 an1 cd1 ct1), sl1⟩) (c1 : PySem.W.codeIn K cd1 "_law_ladle" = true) (k1 : PySem.W.keepIn K (.ref f1) = true)
    (a2 : PySem.W.nsIn K mainGlobals "_law_crock" = some (some (.ref f2))) (l2 : K.lookup f2 = some ⟨oc2, od2, .func (PySem.W.fnOf "_law_crock" "_law_crock" (defArgs s__law_crock) (defBody s__law_crock) (defScope s__law_crock) .none kV2 dc2 pm2 an2 cd2 ct2), sl2⟩) (c2 : PySem.W.codeIn K cd2 "_law_crock" = true) (k2 : PySem.W.keepIn K (.ref f2) = true)
    (a3 : PySem.W.nsIn K mainGlobals "_law_walked" = some (some (.ref f3))) (l3 : K.lookup f3 = some ⟨oc3, od3, .func (PySem.W.fnOf "_law_walked" "_law_walked" (defArgs s__law_walked) (defBody s__law_walked) (defScope s__law_walked) .none kV3 dc3 pm3 an3 cd3 ct3), sl3⟩) (c3 : PySem.W.codeIn K cd3 "_law_walked" = true) (k3 : PySem.W.keepIn K (.ref f3) = true)
    (a4 : PySem.W.nsIn K mainGlobals "laid" = some (some (.ref f4))) (l4 : K.lookup f4 = some ⟨oc4, od4, .func (PySem.W.fnOf "laid" "laid" (defArgs s_laid) (defBody s_laid) (defScope s_laid) .none kV4 dc4 pm4 an4 cd4 ct4), sl4⟩) (c4 : PySem.W.codeIn K cd4 "laid" = true) (k4 : PySem.W.keepIn K (.ref f4) = true)
    (a5 : PySem.W.nsIn K mainGlobals "is_size" = some (some (.ref f5))) (l5 : K.lookup f5 = some ⟨oc5, od5, .func (PySem.W.fnOf "is_size" "is_size" (defArgs s_is_size) (defBody s_is_size) (defScope s_is_size) .none kV5 dc5 pm5 an5 cd5 ct5), sl5⟩) (c5 : PySem.W.codeIn K cd5 "is_size" = true) (k5 : PySem.W.keepIn K (.ref f5) = true)
    (a6 : PySem.W.nsIn K mainGlobals "is_rising" = some (some (.ref f6))) (l6 : K.lookup f6 = some ⟨oc6, od6, .func (PySem.W.fnOf "is_rising" "is_rising" (defArgs s_is_rising) (defBody s_is_rising) (defScope s_is_rising) .none kV6 dc6 pm6 an6 cd6 ct6), sl6⟩) (c6 : PySem.W.codeIn K cd6 "is_rising" = true) (k6 : PySem.W.keepIn K (.ref f6) = true)
    (a7 : PySem.W.nsIn K mainGlobals "is_ring_folding" = some (some (.ref f7))) (l7 : K.lookup f7 = some ⟨oc7, od7, .func (PySem.W.fnOf "is_ring_folding" "is_ring_folding" (defArgs s_is_ring_folding) (defBody s_is_ring_folding) (defScope s_is_ring_folding) .none kV7 dc7 pm7 an7 cd7 ct7), sl7⟩) (c7 : PySem.W.codeIn K cd7 "is_ring_folding" = true) (k7 : PySem.W.keepIn K (.ref f7) = true)
    (a8 : PySem.W.nsIn K mainGlobals "ring_places" = some (some (.ref f8))) (l8 : K.lookup f8 = some ⟨oc8, od8, .func (PySem.W.fnOf "ring_places" "ring_places" (defArgs s_ring_places) (defBody s_ring_places) (defScope s_ring_places) .none kV8 dc8 pm8 an8 cd8 ct8), sl8⟩) (c8 : PySem.W.codeIn K cd8 "ring_places" = true) (k8 : PySem.W.keepIn K (.ref f8) = true)
    (a9 : PySem.W.nsIn K mainGlobals "_law_no_places" = some (some (.ref f9))) (l9 : K.lookup f9 = some ⟨oc9, od9, .func (PySem.W.fnOf "_law_no_places" "_law_no_places" (defArgs s__law_no_places) (defBody s__law_no_places) (defScope s__law_no_places) .none kV9 dc9 pm9 an9 cd9 ct9), sl9⟩) (c9 : PySem.W.codeIn K cd9 "_law_no_places" = true) (k9 : PySem.W.keepIn K (.ref f9) = true)
    (a10 : PySem.W.nsIn K mainGlobals "_law_judged" = some (some (.ref f10))) (l10 : K.lookup f10 = some ⟨oc10, od10, .func (PySem.W.fnOf "_law_judged" "_law_judged" (defArgs s__law_judged) (defBody s__law_judged) (defScope s__law_judged) .none kV10 dc10 pm10 an10 cd10 ct10), sl10⟩) (c10 : PySem.W.codeIn K cd10 "_law_judged" = true) (k10 : PySem.W.keepIn K (.ref f10) = true)
    (a11 : PySem.W.nsIn K mainGlobals "_law_all_right" = some (some (.ref f11))) (l11 : K.lookup f11 = some ⟨oc11, od11, .func (PySem.W.fnOf "_law_all_right" "_law_all_right" (defArgs s__law_all_right) (defBody s__law_all_right) (defScope s__law_all_right) .none kV11 dc11 pm11 an11 cd11 ct11), sl11⟩) (c11 : PySem.W.codeIn K cd11 "_law_all_right" = true) (k11 : PySem.W.keepIn K (.ref f11) = true)
    (a12 : PySem.W.nsIn K mainGlobals "_law_size" = some (some (.ref f12))) (l12 : K.lookup f12 = some ⟨oc12, od12, .func (PySem.W.fnOf "_law_size" "_law_size" (defArgs s__law_size) (defBody s__law_size) (defScope s__law_size) .none kV12 dc12 pm12 an12 cd12 ct12), sl12⟩) (c12 : PySem.W.codeIn K cd12 "_law_size" = true) (k12 : PySem.W.keepIn K (.ref f12) = true)
    (a13 : PySem.W.nsIn K mainGlobals "_law_closed" = some (some (.ref f13))) (l13 : K.lookup f13 = some ⟨oc13, od13, .func (PySem.W.fnOf "_law_closed" "_law_closed" (defArgs s__law_closed) (defBody s__law_closed) (defScope s__law_closed) .none kV13 dc13 pm13 an13 cd13 ct13), sl13⟩) (c13 : PySem.W.codeIn K cd13 "_law_closed" = true) (k13 : PySem.W.keepIn K (.ref f13) = true)
    (a14 : PySem.W.nsIn K mainGlobals "_law_none_right" = some (some (.ref f14))) (l14 : K.lookup f14 = some ⟨oc14, od14, .func (PySem.W.fnOf "_law_none_right" "_law_none_right" (defArgs s__law_none_right) (defBody s__law_none_right) (defScope s__law_none_right) .none kV14 dc14 pm14 an14 cd14 ct14), sl14⟩) (c14 : PySem.W.codeIn K cd14 "_law_none_right" = true) (k14 : PySem.W.keepIn K (.ref f14) = true)
    (a15 : PySem.W.nsIn K mainGlobals "_law_right" = some (some (.ref f15))) (l15 : K.lookup f15 = some ⟨oc15, od15, .func (PySem.W.fnOf "_law_right" "_law_right" (defArgs s__law_right) (defBody s__law_right) (defScope s__law_right) .none kV15 dc15 pm15 an15 cd15 ct15), sl15⟩) (c15 : PySem.W.codeIn K cd15 "_law_right" = true) (k15 : PySem.W.keepIn K (.ref f15) = true)
    (a16 : PySem.W.nsIn K mainGlobals "law" = some (some (.ref f16))) (l16 : K.lookup f16 = some ⟨oc16, od16, .func (PySem.W.fnOf "law" "law" (defArgs s_law) (defBody s_law) (defScope s_law) .none kV16 dc16 pm16 an16 cd16 ct16), sl16⟩) (c16 : PySem.W.codeIn K cd16 "law" = true) (k16 : PySem.W.keepIn K (.ref f16) = true)
    (z_ValueError : PySem.W.nsIn K mainGlobals "ValueError" = some none)
    (z_abs : PySem.W.nsIn K mainGlobals "abs" = some none)
    (z_all : PySem.W.nsIn K mainGlobals "all" = some none)
    (z_bool : PySem.W.nsIn K mainGlobals "bool" = some none)
    (z_int : PySem.W.nsIn K mainGlobals "int" = some none)
    (z_isinstance : PySem.W.nsIn K mainGlobals "isinstance" = some none)
    (z_len : PySem.W.nsIn K mainGlobals "len" = some none)
    (z_list : PySem.W.nsIn K mainGlobals "list" = some none)
    (z_max : PySem.W.nsIn K mainGlobals "max" = some none)
    (z_min : PySem.W.nsIn K mainGlobals "min" = some none)
    (z_range : PySem.W.nsIn K mainGlobals "range" = some none)
    (z_repr : PySem.W.nsIn K mainGlobals "repr" = some none)
    (z_set : PySem.W.nsIn K mainGlobals "set" = some none)
    (z_sorted : PySem.W.nsIn K mainGlobals "sorted" = some none)
    (z_zip : PySem.W.nsIn K mainGlobals "zip" = some none)
    {t_MOST_CELLS : Tok} (q_MOST_CELLS : PySem.W.nsIn K mainGlobals "MOST_CELLS" = some (some (.int 200 t_MOST_CELLS))) :
    ∃ fd : FuncData, (∀ (s : Shared) (v : Value), BindsTo s fd ⟨[v], []⟩ [("script", v)]) ∧ ∀ base : Heap, K.In base → base.Ns mainGlobals mg → FnG l.prog w K mg base 7 fa fd ["script"] (sp_law K) := by
  have e := hfa.symm.trans (PySem.W.mg_of X G a16)
  cases e
  let Y : Fx K mg := { a__law_ladle := f1, d__law_ladle := _, F__law_ladle := fun_mk (st := s__law_ladle) l1 c1 k1, B__law_ladle := (fun_mk (st := s__law_ladle) l1 c1 k1).binds (ps := ["crock", "wide"]) fun _ _ _ _ _ _ us hl => (match us, hl with | [_, _], _ => rfl), g__law_ladle := PySem.W.mg_of X G a1, a__law_crock := f2, d__law_crock := _, F__law_crock := fun_mk (st := s__law_crock) l2 c2 k2, B__law_crock := (fun_mk (st := s__law_crock) l2 c2 k2).binds (ps := ["script", "k"]) fun _ _ _ _ _ _ us hl => (match us, hl with | [_, _], _ => rfl), g__law_crock := PySem.W.mg_of X G a2, a__law_walked := f3, d__law_walked := _, F__law_walked := fun_mk (st := s__law_walked) l3 c3 k3, B__law_walked := (fun_mk (st := s__law_walked) l3 c3 k3).binds (ps := ["size", "bends"]) fun _ _ _ _ _ _ us hl => (match us, hl with | [_, _], _ => rfl), g__law_walked := PySem.W.mg_of X G a3, a_laid := f4, d_laid := _, F_laid := fun_mk (st := s_laid) l4 c4 k4, B_laid := (fun_mk (st := s_laid) l4 c4 k4).binds (ps := ["many", "folds"]) fun _ _ _ _ _ _ us hl => (match us, hl with | [_, _], _ => rfl), g_laid := PySem.W.mg_of X G a4, a_is_size := f5, d_is_size := _, F_is_size := fun_mk (st := s_is_size) l5 c5 k5, B_is_size := (fun_mk (st := s_is_size) l5 c5 k5).binds (ps := ["many"]) fun _ _ _ _ _ _ us hl => (match us, hl with | [_], _ => rfl), g_is_size := PySem.W.mg_of X G a5, a_is_rising := f6, d_is_rising := _, F_is_rising := fun_mk (st := s_is_rising) l6 c6 k6, B_is_rising := (fun_mk (st := s_is_rising) l6 c6 k6).binds (ps := ["numbers", "many"]) fun _ _ _ _ _ _ us hl => (match us, hl with | [_, _], _ => rfl), g_is_rising := PySem.W.mg_of X G a6, a_is_ring_folding := f7, d_is_ring_folding := _, F_is_ring_folding := fun_mk (st := s_is_ring_folding) l7 c7 k7, B_is_ring_folding := (fun_mk (st := s_is_ring_folding) l7 c7 k7).binds (ps := ["many", "folds"]) fun _ _ _ _ _ _ us hl => (match us, hl with | [_, _], _ => rfl), g_is_ring_folding := PySem.W.mg_of X G a7, a_ring_places := f8, d_ring_places := _, F_ring_places := fun_mk (st := s_ring_places) l8 c8 k8, B_ring_places := (fun_mk (st := s_ring_places) l8 c8 k8).binds (ps := ["many", "folds"]) fun _ _ _ _ _ _ us hl => (match us, hl with | [_, _], _ => rfl), g_ring_places := PySem.W.mg_of X G a8, a__law_no_places := f9, d__law_no_places := _, F__law_no_places := fun_mk (st := s__law_no_places) l9 c9 k9, B__law_no_places := (fun_mk (st := s__law_no_places) l9 c9 k9).binds (ps := ["size", "bends"]) fun _ _ _ _ _ _ us hl => (match us, hl with | [_, _], _ => rfl), g__law_no_places := PySem.W.mg_of X G a9, a__law_judged := f10, d__law_judged := _, F__law_judged := fun_mk (st := s__law_judged) l10 c10 k10, B__law_judged := (fun_mk (st := s__law_judged) l10 c10 k10).binds (ps := ["size", "bends"]) fun _ _ _ _ _ _ us hl => (match us, hl with | [_, _], _ => rfl), g__law_judged := PySem.W.mg_of X G a10, a__law_all_right := f11, d__law_all_right := _, F__law_all_right := fun_mk (st := s__law_all_right) l11 c11 k11, B__law_all_right := (fun_mk (st := s__law_all_right) l11 c11 k11).binds (ps := ["size"]) fun _ _ _ _ _ _ us hl => (match us, hl with | [_], _ => rfl), g__law_all_right := PySem.W.mg_of X G a11, a__law_size := f12, d__law_size := _, F__law_size := fun_mk (st := s__law_size) l12 c12 k12, B__law_size := (fun_mk (st := s__law_size) l12 c12 k12).binds (ps := ["crock"]) fun _ _ _ _ _ _ us hl => (match us, hl with | [_], _ => rfl), g__law_size := PySem.W.mg_of X G a12, a__law_closed := f13, d__law_closed := _, F__law_closed := fun_mk (st := s__law_closed) l13 c13 k13, B__law_closed := (fun_mk (st := s__law_closed) l13 c13 k13).binds (ps := ["crock", "size"]) fun _ _ _ _ _ _ us hl => (match us, hl with | [_, _], _ => rfl), g__law_closed := PySem.W.mg_of X G a13, a__law_none_right := f14, d__law_none_right := _, F__law_none_right := fun_mk (st := s__law_none_right) l14 c14 k14, B__law_none_right := (fun_mk (st := s__law_none_right) l14 c14 k14).binds (ps := ["size", "bends"]) fun _ _ _ _ _ _ us hl => (match us, hl with | [_, _], _ => rfl), g__law_none_right := PySem.W.mg_of X G a14, a__law_right := f15, d__law_right := _, F__law_right := fun_mk (st := s__law_right) l15 c15 k15, B__law_right := (fun_mk (st := s__law_right) l15 c15 k15).binds (ps := ["crock"]) fun _ _ _ _ _ _ us hl => (match us, hl with | [_], _ => rfl), g__law_right := PySem.W.mg_of X G a15, a_law := fa, d_law := _, F_law := fun_mk (st := s_law) l16 c16 k16, B_law := (fun_mk (st := s_law) l16 c16 k16).binds (ps := ["script"]) fun _ _ _ _ _ _ us hl => (match us, hl with | [_], _ => rfl), g_law := PySem.W.mg_of X G a16, kw_is_ring_folding_0_folds_many := kbn_of (fun_mk (st := s_is_ring_folding) l7 c7 k7) (ps := ["many", "folds"]) 0 ["folds", "many"] (fun us ws => pick (us ++ ws) [1, 0]) (fun r q => pick_rel (r.append q) _) (fun _ _ _ _ _ _ us ws h1 h2 => (match us, ws, h1, h2 with | [], [_, _], _, _ => rfl)), kw_ring_places_0_folds_many := kbn_of (fun_mk (st := s_ring_places) l8 c8 k8) (ps := ["many", "folds"]) 0 ["folds", "many"] (fun us ws => pick (us ++ ws) [1, 0]) (fun r q => pick_rel (r.append q) _) (fun _ _ _ _ _ _ us ws h1 h2 => (match us, ws, h1, h2 with | [], [_, _], _, _ => rfl)), Y := ⟨E_NoFolds, PySem.W.mg_of X G aE_NoFolds, xE, kE, bE, tE⟩, Z := ⟨E_NoCell, PySem.W.mg_of X G aE_NoCell, E_NoList, PySem.W.mg_of X G aE_NoList, E_NoMark, PySem.W.mg_of X G aE_NoMark, E_NoPlace, PySem.W.mg_of X G aE_NoPlace, E_NoPlan, PySem.W.mg_of X G aE_NoPlan, E_NoText, PySem.W.mg_of X G aE_NoText, E_NoWish, PySem.W.mg_of X G aE_NoWish, E_TooMany, PySem.W.mg_of X G aE_TooMany, E_Torn, PySem.W.mg_of X G aE_Torn, E_Whole, PySem.W.mg_of X G aE_Whole, oE, uE, vE, PySem.W.exm_ref bE e4 tE sE, ⟨e1, e2, bE, e4, e5, e6, e7, e8⟩, (exm_cons (PySem.W.exm_ref bE e4 tE sE) (exm_cons (PySem.W.exm_ref bE_NoList dE_NoList tE_NoList sE_NoList) (exm_cons (PySem.W.exm_ref bE_NoWish dE_NoWish tE_NoWish sE_NoWish) (exm_cons (PySem.W.exm_ref bE_NoPlace dE_NoPlace tE_NoPlace sE_NoPlace) (exm_cons (PySem.W.exm_ref bE_NoCell dE_NoCell tE_NoCell sE_NoCell) (exm_cons (PySem.W.exm_ref bE_NoText dE_NoText tE_NoText sE_NoText) exm_nil))))))⟩, b_ValueError := PySem.W.mg_none_of X G z_ValueError, b_abs := PySem.W.mg_none_of X G z_abs, b_all := PySem.W.mg_none_of X G z_all, b_bool := PySem.W.mg_none_of X G z_bool, b_int := PySem.W.mg_none_of X G z_int, b_isinstance := PySem.W.mg_none_of X G z_isinstance, b_len := PySem.W.mg_none_of X G z_len, b_list := PySem.W.mg_none_of X G z_list, b_max := PySem.W.mg_none_of X G z_max, b_min := PySem.W.mg_none_of X G z_min, b_range := PySem.W.mg_none_of X G z_range, b_repr := PySem.W.mg_none_of X G z_repr, b_set := PySem.W.mg_none_of X G z_set, b_sorted := PySem.W.mg_none_of X G z_sorted, b_zip := PySem.W.mg_none_of X G z_zip, c_MOST_CELLS := ⟨_, PySem.W.mg_of X G q_MOST_CELLS⟩ }
  exact ⟨Y.d_law, fun s v => .of_eq rfl, fun base _ _ => ok_law Y⟩
theorem law_c0 : (cd_law []).c ≤ P.B := by decide +kernel
theorem law_ck (K : PySem.W.Frag) : (cd_law K).c = (cd_law []).c := by kernel_rfl
theorem law_c (K : PySem.W.Frag) : (cd_law K).c ≤ P.B := by
  rw [law_ck K]
  exact law_c0
end Lk71
open PySem PySem.W PyProof.Rows
set_option maxHeartbeats 0 in
theorem PySem.Challenge.cw_pleatpunch_k71_ring_foldings_holds : PySem.Challenge.rw_pleatpunch_k71_ring_foldings.Holds := by
  w_on; o_law; k_head; (case hw => w_witness2)
  k_fill
  refine DL.walk_ofG (l := PySem.Challenge.rw_pleatpunch_k71_ring_foldings) (n := 63) (k := 7) (x := "script") (sp := Lk71.sp_law) rfl (by decide) rfl ⟨⟨rfl, by decide, by decide⟩, rfl⟩ (fun w h Y => PySem.W.kIn_of Y) ?F (fun _ H a ns hl hS => DL.law_end (Lk71.law_c _) a ns hl H hS fun Q hQ => Lk71.law_w _ ns hl Q hQ)
  case F =>
    intro w mg fa h KX G hmg
    refine' Lk71.all_mk KX G hmg ?aE_NoFolds ?aE_NoCell ?aE_NoList ?aE_NoMark ?aE_NoPlace ?aE_NoPlan ?aE_NoText ?aE_NoWish ?aE_TooMany ?aE_Torn ?aE_Whole ?xE ?kE ?bE ?tE ?oE ?vE ?uE ?sE ?e1 ?e2 ?e4 ?e5 ?e6 ?e7 ?e8 ?bE_NoList ?dE_NoList ?tE_NoList ?sE_NoList ?bE_NoWish ?dE_NoWish ?tE_NoWish ?sE_NoWish ?bE_NoPlace ?dE_NoPlace ?tE_NoPlace ?sE_NoPlace ?bE_NoCell ?dE_NoCell ?tE_NoCell ?sE_NoCell ?bE_NoText ?dE_NoText ?tE_NoText ?sE_NoText ?a1 ?l1 ?c1 ?k1 ?a2 ?l2 ?c2 ?k2 ?a3 ?l3 ?c3 ?k3 ?a4 ?l4 ?c4 ?k4 ?a5 ?l5 ?c5 ?k5 ?a6 ?l6 ?c6 ?k6 ?a7 ?l7 ?c7 ?k7 ?a8 ?l8 ?c8 ?k8 ?a9 ?l9 ?c9 ?k9 ?a10 ?l10 ?c10 ?k10 ?a11 ?l11 ?c11 ?k11 ?a12 ?l12 ?c12 ?k12 ?a13 ?l13 ?c13 ?k13 ?a14 ?l14 ?c14 ?k14 ?a15 ?l15 ?c15 ?k15 ?a16 ?l16 ?c16 ?k16 ?z_ValueError ?z_abs ?z_all ?z_bool ?z_int ?z_isinstance ?z_len ?z_list ?z_max ?z_min ?z_range ?z_repr ?z_set ?z_sorted ?z_zip ?q_MOST_CELLS
    (case aE_NoFolds => k_is); (case aE_NoCell => k_is); (case aE_NoList => k_is); (case aE_NoMark => k_is); (case aE_NoPlace => k_is); (case aE_NoPlan => k_is); (case aE_NoText => k_is); (case aE_NoWish => k_is); (case aE_TooMany => k_is); (case aE_Torn => k_is); (case aE_Whole => k_is); (case xE => first | k_exc | k_is); (case kE => k_is); (case bE => k_is); (case tE => k_is); (case oE => first | k_is | kit_is); (case vE => first | k_is | kit_is); (case uE => first | k_is | kit_is); (case sE => k_is); (case e1 => k_is); (case e2 => k_is); (case e4 => k_is); (case e5 => k_is); (case e6 => k_is); (case e7 => k_is); (case e8 => k_is); (case bE_NoList => k_is); (case dE_NoList => k_is); (case tE_NoList => k_is); (case sE_NoList => k_is); (case bE_NoWish => k_is); (case dE_NoWish => k_is); (case tE_NoWish => k_is); (case sE_NoWish => k_is); (case bE_NoPlace => k_is); (case dE_NoPlace => k_is); (case tE_NoPlace => k_is); (case sE_NoPlace => k_is); (case bE_NoCell => k_is); (case dE_NoCell => k_is); (case tE_NoCell => k_is); (case sE_NoCell => k_is); (case bE_NoText => k_is); (case dE_NoText => k_is); (case tE_NoText => k_is); (case sE_NoText => k_is); (case a1 => k_is); (case l1 => k_is); (case c1 => k_is); (case k1 => k_is); (case a2 => k_is); (case l2 => k_is); (case c2 => k_is); (case k2 => k_is); (case a3 => k_is); (case l3 => k_is); (case c3 => k_is); (case k3 => k_is); (case a4 => k_is); (case l4 => k_is); (case c4 => k_is); (case k4 => k_is); (case a5 => k_is); (case l5 => k_is); (case c5 => k_is); (case k5 => k_is); (case a6 => k_is); (case l6 => k_is); (case c6 => k_is); (case k6 => k_is); (case a7 => k_is); (case l7 => k_is); (case c7 => k_is); (case k7 => k_is); (case a8 => k_is); (case l8 => k_is); (case c8 => k_is); (case k8 => k_is); (case a9 => k_is); (case l9 => k_is); (case c9 => k_is); (case k9 => k_is); (case a10 => k_is); (case l10 => k_is); (case c10 => k_is); (case k10 => k_is); (case a11 => k_is); (case l11 => k_is); (case c11 => k_is); (case k11 => k_is); (case a12 => k_is); (case l12 => k_is); (case c12 => k_is); (case k12 => k_is); (case a13 => k_is); (case l13 => k_is); (case c13 => k_is); (case k13 => k_is); (case a14 => k_is); (case l14 => k_is); (case c14 => k_is); (case k14 => k_is); (case a15 => k_is); (case l15 => k_is); (case c15 => k_is); (case k15 => k_is); (case a16 => k_is); (case l16 => k_is); (case c16 => k_is); (case k16 => k_is); (case z_ValueError => k_is); (case z_abs => k_is); (case z_all => k_is); (case z_bool => k_is); (case z_int => k_is); (case z_isinstance => k_is); (case z_len => k_is); (case z_list => k_is); (case z_max => k_is); (case z_min => k_is); (case z_range => k_is); (case z_repr => k_is); (case z_set => k_is); (case z_sorted => k_is); (case z_zip => k_is); (case q_MOST_CELLS => k_is)
